import PyProof.Rows.All
import Wide.All
import OpenK.AllK
import Wide.FinOn
import HandS.ForMost
import HandS.IsInst
import HandS.Set
import HandS.SetFor
import HandS.Strs
import HandS.TupAny
import HandS.Conv
import HandS.TryOnly
import PySem.Challenge.RW_livesalike_k54_operators_of_spans
import PySem.Challenge.RW_livesalike_k54_operators_of_spans
set_option Elab.async false
set_option linter.all false
set_option autoImplicit false
set_option maxRecDepth 100000
/-! Data-level readings: an expression's reading told by a function, not everywhere defined, over slots of data. -/
namespace G
open PySem PySem.Spec L2

abbrev D := PyData
abbrev Frg := PySem.W.Frag
/-- the written part, and which of its tuples data may be -/
structure Kx where
  fr : Frg
  C : Addr → Prop
def noH : Hp := fun _ => none
theorem same_no (H : Hp) : Same noH H := fun a o h => by
  have h' : (none : Option HO) = some o := h
  cases h'

/-! ### data in an abstract heap -/
def keyD : Key → D
  | .inl i => .int i
  | .inr x => .str x
mutual
inductive Rep (K : Kx) (F : Hp) : D → V → Prop
  | non : Rep K F .none .non
  | bl (b : Bool) : Rep K F (.bool b) (.bl b)
  | int (i : Int) : Rep K F (.int i) (.int i)
  | str (x : Str) : Rep K F (.str x) (.str x)
  | lst {a : Addr} {vs : List V} {ds : List D} : SqL K.fr F a vs → Reps K F ds vs → Rep K F (.list ds) (.ref a)
  | tup {a : Addr} {vs : List V} {ds : List D} : F a = some (.tup vs) → Reps K F ds vs → Rep K F (.tuple ds) (.ref a)
  | tupK {a : Addr} {vs : List V} {ds : List D} : K.C a → SqT K.fr noH a vs → Reps K F ds vs → Rep K F (.tuple ds) (.ref a)
  | dK {a : Addr} {l : List (Key × V)} {kvs : List (D × D)} : Rd F a (.dK l) → RepK K F kvs l → Rep K F (.dict kvs) (.ref a)
  | dT {a : Addr} {l : List (List Key × V)} {kvs : List (D × D)} : Rd F a (.dT l) → RepT K F kvs l → Rep K F (.dict kvs) (.ref a)
inductive Reps (K : Kx) (F : Hp) : List D → List V → Prop
  | nil : Reps K F [] []
  | cons {d : D} {v : V} {ds : List D} {vs : List V} : Rep K F d v → Reps K F ds vs → Reps K F (d :: ds) (v :: vs)
inductive RepK (K : Kx) (F : Hp) : List (D × D) → List (Key × V) → Prop
  | nil : RepK K F [] []
  | cons {k : Key} {d : D} {v : V} {r : List (D × D)} {l : List (Key × V)} : Rep K F d v → RepK K F r l → RepK K F ((keyD k, d) :: r) ((k, v) :: l)
inductive RepT (K : Kx) (F : Hp) : List (D × D) → List (List Key × V) → Prop
  | nil : RepT K F [] []
  | cons {k : List Key} {d : D} {v : V} {r : List (D × D)} {l : List (List Key × V)} : Rep K F d v → RepT K F r l → RepT K F ((.tuple (k.map keyD), d) :: r) ((k, v) :: l)
end

theorem rd_same {F F' : Hp} {a : Addr} {u : HO} (e : Same F F') (h : Rd F a u) : Rd F' a u := by
  rcases h with h | ⟨o, h⟩
  · exact .inl (e _ _ h)
  · exact .inr ⟨o, e _ _ h⟩
theorem sqL_same {K : Frg} {F F' : Hp} {a : Addr} {xs : List V} (e : Same F F') (h : SqL K F a xs) : SqL K F' a xs := by
  rcases h with h | h
  · exact .inl (rd_same e h)
  · exact .inr h
theorem sqT_same {K : Frg} {F F' : Hp} {a : Addr} {xs : List V} (e : Same F F') (h : SqT K F a xs) : SqT K F' a xs := by
  rcases h with h | h
  · exact .inl (rd_same e h)
  · exact .inr h
mutual
theorem Rep.mono {K : Kx} {F F' : Hp} (e : Same F F') : ∀ {d : D} {v : V}, Rep K F d v → Rep K F' d v
  | _, _, .non => .non
  | _, _, .bl b => .bl b
  | _, _, .int i => .int i
  | _, _, .str x => .str x
  | _, _, .lst h r => .lst (sqL_same e h) (Reps.mono e r)
  | _, _, .tup h r => .tup (e _ _ h) (Reps.mono e r)
  | _, _, .tupK c h r => .tupK c h (Reps.mono e r)
  | _, _, .dK h r => .dK (rd_same e h) (RepK.mono e r)
  | _, _, .dT h r => .dT (rd_same e h) (RepT.mono e r)
theorem Reps.mono {K : Kx} {F F' : Hp} (e : Same F F') : ∀ {ds : List D} {vs : List V}, Reps K F ds vs → Reps K F' ds vs
  | _, _, .nil => .nil
  | _, _, .cons h r => .cons (Rep.mono e h) (Reps.mono e r)
theorem RepK.mono {K : Kx} {F F' : Hp} (e : Same F F') : ∀ {ds : List (D × D)} {vs : List (Key × V)}, RepK K F ds vs → RepK K F' ds vs
  | _, _, .nil => .nil
  | _, _, .cons h r => .cons (Rep.mono e h) (RepK.mono e r)
theorem RepT.mono {K : Kx} {F F' : Hp} (e : Same F F') : ∀ {ds : List (D × D)} {vs : List (List Key × V)}, RepT K F ds vs → RepT K F' ds vs
  | _, _, .nil => .nil
  | _, _, .cons h r => .cons (Rep.mono e h) (RepT.mono e r)
end

section
variable {K : Kx} {F : Hp}
theorem Reps.length : ∀ {ds : List D} {vs : List V}, Reps K F ds vs → ds.length = vs.length
  | _, _, .nil => rfl
  | _, _, .cons _ r => by rw [List.length_cons, List.length_cons, Reps.length r]
theorem Reps.get : ∀ {ds : List D} {vs : List V} {i : Nat} {d : D}, Reps K F ds vs → ds[i]? = some d → ∃ v, vs[i]? = some v ∧ Rep K F d v
  | _, _, i, d, .nil, h => by simp at h
  | _, _, 0, d, .cons h r, e => by
    have e' := Option.some.inj e
    subst e'
    exact ⟨_, rfl, h⟩
  | _, _, i + 1, d, .cons h r, e => Reps.get (i := i) r e
theorem Reps.app : ∀ {ds es : List D} {vs us : List V}, Reps K F ds vs → Reps K F es us → Reps K F (ds ++ es) (vs ++ us)
  | _, _, _, _, .nil, h => h
  | _, _, _, _, .cons h r, k => .cons h (Reps.app r k)
theorem Reps.snoc {ds : List D} {vs : List V} {d : D} {v : V} (h : Reps K F ds vs) (k : Rep K F d v) : Reps K F (ds ++ [d]) (vs ++ [v]) := h.app (.cons k .nil)
theorem Reps.take : ∀ {ds : List D} {vs : List V} (n : Nat), Reps K F ds vs → Reps K F (ds.take n) (vs.take n)
  | _, _, 0, _ => by rw [List.take_zero, List.take_zero]; exact .nil
  | _, _, _ + 1, .nil => .nil
  | _, _, n + 1, .cons h r => .cons h (Reps.take n r)
theorem Reps.drop : ∀ {ds : List D} {vs : List V} (n : Nat), Reps K F ds vs → Reps K F (ds.drop n) (vs.drop n)
  | _, _, 0, h => h
  | _, _, _ + 1, .nil => .nil
  | _, _, n + 1, .cons _ r => Reps.drop n r
theorem Reps.set : ∀ {ds : List D} {vs : List V} {d : D} {v : V} (i : Nat), Rep K F d v → Reps K F ds vs → Reps K F (ds.set i d) (vs.set i v)
  | _, _, _, _, _, _, .nil => .nil
  | _, _, _, _, 0, h, .cons _ r => .cons h r
  | _, _, _, _, i + 1, h, .cons k r => .cons k (Reps.set i h r)
theorem Reps.ints : ∀ {ns : List Int}, Reps K F (ns.map PyData.int) (ns.map V.int)
  | [] => .nil
  | n :: ns => .cons (.int n) Reps.ints
theorem Reps.ints_of : ∀ {ns : List Int} {vs : List V}, Reps K F (ns.map PyData.int) vs → vs = ns.map V.int
  | [], _, h => by cases h; rfl
  | n :: ns, _, h => by
    cases h with
    | cons h r =>
      cases h
      rw [Reps.ints_of r]
      rfl
theorem Reps.dropLast {ds : List D} {vs : List V} (h : Reps K F ds vs) : Reps K F ds.dropLast vs.dropLast := by
  rw [List.dropLast_eq_take, List.dropLast_eq_take, h.length]
  exact h.take _
theorem Reps.insert : ∀ {ds : List D} {vs : List V} {d : D} {v : V} (i : Nat), Rep K F d v → Reps K F ds vs → Reps K F (ds.take i ++ d :: ds.drop i) (vs.take i ++ v :: vs.drop i) := fun i h r => (r.take i).app (.cons h (r.drop i))
end

/-! ### how heaps grow: F what is frozen, H all -/
structure Ext (F H F' H' : Hp) : Prop where
  ff : Same F F'
  hh : Same H H'
  fh : Same F' H'
  gr : ∀ a o, F' a = some o → F a ≠ none ∨ H a = none ∨ ∃ xs, o = .tup xs
theorem Ext.refl {F H : Hp} (e : Same F H) : Ext F H F H := ⟨Same.refl _, Same.refl _, e, fun a o h => .inl (by rw [h]; exact fun z => nomatch z)⟩
theorem Ext.trans {F H F1 H1 F2 H2 : Hp} (a : Ext F H F1 H1) (b : Ext F1 H1 F2 H2) : Ext F H F2 H2 := by
  refine ⟨a.ff.trans b.ff, a.hh.trans b.hh, b.fh, fun x o h => ?_⟩
  rcases b.gr x o h with h1 | h1 | h1
  · cases e : F1 x with
    | none => exact absurd e h1
    | some u =>
      rcases a.gr x u e with z | z | ⟨xs, z⟩
      · exact .inl z
      · exact .inr (.inl z)
      · have := b.ff _ _ e
        rw [h] at this
        cases this
        exact .inr (.inr ⟨xs, z⟩)
  · exact .inr (.inl (a.hh.free h1))
  · exact .inr (.inr h1)
theorem same_new {H : Hp} {p : Addr} {o : HO} (h : H p = none) : Same H (upd H p o) := fun b x e => by
  rw [upd_ne (ne_of_none e h)]
  exact e
/-- a new object that is frozen at once -/
theorem Ext.new {F H : Hp} {p : Addr} {o : HO} (e : Same F H) (h : H p = none) : Ext F H (upd F p o) (upd H p o) := by
  have hF := e.free h
  refine ⟨same_new hF, same_new h, fun b x q => ?_, fun a x q => ?_⟩
  · by_cases z : b = p
    · subst z
      rw [upd_same] at q ⊢
      exact q
    · rw [upd_ne z] at q ⊢
      exact e _ _ q
  · by_cases z : a = p
    · subst z
      exact .inr (.inl h)
    · rw [upd_ne z] at q
      exact .inl (by rw [q]; exact fun w => nomatch w)
/-- a new object that is not frozen -/
theorem Ext.fresh {F H : Hp} {p : Addr} {o : HO} (e : Same F H) (h : H p = none) : Ext F H F (upd H p o) :=
  ⟨Same.refl _, same_new h, fun b x q => same_new h _ _ (e _ _ q), fun a x q => .inl (by rw [q]; exact fun w => nomatch w)⟩
/-- a heap that grew -/
theorem Ext.more {F H H' : Hp} (e : Same F H) (h : Same H H') : Ext F H F H' := ⟨Same.refl _, h, e.trans h, fun a x q => .inl (by rw [q]; exact fun w => nomatch w)⟩
/-- a tuple that stands is taken up -/
theorem Ext.tup {F H : Hp} {p : Addr} {xs : List V} (e : Same F H) (h : H p = some (.tup xs)) : Ext F H (fun a => if a = p then some (.tup xs) else F a) H := by
  refine ⟨fun b x q => ?_, Same.refl _, fun b x q => ?_, fun a x q => ?_⟩
  · by_cases z : b = p
    · subst z
      have := e _ _ q
      rw [h] at this
      show (if b = b then some (HO.tup xs) else F b) = some x
      rw [if_pos rfl]
      exact this
    · show (if b = p then some (HO.tup xs) else F b) = some x
      rw [if_neg z]
      exact q
  · have q' : (if b = p then some (HO.tup xs) else F b) = some x := q
    by_cases z : b = p
    · subst z
      rw [if_pos rfl] at q'
      rw [h]
      exact q'
    · rw [if_neg z] at q'
      exact e _ _ q'
  · have q' : (if a = p then some (HO.tup xs) else F a) = some x := q
    by_cases z : a = p
    · subst z
      rw [if_pos rfl] at q'
      exact .inr (.inr ⟨xs, (Option.some.inj q').symm⟩)
    · rw [if_neg z] at q'
      exact .inl (by rw [q']; exact fun w => nomatch w)

/-! ### own objects: one that no other datum holds -/
inductive Own (K : Kx) (F H : Hp) : D → V → Prop
  | lst {p : Addr} {vs : List V} {ds : List D} : H p = some (.lst vs) → Reps K F ds vs → Own K F H (.list ds) (.ref p)
  | dK {p : Addr} {l : List (Key × V)} {kvs : List (D × D)} : H p = some (.dK l) → RepK K F kvs l → Own K F H (.dict kvs) (.ref p)
  | dT {p : Addr} {l : List (List Key × V)} {kvs : List (D × D)} : H p = some (.dT l) → RepT K F kvs l → Own K F H (.dict kvs) (.ref p)
theorem Own.grow {K : Kx} {F H F' H' : Hp} {d : D} {v : V} (e : Ext F H F' H') (h : Own K F H d v) : Own K F' H' d v := by
  cases h with
  | lst h r => exact .lst (e.hh _ _ h) (r.mono e.ff)
  | dK h r => exact .dK (e.hh _ _ h) (r.mono e.ff)
  | dT h r => exact .dT (e.hh _ _ h) (r.mono e.ff)
theorem Own.kind {K : Kx} {F H : Hp} {d : D} {p : Addr} (h : Own K F H d (.ref p)) : ∃ o, H p = some o ∧ ∀ xs, o ≠ .tup xs := by
  cases h with
  | lst h r => exact ⟨_, h, fun _ z => nomatch z⟩
  | dK h r => exact ⟨_, h, fun _ z => nomatch z⟩
  | dT h r => exact ⟨_, h, fun _ z => nomatch z⟩
/-- frozen -/
theorem Own.rep {K : Kx} {F H F' : Hp} {d : D} {p : Addr} (h : Own K F H d (.ref p)) (e : Same F F') (q : F' p = H p) : Rep K F' d (.ref p) := by
  cases h with
  | lst h r => exact .lst (.inl (.inl (q.trans h))) (r.mono e)
  | dK h r => exact .dK (.inl (q.trans h)) (r.mono e)
  | dT h r => exact .dT (.inl (q.trans h)) (r.mono e)

/-! ### the state -/
inductive SV where
  | no | val (d : D) | own (d : D)
abbrev Sls := List SV
structure Stt (K : Kx) (H0 F0 F H : Hp) (σ : St) (sl : Sls) : Prop where
  ext : Ext F0 H0 F H
  len : σ.length = sl.length
  val : ∀ (i : Nat) (d : D), sl[i]? = some (.val d) → ∃ v, σ[i]? = some (some v) ∧ Rep K F d v
  own : ∀ (i : Nat) (d : D), sl[i]? = some (.own d) → ∃ p, σ[i]? = some (some (.ref p)) ∧ Own K F H d (.ref p) ∧ F p = none ∧ H0 p = none
  sep : ∀ (i j : Nat) (d e : D) (p : Addr), sl[i]? = some (.own d) → sl[j]? = some (.own e) → σ[i]? = some (some (.ref p)) → σ[j]? = some (some (.ref p)) → i = j
/-- what no one froze stays so -/
theorem Ext.keeps {F H F' H' : Hp} (e : Ext F H F' H') {p : Addr} {o : HO} (h : H p = some o) (n : ∀ xs, o ≠ .tup xs) (f : F p = none) : F' p = none := by
  cases q : F' p with
  | none => rfl
  | some u =>
    have hu : u = o := Option.some.inj ((e.fh _ _ q).symm.trans (e.hh _ _ h))
    rcases e.gr p u q with z | z | ⟨xs, z⟩
    · exact absurd f z
    · rw [h] at z; cases z
    · exact absurd (hu.symm.trans z) (n xs)
section
variable {K : Kx} {H0 F0 F H F' H' : Hp} {σ : St} {sl : Sls}
theorem Stt.fh (S : Stt K H0 F0 F H σ sl) : Same F H := S.ext.fh
theorem Stt.grow (S : Stt K H0 F0 F H σ sl) (e : Ext F H F' H') : Stt K H0 F0 F' H' σ sl := by
  refine ⟨S.ext.trans e, S.len, fun i d h => ?_, fun i d h => ?_, S.sep⟩
  · obtain ⟨v, h1, h2⟩ := S.val i d h
    exact ⟨v, h1, h2.mono e.ff⟩
  · obtain ⟨p, h1, h2, h3, h4⟩ := S.own i d h
    obtain ⟨o, ho, hn⟩ := h2.kind
    exact ⟨p, h1, h2.grow e, e.keeps ho hn h3, h4⟩
theorem set_get {α : Type} {l : List α} {i j : Nat} {x y : α} (h : (l.set i x)[j]? = some y) : (i = j ∧ y = x) ∨ (i ≠ j ∧ l[j]? = some y) := by
  by_cases e : i = j
  · subst e
    rw [List.getElem?_set_self'] at h
    cases q : l[i]? with
    | none => rw [q] at h; cases h
    | some z =>
      rw [q] at h
      exact .inl ⟨rfl, (Option.some.inj h).symm⟩
  · rw [List.getElem?_set_ne e] at h
    exact .inr ⟨e, h⟩
theorem set_at {α β : Type} {l : List α} {m : List β} {i : Nat} {x : α} {y : β} (e : m.length = l.length) (h : i < l.length) : (m.set i y)[i]? = some y := by
  rw [List.getElem?_set_self (by omega)]
theorem get_lt {α : Type} {l : List α} {i : Nat} {x : α} (h : l[i]? = some x) : i < l.length := (List.getElem?_eq_some_iff.mp h).1
/-- a slot gets a datum -/
theorem Stt.put (S : Stt K H0 F0 F H σ sl) {v : V} {d : D} (r : Rep K F d v) (i : Nat) : Stt K H0 F0 F H (σ.set i (some v)) (sl.set i (.val d)) := by
  refine ⟨S.ext, by rw [List.length_set, List.length_set, S.len], fun j e h => ?_, fun j e h => ?_, fun j k e e' p h1 h2 h3 h4 => ?_⟩
  · rcases set_get h with ⟨rfl, z⟩ | ⟨ne, z⟩
    · cases z
      have hl := get_lt h
      rw [List.length_set] at hl
      exact ⟨v, set_at (x := SV.no) S.len hl, r⟩
    · obtain ⟨u, a, b⟩ := S.val j e z
      exact ⟨u, by rw [List.getElem?_set_ne ne]; exact a, b⟩
  · rcases set_get h with ⟨rfl, z⟩ | ⟨ne, z⟩
    · cases z
    · obtain ⟨u, a, b⟩ := S.own j e z
      exact ⟨u, by rw [List.getElem?_set_ne ne]; exact a, b⟩
  · rcases set_get h1 with ⟨rfl, z⟩ | ⟨n1, z1⟩
    · cases z
    · rcases set_get h2 with ⟨rfl, z⟩ | ⟨n2, z2⟩
      · cases z
      · rw [List.getElem?_set_ne n1] at h3
        rw [List.getElem?_set_ne n2] at h4
        exact S.sep j k e e' p z1 z2 h3 h4
/-- a slot gets a new object of its own -/
theorem Stt.putOwn (S : Stt K H0 F0 F H σ sl) {p : Addr} {d : D} (r : Own K F H d (.ref p)) (hF : F p = none) (h0 : H0 p = none) (nw : ∀ (j : Nat) (e : D), sl[j]? = some (.own e) → σ[j]? ≠ some (some (.ref p))) (i : Nat) :
    Stt K H0 F0 F H (σ.set i (some (.ref p))) (sl.set i (.own d)) := by
  refine ⟨S.ext, by rw [List.length_set, List.length_set, S.len], fun j e h => ?_, fun j e h => ?_, fun j k e e' q h1 h2 h3 h4 => ?_⟩
  · rcases set_get h with ⟨rfl, z⟩ | ⟨ne, z⟩
    · cases z
    · obtain ⟨u, a, b⟩ := S.val j e z
      exact ⟨u, by rw [List.getElem?_set_ne ne]; exact a, b⟩
  · rcases set_get h with ⟨rfl, z⟩ | ⟨ne, z⟩
    · cases z
      have hl := get_lt h
      rw [List.length_set] at hl
      exact ⟨p, set_at (x := SV.no) S.len hl, r, hF, h0⟩
    · obtain ⟨u, a, b⟩ := S.own j e z
      exact ⟨u, by rw [List.getElem?_set_ne ne]; exact a, b⟩
  · rcases set_get h1 with ⟨e1, z1⟩ | ⟨n1, z1⟩
    · rcases set_get h2 with ⟨e2, z2⟩ | ⟨n2, z2⟩
      · exact e1.symm.trans e2
      · have hq : q = p := by
          subst e1
          have hl := get_lt h1
          rw [List.length_set] at hl
          rw [set_at (x := SV.no) S.len hl] at h3
          cases h3
          rfl
        subst hq
        rw [List.getElem?_set_ne n2] at h4
        exact absurd h4 (nw k e' z2)
    · rcases set_get h2 with ⟨e2, z2⟩ | ⟨n2, z2⟩
      · have hq : q = p := by
          subst e2
          have hl := get_lt h2
          rw [List.length_set] at hl
          rw [set_at (x := SV.no) S.len hl] at h4
          cases h4
          rfl
        subst hq
        rw [List.getElem?_set_ne n1] at h3
        exact absurd h3 (nw j e z1)
      · rw [List.getElem?_set_ne n1] at h3
        rw [List.getElem?_set_ne n2] at h4
        exact S.sep j k e e' q z1 z2 h3 h4
/-- an own object is frozen -/
theorem Stt.freeze (S : Stt K H0 F0 F H σ sl) {i : Nat} {d : D} (h : sl[i]? = some (.own d)) : ∃ F', Ext F0 H0 F' H ∧ Same F F' ∧ Stt K H0 F0 F' H σ (sl.set i (.val d)) := by
  obtain ⟨p, h1, h2, h3, h4⟩ := S.own i d h
  obtain ⟨o, ho, hn⟩ := h2.kind
  have ff : Same F (upd F p o) := same_new h3
  have ex : Ext F0 H0 (upd F p o) H := by
    refine ⟨S.ext.ff.trans ff, S.ext.hh, fun b x q => ?_, fun a x q => ?_⟩
    · by_cases z : b = p
      · subst z
        rw [upd_same] at q
        rw [ho]
        exact q
      · rw [upd_ne z] at q
        exact S.fh _ _ q
    · by_cases z : a = p
      · subst z
        exact .inr (.inl h4)
      · rw [upd_ne z] at q
        exact S.ext.gr a x q
  refine ⟨_, ex, ff, ex, by rw [List.length_set, S.len], fun j e h => ?_, fun j e h => ?_, fun j k e e' q a b => ?_⟩
  · rcases set_get h with ⟨rfl, z⟩ | ⟨ne, z⟩
    · cases z
      exact ⟨_, h1, h2.rep ff (by rw [upd_same, ho])⟩
    · obtain ⟨u, a, b⟩ := S.val j e z
      exact ⟨u, a, b.mono ff⟩
  · rcases set_get h with ⟨rfl, z⟩ | ⟨ne, z⟩
    · cases z
    · obtain ⟨q, a, b, c, c'⟩ := S.own j e z
      have hq : q ≠ p := fun w => by
        subst w
        exact ne (S.sep i j d e q ‹_› z h1 a)
      refine ⟨q, a, ?_, by rw [upd_ne hq]; exact c, c'⟩
      cases b with
      | lst b r => exact .lst b (r.mono ff)
      | dK b r => exact .dK b (r.mono ff)
      | dT b r => exact .dT b (r.mono ff)
  · rcases set_get a with ⟨_, z⟩ | ⟨_, z1⟩
    · cases z
    · rcases set_get b with ⟨_, z⟩ | ⟨_, z2⟩
      · cases z
      · exact S.sep j k e e' q z1 z2
/-- an own object is changed -/
theorem Stt.change (S : Stt K H0 F0 F H σ sl) {i : Nat} {d d' : D} {p : Addr} {o : HO} (h : sl[i]? = some (.own d)) (hp : σ[i]? = some (some (.ref p))) (r : Own K F (upd H p o) d' (.ref p)) : Stt K H0 F0 F (upd H p o) σ (sl.set i (.own d')) := by
  obtain ⟨p', h1, h2, h3, h4⟩ := S.own i d h
  have hpp : p' = p := by
    rw [h1] at hp
    cases hp
    rfl
  subst hpp
  have ex : Ext F0 H0 F (upd H p' o) := by
    refine ⟨S.ext.ff, fun b x q => ?_, fun b x q => ?_, S.ext.gr⟩
    · rw [upd_ne (ne_of_none q h4)]
      exact S.ext.hh _ _ q
    · rw [upd_ne (ne_of_none q h3)]
      exact S.fh _ _ q
  refine ⟨ex, by rw [List.length_set, S.len], fun j e h => ?_, fun j e h => ?_, fun j k e e' q a b c c' => ?_⟩
  · rcases set_get h with ⟨rfl, z⟩ | ⟨ne, z⟩
    · cases z
    · exact S.val j e z
  · rcases set_get h with ⟨rfl, z⟩ | ⟨ne, z⟩
    · cases z
      exact ⟨_, h1, r, h3, h4⟩
    · obtain ⟨q, a, b, c, c'⟩ := S.own j e z
      have hq : q ≠ p' := fun w => by
        subst w
        exact ne (S.sep i j d e q ‹_› z h1 a)
      refine ⟨q, a, ?_, c, c'⟩
      cases b with
      | lst b r => exact .lst (by rw [upd_ne hq]; exact b) r
      | dK b r => exact .dK (by rw [upd_ne hq]; exact b) r
      | dT b r => exact .dT (by rw [upd_ne hq]; exact b) r
  · have g : ∀ {m : Nat} {x : D}, (sl.set i (.own d'))[m]? = some (.own x) → ∃ y, sl[m]? = some (.own y) := fun {m x} z => by
      rcases set_get z with ⟨rfl, w⟩ | ⟨_, w⟩
      · exact ⟨d, h⟩
      · exact ⟨x, w⟩
    obtain ⟨y, hy⟩ := g a
    obtain ⟨y', hy'⟩ := g b
    exact S.sep j k y y' q hy hy' c c'
end
end G

namespace G
open PySem PySem.Spec L2

/-! ### views: an object of one's own, or a datum -/
inductive View (K : Kx) (F H : Hp) : D → V → Prop
  | rep {d : D} {v : V} : Rep K F d v → View K F H d v
  | own {d : D} {p : Addr} : Own K F H d (.ref p) → View K F H d (.ref p)
inductive Views (K : Kx) (F H : Hp) : List D → List V → Prop
  | nil : Views K F H [] []
  | cons {d : D} {v : V} {ds : List D} {vs : List V} : View K F H d v → Views K F H ds vs → Views K F H (d :: ds) (v :: vs)
section
variable {K : Kx} {F H F' H' : Hp}
theorem View.grow {d : D} {v : V} (e : Ext F H F' H') (h : View K F H d v) : View K F' H' d v := by
  cases h with
  | rep h => exact .rep (h.mono e.ff)
  | own h => exact .own (h.grow e)
theorem Views.grow (e : Ext F H F' H') : ∀ {ds : List D} {vs : List V}, Views K F H ds vs → Views K F' H' ds vs
  | _, _, .nil => .nil
  | _, _, .cons h r => .cons (h.grow e) (Views.grow e r)
theorem View.non {v : V} (h : View K F H .none v) : v = .non := by
  cases h with
  | rep h => cases h; rfl
  | own h => cases h
theorem View.bl {b : Bool} {v : V} (h : View K F H (.bool b) v) : v = .bl b := by
  cases h with
  | rep h => cases h; rfl
  | own h => cases h
theorem View.int {i : Int} {v : V} (h : View K F H (.int i) v) : v = .int i := by
  cases h with
  | rep h => cases h; rfl
  | own h => cases h
theorem View.str {x : Str} {v : V} (h : View K F H (.str x) v) : v = .str x := by
  cases h with
  | rep h => cases h; rfl
  | own h => cases h
theorem View.lst {ds : List D} {v : V} (e : Same F H) (h : View K F H (.list ds) v) : ∃ a vs, v = .ref a ∧ SqL K.fr H a vs ∧ Reps K F ds vs := by
  cases h with
  | rep h =>
    cases h with
    | lst h r => exact ⟨_, _, rfl, sqL_same e h, r⟩
  | own h =>
    cases h with
    | lst h r => exact ⟨_, _, rfl, .of h, r⟩
theorem View.tup {ds : List D} {v : V} (e : Same F H) (h : View K F H (.tuple ds) v) : ∃ a vs, v = .ref a ∧ SqT K.fr H a vs ∧ Reps K F ds vs := by
  cases h with
  | rep h =>
    cases h with
    | tup h r => exact ⟨_, _, rfl, .of (e _ _ h), r⟩
    | tupK c h r => exact ⟨_, _, rfl, sqT_same (same_no _) h, r⟩
  | own h => cases h
theorem View.dict {kvs : List (D × D)} {v : V} (e : Same F H) (h : View K F H (.dict kvs) v) : ∃ a, v = .ref a ∧ ((∃ l, Rd H a (.dK l) ∧ RepK K F kvs l) ∨ ∃ l, Rd H a (.dT l) ∧ RepT K F kvs l) := by
  cases h with
  | rep h =>
    cases h with
    | dK h r => exact ⟨_, rfl, .inl ⟨_, rd_same e h, r⟩⟩
    | dT h r => exact ⟨_, rfl, .inr ⟨_, rd_same e h, r⟩⟩
  | own h =>
    cases h with
    | dK h r => exact ⟨_, rfl, .inl ⟨_, .of h, r⟩⟩
    | dT h r => exact ⟨_, rfl, .inr ⟨_, .of h, r⟩⟩
end

/-! ### data that == takes -/
mutual
def okD : D → Bool
  | .none | .bool _ | .int _ | .str _ => true
  | .list xs | .tuple xs => okDs xs
  | .dict _ => false
def okDs : List D → Bool
  | [] => true
  | x :: xs => okD x && okDs xs
end
mutual
theorem Rep.dp {K : Kx} {F H : Hp} (e : Same F H) : ∀ {d : D} {v : V}, Rep K F d v → okD d = true → Dp K.fr H v d
  | _, _, .non, _ => .non
  | _, _, .bl b, _ => .bl b
  | _, _, .int i, _ => .int i
  | _, _, .str x, _ => .str x
  | _, _, .lst h r, k => .lst (sqL_same e h) (Reps.dp e r (by simpa [okD] using k))
  | _, _, .tup h r, k => .tup (.of (e _ _ h)) (Reps.dp e r (by simpa [okD] using k))
  | _, _, .tupK c h r, k => .tup (sqT_same (same_no _) h) (Reps.dp e r (by simpa [okD] using k))
  | _, _, .dK _ _, k => by simp [okD] at k
  | _, _, .dT _ _, k => by simp [okD] at k
theorem Reps.dp {K : Kx} {F H : Hp} (e : Same F H) : ∀ {ds : List D} {vs : List V}, Reps K F ds vs → okDs ds = true → DpAll K.fr H vs ds
  | _, _, .nil, _ => .nil
  | _, _, .cons h r, k => by
    simp only [okDs, Bool.and_eq_true] at k
    exact .cons (Rep.dp e h k.1) (Reps.dp e r k.2)
end
theorem View.dp {K : Kx} {F H : Hp} {d : D} {v : V} (e : Same F H) (h : View K F H d v) (k : okD d = true) : Dp K.fr H v d := by
  cases h with
  | rep h => exact h.dp e k
  | own h =>
    cases h with
    | lst h r => exact .lst (.of h) (r.dp e (by simpa [okD] using k))
    | dK h r => simp [okD] at k
    | dT h r => simp [okD] at k
def fitE (d : D) : Bool := okD d && SeqAt.shaped d

/-! ### operations by values -/
/-- a two-place operation's reading r is told by g -/
def OpS (K : Kx) (r : R2) (g : D → D → Option D) : Prop :=
  ∀ (F H : Hp) (x y : V) (d e z : D), Same F H → View K F H d x → View K F H e y → g d e = some z → ∀ Q : VK, (∀ v F' H', Ext F H F' H' → Rep K F' z v → Q v H') → r x y H Q
def UnS (K : Kx) (r : V → Hp → VK → Prop) (g : D → Option D) : Prop :=
  ∀ (F H : Hp) (x : V) (d z : D), Same F H → View K F H d x → g d = some z → ∀ Q : VK, (∀ v F' H', Ext F H F' H' → Rep K F' z v → Q v H') → r x H Q
def CallS (K : Kx) (r : List V → Hp → VK → Prop) (g : List D → Option D) : Prop :=
  ∀ (F H : Hp) (xs : List V) (ds : List D) (z : D), Same F H → Views K F H ds xs → g ds = some z → ∀ Q : VK, (∀ v F' H', Ext F H F' H' → Rep K F' z v → Q v H') → r xs H Q
/-- a call that gives a new object of one's own -/
def CallN (K : Kx) (r : List V → Hp → VK → Prop) (g : List D → Option D) : Prop :=
  ∀ (F H : Hp) (xs : List V) (ds : List D) (z : D), Same F H → Views K F H ds xs → g ds = some z → ∀ Q : VK, (∀ p F' H', Ext F H F' H' → H p = none → F' p = none → Own K F' H' z (.ref p) → Q (.ref p) H') → r xs H Q

def gI (f : Int → Int → D) : D → D → Option D
  | .int i, .int j => some (f i j)
  | _, _ => none
def gIc (C : Int → Int → Prop) [∀ i j, Decidable (C i j)] (f : Int → Int → D) : D → D → Option D
  | .int i, .int j => if C i j then some (f i j) else none
  | _, _ => none
section
variable {K : Kx}
theorem os_I0 {g : Int → Int → V} {f : Int → Int → D} (h : ∀ F i j, Rep K F (f i j) (g i j)) : OpS K (rI0 g) (gI f) := by
  intro F H x y d e z sm hx hy hg Q q
  unfold gI at hg
  split at hg
  · cases hg
    exact ⟨_, _, hx.int, hy.int, q _ F H (.refl sm) (h F _ _)⟩
  · cases hg
theorem os_Ic {C : Int → Int → Prop} [∀ i j, Decidable (C i j)] {C' : Int → Int → Prop} {g : Int → Int → V} {f : Int → Int → D} (hC : ∀ i j, C i j → C' i j) (h : ∀ F i j, Rep K F (f i j) (g i j)) : OpS K (rI C' g) (gIc C f) := by
  intro F H x y d e z sm hx hy hg Q q
  unfold gIc at hg
  split at hg
  · split at hg
    · rename_i hc
      cases hg
      exact ⟨_, _, hx.int, hy.int, hC _ _ hc, q _ F H (.refl sm) (h F _ _)⟩
    · cases hg
  · cases hg
def gSub : D → D → Option D := gI fun i j => .int (i - j)
theorem os_sub : OpS K (rI0 fun i j => .int (i - j)) gSub := os_I0 fun _ _ _ => .int _
def CMulD (i j : Int) : Prop := (-(2 ^ 64) < i ∧ i < 2 ^ 64) ∨ (-(2 ^ 64) < j ∧ j < 2 ^ 64)
instance (i j : Int) : Decidable (CMulD i j) := by unfold CMulD; infer_instance
def gMul : D → D → Option D := gIc CMulD fun i j => .int (i * j)
theorem os_mul : OpS K (rI CMul fun i j => .int (i * j)) gMul := os_Ic (fun _ _ h => h) fun _ _ _ => .int _
def CDivD (i j : Int) : Prop := j ≠ 0 ∧ j.natAbs < 1073741824
instance (i j : Int) : Decidable (CDivD i j) := by unfold CDivD; infer_instance
def gDiv : D → D → Option D := gIc CDivD fun i j => .int (i.fdiv j)
theorem os_div : OpS K (rI CDivN fun i j => .int (i.fdiv j)) gDiv := os_Ic (fun _ _ h => h) fun _ _ _ => .int _
def CModD (_ j : Int) : Prop := j ≠ 0
instance (i j : Int) : Decidable (CModD i j) := by unfold CModD; infer_instance
def gMod : D → D → Option D := gIc CModD fun i j => .int (i.fmod j)
theorem os_mod : OpS K (rI (fun _ j => j ≠ 0) fun i j => .int (i.fmod j)) gMod := os_Ic (fun _ _ h => h) fun _ _ _ => .int _
def CPowD (i j : Int) : Prop := 0 ≤ j ∧ j ≤ 1000 ∧ i.natAbs < 2 ^ 64
instance (i j : Int) : Decidable (CPowD i j) := by unfold CPowD; infer_instance
def gPow : D → D → Option D := gIc CPowD fun i j => .int (i ^ j.toNat)
theorem os_pow : OpS K (rI CPow fun i j => .int (i ^ j.toNat)) gPow := os_Ic (fun i j h => ⟨h.1, by have := h.2.1; omega, h.2.2⟩) fun _ _ _ => .int _
def gLt : D → D → Option D := gI fun i j => .bool (decide (i < j))
theorem os_lt : OpS K (rI0 fun i j => .bl (decide (i < j))) gLt := os_I0 fun _ _ _ => .bl _
def gLe : D → D → Option D := gI fun i j => .bool (decide (i ≤ j))
theorem os_le : OpS K (rI0 fun i j => .bl (decide (i ≤ j))) gLe := os_I0 fun _ _ _ => .bl _
def gGt : D → D → Option D := gI fun i j => .bool (decide (j < i))
theorem os_gt : OpS K (rI0 fun i j => .bl (decide (j < i))) gGt := os_I0 fun _ _ _ => .bl _
def gGe : D → D → Option D := gI fun i j => .bool (decide (j ≤ i))
theorem os_ge : OpS K (rI0 fun i j => .bl (decide (j ≤ i))) gGe := os_I0 fun _ _ _ => .bl _

/-! #### + of ints, texts, lists -/
def rCatS (K : Frg) : R2 := fun x y H Q => ∃ l b xs zs, x = .ref l ∧ y = .ref b ∧ SqL K H l xs ∧ SqL K H b zs ∧ xs.length + zs.length ≤ sizeLine ∧ ∀ p, H p = none → Q (.ref p) (upd H p (.lst (xs ++ zs)))
def rAddA (K : Frg) : R2 := fun x y H Q => (rI0 (fun i j => .int (i + j)) x y H Q ∨ ∃ i j, x = .str i ∧ y = .str j ∧ i.length + j.length ≤ sizeLine ∧ Q (.str (i ++ j)) H) ∨ rCatS K x y H Q
def gAdd : D → D → Option D
  | .int i, .int j => some (.int (i + j))
  | .str i, .str j => if i.length + j.length ≤ 100000 then some (.str (i ++ j)) else none
  | .list xs, .list ys => if xs.length + ys.length ≤ 100000 then some (.list (xs ++ ys)) else none
  | _, _ => none
theorem line_of {n : Nat} (h : n ≤ 100000) : n ≤ sizeLine := Nat.le_trans h (by decide)
theorem line_lt {n : Nat} (h : n < 100000) : n < sizeLine := Nat.lt_of_lt_of_le h (by decide)
theorem os_add : OpS K (rAddA K.fr) gAdd := by
  intro F H x y d e z sm hx hy hg Q q
  unfold gAdd at hg
  split at hg
  · cases hg
    exact .inl (.inl ⟨_, _, hx.int, hy.int, q _ F H (.refl sm) (.int _)⟩)
  · split at hg
    · rename_i hl
      cases hg
      exact .inl (.inr ⟨_, _, hx.str, hy.str, line_of hl, q _ F H (.refl sm) (.str _)⟩)
    · cases hg
  · split at hg
    · rename_i hl
      cases hg
      obtain ⟨a, vs, rfl, h1, r1⟩ := hx.lst sm
      obtain ⟨b, us, rfl, h2, r2⟩ := hy.lst sm
      refine .inr ⟨a, b, vs, us, rfl, rfl, h1, h2, line_of (by rw [← r1.length, ← r2.length]; exact hl), fun p hp => q _ (upd F p _) _ (Ext.new sm hp) (.lst (.of upd_same) ?_)⟩
      exact (r1.app r2).mono (same_new (sm.free hp))
    · cases hg
  · cases hg

/-! #### == and in -/
def gEq (d e : D) : Option D := if fitE d = true ∧ fitE e = true then some (.bool (PyData.eqv d e)) else none
def gNe (d e : D) : Option D := if fitE d = true ∧ fitE e = true then some (.bool (!PyData.eqv d e)) else none
theorem os_eq : OpS K (rEqD K.fr) gEq := by
  intro F H x y d e z sm hx hy hg Q q
  unfold gEq at hg
  split at hg
  · rename_i h
    cases hg
    simp only [fitE, Bool.and_eq_true] at h
    exact ⟨d, e, hx.dp sm h.1.1, hy.dp sm h.2.1, h.1.2, h.2.2, q _ F H (.refl sm) (.bl _)⟩
  · cases hg
theorem os_ne : OpS K (rNeD K.fr) gNe := by
  intro F H x y d e z sm hx hy hg Q q
  unfold gNe at hg
  split at hg
  · rename_i h
    cases hg
    simp only [fitE, Bool.and_eq_true] at h
    exact ⟨d, e, hx.dp sm h.1.1, hy.dp sm h.2.1, h.1.2, h.2.2, q _ F H (.refl sm) (.bl _)⟩
  · cases hg
def rInA (K : Frg) (neg : Bool) : R2 := fun x y H Q => ∃ d ds, Dp K H x d ∧ (Dp K H y (.list ds) ∨ Dp K H y (.tuple ds)) ∧ SeqAt.shaped d = true ∧ PyData.canLayAll0 ds = true ∧ Q (.bl (if neg then !ds.any fun z => PyData.eqv z d else ds.any fun z => PyData.eqv z d)) H
def gInA (neg : Bool) (d e : D) : Option D := match e with
  | .list ds => if fitE d = true ∧ okDs ds = true ∧ PyData.canLayAll0 ds = true then some (.bool (if neg then !ds.any fun z => PyData.eqv z d else ds.any fun z => PyData.eqv z d)) else none
  | .tuple ds => if fitE d = true ∧ okDs ds = true ∧ PyData.canLayAll0 ds = true then some (.bool (if neg then !ds.any fun z => PyData.eqv z d else ds.any fun z => PyData.eqv z d)) else none
  | _ => none
theorem os_in {neg : Bool} : OpS K (rInA K.fr neg) (gInA neg) := by
  intro F H x y d e z sm hx hy hg Q q
  unfold gInA at hg
  split at hg
  · split at hg
    · rename_i h
      cases hg
      simp only [fitE, Bool.and_eq_true] at h
      exact ⟨d, _, hx.dp sm h.1.1, .inl (hy.dp sm (by simpa [okD] using h.2.1)), h.1.2, h.2.2, q _ F H (.refl sm) (.bl _)⟩
    · cases hg
  · split at hg
    · rename_i h
      cases hg
      simp only [fitE, Bool.and_eq_true] at h
      exact ⟨d, _, hx.dp sm h.1.1, .inr (hy.dp sm (by simpa [okD] using h.2.1)), h.1.2, h.2.2, q _ F H (.refl sm) (.bl _)⟩
    · cases hg
  · cases hg
/-! #### is None -/
def isNone : D → Bool
  | .none => true
  | _ => false
theorem View.isNon {F H : Hp} {d : D} {v : V} (h : View K F H d v) : decide (v = .non) = isNone d := by
  cases h with
  | rep h => cases h <;> rfl
  | own h => cases h <;> rfl
def gIsN (d e : D) : Option D := match e with
  | .none => some (.bool (isNone d))
  | _ => none
def gNotN (d e : D) : Option D := match e with
  | .none => some (.bool (!isNone d))
  | _ => none
theorem os_isN : OpS K (fun x y H Q => y = .non ∧ Q (.bl (decide (x = .non))) H) gIsN := by
  intro F H x y d e z sm hx hy hg Q q
  unfold gIsN at hg
  split at hg
  · cases hg
    refine ⟨hy.non, ?_⟩
    rw [hx.isNon]
    exact q _ F H (.refl sm) (.bl _)
  · cases hg
theorem os_notN : OpS K (fun x y H Q => y = .non ∧ Q (.bl (!decide (x = .non))) H) gNotN := by
  intro F H x y d e z sm hx hy hg Q q
  unfold gNotN at hg
  split at hg
  · cases hg
    refine ⟨hy.non, ?_⟩
    rw [hx.isNon]
    exact q _ F H (.refl sm) (.bl _)
  · cases hg
/-! #### items -/
def gIx (d e : D) : Option D := match e with
  | .int i => match d with
    | .list ds => atI ds i
    | .tuple ds => atI ds i
    | .str z => if z.length ≤ 100000 then (atI z.cps.toList i).map fun c => .str ⟨#[c]⟩ else none
    | _ => none
  | _ => none
theorem Reps.atI {F : Hp} {ds : List D} {vs : List V} {i : Int} {d : D} (r : Reps K F ds vs) (h : L2.atI ds i = some d) : ∃ v, L2.atI vs i = some v ∧ Rep K F d v := by
  unfold L2.atI at h ⊢
  rw [← r.length]
  cases e : ixN ds.length i with
  | none => rw [e] at h; cases h
  | some j =>
    rw [e] at h
    exact r.get h
theorem os_ix : OpS K (rIx K.fr) gIx := by
  intro F H x y d e z sm hx hy hg Q q
  unfold gIx at hg
  split at hg
  · split at hg
    · obtain ⟨a, vs, rfl, h1, r1⟩ := hx.lst sm
      obtain ⟨v, h2, r2⟩ := r1.atI hg
      exact .inl ⟨a, vs, _, v, rfl, hy.int, h1, h2, q _ F H (.refl sm) r2⟩
    · obtain ⟨a, vs, rfl, h1, r1⟩ := hx.tup sm
      obtain ⟨v, h2, r2⟩ := r1.atI hg
      exact .inr (.inl ⟨a, vs, _, v, rfl, hy.int, h1, h2, q _ F H (.refl sm) r2⟩)
    · split at hg
      · rename_i hz
        obtain ⟨c, hc, rfl⟩ := Option.map_eq_some_iff.mp hg
        exact .inr (.inr ⟨_, _, c, hx.str, hy.int, line_of hz, hc, q _ F H (.refl sm) (.str _)⟩)
      · cases hg
    · cases hg
  · cases hg
/-! #### one-place -/
def gNeg : D → Option D
  | .int i => some (.int (-i))
  | _ => none
theorem us_neg : UnS K (rU fun i => .int (-i)) gNeg := by
  intro F H x d z sm hx hg Q q
  unfold gNeg at hg
  split at hg
  · cases hg
    exact ⟨_, hx.int, q _ F H (.refl sm) (.int _)⟩
  · cases hg
/-! #### calls -/
theorem views1 {F H : Hp} {ds : List D} {vs : List V} {d : D} (h : Views K F H (d :: ds) vs) : ∃ v r, vs = v :: r ∧ View K F H d v ∧ Views K F H ds r := by
  cases h with
  | cons a b => exact ⟨_, _, rfl, a, b⟩
theorem views0 {F H : Hp} {vs : List V} (h : Views K F H [] vs) : vs = [] := by
  cases h
  rfl
def gInt : List D → Option D
  | [.int i] => some (.int i)
  | [.bool b] => some (.int (if b then 1 else 0))
  | _ => none
theorem cs_int : CallS K (fun xs H Q => (∃ i, xs = [.int i] ∧ Q (.int i) H) ∨ ∃ k, xs = [.bl k] ∧ Q (.int (if k then 1 else 0)) H) gInt := by
  intro F H xs ds z sm hx hg Q q
  unfold gInt at hg
  split at hg
  · cases hg
    obtain ⟨v, r, rfl, h1, h2⟩ := views1 hx
    rw [views0 h2, h1.int]
    exact .inl ⟨_, rfl, q _ F H (.refl sm) (.int _)⟩
  · cases hg
    obtain ⟨v, r, rfl, h1, h2⟩ := views1 hx
    rw [views0 h2, h1.bl]
    exact .inr ⟨_, rfl, q _ F H (.refl sm) (.int _)⟩
  · cases hg
def gAbs : List D → Option D
  | [.int i] => some (.int (if i < 0 then -i else i))
  | _ => none
theorem cs_abs : CallS K (fun xs H Q => ∃ i, xs = [.int i] ∧ Q (.int (if i < 0 then -i else i)) H) gAbs := by
  intro F H xs ds z sm hx hg Q q
  unfold gAbs at hg
  split at hg
  · cases hg
    obtain ⟨v, r, rfl, h1, h2⟩ := views1 hx
    rw [views0 h2, h1.int]
    exact ⟨_, rfl, q _ F H (.refl sm) (.int _)⟩
  · cases hg
def gMax2 : List D → Option D
  | [.int i, .int j] => some (.int (if j > i then j else i))
  | _ => none
theorem cs_max2 : CallS K (fun xs H Q => ∃ i j, xs = [.int i, .int j] ∧ Q (.int (if j > i then j else i)) H) gMax2 := by
  intro F H xs ds z sm hx hg Q q
  unfold gMax2 at hg
  split at hg
  · cases hg
    obtain ⟨v, r, rfl, h1, h2⟩ := views1 hx
    obtain ⟨v', r', rfl, h3, h4⟩ := views1 h2
    rw [views0 h4, h1.int, h3.int]
    exact ⟨_, _, rfl, q _ F H (.refl sm) (.int _)⟩
  · cases hg
def gMin2 : List D → Option D
  | [.int i, .int j] => some (.int (if j < i then j else i))
  | _ => none
theorem cs_min2 : CallS K (fun xs H Q => ∃ i j, xs = [.int i, .int j] ∧ Q (.int (if j < i then j else i)) H) gMin2 := by
  intro F H xs ds z sm hx hg Q q
  unfold gMin2 at hg
  split at hg
  · cases hg
    obtain ⟨v, r, rfl, h1, h2⟩ := views1 hx
    obtain ⟨v', r', rfl, h3, h4⟩ := views1 h2
    rw [views0 h4, h1.int, h3.int]
    exact ⟨_, _, rfl, q _ F H (.refl sm) (.int _)⟩
  · cases hg
/-! ints in a list -/
def intsD : List D → Option (List Int)
  | [] => some []
  | .int i :: r => (intsD r).map (i :: ·)
  | _ :: _ => none
theorem intsD_eq : ∀ {ds : List D} {ns : List Int}, intsD ds = some ns → ds = ns.map PyData.int
  | [], ns, h => by cases h; rfl
  | d :: r, ns, h => by
    cases d with
    | int i =>
      obtain ⟨ms, h1, rfl⟩ := Option.map_eq_some_iff.mp (show (intsD r).map (i :: ·) = some ns from h)
      rw [intsD_eq h1]
      rfl
    | _ => cases h
theorem intsD_map : ∀ ns : List Int, intsD (ns.map PyData.int) = some ns
  | [] => rfl
  | n :: ns => by
    show (intsD (ns.map PyData.int)).map (n :: ·) = some (n :: ns)
    rw [intsD_map ns]
    rfl
def leastI : List Int → Int
  | [] => 0
  | [x] => x
  | x :: y :: r => if leastI (y :: r) < x then leastI (y :: r) else x
def greatI : List Int → Int
  | [] => 0
  | [x] => x
  | x :: y :: r => if x < greatI (y :: r) then greatI (y :: r) else x
theorem leastI_spec : ∀ (ns : List Int), ns ≠ [] → leastI ns ∈ ns ∧ ∀ y ∈ ns, leastI ns ≤ y
  | [], h => absurd rfl h
  | [x], _ => ⟨List.mem_cons_self, fun y hy => by rw [List.mem_singleton.mp hy]; exact Int.le_refl x⟩
  | x :: y :: r, _ => by
    obtain ⟨h1, h2⟩ := leastI_spec (y :: r) (List.cons_ne_nil _ _)
    show (if leastI (y :: r) < x then leastI (y :: r) else x) ∈ x :: y :: r ∧ ∀ z ∈ x :: y :: r, (if leastI (y :: r) < x then leastI (y :: r) else x) ≤ z
    split
    · rename_i h
      refine ⟨List.mem_cons_of_mem _ h1, fun z hz => ?_⟩
      rcases List.mem_cons.mp hz with e | e
      · rw [e]; omega
      · exact h2 z e
    · rename_i h
      refine ⟨List.mem_cons_self, fun z hz => ?_⟩
      rcases List.mem_cons.mp hz with e | e
      · rw [e]; exact Int.le_refl x
      · have := h2 z e
        omega
theorem greatI_spec : ∀ (ns : List Int), ns ≠ [] → greatI ns ∈ ns ∧ ∀ y ∈ ns, y ≤ greatI ns
  | [], h => absurd rfl h
  | [x], _ => ⟨List.mem_cons_self, fun y hy => by rw [List.mem_singleton.mp hy]; exact Int.le_refl x⟩
  | x :: y :: r, _ => by
    obtain ⟨h1, h2⟩ := greatI_spec (y :: r) (List.cons_ne_nil _ _)
    show (if x < greatI (y :: r) then greatI (y :: r) else x) ∈ x :: y :: r ∧ ∀ z ∈ x :: y :: r, z ≤ (if x < greatI (y :: r) then greatI (y :: r) else x)
    split
    · rename_i h
      refine ⟨List.mem_cons_of_mem _ h1, fun z hz => ?_⟩
      rcases List.mem_cons.mp hz with e | e
      · rw [e]; omega
      · exact h2 z e
    · rename_i h
      refine ⟨List.mem_cons_self, fun z hz => ?_⟩
      rcases List.mem_cons.mp hz with e | e
      · rw [e]; exact Int.le_refl x
      · have := h2 z e
        omega
theorem least_uniq {ns : List Int} {m : Int} (h : ns ≠ []) (h1 : m ∈ ns) (h2 : ∀ y ∈ ns, m ≤ y) : m = leastI ns := by
  obtain ⟨a, b⟩ := leastI_spec ns h
  have := b m h1
  have := h2 _ a
  omega
theorem great_uniq {ns : List Int} {m : Int} (h : ns ≠ []) (h1 : m ∈ ns) (h2 : ∀ y ∈ ns, y ≤ m) : m = greatI ns := by
  obtain ⟨a, b⟩ := greatI_spec ns h
  have := b m h1
  have := h2 _ a
  omega
def gMinL : List D → Option D
  | [.list ds] => match intsD ds with
    | some (x :: r) => some (.int (leastI (x :: r)))
    | _ => none
  | _ => none
theorem cs_minL : CallS K (rMin K.fr) gMinL := by
  intro F H xs ds z sm hx hg Q q
  unfold gMinL at hg
  split at hg
  · split at hg
    · rename_i _ es x r e
      cases hg
      obtain ⟨v, r', rfl, h1, h2⟩ := views1 hx
      obtain ⟨a, vs, rfl, h3, h4⟩ := h1.lst sm
      rw [views0 h2]
      have e' := intsD_eq e
      subst e'
      have e2 := h4.ints_of
      subst e2
      refine ⟨a, x :: r, rfl, h3, Nat.succ_pos _, fun m h5 h6 => ?_⟩
      rw [least_uniq (List.cons_ne_nil _ _) h5 h6]
      exact q _ F H (.refl sm) (.int _)
    · cases hg
  · cases hg
def gMaxL : List D → Option D
  | [.list ds] => match intsD ds with
    | some (x :: r) => some (.int (greatI (x :: r)))
    | _ => none
  | _ => none
theorem cs_maxL : CallS K (rMax K.fr) gMaxL := by
  intro F H xs ds z sm hx hg Q q
  unfold gMaxL at hg
  split at hg
  · split at hg
    · rename_i _ es x r e
      cases hg
      obtain ⟨v, r', rfl, h1, h2⟩ := views1 hx
      obtain ⟨a, vs, rfl, h3, h4⟩ := h1.lst sm
      rw [views0 h2]
      have e' := intsD_eq e
      subst e'
      have e2 := h4.ints_of
      subst e2
      refine ⟨a, x :: r, rfl, h3, Nat.succ_pos _, fun m h5 h6 => ?_⟩
      rw [great_uniq (List.cons_ne_nil _ _) h5 h6]
      exact q _ F H (.refl sm) (.int _)
    · cases hg
  · cases hg
def gLen : List D → Option D
  | [.list ds] => some (.int ds.length)
  | [.tuple ds] => some (.int ds.length)
  | [.str z] => if z.length ≤ 100000 then some (.int z.length) else none
  | _ => none
theorem cs_len : CallS K (fun xs H Q => ∃ x n, xs = [x] ∧ LenV K.fr x H n ∧ Q (.int n) H) gLen := by
  intro F H xs ds z sm hx hg Q q
  unfold gLen at hg
  split at hg
  · cases hg
    obtain ⟨v, r', rfl, h1, h2⟩ := views1 hx
    obtain ⟨a, vs, rfl, h3, h4⟩ := h1.lst sm
    rw [views0 h2]
    refine ⟨_, _, rfl, .inl ⟨vs, h3, rfl⟩, ?_⟩
    rw [← h4.length]
    exact q _ F H (.refl sm) (.int _)
  · cases hg
    obtain ⟨v, r', rfl, h1, h2⟩ := views1 hx
    obtain ⟨a, vs, rfl, h3, h4⟩ := h1.tup sm
    rw [views0 h2]
    refine ⟨_, _, rfl, .inr ⟨vs, h3, rfl⟩, ?_⟩
    rw [← h4.length]
    exact q _ F H (.refl sm) (.int _)
  · split at hg
    · rename_i hz
      cases hg
      obtain ⟨v, r', rfl, h1, h2⟩ := views1 hx
      rw [views0 h2, h1.str]
      exact ⟨_, _, rfl, ⟨line_of hz, rfl⟩, q _ F H (.refl sm) (.int _)⟩
    · cases hg
  · cases hg
def gTuple : List D → Option D
  | [.list ds] => some (.tuple ds)
  | [.tuple ds] => some (.tuple ds)
  | _ => none
theorem cs_tuple : CallS K (fun xs H Q => ∃ p ys, xs = [.ref p] ∧ ((SqL K.fr H p ys ∧ ∀ l, H l = none → Q (.ref l) (upd H l (.tup ys))) ∨ (SqT K.fr H p ys ∧ Q (.ref p) H))) gTuple := by
  intro F H xs ds z sm hx hg Q q
  unfold gTuple at hg
  split at hg
  · cases hg
    obtain ⟨v, r', rfl, h1, h2⟩ := views1 hx
    obtain ⟨a, vs, rfl, h3, h4⟩ := h1.lst sm
    rw [views0 h2]
    exact ⟨a, vs, rfl, .inl ⟨h3, fun l hl => q _ (upd F l _) _ (Ext.new sm hl) (.tup upd_same (h4.mono (same_new (sm.free hl))))⟩⟩
  · cases hg
    obtain ⟨v, r', rfl, h1, h2⟩ := views1 hx
    rw [views0 h2]
    cases h1 with
    | rep h =>
      cases h with
      | tup h r => exact ⟨_, _, rfl, .inr ⟨.of (sm _ _ h), q _ F H (.refl sm) (.tup h r)⟩⟩
      | tupK c h r => exact ⟨_, _, rfl, .inr ⟨sqT_same (same_no _) h, q _ F H (.refl sm) (.tupK c h r)⟩⟩
    | own h => cases h
  · cases hg
def gListC : List D → Option D
  | [.list ds] => some (.list ds)
  | [.tuple ds] => some (.list ds)
  | _ => none
theorem cs_list : CallN K (fun xs H Q => ∃ p ys, xs = [.ref p] ∧ (SqL K.fr H p ys ∨ SqT K.fr H p ys) ∧ ∀ l, H l = none → Q (.ref l) (upd H l (.lst ys))) gListC := by
  intro F H xs ds z sm hx hg Q q
  unfold gListC at hg
  split at hg
  · cases hg
    obtain ⟨v, r', rfl, h1, h2⟩ := views1 hx
    obtain ⟨a, vs, rfl, h3, h4⟩ := h1.lst sm
    rw [views0 h2]
    exact ⟨a, vs, rfl, .inl h3, fun l hl => q _ F _ (Ext.fresh sm hl) hl (sm.free hl) (.lst upd_same h4)⟩
  · cases hg
    obtain ⟨v, r', rfl, h1, h2⟩ := views1 hx
    obtain ⟨a, vs, rfl, h3, h4⟩ := h1.tup sm
    rw [views0 h2]
    exact ⟨a, vs, rfl, .inr h3, fun l hl => q _ F _ (Ext.fresh sm hl) hl (sm.free hl) (.lst upd_same h4)⟩
  · cases hg
/-- a new object, frozen at once -/
theorem CallN.s {r : List V → Hp → VK → Prop} {g : List D → Option D} (h : CallN K r g) : CallS K r g := by
  intro F H xs ds z sm hx hg Q q
  refine h F H xs ds z sm hx hg Q fun p F' H' e hp hf ho => ?_
  obtain ⟨o, h1, _⟩ := ho.kind
  refine q _ (upd F' p o) H' ⟨e.ff.trans (same_new hf), e.hh, fun b x z => ?_, fun b x z => ?_⟩ (ho.rep (same_new hf) (by rw [upd_same, h1]))
  · by_cases w : b = p
    · subst w
      rw [upd_same] at z
      rw [h1]
      exact z
    · rw [upd_ne w] at z
      exact e.fh _ _ z
  · by_cases w : b = p
    · subst w
      exact .inr (.inl hp)
    · rw [upd_ne w] at z
      exact e.gr _ _ z
def blsD : List D → Option (List Bool)
  | [] => some []
  | .bool b :: r => (blsD r).map (b :: ·)
  | _ :: _ => none
theorem blsD_reps {F : Hp} : ∀ {ds : List D} {vs : List V} {bs : List Bool}, blsD ds = some bs → Reps K F ds vs → vs = bs.map V.bl
  | [], vs, bs, h, r => by
    cases h
    cases r
    rfl
  | d :: r, vs, bs, h, k => by
    cases k with
    | cons k1 k2 =>
      cases d with
      | bool b =>
        obtain ⟨ms, h1, rfl⟩ := Option.map_eq_some_iff.mp (show (blsD r).map (b :: ·) = some bs from h)
        cases k1
        rw [blsD_reps h1 k2]
        rfl
      | _ => cases h
def gAny : List D → Option D
  | [.list ds] => (blsD ds).map fun bs => .bool (bs.any id)
  | _ => none
theorem cs_any : CallS K (rAny K.fr) gAny := by
  intro F H xs ds z sm hx hg Q q
  unfold gAny at hg
  split at hg
  · obtain ⟨bs, hb, rfl⟩ := Option.map_eq_some_iff.mp hg
    obtain ⟨v, r', rfl, h1, h2⟩ := views1 hx
    obtain ⟨a, vs, rfl, h3, h4⟩ := h1.lst sm
    rw [views0 h2]
    rw [blsD_reps hb h4] at h3
    exact ⟨a, bs, rfl, h3, q _ F H (.refl sm) (.bl _)⟩
  · cases hg
end
end G

namespace G
open PySem PySem.Spec L2

/-! ### operators of the model that take lists of any standing -/
section
variable {X : Cx}
theorem op_catS : OpR X (binaryOp .Add) (rCatS X.K) := by
  intro pins s σ H x y v u Q I rx ry h
  obtain ⟨l, b, xs, zs, rfl, rfl, hH, hB, hz, q⟩ := h
  cases rx
  cases ry
  obtain ⟨its, r, ⟨⟨c1, d1, t1, sl1⟩, n, e, oc, od, osq⟩, z1⟩ := I.list hH
  obtain ⟨its2, r2, ⟨⟨c2, d2, t2, sl2⟩, n2, e2, oc2, od2, osq2⟩, z2⟩ := I.list hB
  simp only at oc od osq oc2 od2 osq2
  subst oc od osq oc2 od2 osq2
  have hlen : its.toArray.size + its2.toArray.size ≤ sizeLine := by
    rw [List.size_toArray, List.size_toArray, ← r.length, ← r2.length]
    exact hz
  refine concat_meets ⟨_, e, rfl⟩ ⟨_, e2, rfl⟩ noFill_list_add seq_list_add PySem.F.slot_list_add PySem.F.entry_list_add (PySem.F.args_list_add_2 _ _) (PyProof.Rows.list_addW l b its.toArray its2.toArray n n2 none none sl1 sl2 hlen) ⟨e, e2, ?_⟩
  have ea : its.toArray ++ its2.toArray = (its ++ its2).toArray := by simp
  rw [ea]
  exact ⟨.ref _, _, I.lnew (t' := s.toks) (r.append r2) (by rw [List.length_append]; exact hz), rfl, q _ I.fresh⟩
theorem op_addA : OpR X (binaryOp .Add) (rAddA X.K) := (op_add.or op_add_str).or op_catS
theorem op_inA (hu : X.A.units + 65 < cLine) : OpR X (compareOp .In) (rInA X.K false) := by
  intro pins s σ H x y v u Q I rx ry h
  obtain ⟨d, ds, h1, h2, h3, h4, q⟩ := h
  obtain ⟨as, r1⟩ := h1.reads I d x v rx
  have hd : min (PyData.depthAll ds) d.depth ≤ 64 := Nat.le_trans (Nat.min_le_right _ _) (SeqAt.depth_of_shaped h3)
  have hr : X.A.units + 1 + min (PyData.depthAll ds) d.depth < cLine := by omega
  rcases h2 with h2 | h2
  · obtain ⟨bs, r2⟩ := Dp.reads I (.list ds) y u h2 ry
    exact SeqAt.in_list_reads r2 r1 h4 (SeqAt.canLay_of_shaped h3) hr ⟨.bl _, H, I, rfl, q⟩
  · obtain ⟨bs, r2⟩ := Dp.reads I (.tuple ds) y u h2 ry
    exact SeqAt.in_tuple_reads r2 r1 h4 (SeqAt.canLay_of_shaped h3) hr ⟨.bl _, H, I, rfl, q⟩
theorem op_niA (hu : X.A.units + 65 < cLine) : OpR X (compareOp .NotIn) (rInA X.K true) := by
  intro pins s σ H x y v u Q I rx ry h
  obtain ⟨d, ds, h1, h2, h3, h4, q⟩ := h
  obtain ⟨as, r1⟩ := h1.reads I d x v rx
  have hd : min (PyData.depthAll ds) d.depth ≤ 64 := Nat.le_trans (Nat.min_le_right _ _) (SeqAt.depth_of_shaped h3)
  have hr : X.A.units + 1 + min (PyData.depthAll ds) d.depth < cLine := by omega
  rcases h2 with h2 | h2
  · obtain ⟨bs, r2⟩ := Dp.reads I (.list ds) y u h2 ry
    exact SeqAt.notIn_list_reads r2 r1 h4 (SeqAt.canLay_of_shaped h3) hr ⟨.bl _, H, I, rfl, q⟩
  · obtain ⟨bs, r2⟩ := Dp.reads I (.tuple ds) y u h2 ry
    exact SeqAt.notIn_tuple_reads r2 r1 h4 (SeqAt.canLay_of_shaped h3) hr ⟨.bl _, H, I, rfl, q⟩
end
end G

namespace G
open PySem PySem.Spec L2

/-! ### judgements -/
def EvD (K : Kx) (t : TE) (f : Sls → Option D) : Prop := ∀ (H0 F0 F H : Hp) (σ : L2.St) (sl : Sls) (d : D), Stt K H0 F0 F H σ sl → f sl = some d → ∀ Q : VK, (∀ v F' H', Ext F H F' H' → Rep K F' d v → Q v H') → t σ H Q
def EvV (K : Kx) (t : TE) (f : Sls → Option D) : Prop := ∀ (H0 F0 F H : Hp) (σ : L2.St) (sl : Sls) (d : D), Stt K H0 F0 F H σ sl → f sl = some d → ∀ Q : VK, (∀ v F' H', Ext F H F' H' → View K F' H' d v → Q v H') → t σ H Q
/-- a new object of one's own -/
def EvN (K : Kx) (t : TE) (f : Sls → Option D) : Prop := ∀ (H0 F0 F H : Hp) (σ : L2.St) (sl : Sls) (d : D), Stt K H0 F0 F H σ sl → f sl = some d → ∀ Q : VK, (∀ p F' H', Ext F H F' H' → H p = none → F' p = none → Own K F' H' d (.ref p) → Q (.ref p) H') → t σ H Q
/-- lent for reading: told over the whole heap -/
def EvH (K : Kx) (t : TE) (f : Sls → Option D) : Prop := ∀ (H0 F0 F H : Hp) (σ : L2.St) (sl : Sls) (d : D), Stt K H0 F0 F H σ sl → f sl = some d → ∀ Q : VK, (∀ v F' H', Ext F H F' H' → Rep K H' d v → Q v H') → t σ H Q
def EvT (K : Kx) (t : TT) (f : Sls → Option Bool) : Prop := ∀ (H0 F0 F H : Hp) (σ : L2.St) (sl : Sls) (b : Bool), Stt K H0 F0 F H σ sl → f sl = some b → ∀ Q : Bool → Hp → Prop, (∀ F' H', Ext F H F' H' → Q b H') → t σ H Q
def EvA (K : Kx) (t : TA) (f : Sls → Option (List D)) : Prop := ∀ (H0 F0 F H : Hp) (σ : L2.St) (sl : Sls) (ds : List D), Stt K H0 F0 F H σ sl → f sl = some ds → ∀ Q : List V → Hp → Prop, (∀ vs F' H', Ext F H F' H' → Reps K F' ds vs → Q vs H') → t σ H Q
def EvW (K : Kx) (t : TA) (f : Sls → Option (List D)) : Prop := ∀ (H0 F0 F H : Hp) (σ : L2.St) (sl : Sls) (ds : List D), Stt K H0 F0 F H σ sl → f sl = some ds → ∀ Q : List V → Hp → Prop, (∀ vs F' H', Ext F H F' H' → Views K F' H' ds vs → Q vs H') → t σ H Q
def EvL (K : Kx) (t : TA) (f : Sls → Option (List D)) : Prop := ∀ (H0 F0 F H : Hp) (σ : L2.St) (sl : Sls) (ds : List D), Stt K H0 F0 F H σ sl → f sl = some ds → ∀ Q : List V → Hp → Prop, (∀ vs F' H', Ext F H F' H' → Reps K H' ds vs → Q vs H') → t σ H Q
def EvO (K : Kx) (t : TO) (f : Sls → Option (Option Int)) : Prop := ∀ (H0 F0 F H : Hp) (σ : L2.St) (sl : Sls) (o : Option Int), Stt K H0 F0 F H σ sl → f sl = some o → ∀ Q : Option Int → Hp → Prop, (∀ F' H', Ext F H F' H' → Q o H') → t σ H Q

/-! ### mirrors -/
def dVar (i : Nat) : Sls → Option D := fun sl => match sl[i]? with
  | some (.val d) => some d
  | _ => none
def dView (i : Nat) : Sls → Option D := fun sl => match sl[i]? with
  | some (.val d) => some d
  | some (.own d) => some d
  | _ => none
def dC (d : D) : Sls → Option D := fun _ => some d
def dOp (g : D → D → Option D) (fa fb : Sls → Option D) : Sls → Option D := fun sl => (fa sl).bind fun x => (fb sl).bind fun y => g x y
def dUn (g : D → Option D) (fa : Sls → Option D) : Sls → Option D := fun sl => (fa sl).bind g
def dNil : Sls → Option (List D) := fun _ => some []
def dCons (fa : Sls → Option D) (fr : Sls → Option (List D)) : Sls → Option (List D) := fun sl => (fa sl).bind fun x => (fr sl).bind fun xs => some (x :: xs)
def dApp (g : List D → Option D) (fa : Sls → Option (List D)) : Sls → Option D := fun sl => (fa sl).bind g
def gTup (ds : List D) : Option D := if ds.length ≤ 100000 then some (.tuple ds) else none
def gLst (ds : List D) : Option D := if ds.length ≤ 100000 then some (.list ds) else none
def truD : D → Option Bool
  | .bool b => some b
  | _ => none
def dTest (f : Sls → Option D) : Sls → Option Bool := fun sl => (f sl).bind truD
def dAnd (f g : Sls → Option Bool) : Sls → Option Bool := fun sl => (f sl).bind fun b => if b = true then g sl else some false
def dOr (f g : Sls → Option Bool) : Sls → Option Bool := fun sl => (f sl).bind fun b => if b = true then some true else g sl
def dNot (f : Sls → Option Bool) : Sls → Option Bool := fun sl => (f sl).bind fun b => some (!b)
def dAndV (f g : Sls → Option D) : Sls → Option D := fun sl => (f sl).bind fun d => (truD d).bind fun b => if b = true then g sl else some (.bool false)
def dOrV (f g : Sls → Option D) : Sls → Option D := fun sl => (f sl).bind fun d => (truD d).bind fun b => if b = true then some (.bool true) else g sl
def dNotV (f : Sls → Option D) : Sls → Option D := fun sl => (f sl).bind fun d => (truD d).bind fun b => some (.bool (!b))
def dIf (c : Sls → Option Bool) (f g : Sls → Option D) : Sls → Option D := fun sl => (c sl).bind fun b => if b = true then f sl else g sl
def dChain (g g' : D → D → Option D) (fa fb fc : Sls → Option D) : Sls → Option D := fun sl => (fa sl).bind fun x => (fb sl).bind fun y => (g x y).bind fun z => (truD z).bind fun b => if b = true then (fc sl).bind fun w => g' y w else some (.bool false)
/-- truth of any value -/
def truA : D → Option Bool
  | .none => some false
  | .bool b => some b
  | .int i => some (i != 0)
  | .list ds => some (!ds.isEmpty)
  | .tuple ds => some (!ds.isEmpty)
  | _ => none
def dTru (f : Sls → Option D) : Sls → Option Bool := fun sl => (f sl).bind truA
def oNone : Sls → Option (Option Int) := fun _ => some none
def oSome (f : Sls → Option D) : Sls → Option (Option Int) := fun sl => (f sl).bind fun d => match d with
  | .int i => some (some i)
  | _ => none
def cutD (xs : List D) (lo hi : Option Int) : List D := (xs.drop (HT.sIx xs.length 0 lo)).take (HT.sIx xs.length xs.length hi - HT.sIx xs.length 0 lo)

section
variable {K : Kx} {ta tb tc te : TE} {fa fb fc f : Sls → Option D} {t u : TT} {ft fu : Sls → Option Bool}
theorem bind_some {α β : Type} {o : Option α} {g : α → Option β} {b : β} (h : o.bind g = some b) : ∃ a, o = some a ∧ g a = some b := Option.bind_eq_some_iff.mp h
theorem EvD.v (h : EvD K te f) : EvV K te f := fun H0 F0 F H σ sl d S e Q q => h H0 F0 F H σ sl d S e Q fun v F' H' x r => q v F' H' x (.rep r)
theorem EvD.h (h : EvD K te f) : EvH K te f := fun H0 F0 F H σ sl d S e Q q => h H0 F0 F H σ sl d S e Q fun v F' H' x r => q v F' H' x (r.mono x.fh)
theorem EvN.v (h : EvN K te f) : EvV K te f := fun H0 F0 F H σ sl d S e Q q => h H0 F0 F H σ sl d S e Q fun p F' H' x hp hf o => q _ F' H' x (.own o)
theorem Ext.up {F H F' H' : Hp} {p : Addr} {o : HO} (e : Ext F H F' H') (hp : H p = none) (hf : F' p = none) (ho : H' p = some o) : Ext F H (upd F' p o) H' := by
  refine ⟨e.ff.trans (same_new hf), e.hh, fun b x z => ?_, fun b x z => ?_⟩
  · by_cases w : b = p
    · subst w
      rw [upd_same] at z
      rw [ho]
      exact z
    · rw [upd_ne w] at z
      exact e.fh _ _ z
  · by_cases w : b = p
    · subst w
      exact .inr (.inl hp)
    · rw [upd_ne w] at z
      exact e.gr _ _ z
theorem EvN.d (h : EvN K te f) : EvD K te f := fun H0 F0 F H σ sl d S e Q q => h H0 F0 F H σ sl d S e Q fun p F' H' x hp hf o => by
  obtain ⟨u, h1, _⟩ := o.kind
  exact q _ _ _ (x.up hp hf h1) (o.rep (same_new hf) (by rw [upd_same, h1]))
theorem Own.all {F H : Hp} {d : D} {p : Addr} (e : Same F H) (h : Own K F H d (.ref p)) : Rep K H d (.ref p) := by
  cases h with
  | lst h r => exact .lst (.of h) (r.mono e)
  | dK h r => exact .dK (.of h) (r.mono e)
  | dT h r => exact .dT (.of h) (r.mono e)
theorem View.all {F H : Hp} {d : D} {v : V} (e : Same F H) (h : View K F H d v) : Rep K H d v := by
  cases h with
  | rep h => exact h.mono e
  | own h => exact h.all e
theorem EvV.h (h : EvV K te f) : EvH K te f := fun H0 F0 F H σ sl d S e Q q => h H0 F0 F H σ sl d S e Q fun v F' H' x r => q v F' H' x (r.all x.fh)

theorem ev_var (i : Nat) : EvD K (tVar i) (dVar i) := by
  intro H0 F0 F H σ sl d S e Q q
  unfold dVar at e
  split at e
  · rename_i d' h
    cases e
    obtain ⟨v, h1, h2⟩ := S.val i _ h
    exact ⟨v, h1, q v F H (.refl S.fh) h2⟩
  · cases e
theorem vv_var (i : Nat) : EvV K (tVar i) (dView i) := by
  intro H0 F0 F H σ sl d S e Q q
  unfold dView at e
  split at e
  · rename_i d' h
    cases e
    obtain ⟨v, h1, h2⟩ := S.val i _ h
    exact ⟨v, h1, q v F H (.refl S.fh) (.rep h2)⟩
  · rename_i d' h
    cases e
    obtain ⟨p, h1, h2, _, _⟩ := S.own i _ h
    exact ⟨_, h1, q _ F H (.refl S.fh) (.own h2)⟩
  · cases e
theorem ev_k {d : D} {v : V} (h : ∀ F, Rep K F d v) : EvD K (tC v) (dC d) := fun H0 F0 F H σ sl d' S e Q q => by
  cases e
  exact q v F H (.refl S.fh) (h F)
theorem ev_int {i : Int} : EvD K (tC (.int i)) (dC (.int i)) := ev_k fun _ => .int i
theorem ev_bl {b : Bool} : EvD K (tC (.bl b)) (dC (.bool b)) := ev_k fun _ => .bl b
theorem ev_non : EvD K (tC .non) (dC .none) := ev_k fun _ => .non
theorem ev_str {x : Str} : EvD K (tC (.str x)) (dC (.str x)) := ev_k fun _ => .str x
theorem ev_op {r : R2} {g : D → D → Option D} (o : OpS K r g) (ha : EvV K ta fa) (hb : EvV K tb fb) : EvD K (tOp r ta tb) (dOp g fa fb) := by
  intro H0 F0 F H σ sl d S e Q q
  obtain ⟨x, e1, e⟩ := bind_some e
  obtain ⟨y, e2, e⟩ := bind_some e
  refine ha H0 F0 F H σ sl x S e1 _ fun v F1 H1 x1 r1 => ?_
  refine hb H0 F0 F1 H1 σ sl y (S.grow x1) e2 _ fun u F2 H2 x2 r2 => ?_
  exact o F2 H2 v u x y d x2.fh (r1.grow x2) r2 e Q fun w F3 H3 x3 r3 => q w F3 H3 ((x1.trans x2).trans x3) r3
theorem ev_un {r : V → Hp → VK → Prop} {g : D → Option D} (o : UnS K r g) (ha : EvV K ta fa) : EvD K (tUn r ta) (dUn g fa) := by
  intro H0 F0 F H σ sl d S e Q q
  obtain ⟨x, e1, e⟩ := bind_some e
  refine ha H0 F0 F H σ sl x S e1 _ fun v F1 H1 x1 r1 => ?_
  exact o F1 H1 v x d x1.fh r1 e Q fun w F3 H3 x3 r3 => q w F3 H3 (x1.trans x3) r3
/-! #### argument lists -/
theorem ea_nil : EvA K tNil dNil := fun H0 F0 F H σ sl d S e Q q => by
  cases e
  exact q [] F H (.refl S.fh) .nil
theorem ea_cons {tr : TA} {fr : Sls → Option (List D)} (ha : EvD K ta fa) (hr : EvA K tr fr) : EvA K (tCons ta tr) (dCons fa fr) := by
  intro H0 F0 F H σ sl ds S e Q q
  obtain ⟨x, e1, e⟩ := bind_some e
  obtain ⟨xs, e2, e⟩ := bind_some e
  cases e
  refine ha H0 F0 F H σ sl x S e1 _ fun v F1 H1 x1 r1 => ?_
  exact hr H0 F0 F1 H1 σ sl xs (S.grow x1) e2 _ fun vs F2 H2 x2 r2 => q _ F2 H2 (x1.trans x2) (.cons (r1.mono x2.ff) r2)
theorem ew_nil : EvW K tNil dNil := fun H0 F0 F H σ sl d S e Q q => by
  cases e
  exact q [] F H (.refl S.fh) .nil
theorem ew_cons {tr : TA} {fr : Sls → Option (List D)} (ha : EvV K ta fa) (hr : EvW K tr fr) : EvW K (tCons ta tr) (dCons fa fr) := by
  intro H0 F0 F H σ sl ds S e Q q
  obtain ⟨x, e1, e⟩ := bind_some e
  obtain ⟨xs, e2, e⟩ := bind_some e
  cases e
  refine ha H0 F0 F H σ sl x S e1 _ fun v F1 H1 x1 r1 => ?_
  exact hr H0 F0 F1 H1 σ sl xs (S.grow x1) e2 _ fun vs F2 H2 x2 r2 => q _ F2 H2 (x1.trans x2) (.cons (r1.grow x2) r2)
theorem el_nil : EvL K tNil dNil := fun H0 F0 F H σ sl d S e Q q => by
  cases e
  exact q [] F H (.refl S.fh) .nil
theorem el_cons {tr : TA} {fr : Sls → Option (List D)} (ha : EvH K ta fa) (hr : EvL K tr fr) : EvL K (tCons ta tr) (dCons fa fr) := by
  intro H0 F0 F H σ sl ds S e Q q
  obtain ⟨x, e1, e⟩ := bind_some e
  obtain ⟨xs, e2, e⟩ := bind_some e
  cases e
  refine ha H0 F0 F H σ sl x S e1 _ fun v F1 H1 x1 r1 => ?_
  exact hr H0 F0 F1 H1 σ sl xs (S.grow x1) e2 _ fun vs F2 H2 x2 r2 => q _ F2 H2 (x1.trans x2) (.cons (r1.mono x2.hh) r2)
/-! #### displays -/
theorem ev_tup {tr : TA} {fr : Sls → Option (List D)} (hr : EvA K tr fr) : EvD K (tTup tr) (dApp gTup fr) := by
  intro H0 F0 F H σ sl d S e Q q
  obtain ⟨xs, e1, e⟩ := bind_some e
  unfold gTup at e
  split at e
  · rename_i hl
    cases e
    refine hr H0 F0 F H σ sl xs S e1 _ fun vs F1 H1 x1 r1 => ⟨line_of (by rw [← r1.length]; exact hl), fun p hp => ?_⟩
    exact q _ _ _ (x1.trans (.new x1.fh hp)) (.tup upd_same (r1.mono (same_new (x1.fh.free hp))))
  · cases e
theorem en_lst {tr : TA} {fr : Sls → Option (List D)} (hr : EvA K tr fr) : EvN K (tLst tr) (dApp gLst fr) := by
  intro H0 F0 F H σ sl d S e Q q
  obtain ⟨xs, e1, e⟩ := bind_some e
  unfold gLst at e
  split at e
  · rename_i hl
    cases e
    refine hr H0 F0 F H σ sl xs S e1 _ fun vs F1 H1 x1 r1 => ⟨line_of (by rw [← r1.length]; exact hl), fun p hp => ?_⟩
    exact q p F1 _ (x1.trans (.fresh x1.fh hp)) (x1.hh.free hp) (x1.fh.free hp) (.lst upd_same r1)
  · cases e
theorem ev_lst {tr : TA} {fr : Sls → Option (List D)} (hr : EvA K tr fr) : EvD K (tLst tr) (dApp gLst fr) := (en_lst hr).d
/-! #### calls of built-ins -/
theorem ev_cb {r : List V → Hp → VK → Prop} {g : List D → Option D} {tr : TA} {fr : Sls → Option (List D)} (c : CallS K r g) (hr : EvW K tr fr) : EvD K (tCB r tr) (dApp g fr) := by
  intro H0 F0 F H σ sl d S e Q q
  obtain ⟨xs, e1, e⟩ := bind_some e
  refine hr H0 F0 F H σ sl xs S e1 _ fun vs F1 H1 x1 r1 => ?_
  exact c F1 H1 vs xs d x1.fh r1 e Q fun w F3 H3 x3 r3 => q w F3 H3 (x1.trans x3) r3
theorem en_cb {r : List V → Hp → VK → Prop} {g : List D → Option D} {tr : TA} {fr : Sls → Option (List D)} (c : CallN K r g) (hr : EvW K tr fr) : EvN K (tCB r tr) (dApp g fr) := by
  intro H0 F0 F H σ sl d S e Q q
  obtain ⟨xs, e1, e⟩ := bind_some e
  refine hr H0 F0 F H σ sl xs S e1 _ fun vs F1 H1 x1 r1 => ?_
  exact c F1 H1 vs xs d x1.fh r1 e Q fun w F3 H3 x3 h3 h4 r3 => q w F3 H3 (x1.trans x3) (x1.hh.free h3) h4 r3
/-! #### tests -/
theorem et_val (h : EvD K te f) : EvT K (tTest te) (dTest f) := by
  intro H0 F0 F H σ sl b S e Q q
  obtain ⟨d, e1, e⟩ := bind_some e
  refine h H0 F0 F H σ sl d S e1 _ fun v F1 H1 x1 r1 => ?_
  cases d with
  | bool b' =>
    cases e
    cases r1
    exact ⟨_, rfl, q F1 H1 x1⟩
  | _ => cases e
theorem et_B (h : EvD K te f) : EvT K (tB te) (dTest f) := et_val h
theorem et_tru (h : EvV K te f) : EvT K (fun σ H Q => te σ H fun x H' => ∃ k, TruV K.fr x H' k ∧ Q k H') (dTru f) := by
  intro H0 F0 F H σ sl b S e Q q
  obtain ⟨d, e1, e⟩ := bind_some e
  refine h H0 F0 F H σ sl d S e1 _ fun v F1 H1 x1 r1 => ?_
  have emp : ∀ {ds : List D} {vs : List V}, Reps K F1 ds vs → ds.isEmpty = vs.isEmpty := fun r => by cases r <;> rfl
  cases d with
  | none =>
    cases e
    rw [r1.non]
    exact ⟨_, rfl, q F1 H1 x1⟩
  | bool b' =>
    cases e
    rw [r1.bl]
    exact ⟨_, rfl, q F1 H1 x1⟩
  | int i =>
    cases e
    rw [r1.int]
    exact ⟨_, rfl, q F1 H1 x1⟩
  | list ds =>
    cases e
    obtain ⟨a, vs, rfl, h1, h2⟩ := r1.lst x1.fh
    rw [emp h2] at q
    exact ⟨_, .inl ⟨vs, h1, rfl⟩, q F1 H1 x1⟩
  | tuple ds =>
    cases e
    obtain ⟨a, vs, rfl, h1, h2⟩ := r1.tup x1.fh
    rw [emp h2] at q
    exact ⟨_, .inr (.inl ⟨vs, h1, rfl⟩), q F1 H1 x1⟩
  | _ => cases e
theorem et_and (h : EvT K t ft) (k : EvT K u fu) : EvT K (tAnd t u) (dAnd ft fu) := by
  intro H0 F0 F H σ sl b S e Q q
  obtain ⟨d, e1, e⟩ := bind_some e
  refine h H0 F0 F H σ sl d S e1 _ fun F1 H1 x1 => ?_
  cases d with
  | true => exact k H0 F0 F1 H1 σ sl b (S.grow x1) e Q fun F2 H2 x2 => q F2 H2 (x1.trans x2)
  | false =>
    cases e
    exact q F1 H1 x1
theorem et_or (h : EvT K t ft) (k : EvT K u fu) : EvT K (tOr t u) (dOr ft fu) := by
  intro H0 F0 F H σ sl b S e Q q
  obtain ⟨d, e1, e⟩ := bind_some e
  refine h H0 F0 F H σ sl d S e1 _ fun F1 H1 x1 => ?_
  cases d with
  | false => exact k H0 F0 F1 H1 σ sl b (S.grow x1) e Q fun F2 H2 x2 => q F2 H2 (x1.trans x2)
  | true =>
    cases e
    exact q F1 H1 x1
theorem et_not (h : EvT K t ft) : EvT K (tNot t) (dNot ft) := by
  intro H0 F0 F H σ sl b S e Q q
  obtain ⟨d, e1, e⟩ := bind_some e
  cases e
  exact h H0 F0 F H σ sl d S e1 _ fun F1 H1 x1 => q F1 H1 x1
theorem et_yes : EvT K tYes (fun _ => some true) := by
  intro H0 F0 F H σ sl b S e Q q
  cases e
  exact q F H (.refl S.fh)
theorem tru_rep {F : Hp} {d : D} {v : V} {b : Bool} (h : Rep K F d v) (e : truD d = some b) : d = .bool b ∧ v = .bl b := by
  cases d with
  | bool b' =>
    cases e
    cases h
    exact ⟨rfl, rfl⟩
  | _ => cases e
theorem ev_andV (h : EvD K ta fa) (k : EvD K tb fb) : EvD K (tAndV ta tb) (dAndV fa fb) := by
  intro H0 F0 F H σ sl d S e Q q
  obtain ⟨x, e1, e⟩ := bind_some e
  obtain ⟨b, e2, e⟩ := bind_some e
  refine h H0 F0 F H σ sl x S e1 _ fun v F1 H1 x1 r1 => ?_
  obtain ⟨rfl, rfl⟩ := tru_rep r1 e2
  refine ⟨b, rfl, ?_⟩
  cases b with
  | true => exact k H0 F0 F1 H1 σ sl d (S.grow x1) e Q fun v F2 H2 x2 r2 => q v F2 H2 (x1.trans x2) r2
  | false =>
    cases e
    exact q _ F1 H1 x1 (.bl _)
theorem ev_orV (h : EvD K ta fa) (k : EvD K tb fb) : EvD K (tOrV ta tb) (dOrV fa fb) := by
  intro H0 F0 F H σ sl d S e Q q
  obtain ⟨x, e1, e⟩ := bind_some e
  obtain ⟨b, e2, e⟩ := bind_some e
  refine h H0 F0 F H σ sl x S e1 _ fun v F1 H1 x1 r1 => ?_
  obtain ⟨rfl, rfl⟩ := tru_rep r1 e2
  refine ⟨b, rfl, ?_⟩
  cases b with
  | false => exact k H0 F0 F1 H1 σ sl d (S.grow x1) e Q fun v F2 H2 x2 r2 => q v F2 H2 (x1.trans x2) r2
  | true =>
    cases e
    exact q _ F1 H1 x1 (.bl _)
theorem ev_notV (h : EvD K ta fa) : EvD K (tNotV ta) (dNotV fa) := by
  intro H0 F0 F H σ sl d S e Q q
  obtain ⟨x, e1, e⟩ := bind_some e
  obtain ⟨b, e2, e⟩ := bind_some e
  cases e
  refine h H0 F0 F H σ sl x S e1 _ fun v F1 H1 x1 r1 => ?_
  obtain ⟨rfl, rfl⟩ := tru_rep r1 e2
  exact ⟨b, rfl, q _ F1 H1 x1 (.bl _)⟩
theorem ev_if (h : EvT K t ft) (h1 : EvD K ta fa) (h2 : EvD K tb fb) : EvD K (tIf t ta tb) (dIf ft fa fb) := by
  intro H0 F0 F H σ sl d S e Q q
  obtain ⟨b, e1, e⟩ := bind_some e
  refine h H0 F0 F H σ sl b S e1 _ fun F1 H1 x1 => ?_
  cases b with
  | true => exact h1 H0 F0 F1 H1 σ sl d (S.grow x1) e Q fun v F2 H2 x2 r2 => q v F2 H2 (x1.trans x2) r2
  | false => exact h2 H0 F0 F1 H1 σ sl d (S.grow x1) e Q fun v F2 H2 x2 r2 => q v F2 H2 (x1.trans x2) r2
theorem ev_chain {r r' : R2} {g g' : D → D → Option D} (o : OpS K r g) (o' : OpS K r' g') (ha : EvV K ta fa) (hb : EvV K tb fb) (hc : EvV K tc fc) : EvD K (tChain r r' ta tb tc) (dChain g g' fa fb fc) := by
  intro H0 F0 F H σ sl d S e Q q
  obtain ⟨x, e1, e⟩ := bind_some e
  obtain ⟨y, e2, e⟩ := bind_some e
  obtain ⟨z, e3, e⟩ := bind_some e
  obtain ⟨b, e4, e⟩ := bind_some e
  refine ha H0 F0 F H σ sl x S e1 _ fun v F1 H1 x1 r1 => ?_
  refine hb H0 F0 F1 H1 σ sl y (S.grow x1) e2 _ fun u F2 H2 x2 r2 => ?_
  refine o F2 H2 v u x y z x2.fh (r1.grow x2) r2 e3 _ fun w F3 H3 x3 r3 => ?_
  obtain ⟨rfl, rfl⟩ := tru_rep r3 e4
  refine ⟨b, rfl, ?_⟩
  cases b with
  | true =>
    replace e : ((fc sl).bind fun w => g' y w) = some d := e
    obtain ⟨y', e5, e⟩ := bind_some e
    refine hc H0 F0 F3 H3 σ sl y' (S.grow ((x1.trans x2).trans x3)) e5 _ fun u' F4 H4 x4 r4 => ?_
    exact o' F4 H4 u u' y y' d x4.fh (r2.grow (x3.trans x4)) r4 e Q fun w F5 H5 x5 r5 => q w F5 H5 ((((x1.trans x2).trans x3).trans x4).trans x5) r5
  | false =>
    cases e
    exact q _ F3 H3 ((x1.trans x2).trans x3) (.bl _)
/-! #### slices -/
theorem eo_none : EvO K tNoPart oNone := fun H0 F0 F H σ sl o S e Q q => by
  cases e
  exact q F H (.refl S.fh)
theorem eo_some (h : EvD K te f) : EvO K (tPart te) (oSome f) := by
  intro H0 F0 F H σ sl o S e Q q
  obtain ⟨d, e1, e⟩ := bind_some e
  refine h H0 F0 F H σ sl d S e1 _ fun v F1 H1 x1 r1 => ?_
  cases d with
  | int i =>
    cases e
    cases r1
    exact ⟨i, rfl, q F1 H1 x1⟩
  | _ => cases e
theorem cut_reps {F : Hp} {ds : List D} {vs : List V} {lo hi : Option Int} (h : Reps K F ds vs) : Reps K F (cutD ds lo hi) (cutV vs lo hi) := by
  unfold cutD cutV
  rw [h.length]
  exact (h.drop _).take _
def dSl (fa : Sls → Option D) (g h : Sls → Option (Option Int)) : Sls → Option D := fun sl => (fa sl).bind fun d => (g sl).bind fun lo => (h sl).bind fun hi => match d with
  | .list ds => some (.list (cutD ds lo hi))
  | _ => none
def dSlT (fa : Sls → Option D) (g h : Sls → Option (Option Int)) : Sls → Option D := fun sl => (fa sl).bind fun d => (g sl).bind fun lo => (h sl).bind fun hi => match d with
  | .tuple ds => some (.tuple (cutD ds lo hi))
  | _ => none
theorem en_sl {tl th : TO} {g h : Sls → Option (Option Int)} (ha : EvV K ta fa) (h1 : EvO K tl g) (h2 : EvO K th h) : EvN K (tSl (rSlL K.fr) ta tl th) (dSl fa g h) := by
  intro H0 F0 F H σ sl d S e Q q
  obtain ⟨x, e1, e⟩ := bind_some e
  obtain ⟨lo, e2, e⟩ := bind_some e
  obtain ⟨hi, e3, e⟩ := bind_some e
  refine ha H0 F0 F H σ sl x S e1 _ fun v F1 H1 x1 r1 => ?_
  refine h1 H0 F0 F1 H1 σ sl lo (S.grow x1) e2 _ fun F2 H2 x2 => ?_
  refine h2 H0 F0 F2 H2 σ sl hi (S.grow (x1.trans x2)) e3 _ fun F3 H3 x3 => ?_
  cases x with
  | list ds =>
    cases e
    have r := r1.grow (x2.trans x3)
    have X := (x1.trans x2).trans x3
    obtain ⟨a, vs, rfl, h4, h5⟩ := r.lst x3.fh
    exact ⟨a, vs, rfl, h4, fun p hp => q p F3 _ (X.trans (.fresh x3.fh hp)) (X.hh.free hp) (x3.fh.free hp) (.lst upd_same (cut_reps h5))⟩
  | _ => cases e
theorem ev_sl {tl th : TO} {g h : Sls → Option (Option Int)} (ha : EvV K ta fa) (h1 : EvO K tl g) (h2 : EvO K th h) : EvD K (tSl (rSlL K.fr) ta tl th) (dSl fa g h) := (en_sl ha h1 h2).d
end
end G

namespace G
open PySem PySem.Spec L2

/-! ### statements -/
inductive Fl where
  | nx (s : Sls) | bk (s : Sls) | ct (s : Sls) | rt (d : D) | ro (d : D)
def Sat (K : Kx) (H0 F0 F1 : Hp) (E : Ends) : Fl → Prop
  | .nx s => ∀ F H σ, Same F1 F → Stt K H0 F0 F H σ s → E.nx σ H
  | .bk s => ∀ F H σ, Same F1 F → Stt K H0 F0 F H σ s → E.bk σ H
  | .ct s => ∀ F H σ, Same F1 F → Stt K H0 F0 F H σ s → E.ct σ H
  | .rt d => ∀ v F H, Ext F0 H0 F H → Rep K F d v → E.rt v H
  | .ro d => ∀ p F H, Ext F0 H0 F H → H0 p = none → F p = none → Own K F H d (.ref p) → E.rt (.ref p) H
theorem Sat.mono {K : Kx} {H0 F0 F1 F2 : Hp} {E : Ends} (e : Same F1 F2) : ∀ {fl : Fl}, Sat K H0 F0 F1 E fl → Sat K H0 F0 F2 E fl
  | .nx _, q => fun F H σ s => q F H σ (e.trans s)
  | .bk _, q => fun F H σ s => q F H σ (e.trans s)
  | .ct _, q => fun F H σ s => q F H σ (e.trans s)
  | .rt _, q => q
  | .ro _, q => q
def RunS (K : Kx) (t : TS) (f : Sls → Option Fl) : Prop := ∀ (H0 F0 F H : Hp) (σ : L2.St) (sl : Sls) (fl : Fl) (E : Ends), Stt K H0 F0 F H σ sl → f sl = some fl → Sat K H0 F0 F E fl → t E σ H

def sNext : Sls → Option Fl := fun sl => some (.nx sl)
def andThen (g : Sls → Option Fl) : Fl → Option Fl
  | .nx s => g s
  | r => some r
def sSeq (f g : Sls → Option Fl) : Sls → Option Fl := fun sl => (f sl).bind (andThen g)
def sRet (f : Sls → Option D) : Sls → Option Fl := fun sl => (f sl).map .rt
def sRetN (f : Sls → Option D) : Sls → Option Fl := fun sl => (f sl).map .ro
def sRet0 : Sls → Option Fl := fun _ => some (.rt .none)
def sRetOwn (i : Nat) : Sls → Option Fl := fun sl => match sl[i]? with
  | some (.own d) => some (.ro d)
  | _ => none
def sDrop (f : Sls → Option D) : Sls → Option Fl := fun sl => (f sl).map fun _ => .nx sl
def sSet (i : Nat) (f : Sls → Option D) : Sls → Option Fl := fun sl => (f sl).map fun d => .nx (sl.set i (.val d))
def sSetN (i : Nat) (f : Sls → Option D) : Sls → Option Fl := fun sl => (f sl).map fun d => .nx (sl.set i (.own d))
def sIf (c : Sls → Option Bool) (f g : Sls → Option Fl) : Sls → Option Fl := fun sl => (c sl).bind fun b => if b = true then f sl else g sl
/-- the own object at a slot is frozen (where it is one) -/
def frz (i : Nat) (f : Sls → Option Fl) : Sls → Option Fl := fun sl => match sl[i]? with
  | some (.own d) => f (sl.set i (.val d))
  | _ => f sl

section
variable {K : Kx} {t u : TS} {te : TE} {f g : Sls → Option Fl} {fe : Sls → Option D}
theorem run_next : RunS K tNext sNext := fun H0 F0 F H σ sl fl E S e q => by
  cases e
  exact q F H σ (Same.refl _) S
theorem run_seq (ht : RunS K t f) (hu : RunS K u g) : RunS K (tSeq t u) (sSeq f g) := by
  intro H0 F0 F H σ sl fl E S e q
  obtain ⟨r, e1, e2⟩ := bind_some e
  refine ht H0 F0 F H σ sl r { E with nx := u E } S e1 ?_
  cases r with
  | nx s => exact fun F1 H1 σ1 sm S1 => hu H0 F0 F1 H1 σ1 s fl E S1 e2 (q.mono sm)
  | bk s => cases e2; exact q
  | ct s => cases e2; exact q
  | rt d => cases e2; exact q
  | ro d => cases e2; exact q
theorem run_ret (h : EvD K te fe) : RunS K (tRet te) (sRet fe) := by
  intro H0 F0 F H σ sl fl E S e q
  obtain ⟨d, e1, rfl⟩ := Option.map_eq_some_iff.mp e
  exact h H0 F0 F H σ sl d S e1 _ fun v F1 H1 x r => q v F1 H1 (S.ext.trans x) r
theorem run_retN (h : EvN K te fe) : RunS K (tRet te) (sRetN fe) := by
  intro H0 F0 F H σ sl fl E S e q
  obtain ⟨d, e1, rfl⟩ := Option.map_eq_some_iff.mp e
  exact h H0 F0 F H σ sl d S e1 _ fun p F1 H1 x hp hf r => q p F1 H1 (S.ext.trans x) (S.ext.hh.free hp) hf r
theorem run_ret0 : RunS K tRetN sRet0 := by
  intro H0 F0 F H σ sl fl E S e q
  cases e
  exact q _ F H S.ext .non
theorem run_retOwn (i : Nat) : RunS K (tRet (tVar i)) (sRetOwn i) := by
  intro H0 F0 F H σ sl fl E S e q
  unfold sRetOwn at e
  split at e
  · rename_i d h
    cases e
    obtain ⟨p, h1, h2, h3, h4⟩ := S.own i d h
    exact ⟨_, h1, q p F H S.ext h4 h3 h2⟩
  · cases e
theorem run_drop (h : EvD K te fe) : RunS K (tDrop te) (sDrop fe) := by
  intro H0 F0 F H σ sl fl E S e q
  obtain ⟨d, e1, rfl⟩ := Option.map_eq_some_iff.mp e
  exact h H0 F0 F H σ sl d S e1 _ fun v F1 H1 x r => q F1 H1 σ x.ff (S.grow x)
theorem run_set (i : Nat) (h : EvD K te fe) : RunS K (tAsg te (gName i)) (sSet i fe) := by
  intro H0 F0 F H σ sl fl E S e q
  obtain ⟨d, e1, rfl⟩ := Option.map_eq_some_iff.mp e
  exact h H0 F0 F H σ sl d S e1 _ fun v F1 H1 x r => q F1 H1 _ x.ff ((S.grow x).put r i)
theorem run_setN (i : Nat) (h : EvN K te fe) : RunS K (tAsg te (gName i)) (sSetN i fe) := by
  intro H0 F0 F H σ sl fl E S e q
  obtain ⟨d, e1, rfl⟩ := Option.map_eq_some_iff.mp e
  refine h H0 F0 F H σ sl d S e1 _ fun p F1 H1 x hp hf r => q F1 H1 _ x.ff ((S.grow x).putOwn r hf (S.ext.hh.free hp) (fun j e hj hv => ?_) i)
  obtain ⟨p', h1, h2, _, _⟩ := S.own j e hj
  obtain ⟨o, ho, _⟩ := h2.kind
  rw [h1] at hv
  cases hv
  rw [hp] at ho
  cases ho
theorem run_if {c : TT} {fc : Sls → Option Bool} (hc : EvT K c fc) (ht : RunS K t f) (hu : RunS K u g) : RunS K (tIfS c t u) (sIf fc f g) := by
  intro H0 F0 F H σ sl fl E S e q
  obtain ⟨b, e1, e2⟩ := bind_some e
  refine hc H0 F0 F H σ sl b S e1 _ fun F1 H1 x => ?_
  cases b with
  | true => exact ht H0 F0 F1 H1 σ sl fl E (S.grow x) e2 (q.mono x.ff)
  | false => exact hu H0 F0 F1 H1 σ sl fl E (S.grow x) e2 (q.mono x.ff)
theorem run_frz (i : Nat) (ht : RunS K t f) : RunS K t (frz i f) := by
  intro H0 F0 F H σ sl fl E S e q
  unfold frz at e
  split at e
  · rename_i d h
    obtain ⟨F', _, ff, S'⟩ := S.freeze h
    exact ht H0 F0 F' H σ _ fl E S' e (q.mono ff)
  · exact ht H0 F0 F H σ _ fl E S e q

/-! ### targets -/
def EvG (K : Kx) (g : TG) (gs : D → Sls → Option Sls) (ws : List Nat) : Prop := ∀ (H0 F0 F H : Hp) (σ : L2.St) (sl sl' : Sls) (d : D) (v : V), Stt K H0 F0 F H σ sl → Rep K F d v → gs d sl = some sl' → ∀ Q : L2.St → Hp → Prop,
  (∀ σ', Stt K H0 F0 F H σ' sl' → σ'.length = σ.length → (∀ j, j ∉ ws → σ'[j]? = σ[j]?) → (∀ (j : Nat) (d : D), sl'[j]? = some (SV.own d) → sl[j]? = some (SV.own d) ∧ σ'[j]? = σ[j]?) → Q σ' H) → g v σ H Q
def EvGs (K : Kx) (g : TGs) (gs : List D → Sls → Option Sls) (ws : List Nat) : Prop := ∀ (H0 F0 F H : Hp) (σ : L2.St) (sl sl' : Sls) (ds : List D) (vs : List V), Stt K H0 F0 F H σ sl → Reps K F ds vs → gs ds sl = some sl' → ∀ Q : L2.St → Hp → Prop,
  (∀ σ', Stt K H0 F0 F H σ' sl' → σ'.length = σ.length → (∀ j, j ∉ ws → σ'[j]? = σ[j]?) → (∀ (j : Nat) (d : D), sl'[j]? = some (SV.own d) → sl[j]? = some (SV.own d) ∧ σ'[j]? = σ[j]?) → Q σ' H) → g vs σ H Q
def tgName (i : Nat) : D → Sls → Option Sls := fun d sl => some (sl.set i (.val d))
def tgNil : List D → Sls → Option Sls := fun ds sl => match ds with
  | [] => some sl
  | _ => none
def tgCons (g : D → Sls → Option Sls) (r : List D → Sls → Option Sls) : List D → Sls → Option Sls := fun ds sl => match ds with
  | d :: ds => (g d sl).bind (r ds)
  | [] => none
def tgTup (n : Nat) (r : List D → Sls → Option Sls) : D → Sls → Option Sls := fun d sl => match d with
  | .tuple ds => if ds.length = n then r ds sl else none
  | _ => none
theorem eg_name (i : Nat) : EvG K (gName i) (tgName i) [i] := by
  intro H0 F0 F H σ sl sl' d v S r e Q q
  cases e
  exact q _ (S.put r i) (List.length_set ..) (fun j hj => List.getElem?_set_ne (fun z => hj (by rw [z]; exact List.mem_cons_self))) fun j e h => by
    rcases set_get h with ⟨_, z⟩ | ⟨ne, z⟩
    · cases z
    · exact ⟨z, List.getElem?_set_ne ne⟩
theorem egs_nil : EvGs K gNil tgNil [] := by
  intro H0 F0 F H σ sl sl' ds vs S r e Q q
  cases r with
  | nil =>
    cases e
    exact ⟨rfl, q _ S rfl (fun _ _ => rfl) fun _ _ h => ⟨h, rfl⟩⟩
  | cons _ _ => cases e
theorem egs_cons {g : TG} {r : TGs} {gs : D → Sls → Option Sls} {rs : List D → Sls → Option Sls} {w ws : List Nat} (hg : EvG K g gs w) (hr : EvGs K r rs ws) : EvGs K (gCons g r) (tgCons gs rs) (w ++ ws) := by
  intro H0 F0 F H σ sl sl' ds vs S k e Q q
  cases k with
  | nil => cases e
  | cons k1 k2 =>
    obtain ⟨s, e1, e2⟩ := bind_some e
    refine ⟨_, _, rfl, hg H0 F0 F H σ sl s _ _ S k1 e1 _ fun σ1 S1 l1 o1 n1 => ?_⟩
    refine hr H0 F0 F H σ1 s sl' _ _ S1 k2 e2 Q fun σ2 S2 l2 o2 n2 => q σ2 S2 (l2.trans l1) (fun j hj => ?_) fun j d h => ⟨(n1 j d (n2 j d h).1).1, (n2 j d h).2.trans (n1 j d (n2 j d h).1).2⟩
    rw [List.mem_append, not_or] at hj
    exact (o2 j hj.2).trans (o1 j hj.1)
theorem eg_tup {r : TGs} {rs : List D → Sls → Option Sls} {ws : List Nat} {n : Nat} (hr : EvGs K r rs ws) : EvG K (L2.gTup K.fr n r) (tgTup n rs) ws := by
  intro H0 F0 F H σ sl sl' d v S k e Q q
  unfold tgTup at e
  split at e
  · split at e
    · rename_i ds hn
      obtain ⟨a, vs, rfl, h1, h2⟩ := (View.rep k).tup S.fh
      exact ⟨a, vs, rfl, h1, by rw [← h2.length]; exact hn, hr H0 F0 F H σ sl sl' ds vs S h2 e Q q⟩
    · cases e
  · cases e
def sAsg (gs : D → Sls → Option Sls) (f : Sls → Option D) : Sls → Option Fl := fun sl => (f sl).bind fun d => (gs d sl).map .nx
theorem run_asg {g : TG} {gs : D → Sls → Option Sls} {ws : List Nat} (h : EvD K te fe) (hg : EvG K g gs ws) : RunS K (tAsg te g) (sAsg gs fe) := by
  intro H0 F0 F H σ sl fl E S e q
  obtain ⟨d, e1, e2⟩ := bind_some e
  obtain ⟨s, e3, rfl⟩ := Option.map_eq_some_iff.mp e2
  refine h H0 F0 F H σ sl d S e1 _ fun v F1 H1 x r => ?_
  exact hg H0 F0 F1 H1 σ sl s d v (S.grow x) r e3 _ fun σ' S' _ _ _ => q F1 H1 σ' x.ff S'
/-- a, b = x, y -/
def sPar (i j : Nat) (fa : Sls → Option (List D)) : Sls → Option Fl := fun sl => (fa sl).bind fun ds => match ds with
  | [d, e] => some (.nx ((sl.set i (.val d)).set j (.val e)))
  | _ => none
theorem run_par {i j : Nat} {ta : TA} {fa : Sls → Option (List D)} (h : EvA K ta fa) : RunS K (tPar i j ta) (sPar i j fa) := by
  intro H0 F0 F H σ sl fl E S e q
  obtain ⟨ds, e1, e2⟩ := bind_some e
  refine h H0 F0 F H σ sl ds S e1 _ fun vs F1 H1 x r => ?_
  split at e2
  · cases e2
    cases r with
    | cons r1 r2 =>
      cases r2 with
      | cons r2 r3 =>
        cases r3
        exact ⟨_, _, rfl, q F1 H1 _ x.ff (((S.grow x).put r1 i).put r2 j)⟩
  · cases e2

/-! ### what is walked -/
/-- the iterator J gives the data ds one by one, wherever what is frozen now stays so -/
def Gives (K : Kx) (J : It) (ds : List D) (F1 : Hp) : Prop := ∀ (F H : Hp), Same F1 F → Same F H → (∀ i, i < ds.length → J.go i H) ∧ J.stop ds.length H ∧ ∀ i x H' d, ds[i]? = some d → J.yld i H x H' → ∃ F', Ext F H F' H' ∧ Rep K F' d x
/-- .. wherever all stays as it is now -/
def GivesC (K : Kx) (J : It) (ds : List D) (F1 H1 : Hp) : Prop := ∀ (F H : Hp), Ext F1 H1 F H → (∀ i, i < ds.length → J.go i H) ∧ J.stop ds.length H ∧ ∀ i x H' d, ds[i]? = some d → J.yld i H x H' → ∃ F', Ext F H F' H' ∧ Rep K F' d x
def EvI (K : Kx) (wi : TI) (fi : Sls → Option (List D)) : Prop := ∀ (H0 F0 F H : Hp) (σ : L2.St) (sl : Sls) (ds : List D), Stt K H0 F0 F H σ sl → fi sl = some ds → ∀ R : It → Hp → Prop, (∀ J F' H', Ext F H F' H' → Gives K J ds F' → R J H') → wi σ H R
def EvC (K : Kx) (wi : TI) (fi : Sls → Option (List D)) : Prop := ∀ (H0 F0 F H : Hp) (σ : L2.St) (sl : Sls) (ds : List D), Stt K H0 F0 F H σ sl → fi sl = some ds → ∀ R : It → Hp → Prop, (∀ J F' H', Ext F H F' H' → GivesC K J ds F' H' → R J H') → wi σ H R
theorem EvI.c {wi : TI} {fi : Sls → Option (List D)} (h : EvI K wi fi) : EvC K wi fi := fun H0 F0 F H σ sl ds S e R q => h H0 F0 F H σ sl ds S e R fun J F' H' x g => q J F' H' x fun F2 H2 y => g F2 H2 y.ff y.fh
def iLst (f : Sls → Option D) : Sls → Option (List D) := fun sl => (f sl).bind fun d => match d with
  | .list ds => some ds
  | _ => none
def iTpl (f : Sls → Option D) : Sls → Option (List D) := fun sl => (f sl).bind fun d => match d with
  | .tuple ds => some ds
  | _ => none
theorem gives_list {a : Addr} {vs : List V} {ds : List D} {F1 : Hp} (h : SqL K.fr F1 a vs) (r : Reps K F1 ds vs) : Gives K (Itl K.fr a) ds F1 := by
  intro F H s1 s2
  have hL : SqL K.fr H a vs := sqL_same (s1.trans s2) h
  refine ⟨fun i hi => ?_, ⟨vs, hL, by rw [← r.length]; exact Nat.le_refl _⟩, fun i x H' d hd hy => ?_⟩
  · have : i < vs.length := by rw [← r.length]; exact hi
    exact ⟨vs, vs[i], hL, List.getElem?_eq_getElem this⟩
  · obtain ⟨rfl, hy⟩ := hy
    obtain ⟨v, h1, h2⟩ := r.get hd
    have : some v = some x := by rw [← h1, ← hy vs hL]
    cases this
    exact ⟨F, .refl s2, h2.mono s1⟩
theorem gives_tup {a : Addr} {vs : List V} {ds : List D} {F1 : Hp} (h : SqT K.fr F1 a vs) (r : Reps K F1 ds vs) : Gives K (Itt K.fr a) ds F1 := by
  intro F H s1 s2
  have hL : SqT K.fr H a vs := sqT_same (s1.trans s2) h
  refine ⟨fun i hi => ?_, ⟨vs, hL, by rw [← r.length]; exact Nat.le_refl _⟩, fun i x H' d hd hy => ?_⟩
  · have : i < vs.length := by rw [← r.length]; exact hi
    exact ⟨vs, vs[i], hL, List.getElem?_eq_getElem this⟩
  · obtain ⟨rfl, hy⟩ := hy
    obtain ⟨v, h1, h2⟩ := r.get hd
    have : some v = some x := by rw [← h1, ← hy vs hL]
    cases this
    exact ⟨F, .refl s2, h2.mono s1⟩
theorem ei_list (h : EvD K te fe) : EvI K (iList K.fr te) (iLst fe) := by
  intro H0 F0 F H σ sl ds S e R q
  obtain ⟨d, e1, e2⟩ := bind_some e
  refine h H0 F0 F H σ sl d S e1 _ fun v F1 H1 x r => ?_
  split at e2
  · cases e2
    cases r with
    | lst r1 r2 => exact ⟨_, rfl, ⟨_, sqL_same x.fh r1⟩, q _ F1 H1 x (gives_list r1 r2)⟩
  · cases e2
theorem ei_tup (h : EvD K te fe) : EvI K (iTup K.fr te) (iTpl fe) := by
  intro H0 F0 F H σ sl ds S e R q
  obtain ⟨d, e1, e2⟩ := bind_some e
  refine h H0 F0 F H σ sl d S e1 _ fun v F1 H1 x r => ?_
  split at e2
  · cases e2
    cases r with
    | tup r1 r2 => exact ⟨_, rfl, ⟨_, .of (x.fh _ _ r1)⟩, q _ F1 H1 x (gives_tup (.of r1) r2)⟩
    | tupK c r1 r2 => exact ⟨_, rfl, ⟨_, sqT_same (same_no _) r1⟩, q _ F1 H1 x (gives_tup (sqT_same (same_no _) r1) r2)⟩
  · cases e2
/-- a list of one's own, walked in a comprehension -/
theorem ec_list (h : EvV K te fe) : EvC K (iList K.fr te) (iLst fe) := by
  intro H0 F0 F H σ sl ds S e R q
  obtain ⟨d, e1, e2⟩ := bind_some e
  refine h H0 F0 F H σ sl d S e1 _ fun v F1 H1 x r => ?_
  split at e2
  · cases e2
    obtain ⟨a, vs, rfl, h1, h2⟩ := r.lst x.fh
    refine ⟨a, rfl, ⟨_, h1⟩, q _ F1 H1 x fun F2 H2 y => ?_⟩
    have hL : SqL K.fr H2 a vs := sqL_same y.hh h1
    refine ⟨fun i hi => ?_, ⟨vs, hL, by rw [← h2.length]; exact Nat.le_refl _⟩, fun i x H' d hd hy => ?_⟩
    · have : i < vs.length := by rw [← h2.length]; exact hi
      exact ⟨vs, vs[i], hL, List.getElem?_eq_getElem this⟩
    · obtain ⟨rfl, hy⟩ := hy
      obtain ⟨v, h3, h4⟩ := h2.get hd
      have : some v = some x := by rw [← h3, ← hy vs hL]
      cases this
      exact ⟨F2, .refl y.fh, h4.mono y.ff⟩
  · cases e2
/-- range(n), range(a, b) -/
def rangeD (lo : Int) (n : Nat) : List D := (List.range n).map fun (i : Nat) => PyData.int (lo + (i : Int))
theorem rangeD_get {lo : Int} {n i : Nat} {d : D} (h : (rangeD lo n)[i]? = some d) : d = .int (lo + i) := by
  unfold rangeD at h
  rw [List.getElem?_map] at h
  obtain ⟨j, h1, rfl⟩ := Option.map_eq_some_iff.mp h
  obtain ⟨h2, h3⟩ := List.getElem?_eq_some_iff.mp h1
  rw [List.getElem_range] at h3
  rw [h3]
theorem gives_range {lo : Int} {n : Nat} {F1 : Hp} : Gives K (Itr lo n) (rangeD lo n) F1 := by
  intro F H s1 s2
  have hl : (rangeD lo n).length = n := by unfold rangeD; rw [List.length_map, List.length_range]
  refine ⟨fun i hi => by rw [hl] at hi; exact hi, by rw [hl]; exact Nat.le_refl _, fun i x H' d hd hy => ?_⟩
  obtain ⟨rfl, rfl⟩ := hy
  rw [rangeD_get hd]
  exact ⟨F, .refl s2, .int _⟩
def iRange (f : Sls → Option (List D)) : Sls → Option (List D) := fun sl => (f sl).bind fun ds => match ds with
  | [.int j] => if -1000000 ≤ j ∧ j ≤ 1000000 then some (rangeD 0 j.toNat) else none
  | [.int i, .int j] => if -(2 ^ 62) ≤ i ∧ i < 2 ^ 62 ∧ -(2 ^ 62) ≤ j ∧ j < 2 ^ 62 then some (rangeD i (j - i).toNat) else none
  | _ => none
theorem ei_range1 {ta : TA} {fa : Sls → Option (List D)} (h : EvA K ta fa) (h1 : ∀ sl ds, fa sl = some ds → ds.length = 1) : EvI K (iRng1 ta) (iRange fa) := by
  intro H0 F0 F H σ sl ds S e R q
  obtain ⟨xs, e1, e2⟩ := bind_some e
  refine h H0 F0 F H σ sl xs S e1 _ fun vs F1 H1 x r => ?_
  have hl := h1 sl xs e1
  split at e2
  · split at e2
    · rename_i hj
      cases e2
      cases r with
      | cons r1 r2 =>
        cases r1
        cases r2
        exact ⟨_, rfl, by omega, by omega, q _ F1 H1 x gives_range⟩
    · cases e2
  · simp at hl
  · cases e2
theorem ei_range2 {ta : TA} {fa : Sls → Option (List D)} (h : EvA K ta fa) (h1 : ∀ sl ds, fa sl = some ds → ds.length = 2) : EvI K (iRng2 ta) (iRange fa) := by
  intro H0 F0 F H σ sl ds S e R q
  obtain ⟨xs, e1, e2⟩ := bind_some e
  refine h H0 F0 F H σ sl xs S e1 _ fun vs F1 H1 x r => ?_
  have hl := h1 sl xs e1
  split at e2
  · simp at hl
  · split at e2
    · rename_i hj
      cases e2
      cases r with
      | cons r1 r2 =>
        cases r1
        cases r2 with
        | cons r2 r3 =>
          cases r2
          cases r3
          exact ⟨_, _, rfl, hj, q _ F1 H1 x gives_range⟩
    · cases e2
  · cases e2
theorem len1 {fa : Sls → Option D} : ∀ sl ds, dCons fa dNil sl = some ds → ds.length = 1 := fun sl ds h => by
  obtain ⟨x, _, h⟩ := bind_some h
  obtain ⟨y, h1, h⟩ := bind_some h
  cases h1
  cases h
  rfl
theorem len2 {fa fb : Sls → Option D} : ∀ sl ds, dCons fa (dCons fb dNil) sl = some ds → ds.length = 2 := fun sl ds h => by
  obtain ⟨x, _, h⟩ := bind_some h
  obtain ⟨y, h1, h⟩ := bind_some h
  cases h
  rw [List.length_cons, len1 _ _ h1]

/-! ### for and while -/
def forL (gs : D → Sls → Option Sls) (fb : Sls → Option Fl) : List D → Sls → Option Fl
  | [], sl => some (.nx sl)
  | x :: xs, sl => (gs x sl).bind fun s => (fb s).bind fun r => match r with
    | .nx s' => forL gs fb xs s'
    | .ct s' => forL gs fb xs s'
    | .bk s' => some (.nx s')
    | .rt d => some (.rt d)
    | .ro d => some (.ro d)
def sFor (fi : Sls → Option (List D)) (gs : D → Sls → Option Sls) (fb : Sls → Option Fl) : Sls → Option Fl := fun sl => (fi sl).bind fun ds => forL gs fb ds sl
theorem drop_get {α : Type} {l : List α} {i : Nat} (h : i < l.length) : ∃ x, l[i]? = some x ∧ l.drop i = x :: l.drop (i + 1) :=
  ⟨l[i], List.getElem?_eq_getElem h, (List.drop_eq_getElem_cons h)⟩
theorem run_for {wi : TI} {fi : Sls → Option (List D)} {g : TG} {gs : D → Sls → Option Sls} {ws : List Nat} {tb : TS} {fb : Sls → Option Fl} (hi : EvI K wi fi) (hg : EvG K g gs ws) (hb : RunS K tb fb) : RunS K (tFor wi g tb) (sFor fi gs fb) := by
  intro H0 F0 F H σ sl fl E S e q
  obtain ⟨ds, e1, e2⟩ := bind_some e
  refine hi H0 F0 F H σ sl ds S e1 _ fun J F1 H1 x G => ?_
  refine ⟨fun i m σ H => m = ds.length - i ∧ i ≤ ds.length ∧ ∃ F sl, Same F1 F ∧ Stt K H0 F0 F H σ sl ∧ forL gs fb (ds.drop i) sl = some fl, ⟨ds.length, by simp, Nat.zero_le _, F1, sl, Same.refl _, S.grow x, e2⟩, ?_⟩
  rintro i m σ2 H2 ⟨rfl, hi', F2, sl2, sm, S2, e3⟩
  obtain ⟨g1, g2, g3⟩ := G F2 H2 sm S2.fh
  by_cases hlt : i < ds.length
  · refine .inr ⟨g1 i hlt, ?_⟩
    obtain ⟨d, hd, hdrop⟩ := drop_get hlt
    rw [hdrop] at e3
    obtain ⟨s, e4, e5⟩ := bind_some (show ((gs d sl2).bind fun s => (fb s).bind fun r => match r with
      | .nx s' => forL gs fb (ds.drop (i + 1)) s'
      | .ct s' => forL gs fb (ds.drop (i + 1)) s'
      | .bk s' => some (.nx s')
      | .rt d => some (.rt d)
      | .ro d => some (.ro d)) = some fl from e3)
    obtain ⟨r, e6, e7⟩ := bind_some e5
    -- what the body is to reach
    refine ⟨fun σ' H' => ∃ F s', Same F1 F ∧ Stt K H0 F0 F H' σ' s' ∧ forL gs fb (ds.drop (i + 1)) s' = some fl, fun σ' H' ⟨F3, s', a, b, c⟩ => ⟨ds.length - (i + 1), by omega, rfl, hlt, F3, s', a, b, c⟩, fun v H' hy => ?_⟩
    obtain ⟨F3, x3, r3⟩ := g3 i v H' d hd hy
    refine hg H0 F0 F3 H' σ2 sl2 s d v (S2.grow x3) r3 e4 _ fun σ4 S4 _ _ _ => ?_
    have sm3 : Same F1 F3 := sm.trans x3.ff
    refine hb H0 F0 F3 H' σ4 s r _ S4 e6 ?_
    cases r with
    | nx s' => exact fun F5 H5 σ5 sm5 S5 => ⟨F5, s', sm3.trans sm5, S5, e7⟩
    | ct s' => exact fun F5 H5 σ5 sm5 S5 => ⟨F5, s', sm3.trans sm5, S5, e7⟩
    | bk s' =>
      cases e7
      exact fun F5 H5 σ5 sm5 S5 => q F5 H5 σ5 ((x.ff.trans sm3).trans sm5) S5
    | rt d' =>
      cases e7
      exact q
    | ro d' =>
      cases e7
      exact q
  · have : i = ds.length := by omega
    subst this
    rw [List.drop_length] at e3
    cases e3
    exact .inl ⟨g2, q F2 H2 σ2 (x.ff.trans sm) S2⟩
end
end G

namespace G
open PySem PySem.Spec L2

/-! ### comprehensions -/
def wipeS (sl : Sls) : List Nat → Sls
  | [] => sl
  | v :: vs => (wipeS sl vs).set v .no
section
variable {K : Kx} {H0 F0 F H F' H' : Hp} {σ : L2.St} {sl : Sls}
theorem Stt.forget (S : Stt K H0 F0 F H σ sl) (i : Nat) : Stt K H0 F0 F H (σ.set i none) (sl.set i .no) := by
  refine ⟨S.ext, by rw [List.length_set, List.length_set, S.len], fun j e h => ?_, fun j e h => ?_, fun j k e e' p h1 h2 h3 h4 => ?_⟩
  · rcases set_get h with ⟨_, z⟩ | ⟨ne, z⟩
    · cases z
    · obtain ⟨u, a, b⟩ := S.val j e z
      exact ⟨u, by rw [List.getElem?_set_ne ne]; exact a, b⟩
  · rcases set_get h with ⟨_, z⟩ | ⟨ne, z⟩
    · cases z
    · obtain ⟨u, a, b⟩ := S.own j e z
      exact ⟨u, by rw [List.getElem?_set_ne ne]; exact a, b⟩
  · rcases set_get h1 with ⟨_, z⟩ | ⟨n1, z1⟩
    · cases z
    · rcases set_get h2 with ⟨_, z⟩ | ⟨n2, z2⟩
      · cases z
      · rw [List.getElem?_set_ne n1] at h3
        rw [List.getElem?_set_ne n2] at h4
        exact S.sep j k e e' p z1 z2 h3 h4
theorem Stt.wipe (S : Stt K H0 F0 F H σ sl) : ∀ vs : List Nat, Stt K H0 F0 F H (L2.wipe σ vs) (wipeS sl vs)
  | [] => S
  | v :: vs => (Stt.wipe S vs).forget v
theorem own_wipe (sl : Sls) (σ : L2.St) {j : Nat} {d : D} : ∀ (vs : List Nat), (wipeS sl vs)[j]? = some (.own d) → sl[j]? = some (.own d) ∧ (L2.wipe σ vs)[j]? = σ[j]?
  | [], h => ⟨h, rfl⟩
  | v :: vs, h => by
    unfold wipeS at h
    rcases set_get h with ⟨_, z⟩ | ⟨ne, z⟩
    · cases z
    · obtain ⟨h1, h2⟩ := own_wipe sl σ vs z
      refine ⟨h1, ?_⟩
      unfold L2.wipe
      rw [List.getElem?_set_ne ne]
      exact h2
/-- the heap grew, but for one new object that no slot owns -/
theorem Stt.shift (S : Stt K H0 F0 F H σ sl) {C : Addr} (ff : Same F F') (hh : ∀ b o, b ≠ C → H b = some o → H' b = some o) (x : Ext F0 H0 F' H') (k : ∀ b o, b ≠ C → H b = some o → F b = none → (∀ xs, o ≠ .tup xs) → F' b = none) (ne : ∀ (i : Nat) (d : D) (p : Addr), sl[i]? = some (.own d) → σ[i]? = some (some (.ref p)) → p ≠ C) : Stt K H0 F0 F' H' σ sl := by
  refine ⟨x, S.len, fun i d h => ?_, fun i d h => ?_, S.sep⟩
  · obtain ⟨v, h1, h2⟩ := S.val i d h
    exact ⟨v, h1, h2.mono ff⟩
  · obtain ⟨p, h1, h2, h3, h4⟩ := S.own i d h
    have hp := ne i d p h h1
    obtain ⟨o, ho, hn⟩ := h2.kind
    refine ⟨p, h1, ?_, k p o hp ho h3 hn, h4⟩
    cases h2 with
    | lst a r => exact .lst (hh _ _ hp a) (r.mono ff)
    | dK a r => exact .dK (hh _ _ hp a) (r.mono ff)
    | dT a r => exact .dT (hh _ _ hp a) (r.mono ff)
theorem wipe_eq {σ τ : L2.St} (hl : σ.length = τ.length) : ∀ {vs : List Nat}, (∀ j, j ∉ vs → σ[j]? = τ[j]?) → L2.wipe σ vs = L2.wipe τ vs := by
  intro vs h
  have key : ∀ (ρ : L2.St) (vs : List Nat) (j : Nat), j ∈ vs → (L2.wipe ρ vs)[j]? = if j < ρ.length then some none else none := by
    intro ρ vs
    induction vs with
    | nil => intro j hj; cases hj
    | cons v vs ih =>
      intro j hj
      unfold L2.wipe
      by_cases e : v = j
      · subst e
        by_cases hlt : v < ρ.length
        · rw [List.getElem?_set_self (by rw [wipe_length]; exact hlt), if_pos hlt]
        · rw [if_neg hlt, List.getElem?_eq_none]
          rw [List.length_set, wipe_length]
          omega
      · rw [List.getElem?_set_ne e]
        exact ih j ((List.mem_cons.mp hj).resolve_left fun z => e z.symm)
  apply List.ext_getElem?
  intro j
  by_cases hj : j ∈ vs
  · rw [key σ vs j hj, key τ vs j hj, hl]
  · rw [wipe_out hj, wipe_out hj, h j hj]
theorem wipe_idem (σ : L2.St) (vs : List Nat) : L2.wipe (L2.wipe σ vs) vs = L2.wipe σ vs :=
  wipe_eq (wipe_length σ vs) fun j hj => wipe_out hj
theorem wiped {σ σ2 : L2.St} {ws vs : List Nat} (hs : ∀ j ∈ ws, j ∈ vs) (l : σ2.length = (L2.wipe σ vs).length) (o : ∀ j, j ∉ ws → σ2[j]? = (L2.wipe σ vs)[j]?) : L2.wipe σ2 vs = L2.wipe σ vs := by
  rw [wipe_eq l fun j hj => o j fun z => hj (hs j z)]
  exact wipe_idem σ vs
end

def lcL (gs : D → Sls → Option Sls) (ft : Sls → Option Bool) (fe : Sls → Option D) (sl : Sls) : List D → Option (List D)
  | [] => some []
  | x :: xs => (gs x sl).bind fun s => (ft s).bind fun b => if b = true then (fe s).bind fun y => (lcL gs ft fe sl xs).bind fun ys => some (y :: ys) else lcL gs ft fe sl xs
def dLc (fi : Sls → Option (List D)) (gs : D → Sls → Option Sls) (ft : Sls → Option Bool) (fe : Sls → Option D) (vs : List Nat) : Sls → Option D := fun sl =>
  (fi sl).bind fun ds => (lcL gs ft fe (wipeS sl vs) ds).bind fun ys => if ys.length ≤ 100000 then some (.list ys) else none
def lc2L (gs : D → Sls → Option Sls) (ft : Sls → Option Bool) (fi1 : Sls → Option (List D)) (gs1 : D → Sls → Option Sls) (ft1 : Sls → Option Bool) (fe : Sls → Option D) (vs1 : List Nat) (sl : Sls) : List D → Option (List D)
  | [] => some []
  | x :: xs => (gs x sl).bind fun s => (ft s).bind fun b => if b = true then (fi1 s).bind fun es => (lcL gs1 ft1 fe (wipeS s vs1) es).bind fun us => (lc2L gs ft fi1 gs1 ft1 fe vs1 sl xs).bind fun ys => some (us ++ ys) else lc2L gs ft fi1 gs1 ft1 fe vs1 sl xs
def dLc2 (fi : Sls → Option (List D)) (gs : D → Sls → Option Sls) (ft : Sls → Option Bool) (fi1 : Sls → Option (List D)) (gs1 : D → Sls → Option Sls) (ft1 : Sls → Option Bool) (fe : Sls → Option D) (vs vs1 : List Nat) : Sls → Option D := fun sl =>
  (fi sl).bind fun ds => (lc2L gs ft fi1 gs1 ft1 fe vs1 (wipeS sl vs) ds).bind fun ys => if ys.length ≤ 100000 then some (.list ys) else none

/-- grown, but for the object at C -/
structure ExtC (C : Addr) (F H F' H' : Hp) : Prop where
  ff : Same F F'
  hh : ∀ b o, b ≠ C → H b = some o → H' b = some o
  k : ∀ b o, b ≠ C → H b = some o → F b = none → (∀ xs, o ≠ .tup xs) → F' b = none
theorem Ext.c {F H F' H' : Hp} (x : Ext F H F' H') (C : Addr) : ExtC C F H F' H' := ⟨x.ff, fun b o _ h => x.hh b o h, fun b o _ h f n => x.keeps h n f⟩
theorem ExtC.trans {C : Addr} {F H F1 H1 F2 H2 : Hp} (x : ExtC C F H F1 H1) (y : ExtC C F1 H1 F2 H2) : ExtC C F H F2 H2 :=
  ⟨x.ff.trans y.ff, fun b o n h => y.hh b o n (x.hh b o n h), fun b o n h f t => y.k b o n (x.hh b o n h) (x.k b o n h f t) t⟩
theorem ExtC.upd {C : Addr} {F H F' H' : Hp} {o : HO} (x : ExtC C F H F' H') : ExtC C F H F' (upd H' C o) :=
  ⟨x.ff, fun b o n h => by rw [upd_ne n]; exact x.hh b o n h, x.k⟩
/-- the list that is being made -/
structure Mk (K : Kx) (F1 H1 : Hp) (C : Addr) (F H : Hp) (acc : List D) : Prop where
  ext : Ext F1 H1 F H
  new : H1 C = none
  out : F C = none
  lst : ∃ vs, H C = some (.lst vs) ∧ Reps K F acc vs
section
variable {K : Kx} {F1 H1 F H F' H' : Hp} {C : Addr} {acc : List D}
theorem Mk.start (e : Same F H) (h : H C = none) : Mk K F H C F (upd H C (.lst [])) [] :=
  ⟨.fresh e h, h, e.free h, [], upd_same, .nil⟩
theorem Mk.grow (m : Mk K F1 H1 C F H acc) (x : Ext F H F' H') : Mk K F1 H1 C F' H' acc := by
  obtain ⟨vs, h1, h2⟩ := m.lst
  exact ⟨m.ext.trans x, m.new, x.keeps h1 (fun _ z => nomatch z) m.out, vs, x.hh _ _ h1, h2.mono x.ff⟩
theorem Mk.add (m : Mk K F1 H1 C F H acc) {y : D} {v : V} (r : Rep K F y v) : ∃ vs, H C = some (.lst vs) ∧ vs.length = acc.length ∧ Mk K F1 H1 C F (upd H C (.lst (vs ++ [v]))) (acc ++ [y]) := by
  obtain ⟨vs, h1, h2⟩ := m.lst
  refine ⟨vs, h1, h2.length.symm, ⟨m.ext.ff, fun b o q => ?_, fun b o q => ?_, m.ext.gr⟩, m.new, m.out, _, upd_same, h2.snoc r⟩
  · rw [upd_ne (ne_of_none q m.new)]
    exact m.ext.hh _ _ q
  · rw [upd_ne (ne_of_none q m.out)]
    exact m.ext.fh _ _ q
theorem Mk.done (m : Mk K F1 H1 C F H acc) : Own K F H (.list acc) (.ref C) := by
  obtain ⟨vs, h1, h2⟩ := m.lst
  exact .lst h1 h2
end

section
variable {K : Kx} {wi wi1 : TI} {fi fi1 : Sls → Option (List D)} {g g1 : TG} {gs gs1 : D → Sls → Option Sls} {ws ws1 vs vs1 : List Nat} {tt tt1 : TT} {ft ft1 : Sls → Option Bool} {te : TE} {fe : Sls → Option D}
theorem en_lc (hi : EvC K wi fi) (hg : EvG K g gs ws) (ht : EvT K tt ft) (he : EvD K te fe) (hs : ∀ j ∈ ws, j ∈ vs) : EvN K (tLc wi g tt te vs) (dLc fi gs ft fe vs) := by
  intro H0 F0 F H σ sl d S e Q q
  obtain ⟨ds, e1, e⟩ := bind_some e
  obtain ⟨ys, e2, e⟩ := bind_some e
  split at e
  · rename_i hlen
    cases e
    refine hi H0 F0 F H σ sl ds S e1 _ fun J F1 H1 x1 G C hC => ?_
    refine ⟨fun i m H => m = ds.length - i ∧ i ≤ ds.length ∧ ∃ F2 acc rest, Mk K F1 H1 C F2 H acc ∧ lcL gs ft fe (wipeS sl vs) (ds.drop i) = some rest ∧ acc ++ rest = ys, ⟨ds.length, by simp, Nat.zero_le _, F1, [], ys, .start x1.fh hC, e2, rfl⟩, ?_⟩
    rintro i m H2 ⟨rfl, hi', F2, acc, rest, M, e3, e4⟩
    obtain ⟨g1, g2, g3⟩ := G F2 H2 M.ext
    by_cases hlt : i < ds.length
    · refine .inr ⟨g1 i hlt, ?_⟩
      obtain ⟨d, hd, hdrop⟩ := drop_get hlt
      rw [hdrop] at e3
      obtain ⟨s, e5, e6⟩ := bind_some (show ((gs d (wipeS sl vs)).bind fun s => (ft s).bind fun b => if b = true then (fe s).bind fun y => (lcL gs ft fe (wipeS sl vs) (ds.drop (i + 1))).bind fun ys => some (y :: ys) else lcL gs ft fe (wipeS sl vs) (ds.drop (i + 1))) = some rest from e3)
      obtain ⟨b, e7, e8⟩ := bind_some e6
      refine ⟨fun H' => ∃ F3 acc rest, Mk K F1 H1 C F3 H' acc ∧ lcL gs ft fe (wipeS sl vs) (ds.drop (i + 1)) = some rest ∧ acc ++ rest = ys, fun H' ⟨F3, a, r, h1, h2, h3⟩ => ⟨ds.length - (i + 1), by omega, rfl, hlt, F3, a, r, h1, h2, h3⟩, fun v H' hy => ?_⟩
      obtain ⟨F3, x3, r3⟩ := g3 i v H' d hd hy
      have S3 := (S.grow (x1.trans (M.ext.trans x3))).wipe vs
      refine hg H0 F0 F3 H' _ _ s d v S3 r3 e5 _ fun σ4 S4 l4 o4 n4 => ⟨wiped hs l4 o4, ?_⟩
      refine ht H0 F0 F3 H' σ4 s b S4 e7 _ fun F4 H4 x4 => ?_
      have M4 := (M.grow x3).grow x4
      cases b with
      | false => exact ⟨F4, acc, rest, M4, e8, e4⟩
      | true =>
        obtain ⟨y, e9, e10⟩ := bind_some (show ((fe s).bind fun y => (lcL gs ft fe (wipeS sl vs) (ds.drop (i + 1))).bind fun ys => some (y :: ys)) = some rest from e8)
        obtain ⟨r', e11, e12⟩ := bind_some e10
        cases e12
        refine he H0 F0 F4 H4 σ4 s y (S4.grow x4) e9 _ fun w F5 H5 x5 r5 => ?_
        obtain ⟨us, h1, h2, M5⟩ := (M4.grow x5).add r5
        refine ⟨us, h1, Nat.lt_of_lt_of_le ?_ (line_of (n := ys.length) hlen), F5, _, r', M5, e11, by rw [List.append_assoc]; exact e4⟩
        rw [h2, ← e4, List.length_append, List.length_cons]
        omega
    · have : i = ds.length := by omega
      subst this
      rw [List.drop_length] at e3
      cases e3
      rw [List.append_nil] at e4
      subst e4
      exact .inl ⟨g2, q C F2 H2 (x1.trans M.ext) (x1.hh.free hC) M.out M.done⟩
  · cases e
theorem lcL_step {x : D} {xs : List D} {sl : Sls} : lcL gs ft fe sl (x :: xs) = (gs x sl).bind fun s => (ft s).bind fun b => if b = true then (fe s).bind fun y => (lcL gs ft fe sl xs).bind fun ys => some (y :: ys) else lcL gs ft fe sl xs := rfl
theorem lc2L_step {x : D} {xs : List D} {sl : Sls} : lc2L gs ft fi1 gs1 ft1 fe vs1 sl (x :: xs) = (gs x sl).bind fun s => (ft s).bind fun b => if b = true then (fi1 s).bind fun es => (lcL gs1 ft1 fe (wipeS s vs1) es).bind fun us => (lc2L gs ft fi1 gs1 ft1 fe vs1 sl xs).bind fun ys => some (us ++ ys) else lc2L gs ft fi1 gs1 ft1 fe vs1 sl xs := rfl
theorem en_lc2 (hi : EvC K wi fi) (hg : EvG K g gs ws) (ht : EvT K tt ft) (hi1 : EvI K wi1 fi1) (hg1 : EvG K g1 gs1 ws1) (ht1 : EvT K tt1 ft1) (he : EvD K te fe) (hs : ∀ j ∈ ws, j ∈ vs) (hs1 : ∀ j ∈ ws1, j ∈ vs1) : EvN K (tLc2 wi g tt wi1 g1 tt1 te vs vs1) (dLc2 fi gs ft fi1 gs1 ft1 fe vs vs1) := by
  intro H0 F0 F H σ sl d S e Q q
  obtain ⟨ds, e1, e⟩ := bind_some e
  obtain ⟨ys, e2, e⟩ := bind_some e
  split at e
  · rename_i hlen
    cases e
    refine hi H0 F0 F H σ sl ds S e1 _ fun J F1 H1 x1 G C hC => ?_
    refine ⟨fun i m H => m = ds.length - i ∧ i ≤ ds.length ∧ ∃ F2 acc rest, Mk K F1 H1 C F2 H acc ∧ lc2L gs ft fi1 gs1 ft1 fe vs1 (wipeS sl vs) (ds.drop i) = some rest ∧ acc ++ rest = ys, ⟨ds.length, by simp, Nat.zero_le _, F1, [], ys, .start x1.fh hC, e2, rfl⟩, ?_⟩
    rintro i m H2 ⟨rfl, hi', F2, acc, rest, M, e3, e4⟩
    obtain ⟨g1, g2, g3⟩ := G F2 H2 M.ext
    by_cases hlt : i < ds.length
    · refine .inr ⟨g1 i hlt, ?_⟩
      obtain ⟨d, hd, hdrop⟩ := drop_get hlt
      rw [hdrop, lc2L_step] at e3
      obtain ⟨s, e5, e6⟩ := bind_some e3
      obtain ⟨b, e7, e8⟩ := bind_some e6
      refine ⟨fun H' => ∃ F3 acc rest, Mk K F1 H1 C F3 H' acc ∧ lc2L gs ft fi1 gs1 ft1 fe vs1 (wipeS sl vs) (ds.drop (i + 1)) = some rest ∧ acc ++ rest = ys, fun H' ⟨F3, a, r, h1, h2, h3⟩ => ⟨ds.length - (i + 1), by omega, rfl, hlt, F3, a, r, h1, h2, h3⟩, fun v H' hy => ?_⟩
      obtain ⟨F3, x3, r3⟩ := g3 i v H' d hd hy
      have S3 := (S.grow (x1.trans (M.ext.trans x3))).wipe vs
      refine hg H0 F0 F3 H' _ _ s d v S3 r3 e5 _ fun σ4 S4 l4 o4 n4 => ⟨wiped hs l4 o4, ?_⟩
      refine ht H0 F0 F3 H' σ4 s b S4 e7 _ fun F4 H4 x4 => ?_
      have M4 := (M.grow x3).grow x4
      cases b with
      | false => exact ⟨F4, acc, rest, M4, e8, e4⟩
      | true =>
        rw [if_pos rfl] at e8
        obtain ⟨es, e9, e10⟩ := bind_some e8
        obtain ⟨us, e11, e12⟩ := bind_some e10
        obtain ⟨r', e13, e14⟩ := bind_some e12
        cases e14
        have own4 : ∀ (i : Nat) (d : D) (p : Addr), s[i]? = some (.own d) → σ4[i]? = some (some (.ref p)) → p ≠ C := fun i d p a b z => by
          obtain ⟨a1, a2⟩ := n4 i d a
          obtain ⟨a3, a4⟩ := own_wipe sl σ vs a1
          obtain ⟨p', b1, b2, _, _⟩ := S.own i d a3
          rw [a2, a4, b1] at b
          cases b
          obtain ⟨o, b3, _⟩ := b2.kind
          rw [z, x1.hh.free hC] at b3
          cases b3
        refine hi1 H0 F0 F4 H4 σ4 s es (S4.grow x4) e9 _ fun J1 F5 H5 x5 G1 => ?_
        refine ⟨fun j m H => m = es.length - j ∧ j ≤ es.length ∧ ∃ F2 acc rest, ExtC C F5 H5 F2 H ∧ Mk K F1 H1 C F2 H acc ∧ lcL gs1 ft1 fe (wipeS s vs1) (es.drop j) = some rest ∧ acc ++ rest ++ r' = ys, ⟨es.length, by simp, Nat.zero_le _, F5, acc, us, (Ext.refl x5.fh).c C, M4.grow x5, e11, by rw [List.append_assoc]; exact e4⟩, ?_⟩
        rintro j k H6 ⟨rfl, hj, F6, acc', rest', X6, M6, e15, e16⟩
        obtain ⟨k1, k2, k3⟩ := G1 F6 H6 X6.ff M6.ext.fh
        by_cases hlt1 : j < es.length
        · refine .inr ⟨k1 j hlt1, ?_⟩
          obtain ⟨d1, hd1, hdrop1⟩ := drop_get hlt1
          rw [hdrop1, lcL_step] at e15
          obtain ⟨s1, e17, e18⟩ := bind_some e15
          obtain ⟨b1, e19, e20⟩ := bind_some e18
          refine ⟨fun H' => ∃ F3 acc rest, ExtC C F5 H5 F3 H' ∧ Mk K F1 H1 C F3 H' acc ∧ lcL gs1 ft1 fe (wipeS s vs1) (es.drop (j + 1)) = some rest ∧ acc ++ rest ++ r' = ys, fun H' ⟨F3, a, r, h0, h1, h2, h3⟩ => ⟨es.length - (j + 1), by omega, rfl, hlt1, F3, a, r, h0, h1, h2, h3⟩, fun v1 H' hy1 => ?_⟩
          obtain ⟨F7, x7, r7⟩ := k3 j v1 H' d1 hd1 hy1
          have X7 := ((x4.trans x5).c C).trans (X6.trans (x7.c C))
          have S7 := (S4.shift (C := C) X7.ff X7.hh (S.ext.trans (x1.trans (M6.ext.trans x7))) X7.k (fun i d p a b => own4 i d p a b)).wipe vs1
          refine hg1 H0 F0 F7 H' _ _ s1 d1 v1 S7 r7 e17 _ fun σ8 S8 l8 o8 _ => ⟨wiped hs1 l8 o8, ?_⟩
          refine ht1 H0 F0 F7 H' σ8 s1 b1 S8 e19 _ fun F8 H8 x8 => ?_
          have M8 := (M6.grow x7).grow x8
          cases b1 with
          | false => exact ⟨F8, acc', rest', (X6.trans (x7.c C)).trans (x8.c C), M8, e20, e16⟩
          | true =>
            rw [if_pos rfl] at e20
            obtain ⟨y, e21, e22⟩ := bind_some e20
            obtain ⟨r'', e23, e24⟩ := bind_some e22
            cases e24
            refine he H0 F0 F8 H8 σ8 s1 y (S8.grow x8) e21 _ fun w F9 H9 x9 r9 => ?_
            obtain ⟨us', h1, h2, M9⟩ := (M8.grow x9).add r9
            refine ⟨us', h1, Nat.lt_of_lt_of_le ?_ (line_of (n := ys.length) hlen), F9, _, r'', ((X6.trans (x7.c C)).trans ((x8.trans x9).c C)).upd, M9, e23, by rw [← e16, List.append_assoc acc']; rfl⟩
            rw [h2, ← e16]
            simp only [List.length_append, List.length_cons]
            omega
        · have : j = es.length := by omega
          subst this
          rw [List.drop_length] at e15
          cases e15
          rw [List.append_nil] at e16
          exact .inl ⟨k2, F6, acc', r', M6, e13, e16⟩
    · have : i = ds.length := by omega
      subst this
      rw [List.drop_length] at e3
      cases e3
      rw [List.append_nil] at e4
      subst e4
      exact .inl ⟨g2, q C F2 H2 (x1.trans M.ext) (x1.hh.free hC) M.out M.done⟩
  · cases e
end
end G

namespace G
open PySem PySem.Spec L2
open PyProof.Rows (envOfC)

/-! ### a list of one's own is changed -/
def sAppend (i : Nat) (f : Sls → Option (List D)) : Sls → Option Fl := fun sl => match sl[i]? with
  | some (.own (.list ds)) => (f sl).bind fun xs => match xs with
    | [x] => if ds.length < 100000 then some (.nx (sl.set i (.own (.list (ds ++ [x]))))) else none
    | _ => none
  | _ => none
def sExtend (i : Nat) (f : Sls → Option D) : Sls → Option Fl := fun sl => match sl[i]? with
  | some (.own (.list ds)) => (f sl).bind fun x => match x with
    | .list es => if ds.length + es.length ≤ 100000 then some (.nx (sl.set i (.own (.list (ds ++ es))))) else none
    | _ => none
  | _ => none
section
variable {K : Kx} {te : TE} {ta : TA} {fa : Sls → Option (List D)} {f : Sls → Option D}
theorem run_append (i : Nat) (ha : EvA K ta fa) : RunS K (tDrop (tBM K.fr "list" rAppend (tVar i) ta)) (sAppend i fa) := by
  intro H0 F0 F H σ sl fl E S e q
  unfold sAppend at e
  split at e
  · rename_i ds h
    obtain ⟨xs, e1, e2⟩ := bind_some e
    split at e2
    · rename_i x
      split at e2
      · rename_i hl
        cases e2
        obtain ⟨p, h1, h2, h3, h4⟩ := S.own i _ h
        cases h2 with
        | lst h5 h6 =>
          refine ⟨_, h1, .inl ⟨rfl, _, SqL.of h5⟩, ?_⟩
          refine ha H0 F0 F H σ sl [x] S e1 _ fun vs F1 H1 x1 r1 => ?_
          cases r1 with
          | cons r1 r2 =>
            cases r2
            have hl' := line_lt hl
            rw [h6.length] at hl'
            exact ⟨p, _, _, rfl, rfl, x1.hh _ _ h5, hl', q F1 _ σ x1.ff ((S.grow x1).change h h1 (.lst upd_same ((h6.mono x1.ff).snoc r1)))⟩
      · cases e2
    · cases e2
  · cases e
theorem run_extend (i : Nat) (he : EvN K te f) : RunS K (tDrop (tBM K.fr "list" rExtend (tVar i) (tCons te tNil))) (sExtend i f) := by
  intro H0 F0 F H σ sl fl E S e q
  unfold sExtend at e
  split at e
  · rename_i ds h
    obtain ⟨x, e1, e2⟩ := bind_some e
    split at e2
    · rename_i es
      split at e2
      · rename_i hl
        cases e2
        obtain ⟨p, h1, h2, h3, h4⟩ := S.own i _ h
        cases h2 with
        | lst h5 h6 =>
          refine ⟨_, h1, .inl ⟨rfl, _, SqL.of h5⟩, ?_⟩
          refine he H0 F0 F H σ sl _ S e1 _ fun b F1 H1 x1 hb hf r1 => ?_
          cases r1 with
          | lst k1 k2 =>
            have hl' := line_of hl
            rw [h6.length, k2.length] at hl'
            exact ⟨p, b, _, _, rfl, rfl, x1.hh _ _ h5, k1, hl', q F1 _ σ x1.ff ((S.grow x1).change h h1 (.lst upd_same ((h6.mono x1.ff).app k2)))⟩
      · cases e2
    · cases e2
  · cases e
end

/-! ### defs -/
/-- a def's promise, told by a function, not everywhere defined, over data -/
def spD (K : Kx) (f : List D → Option D) : Sp := fun vs H Q _ => ∃ (F : Hp) (ds : List D) (d : D), Same F H ∧ Reps K F ds vs ∧ f ds = some d ∧ ∀ v F' H', Ext F H F' H' → Rep K F' d v → Q v H'
structure FnG (P : Program) (w : World) (K : PySem.W.Frag) (mg : Str → Option Value) (base : Heap) (k : Nat) (f : Addr) (fd : FuncData) (ps : List Str) (sp : Sp) : Prop where
  len : ∀ vs H Q E, sp vs H Q E → vs.length = ps.length
  run : ∀ (A : Around) (outer : List Env) (s : Shared) (H : Hp) (args : Args) (us : List Value) (vs : List V) (Q : VK) (E : XK), Room k A → A.guards = some [] → Env0 P w K mg base A outer s H → BindsTo s fd args (ps.zip us) → Vals vs us → sp vs H Q E →
    codeAny (model P w) A (.call (.ref f) args) (CR CX0 outer P w H s Q E) s
theorem FnG.mono {P : Program} {w : World} {K : PySem.W.Frag} {mg : Str → Option Value} {base : Heap} {j k : Nat} {f : Addr} {fd : FuncData} {ps : List Str} {sp : Sp} (F : FnG P w K mg base j f fd ps sp) (h : j ≤ k) : FnG P w K mg base k f fd ps sp :=
  ⟨F.len, fun A outer s H args us vs Q E hr => F.run A outer s H args us vs Q E (hr.mono h)⟩
def endD : Fl → Option D
  | .rt d => some d
  | .ro d => some d
  | .nx _ => some .none
  | _ => none
def startS (n : Nat) (ds : List D) : Sls := ds.map SV.val ++ List.replicate (n - ds.length) SV.no
/-- n names, p of them parameters, the body's mirror b -/
def fnD (n p : Nat) (b : Sls → Option Fl) : List D → Option D := fun ds => if ds.length = p then (b (startS n ds)).bind endD else none
theorem stt_start {K : Kx} {F H : Hp} {N : List Str} {ds : List D} {vs : List V} (e : Same F H) (r : Reps K F ds vs) : Stt K H F F H (L2.start N vs) (startS N.length ds) := by
  have hl := r.length
  have get : ∀ {i : Nat} {x : SV}, (startS N.length ds)[i]? = some x → (∃ d, x = .val d ∧ ds[i]? = some d) ∨ x = .no := fun {i x} h => by
    unfold startS at h
    by_cases hi : i < ds.length
    · rw [List.getElem?_append_left (by rw [List.length_map]; exact hi), List.getElem?_map] at h
      obtain ⟨d, h1, h2⟩ := Option.map_eq_some_iff.mp h
      exact .inl ⟨d, h2.symm, h1⟩
    · rw [List.getElem?_append_right (by rw [List.length_map]; omega), List.getElem?_replicate] at h
      split at h
      · cases h
        exact .inr rfl
      · cases h
  refine ⟨.refl e, ?_, fun i d h => ?_, fun i d h => ?_, fun i j d e' p h => ?_⟩
  · unfold L2.start startS
    rw [List.length_append, List.length_append, List.length_map, List.length_map, List.length_replicate, List.length_replicate, hl]
  · rcases get h with ⟨d', h1, h2⟩ | h1
    · cases h1
      obtain ⟨v, h3, h4⟩ := r.get h2
      refine ⟨v, ?_, h4⟩
      unfold L2.start
      rw [List.getElem?_append_left (by rw [List.length_map]; exact get_lt h3), List.getElem?_map, h3]
      rfl
    · cases h1
  · rcases get h with ⟨d', h1, _⟩ | h1 <;> cases h1
  · rcases get h with ⟨d', h1, _⟩ | h1 <;> cases h1
/-- a body's end -/
theorem run_fin {K : Kx} {t : TS} {b : Sls → Option Fl} {N ps : List Str} {vs : List V} {H : Hp} {Q : VK} {E : XK} (h : RunS K t b) (q : spD K (fnD N.length ps.length b) vs H Q E) : t { nx := fun _ H' => Q .non H', rt := Q } (L2.start N vs) H := by
  obtain ⟨F, ds, d, sm, r, e, q⟩ := q
  unfold fnD at e
  split at e
  · obtain ⟨fl, e1, e2⟩ := bind_some e
    refine h H F F H (L2.start N vs) (startS N.length ds) fl _ (stt_start sm r) e1 ?_
    cases fl with
    | nx s =>
      cases e2
      exact fun F' H' σ _ S => q _ F' H' S.ext .non
    | bk s => cases e2
    | ct s => cases e2
    | rt d' =>
      cases e2
      exact fun v F' H' x r => q v F' H' x r
    | ro d' =>
      cases e2
      intro p F' H' x hp hf o
      obtain ⟨u, h1, _⟩ := o.kind
      exact q _ _ _ (x.up hp hf h1) (o.rep (same_new hf) (by rw [upd_same, h1]))
  · cases e
section
variable {P : Program} {w : World} {K : Kx} {mg : Str → Option Value} {base : Heap}
theorem fnG_of {x qual : Str} {st : Stmt} {f : Addr} {fd : FuncData} {N ps : List Str} {k : Nat} {b : Sls → Option Fl} (F : Fun K.fr x qual st f fd) (S : FnScope N ps (defScope st))
    (hbody : ∀ (cdv : Value) (A : Around) (outer : List Env) (s : Shared) (H : Hp) (E : XK), Room k (A.deeper (envOfC qual (defScope st) s.heap.objs.size f cdv)) → (A.deeper (envOfC qual (defScope st) s.heap.objs.size f cdv)).guards = some [] →
      ∃ t, PSs (cxOf CX0 P w K.fr mg base N qual (defScope st) f cdv A outer s H E).nox (defBody st) t ∧ RunS K t b) : FnG P w K.fr mg base (k + 1) f fd ps (spD K (fnD N.length ps.length b)) := by
  obtain ⟨oc, od, kV, doc, pm, an, cdv, ct, osl, rfl, lk, hcd⟩ := F.ex
  have len : ∀ vs H Q E, spD K (fnD N.length ps.length b) vs H Q E → vs.length = ps.length := by
    rintro vs H Q E ⟨F, ds, d, _, r, e, _⟩
    unfold fnD at e
    split at e
    · rename_i h
      rw [← r.length, h]
    · cases e
  refine ⟨len, fun A outer s H args us vs Q E hr hg e0 hb r hsp => ?_⟩
  have hl := len _ _ _ _ hsp
  have KX : K.fr.In s.heap := e0.mod.kin.keeps fun b o e => (e0.bs b o e).1
  have lim : s.heap.NoLimit := e0.mod.nolimit.keeps fun b o e => (e0.bs b o e).1
  have hkind : ∀ y ∈ ps.zip us, (defScope st).names.lookup y.1 = some .local ∨ ((defScope st).names.lookup y.1 = some .cell ∧ ((cellsFrom (s.heap.objs.size + 1) (defScope st).names []).lookup y.1).isSome = true) := fun ⟨n, v⟩ hy => by
    rcases S.par n (List.of_mem_zip hy).1 with q | q
    · exact .inl q
    · exact .inr ⟨q, PySem.W.cellsFrom_some _ _ _ (.inl q)⟩
  refine codeAny_call_function hr.depth (KX _ _ lk) rfl S.co S.gen rfl (PySem.W.codeRec_of KX hcd) (hb _ _ _ _ ?_)
  refine wpAny_newFunctionEnv_cells S.kind hkind fun env he s1 x => ?_
  subst he
  refine ⟨lim.keeps x.toInCall.keep, codeAny_func ?_⟩
  obtain ⟨t, ht, hq⟩ := hbody cdv A outer s H E (hr.deeper _) hg
  have I : Inv (cxOf CX0 P w K.fr mg base N qual (defScope st) f cdv A outer s H E) [] (L2.start N vs) H s1 := inv_start S hr.hd e0 hl r x
  refine wpAny_mono (ht.nox.run [] s1 (L2.start N vs) H _ I (run_fin hq hsp)) (fun fl s' hs => ?_) fun e s' hs => hs
  have fin : ∀ {σ' : L2.St} {H' : Hp} {v : V} {u : Value}, Inv (cxOf CX0 P w K.fr mg base N qual (defScope st) f cdv A outer s H E) [] σ' H' s' → RelV v u → Q v H' → CE outer P w H s Q u s' :=
    fun {σ' H' v u} J rv q => ⟨v, H', J.os, J.bare, J.base, J.hok, rv, q⟩
  cases fl with
  | ret u =>
    obtain ⟨v, σ', H', J, rv, q⟩ := hs
    exact fin J rv q
  | next =>
    obtain ⟨σ', H', J, q⟩ := hs
    exact fin (v := V.non) (u := Value.none) J rfl q
  | brk =>
    obtain ⟨_, _, _, q⟩ := hs
    exact False.elim q
  | cont =>
    obtain ⟨_, _, _, q⟩ := hs
    exact False.elim q
end
section
variable {X : Cx} {k j : Nat} {f : Addr} {fd : FuncData} {ps : List Str} {sp : Sp} {E : XK} {x : Str} {p pos : Pos} {e : Expr} {es : List Expr} {t : TA}
theorem pe_callG (F : FnG X.prog X.w X.K X.mg X.base k f fd ps sp) (hr : Room j X.A) (hkj : k ≤ j) (hgd : X.A.guards = some []) (hg : Gl X x) (hm : X.mg x = some (.ref f)) (hk : PySem.W.keepIn X.K (.ref f) = true) (hb : Binds X.K fd ps [])
    (ha : PA X (e :: es) t) (hdb : (x == ("__debug__" : Str)) = false := by decide) (he : starEach (e :: es) X.env = (false, eval e X.env) :: starEach es X.env := by rfl) (hpl : (backTo pos (starEach es X.env)).any (·.1) = false := by rfl) :
    PE X (.Call (.Name x p) (e :: es) [] pos) (tCall sp [] E0 t) := by
  refine ⟨fun pins s σ H Q I h => ?_⟩
  refine wpAny_Call_Name_kw (ld_glob I hg hm ?_ hdb)
  refine PySem.W.callWith_K (h₀ := X.base) I.ok.mod.kin hk (thn (ha.run pos pins s σ H _ I h) fun us s1 ⟨vs, H1, I1, r, q⟩ => ⟨I1.kIn, ?_⟩) he hpl
  have r2 : Vals (vs ++ []) (us ++ []) := r.append .nil
  have hl : (us ++ []).length = ps.length := by rw [← r2.length]; exact F.len _ _ _ _ q
  refine wpAny_call (codeAny_mono (F.run X.A X.stack s1 H1 ⟨us, []⟩ (us ++ []) (vs ++ []) Q E0 (hr.mono hkj) hgd I1.env0 (hb s1 us I1.kIn hl) r2 q) fun r s' hq => ?_)
  cases r with
  | error e => exact False.elim hq
  | ok fl =>
    cases fl with
    | ret u => exact I1.after hq
    | next => exact False.elim hq
    | brk => exact False.elim hq
    | cont => exact False.elim hq
theorem ev_call {K : Kx} {fn : List D → Option D} {fa : Sls → Option (List D)} {E : XK} (ha : EvA K t fa) : EvD K (tCall (spD K fn) [] E t) (dApp fn fa) := by
  intro H0 F0 F H σ sl d S e Q q
  obtain ⟨ds, e1, e2⟩ := bind_some e
  refine ha H0 F0 F H σ sl ds S e1 _ fun vs F1 H1 x1 r1 => ?_
  rw [List.append_nil]
  exact ⟨F1, ds, d, x1.fh, r1, e2, fun v F' H' x r => q v F' H' (x1.trans x) r⟩
end
end G

/-! sets of texts: the library's rows for sets of ints, turned to texts -/
namespace GS
open PySem PySem.Spec PyProof.Rows L2

def keyS (e : Int × Value) : Str := match e.2 with | .str k _ => k | _ => Str.empty
def GoodS (P : Program) (w : World) (e : Int × Value) : Prop := ∃ k tk, e.2 = Value.str k tk ∧ e.1 = (PySem.strKind P w).hash k
def SetS (P : Program) (w : World) (h : Heap) (a : Addr) (S : Str → Bool) (n : Nat) : Prop :=
  ∃ o es ep t, h.get? a = some o ∧ o.ExactSet ∧ o.data = .set es ep t ∧ (∀ e ∈ es.toList, GoodS P w e) ∧ (es.toList.map keyS).Nodup ∧ (∀ k, S k = true ↔ k ∈ es.toList.map keyS) ∧
    es.size < scanBound ∧ t.fits es.size = true ∧ es.size = n ∧ Ris t.place.toList ∧ (w.params.followText "set-order" = true ∨ t.led = true)
section
variable {P : Program} {w : World} {h h' : Heap} {a : Addr} {S : Str → Bool} {n : Nat}

theorem SetS.at (R : SetS P w h a S n) (k : ∀ o, h.get? a = some o → h'.get? a = some o) : SetS P w h' a S n := by
  obtain ⟨o, es, ep, t, ho, r⟩ := R
  exact ⟨o, es, ep, t, k o ho, r⟩
theorem SetS.lt (R : SetS P w h a S n) : a < h.objs.size := by
  obtain ⟨o, es, ep, t, ho, r⟩ := R
  exact Heap.lt_size ho
theorem SetS.congr {S' : Str → Bool} (R : SetS P w h a S n) (e : ∀ k, S' k = S k) : SetS P w h a S' n := by
  have q : S' = S := funext e
  rw [q]; exact R
theorem goodS_elems {l : List (Int × Value)} (g : ∀ e ∈ l, GoodS P w e) : ElemsOf (PySem.strKind P w) l := fun e he => by
  obtain ⟨k, tk, h1, h2⟩ := g e he
  exact ⟨⟨k, by rw [h1]; exact strKind_is P w k tk, h2⟩, by rw [h1] <;> rfl⟩
theorem goodS_is {e : Int × Value} (g : GoodS P w e) (k : Str) : (PySem.strKind P w).is k e.2 = true ↔ keyS e = k := by
  obtain ⟨k0, tk, h1, _⟩ := g
  unfold keyS
  rw [h1]
  show ((k0 == k) = true) ↔ k0 = k
  exact beq_iff_eq
theorem goodS_mem {l : List (Int × Value)} (g : ∀ e ∈ l, GoodS P w e) (k : Str) : k ∈ l.map keyS ↔ ∃ e ∈ l, (PySem.strKind P w).is k e.2 = true := by
  rw [List.mem_map]
  constructor
  · rintro ⟨e, he, q⟩
    exact ⟨e, he, (goodS_is (g e he) k).2 q⟩
  · rintro ⟨e, he, q⟩
    exact ⟨e, he, (goodS_is (g e he) k).1 q⟩
theorem SetS.setOf (R : SetS P w h a S n) : h.SetOf (PySem.strKind P w) a S n := by
  obtain ⟨o, es, ep, t, ho, hx, hd, g, nd, hm, hb, hf, hn, _⟩ := R
  exact ⟨o, es, ep, t, ho, hx, hd, goodS_elems g, fun k => (hm k).trans (goodS_mem g k), hb, hf, hn⟩
end

section
variable {P : Program} {w : World} {A : Around} {E : Value → Shared → Prop} {s : Shared} {a : Addr} {S : Str → Bool} {n : Nat}

theorem setS_add_tail {g : Bool → Sem Unit} (hg : ∀ (b : Bool) (s₁ : Shared) (Q' : Unit → Shared → Prop), Q' () s₁ → wpAny (model P w) A (g b) Q' E s₁)
    {o : Obj} {es : Array (Int × Value)} {ep : Nat} {t : SetTable} (ho : s.heap.get? a = some o) (hex : o.ExactSet) (hd : o.data = .set es ep t)
    {es1 : Array (Int × Value)} {t2 : SetTable} {S' : Str → Bool} (g1 : ∀ e ∈ es1.toList, GoodS P w e) (nd1 : (es1.toList.map keyS).Nodup) (m1 : ∀ k, S' k = true ↔ k ∈ es1.toList.map keyS)
    (hb1 : es1.size < scanBound) (hf2 : t2.fits es1.size = true) (hr : Ris t2.place.toList) (hl : w.params.followText "set-order" = true ∨ t2.led = true) {wasDummy : Bool} {R : Option Bool → Shared → Prop}
    (hR : ∀ h', Heap.SameBut a s.heap h' → SetS P w h' a S' es1.size → R (some true) { s with heap := h' }) :
    wpAny (model P w) A (do
        storeSet a es1 t2
        if (!wasDummy && t2.tooFull) = true then do
            g (relayAll t2 es1 (SetTable.grown es1.size)).2.2
            storeSet a (relayAll t2 es1 (SetTable.grown es1.size)).1 (relayAll t2 es1 (SetTable.grown es1.size)).2.1
            pure (some true)
          else pure (some true)) R E s := by
  refine wpAny_bind (wpAny_storeSet_of ho hd ?_ (fits_of_scanBound hb1))
  have ho1 := store_at (es' := es1) (t' := t2) ho hd
  have sb1 := Heap.SameBut.update s.heap a (Obj.putSet es1 t2)
  split
  · have pm := relayAll_perm t2 es1 (SetTable.grown es1.size)
    have hf3 := relayAll_fits t2 es1 (SetTable.grown es1.size)
    have hr3 := relayAll_ris t2 es1 (SetTable.grown es1.size)
    have hl3 := relayAll_led t2 es1 (SetTable.grown es1.size)
    generalize relayAll t2 es1 (SetTable.grown es1.size) = Z at pm hf3 hr3 hl3 ⊢
    obtain ⟨es2, t3, gave⟩ := Z
    dsimp only at pm hf3 hr3 hl3 ⊢
    have hsz : es2.size = es1.size := by rw [← Array.length_toList, pm.length_eq, Array.length_toList]
    have hb2 : es2.size < scanBound := by rw [hsz]; exact hb1
    refine wpAny_bind (hg _ _ _ ?_)
    refine wpAny_bind (wpAny_storeSet_of ho1 rfl ?_ (fits_of_scanBound hb2))
    have ho2 := store_at (es' := es2) (t' := t3) ho1 rfl
    refine wpAny_pure (hR _ (sb1.trans (Heap.SameBut.update _ a _)) ?_)
    exact ⟨_, es2, _, t3, ho2, hex, rfl, fun e he => g1 e (pm.mem_iff.mp he), (pm.map keyS).nodup_iff.mpr nd1, fun k => (m1 k).trans (pm.map keyS).mem_iff.symm, hb2, hf3, hsz, hr3,
      hl.imp id fun z => by rw [hl3]; exact z⟩
  · exact wpAny_pure (hR _ sb1 ⟨_, es1, _, t2, ho1, hex, rfl, g1, nd1, m1, hb1, hf2, rfl, hr, hl⟩)

theorem setS_add_hashed {k : Str} {tk : Tok} {Q : Bool → Shared → Prop} (R : SetS P w s.heap a S n) (room : n + 1 < scanBound)
    (hQ : ∀ h', Heap.SameBut a s.heap h' → SetS P w h' a (fun j => S j || decide (j = k)) (if S k = true then n else n + 1) → Q (!S k) { s with heap := h' }) :
    wpAny (model P w) A (setAddHashed a (.str k tk) ((PySem.strKind P w).hash k)) Q E s := by
  obtain ⟨o, es, ep, t, ho, hex, hd, g, nd, hm, hb, hf, hn, hr, hl⟩ := R
  have hkey : (PySem.strKind P w).is k (.str k tk) = true := strKind_is P w k tk
  have hsc : (Value.str k tk).scannable = true := rfl
  have hel : ElemsOf (PySem.strKind P w) es.toList := goodS_elems g
  unfold setAddHashed setAddHashedIn
  refine wpAny_holding (wpAny_bind (wpAny_setState_of ho hd hf ?_))
  dsimp only
  rw [byScan_of hsc hb hel]
  simp only [↓reduceIte]
  unfold setAddByScan
  refine wpAny_bind ?_
  refine wpAny_bind (wpAny_rule ?_)
  refine wpAny_bind (wpAny_setScan_of hkey ho hd hf hel ?_)
  cases hfi : List.findIdx? (fun e => (PySem.strKind P w).is k e.2) es.toList with
  | some j =>
    dsimp only
    obtain ⟨hj, pj, _⟩ := List.findIdx?_eq_some_iff_getElem.mp hfi
    have hSk : S k = true := (hm k).2 ((goodS_mem (P := P) (w := w) g k).2 ⟨es.toList[j], List.getElem_mem hj, pj⟩)
    refine wpAny_pure (wpAny_pure ?_)
    have q := hQ s.heap (Heap.SameBut.refl a s.heap) ⟨o, es, ep, t, ho, hex, hd, g, nd, fun i => by
      rw [Bool.or_eq_true, decide_eq_true_eq, ← hm i]
      exact ⟨fun z => z.elim id (fun e => e ▸ hSk), .inl⟩, hb, hf, by rw [if_pos hSk]; exact hn, hr, hl⟩
    rw [hSk] at q
    exact q
  | none =>
    dsimp only
    have hnk : k ∉ es.toList.map keyS := fun z => by
      obtain ⟨e, he, q⟩ := (goodS_mem (P := P) (w := w) g k).1 z
      have c := List.findIdx?_eq_none_iff.mp hfi e he
      rw [q] at c
      cases c
    have hSk : S k = false := by
      cases q : S k with
      | false => rfl
      | true => exact absurd ((hm k).1 q) hnk
    have hgw : ∀ (b : Bool) {s₁ : Shared} {Q' : Unit → Shared → Prop}, Q' () s₁ → wpAny (model P w) A (match b with | true => rule "set.scan.the-table-gave-way" | false => pure ()) Q' E s₁ :=
      fun b s₁ Q' q => by cases b <;> first | exact wpAny_pure q | exact wpAny_rule q
    have pm := layNew_perm t es ((PySem.strKind P w).hash k) (.str k tk)
    have hf1 := layNew_fits t es ((PySem.strKind P w).hash k) (.str k tk)
    have hr1 := layNew_ris t es ((PySem.strKind P w).hash k) (.str k tk) hr
    have hl1 := layNew_led t es ((PySem.strKind P w).hash k) (.str k tk)
    generalize layNew t es ((PySem.strKind P w).hash k) (.str k tk) = Z at pm hf1 hr1 hl1 ⊢
    obtain ⟨es1, t1, wasDummy, gave⟩ := Z
    dsimp only at pm hf1 hr1 hl1 ⊢
    rw [Array.toList_push] at pm
    have pc : es1.toList.Perm (((PySem.strKind P w).hash k, Value.str k tk) :: es.toList) := pm.trans (List.perm_append_singleton _ _)
    have pk : (es1.toList.map keyS).Perm (k :: es.toList.map keyS) := pc.map keyS
    have g1 : ∀ e ∈ es1.toList, GoodS P w e := fun e he => by
      rcases List.mem_cons.mp (pc.mem_iff.mp he) with z | z
      · rw [z]; exact ⟨k, tk, rfl, rfl⟩
      · exact g e z
    have nd1 : (es1.toList.map keyS).Nodup := pk.nodup_iff.mpr (List.nodup_cons.mpr ⟨hnk, nd⟩)
    have m1 : ∀ i, (S i || decide (i = k)) = true ↔ i ∈ es1.toList.map keyS := fun i => by
      rw [Bool.or_eq_true, decide_eq_true_eq, hm i, pk.mem_iff, List.mem_cons]
      exact Or.comm
    have hsz : es1.size = n + 1 := by rw [← Array.length_toList, pc.length_eq, List.length_cons, Array.length_toList, hn]
    have hb1 : es1.size < scanBound := by rw [hsz]; exact room
    have hled : w.params.followText "set-order" = true ∨ t1.led = true := hl.imp id fun z => by rw [hl1]; exact z
    have fin : ∀ h', Heap.SameBut a s.heap h' → SetS P w h' a (fun j => S j || decide (j = k)) es1.size → Q true { s with heap := h' } := fun h' sb r => by
      have q := hQ h' sb
      rw [hSk] at q
      rw [hsz] at r
      exact q r
    refine wpAny_bind (hgw _ ?_)
    split
    · refine wpAny_bind ?_
      rw [hashByValue_scannable 8 hsc]
      refine wpAny_pure ?_
      refine setS_add_tail ?_ ho hex hd g1 nd1 m1 hb1 ?_ ?_ ?_ ?_
      · intro b s₁ Q' q; cases b <;> first | exact wpAny_pure q | exact wpAny_rule q
      · first | (split <;> first | exact hf1 | exact SetTable.fits_plain_off hf1) | exact hf1
      · first | (split <;> exact hr1) | exact hr1
      · first | (split <;> exact hled) | exact hled
      · intro h' sb r; dsimp only; exact wpAny_pure (fin h' sb r)
    · refine wpAny_bind (wpAny_pure ?_)
      simp only [↓reduceIte]
      refine setS_add_tail ?_ ho hex hd g1 nd1 m1 hb1 hf1 hr1 hled ?_
      · intro b s₁ Q' q; cases b <;> first | exact wpAny_pure q | exact wpAny_rule q
      · intro h' sb r; dsimp only; exact wpAny_pure (fin h' sb r)


theorem setS_new_at {P : Program} {w : World} {h : Heap} {a : Addr} {ns : List Str} (ho : h.get? a = some { cls := .type "set", dict := none, data := .set #[] 0 (.fresh 0 0 (!w.params.followText "set-order")) }) : SetS P w h a (fun j => decide (j ∈ ns.take 0)) 0 :=
  ⟨_, #[], 0, _, ho, ⟨rfl, rfl, rfl⟩, rfl, (fun e he => by simp at he), (by simp), (fun k => by simp), (by decide), (by rfl), rfl, List.Pairwise.nil, by
    show _ ∨ (!w.params.followText "set-order") = true
    cases w.params.followText "set-order"
    · exact .inr rfl
    · exact .inl rfl⟩
theorem set_update_strs {I : Addr} {fp wr : List Addr} {G : Array GenState → Array GenState → Prop} {n : Nat} {Pv : Nat → Value → Prop} {St : Nat → Shared → Prop} {R : Result → Shared → Prop}
    (W : WalksS P w A.in1 I fp wr G n Pv St) (S : Addr) (hSf : S ∉ fp) (ns : List Str) (hn : n = ns.length) (hb : ns.length + 1 < scanBound) (hval : ∀ i v, Pv i v → ∃ k t, ns[i]? = some k ∧ v = .str k t) :
    ∀ (k i : Nat) (s : Shared), n - i = k → i ≤ n → St i s → (∃ c, c ≤ i ∧ SetS P w s.heap S (fun j => decide (j ∈ ns.take i)) c) →
      (∀ s' c, Moved (S :: wr) G s s' → c ≤ n → SetS P w s'.heap S (fun j => decide (j ∈ ns)) c → R (.ok (.ret .none)) s') →
      codeAny (model P w) A (.builtin "set.update.loop" ⟨[.ref S, .ref I], []⟩) R s := by
  have hSw : S ∉ wr := fun h => hSf (W.sub _ h)
  have hsub : ∀ b ∈ wr, b ∈ S :: wr := fun b hb => List.mem_cons_of_mem _ hb
  intro k
  induction k with
  | zero =>
    intro i s hk' hi hst ⟨c, hc, hS⟩ hR
    have hin : i = n := by omega
    subst hin
    refine codeAny_builtin F.entry_set_update_loop ?_
    rw [Around.under_plainId F.plain_set_update_loop _]
    show wpAny _ A.in1 (pyNext (.ref I) >>= _) _ _ s
    refine wpAny_bind (W.done s _ _ hst fun s' hm => ?_)
    show wpAny _ A.in1 (ret Value.none) _ _ s'
    have e : ns.take i = ns := List.take_of_length_le (by omega)
    rw [e] at hS
    exact wpAny_pure (hR s' c (hm.mono hsub) hc (hS.at fun o e => hm.heap S o hSw e))
  | succ k ih =>
    intro i s hk' hi hst ⟨c, hc, hS⟩ hR
    have hlt : i < n := by omega
    refine codeAny_builtin F.entry_set_update_loop ?_
    rw [Around.under_plainId F.plain_set_update_loop _]
    show wpAny _ A.in1 (pyNext (.ref I) >>= _) _ _ s
    refine wpAny_bind (W.item i s _ _ hlt hst fun v s' hP hst' hm => ?_)
    obtain ⟨z, t, hz, rfl⟩ := hval i v hP
    have hS' : SetS P w s'.heap S (fun j => decide (j ∈ ns.take i)) c := hS.at fun o e => hm.heap S o hSw e
    show wpAny _ A.in1 (holding [Value.str z t] (setAdd S (.str z t)) >>= _) _ _ s'
    refine wpAny_bind (wpAny_holding ?_)
    unfold setAdd
    refine wpAny_holding ?_
    refine wpAny_bind ((PySem.strKind P w).pyHash (k := z) (strKind_is _ _ _ _) ?_)
    refine setS_add_hashed (s := { s' with toks := s'.toks + 1 }) hS' (by omega) fun h' hsb hS2 => ?_
    have hS3 : SetS P w h' S (fun j => decide (j ∈ ns.take (i + 1))) (if decide (z ∈ ns.take i) = true then c else c + 1) := hS2.congr fun j => by
      rw [List.take_add_one, hz]
      simp [List.mem_append]
    have hc3 : (if decide (z ∈ ns.take i) = true then c else c + 1) ≤ i + 1 := by
      split <;> omega
    refine wpAny_pure ⟨plainId_quiet F.plain_set_update_loop _, ih (i + 1) _ (by omega) hlt (W.frame _ s' _ _ hst' (Nat.le_succ _) fun b hb o e => ?_) ⟨_, hc3, hS3⟩ fun s'' c2 hm'' hc'' hS'' => ?_⟩
    · rw [hsb.2 b (fun h : b = S => hSf (by rw [← h]; exact hb))]; exact e
    · refine hR s'' c2 (Moved.trans W.gtrans ((hm.mono hsub).then_heap (Nat.le_succ _) fun b o hb e => ?_) hm'') hc'' hS''
      rw [hsb.2 b (fun h : b = S => hb (by rw [h]; exact List.mem_cons_self))]; exact e


set_option maxRecDepth 100000 in
set_option maxHeartbeats 3200000 in
theorem call_set_lstS {l : Addr} {items : Array Value} (ns : List Str) {Q : Value → Shared → Prop} (hh : A.handled = none) (hl : s.heap.IsList l items) (hit : StrsAre items.toList ns) (hb : ns.length + 1 < scanBound)
    (h : ∀ (h' : Heap) (tk c : Nat), SetS P w h' s.heap.objs.size (fun j => decide (j ∈ ns)) c → c ≤ ns.length → (∀ b o, s.heap.get? b = some o → h'.get? b = some o) → Q (.ref s.heap.objs.size) { s with heap := h', toks := tk }) :
    wpAny (model P w) A (call (.type "set") [.ref l]) Q E s := by
  have hisz : items.size = ns.length := by
    have q := StrsAre.length hit
    rw [Array.length_toList] at q
    exact q
  obtain ⟨c, tl, hmro⟩ := F.called_set.mro
  have hmade := F.called_set.made
  have hsub := F.called_set.sub
  refine wpAny_call (codeAny_of_tree ?_)
  show wpAny _ _ (callAny (.type "set") _) _ _ _
  refine wpAny_pure ⟨Code.quiet_builtin _ (by decide +kernel), codeAny_builtin F.entry_type_call ?_⟩
  rw [Around.under_plain (weight_type_call_type "set" [.ref l] []) rfl]
  have h1 := F.called_set.notType
  have h2 := F.called_set.canCreate
  have hct := F.typeCall_set_1 (.ref l)
  repeat (any_goals (first | assumption | wp_step))

  refine codeAny_mono (code_set_led1 (.ref l) (E := E) (Q₁ := fun obj s₁ => obj = .ref s.heap.objs.size ∧ s₁ = { s with heap := s.heap.push { cls := .type "set", dict := none, data := .set #[] 0 (.fresh 0 0 (!w.params.followText "set-order")) } }) ⟨rfl, rfl⟩) fun r s₁ hr => ?_
  cases r with
  | error e => exact hr
  | ok fl =>
    cases fl with
    | ret obj =>
      obtain ⟨rfl, rfl⟩ := hr
      have hS : (s.heap.push { cls := .type "set", dict := none, data := .set #[] 0 (.fresh 0 0 (!w.params.followText "set-order")) }).get? s.heap.objs.size = some { cls := .type "set", dict := none, data := .set #[] 0 (.fresh 0 0 (!w.params.followText "set-order")) } := Heap.get?_push_size _ rfl
      have hT : Shared.TypeIs { s with heap := s.heap.push { cls := .type "set", dict := none, data := .set #[] 0 (.fresh 0 0 (!w.params.followText "set-order")) } } (.ref s.heap.objs.size) "set" := ⟨_, hS, rfl⟩
      have hli := F.called_set.init.lookup
      have hbi := F.called_set.init.bind (.ref s.heap.objs.size)
      repeat (any_goals (first | assumption | wp_step))

      refine codeAny_mono (codeAny_call_builtin (R := wants (fun r s₂ => r = .none ∧ ∃ h' tk c, s₂ = { s with heap := h', toks := tk } ∧ SetS P w h' s.heap.objs.size (fun j => decide (j ∈ ns)) c ∧ c ≤ ns.length ∧
          (∀ b o, s.heap.get? b = some o → h'.get? b = some o)) E) F.called_set.init.plain F.entry_set_init (check_set_init_1 hT ?_)) fun r₂ s₂ hr₂ => ?_
      · obtain ⟨ol, hol, hcl, nl, hdl⟩ := hl
        obtain ⟨ocls, odict, odata, oslots⟩ := ol
        simp only at hcl hdl
        subst hcl; subst hdl
        have hol' : (s.heap.push { cls := .type "set", dict := none, data := .set #[] 0 (.fresh 0 0 (!w.params.followText "set-order")) }).get? l = some { cls := .type "list", dict := odict, data := .seq items nl, slots := oslots } := Heap.get?_push_of_some _ hol
        have hsls := F.sub_list_set
        have hslf := F.sub_list_frozenset
        have hne : (Value.type "list" == Value.type "dict") = false := by decide
        have hl1 : (s.heap.push { cls := .type "set", dict := none, data := .set #[] 0 (.fresh 0 0 (!w.params.followText "set-order")) }).IsList l items := ⟨_, hol', rfl, nl, rfl⟩
        unfold Builtin.«set.__init__» noKeywords Builtin.Frozenset.updateFrom
        generalize hPI : pyIter = PI
        wp_walk
        subst hPI

        refine wpAny_pyIter_list hl1 ?_
        refine wpAny_bind (wpAny_runValue ?_)
        have hlS : l < s.heap.objs.size := Heap.lt_size hol
        have hh3 : A.in1.in1.in1.handled = none := by simp [hh]
        have hz1 : (s.heap.push { cls := .type "set", dict := none, data := .set #[] 0 (.fresh 0 0 (!w.params.followText "set-order")) }).objs.size = s.heap.objs.size + 1 := Heap.size_push ..
        have hneI : l ≠ (s.heap.push { cls := .type "set", dict := none, data := .set #[] 0 (.fresh 0 0 (!w.params.followText "set-order")) }).objs.size := by
          rw [Heap.size_push]; exact Nat.ne_of_lt (Nat.lt_succ_of_lt hlS)
        have hSf : s.heap.objs.size ∉ [(s.heap.push { cls := .type "set", dict := none, data := .set #[] 0 (.fresh 0 0 (!w.params.followText "set-order")) }).objs.size, l] := by
          rw [Heap.size_push]; simp only [List.mem_cons, List.mem_singleton, List.not_mem_nil, or_false, not_or]
          exact ⟨Nat.ne_of_lt (Nat.lt_succ_self _), Nat.ne_of_gt hlS⟩
        have hval : ∀ (i : Nat) (v : Value), items[i]? = some v → ∃ k t, ns[i]? = some k ∧ v = .str k t := fun i v hv => by
          have hi : i < ns.length := by rw [← hisz]; exact (Array.getElem?_eq_some_iff.mp hv).1
          obtain ⟨t, e⟩ := SS.strs_at hit i v (by rw [Array.getElem?_toList]; exact hv)
          refine ⟨ns[i], t, List.getElem?_eq_getElem hi, ?_⟩
          rw [e, List.getD_eq_getElem?_getD, List.getElem?_eq_getElem hi] <;> rfl
        refine set_update_strs ((Walks.list hh3 _ l hneI items).toS) s.heap.objs.size
          hSf ns hisz hb hval (items.size - 0) 0 _ (by omega) (Nat.zero_le _)
          ⟨⟨_, Heap.get?_push_size _ rfl, rfl, rfl⟩, (hl1.push _)⟩ ?hS0 ?hR
        case hS0 =>
          have hget : ((s.heap.push { cls := .type "set", dict := none, data := .set #[] 0 (.fresh 0 0 (!w.params.followText "set-order")) }).push { cls := .type "list_iterator", data := .fields #[.ref l, .int 0 0] }).get? s.heap.objs.size
              = some { cls := .type "set", dict := none, data := .set #[] 0 (.fresh 0 0 (!w.params.followText "set-order")) } := Heap.get?_push_of_some _ hS
          exact ⟨0, Nat.le_refl 0, setS_new_at hget⟩
        case hR =>
          intro s' c' hm hc' hS'
          obtain ⟨h', g2, d', tk', os'⟩ := s'
          have eg : g2 = s.gens := hm.gens
          have ed : d' = s.drawn := hm.drawn
          have eo : os' = s.os := hm.os
          subst eg; subst ed; subst eo
          show wpAny _ _ _ _ _ _
          refine wpAny_pure ?_
          show wpAny _ _ (ret Value.none) _ _ _
          rw [hisz] at hc'
          refine wpAny_pure ⟨rfl, h', tk', c', rfl, hS', hc', fun b o e => ?_⟩
          have hb0 : b < s.heap.objs.size := Heap.lt_size e
          have hb1 : b ≠ s.heap.objs.size := Nat.ne_of_lt hb0
          have hb2 : b ≠ (s.heap.push { cls := .type "set", dict := none, data := .set #[] 0 (.fresh 0 0 (!w.params.followText "set-order")) }).objs.size := by
            rw [Heap.size_push]; exact Nat.ne_of_lt (Nat.lt_succ_of_lt hb0)
          exact hm.heap b o (by simp only [List.mem_cons, List.mem_singleton, List.not_mem_nil, or_false, not_or]; exact ⟨hb1, hb2⟩) (Heap.get?_push_of_some _ (Heap.get?_push_of_some _ e))

      · cases r₂ with
        | error e => exact hr₂
        | ok fl₂ =>
          cases fl₂ with
          | ret r =>
            obtain ⟨rfl, h', tk, c', rfl, hS', hc', hk'⟩ := hr₂
            repeat (any_goals (first | assumption | wp_step))
            exact h _ _ _ hS' hc' hk'
          | _ => exact hr₂.elim
    | _ => exact hr.elim


theorem strs_of : ∀ (l : List Value), (∀ v ∈ l, ∃ k tk, v = Value.str k tk) → StrsAre l (l.map fun v => keyS (0, v))
  | [], _ => .nil
  | v :: l, h => by
    obtain ⟨k, tk, rfl⟩ := h v List.mem_cons_self
    exact .cons k tk (strs_of l fun u hu => h u (List.mem_cons_of_mem _ hu))
theorem sorted_setS {S : Str → Bool} {n : Nat} {Q : Value → Shared → Prop} (R : SetS P w s.heap a S n) (hh : A.handled = none) (h64 : n < 64)
    (hQ : ∀ s' p (out : Array Value) (c : Nat) (ns : List Str), (∀ b o, s.heap.get? b = some o → s'.heap.get? b = some o) → s'.gens = s.gens → s'.os = s.os → s.heap.objs.size ≤ p →
      s'.heap.get? p = some (seqObj "list" out c) → StrsAre out.toList ns → ns.Nodup → sortedS ns = true → (∀ k, k ∈ ns ↔ S k = true) → ns.length = n → Q (.ref p) s') :
    wpAny (model P w) A (call (.builtin "sorted") [.ref a]) Q E s := by
  obtain ⟨o, es, ep, t, ho, hex, hd, g, nd, hm, hb, hf, hn, hr, hl⟩ := R
  refine Calls.call_function_entry kind_sorted plain_sorted entry_sorted (args_sorted1 _) ?_
  unfold Builtin.«sorted»
  refine wpAny_bind (m := checkCount "sorted" 1 1 _) (wpAny_pure ?_)
  refine wpAny_bind (collect_set (A := A.in1) hh ⟨o, ho, hex.1, hd⟩ hf hb hr hl fun s1 vs k1 hz g1 o1 pm => ?_)
  have hvl : vs.length = n := by rw [pm.length_eq, List.length_map, Array.length_toList]; exact hn
  have hI : StrsAre vs (vs.map fun v => keyS (0, v)) := strs_of vs fun v hv => by
    obtain ⟨e, he, q⟩ := List.mem_map.mp (pm.mem_iff.mp hv)
    obtain ⟨k, tk, h1, _⟩ := g e he
    exact ⟨k, tk, by rw [← q]; exact h1⟩
  have pk : (vs.map fun v => keyS (0, v)).Perm (es.toList.map keyS) := by
    have q := pm.map fun v => keyS (0, v)
    rw [List.map_map] at q
    exact q
  refine wpAny_bind (wpAny_newList ?_ (by rw [hvl, sizeLine_eq]; omega))
  have hoL : (s1.heap.push (seqObj "list" vs.toArray 0)).get? s1.heap.objs.size = some (seqObj "list" vs.toArray 0) := Heap.get?_push_size _ rfl
  refine wpAny_bind (wpAny_holding (wpAny_call_entry slot_list_sort ⟨_, hoL, rfl⟩ entry_list_sort (list_sort_treeK strKind_oneLt hoL hI.keysOf (fun v₁ v₂ rest e => keyKind_strs (by rw [← e]; exact hI)) (by rw [hvl]; exact h64) fun st' hp hs => ⟨_, rfl, ?_⟩) (args_list_sort _)))
  obtain ⟨ns', a1, a2, a3⟩ := sorted_out_str hI hp hs
  obtain ⟨c, hc⟩ := sortedHeap_at (vs := vs) (out := (arrOf st').map (·.2)) hoL
  have pn : ns'.Perm (es.toList.map keyS) := a2.trans pk
  refine wpAny_pure ⟨_, rfl, hQ _ s1.heap.objs.size _ c ns' (fun b u e => ?_) g1 o1 hz hc a1 (pn.nodup_iff.mpr nd) a3 (fun k => by rw [pn.mem_iff, ← hm k]) ?_⟩
  · have q := k1 b u e
    have hlt := Heap.lt_size q
    show (sortedHeap (s1.heap.push (seqObj "list" vs.toArray 0)) s1.heap.objs.size vs _).get? b = some u
    rw [sortedHeap_old (Nat.ne_of_lt hlt) (by rw [size_push']; exact Nat.lt_succ_of_lt hlt)]
    exact Heap.get?_push_of_some _ q
  · rw [pn.length_eq, List.length_map, Array.length_toList]; exact hn
end
end GS

namespace G
open PySem PySem.Spec L2

section
variable {K : Kx} {ta tb tc te : TE} {fa fb fc f : Sls → Option D}
/-! ### tuples cut -/
theorem ev_slT {tl th : TO} {g h : Sls → Option (Option Int)} (ha : EvV K ta fa) (h1 : EvO K tl g) (h2 : EvO K th h) : EvD K (tSl (rSlA K.fr) ta tl th) (dSlT fa g h) := by
  intro H0 F0 F H σ sl d S e Q q
  obtain ⟨x, e1, e⟩ := bind_some e
  obtain ⟨lo, e2, e⟩ := bind_some e
  obtain ⟨hi, e3, e⟩ := bind_some e
  refine ha H0 F0 F H σ sl x S e1 _ fun v F1 H1 x1 r1 => ?_
  refine h1 H0 F0 F1 H1 σ sl lo (S.grow x1) e2 _ fun F2 H2 x2 => ?_
  refine h2 H0 F0 F2 H2 σ sl hi (S.grow (x1.trans x2)) e3 _ fun F3 H3 x3 => ?_
  cases x with
  | tuple ds =>
    cases e
    have r := r1.grow (x2.trans x3)
    have X := (x1.trans x2).trans x3
    obtain ⟨a, vs, rfl, h4, h5⟩ := r.tup x3.fh
    refine ⟨a, vs, rfl, h4, fun ⟨w1, w2⟩ => ?_, fun _ p hp => ?_⟩
    · have whole : cutD ds lo hi = ds := by
        unfold cutD
        rw [h5.length, w1, w2, List.drop_zero, Nat.sub_zero, ← h5.length, List.take_length]
      rw [whole] at q
      cases r with
      | rep r => exact q _ F3 H3 X r
      | own r => cases r
    · exact q _ _ _ (X.trans (.new x3.fh hp)) (.tup upd_same ((cut_reps h5).mono (same_new (x3.fh.free hp))))
  | _ => cases e
/-! ### a, b = a list -/
def tgLst (n : Nat) (r : List D → Sls → Option Sls) : D → Sls → Option Sls := fun d sl => match d with
  | .list ds => if ds.length = n then r ds sl else none
  | _ => none
theorem eg_lst {r : TGs} {rs : List D → Sls → Option Sls} {ws : List Nat} {n : Nat} (hr : EvGs K r rs ws) : EvG K (L2.gLst K.fr n r) (tgLst n rs) ws := by
  intro H0 F0 F H σ sl sl' d v S k e Q q
  unfold tgLst at e
  split at e
  · split at e
    · rename_i ds hn
      obtain ⟨a, vs, rfl, h1, h2⟩ := (View.rep k).lst S.fh
      exact ⟨a, vs, rfl, h1, by rw [← h2.length]; exact hn, hr H0 F0 F H σ sl sl' ds vs S h2 e Q q⟩
    · cases e
  · cases e
/-! ### list(range(..)) -/
def RgD (a b : Int) : Prop := -(2 ^ 62) ≤ a ∧ a < 2 ^ 62 ∧ -(2 ^ 62) ≤ b ∧ b < 2 ^ 62 ∧ (b - a).toNat ≤ 100000
instance (a b : Int) : Decidable (RgD a b) := by unfold RgD; infer_instance
def dLstRg (fa fb : Sls → Option D) : Sls → Option D := fun sl => (fa sl).bind fun x => (fb sl).bind fun y => match x, y with
  | .int a, .int b => if RgD a b then some (.list (rangeD a (b - a).toNat)) else none
  | _, _ => none
theorem rg_reps {F : Hp} (a b : Int) : Reps K F (rangeD a (b - a).toNat) (rgV a b) := by
  unfold rangeD rgV
  generalize List.range (b - a).toNat = l
  induction l with
  | nil => exact .nil
  | cons i l ih => exact .cons (.int _) ih
theorem en_lstRg2 (ha : EvD K ta fa) (hb : EvD K tb fb) : EvN K (tLstRg (tRg2 ta tb)) (dLstRg fa fb) := by
  intro H0 F0 F H σ sl d S e Q q
  obtain ⟨x, e1, e⟩ := bind_some e
  obtain ⟨y, e2, e⟩ := bind_some e
  refine ha H0 F0 F H σ sl x S e1 _ fun v F1 H1 x1 r1 => ?_
  refine hb H0 F0 F1 H1 σ sl y (S.grow x1) e2 _ fun u F2 H2 x2 r2 => ?_
  split at e
  · split at e
    · rename_i h
      cases e
      cases r1
      cases r2
      exact ⟨_, _, rfl, rfl, ⟨h.1, h.2.1, h.2.2.1, h.2.2.2.1, Nat.le_trans h.2.2.2.2 (by decide)⟩, fun p hp => q p F2 _ ((x1.trans x2).trans (.fresh x2.fh hp)) ((x1.trans x2).hh.free hp) (x2.fh.free hp) (.lst upd_same (rg_reps _ _))⟩
    · cases e
  · cases e
/-! ### isinstance -/
def tyD : D → Option String
  | .none => some "NoneType"
  | .bool _ => some "bool"
  | .int _ => some "int"
  | .str _ => some "str"
  | .list _ => some "list"
  | .tuple _ => some "tuple"
  | _ => none
def gIsi (T : String) : D → Option D := fun d => (tyD d).bind fun t => (kitB t T).map .bool
theorem View.ty {F H : Hp} {d : D} {v : V} {t : String} (e : Same F H) (h : View K F H d v) (k : tyD d = some t) : TyX K.fr H v (.type t) := by
  cases d with
  | none => cases k; rw [h.non]; exact .base .non
  | bool b => cases k; rw [h.bl]; exact .base (.bl _)
  | int i => cases k; rw [h.int]; exact .base (.int _)
  | str x => cases k; rw [h.str]; exact .base (.str _)
  | list ds =>
    cases k
    obtain ⟨a, vs, rfl, h1, _⟩ := h.lst e
    rcases h1 with (h1 | ⟨o, h1⟩) | ⟨o, its, n, h1, h2, _⟩
    · exact .base (.lst h1)
    · exact .base (.frz h1)
    · exact .kList h1 h2
  | tuple ds =>
    cases k
    obtain ⟨a, vs, rfl, h1, _⟩ := h.tup e
    rcases h1 with (h1 | ⟨o, h1⟩) | ⟨o, its, n, h1, h2, _⟩
    · exact .base (.tup h1)
    · exact .fTuple h1
    · exact .kTuple h1 h2
  | dict _ => cases k
theorem ev_isi (T : String) (ha : EvV K ta fa) : EvD K (tCB (rIsi K.fr) (tCons ta (tCons (tC (.ty T)) tNil))) (dUn (gIsi T) fa) := by
  intro H0 F0 F H σ sl d S e Q q
  obtain ⟨x, e1, e⟩ := bind_some e
  obtain ⟨t, e2, e⟩ := bind_some e
  obtain ⟨b, e3, rfl⟩ := Option.map_eq_some_iff.mp e
  refine ha H0 F0 F H σ sl x S e1 _ fun v F1 H1 x1 r1 => ?_
  exact ⟨v, .ty T, .type t, .type T, b, rfl, .ty T, r1.ty x1.fh e2, kit_ty e3, q _ F1 H1 x1 (.bl b)⟩
/-! ### repr -/
def okR (d : D) : Bool := match d with
  | .tuple ds => okDs ds && PyData.showable (.tuple ds) && decide (PyData.depth (.tuple ds) ≤ 63) && decide ((PyData.shown (.tuple ds)).length ≤ 100000) && !PyData.hasDict (.tuple ds)
  | _ => false
def gRepr : List D → Option D
  | [d] => if okR d = true then some (.str (PyData.shown d)) else none
  | _ => none
def rRepr (K : PySem.W.Frag) : List V → Hp → VK → Prop := fun xs H Q => ∃ (a : Addr) (ds : List D), xs = [.ref a] ∧ Dp K H (.ref a) (.tuple ds) ∧ okR (.tuple ds) = true ∧ Q (.str (PyData.shown (.tuple ds))) H
theorem cr_repr {X : Cx} (hu : X.A.units + 65 < cLine) (hg : X.A.guards = some []) : CallR X (.builtin "repr") (rRepr X.K) := by
  intro pins s σ H vs us Q I r h
  obtain ⟨a, ds, rfl, hd, hk, q⟩ := h
  rw [Vals.ref1 r]
  simp only [okR, Bool.and_eq_true, decide_eq_true_eq, Bool.not_eq_true'] at hk
  obtain ⟨⟨⟨⟨_, k1⟩, k2⟩, k3⟩, k4⟩ := hk
  obtain ⟨as, rd⟩ := Dp.reads I (.tuple ds) (.ref a) (.ref a) hd rfl
  exact repr_of_reads' rd k1 (fun z => by rw [k4] at z; cases z) hg (by omega) (fun b o e => e) (fun h' u tk hk => ⟨.str _, H, I.kept hk, ⟨u, rfl⟩, q⟩) (line_of k3)
theorem cs_repr : CallS K (rRepr K.fr) gRepr := by
  intro F H xs ds z sm hx hg Q q
  unfold gRepr at hg
  split at hg
  · rename_i d
    split at hg
    · rename_i hk
      cases hg
      cases hx with
      | cons h1 h2 =>
        cases h2
        cases d with
        | tuple ds =>
          have hd := h1.dp sm (by unfold okR at hk; simp only [Bool.and_eq_true] at hk; simpa [okD] using hk.1.1.1.1)
          obtain ⟨a, vs, rfl, _, _⟩ := h1.tup sm
          exact ⟨a, ds, rfl, hd, hk, q _ F H (.refl sm) (.str _)⟩
        | _ => cases hk
    · cases hg
  · cases hg
end
/-! ### texts sorted -/
open PyProof.Rows (sortedS risingS ltCps_eq StrsAre)
def leS (a b : Str) : Bool := decide (¬ b.cps.toList < a.cps.toList)
theorem leS_trans (a b c : Str) (h1 : leS a b = true) (h2 : leS b c = true) : leS a c = true := by
  simp only [leS, decide_eq_true_eq] at *
  exact List.not_lt.mpr (List.le_trans (List.not_lt.mp h1) (List.not_lt.mp h2))
theorem leS_total (a b : Str) : (leS a b || leS b a) = true := by
  simp only [leS, Bool.or_eq_true, decide_eq_true_eq]
  by_cases h : b.cps.toList < a.cps.toList
  · exact .inr fun z => List.lt_irrefl _ (List.lt_trans h z)
  · exact .inl h
theorem leS_anti (a b : Str) (h1 : leS a b = true) (h2 : leS b a = true) : a = b := by
  simp only [leS, decide_eq_true_eq] at *
  have e := List.le_antisymm (List.not_lt.mp h1) (List.not_lt.mp h2)
  cases a
  cases b
  simp only at e
  exact congrArg Str.mk (Array.toList_inj.mp e)
theorem pw_rising : ∀ (p : Str) (l : List Str), risingS p l = true → (p :: l).Pairwise (fun a b => leS a b = true)
  | p, [], _ => List.pairwise_singleton _ _
  | p, x :: r, h => by
    unfold risingS at h
    simp only [Bool.and_eq_true, Bool.not_eq_true', ltCps_eq, decide_eq_false_iff_not] at h
    have ih := pw_rising x r h.2
    have hx : leS p x = true := by
      simp only [leS, decide_eq_true_eq]
      exact h.1
    refine List.pairwise_cons.mpr ⟨fun y hy => ?_, ih⟩
    rcases List.mem_cons.mp hy with rfl | hy
    · exact hx
    · exact leS_trans _ _ _ hx (List.rel_of_pairwise_cons ih hy)
theorem pw_sorted : ∀ (l : List Str), sortedS l = true → l.Pairwise (fun a b => leS a b = true)
  | [], _ => .nil
  | x :: r, h => pw_rising x r h
def srt (xs : List Str) : List Str := xs.mergeSort leS
theorem srt_uniq {xs ys : List Str} (p : ys.Perm xs) (h : sortedS ys = true) : ys = srt xs :=
  List.Perm.eq_of_pairwise (fun a b _ _ h h' => leS_anti a b h h') (pw_sorted ys h) (List.pairwise_mergeSort leS_trans leS_total xs) (p.trans (List.mergeSort_perm xs leS).symm)
def strsD : List D → Option (List Str)
  | [] => some []
  | .str x :: r => (strsD r).map (x :: ·)
  | _ :: _ => none
theorem strsD_eq : ∀ {ds : List D} {xs : List Str}, strsD ds = some xs → ds = xs.map PyData.str
  | [], _, h => by cases h; rfl
  | .str x :: r, _, h => by
    obtain ⟨ys, h1, rfl⟩ := Option.map_eq_some_iff.mp h
    rw [strsD_eq h1]
    rfl
  | .none :: _, _, h => by cases h
  | .bool _ :: _, _, h => by cases h
  | .int _ :: _, _, h => by cases h
  | .list _ :: _, _, h => by cases h
  | .tuple _ :: _, _, h => by cases h
  | .dict _ :: _, _, h => by cases h
theorem strsD_map : ∀ (xs : List Str), strsD (xs.map PyData.str) = some xs
  | [] => rfl
  | x :: r => by
    show ((strsD (r.map PyData.str)).map (x :: ·)) = _
    rw [strsD_map r]
    rfl
theorem Reps.strs {K : Kx} {F : Hp} : ∀ {xs : List Str}, Reps K F (xs.map PyData.str) (xs.map V.str)
  | [] => .nil
  | x :: xs => .cons (.str x) Reps.strs
theorem Reps.strs_of {K : Kx} {F : Hp} : ∀ {xs : List Str} {vs : List V}, Reps K F (xs.map PyData.str) vs → vs = xs.map V.str
  | [], _, h => by cases h; rfl
  | x :: xs, _, h => by
    cases h with
    | cons h r =>
      cases h
      rw [Reps.strs_of r]
      rfl
def gSortS : List D → Option D
  | [.list ds] => (strsD ds).bind fun xs => if xs.length < 64 then some (.list ((srt xs).map .str)) else none
  | _ => none
theorem cn_sortS {K : Kx} : CallN K (rSortedS K.fr) gSortS := by
  intro F H xs ds z sm hx hg Q q
  unfold gSortS at hg
  split at hg
  · rename_i ds
    obtain ⟨ys, e1, e2⟩ := bind_some hg
    split at e2
    · rename_i hl
      cases e2
      cases hx with
      | cons h1 h2 =>
        cases h2
        obtain ⟨a, vs, rfl, h3, h4⟩ := h1.lst sm
        have e := strsD_eq e1
        subst e
        have e := h4.strs_of
        subst e
        refine ⟨a, ys, rfl, h3, hl, fun zs p hp hs hn => ?_⟩
        rw [srt_uniq hp hs]
        exact q p F _ (.fresh sm hn) hn (sm.free hn) (.lst upd_same .strs)
    · cases e2
  · cases hg
/-- sorted(set(xs)), xs a list of texts among three -/
def faultsD (xs : List Str) : List Str := (["big", "kind", "zero"] : List Str).filter fun x => decide (x ∈ xs)
def gInOrder : D → Option D
  | .list ds => (strsD ds).bind fun xs => if xs.length ≤ 60 ∧ xs.all (fun x => decide (x ∈ (["big", "kind", "zero"] : List Str))) = true then some (.list ((faultsD xs).map .str)) else none
  | _ => none
theorem faults_uniq {xs ns : List Str} (hx : xs.all (fun x => decide (x ∈ (["big", "kind", "zero"] : List Str))) = true) (nd : ns.Nodup) (hs : sortedS ns = true) (hm : ∀ k, k ∈ ns ↔ k ∈ xs) : ns = faultsD xs := by
  have three : (["big", "kind", "zero"] : List Str).Nodup := by decide +kernel
  have rise : (["big", "kind", "zero"] : List Str).Pairwise (fun a b => leS a b = true) := by decide +kernel
  have hp : ns.Perm (faultsD xs) := (List.perm_ext_iff_of_nodup nd (three.sublist List.filter_sublist)).mpr fun k => by
    rw [hm k, List.mem_filter, decide_eq_true_eq]
    exact ⟨fun h => ⟨by have := List.all_eq_true.mp hx k h; simpa using this, h⟩, fun h => h.2⟩
  exact List.Perm.eq_of_pairwise (fun a b _ _ h h' => leS_anti a b h h') (pw_sorted ns hs) (rise.sublist List.filter_sublist) hp
def tSrtSet (K : PySem.W.Frag) (ta : TE) : TE := fun σ H Q => ta σ H fun x H1 => ∃ (l : Addr) (xs : List Str), x = .ref l ∧ SqL K H1 l (xs.map V.str) ∧ xs.length ≤ 60 ∧
  ∀ (ns : List Str) (p : Addr), ns.Nodup → sortedS ns = true → (∀ k, k ∈ ns ↔ k ∈ xs) → H1 p = none → Q (.ref p) (upd H1 p (.lst (ns.map V.str)))
open PyProof.Rows in
theorem pe_sortSet {X : Cx} {a : Expr} {ta : TE} {p p2 q pos : Pos} (hc : X.calm = true) (hg : Gl X "sorted") (hm : X.mg "sorted" = none) (hg2 : Gl X "set") (hm2 : X.mg "set" = none) (ha : PE X a ta)
    (na : starEach [a] X.env = (false, eval a X.env) :: starEach [] X.env := by rfl) : PE X (.Call (.Name "sorted" p) [.Call (.Name "set" p2) [a] [] q] [] pos) (tSrtSet X.K ta) := by
  refine ⟨fun pins s σ H Q I h => ?_⟩
  refine Call_ (ld_blt I hg hm (show bootBuiltins "sorted" = some (.builtin "sorted") by decide +kernel) ?_)
  refine PyProof.Rows.callWith_builtin1 (PyProof.Rows.args_cons ?_ rfl) rfl rfl
  refine Call_ (ld_blt I hg2 hm2 boot_set ?_)
  refine PyProof.Rows.callWith_type1 (PyProof.Rows.args_cons (thn (ha.run pins s σ H _ I h) fun v s1 ⟨x, H1, I1, r1, q1⟩ => PyProof.Rows.args_nil ?_) na) na rfl
  obtain ⟨l, xs, rfl, hq, hl, q1⟩ := q1
  cases r1
  obtain ⟨its, r, pl, hz⟩ := I1.list hq
  have hb : xs.length + 1 < scanBound := Nat.lt_of_le_of_lt (Nat.succ_le_succ hl) (by decide)
  refine GS.call_set_lstS xs (I1.ok.hd hc) pl.isList (by simpa using strsAre_of r) hb fun h' tk c R hc' hk => ?_
  have I2 : Inv X pins σ H1 { s1 with heap := h', toks := tk } := I1.kept fun b o e => hk b o e
  refine PyProof.Rows.args_nil ?_
  refine GS.sorted_setS (s := { s1 with heap := h', toks := tk }) R (I1.ok.hd hc) (by omega) fun s' p out c2 ns k g o hp hgp hi nd hs hm' hln => ?_
  have hlen : (ns.map V.str).length ≤ sizeLine := by rw [List.length_map, hln, sizeLine_eq]; omega
  have hn : H1 p = none := I2.hok.fresh hp
  have hv : Vals (ns.map V.str) out.toList := vals_of_strs hi
  have J : Inv X pins σ (upd H1 p (.lst (ns.map V.str))) { s1 with heap := s'.heap, gens := s'.gens, drawn := s'.drawn, toks := s'.toks } :=
    Inv.call (s := { s1 with heap := h', toks := tk }) (ch := []) I2 (Un.laid k hp hn) (I2.hok.laid k hp ⟨hlen, out.toList, c2, hv, hgp⟩) (by rw [g]; exact I2.bare) (fun _ z => nomatch z)
  have e : s' = { s1 with heap := s'.heap, gens := s'.gens, drawn := s'.drawn, toks := s'.toks } := by
    cases s'
    cases s1
    simp only at o
    subst o
    rfl
  rw [e]
  exact ⟨.ref p, _, J, rfl, q1 ns p nd hs (fun k => by rw [hm' k, decide_eq_true_eq]) hn⟩
theorem en_inOrder {K : Kx} {ta : TE} {fa : Sls → Option D} (ha : EvV K ta fa) : EvN K (tSrtSet K.fr ta) (dUn gInOrder fa) := by
  intro H0 F0 F H σ sl d S e Q q
  obtain ⟨x, e1, e⟩ := bind_some e
  refine ha H0 F0 F H σ sl x S e1 _ fun v F1 H1 x1 r1 => ?_
  unfold gInOrder at e
  split at e
  · rename_i ds
    obtain ⟨ys, e2, e3⟩ := bind_some e
    split at e3
    · rename_i hl
      cases e3
      obtain ⟨a, vs, rfl, h3, h4⟩ := r1.lst x1.fh
      have e := strsD_eq e2
      subst e
      have e := h4.strs_of
      subst e
      refine ⟨a, ys, rfl, h3, hl.1, fun ns p nd hs hm hn => ?_⟩
      rw [faults_uniq hl.2 nd hs hm]
      exact q p F1 _ (x1.trans (.fresh x1.fh hn)) (x1.hh.free hn) (x1.fh.free hn) (.lst upd_same .strs)
    · cases e3
  · cases e
end G

namespace G
open PySem PySem.Spec L2
theorem hu65 {k : Nat} {A : Around} (hr : Room k A) : A.units + 65 < cLine := by have := hr.un; omega
/-- xs + ys of lists: a new list of one's own -/
def gAddL : D → D → Option D
  | .list xs, .list ys => if xs.length + ys.length ≤ 100000 then some (.list (xs ++ ys)) else none
  | _, _ => none
theorem en_add {K : Kx} {ta tb : TE} {fa fb : Sls → Option D} (ha : EvV K ta fa) (hb : EvV K tb fb) : EvN K (tOp (rAddA K.fr) ta tb) (dOp gAddL fa fb) := by
  intro H0 F0 F H σ sl d S e Q q
  obtain ⟨x, e1, e⟩ := bind_some e
  obtain ⟨y, e2, e⟩ := bind_some e
  refine ha H0 F0 F H σ sl x S e1 _ fun v F1 H1 x1 r1 => ?_
  refine hb H0 F0 F1 H1 σ sl y (S.grow x1) e2 _ fun u F2 H2 x2 r2 => ?_
  unfold gAddL at e
  split at e
  · split at e
    · rename_i xs ys hl
      cases e
      obtain ⟨a, vs, rfl, h1, h2⟩ := (r1.grow x2).lst x2.fh
      obtain ⟨b, us, rfl, h3, h4⟩ := r2.lst x2.fh
      exact .inr ⟨a, b, vs, us, rfl, rfl, h1, h3, by rw [← h2.length, ← h4.length]; exact line_of hl, fun p hp => q p F2 _ ((x1.trans x2).trans (.fresh x2.fh hp)) ((x1.trans x2).hh.free hp) (x2.fh.free hp) (.lst upd_same (h2.app h4))⟩
    · cases e
  · cases e
structure CalG (P : Program) (w : World) (K : PySem.W.Frag) (mg : Str → Option Value) (base : Heap) (k : Nat) (x : Str) (sp : Sp) : Prop where
  ex : ∃ (f : Addr) (fd : FuncData) (ps : List Str), FnG P w K mg base k f fd ps sp ∧ mg x = some (.ref f) ∧ PySem.W.keepIn K (.ref f) = true ∧ Binds K fd ps []
theorem pe_cg {X : Cx} {k j : Nat} {sp : Sp} {x : Str} {p pos : Pos} {e : Expr} {es : List Expr} {t : TA} (c : CalG X.prog X.w X.K X.mg X.base k x sp) (hr : Room j X.A) (hkj : k ≤ j) (hgd : X.A.guards = some []) (hg : Gl X x) (ha : PA X (e :: es) t)
    (hdb : (x == ("__debug__" : Str)) = false := by decide) (he : starEach (e :: es) X.env = (false, eval e X.env) :: starEach es X.env := by rfl) (hpl : (backTo pos (starEach es X.env)).any (·.1) = false := by rfl) :
    PE X (.Call (.Name x p) (e :: es) [] pos) (tCall sp [] E0 t) := by
  obtain ⟨f, fd, ps, F, hm, hk, hb⟩ := c.ex
  exact pe_callG F hr hkj hgd hg hm hk hb ha hdb he hpl
/-- the built-in names stand -/
structure Bl (mg : Str → Option Value) : Prop where
  int : mg "int" = none
  abs : mg "abs" = none
  max : mg "max" = none
  min : mg "min" = none
  len : mg "len" = none
  any : mg "any" = none
  tuple : mg "tuple" = none
  list : mg "list" = none
  sorted : mg "sorted" = none
  set : mg "set" = none
  isinstance : mg "isinstance" = none
  repr : mg "repr" = none
  bool : mg "bool" = none
  range : mg "range" = none
theorem pe_globI {X : Cx} {x : Str} {n : Int} {pos : Pos} (hm : ∃ t, X.mg x = some (.int n t)) (hg : Gl X x) (hd : (x == ("__debug__" : Str)) = false := by decide) : PE X (.Name x pos) (tC (.int n)) := by
  obtain ⟨t, h⟩ := hm
  exact pe_glob hg h ⟨t, rfl⟩ hd
/-! ### the rules that name the written part, told with a part of one's own -/
section
variable {X : Cx} {K : PySem.W.Frag}
theorem ix_seqK (h : X.K = K) : IxR X (rIx K) := h ▸ ix_seq
theorem op_addK (h : X.K = K) : OpR X (binaryOp .Add) (rAddA K) := h ▸ op_addA
theorem op_eqK (h : X.K = K) (hu : X.A.units + 64 < cLine) : OpR X (compareOp .Eq) (rEqD K) := h ▸ op_eqD hu
theorem op_neK (h : X.K = K) (hu : X.A.units + 64 < cLine) : OpR X (compareOp .NotEq) (rNeD K) := h ▸ op_neD hu
theorem op_inK (h : X.K = K) (hu : X.A.units + 65 < cLine) : OpR X (compareOp .In) (rInA K false) := h ▸ op_inA hu
theorem op_niK (h : X.K = K) (hu : X.A.units + 65 < cLine) : OpR X (compareOp .NotIn) (rInA K true) := h ▸ op_niA hu
theorem sl_tupK (h : X.K = K) : SlR X (rSlA K) := h ▸ sl_tupA
theorem sl_listK (h : X.K = K) : SlR X (rSlL K) := h ▸ sl_list
theorem call_lenK (h : X.K = K) : CallR X (.builtin "len") (fun xs H Q => ∃ x n, xs = [x] ∧ LenV K x H n ∧ Q (.int n) H) := h ▸ call_len
theorem call_tupleK (h : X.K = K) : CallR X (.type "tuple") (fun xs H Q => ∃ p ys, xs = [.ref p] ∧ ((SqL K H p ys ∧ ∀ l, H l = none → Q (.ref l) (upd H l (.tup ys))) ∨ (SqT K H p ys ∧ Q (.ref p) H))) := h ▸ call_tuple_of
theorem call_listK (h : X.K = K) : CallR X (.type "list") (fun xs H Q => ∃ p ys, xs = [.ref p] ∧ (SqL K H p ys ∨ SqT K H p ys) ∧ ∀ l, H l = none → Q (.ref l) (upd H l (.lst ys))) := h ▸ call_list_of
theorem cr_minLK (h : X.K = K) (hc : X.calm = true) : CallR X (.builtin "min") (rMin K) := h ▸ cr_min hc
theorem cr_maxLK (h : X.K = K) (hc : X.calm = true) : CallR X (.builtin "max") (rMax K) := h ▸ cr_max hc
theorem cr_anyK (h : X.K = K) (hc : X.calm = true) : CallR X (.builtin "any") (rAny K) := h ▸ cr_any hc
theorem cr_sortSK (h : X.K = K) : CallR X (.builtin "sorted") (rSortedS K) := h ▸ cr_sortedS
theorem cr_reprK (h : X.K = K) (hu : X.A.units + 65 < cLine) (hg : X.A.guards = some []) : CallR X (.builtin "repr") (rRepr K) := h ▸ cr_repr hu hg
theorem call_isiK (h : X.K = K) : CallR X (.builtin "isinstance") (rIsi K) := h ▸ call_isi
theorem pi_listK {tg l : Expr} {tl : TE} (h : X.K = K) (hl : PE X l tl) : PI X tg l (iList K tl) := h ▸ pi_list hl
theorem pi_tupK {tg l : Expr} {tl : TE} (h : X.K = K) (hl : PE X l tl) : PI X tg l (iTup K tl) := h ▸ pi_tup hl
theorem pg_tupK {es : List Expr} {k : Nat} {t : TGs} {n : Nat} {pos : Pos} (hK : X.K = K) (hc : X.calm = true) (h : PGs X es t)
    (hn : (assignEach es X.env).length = n := by rfl) (hst : (assignEach es X.env).findIdx? (·.1) = none := by rfl) : PG X (.Tuple es k pos) (L2.gTup K n t) := hK ▸ pg_tup hc h hn hst
theorem pg_lstK {es : List Expr} {k : Nat} {t : TGs} {n : Nat} {pos : Pos} (hK : X.K = K) (hc : X.calm = true) (h : PGs X es t)
    (hn : (assignEach es X.env).length = n := by rfl) (hst : (assignEach es X.env).findIdx? (·.1) = none := by rfl) : PG X (.Tuple es k pos) (L2.gLst K n t) := hK ▸ pg_lst hc h hn hst
theorem pe_sortSetK {a : Expr} {ta : TE} {p p2 q pos : Pos} (hK : X.K = K) (hc : X.calm = true) (hg : Gl X "sorted") (hm : X.mg "sorted" = none) (hg2 : Gl X "set") (hm2 : X.mg "set" = none) (ha : PE X a ta)
    (na : starEach [a] X.env = (false, eval a X.env) :: starEach [] X.env := by rfl) : PE X (.Call (.Name "sorted" p) [.Call (.Name "set" p2) [a] [] q] [] pos) (tSrtSet K ta) := hK ▸ pe_sortSet hc hg hm hg2 hm2 ha na
end
end G

/-! the law's head: as the layer's, for promises that ask that no repr is under way -/
namespace L2
open PySem PySem.Spec PyProof.Rows
theorem law_callG {P : Program} {w : World} {K : PySem.W.Frag} {mg mb : Str → Option Value} {k : Nat} {fa a : Addr} {fd : FuncData} {x : Str} {sp : Sp} {s₁ : Shared} {vs : List Value} {ns : List Int}
    (KX : K.In s₁.heap) (hns : s₁.heap.Ns mainGlobals mg) (hb : s₁.heap.Ns builtinsNs mb) (hbb : ∀ x : Str, x ≠ "__name__" → mb x = bootBuiltins x) (hlim : s₁.heap.NoLimit) (hg : s₁.gens = #[])
    (ha : s₁.heap.get? a = some { cls := .type "list", data := .seq vs.toArray }) (hi : IntsAre vs ns) (hl : ns.length ≤ sizeLine) (hr : Room k callerA)
    (F : ∀ base : Heap, K.In base → base.Ns mainGlobals mg → G.FnG P w K mg base k fa fd [x] sp) (hbind : ∀ (s : Shared) (u : Value), BindsTo s fd ⟨[u], []⟩ [(x, u)])
    (hsp : ∀ H : Hp, Only H → SqL K H a (ns.map V.int) → sp [.ref a] H (fun v _ => v = .bl true) fun _ _ _ => False) :
    codeAny (model P w) callerA (.call (.ref fa) ⟨[.ref a], []⟩) (fun r s' => r = .ok (.ret (.bool true)) ∧ OldK s₁.heap s'.heap ∧ s'.os = s₁.os ∧ AllBare s'.gens) s₁ := by
  have rv := vals_ints hi
  have lenV := hi.length
  -- from an abstract heap in which nothing but the script may be tracked
  have core : ∀ H : Hp, Only H → SqL K H a (ns.map V.int) → HOk P w H s₁.heap → (∀ b, H b ≠ none → b = a) → (H a ≠ none → K.lookup a = none) →
      codeAny (model P w) callerA (.call (.ref fa) ⟨[.ref a], []⟩) (fun r s' => r = .ok (.ret (.bool true)) ∧ OldK s₁.heap s'.heap ∧ s'.os = s₁.os ∧ AllBare s'.gens) s₁ := by
    intro H hO hS hok hA hK
    have base_of : ∀ {b : Addr} {o : Obj}, s₁.heap.get? b = some o → H b = none → (hidT s₁.heap H).get? b = some o := fun e n => hidT_get e n
    have noA : ∀ {b : Addr} {o : Obj} {es : Array DictEntry} {ep : Nat}, s₁.heap.get? b = some o → o.data = .dict es ep → H b = none := fun {b o es ep} e d => by
      cases q : H b with
      | none => rfl
      | some u =>
        have e' : b = a := hA b (by rw [q]; simp)
        subst e'
        rw [ha] at e; cases e
        have d' : Data.seq vs.toArray _ = Data.dict es ep := d
        cases d'
    have nsK : ∀ {b : Addr} {m : Str → Option Value}, s₁.heap.Ns b m → (hidT s₁.heap H).Ns b m := fun {b m} ⟨o, es, ep, e, d, r⟩ => ⟨o, es, ep, base_of e (noA e d), d, r⟩
    have hKb : K.In (hidT s₁.heap H) := fun b o e => base_of (KX b o e) (by
      cases q : H b with
      | none => rfl
      | some u =>
        have e' : b = a := hA b (by rw [q]; simp)
        subst e'
        rw [hK (by rw [q]; simp)] at e; cases e)
    have hM : Mod K mg (hidT s₁.heap H) := ⟨hKb, nsK hns, ⟨mb, nsK hb, hbb⟩, let ⟨mc, h1, h2⟩ := hlim; ⟨mc, nsK h1, h2⟩⟩
    have e0 : Env0 P w K mg (hidT s₁.heap H) callerA [] s₁ H := ⟨rfl, hM, fun b o e => of_hidT e, Nat.le_of_eq (hidT_size _ _), trivial, fun b hb => absurd (show b ∈ ([] : List Addr) from hb) (by simp), hok, .of_eq hg⟩
    refine codeAny_mono ((F _ hKb (nsK hns)).run callerA [] s₁ H ⟨[.ref a], []⟩ [.ref a] [.ref a] _ _ hr rfl e0 (hbind s₁ (.ref a)) (.cons rfl .nil) (hsp H hO hS)) fun r s' h => ?_
    cases r with
    | error e => exact False.elim h
    | ok fl =>
      cases fl with
      | next => exact False.elim h
      | brk => exact False.elim h
      | cont => exact False.elim h
      | ret u =>
        obtain ⟨v, H', os, bare, un, hok', r', q⟩ := h
        have q' : v = .bl true := q
        subst q'
        obtain rfl : u = Value.bool true := r'
        refine ⟨rfl, OldK.of_keep fun b o e => ?_, os, bare⟩
        cases q : H b with
        | none => exact un.keep b o e q (by intro z; exact absurd (show b ∈ ([] : List Addr) from z) (by simp)) (by simp)
        | some u =>
          rcases hO b with z | ⟨ob, xs, z⟩
          · rw [q] at z; cases z
          · have z2 := un.frzs b ob _ z
            obtain ⟨e1, _⟩ := hok b _ z
            obtain ⟨e2, _⟩ := hok' b _ z2
            rw [e] at e1; cases e1
            exact e2
  cases hk : K.lookup a with
  | some o =>
    -- the script is one of the module's own objects
    have e := KX a o hk
    rw [ha] at e
    cases e
    refine core (fun _ => none) (fun _ => .inl rfl) (.inr ⟨_, vs.toArray, _, hk, rfl, rfl, rfl, by rw [List.size_toArray, lenV]; exact hl, by simpa using rv⟩) (fun b u z => by have z' : (none : Option HO) = some u := z; cases z') (fun b z => absurd rfl z) fun z => absurd rfl z
  | none =>
    refine core (fun b => if b = a then some (.frz { cls := .type "list", data := .seq vs.toArray } (.lst (ns.map V.int))) else none) (fun b => ?_) (.inl (.inr ⟨{ cls := .type "list", data := .seq vs.toArray }, if_pos rfl⟩)) (fun b u z => ?_) (fun b z => ?_) fun _ => hk
    · by_cases hb : b = a
      · exact .inr ⟨_, _, if_pos hb⟩
      · exact .inl (if_neg hb)
    · by_cases hb : b = a
      · have z' := (if_pos hb).symm.trans z
        cases z'
        subst hb
        exact ⟨ha, by rw [List.length_map]; exact hl, vs, _, rv, ha⟩
      · have z' := (if_neg hb).symm.trans z
        cases z'
    · by_cases hb : b = a
      · exact hb
      · exact absurd (if_neg hb) z

theorem walk_ofG {l : PySem.W.OpenLaw} {n k : Nat} {q : Program} {loose : List Str} {XP : (Str → Option Value) → Heap → Prop} {YP : World → Heap → Prop} {d : DefRec} {K : Params → PySem.W.Frag} {C : World → Addr → Prop} {fn : List PyData → Option PyData} {x : Str}
    (hn : l.most = some n) (hn2 : n ≤ sizeLine) (hdf : d.params.defaults = []) (hr : Room k callerA)
    (hY : ∀ (w : World) (h : Heap), YP w h → (K w.params).In h)
    (F : ∀ (w : World) (mg : Str → Option Value) (fa : Addr) (h : Heap), (K w.params).In h → h.Ns mainGlobals mg → mg d.name = some (.ref fa) →
      ∃ fd : FuncData, (∀ (s : Shared) (u : Value), BindsTo s fd ⟨[u], []⟩ [(x, u)]) ∧
        ∀ base : Heap, (K w.params).In base → base.Ns mainGlobals mg → G.FnG l.prog w (K w.params) mg base k fa fd [x] (G.spD ⟨K w.params, C w⟩ fn))
    (law : ∀ ns : List Int, ns.length ≤ n → fn [.list (ns.map .int)] = some (.bool true)) :
    PySem.W.WalkO q loose XP YP l.row.toRowW d [] (fun f vs => PySem.call f vs) := by
  refine Att.attach_call hn hdf fun w s₀ s₁ mg mb fa o pm cd doc a vs ns Gr Y ho hd hcd hmg hobj hints hlen hg => ?_
  have KX := hY w _ Y
  obtain ⟨fd, hb, hF⟩ := F w mg fa _ KX Gr.T.g hmg
  refine law_callG KX Gr.T.g Gr.T.b Gr.T.builtins Gr.T.nolimit hg hobj hints (Nat.le_trans hlen hn2) hr hF hb fun H hO hS => ?_
  exact ⟨H, [.list (ns.map .int)], .bool true, Same.refl _, .cons (.lst hS G.Reps.ints) .nil, law ns hlen, fun v F' H' x r => by cases r; rfl⟩
end L2
namespace G
open PySem PySem.Spec L2
theorem df {K : PySem.W.Frag} {h : Heap} {mg : Str → Option Value} {name : Str} {st : Stmt} {f : Addr} {oc : Value} {od an : Option Addr} {osl : Array (Option Value)} {kV doc pm cdv ct : Value} (X : K.In h) (G : h.Ns mainGlobals mg)
    (a : PySem.W.nsIn K mainGlobals name = some (some (.ref f))) (l : K.lookup f = some ⟨oc, od, .func (PySem.W.fnOf name name (defArgs st) (defBody st) (defScope st) .none kV doc pm an cdv ct), osl⟩)
    (c : PySem.W.codeIn K cdv name = true) (k : PySem.W.keepIn K (.ref f) = true) : ∃ (f : Addr) (fd : FuncData), Fun K name name st f fd ∧ mg name = some (.ref f) ∧ ∃ (kV doc pm : Value) (an : Option Addr) (cdv ct : Value), fd = PySem.W.fnOf name name (defArgs st) (defBody st) (defScope st) .none kV doc pm an cdv ct :=
  ⟨f, _, fun_mk l c k, PySem.W.mg_of X G a, kV, doc, pm, an, cdv, ct, rfl⟩
end G

namespace G
open PySem PySem.Spec L2
/-! the mirrors, step by step (for simp) -/
section
variable {sl : Sls} {f g h : Sls → Option D} {ft fu : Sls → Option Bool} {fl : Sls → Option (List D)} {fo fp : Sls → Option (Option Int)} {s t : Sls → Option Fl} {d x y : D} {o o' : D → D → Option D} {i j : Nat} {ds : List D}
@[simp] theorem z_val : dVar i sl = (match sl[i]? with | some (.val d) => some d | _ => none) := id rfl
@[simp] theorem z_view : dView i sl = (match sl[i]? with | some (.val d) => some d | some (.own d) => some d | _ => none) := id rfl
@[simp] theorem z_c : dC d sl = some d := id rfl
@[simp] theorem z_op : dOp o f g sl = (f sl).bind fun x => (g sl).bind fun y => o x y := id rfl
@[simp] theorem z_un {u : D → Option D} : dUn u f sl = (f sl).bind u := id rfl
@[simp] theorem z_nil : dNil sl = some [] := id rfl
@[simp] theorem z_cons : dCons f fl sl = (f sl).bind fun x => (fl sl).bind fun xs => some (x :: xs) := id rfl
@[simp] theorem z_app {u : List D → Option D} : dApp u fl sl = (fl sl).bind u := id rfl
@[simp] theorem z_test : dTest f sl = (f sl).bind truD := id rfl
@[simp] theorem z_and : dAnd ft fu sl = (ft sl).bind fun b => if b = true then fu sl else some false := id rfl
@[simp] theorem z_or : dOr ft fu sl = (ft sl).bind fun b => if b = true then some true else fu sl := id rfl
@[simp] theorem z_not : dNot ft sl = (ft sl).bind fun b => some (!b) := id rfl
@[simp] theorem z_andV : dAndV f g sl = (f sl).bind fun d => (truD d).bind fun b => if b = true then g sl else some (.bool false) := id rfl
@[simp] theorem z_orV : dOrV f g sl = (f sl).bind fun d => (truD d).bind fun b => if b = true then some (.bool true) else g sl := id rfl
@[simp] theorem z_notV : dNotV f sl = (f sl).bind fun d => (truD d).bind fun b => some (.bool (!b)) := id rfl
@[simp] theorem z_if : dIf ft f g sl = (ft sl).bind fun b => if b = true then f sl else g sl := id rfl
@[simp] theorem z_chain : dChain o o' f g h sl = (f sl).bind fun x => (g sl).bind fun y => (o x y).bind fun z => (truD z).bind fun b => if b = true then (h sl).bind fun w => o' y w else some (.bool false) := id rfl
@[simp] theorem z_tru : dTru f sl = (f sl).bind truA := id rfl
@[simp] theorem z_truD {b : Bool} : truD (.bool b) = some b := id rfl
@[simp] theorem z_tup : G.gTup ds = if ds.length ≤ 100000 then some (.tuple ds) else none := id rfl
@[simp] theorem z_lst : G.gLst ds = if ds.length ≤ 100000 then some (.list ds) else none := id rfl
@[simp] theorem z_oN : oNone sl = some none := id rfl
@[simp] theorem z_oS {k : Int} : oSome (dC (.int k)) sl = some (some k) := id rfl
@[simp] theorem z_slT : dSlT f fo fp sl = (f sl).bind fun d => (fo sl).bind fun lo => (fp sl).bind fun hi => match d with
  | .tuple ds => some (.tuple (cutD ds lo hi))
  | _ => none := id rfl
@[simp] theorem z_sl : dSl f fo fp sl = (f sl).bind fun d => (fo sl).bind fun lo => (fp sl).bind fun hi => match d with
  | .list ds => some (.list (cutD ds lo hi))
  | _ => none := id rfl
@[simp] theorem z_next : sNext sl = some (.nx sl) := id rfl
@[simp] theorem z_seq : sSeq s t sl = (s sl).bind (andThen t) := id rfl
@[simp] theorem z_then : andThen t (.nx sl) = t sl := id rfl
@[simp] theorem z_thenR : andThen t (.rt d) = some (.rt d) := id rfl
@[simp] theorem z_thenO : andThen t (.ro d) = some (.ro d) := id rfl
@[simp] theorem z_thenB : andThen t (.bk sl) = some (.bk sl) := id rfl
@[simp] theorem z_thenC : andThen t (.ct sl) = some (.ct sl) := id rfl
@[simp] theorem z_ret : sRet f sl = (f sl).map .rt := id rfl
@[simp] theorem z_set : sSet i f sl = (f sl).map fun d => .nx (sl.set i (.val d)) := id rfl
@[simp] theorem z_setN : sSetN i f sl = (f sl).map fun d => .nx (sl.set i (.own d)) := id rfl
@[simp] theorem z_ifS : sIf ft s t sl = (ft sl).bind fun b => if b = true then s sl else t sl := id rfl
@[simp] theorem z_frz : frz i s sl = (match sl[i]? with | some (.own d) => s (sl.set i (.val d)) | _ => s sl) := id rfl
@[simp] theorem z_appd : sAppend i fl sl = (match sl[i]? with
  | some (.own (.list ds)) => (fl sl).bind fun xs => match xs with
    | [x] => if ds.length < 100000 then some (.nx (sl.set i (.own (.list (ds ++ [x]))))) else none
    | _ => none
  | _ => none) := id rfl
@[simp] theorem z_ext : sExtend i f sl = (match sl[i]? with
  | some (.own (.list ds)) => (f sl).bind fun x => match x with
    | .list es => if ds.length + es.length ≤ 100000 then some (.nx (sl.set i (.own (.list (ds ++ es))))) else none
    | _ => none
  | _ => none) := id rfl
@[simp] theorem z_tgN : tgName i d sl = some (sl.set i (.val d)) := id rfl
@[simp] theorem z_tg0 : tgNil [] sl = some sl := id rfl
@[simp] theorem z_tgC {u : D → Sls → Option Sls} {r : List D → Sls → Option Sls} : tgCons u r (d :: ds) sl = (u d sl).bind (r ds) := id rfl
@[simp] theorem z_tgT {n : Nat} {r : List D → Sls → Option Sls} : tgTup n r (.tuple ds) sl = if ds.length = n then r ds sl else none := id rfl
@[simp] theorem z_tgL {n : Nat} {r : List D → Sls → Option Sls} : tgLst n r (.list ds) sl = if ds.length = n then r ds sl else none := id rfl
@[simp] theorem z_asg {u : D → Sls → Option Sls} : sAsg u f sl = (f sl).bind fun d => (u d sl).map .nx := id rfl
@[simp] theorem z_par : sPar i j fl sl = (fl sl).bind fun ds => match ds with
  | [d, e] => some (.nx ((sl.set i (.val d)).set j (.val e)))
  | _ => none := id rfl
@[simp] theorem z_for {fi : Sls → Option (List D)} {u : D → Sls → Option Sls} : sFor fi u s sl = (fi sl).bind fun ds => forL u s ds sl := id rfl
@[simp] theorem z_iL : iLst f sl = (f sl).bind fun d => match d with
  | .list ds => some ds
  | _ => none := id rfl
@[simp] theorem z_iT : iTpl f sl = (f sl).bind fun d => match d with
  | .tuple ds => some ds
  | _ => none := id rfl
@[simp] theorem z_iR : iRange fl sl = (fl sl).bind fun ds => match ds with
  | [.int j] => if -1000000 ≤ j ∧ j ≤ 1000000 then some (rangeD 0 j.toNat) else none
  | [.int i, .int j] => if -(2 ^ 62) ≤ i ∧ i < 2 ^ 62 ∧ -(2 ^ 62) ≤ j ∧ j < 2 ^ 62 then some (rangeD i (j - i).toNat) else none
  | _ => none := id rfl
@[simp] theorem z_rg : dLstRg f g sl = (f sl).bind fun x => (g sl).bind fun y => match x, y with
  | .int a, .int b => if RgD a b then some (.list (rangeD a (b - a).toNat)) else none
  | _, _ => none := id rfl
@[simp] theorem z_endR : endD (.rt d) = some d := id rfl
@[simp] theorem z_endO : endD (.ro d) = some d := id rfl
@[simp] theorem z_endN : endD (.nx sl) = some .none := id rfl
@[simp] theorem z_fn {n p : Nat} : fnD n p s ds = if ds.length = p then (s (startS n ds)).bind endD else none := id rfl
@[simp] theorem z_start {n : Nat} : startS n ds = ds.map SV.val ++ List.replicate (n - ds.length) SV.no := id rfl
@[simp] theorem z_w0 : wipeS sl [] = sl := id rfl
@[simp] theorem z_wC {v : Nat} {vs : List Nat} : wipeS sl (v :: vs) = (wipeS sl vs).set v .no := id rfl
@[simp] theorem z_lc {fi : Sls → Option (List D)} {u : D → Sls → Option Sls} {vs : List Nat} : dLc fi u ft f vs sl = (fi sl).bind fun ds => (lcL u ft f (wipeS sl vs) ds).bind fun ys => if ys.length ≤ 100000 then some (.list ys) else none := id rfl
@[simp] theorem z_lc2 {fi fi1 : Sls → Option (List D)} {u u1 : D → Sls → Option Sls} {vs vs1 : List Nat} : dLc2 fi u ft fi1 u1 fu f vs vs1 sl = (fi sl).bind fun ds => (lc2L u ft fi1 u1 fu f vs1 (wipeS sl vs) ds).bind fun ys => if ys.length ≤ 100000 then some (.list ys) else none := id rfl
end
/-! values -/
section
variable {a b : Int} {p q : Bool} {u v : Str} {ds es : List D}
@[simp] theorem y_sub : gSub (.int a) (.int b) = some (.int (a - b)) := id rfl
@[simp] theorem y_add : gAdd (.int a) (.int b) = some (.int (a + b)) := id rfl
@[simp] theorem y_addS : gAdd (.str u) (.str v) = if u.length + v.length ≤ 100000 then some (.str (u ++ v)) else none := id rfl
@[simp] theorem y_addL : gAddL (.list ds) (.list es) = if ds.length + es.length ≤ 100000 then some (.list (ds ++ es)) else none := id rfl
@[simp] theorem y_addL2 : gAdd (.list ds) (.list es) = if ds.length + es.length ≤ 100000 then some (.list (ds ++ es)) else none := id rfl
@[simp] theorem y_lt : gLt (.int a) (.int b) = some (.bool (decide (a < b))) := id rfl
@[simp] theorem y_le : gLe (.int a) (.int b) = some (.bool (decide (a ≤ b))) := id rfl
@[simp] theorem y_gt : gGt (.int a) (.int b) = some (.bool (decide (b < a))) := id rfl
@[simp] theorem y_ge : gGe (.int a) (.int b) = some (.bool (decide (b ≤ a))) := id rfl
@[simp] theorem y_neg : gNeg (.int a) = some (.int (-a)) := id rfl
@[simp] theorem y_int : gInt [.int a] = some (.int a) := id rfl
@[simp] theorem y_intB : gInt [.bool p] = some (.int (if p then 1 else 0)) := id rfl
@[simp] theorem y_abs : gAbs [.int a] = some (.int (if a < 0 then -a else a)) := id rfl
@[simp] theorem y_max : gMax2 [.int a, .int b] = some (.int (if b > a then b else a)) := id rfl
@[simp] theorem y_min : gMin2 [.int a, .int b] = some (.int (if b < a then b else a)) := id rfl
@[simp] theorem y_len : gLen [.list ds] = some (.int ds.length) := id rfl
@[simp] theorem y_lenT : gLen [.tuple ds] = some (.int ds.length) := id rfl
@[simp] theorem y_tup : gTuple [.list ds] = some (.tuple ds) := id rfl
@[simp] theorem y_tupT : gTuple [.tuple ds] = some (.tuple ds) := id rfl
@[simp] theorem y_list : gListC [.list ds] = some (.list ds) := id rfl
@[simp] theorem y_notN : gNotN (.none) (.none) = some (.bool false) := id rfl
@[simp] theorem y_notNi : gNotN (.int a) (.none) = some (.bool true) := id rfl
@[simp] theorem y_notNt : gNotN (.tuple ds) (.none) = some (.bool true) := id rfl
@[simp] theorem y_isN : gIsN (.none) (.none) = some (.bool true) := id rfl
@[simp] theorem y_isNi : gIsN (.int a) (.none) = some (.bool false) := id rfl
@[simp] theorem y_ixT : gIx (.tuple ds) (.int a) = L2.atI ds a := id rfl
@[simp] theorem y_ixL : gIx (.list ds) (.int a) = L2.atI ds a := id rfl
theorem y_mod (h : b ≠ 0) : gMod (.int a) (.int b) = some (.int (a.fmod b)) := if_pos h
theorem y_div (h : CDivD a b) : gDiv (.int a) (.int b) = some (.int (a.fdiv b)) := if_pos h
theorem y_mul (h : CMulD a b) : gMul (.int a) (.int b) = some (.int (a * b)) := if_pos h
theorem y_eqI : gEq (.int a) (.int b) = some (.bool (a == b)) := id rfl
theorem y_neI : gNe (.int a) (.int b) = some (.bool (!(a == b))) := id rfl
theorem y_eqS (h1 : PyData.strOk u = true) (h2 : PyData.strOk v = true) : gEq (.str u) (.str v) = some (.bool (u == v)) := by
  unfold gEq
  rw [if_pos]
  · rfl
  · simp [fitE, okD, SeqAt.shaped, PyData.canLay0, PyData.depth, h1, h2]
end
/-! lists walked -/
theorem lcL_of {gs : D → Sls → Option Sls} {ft : Sls → Option Bool} {fe : Sls → Option D} {sl : Sls} (q : D → Option D) : ∀ {ds : List D}, (∀ x ∈ ds, ((gs x sl).bind fun s => (ft s).bind fun b => if b = true then (fe s).map some else some none) = some (q x)) → lcL gs ft fe sl ds = some (ds.filterMap q)
  | [], _ => rfl
  | x :: xs, h => by
    rw [lcL_step]
    have h1 := h x List.mem_cons_self
    have h2 := lcL_of (gs := gs) (ft := ft) (fe := fe) (sl := sl) q (ds := xs) fun y hy => h y (List.mem_cons_of_mem _ hy)
    obtain ⟨s, e1, h1⟩ := bind_some h1
    obtain ⟨b, e2, h1⟩ := bind_some h1
    rw [e1, Option.bind_some, e2, Option.bind_some, h2]
    cases b with
    | true =>
      obtain ⟨y, e3, e4⟩ := Option.map_eq_some_iff.mp (show (fe s).map some = some (q x) from h1)
      rw [if_pos rfl, e3, List.filterMap_cons, ← e4]
      rfl
    | false =>
      have e : q x = none := (Option.some.inj (show some none = some (q x) from h1)).symm
      rw [if_neg Bool.false_ne_true, List.filterMap_cons, e]
end G

section
set_option maxHeartbeats 400000
namespace K54
open PySem PySem.Spec L2 G
def topS (i : Nat) : Stmt := PySem.Challenge.pw_livesalike_k54_operators_of_spans.main.body.getD i (.Pass ⟨0, 0, 0, 0⟩)
def dEMPTY : D := .tuple [.none, .none, .int 0, .tuple []]
def dCOMPARISONS : D := .tuple [.str "<", .str "<=", .str ">", .str ">="]
structure GG (K : Kx) (mg : Str → Option Value) (aE aC : Addr) : Prop where
  LARGEST : ∃ t, mg "LARGEST" = some (.int 999999999 t)
  EMPTY : mg "EMPTY" = some (.ref aE)
  rEMPTY : ∀ F : Hp, Rep K F dEMPTY (.ref aE)
  COMPARISONS : mg "COMPARISONS" = some (.ref aC)
  rCOMPARISONS : ∀ F : Hp, Rep K F dCOMPARISONS (.ref aC)
abbrev s_in_order : Stmt := topS 1
theorem sc_in_order : FnScope ["found"] ["found"] (defScope s_in_order) := ⟨rfl, rfl, rfl, by decide +kernel, rfl, by decide +kernel, by decide +kernel⟩
def b_in_order : Sls → Option Fl :=
    (sRet (dApp gTuple (dCons (dUn gInOrder (dView 0)) dNil)))
def m_in_order : List D → Option D := fnD 1 1 b_in_order
theorem ok_in_order {P : Program} {w : World} {K : Kx} {mg : Str → Option Value} {base : Heap} {f : Addr} {fd : FuncData} (bl : Bl mg) (F : Fun K.fr "in_order" "in_order" s_in_order f fd) (hm : mg "in_order" = some (.ref f)) : CalG P w K.fr mg base 1 "in_order" (spD K m_in_order) := by
  have nd := sc_in_order.nd
  have key : FnG P w K.fr mg base 1 f fd ["found"] (spD K (fnD (["found"] : List Str).length (["found"] : List Str).length b_in_order)) := by
    apply fnG_of (k := 0) (b := b_in_order) F sc_in_order
    intro cdv A outer s H E hr hgd
    refine ⟨_, (pss_one (ps_ret (pe_callTy (call_tupleK (K := K.fr) rfl) (by rfl) bl.tuple (by decide +kernel) (pa_cons (pe_sortSetK (K := K.fr) rfl rfl rfl bl.sorted rfl bl.set (pv 0)) pa_nil)))), ?_⟩
    exact (run_ret (ev_cb cs_tuple (ew_cons ((en_inOrder (vv_var 0))).v ew_nil)))
  have bi : Binds K.fr fd ["found"] [] := F.binds fun _ _ _ _ _ _ us hl => match us, hl with | [_], _ => rfl
  exact ⟨f, fd, ["found"], key, hm, F.kp, bi⟩
abbrev s_ordered : Stmt := topS 4
theorem sc_ordered : FnScope ["sign", "left", "right"] ["sign", "left", "right"] (defScope s_ordered) := ⟨rfl, rfl, rfl, by decide +kernel, rfl, by decide +kernel, by decide +kernel⟩
def b_ordered : Sls → Option Fl :=
    (sSeq (sIf (dTest (dOp gEq (dView 0) (dC (.str "<")))) (sRet (dApp gInt (dCons (dOp gLt (dView 1) (dView 2)) dNil))) sNext)
    (sSeq (sIf (dTest (dOp gEq (dView 0) (dC (.str "<=")))) (sRet (dApp gInt (dCons (dOp gLe (dView 1) (dView 2)) dNil))) sNext)
    (sSeq (sIf (dTest (dOp gEq (dView 0) (dC (.str ">")))) (sRet (dApp gInt (dCons (dOp gGt (dView 1) (dView 2)) dNil))) sNext)
    (sRet (dApp gInt (dCons (dOp gGe (dView 1) (dView 2)) dNil))))))
def m_ordered : List D → Option D := fnD 3 3 b_ordered
theorem ok_ordered {P : Program} {w : World} {K : Kx} {mg : Str → Option Value} {base : Heap} {f : Addr} {fd : FuncData} (bl : Bl mg) (F : Fun K.fr "ordered" "ordered" s_ordered f fd) (hm : mg "ordered" = some (.ref f)) : CalG P w K.fr mg base 1 "ordered" (spD K m_ordered) := by
  have nd := sc_ordered.nd
  have key : FnG P w K.fr mg base 1 f fd ["sign", "left", "right"] (spD K (fnD (["sign", "left", "right"] : List Str).length (["sign", "left", "right"] : List Str).length b_ordered)) := by
    apply fnG_of (k := 0) (b := b_ordered) F sc_ordered
    intro cdv A outer s H E hr hgd
    refine ⟨_, (pss_cons (ps_if (pt_cmpR (op_eqK (K := K.fr) rfl hr.units) (pv 0) pe_str (nomark _)) (pss_one (ps_ret (pe_callTy call_int1 (by rfl) bl.int (by decide +kernel) (pa_cons (pe_cmpR op_lt (pv 1) (pv 2) (nomark _)) pa_nil)))) pss_nil)
    (pss_cons (ps_if (pt_cmpR (op_eqK (K := K.fr) rfl hr.units) (pv 0) pe_str (nomark _)) (pss_one (ps_ret (pe_callTy call_int1 (by rfl) bl.int (by decide +kernel) (pa_cons (pe_cmpR op_le (pv 1) (pv 2) (nomark _)) pa_nil)))) pss_nil)
    (pss_cons (ps_if (pt_cmpR (op_eqK (K := K.fr) rfl hr.units) (pv 0) pe_str (nomark _)) (pss_one (ps_ret (pe_callTy call_int1 (by rfl) bl.int (by decide +kernel) (pa_cons (pe_cmpR op_gt (pv 1) (pv 2) (nomark _)) pa_nil)))) pss_nil)
    (pss_one (ps_ret (pe_callTy call_int1 (by rfl) bl.int (by decide +kernel) (pa_cons (pe_cmpR op_ge (pv 1) (pv 2) (nomark _)) pa_nil))))))), ?_⟩
    exact (run_seq (run_if (et_val (ev_op os_eq (vv_var 0) (ev_str).v)) (run_ret (ev_cb cs_int (ew_cons ((ev_op os_lt (vv_var 1) (vv_var 2))).v ew_nil))) run_next)
    (run_seq (run_if (et_val (ev_op os_eq (vv_var 0) (ev_str).v)) (run_ret (ev_cb cs_int (ew_cons ((ev_op os_le (vv_var 1) (vv_var 2))).v ew_nil))) run_next)
    (run_seq (run_if (et_val (ev_op os_eq (vv_var 0) (ev_str).v)) (run_ret (ev_cb cs_int (ew_cons ((ev_op os_gt (vv_var 1) (vv_var 2))).v ew_nil))) run_next)
    (run_ret (ev_cb cs_int (ew_cons ((ev_op os_ge (vv_var 1) (vv_var 2))).v ew_nil))))))
  have bi : Binds K.fr fd ["sign", "left", "right"] [] := F.binds fun _ _ _ _ _ _ us hl => match us, hl with | [_, _, _], _ => rfl
  exact ⟨f, fd, ["sign", "left", "right"], key, hm, F.kp, bi⟩
abbrev s_number_span : Stmt := topS 7
theorem sc_number_span : FnScope ["low", "high"] ["low", "high"] (defScope s_number_span) := ⟨rfl, rfl, rfl, by decide +kernel, rfl, by decide +kernel, by decide +kernel⟩
def b_number_span : Sls → Option Fl :=
    (sSeq (sIf (dTest (dOp gGt (dView 0) (dView 1))) (sRet (dC dEMPTY)) sNext)
    (sRet (dApp gTup (dCons (dVar 0) (dCons (dVar 1) (dCons (dC (.int 0)) (dCons (dApp gTup dNil) dNil)))))))
def m_number_span : List D → Option D := fnD 2 2 b_number_span
theorem ok_number_span {P : Program} {w : World} {K : Kx} {mg : Str → Option Value} {base : Heap} {f : Addr} {fd : FuncData} {aE aC : Addr} (bl : Bl mg) (gg : GG K mg aE aC) (F : Fun K.fr "number_span" "number_span" s_number_span f fd) (hm : mg "number_span" = some (.ref f)) : CalG P w K.fr mg base 1 "number_span" (spD K m_number_span) := by
  have nd := sc_number_span.nd
  have key : FnG P w K.fr mg base 1 f fd ["low", "high"] (spD K (fnD (["low", "high"] : List Str).length (["low", "high"] : List Str).length b_number_span)) := by
    apply fnG_of (k := 0) (b := b_number_span) F sc_number_span
    intro cdv A outer s H E hr hgd
    refine ⟨_, (pss_cons (ps_if (pt_cmpR op_gt (pv 0) (pv 1) (nomark _)) (pss_one (ps_ret (pe_glob (v := .ref _) rfl gg.EMPTY rfl))) pss_nil)
    (pss_one (ps_ret (pe_tup (pa_cons (pv 0) (pa_cons (pv 1) (pa_cons pe_int (pa_cons (pe_tup pa_nil) pa_nil)))))))), ?_⟩
    exact (run_seq (run_if (et_val (ev_op os_gt (vv_var 0) (vv_var 1))) (run_ret (ev_k gg.rEMPTY)) run_next)
    (run_ret (ev_tup (ea_cons (ev_var 0) (ea_cons (ev_var 1) (ea_cons ev_int (ea_cons (ev_tup ea_nil) ea_nil)))))))
  have bi : Binds K.fr fd ["low", "high"] [] := F.binds fun _ _ _ _ _ _ us hl => match us, hl with | [_, _], _ => rfl
  exact ⟨f, fd, ["low", "high"], key, hm, F.kp, bi⟩
abbrev s_bits_span : Stmt := topS 8
theorem sc_bits_span : FnScope ["zero", "one"] ["zero", "one"] (defScope s_bits_span) := ⟨rfl, rfl, rfl, by decide +kernel, rfl, by decide +kernel, by decide +kernel⟩
def b_bits_span : Sls → Option Fl :=
    (sRet (dApp m_number_span (dCons (dOp gSub (dC (.int 1)) (dApp gInt (dCons (dView 0) dNil))) (dCons (dApp gInt (dCons (dView 1) dNil)) dNil))))
def m_bits_span : List D → Option D := fnD 2 2 b_bits_span
theorem ok_bits_span {P : Program} {w : World} {K : Kx} {mg : Str → Option Value} {base : Heap} {f : Addr} {fd : FuncData} (bl : Bl mg) (F : Fun K.fr "bits_span" "bits_span" s_bits_span f fd) (hm : mg "bits_span" = some (.ref f)) (c_number_span : CalG P w K.fr mg base 1 "number_span" (spD K m_number_span)) : CalG P w K.fr mg base 2 "bits_span" (spD K m_bits_span) := by
  have nd := sc_bits_span.nd
  have key : FnG P w K.fr mg base 2 f fd ["zero", "one"] (spD K (fnD (["zero", "one"] : List Str).length (["zero", "one"] : List Str).length b_bits_span)) := by
    apply fnG_of (k := 1) (b := b_bits_span) F sc_bits_span
    intro cdv A outer s H E hr hgd
    refine ⟨_, (pss_one (ps_ret (pe_cg c_number_span hr (by decide) hgd rfl (pa_cons (pe_op op_sub pe_int (pe_callTy call_int1 (by rfl) bl.int (by decide +kernel) (pa_cons (pv 0) pa_nil))) (pa_cons (pe_callTy call_int1 (by rfl) bl.int (by decide +kernel) (pa_cons (pv 1) pa_nil)) pa_nil))))), ?_⟩
    exact (run_ret (ev_call (ea_cons (ev_op os_sub (ev_int).v ((ev_cb cs_int (ew_cons (vv_var 0) ew_nil))).v) (ea_cons (ev_cb cs_int (ew_cons (vv_var 1) ew_nil)) ea_nil))))
  have bi : Binds K.fr fd ["zero", "one"] [] := F.binds fun _ _ _ _ _ _ us hl => match us, hl with | [_, _], _ => rfl
  exact ⟨f, fd, ["zero", "one"], key, hm, F.kp, bi⟩
abbrev s_has_numbers : Stmt := topS 9
theorem sc_has_numbers : FnScope ["span"] ["span"] (defScope s_has_numbers) := ⟨rfl, rfl, rfl, by decide +kernel, rfl, by decide +kernel, by decide +kernel⟩
def b_has_numbers : Sls → Option Fl :=
    (sRet (dOp gNotN (dOp gIx (dView 0) (dC (.int 0))) (dC .none)))
def m_has_numbers : List D → Option D := fnD 1 1 b_has_numbers
theorem ok_has_numbers {P : Program} {w : World} {K : Kx} {mg : Str → Option Value} {base : Heap} {f : Addr} {fd : FuncData} (bl : Bl mg) (F : Fun K.fr "has_numbers" "has_numbers" s_has_numbers f fd) (hm : mg "has_numbers" = some (.ref f)) : CalG P w K.fr mg base 1 "has_numbers" (spD K m_has_numbers) := by
  have nd := sc_has_numbers.nd
  have key : FnG P w K.fr mg base 1 f fd ["span"] (spD K (fnD (["span"] : List Str).length (["span"] : List Str).length b_has_numbers)) := by
    apply fnG_of (k := 0) (b := b_has_numbers) F sc_has_numbers
    intro cdv A outer s H E hr hgd
    refine ⟨_, (pss_one (ps_ret (pe_cmpR op_notN (pe_ix (ix_seqK (K := K.fr) rfl) (pv 0) pe_int (fun _ _ => rfl)) pe_non (nomark _)))), ?_⟩
    exact (run_ret (ev_op os_notN ((ev_op os_ix (vv_var 0) (ev_int).v)).v (ev_non).v))
  have bi : Binds K.fr fd ["span"] [] := F.binds fun _ _ _ _ _ _ us hl => match us, hl with | [_], _ => rfl
  exact ⟨f, fd, ["span"], key, hm, F.kp, bi⟩
abbrev s_kind_faults : Stmt := topS 12
theorem sc_kind_faults : FnScope ["span"] ["span"] (defScope s_kind_faults) := ⟨rfl, rfl, rfl, by decide +kernel, rfl, by decide +kernel, by decide +kernel⟩
def b_kind_faults : Sls → Option Fl :=
    (sSeq (sIf (dOr (dTest (dOp gEq (dOp gIx (dView 0) (dC (.int 2))) (dC (.int 1)))) (dTest (dOp gNe (dOp gIx (dView 0) (dC (.int 3))) (dApp gTup dNil)))) (sRet (dApp gLst (dCons (dC (.str "kind")) dNil))) sNext)
    (sRet (dApp gLst dNil)))
def m_kind_faults : List D → Option D := fnD 1 1 b_kind_faults
theorem ok_kind_faults {P : Program} {w : World} {K : Kx} {mg : Str → Option Value} {base : Heap} {f : Addr} {fd : FuncData} (bl : Bl mg) (F : Fun K.fr "kind_faults" "kind_faults" s_kind_faults f fd) (hm : mg "kind_faults" = some (.ref f)) : CalG P w K.fr mg base 1 "kind_faults" (spD K m_kind_faults) := by
  have nd := sc_kind_faults.nd
  have key : FnG P w K.fr mg base 1 f fd ["span"] (spD K (fnD (["span"] : List Str).length (["span"] : List Str).length b_kind_faults)) := by
    apply fnG_of (k := 0) (b := b_kind_faults) F sc_kind_faults
    intro cdv A outer s H E hr hgd
    refine ⟨_, (pss_cons (ps_if (PW.pt (pw_or (pt_cmpR (op_eqK (K := K.fr) rfl hr.units) (pe_ix (ix_seqK (K := K.fr) rfl) (pv 0) pe_int (fun _ _ => rfl)) pe_int (nomark _)) (pw_or1 (pt_cmpR (op_neK (K := K.fr) rfl hr.units) (pe_ix (ix_seqK (K := K.fr) rfl) (pv 0) pe_int (fun _ _ => rfl)) (pe_tup pa_nil) (nomark _))))) (pss_one (ps_ret (pe_lst (pa_cons pe_str pa_nil)))) pss_nil)
    (pss_one (ps_ret (pe_lst pa_nil)))), ?_⟩
    exact (run_seq (run_if (et_or (et_val (ev_op os_eq ((ev_op os_ix (vv_var 0) (ev_int).v)).v (ev_int).v)) (et_val (ev_op os_ne ((ev_op os_ix (vv_var 0) (ev_int).v)).v ((ev_tup ea_nil)).v))) (run_ret ((en_lst (ea_cons ev_str ea_nil))).d) run_next)
    (run_ret ((en_lst ea_nil)).d))
  have bi : Binds K.fr fd ["span"] [] := F.binds fun _ _ _ _ _ _ us hl => match us, hl with | [_], _ => rfl
  exact ⟨f, fd, ["span"], key, hm, F.kp, bi⟩
abbrev s_has_common : Stmt := topS 13
theorem sc_has_common : FnScope ["left", "right", "name"] ["left", "right"] (defScope s_has_common) := ⟨rfl, rfl, rfl, by decide +kernel, rfl, by decide +kernel, by decide +kernel⟩
def b_has_common : Sls → Option Fl :=
    (sSeq (sIf (dAnd (dTest (dApp m_has_numbers (dCons (dVar 0) dNil))) (dAnd (dTest (dApp m_has_numbers (dCons (dVar 1) dNil))) (dTest (dOp gLe (dApp gMax2 (dCons (dOp gIx (dView 0) (dC (.int 0))) (dCons (dOp gIx (dView 1) (dC (.int 0))) dNil))) (dApp gMin2 (dCons (dOp gIx (dView 0) (dC (.int 1))) (dCons (dOp gIx (dView 1) (dC (.int 1))) dNil))))))) (sRet (dC (.bool true))) sNext)
    (sSeq (sIf (dAnd (dTest (dOp gEq (dOp gIx (dView 0) (dC (.int 2))) (dC (.int 1)))) (dTest (dOp gEq (dOp gIx (dView 1) (dC (.int 2))) (dC (.int 1))))) (sRet (dC (.bool true))) sNext)
    (sRet (dApp gAny (dCons (dLc (iTpl (dOp gIx (dView 0) (dC (.int 3)))) (tgName 2) (fun _ => some true) (dOp (gInA false) (dView 2) (dOp gIx (dView 1) (dC (.int 3)))) [2]) dNil)))))
def m_has_common : List D → Option D := fnD 3 2 b_has_common
theorem ok_has_common {P : Program} {w : World} {K : Kx} {mg : Str → Option Value} {base : Heap} {f : Addr} {fd : FuncData} (bl : Bl mg) (F : Fun K.fr "has_common" "has_common" s_has_common f fd) (hm : mg "has_common" = some (.ref f)) (c_has_numbers : CalG P w K.fr mg base 1 "has_numbers" (spD K m_has_numbers)) : CalG P w K.fr mg base 2 "has_common" (spD K m_has_common) := by
  have nd := sc_has_common.nd
  have key : FnG P w K.fr mg base 2 f fd ["left", "right"] (spD K (fnD (["left", "right", "name"] : List Str).length (["left", "right"] : List Str).length b_has_common)) := by
    apply fnG_of (k := 1) (b := b_has_common) F sc_has_common
    intro cdv A outer s H E hr hgd
    refine ⟨_, (pss_cons (ps_if (PW.pt (pw_and (pt_val (pe_cg c_has_numbers hr (by decide) hgd rfl (pa_cons (pv 0) pa_nil))) (pw_and (pt_val (pe_cg c_has_numbers hr (by decide) hgd rfl (pa_cons (pv 1) pa_nil))) (pw_and1 (pt_cmpR op_le (pe_callB (call_max2 rfl) (by rfl) bl.max (by decide +kernel) (pa_cons (pe_ix (ix_seqK (K := K.fr) rfl) (pv 0) pe_int (fun _ _ => rfl)) (pa_cons (pe_ix (ix_seqK (K := K.fr) rfl) (pv 1) pe_int (fun _ _ => rfl)) pa_nil))) (pe_callB (call_min2 rfl) (by rfl) bl.min (by decide +kernel) (pa_cons (pe_ix (ix_seqK (K := K.fr) rfl) (pv 0) pe_int (fun _ _ => rfl)) (pa_cons (pe_ix (ix_seqK (K := K.fr) rfl) (pv 1) pe_int (fun _ _ => rfl)) pa_nil))) (nomark _)))))) (pss_one (ps_ret pe_bl)) pss_nil)
    (pss_cons (ps_if (PW.pt (pw_and (pt_cmpR (op_eqK (K := K.fr) rfl hr.units) (pe_ix (ix_seqK (K := K.fr) rfl) (pv 0) pe_int (fun _ _ => rfl)) pe_int (nomark _)) (pw_and1 (pt_cmpR (op_eqK (K := K.fr) rfl hr.units) (pe_ix (ix_seqK (K := K.fr) rfl) (pv 1) pe_int (fun _ _ => rfl)) pe_int (nomark _))))) (pss_one (ps_ret pe_bl)) pss_nil)
    (pss_one (ps_ret (pe_callB (cr_anyK (K := K.fr) rfl rfl) (by rfl) bl.any (by decide +kernel) (pa_cons (pe_lc (own := [("name", 2)]) rfl nd (pi_tupK (K := K.fr) rfl (pe_ix (ix_seqK (K := K.fr) rfl) (pv 0) pe_int (fun _ _ => rfl))) (blkOk_by (N := ["left", "right", "name"]) (sc := defScope s_has_common) (by decide +kernel)) (fun _ _ _ _ _ => (pg_name (i := 2) nd rfl (.inl rfl))) (fun _ _ _ _ _ => pts_nil) (fun _ _ _ _ _ => (pe_cmpR (op_inK (K := K.fr) rfl (hu65 hr)) (pv 2) (pe_ix (ix_seqK (K := K.fr) rfl) (pv 1) pe_int (fun _ _ => rfl)) rfl))) pa_nil)))))), ?_⟩
    exact (run_seq (run_if (et_and (et_B (ev_call (ea_cons (ev_var 0) ea_nil))) (et_and (et_B (ev_call (ea_cons (ev_var 1) ea_nil))) (et_val (ev_op os_le ((ev_cb cs_max2 (ew_cons ((ev_op os_ix (vv_var 0) (ev_int).v)).v (ew_cons ((ev_op os_ix (vv_var 1) (ev_int).v)).v ew_nil)))).v ((ev_cb cs_min2 (ew_cons ((ev_op os_ix (vv_var 0) (ev_int).v)).v (ew_cons ((ev_op os_ix (vv_var 1) (ev_int).v)).v ew_nil)))).v)))) (run_ret ev_bl) run_next)
    (run_seq (run_if (et_and (et_val (ev_op os_eq ((ev_op os_ix (vv_var 0) (ev_int).v)).v (ev_int).v)) (et_val (ev_op os_eq ((ev_op os_ix (vv_var 1) (ev_int).v)).v (ev_int).v))) (run_ret ev_bl) run_next)
    (run_ret (ev_cb cs_any (ew_cons ((en_lc (EvI.c (ei_tup (ev_op os_ix (vv_var 0) (ev_int).v))) (eg_name 2) et_yes (ev_op (os_in (neg := false)) (vv_var 2) ((ev_op os_ix (vv_var 1) (ev_int).v)).v) (by decide))).v ew_nil)))))
  have bi : Binds K.fr fd ["left", "right"] [] := F.binds fun _ _ _ _ _ _ us hl => match us, hl with | [_, _], _ => rfl
  exact ⟨f, fd, ["left", "right"], key, hm, F.kp, bi⟩
abbrev s_has_one_value : Stmt := topS 14
theorem sc_has_one_value : FnScope ["span"] ["span"] (defScope s_has_one_value) := ⟨rfl, rfl, rfl, by decide +kernel, rfl, by decide +kernel, by decide +kernel⟩
def b_has_one_value : Sls → Option Fl :=
    (sRet (dAndV (dOp gEq (dOp gIx (dView 0) (dC (.int 0))) (dOp gIx (dView 0) (dC (.int 1)))) (dAndV (dOp gEq (dOp gIx (dView 0) (dC (.int 2))) (dApp gInt (dCons (dNotV (dApp m_has_numbers (dCons (dVar 0) dNil))) dNil))) (dOp gEq (dOp gIx (dView 0) (dC (.int 3))) (dApp gTup dNil)))))
def m_has_one_value : List D → Option D := fnD 1 1 b_has_one_value
theorem ok_has_one_value {P : Program} {w : World} {K : Kx} {mg : Str → Option Value} {base : Heap} {f : Addr} {fd : FuncData} (bl : Bl mg) (F : Fun K.fr "has_one_value" "has_one_value" s_has_one_value f fd) (hm : mg "has_one_value" = some (.ref f)) (c_has_numbers : CalG P w K.fr mg base 1 "has_numbers" (spD K m_has_numbers)) : CalG P w K.fr mg base 2 "has_one_value" (spD K m_has_one_value) := by
  have nd := sc_has_one_value.nd
  have key : FnG P w K.fr mg base 2 f fd ["span"] (spD K (fnD (["span"] : List Str).length (["span"] : List Str).length b_has_one_value)) := by
    apply fnG_of (k := 1) (b := b_has_one_value) F sc_has_one_value
    intro cdv A outer s H E hr hgd
    refine ⟨_, (pss_one (ps_ret (pe_and (pe_cmpR (op_eqK (K := K.fr) rfl hr.units) (pe_ix (ix_seqK (K := K.fr) rfl) (pv 0) pe_int (fun _ _ => rfl)) (pe_ix (ix_seqK (K := K.fr) rfl) (pv 0) pe_int (fun _ _ => rfl)) (nomark _)) (pe_and (pe_cmpR (op_eqK (K := K.fr) rfl hr.units) (pe_ix (ix_seqK (K := K.fr) rfl) (pv 0) pe_int (fun _ _ => rfl)) (pe_callTy call_int1 (by rfl) bl.int (by decide +kernel) (pa_cons (pe_not (pe_cg c_has_numbers hr (by decide) hgd rfl (pa_cons (pv 0) pa_nil))) pa_nil)) (nomark _)) (pe_one (pe_cmpR (op_eqK (K := K.fr) rfl hr.units) (pe_ix (ix_seqK (K := K.fr) rfl) (pv 0) pe_int (fun _ _ => rfl)) (pe_tup pa_nil) (nomark _))))))), ?_⟩
    exact (run_ret (ev_andV (ev_op os_eq ((ev_op os_ix (vv_var 0) (ev_int).v)).v ((ev_op os_ix (vv_var 0) (ev_int).v)).v) (ev_andV (ev_op os_eq ((ev_op os_ix (vv_var 0) (ev_int).v)).v ((ev_cb cs_int (ew_cons ((ev_notV (ev_call (ea_cons (ev_var 0) ea_nil)))).v ew_nil))).v) (ev_op os_eq ((ev_op os_ix (vv_var 0) (ev_int).v)).v ((ev_tup ea_nil)).v))))
  have bi : Binds K.fr fd ["span"] [] := F.binds fun _ _ _ _ _ _ us hl => match us, hl with | [_], _ => rfl
  exact ⟨f, fd, ["span"], key, hm, F.kp, bi⟩
abbrev s_equal_span : Stmt := topS 15
theorem sc_equal_span : FnScope ["sign", "left", "right", "alike", "unlike"] ["sign", "left", "right"] (defScope s_equal_span) := ⟨rfl, rfl, rfl, by decide +kernel, rfl, by decide +kernel, by decide +kernel⟩
def b_equal_span : Sls → Option Fl :=
    (sSeq (sSet 3 (dApp m_has_common (dCons (dVar 1) (dCons (dVar 2) dNil))))
    (sSeq (sSet 4 (dOrV (dOp gNe (dView 1) (dView 2)) (dNotV (dApp m_has_one_value (dCons (dVar 1) dNil)))))
    (sSeq (sIf (dTest (dOp gEq (dView 0) (dC (.str "==")))) (sRet (dApp m_bits_span (dCons (dVar 4) (dCons (dVar 3) dNil)))) sNext)
    (sRet (dApp m_bits_span (dCons (dVar 3) (dCons (dVar 4) dNil)))))))
def m_equal_span : List D → Option D := fnD 5 3 b_equal_span
theorem ok_equal_span {P : Program} {w : World} {K : Kx} {mg : Str → Option Value} {base : Heap} {f : Addr} {fd : FuncData} (bl : Bl mg) (F : Fun K.fr "equal_span" "equal_span" s_equal_span f fd) (hm : mg "equal_span" = some (.ref f)) (c_bits_span : CalG P w K.fr mg base 2 "bits_span" (spD K m_bits_span)) (c_has_common : CalG P w K.fr mg base 2 "has_common" (spD K m_has_common)) (c_has_one_value : CalG P w K.fr mg base 2 "has_one_value" (spD K m_has_one_value)) : CalG P w K.fr mg base 3 "equal_span" (spD K m_equal_span) := by
  have nd := sc_equal_span.nd
  have key : FnG P w K.fr mg base 3 f fd ["sign", "left", "right"] (spD K (fnD (["sign", "left", "right", "alike", "unlike"] : List Str).length (["sign", "left", "right"] : List Str).length b_equal_span)) := by
    apply fnG_of (k := 2) (b := b_equal_span) F sc_equal_span
    intro cdv A outer s H E hr hgd
    refine ⟨_, (pss_cons (ps_set (i := 3) nd rfl (.inl rfl) (pe_cg c_has_common hr (by decide) hgd rfl (pa_cons (pv 1) (pa_cons (pv 2) pa_nil))))
    (pss_cons (ps_set (i := 4) nd rfl (.inl rfl) (pe_or (pe_cmpR (op_neK (K := K.fr) rfl hr.units) (pv 1) (pv 2) (nomark _)) (pe_one (pe_not (pe_cg c_has_one_value hr (by decide) hgd rfl (pa_cons (pv 1) pa_nil))))))
    (pss_cons (ps_if (pt_cmpR (op_eqK (K := K.fr) rfl hr.units) (pv 0) pe_str (nomark _)) (pss_one (ps_ret (pe_cg c_bits_span hr (by decide) hgd rfl (pa_cons (pv 4) (pa_cons (pv 3) pa_nil))))) pss_nil)
    (pss_one (ps_ret (pe_cg c_bits_span hr (by decide) hgd rfl (pa_cons (pv 3) (pa_cons (pv 4) pa_nil)))))))), ?_⟩
    exact (run_seq (run_set 3 (ev_call (ea_cons (ev_var 1) (ea_cons (ev_var 2) ea_nil))))
    (run_seq (run_set 4 (ev_orV (ev_op os_ne (vv_var 1) (vv_var 2)) (ev_notV (ev_call (ea_cons (ev_var 1) ea_nil)))))
    (run_seq (run_if (et_val (ev_op os_eq (vv_var 0) (ev_str).v)) (run_ret (ev_call (ea_cons (ev_var 4) (ea_cons (ev_var 3) ea_nil)))) run_next)
    (run_ret (ev_call (ea_cons (ev_var 3) (ea_cons (ev_var 4) ea_nil)))))))
  have bi : Binds K.fr fd ["sign", "left", "right"] [] := F.binds fun _ _ _ _ _ _ us hl => match us, hl with | [_, _, _], _ => rfl
  exact ⟨f, fd, ["sign", "left", "right"], key, hm, F.kp, bi⟩
abbrev s_compared_span : Stmt := topS 16
theorem sc_compared_span : FnScope ["sign", "left", "right", "least", "greatest"] ["sign", "left", "right"] (defScope s_compared_span) := ⟨rfl, rfl, rfl, by decide +kernel, rfl, by decide +kernel, by decide +kernel⟩
def b_compared_span : Sls → Option Fl :=
    (sSeq (sSet 3 (dApp m_ordered (dCons (dVar 0) (dCons (dOp gIx (dView 1) (dC (.int 0))) (dCons (dOp gIx (dView 2) (dC (.int 1))) dNil)))))
    (sSeq (sSet 4 (dApp m_ordered (dCons (dVar 0) (dCons (dOp gIx (dView 1) (dC (.int 1))) (dCons (dOp gIx (dView 2) (dC (.int 0))) dNil)))))
    (sRet (dApp m_number_span (dCons (dApp gMin2 (dCons (dView 3) (dCons (dView 4) dNil))) (dCons (dApp gMax2 (dCons (dView 3) (dCons (dView 4) dNil))) dNil))))))
def m_compared_span : List D → Option D := fnD 5 3 b_compared_span
theorem ok_compared_span {P : Program} {w : World} {K : Kx} {mg : Str → Option Value} {base : Heap} {f : Addr} {fd : FuncData} (bl : Bl mg) (F : Fun K.fr "compared_span" "compared_span" s_compared_span f fd) (hm : mg "compared_span" = some (.ref f)) (c_ordered : CalG P w K.fr mg base 1 "ordered" (spD K m_ordered)) (c_number_span : CalG P w K.fr mg base 1 "number_span" (spD K m_number_span)) : CalG P w K.fr mg base 2 "compared_span" (spD K m_compared_span) := by
  have nd := sc_compared_span.nd
  have key : FnG P w K.fr mg base 2 f fd ["sign", "left", "right"] (spD K (fnD (["sign", "left", "right", "least", "greatest"] : List Str).length (["sign", "left", "right"] : List Str).length b_compared_span)) := by
    apply fnG_of (k := 1) (b := b_compared_span) F sc_compared_span
    intro cdv A outer s H E hr hgd
    refine ⟨_, (pss_cons (ps_set (i := 3) nd rfl (.inl rfl) (pe_cg c_ordered hr (by decide) hgd rfl (pa_cons (pv 0) (pa_cons (pe_ix (ix_seqK (K := K.fr) rfl) (pv 1) pe_int (fun _ _ => rfl)) (pa_cons (pe_ix (ix_seqK (K := K.fr) rfl) (pv 2) pe_int (fun _ _ => rfl)) pa_nil)))))
    (pss_cons (ps_set (i := 4) nd rfl (.inl rfl) (pe_cg c_ordered hr (by decide) hgd rfl (pa_cons (pv 0) (pa_cons (pe_ix (ix_seqK (K := K.fr) rfl) (pv 1) pe_int (fun _ _ => rfl)) (pa_cons (pe_ix (ix_seqK (K := K.fr) rfl) (pv 2) pe_int (fun _ _ => rfl)) pa_nil)))))
    (pss_one (ps_ret (pe_cg c_number_span hr (by decide) hgd rfl (pa_cons (pe_callB (call_min2 rfl) (by rfl) bl.min (by decide +kernel) (pa_cons (pv 3) (pa_cons (pv 4) pa_nil))) (pa_cons (pe_callB (call_max2 rfl) (by rfl) bl.max (by decide +kernel) (pa_cons (pv 3) (pa_cons (pv 4) pa_nil))) pa_nil))))))), ?_⟩
    exact (run_seq (run_set 3 (ev_call (ea_cons (ev_var 0) (ea_cons (ev_op os_ix (vv_var 1) (ev_int).v) (ea_cons (ev_op os_ix (vv_var 2) (ev_int).v) ea_nil)))))
    (run_seq (run_set 4 (ev_call (ea_cons (ev_var 0) (ea_cons (ev_op os_ix (vv_var 1) (ev_int).v) (ea_cons (ev_op os_ix (vv_var 2) (ev_int).v) ea_nil)))))
    (run_ret (ev_call (ea_cons (ev_cb cs_min2 (ew_cons (vv_var 3) (ew_cons (vv_var 4) ew_nil))) (ea_cons (ev_cb cs_max2 (ew_cons (vv_var 3) (ew_cons (vv_var 4) ew_nil))) ea_nil))))))
  have bi : Binds K.fr fd ["sign", "left", "right"] [] := F.binds fun _ _ _ _ _ _ us hl => match us, hl with | [_, _, _], _ => rfl
  exact ⟨f, fd, ["sign", "left", "right"], key, hm, F.kp, bi⟩
abbrev s_remainder_span : Stmt := topS 17
theorem sc_remainder_span : FnScope ["right"] ["right"] (defScope s_remainder_span) := ⟨rfl, rfl, rfl, by decide +kernel, rfl, by decide +kernel, by decide +kernel⟩
def b_remainder_span : Sls → Option Fl :=
    (sRet (dApp m_number_span (dCons (dApp gMin2 (dCons (dOp gAdd (dOp gIx (dView 0) (dC (.int 0))) (dC (.int 1))) (dCons (dC (.int 0)) dNil))) (dCons (dApp gMax2 (dCons (dOp gSub (dOp gIx (dView 0) (dC (.int 1))) (dC (.int 1))) (dCons (dC (.int 0)) dNil))) dNil))))
def m_remainder_span : List D → Option D := fnD 1 1 b_remainder_span
theorem ok_remainder_span {P : Program} {w : World} {K : Kx} {mg : Str → Option Value} {base : Heap} {f : Addr} {fd : FuncData} (bl : Bl mg) (F : Fun K.fr "remainder_span" "remainder_span" s_remainder_span f fd) (hm : mg "remainder_span" = some (.ref f)) (c_number_span : CalG P w K.fr mg base 1 "number_span" (spD K m_number_span)) : CalG P w K.fr mg base 2 "remainder_span" (spD K m_remainder_span) := by
  have nd := sc_remainder_span.nd
  have key : FnG P w K.fr mg base 2 f fd ["right"] (spD K (fnD (["right"] : List Str).length (["right"] : List Str).length b_remainder_span)) := by
    apply fnG_of (k := 1) (b := b_remainder_span) F sc_remainder_span
    intro cdv A outer s H E hr hgd
    refine ⟨_, (pss_one (ps_ret (pe_cg c_number_span hr (by decide) hgd rfl (pa_cons (pe_callB (call_min2 rfl) (by rfl) bl.min (by decide +kernel) (pa_cons (pe_op (op_addK (K := K.fr) rfl) (pe_ix (ix_seqK (K := K.fr) rfl) (pv 0) pe_int (fun _ _ => rfl)) pe_int) (pa_cons pe_int pa_nil))) (pa_cons (pe_callB (call_max2 rfl) (by rfl) bl.max (by decide +kernel) (pa_cons (pe_op op_sub (pe_ix (ix_seqK (K := K.fr) rfl) (pv 0) pe_int (fun _ _ => rfl)) pe_int) (pa_cons pe_int pa_nil))) pa_nil))))), ?_⟩
    exact (run_ret (ev_call (ea_cons (ev_cb cs_min2 (ew_cons ((ev_op os_add ((ev_op os_ix (vv_var 0) (ev_int).v)).v (ev_int).v)).v (ew_cons (ev_int).v ew_nil))) (ea_cons (ev_cb cs_max2 (ew_cons ((ev_op os_sub ((ev_op os_ix (vv_var 0) (ev_int).v)).v (ev_int).v)).v (ew_cons (ev_int).v ew_nil))) ea_nil))))
  have bi : Binds K.fr fd ["right"] [] := F.binds fun _ _ _ _ _ _ us hl => match us, hl with | [_], _ => rfl
  exact ⟨f, fd, ["right"], key, hm, F.kp, bi⟩
abbrev s_divisors : Stmt := topS 18
theorem sc_divisors : FnScope ["right", "ends"] ["right"] (defScope s_divisors) := ⟨rfl, rfl, rfl, by decide +kernel, rfl, by decide +kernel, by decide +kernel⟩
def b_divisors : Sls → Option Fl :=
    (sSeq (sSetN 1 (dApp gLst dNil))
    (sSeq (sIf (dTest (dOp gLt (dOp gIx (dView 0) (dC (.int 0))) (dC (.int 0)))) (sExtend 1 (dApp gLst (dCons (dOp gIx (dView 0) (dC (.int 0))) (dCons (dApp gMin2 (dCons (dOp gIx (dView 0) (dC (.int 1))) (dCons (dUn gNeg (dC (.int 1))) dNil))) dNil)))) sNext)
    (sSeq (sIf (dTest (dOp gGt (dOp gIx (dView 0) (dC (.int 1))) (dC (.int 0)))) (sExtend 1 (dApp gLst (dCons (dApp gMax2 (dCons (dOp gIx (dView 0) (dC (.int 0))) (dCons (dC (.int 1)) dNil))) (dCons (dOp gIx (dView 0) (dC (.int 1))) dNil)))) sNext)
    (frz 1 (sRet (dVar 1))))))
def m_divisors : List D → Option D := fnD 2 1 b_divisors
theorem ok_divisors {P : Program} {w : World} {K : Kx} {mg : Str → Option Value} {base : Heap} {f : Addr} {fd : FuncData} (bl : Bl mg) (F : Fun K.fr "divisors" "divisors" s_divisors f fd) (hm : mg "divisors" = some (.ref f)) : CalG P w K.fr mg base 1 "divisors" (spD K m_divisors) := by
  have nd := sc_divisors.nd
  have key : FnG P w K.fr mg base 1 f fd ["right"] (spD K (fnD (["right", "ends"] : List Str).length (["right"] : List Str).length b_divisors)) := by
    apply fnG_of (k := 0) (b := b_divisors) F sc_divisors
    intro cdv A outer s H E hr hgd
    refine ⟨_, (pss_cons (ps_set (i := 1) nd rfl (.inl rfl) (pe_lst pa_nil))
    (pss_cons (ps_if (pt_cmpR op_lt (pe_ix (ix_seqK (K := K.fr) rfl) (pv 0) pe_int (fun _ _ => rfl)) pe_int (nomark _)) (pss_one (ps_expr (pe_bm PySem.F.plainAttrs_list PySem.F.slot_list_extend PySem.F.type_list_extend mt_extend (pv 1) (pa_cons (pe_lst (pa_cons (pe_ix (ix_seqK (K := K.fr) rfl) (pv 0) pe_int (fun _ _ => rfl)) (pa_cons (pe_callB (call_min2 rfl) (by rfl) bl.min (by decide +kernel) (pa_cons (pe_ix (ix_seqK (K := K.fr) rfl) (pv 0) pe_int (fun _ _ => rfl)) (pa_cons (pe_un un_neg pe_int) pa_nil))) pa_nil))) pa_nil)))) pss_nil)
    (pss_cons (ps_if (pt_cmpR op_gt (pe_ix (ix_seqK (K := K.fr) rfl) (pv 0) pe_int (fun _ _ => rfl)) pe_int (nomark _)) (pss_one (ps_expr (pe_bm PySem.F.plainAttrs_list PySem.F.slot_list_extend PySem.F.type_list_extend mt_extend (pv 1) (pa_cons (pe_lst (pa_cons (pe_callB (call_max2 rfl) (by rfl) bl.max (by decide +kernel) (pa_cons (pe_ix (ix_seqK (K := K.fr) rfl) (pv 0) pe_int (fun _ _ => rfl)) (pa_cons pe_int pa_nil))) (pa_cons (pe_ix (ix_seqK (K := K.fr) rfl) (pv 0) pe_int (fun _ _ => rfl)) pa_nil))) pa_nil)))) pss_nil)
    (pss_one (ps_ret (pv 1)))))), ?_⟩
    exact (run_seq (run_setN 1 (en_lst ea_nil))
    (run_seq (run_if (et_val (ev_op os_lt ((ev_op os_ix (vv_var 0) (ev_int).v)).v (ev_int).v)) (run_extend 1 (en_lst (ea_cons (ev_op os_ix (vv_var 0) (ev_int).v) (ea_cons (ev_cb cs_min2 (ew_cons ((ev_op os_ix (vv_var 0) (ev_int).v)).v (ew_cons ((ev_un us_neg (ev_int).v)).v ew_nil))) ea_nil)))) run_next)
    (run_seq (run_if (et_val (ev_op os_gt ((ev_op os_ix (vv_var 0) (ev_int).v)).v (ev_int).v)) (run_extend 1 (en_lst (ea_cons (ev_cb cs_max2 (ew_cons ((ev_op os_ix (vv_var 0) (ev_int).v)).v (ew_cons (ev_int).v ew_nil))) (ea_cons (ev_op os_ix (vv_var 0) (ev_int).v) ea_nil)))) run_next)
    (run_frz 1 (run_ret (ev_var 1))))))
  have bi : Binds K.fr fd ["right"] [] := F.binds fun _ _ _ _ _ _ us hl => match us, hl with | [_], _ => rfl
  exact ⟨f, fd, ["right"], key, hm, F.kp, bi⟩
abbrev s_end_results : Stmt := topS 19
theorem sc_end_results : FnScope ["sign", "left", "right", "one", "other"] ["sign", "left", "right"] (defScope s_end_results) := ⟨rfl, rfl, rfl, by decide +kernel, rfl, by decide +kernel, by decide +kernel⟩
def b_end_results : Sls → Option Fl :=
    (sSeq (sIf (dTest (dOp gEq (dView 0) (dC (.str "+")))) (sRet (dApp gLst (dCons (dOp gAdd (dOp gIx (dView 1) (dC (.int 0))) (dOp gIx (dView 2) (dC (.int 0)))) (dCons (dOp gAdd (dOp gIx (dView 1) (dC (.int 1))) (dOp gIx (dView 2) (dC (.int 1)))) dNil)))) sNext)
    (sSeq (sIf (dTest (dOp gEq (dView 0) (dC (.str "-")))) (sRet (dApp gLst (dCons (dOp gSub (dOp gIx (dView 1) (dC (.int 0))) (dOp gIx (dView 2) (dC (.int 1)))) (dCons (dOp gSub (dOp gIx (dView 1) (dC (.int 1))) (dOp gIx (dView 2) (dC (.int 0)))) dNil)))) sNext)
    (sSeq (sIf (dTest (dOp gEq (dView 0) (dC (.str "*")))) (sRet (dLc2 (iTpl (dSlT (dView 1) oNone (oSome (dC (.int 2))))) (tgName 3) (fun _ => some true) (iTpl (dSlT (dView 2) oNone (oSome (dC (.int 2))))) (tgName 4) (fun _ => some true) (dOp gMul (dView 3) (dView 4)) [3, 4] [4])) sNext)
    (sRet (dLc2 (iTpl (dSlT (dView 1) oNone (oSome (dC (.int 2))))) (tgName 3) (fun _ => some true) (iLst (dApp m_divisors (dCons (dVar 2) dNil))) (tgName 4) (fun _ => some true) (dOp gDiv (dView 3) (dView 4)) [3, 4] [4])))))
def m_end_results : List D → Option D := fnD 5 3 b_end_results
theorem ok_end_results {P : Program} {w : World} {K : Kx} {mg : Str → Option Value} {base : Heap} {f : Addr} {fd : FuncData} (bl : Bl mg) (F : Fun K.fr "end_results" "end_results" s_end_results f fd) (hm : mg "end_results" = some (.ref f)) (c_divisors : CalG P w K.fr mg base 1 "divisors" (spD K m_divisors)) : CalG P w K.fr mg base 2 "end_results" (spD K m_end_results) := by
  have nd := sc_end_results.nd
  have key : FnG P w K.fr mg base 2 f fd ["sign", "left", "right"] (spD K (fnD (["sign", "left", "right", "one", "other"] : List Str).length (["sign", "left", "right"] : List Str).length b_end_results)) := by
    apply fnG_of (k := 1) (b := b_end_results) F sc_end_results
    intro cdv A outer s H E hr hgd
    refine ⟨_, (pss_cons (ps_if (pt_cmpR (op_eqK (K := K.fr) rfl hr.units) (pv 0) pe_str (nomark _)) (pss_one (ps_ret (pe_lst (pa_cons (pe_op (op_addK (K := K.fr) rfl) (pe_ix (ix_seqK (K := K.fr) rfl) (pv 1) pe_int (fun _ _ => rfl)) (pe_ix (ix_seqK (K := K.fr) rfl) (pv 2) pe_int (fun _ _ => rfl))) (pa_cons (pe_op (op_addK (K := K.fr) rfl) (pe_ix (ix_seqK (K := K.fr) rfl) (pv 1) pe_int (fun _ _ => rfl)) (pe_ix (ix_seqK (K := K.fr) rfl) (pv 2) pe_int (fun _ _ => rfl))) pa_nil))))) pss_nil)
    (pss_cons (ps_if (pt_cmpR (op_eqK (K := K.fr) rfl hr.units) (pv 0) pe_str (nomark _)) (pss_one (ps_ret (pe_lst (pa_cons (pe_op op_sub (pe_ix (ix_seqK (K := K.fr) rfl) (pv 1) pe_int (fun _ _ => rfl)) (pe_ix (ix_seqK (K := K.fr) rfl) (pv 2) pe_int (fun _ _ => rfl))) (pa_cons (pe_op op_sub (pe_ix (ix_seqK (K := K.fr) rfl) (pv 1) pe_int (fun _ _ => rfl)) (pe_ix (ix_seqK (K := K.fr) rfl) (pv 2) pe_int (fun _ _ => rfl))) pa_nil))))) pss_nil)
    (pss_cons (ps_if (pt_cmpR (op_eqK (K := K.fr) rfl hr.units) (pv 0) pe_str (nomark _)) (pss_one (ps_ret (pe_lc2 (own := [("one", 3), ("other", 4)]) (vs1 := [4]) rfl nd (pi_tupK (K := K.fr) rfl (pe_slice (sl_tupK (K := K.fr) rfl) (pv 1) po_none (po_some pe_int))) (blkOk_by (N := ["sign", "left", "right", "one", "other"]) (sc := defScope s_end_results) (by decide +kernel)) (by decide) (fun _ _ _ _ _ => (pg_name (i := 3) nd rfl (.inl rfl))) (fun _ _ _ _ _ => pts_nil) (fun _ _ _ _ _ => (pi_tupK (K := K.fr) rfl (pe_slice (sl_tupK (K := K.fr) rfl) (pv 2) po_none (po_some pe_int)))) (fun _ _ _ _ _ => (pg_name (i := 4) nd rfl (.inl rfl))) (fun _ _ _ _ _ => pts_nil) (fun _ _ _ _ _ => (pe_op op_mul (pv 3) (pv 4)))))) pss_nil)
    (pss_one (ps_ret (pe_lc2 (own := [("one", 3), ("other", 4)]) (vs1 := [4]) rfl nd (pi_tupK (K := K.fr) rfl (pe_slice (sl_tupK (K := K.fr) rfl) (pv 1) po_none (po_some pe_int))) (blkOk_by (N := ["sign", "left", "right", "one", "other"]) (sc := defScope s_end_results) (by decide +kernel)) (by decide) (fun _ _ _ _ _ => (pg_name (i := 3) nd rfl (.inl rfl))) (fun _ _ _ _ _ => pts_nil) (fun _ _ _ _ _ => (pi_listK (K := K.fr) rfl (pe_cg c_divisors hr (by decide) hgd rfl (pa_cons (pv 2) pa_nil)))) (fun _ _ _ _ _ => (pg_name (i := 4) nd rfl (.inl rfl))) (fun _ _ _ _ _ => pts_nil) (fun _ _ _ _ _ => (pe_op op_fdivN (pv 3) (pv 4))))))))), ?_⟩
    exact (run_seq (run_if (et_val (ev_op os_eq (vv_var 0) (ev_str).v)) (run_ret ((en_lst (ea_cons (ev_op os_add ((ev_op os_ix (vv_var 1) (ev_int).v)).v ((ev_op os_ix (vv_var 2) (ev_int).v)).v) (ea_cons (ev_op os_add ((ev_op os_ix (vv_var 1) (ev_int).v)).v ((ev_op os_ix (vv_var 2) (ev_int).v)).v) ea_nil)))).d) run_next)
    (run_seq (run_if (et_val (ev_op os_eq (vv_var 0) (ev_str).v)) (run_ret ((en_lst (ea_cons (ev_op os_sub ((ev_op os_ix (vv_var 1) (ev_int).v)).v ((ev_op os_ix (vv_var 2) (ev_int).v)).v) (ea_cons (ev_op os_sub ((ev_op os_ix (vv_var 1) (ev_int).v)).v ((ev_op os_ix (vv_var 2) (ev_int).v)).v) ea_nil)))).d) run_next)
    (run_seq (run_if (et_val (ev_op os_eq (vv_var 0) (ev_str).v)) (run_ret ((en_lc2 (EvI.c (ei_tup (ev_slT (vv_var 1) eo_none (eo_some ev_int)))) (eg_name 3) et_yes (ei_tup (ev_slT (vv_var 2) eo_none (eo_some ev_int))) (eg_name 4) et_yes (ev_op os_mul (vv_var 3) (vv_var 4)) (by decide) (by decide))).d) run_next)
    (run_ret ((en_lc2 (EvI.c (ei_tup (ev_slT (vv_var 1) eo_none (eo_some ev_int)))) (eg_name 3) et_yes (ei_list (ev_call (ea_cons (ev_var 2) ea_nil))) (eg_name 4) et_yes (ev_op os_div (vv_var 3) (vv_var 4)) (by decide) (by decide))).d))))
  have bi : Binds K.fr fd ["sign", "left", "right"] [] := F.binds fun _ _ _ _ _ _ us hl => match us, hl with | [_, _, _], _ => rfl
  exact ⟨f, fd, ["sign", "left", "right"], key, hm, F.kp, bi⟩
abbrev s_combine_spans : Stmt := topS 20
theorem sc_combine_spans : FnScope ["sign", "left", "right", "faults", "results", "least", "greatest"] ["sign", "left", "right"] (defScope s_combine_spans) := ⟨rfl, rfl, rfl, by decide +kernel, rfl, by decide +kernel, by decide +kernel⟩
def b_combine_spans : Sls → Option Fl :=
    (sSeq (sIf (dTest (dOp (gInA false) (dC dEMPTY) (dApp gTup (dCons (dVar 1) (dCons (dVar 2) dNil))))) (sRet (dApp gTup (dCons (dC dEMPTY) (dCons (dApp gTup dNil) dNil)))) sNext)
    (sSeq (sIf (dTest (dOp (gInA false) (dView 0) (dApp gTup (dCons (dC (.str "==")) (dCons (dC (.str "!=")) dNil))))) (sRet (dApp gTup (dCons (dApp m_equal_span (dCons (dVar 0) (dCons (dVar 1) (dCons (dVar 2) dNil)))) (dCons (dApp gTup dNil) dNil)))) sNext)
    (sSeq (sSetN 3 (dOp gAddL (dApp m_kind_faults (dCons (dVar 1) dNil)) (dApp m_kind_faults (dCons (dVar 2) dNil))))
    (sSeq (sIf (dOr (dNot (dTest (dApp m_has_numbers (dCons (dVar 1) dNil)))) (dNot (dTest (dApp m_has_numbers (dCons (dVar 2) dNil))))) (frz 3 (sRet (dApp gTup (dCons (dC dEMPTY) (dCons (dApp m_in_order (dCons (dVar 3) dNil)) dNil))))) sNext)
    (sSeq (sIf (dTest (dOp (gInA false) (dView 0) (dC dCOMPARISONS))) (frz 3 (sRet (dApp gTup (dCons (dApp m_compared_span (dCons (dVar 0) (dCons (dVar 1) (dCons (dVar 2) dNil)))) (dCons (dApp m_in_order (dCons (dVar 3) dNil)) dNil))))) sNext)
    (sSeq (sIf (dAnd (dTest (dOp (gInA false) (dView 0) (dApp gTup (dCons (dC (.str "/")) (dCons (dC (.str "mod")) dNil))))) (dTest (dChain gLe gLe (dOp gIx (dView 2) (dC (.int 0))) (dC (.int 0)) (dOp gIx (dView 2) (dC (.int 1)))))) (sSeq (sAppend 3 (dCons (dC (.str "zero")) dNil))
    (sIf (dTest (dOp gEq (dSlT (dView 2) oNone (oSome (dC (.int 2)))) (dApp gTup (dCons (dC (.int 0)) (dCons (dC (.int 0)) dNil))))) (frz 3 (sRet (dApp gTup (dCons (dC dEMPTY) (dCons (dApp m_in_order (dCons (dVar 3) dNil)) dNil))))) sNext)) sNext)
    (sSeq (sIf (dTest (dOp gEq (dView 0) (dC (.str "mod")))) (frz 3 (sRet (dApp gTup (dCons (dApp m_remainder_span (dCons (dVar 2) dNil)) (dCons (dApp m_in_order (dCons (dVar 3) dNil)) dNil))))) sNext)
    (sSeq (sSet 4 (dApp m_end_results (dCons (dVar 0) (dCons (dVar 1) (dCons (dVar 2) dNil)))))
    (sSeq (sPar 5 6 (dCons (dApp gMinL (dCons (dView 4) dNil)) (dCons (dApp gMaxL (dCons (dView 4) dNil)) dNil)))
    (sSeq (sIf (dOr (dTest (dOp gLt (dView 5) (dUn gNeg (dC (.int 999999999))))) (dTest (dOp gGt (dView 6) (dC (.int 999999999))))) (sAppend 3 (dCons (dC (.str "big")) dNil)) sNext)
    (frz 3 (sRet (dApp gTup (dCons (dApp m_number_span (dCons (dApp gMax2 (dCons (dView 5) (dCons (dUn gNeg (dC (.int 999999999))) dNil))) (dCons (dApp gMin2 (dCons (dView 6) (dCons (dC (.int 999999999)) dNil))) dNil))) (dCons (dApp m_in_order (dCons (dVar 3) dNil)) dNil)))))))))))))))
def m_combine_spans : List D → Option D := fnD 7 3 b_combine_spans
theorem ok_combine_spans {P : Program} {w : World} {K : Kx} {mg : Str → Option Value} {base : Heap} {f : Addr} {fd : FuncData} {aE aC : Addr} (bl : Bl mg) (gg : GG K mg aE aC) (F : Fun K.fr "combine_spans" "combine_spans" s_combine_spans f fd) (hm : mg "combine_spans" = some (.ref f)) (c_in_order : CalG P w K.fr mg base 1 "in_order" (spD K m_in_order)) (c_number_span : CalG P w K.fr mg base 1 "number_span" (spD K m_number_span)) (c_has_numbers : CalG P w K.fr mg base 1 "has_numbers" (spD K m_has_numbers)) (c_kind_faults : CalG P w K.fr mg base 1 "kind_faults" (spD K m_kind_faults)) (c_equal_span : CalG P w K.fr mg base 3 "equal_span" (spD K m_equal_span)) (c_compared_span : CalG P w K.fr mg base 2 "compared_span" (spD K m_compared_span)) (c_remainder_span : CalG P w K.fr mg base 2 "remainder_span" (spD K m_remainder_span)) (c_end_results : CalG P w K.fr mg base 2 "end_results" (spD K m_end_results)) : CalG P w K.fr mg base 4 "combine_spans" (spD K m_combine_spans) := by
  have nd := sc_combine_spans.nd
  have key : FnG P w K.fr mg base 4 f fd ["sign", "left", "right"] (spD K (fnD (["sign", "left", "right", "faults", "results", "least", "greatest"] : List Str).length (["sign", "left", "right"] : List Str).length b_combine_spans)) := by
    apply fnG_of (k := 3) (b := b_combine_spans) F sc_combine_spans
    intro cdv A outer s H E hr hgd
    refine ⟨_, (pss_cons (ps_if (pt_cmpR (op_inK (K := K.fr) rfl (hu65 hr)) (pe_glob (v := .ref _) rfl gg.EMPTY rfl) (pe_tup (pa_cons (pv 1) (pa_cons (pv 2) pa_nil))) rfl) (pss_one (ps_ret (pe_tup (pa_cons (pe_glob (v := .ref _) rfl gg.EMPTY rfl) (pa_cons (pe_tup pa_nil) pa_nil))))) pss_nil)
    (pss_cons (ps_if (pt_cmpR (op_inK (K := K.fr) rfl (hu65 hr)) (pv 0) (pe_tup (pa_cons pe_str (pa_cons pe_str pa_nil))) rfl) (pss_one (ps_ret (pe_tup (pa_cons (pe_cg c_equal_span hr (by decide) hgd rfl (pa_cons (pv 0) (pa_cons (pv 1) (pa_cons (pv 2) pa_nil)))) (pa_cons (pe_tup pa_nil) pa_nil))))) pss_nil)
    (pss_cons (ps_set (i := 3) nd rfl (.inl rfl) (pe_op (op_addK (K := K.fr) rfl) (pe_cg c_kind_faults hr (by decide) hgd rfl (pa_cons (pv 1) pa_nil)) (pe_cg c_kind_faults hr (by decide) hgd rfl (pa_cons (pv 2) pa_nil))))
    (pss_cons (ps_if (PW.pt (pw_or (pt_not (pt_val (pe_cg c_has_numbers hr (by decide) hgd rfl (pa_cons (pv 1) pa_nil)))) (pw_or1 (pt_not (pt_val (pe_cg c_has_numbers hr (by decide) hgd rfl (pa_cons (pv 2) pa_nil))))))) (pss_one (ps_ret (pe_tup (pa_cons (pe_glob (v := .ref _) rfl gg.EMPTY rfl) (pa_cons (pe_cg c_in_order hr (by decide) hgd rfl (pa_cons (pv 3) pa_nil)) pa_nil))))) pss_nil)
    (pss_cons (ps_if (pt_cmpR (op_inK (K := K.fr) rfl (hu65 hr)) (pv 0) (pe_glob (v := .ref _) rfl gg.COMPARISONS rfl) rfl) (pss_one (ps_ret (pe_tup (pa_cons (pe_cg c_compared_span hr (by decide) hgd rfl (pa_cons (pv 0) (pa_cons (pv 1) (pa_cons (pv 2) pa_nil)))) (pa_cons (pe_cg c_in_order hr (by decide) hgd rfl (pa_cons (pv 3) pa_nil)) pa_nil))))) pss_nil)
    (pss_cons (ps_if (PW.pt (pw_and (pt_cmpR (op_inK (K := K.fr) rfl (hu65 hr)) (pv 0) (pe_tup (pa_cons pe_str (pa_cons pe_str pa_nil))) rfl) (pw_and1 (pt_chain op_le op_le (pe_ix (ix_seqK (K := K.fr) rfl) (pv 2) pe_int (fun _ _ => rfl)) pe_int (pe_ix (ix_seqK (K := K.fr) rfl) (pv 2) pe_int (fun _ _ => rfl)))))) (pss_cons (ps_expr (pe_bm PySem.F.plainAttrs_list PySem.F.slot_list_append PySem.F.type_list_append mt_append (pv 3) (pa_cons pe_str pa_nil)))
    (pss_one (ps_if (pt_cmpR (op_eqK (K := K.fr) rfl hr.units) (pe_slice (sl_tupK (K := K.fr) rfl) (pv 2) po_none (po_some pe_int)) (pe_tup (pa_cons pe_int (pa_cons pe_int pa_nil))) (nomark _)) (pss_one (ps_ret (pe_tup (pa_cons (pe_glob (v := .ref _) rfl gg.EMPTY rfl) (pa_cons (pe_cg c_in_order hr (by decide) hgd rfl (pa_cons (pv 3) pa_nil)) pa_nil))))) pss_nil))) pss_nil)
    (pss_cons (ps_if (pt_cmpR (op_eqK (K := K.fr) rfl hr.units) (pv 0) pe_str (nomark _)) (pss_one (ps_ret (pe_tup (pa_cons (pe_cg c_remainder_span hr (by decide) hgd rfl (pa_cons (pv 2) pa_nil)) (pa_cons (pe_cg c_in_order hr (by decide) hgd rfl (pa_cons (pv 3) pa_nil)) pa_nil))))) pss_nil)
    (pss_cons (ps_set (i := 4) nd rfl (.inl rfl) (pe_cg c_end_results hr (by decide) hgd rfl (pa_cons (pv 0) (pa_cons (pv 1) (pa_cons (pv 2) pa_nil)))))
    (pss_cons (ps_par (i := 5) (j := 6) rfl nd rfl rfl (by decide) rfl rfl (pa_cons (pe_callB (cr_minLK (K := K.fr) rfl rfl) (by rfl) bl.min (by decide +kernel) (pa_cons (pv 4) pa_nil)) (pa_cons (pe_callB (cr_maxLK (K := K.fr) rfl rfl) (by rfl) bl.max (by decide +kernel) (pa_cons (pv 4) pa_nil)) pa_nil)) (by rfl))
    (pss_cons (ps_if (PW.pt (pw_or (pt_cmpR op_lt (pv 5) (pe_un un_neg (pe_globI gg.LARGEST rfl)) (nomark _)) (pw_or1 (pt_cmpR op_gt (pv 6) (pe_globI gg.LARGEST rfl) (nomark _))))) (pss_one (ps_expr (pe_bm PySem.F.plainAttrs_list PySem.F.slot_list_append PySem.F.type_list_append mt_append (pv 3) (pa_cons pe_str pa_nil)))) pss_nil)
    (pss_one (ps_ret (pe_tup (pa_cons (pe_cg c_number_span hr (by decide) hgd rfl (pa_cons (pe_callB (call_max2 rfl) (by rfl) bl.max (by decide +kernel) (pa_cons (pv 5) (pa_cons (pe_un un_neg (pe_globI gg.LARGEST rfl)) pa_nil))) (pa_cons (pe_callB (call_min2 rfl) (by rfl) bl.min (by decide +kernel) (pa_cons (pv 6) (pa_cons (pe_globI gg.LARGEST rfl) pa_nil))) pa_nil))) (pa_cons (pe_cg c_in_order hr (by decide) hgd rfl (pa_cons (pv 3) pa_nil)) pa_nil))))))))))))))), ?_⟩
    exact (run_seq (run_if (et_val (ev_op (os_in (neg := false)) ((ev_k gg.rEMPTY)).v ((ev_tup (ea_cons (ev_var 1) (ea_cons (ev_var 2) ea_nil)))).v)) (run_ret (ev_tup (ea_cons (ev_k gg.rEMPTY) (ea_cons (ev_tup ea_nil) ea_nil)))) run_next)
    (run_seq (run_if (et_val (ev_op (os_in (neg := false)) (vv_var 0) ((ev_tup (ea_cons ev_str (ea_cons ev_str ea_nil)))).v)) (run_ret (ev_tup (ea_cons (ev_call (ea_cons (ev_var 0) (ea_cons (ev_var 1) (ea_cons (ev_var 2) ea_nil)))) (ea_cons (ev_tup ea_nil) ea_nil)))) run_next)
    (run_seq (run_setN 3 (en_add ((ev_call (ea_cons (ev_var 1) ea_nil))).v ((ev_call (ea_cons (ev_var 2) ea_nil))).v))
    (run_seq (run_if (et_or (et_not (et_B (ev_call (ea_cons (ev_var 1) ea_nil)))) (et_not (et_B (ev_call (ea_cons (ev_var 2) ea_nil))))) (run_frz 3 (run_ret (ev_tup (ea_cons (ev_k gg.rEMPTY) (ea_cons (ev_call (ea_cons (ev_var 3) ea_nil)) ea_nil))))) run_next)
    (run_seq (run_if (et_val (ev_op (os_in (neg := false)) (vv_var 0) ((ev_k gg.rCOMPARISONS)).v)) (run_frz 3 (run_ret (ev_tup (ea_cons (ev_call (ea_cons (ev_var 0) (ea_cons (ev_var 1) (ea_cons (ev_var 2) ea_nil)))) (ea_cons (ev_call (ea_cons (ev_var 3) ea_nil)) ea_nil))))) run_next)
    (run_seq (run_if (et_and (et_val (ev_op (os_in (neg := false)) (vv_var 0) ((ev_tup (ea_cons ev_str (ea_cons ev_str ea_nil)))).v)) (et_val (ev_chain os_le os_le ((ev_op os_ix (vv_var 2) (ev_int).v)).v (ev_int).v ((ev_op os_ix (vv_var 2) (ev_int).v)).v))) (run_seq (run_append 3 (ea_cons ev_str ea_nil))
    (run_if (et_val (ev_op os_eq ((ev_slT (vv_var 2) eo_none (eo_some ev_int))).v ((ev_tup (ea_cons ev_int (ea_cons ev_int ea_nil)))).v)) (run_frz 3 (run_ret (ev_tup (ea_cons (ev_k gg.rEMPTY) (ea_cons (ev_call (ea_cons (ev_var 3) ea_nil)) ea_nil))))) run_next)) run_next)
    (run_seq (run_if (et_val (ev_op os_eq (vv_var 0) (ev_str).v)) (run_frz 3 (run_ret (ev_tup (ea_cons (ev_call (ea_cons (ev_var 2) ea_nil)) (ea_cons (ev_call (ea_cons (ev_var 3) ea_nil)) ea_nil))))) run_next)
    (run_seq (run_set 4 (ev_call (ea_cons (ev_var 0) (ea_cons (ev_var 1) (ea_cons (ev_var 2) ea_nil)))))
    (run_seq (run_par (ea_cons (ev_cb cs_minL (ew_cons (vv_var 4) ew_nil)) (ea_cons (ev_cb cs_maxL (ew_cons (vv_var 4) ew_nil)) ea_nil)))
    (run_seq (run_if (et_or (et_val (ev_op os_lt (vv_var 5) ((ev_un us_neg (ev_int).v)).v)) (et_val (ev_op os_gt (vv_var 6) (ev_int).v))) (run_append 3 (ea_cons ev_str ea_nil)) run_next)
    (run_frz 3 (run_ret (ev_tup (ea_cons (ev_call (ea_cons (ev_cb cs_max2 (ew_cons (vv_var 5) (ew_cons ((ev_un us_neg (ev_int).v)).v ew_nil))) (ea_cons (ev_cb cs_min2 (ew_cons (vv_var 6) (ew_cons (ev_int).v ew_nil))) ea_nil))) (ea_cons (ev_call (ea_cons (ev_var 3) ea_nil)) ea_nil)))))))))))))))
  have bi : Binds K.fr fd ["sign", "left", "right"] [] := F.binds fun _ _ _ _ _ _ us hl => match us, hl with | [_, _, _], _ => rfl
  exact ⟨f, fd, ["sign", "left", "right"], key, hm, F.kp, bi⟩
abbrev s_negate_span : Stmt := topS 21
theorem sc_negate_span : FnScope ["span", "faults"] ["span"] (defScope s_negate_span) := ⟨rfl, rfl, rfl, by decide +kernel, rfl, by decide +kernel, by decide +kernel⟩
def b_negate_span : Sls → Option Fl :=
    (sSeq (sSet 1 (dApp m_in_order (dCons (dApp m_kind_faults (dCons (dVar 0) dNil)) dNil)))
    (sSeq (sIf (dNot (dTest (dApp m_has_numbers (dCons (dVar 0) dNil)))) (sRet (dApp gTup (dCons (dC dEMPTY) (dCons (dVar 1) dNil)))) sNext)
    (sRet (dApp gTup (dCons (dApp m_number_span (dCons (dUn gNeg (dOp gIx (dView 0) (dC (.int 1)))) (dCons (dUn gNeg (dOp gIx (dView 0) (dC (.int 0)))) dNil))) (dCons (dVar 1) dNil))))))
def m_negate_span : List D → Option D := fnD 2 1 b_negate_span
theorem ok_negate_span {P : Program} {w : World} {K : Kx} {mg : Str → Option Value} {base : Heap} {f : Addr} {fd : FuncData} {aE aC : Addr} (bl : Bl mg) (gg : GG K mg aE aC) (F : Fun K.fr "negate_span" "negate_span" s_negate_span f fd) (hm : mg "negate_span" = some (.ref f)) (c_in_order : CalG P w K.fr mg base 1 "in_order" (spD K m_in_order)) (c_number_span : CalG P w K.fr mg base 1 "number_span" (spD K m_number_span)) (c_has_numbers : CalG P w K.fr mg base 1 "has_numbers" (spD K m_has_numbers)) (c_kind_faults : CalG P w K.fr mg base 1 "kind_faults" (spD K m_kind_faults)) : CalG P w K.fr mg base 2 "negate_span" (spD K m_negate_span) := by
  have nd := sc_negate_span.nd
  have key : FnG P w K.fr mg base 2 f fd ["span"] (spD K (fnD (["span", "faults"] : List Str).length (["span"] : List Str).length b_negate_span)) := by
    apply fnG_of (k := 1) (b := b_negate_span) F sc_negate_span
    intro cdv A outer s H E hr hgd
    refine ⟨_, (pss_cons (ps_set (i := 1) nd rfl (.inl rfl) (pe_cg c_in_order hr (by decide) hgd rfl (pa_cons (pe_cg c_kind_faults hr (by decide) hgd rfl (pa_cons (pv 0) pa_nil)) pa_nil)))
    (pss_cons (ps_if (pt_not (pt_val (pe_cg c_has_numbers hr (by decide) hgd rfl (pa_cons (pv 0) pa_nil)))) (pss_one (ps_ret (pe_tup (pa_cons (pe_glob (v := .ref _) rfl gg.EMPTY rfl) (pa_cons (pv 1) pa_nil))))) pss_nil)
    (pss_one (ps_ret (pe_tup (pa_cons (pe_cg c_number_span hr (by decide) hgd rfl (pa_cons (pe_un un_neg (pe_ix (ix_seqK (K := K.fr) rfl) (pv 0) pe_int (fun _ _ => rfl))) (pa_cons (pe_un un_neg (pe_ix (ix_seqK (K := K.fr) rfl) (pv 0) pe_int (fun _ _ => rfl))) pa_nil))) (pa_cons (pv 1) pa_nil))))))), ?_⟩
    exact (run_seq (run_set 1 (ev_call (ea_cons (ev_call (ea_cons (ev_var 0) ea_nil)) ea_nil)))
    (run_seq (run_if (et_not (et_B (ev_call (ea_cons (ev_var 0) ea_nil)))) (run_ret (ev_tup (ea_cons (ev_k gg.rEMPTY) (ea_cons (ev_var 1) ea_nil)))) run_next)
    (run_ret (ev_tup (ea_cons (ev_call (ea_cons (ev_un us_neg ((ev_op os_ix (vv_var 0) (ev_int).v)).v) (ea_cons (ev_un us_neg ((ev_op os_ix (vv_var 0) (ev_int).v)).v) ea_nil))) (ea_cons (ev_var 1) ea_nil))))))
  have bi : Binds K.fr fd ["span"] [] := F.binds fun _ _ _ _ _ _ us hl => match us, hl with | [_], _ => rfl
  exact ⟨f, fd, ["span"], key, hm, F.kp, bi⟩
abbrev s__law_cell : Stmt := topS 23
theorem sc__law_cell : FnScope ["script", "k"] ["script", "k"] (defScope s__law_cell) := ⟨rfl, rfl, rfl, by decide +kernel, rfl, by decide +kernel, by decide +kernel⟩
def b__law_cell : Sls → Option Fl :=
    (sSeq (sIf (dTest (dOp gLt (dView 1) (dApp gLen (dCons (dView 0) dNil)))) (sRet (dOp gIx (dView 0) (dView 1))) sNext)
    (sRet (dC (.int 0))))
def m__law_cell : List D → Option D := fnD 2 2 b__law_cell
theorem ok__law_cell {P : Program} {w : World} {K : Kx} {mg : Str → Option Value} {base : Heap} {f : Addr} {fd : FuncData} (bl : Bl mg) (F : Fun K.fr "_law_cell" "_law_cell" s__law_cell f fd) (hm : mg "_law_cell" = some (.ref f)) : CalG P w K.fr mg base 1 "_law_cell" (spD K m__law_cell) := by
  have nd := sc__law_cell.nd
  have key : FnG P w K.fr mg base 1 f fd ["script", "k"] (spD K (fnD (["script", "k"] : List Str).length (["script", "k"] : List Str).length b__law_cell)) := by
    apply fnG_of (k := 0) (b := b__law_cell) F sc__law_cell
    intro cdv A outer s H E hr hgd
    refine ⟨_, (pss_cons (ps_if (pt_cmpR op_lt (pv 1) (pe_callB (call_lenK (K := K.fr) rfl) (by rfl) bl.len (by decide +kernel) (pa_cons (pv 0) pa_nil)) (nomark _)) (pss_one (ps_ret (pe_ix (ix_seqK (K := K.fr) rfl) (pv 0) (pv 1) (fun _ _ => rfl)))) pss_nil)
    (pss_one (ps_ret pe_int))), ?_⟩
    exact (run_seq (run_if (et_val (ev_op os_lt (vv_var 1) ((ev_cb cs_len (ew_cons (vv_var 0) ew_nil))).v)) (run_ret (ev_op os_ix (vv_var 0) (vv_var 1))) run_next)
    (run_ret ev_int))
  have bi : Binds K.fr fd ["script", "k"] [] := F.binds fun _ _ _ _ _ _ us hl => match us, hl with | [_, _], _ => rfl
  exact ⟨f, fd, ["script", "k"], key, hm, F.kp, bi⟩
abbrev s__law_draws : Stmt := topS 24
theorem sc__law_draws : FnScope ["cell", "many", "drawn", "rest", "digits", "k", "mixed"] ["cell", "many"] (defScope s__law_draws) := ⟨rfl, rfl, rfl, by decide +kernel, rfl, by decide +kernel, by decide +kernel⟩
def b__law_draws : Sls → Option Fl :=
    (sSeq (sSetN 2 (dApp gLst dNil))
    (sSeq (sSet 3 (dApp gAbs (dCons (dView 0) dNil)))
    (sSeq (sSet 4 (dOp gGe (dView 3) (dOp gPow (dC (.int 10)) (dC (.int 18)))))
    (sSeq (sFor (iRange (dCons (dVar 1) dNil)) (tgName 5) (sIf (dAnd (dTest (dVar 4)) (dTest (dOp gGt (dView 3) (dC (.int 0))))) (sSeq (sAppend 2 (dCons (dOp gMod (dApp gInt (dCons (dView 3) dNil)) (dC (.int 1000))) dNil))
    (sSet 3 (dOp gDiv (dView 3) (dC (.int 1000))))) (sSeq (sSet 6 (dOp gMod (dApp gInt (dCons (dOp gAdd (dOp gAdd (dApp gAbs (dCons (dView 0) dNil)) (dOp gMul (dC (.int 7919)) (dView 5))) (dC (.int 13))) dNil)) (dC (.int 2147483647))))
    (sSeq (sSet 6 (dOp gMod (dApp gInt (dCons (dOp gMul (dView 6) (dOp gAdd (dView 6) (dC (.int 48271)))) dNil)) (dC (.int 2147483629))))
    (sSeq (sSet 6 (dOp gMod (dApp gInt (dCons (dOp gAdd (dOp gMul (dView 6) (dOp gAdd (dView 6) (dC (.int 69621)))) (dOp gMul (dC (.int 31)) (dView 5))) dNil)) (dC (.int 2147483647))))
    (sAppend 2 (dCons (dOp gMod (dApp gInt (dCons (dOp gDiv (dView 6) (dC (.int 9))) dNil)) (dC (.int 1000))) dNil)))))))
    (frz 2 (sRet (dVar 2)))))))
def m__law_draws : List D → Option D := fnD 7 2 b__law_draws
theorem ok__law_draws {P : Program} {w : World} {K : Kx} {mg : Str → Option Value} {base : Heap} {f : Addr} {fd : FuncData} (bl : Bl mg) (F : Fun K.fr "_law_draws" "_law_draws" s__law_draws f fd) (hm : mg "_law_draws" = some (.ref f)) : CalG P w K.fr mg base 1 "_law_draws" (spD K m__law_draws) := by
  have nd := sc__law_draws.nd
  have key : FnG P w K.fr mg base 1 f fd ["cell", "many"] (spD K (fnD (["cell", "many", "drawn", "rest", "digits", "k", "mixed"] : List Str).length (["cell", "many"] : List Str).length b__law_draws)) := by
    apply fnG_of (k := 0) (b := b__law_draws) F sc__law_draws
    intro cdv A outer s H E hr hgd
    refine ⟨_, (pss_cons (ps_set (i := 2) nd rfl (.inl rfl) (pe_lst pa_nil))
    (pss_cons (ps_set (i := 3) nd rfl (.inl rfl) (pe_callB call_abs (by rfl) bl.abs (by decide +kernel) (pa_cons (pv 0) pa_nil)))
    (pss_cons (ps_set (i := 4) nd rfl (.inl rfl) (pe_cmpR op_ge (pv 3) (pe_op op_pow pe_int pe_int) (nomark _)))
    (pss_cons (ps_for PassesOwn.never rfl (pi_range1 rfl bl.range (pa_cons (pv 1) pa_nil)) (pg_name (i := 5) nd rfl (.inl rfl)) (pss_one (ps_if (PW.pt (pw_and (pt_val (pv 4)) (pw_and1 (pt_cmpR op_gt (pv 3) pe_int (nomark _))))) (pss_cons (ps_expr (pe_bm PySem.F.plainAttrs_list PySem.F.slot_list_append PySem.F.type_list_append mt_append (pv 2) (pa_cons (pe_op op_modN (pe_callTy call_int1 (by rfl) bl.int (by decide +kernel) (pa_cons (pv 3) pa_nil)) pe_int) pa_nil)))
    (pss_one (ps_set (i := 3) nd rfl (.inl rfl) (pe_op op_fdivN (pv 3) pe_int)))) (pss_cons (ps_set (i := 6) nd rfl (.inl rfl) (pe_op op_modN (pe_callTy call_int1 (by rfl) bl.int (by decide +kernel) (pa_cons (pe_op (op_addK (K := K.fr) rfl) (pe_op (op_addK (K := K.fr) rfl) (pe_callB call_abs (by rfl) bl.abs (by decide +kernel) (pa_cons (pv 0) pa_nil)) (pe_op op_mul pe_int (pv 5))) pe_int) pa_nil)) pe_int))
    (pss_cons (ps_set (i := 6) nd rfl (.inl rfl) (pe_op op_modN (pe_callTy call_int1 (by rfl) bl.int (by decide +kernel) (pa_cons (pe_op op_mul (pv 6) (pe_op (op_addK (K := K.fr) rfl) (pv 6) pe_int)) pa_nil)) pe_int))
    (pss_cons (ps_set (i := 6) nd rfl (.inl rfl) (pe_op op_modN (pe_callTy call_int1 (by rfl) bl.int (by decide +kernel) (pa_cons (pe_op (op_addK (K := K.fr) rfl) (pe_op op_mul (pv 6) (pe_op (op_addK (K := K.fr) rfl) (pv 6) pe_int)) (pe_op op_mul pe_int (pv 5))) pa_nil)) pe_int))
    (pss_one (ps_expr (pe_bm PySem.F.plainAttrs_list PySem.F.slot_list_append PySem.F.type_list_append mt_append (pv 2) (pa_cons (pe_op op_modN (pe_callTy call_int1 (by rfl) bl.int (by decide +kernel) (pa_cons (pe_op op_fdivN (pv 6) pe_int) pa_nil)) pe_int) pa_nil))))))))))
    (pss_one (ps_ret (pv 2))))))), ?_⟩
    exact (run_seq (run_setN 2 (en_lst ea_nil))
    (run_seq (run_set 3 (ev_cb cs_abs (ew_cons (vv_var 0) ew_nil)))
    (run_seq (run_set 4 (ev_op os_ge (vv_var 3) ((ev_op os_pow (ev_int).v (ev_int).v)).v))
    (run_seq (run_for (ei_range1 (ea_cons (ev_var 1) ea_nil) len1) (eg_name 5) (run_if (et_and (et_B (ev_var 4)) (et_val (ev_op os_gt (vv_var 3) (ev_int).v))) (run_seq (run_append 2 (ea_cons (ev_op os_mod ((ev_cb cs_int (ew_cons (vv_var 3) ew_nil))).v (ev_int).v) ea_nil))
    (run_set 3 (ev_op os_div (vv_var 3) (ev_int).v))) (run_seq (run_set 6 (ev_op os_mod ((ev_cb cs_int (ew_cons ((ev_op os_add ((ev_op os_add ((ev_cb cs_abs (ew_cons (vv_var 0) ew_nil))).v ((ev_op os_mul (ev_int).v (vv_var 5))).v)).v (ev_int).v)).v ew_nil))).v (ev_int).v))
    (run_seq (run_set 6 (ev_op os_mod ((ev_cb cs_int (ew_cons ((ev_op os_mul (vv_var 6) ((ev_op os_add (vv_var 6) (ev_int).v)).v)).v ew_nil))).v (ev_int).v))
    (run_seq (run_set 6 (ev_op os_mod ((ev_cb cs_int (ew_cons ((ev_op os_add ((ev_op os_mul (vv_var 6) ((ev_op os_add (vv_var 6) (ev_int).v)).v)).v ((ev_op os_mul (ev_int).v (vv_var 5))).v)).v ew_nil))).v (ev_int).v))
    (run_append 2 (ea_cons (ev_op os_mod ((ev_cb cs_int (ew_cons ((ev_op os_div (vv_var 6) (ev_int).v)).v ew_nil))).v (ev_int).v) ea_nil)))))))
    (run_frz 2 (run_ret (ev_var 2)))))))
  have bi : Binds K.fr fd ["cell", "many"] [] := F.binds fun _ _ _ _ _ _ us hl => match us, hl with | [_, _], _ => rfl
  exact ⟨f, fd, ["cell", "many"], key, hm, F.kp, bi⟩
abbrev s__law_is_integer : Stmt := topS 25
theorem sc__law_is_integer : FnScope ["value"] ["value"] (defScope s__law_is_integer) := ⟨rfl, rfl, rfl, by decide +kernel, rfl, by decide +kernel, by decide +kernel⟩
def b__law_is_integer : Sls → Option Fl :=
    (sRet (dAndV (dUn (gIsi "int") (dView 0)) (dNotV (dUn (gIsi "bool") (dView 0)))))
def m__law_is_integer : List D → Option D := fnD 1 1 b__law_is_integer
theorem ok__law_is_integer {P : Program} {w : World} {K : Kx} {mg : Str → Option Value} {base : Heap} {f : Addr} {fd : FuncData} (bl : Bl mg) (F : Fun K.fr "_law_is_integer" "_law_is_integer" s__law_is_integer f fd) (hm : mg "_law_is_integer" = some (.ref f)) : CalG P w K.fr mg base 1 "_law_is_integer" (spD K m__law_is_integer) := by
  have nd := sc__law_is_integer.nd
  have key : FnG P w K.fr mg base 1 f fd ["value"] (spD K (fnD (["value"] : List Str).length (["value"] : List Str).length b__law_is_integer)) := by
    apply fnG_of (k := 0) (b := b__law_is_integer) F sc__law_is_integer
    intro cdv A outer s H E hr hgd
    refine ⟨_, (pss_one (ps_ret (pe_and (pe_callB (call_isiK (K := K.fr) rfl) (by rfl) bl.isinstance (by decide +kernel) (pa_cons (pv 0) (pa_cons (pe_bltn (v := .ty "int") (by rfl) bl.int (by decide +kernel) rfl) pa_nil))) (pe_one (pe_not (pe_callB (call_isiK (K := K.fr) rfl) (by rfl) bl.isinstance (by decide +kernel) (pa_cons (pv 0) (pa_cons (pe_bltn (v := .ty "bool") (by rfl) bl.bool (by decide +kernel) rfl) pa_nil)))))))), ?_⟩
    exact (run_ret (ev_andV (ev_isi "int" (vv_var 0)) (ev_notV (ev_isi "bool" (vv_var 0)))))
  have bi : Binds K.fr fd ["value"] [] := F.binds fun _ _ _ _ _ _ us hl => match us, hl with | [_], _ => rfl
  exact ⟨f, fd, ["value"], key, hm, F.kp, bi⟩
abbrev s__law_names : Stmt := topS 26
theorem sc__law_names : FnScope ["draw", "other", "pool", "steps", "step", "k"] ["draw", "other"] (defScope s__law_names) := ⟨rfl, rfl, rfl, by decide +kernel, rfl, by decide +kernel, by decide +kernel⟩
def b__law_names : Sls → Option Fl :=
    (sSeq (sSet 2 (dApp gLst (dCons (dC (.str "a")) (dCons (dC (.str "a1")) (dCons (dC (.str "b2")) (dCons (dC (.str "bob")) (dCons (dC (.str "a10")) (dCons (dC (.str "a9")) (dCons (dC (.str "door")) (dCons (dC (.str "e")) (dCons (dC (.str "fox")) (dCons (dC (.str "g7")) (dCons (dC (.str "hill")) (dCons (dC (.str "ivy")) (dCons (dC (.str "jam")) (dCons (dC (.str "key")) (dCons (dC (.str "lake")) (dCons (dC (.str "moon")) (dCons (dC (.str "nut")) (dCons (dC (.str "oak")) (dCons (dC (.str "pear")) (dCons (dC (.str "quay")) (dCons (dC (.str "rose")) (dCons (dC (.str "sun")) (dCons (dC (.str "tree")) (dCons (dC (.str "urn")) (dCons (dC (.str "vine")) (dCons (dC (.str "well")) (dCons (dC (.str "x")) (dCons (dC (.str "yew")) (dCons (dC (.str "zoe")) (dCons (dC (.str "twelvesigns1")) dNil))))))))))))))))))))))))))))))))
    (sSeq (sSet 3 (dApp gLst (dCons (dC (.int 1)) (dCons (dC (.int 7)) (dCons (dC (.int 11)) (dCons (dC (.int 13)) (dCons (dC (.int 17)) (dCons (dC (.int 19)) (dCons (dC (.int 23)) (dCons (dC (.int 29)) dNil))))))))))
    (sSeq (sSet 4 (dOp gIx (dView 3) (dOp gMod (dApp gInt (dCons (dView 1) dNil)) (dC (.int 8)))))
    (sRet (dLc (iRange (dCons (dC (.int 30)) dNil)) (tgName 5) (fun _ => some true) (dOp gIx (dView 2) (dOp gMod (dApp gInt (dCons (dOp gAdd (dView 0) (dOp gMul (dView 4) (dView 5))) dNil)) (dC (.int 30)))) [5])))))
def m__law_names : List D → Option D := fnD 6 2 b__law_names
theorem ok__law_names {P : Program} {w : World} {K : Kx} {mg : Str → Option Value} {base : Heap} {f : Addr} {fd : FuncData} (bl : Bl mg) (F : Fun K.fr "_law_names" "_law_names" s__law_names f fd) (hm : mg "_law_names" = some (.ref f)) : CalG P w K.fr mg base 1 "_law_names" (spD K m__law_names) := by
  have nd := sc__law_names.nd
  have key : FnG P w K.fr mg base 1 f fd ["draw", "other"] (spD K (fnD (["draw", "other", "pool", "steps", "step", "k"] : List Str).length (["draw", "other"] : List Str).length b__law_names)) := by
    apply fnG_of (k := 0) (b := b__law_names) F sc__law_names
    intro cdv A outer s H E hr hgd
    refine ⟨_, (pss_cons (ps_set (i := 2) nd rfl (.inr rfl) (pe_lst (pa_cons pe_str (pa_cons pe_str (pa_cons pe_str (pa_cons pe_str (pa_cons pe_str (pa_cons pe_str (pa_cons pe_str (pa_cons pe_str (pa_cons pe_str (pa_cons pe_str (pa_cons pe_str (pa_cons pe_str (pa_cons pe_str (pa_cons pe_str (pa_cons pe_str (pa_cons pe_str (pa_cons pe_str (pa_cons pe_str (pa_cons pe_str (pa_cons pe_str (pa_cons pe_str (pa_cons pe_str (pa_cons pe_str (pa_cons pe_str (pa_cons pe_str (pa_cons pe_str (pa_cons pe_str (pa_cons pe_str (pa_cons pe_str (pa_cons pe_str pa_nil))))))))))))))))))))))))))))))))
    (pss_cons (ps_set (i := 3) nd rfl (.inl rfl) (pe_lst (pa_cons pe_int (pa_cons pe_int (pa_cons pe_int (pa_cons pe_int (pa_cons pe_int (pa_cons pe_int (pa_cons pe_int (pa_cons pe_int pa_nil))))))))))
    (pss_cons (ps_set (i := 4) nd rfl (.inr rfl) (pe_ix (ix_seqK (K := K.fr) rfl) (pv 3) (pe_op op_modN (pe_callTy call_int1 (by rfl) bl.int (by decide +kernel) (pa_cons (pv 1) pa_nil)) pe_int) (fun _ _ => rfl)))
    (pss_one (ps_ret (pe_lc (own := [("k", 5)]) rfl nd (pi_range1 rfl bl.range (pa_cons pe_int pa_nil)) (blkOk_by (N := ["draw", "other", "pool", "steps", "step", "k"]) (sc := defScope s__law_names) (by decide +kernel)) (fun _ _ _ _ _ => (pg_name (i := 5) nd rfl (.inl rfl))) (fun _ _ _ _ _ => pts_nil) (fun _ _ _ _ _ => (pe_ix (ix_seqK (K := K.fr) rfl) (pv 2) (pe_op op_modN (pe_callTy call_int1 (by rfl) bl.int (by decide +kernel) (pa_cons (pe_op (op_addK (K := K.fr) rfl) (pv 0) (pe_op op_mul (pv 4) (pv 5))) pa_nil)) pe_int) (fun _ _ => rfl))))))))), ?_⟩
    exact (run_seq (run_set 2 ((en_lst (ea_cons ev_str (ea_cons ev_str (ea_cons ev_str (ea_cons ev_str (ea_cons ev_str (ea_cons ev_str (ea_cons ev_str (ea_cons ev_str (ea_cons ev_str (ea_cons ev_str (ea_cons ev_str (ea_cons ev_str (ea_cons ev_str (ea_cons ev_str (ea_cons ev_str (ea_cons ev_str (ea_cons ev_str (ea_cons ev_str (ea_cons ev_str (ea_cons ev_str (ea_cons ev_str (ea_cons ev_str (ea_cons ev_str (ea_cons ev_str (ea_cons ev_str (ea_cons ev_str (ea_cons ev_str (ea_cons ev_str (ea_cons ev_str (ea_cons ev_str ea_nil)))))))))))))))))))))))))))))))).d)
    (run_seq (run_set 3 ((en_lst (ea_cons ev_int (ea_cons ev_int (ea_cons ev_int (ea_cons ev_int (ea_cons ev_int (ea_cons ev_int (ea_cons ev_int (ea_cons ev_int ea_nil)))))))))).d)
    (run_seq (run_set 4 (ev_op os_ix (vv_var 3) ((ev_op os_mod ((ev_cb cs_int (ew_cons (vv_var 1) ew_nil))).v (ev_int).v)).v))
    (run_ret ((en_lc (EvI.c (ei_range1 (ea_cons ev_int ea_nil) len1)) (eg_name 5) et_yes (ev_op os_ix (vv_var 2) ((ev_op os_mod ((ev_cb cs_int (ew_cons ((ev_op os_add (vv_var 0) ((ev_op os_mul (vv_var 4) (vv_var 5))).v)).v ew_nil))).v (ev_int).v)).v) (by decide))).d))))
  have bi : Binds K.fr fd ["draw", "other"] [] := F.binds fun _ _ _ _ _ _ us hl => match us, hl with | [_, _], _ => rfl
  exact ⟨f, fd, ["draw", "other"], key, hm, F.kp, bi⟩
abbrev s__law_wide : Stmt := topS 27
theorem sc__law_wide : FnScope ["draws", "at"] ["draws", "at"] (defScope s__law_wide) := ⟨rfl, rfl, rfl, by decide +kernel, rfl, by decide +kernel, by decide +kernel⟩
def b__law_wide : Sls → Option Fl :=
    (sRet (dOp gAdd (dOp gAdd (dOp gMul (dOp gIx (dView 0) (dView 1)) (dC (.int 1000000))) (dOp gMul (dOp gIx (dView 0) (dOp gAdd (dView 1) (dC (.int 1)))) (dC (.int 1000)))) (dOp gIx (dView 0) (dOp gAdd (dView 1) (dC (.int 2))))))
def m__law_wide : List D → Option D := fnD 2 2 b__law_wide
theorem ok__law_wide {P : Program} {w : World} {K : Kx} {mg : Str → Option Value} {base : Heap} {f : Addr} {fd : FuncData} (bl : Bl mg) (F : Fun K.fr "_law_wide" "_law_wide" s__law_wide f fd) (hm : mg "_law_wide" = some (.ref f)) : CalG P w K.fr mg base 1 "_law_wide" (spD K m__law_wide) := by
  have nd := sc__law_wide.nd
  have key : FnG P w K.fr mg base 1 f fd ["draws", "at"] (spD K (fnD (["draws", "at"] : List Str).length (["draws", "at"] : List Str).length b__law_wide)) := by
    apply fnG_of (k := 0) (b := b__law_wide) F sc__law_wide
    intro cdv A outer s H E hr hgd
    refine ⟨_, (pss_one (ps_ret (pe_op (op_addK (K := K.fr) rfl) (pe_op (op_addK (K := K.fr) rfl) (pe_op op_mul (pe_ix (ix_seqK (K := K.fr) rfl) (pv 0) (pv 1) (fun _ _ => rfl)) pe_int) (pe_op op_mul (pe_ix (ix_seqK (K := K.fr) rfl) (pv 0) (pe_op (op_addK (K := K.fr) rfl) (pv 1) pe_int) (fun _ _ => rfl)) pe_int)) (pe_ix (ix_seqK (K := K.fr) rfl) (pv 0) (pe_op (op_addK (K := K.fr) rfl) (pv 1) pe_int) (fun _ _ => rfl))))), ?_⟩
    exact (run_ret (ev_op os_add ((ev_op os_add ((ev_op os_mul ((ev_op os_ix (vv_var 0) (vv_var 1))).v (ev_int).v)).v ((ev_op os_mul ((ev_op os_ix (vv_var 0) ((ev_op os_add (vv_var 1) (ev_int).v)).v)).v (ev_int).v)).v)).v ((ev_op os_ix (vv_var 0) ((ev_op os_add (vv_var 1) (ev_int).v)).v)).v))
  have bi : Binds K.fr fd ["draws", "at"] [] := F.binds fun _ _ _ _ _ _ us hl => match us, hl with | [_, _], _ => rfl
  exact ⟨f, fd, ["draws", "at"], key, hm, F.kp, bi⟩
abbrev s__law_near : Stmt := topS 28
theorem sc__law_near : FnScope ["number", "draw"] ["number", "draw"] (defScope s__law_near) := ⟨rfl, rfl, rfl, by decide +kernel, rfl, by decide +kernel, by decide +kernel⟩
def b__law_near : Sls → Option Fl :=
    (sRet (dApp gMax2 (dCons (dUn gNeg (dC (.int 999999999))) (dCons (dApp gMin2 (dCons (dC (.int 999999999)) (dCons (dOp gSub (dOp gAdd (dView 0) (dOp gMod (dApp gInt (dCons (dView 1) dNil)) (dC (.int 7)))) (dC (.int 3))) dNil))) dNil))))
def m__law_near : List D → Option D := fnD 2 2 b__law_near
theorem ok__law_near {P : Program} {w : World} {K : Kx} {mg : Str → Option Value} {base : Heap} {f : Addr} {fd : FuncData} (bl : Bl mg) (F : Fun K.fr "_law_near" "_law_near" s__law_near f fd) (hm : mg "_law_near" = some (.ref f)) : CalG P w K.fr mg base 1 "_law_near" (spD K m__law_near) := by
  have nd := sc__law_near.nd
  have key : FnG P w K.fr mg base 1 f fd ["number", "draw"] (spD K (fnD (["number", "draw"] : List Str).length (["number", "draw"] : List Str).length b__law_near)) := by
    apply fnG_of (k := 0) (b := b__law_near) F sc__law_near
    intro cdv A outer s H E hr hgd
    refine ⟨_, (pss_one (ps_ret (pe_callB (call_max2 rfl) (by rfl) bl.max (by decide +kernel) (pa_cons (pe_un un_neg pe_int) (pa_cons (pe_callB (call_min2 rfl) (by rfl) bl.min (by decide +kernel) (pa_cons pe_int (pa_cons (pe_op op_sub (pe_op (op_addK (K := K.fr) rfl) (pv 0) (pe_op op_modN (pe_callTy call_int1 (by rfl) bl.int (by decide +kernel) (pa_cons (pv 1) pa_nil)) pe_int)) pe_int) pa_nil))) pa_nil))))), ?_⟩
    exact (run_ret (ev_cb cs_max2 (ew_cons ((ev_un us_neg (ev_int).v)).v (ew_cons ((ev_cb cs_min2 (ew_cons (ev_int).v (ew_cons ((ev_op os_sub ((ev_op os_add (vv_var 0) ((ev_op os_mod ((ev_cb cs_int (ew_cons (vv_var 1) ew_nil))).v (ev_int).v)).v)).v (ev_int).v)).v ew_nil)))).v ew_nil))))
  have bi : Binds K.fr fd ["number", "draw"] [] := F.binds fun _ _ _ _ _ _ us hl => match us, hl with | [_, _], _ => rfl
  exact ⟨f, fd, ["number", "draw"], key, hm, F.kp, bi⟩
abbrev s__law_low : Stmt := topS 29
theorem sc__law_low : FnScope ["draws", "other", "menu", "base"] ["draws", "other"] (defScope s__law_low) := ⟨rfl, rfl, rfl, by decide +kernel, rfl, by decide +kernel, by decide +kernel⟩
def b__law_low : Sls → Option Fl :=
    (sSeq (sSet 2 (dApp gLst (dCons (dC (.int 0)) (dCons (dC (.int 1)) (dCons (dC (.int 2)) (dCons (dC (.int 3)) (dCons (dC (.int 1000)) (dCons (dC (.int 31622)) (dCons (dC (.int 1000000)) (dCons (dC (.int 333333333)) (dCons (dC (.int 499999999)) (dCons (dC (.int 500000000)) (dCons (dC (.int 999999999)) (dCons (dApp m__law_wide (dCons (dVar 0) (dCons (dC (.int 3)) dNil))) dNil))))))))))))))
    (sSeq (sSet 3 (dOp gIx (dView 2) (dOp gMod (dApp gInt (dCons (dOp gIx (dView 0) (dC (.int 2))) dNil)) (dC (.int 12)))))
    (sSeq (sIf (dTest (dOp gEq (dOp gMod (dApp gInt (dCons (dOp gDiv (dOp gIx (dView 0) (dC (.int 2))) (dC (.int 12))) dNil)) (dC (.int 2))) (dC (.int 1)))) (sSet 3 (dUn gNeg (dView 3))) sNext)
    (sSeq (sIf (dAnd (dTest (dOp gNotN (dOp gIx (dView 1) (dC (.int 0))) (dC .none))) (dTest (dOp gEq (dOp gMod (dApp gInt (dCons (dOp gIx (dView 0) (dC (.int 24))) dNil)) (dC (.int 2))) (dC (.int 1))))) (sSet 3 (dOp gIx (dView 1) (dOp gMod (dApp gInt (dCons (dOp gIx (dView 0) (dC (.int 25))) dNil)) (dC (.int 2))))) sNext)
    (sRet (dApp m__law_near (dCons (dVar 3) (dCons (dOp gIx (dView 0) (dC (.int 6))) dNil))))))))
def m__law_low : List D → Option D := fnD 4 2 b__law_low
theorem ok__law_low {P : Program} {w : World} {K : Kx} {mg : Str → Option Value} {base : Heap} {f : Addr} {fd : FuncData} (bl : Bl mg) (F : Fun K.fr "_law_low" "_law_low" s__law_low f fd) (hm : mg "_law_low" = some (.ref f)) (c__law_wide : CalG P w K.fr mg base 1 "_law_wide" (spD K m__law_wide)) (c__law_near : CalG P w K.fr mg base 1 "_law_near" (spD K m__law_near)) : CalG P w K.fr mg base 2 "_law_low" (spD K m__law_low) := by
  have nd := sc__law_low.nd
  have key : FnG P w K.fr mg base 2 f fd ["draws", "other"] (spD K (fnD (["draws", "other", "menu", "base"] : List Str).length (["draws", "other"] : List Str).length b__law_low)) := by
    apply fnG_of (k := 1) (b := b__law_low) F sc__law_low
    intro cdv A outer s H E hr hgd
    refine ⟨_, (pss_cons (ps_set (i := 2) nd rfl (.inl rfl) (pe_lst (pa_cons pe_int (pa_cons pe_int (pa_cons pe_int (pa_cons pe_int (pa_cons pe_int (pa_cons pe_int (pa_cons pe_int (pa_cons pe_int (pa_cons pe_int (pa_cons pe_int (pa_cons pe_int (pa_cons (pe_cg c__law_wide hr (by decide) hgd rfl (pa_cons (pv 0) (pa_cons pe_int pa_nil))) pa_nil))))))))))))))
    (pss_cons (ps_set (i := 3) nd rfl (.inl rfl) (pe_ix (ix_seqK (K := K.fr) rfl) (pv 2) (pe_op op_modN (pe_callTy call_int1 (by rfl) bl.int (by decide +kernel) (pa_cons (pe_ix (ix_seqK (K := K.fr) rfl) (pv 0) pe_int (fun _ _ => rfl)) pa_nil)) pe_int) (fun _ _ => rfl)))
    (pss_cons (ps_if (pt_cmpR (op_eqK (K := K.fr) rfl hr.units) (pe_op op_modN (pe_callTy call_int1 (by rfl) bl.int (by decide +kernel) (pa_cons (pe_op op_fdivN (pe_ix (ix_seqK (K := K.fr) rfl) (pv 0) pe_int (fun _ _ => rfl)) pe_int) pa_nil)) pe_int) pe_int (nomark _)) (pss_one (ps_set (i := 3) nd rfl (.inl rfl) (pe_un un_neg (pv 3)))) pss_nil)
    (pss_cons (ps_if (PW.pt (pw_and (pt_cmpR op_notN (pe_ix (ix_seqK (K := K.fr) rfl) (pv 1) pe_int (fun _ _ => rfl)) pe_non (nomark _)) (pw_and1 (pt_cmpR (op_eqK (K := K.fr) rfl hr.units) (pe_op op_modN (pe_callTy call_int1 (by rfl) bl.int (by decide +kernel) (pa_cons (pe_ix (ix_seqK (K := K.fr) rfl) (pv 0) pe_int (fun _ _ => rfl)) pa_nil)) pe_int) pe_int (nomark _))))) (pss_one (ps_set (i := 3) nd rfl (.inl rfl) (pe_ix (ix_seqK (K := K.fr) rfl) (pv 1) (pe_op op_modN (pe_callTy call_int1 (by rfl) bl.int (by decide +kernel) (pa_cons (pe_ix (ix_seqK (K := K.fr) rfl) (pv 0) pe_int (fun _ _ => rfl)) pa_nil)) pe_int) (fun _ _ => rfl)))) pss_nil)
    (pss_one (ps_ret (pe_cg c__law_near hr (by decide) hgd rfl (pa_cons (pv 3) (pa_cons (pe_ix (ix_seqK (K := K.fr) rfl) (pv 0) pe_int (fun _ _ => rfl)) pa_nil))))))))), ?_⟩
    exact (run_seq (run_set 2 ((en_lst (ea_cons ev_int (ea_cons ev_int (ea_cons ev_int (ea_cons ev_int (ea_cons ev_int (ea_cons ev_int (ea_cons ev_int (ea_cons ev_int (ea_cons ev_int (ea_cons ev_int (ea_cons ev_int (ea_cons (ev_call (ea_cons (ev_var 0) (ea_cons ev_int ea_nil))) ea_nil)))))))))))))).d)
    (run_seq (run_set 3 (ev_op os_ix (vv_var 2) ((ev_op os_mod ((ev_cb cs_int (ew_cons ((ev_op os_ix (vv_var 0) (ev_int).v)).v ew_nil))).v (ev_int).v)).v))
    (run_seq (run_if (et_val (ev_op os_eq ((ev_op os_mod ((ev_cb cs_int (ew_cons ((ev_op os_div ((ev_op os_ix (vv_var 0) (ev_int).v)).v (ev_int).v)).v ew_nil))).v (ev_int).v)).v (ev_int).v)) (run_set 3 (ev_un us_neg (vv_var 3))) run_next)
    (run_seq (run_if (et_and (et_val (ev_op os_notN ((ev_op os_ix (vv_var 1) (ev_int).v)).v (ev_non).v)) (et_val (ev_op os_eq ((ev_op os_mod ((ev_cb cs_int (ew_cons ((ev_op os_ix (vv_var 0) (ev_int).v)).v ew_nil))).v (ev_int).v)).v (ev_int).v))) (run_set 3 (ev_op os_ix (vv_var 1) ((ev_op os_mod ((ev_cb cs_int (ew_cons ((ev_op os_ix (vv_var 0) (ev_int).v)).v ew_nil))).v (ev_int).v)).v)) run_next)
    (run_ret (ev_call (ea_cons (ev_var 3) (ea_cons (ev_op os_ix (vv_var 0) (ev_int).v) ea_nil))))))))
  have bi : Binds K.fr fd ["draws", "other"] [] := F.binds fun _ _ _ _ _ _ us hl => match us, hl with | [_, _], _ => rfl
  exact ⟨f, fd, ["draws", "other"], key, hm, F.kp, bi⟩
abbrev s__law_span : Stmt := topS 30
theorem sc__law_span : FnScope ["draws", "pool", "other", "shape", "low", "high", "wide", "widths", "none", "size", "classes", "k"] ["draws", "pool", "other"] (defScope s__law_span) := ⟨rfl, rfl, rfl, by decide +kernel, rfl, by decide +kernel, by decide +kernel⟩
def b__law_span : Sls → Option Fl :=
    (sSeq (sSet 3 (dOp gMod (dApp gInt (dCons (dOp gIx (dView 0) (dC (.int 0))) dNil)) (dC (.int 6))))
    (sSeq (sSet 4 (dC .none))
    (sSeq (sSet 5 (dC .none))
    (sSeq (sIf (dTest (dOp (gInA false) (dView 3) (dApp gLst (dCons (dC (.int 1)) (dCons (dC (.int 2)) (dCons (dC (.int 3)) (dCons (dC (.int 4)) dNil))))))) (sSeq (sSet 4 (dApp m__law_low (dCons (dVar 0) (dCons (dVar 2) dNil))))
    (sSeq (sSet 6 (dApp m__law_wide (dCons (dVar 0) (dCons (dC (.int 8)) dNil))))
    (sSeq (sSet 7 (dApp gLst (dCons (dC (.int 0)) (dCons (dOp gMod (dApp gInt (dCons (dOp gIx (dView 0) (dC (.int 11))) dNil)) (dC (.int 3))) (dCons (dOp gMod (dApp gInt (dCons (dOp gIx (dView 0) (dC (.int 11))) dNil)) (dC (.int 12))) (dCons (dOp gMod (dApp gInt (dCons (dView 6) dNil)) (dC (.int 2000))) (dCons (dVar 6) (dCons (dOp gAdd (dOp gMul (dC (.int 2)) (dView 6)) (dC (.int 1))) dNil))))))))
    (sSet 5 (dApp gMin2 (dCons (dC (.int 999999999)) (dCons (dOp gAdd (dView 4) (dOp gIx (dView 7) (dOp gMod (dApp gInt (dCons (dOp gIx (dView 0) (dC (.int 7))) dNil)) (dC (.int 6))))) dNil))))))) sNext)
    (sSeq (sSet 8 (dC (.int 0)))
    (sSeq (sSet 9 (dC (.int 0)))
    (sSeq (sIf (dTest (dOp gGt (dView 3) (dC (.int 2)))) (sSeq (sSet 8 (dOp gMod (dApp gInt (dCons (dOp gIx (dView 0) (dC (.int 1))) dNil)) (dC (.int 2))))
    (sSet 9 (dOp gIx (dApp gLst (dCons (dC (.int 0)) (dCons (dApp gMin2 (dCons (dC (.int 5)) (dCons (dApp gLen (dCons (dView 1) dNil)) dNil))) (dCons (dApp gLen (dCons (dView 1) dNil)) dNil)))) (dOp gMod (dApp gInt (dCons (dOp gDiv (dOp gIx (dView 0) (dC (.int 1))) (dC (.int 2))) dNil)) (dC (.int 3)))))) sNext)
    (sSeq (sSet 10 (dApp gSortS (dCons (dLc (iRange (dCons (dVar 9) dNil)) (tgName 11) (dTest (dOp gEq (dOp gMod (dApp gInt (dCons (dOp gIx (dView 0) (dOp gAdd (dC (.int 12)) (dView 11))) dNil)) (dC (.int 2))) (dC (.int 1)))) (dOp gIx (dView 1) (dView 11)) [11]) dNil)))
    (sRet (dApp gTup (dCons (dVar 4) (dCons (dVar 5) (dCons (dVar 8) (dCons (dApp gTuple (dCons (dView 10) dNil)) dNil))))))))))))))
def m__law_span : List D → Option D := fnD 12 3 b__law_span
theorem ok__law_span {P : Program} {w : World} {K : Kx} {mg : Str → Option Value} {base : Heap} {f : Addr} {fd : FuncData} (bl : Bl mg) (F : Fun K.fr "_law_span" "_law_span" s__law_span f fd) (hm : mg "_law_span" = some (.ref f)) (c__law_wide : CalG P w K.fr mg base 1 "_law_wide" (spD K m__law_wide)) (c__law_low : CalG P w K.fr mg base 2 "_law_low" (spD K m__law_low)) : CalG P w K.fr mg base 3 "_law_span" (spD K m__law_span) := by
  have nd := sc__law_span.nd
  have key : FnG P w K.fr mg base 3 f fd ["draws", "pool", "other"] (spD K (fnD (["draws", "pool", "other", "shape", "low", "high", "wide", "widths", "none", "size", "classes", "k"] : List Str).length (["draws", "pool", "other"] : List Str).length b__law_span)) := by
    apply fnG_of (k := 2) (b := b__law_span) F sc__law_span
    intro cdv A outer s H E hr hgd
    refine ⟨_, (pss_cons (ps_set (i := 3) nd rfl (.inl rfl) (pe_op op_modN (pe_callTy call_int1 (by rfl) bl.int (by decide +kernel) (pa_cons (pe_ix (ix_seqK (K := K.fr) rfl) (pv 0) pe_int (fun _ _ => rfl)) pa_nil)) pe_int))
    (pss_cons (ps_set (i := 4) nd rfl (.inl rfl) pe_non)
    (pss_cons (ps_set (i := 5) nd rfl (.inl rfl) pe_non)
    (pss_cons (ps_if (pt_cmpR (op_inK (K := K.fr) rfl (hu65 hr)) (pv 3) (pe_lst (pa_cons pe_int (pa_cons pe_int (pa_cons pe_int (pa_cons pe_int pa_nil))))) rfl) (pss_cons (ps_set (i := 4) nd rfl (.inl rfl) (pe_cg c__law_low hr (by decide) hgd rfl (pa_cons (pv 0) (pa_cons (pv 2) pa_nil))))
    (pss_cons (ps_set (i := 6) nd rfl (.inl rfl) (pe_cg c__law_wide hr (by decide) hgd rfl (pa_cons (pv 0) (pa_cons pe_int pa_nil))))
    (pss_cons (ps_set (i := 7) nd rfl (.inl rfl) (pe_lst (pa_cons pe_int (pa_cons (pe_op op_modN (pe_callTy call_int1 (by rfl) bl.int (by decide +kernel) (pa_cons (pe_ix (ix_seqK (K := K.fr) rfl) (pv 0) pe_int (fun _ _ => rfl)) pa_nil)) pe_int) (pa_cons (pe_op op_modN (pe_callTy call_int1 (by rfl) bl.int (by decide +kernel) (pa_cons (pe_ix (ix_seqK (K := K.fr) rfl) (pv 0) pe_int (fun _ _ => rfl)) pa_nil)) pe_int) (pa_cons (pe_op op_modN (pe_callTy call_int1 (by rfl) bl.int (by decide +kernel) (pa_cons (pv 6) pa_nil)) pe_int) (pa_cons (pv 6) (pa_cons (pe_op (op_addK (K := K.fr) rfl) (pe_op op_mul pe_int (pv 6)) pe_int) pa_nil))))))))
    (pss_one (ps_set (i := 5) nd rfl (.inl rfl) (pe_callB (call_min2 rfl) (by rfl) bl.min (by decide +kernel) (pa_cons pe_int (pa_cons (pe_op (op_addK (K := K.fr) rfl) (pv 4) (pe_ix (ix_seqK (K := K.fr) rfl) (pv 7) (pe_op op_modN (pe_callTy call_int1 (by rfl) bl.int (by decide +kernel) (pa_cons (pe_ix (ix_seqK (K := K.fr) rfl) (pv 0) pe_int (fun _ _ => rfl)) pa_nil)) pe_int) (fun _ _ => rfl))) pa_nil)))))))) pss_nil)
    (pss_cons (ps_set (i := 8) nd rfl (.inl rfl) pe_int)
    (pss_cons (ps_set (i := 9) nd rfl (.inl rfl) pe_int)
    (pss_cons (ps_if (pt_cmpR op_gt (pv 3) pe_int (nomark _)) (pss_cons (ps_set (i := 8) nd rfl (.inl rfl) (pe_op op_modN (pe_callTy call_int1 (by rfl) bl.int (by decide +kernel) (pa_cons (pe_ix (ix_seqK (K := K.fr) rfl) (pv 0) pe_int (fun _ _ => rfl)) pa_nil)) pe_int))
    (pss_one (ps_set (i := 9) nd rfl (.inl rfl) (pe_ix (ix_seqK (K := K.fr) rfl) (pe_lst (pa_cons pe_int (pa_cons (pe_callB (call_min2 rfl) (by rfl) bl.min (by decide +kernel) (pa_cons pe_int (pa_cons (pe_callB (call_lenK (K := K.fr) rfl) (by rfl) bl.len (by decide +kernel) (pa_cons (pv 1) pa_nil)) pa_nil))) (pa_cons (pe_callB (call_lenK (K := K.fr) rfl) (by rfl) bl.len (by decide +kernel) (pa_cons (pv 1) pa_nil)) pa_nil)))) (pe_op op_modN (pe_callTy call_int1 (by rfl) bl.int (by decide +kernel) (pa_cons (pe_op op_fdivN (pe_ix (ix_seqK (K := K.fr) rfl) (pv 0) pe_int (fun _ _ => rfl)) pe_int) pa_nil)) pe_int) (fun _ _ => rfl))))) pss_nil)
    (pss_cons (ps_set (i := 10) nd rfl (.inl rfl) (pe_callB (cr_sortSK (K := K.fr) rfl) (by rfl) bl.sorted (by decide +kernel) (pa_cons (pe_lc (own := [("k", 11)]) rfl nd (pi_range1 rfl bl.range (pa_cons (pv 9) pa_nil)) (blkOk_by (N := ["draws", "pool", "other", "shape", "low", "high", "wide", "widths", "none", "size", "classes", "k"]) (sc := defScope s__law_span) (by decide +kernel)) (fun _ _ _ _ _ => (pg_name (i := 11) nd rfl (.inl rfl))) (fun _ _ _ _ _ => (pts_one (pt_cmpR (op_eqK (K := K.fr) rfl hr.units) (pe_op op_modN (pe_callTy call_int1 (by rfl) bl.int (by decide +kernel) (pa_cons (pe_ix (ix_seqK (K := K.fr) rfl) (pv 0) (pe_op (op_addK (K := K.fr) rfl) pe_int (pv 11)) (fun _ _ => rfl)) pa_nil)) pe_int) pe_int (nomark _)))) (fun _ _ _ _ _ => (pe_ix (ix_seqK (K := K.fr) rfl) (pv 1) (pv 11) (fun _ _ => rfl)))) pa_nil)))
    (pss_one (ps_ret (pe_tup (pa_cons (pv 4) (pa_cons (pv 5) (pa_cons (pv 8) (pa_cons (pe_callTy (call_tupleK (K := K.fr) rfl) (by rfl) bl.tuple (by decide +kernel) (pa_cons (pv 10) pa_nil)) pa_nil))))))))))))))), ?_⟩
    exact (run_seq (run_set 3 (ev_op os_mod ((ev_cb cs_int (ew_cons ((ev_op os_ix (vv_var 0) (ev_int).v)).v ew_nil))).v (ev_int).v))
    (run_seq (run_set 4 ev_non)
    (run_seq (run_set 5 ev_non)
    (run_seq (run_if (et_val (ev_op (os_in (neg := false)) (vv_var 3) ((en_lst (ea_cons ev_int (ea_cons ev_int (ea_cons ev_int (ea_cons ev_int ea_nil)))))).v)) (run_seq (run_set 4 (ev_call (ea_cons (ev_var 0) (ea_cons (ev_var 2) ea_nil))))
    (run_seq (run_set 6 (ev_call (ea_cons (ev_var 0) (ea_cons ev_int ea_nil))))
    (run_seq (run_set 7 ((en_lst (ea_cons ev_int (ea_cons (ev_op os_mod ((ev_cb cs_int (ew_cons ((ev_op os_ix (vv_var 0) (ev_int).v)).v ew_nil))).v (ev_int).v) (ea_cons (ev_op os_mod ((ev_cb cs_int (ew_cons ((ev_op os_ix (vv_var 0) (ev_int).v)).v ew_nil))).v (ev_int).v) (ea_cons (ev_op os_mod ((ev_cb cs_int (ew_cons (vv_var 6) ew_nil))).v (ev_int).v) (ea_cons (ev_var 6) (ea_cons (ev_op os_add ((ev_op os_mul (ev_int).v (vv_var 6))).v (ev_int).v) ea_nil)))))))).d)
    (run_set 5 (ev_cb cs_min2 (ew_cons (ev_int).v (ew_cons ((ev_op os_add (vv_var 4) ((ev_op os_ix (vv_var 7) ((ev_op os_mod ((ev_cb cs_int (ew_cons ((ev_op os_ix (vv_var 0) (ev_int).v)).v ew_nil))).v (ev_int).v)).v)).v)).v ew_nil))))))) run_next)
    (run_seq (run_set 8 ev_int)
    (run_seq (run_set 9 ev_int)
    (run_seq (run_if (et_val (ev_op os_gt (vv_var 3) (ev_int).v)) (run_seq (run_set 8 (ev_op os_mod ((ev_cb cs_int (ew_cons ((ev_op os_ix (vv_var 0) (ev_int).v)).v ew_nil))).v (ev_int).v))
    (run_set 9 (ev_op os_ix ((en_lst (ea_cons ev_int (ea_cons (ev_cb cs_min2 (ew_cons (ev_int).v (ew_cons ((ev_cb cs_len (ew_cons (vv_var 1) ew_nil))).v ew_nil))) (ea_cons (ev_cb cs_len (ew_cons (vv_var 1) ew_nil)) ea_nil))))).v ((ev_op os_mod ((ev_cb cs_int (ew_cons ((ev_op os_div ((ev_op os_ix (vv_var 0) (ev_int).v)).v (ev_int).v)).v ew_nil))).v (ev_int).v)).v))) run_next)
    (run_seq (run_set 10 ((en_cb cn_sortS (ew_cons ((en_lc (EvI.c (ei_range1 (ea_cons (ev_var 9) ea_nil) len1)) (eg_name 11) (et_val (ev_op os_eq ((ev_op os_mod ((ev_cb cs_int (ew_cons ((ev_op os_ix (vv_var 0) ((ev_op os_add (ev_int).v (vv_var 11))).v)).v ew_nil))).v (ev_int).v)).v (ev_int).v)) (ev_op os_ix (vv_var 1) (vv_var 11)) (by decide))).v ew_nil))).d)
    (run_ret (ev_tup (ea_cons (ev_var 4) (ea_cons (ev_var 5) (ea_cons (ev_var 8) (ea_cons (ev_cb cs_tuple (ew_cons (vv_var 10) ew_nil)) ea_nil))))))))))))))
  have bi : Binds K.fr fd ["draws", "pool", "other"] [] := F.binds fun _ _ _ _ _ _ us hl => match us, hl with | [_, _, _], _ => rfl
  exact ⟨f, fd, ["draws", "pool", "other"], key, hm, F.kp, bi⟩
abbrev s__law_same : Stmt := topS 31
theorem sc__law_same : FnScope ["told", "due"] ["told", "due"] (defScope s__law_same) := ⟨rfl, rfl, rfl, by decide +kernel, rfl, by decide +kernel, by decide +kernel⟩
def b__law_same : Sls → Option Fl :=
    (sRet (dAndV (dUn (gIsi "tuple") (dView 0)) (dAndV (dOp gEq (dView 0) (dView 1)) (dOp gEq (dApp gRepr (dCons (dView 0) dNil)) (dApp gRepr (dCons (dView 1) dNil))))))
def m__law_same : List D → Option D := fnD 2 2 b__law_same
theorem ok__law_same {P : Program} {w : World} {K : Kx} {mg : Str → Option Value} {base : Heap} {f : Addr} {fd : FuncData} (bl : Bl mg) (F : Fun K.fr "_law_same" "_law_same" s__law_same f fd) (hm : mg "_law_same" = some (.ref f)) : CalG P w K.fr mg base 1 "_law_same" (spD K m__law_same) := by
  have nd := sc__law_same.nd
  have key : FnG P w K.fr mg base 1 f fd ["told", "due"] (spD K (fnD (["told", "due"] : List Str).length (["told", "due"] : List Str).length b__law_same)) := by
    apply fnG_of (k := 0) (b := b__law_same) F sc__law_same
    intro cdv A outer s H E hr hgd
    refine ⟨_, (pss_one (ps_ret (pe_and (pe_callB (call_isiK (K := K.fr) rfl) (by rfl) bl.isinstance (by decide +kernel) (pa_cons (pv 0) (pa_cons (pe_bltn (v := .ty "tuple") (by rfl) bl.tuple (by decide +kernel) rfl) pa_nil))) (pe_and (pe_cmpR (op_eqK (K := K.fr) rfl hr.units) (pv 0) (pv 1) (nomark _)) (pe_one (pe_cmpR (op_eqK (K := K.fr) rfl hr.units) (pe_callB (cr_reprK (K := K.fr) rfl (hu65 hr) hgd) (by rfl) bl.repr (by decide +kernel) (pa_cons (pv 0) pa_nil)) (pe_callB (cr_reprK (K := K.fr) rfl (hu65 hr) hgd) (by rfl) bl.repr (by decide +kernel) (pa_cons (pv 1) pa_nil)) (nomark _))))))), ?_⟩
    exact (run_ret (ev_andV (ev_isi "tuple" (vv_var 0)) (ev_andV (ev_op os_eq (vv_var 0) (vv_var 1)) (ev_op os_eq ((ev_cb cs_repr (ew_cons (vv_var 0) ew_nil))).v ((ev_cb cs_repr (ew_cons (vv_var 1) ew_nil))).v))))
  have bi : Binds K.fr fd ["told", "due"] [] := F.binds fun _ _ _ _ _ _ us hl => match us, hl with | [_, _], _ => rfl
  exact ⟨f, fd, ["told", "due"], key, hm, F.kp, bi⟩
abbrev s__law_edges : Stmt := topS 32
theorem sc__law_edges : FnScope ["draws", "pairs", "spans", "k", "high", "low"] ["draws"] (defScope s__law_edges) := ⟨rfl, rfl, rfl, by decide +kernel, rfl, by decide +kernel, by decide +kernel⟩
def b__law_edges : Sls → Option Fl :=
    (sSeq (sSet 1 (dApp gLst (dCons (dApp gTup (dCons (dC (.int 999999999)) (dCons (dC (.int 1)) dNil))) (dCons (dApp gTup (dCons (dC (.int 333333333)) (dCons (dC (.int 3)) dNil))) (dCons (dApp gTup (dCons (dC (.int 111111111)) (dCons (dC (.int 9)) dNil))) (dCons (dApp gTup (dCons (dC (.int 37037037)) (dCons (dC (.int 27)) dNil))) (dCons (dApp gTup (dCons (dC (.int 1000000)) (dCons (dC (.int 1000)) dNil))) (dCons (dApp gTup (dCons (dC (.int 500000000)) (dCons (dC (.int 2)) dNil))) (dCons (dApp gTup (dCons (dC (.int 250000000)) (dCons (dC (.int 4)) dNil))) (dCons (dApp gTup (dCons (dC (.int 5)) (dCons (dC (.int 200000000)) dNil))) (dCons (dApp gTup (dCons (dC (.int 999999)) (dCons (dC (.int 1000)) dNil))) (dCons (dApp gTup (dCons (dC (.int 31622)) (dCons (dC (.int 31623)) dNil))) (dCons (dApp gTup (dCons (dC (.int 31623)) (dCons (dC (.int 31623)) dNil))) dNil)))))))))))))
    (sSeq (sSetN 2 (dApp gLst dNil))
    (sSeq (sFor (iRange (dCons (dC (.int 2)) dNil)) (tgName 3) (sSeq (sSet 4 (dOp gIx (dOp gIx (dView 1) (dOp gMod (dApp gInt (dCons (dOp gIx (dView 0) (dC (.int 2))) dNil)) (dC (.int 11)))) (dView 3)))
    (sSeq (sSet 5 (dOp gSub (dView 4) (dOp gMod (dApp gInt (dCons (dOp gIx (dView 0) (dOp gAdd (dC (.int 3)) (dView 3))) dNil)) (dC (.int 3)))))
    (sSeq (sIf (dTest (dOp gEq (dOp gMod (dApp gInt (dCons (dOp gIx (dView 0) (dOp gAdd (dC (.int 5)) (dView 3))) dNil)) (dC (.int 2))) (dC (.int 1)))) (sPar 5 4 (dCons (dUn gNeg (dView 4)) (dCons (dUn gNeg (dView 5)) dNil))) sNext)
    (sAppend 2 (dCons (dApp gTup (dCons (dVar 5) (dCons (dVar 4) (dCons (dC (.int 0)) (dCons (dApp gTup dNil) dNil))))) dNil))))))
    (frz 2 (sRet (dVar 2))))))
def m__law_edges : List D → Option D := fnD 6 1 b__law_edges
theorem ok__law_edges {P : Program} {w : World} {K : Kx} {mg : Str → Option Value} {base : Heap} {f : Addr} {fd : FuncData} (bl : Bl mg) (F : Fun K.fr "_law_edges" "_law_edges" s__law_edges f fd) (hm : mg "_law_edges" = some (.ref f)) : CalG P w K.fr mg base 1 "_law_edges" (spD K m__law_edges) := by
  have nd := sc__law_edges.nd
  have key : FnG P w K.fr mg base 1 f fd ["draws"] (spD K (fnD (["draws", "pairs", "spans", "k", "high", "low"] : List Str).length (["draws"] : List Str).length b__law_edges)) := by
    apply fnG_of (k := 0) (b := b__law_edges) F sc__law_edges
    intro cdv A outer s H E hr hgd
    refine ⟨_, (pss_cons (ps_set (i := 1) nd rfl (.inl rfl) (pe_lst (pa_cons (pe_tup (pa_cons pe_int (pa_cons pe_int pa_nil))) (pa_cons (pe_tup (pa_cons pe_int (pa_cons pe_int pa_nil))) (pa_cons (pe_tup (pa_cons pe_int (pa_cons pe_int pa_nil))) (pa_cons (pe_tup (pa_cons pe_int (pa_cons pe_int pa_nil))) (pa_cons (pe_tup (pa_cons pe_int (pa_cons pe_int pa_nil))) (pa_cons (pe_tup (pa_cons pe_int (pa_cons pe_int pa_nil))) (pa_cons (pe_tup (pa_cons pe_int (pa_cons pe_int pa_nil))) (pa_cons (pe_tup (pa_cons pe_int (pa_cons pe_int pa_nil))) (pa_cons (pe_tup (pa_cons pe_int (pa_cons pe_int pa_nil))) (pa_cons (pe_tup (pa_cons pe_int (pa_cons pe_int pa_nil))) (pa_cons (pe_tup (pa_cons pe_int (pa_cons pe_int pa_nil))) pa_nil)))))))))))))
    (pss_cons (ps_set (i := 2) nd rfl (.inl rfl) (pe_lst pa_nil))
    (pss_cons (ps_for PassesOwn.never rfl (pi_range1 rfl bl.range (pa_cons pe_int pa_nil)) (pg_name (i := 3) nd rfl (.inl rfl)) (pss_cons (ps_set (i := 4) nd rfl (.inl rfl) (pe_ix (ix_seqK (K := K.fr) rfl) (pe_ix (ix_seqK (K := K.fr) rfl) (pv 1) (pe_op op_modN (pe_callTy call_int1 (by rfl) bl.int (by decide +kernel) (pa_cons (pe_ix (ix_seqK (K := K.fr) rfl) (pv 0) pe_int (fun _ _ => rfl)) pa_nil)) pe_int) (fun _ _ => rfl)) (pv 3) (fun _ _ => rfl)))
    (pss_cons (ps_set (i := 5) nd rfl (.inl rfl) (pe_op op_sub (pv 4) (pe_op op_modN (pe_callTy call_int1 (by rfl) bl.int (by decide +kernel) (pa_cons (pe_ix (ix_seqK (K := K.fr) rfl) (pv 0) (pe_op (op_addK (K := K.fr) rfl) pe_int (pv 3)) (fun _ _ => rfl)) pa_nil)) pe_int)))
    (pss_cons (ps_if (pt_cmpR (op_eqK (K := K.fr) rfl hr.units) (pe_op op_modN (pe_callTy call_int1 (by rfl) bl.int (by decide +kernel) (pa_cons (pe_ix (ix_seqK (K := K.fr) rfl) (pv 0) (pe_op (op_addK (K := K.fr) rfl) pe_int (pv 3)) (fun _ _ => rfl)) pa_nil)) pe_int) pe_int (nomark _)) (pss_one (ps_par (i := 5) (j := 4) rfl nd rfl rfl (by decide) rfl rfl (pa_cons (pe_un un_neg (pv 4)) (pa_cons (pe_un un_neg (pv 5)) pa_nil)) (by rfl))) pss_nil)
    (pss_one (ps_expr (pe_bm PySem.F.plainAttrs_list PySem.F.slot_list_append PySem.F.type_list_append mt_append (pv 2) (pa_cons (pe_tup (pa_cons (pv 5) (pa_cons (pv 4) (pa_cons pe_int (pa_cons (pe_tup pa_nil) pa_nil))))) pa_nil))))))))
    (pss_one (ps_ret (pv 2)))))), ?_⟩
    exact (run_seq (run_set 1 ((en_lst (ea_cons (ev_tup (ea_cons ev_int (ea_cons ev_int ea_nil))) (ea_cons (ev_tup (ea_cons ev_int (ea_cons ev_int ea_nil))) (ea_cons (ev_tup (ea_cons ev_int (ea_cons ev_int ea_nil))) (ea_cons (ev_tup (ea_cons ev_int (ea_cons ev_int ea_nil))) (ea_cons (ev_tup (ea_cons ev_int (ea_cons ev_int ea_nil))) (ea_cons (ev_tup (ea_cons ev_int (ea_cons ev_int ea_nil))) (ea_cons (ev_tup (ea_cons ev_int (ea_cons ev_int ea_nil))) (ea_cons (ev_tup (ea_cons ev_int (ea_cons ev_int ea_nil))) (ea_cons (ev_tup (ea_cons ev_int (ea_cons ev_int ea_nil))) (ea_cons (ev_tup (ea_cons ev_int (ea_cons ev_int ea_nil))) (ea_cons (ev_tup (ea_cons ev_int (ea_cons ev_int ea_nil))) ea_nil))))))))))))).d)
    (run_seq (run_setN 2 (en_lst ea_nil))
    (run_seq (run_for (ei_range1 (ea_cons ev_int ea_nil) len1) (eg_name 3) (run_seq (run_set 4 (ev_op os_ix ((ev_op os_ix (vv_var 1) ((ev_op os_mod ((ev_cb cs_int (ew_cons ((ev_op os_ix (vv_var 0) (ev_int).v)).v ew_nil))).v (ev_int).v)).v)).v (vv_var 3)))
    (run_seq (run_set 5 (ev_op os_sub (vv_var 4) ((ev_op os_mod ((ev_cb cs_int (ew_cons ((ev_op os_ix (vv_var 0) ((ev_op os_add (ev_int).v (vv_var 3))).v)).v ew_nil))).v (ev_int).v)).v))
    (run_seq (run_if (et_val (ev_op os_eq ((ev_op os_mod ((ev_cb cs_int (ew_cons ((ev_op os_ix (vv_var 0) ((ev_op os_add (ev_int).v (vv_var 3))).v)).v ew_nil))).v (ev_int).v)).v (ev_int).v)) (run_par (ea_cons (ev_un us_neg (vv_var 4)) (ea_cons (ev_un us_neg (vv_var 5)) ea_nil))) run_next)
    (run_append 2 (ea_cons (ev_tup (ea_cons (ev_var 5) (ea_cons (ev_var 4) (ea_cons ev_int (ea_cons (ev_tup ea_nil) ea_nil))))) ea_nil))))))
    (run_frz 2 (run_ret (ev_var 2))))))
  have bi : Binds K.fr fd ["draws"] [] := F.binds fun _ _ _ _ _ _ us hl => match us, hl with | [_], _ => rfl
  exact ⟨f, fd, ["draws"], key, hm, F.kp, bi⟩
abbrev s__law_values : Stmt := topS 33
theorem sc__law_values : FnScope ["span", "other", "values", "low", "high", "ends", "side", "number", "name"] ["span", "other"] (defScope s__law_values) := ⟨rfl, rfl, rfl, by decide +kernel, rfl, by decide +kernel, by decide +kernel⟩
def b__law_values : Sls → Option Fl :=
    (sSeq (sSetN 2 (dApp gLst dNil))
    (sSeq (sIf (dTest (dOp gNotN (dOp gIx (dView 0) (dC (.int 0))) (dC .none))) (sSeq (sAsg (tgTup 2 (tgCons (tgName 3) (tgCons (tgName 4) tgNil))) (dSlT (dView 0) oNone (oSome (dC (.int 2)))))
    (sSeq (sSet 5 (dOp gAddL (dApp gLst (dCons (dVar 3) (dCons (dOp gAdd (dView 3) (dC (.int 1))) (dCons (dOp gSub (dView 4) (dC (.int 1))) (dCons (dVar 4) (dCons (dUn gNeg (dC (.int 1))) (dCons (dC (.int 0)) (dCons (dC (.int 1)) dNil)))))))) (dLc (iTpl (dSlT (dView 1) oNone (oSome (dC (.int 2))))) (tgName 6) (dTest (dOp gNotN (dView 6) (dC .none))) (dVar 6) [6])))
    (sSeq (sIf (dTest (dOp gLt (dOp gSub (dView 4) (dView 3)) (dC (.int 12)))) (sSet 5 (dLstRg (dVar 3) (dOp gAdd (dView 4) (dC (.int 1))))) sNext)
    (sSetN 2 (dOp gAddL (dView 2) (dLc (iLst (dView 5)) (tgName 7) (dTest (dChain gLe gLe (dView 3) (dView 7) (dView 4))) (dVar 7) [7])))))) sNext)
    (sSeq (sIf (dTest (dOp gEq (dOp gIx (dView 0) (dC (.int 2))) (dC (.int 1)))) (sAppend 2 (dCons (dC .none) dNil)) sNext)
    (sSeq (sFor (iTpl (dOp gIx (dView 0) (dC (.int 3)))) (tgName 8) (sSetN 2 (dOp gAddL (dView 2) (dApp gLst (dCons (dOp gAdd (dView 8) (dC (.str ".1"))) (dCons (dOp gAdd (dView 8) (dC (.str ".2"))) dNil))))))
    (frz 2 (sRet (dVar 2)))))))
def m__law_values : List D → Option D := fnD 9 2 b__law_values
theorem ok__law_values {P : Program} {w : World} {K : Kx} {mg : Str → Option Value} {base : Heap} {f : Addr} {fd : FuncData} (bl : Bl mg) (F : Fun K.fr "_law_values" "_law_values" s__law_values f fd) (hm : mg "_law_values" = some (.ref f)) : CalG P w K.fr mg base 1 "_law_values" (spD K m__law_values) := by
  have nd := sc__law_values.nd
  have key : FnG P w K.fr mg base 1 f fd ["span", "other"] (spD K (fnD (["span", "other", "values", "low", "high", "ends", "side", "number", "name"] : List Str).length (["span", "other"] : List Str).length b__law_values)) := by
    apply fnG_of (k := 0) (b := b__law_values) F sc__law_values
    intro cdv A outer s H E hr hgd
    refine ⟨_, (pss_cons (ps_set (i := 2) nd rfl (.inl rfl) (pe_lst pa_nil))
    (pss_cons (ps_if (pt_cmpR op_notN (pe_ix (ix_seqK (K := K.fr) rfl) (pv 0) pe_int (fun _ _ => rfl)) pe_non (nomark _)) (pss_cons (ps_asg (pe_slice (sl_tupK (K := K.fr) rfl) (pv 0) po_none (po_some pe_int)) (pg_tupK (K := K.fr) rfl rfl (pgs_cons (pg_name (i := 3) nd rfl (.inr rfl)) (pgs_cons (pg_name (i := 4) nd rfl (.inr rfl)) pgs_nil))))
    (pss_cons (ps_set (i := 5) nd rfl (.inl rfl) (pe_op (op_addK (K := K.fr) rfl) (pe_lst (pa_cons (pv 3) (pa_cons (pe_op (op_addK (K := K.fr) rfl) (pv 3) pe_int) (pa_cons (pe_op op_sub (pv 4) pe_int) (pa_cons (pv 4) (pa_cons (pe_un un_neg pe_int) (pa_cons pe_int (pa_cons pe_int pa_nil)))))))) (pe_lc (own := [("side", 6)]) rfl nd (pi_tupK (K := K.fr) rfl (pe_slice (sl_tupK (K := K.fr) rfl) (pv 1) po_none (po_some pe_int))) (blkOk_by (N := ["span", "other", "values", "low", "high", "ends", "side", "number", "name"]) (sc := defScope s__law_values) (by decide +kernel)) (fun _ _ _ _ _ => (pg_name (i := 6) nd rfl (.inl rfl))) (fun _ _ _ _ _ => (pts_one (pt_cmpR op_notN (pv 6) pe_non (nomark _)))) (fun _ _ _ _ _ => (pv 6)))))
    (pss_cons (ps_if (pt_cmpR op_lt (pe_op op_sub (pv 4) (pv 3)) pe_int (nomark _)) (pss_one (ps_set (i := 5) nd rfl (.inl rfl) (pe_listRg rfl rfl bl.list (prg_2 rfl bl.range (pv 3) (pe_op (op_addK (K := K.fr) rfl) (pv 4) pe_int))))) pss_nil)
    (pss_one (ps_set (i := 2) nd rfl (.inl rfl) (pe_op (op_addK (K := K.fr) rfl) (pv 2) (pe_lc (own := [("number", 7)]) rfl nd (pi_listK (K := K.fr) rfl (pv 5)) (blkOk_by (N := ["span", "other", "values", "low", "high", "ends", "side", "number", "name"]) (sc := defScope s__law_values) (by decide +kernel)) (fun _ _ _ _ _ => (pg_name (i := 7) nd rfl (.inl rfl))) (fun _ _ _ _ _ => (pts_one (pt_chain op_le op_le (pv 3) (pv 7) (pv 4)))) (fun _ _ _ _ _ => (pv 7))))))))) pss_nil)
    (pss_cons (ps_if (pt_cmpR (op_eqK (K := K.fr) rfl hr.units) (pe_ix (ix_seqK (K := K.fr) rfl) (pv 0) pe_int (fun _ _ => rfl)) pe_int (nomark _)) (pss_one (ps_expr (pe_bm PySem.F.plainAttrs_list PySem.F.slot_list_append PySem.F.type_list_append mt_append (pv 2) (pa_cons pe_non pa_nil)))) pss_nil)
    (pss_cons (ps_for PassesOwn.never rfl (pi_tupK (K := K.fr) rfl (pe_ix (ix_seqK (K := K.fr) rfl) (pv 0) pe_int (fun _ _ => rfl))) (pg_name (i := 8) nd rfl (.inl rfl)) (pss_one (ps_set (i := 2) nd rfl (.inl rfl) (pe_op (op_addK (K := K.fr) rfl) (pv 2) (pe_lst (pa_cons (pe_op (op_addK (K := K.fr) rfl) (pv 8) pe_str) (pa_cons (pe_op (op_addK (K := K.fr) rfl) (pv 8) pe_str) pa_nil)))))))
    (pss_one (ps_ret (pv 2))))))), ?_⟩
    exact (run_seq (run_setN 2 (en_lst ea_nil))
    (run_seq (run_if (et_val (ev_op os_notN ((ev_op os_ix (vv_var 0) (ev_int).v)).v (ev_non).v)) (run_seq (run_asg (ev_slT (vv_var 0) eo_none (eo_some ev_int)) (eg_tup (egs_cons (eg_name 3) (egs_cons (eg_name 4) egs_nil))))
    (run_seq (run_set 5 ((en_add ((en_lst (ea_cons (ev_var 3) (ea_cons (ev_op os_add (vv_var 3) (ev_int).v) (ea_cons (ev_op os_sub (vv_var 4) (ev_int).v) (ea_cons (ev_var 4) (ea_cons (ev_un us_neg (ev_int).v) (ea_cons ev_int (ea_cons ev_int ea_nil))))))))).v ((en_lc (EvI.c (ei_tup (ev_slT (vv_var 1) eo_none (eo_some ev_int)))) (eg_name 6) (et_val (ev_op os_notN (vv_var 6) (ev_non).v)) (ev_var 6) (by decide))).v)).d)
    (run_seq (run_if (et_val (ev_op os_lt ((ev_op os_sub (vv_var 4) (vv_var 3))).v (ev_int).v)) (run_set 5 ((en_lstRg2 (ev_var 3) (ev_op os_add (vv_var 4) (ev_int).v))).d) run_next)
    (run_setN 2 (en_add (vv_var 2) ((en_lc (ec_list (vv_var 5)) (eg_name 7) (et_val (ev_chain os_le os_le (vv_var 3) (vv_var 7) (vv_var 4))) (ev_var 7) (by decide))).v))))) run_next)
    (run_seq (run_if (et_val (ev_op os_eq ((ev_op os_ix (vv_var 0) (ev_int).v)).v (ev_int).v)) (run_append 2 (ea_cons ev_non ea_nil)) run_next)
    (run_seq (run_for (ei_tup (ev_op os_ix (vv_var 0) (ev_int).v)) (eg_name 8) (run_setN 2 (en_add (vv_var 2) ((en_lst (ea_cons (ev_op os_add (vv_var 8) (ev_str).v) (ea_cons (ev_op os_add (vv_var 8) (ev_str).v) ea_nil)))).v)))
    (run_frz 2 (run_ret (ev_var 2)))))))
  have bi : Binds K.fr fd ["span", "other"] [] := F.binds fun _ _ _ _ _ _ us hl => match us, hl with | [_, _], _ => rfl
  exact ⟨f, fd, ["span", "other"], key, hm, F.kp, bi⟩
abbrev s__law_result : Stmt := topS 34
theorem sc__law_result : FnScope ["sign", "one", "other"] ["sign", "one", "other"] (defScope s__law_result) := ⟨rfl, rfl, rfl, by decide +kernel, rfl, by decide +kernel, by decide +kernel⟩
def b__law_result : Sls → Option Fl :=
    (sSeq (sIf (dTest (dOp gEq (dView 0) (dC (.str "<")))) (sRet (dApp gInt (dCons (dOp gLt (dView 1) (dView 2)) dNil))) sNext)
    (sSeq (sIf (dTest (dOp gEq (dView 0) (dC (.str "<=")))) (sRet (dApp gInt (dCons (dOp gLe (dView 1) (dView 2)) dNil))) sNext)
    (sSeq (sIf (dTest (dOp gEq (dView 0) (dC (.str ">")))) (sRet (dApp gInt (dCons (dOp gGt (dView 1) (dView 2)) dNil))) sNext)
    (sSeq (sIf (dTest (dOp gEq (dView 0) (dC (.str ">=")))) (sRet (dApp gInt (dCons (dOp gGe (dView 1) (dView 2)) dNil))) sNext)
    (sSeq (sIf (dTest (dOp gEq (dView 0) (dC (.str "+")))) (sRet (dOp gAdd (dView 1) (dView 2))) sNext)
    (sSeq (sIf (dTest (dOp gEq (dView 0) (dC (.str "-")))) (sRet (dOp gSub (dView 1) (dView 2))) sNext)
    (sSeq (sIf (dTest (dOp gEq (dView 0) (dC (.str "*")))) (sRet (dOp gMul (dView 1) (dView 2))) sNext)
    (sSeq (sIf (dTest (dOp gEq (dView 0) (dC (.str "/")))) (sRet (dOp gDiv (dView 1) (dView 2))) sNext)
    (sRet (dOp gSub (dView 1) (dOp gMul (dView 2) (dOp gDiv (dView 1) (dView 2)))))))))))))
def m__law_result : List D → Option D := fnD 3 3 b__law_result
theorem ok__law_result {P : Program} {w : World} {K : Kx} {mg : Str → Option Value} {base : Heap} {f : Addr} {fd : FuncData} (bl : Bl mg) (F : Fun K.fr "_law_result" "_law_result" s__law_result f fd) (hm : mg "_law_result" = some (.ref f)) : CalG P w K.fr mg base 1 "_law_result" (spD K m__law_result) := by
  have nd := sc__law_result.nd
  have key : FnG P w K.fr mg base 1 f fd ["sign", "one", "other"] (spD K (fnD (["sign", "one", "other"] : List Str).length (["sign", "one", "other"] : List Str).length b__law_result)) := by
    apply fnG_of (k := 0) (b := b__law_result) F sc__law_result
    intro cdv A outer s H E hr hgd
    refine ⟨_, (pss_cons (ps_if (pt_cmpR (op_eqK (K := K.fr) rfl hr.units) (pv 0) pe_str (nomark _)) (pss_one (ps_ret (pe_callTy call_int1 (by rfl) bl.int (by decide +kernel) (pa_cons (pe_cmpR op_lt (pv 1) (pv 2) (nomark _)) pa_nil)))) pss_nil)
    (pss_cons (ps_if (pt_cmpR (op_eqK (K := K.fr) rfl hr.units) (pv 0) pe_str (nomark _)) (pss_one (ps_ret (pe_callTy call_int1 (by rfl) bl.int (by decide +kernel) (pa_cons (pe_cmpR op_le (pv 1) (pv 2) (nomark _)) pa_nil)))) pss_nil)
    (pss_cons (ps_if (pt_cmpR (op_eqK (K := K.fr) rfl hr.units) (pv 0) pe_str (nomark _)) (pss_one (ps_ret (pe_callTy call_int1 (by rfl) bl.int (by decide +kernel) (pa_cons (pe_cmpR op_gt (pv 1) (pv 2) (nomark _)) pa_nil)))) pss_nil)
    (pss_cons (ps_if (pt_cmpR (op_eqK (K := K.fr) rfl hr.units) (pv 0) pe_str (nomark _)) (pss_one (ps_ret (pe_callTy call_int1 (by rfl) bl.int (by decide +kernel) (pa_cons (pe_cmpR op_ge (pv 1) (pv 2) (nomark _)) pa_nil)))) pss_nil)
    (pss_cons (ps_if (pt_cmpR (op_eqK (K := K.fr) rfl hr.units) (pv 0) pe_str (nomark _)) (pss_one (ps_ret (pe_op (op_addK (K := K.fr) rfl) (pv 1) (pv 2)))) pss_nil)
    (pss_cons (ps_if (pt_cmpR (op_eqK (K := K.fr) rfl hr.units) (pv 0) pe_str (nomark _)) (pss_one (ps_ret (pe_op op_sub (pv 1) (pv 2)))) pss_nil)
    (pss_cons (ps_if (pt_cmpR (op_eqK (K := K.fr) rfl hr.units) (pv 0) pe_str (nomark _)) (pss_one (ps_ret (pe_op op_mul (pv 1) (pv 2)))) pss_nil)
    (pss_cons (ps_if (pt_cmpR (op_eqK (K := K.fr) rfl hr.units) (pv 0) pe_str (nomark _)) (pss_one (ps_ret (pe_op op_fdivN (pv 1) (pv 2)))) pss_nil)
    (pss_one (ps_ret (pe_op op_sub (pv 1) (pe_op op_mul (pv 2) (pe_op op_fdivN (pv 1) (pv 2)))))))))))))), ?_⟩
    exact (run_seq (run_if (et_val (ev_op os_eq (vv_var 0) (ev_str).v)) (run_ret (ev_cb cs_int (ew_cons ((ev_op os_lt (vv_var 1) (vv_var 2))).v ew_nil))) run_next)
    (run_seq (run_if (et_val (ev_op os_eq (vv_var 0) (ev_str).v)) (run_ret (ev_cb cs_int (ew_cons ((ev_op os_le (vv_var 1) (vv_var 2))).v ew_nil))) run_next)
    (run_seq (run_if (et_val (ev_op os_eq (vv_var 0) (ev_str).v)) (run_ret (ev_cb cs_int (ew_cons ((ev_op os_gt (vv_var 1) (vv_var 2))).v ew_nil))) run_next)
    (run_seq (run_if (et_val (ev_op os_eq (vv_var 0) (ev_str).v)) (run_ret (ev_cb cs_int (ew_cons ((ev_op os_ge (vv_var 1) (vv_var 2))).v ew_nil))) run_next)
    (run_seq (run_if (et_val (ev_op os_eq (vv_var 0) (ev_str).v)) (run_ret (ev_op os_add (vv_var 1) (vv_var 2))) run_next)
    (run_seq (run_if (et_val (ev_op os_eq (vv_var 0) (ev_str).v)) (run_ret (ev_op os_sub (vv_var 1) (vv_var 2))) run_next)
    (run_seq (run_if (et_val (ev_op os_eq (vv_var 0) (ev_str).v)) (run_ret (ev_op os_mul (vv_var 1) (vv_var 2))) run_next)
    (run_seq (run_if (et_val (ev_op os_eq (vv_var 0) (ev_str).v)) (run_ret (ev_op os_div (vv_var 1) (vv_var 2))) run_next)
    (run_ret (ev_op os_sub (vv_var 1) ((ev_op os_mul (vv_var 2) ((ev_op os_div (vv_var 1) (vv_var 2))).v)).v))))))))))
  have bi : Binds K.fr fd ["sign", "one", "other"] [] := F.binds fun _ _ _ _ _ _ us hl => match us, hl with | [_, _, _], _ => rfl
  exact ⟨f, fd, ["sign", "one", "other"], key, hm, F.kp, bi⟩
abbrev s__law_done : Stmt := topS 35
theorem sc__law_done : FnScope ["sign", "left", "right", "results", "faults", "others", "one", "other"] ["sign", "left", "right"] (defScope s__law_done) := ⟨rfl, rfl, rfl, by decide +kernel, rfl, by decide +kernel, by decide +kernel⟩
def b__law_done : Sls → Option Fl :=
    (sSeq (sSetN 3 (dApp gLst dNil))
    (sSeq (sSetN 4 (dApp gLst dNil))
    (sSeq (sSet 5 (dApp m__law_values (dCons (dVar 2) (dCons (dVar 1) dNil))))
    (sSeq (sFor (iLst (dApp m__law_values (dCons (dVar 1) (dCons (dVar 2) dNil)))) (tgName 6) (sFor (iLst (dVar 5)) (tgName 7) (sIf (dTest (dOp gEq (dView 0) (dC (.str "==")))) (sAppend 3 (dCons (dApp gInt (dCons (dOp gEq (dView 6) (dView 7)) dNil)) dNil)) (sIf (dTest (dOp gEq (dView 0) (dC (.str "!=")))) (sAppend 3 (dCons (dApp gInt (dCons (dOp gNe (dView 6) (dView 7)) dNil)) dNil)) (sIf (dOr (dNot (dTest (dApp m__law_is_integer (dCons (dVar 6) dNil)))) (dNot (dTest (dApp m__law_is_integer (dCons (dVar 7) dNil))))) (sAppend 4 (dCons (dC (.str "kind")) dNil)) (sIf (dAnd (dTest (dOp (gInA false) (dView 0) (dApp gLst (dCons (dC (.str "/")) (dCons (dC (.str "mod")) dNil))))) (dTest (dOp gEq (dView 7) (dC (.int 0))))) (sAppend 4 (dCons (dC (.str "zero")) dNil)) (sAppend 3 (dCons (dApp m__law_result (dCons (dVar 0) (dCons (dVar 6) (dCons (dVar 7) dNil)))) dNil))))))))
    (frz 3 (frz 4 (sRet (dApp gLst (dCons (dVar 3) (dCons (dVar 4) dNil))))))))))
def m__law_done : List D → Option D := fnD 8 3 b__law_done
theorem ok__law_done {P : Program} {w : World} {K : Kx} {mg : Str → Option Value} {base : Heap} {f : Addr} {fd : FuncData} (bl : Bl mg) (F : Fun K.fr "_law_done" "_law_done" s__law_done f fd) (hm : mg "_law_done" = some (.ref f)) (c__law_is_integer : CalG P w K.fr mg base 1 "_law_is_integer" (spD K m__law_is_integer)) (c__law_values : CalG P w K.fr mg base 1 "_law_values" (spD K m__law_values)) (c__law_result : CalG P w K.fr mg base 1 "_law_result" (spD K m__law_result)) : CalG P w K.fr mg base 2 "_law_done" (spD K m__law_done) := by
  have nd := sc__law_done.nd
  have key : FnG P w K.fr mg base 2 f fd ["sign", "left", "right"] (spD K (fnD (["sign", "left", "right", "results", "faults", "others", "one", "other"] : List Str).length (["sign", "left", "right"] : List Str).length b__law_done)) := by
    apply fnG_of (k := 1) (b := b__law_done) F sc__law_done
    intro cdv A outer s H E hr hgd
    refine ⟨_, (pss_cons (ps_set (i := 3) nd rfl (.inl rfl) (pe_lst pa_nil))
    (pss_cons (ps_set (i := 4) nd rfl (.inl rfl) (pe_lst pa_nil))
    (pss_cons (ps_set (i := 5) nd rfl (.inl rfl) (pe_cg c__law_values hr (by decide) hgd rfl (pa_cons (pv 2) (pa_cons (pv 1) pa_nil))))
    (pss_cons (ps_for PassesOwn.never rfl (pi_listK (K := K.fr) rfl (pe_cg c__law_values hr (by decide) hgd rfl (pa_cons (pv 1) (pa_cons (pv 2) pa_nil)))) (pg_name (i := 6) nd rfl (.inl rfl)) (pss_one (ps_for PassesOwn.never rfl (pi_listK (K := K.fr) rfl (pv 5)) (pg_name (i := 7) nd rfl (.inl rfl)) (pss_one (ps_if (pt_cmpR (op_eqK (K := K.fr) rfl hr.units) (pv 0) pe_str (nomark _)) (pss_one (ps_expr (pe_bm PySem.F.plainAttrs_list PySem.F.slot_list_append PySem.F.type_list_append mt_append (pv 3) (pa_cons (pe_callTy call_int1 (by rfl) bl.int (by decide +kernel) (pa_cons (pe_cmpR (op_eqK (K := K.fr) rfl hr.units) (pv 6) (pv 7) (nomark _)) pa_nil)) pa_nil)))) (pss_one (ps_if (pt_cmpR (op_eqK (K := K.fr) rfl hr.units) (pv 0) pe_str (nomark _)) (pss_one (ps_expr (pe_bm PySem.F.plainAttrs_list PySem.F.slot_list_append PySem.F.type_list_append mt_append (pv 3) (pa_cons (pe_callTy call_int1 (by rfl) bl.int (by decide +kernel) (pa_cons (pe_cmpR (op_neK (K := K.fr) rfl hr.units) (pv 6) (pv 7) (nomark _)) pa_nil)) pa_nil)))) (pss_one (ps_if (PW.pt (pw_or (pt_not (pt_val (pe_cg c__law_is_integer hr (by decide) hgd rfl (pa_cons (pv 6) pa_nil)))) (pw_or1 (pt_not (pt_val (pe_cg c__law_is_integer hr (by decide) hgd rfl (pa_cons (pv 7) pa_nil))))))) (pss_one (ps_expr (pe_bm PySem.F.plainAttrs_list PySem.F.slot_list_append PySem.F.type_list_append mt_append (pv 4) (pa_cons pe_str pa_nil)))) (pss_one (ps_if (PW.pt (pw_and (pt_cmpR (op_inK (K := K.fr) rfl (hu65 hr)) (pv 0) (pe_lst (pa_cons pe_str (pa_cons pe_str pa_nil))) rfl) (pw_and1 (pt_cmpR (op_eqK (K := K.fr) rfl hr.units) (pv 7) pe_int (nomark _))))) (pss_one (ps_expr (pe_bm PySem.F.plainAttrs_list PySem.F.slot_list_append PySem.F.type_list_append mt_append (pv 4) (pa_cons pe_str pa_nil)))) (pss_one (ps_expr (pe_bm PySem.F.plainAttrs_list PySem.F.slot_list_append PySem.F.type_list_append mt_append (pv 3) (pa_cons (pe_cg c__law_result hr (by decide) hgd rfl (pa_cons (pv 0) (pa_cons (pv 6) (pa_cons (pv 7) pa_nil)))) pa_nil)))))))))))))))
    (pss_one (ps_ret (pe_lst (pa_cons (pv 3) (pa_cons (pv 4) pa_nil))))))))), ?_⟩
    exact (run_seq (run_setN 3 (en_lst ea_nil))
    (run_seq (run_setN 4 (en_lst ea_nil))
    (run_seq (run_set 5 (ev_call (ea_cons (ev_var 2) (ea_cons (ev_var 1) ea_nil))))
    (run_seq (run_for (ei_list (ev_call (ea_cons (ev_var 1) (ea_cons (ev_var 2) ea_nil)))) (eg_name 6) (run_for (ei_list (ev_var 5)) (eg_name 7) (run_if (et_val (ev_op os_eq (vv_var 0) (ev_str).v)) (run_append 3 (ea_cons (ev_cb cs_int (ew_cons ((ev_op os_eq (vv_var 6) (vv_var 7))).v ew_nil)) ea_nil)) (run_if (et_val (ev_op os_eq (vv_var 0) (ev_str).v)) (run_append 3 (ea_cons (ev_cb cs_int (ew_cons ((ev_op os_ne (vv_var 6) (vv_var 7))).v ew_nil)) ea_nil)) (run_if (et_or (et_not (et_B (ev_call (ea_cons (ev_var 6) ea_nil)))) (et_not (et_B (ev_call (ea_cons (ev_var 7) ea_nil))))) (run_append 4 (ea_cons ev_str ea_nil)) (run_if (et_and (et_val (ev_op (os_in (neg := false)) (vv_var 0) ((en_lst (ea_cons ev_str (ea_cons ev_str ea_nil)))).v)) (et_val (ev_op os_eq (vv_var 7) (ev_int).v))) (run_append 4 (ea_cons ev_str ea_nil)) (run_append 3 (ea_cons (ev_call (ea_cons (ev_var 0) (ea_cons (ev_var 6) (ea_cons (ev_var 7) ea_nil)))) ea_nil))))))))
    (run_frz 3 (run_frz 4 (run_ret ((en_lst (ea_cons (ev_var 3) (ea_cons (ev_var 4) ea_nil)))).d)))))))
  have bi : Binds K.fr fd ["sign", "left", "right"] [] := F.binds fun _ _ _ _ _ _ us hl => match us, hl with | [_, _, _], _ => rfl
  exact ⟨f, fd, ["sign", "left", "right"], key, hm, F.kp, bi⟩
abbrev s__law_rests : Stmt := topS 36
theorem sc__law_rests : FnScope ["right", "ends"] ["right"] (defScope s__law_rests) := ⟨rfl, rfl, rfl, by decide +kernel, rfl, by decide +kernel, by decide +kernel⟩
def b__law_rests : Sls → Option Fl :=
    (sSeq (sSet 1 (dApp gLst dNil))
    (sSeq (sIf (dTest (dOp gLt (dOp gIx (dView 0) (dC (.int 0))) (dC (.int 0)))) (sSet 1 (dOp gAddL (dView 1) (dApp gLst (dCons (dOp gAdd (dOp gIx (dView 0) (dC (.int 0))) (dC (.int 1))) (dCons (dC (.int 0)) dNil))))) sNext)
    (sSeq (sIf (dTest (dOp gGt (dOp gIx (dView 0) (dC (.int 1))) (dC (.int 0)))) (sSet 1 (dOp gAddL (dView 1) (dApp gLst (dCons (dC (.int 0)) (dCons (dOp gSub (dOp gIx (dView 0) (dC (.int 1))) (dC (.int 1))) dNil))))) sNext)
    (sRet (dVar 1)))))
def m__law_rests : List D → Option D := fnD 2 1 b__law_rests
theorem ok__law_rests {P : Program} {w : World} {K : Kx} {mg : Str → Option Value} {base : Heap} {f : Addr} {fd : FuncData} (bl : Bl mg) (F : Fun K.fr "_law_rests" "_law_rests" s__law_rests f fd) (hm : mg "_law_rests" = some (.ref f)) : CalG P w K.fr mg base 1 "_law_rests" (spD K m__law_rests) := by
  have nd := sc__law_rests.nd
  have key : FnG P w K.fr mg base 1 f fd ["right"] (spD K (fnD (["right", "ends"] : List Str).length (["right"] : List Str).length b__law_rests)) := by
    apply fnG_of (k := 0) (b := b__law_rests) F sc__law_rests
    intro cdv A outer s H E hr hgd
    refine ⟨_, (pss_cons (ps_set (i := 1) nd rfl (.inl rfl) (pe_lst pa_nil))
    (pss_cons (ps_if (pt_cmpR op_lt (pe_ix (ix_seqK (K := K.fr) rfl) (pv 0) pe_int (fun _ _ => rfl)) pe_int (nomark _)) (pss_one (ps_set (i := 1) nd rfl (.inl rfl) (pe_op (op_addK (K := K.fr) rfl) (pv 1) (pe_lst (pa_cons (pe_op (op_addK (K := K.fr) rfl) (pe_ix (ix_seqK (K := K.fr) rfl) (pv 0) pe_int (fun _ _ => rfl)) pe_int) (pa_cons pe_int pa_nil)))))) pss_nil)
    (pss_cons (ps_if (pt_cmpR op_gt (pe_ix (ix_seqK (K := K.fr) rfl) (pv 0) pe_int (fun _ _ => rfl)) pe_int (nomark _)) (pss_one (ps_set (i := 1) nd rfl (.inl rfl) (pe_op (op_addK (K := K.fr) rfl) (pv 1) (pe_lst (pa_cons pe_int (pa_cons (pe_op op_sub (pe_ix (ix_seqK (K := K.fr) rfl) (pv 0) pe_int (fun _ _ => rfl)) pe_int) pa_nil)))))) pss_nil)
    (pss_one (ps_ret (pv 1)))))), ?_⟩
    exact (run_seq (run_set 1 ((en_lst ea_nil)).d)
    (run_seq (run_if (et_val (ev_op os_lt ((ev_op os_ix (vv_var 0) (ev_int).v)).v (ev_int).v)) (run_set 1 ((en_add (vv_var 1) ((en_lst (ea_cons (ev_op os_add ((ev_op os_ix (vv_var 0) (ev_int).v)).v (ev_int).v) (ea_cons ev_int ea_nil)))).v)).d) run_next)
    (run_seq (run_if (et_val (ev_op os_gt ((ev_op os_ix (vv_var 0) (ev_int).v)).v (ev_int).v)) (run_set 1 ((en_add (vv_var 1) ((en_lst (ea_cons ev_int (ea_cons (ev_op os_sub ((ev_op os_ix (vv_var 0) (ev_int).v)).v (ev_int).v) ea_nil)))).v)).d) run_next)
    (run_ret (ev_var 1)))))
  have bi : Binds K.fr fd ["right"] [] := F.binds fun _ _ _ _ _ _ us hl => match us, hl with | [_], _ => rfl
  exact ⟨f, fd, ["right"], key, hm, F.kp, bi⟩
abbrev s__law_due : Stmt := topS 37
theorem sc__law_due : FnScope ["ends", "faults", "found", "span", "fault"] ["ends", "faults"] (defScope s__law_due) := ⟨rfl, rfl, rfl, by decide +kernel, rfl, by decide +kernel, by decide +kernel⟩
def b__law_due : Sls → Option Fl :=
    (sSeq (sSetN 2 (dApp gListC (dCons (dView 1) dNil)))
    (sSeq (sSet 3 (dApp gTup (dCons (dC .none) (dCons (dC .none) (dCons (dC (.int 0)) (dCons (dApp gTup dNil) dNil))))))
    (sSeq (sIf (dTest (dOp gGt (dApp gLen (dCons (dView 0) dNil)) (dC (.int 0)))) (sSeq (sIf (dOr (dTest (dOp gLt (dApp gMinL (dCons (dView 0) dNil)) (dUn gNeg (dC (.int 999999999))))) (dTest (dOp gGt (dApp gMaxL (dCons (dView 0) dNil)) (dC (.int 999999999))))) (sAppend 2 (dCons (dC (.str "big")) dNil)) sNext)
    (sIf (dAnd (dTest (dOp gLe (dApp gMinL (dCons (dView 0) dNil)) (dC (.int 999999999)))) (dTest (dOp gGe (dApp gMaxL (dCons (dView 0) dNil)) (dUn gNeg (dC (.int 999999999)))))) (sSet 3 (dApp gTup (dCons (dApp gMax2 (dCons (dApp gMinL (dCons (dView 0) dNil)) (dCons (dUn gNeg (dC (.int 999999999))) dNil))) (dCons (dApp gMin2 (dCons (dApp gMaxL (dCons (dView 0) dNil)) (dCons (dC (.int 999999999)) dNil))) (dCons (dC (.int 0)) (dCons (dApp gTup dNil) dNil)))))) sNext)) sNext)
    (frz 2 (sRet (dApp gTup (dCons (dVar 3) (dCons (dApp gTuple (dCons (dLc (iLst (dApp gLst (dCons (dC (.str "big")) (dCons (dC (.str "kind")) (dCons (dC (.str "zero")) dNil))))) (tgName 4) (dTest (dOp (gInA false) (dView 4) (dView 2))) (dVar 4) [4]) dNil)) dNil))))))))
def m__law_due : List D → Option D := fnD 5 2 b__law_due
theorem ok__law_due {P : Program} {w : World} {K : Kx} {mg : Str → Option Value} {base : Heap} {f : Addr} {fd : FuncData} (bl : Bl mg) (F : Fun K.fr "_law_due" "_law_due" s__law_due f fd) (hm : mg "_law_due" = some (.ref f)) : CalG P w K.fr mg base 1 "_law_due" (spD K m__law_due) := by
  have nd := sc__law_due.nd
  have key : FnG P w K.fr mg base 1 f fd ["ends", "faults"] (spD K (fnD (["ends", "faults", "found", "span", "fault"] : List Str).length (["ends", "faults"] : List Str).length b__law_due)) := by
    apply fnG_of (k := 0) (b := b__law_due) F sc__law_due
    intro cdv A outer s H E hr hgd
    refine ⟨_, (pss_cons (ps_set (i := 2) nd rfl (.inr rfl) (pe_callTy (call_listK (K := K.fr) rfl) (by rfl) bl.list (by decide +kernel) (pa_cons (pv 1) pa_nil)))
    (pss_cons (ps_set (i := 3) nd rfl (.inl rfl) (pe_tup (pa_cons pe_non (pa_cons pe_non (pa_cons pe_int (pa_cons (pe_tup pa_nil) pa_nil))))))
    (pss_cons (ps_if (pt_cmpR op_gt (pe_callB (call_lenK (K := K.fr) rfl) (by rfl) bl.len (by decide +kernel) (pa_cons (pv 0) pa_nil)) pe_int (nomark _)) (pss_cons (ps_if (PW.pt (pw_or (pt_cmpR op_lt (pe_callB (cr_minLK (K := K.fr) rfl rfl) (by rfl) bl.min (by decide +kernel) (pa_cons (pv 0) pa_nil)) (pe_un un_neg pe_int) (nomark _)) (pw_or1 (pt_cmpR op_gt (pe_callB (cr_maxLK (K := K.fr) rfl rfl) (by rfl) bl.max (by decide +kernel) (pa_cons (pv 0) pa_nil)) pe_int (nomark _))))) (pss_one (ps_expr (pe_bm PySem.F.plainAttrs_list PySem.F.slot_list_append PySem.F.type_list_append mt_append (pv 2) (pa_cons pe_str pa_nil)))) pss_nil)
    (pss_one (ps_if (PW.pt (pw_and (pt_cmpR op_le (pe_callB (cr_minLK (K := K.fr) rfl rfl) (by rfl) bl.min (by decide +kernel) (pa_cons (pv 0) pa_nil)) pe_int (nomark _)) (pw_and1 (pt_cmpR op_ge (pe_callB (cr_maxLK (K := K.fr) rfl rfl) (by rfl) bl.max (by decide +kernel) (pa_cons (pv 0) pa_nil)) (pe_un un_neg pe_int) (nomark _))))) (pss_one (ps_set (i := 3) nd rfl (.inl rfl) (pe_tup (pa_cons (pe_callB (call_max2 rfl) (by rfl) bl.max (by decide +kernel) (pa_cons (pe_callB (cr_minLK (K := K.fr) rfl rfl) (by rfl) bl.min (by decide +kernel) (pa_cons (pv 0) pa_nil)) (pa_cons (pe_un un_neg pe_int) pa_nil))) (pa_cons (pe_callB (call_min2 rfl) (by rfl) bl.min (by decide +kernel) (pa_cons (pe_callB (cr_maxLK (K := K.fr) rfl rfl) (by rfl) bl.max (by decide +kernel) (pa_cons (pv 0) pa_nil)) (pa_cons pe_int pa_nil))) (pa_cons pe_int (pa_cons (pe_tup pa_nil) pa_nil))))))) pss_nil))) pss_nil)
    (pss_one (ps_ret (pe_tup (pa_cons (pv 3) (pa_cons (pe_callTy (call_tupleK (K := K.fr) rfl) (by rfl) bl.tuple (by decide +kernel) (pa_cons (pe_lc (own := [("fault", 4)]) rfl nd (pi_listK (K := K.fr) rfl (pe_lst (pa_cons pe_str (pa_cons pe_str (pa_cons pe_str pa_nil))))) (blkOk_by (N := ["ends", "faults", "found", "span", "fault"]) (sc := defScope s__law_due) (by decide +kernel)) (fun _ _ _ _ _ => (pg_name (i := 4) nd rfl (.inl rfl))) (fun _ _ _ _ _ => (pts_one (pt_cmpR (op_inK (K := K.fr) rfl (hu65 hr)) (pv 4) (pv 2) rfl))) (fun _ _ _ _ _ => (pv 4))) pa_nil)) pa_nil)))))))), ?_⟩
    exact (run_seq (run_setN 2 (en_cb cs_list (ew_cons (vv_var 1) ew_nil)))
    (run_seq (run_set 3 (ev_tup (ea_cons ev_non (ea_cons ev_non (ea_cons ev_int (ea_cons (ev_tup ea_nil) ea_nil))))))
    (run_seq (run_if (et_val (ev_op os_gt ((ev_cb cs_len (ew_cons (vv_var 0) ew_nil))).v (ev_int).v)) (run_seq (run_if (et_or (et_val (ev_op os_lt ((ev_cb cs_minL (ew_cons (vv_var 0) ew_nil))).v ((ev_un us_neg (ev_int).v)).v)) (et_val (ev_op os_gt ((ev_cb cs_maxL (ew_cons (vv_var 0) ew_nil))).v (ev_int).v))) (run_append 2 (ea_cons ev_str ea_nil)) run_next)
    (run_if (et_and (et_val (ev_op os_le ((ev_cb cs_minL (ew_cons (vv_var 0) ew_nil))).v (ev_int).v)) (et_val (ev_op os_ge ((ev_cb cs_maxL (ew_cons (vv_var 0) ew_nil))).v ((ev_un us_neg (ev_int).v)).v))) (run_set 3 (ev_tup (ea_cons (ev_cb cs_max2 (ew_cons ((ev_cb cs_minL (ew_cons (vv_var 0) ew_nil))).v (ew_cons ((ev_un us_neg (ev_int).v)).v ew_nil))) (ea_cons (ev_cb cs_min2 (ew_cons ((ev_cb cs_maxL (ew_cons (vv_var 0) ew_nil))).v (ew_cons (ev_int).v ew_nil))) (ea_cons ev_int (ea_cons (ev_tup ea_nil) ea_nil)))))) run_next)) run_next)
    (run_frz 2 (run_ret (ev_tup (ea_cons (ev_var 3) (ea_cons (ev_cb cs_tuple (ew_cons ((en_lc (ec_list ((en_lst (ea_cons ev_str (ea_cons ev_str (ea_cons ev_str ea_nil))))).v) (eg_name 4) (et_val (ev_op (os_in (neg := false)) (vv_var 4) (vv_var 2))) (ev_var 4) (by decide))).v ew_nil)) ea_nil))))))))
  have bi : Binds K.fr fd ["ends", "faults"] [] := F.binds fun _ _ _ _ _ _ us hl => match us, hl with | [_, _], _ => rfl
  exact ⟨f, fd, ["ends", "faults"], key, hm, F.kp, bi⟩
abbrev s__law_combined : Stmt := topS 38
theorem sc__law_combined : FnScope ["sign", "left", "right", "results", "faults", "ends", "told", "result"] ["sign", "left", "right"] (defScope s__law_combined) := ⟨rfl, rfl, rfl, by decide +kernel, rfl, by decide +kernel, by decide +kernel⟩
def b__law_combined : Sls → Option Fl :=
    (sSeq (sAsg (tgLst 2 (tgCons (tgName 3) (tgCons (tgName 4) tgNil))) (dApp m__law_done (dCons (dVar 0) (dCons (dVar 1) (dCons (dVar 2) dNil)))))
    (sSeq (sSet 5 (dVar 3))
    (sSeq (sIf (dAnd (dTest (dOp gEq (dView 0) (dC (.str "mod")))) (dTest (dOp gGt (dApp gLen (dCons (dView 3) dNil)) (dC (.int 0))))) (sSet 5 (dApp m__law_rests (dCons (dVar 2) dNil))) sNext)
    (sSeq (sSet 6 (dApp m_combine_spans (dCons (dVar 0) (dCons (dVar 1) (dCons (dVar 2) dNil)))))
    (sSeq (sIf (dNot (dTest (dApp m__law_same (dCons (dVar 6) (dCons (dApp m__law_due (dCons (dVar 5) (dCons (dVar 4) dNil))) dNil))))) (sRet (dC (.bool false))) sNext)
    (sSeq (sFor (iLst (dVar 3)) (tgName 7) (sIf (dAnd (dTest (dChain gLe gLe (dUn gNeg (dC (.int 999999999))) (dView 7) (dC (.int 999999999)))) (dNot (dTest (dChain gLe gLe (dOp gIx (dOp gIx (dView 6) (dC (.int 0))) (dC (.int 0))) (dView 7) (dOp gIx (dOp gIx (dView 6) (dC (.int 0))) (dC (.int 1))))))) (sRet (dC (.bool false))) sNext))
    (sRet (dC (.bool true)))))))))
def m__law_combined : List D → Option D := fnD 8 3 b__law_combined
theorem ok__law_combined {P : Program} {w : World} {K : Kx} {mg : Str → Option Value} {base : Heap} {f : Addr} {fd : FuncData} (bl : Bl mg) (F : Fun K.fr "_law_combined" "_law_combined" s__law_combined f fd) (hm : mg "_law_combined" = some (.ref f)) (c_combine_spans : CalG P w K.fr mg base 4 "combine_spans" (spD K m_combine_spans)) (c__law_same : CalG P w K.fr mg base 1 "_law_same" (spD K m__law_same)) (c__law_done : CalG P w K.fr mg base 2 "_law_done" (spD K m__law_done)) (c__law_rests : CalG P w K.fr mg base 1 "_law_rests" (spD K m__law_rests)) (c__law_due : CalG P w K.fr mg base 1 "_law_due" (spD K m__law_due)) : CalG P w K.fr mg base 5 "_law_combined" (spD K m__law_combined) := by
  have nd := sc__law_combined.nd
  have key : FnG P w K.fr mg base 5 f fd ["sign", "left", "right"] (spD K (fnD (["sign", "left", "right", "results", "faults", "ends", "told", "result"] : List Str).length (["sign", "left", "right"] : List Str).length b__law_combined)) := by
    apply fnG_of (k := 4) (b := b__law_combined) F sc__law_combined
    intro cdv A outer s H E hr hgd
    refine ⟨_, (pss_cons (ps_asg (pe_cg c__law_done hr (by decide) hgd rfl (pa_cons (pv 0) (pa_cons (pv 1) (pa_cons (pv 2) pa_nil)))) (pg_lstK (K := K.fr) rfl rfl (pgs_cons (pg_name (i := 3) nd rfl (.inl rfl)) (pgs_cons (pg_name (i := 4) nd rfl (.inl rfl)) pgs_nil))))
    (pss_cons (ps_set (i := 5) nd rfl (.inl rfl) (pv 3))
    (pss_cons (ps_if (PW.pt (pw_and (pt_cmpR (op_eqK (K := K.fr) rfl hr.units) (pv 0) pe_str (nomark _)) (pw_and1 (pt_cmpR op_gt (pe_callB (call_lenK (K := K.fr) rfl) (by rfl) bl.len (by decide +kernel) (pa_cons (pv 3) pa_nil)) pe_int (nomark _))))) (pss_one (ps_set (i := 5) nd rfl (.inl rfl) (pe_cg c__law_rests hr (by decide) hgd rfl (pa_cons (pv 2) pa_nil)))) pss_nil)
    (pss_cons (ps_set (i := 6) nd rfl (.inl rfl) (pe_cg c_combine_spans hr (by decide) hgd rfl (pa_cons (pv 0) (pa_cons (pv 1) (pa_cons (pv 2) pa_nil)))))
    (pss_cons (ps_if (pt_not (pt_val (pe_cg c__law_same hr (by decide) hgd rfl (pa_cons (pv 6) (pa_cons (pe_cg c__law_due hr (by decide) hgd rfl (pa_cons (pv 5) (pa_cons (pv 4) pa_nil))) pa_nil))))) (pss_one (ps_ret pe_bl)) pss_nil)
    (pss_cons (ps_for PassesOwn.never rfl (pi_listK (K := K.fr) rfl (pv 3)) (pg_name (i := 7) nd rfl (.inl rfl)) (pss_one (ps_if (PW.pt (pw_and (pt_chain op_le op_le (pe_un un_neg pe_int) (pv 7) pe_int) (pw_and1 (pt_not (pt_chain op_le op_le (pe_ix (ix_seqK (K := K.fr) rfl) (pe_ix (ix_seqK (K := K.fr) rfl) (pv 6) pe_int (fun _ _ => rfl)) pe_int (fun _ _ => rfl)) (pv 7) (pe_ix (ix_seqK (K := K.fr) rfl) (pe_ix (ix_seqK (K := K.fr) rfl) (pv 6) pe_int (fun _ _ => rfl)) pe_int (fun _ _ => rfl))))))) (pss_one (ps_ret pe_bl)) pss_nil)))
    (pss_one (ps_ret pe_bl)))))))), ?_⟩
    exact (run_seq (run_asg (ev_call (ea_cons (ev_var 0) (ea_cons (ev_var 1) (ea_cons (ev_var 2) ea_nil)))) (eg_lst (egs_cons (eg_name 3) (egs_cons (eg_name 4) egs_nil))))
    (run_seq (run_set 5 (ev_var 3))
    (run_seq (run_if (et_and (et_val (ev_op os_eq (vv_var 0) (ev_str).v)) (et_val (ev_op os_gt ((ev_cb cs_len (ew_cons (vv_var 3) ew_nil))).v (ev_int).v))) (run_set 5 (ev_call (ea_cons (ev_var 2) ea_nil))) run_next)
    (run_seq (run_set 6 (ev_call (ea_cons (ev_var 0) (ea_cons (ev_var 1) (ea_cons (ev_var 2) ea_nil)))))
    (run_seq (run_if (et_not (et_B (ev_call (ea_cons (ev_var 6) (ea_cons (ev_call (ea_cons (ev_var 5) (ea_cons (ev_var 4) ea_nil))) ea_nil))))) (run_ret ev_bl) run_next)
    (run_seq (run_for (ei_list (ev_var 3)) (eg_name 7) (run_if (et_and (et_val (ev_chain os_le os_le ((ev_un us_neg (ev_int).v)).v (vv_var 7) (ev_int).v)) (et_not (et_val (ev_chain os_le os_le ((ev_op os_ix ((ev_op os_ix (vv_var 6) (ev_int).v)).v (ev_int).v)).v (vv_var 7) ((ev_op os_ix ((ev_op os_ix (vv_var 6) (ev_int).v)).v (ev_int).v)).v)))) (run_ret ev_bl) run_next))
    (run_ret ev_bl)))))))
  have bi : Binds K.fr fd ["sign", "left", "right"] [] := F.binds fun _ _ _ _ _ _ us hl => match us, hl with | [_, _, _], _ => rfl
  exact ⟨f, fd, ["sign", "left", "right"], key, hm, F.kp, bi⟩
abbrev s__law_negated : Stmt := topS 39
theorem sc__law_negated : FnScope ["span", "values", "numbers", "value", "due", "number"] ["span"] (defScope s__law_negated) := ⟨rfl, rfl, rfl, by decide +kernel, rfl, by decide +kernel, by decide +kernel⟩
def b__law_negated : Sls → Option Fl :=
    (sSeq (sSet 1 (dApp m__law_values (dCons (dVar 0) (dCons (dVar 0) dNil))))
    (sSeq (sSet 2 (dLc (iLst (dView 1)) (tgName 3) (dTest (dApp m__law_is_integer (dCons (dVar 3) dNil))) (dVar 3) [3]))
    (sSeq (sSet 4 (dApp m__law_due (dCons (dLc (iLst (dView 2)) (tgName 5) (fun _ => some true) (dUn gNeg (dView 5)) [5]) (dCons (dLc (iLst (dView 1)) (tgName 3) (dNot (dTest (dApp m__law_is_integer (dCons (dVar 3) dNil)))) (dC (.str "kind")) [3]) dNil))))
    (sRet (dApp m__law_same (dCons (dApp m_negate_span (dCons (dVar 0) dNil)) (dCons (dVar 4) dNil)))))))
def m__law_negated : List D → Option D := fnD 6 1 b__law_negated
theorem ok__law_negated {P : Program} {w : World} {K : Kx} {mg : Str → Option Value} {base : Heap} {f : Addr} {fd : FuncData} (bl : Bl mg) (F : Fun K.fr "_law_negated" "_law_negated" s__law_negated f fd) (hm : mg "_law_negated" = some (.ref f)) (c_negate_span : CalG P w K.fr mg base 2 "negate_span" (spD K m_negate_span)) (c__law_is_integer : CalG P w K.fr mg base 1 "_law_is_integer" (spD K m__law_is_integer)) (c__law_same : CalG P w K.fr mg base 1 "_law_same" (spD K m__law_same)) (c__law_values : CalG P w K.fr mg base 1 "_law_values" (spD K m__law_values)) (c__law_due : CalG P w K.fr mg base 1 "_law_due" (spD K m__law_due)) : CalG P w K.fr mg base 3 "_law_negated" (spD K m__law_negated) := by
  have nd := sc__law_negated.nd
  have key : FnG P w K.fr mg base 3 f fd ["span"] (spD K (fnD (["span", "values", "numbers", "value", "due", "number"] : List Str).length (["span"] : List Str).length b__law_negated)) := by
    apply fnG_of (k := 2) (b := b__law_negated) F sc__law_negated
    intro cdv A outer s H E hr hgd
    refine ⟨_, (pss_cons (ps_set (i := 1) nd rfl (.inl rfl) (pe_cg c__law_values hr (by decide) hgd rfl (pa_cons (pv 0) (pa_cons (pv 0) pa_nil))))
    (pss_cons (ps_setLc (i := 2) (own := [("value", 3)]) rfl nd rfl rfl (sw_true rfl rfl rfl (by decide +kernel)) (pi_listK (K := K.fr) rfl (pv 1)) (blkOk_by (N := ["span", "values", "numbers", "value", "due", "number"]) (sc := defScope s__law_negated) (by decide +kernel)) (fun _ _ _ _ _ => (pg_name (i := 3) nd rfl (.inl rfl))) (fun _ _ _ _ _ => (pts_one (pt_val (pe_cg c__law_is_integer hr (by decide) hgd rfl (pa_cons (pv 3) pa_nil))))) (fun _ _ _ _ _ => (pv 3)))
    (pss_cons (ps_set (i := 4) nd rfl (.inl rfl) (pe_cg c__law_due hr (by decide) hgd rfl (pa_cons (pe_lc (own := [("number", 5)]) rfl nd (pi_listK (K := K.fr) rfl (pv 2)) (blkOk_by (N := ["span", "values", "numbers", "value", "due", "number"]) (sc := defScope s__law_negated) (by decide +kernel)) (fun _ _ _ _ _ => (pg_name (i := 5) nd rfl (.inl rfl))) (fun _ _ _ _ _ => pts_nil) (fun _ _ _ _ _ => (pe_un un_neg (pv 5)))) (pa_cons (pe_lc (own := [("value", 3)]) rfl nd (pi_listK (K := K.fr) rfl (pv 1)) (blkOk_by (N := ["span", "values", "numbers", "value", "due", "number"]) (sc := defScope s__law_negated) (by decide +kernel)) (fun _ _ _ _ _ => (pg_name (i := 3) nd rfl (.inl rfl))) (fun _ _ _ _ _ => (pts_one (pt_not (pt_val (pe_cg c__law_is_integer hr (by decide) hgd rfl (pa_cons (pv 3) pa_nil)))))) (fun _ _ _ _ _ => pe_str)) pa_nil))))
    (pss_one (ps_ret (pe_cg c__law_same hr (by decide) hgd rfl (pa_cons (pe_cg c_negate_span hr (by decide) hgd rfl (pa_cons (pv 0) pa_nil)) (pa_cons (pv 4) pa_nil)))))))), ?_⟩
    exact (run_seq (run_set 1 (ev_call (ea_cons (ev_var 0) (ea_cons (ev_var 0) ea_nil))))
    (run_seq (run_set 2 ((en_lc (ec_list (vv_var 1)) (eg_name 3) (et_B (ev_call (ea_cons (ev_var 3) ea_nil))) (ev_var 3) (by decide))).d)
    (run_seq (run_set 4 (ev_call (ea_cons ((en_lc (ec_list (vv_var 2)) (eg_name 5) et_yes (ev_un us_neg (vv_var 5)) (by decide))).d (ea_cons ((en_lc (ec_list (vv_var 1)) (eg_name 3) (et_not (et_B (ev_call (ea_cons (ev_var 3) ea_nil)))) ev_str (by decide))).d ea_nil))))
    (run_ret (ev_call (ea_cons (ev_call (ea_cons (ev_var 0) ea_nil)) (ea_cons (ev_var 4) ea_nil)))))))
  have bi : Binds K.fr fd ["span"] [] := F.binds fun _ _ _ _ _ _ us hl => match us, hl with | [_], _ => rfl
  exact ⟨f, fd, ["span"], key, hm, F.kp, bi⟩
abbrev s_law : Stmt := topS 40
theorem sc_law : FnScope ["script", "draws", "pool", "empty", "first", "second", "pairs", "left", "right", "sign", "span"] ["script"] (defScope s_law) := ⟨rfl, rfl, rfl, by decide +kernel, rfl, by decide +kernel, by decide +kernel⟩
def b_law : Sls → Option Fl :=
    (sSeq (sSet 1 (dApp m__law_draws (dCons (dApp m__law_cell (dCons (dVar 0) (dCons (dC (.int 0)) dNil))) (dCons (dC (.int 7)) dNil))))
    (sSeq (sSet 2 (dSl (dApp m__law_names (dCons (dOp gIx (dView 1) (dC (.int 0))) (dCons (dOp gIx (dView 1) (dC (.int 1))) dNil))) oNone (oSome (dC (.int 3)))))
    (sSeq (sSet 3 (dApp gTup (dCons (dC .none) (dCons (dC .none) (dCons (dC (.int 0)) (dCons (dApp gTup dNil) dNil))))))
    (sSeq (sSet 4 (dApp m__law_span (dCons (dApp m__law_draws (dCons (dApp m__law_cell (dCons (dVar 0) (dCons (dC (.int 1)) dNil))) (dCons (dC (.int 27)) dNil))) (dCons (dVar 2) (dCons (dVar 3) dNil)))))
    (sSeq (sSet 5 (dApp m__law_span (dCons (dApp m__law_draws (dCons (dApp m__law_cell (dCons (dVar 0) (dCons (dC (.int 2)) dNil))) (dCons (dC (.int 27)) dNil))) (dCons (dVar 2) (dCons (dVar 4) dNil)))))
    (sSeq (sSetN 6 (dApp gLst (dCons (dApp gTup (dCons (dVar 4) (dCons (dVar 5) dNil))) (dCons (dApp gTup (dCons (dVar 5) (dCons (dVar 4) dNil))) (dCons (dApp gTup (dCons (dVar 4) (dCons (dVar 4) dNil))) (dCons (dApp gTup (dCons (dVar 5) (dCons (dVar 5) dNil))) (dCons (dApp gTup (dCons (dVar 4) (dCons (dVar 3) dNil))) (dCons (dApp gTup (dCons (dVar 3) (dCons (dVar 4) dNil))) dNil))))))))
    (sSeq (sAppend 6 (dCons (dApp gTuple (dCons (dApp m__law_edges (dCons (dVar 1) dNil)) dNil)) dNil))
    (sSeq (frz 6 (sFor (iLst (dVar 6)) (tgTup 2 (tgCons (tgName 7) (tgCons (tgName 8) tgNil))) (sFor (iLst (dApp gLst (dCons (dC (.str "==")) (dCons (dC (.str "!=")) (dCons (dC (.str "<")) (dCons (dC (.str "<=")) (dCons (dC (.str ">")) (dCons (dC (.str ">=")) (dCons (dC (.str "+")) (dCons (dC (.str "-")) (dCons (dC (.str "*")) (dCons (dC (.str "/")) (dCons (dC (.str "mod")) dNil))))))))))))) (tgName 9) (sIf (dNot (dTest (dApp m__law_combined (dCons (dVar 9) (dCons (dVar 7) (dCons (dVar 8) dNil)))))) (sRet (dC (.bool false))) sNext))))
    (sSeq (sFor (iLst (dApp gLst (dCons (dVar 4) (dCons (dVar 5) (dCons (dVar 3) (dCons (dVar 4) dNil)))))) (tgName 10) (sIf (dNot (dTest (dApp m__law_negated (dCons (dVar 10) dNil)))) (sRet (dC (.bool false))) sNext))
    (sRet (dAndV (dApp m__law_combined (dCons (dC (.str "+")) (dCons (dVar 4) (dCons (dVar 5) dNil)))) (dApp m__law_combined (dCons (dC (.str "mod")) (dCons (dVar 5) (dCons (dVar 4) dNil)))))))))))))))
def m_law : List D → Option D := fnD 11 1 b_law
theorem fn_law {P : Program} {w : World} {K : Kx} {mg : Str → Option Value} {base : Heap} {f : Addr} {fd : FuncData} (bl : Bl mg) (F : Fun K.fr "law" "law" s_law f fd) (c__law_cell : CalG P w K.fr mg base 1 "_law_cell" (spD K m__law_cell)) (c__law_draws : CalG P w K.fr mg base 1 "_law_draws" (spD K m__law_draws)) (c__law_names : CalG P w K.fr mg base 1 "_law_names" (spD K m__law_names)) (c__law_span : CalG P w K.fr mg base 3 "_law_span" (spD K m__law_span)) (c__law_edges : CalG P w K.fr mg base 1 "_law_edges" (spD K m__law_edges)) (c__law_combined : CalG P w K.fr mg base 5 "_law_combined" (spD K m__law_combined)) (c__law_negated : CalG P w K.fr mg base 3 "_law_negated" (spD K m__law_negated)) : FnG P w K.fr mg base 6 f fd ["script"] (spD K m_law) := by
  have nd := sc_law.nd
  have key : FnG P w K.fr mg base 6 f fd ["script"] (spD K (fnD (["script", "draws", "pool", "empty", "first", "second", "pairs", "left", "right", "sign", "span"] : List Str).length (["script"] : List Str).length b_law)) := by
    apply fnG_of (k := 5) (b := b_law) F sc_law
    intro cdv A outer s H E hr hgd
    refine ⟨_, (pss_cons (ps_set (i := 1) nd rfl (.inl rfl) (pe_cg c__law_draws hr (by decide) hgd rfl (pa_cons (pe_cg c__law_cell hr (by decide) hgd rfl (pa_cons (pv 0) (pa_cons pe_int pa_nil))) (pa_cons pe_int pa_nil))))
    (pss_cons (ps_set (i := 2) nd rfl (.inl rfl) (pe_slice (sl_listK (K := K.fr) rfl) (pe_cg c__law_names hr (by decide) hgd rfl (pa_cons (pe_ix (ix_seqK (K := K.fr) rfl) (pv 1) pe_int (fun _ _ => rfl)) (pa_cons (pe_ix (ix_seqK (K := K.fr) rfl) (pv 1) pe_int (fun _ _ => rfl)) pa_nil))) po_none (po_some pe_int)))
    (pss_cons (ps_set (i := 3) nd rfl (.inl rfl) (pe_tup (pa_cons pe_non (pa_cons pe_non (pa_cons pe_int (pa_cons (pe_tup pa_nil) pa_nil))))))
    (pss_cons (ps_set (i := 4) nd rfl (.inl rfl) (pe_cg c__law_span hr (by decide) hgd rfl (pa_cons (pe_cg c__law_draws hr (by decide) hgd rfl (pa_cons (pe_cg c__law_cell hr (by decide) hgd rfl (pa_cons (pv 0) (pa_cons pe_int pa_nil))) (pa_cons pe_int pa_nil))) (pa_cons (pv 2) (pa_cons (pv 3) pa_nil)))))
    (pss_cons (ps_set (i := 5) nd rfl (.inl rfl) (pe_cg c__law_span hr (by decide) hgd rfl (pa_cons (pe_cg c__law_draws hr (by decide) hgd rfl (pa_cons (pe_cg c__law_cell hr (by decide) hgd rfl (pa_cons (pv 0) (pa_cons pe_int pa_nil))) (pa_cons pe_int pa_nil))) (pa_cons (pv 2) (pa_cons (pv 4) pa_nil)))))
    (pss_cons (ps_set (i := 6) nd rfl (.inl rfl) (pe_lst (pa_cons (pe_tup (pa_cons (pv 4) (pa_cons (pv 5) pa_nil))) (pa_cons (pe_tup (pa_cons (pv 5) (pa_cons (pv 4) pa_nil))) (pa_cons (pe_tup (pa_cons (pv 4) (pa_cons (pv 4) pa_nil))) (pa_cons (pe_tup (pa_cons (pv 5) (pa_cons (pv 5) pa_nil))) (pa_cons (pe_tup (pa_cons (pv 4) (pa_cons (pv 3) pa_nil))) (pa_cons (pe_tup (pa_cons (pv 3) (pa_cons (pv 4) pa_nil))) pa_nil))))))))
    (pss_cons (ps_expr (pe_bm PySem.F.plainAttrs_list PySem.F.slot_list_append PySem.F.type_list_append mt_append (pv 6) (pa_cons (pe_callTy (call_tupleK (K := K.fr) rfl) (by rfl) bl.tuple (by decide +kernel) (pa_cons (pe_cg c__law_edges hr (by decide) hgd rfl (pa_cons (pv 1) pa_nil)) pa_nil)) pa_nil)))
    (pss_cons (ps_for PassesOwn.never rfl (pi_listK (K := K.fr) rfl (pv 6)) (pg_tupK (K := K.fr) rfl rfl (pgs_cons (pg_name (i := 7) nd rfl (.inl rfl)) (pgs_cons (pg_name (i := 8) nd rfl (.inl rfl)) pgs_nil))) (pss_one (ps_for PassesOwn.never rfl (pi_listK (K := K.fr) rfl (pe_lst (pa_cons pe_str (pa_cons pe_str (pa_cons pe_str (pa_cons pe_str (pa_cons pe_str (pa_cons pe_str (pa_cons pe_str (pa_cons pe_str (pa_cons pe_str (pa_cons pe_str (pa_cons pe_str pa_nil))))))))))))) (pg_name (i := 9) nd rfl (.inl rfl)) (pss_one (ps_if (pt_not (pt_val (pe_cg c__law_combined hr (by decide) hgd rfl (pa_cons (pv 9) (pa_cons (pv 7) (pa_cons (pv 8) pa_nil)))))) (pss_one (ps_ret pe_bl)) pss_nil)))))
    (pss_cons (ps_for PassesOwn.never rfl (pi_listK (K := K.fr) rfl (pe_lst (pa_cons (pv 4) (pa_cons (pv 5) (pa_cons (pv 3) (pa_cons (pv 4) pa_nil)))))) (pg_name (i := 10) nd rfl (.inl rfl)) (pss_one (ps_if (pt_not (pt_val (pe_cg c__law_negated hr (by decide) hgd rfl (pa_cons (pv 10) pa_nil)))) (pss_one (ps_ret pe_bl)) pss_nil)))
    (pss_one (ps_ret (pe_and (pe_cg c__law_combined hr (by decide) hgd rfl (pa_cons pe_str (pa_cons (pv 4) (pa_cons (pv 5) pa_nil)))) (pe_one (pe_cg c__law_combined hr (by decide) hgd rfl (pa_cons pe_str (pa_cons (pv 5) (pa_cons (pv 4) pa_nil))))))))))))))))), ?_⟩
    exact (run_seq (run_set 1 (ev_call (ea_cons (ev_call (ea_cons (ev_var 0) (ea_cons ev_int ea_nil))) (ea_cons ev_int ea_nil))))
    (run_seq (run_set 2 ((en_sl ((ev_call (ea_cons (ev_op os_ix (vv_var 1) (ev_int).v) (ea_cons (ev_op os_ix (vv_var 1) (ev_int).v) ea_nil)))).v eo_none (eo_some ev_int))).d)
    (run_seq (run_set 3 (ev_tup (ea_cons ev_non (ea_cons ev_non (ea_cons ev_int (ea_cons (ev_tup ea_nil) ea_nil))))))
    (run_seq (run_set 4 (ev_call (ea_cons (ev_call (ea_cons (ev_call (ea_cons (ev_var 0) (ea_cons ev_int ea_nil))) (ea_cons ev_int ea_nil))) (ea_cons (ev_var 2) (ea_cons (ev_var 3) ea_nil)))))
    (run_seq (run_set 5 (ev_call (ea_cons (ev_call (ea_cons (ev_call (ea_cons (ev_var 0) (ea_cons ev_int ea_nil))) (ea_cons ev_int ea_nil))) (ea_cons (ev_var 2) (ea_cons (ev_var 4) ea_nil)))))
    (run_seq (run_setN 6 (en_lst (ea_cons (ev_tup (ea_cons (ev_var 4) (ea_cons (ev_var 5) ea_nil))) (ea_cons (ev_tup (ea_cons (ev_var 5) (ea_cons (ev_var 4) ea_nil))) (ea_cons (ev_tup (ea_cons (ev_var 4) (ea_cons (ev_var 4) ea_nil))) (ea_cons (ev_tup (ea_cons (ev_var 5) (ea_cons (ev_var 5) ea_nil))) (ea_cons (ev_tup (ea_cons (ev_var 4) (ea_cons (ev_var 3) ea_nil))) (ea_cons (ev_tup (ea_cons (ev_var 3) (ea_cons (ev_var 4) ea_nil))) ea_nil))))))))
    (run_seq (run_append 6 (ea_cons (ev_cb cs_tuple (ew_cons ((ev_call (ea_cons (ev_var 1) ea_nil))).v ew_nil)) ea_nil))
    (run_seq (run_frz 6 (run_for (ei_list (ev_var 6)) (eg_tup (egs_cons (eg_name 7) (egs_cons (eg_name 8) egs_nil))) (run_for (ei_list ((en_lst (ea_cons ev_str (ea_cons ev_str (ea_cons ev_str (ea_cons ev_str (ea_cons ev_str (ea_cons ev_str (ea_cons ev_str (ea_cons ev_str (ea_cons ev_str (ea_cons ev_str (ea_cons ev_str ea_nil))))))))))))).d) (eg_name 9) (run_if (et_not (et_B (ev_call (ea_cons (ev_var 9) (ea_cons (ev_var 7) (ea_cons (ev_var 8) ea_nil)))))) (run_ret ev_bl) run_next))))
    (run_seq (run_for (ei_list ((en_lst (ea_cons (ev_var 4) (ea_cons (ev_var 5) (ea_cons (ev_var 3) (ea_cons (ev_var 4) ea_nil)))))).d) (eg_name 10) (run_if (et_not (et_B (ev_call (ea_cons (ev_var 10) ea_nil)))) (run_ret ev_bl) run_next))
    (run_ret (ev_andV (ev_call (ea_cons ev_str (ea_cons (ev_var 4) (ea_cons (ev_var 5) ea_nil)))) (ev_call (ea_cons ev_str (ea_cons (ev_var 5) (ea_cons (ev_var 4) ea_nil)))))))))))))))
  exact key
end K54
end

namespace K54
open PySem PySem.Spec L2 G
/-! ### the data of the law -/
theorem atC0 {α : Type} (x : α) (r : List α) : L2.atI (x :: r) 0 = some x := by
  unfold L2.atI ixN
  rw [if_pos (by decide), if_pos (by rw [List.length_cons]; omega)]
  rfl
theorem atC1 {α : Type} (x y : α) (r : List α) : L2.atI (x :: y :: r) 1 = some y := by
  unfold L2.atI ixN
  rw [if_pos (by decide), if_pos (by simp only [List.length_cons]; omega)]
  rfl
theorem atC2 {α : Type} (x y z : α) (r : List α) : L2.atI (x :: y :: z :: r) 2 = some z := by
  unfold L2.atI ixN
  rw [if_pos (by decide), if_pos (by simp only [List.length_cons]; omega)]
  rfl
theorem atC3 {α : Type} (x y z u : α) (r : List α) : L2.atI (x :: y :: z :: u :: r) 3 = some u := by
  unfold L2.atI ixN
  rw [if_pos (by decide), if_pos (by simp only [List.length_cons]; omega)]
  rfl
def LG : Int := 999999999
def b2i (b : Bool) : Int := if b then 1 else 0
structure Sn where
  r : Option (Int × Int)
  n : Bool
  cs : List Str
def lowD : Option (Int × Int) → D
  | none => .none
  | some (l, _) => .int l
def highD : Option (Int × Int) → D
  | none => .none
  | some (_, h) => .int h
def Sn.d (s : Sn) : D := .tuple [lowD s.r, highD s.r, .int (b2i s.n), .tuple (s.cs.map .str)]
def eS : Sn := ⟨none, false, []⟩
def nS (l h : Int) : Sn := ⟨some (l, h), false, []⟩
theorem eS_d : dEMPTY = eS.d := rfl
def pool : List Str := ["a", "a1", "b2", "bob", "a10", "a9", "door", "e", "fox", "g7", "hill", "ivy", "jam", "key", "lake", "moon", "nut", "oak", "pear", "quay", "rose", "sun", "tree", "urn", "vine", "well", "x", "yew", "zoe", "twelvesigns1"]
structure Wf (s : Sn) : Prop where
  r : ∀ l h, s.r = some (l, h) → -LG ≤ l ∧ l ≤ h ∧ h ≤ LG
  few : s.cs.length ≤ 3
  ok : ∀ x ∈ s.cs, x ∈ pool
/-! ### the leaves -/
theorem e_number_span (a b : Int) : m_number_span [.int a, .int b] = some (if b < a then eS else nS a b).d := by
  simp [m_number_span, b_number_span]
  split <;> rfl
theorem e_bits_span (a b : Bool) : m_bits_span [.bool a, .bool b] = some (if b2i b < 1 - b2i a then eS else nS (1 - b2i a) (b2i b)).d := by
  cases a <;> cases b <;> rfl
theorem e_has_numbers (s : Sn) : m_has_numbers [s.d] = some (.bool s.r.isSome) := by
  rcases s with ⟨_ | ⟨l, h⟩, n, cs⟩ <;> rfl
theorem strOk_pool : ∀ x ∈ pool, PyData.strOk x = true ∧ PyData.strOk (x ++ ".1") = true ∧ PyData.strOk (x ++ ".2") = true ∧ x.length ≤ 20 ∧ (x ++ ".1" : Str).length ≤ 20 ∧ (x ++ ".2" : Str).length ≤ 20 := by decide +kernel
theorem lay_strs : ∀ (cs : List Str), (∀ x ∈ cs, x ∈ pool) → PyData.canLayAll0 (cs.map PyData.str) = true
  | [], _ => rfl
  | x :: r, h => by
    rw [List.map_cons, PyData.canLayAll0, PyData.canLay0, (strOk_pool x (h x List.mem_cons_self)).1, lay_strs r fun y hy => h y (List.mem_cons_of_mem _ hy)]
    rfl
theorem depth_strs : ∀ (cs : List Str), PyData.depthAll (cs.map PyData.str) = 0
  | [] => rfl
  | x :: r => by
    rw [List.map_cons, PyData.depthAll, depth_strs r]
    rfl
theorem ok_strs : ∀ (cs : List Str), okDs (cs.map PyData.str) = true
  | [] => rfl
  | x :: r => by
    rw [List.map_cons, okDs, ok_strs r]
    rfl
theorem eqv_strs : ∀ (cs es : List Str), PyData.eqvAll (cs.map PyData.str) (es.map PyData.str) = (cs == es)
  | [], [] => rfl
  | [], _ :: _ => rfl
  | _ :: _, [] => rfl
  | x :: r, y :: t => by
    rw [List.map_cons, List.map_cons, PyData.eqvAll, PyData.eqv, eqv_strs r t]
    rfl
theorem fit_span {s : Sn} (h : ∀ x ∈ s.cs, x ∈ pool) : fitE s.d = true := by
  rcases s with ⟨_ | ⟨l, u⟩, n, cs⟩ <;>
    simp [Sn.d, lowD, highD, fitE, okD, okDs, ok_strs, SeqAt.shaped, PyData.canLay0, PyData.canLayAll0, PyData.depth, PyData.depthAll, depth_strs, lay_strs cs h]
theorem fit_names {cs : List Str} (h : ∀ x ∈ cs, x ∈ pool) : fitE (.tuple (cs.map .str)) = true := by
  simp [fitE, okD, ok_strs, SeqAt.shaped, PyData.canLay0, PyData.depth, depth_strs, lay_strs cs h]
instance : DecidableEq Sn := fun a b => by
  rcases a with ⟨r, n, c⟩
  rcases b with ⟨r', n', c'⟩
  rw [Sn.mk.injEq]
  infer_instance
theorem eqv_span (s t : Sn) : PyData.eqv s.d t.d = decide (s = t) := by
  rcases s with ⟨_ | ⟨l, u⟩, n, cs⟩ <;> rcases t with ⟨_ | ⟨l', u'⟩, n', cs'⟩ <;>
    cases n <;> cases n' <;> rw [Bool.eq_iff_iff] <;> simp [Sn.d, lowD, highD, PyData.eqv, PyData.eqvAll, eqv_strs, b2i, and_assoc]
theorem e_kind_faults {s : Sn} (w : Wf s) : m_kind_faults [s.d] = some (.list (if s.n = true ∨ s.cs ≠ [] then [.str "kind"] else [])) := by
  have f := fit_names w.ok
  have e : PyData.eqv (.tuple (s.cs.map .str)) (.tuple []) = (s.cs == []) := by
    rw [PyData.eqv]
    exact eqv_strs s.cs []
  rcases s with ⟨r, n, cs⟩
  simp only at f e
  cases n <;> cases cs <;>
    simp_all [m_kind_faults, b_kind_faults, Sn.d, atC2, atC3, b2i, y_eqI, gNe, show fitE (.tuple []) = true from rfl]

/-! ### the operators' leaves -/
def ordB (sign : Str) (x y : Int) : Bool := bif sign == "<" then decide (x < y) else bif sign == "<=" then decide (x ≤ y) else bif sign == ">" then decide (y < x) else decide (y ≤ x)
def signs : List Str := ["==", "!=", "<", "<=", ">", ">=", "+", "-", "*", "/", "mod"]
theorem ok_signs : ∀ x ∈ signs, PyData.strOk x = true := by decide +kernel
theorem eq_sign {x y : Str} (h : x ∈ signs) (k : y ∈ signs) : gEq (.str x) (.str y) = some (.bool (x == y)) := y_eqS (ok_signs x h) (ok_signs y k)
theorem in_sign {x : Str} {ys : List Str} (h : x ∈ signs) (k : ys.all (fun y => decide (y ∈ signs)) = true) : gInA false (.str x) (.tuple (ys.map .str)) = some (.bool (decide (x ∈ ys))) := by
  have ok : ∀ (zs : List Str), (∀ y ∈ zs, y ∈ signs) → PyData.canLayAll0 (zs.map PyData.str) = true := by
    intro zs
    induction zs with
    | nil => intro _; rfl
    | cons y r ih =>
      intro h
      rw [List.map_cons, PyData.canLayAll0, PyData.canLay0, ok_signs y (h y List.mem_cons_self), ih fun z hz => h z (List.mem_cons_of_mem _ hz)]
      rfl
  have k' : ∀ y ∈ ys, y ∈ signs := fun y hy => of_decide_eq_true (List.all_eq_true.mp k y hy)
  unfold gInA
  simp only
  rw [if_pos ⟨by simp [fitE, okD, SeqAt.shaped, PyData.canLay0, PyData.depth, ok_signs x h], ok_strs ys, ok ys k'⟩]
  simp only [Bool.false_eq_true, if_false, Option.some.injEq, PyData.bool.injEq]
  rw [List.any_map, Bool.eq_iff_iff, List.any_eq_true, decide_eq_true_eq]
  constructor
  · rintro ⟨z, hz, e⟩
    have e : (z == x) = true := by simpa [PyData.eqv] using e
    rw [← eq_of_beq e]
    exact hz
  · intro hz
    exact ⟨x, hz, by simp [PyData.eqv]⟩
theorem e_ordered {sign : Str} (h : sign ∈ signs) (x y : Int) : m_ordered [.str sign, .int x, .int y] = some (.int (b2i (ordB sign x y))) := by
  have e1 := eq_sign h (show ("<" : Str) ∈ signs by decide +kernel)
  have e2 := eq_sign h (show ("<=" : Str) ∈ signs by decide +kernel)
  have e3 := eq_sign h (show (">" : Str) ∈ signs by decide +kernel)
  unfold ordB
  revert e1 e2 e3
  generalize (sign == "<") = c1
  generalize (sign == "<=") = c2
  generalize (sign == ">") = c3
  intro e1 e2 e3
  cases c1 <;> cases c2 <;> cases c3 <;> simp [m_ordered, b_ordered, e1, e2, e3, b2i]
def oneB (s : Sn) : Bool := (match s.r with
  | none => s.n
  | some (l, h) => (l == h) && !s.n) && s.cs.isEmpty
theorem fitI (i : Int) : fitE (.int i) = true := rfl
theorem y_eqD {d e : D} (h1 : fitE d = true) (h2 : fitE e = true) : gEq d e = some (.bool (PyData.eqv d e)) := if_pos ⟨h1, h2⟩
theorem y_neD {d e : D} (h1 : fitE d = true) (h2 : fitE e = true) : gNe d e = some (.bool (!PyData.eqv d e)) := if_pos ⟨h1, h2⟩
theorem names_nil {cs : List Str} (h : ∀ x ∈ cs, x ∈ pool) : gEq (.tuple (cs.map .str)) (.tuple []) = some (.bool cs.isEmpty) := by
  rw [y_eqD (fit_names h) rfl, PyData.eqv]
  cases cs <;> rfl
theorem e_one {s : Sn} (w : Wf s) : m_has_one_value [s.d] = some (.bool (oneB s)) := by
  have f := names_nil w.ok
  have hn := e_has_numbers s
  have g0 : gEq .none .none = some (.bool true) := rfl
  rcases s with ⟨_ | ⟨l, h⟩, n, cs⟩
  · cases n <;> simp_all [m_has_one_value, b_has_one_value, Sn.d, lowD, highD, atC0, atC1, atC2, atC3, b2i, y_eqI, oneB]
  · by_cases hl : l = h <;> cases n <;> simp_all [m_has_one_value, b_has_one_value, Sn.d, lowD, highD, atC0, atC1, atC2, atC3, b2i, y_eqI, oneB]
/-- numbers that both hold -/
def meets (s t : Sn) : Bool := match s.r, t.r with
  | some (l, h), some (l', h') => decide ((if l' > l then l' else l) ≤ (if h' < h then h' else h))
  | _, _ => false
theorem in_names {x : Str} {es : List Str} (hx : x ∈ pool) (he : ∀ y ∈ es, y ∈ pool) : gInA false (.str x) (.tuple (es.map .str)) = some (.bool (decide (x ∈ es))) := by
  unfold gInA
  simp only
  rw [if_pos ⟨by simp [fitE, okD, SeqAt.shaped, PyData.canLay0, PyData.depth, (strOk_pool x hx).1], ok_strs es, lay_strs es he⟩]
  simp only [Bool.false_eq_true, if_false, Option.some.injEq, PyData.bool.injEq]
  rw [List.any_map, Bool.eq_iff_iff, List.any_eq_true, decide_eq_true_eq]
  constructor
  · rintro ⟨z, hz, e⟩
    have e : (z == x) = true := by simpa [PyData.eqv] using e
    rw [← eq_of_beq e]
    exact hz
  · intro hz
    exact ⟨x, hz, by simp [PyData.eqv]⟩
theorem fm_some {α β : Type} (f : α → β) : ∀ l : List α, l.filterMap (fun x => some (f x)) = l.map f
  | [] => rfl
  | x :: r => by rw [List.filterMap_cons, List.map_cons, fm_some f r]
theorem any_bools : ∀ (bs : List Bool), gAny [.list (bs.map .bool)] = some (.bool (bs.any id)) := by
  intro bs
  have e : blsD (bs.map PyData.bool) = some bs := by
    induction bs with
    | nil => rfl
    | cons b r ih =>
      show (blsD (r.map PyData.bool)).map (b :: ·) = _
      rw [ih]
      rfl
  show (blsD (bs.map PyData.bool)).map _ = _
  rw [e]
  rfl
theorem e_common {s t : Sn} (w : Wf s) (v : Wf t) : m_has_common [s.d, t.d] = some (.bool (meets s t || (s.n && t.n) || s.cs.any fun x => decide (x ∈ t.cs))) := by
  have hs := e_has_numbers s
  have ht := e_has_numbers t
  have key : lcL (tgName 2) (fun _ => some true) (dOp (gInA false) (dView 2) (dOp gIx (dView 1) (dC (.int 3)))) [.val s.d, .val t.d, .no] (s.cs.map .str) = some ((s.cs.map fun x => decide (x ∈ t.cs)).map PyData.bool) := by
    rw [lcL_of (fun d => match d with | .str x => some (.bool (decide (x ∈ t.cs))) | _ => none) fun y hy => ?_]
    · rw [List.filterMap_map, List.map_map]
      exact congrArg some (fm_some _ _)
    · obtain ⟨x, hx, rfl⟩ := List.mem_map.mp hy
      simp [Sn.d, atC3, in_names (w.ok x hx) v.ok]
  have any := any_bools (s.cs.map fun x => decide (x ∈ t.cs))
  rw [List.any_map] at any
  have few : s.cs.length ≤ 100000 := Nat.le_trans w.few (by decide)
  rcases s with ⟨_ | ⟨l, h⟩, n, cs⟩ <;> rcases t with ⟨_ | ⟨l', h'⟩, n', cs'⟩
  · cases n <;> cases n' <;> simp_all [m_has_common, b_has_common, Sn.d, lowD, highD, atC0, atC1, atC2, atC3, b2i, y_eqI, meets]
  · cases n <;> cases n' <;> simp_all [m_has_common, b_has_common, Sn.d, lowD, highD, atC0, atC1, atC2, atC3, b2i, y_eqI, meets]
  · cases n <;> cases n' <;> simp_all [m_has_common, b_has_common, Sn.d, lowD, highD, atC0, atC1, atC2, atC3, b2i, y_eqI, meets]
  · have hle : gLe (.int (if l' > l then l' else l)) (.int (if h' < h then h' else h)) = some (.bool (decide ((if l' > l then l' else l) ≤ (if h' < h then h' else h)))) := rfl
    have hm : meets ⟨some (l, h), n, cs⟩ ⟨some (l', h'), n', cs'⟩ = decide ((if l' > l then l' else l) ≤ (if h' < h then h' else h)) := rfl
    rw [hm]
    generalize decide ((if l' > l then l' else l) ≤ (if h' < h then h' else h)) = m at hle ⊢
    clear hm
    cases m <;> cases n <;> cases n' <;> simp_all [m_has_common, b_has_common, Sn.d, lowD, highD, atC0, atC1, atC2, atC3, b2i, y_eqI, -y_le]
/-! ### spans compared -/
def equalS (ne : Bool) (s t : Sn) : Sn :=
  let alike := meets s t || (s.n && t.n) || s.cs.any fun x => decide (x ∈ t.cs)
  let unlike := !decide (s = t) || !oneB s
  let a := if ne then alike else unlike
  let b := if ne then unlike else alike
  if b2i b < 1 - b2i a then eS else nS (1 - b2i a) (b2i b)
theorem e_equal {sign : Str} (hs : sign ∈ signs) {s t : Sn} (w : Wf s) (v : Wf t) : m_equal_span [.str sign, s.d, t.d] = some (equalS (!(sign == "==")) s t).d := by
  have e1 := eq_sign hs (show ("==" : Str) ∈ signs by decide +kernel)
  have e2 := e_common w v
  have e3 : gNe s.d t.d = some (.bool (!decide (s = t))) := by rw [y_neD (fit_span w.ok) (fit_span v.ok), eqv_span]
  have e4 := e_one w
  unfold equalS
  generalize (meets s t || (s.n && t.n) || s.cs.any fun x => decide (x ∈ t.cs)) = al at *
  generalize decide (s = t) = eq at *
  generalize oneB s = one at *
  generalize (sign == "==") = c1 at *
  cases c1 <;> cases al <;> cases eq <;> cases one <;> simp [m_equal_span, b_equal_span, e1, e2, e3, e4, e_bits_span, b2i]
def cmpS (sign : Str) (l h l' h' : Int) : Sn :=
  let x := b2i (ordB sign l h')
  let y := b2i (ordB sign h l')
  let p := if y < x then y else x
  let q := if y > x then y else x
  if q < p then eS else nS p q
theorem e_compared {sign : Str} (hs : sign ∈ signs) {s t : Sn} {l h l' h' : Int} (e : s.r = some (l, h)) (e' : t.r = some (l', h')) : m_compared_span [.str sign, s.d, t.d] = some (cmpS sign l h l' h').d := by
  have e1 := e_ordered hs l h'
  have e2 := e_ordered hs h l'
  rcases s with ⟨r, n, cs⟩
  rcases t with ⟨r', n', cs'⟩
  simp only at e e'
  subst e e'
  simp [m_compared_span, b_compared_span, Sn.d, lowD, highD, atC0, atC1, e1, e2, e_number_span, cmpS]
def remS (l h : Int) : Sn :=
  let p := if 0 < l + 1 then 0 else l + 1
  let q := if 0 > h - 1 then 0 else h - 1
  if q < p then eS else nS p q
theorem e_remainder {t : Sn} {l h : Int} (e : t.r = some (l, h)) : m_remainder_span [t.d] = some (remS l h).d := by
  rcases t with ⟨r, n, cs⟩
  simp only at e
  subst e
  simp [m_remainder_span, b_remainder_span, Sn.d, lowD, highD, atC0, atC1, e_number_span, remS]
def divsI (l h : Int) : List Int := (if l < 0 then [l, if -1 < h then -1 else h] else []) ++ (if 0 < h then [if 1 > l then 1 else l, h] else [])
theorem e_divisors {t : Sn} {l h : Int} (e : t.r = some (l, h)) : m_divisors [t.d] = some (.list ((divsI l h).map .int)) := by
  rcases t with ⟨r, n, cs⟩
  simp only at e
  subst e
  by_cases h1 : l < 0 <;> by_cases h2 : 0 < h <;> simp [m_divisors, b_divisors, Sn.d, lowD, highD, atC0, atC1, divsI, h1, h2]
end K54

namespace K54
open PySem PySem.Spec L2 G
theorem lc2L_of {gs gs1 : D → Sls → Option Sls} {ft ft1 : Sls → Option Bool} {fi1 : Sls → Option (List D)} {fe : Sls → Option D} {vs1 : List Nat} {sl : Sls} (q : D → List D) : ∀ {ds : List D}, (∀ x ∈ ds, ((gs x sl).bind fun s => (ft s).bind fun b => if b = true then (fi1 s).bind fun es => lcL gs1 ft1 fe (wipeS s vs1) es else some []) = some (q x)) → lc2L gs ft fi1 gs1 ft1 fe vs1 sl ds = some (ds.flatMap q)
  | [], _ => rfl
  | x :: xs, h => by
    rw [lc2L_step]
    have h1 := h x List.mem_cons_self
    have h2 := lc2L_of (gs := gs) (ft := ft) (fi1 := fi1) (gs1 := gs1) (ft1 := ft1) (fe := fe) (vs1 := vs1) (sl := sl) q (ds := xs) fun y hy => h y (List.mem_cons_of_mem _ hy)
    obtain ⟨s, e1, h1⟩ := bind_some h1
    obtain ⟨b, e2, h1⟩ := bind_some h1
    rw [e1, Option.bind_some, e2, Option.bind_some, h2]
    cases b with
    | true =>
      obtain ⟨es, e3, e4⟩ := bind_some (show ((fi1 s).bind fun es => lcL gs1 ft1 fe (wipeS s vs1) es) = some (q x) from h1)
      rw [if_pos rfl, e3, Option.bind_some, e4, List.flatMap_cons]
      rfl
    | false =>
      have e : q x = [] := (Option.some.inj (show some [] = some (q x) from h1)).symm
      rw [if_neg Bool.false_ne_true, List.flatMap_cons, e]
      rfl
theorem cut2 {a b c e : D} : cutD [a, b, c, e] none (some 2) = [a, b] := rfl
def quots (l h l' h' : Int) : List Int := [l, h].flatMap fun a => (divsI l' h').map fun b => a.fdiv b
theorem divs_ok {l h b : Int} (h1 : -LG ≤ l) (h2 : l ≤ h) (h3 : h ≤ LG) (hb : b ∈ divsI l h) : b ≠ 0 ∧ b.natAbs < 1073741824 ∧ l ≤ b ∧ b ≤ h := by
  unfold divsI at hb
  unfold LG at h1 h3
  by_cases h1 : l < 0 <;> by_cases h2 : 0 < h <;> simp only [h1, h2, if_true, if_false, List.append_nil, List.nil_append, List.cons_append, List.mem_cons, List.not_mem_nil, or_false] at hb
  · rcases hb with hb | hb | hb | hb <;> (try split at hb) <;> omega
  · rcases hb with hb | hb <;> (try split at hb) <;> omega
  · rcases hb with hb | hb <;> (try split at hb) <;> omega
def endI (sign : Str) (l h l' h' : Int) : List Int :=
  bif sign == "+" then [l + l', h + h'] else bif sign == "-" then [l - h', h - l'] else bif sign == "*" then [l * l', l * h', h * l', h * h'] else quots l h l' h'
theorem e_end {sign : Str} (hs : sign ∈ signs) {s t : Sn} (w : Wf s) (v : Wf t) {l h l' h' : Int} (e : s.r = some (l, h)) (e' : t.r = some (l', h')) : m_end_results [.str sign, s.d, t.d] = some (.list ((endI sign l h l' h').map .int)) := by
  have e1 := eq_sign hs (show ("+" : Str) ∈ signs by decide +kernel)
  have e2 := eq_sign hs (show ("-" : Str) ∈ signs by decide +kernel)
  have e3 := eq_sign hs (show ("*" : Str) ∈ signs by decide +kernel)
  have b := w.r l h e
  have b' := v.r l' h' e'
  have ed := e_divisors e'
  have sz : (divsI l' h').length ≤ 4 := by unfold divsI; by_cases h1 : l' < 0 <;> by_cases h2 : 0 < h' <;> simp [h1, h2]
  have cm : ∀ x y : Int, -LG ≤ x → x ≤ LG → CMulD x y := fun x y h1 h2 => .inl (by unfold LG at h1 h2; omega)
  have sD : t.d = .tuple [.int l', .int h', .int (b2i t.n), .tuple (t.cs.map .str)] := by rcases t with ⟨r, n, cs⟩; simp only at e'; subst e'; rfl
  have sS : s.d = .tuple [.int l, .int h, .int (b2i s.n), .tuple (s.cs.map .str)] := by rcases s with ⟨r, n, cs⟩; simp only at e; subst e; rfl
  have mul : lc2L (tgName 3) (fun _ => some true) (iTpl (dSlT (dView 2) oNone (oSome (dC (.int 2))))) (tgName 4) (fun _ => some true) (dOp gMul (dView 3) (dView 4)) [4] [.val (.str sign), .val s.d, .val t.d, .no, .no] [.int l, .int h] = some ([l * l', l * h', h * l', h * h'].map .int) := by
    rw [lc2L_of (fun d => match d with | .int a => [.int (a * l'), .int (a * h')] | _ => []) fun y hy => ?_]
    · rfl
    · simp only [List.mem_cons, List.not_mem_nil, or_false] at hy
      rcases hy with rfl | rfl <;> simp [sD, cut2, lcL_step, lcL, y_mul (cm _ _ b.1 (by omega)), y_mul (cm _ _ (by omega) b.2.2)]
  have div : lc2L (tgName 3) (fun _ => some true) (iLst (dApp m_divisors (dCons (dVar 2) dNil))) (tgName 4) (fun _ => some true) (dOp gDiv (dView 3) (dView 4)) [4] [.val (.str sign), .val s.d, .val t.d, .no, .no] [.int l, .int h] = some ((quots l h l' h').map .int) := by
    rw [lc2L_of (fun d => match d with | .int a => ((divsI l' h').map fun b => a.fdiv b).map .int | _ => []) fun y hy => ?_]
    · unfold quots
      simp
    · have inner : ∀ a : Int, lcL (tgName 4) (fun _ => some true) (dOp gDiv (dView 3) (dView 4)) [.val (.str sign), .val s.d, .val t.d, .val (.int a), .no] ((divsI l' h').map .int) = some (((divsI l' h').map fun b => a.fdiv b).map .int) := fun a => by
        rw [lcL_of (fun d => match d with | .int b => some (.int (a.fdiv b)) | _ => none) fun y hy => ?_]
        · rw [List.filterMap_map, List.map_map]
          exact congrArg some (fm_some _ _)
        · obtain ⟨x, hx, rfl⟩ := List.mem_map.mp hy
          have q := divs_ok b'.1 b'.2.1 b'.2.2 hx
          simp [y_div (show CDivD a x from ⟨q.1, q.2.1⟩)]
      simp only [List.mem_cons, List.not_mem_nil, or_false] at hy
      rcases hy with rfl | rfl
      · simpa [ed] using inner l
      · simpa [ed] using inner h
  have szq : (quots l h l' h').length ≤ 100000 := by
    unfold quots
    simp
    omega
  revert e1 e2 e3
  unfold endI
  generalize hp : (sign == "+") = c1
  generalize hm : (sign == "-") = c2
  generalize ht : (sign == "*") = c3
  intro e1 e2 e3
  rw [sS, sD] at mul div
  rw [sS, sD]
  cases c1
  · cases c2
    · cases c3
      · simp [m_end_results, b_end_results, e1, e2, e3, cut2, div, szq]
      · simp [m_end_results, b_end_results, e1, e2, e3, cut2, mul]
    · simp [m_end_results, b_end_results, e1, e2, e3, atC0, atC1]
  · simp [m_end_results, b_end_results, e1, e2, e3, atC0, atC1]

/-! ### combine -/
def sB : Str := "big"
def sK : Str := "kind"
def sZ : Str := "zero"
def kindB (s : Sn) : Bool := s.n || !s.cs.isEmpty
def fS (big kind zero : Bool) : List Str := (if big then [sB] else []) ++ ((if kind then [sK] else []) ++ (if zero then [sZ] else []))
def told (s : Sn) (big kind zero : Bool) : D := .tuple [s.d, .tuple ((fS big kind zero).map .str)]
def clip (lo hi : Int) : Sn := if (if LG < hi then LG else hi) < (if -LG > lo then -LG else lo) then eS else nS (if -LG > lo then -LG else lo) (if LG < hi then LG else hi)
def three (xs : List Str) : Prop := xs.all (fun x => decide (x ∈ (["big", "kind", "zero"] : List Str))) = true
instance (xs : List Str) : Decidable (three xs) := by unfold three; infer_instance
theorem faults_of (xs : List Str) : faultsD xs = fS (decide (sB ∈ xs)) (decide (sK ∈ xs)) (decide (sZ ∈ xs)) := by
  show List.filter (fun x => decide (x ∈ xs)) [sB, sK, sZ] = _
  unfold fS
  by_cases h1 : sB ∈ xs <;> by_cases h2 : sK ∈ xs <;> by_cases h3 : sZ ∈ xs <;> simp [List.filter_cons, h1, h2, h3]
theorem e_in_order {xs : List Str} (h : three xs) (hl : xs.length ≤ 60) :
    m_in_order [.list (xs.map .str)] = some (.tuple ((fS (decide (sB ∈ xs)) (decide (sK ∈ xs)) (decide (sZ ∈ xs))).map .str)) := by
  have e : gInOrder (.list (xs.map .str)) = some (.list ((faultsD xs).map .str)) := by
    show ((strsD (xs.map PyData.str)).bind _) = _
    rw [strsD_map, Option.bind_some, if_pos ⟨hl, h⟩]
  simp [m_in_order, b_in_order, e, faults_of]
def kd (s : Sn) : List Str := if kindB s then [sK] else []
theorem e_kf {s : Sn} (w : Wf s) : m_kind_faults [s.d] = some (.list ((kd s).map .str)) := by
  rw [e_kind_faults w]
  unfold kd kindB
  rcases s with ⟨r, n, cs⟩
  cases n <;> cases cs <;> rfl
theorem kd_facts (s t : Sn) : (kd s ++ kd t).length ≤ 2 ∧ three (kd s ++ kd t) ∧ ¬ sB ∈ kd s ++ kd t ∧ ¬ sZ ∈ kd s ++ kd t ∧ (sK ∈ kd s ++ kd t ↔ (kindB s || kindB t) = true) := by
  unfold kd
  cases kindB s <;> cases kindB t <;> exact ⟨by decide +kernel, by decide +kernel, by decide +kernel, by decide +kernel, by decide +kernel⟩
theorem in4 {F : List Str} {k : Bool} (h1 : F.length ≤ 2) (h2 : three F) (h3 : ¬ sB ∈ F) (h4 : ¬ sZ ∈ F) (h5 : sK ∈ F ↔ k = true) :
    m_in_order [.list (F.map .str)] = some (.tuple ((fS false k false).map .str)) ∧ m_in_order [.list (F.map .str ++ [.str sZ])] = some (.tuple ((fS false k true).map .str)) ∧
    m_in_order [.list (F.map .str ++ [.str sB])] = some (.tuple ((fS true k false).map .str)) ∧ m_in_order [.list (F.map .str ++ [.str sZ, .str sB])] = some (.tuple ((fS true k true).map .str)) := by
  have ex : ∀ ys : List Str, three ys → ys.length ≤ 2 → ((sB ∈ ys) = (sB ∈ ys)) → m_in_order [.list (F.map .str ++ ys.map .str)] = some (.tuple ((fS (decide (sB ∈ ys)) (k || decide (sK ∈ ys)) (decide (sZ ∈ ys))).map .str)) := fun ys t1 t2 _ => by
    have h := e_in_order (xs := F ++ ys) (by
      unfold three at *
      rw [List.all_append, h2, t1]
      rfl) (by rw [List.length_append]; omega)
    rw [List.map_append] at h
    rw [h]
    have d1 : decide (sB ∈ F ++ ys) = decide (sB ∈ ys) := by simp [h3]
    have d2 : decide (sZ ∈ F ++ ys) = decide (sZ ∈ ys) := by simp [h4]
    have d3 : decide (sK ∈ F ++ ys) = (k || decide (sK ∈ ys)) := by
      cases k <;> simp_all
    rw [d1, d2, d3]
  have z0 := ex [] (by decide +kernel) (by decide) rfl
  have z1 := ex [sZ] (by decide +kernel) (by decide) rfl
  have z2 := ex [sB] (by decide +kernel) (by decide) rfl
  have z3 := ex [sZ, sB] (by decide +kernel) (by decide) rfl
  have a : (sB = sZ) = False := by decide +kernel
  have b : (sZ = sB) = False := by decide +kernel
  have c : (sK = sZ) = False := by decide +kernel
  have d : (sK = sB) = False := by decide +kernel
  simp [a, b, c, d] at z0 z1 z2 z3
  exact ⟨z0, z1, z2, z3⟩
theorem empty_in {s t : Sn} (w : Wf s) (v : Wf t) : gInA false dEMPTY (.tuple [s.d, t.d]) = some (.bool (decide (s = eS) || decide (t = eS))) := by
  have f1 := fit_span w.ok
  have f2 := fit_span v.ok
  unfold gInA
  simp only
  simp only [fitE, Bool.and_eq_true, SeqAt.shaped] at f1 f2
  rw [if_pos ⟨by rw [eS_d]; exact fit_span (fun _ h => nomatch h), by simp [okDs, f1.1, f2.1], by simp [PyData.canLayAll0, f1.2.1, f2.2.1]⟩]
  simp only [Bool.false_eq_true, if_false, List.any_cons, List.any_nil, Bool.or_false]
  rw [eS_d, eqv_span, eqv_span]
end K54

namespace K54
open PySem PySem.Spec L2 G
def cmpB (sign : Str) : Bool := decide (sign ∈ (["<", "<=", ">", ">="] : List Str))
def eqB (sign : Str) : Bool := decide (sign ∈ (["==", "!="] : List Str))
def divB (sign : Str) : Bool := decide (sign ∈ (["/", "mod"] : List Str))
theorem sign_facts {sign : Str} (hs : sign ∈ signs) : gInA false (.str sign) (.tuple [.str "==", .str "!="]) = some (.bool (eqB sign)) ∧ gInA false (.str sign) dCOMPARISONS = some (.bool (cmpB sign)) ∧
    gInA false (.str sign) (.tuple [.str "/", .str "mod"]) = some (.bool (divB sign)) ∧ gEq (.str sign) (.str "mod") = some (.bool (sign == "mod")) :=
  ⟨in_sign hs (ys := ["==", "!="]) (by decide +kernel), in_sign hs (ys := ["<", "<=", ">", ">="]) (by decide +kernel), in_sign hs (ys := ["/", "mod"]) (by decide +kernel), eq_sign hs (by decide +kernel)⟩
section
variable {sign : Str} {s t : Sn} (hs : sign ∈ signs) (w : Wf s) (v : Wf t)
include hs w v
theorem c_empty (h : (decide (s = eS) || decide (t = eS)) = true) : m_combine_spans [.str sign, s.d, t.d] = some (told eS false false false) := by
  have e1 := empty_in w v
  rw [h] at e1
  simp [m_combine_spans, b_combine_spans, e1, told, fS]
  rfl
theorem c_eq (h : (decide (s = eS) || decide (t = eS)) = false) (q : eqB sign = true) : m_combine_spans [.str sign, s.d, t.d] = some (told (equalS (!(sign == "==")) s t) false false false) := by
  have e1 := empty_in w v
  have e2 := (sign_facts hs).1
  have e3 := e_equal hs w v
  rw [h] at e1
  rw [q] at e2
  simp [m_combine_spans, b_combine_spans, e1, e2, e3, told, fS]
theorem c_none (h : (decide (s = eS) || decide (t = eS)) = false) (q : eqB sign = false) (nn : s.r = none ∨ t.r = none) : m_combine_spans [.str sign, s.d, t.d] = some (told eS false (kindB s || kindB t) false) := by
  have e1 := empty_in w v
  have e2 := (sign_facts hs).1
  have e4 := e_kf w
  have e5 := e_kf v
  have n1 := e_has_numbers s
  have n2 := e_has_numbers t
  obtain ⟨k1, k2, k3, k4, k5⟩ := kd_facts s t
  have i := in4 k1 k2 k3 k4 k5
  rw [List.map_append] at i
  rw [h] at e1
  rw [q] at e2
  have sz : (kd s).length + (kd t).length ≤ 100000 := by rw [List.length_append] at k1; omega
  rcases nn with nn | nn
  · rw [nn] at n1
    simp [m_combine_spans, b_combine_spans, e1, e2, e4, e5, n1, n2, sz, i.1, told]
    rfl
  · rw [nn] at n2
    cases hr : s.r.isSome <;> rw [hr] at n1
    · simp [m_combine_spans, b_combine_spans, e1, e2, e4, e5, n1, n2, sz, i.1, told]
      rfl
    · simp [m_combine_spans, b_combine_spans, e1, e2, e4, e5, n1, n2, sz, i.1, told]
      rfl
variable {l h l' h' : Int} (e : s.r = some (l, h)) (e' : t.r = some (l', h'))
include e e'
theorem not_eS : (decide (s = eS) || decide (t = eS)) = false := by
  have : s ≠ eS := fun z => by rw [z] at e; cases e
  have : t ≠ eS := fun z => by rw [z] at e'; cases e'
  simp [*]
theorem c_cmp (q : eqB sign = false) (c : cmpB sign = true) : m_combine_spans [.str sign, s.d, t.d] = some (told (cmpS sign l h l' h') false (kindB s || kindB t) false) := by
  have e1 := empty_in w v
  rw [not_eS hs w v e e'] at e1
  obtain ⟨e2, e3, _, _⟩ := sign_facts hs
  have e4 := e_kf w
  have e5 := e_kf v
  have n1 := e_has_numbers s
  have n2 := e_has_numbers t
  obtain ⟨k1, k2, k3, k4, k5⟩ := kd_facts s t
  have i := in4 k1 k2 k3 k4 k5
  rw [List.map_append] at i
  rw [q] at e2
  rw [c] at e3
  rw [e] at n1
  rw [e'] at n2
  have e6 := e_compared hs e e'
  have sz : (kd s).length + (kd t).length ≤ 100000 := by rw [List.length_append] at k1; omega
  simp [m_combine_spans, b_combine_spans, e1, e2, e3, e4, e5, e6, n1, n2, sz, i.1, told]
end
end K54

namespace K54
open PySem PySem.Spec L2 G
theorem e_minL {R : List Int} (h : R ≠ []) : gMinL [.list (R.map .int)] = some (.int (leastI R)) := by
  unfold gMinL
  simp only [intsD_map]
  cases R with
  | nil => exact absurd rfl h
  | cons x r => rfl
theorem e_maxL {R : List Int} (h : R ≠ []) : gMaxL [.list (R.map .int)] = some (.int (greatI R)) := by
  unfold gMaxL
  simp only [intsD_map]
  cases R with
  | nil => exact absurd rfl h
  | cons x r => rfl
def zB (sign : Str) (l h : Int) : Bool := divB sign && (decide (l ≤ 0) && decide (0 ≤ h))
theorem pair_zero (l h : Int) : gEq (.tuple [.int l, .int h]) (.tuple [.int 0, .int 0]) = some (.bool (decide (l = 0 ∧ h = 0))) := by
  rw [y_eqD (by rfl) (by rfl)]
  simp [PyData.eqv, PyData.eqvAll, Bool.and_eq_true]
  rfl
section
variable {sign : Str} {s t : Sn} (hs : sign ∈ signs) (w : Wf s) (v : Wf t)
variable {l h l' h' : Int} (e : s.r = some (l, h)) (e' : t.r = some (l', h'))
include hs w v e e'
theorem c_zero (q : eqB sign = false) (c : cmpB sign = false) (d : divB sign = true) (z1 : l' = 0) (z2 : h' = 0) : m_combine_spans [.str sign, s.d, t.d] = some (told eS false (kindB s || kindB t) true) := by
  have e1 := empty_in w v
  rw [not_eS hs w v e e'] at e1
  obtain ⟨e2, e3, e6, _⟩ := sign_facts hs
  have e4 := e_kf w
  have e5 := e_kf v
  have n1 := e_has_numbers s
  have n2 := e_has_numbers t
  obtain ⟨k1, k2, k3, k4, k5⟩ := kd_facts s t
  have i := in4 k1 k2 k3 k4 k5
  rw [List.map_append] at i
  rw [q] at e2
  rw [c] at e3
  rw [d] at e6
  rw [e] at n1
  rw [e'] at n2
  have sz : (kd s).length + (kd t).length < 100000 := by rw [List.length_append] at k1; omega
  have sz' : (kd s).length + (kd t).length ≤ 100000 := by omega
  have sD : t.d = .tuple [.int l', .int h', .int (b2i t.n), .tuple (t.cs.map .str)] := by rcases t with ⟨r, n, cs⟩; simp only at e'; subst e'; rfl
  have i2 := i.2.1
  simp only [List.append_assoc] at i2
  rw [sD] at e1 e5 n2 ⊢
  subst z1 z2
  have pz := pair_zero 0 0
  simp [m_combine_spans, b_combine_spans, e1, e2, e3, e4, e5, e6, n1, n2, sz, sz', cut2, atC0, atC1, pz, told, show (("zero" : String) : Str) = sZ from rfl, i2]
  rfl
theorem c_mod (q : eqB sign = false) (c : cmpB sign = false) (d : divB sign = true) (m : (sign == "mod") = true) (nz : ¬ (l' = 0 ∧ h' = 0)) : m_combine_spans [.str sign, s.d, t.d] = some (told (remS l' h') false (kindB s || kindB t) (zB sign l' h')) := by
  have e1 := empty_in w v
  rw [not_eS hs w v e e'] at e1
  obtain ⟨e2, e3, e6, e7⟩ := sign_facts hs
  have e4 := e_kf w
  have e5 := e_kf v
  have n1 := e_has_numbers s
  have n2 := e_has_numbers t
  have er := e_remainder e'
  obtain ⟨k1, k2, k3, k4, k5⟩ := kd_facts s t
  have i := in4 k1 k2 k3 k4 k5
  rw [List.map_append] at i
  rw [q] at e2
  rw [c] at e3
  rw [d] at e6
  rw [m] at e7
  rw [e] at n1
  rw [e'] at n2
  have sz : (kd s).length + (kd t).length < 100000 := by rw [List.length_append] at k1; omega
  have sz' : (kd s).length + (kd t).length ≤ 100000 := by omega
  have sD : t.d = .tuple [.int l', .int h', .int (b2i t.n), .tuple (t.cs.map .str)] := by rcases t with ⟨r, n, cs⟩; simp only at e'; subst e'; rfl
  have i1 := i.1
  have i2 := i.2.1
  simp only [List.append_assoc] at i2
  have pz := pair_zero l' h'
  rw [decide_eq_false nz] at pz
  unfold zB
  rw [d]
  rw [sD] at e1 e5 n2 er ⊢
  by_cases a : l' ≤ 0
  · by_cases b : 0 ≤ h'
    · simp [m_combine_spans, b_combine_spans, e1, e2, e3, e4, e5, e6, e7, n1, n2, sz, sz', cut2, atC0, atC1, pz, told, show (("zero" : String) : Str) = sZ from rfl, i2, a, b, er]
    · simp [m_combine_spans, b_combine_spans, e1, e2, e3, e4, e5, e6, e7, n1, n2, sz, sz', cut2, atC0, atC1, pz, told, show (("zero" : String) : Str) = sZ from rfl, i1, a, b, er]
  · simp [m_combine_spans, b_combine_spans, e1, e2, e3, e4, e5, e6, e7, n1, n2, sz, sz', cut2, atC0, atC1, pz, told, show (("zero" : String) : Str) = sZ from rfl, i1, a, er]
theorem c_num (q : eqB sign = false) (c : cmpB sign = false) (m : (sign == "mod") = false) (nz : divB sign = true → ¬ (l' = 0 ∧ h' = 0)) (hR : endI sign l h l' h' ≠ []) :
    m_combine_spans [.str sign, s.d, t.d] = some (told (clip (leastI (endI sign l h l' h')) (greatI (endI sign l h l' h'))) (decide (leastI (endI sign l h l' h') < -LG) || decide (LG < greatI (endI sign l h l' h'))) (kindB s || kindB t) (zB sign l' h')) := by
  have e1 := empty_in w v
  rw [not_eS hs w v e e'] at e1
  obtain ⟨e2, e3, e6, e7⟩ := sign_facts hs
  have e4 := e_kf w
  have e5 := e_kf v
  have n1 := e_has_numbers s
  have n2 := e_has_numbers t
  have er := e_end hs w v e e'
  have x1 := e_minL hR
  have x2 := e_maxL hR
  generalize endI sign l h l' h' = R at *
  generalize leastI R = lo at *
  generalize greatI R = hi at *
  obtain ⟨k1, k2, k3, k4, k5⟩ := kd_facts s t
  have i := in4 k1 k2 k3 k4 k5
  rw [List.map_append] at i
  rw [q] at e2
  rw [c] at e3
  rw [m] at e7
  rw [e] at n1
  rw [e'] at n2
  have sz : (kd s).length + (kd t).length < 100000 := by rw [List.length_append] at k1; omega
  have sz' : (kd s).length + (kd t).length ≤ 100000 := by omega
  have sz2 : (kd s).length + ((kd t).length + 1) < 100000 := by rw [List.length_append] at k1; omega
  have sD : t.d = .tuple [.int l', .int h', .int (b2i t.n), .tuple (t.cs.map .str)] := by rcases t with ⟨r, n, cs⟩; simp only at e'; subst e'; rfl
  obtain ⟨i1, i2, i3, i4⟩ := i
  simp only [List.append_assoc] at i2 i3 i4
  have big : (decide (lo < -999999999) || decide (999999999 < hi)) = (decide (lo < -LG) || decide (LG < hi)) := rfl
  rw [← big]
  have cl : m_number_span [.int (if -999999999 > lo then -999999999 else lo), .int (if 999999999 < hi then 999999999 else hi)] = some (clip lo hi).d := by
    rw [e_number_span]
    rfl
  rw [sD] at e1 e5 n2 er ⊢
  have pz := pair_zero l' h'
  have zB' : zB sign l' h' = (divB sign && (decide (l' ≤ 0) && decide (0 ≤ h'))) := rfl
  rw [zB']
  generalize divB sign = d at *
  by_cases p1 : lo < -999999999 <;> by_cases p2 : 999999999 < hi <;> simp only [gt_iff_lt, p1, p2, if_true, if_false] at cl <;> cases d <;>
    first
    | (simp [m_combine_spans, b_combine_spans, e1, e2, e3, e4, e5, e6, e7, n1, n2, er, x1, x2, cl, sz, sz', sz2, i1, i2, i3, i4, p1, p2, told, show (("zero" : String) : Str) = sZ from rfl, show (("big" : String) : Str) = sB from rfl]; done)
    | (have nz' := nz rfl
       rw [decide_eq_false nz'] at pz
       by_cases a : l' ≤ 0 <;> by_cases b : 0 ≤ h' <;>
         simp [m_combine_spans, b_combine_spans, e1, e2, e3, e4, e5, e6, e7, n1, n2, er, x1, x2, cl, sz, sz', sz2, i1, i2, i3, i4, p1, p2, pz, a, b, cut2, atC0, atC1, told, show (("zero" : String) : Str) = sZ from rfl, show (("big" : String) : Str) = sB from rfl])
end
end K54

namespace K54
open PySem PySem.Spec L2 G
theorem e_negate {s : Sn} (w : Wf s) : m_negate_span [s.d] = some (match s.r with
  | none => told eS false (kindB s) false
  | some (l, h) => told (nS (-h) (-l)) false (kindB s) false) := by
  have e4 := e_kf w
  have n1 := e_has_numbers s
  have i : m_in_order [.list ((kd s).map .str)] = some (.tuple ((fS false (kindB s) false).map .str)) := by
    have k : three (kd s) ∧ (kd s).length ≤ 60 ∧ decide (sB ∈ kd s) = false ∧ decide (sZ ∈ kd s) = false ∧ decide (sK ∈ kd s) = kindB s := by
      unfold kd
      cases kindB s <;> decide +kernel
    rw [e_in_order k.1 k.2.1, k.2.2.1, k.2.2.2.1, k.2.2.2.2]
  rcases s with ⟨_ | ⟨l, h⟩, n, cs⟩
  · simp [m_negate_span, b_negate_span, e4, n1, i, told]
    rfl
  · have b := w.r l h rfl
    have ns : m_number_span [.int (-h), .int (-l)] = some (nS (-h) (-l)).d := by
      rw [e_number_span, if_neg (by omega)]
    have x0 : gIx (Sn.d ⟨some (l, h), n, cs⟩) (.int 0) = some (.int l) := rfl
    have x1 : gIx (Sn.d ⟨some (l, h), n, cs⟩) (.int 1) = some (.int h) := rfl
    simp [m_negate_span, b_negate_span, e4, n1, i, told, x0, x1, ns]
/-! ### the values of a span -/
def rangeI (l h : Int) : List Int := (List.range (h + 1 - l).toNat).map fun (i : Nat) => l + (i : Int)
def sidesI (t : Sn) : List Int := match t.r with
  | none => []
  | some (l, h) => [l, h]
def inB (l h x : Int) : Bool := decide (l ≤ x) && decide (x ≤ h)
def numsI (s t : Sn) : List Int := match s.r with
  | none => []
  | some (l, h) => (if h - l < 12 then rangeI l h else [l, l + 1, h - 1, h, -1, 0, 1] ++ sidesI t).filter (inB l h)
def namesV (cs : List Str) : List D := cs.flatMap fun x => [.str (x ++ ".1"), .str (x ++ ".2")]
def restV (s : Sn) : List D := (if s.n then [.none] else []) ++ namesV s.cs
def vals (s t : Sn) : List D := (numsI s t).map .int ++ restV s
theorem fm_filter (p : Int → Bool) : ∀ l : List Int, (l.map PyData.int).filterMap (fun d => match d with | .int x => if p x = true then some (PyData.int x) else none | _ => none) = (l.filter p).map .int
  | [] => rfl
  | x :: r => by
    rw [List.map_cons, List.filterMap_cons, List.filter_cons]
    cases h : p x <;> simp [h, fm_filter p r]
theorem lc_between {l h : Int} {sl : Sls} (i j k : Nat) (hi : ∀ d, (sl.set k (.val d))[i]? = some (.val (.int l))) (hj : ∀ d, (sl.set k (.val d))[j]? = some (.val (.int h))) (hk : k < sl.length) (xs : List Int) :
    lcL (tgName k) (dTest (dChain gLe gLe (dView i) (dView k) (dView j))) (dVar k) sl (xs.map .int) = some ((xs.filter (inB l h)).map .int) := by
  rw [← fm_filter]
  refine lcL_of _ fun y hy => ?_
  obtain ⟨x, hx, rfl⟩ := List.mem_map.mp hy
  have hkk : ∀ d, (sl.set k (.val d))[k]? = some (.val d) := fun d => List.getElem?_set_self hk
  by_cases p : l ≤ x <;> by_cases q : x ≤ h <;> simp [hi, hj, hkk, p, q, inB]
theorem rangeI_len {l h : Int} (b : h - l < 12) : (rangeI l h).length ≤ 12 := by
  unfold rangeI
  rw [List.length_map, List.length_range]
  omega
theorem rangeD_eq (l h : Int) : rangeD l (h + 1 - l).toNat = (rangeI l h).map PyData.int := by
  unfold rangeD rangeI
  rw [List.map_map]
  rfl
theorem lc_sides (t : Sn) (sl : Sls) (hk : 6 < sl.length) : lcL (tgName 6) (dTest (dOp gNotN (dView 6) (dC .none))) (dVar 6) sl [lowD t.r, highD t.r] = some ((sidesI t).map .int) := by
  have hkk : ∀ d, (sl.set 6 (.val d))[6]? = some (.val d) := fun d => List.getElem?_set_self hk
  rcases t with ⟨_ | ⟨l, h⟩, n, cs⟩ <;> simp [lcL, lowD, highD, sidesI, hkk]
theorem for_names (s t : D) (b d e f g : SV) : ∀ (cs : List Str) (acc : List D) (x : SV), (∀ x ∈ cs, x ∈ pool) → acc.length + 2 * cs.length ≤ 100000 →
    ∃ x', forL (tgName 8) (sSetN 2 (dOp gAddL (dView 2) (dApp G.gLst (dCons (dOp gAdd (dView 8) (dC (.str ".1"))) (dCons (dOp gAdd (dView 8) (dC (.str ".2"))) dNil)))))
      (cs.map .str) [.val s, .val t, .own (.list acc), b, d, e, f, g, x] = some (.nx [.val s, .val t, .own (.list (acc ++ namesV cs)), b, d, e, f, g, x'])
  | [], acc, x, _, _ => ⟨x, by simp [forL, namesV]⟩
  | c :: cs, acc, x, h, hl => by
    have hc := strOk_pool c (h c List.mem_cons_self)
    rw [List.length_cons] at hl
    obtain ⟨x', e'⟩ := for_names s t b d e f g cs (acc ++ [.str (c ++ ".1"), .str (c ++ ".2")]) (.val (.str c)) (fun y hy => h y (List.mem_cons_of_mem _ hy)) (by simp; omega)
    refine ⟨x', ?_⟩
    have l1 : c.length + (".1" : Str).length ≤ 100000 := Nat.le_trans (Nat.add_le_add_right hc.2.2.2.1 _) (by decide +kernel)
    have l2 : c.length + (".2" : Str).length ≤ 100000 := Nat.le_trans (Nat.add_le_add_right hc.2.2.2.1 _) (by decide +kernel)
    have l3 : acc.length + 2 ≤ 100000 := by omega
    have e2 : acc ++ namesV (c :: cs) = acc ++ [.str (c ++ ".1"), .str (c ++ ".2")] ++ namesV cs := by
      unfold namesV
      rw [List.flatMap_cons, List.append_assoc]
    rw [e2, ← e']
    simp [forL, l1, l2, l3]
theorem names_len (cs : List Str) : (namesV cs).length = 2 * cs.length := by
  unfold namesV
  induction cs with
  | nil => rfl
  | cons c r ih =>
    rw [List.flatMap_cons, List.length_append, ih]
    simp only [List.length_cons, List.length_nil]
    omega
theorem nums_len (s t : Sn) : (numsI s t).length ≤ 12 := by
  unfold numsI
  rcases s with ⟨_ | ⟨l, h⟩, n, cs⟩
  · exact Nat.zero_le _
  · refine Nat.le_trans (List.length_filter_le _ _) ?_
    split
    · exact rangeI_len ‹_›
    · have : (sidesI t).length ≤ 2 := by unfold sidesI; split <;> simp
      simp only [List.length_append, List.length_cons, List.length_nil]
      omega
theorem e_values {s t : Sn} (w : Wf s) (v : Wf t) : m__law_values [s.d, t.d] = some (.list (vals s t)) := by
  have few := w.few
  have nn : gEq (.int (b2i s.n)) (.int 1) = some (.bool s.n) := by
    cases s.n <;> rfl
  have tl := fun (b d e f g x : SV) (acc : List D) (hl : acc.length ≤ 1000) => for_names s.d t.d b d e f g s.cs acc x w.ok (by omega)
  rcases s with ⟨_ | ⟨l, h⟩, n, cs⟩
  · cases n
    · obtain ⟨x', e⟩ := tl .no .no .no .no .no .no [] (by decide)
      simp [m__law_values, b__law_values, Sn.d, lowD, highD, atC0, atC2, atC3, b2i, y_eqI] at e ⊢
      simp [e, vals, numsI, restV]
    · obtain ⟨x', e⟩ := tl .no .no .no .no .no .no [.none] (by decide)
      simp [m__law_values, b__law_values, Sn.d, lowD, highD, atC0, atC2, atC3, b2i, y_eqI] at e ⊢
      simp [e, vals, numsI, restV]
  · have bd := w.r l h rfl
    unfold LG at bd
    have nl := nums_len ⟨some (l, h), n, cs⟩ t
    have sD : (Sn.mk (some (l, h)) n cs).d = .tuple [.int l, .int h, .int (b2i n), .tuple (cs.map .str)] := rfl
    have nm : numsI ⟨some (l, h), n, cs⟩ t = (if h - l < 12 then rangeI l h else [l, l + 1, h - 1, h, -1, 0, 1] ++ sidesI t).filter (inB l h) := rfl
    have tD : t.d = .tuple [lowD t.r, highD t.r, .int (b2i t.n), .tuple (t.cs.map .str)] := rfl
    have lens : (sidesI t).length ≤ 2 := by unfold sidesI; split <;> simp
    have lens2 : (sidesI t).length ≤ 100000 := by omega
    have lens3 : 7 + (sidesI t).length ≤ 100000 := by omega
    have lens4 : (numsI ⟨some (l, h), n, cs⟩ t).length ≤ 100000 := by omega
    have lens5 : (numsI ⟨some (l, h), n, cs⟩ t).length < 100000 := by omega
    have sd := lc_sides t [.val (.tuple [.int l, .int h, .int (b2i n), .tuple (cs.map .str)]), .val (.tuple [lowD t.r, highD t.r, .int (b2i t.n), .tuple (t.cs.map .str)]), .own (.list []), .val (.int l), .val (.int h), .no, .no, .no, .no] (by simp)
    have bt := fun (e f x : SV) (xs : List Int) => lc_between (l := l) (h := h) (sl := [.val (.tuple [.int l, .int h, .int (b2i n), .tuple (cs.map .str)]), .val (.tuple [lowD t.r, highD t.r, .int (b2i t.n), .tuple (t.cs.map .str)]), .own (.list []), .val (.int l), .val (.int h), e, f, .no, x]) 3 4 7 (fun _ => rfl) (fun _ => rfl) (by simp) xs
    simp only at nn tl
    rw [sD, tD] at tl ⊢
    by_cases hw : h - l < 12
    · have rg : RgD l (h + 1) := by
        unfold RgD
        omega
      have rl : (rangeI l h).length ≤ 100000 := Nat.le_trans (rangeI_len hw) (by decide)
      rw [if_pos hw] at nm
      cases n
      · obtain ⟨x', e⟩ := tl (.val (.int l)) (.val (.int h)) (.val (.list ((rangeI l h).map .int))) .no .no .no ((numsI ⟨some (l, h), false, cs⟩ t).map .int) (by rw [List.length_map]; omega)
        simp [m__law_values, b__law_values, cut2, atC0, atC2, atC3, nn, sd, lens2, lens3, hw, rg, rangeD_eq, bt, ← nm, lens4, lens5] at e ⊢
        simp [e, vals, restV]
      · obtain ⟨x', e⟩ := tl (.val (.int l)) (.val (.int h)) (.val (.list ((rangeI l h).map .int))) .no .no .no ((numsI ⟨some (l, h), true, cs⟩ t).map .int ++ [.none]) (by rw [List.length_append, List.length_map, List.length_singleton]; omega)
        simp [m__law_values, b__law_values, cut2, atC0, atC2, atC3, nn, sd, lens2, lens3, hw, rg, rangeD_eq, bt, ← nm, lens4, lens5] at e ⊢
        simp [e, vals, restV]
    · rw [if_neg hw] at nm
      cases n
      · obtain ⟨x', e⟩ := tl (.val (.int l)) (.val (.int h)) (.val (.list (([l, l + 1, h - 1, h, -1, 0, 1] ++ sidesI t).map .int))) .no .no .no ((numsI ⟨some (l, h), false, cs⟩ t).map .int) (by rw [List.length_map]; omega)
        have bt' := bt (.val (.list (([l, l + 1, h - 1, h, -1, 0, 1] ++ sidesI t).map .int))) .no .no ([l, l + 1, h - 1, h, -1, 0, 1] ++ sidesI t)
        rw [← nm] at bt'
        simp at bt' e
        simp [m__law_values, b__law_values, cut2, atC0, atC2, atC3, nn, sd, lens2, lens3, hw, bt', lens4, lens5]
        simp [e, vals, restV]
      · obtain ⟨x', e⟩ := tl (.val (.int l)) (.val (.int h)) (.val (.list (([l, l + 1, h - 1, h, -1, 0, 1] ++ sidesI t).map .int))) .no .no .no ((numsI ⟨some (l, h), true, cs⟩ t).map .int ++ [.none]) (by rw [List.length_append, List.length_map, List.length_singleton]; omega)
        have bt' := bt (.val (.list (([l, l + 1, h - 1, h, -1, 0, 1] ++ sidesI t).map .int))) .no .no ([l, l + 1, h - 1, h, -1, 0, 1] ++ sidesI t)
        rw [← nm] at bt'
        simp at bt' e
        simp [m__law_values, b__law_values, cut2, atC0, atC2, atC3, nn, sd, lens2, lens3, hw, bt', lens4, lens5]
        simp [e, vals, restV]
end K54

namespace K54
open PySem PySem.Spec L2 G
def resI (sign : Str) (a b : Int) : Int := bif sign == "<" then b2i (decide (a < b)) else bif sign == "<=" then b2i (decide (a ≤ b)) else bif sign == ">" then b2i (decide (b < a)) else bif sign == ">=" then b2i (decide (b ≤ a)) else
  bif sign == "+" then a + b else bif sign == "-" then a - b else bif sign == "*" then a * b else bif sign == "/" then a.fdiv b else a - b * a.fdiv b
def small (a : Int) : Prop := -LG ≤ a ∧ a ≤ LG
theorem small_div {a b : Int} (h : small b) (z : b ≠ 0) : CDivD a b := ⟨z, by have := h.1; have := h.2; unfold LG at *; omega⟩
theorem small_mul {a b : Int} (h : small a) : CMulD a b := .inl (by have := h.1; have := h.2; unfold LG at *; omega)
theorem e_result {sign : Str} (hs : sign ∈ signs) {a b : Int} (ha : small a) (hb : small b)
    (z : (sign == "<" || sign == "<=" || sign == ">" || sign == ">=" || sign == "+" || sign == "-" || sign == "*") = false → b ≠ 0) : m__law_result [.str sign, .int a, .int b] = some (.int (resI sign a b)) := by
  have e1 := eq_sign hs (show ("<" : Str) ∈ signs by decide +kernel)
  have e2 := eq_sign hs (show ("<=" : Str) ∈ signs by decide +kernel)
  have e3 := eq_sign hs (show (">" : Str) ∈ signs by decide +kernel)
  have e4 := eq_sign hs (show (">=" : Str) ∈ signs by decide +kernel)
  have e5 := eq_sign hs (show ("+" : Str) ∈ signs by decide +kernel)
  have e6 := eq_sign hs (show ("-" : Str) ∈ signs by decide +kernel)
  have e7 := eq_sign hs (show ("*" : Str) ∈ signs by decide +kernel)
  have e8 := eq_sign hs (show ("/" : Str) ∈ signs by decide +kernel)
  unfold resI
  revert e1 e2 e3 e4 e5 e6 e7 e8 z
  generalize (sign == "<") = c1
  generalize (sign == "<=") = c2
  generalize (sign == ">") = c3
  generalize (sign == ">=") = c4
  generalize (sign == "+") = c5
  generalize (sign == "-") = c6
  generalize (sign == "*") = c7
  generalize (sign == "/") = c8
  intro z e1 e2 e3 e4 e5 e6 e7 e8
  have m1 := y_mul (a := a) (b := b) (small_mul ha)
  have m2 := y_mul (a := b) (b := a.fdiv b) (small_mul hb)
  have dv : b ≠ 0 → gDiv (.int a) (.int b) = some (.int (a.fdiv b)) := fun h => y_div (small_div hb h)
  cases c1 with
  | true => simp [m__law_result, b__law_result, e1, b2i]
  | false => cases c2 with
    | true => simp [m__law_result, b__law_result, e1, e2, b2i]
    | false => cases c3 with
      | true => simp [m__law_result, b__law_result, e1, e2, e3, b2i]
      | false => cases c4 with
        | true => simp [m__law_result, b__law_result, e1, e2, e3, e4, b2i]
        | false => cases c5 with
          | true => simp [m__law_result, b__law_result, e1, e2, e3, e4, e5]
          | false => cases c6 with
            | true => simp [m__law_result, b__law_result, e1, e2, e3, e4, e5, e6]
            | false => cases c7 with
              | true => simp [m__law_result, b__law_result, e1, e2, e3, e4, e5, e6, e7, m1]
              | false =>
                have dv := dv (z rfl)
                cases c8 with
                | true => simp [m__law_result, b__law_result, e1, e2, e3, e4, e5, e6, e7, e8, dv]
                | false => simp [m__law_result, b__law_result, e1, e2, e3, e4, e5, e6, e7, e8, dv, m2]
def isI : D → Bool
  | .int _ => true
  | _ => false
/-- the values that a span may hold -/
inductive Vl : D → Prop
  | non : Vl .none
  | int {i : Int} : small i → Vl (.int i)
  | str {x : Str} : PyData.strOk x = true → Vl (.str x)
theorem isiI (i : Int) (T : String) : gIsi T (.int i) = (kitB "int" T).map .bool := rfl
theorem isiN (T : String) : gIsi T .none = (kitB "NoneType" T).map .bool := rfl
theorem isiS (x : Str) (T : String) : gIsi T (.str x) = (kitB "str" T).map .bool := rfl
theorem isiT (x : List D) (T : String) : gIsi T (.tuple x) = (kitB "tuple" T).map .bool := rfl
theorem kit1 : kitB "int" "int" = some true := by decide +kernel
theorem kit2 : kitB "int" "bool" = some false := by decide +kernel
theorem kit3 : kitB "NoneType" "int" = some false := by decide +kernel
theorem kit4 : kitB "str" "int" = some false := by decide +kernel
theorem kit5 : kitB "tuple" "tuple" = some true := by decide +kernel
theorem e_isint {d : D} (h : Vl d) : m__law_is_integer [d] = some (.bool (isI d)) := by
  cases h with
  | non => simp [m__law_is_integer, b__law_is_integer, isiN, kit3, isI]
  | int h => simp [m__law_is_integer, b__law_is_integer, isiI, kit1, kit2, isI]
  | str h => simp [m__law_is_integer, b__law_is_integer, isiS, kit4, isI]
theorem Vl.fit {d : D} (h : Vl d) : fitE d = true := by
  cases h with
  | non => rfl
  | int h => rfl
  | str h => simp [fitE, okD, SeqAt.shaped, PyData.canLay0, PyData.depth, h]
/-- what one pair adds: results, faults -/
def stR (sign : Str) (a b : D) : List Int := bif sign == "==" then [b2i (PyData.eqv a b)] else bif sign == "!=" then [b2i (!PyData.eqv a b)] else match a, b with
  | .int x, .int y => if divB sign = true ∧ y = 0 then [] else [resI sign x y]
  | _, _ => []
def stF (sign : Str) (a b : D) : List Str := bif sign == "==" then [] else bif sign == "!=" then [] else match a, b with
  | .int _, .int y => if divB sign = true ∧ y = 0 then [sZ] else []
  | _, _ => [sK]
def bodyD : Sls → Option Fl := (sIf (dTest (dOp gEq (dView 0) (dC (.str "==")))) (sAppend 3 (dCons (dApp gInt (dCons (dOp gEq (dView 6) (dView 7)) dNil)) dNil)) (sIf (dTest (dOp gEq (dView 0) (dC (.str "!=")))) (sAppend 3 (dCons (dApp gInt (dCons (dOp gNe (dView 6) (dView 7)) dNil)) dNil)) (sIf (dOr (dNot (dTest (dApp m__law_is_integer (dCons (dVar 6) dNil)))) (dNot (dTest (dApp m__law_is_integer (dCons (dVar 7) dNil))))) (sAppend 4 (dCons (dC (.str "kind")) dNil)) (sIf (dAnd (dTest (dOp (gInA false) (dView 0) (dApp G.gLst (dCons (dC (.str "/")) (dCons (dC (.str "mod")) dNil))))) (dTest (dOp gEq (dView 7) (dC (.int 0))))) (sAppend 4 (dCons (dC (.str "zero")) dNil)) (sAppend 3 (dCons (dApp m__law_result (dCons (dVar 0) (dCons (dVar 6) (dCons (dVar 7) dNil)))) dNil))))))
theorem res_ok {sign : Str} (hs : sign ∈ signs) (h1 : (sign == "==") = false) (h2 : (sign == "!=") = false) {y : Int} (hd : ¬ (divB sign = true ∧ y = 0)) :
    (sign == "<" || sign == "<=" || sign == ">" || sign == ">=" || sign == "+" || sign == "-" || sign == "*") = false → y ≠ 0 := by
  have key : ∀ x ∈ signs, (x == "==") = false → (x == "!=") = false → (x == "<" || x == "<=" || x == ">" || x == ">=" || x == "+" || x == "-" || x == "*") = false → divB x = true := by decide +kernel
  intro h z
  exact hd ⟨key sign hs h1 h2 h, z⟩
theorem body_ok {sign : Str} (hs : sign ∈ signs) {a b : D} (ha : Vl a) (hb : Vl b) (l r : D) (o : SV) (R : List Int) (F : List Str) (hR : R.length < 100000) (hF : F.length < 100000) :
    bodyD [.val (.str sign), .val l, .val r, .own (.list (R.map .int)), .own (.list (F.map .str)), o, .val a, .val b] = some (.nx [.val (.str sign), .val l, .val r, .own (.list ((R ++ stR sign a b).map .int)), .own (.list ((F ++ stF sign a b).map .str)), o, .val a, .val b]) := by
  have e1 := eq_sign hs (show ("==" : Str) ∈ signs by decide +kernel)
  have e2 := eq_sign hs (show ("!=" : Str) ∈ signs by decide +kernel)
  have e3 : gInA false (.str sign) (.list [.str "/", .str "mod"]) = some (.bool (divB sign)) := (sign_facts hs).2.2.1
  have e4 := y_eqD ha.fit hb.fit
  have e5 := y_neD ha.fit hb.fit
  have i1 := e_isint ha
  have i2 := e_isint hb
  have rk := fun (h1 : (sign == "==") = false) (h2 : (sign == "!=") = false) (y : Int) (hd : ¬ (divB sign = true ∧ y = 0)) => res_ok hs h1 h2 hd
  have er := fun (x y : Int) (hx : small x) (hy : small y) z => e_result hs hx hy z
  unfold stR stF bodyD
  revert e1 e2 rk
  generalize (sign == "==") = c1
  generalize (sign == "!=") = c2
  intro e1 e2 rk
  cases c1 with
  | true => simp [e1, e4, hR, b2i]
  | false =>
    cases c2 with
    | true => simp [e1, e2, e5, hR, b2i]
    | false =>
      have rk := rk rfl rfl
      cases ha with
      | non => simp [e1, e2, i1, isI, hF, show (("kind" : String) : Str) = sK from rfl]
      | str h => simp [e1, e2, i1, isI, hF, show (("kind" : String) : Str) = sK from rfl]
      | @int x hx =>
        cases hb with
        | non => simp [e1, e2, i1, i2, isI, hF, show (("kind" : String) : Str) = sK from rfl]
        | str h => simp [e1, e2, i1, i2, isI, hF, show (("kind" : String) : Str) = sK from rfl]
        | @int y hy =>
          have rk := rk y
          have er := er x y hx hy
          cases hd : divB sign with
          | false =>
            rw [hd] at rk e3
            have er := er (rk (fun z => Bool.false_ne_true z.1))
            simp [e1, e2, e3, i1, i2, isI, hR, er]
          | true =>
            rw [hd] at rk e3
            by_cases hz : y = 0
            · subst hz
              simp [e1, e2, e3, i1, i2, isI, hF, y_eqI, show (("zero" : String) : Str) = sZ from rfl]
            · have er := er (rk (fun z => hz z.2))
              simp [e1, e2, e3, i1, i2, isI, hR, er, y_eqI, hz]
end K54

namespace K54
open PySem PySem.Spec L2 G
theorem inner_ok {sign : Str} (hs : sign ∈ signs) (l r a : D) (o : SV) (ha : Vl a) : ∀ (B : List D) (R : List Int) (F : List Str) (x : SV), (∀ b ∈ B, Vl b) → R.length + B.length ≤ 90000 → F.length + B.length ≤ 90000 →
    ∃ x', forL (tgName 7) bodyD B [.val (.str sign), .val l, .val r, .own (.list (R.map .int)), .own (.list (F.map .str)), o, .val a, x] =
      some (.nx [.val (.str sign), .val l, .val r, .own (.list ((R ++ B.flatMap (stR sign a)).map .int)), .own (.list ((F ++ B.flatMap (stF sign a)).map .str)), o, .val a, x'])
  | [], R, F, x, _, _, _ => ⟨x, by simp [forL]⟩
  | b :: B, R, F, x, hB, h1, h2 => by
    have hb := hB b List.mem_cons_self
    rw [List.length_cons] at h1 h2
    have l1 : (stR sign a b).length ≤ 1 := by
      unfold stR
      cases (sign == "==") <;> cases (sign == "!=") <;> simp
      split
      · split <;> simp
      · simp
    have l2 : (stF sign a b).length ≤ 1 := by
      unfold stF
      cases (sign == "==") <;> cases (sign == "!=") <;> simp
      split
      · split <;> simp
      · simp
    have bo := body_ok hs ha hb l r o R F (by omega) (by omega)
    obtain ⟨x', e⟩ := inner_ok hs l r a o ha B (R ++ stR sign a b) (F ++ stF sign a b) (.val b) (fun y hy => hB y (List.mem_cons_of_mem _ hy)) (by rw [List.length_append]; omega) (by rw [List.length_append]; omega)
    refine ⟨x', ?_⟩
    rw [List.append_assoc, List.append_assoc, ← List.flatMap_cons, ← List.flatMap_cons] at e
    rw [← e]
    show ((tgName 7 b _).bind fun s => (bodyD s).bind _) = _
    rw [z_tgN, Option.bind_some]
    show ((bodyD [.val (.str sign), .val l, .val r, .own (.list (R.map .int)), .own (.list (F.map .str)), o, .val a, .val b]).bind _) = _
    rw [bo]
    rfl
theorem outer_ok {sign : Str} (hs : sign ∈ signs) (l r : D) (B : List D) (hB : ∀ b ∈ B, Vl b) (hl : B.length ≤ 40) : ∀ (A : List D) (R : List Int) (F : List Str) (x y : SV), (∀ a ∈ A, Vl a) → R.length + 40 * A.length ≤ 80000 → F.length + 40 * A.length ≤ 80000 →
    ∃ x' y', forL (tgName 6) (sFor (iLst (dVar 5)) (tgName 7) bodyD) A [.val (.str sign), .val l, .val r, .own (.list (R.map .int)), .own (.list (F.map .str)), .val (.list B), x, y] =
      some (.nx [.val (.str sign), .val l, .val r, .own (.list ((R ++ A.flatMap fun a => B.flatMap (stR sign a)).map .int)), .own (.list ((F ++ A.flatMap fun a => B.flatMap (stF sign a)).map .str)), .val (.list B), x', y'])
  | [], R, F, x, y, _, _, _ => ⟨x, y, by simp [forL]⟩
  | a :: A, R, F, x, y, hA, h1, h2 => by
    have ha := hA a List.mem_cons_self
    rw [List.length_cons] at h1 h2
    have n1 : ∀ b, (stR sign a b).length ≤ 1 := fun b => by
      unfold stR
      cases (sign == "==") <;> cases (sign == "!=") <;> simp
      split
      · split <;> simp
      · simp
    have n2 : ∀ b, (stF sign a b).length ≤ 1 := fun b => by
      unfold stF
      cases (sign == "==") <;> cases (sign == "!=") <;> simp
      split
      · split <;> simp
      · simp
    have fl : ∀ {β : Type} (f : D → List β) (C : List D), (∀ b, (f b).length ≤ 1) → (C.flatMap f).length ≤ C.length := fun f C h => by
      induction C with
      | nil => exact Nat.le_refl _
      | cons c C ih =>
        rw [List.flatMap_cons, List.length_append, List.length_cons]
        have := h c
        omega
    have m1 := fl (stR sign a) B n1
    have m2 := fl (stF sign a) B n2
    obtain ⟨y1, e1⟩ := inner_ok hs l r a (.val (.list B)) ha B R F y hB (by omega) (by omega)
    obtain ⟨x', y', e⟩ := outer_ok hs l r B hB hl A (R ++ B.flatMap (stR sign a)) (F ++ B.flatMap (stF sign a)) (.val a) y1 (fun z hz => hA z (List.mem_cons_of_mem _ hz)) (by rw [List.length_append]; omega) (by rw [List.length_append]; omega)
    refine ⟨x', y', ?_⟩
    rw [List.append_assoc, List.append_assoc] at e
    rw [List.flatMap_cons, List.flatMap_cons, ← e]
    show ((tgName 6 a _).bind fun s => (sFor (iLst (dVar 5)) (tgName 7) bodyD s).bind _) = _
    rw [z_tgN, Option.bind_some]
    show ((forL (tgName 7) bodyD B [.val (.str sign), .val l, .val r, .own (.list (R.map .int)), .own (.list (F.map .str)), .val (.list B), .val a, y]).bind _) = _
    rw [e1]
    rfl
def resR (sign : Str) (s t : Sn) : List Int := (vals s t).flatMap fun a => (vals t s).flatMap (stR sign a)
def resF (sign : Str) (s t : Sn) : List Str := (vals s t).flatMap fun a => (vals t s).flatMap (stF sign a)
theorem vals_ok {s t : Sn} (w : Wf s) : ∀ d ∈ vals s t, Vl d := by
  intro d hd
  unfold vals restV at hd
  rw [List.mem_append, List.mem_append] at hd
  rcases hd with hd | hd | hd
  · obtain ⟨x, hx, rfl⟩ := List.mem_map.mp hd
    unfold numsI at hx
    split at hx
    · cases hx
    · rename_i l h e
      have b := w.r l h e
      have q := (List.mem_filter.mp hx).2
      unfold inB at q
      simp only [Bool.and_eq_true, decide_eq_true_eq] at q
      exact .int ⟨by omega, by omega⟩
  · split at hd
    · rw [List.mem_singleton.mp hd]
      exact .non
    · cases hd
  · unfold namesV at hd
    obtain ⟨x, hx, hd⟩ := List.mem_flatMap.mp hd
    have p := strOk_pool x (w.ok x hx)
    simp only [List.mem_cons, List.not_mem_nil, or_false] at hd
    rcases hd with rfl | rfl
    · exact .str p.2.1
    · exact .str p.2.2.1
theorem vals_len {s t : Sn} (w : Wf s) : (vals s t).length ≤ 40 := by
  unfold vals restV
  have := nums_len s t
  have := w.few
  rw [List.length_append, List.length_append, List.length_map, names_len]
  have : (if s.n = true then [PyData.none] else []).length ≤ 1 := by split <;> simp
  omega
theorem e_done {sign : Str} (hs : sign ∈ signs) {s t : Sn} (w : Wf s) (v : Wf t) : m__law_done [.str sign, s.d, t.d] = some (.list [.list ((resR sign s t).map .int), .list ((resF sign s t).map .str)]) := by
  have l1 := vals_len (t := t) w
  have l2 := vals_len (t := s) v
  obtain ⟨x', y', e⟩ := outer_ok hs s.d t.d (vals t s) (vals_ok v) l2 (vals s t) [] [] .no .no (vals_ok w) (by simp; omega) (by simp; omega)
  have e1 := e_values w v
  have e2 := e_values v w
  simp only [List.map_nil, List.nil_append] at e
  rw [show ((vals s t).flatMap fun a => (vals t s).flatMap (stR sign a)) = resR sign s t from rfl, show ((vals s t).flatMap fun a => (vals t s).flatMap (stF sign a)) = resF sign s t from rfl] at e
  unfold bodyD at e
  simp [m__law_done, b__law_done, e1, e2] at e ⊢
  simp [e]
end K54

namespace K54
open PySem PySem.Spec L2 G
def restsI (l h : Int) : List Int := (if l < 0 then [l + 1, 0] else []) ++ (if 0 < h then [0, h - 1] else [])
theorem e_rests {t : Sn} {l h : Int} (e : t.r = some (l, h)) : m__law_rests [t.d] = some (.list ((restsI l h).map .int)) := by
  rcases t with ⟨r, n, cs⟩
  simp only at e
  subst e
  have x0 : gIx (Sn.d ⟨some (l, h), n, cs⟩) (.int 0) = some (.int l) := rfl
  have x1 : gIx (Sn.d ⟨some (l, h), n, cs⟩) (.int 1) = some (.int h) := rfl
  by_cases h1 : l < 0 <;> by_cases h2 : 0 < h <;> simp [m__law_rests, b__law_rests, x0, x1, restsI, h1, h2]
/-- the span that the law wants: R the results (or their ends) -/
def dueS (R : List Int) : Sn := if R = [] then eS else clip (leastI R) (greatI R)
def dueD (R : List Int) (F : List Str) : D := told (dueS R) (decide (R ≠ [] ∧ (leastI R < -LG ∨ LG < greatI R)) || decide (sB ∈ F)) (decide (sK ∈ F)) (decide (sZ ∈ F))
theorem in_list {x : Str} {F : List Str} (hx : PyData.strOk x = true) (hF : three F) : gInA false (.str x) (.list (F.map .str)) = some (.bool (decide (x ∈ F))) := by
  have ok3 : ∀ y ∈ (["big", "kind", "zero"] : List Str), PyData.strOk y = true := by decide +kernel
  have okF : ∀ F : List Str, three F → PyData.canLayAll0 (F.map PyData.str) = true := by
    intro F
    induction F with
    | nil => intro _; rfl
    | cons y r ih =>
      intro h
      unfold three at h ih
      rw [List.all_cons, Bool.and_eq_true] at h
      rw [List.map_cons, PyData.canLayAll0, PyData.canLay0, ok3 y (of_decide_eq_true h.1), ih h.2]
      rfl
  unfold gInA
  simp only
  rw [if_pos ⟨by simp [fitE, okD, SeqAt.shaped, PyData.canLay0, PyData.depth, hx], ok_strs F, okF F hF⟩]
  simp only [Bool.false_eq_true, if_false, Option.some.injEq, PyData.bool.injEq]
  rw [List.any_map, Bool.eq_iff_iff, List.any_eq_true, decide_eq_true_eq]
  constructor
  · rintro ⟨z, hz, e⟩
    have e : (z == x) = true := by simpa [PyData.eqv] using e
    rw [← eq_of_beq e]
    exact hz
  · intro hz
    exact ⟨x, hz, by simp [PyData.eqv]⟩
theorem e_pick {F : List Str} (hF : three F) (a b c : SV) : lcL (tgName 4) (dTest (dOp (gInA false) (dView 4) (dView 2))) (dVar 4) [a, b, .val (.list (F.map .str)), c, .no] [.str sB, .str sK, .str sZ] =
    some ((fS (decide (sB ∈ F)) (decide (sK ∈ F)) (decide (sZ ∈ F))).map .str) := by
  have e1 := in_list (x := sB) (by decide +kernel) hF
  have e2 := in_list (x := sK) (by decide +kernel) hF
  have e3 := in_list (x := sZ) (by decide +kernel) hF
  unfold fS
  by_cases h1 : sB ∈ F <;> by_cases h2 : sK ∈ F <;> by_cases h3 : sZ ∈ F <;>
    simp [lcL, show (("big" : String) : Str) = sB from rfl, show (("kind" : String) : Str) = sK from rfl, show (("zero" : String) : Str) = sZ from rfl, e1, e2, e3, h1, h2, h3]
theorem clip_lt {lo hi : Int} (h : lo ≤ hi) : ((if LG < hi then LG else hi) < (if -LG > lo then -LG else lo)) ↔ ¬ (lo ≤ LG ∧ -LG ≤ hi) := by
  unfold LG
  split <;> split <;> omega
theorem fS_len (a b c : Bool) : (fS a b c).length ≤ 3 := by cases a <;> cases b <;> cases c <;> decide
theorem e_due {R : List Int} {F : List Str} (hF : three F) (hl : F.length < 100000) : m__law_due [.list (R.map .int), .list (F.map .str)] = some (dueD R F) := by
  have F2 : three (F ++ [sB]) := by
    unfold three at *
    rw [List.all_append, hF]
    decide +kernel
  have p1 := fun a b c => e_pick hF a b c
  have p2 := fun a b c => e_pick F2 a b c
  have d1 : decide (sB ∈ F ++ [sB]) = true := by simp
  have d2 : decide (sK ∈ F ++ [sB]) = decide (sK ∈ F) := by
    have : (sK = sB) = False := by decide +kernel
    simp [this]
  have d3 : decide (sZ ∈ F ++ [sB]) = decide (sZ ∈ F) := by
    have : (sZ = sB) = False := by decide +kernel
    simp [this]
  simp only [d1, d2, d3, List.map_append, List.map_cons, List.map_nil] at p2
  have l0 := fun a b c => Nat.le_trans (fS_len a b c) (show 3 ≤ 100000 by decide)
  by_cases hR : R = []
  · subst hR
    simp [m__law_due, b__law_due, p1, l0, dueD, dueS, told, show (("big" : String) : Str) = sB from rfl, show (("kind" : String) : Str) = sK from rfl, show (("zero" : String) : Str) = sZ from rfl]
    rfl
  · have x1 := e_minL hR
    have x2 := e_maxL hR
    have le := (leastI_spec R hR).2 _ (greatI_spec R hR).1
    have pos : 0 < R.length := List.length_pos_iff.mpr hR
    have cl := clip_lt le
    unfold dueD dueS
    rw [if_neg hR]
    generalize leastI R = lo at *
    generalize greatI R = hi at *
    have cd : (clip lo hi).d = if lo ≤ LG ∧ -LG ≤ hi then .tuple [.int (if -LG > lo then -LG else lo), .int (if LG < hi then LG else hi), .int 0, .tuple []] else .tuple [.none, .none, .int 0, .tuple []] := by
      unfold clip
      by_cases h : lo ≤ LG ∧ -LG ≤ hi
      · rw [if_neg (by rw [cl]; exact fun z => z h), if_pos h]
        rfl
      · rw [if_pos (by rw [cl]; exact h), if_neg h]
        rfl
    unfold told
    rw [cd]
    unfold LG at *
    by_cases q1 : lo < -999999999 <;> by_cases q2 : 999999999 < hi <;> by_cases q3 : lo ≤ 999999999 <;> by_cases q4 : -999999999 ≤ hi <;>
      simp [m__law_due, b__law_due, p1, p2, l0, x1, x2, pos, q1, q2, q3, q4, hR, hl, show (("big" : String) : Str) = sB from rfl, show (("kind" : String) : Str) = sK from rfl, show (("zero" : String) : Str) = sZ from rfl]
end K54

namespace K54
open PySem PySem.Spec L2 G
/-- a span that may be told: EMPTY or numbers within the bounds -/
def Plain (T : Sn) : Prop := T = eS ∨ ∃ lo hi, T = nS lo hi ∧ small lo ∧ small hi
theorem shown_small {i : Int} (h : small i) : (PyData.shown (.int i)).length ≤ 13 := by
  refine PyData.shown_int_le ?_
  have := h.1
  have := h.2
  unfold LG at *
  omega
theorem log_small {i : Int} (h : small i) : i.natAbs.log2 < 30 := by
  have h1 := h.1
  have h2 := h.2
  unfold LG at *
  have lt : i.natAbs < 2 ^ 30 := by omega
  by_cases z : i.natAbs = 0
  · rw [z]
    decide
  · exact (Nat.log2_lt z).mpr lt
theorem okR_of {ds : List D} (h1 : okDs ds = true) (h2 : PyData.showable (.tuple ds) = true) (h3 : PyData.depth (.tuple ds) ≤ 63) (h4 : PyData.leavesShort 13 (.tuple ds) = true) (h5 : PyData.weight (.tuple ds) ≤ 5000) (h6 : PyData.hasDict (.tuple ds) = false) : okR (.tuple ds) = true := by
  have h := PyData.shown_le 13 (by decide) (.tuple ds) h4
  have h7 : (PyData.shown (.tuple ds)).length ≤ 100000 := by omega
  show (okDs ds && PyData.showable (.tuple ds) && decide (PyData.depth (.tuple ds) ≤ 63) && decide ((PyData.shown (.tuple ds)).length ≤ 100000) && !PyData.hasDict (.tuple ds)) = true
  rw [h1, h2, decide_eq_true h3, decide_eq_true h7, h6]
  rfl
theorem okR_told {T : Sn} (hT : Plain T) (b k z : Bool) : okR (told T b k z) = true ∧ fitE (told T b k z) = true := by
  rcases hT with rfl | ⟨lo, hi, rfl, h1, h2⟩
  · cases b <;> cases k <;> cases z <;> decide +kernel
  · have s1 := shown_small h1
    have s2 := shown_small h2
    have g1 := log_small h1
    have g2 := log_small h2
    have g3 : lo.natAbs.log2 < 1920 := by omega
    have g4 : hi.natAbs.log2 < 1920 := by omega
    have wt : ∀ i : Int, i.natAbs.log2 < 30 → PyData.weight (.int i) ≤ 30 := fun i h => by
      unfold PyData.weight
      split <;> omega
    have w1 := wt lo g1
    have w2 := wt hi g2
    have tail : ∀ (b k z : Bool), okDs ((fS b k z).map PyData.str) = true ∧ PyData.showableAll ((fS b k z).map PyData.str) = true ∧ PyData.depthAll ((fS b k z).map PyData.str) = 0 ∧ PyData.leavesShortAll 13 ((fS b k z).map PyData.str) = true ∧ PyData.weightAll ((fS b k z).map PyData.str) ≤ 50 ∧ PyData.hasDictAll ((fS b k z).map PyData.str) = false ∧ PyData.canLayAll0 ((fS b k z).map PyData.str) = true := by
      decide +kernel
    obtain ⟨t1, t2, t3, t4, t5, t6, t7⟩ := tail b k z
    refine ⟨okR_of ?_ ?_ ?_ ?_ ?_ ?_, ?_⟩
    · simp [Sn.d, nS, lowD, highD, okDs, okD, t1]
    · simp [Sn.d, nS, lowD, highD, PyData.showable, PyData.showableAll, t2, g3, g4, b2i]
    · simp [Sn.d, nS, lowD, highD, PyData.depth, PyData.depthAll, t3]
    · simp [Sn.d, nS, lowD, highD, PyData.leavesShort, PyData.leavesShortAll, t4, s1, s2, b2i]
      decide +kernel
    · have w0 : PyData.weight (.int (b2i false)) = 0 := by decide
      have wT : ∀ xs : List D, PyData.weight (.tuple xs) = PyData.weightAll xs := fun xs => by rw [PyData.weight]
      simp only [Sn.d, nS, lowD, highD, wT, PyData.weightAll, List.map_nil, w0]
      omega
    · simp [Sn.d, nS, lowD, highD, PyData.hasDict, PyData.hasDictAll, t6]
    · simp [told, Sn.d, nS, lowD, highD, fitE, okD, okDs, t1, SeqAt.shaped, PyData.canLay0, PyData.canLayAll0, PyData.depth, PyData.depthAll, t3, t7]
theorem eqv_told (T : Sn) (b k z : Bool) : PyData.eqv (told T b k z) (told T b k z) = true := by
  unfold told
  rw [PyData.eqv, PyData.eqvAll, PyData.eqvAll, PyData.eqvAll, eqv_span, PyData.eqv, eqv_strs]
  simp
theorem ok_ofString (s : String) : PyData.strOk (Str.ofString s) = true := by
  rw [Str.ofString_eq_toList]
  show ((s.toList.map Char.toNat).toArray).all _ = true
  rw [List.all_toArray, List.all_map, List.all_eq_true]
  intro c _
  have h : c.toNat < 0x110000 := by
    have := c.valid
    unfold UInt32.isValidChar Nat.isValidChar at this
    show c.val.toNat < _
    omega
  simpa using h
theorem ok_app (x y : Str) (h1 : PyData.strOk x = true) (h2 : PyData.strOk y = true) : PyData.strOk (x ++ y) = true := by
  unfold PyData.strOk at *
  show (x.cps ++ y.cps).all _ = true
  rw [Array.all_append, h1, h2]
  rfl
theorem ok_join (sep : Str) (hs : PyData.strOk sep = true) : ∀ ts : List Str, (∀ t ∈ ts, PyData.strOk t = true) → PyData.strOk (Str.join sep ts) = true
  | [], _ => by show PyData.strOk Str.empty = true; decide +kernel
  | [x], h => h x List.mem_cons_self
  | x :: y :: r, h => ok_app _ _ (ok_app _ _ (h x List.mem_cons_self) hs) (ok_join sep hs (y :: r) fun t ht => h t (List.mem_cons_of_mem _ ht))
theorem ok_tupleText (ts : List Str) (h : ∀ t ∈ ts, PyData.strOk t = true) : PyData.strOk (tupleText ts) = true := by
  unfold tupleText
  refine ok_app _ _ (ok_app _ _ (by decide +kernel) (ok_join _ (by decide +kernel) ts h)) ?_
  split <;> decide +kernel
theorem e_same {T : Sn} (hT : Plain T) (b k z : Bool) : m__law_same [told T b k z, told T b k z] = some (.bool true) := by
  obtain ⟨h1, h2⟩ := okR_told hT b k z
  have g1 : gIsi "tuple" (told T b k z) = some (.bool true) := by
    unfold told
    rw [isiT, kit5]
    rfl
  have g2 : gEq (told T b k z) (told T b k z) = some (.bool true) := by rw [y_eqD h2 h2, eqv_told]
  have g3 : gRepr [told T b k z] = some (.str (PyData.shown (told T b k z))) := if_pos h1
  have ok : PyData.strOk (PyData.shown (told T b k z)) = true := by
    have inner : PyData.strOk (PyData.shown T.d) = true := by
      unfold Sn.d
      rw [PyData.shown]
      refine ok_tupleText _ fun t ht => ?_
      have hlo : PyData.strOk (PyData.shown (lowD T.r)) = true := by
        rcases T.r with _ | ⟨l, h⟩
        · decide +kernel
        · exact ok_ofString _
      have hhi : PyData.strOk (PyData.shown (highD T.r)) = true := by
        rcases T.r with _ | ⟨l, h⟩
        · decide +kernel
        · exact ok_ofString _
      have hcs : T.cs = [] := by rcases hT with rfl | ⟨lo, hi, rfl, _, _⟩ <;> rfl
      simp only [PyData.shownAll, List.mem_cons, List.not_mem_nil, or_false] at ht
      rcases ht with rfl | rfl | rfl | rfl
      · exact hlo
      · exact hhi
      · exact ok_ofString _
      · rw [hcs]
        decide +kernel
    have names : ∀ (b k z : Bool), PyData.strOk (PyData.shown (.tuple ((fS b k z).map .str))) = true := by decide +kernel
    unfold told
    rw [PyData.shown]
    refine ok_tupleText _ fun t ht => ?_
    simp only [PyData.shownAll, List.mem_cons, List.not_mem_nil, or_false] at ht
    rcases ht with rfl | rfl
    · exact inner
    · exact names b k z
  have g4 : gEq (.str (PyData.shown (told T b k z))) (.str (PyData.shown (told T b k z))) = some (.bool true) := by
    rw [y_eqS ok ok]
    simp
  generalize told T b k z = d at *
  simp [m__law_same, b__law_same, g1, g2, g3, g4]
theorem forB (sg l r R F E : SV) (T : Sn) (b k z : Bool) : ∀ (xs : List Int) (y : SV), (∀ r ∈ xs, -LG ≤ r → r ≤ LG → ∃ lo hi, T.r = some (lo, hi) ∧ lo ≤ r ∧ r ≤ hi) →
    ∃ y', forL (tgName 7) (sIf (dAnd (dTest (dChain gLe gLe (dUn gNeg (dC (.int 999999999))) (dView 7) (dC (.int 999999999)))) (dNot (dTest (dChain gLe gLe (dOp gIx (dOp gIx (dView 6) (dC (.int 0))) (dC (.int 0))) (dView 7) (dOp gIx (dOp gIx (dView 6) (dC (.int 0))) (dC (.int 1))))))) (sRet (dC (.bool false))) sNext)
      (xs.map .int) [sg, l, r, R, F, E, .val (told T b k z), y] = some (.nx [sg, l, r, R, F, E, .val (told T b k z), y'])
  | [], y, _ => ⟨y, rfl⟩
  | x :: xs, y, h => by
    obtain ⟨y', e⟩ := forB sg l r R F E T b k z xs (.val (.int x)) fun r hr => h r (List.mem_cons_of_mem _ hr)
    refine ⟨y', ?_⟩
    rw [← e]
    have hx := h x List.mem_cons_self
    have step : (sIf (dAnd (dTest (dChain gLe gLe (dUn gNeg (dC (.int 999999999))) (dView 7) (dC (.int 999999999)))) (dNot (dTest (dChain gLe gLe (dOp gIx (dOp gIx (dView 6) (dC (.int 0))) (dC (.int 0))) (dView 7) (dOp gIx (dOp gIx (dView 6) (dC (.int 0))) (dC (.int 1))))))) (sRet (dC (.bool false))) sNext) [sg, l, r, R, F, E, .val (told T b k z), .val (.int x)] = some (.nx [sg, l, r, R, F, E, .val (told T b k z), .val (.int x)]) := by
      have t0 : gIx (told T b k z) (.int 0) = some T.d := rfl
      unfold LG at hx
      by_cases p1 : -999999999 ≤ x
      · by_cases p2 : x ≤ 999999999
        · obtain ⟨lo, hi, e1, e2, e3⟩ := hx p1 p2
          have t1 : gIx T.d (.int 0) = some (.int lo) := by
            rcases T with ⟨r, n, cs⟩
            simp only at e1
            subst e1
            rfl
          have t2 : gIx T.d (.int 1) = some (.int hi) := by
            rcases T with ⟨r, n, cs⟩
            simp only at e1
            subst e1
            rfl
          simp [p1, p2, t0, t1, t2, e2, e3]
        · simp [p1, p2]
      · simp [p1]
    show ((tgName 7 (.int x) _).bind fun s => (_ : Option Fl).bind _) = _
    rw [z_tgN, Option.bind_some]
    show Option.bind (sIf _ _ _ [sg, l, r, R, F, E, .val (told T b k z), .val (.int x)]) _ = _
    rw [step]
    rfl
/-- the whole of one pair -/
theorem comb_ok {sign : Str} (hs : sign ∈ signs) {s t : Sn} (w : Wf s) (v : Wf t) {T : Sn} {b k z : Bool} {E : List Int} (hT : Plain T) (hc : m_combine_spans [.str sign, s.d, t.d] = some (told T b k z))
    (hE : E = if (sign == "mod") = true ∧ resR sign s t ≠ [] then (match t.r with | some (l, h) => restsI l h | none => []) else resR sign s t)
    (hr : (sign == "mod") = true → resR sign s t ≠ [] → ∃ l h, t.r = some (l, h))
    (hd : dueD E (resF sign s t) = told T b k z) (hF : three (resF sign s t)) (hFl : (resF sign s t).length < 100000)
    (hin : ∀ r ∈ resR sign s t, -LG ≤ r → r ≤ LG → ∃ lo hi, T.r = some (lo, hi) ∧ lo ≤ r ∧ r ≤ hi) : m__law_combined [.str sign, s.d, t.d] = some (.bool true) := by
  have e1 := e_done hs w v
  have e2 := eq_sign hs (show ("mod" : Str) ∈ signs by decide +kernel)
  have e3 := e_due (R := E) hF hFl
  rw [hd] at e3
  have e4 := e_same hT b k z
  generalize resR sign s t = R at *
  generalize resF sign s t = F at *
  obtain ⟨y', fl⟩ := forB (.val (.str sign)) (.val s.d) (.val t.d) (.val (.list (R.map .int))) (.val (.list (F.map .str))) (.val (.list (E.map .int))) T b k z R .no hin
  by_cases hm : (sign == "mod") = true ∧ R ≠ []
  · obtain ⟨l, h, e5⟩ := hr hm.1 hm.2
    have e6 := e_rests e5
    rw [if_pos hm, e5] at hE
    simp only at hE
    rw [← hE] at e6
    rw [hm.1] at e2
    have pos : 0 < R.length := List.length_pos_iff.mpr hm.2
    simp [m__law_combined, b__law_combined, e1, e2, e6, hc, e3, e4, pos] at fl ⊢
    simp [fl]
  · rw [if_neg hm] at hE
    subst hE
    cases c : (sign == "mod") with
    | false =>
      rw [c] at e2
      simp [m__law_combined, b__law_combined, e1, e2, hc, e3, e4] at fl ⊢
      simp [fl]
    | true =>
      rw [c] at e2 hm
      have nil : E = [] := Classical.byContradiction fun z => hm ⟨rfl, z⟩
      subst nil
      simp [m__law_combined, b__law_combined, e1, e2, hc, e3, e4] at fl e3 ⊢
      simp [e3, e4, fl, forL]
end K54

namespace K54
open PySem PySem.Spec L2 G
/-! ### what the samples hold -/
section
variable {s t : Sn} {l h : Int}
theorem mem_range {x : Int} : x ∈ rangeI l h ↔ l ≤ x ∧ x ≤ h := by
  unfold rangeI
  rw [List.mem_map]
  constructor
  · rintro ⟨i, hi, rfl⟩
    rw [List.mem_range] at hi
    omega
  · intro ⟨h1, h2⟩
    exact ⟨(x - l).toNat, by rw [List.mem_range]; omega, by omega⟩
theorem nums_in (e : s.r = some (l, h)) {x : Int} (hx : x ∈ numsI s t) : l ≤ x ∧ x ≤ h := by
  unfold numsI at hx
  rw [e] at hx
  have q := (List.mem_filter.mp hx).2
  unfold inB at q
  simpa [Bool.and_eq_true] using q
theorem nums_has (e : s.r = some (l, h)) {x : Int} (h1 : l ≤ x) (h2 : x ≤ h) (c : x = l ∨ x = h ∨ x = -1 ∨ x = 0 ∨ x = 1 ∨ x ∈ sidesI t) : x ∈ numsI s t := by
  unfold numsI
  rw [e]
  refine List.mem_filter.mpr ⟨?_, by simp [inB, h1, h2]⟩
  split
  · exact mem_range.mpr ⟨h1, h2⟩
  · rw [List.mem_append]
    rcases c with rfl | rfl | rfl | rfl | rfl | c
    · exact .inl (by simp)
    · exact .inl (by simp)
    · exact .inl (by simp)
    · exact .inl (by simp)
    · exact .inl (by simp)
    · exact .inr c
theorem nums_none (e : s.r = none) : numsI s t = [] := by
  unfold numsI
  rw [e]
theorem vals_int {x : Int} : PyData.int x ∈ vals s t ↔ x ∈ numsI s t := by
  unfold vals restV namesV
  rw [List.mem_append, List.mem_append]
  constructor
  · rintro (h | h | h)
    · obtain ⟨y, hy, e⟩ := List.mem_map.mp h
      cases e
      exact hy
    · split at h
      · cases List.mem_singleton.mp h
      · cases h
    · obtain ⟨y, hy, h⟩ := List.mem_flatMap.mp h
      simp at h
  · intro h
    exact .inl (List.mem_map_of_mem h)
theorem vals_non : PyData.none ∈ vals s t ↔ s.n = true := by
  unfold vals restV namesV
  rw [List.mem_append, List.mem_append]
  constructor
  · rintro (h | h | h)
    · obtain ⟨y, hy, e⟩ := List.mem_map.mp h
      cases e
    · split at h
      · assumption
      · cases h
    · obtain ⟨y, hy, h⟩ := List.mem_flatMap.mp h
      simp at h
  · intro h
    rw [if_pos h]
    exact .inr (.inl List.mem_cons_self)
theorem vals_str {x : Str} : PyData.str x ∈ vals s t ↔ ∃ c ∈ s.cs, x = c ++ ".1" ∨ x = c ++ ".2" := by
  unfold vals restV namesV
  rw [List.mem_append, List.mem_append]
  constructor
  · rintro (h | h | h)
    · obtain ⟨y, hy, e⟩ := List.mem_map.mp h
      cases e
    · split at h
      · cases List.mem_singleton.mp h
      · cases h
    · obtain ⟨y, hy, h⟩ := List.mem_flatMap.mp h
      simp at h
      exact ⟨y, hy, h⟩
  · rintro ⟨c, hc, h⟩
    refine .inr (.inr (List.mem_flatMap.mpr ⟨c, hc, ?_⟩))
    rcases h with rfl | rfl <;> simp
theorem vals_kind : (∃ d ∈ vals s t, isI d = false) ↔ kindB s = true := by
  unfold kindB
  constructor
  · rintro ⟨d, hd, k⟩
    cases d with
    | int i => cases k
    | none =>
      rw [vals_non.mp hd]
      rfl
    | str x =>
      obtain ⟨c, hc, _⟩ := vals_str.mp hd
      cases e : s.cs with
      | nil => rw [e] at hc; cases hc
      | cons _ _ => simp
    | bool b =>
      unfold vals restV namesV at hd
      simp at hd
    | list b =>
      unfold vals restV namesV at hd
      simp at hd
    | tuple b =>
      unfold vals restV namesV at hd
      simp at hd
    | dict b =>
      unfold vals restV namesV at hd
      simp at hd
  · intro k
    rw [Bool.or_eq_true] at k
    rcases k with k | k
    · exact ⟨_, vals_non.mpr k, rfl⟩
    · cases e : s.cs with
      | nil => rw [e] at k; cases k
      | cons c r => exact ⟨.str (c ++ ".1"), vals_str.mpr ⟨c, by rw [e]; exact List.mem_cons_self, .inl rfl⟩, rfl⟩
theorem vals_nil (w : Wf s) : vals s t ≠ [] ↔ s ≠ eS := by
  constructor
  · rintro h rfl
    exact h rfl
  · intro h z
    apply h
    have k : kindB s = false := by
      cases q : kindB s with
      | false => rfl
      | true =>
        obtain ⟨d, hd, _⟩ := vals_kind (t := t).mpr q
        rw [z] at hd
        cases hd
    unfold kindB at k
    rw [Bool.or_eq_false_iff] at k
    rcases s with ⟨_ | ⟨l, u⟩, n, cs⟩
    · cases cs with
      | nil =>
        simp only at k
        rw [k.1]
        rfl
      | cons _ _ => simp at k
    · have b := w.r l u rfl
      have : PyData.int l ∈ vals ⟨some (l, u), n, cs⟩ t := vals_int.mpr (nums_has rfl (Int.le_refl _) b.2.1 (.inl rfl))
      rw [z] at this
      cases this
end
/-! ### the results and the faults of a pair -/
section
variable {sign : Str} {s t : Sn}
theorem not_eq (q : eqB sign = false) : (sign == "==") = false ∧ (sign == "!=") = false := by
  unfold eqB at q
  rw [decide_eq_false_iff_not] at q
  simp only [List.mem_cons, List.not_mem_nil, or_false, not_or] at q
  exact ⟨by simpa using q.1, by simpa using q.2⟩
theorem mem_R (q : eqB sign = false) {x : Int} : x ∈ resR sign s t ↔ ∃ a ∈ numsI s t, ∃ b ∈ numsI t s, ¬ (divB sign = true ∧ b = 0) ∧ x = resI sign a b := by
  obtain ⟨q1, q2⟩ := not_eq q
  unfold resR
  rw [List.mem_flatMap]
  constructor
  · rintro ⟨a, ha, hx⟩
    obtain ⟨b, hb, hx⟩ := List.mem_flatMap.mp hx
    unfold stR at hx
    rw [q1, q2] at hx
    simp only [cond_false] at hx
    split at hx
    · split at hx
      · cases hx
      · rename_i a b z
        exact ⟨_, vals_int.mp ha, _, vals_int.mp hb, z, List.mem_singleton.mp hx⟩
    · cases hx
  · rintro ⟨a, ha, b, hb, z, rfl⟩
    refine ⟨.int a, vals_int.mpr ha, List.mem_flatMap.mpr ⟨.int b, vals_int.mpr hb, ?_⟩⟩
    unfold stR
    rw [q1, q2]
    simp only [cond_false]
    rw [if_neg z]
    exact List.mem_cons_self
theorem mem_F (q : eqB sign = false) (w : Wf s) (v : Wf t) : (sB ∈ resF sign s t ↔ False) ∧ (sK ∈ resF sign s t ↔ (s ≠ eS ∧ t ≠ eS ∧ (kindB s || kindB t) = true)) ∧
    (sZ ∈ resF sign s t ↔ (divB sign = true ∧ numsI s t ≠ [] ∧ 0 ∈ numsI t s)) ∧ three (resF sign s t) := by
  obtain ⟨q1, q2⟩ := not_eq q
  have st : ∀ a b : D, stF sign a b = match a, b with
    | .int _, .int y => if divB sign = true ∧ y = 0 then [sZ] else []
    | _, _ => [sK] := fun a b => by
    unfold stF
    rw [q1, q2]
    rfl
  have gen : ∀ x, x ∈ resF sign s t ↔ ∃ a ∈ vals s t, ∃ b ∈ vals t s, x ∈ stF sign a b := fun x => by
    unfold resF
    rw [List.mem_flatMap]
    constructor
    · rintro ⟨a, ha, hx⟩
      obtain ⟨b, hb, hx⟩ := List.mem_flatMap.mp hx
      exact ⟨a, ha, b, hb, hx⟩
    · rintro ⟨a, ha, b, hb, hx⟩
      exact ⟨a, ha, List.mem_flatMap.mpr ⟨b, hb, hx⟩⟩
  have two : ∀ x a b, x ∈ stF sign a b → (x = sZ ∧ divB sign = true ∧ ∃ i, a = .int i ∧ b = .int 0) ∨ (x = sK ∧ (isI a = false ∨ isI b = false)) := fun x a b hx => by
    rw [st] at hx
    split at hx
    · split at hx
      · rename_i i y z
        refine .inl ⟨List.mem_singleton.mp hx, z.1, i, rfl, by rw [z.2]⟩
      · cases hx
    · rename_i no
      refine .inr ⟨List.mem_singleton.mp hx, ?_⟩
      cases a <;> first | exact .inl rfl | skip
      cases b <;> first | exact .inr rfl | exact absurd rfl (no _ _ rfl)
  have d1 : sK ≠ sZ := by decide +kernel
  have d2 : sB ≠ sZ := by decide +kernel
  have d3 : sB ≠ sK := by decide +kernel
  refine ⟨⟨fun h => ?_, False.elim⟩, ⟨fun h => ?_, fun ⟨h1, h2, h3⟩ => ?_⟩, ⟨fun h => ?_, fun ⟨h1, h2, h3⟩ => ?_⟩, ?_⟩
  · obtain ⟨a, ha, b, hb, hx⟩ := (gen _).mp h
    rcases two _ _ _ hx with ⟨e, _⟩ | ⟨e, _⟩
    · exact d2 e
    · exact d3 e
  · obtain ⟨a, ha, b, hb, hx⟩ := (gen _).mp h
    rcases two _ _ _ hx with ⟨e, _⟩ | ⟨_, k⟩
    · exact absurd e d1
    · refine ⟨(vals_nil w).mp fun z => (by rw [z] at ha; cases ha), (vals_nil v).mp fun z => (by rw [z] at hb; cases hb), ?_⟩
      rw [Bool.or_eq_true]
      rcases k with k | k
      · exact .inl (vals_kind.mp ⟨a, ha, k⟩)
      · exact .inr (vals_kind.mp ⟨b, hb, k⟩)
  · have n1 := (vals_nil (t := t) w).mpr h1
    have n2 := (vals_nil (t := s) v).mpr h2
    obtain ⟨a, ha⟩ := List.exists_mem_of_ne_nil _ n1
    obtain ⟨b, hb⟩ := List.exists_mem_of_ne_nil _ n2
    have key : ∀ a b : D, isI a = false ∨ isI b = false → sK ∈ stF sign a b := fun a b k => by
      rw [st]
      split
      · rcases k with k | k <;> cases k
      · exact List.mem_cons_self
    rw [Bool.or_eq_true] at h3
    rcases h3 with k | k
    · obtain ⟨d, hd, k⟩ := vals_kind (t := t).mpr k
      exact (gen _).mpr ⟨d, hd, b, hb, key _ _ (.inl k)⟩
    · obtain ⟨d, hd, k⟩ := vals_kind (t := s).mpr k
      exact (gen _).mpr ⟨a, ha, d, hd, key _ _ (.inr k)⟩
  · obtain ⟨a, ha, b, hb, hx⟩ := (gen _).mp h
    rcases two _ _ _ hx with ⟨_, k, i, rfl, rfl⟩ | ⟨e, _⟩
    · exact ⟨k, fun z => (by have := vals_int.mp ha; rw [z] at this; cases this), vals_int.mp hb⟩
    · exact absurd e.symm d1
  · obtain ⟨a, ha⟩ := List.exists_mem_of_ne_nil _ h2
    refine (gen _).mpr ⟨.int a, vals_int.mpr ha, .int 0, vals_int.mpr h3, ?_⟩
    rw [st]
    simp [h1]
  · unfold three
    rw [List.all_eq_true]
    intro x hx
    obtain ⟨a, ha, b, hb, hx⟩ := (gen _).mp hx
    rcases two _ _ _ hx with ⟨rfl, _⟩ | ⟨rfl, _⟩ <;> decide +kernel
theorem F_eq (q : eqB sign = true) : resF sign s t = [] := by
  unfold eqB at q
  have q := of_decide_eq_true q
  have st : ∀ a b : D, stF sign a b = [] := fun a b => by
    unfold stF
    simp only [List.mem_cons, List.not_mem_nil, or_false] at q
    rcases q with rfl | rfl
    · simp
    · cases h : ((("!=" : String) : Str) == "==") <;> simp
  unfold resF
  simp [st]
theorem F_len (w : Wf s) (v : Wf t) : (resF sign s t).length < 100000 := by
  have l1 := vals_len (t := t) w
  have l2 := vals_len (t := s) v
  have n2 : ∀ a b, (stF sign a b).length ≤ 1 := fun a b => by
    unfold stF
    cases (sign == "==") <;> cases (sign == "!=") <;> simp
    split
    · split <;> simp
    · simp
  have fl : ∀ {β : Type} (f : D → List β) (n : Nat) (C : List D), (∀ b, (f b).length ≤ n) → (C.flatMap f).length ≤ n * C.length := fun f n C h => by
    induction C with
    | nil => exact Nat.le_refl _
    | cons c C ih =>
      rw [List.flatMap_cons, List.length_append, List.length_cons, Nat.mul_succ]
      have := h c
      omega
  have h1 : ∀ a, ((vals t s).flatMap (stF sign a)).length ≤ 40 := fun a => by
    have := fl (stF sign a) 1 (vals t s) (n2 a)
    omega
  have h2 := fl (fun a => (vals t s).flatMap (stF sign a)) 40 (vals s t) h1
  unfold resF
  omega
end
end K54

namespace K54
open PySem PySem.Spec L2 G
theorem bt_lt : ((("<" : Str) == "<") = true) := by decide +kernel
theorem r_lt (a b : Int) : resI "<" a b = b2i (decide (a < b)) := by
  have h := bt_lt
  unfold resI
  simp only [h, cond_true, cond_false]
theorem bt_le : ((("<=" : Str) == "<") = false) ∧ ((("<=" : Str) == "<=") = true) := by decide +kernel
theorem r_le (a b : Int) : resI "<=" a b = b2i (decide (a ≤ b)) := by
  have h := bt_le
  unfold resI
  simp only [h, cond_true, cond_false]
theorem bt_gt : (((">" : Str) == "<") = false) ∧ (((">" : Str) == "<=") = false) ∧ (((">" : Str) == ">") = true) := by decide +kernel
theorem r_gt (a b : Int) : resI ">" a b = b2i (decide (b < a)) := by
  have h := bt_gt
  unfold resI
  simp only [h, cond_true, cond_false]
theorem bt_ge : (((">=" : Str) == "<") = false) ∧ (((">=" : Str) == "<=") = false) ∧ (((">=" : Str) == ">") = false) ∧ (((">=" : Str) == ">=") = true) := by decide +kernel
theorem r_ge (a b : Int) : resI ">=" a b = b2i (decide (b ≤ a)) := by
  have h := bt_ge
  unfold resI
  simp only [h, cond_true, cond_false]
theorem bt_add : ((("+" : Str) == "<") = false) ∧ ((("+" : Str) == "<=") = false) ∧ ((("+" : Str) == ">") = false) ∧ ((("+" : Str) == ">=") = false) ∧ ((("+" : Str) == "+") = true) := by decide +kernel
theorem r_add (a b : Int) : resI "+" a b = a + b := by
  have h := bt_add
  unfold resI
  simp only [h, cond_true, cond_false]
theorem bt_sub : ((("-" : Str) == "<") = false) ∧ ((("-" : Str) == "<=") = false) ∧ ((("-" : Str) == ">") = false) ∧ ((("-" : Str) == ">=") = false) ∧ ((("-" : Str) == "+") = false) ∧ ((("-" : Str) == "-") = true) := by decide +kernel
theorem r_sub (a b : Int) : resI "-" a b = a - b := by
  have h := bt_sub
  unfold resI
  simp only [h, cond_true, cond_false]
theorem bt_mul : ((("*" : Str) == "<") = false) ∧ ((("*" : Str) == "<=") = false) ∧ ((("*" : Str) == ">") = false) ∧ ((("*" : Str) == ">=") = false) ∧ ((("*" : Str) == "+") = false) ∧ ((("*" : Str) == "-") = false) ∧ ((("*" : Str) == "*") = true) := by decide +kernel
theorem r_mul (a b : Int) : resI "*" a b = a * b := by
  have h := bt_mul
  unfold resI
  simp only [h, cond_true, cond_false]
theorem bt_div : ((("/" : Str) == "<") = false) ∧ ((("/" : Str) == "<=") = false) ∧ ((("/" : Str) == ">") = false) ∧ ((("/" : Str) == ">=") = false) ∧ ((("/" : Str) == "+") = false) ∧ ((("/" : Str) == "-") = false) ∧ ((("/" : Str) == "*") = false) ∧ ((("/" : Str) == "/") = true) := by decide +kernel
theorem r_div (a b : Int) : resI "/" a b = a.fdiv b := by
  have h := bt_div
  unfold resI
  simp only [h, cond_true, cond_false]
theorem bt_mod : ((("mod" : Str) == "<") = false) ∧ ((("mod" : Str) == "<=") = false) ∧ ((("mod" : Str) == ">") = false) ∧ ((("mod" : Str) == ">=") = false) ∧ ((("mod" : Str) == "+") = false) ∧ ((("mod" : Str) == "-") = false) ∧ ((("mod" : Str) == "*") = false) ∧ ((("mod" : Str) == "/") = false) := by decide +kernel
theorem r_mod (a b : Int) : resI "mod" a b = a - b * a.fdiv b := by
  have h := bt_mod
  unfold resI
  simp only [h, cond_true, cond_false]
theorem o_lt (a b : Int) : ordB "<" a b = decide (a < b) := by
  have h : ((("<" : Str) == "<") = true) := by decide +kernel
  unfold ordB
  simp only [h, cond_true, cond_false]
theorem o_le (a b : Int) : ordB "<=" a b = decide (a ≤ b) := by
  have h : ((("<=" : Str) == "<") = false) ∧ ((("<=" : Str) == "<=") = true) := by decide +kernel
  unfold ordB
  simp only [h, cond_true, cond_false]
theorem o_gt (a b : Int) : ordB ">" a b = decide (b < a) := by
  have h : (((">" : Str) == "<") = false) ∧ (((">" : Str) == "<=") = false) ∧ (((">" : Str) == ">") = true) := by decide +kernel
  unfold ordB
  simp only [h, cond_true, cond_false]
theorem o_ge (a b : Int) : ordB ">=" a b = decide (b ≤ a) := by
  have h : (((">=" : Str) == "<") = false) ∧ (((">=" : Str) == "<=") = false) ∧ (((">=" : Str) == ">") = false) := by decide +kernel
  unfold ordB
  simp only [h, cond_true, cond_false]
theorem n_add (l h l' h' : Int) : endI "+" l h l' h' = [l + l', h + h'] := by
  have q : ((("+" : Str) == "+") = true) := by decide +kernel
  unfold endI
  simp only [q, cond_true, cond_false]
theorem n_sub (l h l' h' : Int) : endI "-" l h l' h' = [l - h', h - l'] := by
  have q : ((("-" : Str) == "+") = false) ∧ ((("-" : Str) == "-") = true) := by decide +kernel
  unfold endI
  simp only [q, cond_true, cond_false]
theorem n_mul (l h l' h' : Int) : endI "*" l h l' h' = [l * l', l * h', h * l', h * h'] := by
  have q : ((("*" : Str) == "+") = false) ∧ ((("*" : Str) == "-") = false) ∧ ((("*" : Str) == "*") = true) := by decide +kernel
  unfold endI
  simp only [q, cond_true, cond_false]
theorem n_div (l h l' h' : Int) : endI "/" l h l' h' = quots l h l' h' := by
  have q : ((("/" : Str) == "+") = false) ∧ ((("/" : Str) == "-") = false) ∧ ((("/" : Str) == "*") = false) := by decide +kernel
  unfold endI
  simp only [q, cond_true, cond_false]

theorem least_same {R E : List Int} (hE : E ≠ []) (sub : ∀ e ∈ E, e ∈ R) (lo : ∀ r ∈ R, ∃ e ∈ E, e ≤ r) (hi : ∀ r ∈ R, ∃ e ∈ E, r ≤ e) : R ≠ [] ∧ leastI R = leastI E ∧ greatI R = greatI E := by
  obtain ⟨e, he⟩ := List.exists_mem_of_ne_nil _ hE
  have hR : R ≠ [] := fun z => by
    have := sub e he
    rw [z] at this
    cases this
  obtain ⟨a1, a2⟩ := leastI_spec E hE
  obtain ⟨b1, b2⟩ := greatI_spec E hE
  refine ⟨hR, (least_uniq hR (sub _ a1) fun r hr => ?_).symm, (great_uniq hR (sub _ b1) fun r hr => ?_).symm⟩
  · obtain ⟨e, he, h⟩ := lo r hr
    exact Int.le_trans (a2 e he) h
  · obtain ⟨e, he, h⟩ := hi r hr
    exact Int.le_trans h (b2 e he)
theorem clip_in {p q : Int} (hp : small p) (hq : small q) : clip p q = if q < p then eS else nS p q := by
  have e1 : (if LG < q then LG else q) = q := if_neg (by have := hq.2; omega)
  have e2 : (if -LG > p then -LG else p) = p := if_neg (by have := hp.1; omega)
  unfold clip
  rw [e1, e2]
theorem clip_plain {lo hi : Int} (h : lo ≤ hi) : Plain (clip lo hi) := by
  unfold clip
  by_cases c : (if LG < hi then LG else hi) < (if -LG > lo then -LG else lo)
  · rw [if_pos c]
    exact .inl rfl
  · rw [if_neg c]
    refine .inr ⟨_, _, rfl, ⟨?_, ?_⟩, ⟨?_, ?_⟩⟩
    · unfold LG; split <;> omega
    · revert c; unfold LG; split <;> split <;> omega
    · revert c; unfold LG; split <;> split <;> omega
    · unfold LG; split <;> omega
theorem clip_in_r {lo hi r : Int} (h1 : lo ≤ r) (h2 : r ≤ hi) (h3 : -LG ≤ r) (h4 : r ≤ LG) : ∃ p q, (clip lo hi).r = some (p, q) ∧ p ≤ r ∧ r ≤ q := by
  unfold clip
  rw [if_neg (by unfold LG at *; split <;> split <;> omega)]
  exact ⟨_, _, rfl, by split <;> omega, by split <;> omega⟩
/-- the law's wanted answer, where the sign is no equality -/
theorem due_of {sign : Str} {s t : Sn} (q : eqB sign = false) (w : Wf s) (v : Wf t) (hs : s ≠ eS) (ht : t ≠ eS) {E : List Int} : dueD E (resF sign s t) = told (dueS E) (decide (E ≠ [] ∧ (leastI E < -LG ∨ LG < greatI E))) (kindB s || kindB t) (decide (divB sign = true ∧ numsI s t ≠ [] ∧ 0 ∈ numsI t s)) := by
  obtain ⟨h1, h2, h3, _⟩ := mem_F (sign := sign) q w v
  unfold dueD
  have e1 : decide (sB ∈ resF sign s t) = false := decide_eq_false fun z => h1.mp z
  have e2 : decide (sK ∈ resF sign s t) = (kindB s || kindB t) := by
    rw [Bool.eq_iff_iff, decide_eq_true_eq, h2]
    exact ⟨fun z => z.2.2, fun z => ⟨hs, ht, z⟩⟩
  have e3 : decide (sZ ∈ resF sign s t) = decide (divB sign = true ∧ numsI s t ≠ [] ∧ 0 ∈ numsI t s) := by
    rw [Bool.eq_iff_iff, decide_eq_true_eq, decide_eq_true_eq, h3]
  rw [e1, e2, e3, Bool.or_false]
end K54

namespace K54
open PySem PySem.Spec L2 G
theorem ite_sm {P : Prop} [Decidable P] {x y : Int} (hx : small x) (hy : small y) : small (if P then x else y) := by
  by_cases p : P
  · rw [if_pos p]; exact hx
  · rw [if_neg p]; exact hy
section
variable {sign : Str} {s t : Sn}
theorem R_nil (h : vals s t = [] ∨ vals t s = []) : resR sign s t = [] ∧ resF sign s t = [] := by
  unfold resR resF
  rcases h with h | h <;> rw [h] <;> simp
theorem pair_empty (hs : sign ∈ signs) (w : Wf s) (v : Wf t) (h : s = eS ∨ t = eS) : m__law_combined [.str sign, s.d, t.d] = some (.bool true) := by
  have hb : (decide (s = eS) || decide (t = eS)) = true := by rcases h with h | h <;> simp [h]
  have z : resR sign s t = [] ∧ resF sign s t = [] := R_nil (by rcases h with rfl | rfl; exact .inl rfl; exact .inr rfl)
  refine comb_ok hs w v (E := []) (T := eS) (.inl rfl) (c_empty hs w v hb) ?_ ?_ ?_ ?_ ?_ ?_
  · rw [z.1]
    simp
  · intro _ k
    exact absurd z.1 k
  · rw [z.2]
    unfold dueD dueS
    simp
  · rw [z.2]
    decide +kernel
  · rw [z.2]
    decide
  · rw [z.1]
    intro r hr
    cases hr
theorem pair_none (hs : sign ∈ signs) (w : Wf s) (v : Wf t) (h1 : s ≠ eS) (h2 : t ≠ eS) (q : eqB sign = false) (nn : s.r = none ∨ t.r = none) : m__law_combined [.str sign, s.d, t.d] = some (.bool true) := by
  have hb : (decide (s = eS) || decide (t = eS)) = false := by simp [h1, h2]
  have z : resR sign s t = [] := by
    apply List.eq_nil_iff_forall_not_mem.mpr
    intro x hx
    obtain ⟨a, ha, b, hb, _⟩ := (mem_R q).mp hx
    rcases nn with nn | nn
    · rw [nums_none nn] at ha; cases ha
    · rw [nums_none nn] at hb; cases hb
  have zz : decide (divB sign = true ∧ numsI s t ≠ [] ∧ 0 ∈ numsI t s) = false := decide_eq_false fun k => by
    rcases nn with nn | nn
    · exact k.2.1 (nums_none nn)
    · have := k.2.2
      rw [nums_none nn] at this
      cases this
  refine comb_ok hs w v (E := []) (T := eS) (.inl rfl) (c_none hs w v hb q nn) ?_ ?_ ?_ (mem_F q w v).2.2.2 (F_len w v) ?_
  · rw [z]
    simp
  · intro _ k
    exact absurd z k
  · rw [due_of q w v h1 h2, zz]
    unfold dueS
    simp
  · rw [z]
    intro r hr
    cases hr
variable {l h l' h' : Int} (e : s.r = some (l, h)) (e' : t.r = some (l', h'))
include e e'
theorem ne_eS : s ≠ eS ∧ t ≠ eS := ⟨fun z => (by rw [z] at e; cases e), fun z => (by rw [z] at e'; cases e')⟩
theorem z_same (w : Wf s) : decide (divB sign = true ∧ numsI s t ≠ [] ∧ 0 ∈ numsI t s) = zB sign l' h' := by
  have b := w.r l h e
  have n1 : numsI s t ≠ [] := fun z => by
    have := nums_has (t := t) e (Int.le_refl l) b.2.1 (.inl rfl)
    rw [z] at this
    cases this
  have n2 : 0 ∈ numsI t s ↔ l' ≤ 0 ∧ 0 ≤ h' := ⟨fun z => nums_in e' z, fun z => nums_has e' z.1 z.2 (.inr (.inr (.inr (.inl rfl))))⟩
  unfold zB
  rw [Bool.eq_iff_iff]
  simp [n1, n2]
/-- the signs whose results are told by their ends -/
theorem pair_num (hs : sign ∈ signs) (w : Wf s) (v : Wf t) (q : eqB sign = false) (c : cmpB sign = false) (m : (sign == "mod") = false) (nz : divB sign = true → ¬ (l' = 0 ∧ h' = 0)) (hE : endI sign l h l' h' ≠ [])
    (sub : ∀ x ∈ endI sign l h l' h', x ∈ resR sign s t) (lo : ∀ r ∈ resR sign s t, ∃ x ∈ endI sign l h l' h', x ≤ r) (hi : ∀ r ∈ resR sign s t, ∃ x ∈ endI sign l h l' h', r ≤ x) : m__law_combined [.str sign, s.d, t.d] = some (.bool true) := by
  obtain ⟨h1, h2⟩ := ne_eS e e'
  obtain ⟨r1, r2, r3⟩ := least_same hE sub lo hi
  have le : leastI (resR sign s t) ≤ greatI (resR sign s t) := (leastI_spec _ r1).2 _ (greatI_spec _ r1).1
  refine comb_ok hs w v (E := resR sign s t) (T := clip (leastI (endI sign l h l' h')) (greatI (endI sign l h l' h'))) ?_ (c_num hs w v e e' q c m nz hE) ?_ ?_ ?_ (mem_F q w v).2.2.2 (F_len w v) ?_
  · rw [← r2, ← r3]
    exact clip_plain le
  · rw [if_neg fun z => by rw [m] at z; cases z.1]
  · intro z
    rw [m] at z
    cases z
  · rw [due_of q w v h1 h2, z_same e e' w]
    unfold dueS
    rw [if_neg r1, r2, r3]
    congr 1
    rw [Bool.eq_iff_iff]
    simp [r1]
  · intro r hr a b
    rw [← r2, ← r3]
    exact clip_in_r ((leastI_spec _ r1).2 r hr) ((greatI_spec _ r1).2 r hr) a b
theorem pair_cmp (hs : sign ∈ signs) (w : Wf s) (v : Wf t) (q : eqB sign = false) (c : cmpB sign = true) : m__law_combined [.str sign, s.d, t.d] = some (.bool true) := by
  obtain ⟨h1, h2⟩ := ne_eS e e'
  have b := w.r l h e
  have b' := v.r l' h' e'
  have cs := of_decide_eq_true c
  have dv : divB sign = false := by
    simp only [List.mem_cons, List.not_mem_nil, or_false] at cs
    rcases cs with rfl | rfl | rfl | rfl <;> decide +kernel
  have md : (sign == "mod") = false := by
    simp only [List.mem_cons, List.not_mem_nil, or_false] at cs
    rcases cs with rfl | rfl | rfl | rfl <;> decide +kernel
  have ro : ∀ a b, resI sign a b = b2i (ordB sign a b) := by
    simp only [List.mem_cons, List.not_mem_nil, or_false] at cs
    intro a b
    rcases cs with rfl | rfl | rfl | rfl
    · rw [r_lt, o_lt]
    · rw [r_le, o_le]
    · rw [r_gt, o_gt]
    · rw [r_ge, o_ge]
  have ends : ∀ a b, l ≤ a → a ≤ h → l' ≤ b → b ≤ h' → (b2i (ordB sign l h') ≤ b2i (ordB sign a b) ∧ b2i (ordB sign a b) ≤ b2i (ordB sign h l')) ∨ (b2i (ordB sign h l') ≤ b2i (ordB sign a b) ∧ b2i (ordB sign a b) ≤ b2i (ordB sign l h')) := by
    simp only [List.mem_cons, List.not_mem_nil, or_false] at cs
    have bl : ∀ (P Q : Prop) [Decidable P] [Decidable Q], (P → Q) → b2i (decide P) ≤ b2i (decide Q) := fun P Q _ _ i => by
      unfold b2i
      by_cases p : P
      · simp [p, i p]
      · by_cases q : Q <;> simp [p, q]
    intro a b a1 a2 b1 b2
    rcases cs with rfl | rfl | rfl | rfl
    · rw [o_lt, o_lt, o_lt]
      exact .inr ⟨bl _ _ (by omega), bl _ _ (by omega)⟩
    · rw [o_le, o_le, o_le]
      exact .inr ⟨bl _ _ (by omega), bl _ _ (by omega)⟩
    · rw [o_gt, o_gt, o_gt]
      exact .inl ⟨bl _ _ (by omega), bl _ _ (by omega)⟩
    · rw [o_ge, o_ge, o_ge]
      exact .inl ⟨bl _ _ (by omega), bl _ _ (by omega)⟩
  have hl := nums_has (t := t) e (Int.le_refl l) b.2.1 (.inl rfl)
  have hh := nums_has (t := t) e b.2.1 (Int.le_refl h) (.inr (.inl rfl))
  have hl' := nums_has (t := s) e' (Int.le_refl l') b'.2.1 (.inl rfl)
  have hh' := nums_has (t := s) e' b'.2.1 (Int.le_refl h') (.inr (.inl rfl))
  have nd : ∀ b : Int, ¬ (divB sign = true ∧ b = 0) := fun b z => by rw [dv] at z; cases z.1
  obtain ⟨r1, r2, r3⟩ := least_same (R := resR sign s t) (E := [b2i (ordB sign l h'), b2i (ordB sign h l')]) (List.cons_ne_nil _ _) (by
    intro x hx
    simp only [List.mem_cons, List.not_mem_nil, or_false] at hx
    rcases hx with rfl | rfl
    · exact (mem_R q).mpr ⟨l, hl, h', hh', nd _, (ro _ _).symm⟩
    · exact (mem_R q).mpr ⟨h, hh, l', hl', nd _, (ro _ _).symm⟩) (by
    intro r hr
    obtain ⟨a, ha, b, hb, _, rfl⟩ := (mem_R q).mp hr
    rw [ro]
    rcases ends a b (nums_in e ha).1 (nums_in e ha).2 (nums_in e' hb).1 (nums_in e' hb).2 with z | z
    · exact ⟨_, List.mem_cons_self, z.1⟩
    · exact ⟨_, List.mem_cons_of_mem _ List.mem_cons_self, z.1⟩) (by
    intro r hr
    obtain ⟨a, ha, b, hb, _, rfl⟩ := (mem_R q).mp hr
    rw [ro]
    rcases ends a b (nums_in e ha).1 (nums_in e ha).2 (nums_in e' hb).1 (nums_in e' hb).2 with z | z
    · exact ⟨_, List.mem_cons_of_mem _ List.mem_cons_self, z.2⟩
    · exact ⟨_, List.mem_cons_self, z.2⟩)
  have bit : ∀ z : Bool, small (b2i z) := fun z => by cases z <;> exact ⟨by decide, by decide⟩
  have cl : cmpS sign l h l' h' = clip (leastI (resR sign s t)) (greatI (resR sign s t)) := by
    rw [r2, r3]
    unfold cmpS
    simp only [leastI, greatI]
    rw [clip_in]
    · rfl
    · exact ite_sm (bit _) (bit _)
    · exact ite_sm (bit _) (bit _)
  have le : leastI (resR sign s t) ≤ greatI (resR sign s t) := (leastI_spec _ r1).2 _ (greatI_spec _ r1).1
  have sm : -LG ≤ leastI (resR sign s t) ∧ greatI (resR sign s t) ≤ LG := by
    rw [r2, r3]
    simp only [leastI, greatI]
    exact ⟨(ite_sm (bit _) (bit _)).1, (ite_sm (bit _) (bit _)).2⟩
  refine comb_ok hs w v (E := resR sign s t) (T := cmpS sign l h l' h') ?_ (c_cmp hs w v e e' q c) ?_ ?_ ?_ (mem_F q w v).2.2.2 (F_len w v) ?_
  · rw [cl]
    exact clip_plain le
  · rw [if_neg fun z => by rw [md] at z; cases z.1]
  · intro z
    rw [md] at z
    cases z
  · rw [due_of q w v h1 h2, z_same e e' w, cl]
    unfold dueS zB
    rw [if_neg r1, dv, Bool.false_and, decide_eq_false (by omega)]
  · intro r hr a b
    rw [cl]
    exact clip_in_r ((leastI_spec _ r1).2 r hr) ((greatI_spec _ r1).2 r hr) a b
end
end K54

namespace K54
open PySem PySem.Spec L2 G
/-! ### products and quotients by their corners -/
theorem mul_corner {l h l' h' a b : Int} (a1 : l ≤ a) (a2 : a ≤ h) (b1 : l' ≤ b) (b2 : b ≤ h') : (∃ x ∈ [l * l', l * h', h * l', h * h'], x ≤ a * b) ∧ (∃ x ∈ [l * l', l * h', h * l', h * h'], a * b ≤ x) := by
  have up : ∀ c : Int, (c * l' ≤ c * b ∧ c * b ≤ c * h') ∨ (c * h' ≤ c * b ∧ c * b ≤ c * l') := fun c => by
    rcases Int.le_total 0 c with z | z
    · exact .inl ⟨Int.mul_le_mul_of_nonneg_left b1 z, Int.mul_le_mul_of_nonneg_left b2 z⟩
    · exact .inr ⟨Int.mul_le_mul_of_nonpos_left z b2, Int.mul_le_mul_of_nonpos_left z b1⟩
  have one : (l * b ≤ a * b ∧ a * b ≤ h * b) ∨ (h * b ≤ a * b ∧ a * b ≤ l * b) := by
    rcases Int.le_total 0 b with z | z
    · exact .inl ⟨Int.mul_le_mul_of_nonneg_right a1 z, Int.mul_le_mul_of_nonneg_right a2 z⟩
    · exact .inr ⟨Int.mul_le_mul_of_nonpos_right a2 z, Int.mul_le_mul_of_nonpos_right a1 z⟩
  have e1 : l * l' ∈ [l * l', l * h', h * l', h * h'] := by simp
  have e2 : l * h' ∈ [l * l', l * h', h * l', h * h'] := by simp
  have e3 : h * l' ∈ [l * l', l * h', h * l', h * h'] := by simp
  have e4 : h * h' ∈ [l * l', l * h', h * l', h * h'] := by simp
  have bl : ∀ y, y = l * b ∨ y = h * b → (∃ x ∈ [l * l', l * h', h * l', h * h'], x ≤ y) ∧ (∃ x ∈ [l * l', l * h', h * l', h * h'], y ≤ x) := by
    intro y hy
    rcases hy with rfl | rfl
    · rcases up l with z | z
      · exact ⟨⟨_, e1, z.1⟩, ⟨_, e2, z.2⟩⟩
      · exact ⟨⟨_, e2, z.1⟩, ⟨_, e1, z.2⟩⟩
    · rcases up h with z | z
      · exact ⟨⟨_, e3, z.1⟩, ⟨_, e4, z.2⟩⟩
      · exact ⟨⟨_, e4, z.1⟩, ⟨_, e3, z.2⟩⟩
  rcases one with z | z
  · obtain ⟨x, hx, k⟩ := (bl _ (.inl rfl)).1
    obtain ⟨y, hy, k'⟩ := (bl _ (.inr rfl)).2
    exact ⟨⟨x, hx, Int.le_trans k z.1⟩, ⟨y, hy, Int.le_trans z.2 k'⟩⟩
  · obtain ⟨x, hx, k⟩ := (bl _ (.inr rfl)).1
    obtain ⟨y, hy, k'⟩ := (bl _ (.inl rfl)).2
    exact ⟨⟨x, hx, Int.le_trans k z.1⟩, ⟨y, hy, Int.le_trans z.2 k'⟩⟩
theorem ediv_between {n p b q : Int} (hp : 0 < p) (h1 : p ≤ b) (h2 : b ≤ q) : (n / q ≤ n / b ∧ n / b ≤ n / p) ∨ (n / p ≤ n / b ∧ n / b ≤ n / q) := by
  have pos : ∀ x y : Int, 0 < x → x ≤ y → 0 ≤ n → n / y ≤ n / x := fun x y hx hxy hn => by
    refine Int.le_ediv_of_mul_le hx ?_
    have q0 : 0 ≤ n / y := Int.ediv_nonneg hn (by omega)
    have := Int.mul_le_mul_of_nonneg_left hxy q0
    have := Int.ediv_mul_le n (b := y) (by omega)
    omega
  have neg : ∀ x y : Int, 0 < x → x ≤ y → n < 0 → n / x ≤ n / y := fun x y hx hxy hn => by
    refine Int.le_ediv_of_mul_le (by omega) ?_
    have q0 : n / x < 0 := Int.ediv_neg_of_neg_of_pos hn hx
    have := Int.mul_le_mul_of_nonpos_left (a := n / x) (by omega) hxy
    have := Int.ediv_mul_le n (b := x) (by omega)
    omega
  rcases Int.lt_or_le n 0 with z | z
  · exact .inr ⟨neg p b hp h1 z, neg b q (by omega) h2 z⟩
  · exact .inl ⟨pos b q (by omega) h2 z, pos p b hp h1 z⟩
/-- a positive divisor -/
theorem pos_corner {l h p q a b : Int} (a1 : l ≤ a) (a2 : a ≤ h) (hp : 0 < p) (b1 : p ≤ b) (b2 : b ≤ q) : (∃ n d, (n = l ∨ n = h) ∧ (d = p ∨ d = q) ∧ n / d ≤ a / b) ∧ (∃ n d, (n = l ∨ n = h) ∧ (d = p ∨ d = q) ∧ a / b ≤ n / d) := by
  have m1 := Int.ediv_le_ediv (c := b) (by omega) a1
  have m2 := Int.ediv_le_ediv (c := b) (by omega) a2
  constructor
  · rcases ediv_between (n := l) hp b1 b2 with z | z
    · exact ⟨l, q, .inl rfl, .inr rfl, Int.le_trans z.1 m1⟩
    · exact ⟨l, p, .inl rfl, .inl rfl, Int.le_trans z.1 m1⟩
  · rcases ediv_between (n := h) hp b1 b2 with z | z
    · exact ⟨h, p, .inr rfl, .inl rfl, Int.le_trans m2 z.2⟩
    · exact ⟨h, q, .inr rfl, .inr rfl, Int.le_trans m2 z.2⟩
theorem mem_quots {l h l' h' x : Int} : x ∈ quots l h l' h' ↔ ∃ n d, (n = l ∨ n = h) ∧ d ∈ divsI l' h' ∧ x = n.fdiv d := by
  unfold quots
  rw [List.mem_flatMap]
  constructor
  · rintro ⟨n, hn, hx⟩
    obtain ⟨d, hd, rfl⟩ := List.mem_map.mp hx
    exact ⟨n, d, by simpa using hn, hd, rfl⟩
  · rintro ⟨n, d, hn, hd, rfl⟩
    exact ⟨n, by simpa using hn, List.mem_map_of_mem hd⟩
theorem div_corner {l h l' h' a b : Int} (a1 : l ≤ a) (a2 : a ≤ h) (b1 : l' ≤ b) (b2 : b ≤ h') (z : b ≠ 0) : (∃ x ∈ quots l h l' h', x ≤ a.fdiv b) ∧ (∃ x ∈ quots l h l' h', a.fdiv b ≤ x) := by
  have fd : ∀ n d : Int, 0 < d → n.fdiv d = n / d := fun n d hd => Int.fdiv_eq_ediv_of_nonneg n (by omega)
  rcases Int.lt_or_gt_of_ne z with z | z
  · -- a negative divisor
    have h0 : l' < 0 := by omega
    have d1 : l' ∈ divsI l' h' := by unfold divsI; rw [if_pos h0]; exact List.mem_append_left _ List.mem_cons_self
    have d2 : (if -1 < h' then -1 else h') ∈ divsI l' h' := by unfold divsI; rw [if_pos h0]; exact List.mem_append_left _ (List.mem_cons_of_mem _ List.mem_cons_self)
    generalize hm : (if -1 < h' then -1 else h') = m at d2
    have m1 : b ≤ m := by rw [← hm]; split <;> omega
    have m2 : m < 0 := by rw [← hm]; split <;> omega
    have neg : ∀ n d : Int, d < 0 → n.fdiv d = (-n) / (-d) := fun n d hd => by rw [← Int.neg_fdiv_neg, fd _ _ (by omega)]
    obtain ⟨⟨n, d, hn, hd, k⟩, ⟨n', d', hn', hd', k'⟩⟩ := pos_corner (l := -h) (h := -l) (p := -m) (q := -l') (a := -a) (b := -b) (by omega) (by omega) (by omega) (by omega) (by omega)
    rw [neg a b z]
    constructor
    · refine ⟨(-n).fdiv (-d), mem_quots.mpr ⟨-n, -d, by omega, ?_, rfl⟩, ?_⟩
      · rcases hd with rfl | rfl
        · rw [Int.neg_neg]; exact d2
        · rw [Int.neg_neg]; exact d1
      · rw [Int.neg_fdiv_neg, fd _ _ (by rcases hd with rfl | rfl <;> omega)]
        exact k
    · refine ⟨(-n').fdiv (-d'), mem_quots.mpr ⟨-n', -d', by omega, ?_, rfl⟩, ?_⟩
      · rcases hd' with rfl | rfl
        · rw [Int.neg_neg]; exact d2
        · rw [Int.neg_neg]; exact d1
      · rw [Int.neg_fdiv_neg, fd _ _ (by rcases hd' with rfl | rfl <;> omega)]
        exact k'
  · have h0 : 0 < h' := by omega
    have d1 : (if 1 > l' then 1 else l') ∈ divsI l' h' := by unfold divsI; rw [if_pos h0]; exact List.mem_append_right _ List.mem_cons_self
    have d2 : h' ∈ divsI l' h' := by unfold divsI; rw [if_pos h0]; exact List.mem_append_right _ (List.mem_cons_of_mem _ List.mem_cons_self)
    generalize hm : (if 1 > l' then 1 else l') = m at d1
    have m1 : m ≤ b := by rw [← hm]; split <;> omega
    have m2 : 0 < m := by rw [← hm]; split <;> omega
    obtain ⟨⟨n, d, hn, hd, k⟩, ⟨n', d', hn', hd', k'⟩⟩ := pos_corner (l := l) (h := h) (p := m) (q := h') (a := a) (b := b) a1 a2 m2 m1 b2
    rw [fd a b z]
    constructor
    · refine ⟨n.fdiv d, mem_quots.mpr ⟨n, d, hn, by rcases hd with rfl | rfl <;> assumption, rfl⟩, ?_⟩
      rw [fd _ _ (by rcases hd with rfl | rfl <;> omega)]
      exact k
    · refine ⟨n'.fdiv d', mem_quots.mpr ⟨n', d', hn', by rcases hd' with rfl | rfl <;> assumption, rfl⟩, ?_⟩
      rw [fd _ _ (by rcases hd' with rfl | rfl <;> omega)]
      exact k'
section
variable {s t : Sn} (w : Wf s) (v : Wf t) {l h l' h' : Int} (e : s.r = some (l, h)) (e' : t.r = some (l', h'))
include w v e e'
theorem corners : l ∈ numsI s t ∧ h ∈ numsI s t ∧ l' ∈ numsI t s ∧ h' ∈ numsI t s := by
  have b := w.r l h e
  have b' := v.r l' h' e'
  exact ⟨nums_has e (Int.le_refl l) b.2.1 (.inl rfl), nums_has e b.2.1 (Int.le_refl h) (.inr (.inl rfl)), nums_has e' (Int.le_refl l') b'.2.1 (.inl rfl), nums_has e' b'.2.1 (Int.le_refl h') (.inr (.inl rfl))⟩
theorem pair_add : m__law_combined [.str "+", s.d, t.d] = some (.bool true) := by
  obtain ⟨c1, c2, c3, c4⟩ := corners w v e e'
  have q : eqB "+" = false := by decide +kernel
  have nd : divB "+" = false := by decide +kernel
  have no : ∀ b : Int, ¬ (divB "+" = true ∧ b = 0) := fun b z => by rw [nd] at z; cases z.1
  refine pair_num e e' (by decide +kernel) w v q (by decide +kernel) (by decide +kernel) (fun z => by rw [nd] at z; cases z) ?_ ?_ ?_ ?_ <;> rw [n_add]
  · exact List.cons_ne_nil _ _
  · intro x hx
    simp only [List.mem_cons, List.not_mem_nil, or_false] at hx
    rcases hx with rfl | rfl
    · exact (mem_R q).mpr ⟨l, c1, l', c3, no _, (r_add _ _).symm⟩
    · exact (mem_R q).mpr ⟨h, c2, h', c4, no _, (r_add _ _).symm⟩
  · intro r hr
    obtain ⟨a, ha, b, hb, _, rfl⟩ := (mem_R q).mp hr
    rw [r_add]
    have := nums_in e ha
    have := nums_in e' hb
    exact ⟨_, List.mem_cons_self, by omega⟩
  · intro r hr
    obtain ⟨a, ha, b, hb, _, rfl⟩ := (mem_R q).mp hr
    rw [r_add]
    have := nums_in e ha
    have := nums_in e' hb
    exact ⟨_, List.mem_cons_of_mem _ List.mem_cons_self, by omega⟩
theorem pair_sub : m__law_combined [.str "-", s.d, t.d] = some (.bool true) := by
  obtain ⟨c1, c2, c3, c4⟩ := corners w v e e'
  have q : eqB "-" = false := by decide +kernel
  have nd : divB "-" = false := by decide +kernel
  have no : ∀ b : Int, ¬ (divB "-" = true ∧ b = 0) := fun b z => by rw [nd] at z; cases z.1
  refine pair_num e e' (by decide +kernel) w v q (by decide +kernel) (by decide +kernel) (fun z => by rw [nd] at z; cases z) ?_ ?_ ?_ ?_ <;> rw [n_sub]
  · exact List.cons_ne_nil _ _
  · intro x hx
    simp only [List.mem_cons, List.not_mem_nil, or_false] at hx
    rcases hx with rfl | rfl
    · exact (mem_R q).mpr ⟨l, c1, h', c4, no _, (r_sub _ _).symm⟩
    · exact (mem_R q).mpr ⟨h, c2, l', c3, no _, (r_sub _ _).symm⟩
  · intro r hr
    obtain ⟨a, ha, b, hb, _, rfl⟩ := (mem_R q).mp hr
    rw [r_sub]
    have := nums_in e ha
    have := nums_in e' hb
    exact ⟨_, List.mem_cons_self, by omega⟩
  · intro r hr
    obtain ⟨a, ha, b, hb, _, rfl⟩ := (mem_R q).mp hr
    rw [r_sub]
    have := nums_in e ha
    have := nums_in e' hb
    exact ⟨_, List.mem_cons_of_mem _ List.mem_cons_self, by omega⟩
theorem pair_mul : m__law_combined [.str "*", s.d, t.d] = some (.bool true) := by
  obtain ⟨c1, c2, c3, c4⟩ := corners w v e e'
  have q : eqB "*" = false := by decide +kernel
  have nd : divB "*" = false := by decide +kernel
  have no : ∀ b : Int, ¬ (divB "*" = true ∧ b = 0) := fun b z => by rw [nd] at z; cases z.1
  refine pair_num e e' (by decide +kernel) w v q (by decide +kernel) (by decide +kernel) (fun z => by rw [nd] at z; cases z) ?_ ?_ ?_ ?_ <;> rw [n_mul]
  · exact List.cons_ne_nil _ _
  · intro x hx
    simp only [List.mem_cons, List.not_mem_nil, or_false] at hx
    rcases hx with rfl | rfl | rfl | rfl
    · exact (mem_R q).mpr ⟨l, c1, l', c3, no _, (r_mul _ _).symm⟩
    · exact (mem_R q).mpr ⟨l, c1, h', c4, no _, (r_mul _ _).symm⟩
    · exact (mem_R q).mpr ⟨h, c2, l', c3, no _, (r_mul _ _).symm⟩
    · exact (mem_R q).mpr ⟨h, c2, h', c4, no _, (r_mul _ _).symm⟩
  · intro r hr
    obtain ⟨a, ha, b, hb, _, rfl⟩ := (mem_R q).mp hr
    rw [r_mul]
    exact (mul_corner (nums_in e ha).1 (nums_in e ha).2 (nums_in e' hb).1 (nums_in e' hb).2).1
  · intro r hr
    obtain ⟨a, ha, b, hb, _, rfl⟩ := (mem_R q).mp hr
    rw [r_mul]
    exact (mul_corner (nums_in e ha).1 (nums_in e ha).2 (nums_in e' hb).1 (nums_in e' hb).2).2
theorem divs_in {d : Int} (hd : d ∈ divsI l' h') : d ∈ numsI t s ∧ d ≠ 0 := by
  have b' := v.r l' h' e'
  have k := divs_ok b'.1 b'.2.1 b'.2.2 hd
  refine ⟨nums_has e' k.2.2.1 k.2.2.2 ?_, k.1⟩
  unfold divsI at hd
  by_cases h1 : l' < 0 <;> by_cases h2 : 0 < h' <;> simp only [h1, h2, if_true, if_false, List.append_nil, List.nil_append, List.cons_append, List.mem_cons, List.not_mem_nil, or_false] at hd
  · rcases hd with hd | hd | hd | hd <;> (try split at hd) <;> simp [hd]
  · rcases hd with hd | hd <;> (try split at hd) <;> simp [hd]
  · rcases hd with hd | hd <;> (try split at hd) <;> simp [hd]
theorem zero_R {sign : Str} (q : eqB sign = false) (d : divB sign = true) (z : l' = 0 ∧ h' = 0) : resR sign s t = [] := by
  apply List.eq_nil_iff_forall_not_mem.mpr
  intro x hx
  obtain ⟨a, ha, b, hb, k, _⟩ := (mem_R q).mp hx
  have := nums_in e' hb
  exact k ⟨d, by omega⟩
theorem pair_zero' {sign : Str} (hs : sign ∈ signs) (q : eqB sign = false) (c : cmpB sign = false) (d : divB sign = true) (z : l' = 0 ∧ h' = 0) : m__law_combined [.str sign, s.d, t.d] = some (.bool true) := by
  obtain ⟨h1, h2⟩ := ne_eS e e'
  have nil := zero_R w v e e' q d z
  refine comb_ok hs w v (E := []) (T := eS) (.inl rfl) (c_zero hs w v e e' q c d z.1 z.2) ?_ ?_ ?_ (mem_F q w v).2.2.2 (F_len w v) ?_
  · rw [nil]
    simp
  · intro _ k
    exact absurd nil k
  · rw [due_of q w v h1 h2, z_same e e' w]
    unfold dueS zB
    rw [d, z.1, z.2]
    simp
  · rw [nil]
    intro r hr
    cases hr
theorem pair_div : m__law_combined [.str "/", s.d, t.d] = some (.bool true) := by
  obtain ⟨c1, c2, c3, c4⟩ := corners w v e e'
  have b' := v.r l' h' e'
  have q : eqB "/" = false := by decide +kernel
  have d : divB "/" = true := by decide +kernel
  by_cases z : l' = 0 ∧ h' = 0
  · exact pair_zero' w v e e' (by decide +kernel) q (by decide +kernel) d z
  · refine pair_num e e' (by decide +kernel) w v q (by decide +kernel) (by decide +kernel) (fun _ => z) ?_ ?_ ?_ ?_ <;> rw [n_div]
    · have nz : divsI l' h' ≠ [] := by
        unfold divsI
        by_cases h1 : l' < 0
        · simp [h1]
        · have : 0 < h' := by omega
          simp [h1, this]
      obtain ⟨x, hx⟩ := List.exists_mem_of_ne_nil _ nz
      intro k
      have := (mem_quots (l := l) (h := h)).mpr ⟨l, x, .inl rfl, hx, rfl⟩
      rw [k] at this
      cases this
    · intro x hx
      obtain ⟨n, y, hn, hy, rfl⟩ := mem_quots.mp hx
      have k := divs_in w v e e' hy
      refine (mem_R q).mpr ⟨n, by rcases hn with rfl | rfl <;> assumption, y, k.1, fun z => k.2 z.2, (r_div _ _).symm⟩
    · intro r hr
      obtain ⟨a, ha, b, hb, k, rfl⟩ := (mem_R q).mp hr
      rw [r_div]
      exact (div_corner (nums_in e ha).1 (nums_in e ha).2 (nums_in e' hb).1 (nums_in e' hb).2 fun z => k ⟨d, z⟩).1
    · intro r hr
      obtain ⟨a, ha, b, hb, k, rfl⟩ := (mem_R q).mp hr
      rw [r_div]
      exact (div_corner (nums_in e ha).1 (nums_in e ha).2 (nums_in e' hb).1 (nums_in e' hb).2 fun z => k ⟨d, z⟩).2
theorem pair_mod : m__law_combined [.str "mod", s.d, t.d] = some (.bool true) := by
  obtain ⟨h1, h2⟩ := ne_eS e e'
  obtain ⟨c1, c2, c3, c4⟩ := corners w v e e'
  have b' := v.r l' h' e'
  have q : eqB "mod" = false := by decide +kernel
  have d : divB "mod" = true := by decide +kernel
  have hs : ("mod" : Str) ∈ signs := by decide +kernel
  by_cases z : l' = 0 ∧ h' = 0
  · exact pair_zero' w v e e' hs q (by decide +kernel) d z
  · have R1 : resR "mod" s t ≠ [] := fun k => by
      have : ∃ b ∈ numsI t s, b ≠ 0 := by
        by_cases z1 : l' = 0
        · exact ⟨h', c4, fun y => z ⟨z1, y⟩⟩
        · exact ⟨l', c3, z1⟩
      obtain ⟨b, hb, nb⟩ := this
      have := (mem_R (sign := "mod") (s := s) (t := t) q).mpr ⟨l, c1, b, hb, fun y => nb y.2, rfl⟩
      rw [k] at this
      cases this
    have nil : restsI l' h' ≠ [] := by
      unfold restsI
      by_cases k1 : l' < 0
      · simp [k1]
      · have : 0 < h' := by omega
        simp [k1, this]
    have ends : leastI (restsI l' h') = (if 0 < l' + 1 then 0 else l' + 1) ∧ greatI (restsI l' h') = (if 0 > h' - 1 then 0 else h' - 1) := by
      constructor
      · refine (least_uniq nil ?_ ?_).symm
        · unfold restsI
          by_cases k1 : l' < 0 <;> by_cases k2 : 0 < h' <;> simp only [k1, k2, if_true, if_false, List.append_nil, List.nil_append, List.cons_append, List.mem_cons, List.not_mem_nil, or_false]
          · split <;> omega
          · split <;> omega
          · split <;> omega
          · exact absurd ⟨by omega, by omega⟩ z
        · intro y hy
          unfold restsI at hy
          by_cases k1 : l' < 0 <;> by_cases k2 : 0 < h' <;> simp only [k1, k2, if_true, if_false, List.append_nil, List.nil_append, List.cons_append, List.mem_cons, List.not_mem_nil, or_false] at hy
          · split <;> omega
          · split <;> omega
          · split <;> omega
      · refine (great_uniq nil ?_ ?_).symm
        · unfold restsI
          by_cases k1 : l' < 0 <;> by_cases k2 : 0 < h' <;> simp only [k1, k2, if_true, if_false, List.append_nil, List.nil_append, List.cons_append, List.mem_cons, List.not_mem_nil, or_false]
          · split <;> omega
          · split <;> omega
          · split <;> omega
          · exact absurd ⟨by omega, by omega⟩ z
        · intro y hy
          unfold restsI at hy
          by_cases k1 : l' < 0 <;> by_cases k2 : 0 < h' <;> simp only [k1, k2, if_true, if_false, List.append_nil, List.nil_append, List.cons_append, List.mem_cons, List.not_mem_nil, or_false] at hy
          · split <;> omega
          · split <;> omega
          · split <;> omega
    generalize hp : (if 0 < l' + 1 then 0 else l' + 1) = p at ends
    generalize hq : (if 0 > h' - 1 then 0 else h' - 1) = u at ends
    have sp : small p ∧ p ≤ 0 := by
      unfold small
      rw [← hp]
      unfold LG at *
      split <;> omega
    have su : small u ∧ 0 ≤ u := by
      unfold small
      rw [← hq]
      unfold LG at *
      split <;> omega
    have rem : remS l' h' = nS p u := by
      unfold remS
      rw [hp, hq]
      simp only
      rw [if_neg (by omega)]
    refine comb_ok hs w v (E := restsI l' h') (T := remS l' h') ?_ (c_mod hs w v e e' q (by decide +kernel) d (by decide +kernel) z) ?_ ?_ ?_ (mem_F q w v).2.2.2 (F_len w v) ?_
    · rw [rem]
      exact .inr ⟨p, u, rfl, sp.1, su.1⟩
    · rw [if_pos ⟨by decide +kernel, R1⟩, e']
    · intro _ _
      exact ⟨l', h', e'⟩
    · rw [due_of q w v h1 h2, z_same e e' w]
      unfold dueS
      rw [if_neg nil, ends.1, ends.2, clip_in sp.1 su.1, if_neg (by omega), rem]
      congr 1
      rw [decide_eq_false]
      intro k
      have := sp.1.1
      have := su.1.2
      omega
    · intro r hr _ _
      obtain ⟨a, ha, b, hb, k, rfl⟩ := (mem_R q).mp hr
      have hb := nums_in e' hb
      have nz : b ≠ 0 := fun y => k ⟨d, y⟩
      rw [rem]
      refine ⟨p, u, rfl, ?_⟩
      rw [r_mod, ← Int.fmod_def, ← hp, ← hq]
      rcases Int.lt_or_gt_of_ne nz with y | y
      · have f1 := Int.fmod_lt_of_pos (-a) (b := -b) (by omega)
        have f2 := Int.fmod_nonneg_of_pos (-a) (b := -b) (by omega)
        rw [Int.neg_fmod_neg] at f1 f2
        constructor <;> split <;> omega
      · have f1 := Int.fmod_lt_of_pos a (b := b) (by omega)
        have f2 := Int.fmod_nonneg_of_pos a (b := b) (by omega)
        constructor <;> split <;> omega
end
/-! ### equality -/
theorem app_inj {a b c : Str} (h : a ++ c = b ++ c) : a = b := by
  have h' : a.cps ++ c.cps = b.cps ++ c.cps := congrArg Str.cps h
  cases a
  cases b
  simp only at h'
  exact congrArg Str.mk ((Array.append_left_inj _).mp h')
theorem app_ne (a b : Str) : a ++ (".1" : Str) ≠ b ++ (".2" : Str) := by
  intro h
  have h' : (a.cps ++ ((".1" : String) : Str).cps).toList = (b.cps ++ ((".2" : String) : Str).cps).toList := congrArg (fun x : Str => x.cps.toList) h
  rw [Array.toList_append, Array.toList_append] at h'
  have e1 : ((".1" : String) : Str).cps.toList = [46, 49] := by decide +kernel
  have e2 : ((".2" : String) : Str).cps.toList = [46, 50] := by decide +kernel
  rw [e1, e2] at h'
  have := congrArg List.getLast? h'
  simp at this
theorem eqv_vl {a b : D} (ha : Vl a) (hb : Vl b) : PyData.eqv a b = true ↔ a = b := by
  cases ha <;> cases hb <;> simp [PyData.eqv]
theorem alike_iff {s t : Sn} (w : Wf s) (v : Wf t) : (∃ a, a ∈ vals s t ∧ a ∈ vals t s) ↔ (meets s t || (s.n && t.n) || s.cs.any fun x => decide (x ∈ t.cs)) = true := by
  rw [Bool.or_eq_true, Bool.or_eq_true]
  constructor
  · rintro ⟨a, h1, h2⟩
    have va := vals_ok w a h1
    cases va with
    | non => exact .inl (.inr (by rw [vals_non.mp h1, vals_non.mp h2]; rfl))
    | @int i _ =>
      refine .inl (.inl ?_)
      have n1 := vals_int.mp h1
      have n2 := vals_int.mp h2
      cases e : s.r with
      | none => rw [nums_none e] at n1; cases n1
      | some p =>
        cases e' : t.r with
        | none => rw [nums_none e'] at n2; cases n2
        | some p' =>
          have k1 := nums_in (l := p.1) (h := p.2) e n1
          have k2 := nums_in (l := p'.1) (h := p'.2) e' n2
          unfold meets
          rw [e, e']
          simp only [decide_eq_true_eq]
          split <;> split <;> omega
    | @str x _ =>
      refine .inr ?_
      obtain ⟨c, hc, e⟩ := vals_str.mp h1
      obtain ⟨c', hc', e'⟩ := vals_str.mp h2
      have : c = c' := by
        rcases e with e | e <;> rcases e' with e' | e'
        · exact app_inj (e.symm.trans e')
        · exact absurd (e.symm.trans e') (app_ne _ _)
        · exact absurd (e'.symm.trans e) (app_ne _ _)
        · exact app_inj (e.symm.trans e')
      subst this
      rw [List.any_eq_true]
      exact ⟨c, hc, decide_eq_true hc'⟩
  · rintro ((h | h) | h)
    · unfold meets at h
      split at h
      · rename_i l u l' u' e e'
        have b := w.r l u e
        have b' := v.r l' u' e'
        rw [decide_eq_true_eq] at h
        by_cases k : l' > l
        · rw [if_pos k] at h
          refine ⟨.int l', vals_int.mpr (nums_has e (by omega) (by split at h <;> omega) (.inr (.inr (.inr (.inr (.inr ?_)))))), vals_int.mpr (nums_has e' (Int.le_refl _) b'.2.1 (.inl rfl))⟩
          unfold sidesI
          rw [e']
          exact List.mem_cons_self
        · rw [if_neg k] at h
          refine ⟨.int l, vals_int.mpr (nums_has e (Int.le_refl _) b.2.1 (.inl rfl)), vals_int.mpr (nums_has e' (by omega) (by split at h <;> omega) (.inr (.inr (.inr (.inr (.inr ?_))))))⟩
          unfold sidesI
          rw [e]
          exact List.mem_cons_self
      · cases h
    · rw [Bool.and_eq_true] at h
      exact ⟨.none, vals_non.mpr h.1, vals_non.mpr h.2⟩
    · rw [List.any_eq_true] at h
      obtain ⟨c, hc, hc'⟩ := h
      exact ⟨.str (c ++ ".1"), vals_str.mpr ⟨c, hc, .inl rfl⟩, vals_str.mpr ⟨c, of_decide_eq_true hc', .inl rfl⟩⟩
end K54

namespace K54
open PySem PySem.Spec L2 G
theorem single {s t : Sn} (w : Wf s) {a : D} (ha : a ∈ vals s t) (h : ∀ x ∈ vals s t, x = a) : oneB s = true ∧ ((a = .none ∧ s = ⟨none, true, []⟩) ∨ ∃ i, a = .int i ∧ s = ⟨some (i, i), false, []⟩) := by
  have noCs : s.cs = [] := by
    cases e : s.cs with
    | nil => rfl
    | cons c r =>
      have hc : c ∈ s.cs := by rw [e]; exact List.mem_cons_self
      have h1 := h (.str (c ++ ".1")) (vals_str.mpr ⟨c, hc, .inl rfl⟩)
      have h2 := h (.str (c ++ ".2")) (vals_str.mpr ⟨c, hc, .inr rfl⟩)
      rw [← h2] at h1
      injection h1 with h1
      exact absurd h1 (app_ne _ _)
  have va := vals_ok w a ha
  cases va with
  | non =>
    have hn := vals_non.mp ha
    have hr : s.r = none := by
      cases e : s.r with
      | none => rfl
      | some p =>
        have b := w.r p.1 p.2 e
        have := h (.int p.1) (vals_int.mpr (nums_has (l := p.1) (h := p.2) e (Int.le_refl _) b.2.1 (.inl rfl)))
        cases this
    rcases s with ⟨r, n, cs⟩
    simp only at hn hr noCs
    subst hn hr noCs
    exact ⟨rfl, .inl ⟨rfl, rfl⟩⟩
  | @int i _ =>
    have hi := vals_int.mp ha
    have hn : s.n = false := by
      cases e : s.n with
      | false => rfl
      | true =>
        have := h .none (vals_non.mpr e)
        cases this
    cases e : s.r with
    | none => rw [nums_none e] at hi; cases hi
    | some p =>
      have b := w.r p.1 p.2 e
      have h1 := h (.int p.1) (vals_int.mpr (nums_has (l := p.1) (h := p.2) e (Int.le_refl _) b.2.1 (.inl rfl)))
      have h2 := h (.int p.2) (vals_int.mpr (nums_has (l := p.1) (h := p.2) e b.2.1 (Int.le_refl _) (.inr (.inl rfl))))
      injection h1 with h1
      injection h2 with h2
      rcases s with ⟨r, n, cs⟩
      rcases p with ⟨p, p'⟩
      simp only at hn noCs e h1 h2
      subst hn noCs e h1 h2
      exact ⟨by simp [oneB], .inr ⟨_, rfl, rfl⟩⟩
  | @str x _ =>
    obtain ⟨c, hc, _⟩ := vals_str.mp ha
    rw [noCs] at hc
    cases hc
theorem all_same {s : Sn} (o : oneB s = true) : ∀ a ∈ vals s s, ∀ b ∈ vals s s, a = b := by
  rcases s with ⟨_ | ⟨l, h⟩, n, cs⟩
  · unfold oneB at o
    simp only [Bool.and_eq_true] at o
    cases cs with
    | cons _ _ => simp at o
    | nil =>
      have hn : n = true := o.1
      subst hn
      intro a ha b hb
      have : vals ⟨none, true, []⟩ ⟨none, true, []⟩ = [.none] := rfl
      rw [this] at ha hb
      rw [List.mem_singleton.mp ha, List.mem_singleton.mp hb]
  · unfold oneB at o
    simp only [Bool.and_eq_true, beq_iff_eq, Bool.not_eq_true'] at o
    cases cs with
    | cons _ _ => simp at o
    | nil =>
      obtain ⟨⟨rfl, rfl⟩, _⟩ := o
      have key : ∀ a ∈ vals ⟨some (l, l), false, []⟩ ⟨some (l, l), false, []⟩, a = .int l := by
        intro a ha
        cases a with
        | int i =>
          have := nums_in (l := l) (h := l) rfl (vals_int.mp ha)
          have : i = l := by omega
          rw [this]
        | none => have := vals_non.mp ha; cases this
        | str x => obtain ⟨c, hc, _⟩ := vals_str.mp ha; cases hc
        | bool b => unfold vals restV namesV at ha; simp at ha
        | list b => unfold vals restV namesV at ha; simp at ha
        | tuple b => unfold vals restV namesV at ha; simp at ha
        | dict b => unfold vals restV namesV at ha; simp at ha
      intro a ha b hb
      rw [key a ha, key b hb]
theorem unlike_iff {s t : Sn} (w : Wf s) (v : Wf t) (h1 : s ≠ eS) (h2 : t ≠ eS) : (∃ a ∈ vals s t, ∃ b ∈ vals t s, a ≠ b) ↔ (!decide (s = t) || !oneB s) = true := by
  obtain ⟨a0, ha0⟩ := List.exists_mem_of_ne_nil _ ((vals_nil (t := t) w).mpr h1)
  obtain ⟨b0, hb0⟩ := List.exists_mem_of_ne_nil _ ((vals_nil (t := s) v).mpr h2)
  constructor
  · rintro ⟨a, ha, b, hb, ne⟩
    cases hst : decide (s = t) with
    | false => rfl
    | true =>
      have e := of_decide_eq_true hst
      subst e
      cases o : oneB s with
      | false => rfl
      | true => exact absurd (all_same o a ha b hb) ne
  · intro k
    refine Classical.byContradiction fun no => ?_
    have eq : ∀ a ∈ vals s t, ∀ b ∈ vals t s, a = b := fun a ha b hb => Classical.byContradiction fun ne => no ⟨a, ha, b, hb, ne⟩
    have e0 := eq a0 ha0 b0 hb0
    have s1 := single w ha0 fun x hx => (eq x hx b0 hb0).trans e0.symm
    have s2 := single v hb0 fun x hx => (eq a0 ha0 x hx).symm.trans e0
    have st : s = t := by
      rcases s1.2 with ⟨x1, x2⟩ | ⟨i, x1, x2⟩ <;> rcases s2.2 with ⟨y1, y2⟩ | ⟨j, y1, y2⟩
      · rw [x2, y2]
      · rw [x1, y1] at e0; cases e0
      · rw [x1, y1] at e0; cases e0
      · rw [x1, y1] at e0
        injection e0 with e0
        rw [x2, y2, e0]
    rw [decide_eq_true st, s1.1] at k
    cases k
theorem mem_Req {sign : Str} {s t : Sn} (neg : Bool) (hsg : ∀ a b : D, stR sign a b = [b2i (if neg then !PyData.eqv a b else PyData.eqv a b)]) {x : Int} : x ∈ resR sign s t ↔ ∃ a ∈ vals s t, ∃ b ∈ vals t s, x = b2i (if neg then !PyData.eqv a b else PyData.eqv a b) := by
  unfold resR
  rw [List.mem_flatMap]
  constructor
  · rintro ⟨a, ha, hx⟩
    obtain ⟨b, hb, hx⟩ := List.mem_flatMap.mp hx
    rw [hsg] at hx
    exact ⟨a, ha, b, hb, List.mem_singleton.mp hx⟩
  · rintro ⟨a, ha, b, hb, rfl⟩
    refine ⟨a, ha, List.mem_flatMap.mpr ⟨b, hb, ?_⟩⟩
    rw [hsg]
    exact List.mem_cons_self
/-- the least and the greatest of some bits -/
theorem bits_ends {R : List Int} (hR : R ≠ []) (hb : ∀ x ∈ R, ∃ z : Bool, x = b2i z) : leastI R = 1 - b2i (decide (b2i false ∈ R)) ∧ greatI R = b2i (decide (b2i true ∈ R)) := by
  obtain ⟨a1, a2⟩ := leastI_spec R hR
  obtain ⟨c1, c2⟩ := greatI_spec R hR
  constructor
  · obtain ⟨z, e⟩ := hb _ a1
    by_cases m : b2i false ∈ R
    · have := a2 _ m
      rw [decide_eq_true m]
      rw [e] at this ⊢
      cases z
      · rfl
      · revert this; decide
    · rw [decide_eq_false m]
      cases z
      · rw [e] at a1; exact absurd a1 m
      · exact e.trans rfl
  · obtain ⟨z, e⟩ := hb _ c1
    by_cases m : b2i true ∈ R
    · have := c2 _ m
      rw [decide_eq_true m]
      rw [e] at this ⊢
      cases z
      · revert this; decide
      · rfl
    · rw [decide_eq_false m]
      cases z
      · exact e.trans rfl
      · rw [e] at c1; exact absurd c1 m
theorem pair_eq {sign : Str} {s t : Sn} (hs : sign ∈ signs) (w : Wf s) (v : Wf t) (h1 : s ≠ eS) (h2 : t ≠ eS) (q : eqB sign = true) : m__law_combined [.str sign, s.d, t.d] = some (.bool true) := by
  have hb : (decide (s = eS) || decide (t = eS)) = false := by simp [h1, h2]
  have md : (sign == "mod") = false := by
    have k := of_decide_eq_true q
    simp only [List.mem_cons, List.not_mem_nil, or_false] at k
    rcases k with rfl | rfl <;> decide +kernel
  obtain ⟨a0, ha0⟩ := List.exists_mem_of_ne_nil _ ((vals_nil (t := t) w).mpr h1)
  obtain ⟨b0, hb0⟩ := List.exists_mem_of_ne_nil _ ((vals_nil (t := s) v).mpr h2)
  have al := alike_iff w v
  have ul := unlike_iff w v h1 h2
  have neg : ∃ neg : Bool, neg = (!(sign == "==")) ∧ ∀ a b : D, stR sign a b = [b2i (if neg then !PyData.eqv a b else PyData.eqv a b)] := by
    have k := of_decide_eq_true q
    simp only [List.mem_cons, List.not_mem_nil, or_false] at k
    rcases k with rfl | rfl
    · exact ⟨false, by decide +kernel, fun a b => by unfold stR; simp⟩
    · refine ⟨true, by decide +kernel, fun a b => ?_⟩
      have f : ((("!=" : String) : Str) == "==") = false := by decide +kernel
      unfold stR
      simp [f]
  obtain ⟨neg, hneg, hst⟩ := neg
  have mR := fun x => mem_Req (s := s) (t := t) neg hst (x := x)
  have R1 : resR sign s t ≠ [] := fun z => by
    have := (mR _).mpr ⟨a0, ha0, b0, hb0, rfl⟩
    rw [z] at this
    cases this
  have bits : ∀ x ∈ resR sign s t, ∃ z : Bool, x = b2i z := fun x hx => by
    obtain ⟨a, _, b, _, e⟩ := (mR x).mp hx
    exact ⟨_, e⟩
  obtain ⟨le, gr⟩ := bits_ends R1 bits
  have eqv' : ∀ a ∈ vals s t, ∀ b ∈ vals t s, (PyData.eqv a b = true ↔ a = b) := fun a ha b hb => eqv_vl (vals_ok w a ha) (vals_ok v b hb)
  have inj : ∀ x y : Bool, b2i x = b2i y → x = y := by decide
  have has : ∀ z : Bool, (b2i z ∈ resR sign s t ↔ if (z == neg) then (∃ a ∈ vals s t, ∃ b ∈ vals t s, a ≠ b) else (∃ a, a ∈ vals s t ∧ a ∈ vals t s)) := by
    intro z
    rw [mR]
    constructor
    · rintro ⟨a, ha, b, hb, e⟩
      have e := inj _ _ e
      have k := eqv' a ha b hb
      cases z <;> cases neg <;> simp only [Bool.false_eq_true, if_false, if_true, beq_self_eq_true, show (false == true) = false from rfl, show (true == false) = false from rfl] at e ⊢
      · exact ⟨a, ha, b, hb, fun x => by rw [k.mpr x] at e; cases e⟩
      · have : a = b := k.mp (by cases hq : PyData.eqv a b; rw [hq] at e; cases e; rfl)
        exact ⟨a, ha, this ▸ hb⟩
      · exact ⟨a, ha, k.mp e.symm ▸ hb⟩
      · exact ⟨a, ha, b, hb, fun x => by rw [k.mpr x] at e; cases e⟩
    · intro hh
      cases z <;> cases neg <;> simp only [Bool.false_eq_true, if_false, if_true, beq_self_eq_true, show (false == true) = false from rfl, show (true == false) = false from rfl] at hh ⊢
      · obtain ⟨a, ha, b, hb, ne⟩ := hh
        refine ⟨a, ha, b, hb, ?_⟩
        cases hq : PyData.eqv a b
        · rfl
        · exact absurd ((eqv' a ha b hb).mp hq) ne
      · obtain ⟨a, ha, hb⟩ := hh
        exact ⟨a, ha, a, hb, by rw [(eqv' a ha a hb).mpr rfl]; rfl⟩
      · obtain ⟨a, ha, hb⟩ := hh
        exact ⟨a, ha, a, hb, by rw [(eqv' a ha a hb).mpr rfl]⟩
      · obtain ⟨a, ha, b, hb, ne⟩ := hh
        refine ⟨a, ha, b, hb, ?_⟩
        cases hq : PyData.eqv a b
        · rfl
        · exact absurd ((eqv' a ha b hb).mp hq) ne
  have bit : ∀ z : Bool, small (b2i z) ∧ small (1 - b2i z) := fun z => by cases z <;> exact ⟨⟨by decide, by decide⟩, ⟨by decide, by decide⟩⟩
  have T : equalS (!(sign == "==")) s t = clip (leastI (resR sign s t)) (greatI (resR sign s t)) := by
    rw [le, gr, ← hneg]
    unfold equalS
    simp only
    have d1 : decide (b2i false ∈ resR sign s t) = (if neg then (meets s t || (s.n && t.n) || s.cs.any fun x => decide (x ∈ t.cs)) else (!decide (s = t) || !oneB s)) := by
      rw [Bool.eq_iff_iff, decide_eq_true_eq, has]
      cases neg
      · exact ul
      · exact al
    have d2 : decide (b2i true ∈ resR sign s t) = (if neg then (!decide (s = t) || !oneB s) else (meets s t || (s.n && t.n) || s.cs.any fun x => decide (x ∈ t.cs))) := by
      rw [Bool.eq_iff_iff, decide_eq_true_eq, has]
      cases neg
      · exact al
      · exact ul
    rw [d1, d2, clip_in (bit _).2 (bit _).1]
  have le' : leastI (resR sign s t) ≤ greatI (resR sign s t) := (leastI_spec _ R1).2 _ (greatI_spec _ R1).1
  refine comb_ok hs w v (E := resR sign s t) (T := equalS (!(sign == "==")) s t) ?_ (c_eq hs w v hb q) ?_ ?_ ?_ ?_ ?_ ?_
  · rw [T]
    exact clip_plain le'
  · rw [if_neg fun z => by rw [md] at z; cases z.1]
  · intro z
    rw [md] at z
    cases z
  · rw [F_eq q, T]
    unfold dueD dueS
    rw [if_neg R1]
    have sm1 : -LG ≤ leastI (resR sign s t) := by rw [le]; exact (bit _).2.1
    have sm2 : greatI (resR sign s t) ≤ LG := by rw [gr]; exact (bit _).1.2
    rw [decide_eq_false (by omega)]
    simp
  · rw [F_eq q]
    decide +kernel
  · rw [F_eq q]
    decide
  · intro r hr a b
    rw [T]
    exact clip_in_r ((leastI_spec _ R1).2 r hr) ((greatI_spec _ R1).2 r hr) a b
/-- every pair, every sign -/
theorem pair_ok {sign : Str} {s t : Sn} (hs : sign ∈ signs) (w : Wf s) (v : Wf t) : m__law_combined [.str sign, s.d, t.d] = some (.bool true) := by
  by_cases h : s = eS ∨ t = eS
  · exact pair_empty hs w v h
  · rw [not_or] at h
    cases q : eqB sign with
    | true => exact pair_eq hs w v h.1 h.2 q
    | false =>
      cases e : s.r with
      | none => exact pair_none hs w v h.1 h.2 q (.inl e)
      | some p =>
        cases e' : t.r with
        | none => exact pair_none hs w v h.1 h.2 q (.inr e')
        | some p' =>
          cases c : cmpB sign with
          | true => exact pair_cmp (l := p.1) (h := p.2) (l' := p'.1) (h' := p'.2) e e' hs w v q c
          | false =>
            have key : ∀ x ∈ signs, eqB x = false → cmpB x = false → x ∈ (["+", "-", "*", "/", "mod"] : List Str) := by decide +kernel
            have k := key sign hs q c
            simp only [List.mem_cons, List.not_mem_nil, or_false] at k
            rcases k with rfl | rfl | rfl | rfl | rfl
            · exact pair_add w v (l := p.1) (h := p.2) (l' := p'.1) (h' := p'.2) e e'
            · exact pair_sub w v (l := p.1) (h := p.2) (l' := p'.1) (h' := p'.2) e e'
            · exact pair_mul w v (l := p.1) (h := p.2) (l' := p'.1) (h' := p'.2) e e'
            · exact pair_div w v (l := p.1) (h := p.2) (l' := p'.1) (h' := p'.2) e e'
            · exact pair_mod w v (l := p.1) (h := p.2) (l' := p'.1) (h' := p'.2) e e'
end K54

namespace K54
open PySem PySem.Spec L2 G
/-! ### negation -/
theorem lc_nums {s t : Sn} (w : Wf s) (sl : Sls) (hk : 3 < sl.length) : lcL (tgName 3) (dTest (dApp m__law_is_integer (dCons (dVar 3) dNil))) (dVar 3) sl (vals s t) = some ((numsI s t).map .int) := by
  have hkk : ∀ d, (sl.set 3 (.val d))[3]? = some (.val d) := fun d => List.getElem?_set_self hk
  rw [lcL_of (fun d => if isI d = true then some d else none) fun y hy => ?_]
  · unfold vals
    rw [List.filterMap_append]
    have e1 : ((numsI s t).map PyData.int).filterMap (fun d => if isI d = true then some d else none) = (numsI s t).map .int := by
      rw [List.filterMap_map]
      exact fm_some _ _
    have e2 : (restV s).filterMap (fun d => if isI d = true then some d else none) = [] := by
      apply List.filterMap_eq_nil_iff.mpr
      intro d hd
      unfold restV namesV at hd
      rw [List.mem_append] at hd
      rcases hd with hd | hd
      · split at hd
        · rw [List.mem_singleton.mp hd]
          rfl
        · cases hd
      · obtain ⟨c, _, hd⟩ := List.mem_flatMap.mp hd
        simp at hd
        rcases hd with rfl | rfl <;> rfl
    rw [e1, e2, List.append_nil]
  · have k := e_isint (vals_ok w y hy)
    cases hi : isI y <;> rw [hi] at k <;> simp [hkk, k]
theorem lc_neg (sl : Sls) (hk : 5 < sl.length) (ns : List Int) : lcL (tgName 5) (fun _ => some true) (dUn gNeg (dView 5)) sl (ns.map .int) = some ((ns.map fun x => -x).map .int) := by
  have hkk : ∀ d, (sl.set 5 (.val d))[5]? = some (.val d) := fun d => List.getElem?_set_self hk
  rw [lcL_of (fun d => match d with | .int x => some (.int (-x)) | _ => none) fun y hy => ?_]
  · rw [List.filterMap_map, List.map_map]
    exact congrArg some (fm_some _ _)
  · obtain ⟨x, hx, rfl⟩ := List.mem_map.mp hy
    simp [hkk]
def kindsF (s : Sn) : List Str := (restV s).map fun _ => sK
theorem lc_kinds {s t : Sn} (w : Wf s) (sl : Sls) (hk : 3 < sl.length) : lcL (tgName 3) (dNot (dTest (dApp m__law_is_integer (dCons (dVar 3) dNil)))) (dC (.str "kind")) sl (vals s t) = some ((kindsF s).map .str) := by
  have hkk : ∀ d, (sl.set 3 (.val d))[3]? = some (.val d) := fun d => List.getElem?_set_self hk
  rw [lcL_of (fun d => if isI d = true then none else some (.str sK)) fun y hy => ?_]
  · unfold vals
    rw [List.filterMap_append]
    have e1 : ((numsI s t).map PyData.int).filterMap (fun d => if isI d = true then none else some (PyData.str sK)) = [] := by
      apply List.filterMap_eq_nil_iff.mpr
      intro d hd
      obtain ⟨x, _, rfl⟩ := List.mem_map.mp hd
      rfl
    have e2 : ∀ l : List D, (∀ d ∈ l, isI d = false) → l.filterMap (fun d => if isI d = true then none else some (PyData.str sK)) = (l.map fun _ => sK).map .str := by
      intro l
      induction l with
      | nil => intro _; rfl
      | cons d r ih =>
        intro h
        rw [List.filterMap_cons, h d List.mem_cons_self, List.map_cons, List.map_cons, ← ih fun x hx => h x (List.mem_cons_of_mem _ hx)]
        rfl
    rw [e1, e2, List.nil_append]
    · rfl
    · intro d hd
      unfold restV namesV at hd
      rw [List.mem_append] at hd
      rcases hd with hd | hd
      · split at hd
        · rw [List.mem_singleton.mp hd]
          rfl
        · cases hd
      · obtain ⟨c, _, hd⟩ := List.mem_flatMap.mp hd
        simp at hd
        rcases hd with rfl | rfl <;> rfl
  · have k := e_isint (vals_ok w y hy)
    cases hi : isI y <;> rw [hi] at k <;> simp [hkk, k, show (("kind" : String) : Str) = sK from rfl]
def negD (s : Sn) : D := match s.r with
  | none => told eS false (kindB s) false
  | some (l, h) => told (nS (-h) (-l)) false (kindB s) false
theorem neg_ok {s : Sn} (w : Wf s) : m__law_negated [s.d] = some (.bool true) := by
  have e1 := e_values w w
  have e2 := fun sl hk => lc_nums (t := s) w sl hk
  have e3 := fun sl hk => lc_kinds (t := s) w sl hk
  have e4 := fun sl hk => lc_neg sl hk (numsI s s)
  have e5 : m_negate_span [s.d] = some (negD s) := e_negate w
  have nl := nums_len s s
  have l1 : (numsI s s).length ≤ 100000 := by omega
  have rl : (restV s).length ≤ 10 := by
    unfold restV
    have := w.few
    rw [List.length_append, names_len]
    have : (if s.n = true then [PyData.none] else []).length ≤ 1 := by split <;> simp
    omega
  have l2 : (kindsF s).length ≤ 100000 := by
    unfold kindsF
    rw [List.length_map]
    omega
  have l3 : (kindsF s).length < 100000 := by
    unfold kindsF
    rw [List.length_map]
    omega
  have mem : ∀ x, x ∈ kindsF s ↔ x = sK ∧ kindB s = true := fun x => by
    unfold kindsF
    rw [List.mem_map]
    constructor
    · rintro ⟨d, hd, rfl⟩
      refine ⟨rfl, (vals_kind (t := s)).mp ⟨d, ?_, ?_⟩⟩
      · unfold vals
        exact List.mem_append_right _ hd
      · unfold restV namesV at hd
        rw [List.mem_append] at hd
        rcases hd with hd | hd
        · split at hd
          · rw [List.mem_singleton.mp hd]
            rfl
          · cases hd
        · obtain ⟨c, _, hd⟩ := List.mem_flatMap.mp hd
          simp at hd
          rcases hd with rfl | rfl <;> rfl
    · rintro ⟨rfl, k⟩
      obtain ⟨d, hd, hi⟩ := vals_kind (t := s).mpr k
      unfold vals at hd
      rw [List.mem_append] at hd
      rcases hd with hd | hd
      · obtain ⟨x, _, rfl⟩ := List.mem_map.mp hd
        cases hi
      · exact ⟨d, hd, rfl⟩
  have F3 : three (kindsF s) := by
    unfold three
    rw [List.all_eq_true]
    intro x hx
    rw [((mem x).mp hx).1]
    decide +kernel
  have fB : decide (sB ∈ kindsF s) = false := decide_eq_false fun z => absurd ((mem _).mp z).1 (by decide +kernel)
  have fZ : decide (sZ ∈ kindsF s) = false := decide_eq_false fun z => absurd ((mem _).mp z).1 (by decide +kernel)
  have fK : decide (sK ∈ kindsF s) = kindB s := by
    rw [Bool.eq_iff_iff, decide_eq_true_eq, mem]
    simp
  have e6 := e_due (R := (numsI s s).map fun x => -x) F3 l3
  have due : dueD ((numsI s s).map fun x => -x) (kindsF s) = negD s := by
    unfold dueD dueS negD
    rw [fB, fZ, fK]
    cases e : s.r with
    | none =>
      rw [nums_none e]
      rfl
    | some p =>
      obtain ⟨l, h⟩ := p
      have b := w.r l h e
      have m1 := nums_has (t := s) e (Int.le_refl l) b.2.1 (.inl rfl)
      have m2 := nums_has (t := s) e b.2.1 (Int.le_refl h) (.inr (.inl rfl))
      have ne : (numsI s s).map (fun x => -x) ≠ [] := fun z => by
        have := List.mem_map_of_mem (f := fun x : Int => -x) m1
        rw [z] at this
        cases this
      have le : -h = leastI ((numsI s s).map fun x => -x) := least_uniq ne (List.mem_map_of_mem (f := fun x : Int => -x) m2) fun y hy => by
        obtain ⟨x, hx, rfl⟩ := List.mem_map.mp hy
        have := nums_in e hx
        omega
      have gr : -l = greatI ((numsI s s).map fun x => -x) := great_uniq ne (List.mem_map_of_mem (f := fun x : Int => -x) m1) fun y hy => by
        obtain ⟨x, hx, rfl⟩ := List.mem_map.mp hy
        have := nums_in e hx
        omega
      rw [if_neg ne, ← le, ← gr, clip_in ⟨by omega, by omega⟩ ⟨by omega, by omega⟩, if_neg (by omega), decide_eq_false (by omega)]
      rfl
  rw [due] at e6
  have same : ∀ d, (∃ T, Plain T ∧ d = told T false (kindB s) false) → m__law_same [d, d] = some (.bool true) := fun d ⟨T, hT, hd⟩ => by
    rw [hd]
    exact e_same hT _ _ _
  have same := same (negD s) (by
    unfold negD
    cases e : s.r with
    | none => exact ⟨eS, .inl rfl, rfl⟩
    | some p =>
      obtain ⟨l, h⟩ := p
      have b := w.r l h e
      exact ⟨nS (-h) (-l), .inr ⟨_, _, rfl, ⟨by omega, by omega⟩, ⟨by omega, by omega⟩⟩, rfl⟩)
  generalize negD s = T at *
  have l4 : ((numsI s s).map fun x => -x).length ≤ 100000 := by rw [List.length_map]; exact l1
  generalize ((numsI s s).map fun x => -x) = ms at *
  simp [m__law_negated, b__law_negated, e1, e2, e3, e4, l1, l2, l4, e6, e5, same]
/-! ### draws -/
theorem e_cell (ns : List Int) (k : Nat) : ∃ x : Int, m__law_cell [.list (ns.map .int), .int (k : Int)] = some (.int x) := by
  by_cases h : k < ns.length
  · have e : L2.atI (ns.map PyData.int) (k : Int) = some (.int ns[k]) := by
      unfold L2.atI ixN
      rw [if_pos (by omega), if_pos (by rw [List.length_map]; omega)]
      simp [h]
    have hl : (k : Int) < (ns.length : Int) := by omega
    exact ⟨ns[k], by simp [m__law_cell, b__law_cell, e, hl]⟩
  · have hl : ¬ ((k : Int) < (ns.length : Int)) := by omega
    exact ⟨0, by simp [m__law_cell, b__law_cell, hl]⟩
def stepB : Sls → Option Fl := (sIf (dAnd (dTest (dVar 4)) (dTest (dOp gGt (dView 3) (dC (.int 0))))) (sSeq (sAppend 2 (dCons (dOp gMod (dApp gInt (dCons (dView 3) dNil)) (dC (.int 1000))) dNil))
    (sSet 3 (dOp gDiv (dView 3) (dC (.int 1000))))) (sSeq (sSet 6 (dOp gMod (dApp gInt (dCons (dOp gAdd (dOp gAdd (dApp gAbs (dCons (dView 0) dNil)) (dOp gMul (dC (.int 7919)) (dView 5))) (dC (.int 13))) dNil)) (dC (.int 2147483647))))
    (sSeq (sSet 6 (dOp gMod (dApp gInt (dCons (dOp gMul (dView 6) (dOp gAdd (dView 6) (dC (.int 48271)))) dNil)) (dC (.int 2147483629))))
    (sSeq (sSet 6 (dOp gMod (dApp gInt (dCons (dOp gAdd (dOp gMul (dView 6) (dOp gAdd (dView 6) (dC (.int 69621)))) (dOp gMul (dC (.int 31)) (dView 5))) dNil)) (dC (.int 2147483647))))
    (sAppend 2 (dCons (dOp gMod (dApp gInt (dCons (dOp gDiv (dView 6) (dC (.int 9))) dNil)) (dC (.int 1000))) dNil))))))
def draw (x : Int) : Prop := 0 ≤ x ∧ x ≤ 999
theorem fmod_in (a : Int) {b : Int} (h : 0 < b) : 0 ≤ a.fmod b ∧ a.fmod b < b := ⟨Int.fmod_nonneg_of_pos a h, Int.fmod_lt_of_pos a h⟩
def mixI (c k : Int) : Int := (((((if c < 0 then -c else c) + 7919 * k + 13).fmod 2147483647 * (((if c < 0 then -c else c) + 7919 * k + 13).fmod 2147483647 + 48271)).fmod 2147483629 * ((((if c < 0 then -c else c) + 7919 * k + 13).fmod 2147483647 * (((if c < 0 then -c else c) + 7919 * k + 13).fmod 2147483647 + 48271)).fmod 2147483629 + 69621) + 31 * k).fmod 2147483647)
theorem step_ok (c : Int) (m : D) (ns : List Int) (hn : ns.length < 1000) (r : Int) (b : Bool) (k : Int) (y : SV) : ∃ (x r' : Int) (y' : SV), draw x ∧
    stepB [.val (.int c), .val m, .own (.list (ns.map .int)), .val (.int r), .val (.bool b), .val (.int k), y] = some (.nx [.val (.int c), .val m, .own (.list ((ns ++ [x]).map .int)), .val (.int r'), .val (.bool b), .val (.int k), y']) := by
  have l1 : ns.length < 100000 := by omega
  have m1 : ∀ x : Int, gMod (.int x) (.int 1000) = some (.int (x.fmod 1000)) := fun x => y_mod (by decide)
  have m2 : ∀ x : Int, gMod (.int x) (.int 2147483647) = some (.int (x.fmod 2147483647)) := fun x => y_mod (by decide)
  have m3 : ∀ x : Int, gMod (.int x) (.int 2147483629) = some (.int (x.fmod 2147483629)) := fun x => y_mod (by decide)
  have d1 : ∀ x : Int, gDiv (.int x) (.int 1000) = some (.int (x.fdiv 1000)) := fun x => y_div ⟨by decide, by decide⟩
  have d2 : ∀ x : Int, gDiv (.int x) (.int 9) = some (.int (x.fdiv 9)) := fun x => y_div ⟨by decide, by decide⟩
  have p1 : ∀ x : Int, gMul (.int 7919) (.int x) = some (.int (7919 * x)) := fun x => y_mul (.inl (by decide))
  have p2 : ∀ x : Int, gMul (.int 31) (.int x) = some (.int (31 * x)) := fun x => y_mul (.inl (by decide))
  have p3 : ∀ x y : Int, gMul (.int (x.fmod 2147483647)) (.int y) = some (.int (x.fmod 2147483647 * y)) := fun x y => y_mul (.inl (by have := fmod_in x (b := 2147483647) (by decide); omega))
  have p4 : ∀ x y : Int, gMul (.int (x.fmod 2147483629)) (.int y) = some (.int (x.fmod 2147483629 * y)) := fun x y => y_mul (.inl (by have := fmod_in x (b := 2147483629) (by decide); omega))
  have dr : ∀ x : Int, draw (x.fmod 1000) := fun x => by have := fmod_in x (b := 1000) (by decide); exact ⟨by omega, by omega⟩
  by_cases hb : b = true ∧ 0 < r
  · refine ⟨r.fmod 1000, r.fdiv 1000, y, dr _, ?_⟩
    unfold stepB
    simp [hb.1, hb.2, m1, d1, l1]
  · have hb' : (b && decide (0 < r)) = false := by
      cases b
      · rfl
      · simp only [true_and] at hb
        simp [hb]
    refine ⟨((mixI c k).fdiv 9).fmod 1000, r, .val (.int (mixI c k)), dr _, ?_⟩
    · unfold stepB mixI
      cases b
      · simp [m1, m2, m3, d2, p1, p2, p3, p4, l1]
      · have hr : ¬ 0 < r := fun z => hb ⟨rfl, z⟩
        simp [hr, m1, m2, m3, d2, p1, p2, p3, p4, l1]
theorem draws_for (c : Int) (m : D) : ∀ (ks : List Int) (ns : List Int) (r : Int) (b : Bool) (x y : SV), (∀ n ∈ ns, draw n) → ns.length + ks.length ≤ 900 → ∃ (ns' : List Int) (r' : Int) (x' y' : SV), (∀ n ∈ ns', draw n) ∧ ns'.length = ns.length + ks.length ∧
    forL (tgName 5) stepB (ks.map .int) [.val (.int c), .val m, .own (.list (ns.map .int)), .val (.int r), .val (.bool b), x, y] = some (.nx [.val (.int c), .val m, .own (.list (ns'.map .int)), .val (.int r'), .val (.bool b), x', y'])
  | [], ns, r, b, x, y, h, _ => ⟨ns, r, x, y, h, rfl, rfl⟩
  | k :: ks, ns, r, b, x, y, h, hl => by
    rw [List.length_cons] at hl
    obtain ⟨z, r1, y1, hz, e1⟩ := step_ok c m ns (by omega) r b k y
    obtain ⟨ns', r', x', y', g1, g2, e2⟩ := draws_for c m ks (ns ++ [z]) r1 b (.val (.int k)) y1 (fun n hn => by
      rcases List.mem_append.mp hn with hn | hn
      · exact h n hn
      · rw [List.mem_singleton.mp hn]; exact hz) (by rw [List.length_append, List.length_singleton]; omega)
    refine ⟨ns', r', x', y', g1, by rw [g2, List.length_append, List.length_singleton, List.length_cons]; omega, ?_⟩
    rw [← e2]
    show ((tgName 5 (.int k) _).bind fun s => (stepB s).bind _) = _
    rw [z_tgN, Option.bind_some]
    show ((stepB [.val (.int c), .val m, .own (.list (ns.map .int)), .val (.int r), .val (.bool b), .val (.int k), y]).bind _) = _
    rw [e1]
    rfl
theorem e_draws (c : Int) (n : Nat) (hn : n ≤ 100) : ∃ ns : List Int, ns.length = n ∧ (∀ x ∈ ns, draw x) ∧ m__law_draws [.int c, .int (n : Int)] = some (.list (ns.map .int)) := by
  have rd : rangeD 0 n = ((List.range n).map fun i : Nat => (0 : Int) + (i : Int)).map PyData.int := by
    unfold rangeD
    rw [List.map_map]
    rfl
  have pw : gPow (.int 10) (.int 18) = some (.int (10 ^ 18)) := by
    show (if CPowD 10 18 then some (PyData.int (10 ^ (18 : Int).toNat)) else none) = _
    rw [if_pos (show CPowD 10 18 from ⟨by decide, by decide, by decide⟩)]
    rfl
  obtain ⟨ns, r', x', y', g1, g2, e⟩ := draws_for c (.int (n : Int)) ((List.range n).map fun i : Nat => (0 : Int) + (i : Int)) [] (if c < 0 then -c else c) (decide ((10 ^ 18 : Int) ≤ (if c < 0 then -c else c))) .no .no (fun _ h => nomatch h) (by simp; omega)
  refine ⟨ns, by simpa using g2, g1, ?_⟩
  rw [← rd] at e
  have b1 : -1000000 ≤ (n : Int) ∧ (n : Int) ≤ 1000000 := by omega
  unfold stepB at e
  simp only [List.map_nil] at e
  simp [m__law_draws, b__law_draws, pw, b1] at e ⊢
  simp [e]
end K54

namespace K54
open PySem PySem.Spec L2 G
theorem at_get {α : Type} {l : List α} {i : Int} (h0 : 0 ≤ i) (h1 : i < (l.length : Int)) : L2.atI l i = l[i.toNat]? := by
  unfold L2.atI ixN
  rw [if_pos h0, if_pos h1]
  rfl
theorem at_mem {α : Type} {l : List α} {i : Int} (h0 : 0 ≤ i) (h1 : i < (l.length : Int)) : ∃ x ∈ l, L2.atI l i = some x := by
  rw [at_get h0 h1]
  have : i.toNat < l.length := by omega
  exact ⟨l[i.toNat], List.getElem_mem this, List.getElem?_eq_getElem this⟩
theorem draw_at {ns : List Int} (h : ∀ x ∈ ns, draw x) {k : Int} (h0 : 0 ≤ k) (h1 : k < (ns.length : Int)) : ∃ x, draw x ∧ L2.atI (ns.map PyData.int) k = some (.int x) := by
  obtain ⟨d, hd, e⟩ := at_mem (l := ns.map PyData.int) h0 (by rw [List.length_map]; exact h1)
  obtain ⟨x, hx, rfl⟩ := List.mem_map.mp hd
  exact ⟨x, h x hx, e⟩
theorem str_at {ns : List Str} {k : Int} (h0 : 0 ≤ k) (h1 : k < (ns.length : Int)) : ∃ x ∈ ns, L2.atI (ns.map PyData.str) k = some (.str x) := by
  obtain ⟨d, hd, e⟩ := at_mem (l := ns.map PyData.str) h0 (by rw [List.length_map]; exact h1)
  obtain ⟨x, hx, rfl⟩ := List.mem_map.mp hd
  exact ⟨x, hx, e⟩
/-- a list made item by item -/
theorem lcL_some {gs : D → Sls → Option Sls} {ft : Sls → Option Bool} {fe : Sls → Option D} {sl : Sls} (P : D → Prop) : ∀ (ds : List D), (∀ x ∈ ds, ∃ s b, gs x sl = some s ∧ ft s = some b ∧ (b = true → ∃ y, P y ∧ fe s = some y)) → ∃ ys : List D, (∀ y ∈ ys, P y) ∧ ys.length ≤ ds.length ∧ lcL gs ft fe sl ds = some ys
  | [], _ => ⟨[], fun _ h => (nomatch h), Nat.le_refl _, rfl⟩
  | x :: xs, h => by
    obtain ⟨ys, h1, h2, h3⟩ := lcL_some P xs fun y hy => h y (List.mem_cons_of_mem _ hy)
    obtain ⟨s, b, e1, e2, e3⟩ := h x List.mem_cons_self
    rw [lcL_step, e1, Option.bind_some, e2, Option.bind_some]
    cases b with
    | false => exact ⟨ys, h1, by rw [List.length_cons]; omega, by rw [if_neg Bool.false_ne_true]; exact h3⟩
    | true =>
      obtain ⟨y, hy, e4⟩ := e3 rfl
      refine ⟨y :: ys, fun z hz => ?_, by rw [List.length_cons, List.length_cons]; omega, by rw [if_pos rfl, e4, h3]; rfl⟩
      rcases List.mem_cons.mp hz with rfl | hz
      · exact hy
      · exact h1 z hz
/-- .. none left out -/
theorem lcL_all {gs : D → Sls → Option Sls} {fe : Sls → Option D} {sl : Sls} (P : D → Prop) : ∀ (ds : List D), (∀ x ∈ ds, ∃ s y, gs x sl = some s ∧ P y ∧ fe s = some y) → ∃ ys : List D, (∀ y ∈ ys, P y) ∧ ys.length = ds.length ∧ lcL gs (fun _ => some true) fe sl ds = some ys
  | [], _ => ⟨[], fun _ h => (nomatch h), rfl, rfl⟩
  | x :: xs, h => by
    obtain ⟨ys, h1, h2, h3⟩ := lcL_all P xs fun y hy => h y (List.mem_cons_of_mem _ hy)
    obtain ⟨s, y, e1, hy, e4⟩ := h x List.mem_cons_self
    refine ⟨y :: ys, fun z hz => ?_, by rw [List.length_cons, List.length_cons, h2], by rw [lcL_step, e1, Option.bind_some, Option.bind_some, if_pos rfl, e4, h3]; rfl⟩
    rcases List.mem_cons.mp hz with rfl | hz
    · exact hy
    · exact h1 z hz
theorem strs_of_all : ∀ (ys : List D), (∀ y ∈ ys, ∃ x ∈ pool, y = .str x) → ∃ xs : List Str, ys = xs.map .str ∧ ∀ x ∈ xs, x ∈ pool
  | [], _ => ⟨[], rfl, fun _ h => nomatch h⟩
  | y :: ys, h => by
    obtain ⟨x, hx, rfl⟩ := h y List.mem_cons_self
    obtain ⟨xs, rfl, h2⟩ := strs_of_all ys fun z hz => h z (List.mem_cons_of_mem _ hz)
    refine ⟨x :: xs, rfl, fun z hz => ?_⟩
    rcases List.mem_cons.mp hz with rfl | hz
    · exact hx
    · exact h2 z hz
theorem y_mod' (a : Int) {b : Int} (h : 0 < b) : gMod (.int a) (.int b) = some (.int (a.fmod b)) := y_mod (by omega)
theorem e_names (d o : Int) : ∃ nm : List Str, nm.length = 30 ∧ (∀ x ∈ nm, x ∈ pool) ∧ m__law_names [.int d, .int o] = some (.list (nm.map .str)) := by
  have m8 := y_mod' o (b := 8) (by decide)
  have f8 := fmod_in o (b := 8) (by decide)
  obtain ⟨sd, hsd, es⟩ := at_mem (l := ([1, 7, 11, 13, 17, 19, 23, 29] : List Int).map PyData.int) (i := o.fmod 8) f8.1 (by simp; omega)
  obtain ⟨st, hst, rfl⟩ := List.mem_map.mp hsd
  have all : ∀ x ∈ ([1, 7, 11, 13, 17, 19, 23, 29] : List Int), 1 ≤ x ∧ x ≤ 29 := by decide
  have bst : 1 ≤ st ∧ st ≤ 29 := all st hst
  obtain ⟨ys, h1, h2, h3⟩ := lcL_all (gs := tgName 5) (fe := dOp gIx (dView 2) (dOp gMod (dApp gInt (dCons (dOp gAdd (dView 0) (dOp gMul (dView 4) (dView 5))) dNil)) (dC (.int 30)))) (sl := [.val (.int d), .val (.int o), .val (.list (pool.map .str)), .val (.list (([1, 7, 11, 13, 17, 19, 23, 29] : List Int).map PyData.int)), .val (.int st), .no])
    (fun y => ∃ x ∈ pool, y = .str x) (rangeD 0 30) fun x hx => by
      obtain ⟨i, hi, e0⟩ := List.mem_map.mp hx
      have e0 : x = .int (i : Int) := by rw [← e0, Int.zero_add]
      subst e0
      have mu : gMul (.int st) (.int (i : Int)) = some (.int (st * (i : Int))) := y_mul (.inl (by omega))
      have m30 := y_mod' (d + st * (i : Int)) (b := 30) (by decide)
      have f30 := fmod_in (d + st * (i : Int)) (b := 30) (by decide)
      obtain ⟨z, hz, e⟩ := str_at (ns := pool) (k := (d + st * (i : Int)).fmod 30) f30.1 f30.2
      refine ⟨_, .str z, rfl, ⟨z, hz, rfl⟩, ?_⟩
      simp [mu, m30, e]
  obtain ⟨xs, rfl, hx⟩ := strs_of_all ys h1
  refine ⟨xs, by rw [List.length_map] at h2; rw [h2]; rfl, hx, ?_⟩
  have l1 : xs.length ≤ 100000 := by
    rw [List.length_map] at h2
    rw [h2]
    decide
  simp only [pool, List.map_cons, List.map_nil] at h3 es
  simp [m__law_names, b__law_names, m8, es, h3, l1]
theorem e_wide {ns : List Int} (h : ∀ x ∈ ns, draw x) (k : Int) (h0 : 0 ≤ k) (h1 : k + 2 < (ns.length : Int)) : ∃ x : Int, 0 ≤ x ∧ x ≤ 999999999 ∧ m__law_wide [.list (ns.map .int), .int k] = some (.int x) := by
  obtain ⟨a, ha, ea⟩ := draw_at h (k := k) h0 (by omega)
  obtain ⟨b, hb, eb⟩ := draw_at h (k := k + 1) (by omega) (by omega)
  obtain ⟨c, hc, ec⟩ := draw_at h (k := k + 2) (by omega) (by omega)
  have m1 : gMul (.int a) (.int 1000000) = some (.int (a * 1000000)) := y_mul (.inr (by decide))
  have m2 : gMul (.int b) (.int 1000) = some (.int (b * 1000)) := y_mul (.inr (by decide))
  unfold draw at ha hb hc
  exact ⟨a * 1000000 + b * 1000 + c, by omega, by omega, by simp [m__law_wide, b__law_wide, ea, eb, ec, m1, m2]⟩
theorem e_near (n d : Int) : ∃ x : Int, small x ∧ m__law_near [.int n, .int d] = some (.int x) := by
  have m7 := y_mod' d (b := 7) (by decide)
  refine ⟨if (if n + d.fmod 7 - 3 < 999999999 then n + d.fmod 7 - 3 else 999999999) > -999999999 then (if n + d.fmod 7 - 3 < 999999999 then n + d.fmod 7 - 3 else 999999999) else -999999999, ?_, by simp [m__law_near, b__law_near, m7]⟩
  unfold small LG
  constructor <;> (split <;> (try split) <;> omega)
theorem e_low {ns : List Int} (h : ∀ x ∈ ns, draw x) (hl : ns.length = 27) {o : Sn} (w : Wf o) : ∃ x : Int, small x ∧ m__law_low [.list (ns.map .int), o.d] = some (.int x) := by
  obtain ⟨wd, w0, w1, ew⟩ := e_wide h 3 (by decide) (by omega)
  obtain ⟨d2, _, e2⟩ := draw_at h (k := 2) (by decide) (by omega)
  obtain ⟨d24, _, e24⟩ := draw_at h (k := 24) (by decide) (by omega)
  obtain ⟨d25, _, e25⟩ := draw_at h (k := 25) (by decide) (by omega)
  obtain ⟨d6, _, e6⟩ := draw_at h (k := 6) (by decide) (by omega)
  have m1 := y_mod' d2 (b := 12) (by decide)
  have f1 := fmod_in d2 (b := 12) (by decide)
  obtain ⟨mv, hm, em⟩ := at_mem (l := ([0, 1, 2, 3, 1000, 31622, 1000000, 333333333, 499999999, 500000000, 999999999, wd] : List Int).map PyData.int) (i := d2.fmod 12) f1.1 (by simp; omega)
  obtain ⟨mv, _, rfl⟩ := List.mem_map.mp hm
  simp only [List.map_cons, List.map_nil] at em
  have dv : gDiv (.int d2) (.int 12) = some (.int (d2.fdiv 12)) := y_div ⟨by decide, by decide⟩
  have m2 := y_mod' (d2.fdiv 12) (b := 2) (by decide)
  have m3 := y_mod' d24 (b := 2) (by decide)
  have m4 := y_mod' d25 (b := 2) (by decide)
  have f4 := fmod_in d25 (b := 2) (by decide)
  -- the base, in the end
  have ends : ∀ b : Int, ∃ x : Int, small x ∧ m__law_near [.int b, .int d6] = some (.int x) := fun b => e_near b d6
  rcases o with ⟨_ | ⟨l, u⟩, n, cs⟩
  · have x0 : gIx (Sn.d ⟨none, n, cs⟩) (.int 0) = some .none := rfl
    by_cases q1 : (d2.fdiv 12).fmod 2 = 1
    · obtain ⟨x, hx, e⟩ := ends (-mv)
      exact ⟨x, hx, by simp [m__law_low, b__law_low, ew, e2, m1, em, dv, m2, y_eqI, q1, x0, e6, e]⟩
    · obtain ⟨x, hx, e⟩ := ends mv
      exact ⟨x, hx, by simp [m__law_low, b__law_low, ew, e2, m1, em, dv, m2, y_eqI, q1, x0, e6, e]⟩
  · have x0 : gIx (Sn.d ⟨some (l, u), n, cs⟩) (.int 0) = some (.int l) := rfl
    have x1 : gIx (Sn.d ⟨some (l, u), n, cs⟩) (.int 1) = some (.int u) := rfl
    have xx : ∃ z, gIx (Sn.d ⟨some (l, u), n, cs⟩) (.int (d25.fmod 2)) = some (.int z) := by
      have : d25.fmod 2 = 0 ∨ d25.fmod 2 = 1 := by omega
      rcases this with k | k <;> rw [k]
      · exact ⟨l, x0⟩
      · exact ⟨u, x1⟩
    obtain ⟨z, xx⟩ := xx
    by_cases q2 : d24.fmod 2 = 1
    · obtain ⟨x, hx, e⟩ := ends z
      by_cases q1 : (d2.fdiv 12).fmod 2 = 1 <;> exact ⟨x, hx, by simp [m__law_low, b__law_low, ew, e2, m1, em, dv, m2, y_eqI, q1, x0, e24, m3, q2, e25, m4, xx, e6, e]⟩
    · by_cases q1 : (d2.fdiv 12).fmod 2 = 1
      · obtain ⟨x, hx, e⟩ := ends (-mv)
        exact ⟨x, hx, by simp [m__law_low, b__law_low, ew, e2, m1, em, dv, m2, y_eqI, q1, x0, e24, m3, q2, e6, e]⟩
      · obtain ⟨x, hx, e⟩ := ends mv
        exact ⟨x, hx, by simp [m__law_low, b__law_low, ew, e2, m1, em, dv, m2, y_eqI, q1, x0, e24, m3, q2, e6, e]⟩
end K54

namespace K54
open PySem PySem.Spec L2 G
theorem in_ints (x : Int) (xs : List Int) : gInA false (.int x) (.list (xs.map .int)) = some (.bool (xs.any fun y => y == x)) := by
  have ok : ∀ l : List Int, okDs (l.map PyData.int) = true ∧ PyData.canLayAll0 (l.map PyData.int) = true := by
    intro l
    induction l with
    | nil => exact ⟨rfl, rfl⟩
    | cons y r ih =>
      rw [List.map_cons, okDs, PyData.canLayAll0, ih.1, ih.2]
      exact ⟨rfl, rfl⟩
  unfold gInA
  simp only
  rw [if_pos ⟨rfl, (ok xs).1, (ok xs).2⟩]
  simp only [Bool.false_eq_true, if_false]
  rw [List.any_map]
  rfl
theorem srt_perm (xs : List Str) : (srt xs).Perm xs := List.mergeSort_perm xs leS
theorem e_span {ns : List Int} (h : ∀ x ∈ ns, draw x) (hl : ns.length = 27) {nm : List Str} (hn : nm.length = 3) (hp : ∀ x ∈ nm, x ∈ pool) {o : Sn} (w : Wf o) : ∃ s : Sn, Wf s ∧ m__law_span [.list (ns.map .int), .list (nm.map .str), o.d] = some s.d := by
  obtain ⟨d0, _, e0⟩ := draw_at h (k := 0) (by decide) (by omega)
  obtain ⟨d1, _, e1⟩ := draw_at h (k := 1) (by decide) (by omega)
  obtain ⟨d7, _, e7⟩ := draw_at h (k := 7) (by decide) (by omega)
  obtain ⟨d11, _, e11⟩ := draw_at h (k := 11) (by decide) (by omega)
  obtain ⟨lw, hlw, elw⟩ := e_low h hl w
  generalize o.d = od at elw ⊢
  obtain ⟨wd, w0, w1, ew⟩ := e_wide h 8 (by decide) (by omega)
  have m6 := y_mod' d0 (b := 6) (by decide)
  have m3 := y_mod' d11 (b := 3) (by decide)
  have m12 := y_mod' d11 (b := 12) (by decide)
  have m2000 := y_mod' wd (b := 2000) (by decide)
  have m7 := y_mod' d7 (b := 6) (by decide)
  have f3 := fmod_in d11 (b := 3) (by decide)
  have f12 := fmod_in d11 (b := 12) (by decide)
  have f2000 := fmod_in wd (b := 2000) (by decide)
  have f7 := fmod_in d7 (b := 6) (by decide)
  have f6 := fmod_in d0 (b := 6) (by decide)
  have mu : gMul (.int 2) (.int wd) = some (.int (2 * wd)) := y_mul (.inl (by decide))
  obtain ⟨wv, hwv, ewv⟩ := at_mem (l := ([0, d11.fmod 3, d11.fmod 12, wd.fmod 2000, wd, 2 * wd + 1] : List Int).map PyData.int) (i := d7.fmod 6) f7.1 (by simp; omega)
  obtain ⟨wi, hwi, rfl⟩ := List.mem_map.mp hwv
  have wpos : 0 ≤ wi := by
    simp only [List.mem_cons, List.not_mem_nil, or_false] at hwi
    omega
  simp only [List.map_cons, List.map_nil] at ewv
  have inn : gInA false (.int (d0.fmod 6)) (.list [.int 1, .int 2, .int 3, .int 4]) = some (.bool (([1, 2, 3, 4] : List Int).any fun y => y == d0.fmod 6)) := in_ints _ [1, 2, 3, 4]
  have dv : gDiv (.int d1) (.int 2) = some (.int (d1.fdiv 2)) := y_div ⟨by decide, by decide⟩
  have n2 := y_mod' d1 (b := 2) (by decide)
  have g2 := fmod_in d1 (b := 2) (by decide)
  have n3 := y_mod' (d1.fdiv 2) (b := 3) (by decide)
  have g3 := fmod_in (d1.fdiv 2) (b := 3) (by decide)
  obtain ⟨sv, hsv, esv⟩ := at_mem (l := ([0, 3, 3] : List Int).map PyData.int) (i := (d1.fdiv 2).fmod 3) g3.1 (by simp; omega)
  obtain ⟨sz, hsz, rfl⟩ := List.mem_map.mp hsv
  have bsz : sz = 0 ∨ sz = 3 := by
    have all : ∀ x ∈ ([0, 3, 3] : List Int), x = 0 ∨ x = 3 := by decide
    exact all sz hsz
  simp only [List.map_cons, List.map_nil] at esv
  -- the classes
  have cls : ∀ (n : Int) (sl : Sls), (n = 0 ∨ n = 3) → (∀ d, (sl.set 11 (.val d))[0]? = some (.val (.list (ns.map .int)))) → (∀ d, (sl.set 11 (.val d))[1]? = some (.val (.list (nm.map .str)))) → 11 < sl.length →
      ∃ xs : List Str, xs.length ≤ 3 ∧ (∀ x ∈ xs, x ∈ pool) ∧ lcL (tgName 11) (dTest (dOp gEq (dOp gMod (dApp gInt (dCons (dOp gIx (dView 0) (dOp gAdd (dC (.int 12)) (dView 11))) dNil)) (dC (.int 2))) (dC (.int 1)))) (dOp gIx (dView 1) (dView 11)) sl (rangeD 0 n.toNat) = some (xs.map .str) := by
    intro n sl hn' hs0 hs1 hlen
    have hkk : ∀ d, (sl.set 11 (.val d))[11]? = some (.val d) := fun d => List.getElem?_set_self hlen
    obtain ⟨ys, h1, h2, h3⟩ := lcL_some (gs := tgName 11) (ft := dTest (dOp gEq (dOp gMod (dApp gInt (dCons (dOp gIx (dView 0) (dOp gAdd (dC (.int 12)) (dView 11))) dNil)) (dC (.int 2))) (dC (.int 1)))) (fe := dOp gIx (dView 1) (dView 11)) (sl := sl) (fun y => ∃ x ∈ pool, y = .str x) (rangeD 0 n.toNat) fun x hx => by
      obtain ⟨i, hi, e0'⟩ := List.mem_map.mp hx
      have e0' : x = .int (i : Int) := by rw [← e0', Int.zero_add]
      subst e0'
      have hi3 : i < 3 := by rw [List.mem_range] at hi; omega
      obtain ⟨dx, _, ex⟩ := draw_at h (k := 12 + (i : Int)) (by omega) (by omega)
      have mx := y_mod' dx (b := 2) (by decide)
      obtain ⟨z, hz, ez⟩ := str_at (ns := nm) (k := (i : Int)) (by omega) (by omega)
      refine ⟨_, dx.fmod 2 == 1, rfl, ?_, fun _ => ⟨.str z, ⟨z, hp z hz, rfl⟩, ?_⟩⟩
      · simp [hs0, hkk, ex, mx, y_eqI]
      · simp [hs1, hkk, ez]
    obtain ⟨xs, rfl, hx⟩ := strs_of_all ys h1
    refine ⟨xs, ?_, hx, h3⟩
    rw [List.length_map] at h2
    unfold rangeD at h2
    rw [List.length_map, List.length_range] at h2
    omega
  have srtW : ∀ (r : Option (Int × Int)) (b : Bool) (xs : List Str), (∀ l u, r = some (l, u) → -LG ≤ l ∧ l ≤ u ∧ u ≤ LG) → xs.length ≤ 3 → (∀ x ∈ xs, x ∈ pool) → Wf ⟨r, b, srt xs⟩ := fun r b xs hr h1 h2 =>
    ⟨hr, by rw [(srt_perm xs).length_eq]; exact h1, fun x hx => h2 x ((srt_perm xs).mem_iff.mp hx)⟩
  have srtS : ∀ xs : List Str, xs.length ≤ 3 → gSortS [.list (xs.map .str)] = some (.list ((srt xs).map .str)) := fun xs h1 => by
    show ((strsD (xs.map PyData.str)).bind _) = _
    rw [strsD_map, Option.bind_some, if_pos (by omega)]
  have bit : ∃ b : Bool, d1.fmod 2 = b2i b := by
    have : d1.fmod 2 = 0 ∨ d1.fmod 2 = 1 := by omega
    rcases this with k | k
    · exact ⟨false, k⟩
    · exact ⟨true, k⟩
  obtain ⟨bt, hbt⟩ := bit
  rw [hbt] at n2
  -- high
  generalize hhi : (if lw + wi < 999999999 then lw + wi else 999999999) = hi
  have bhi : lw ≤ hi ∧ hi ≤ LG := by
    unfold small at hlw
    rw [← hhi]
    unfold LG at *
    split <;> omega
  have wfN : ∀ (b : Bool) (xs : List Str), xs.length ≤ 3 → (∀ x ∈ xs, x ∈ pool) → Wf ⟨some (lw, hi), b, srt xs⟩ := fun b xs h1 h2 => srtW _ b xs (fun l u e => by
    cases e
    exact ⟨hlw.1, bhi.1, bhi.2⟩) h1 h2
  have wf0 : ∀ (b : Bool) (xs : List Str), xs.length ≤ 3 → (∀ x ∈ xs, x ∈ pool) → Wf ⟨none, b, srt xs⟩ := fun b xs h1 h2 => srtW _ b xs (fun l u e => by cases e) h1 h2
  have nd : ∀ (r : Option (Int × Int)) (b : Bool) (xs : List Str), (Sn.mk r b xs).d = .tuple [lowD r, highD r, .int (b2i b), .tuple (xs.map .str)] := fun _ _ _ => rfl
  have szr : ∀ n : Int, n = 0 ∨ n = 3 → -1000000 ≤ n ∧ n ≤ 1000000 := fun n hn' => by omega
  by_cases a : (([1, 2, 3, 4] : List Int).any fun y => y == d0.fmod 6) = true
  · rw [a] at inn
    by_cases c : 2 < d0.fmod 6
    · obtain ⟨xs, x1, x2, x3⟩ := cls sz [.val (.list (ns.map .int)), .val (.list (nm.map .str)), .val od, .val (.int (d0.fmod 6)), .val (.int lw), .val (.int hi), .val (.int wd), .val (.list [.int 0, .int (d11.fmod 3), .int (d11.fmod 12), .int (wd.fmod 2000), .int wd, .int (2 * wd + 1)]), .val (.int (b2i bt)), .val (.int sz), .no, .no] bsz (fun _ => rfl) (fun _ => rfl) (by simp)
      refine ⟨_, wfN bt xs x1 x2, ?_⟩
      have x1' : xs.length ≤ 100000 := by omega
      simp [m__law_span, b__law_span, e0, m6, inn, elw, ew, e11, m3, m12, m2000, mu, e7, m7, ewv, hhi, c, e1, n2, dv, n3, hn, esv, szr sz bsz, x3, x1', srtS xs x1, nd, lowD, highD]
    · obtain ⟨xs, x1, x2, x3⟩ := cls 0 [.val (.list (ns.map .int)), .val (.list (nm.map .str)), .val od, .val (.int (d0.fmod 6)), .val (.int lw), .val (.int hi), .val (.int wd), .val (.list [.int 0, .int (d11.fmod 3), .int (d11.fmod 12), .int (wd.fmod 2000), .int wd, .int (2 * wd + 1)]), .val (.int 0), .val (.int 0), .no, .no] (.inl rfl) (fun _ => rfl) (fun _ => rfl) (by simp)
      refine ⟨_, wfN false xs x1 x2, ?_⟩
      have x1' : xs.length ≤ 100000 := by omega
      simp [m__law_span, b__law_span, e0, m6, inn, elw, ew, e11, m3, m12, m2000, mu, e7, m7, ewv, hhi, c, x1', srtS xs x1, nd, lowD, highD, b2i] at x3 ⊢
      simp [x3, x1', srtS xs x1]
  · have a' : (([1, 2, 3, 4] : List Int).any fun y => y == d0.fmod 6) = false := by simpa using a
    rw [a'] at inn
    by_cases c : 2 < d0.fmod 6
    · obtain ⟨xs, x1, x2, x3⟩ := cls sz [.val (.list (ns.map .int)), .val (.list (nm.map .str)), .val od, .val (.int (d0.fmod 6)), .val .none, .val .none, .no, .no, .val (.int (b2i bt)), .val (.int sz), .no, .no] bsz (fun _ => rfl) (fun _ => rfl) (by simp)
      refine ⟨_, wf0 bt xs x1 x2, ?_⟩
      have x1' : xs.length ≤ 100000 := by omega
      simp [m__law_span, b__law_span, e0, m6, inn, c, e1, n2, dv, n3, hn, esv, szr sz bsz, x3, x1', srtS xs x1, nd, lowD, highD]
    · obtain ⟨xs, x1, x2, x3⟩ := cls 0 [.val (.list (ns.map .int)), .val (.list (nm.map .str)), .val od, .val (.int (d0.fmod 6)), .val .none, .val .none, .no, .no, .val (.int 0), .val (.int 0), .no, .no] (.inl rfl) (fun _ => rfl) (fun _ => rfl) (by simp)
      refine ⟨_, wf0 false xs x1 x2, ?_⟩
      have x1' : xs.length ≤ 100000 := by omega
      simp [m__law_span, b__law_span, e0, m6, inn, c, x1', srtS xs x1, nd, lowD, highD, b2i] at x3 ⊢
      simp [x3, x1', srtS xs x1]
end K54

namespace K54
open PySem PySem.Spec L2 G
theorem wfN {l h : Int} (h1 : -LG ≤ l) (h2 : l ≤ h) (h3 : h ≤ LG) : Wf (nS l h) := ⟨fun a b e => by cases e; exact ⟨h1, h2, h3⟩, Nat.zero_le _, fun _ h => nomatch h⟩
theorem wf0 : Wf eS := ⟨fun a b e => (by cases e), Nat.zero_le _, fun _ h => nomatch h⟩
def edgeP : List (Int × Int) := [(999999999, 1), (333333333, 3), (111111111, 9), (37037037, 27), (1000000, 1000), (500000000, 2), (250000000, 4), (5, 200000000), (999999, 1000), (31622, 31623), (31623, 31623)]
theorem e_edges {ns : List Int} (h : ∀ x ∈ ns, draw x) (hl : ns.length = 7) : ∃ s t : Sn, Wf s ∧ Wf t ∧ m__law_edges [.list (ns.map .int)] = some (.list [s.d, t.d]) := by
  obtain ⟨d2, _, e2⟩ := draw_at h (k := 2) (by decide) (by omega)
  obtain ⟨d3, _, e3⟩ := draw_at h (k := 3) (by decide) (by omega)
  obtain ⟨d4, _, e4⟩ := draw_at h (k := 4) (by decide) (by omega)
  obtain ⟨d5, _, e5⟩ := draw_at h (k := 5) (by decide) (by omega)
  obtain ⟨d6, _, e6⟩ := draw_at h (k := 6) (by decide) (by omega)
  have m2 := y_mod' d2 (b := 11) (by decide)
  have f2 := fmod_in d2 (b := 11) (by decide)
  have m3 := y_mod' d3 (b := 3) (by decide)
  have f3 := fmod_in d3 (b := 3) (by decide)
  have m4 := y_mod' d4 (b := 3) (by decide)
  have f4 := fmod_in d4 (b := 3) (by decide)
  have m5 := y_mod' d5 (b := 2) (by decide)
  have m6 := y_mod' d6 (b := 2) (by decide)
  obtain ⟨pd, hpd, ep⟩ := at_mem (l := edgeP.map fun p => PyData.tuple [.int p.1, .int p.2]) (i := d2.fmod 11) f2.1 (by simp [edgeP]; omega)
  obtain ⟨⟨p, q⟩, hpq, rfl⟩ := List.mem_map.mp hpd
  have all : ∀ x ∈ edgeP, 1 ≤ x.1 ∧ x.1 ≤ 999999999 ∧ 1 ≤ x.2 ∧ x.2 ≤ 999999999 := by decide
  have b := all _ hpq
  simp only at b
  simp only [edgeP, List.map_cons, List.map_nil] at ep
  have rd : rangeD 0 2 = [.int 0, .int 1] := rfl
  have nd : ∀ l u : Int, (nS l u).d = .tuple [.int l, .int u, .int 0, .tuple []] := fun _ _ => rfl
  have z3 : (3 : Int) + 1 = 4 := rfl
  have z5 : (5 : Int) + 1 = 6 := rfl
  by_cases c5 : d5.fmod 2 = 1 <;> by_cases c6 : d6.fmod 2 = 1
  · exact ⟨nS (-p) (-(p - d3.fmod 3)), nS (-q) (-(q - d4.fmod 3)), wfN (by unfold LG; omega) (by omega) (by unfold LG; omega), wfN (by unfold LG; omega) (by omega) (by unfold LG; omega),
      by simp [m__law_edges, b__law_edges, rd, forL, e2, m2, ep, atC0, atC1, e3, m3, e4, m4, e5, m5, e6, m6, c5, c6, y_eqI, nd]⟩
  · exact ⟨nS (-p) (-(p - d3.fmod 3)), nS (q - d4.fmod 3) q, wfN (by unfold LG; omega) (by omega) (by unfold LG; omega), wfN (by unfold LG; omega) (by omega) (by unfold LG; omega),
      by simp [m__law_edges, b__law_edges, rd, forL, e2, m2, ep, atC0, atC1, e3, m3, e4, m4, e5, m5, e6, m6, c5, c6, y_eqI, nd]⟩
  · exact ⟨nS (p - d3.fmod 3) p, nS (-q) (-(q - d4.fmod 3)), wfN (by unfold LG; omega) (by omega) (by unfold LG; omega), wfN (by unfold LG; omega) (by omega) (by unfold LG; omega),
      by simp [m__law_edges, b__law_edges, rd, forL, e2, m2, ep, atC0, atC1, e3, m3, e4, m4, e5, m5, e6, m6, c5, c6, y_eqI, nd]⟩
  · exact ⟨nS (p - d3.fmod 3) p, nS (q - d4.fmod 3) q, wfN (by unfold LG; omega) (by omega) (by unfold LG; omega), wfN (by unfold LG; omega) (by omega) (by unfold LG; omega),
      by simp [m__law_edges, b__law_edges, rd, forL, e2, m2, ep, atC0, atC1, e3, m3, e4, m4, e5, m5, e6, m6, c5, c6, y_eqI, nd]⟩
/-! ### the law -/
def bodyS : Sls → Option Fl := (sIf (dNot (dTest (dApp m__law_combined (dCons (dVar 9) (dCons (dVar 7) (dCons (dVar 8) dNil)))))) (sRet (dC (.bool false))) sNext)
theorem sign_for (a0 a1 a2 a3 a4 a5 a6 a10 : SV) {A B : Sn} (w : Wf A) (v : Wf B) : ∀ (xs : List Str) (x : SV), (∀ y ∈ xs, y ∈ signs) → ∃ x', forL (tgName 9) bodyS (xs.map .str) [a0, a1, a2, a3, a4, a5, a6, .val A.d, .val B.d, x, a10] = some (.nx [a0, a1, a2, a3, a4, a5, a6, .val A.d, .val B.d, x', a10])
  | [], x, _ => ⟨x, rfl⟩
  | y :: xs, x, h => by
    obtain ⟨x', e⟩ := sign_for a0 a1 a2 a3 a4 a5 a6 a10 w v xs (.val (.str y)) fun z hz => h z (List.mem_cons_of_mem _ hz)
    have k := pair_ok (h y List.mem_cons_self) w v
    refine ⟨x', ?_⟩
    rw [← e]
    have st : bodyS [a0, a1, a2, a3, a4, a5, a6, .val A.d, .val B.d, .val (.str y), a10] = some (.nx [a0, a1, a2, a3, a4, a5, a6, .val A.d, .val B.d, .val (.str y), a10]) := by
      unfold bodyS
      simp [k]
    show ((tgName 9 (.str y) _).bind fun s => (bodyS s).bind _) = _
    rw [z_tgN, Option.bind_some]
    show ((bodyS [a0, a1, a2, a3, a4, a5, a6, .val A.d, .val B.d, .val (.str y), a10]).bind _) = _
    rw [st]
    rfl
def signL : Sls → Option D := (dApp G.gLst (dCons (dC (.str "==")) (dCons (dC (.str "!=")) (dCons (dC (.str "<")) (dCons (dC (.str "<=")) (dCons (dC (.str ">")) (dCons (dC (.str ">=")) (dCons (dC (.str "+")) (dCons (dC (.str "-")) (dCons (dC (.str "*")) (dCons (dC (.str "/")) (dCons (dC (.str "mod")) dNil))))))))))))
theorem signL_eq (sl : Sls) : signL sl = some (.list (signs.map .str)) := rfl
theorem pairs_for (a0 a1 a2 a3 a4 a5 a6 a10 : SV) : ∀ (ps : List (Sn × Sn)) (x y z : SV), (∀ p ∈ ps, Wf p.1 ∧ Wf p.2) → ∃ x' y' z', forL (tgTup 2 (tgCons (tgName 7) (tgCons (tgName 8) tgNil))) (sFor (iLst signL) (tgName 9) bodyS) (ps.map fun p => .tuple [p.1.d, p.2.d]) [a0, a1, a2, a3, a4, a5, a6, x, y, z, a10] = some (.nx [a0, a1, a2, a3, a4, a5, a6, x', y', z', a10])
  | [], x, y, z, _ => ⟨x, y, z, rfl⟩
  | p :: ps, x, y, z, h => by
    obtain ⟨w, v⟩ := h p List.mem_cons_self
    obtain ⟨z1, e1⟩ := sign_for a0 a1 a2 a3 a4 a5 a6 a10 w v signs z fun _ h => h
    obtain ⟨x', y', z', e2⟩ := pairs_for a0 a1 a2 a3 a4 a5 a6 a10 ps (.val p.1.d) (.val p.2.d) z1 fun q hq => h q (List.mem_cons_of_mem _ hq)
    refine ⟨x', y', z', ?_⟩
    rw [← e2]
    show ((forL (tgName 9) bodyS (signs.map .str) [a0, a1, a2, a3, a4, a5, a6, .val p.1.d, .val p.2.d, z, a10]).bind _) = _
    rw [e1]
    rfl
def bodyN : Sls → Option Fl := (sIf (dNot (dTest (dApp m__law_negated (dCons (dVar 10) dNil)))) (sRet (dC (.bool false))) sNext)
theorem neg_for (a0 a1 a2 a3 a4 a5 a6 a7 a8 a9 : SV) : ∀ (xs : List Sn) (x : SV), (∀ y ∈ xs, Wf y) → ∃ x', forL (tgName 10) bodyN (xs.map Sn.d) [a0, a1, a2, a3, a4, a5, a6, a7, a8, a9, x] = some (.nx [a0, a1, a2, a3, a4, a5, a6, a7, a8, a9, x'])
  | [], x, _ => ⟨x, rfl⟩
  | y :: xs, x, h => by
    obtain ⟨x', e⟩ := neg_for a0 a1 a2 a3 a4 a5 a6 a7 a8 a9 xs (.val y.d) fun z hz => h z (List.mem_cons_of_mem _ hz)
    have k := neg_ok (h y List.mem_cons_self)
    refine ⟨x', ?_⟩
    rw [← e]
    have st : bodyN [a0, a1, a2, a3, a4, a5, a6, a7, a8, a9, .val y.d] = some (.nx [a0, a1, a2, a3, a4, a5, a6, a7, a8, a9, .val y.d]) := by
      unfold bodyN
      simp [k]
    show ((tgName 10 y.d _).bind fun s => (bodyN s).bind _) = _
    rw [z_tgN, Option.bind_some]
    show ((bodyN [a0, a1, a2, a3, a4, a5, a6, a7, a8, a9, .val y.d]).bind _) = _
    rw [st]
    rfl
theorem cut3 {nm : List Str} (h : nm.length = 30) : cutD (nm.map PyData.str) none (some 3) = (nm.take 3).map .str := by
  unfold cutD
  rw [List.length_map, h]
  show ((nm.map PyData.str).drop 0).take 3 = _
  rw [List.drop_zero, List.map_take]
theorem law_true (ns : List Int) : m_law [.list (ns.map .int)] = some (.bool true) := by
  obtain ⟨c0, k0⟩ := e_cell ns 0
  obtain ⟨c1, k1⟩ := e_cell ns 1
  obtain ⟨c2, k2⟩ := e_cell ns 2
  obtain ⟨n0, l0, d0, r0⟩ := e_draws c0 7 (by decide)
  obtain ⟨n1, l1, d1, r1⟩ := e_draws c1 27 (by decide)
  obtain ⟨n2, l2, d2, r2⟩ := e_draws c2 27 (by decide)
  obtain ⟨x0, _, i0⟩ := draw_at d0 (k := 0) (by decide) (by omega)
  obtain ⟨x1, _, i1⟩ := draw_at d0 (k := 1) (by decide) (by omega)
  obtain ⟨nm, ln, pn, en⟩ := e_names x0 x1
  have cut := cut3 ln
  have lp : (nm.take 3).length = 3 := by rw [List.length_take, ln]; rfl
  have pp : ∀ x ∈ nm.take 3, x ∈ pool := fun x hx => pn x (List.mem_of_mem_take hx)
  generalize nm.take 3 = pl at *
  obtain ⟨s, ws, es⟩ := e_span d1 l1 lp pp wf0
  obtain ⟨t, wt, et⟩ := e_span d2 l2 lp pp ws
  obtain ⟨u, v, wu, wv, ee⟩ := e_edges d0 l0
  have p1 := pair_ok (show ("+" : Str) ∈ signs by decide +kernel) ws wt
  have p2 := pair_ok (show ("mod" : Str) ∈ signs by decide +kernel) wt ws
  have eE : eS.d = .tuple [.none, .none, .int 0, .tuple []] := rfl
  obtain ⟨x', y', z', ef⟩ := pairs_for (.val (.list (ns.map .int))) (.val (.list (n0.map .int))) (.val (.list (pl.map .str))) (.val eS.d) (.val s.d) (.val t.d)
    (.val (.list [.tuple [s.d, t.d], .tuple [t.d, s.d], .tuple [s.d, s.d], .tuple [t.d, t.d], .tuple [s.d, eS.d], .tuple [eS.d, s.d], .tuple [u.d, v.d]])) .no
    [(s, t), (t, s), (s, s), (t, t), (s, eS), (eS, s), (u, v)] .no .no .no (by
      intro p hp
      simp only [List.mem_cons, List.not_mem_nil, or_false] at hp
      rcases hp with rfl | rfl | rfl | rfl | rfl | rfl | rfl
      · exact ⟨ws, wt⟩
      · exact ⟨wt, ws⟩
      · exact ⟨ws, ws⟩
      · exact ⟨wt, wt⟩
      · exact ⟨ws, wf0⟩
      · exact ⟨wf0, ws⟩
      · exact ⟨wu, wv⟩)
  obtain ⟨q', eg⟩ := neg_for (.val (.list (ns.map .int))) (.val (.list (n0.map .int))) (.val (.list (pl.map .str))) (.val eS.d) (.val s.d) (.val t.d)
    (.val (.list [.tuple [s.d, t.d], .tuple [t.d, s.d], .tuple [s.d, s.d], .tuple [t.d, t.d], .tuple [s.d, eS.d], .tuple [eS.d, s.d], .tuple [u.d, v.d]])) x' y' z'
    [s, t, eS, s] .no (by
      intro p hp
      simp only [List.mem_cons, List.not_mem_nil, or_false] at hp
      rcases hp with rfl | rfl | rfl | rfl
      · exact ws
      · exact wt
      · exact wf0
      · exact ws)
  have k0' : m__law_cell [.list (ns.map .int), .int 0] = some (.int c0) := k0
  have k1' : m__law_cell [.list (ns.map .int), .int 1] = some (.int c1) := k1
  have k2' : m__law_cell [.list (ns.map .int), .int 2] = some (.int c2) := k2
  have r0' : m__law_draws [.int c0, .int 7] = some (.list (n0.map .int)) := r0
  have r1' : m__law_draws [.int c1, .int 27] = some (.list (n1.map .int)) := r1
  have r2' : m__law_draws [.int c2, .int 27] = some (.list (n2.map .int)) := r2
  unfold signL bodyS at ef
  unfold bodyN at eg
  simp only [List.map_cons, List.map_nil] at ef eg
  generalize s.d = sd at *
  generalize t.d = td at *
  generalize u.d = ud at *
  generalize v.d = vd at *
  rw [eE] at es ef eg
  simp [m_law, b_law, k0', k1', k2', r0', r1', r2', i0, i1, en, cut, es, et, ee, p1, p2] at ef eg ⊢
  simp [ef, eg, p1, p2]
end K54
namespace K54
open PySem PySem.Spec L2 G
abbrev KX (K : PySem.W.Frag) : Kx := ⟨K, fun _ => True⟩
theorem gg_mk {K : PySem.W.Frag} {h : Heap} {mg : Str → Option Value} (X : K.In h) (Gr : h.Ns mainGlobals mg) {aE a0 aC : Addr} {tL tE t1 t2 t3 t4 : Tok} {dE d0 dC : Option Addr} {nE n0 nC : Nat} {sE s0 sC : Array (Option Value)}
    (gL : PySem.W.nsIn K mainGlobals "LARGEST" = some (some (.int 999999999 tL))) (gE : PySem.W.nsIn K mainGlobals "EMPTY" = some (some (.ref aE))) (lE : K.lookup aE = some ⟨.type "tuple", dE, .seq #[.none, .none, .int 0 tE, .ref a0] nE, sE⟩) (l0 : K.lookup a0 = some ⟨.type "tuple", d0, .seq #[] n0, s0⟩)
    (gC : PySem.W.nsIn K mainGlobals "COMPARISONS" = some (some (.ref aC))) (lC : K.lookup aC = some ⟨.type "tuple", dC, .seq #[.str "<" t1, .str "<=" t2, .str ">" t3, .str ">=" t4] nC, sC⟩) : GG (KX K) mg aE aC := by
  have z0 : ∀ F : Hp, Rep (KX K) F (.tuple []) (.ref a0) := fun F => .tupK trivial (.inr ⟨_, _, _, l0, rfl, rfl, by decide, .nil⟩) .nil
  refine ⟨⟨tL, PySem.W.mg_of X Gr gL⟩, PySem.W.mg_of X Gr gE, fun F => ?_, PySem.W.mg_of X Gr gC, fun F => ?_⟩
  · exact .tupK (vs := [.non, .non, .int 0, .ref a0]) trivial (.inr ⟨_, _, _, lE, rfl, rfl, (by show 4 ≤ sizeLine; decide), .cons rfl (.cons rfl (.cons ⟨_, rfl⟩ (.cons rfl .nil)))⟩) (.cons .non (.cons .non (.cons (.int 0) (.cons (z0 F) .nil))))
  · exact .tupK (vs := [.str "<", .str "<=", .str ">", .str ">="]) trivial (.inr ⟨_, _, _, lC, rfl, rfl, (by show 4 ≤ sizeLine; decide), .cons ⟨_, rfl⟩ (.cons ⟨_, rfl⟩ (.cons ⟨_, rfl⟩ (.cons ⟨_, rfl⟩ .nil)))⟩) (.cons (.str _) (.cons (.str _) (.cons (.str _) (.cons (.str _) .nil))))
theorem all_fn {P : Program} {w : World} {K : PySem.W.Frag} {mg : Str → Option Value} {fa aE aC : Addr} (hfa : mg "law" = some (.ref fa)) (bl : Bl mg) (gg : GG (KX K) mg aE aC) (D0 : ∃ (f : Addr) (fd : FuncData), Fun K "in_order" "in_order" s_in_order f fd ∧ mg "in_order" = some (.ref f) ∧ ∃ (kV doc pm : Value) (an : Option Addr) (cdv ct : Value), fd = PySem.W.fnOf "in_order" "in_order" (defArgs s_in_order) (defBody s_in_order) (defScope s_in_order) .none kV doc pm an cdv ct) (D1 : ∃ (f : Addr) (fd : FuncData), Fun K "ordered" "ordered" s_ordered f fd ∧ mg "ordered" = some (.ref f) ∧ ∃ (kV doc pm : Value) (an : Option Addr) (cdv ct : Value), fd = PySem.W.fnOf "ordered" "ordered" (defArgs s_ordered) (defBody s_ordered) (defScope s_ordered) .none kV doc pm an cdv ct) (D2 : ∃ (f : Addr) (fd : FuncData), Fun K "number_span" "number_span" s_number_span f fd ∧ mg "number_span" = some (.ref f) ∧ ∃ (kV doc pm : Value) (an : Option Addr) (cdv ct : Value), fd = PySem.W.fnOf "number_span" "number_span" (defArgs s_number_span) (defBody s_number_span) (defScope s_number_span) .none kV doc pm an cdv ct) (D3 : ∃ (f : Addr) (fd : FuncData), Fun K "bits_span" "bits_span" s_bits_span f fd ∧ mg "bits_span" = some (.ref f) ∧ ∃ (kV doc pm : Value) (an : Option Addr) (cdv ct : Value), fd = PySem.W.fnOf "bits_span" "bits_span" (defArgs s_bits_span) (defBody s_bits_span) (defScope s_bits_span) .none kV doc pm an cdv ct) (D4 : ∃ (f : Addr) (fd : FuncData), Fun K "has_numbers" "has_numbers" s_has_numbers f fd ∧ mg "has_numbers" = some (.ref f) ∧ ∃ (kV doc pm : Value) (an : Option Addr) (cdv ct : Value), fd = PySem.W.fnOf "has_numbers" "has_numbers" (defArgs s_has_numbers) (defBody s_has_numbers) (defScope s_has_numbers) .none kV doc pm an cdv ct) (D5 : ∃ (f : Addr) (fd : FuncData), Fun K "kind_faults" "kind_faults" s_kind_faults f fd ∧ mg "kind_faults" = some (.ref f) ∧ ∃ (kV doc pm : Value) (an : Option Addr) (cdv ct : Value), fd = PySem.W.fnOf "kind_faults" "kind_faults" (defArgs s_kind_faults) (defBody s_kind_faults) (defScope s_kind_faults) .none kV doc pm an cdv ct) (D6 : ∃ (f : Addr) (fd : FuncData), Fun K "has_common" "has_common" s_has_common f fd ∧ mg "has_common" = some (.ref f) ∧ ∃ (kV doc pm : Value) (an : Option Addr) (cdv ct : Value), fd = PySem.W.fnOf "has_common" "has_common" (defArgs s_has_common) (defBody s_has_common) (defScope s_has_common) .none kV doc pm an cdv ct) (D7 : ∃ (f : Addr) (fd : FuncData), Fun K "has_one_value" "has_one_value" s_has_one_value f fd ∧ mg "has_one_value" = some (.ref f) ∧ ∃ (kV doc pm : Value) (an : Option Addr) (cdv ct : Value), fd = PySem.W.fnOf "has_one_value" "has_one_value" (defArgs s_has_one_value) (defBody s_has_one_value) (defScope s_has_one_value) .none kV doc pm an cdv ct) (D8 : ∃ (f : Addr) (fd : FuncData), Fun K "equal_span" "equal_span" s_equal_span f fd ∧ mg "equal_span" = some (.ref f) ∧ ∃ (kV doc pm : Value) (an : Option Addr) (cdv ct : Value), fd = PySem.W.fnOf "equal_span" "equal_span" (defArgs s_equal_span) (defBody s_equal_span) (defScope s_equal_span) .none kV doc pm an cdv ct) (D9 : ∃ (f : Addr) (fd : FuncData), Fun K "compared_span" "compared_span" s_compared_span f fd ∧ mg "compared_span" = some (.ref f) ∧ ∃ (kV doc pm : Value) (an : Option Addr) (cdv ct : Value), fd = PySem.W.fnOf "compared_span" "compared_span" (defArgs s_compared_span) (defBody s_compared_span) (defScope s_compared_span) .none kV doc pm an cdv ct) (D10 : ∃ (f : Addr) (fd : FuncData), Fun K "remainder_span" "remainder_span" s_remainder_span f fd ∧ mg "remainder_span" = some (.ref f) ∧ ∃ (kV doc pm : Value) (an : Option Addr) (cdv ct : Value), fd = PySem.W.fnOf "remainder_span" "remainder_span" (defArgs s_remainder_span) (defBody s_remainder_span) (defScope s_remainder_span) .none kV doc pm an cdv ct) (D11 : ∃ (f : Addr) (fd : FuncData), Fun K "divisors" "divisors" s_divisors f fd ∧ mg "divisors" = some (.ref f) ∧ ∃ (kV doc pm : Value) (an : Option Addr) (cdv ct : Value), fd = PySem.W.fnOf "divisors" "divisors" (defArgs s_divisors) (defBody s_divisors) (defScope s_divisors) .none kV doc pm an cdv ct) (D12 : ∃ (f : Addr) (fd : FuncData), Fun K "end_results" "end_results" s_end_results f fd ∧ mg "end_results" = some (.ref f) ∧ ∃ (kV doc pm : Value) (an : Option Addr) (cdv ct : Value), fd = PySem.W.fnOf "end_results" "end_results" (defArgs s_end_results) (defBody s_end_results) (defScope s_end_results) .none kV doc pm an cdv ct) (D13 : ∃ (f : Addr) (fd : FuncData), Fun K "combine_spans" "combine_spans" s_combine_spans f fd ∧ mg "combine_spans" = some (.ref f) ∧ ∃ (kV doc pm : Value) (an : Option Addr) (cdv ct : Value), fd = PySem.W.fnOf "combine_spans" "combine_spans" (defArgs s_combine_spans) (defBody s_combine_spans) (defScope s_combine_spans) .none kV doc pm an cdv ct) (D14 : ∃ (f : Addr) (fd : FuncData), Fun K "negate_span" "negate_span" s_negate_span f fd ∧ mg "negate_span" = some (.ref f) ∧ ∃ (kV doc pm : Value) (an : Option Addr) (cdv ct : Value), fd = PySem.W.fnOf "negate_span" "negate_span" (defArgs s_negate_span) (defBody s_negate_span) (defScope s_negate_span) .none kV doc pm an cdv ct) (D15 : ∃ (f : Addr) (fd : FuncData), Fun K "_law_cell" "_law_cell" s__law_cell f fd ∧ mg "_law_cell" = some (.ref f) ∧ ∃ (kV doc pm : Value) (an : Option Addr) (cdv ct : Value), fd = PySem.W.fnOf "_law_cell" "_law_cell" (defArgs s__law_cell) (defBody s__law_cell) (defScope s__law_cell) .none kV doc pm an cdv ct) (D16 : ∃ (f : Addr) (fd : FuncData), Fun K "_law_draws" "_law_draws" s__law_draws f fd ∧ mg "_law_draws" = some (.ref f) ∧ ∃ (kV doc pm : Value) (an : Option Addr) (cdv ct : Value), fd = PySem.W.fnOf "_law_draws" "_law_draws" (defArgs s__law_draws) (defBody s__law_draws) (defScope s__law_draws) .none kV doc pm an cdv ct) (D17 : ∃ (f : Addr) (fd : FuncData), Fun K "_law_is_integer" "_law_is_integer" s__law_is_integer f fd ∧ mg "_law_is_integer" = some (.ref f) ∧ ∃ (kV doc pm : Value) (an : Option Addr) (cdv ct : Value), fd = PySem.W.fnOf "_law_is_integer" "_law_is_integer" (defArgs s__law_is_integer) (defBody s__law_is_integer) (defScope s__law_is_integer) .none kV doc pm an cdv ct) (D18 : ∃ (f : Addr) (fd : FuncData), Fun K "_law_names" "_law_names" s__law_names f fd ∧ mg "_law_names" = some (.ref f) ∧ ∃ (kV doc pm : Value) (an : Option Addr) (cdv ct : Value), fd = PySem.W.fnOf "_law_names" "_law_names" (defArgs s__law_names) (defBody s__law_names) (defScope s__law_names) .none kV doc pm an cdv ct) (D19 : ∃ (f : Addr) (fd : FuncData), Fun K "_law_wide" "_law_wide" s__law_wide f fd ∧ mg "_law_wide" = some (.ref f) ∧ ∃ (kV doc pm : Value) (an : Option Addr) (cdv ct : Value), fd = PySem.W.fnOf "_law_wide" "_law_wide" (defArgs s__law_wide) (defBody s__law_wide) (defScope s__law_wide) .none kV doc pm an cdv ct) (D20 : ∃ (f : Addr) (fd : FuncData), Fun K "_law_near" "_law_near" s__law_near f fd ∧ mg "_law_near" = some (.ref f) ∧ ∃ (kV doc pm : Value) (an : Option Addr) (cdv ct : Value), fd = PySem.W.fnOf "_law_near" "_law_near" (defArgs s__law_near) (defBody s__law_near) (defScope s__law_near) .none kV doc pm an cdv ct) (D21 : ∃ (f : Addr) (fd : FuncData), Fun K "_law_low" "_law_low" s__law_low f fd ∧ mg "_law_low" = some (.ref f) ∧ ∃ (kV doc pm : Value) (an : Option Addr) (cdv ct : Value), fd = PySem.W.fnOf "_law_low" "_law_low" (defArgs s__law_low) (defBody s__law_low) (defScope s__law_low) .none kV doc pm an cdv ct) (D22 : ∃ (f : Addr) (fd : FuncData), Fun K "_law_span" "_law_span" s__law_span f fd ∧ mg "_law_span" = some (.ref f) ∧ ∃ (kV doc pm : Value) (an : Option Addr) (cdv ct : Value), fd = PySem.W.fnOf "_law_span" "_law_span" (defArgs s__law_span) (defBody s__law_span) (defScope s__law_span) .none kV doc pm an cdv ct) (D23 : ∃ (f : Addr) (fd : FuncData), Fun K "_law_same" "_law_same" s__law_same f fd ∧ mg "_law_same" = some (.ref f) ∧ ∃ (kV doc pm : Value) (an : Option Addr) (cdv ct : Value), fd = PySem.W.fnOf "_law_same" "_law_same" (defArgs s__law_same) (defBody s__law_same) (defScope s__law_same) .none kV doc pm an cdv ct) (D24 : ∃ (f : Addr) (fd : FuncData), Fun K "_law_edges" "_law_edges" s__law_edges f fd ∧ mg "_law_edges" = some (.ref f) ∧ ∃ (kV doc pm : Value) (an : Option Addr) (cdv ct : Value), fd = PySem.W.fnOf "_law_edges" "_law_edges" (defArgs s__law_edges) (defBody s__law_edges) (defScope s__law_edges) .none kV doc pm an cdv ct) (D25 : ∃ (f : Addr) (fd : FuncData), Fun K "_law_values" "_law_values" s__law_values f fd ∧ mg "_law_values" = some (.ref f) ∧ ∃ (kV doc pm : Value) (an : Option Addr) (cdv ct : Value), fd = PySem.W.fnOf "_law_values" "_law_values" (defArgs s__law_values) (defBody s__law_values) (defScope s__law_values) .none kV doc pm an cdv ct) (D26 : ∃ (f : Addr) (fd : FuncData), Fun K "_law_result" "_law_result" s__law_result f fd ∧ mg "_law_result" = some (.ref f) ∧ ∃ (kV doc pm : Value) (an : Option Addr) (cdv ct : Value), fd = PySem.W.fnOf "_law_result" "_law_result" (defArgs s__law_result) (defBody s__law_result) (defScope s__law_result) .none kV doc pm an cdv ct) (D27 : ∃ (f : Addr) (fd : FuncData), Fun K "_law_done" "_law_done" s__law_done f fd ∧ mg "_law_done" = some (.ref f) ∧ ∃ (kV doc pm : Value) (an : Option Addr) (cdv ct : Value), fd = PySem.W.fnOf "_law_done" "_law_done" (defArgs s__law_done) (defBody s__law_done) (defScope s__law_done) .none kV doc pm an cdv ct) (D28 : ∃ (f : Addr) (fd : FuncData), Fun K "_law_rests" "_law_rests" s__law_rests f fd ∧ mg "_law_rests" = some (.ref f) ∧ ∃ (kV doc pm : Value) (an : Option Addr) (cdv ct : Value), fd = PySem.W.fnOf "_law_rests" "_law_rests" (defArgs s__law_rests) (defBody s__law_rests) (defScope s__law_rests) .none kV doc pm an cdv ct) (D29 : ∃ (f : Addr) (fd : FuncData), Fun K "_law_due" "_law_due" s__law_due f fd ∧ mg "_law_due" = some (.ref f) ∧ ∃ (kV doc pm : Value) (an : Option Addr) (cdv ct : Value), fd = PySem.W.fnOf "_law_due" "_law_due" (defArgs s__law_due) (defBody s__law_due) (defScope s__law_due) .none kV doc pm an cdv ct) (D30 : ∃ (f : Addr) (fd : FuncData), Fun K "_law_combined" "_law_combined" s__law_combined f fd ∧ mg "_law_combined" = some (.ref f) ∧ ∃ (kV doc pm : Value) (an : Option Addr) (cdv ct : Value), fd = PySem.W.fnOf "_law_combined" "_law_combined" (defArgs s__law_combined) (defBody s__law_combined) (defScope s__law_combined) .none kV doc pm an cdv ct) (D31 : ∃ (f : Addr) (fd : FuncData), Fun K "_law_negated" "_law_negated" s__law_negated f fd ∧ mg "_law_negated" = some (.ref f) ∧ ∃ (kV doc pm : Value) (an : Option Addr) (cdv ct : Value), fd = PySem.W.fnOf "_law_negated" "_law_negated" (defArgs s__law_negated) (defBody s__law_negated) (defScope s__law_negated) .none kV doc pm an cdv ct) (D32 : ∃ (f : Addr) (fd : FuncData), Fun K "law" "law" s_law f fd ∧ mg "law" = some (.ref f) ∧ ∃ (kV doc pm : Value) (an : Option Addr) (cdv ct : Value), fd = PySem.W.fnOf "law" "law" (defArgs s_law) (defBody s_law) (defScope s_law) .none kV doc pm an cdv ct) :
    ∃ fd : FuncData, (∀ (s : Shared) (u : Value), BindsTo s fd ⟨[u], []⟩ [("script", u)]) ∧ ∀ base : Heap, K.In base → base.Ns mainGlobals mg → FnG P w K mg base 6 fa fd ["script"] (spD (KX K) m_law) := by
  obtain ⟨f0, fd0, F0, m0, e0⟩ := D0
  obtain ⟨f1, fd1, F1, m1, e1⟩ := D1
  obtain ⟨f2, fd2, F2, m2, e2⟩ := D2
  obtain ⟨f3, fd3, F3, m3, e3⟩ := D3
  obtain ⟨f4, fd4, F4, m4, e4⟩ := D4
  obtain ⟨f5, fd5, F5, m5, e5⟩ := D5
  obtain ⟨f6, fd6, F6, m6, e6⟩ := D6
  obtain ⟨f7, fd7, F7, m7, e7⟩ := D7
  obtain ⟨f8, fd8, F8, m8, e8⟩ := D8
  obtain ⟨f9, fd9, F9, m9, e9⟩ := D9
  obtain ⟨f10, fd10, F10, m10, e10⟩ := D10
  obtain ⟨f11, fd11, F11, m11, e11⟩ := D11
  obtain ⟨f12, fd12, F12, m12, e12⟩ := D12
  obtain ⟨f13, fd13, F13, m13, e13⟩ := D13
  obtain ⟨f14, fd14, F14, m14, e14⟩ := D14
  obtain ⟨f15, fd15, F15, m15, e15⟩ := D15
  obtain ⟨f16, fd16, F16, m16, e16⟩ := D16
  obtain ⟨f17, fd17, F17, m17, e17⟩ := D17
  obtain ⟨f18, fd18, F18, m18, e18⟩ := D18
  obtain ⟨f19, fd19, F19, m19, e19⟩ := D19
  obtain ⟨f20, fd20, F20, m20, e20⟩ := D20
  obtain ⟨f21, fd21, F21, m21, e21⟩ := D21
  obtain ⟨f22, fd22, F22, m22, e22⟩ := D22
  obtain ⟨f23, fd23, F23, m23, e23⟩ := D23
  obtain ⟨f24, fd24, F24, m24, e24⟩ := D24
  obtain ⟨f25, fd25, F25, m25, e25⟩ := D25
  obtain ⟨f26, fd26, F26, m26, e26⟩ := D26
  obtain ⟨f27, fd27, F27, m27, e27⟩ := D27
  obtain ⟨f28, fd28, F28, m28, e28⟩ := D28
  obtain ⟨f29, fd29, F29, m29, e29⟩ := D29
  obtain ⟨f30, fd30, F30, m30, e30⟩ := D30
  obtain ⟨f31, fd31, F31, m31, e31⟩ := D31
  obtain ⟨f32, fd32, F32, m32, e32⟩ := D32
  have ef : f32 = fa := by
    have z := m32.symm.trans hfa
    cases z
    rfl
  subst ef
  obtain ⟨kV, doc, pm, an, cdv, ct, rfl⟩ := e32
  refine ⟨PySem.W.fnOf "law" "law" (defArgs s_law) (defBody s_law) (defScope s_law) .none kV doc pm an cdv ct, fun s v => .of_eq rfl, fun base _ _ => ?_⟩
  have c_in_order := ok_in_order (P := P) (w := w) (K := KX K) (base := base) bl F0 m0 
  have c_ordered := ok_ordered (P := P) (w := w) (K := KX K) (base := base) bl F1 m1 
  have c_number_span := ok_number_span (P := P) (w := w) (K := KX K) (base := base) bl gg F2 m2 
  have c_bits_span := ok_bits_span (P := P) (w := w) (K := KX K) (base := base) bl F3 m3 c_number_span
  have c_has_numbers := ok_has_numbers (P := P) (w := w) (K := KX K) (base := base) bl F4 m4 
  have c_kind_faults := ok_kind_faults (P := P) (w := w) (K := KX K) (base := base) bl F5 m5 
  have c_has_common := ok_has_common (P := P) (w := w) (K := KX K) (base := base) bl F6 m6 c_has_numbers
  have c_has_one_value := ok_has_one_value (P := P) (w := w) (K := KX K) (base := base) bl F7 m7 c_has_numbers
  have c_equal_span := ok_equal_span (P := P) (w := w) (K := KX K) (base := base) bl F8 m8 c_bits_span c_has_common c_has_one_value
  have c_compared_span := ok_compared_span (P := P) (w := w) (K := KX K) (base := base) bl F9 m9 c_ordered c_number_span
  have c_remainder_span := ok_remainder_span (P := P) (w := w) (K := KX K) (base := base) bl F10 m10 c_number_span
  have c_divisors := ok_divisors (P := P) (w := w) (K := KX K) (base := base) bl F11 m11 
  have c_end_results := ok_end_results (P := P) (w := w) (K := KX K) (base := base) bl F12 m12 c_divisors
  have c_combine_spans := ok_combine_spans (P := P) (w := w) (K := KX K) (base := base) bl gg F13 m13 c_in_order c_number_span c_has_numbers c_kind_faults c_equal_span c_compared_span c_remainder_span c_end_results
  have c_negate_span := ok_negate_span (P := P) (w := w) (K := KX K) (base := base) bl gg F14 m14 c_in_order c_number_span c_has_numbers c_kind_faults
  have c__law_cell := ok__law_cell (P := P) (w := w) (K := KX K) (base := base) bl F15 m15 
  have c__law_draws := ok__law_draws (P := P) (w := w) (K := KX K) (base := base) bl F16 m16 
  have c__law_is_integer := ok__law_is_integer (P := P) (w := w) (K := KX K) (base := base) bl F17 m17 
  have c__law_names := ok__law_names (P := P) (w := w) (K := KX K) (base := base) bl F18 m18 
  have c__law_wide := ok__law_wide (P := P) (w := w) (K := KX K) (base := base) bl F19 m19 
  have c__law_near := ok__law_near (P := P) (w := w) (K := KX K) (base := base) bl F20 m20 
  have c__law_low := ok__law_low (P := P) (w := w) (K := KX K) (base := base) bl F21 m21 c__law_wide c__law_near
  have c__law_span := ok__law_span (P := P) (w := w) (K := KX K) (base := base) bl F22 m22 c__law_wide c__law_low
  have c__law_same := ok__law_same (P := P) (w := w) (K := KX K) (base := base) bl F23 m23 
  have c__law_edges := ok__law_edges (P := P) (w := w) (K := KX K) (base := base) bl F24 m24 
  have c__law_values := ok__law_values (P := P) (w := w) (K := KX K) (base := base) bl F25 m25 
  have c__law_result := ok__law_result (P := P) (w := w) (K := KX K) (base := base) bl F26 m26 
  have c__law_done := ok__law_done (P := P) (w := w) (K := KX K) (base := base) bl F27 m27 c__law_is_integer c__law_values c__law_result
  have c__law_rests := ok__law_rests (P := P) (w := w) (K := KX K) (base := base) bl F28 m28 
  have c__law_due := ok__law_due (P := P) (w := w) (K := KX K) (base := base) bl F29 m29 
  have c__law_combined := ok__law_combined (P := P) (w := w) (K := KX K) (base := base) bl F30 m30 c_combine_spans c__law_same c__law_done c__law_rests c__law_due
  have c__law_negated := ok__law_negated (P := P) (w := w) (K := KX K) (base := base) bl F31 m31 c_negate_span c__law_is_integer c__law_same c__law_values c__law_due
  exact fn_law (P := P) (w := w) (K := KX K) (base := base) bl F32 c__law_cell c__law_draws c__law_names c__law_span c__law_edges c__law_combined c__law_negated
end K54
open PySem PySem.W PyProof.Rows
set_option maxHeartbeats 0 in
theorem PySem.Challenge.cw_livesalike_k54_operators_of_spans_holds : PySem.Challenge.rw_livesalike_k54_operators_of_spans.Holds := by
  w_on; o_law; k_head; (case hw => w_witness2)
  k_fill
  refine L2.walk_ofG (l := PySem.Challenge.rw_livesalike_k54_operators_of_spans) (n := 63) (k := 6) (x := "script") (C := fun _ _ => True) (fn := K54.m_law) rfl (by decide) rfl ⟨rfl, by decide, by decide⟩ (fun w h Y => PySem.W.kIn_of Y) ?F (fun ns _ => K54.law_true ns)
  case F =>
    intro w mg fa h KX Gr hmg
    have bl : G.Bl mg := by
      refine' ⟨PySem.W.mg_none_of KX Gr ?b0, PySem.W.mg_none_of KX Gr ?b1, PySem.W.mg_none_of KX Gr ?b2, PySem.W.mg_none_of KX Gr ?b3, PySem.W.mg_none_of KX Gr ?b4, PySem.W.mg_none_of KX Gr ?b5, PySem.W.mg_none_of KX Gr ?b6, PySem.W.mg_none_of KX Gr ?b7, PySem.W.mg_none_of KX Gr ?b8, PySem.W.mg_none_of KX Gr ?b9, PySem.W.mg_none_of KX Gr ?b10, PySem.W.mg_none_of KX Gr ?b11, PySem.W.mg_none_of KX Gr ?b12, PySem.W.mg_none_of KX Gr ?b13⟩
      (case b0 => k_is); (case b1 => k_is); (case b2 => k_is); (case b3 => k_is); (case b4 => k_is); (case b5 => k_is); (case b6 => k_is); (case b7 => k_is); (case b8 => k_is); (case b9 => k_is); (case b10 => k_is); (case b11 => k_is); (case b12 => k_is); (case b13 => k_is)
    have gg : ∃ aE aC, K54.GG (K54.KX (L2.KOf KX)) mg aE aC := by
      refine' ⟨_, _, K54.gg_mk KX Gr ?gL ?gE ?lE ?l0 ?gC ?lC⟩
      (case gL => k_is); (case gE => k_is); (case lE => k_is); (case l0 => k_is); (case gC => k_is); (case lC => k_is)
    obtain ⟨aE, aC, gg⟩ := gg
    refine' K54.all_fn hmg bl gg ?D0 ?D1 ?D2 ?D3 ?D4 ?D5 ?D6 ?D7 ?D8 ?D9 ?D10 ?D11 ?D12 ?D13 ?D14 ?D15 ?D16 ?D17 ?D18 ?D19 ?D20 ?D21 ?D22 ?D23 ?D24 ?D25 ?D26 ?D27 ?D28 ?D29 ?D30 ?D31 ?D32
    case D0 => (refine' G.df KX Gr ?a ?l ?c ?k; (case a => k_is); (case l => k_is); (case c => k_is); (case k => k_is))
    case D1 => (refine' G.df KX Gr ?a ?l ?c ?k; (case a => k_is); (case l => k_is); (case c => k_is); (case k => k_is))
    case D2 => (refine' G.df KX Gr ?a ?l ?c ?k; (case a => k_is); (case l => k_is); (case c => k_is); (case k => k_is))
    case D3 => (refine' G.df KX Gr ?a ?l ?c ?k; (case a => k_is); (case l => k_is); (case c => k_is); (case k => k_is))
    case D4 => (refine' G.df KX Gr ?a ?l ?c ?k; (case a => k_is); (case l => k_is); (case c => k_is); (case k => k_is))
    case D5 => (refine' G.df KX Gr ?a ?l ?c ?k; (case a => k_is); (case l => k_is); (case c => k_is); (case k => k_is))
    case D6 => (refine' G.df KX Gr ?a ?l ?c ?k; (case a => k_is); (case l => k_is); (case c => k_is); (case k => k_is))
    case D7 => (refine' G.df KX Gr ?a ?l ?c ?k; (case a => k_is); (case l => k_is); (case c => k_is); (case k => k_is))
    case D8 => (refine' G.df KX Gr ?a ?l ?c ?k; (case a => k_is); (case l => k_is); (case c => k_is); (case k => k_is))
    case D9 => (refine' G.df KX Gr ?a ?l ?c ?k; (case a => k_is); (case l => k_is); (case c => k_is); (case k => k_is))
    case D10 => (refine' G.df KX Gr ?a ?l ?c ?k; (case a => k_is); (case l => k_is); (case c => k_is); (case k => k_is))
    case D11 => (refine' G.df KX Gr ?a ?l ?c ?k; (case a => k_is); (case l => k_is); (case c => k_is); (case k => k_is))
    case D12 => (refine' G.df KX Gr ?a ?l ?c ?k; (case a => k_is); (case l => k_is); (case c => k_is); (case k => k_is))
    case D13 => (refine' G.df KX Gr ?a ?l ?c ?k; (case a => k_is); (case l => k_is); (case c => k_is); (case k => k_is))
    case D14 => (refine' G.df KX Gr ?a ?l ?c ?k; (case a => k_is); (case l => k_is); (case c => k_is); (case k => k_is))
    case D15 => (refine' G.df KX Gr ?a ?l ?c ?k; (case a => k_is); (case l => k_is); (case c => k_is); (case k => k_is))
    case D16 => (refine' G.df KX Gr ?a ?l ?c ?k; (case a => k_is); (case l => k_is); (case c => k_is); (case k => k_is))
    case D17 => (refine' G.df KX Gr ?a ?l ?c ?k; (case a => k_is); (case l => k_is); (case c => k_is); (case k => k_is))
    case D18 => (refine' G.df KX Gr ?a ?l ?c ?k; (case a => k_is); (case l => k_is); (case c => k_is); (case k => k_is))
    case D19 => (refine' G.df KX Gr ?a ?l ?c ?k; (case a => k_is); (case l => k_is); (case c => k_is); (case k => k_is))
    case D20 => (refine' G.df KX Gr ?a ?l ?c ?k; (case a => k_is); (case l => k_is); (case c => k_is); (case k => k_is))
    case D21 => (refine' G.df KX Gr ?a ?l ?c ?k; (case a => k_is); (case l => k_is); (case c => k_is); (case k => k_is))
    case D22 => (refine' G.df KX Gr ?a ?l ?c ?k; (case a => k_is); (case l => k_is); (case c => k_is); (case k => k_is))
    case D23 => (refine' G.df KX Gr ?a ?l ?c ?k; (case a => k_is); (case l => k_is); (case c => k_is); (case k => k_is))
    case D24 => (refine' G.df KX Gr ?a ?l ?c ?k; (case a => k_is); (case l => k_is); (case c => k_is); (case k => k_is))
    case D25 => (refine' G.df KX Gr ?a ?l ?c ?k; (case a => k_is); (case l => k_is); (case c => k_is); (case k => k_is))
    case D26 => (refine' G.df KX Gr ?a ?l ?c ?k; (case a => k_is); (case l => k_is); (case c => k_is); (case k => k_is))
    case D27 => (refine' G.df KX Gr ?a ?l ?c ?k; (case a => k_is); (case l => k_is); (case c => k_is); (case k => k_is))
    case D28 => (refine' G.df KX Gr ?a ?l ?c ?k; (case a => k_is); (case l => k_is); (case c => k_is); (case k => k_is))
    case D29 => (refine' G.df KX Gr ?a ?l ?c ?k; (case a => k_is); (case l => k_is); (case c => k_is); (case k => k_is))
    case D30 => (refine' G.df KX Gr ?a ?l ?c ?k; (case a => k_is); (case l => k_is); (case c => k_is); (case k => k_is))
    case D31 => (refine' G.df KX Gr ?a ?l ?c ?k; (case a => k_is); (case l => k_is); (case c => k_is); (case k => k_is))
    case D32 => (refine' G.df KX Gr ?a ?l ?c ?k; (case a => k_is); (case l => k_is); (case c => k_is); (case k => k_is))
