import PyProof.Rows.All
import Wide.All
import OpenK.AllK
import Wide.FinOn
import HandS.ForMost
import HandS.Exc
import HandS.TryOnly
import HandS.ExcOwn
import HandS.WordsExc
import HandS.Wide
import HandS.Deep
import HandS.TupAny
import HandS.TupMul
import HandS.SortInts
import HandS.Star
import HandS.Strs
import HandS.Zip
import HandS.ExcCtx
import HandS.HotCalls
import PyProof.ReprRoads
import HandS.ExcIs
import HandS.IsInst
import HandS.TryMany
import HandS.EndBits
import PyProof.Rows.SetFrom
import HandS.SetFor
import HandS.Hot
import PyProof.StrLawsRepr
import PySem.Challenge.RW_spansay_k84_gambles_checked
set_option Elab.async false
set_option linter.all false
set_option maxRecDepth 100000
set_option maxHeartbeats 4000000
/-! DV, part A: data, slots, the mirror's results, the invariant Ok between slots and the abstract heap, and the judgements SE, SA, ST, SSs. -/
namespace DV
open PySem PySem.Spec PyProof.Rows L2

abbrev D := PyData
/-- every tracked object of H stands in H' too -/
def Ex (H H' : Hp) : Prop := ∀ a o, H a = some o → H' a = some o
theorem Ex.refl (H : Hp) : Ex H H := fun _ _ h => h
theorem Ex.trans {H H1 H2 : Hp} (a : Ex H H1) (b : Ex H1 H2) : Ex H H2 := fun x o h => b x o (a x o h)
theorem Ex.new {H : Hp} {p : Addr} {o : HO} (h : H p = none) : Ex H (upd H p o) := fun a u e => by
  rw [upd_ne (ne_of_none e h)]
  exact e
theorem Ex.up {F H : Hp} {p : Addr} {o : HO} (e : Ex F H) : Ex (upd F p o) (upd H p o) := fun a u h => by
  by_cases q : a = p
  · subst q
    rw [upd_same] at h ⊢
    exact h
  · rw [upd_ne q] at h ⊢
    exact e a u h
theorem Ex.to {F H : Hp} {p : Addr} {o : HO} (e : Ex F H) (n : F p = none) : Ex F (upd H p o) := fun a u h => by
  rw [upd_ne (ne_of_none h n)]
  exact e a u h
theorem Ex.back {H H' : Hp} {p : Addr} (e : Ex H H') (h : H' p = none) : H p = none := by
  cases h1 : H p with
  | none => rfl
  | some o =>
    rw [e p o h1] at h
    cases h
theorem rd_mono {F F' : Hp} {a : Addr} {u : HO} (e : Ex F F') (h : Rd F a u) : Rd F' a u := by
  rcases h with h | ⟨o, h⟩
  · exact Or.inl (e a _ h)
  · exact Or.inr ⟨o, e a _ h⟩
theorem sqL_mono {K : PySem.W.Frag} {F F' : Hp} {a : Addr} {xs : List V} (e : Ex F F') (h : SqL K F a xs) : SqL K F' a xs := by
  rcases h with h | h
  · exact Or.inl (rd_mono e h)
  · exact Or.inr h
theorem sqT_mono {K : PySem.W.Frag} {F F' : Hp} {a : Addr} {xs : List V} (e : Ex F F') (h : SqT K F a xs) : SqT K F' a xs := by
  rcases h with h | h
  · exact Or.inl (rd_mono e h)
  · exact Or.inr h
/-- a tuple that is known to have no dict of its own (so its methods can be found) -/
def SqZ (K : PySem.W.Frag) (F : Hp) (a : Addr) (xs : List V) : Prop :=
  (∃ o, F a = some (.frz o (.tup xs)) ∧ o.dict = none) ∨
    ∃ (o : Obj) (its : Array Value) (n : Nat), K.lookup a = some o ∧ o.cls = .type "tuple" ∧ o.dict = none ∧ o.data = .seq its n ∧ its.size ≤ sizeLine ∧ Vals xs its.toList
theorem SqZ.sq {K : PySem.W.Frag} {F : Hp} {a : Addr} {xs : List V} (h : SqZ K F a xs) : SqT K F a xs := by
  rcases h with ⟨o, h, _⟩ | ⟨o, its, n, h1, h2, _, h3, h4, h5⟩
  · exact .inl (.inr ⟨o, h⟩)
  · exact .inr ⟨o, its, n, h1, h2, h3, h4, h5⟩
theorem sqZ_mono {K : PySem.W.Frag} {F F' : Hp} {a : Addr} {xs : List V} (e : Ex F F') (h : SqZ K F a xs) : SqZ K F' a xs := by
  rcases h with ⟨o, h, d⟩ | h
  · exact Or.inl ⟨o, e _ _ h, d⟩
  · exact Or.inr h
mutual
/-- a value shows data, over the heap F of what stays -/
inductive Sh (K : PySem.W.Frag) (F : Hp) : V → D → Prop
  | non : Sh K F .non .none
  | bl (b : Bool) : Sh K F (.bl b) (.bool b)
  | int (i : Int) : Sh K F (.int i) (.int i)
  | str (x : Str) : Sh K F (.str x) (.str x)
  | lst {a : Addr} {xs : List V} {ds : List D} : SqL K F a xs → ShAll K F xs ds → Sh K F (.ref a) (.list ds)
  | tup {a : Addr} {xs : List V} {ds : List D} : SqZ K F a xs → ShAll K F xs ds → Sh K F (.ref a) (.tuple ds)
inductive ShAll (K : PySem.W.Frag) (F : Hp) : List V → List D → Prop
  | nil : ShAll K F [] []
  | cons {v : V} {vs : List V} {d : D} {ds : List D} : Sh K F v d → ShAll K F vs ds → ShAll K F (v :: vs) (d :: ds)
end
mutual
theorem dp_mono {K : PySem.W.Frag} {F F' : Hp} (e : Ex F F') : ∀ {v : V} {d : D}, Sh K F v d → Sh K F' v d
  | _, _, .non => .non
  | _, _, .bl b => .bl b
  | _, _, .int i => .int i
  | _, _, .str x => .str x
  | _, _, .lst h a => .lst (sqL_mono e h) (dpAll_mono e a)
  | _, _, .tup h a => .tup (sqZ_mono e h) (dpAll_mono e a)
theorem dpAll_mono {K : PySem.W.Frag} {F F' : Hp} (e : Ex F F') : ∀ {vs : List V} {ds : List D}, ShAll K F vs ds → ShAll K F' vs ds
  | _, _, .nil => .nil
  | _, _, .cons h t => .cons (dp_mono e h) (dpAll_mono e t)
end
mutual
/-- .. as the layer's own relation -/
theorem Sh.dp {K : PySem.W.Frag} {F : Hp} : ∀ {v : V} {d : D}, Sh K F v d → Dp K F v d
  | _, _, .non => .non
  | _, _, .bl b => .bl b
  | _, _, .int i => .int i
  | _, _, .str x => .str x
  | _, _, .lst h a => .lst h (ShAll.dp a)
  | _, _, .tup h a => .tup h.sq (ShAll.dp a)
theorem ShAll.dp {K : PySem.W.Frag} {F : Hp} : ∀ {vs : List V} {ds : List D}, ShAll K F vs ds → DpAll K F vs ds
  | _, _, .nil => .nil
  | _, _, .cons h t => .cons (Sh.dp h) (ShAll.dp t)
end
section
variable {K : PySem.W.Frag} {F : Hp}
theorem dpAll_length : ∀ {vs : List V} {ds : List D}, ShAll K F vs ds → vs.length = ds.length
  | _, _, .nil => rfl
  | _, _, .cons _ t => congrArg (· + 1) (dpAll_length t)
theorem dpAll_get : ∀ {vs : List V} {ds : List D} {i : Nat} {v : V}, ShAll K F vs ds → vs[i]? = some v → ∃ d, ds[i]? = some d ∧ Sh K F v d
  | _, _, _, _, .nil, h => by simp at h
  | _, _, 0, _, .cons h _, e => by
    simp only [List.getElem?_cons_zero, Option.some.injEq] at e
    subst e
    exact ⟨_, rfl, h⟩
  | _, _, i + 1, v, .cons _ t, e => by
    simp only [List.getElem?_cons_succ] at e ⊢
    exact dpAll_get t e
theorem dpAll_getD : ∀ {vs : List V} {ds : List D} {i : Nat} {d : D}, ShAll K F vs ds → ds[i]? = some d → ∃ v, vs[i]? = some v ∧ Sh K F v d
  | _, _, _, _, .nil, h => by simp at h
  | _, _, 0, _, .cons h _, e => by
    simp only [List.getElem?_cons_zero, Option.some.injEq] at e
    subst e
    exact ⟨_, rfl, h⟩
  | _, _, i + 1, v, .cons _ t, e => by
    simp only [List.getElem?_cons_succ] at e ⊢
    exact dpAll_getD t e
theorem dpAll_app : ∀ {vs ws : List V} {ds es : List D}, ShAll K F vs ds → ShAll K F ws es → ShAll K F (vs ++ ws) (ds ++ es)
  | _, _, _, _, .nil, s => s
  | _, _, _, _, .cons h t, s => .cons h (dpAll_app t s)
theorem dpAll_take : ∀ {vs : List V} {ds : List D} (n : Nat), ShAll K F vs ds → ShAll K F (vs.take n) (ds.take n)
  | _, _, 0, _ => .nil
  | _, _, _ + 1, .nil => .nil
  | _, _, n + 1, .cons h t => .cons h (dpAll_take n t)
theorem dpAll_drop : ∀ {vs : List V} {ds : List D} (n : Nat), ShAll K F vs ds → ShAll K F (vs.drop n) (ds.drop n)
  | _, _, 0, h => h
  | _, _, _ + 1, .nil => .nil
  | _, _, n + 1, .cons _ t => dpAll_drop n t
theorem dpAll_set : ∀ {vs : List V} {ds : List D} (i : Nat) {v : V} {d : D}, ShAll K F vs ds → Sh K F v d → ShAll K F (vs.set i v) (ds.set i d)
  | _, _, _, _, _, .nil, _ => .nil
  | _, _, 0, _, _, .cons _ t, g => .cons g t
  | _, _, i + 1, _, _, .cons h t, g => .cons h (dpAll_set i t g)
theorem dpAll_rev : ∀ {vs : List V} {ds : List D}, ShAll K F vs ds → ShAll K F vs.reverse ds.reverse
  | _, _, .nil => .nil
  | _, _, .cons h t => by
    rw [List.reverse_cons, List.reverse_cons]
    exact dpAll_app (dpAll_rev t) (.cons h .nil)
theorem dpAll_one {v : V} {d : D} (h : Sh K F v d) : ShAll K F [v] [d] := .cons h .nil
theorem dpAll_dropLast {vs : List V} {ds : List D} (h : ShAll K F vs ds) : ShAll K F vs.dropLast ds.dropLast := by
  rw [List.dropLast_eq_take, List.dropLast_eq_take, dpAll_length h]
  exact dpAll_take _ h
end

/-! ### flat data -/
def flatD : D → Bool
  | .none | .bool _ | .int _ | .str _ => true
  | _ => false
def vOf : D → V
  | .none => .non
  | .bool b => .bl b
  | .int i => .int i
  | .str x => .str x
  | _ => .non
theorem dp_flat {K : PySem.W.Frag} {F : Hp} {v : V} {d : D} (h : Sh K F v d) (f : flatD d = true) : v = vOf d := by
  cases h with
  | lst _ _ => cases f
  | tup _ _ => cases f
  | _ => rfl
theorem dp_vOf {K : PySem.W.Frag} {F : Hp} {d : D} (f : flatD d = true) : Sh K F (vOf d) d := by
  cases d with
  | none => exact .non
  | bool b => exact .bl b
  | int i => exact .int i
  | str x => exact .str x
  | list _ => cases f
  | tuple _ => cases f
  | dict _ => cases f
theorem dp_any {K : PySem.W.Frag} {F F' : Hp} {v : V} {d : D} (h : Sh K F v d) (f : flatD d = true) : Sh K F' v d := by
  rw [dp_flat h f]
  exact dp_vOf f

/-! ### slots and results -/
/-- un: unknown; dat: data that stays; own: a list of one's own that may be changed; io: a list that the caller handed in to be changed; exn: the exception of a suite -/
inductive SV where
  | un
  | dat (d : D)
  | own (ds : List D)
  | io (ds : List D)
  | exn (a : Addr)
abbrev Sl := List SV
inductive Rs (α : Type) where
  | ok (a : α) (s : Sl)
  | exc (x : Str) (s : Sl)
  | fail
def bnd {α β : Type} (r : Rs α) (k : α → Sl → Rs β) : Rs β := match r with
  | .ok a s => k a s
  | .exc x s => .exc x s
  | .fail => .fail
@[simp] theorem bnd_ok {α β : Type} (a : α) (s : Sl) (k : α → Sl → Rs β) : bnd (.ok a s) k = k a s := rfl
@[simp] theorem bnd_exc {α β : Type} (x : Str) (s : Sl) (k : α → Sl → Rs β) : bnd (.exc x s) k = .exc x s := rfl
@[simp] theorem bnd_fail {α β : Type} (k : α → Sl → Rs β) : bnd .fail k = .fail := rfl
def optR {α : Type} (o : Option α) (s : Sl) : Rs α := match o with
  | some a => .ok a s
  | none => .fail
@[simp] theorem optR_some {α : Type} (a : α) (s : Sl) : optR (some a) s = .ok a s := rfl
@[simp] theorem optR_none {α : Type} (s : Sl) : optR (none : Option α) s = .fail := rfl
abbrev ME := Sl → Rs D
abbrev MA := Sl → Rs (List D)
abbrev MB := Sl → Rs Bool
/-- what comes behind a statement -/
inductive Ot where
  | nx (s : Sl)
  | rt (d : D) (s : Sl)
  | bk (s : Sl)
  | ct (s : Sl)
  | exc (x : Str) (s : Sl)
  | fail
abbrev MS := Sl → Ot

/-! ### the invariant -/
/-- what a list that was handed in holds: flat things, and items that stand as they stood at first -/
def Ret (z : List V × List D) (xs : List V) (ds : List D) : Prop := ∀ (k : Nat) (v : V) (d : D), xs[k]? = some v → ds[k]? = some d → flatD d = true ∨ (z.1[k]? = some v ∧ z.2[k]? = some d)
theorem Ret.refl (xs : List V) (ds : List D) : Ret (xs, ds) xs ds := fun _ _ _ a b => .inr ⟨a, b⟩
theorem Ret.trans {z : List V × List D} {xs ys : List V} {ds es : List D} (a : Ret z xs ds) (b : Ret (xs, ds) ys es) : Ret z ys es := fun k v d h1 h2 => by
  rcases b k v d h1 h2 with h | ⟨h3, h4⟩
  · exact .inl h
  · exact a k v d h3 h4
/-- what is fixed in a def's body: data and heap at the entry, the addresses of what is handed in to be changed, the suite's exception -/
structure Cc where
  F0 : Hp
  H0 : Hp
  A : Nat → Option Addr
  X0 : Nat → List V × List D
structure Ok (K : PySem.W.Frag) (c : Cc) (F : Hp) (σ : L2.St) (H : Hp) (s : Sl) : Prop where
  len : s.length = σ.length
  ff : Ex c.F0 F
  fh : Ex F H
  keep : ∀ b o, c.H0 b = some o → (∀ i, c.A i ≠ some b) → H b = some o
  new : ∀ b, F b ≠ none → c.F0 b = none → c.H0 b = none
  st : ∀ i p, c.A i = some p → c.H0 p ≠ none ∧ c.F0 p = none ∧ ∀ j, c.A j = some p → j = i
  ioH : ∀ i p, c.A i = some p → H p ≠ none
  dat : ∀ (i : Nat) (d : D), s[i]? = some (SV.dat d) → ∃ v, σ[i]? = some (some v) ∧ Sh K F v d
  own : ∀ (i : Nat) (ds : List D), s[i]? = some (SV.own ds) → ∃ p xs, σ[i]? = some (some (V.ref p)) ∧ c.H0 p = none ∧ F p = none ∧ H p = some (.lst xs) ∧ ShAll K F xs ds
  sep : ∀ (i j : Nat) (ds es : List D) (p : Addr), i ≠ j → s[i]? = some (SV.own ds) → s[j]? = some (SV.own es) → σ[i]? = some (some (V.ref p)) → σ[j]? ≠ some (some (V.ref p))
  io : ∀ (i : Nat) (ds : List D), s[i]? = some (SV.io ds) → ∃ p xs, c.A i = some p ∧ σ[i]? = some (some (V.ref p)) ∧ H p = some (.lst xs) ∧ ShAll K F xs ds ∧ Ret (c.X0 i) xs ds
  exn : ∀ (i : Nat) (a : Addr), s[i]? = some (SV.exn a) → σ[i]? = some (some (V.ref a))
/-- data and heap grow alone -/
structure Grow (F H F' H' : Hp) : Prop where
  ff : Ex F F'
  fh : Ex F' H'
  hh : Ex H H'
  nw : ∀ b, F' b ≠ none → F b = none → H b = none
theorem Grow.refl {F H : Hp} (h : Ex F H) : Grow F H F H := ⟨.refl F, h, .refl H, fun _ a b => absurd b a⟩
theorem Grow.trans {F H F1 H1 F2 H2 : Hp} (a : Grow F H F1 H1) (b : Grow F1 H1 F2 H2) : Grow F H F2 H2 := ⟨a.ff.trans b.ff, b.fh, a.hh.trans b.hh, fun x h2 h0 => by
  by_cases h1 : F1 x = none
  · exact a.hh.back (b.nw x h2 h1)
  · exact a.nw x h1 h0⟩
theorem Grow.one {F H : Hp} {p : Addr} {o : HO} (h : Ex F H) (n : H p = none) : Grow F H (upd F p o) (upd H p o) := ⟨.new (h.back n), h.up, .new n, fun b hb h0 => by
  by_cases q : b = p
  · subst q
    exact n
  · rw [upd_ne q] at hb
    exact absurd h0 hb⟩
/-- the heap alone grows -/
theorem Grow.side {F H : Hp} {p : Addr} {o : HO} (h : Ex F H) (n : H p = none) : Grow F H F (upd H p o) := ⟨.refl F, h.to (h.back n), .new n, fun _ a b => absurd b a⟩
section
variable {K : PySem.W.Frag} {c : Cc} {F F' H H' : Hp} {σ : L2.St} {s : Sl} {i : Nat} {v : V} {d : D} {p : Addr} {xs : List V} {ds : List D}
theorem get_set {α : Type} {l : List α} {i j : Nat} {x y : α} (h : (l.set i x)[j]? = some y) : (i = j ∧ i < l.length ∧ x = y) ∨ (i ≠ j ∧ l[j]? = some y) := by
  by_cases e : i = j
  · subst e
    by_cases hl : i < l.length
    · rw [List.getElem?_set_self hl] at h
      exact .inl ⟨rfl, hl, Option.some.inj h⟩
    · rw [List.getElem?_eq_none (by simpa using hl)] at h
      cases h
  · rw [List.getElem?_set_ne e] at h
    exact .inr ⟨e, h⟩
theorem Ok.grow (k : Ok K c F σ H s) (g : Grow F H F' H') : Ok K c F' σ H' s where
  len := k.len
  ff := k.ff.trans g.ff
  fh := g.fh
  keep := fun b o e n => g.hh b o (k.keep b o e n)
  new := fun b h1 h0 => by
    by_cases h2 : F b = none
    · have hb := g.nw b h1 h2
      cases e : c.H0 b with
      | none => rfl
      | some o =>
        by_cases ha : ∃ i, c.A i = some b
        · obtain ⟨i, ha⟩ := ha
          exact absurd hb (k.ioH i b ha)
        · have q := k.keep b o e fun i q => ha ⟨i, q⟩
          rw [hb] at q
          cases q
    · exact k.new b h2 h0
  st := k.st
  ioH := fun i p h e => k.ioH i p h (g.hh.back e)
  dat := fun i d h => let ⟨v, a, b⟩ := k.dat i d h; ⟨v, a, dp_mono g.ff b⟩
  own := fun i ds h => by
    obtain ⟨p, xs, a, b, f, e, q⟩ := k.own i ds h
    refine ⟨p, xs, a, b, ?_, g.hh p _ e, dpAll_mono g.ff q⟩
    cases h1 : F' p with
    | none => rfl
    | some o =>
      have z := g.nw p (by rw [h1]; simp) f
      rw [e] at z
      cases z
  sep := k.sep
  io := fun i its h => let ⟨p, xs, a, b, e, q, r⟩ := k.io i its h; ⟨p, xs, a, b, g.hh p _ e, dpAll_mono g.ff q, r⟩
  exn := k.exn
theorem Ok.ioF (k : Ok K c F σ H s) (h : c.A i = some p) : F p = none := by
  obtain ⟨h1, h2, _⟩ := k.st i p h
  cases e : F p with
  | none => rfl
  | some o => exact absurd (k.new p (by rw [e]; simp) h2) h1
/-- a slot gets data -/
theorem Ok.set_dat (k : Ok K c F σ H s) (h : Sh K F v d) : Ok K c F (σ.set i (some v)) H (s.set i (.dat d)) where
  len := by rw [List.length_set, List.length_set]; exact k.len
  ff := k.ff
  fh := k.fh
  keep := k.keep
  new := k.new
  st := k.st
  ioH := k.ioH
  dat := fun j e hj => by
    rcases get_set hj with ⟨rfl, hl, q⟩ | ⟨ne, hj⟩
    · cases q
      exact ⟨v, List.getElem?_set_self (by rw [← k.len]; exact hl), h⟩
    · obtain ⟨w, a, b⟩ := k.dat j e hj
      exact ⟨w, by rw [List.getElem?_set_ne ne]; exact a, b⟩
  own := fun j es hj => by
    rcases get_set hj with ⟨_, _, q⟩ | ⟨ne, hj⟩
    · cases q
    · obtain ⟨p, xs, a, b⟩ := k.own j es hj
      exact ⟨p, xs, by rw [List.getElem?_set_ne ne]; exact a, b⟩
  sep := fun j m ds es p nj hj hm hp => by
    rcases get_set hj with ⟨_, _, q⟩ | ⟨ne, hj⟩
    · cases q
    · rcases get_set hm with ⟨_, _, q⟩ | ⟨nm, hm⟩
      · cases q
      · rw [List.getElem?_set_ne ne] at hp
        rw [List.getElem?_set_ne nm]
        exact k.sep j m ds es p nj hj hm hp
  io := fun j its hj => by
    rcases get_set hj with ⟨_, _, q⟩ | ⟨ne, hj⟩
    · cases q
    · obtain ⟨p, xs, a, b, q⟩ := k.io j its hj
      exact ⟨p, xs, a, by rw [List.getElem?_set_ne ne]; exact b, q⟩
  exn := fun j ea hj => by
    rcases get_set hj with ⟨_, _, q⟩ | ⟨ne, hj⟩
    · cases q
    · rw [List.getElem?_set_ne ne]
      exact k.exn j ea hj
/-- a slot is forgotten in the mirror -/
theorem Ok.set_un (k : Ok K c F σ H s) (x : Option V) : Ok K c F (σ.set i x) H (s.set i .un) where
  len := by rw [List.length_set, List.length_set]; exact k.len
  ff := k.ff
  fh := k.fh
  keep := k.keep
  new := k.new
  st := k.st
  ioH := k.ioH
  dat := fun j e hj => by
    rcases get_set hj with ⟨_, _, q⟩ | ⟨ne, hj⟩
    · cases q
    · obtain ⟨w, a, b⟩ := k.dat j e hj
      exact ⟨w, by rw [List.getElem?_set_ne ne]; exact a, b⟩
  own := fun j es hj => by
    rcases get_set hj with ⟨_, _, q⟩ | ⟨ne, hj⟩
    · cases q
    · obtain ⟨p, xs, a, b⟩ := k.own j es hj
      exact ⟨p, xs, by rw [List.getElem?_set_ne ne]; exact a, b⟩
  sep := fun j m ds es p nj hj hm hp => by
    rcases get_set hj with ⟨_, _, q⟩ | ⟨ne, hj⟩
    · cases q
    · rcases get_set hm with ⟨_, _, q⟩ | ⟨nm, hm⟩
      · cases q
      · rw [List.getElem?_set_ne ne] at hp
        rw [List.getElem?_set_ne nm]
        exact k.sep j m ds es p nj hj hm hp
  io := fun j its hj => by
    rcases get_set hj with ⟨_, _, q⟩ | ⟨ne, hj⟩
    · cases q
    · obtain ⟨p, xs, a, b, q⟩ := k.io j its hj
      exact ⟨p, xs, a, by rw [List.getElem?_set_ne ne]; exact b, q⟩
  exn := fun j ea hj => by
    rcases get_set hj with ⟨_, _, q⟩ | ⟨ne, hj⟩
    · cases q
    · rw [List.getElem?_set_ne ne]
      exact k.exn j ea hj
/-- a new list of one's own, not yet held by a slot -/
structure Fresh (K : PySem.W.Frag) (c : Cc) (F : Hp) (σ : L2.St) (H : Hp) (s : Sl) (p : Addr) (xs : List V) (ds : List D) : Prop where
  h0 : c.H0 p = none
  f : F p = none
  at_ : H p = some (.lst xs)
  all : ShAll K F xs ds
  apart : ∀ (i : Nat) (es : List D), s[i]? = some (SV.own es) → σ[i]? ≠ some (some (V.ref p))
/-- .. goes to a slot -/
theorem Ok.set_own (k : Ok K c F σ H s) (h : Fresh K c F σ H s p xs ds) : Ok K c F (σ.set i (some (.ref p))) H (s.set i (.own ds)) where
  len := by rw [List.length_set, List.length_set]; exact k.len
  ff := k.ff
  fh := k.fh
  keep := k.keep
  new := k.new
  st := k.st
  ioH := k.ioH
  dat := fun j e hj => by
    rcases get_set hj with ⟨_, _, q⟩ | ⟨ne, hj⟩
    · cases q
    · obtain ⟨w, a, b⟩ := k.dat j e hj
      exact ⟨w, by rw [List.getElem?_set_ne ne]; exact a, b⟩
  own := fun j es hj => by
    rcases get_set hj with ⟨rfl, hl, q⟩ | ⟨ne, hj⟩
    · cases q
      exact ⟨p, xs, List.getElem?_set_self (by rw [← k.len]; exact hl), h.h0, h.f, h.at_, h.all⟩
    · obtain ⟨p, xs, a, b⟩ := k.own j es hj
      exact ⟨p, xs, by rw [List.getElem?_set_ne ne]; exact a, b⟩
  sep := fun j m ds es r nj hj hm hp => by
    rcases get_set hj with ⟨rfl, hl, q⟩ | ⟨ne, hj⟩
    · rcases get_set hm with ⟨e, _, _⟩ | ⟨nm, hm⟩
      · exact absurd e nj
      · rw [List.getElem?_set_self (by rw [← k.len]; exact hl)] at hp
        cases hp
        rw [List.getElem?_set_ne nm]
        exact h.apart m es hm
    · rw [List.getElem?_set_ne ne] at hp
      rcases get_set hm with ⟨rfl, hl, q⟩ | ⟨nm, hm⟩
      · rw [List.getElem?_set_self (by rw [← k.len]; exact hl)]
        intro e
        cases e
        exact h.apart j ds hj hp
      · rw [List.getElem?_set_ne nm]
        exact k.sep j m ds es r nj hj hm hp
  io := fun j its hj => by
    rcases get_set hj with ⟨_, _, q⟩ | ⟨ne, hj⟩
    · cases q
    · obtain ⟨p, xs, a, b, q⟩ := k.io j its hj
      exact ⟨p, xs, a, by rw [List.getElem?_set_ne ne]; exact b, q⟩
  exn := fun j ea hj => by
    rcases get_set hj with ⟨_, _, q⟩ | ⟨ne, hj⟩
    · cases q
    · rw [List.getElem?_set_ne ne]
      exact k.exn j ea hj
/-- data grow over what stands in the heap: a list of one's own that no slot holds becomes data -/
theorem Ok.freeze (k : Ok K c F σ H s) (h0 : c.H0 p = none) (hp : H p = some (.lst xs)) (ap : ∀ (i : Nat) (es : List D), s[i]? = some (SV.own es) → σ[i]? ≠ some (some (V.ref p))) (hf : F p = none) : Ok K c (upd F p (.lst xs)) σ H s where
  len := k.len
  ff := k.ff.trans (.new hf)
  fh := fun a o e => by
    by_cases q : a = p
    · subst q
      rw [upd_same] at e
      rw [hp]
      exact e
    · rw [upd_ne q] at e
      exact k.fh a o e
  keep := k.keep
  new := fun b h1 h2 => by
    by_cases q : b = p
    · subst q
      exact h0
    · rw [upd_ne q] at h1
      exact k.new b h1 h2
  st := k.st
  ioH := k.ioH
  dat := fun j e hj => let ⟨v, a, b⟩ := k.dat j e hj; ⟨v, a, dp_mono (.new hf) b⟩
  own := fun j es hj => by
    obtain ⟨r, ys, a, b, f, e, q⟩ := k.own j es hj
    refine ⟨r, ys, a, b, ?_, e, dpAll_mono (.new hf) q⟩
    rw [upd_ne fun z => ap j es hj (by rw [← z]; exact a)]
    exact f
  sep := k.sep
  io := fun j its hj => let ⟨p, xs, a, b, e, q, r⟩ := k.io j its hj; ⟨p, xs, a, b, e, dpAll_mono (.new hf) q, r⟩
  exn := k.exn
theorem Ok.freeze_fresh (k : Ok K c F σ H s) (h : Fresh K c F σ H s p xs ds) : Ok K c (upd F p (.lst xs)) σ H s ∧ Ex F (upd F p (.lst xs)) ∧ Sh K (upd F p (.lst xs)) (.ref p) (.list ds) :=
  ⟨k.freeze h.h0 h.at_ h.apart h.f, .new h.f, .lst (.inl (.inl upd_same)) (dpAll_mono (.new h.f) h.all)⟩
/-- a slot's own list becomes data -/
theorem Ok.freeze_slot (k : Ok K c F σ H s) (h : s[i]? = some (SV.own ds)) : ∃ p xs, σ[i]? = some (some (V.ref p)) ∧ F p = none ∧ Ok K c (upd F p (.lst xs)) σ H (s.set i (.dat (.list ds))) ∧ Sh K (upd F p (.lst xs)) (.ref p) (.list ds) := by
  obtain ⟨p, xs, a, b, f, e, q⟩ := k.own i ds h
  have hi : i < s.length := (List.getElem?_eq_some_iff.mp h).1
  have ku : Ok K c F σ H (s.set i .un) := by
    have z := k.set_un (i := i) (some (.ref p))
    have e2 : σ.set i (some (V.ref p)) = σ := by
      obtain ⟨hl, e3⟩ := List.getElem?_eq_some_iff.mp a
      rw [← e3]
      exact List.set_getElem_self hl
    rw [e2] at z
    exact z
  have kf := ku.freeze (p := p) (xs := xs) b e (fun j es hj hp => by
    rcases get_set hj with ⟨_, _, q⟩ | ⟨ne, hj⟩
    · cases q
    · exact k.sep i j ds es p ne h hj a hp) f
  have dp : Sh K (upd F p (.lst xs)) (.ref p) (.list ds) := .lst (.inl (.inl upd_same)) (dpAll_mono (.new f) q)
  refine ⟨p, xs, a, f, ?_, dp⟩
  have z := kf.set_dat (i := i) dp
  have e2 : σ.set i (some (V.ref p)) = σ := by
    obtain ⟨hl, e3⟩ := List.getElem?_eq_some_iff.mp a
    rw [← e3]
    exact List.set_getElem_self hl
  rw [e2, List.set_set] at z
  exact z
/-- a slot's own list is changed -/
theorem Ok.put_own (k : Ok K c F σ H s) (h : s[i]? = some (SV.own ds)) (hp : σ[i]? = some (some (V.ref p))) {ys : List V} {es : List D} (hq : ShAll K F ys es) : Ok K c F σ (upd H p (.lst ys)) (s.set i (.own es)) := by
  obtain ⟨r, xs, a, b, f, e, q⟩ := k.own i ds h
  rw [hp] at a
  cases a
  have nio : ∀ j, c.A j ≠ some p := fun j hj => (k.st j p hj).1 b
  refine ⟨by rw [List.length_set]; exact k.len, k.ff, k.fh.to f, fun d o hd hn => ?_, k.new, k.st, fun j t hj => ?_, fun j t hj => ?_, fun j t hj => ?_, fun j m t u r nj hj hm hr => ?_, fun j t hj => ?_, fun j ea hj => ?_⟩
  · rw [upd_ne (ne_of_none hd b)]
    exact k.keep d o hd hn
  · by_cases z : t = p
    · subst z
      exact absurd hj (nio j)
    · rw [upd_ne z]
      exact k.ioH j t hj
  · rcases get_set hj with ⟨_, _, z⟩ | ⟨ne, hj⟩
    · cases z
    · exact k.dat j t hj
  · rcases get_set hj with ⟨rfl, hl, z⟩ | ⟨ne, hj⟩
    · cases z
      exact ⟨p, ys, hp, b, f, upd_same, hq⟩
    · obtain ⟨r, zs, a2, b2, f2, e2, q2⟩ := k.own j t hj
      refine ⟨r, zs, a2, b2, f2, ?_, q2⟩
      rw [upd_ne fun z => k.sep i j ds t p ne h hj hp (by rw [← z]; exact a2)]
      exact e2
  · have h1 : ∃ t', s[j]? = some (SV.own t') := by
      rcases get_set hj with ⟨rfl, _, _⟩ | ⟨_, hj⟩
      · exact ⟨_, h⟩
      · exact ⟨_, hj⟩
    have h2 : ∃ t', s[m]? = some (SV.own t') := by
      rcases get_set hm with ⟨rfl, _, _⟩ | ⟨_, hm⟩
      · exact ⟨_, h⟩
      · exact ⟨_, hm⟩
    obtain ⟨t1, h1⟩ := h1
    obtain ⟨t2, h2⟩ := h2
    exact k.sep j m t1 t2 r nj h1 h2 hr
  · rcases get_set hj with ⟨_, _, z⟩ | ⟨ne, hj⟩
    · cases z
    · obtain ⟨r, zs, a2, b2, e2, q2⟩ := k.io j t hj
      refine ⟨r, zs, a2, b2, ?_, q2⟩
      rw [upd_ne fun z => nio j (by rw [← z]; exact a2)]
      exact e2
  · rcases get_set hj with ⟨_, _, z⟩ | ⟨ne, hj⟩
    · cases z
    · exact k.exn j ea hj
/-- the same of a list that was handed in -/
theorem Ok.put_io (k : Ok K c F σ H s) {its its' : List D} (h : s[i]? = some (SV.io its)) (hp : c.A i = some p) {ys : List V} (hq : ShAll K F ys its') (hr : Ret (c.X0 i) ys its') : Ok K c F σ (upd H p (.lst ys)) (s.set i (.io its')) := by
  obtain ⟨r, xs, a, b, e, q, _⟩ := k.io i its h
  rw [hp] at a
  cases a
  obtain ⟨hH0, hF0, hun⟩ := k.st i p hp
  have hF : F p = none := k.ioF hp
  refine ⟨by rw [List.length_set]; exact k.len, k.ff, k.fh.to hF, fun d o hd hn => ?_, k.new, k.st, fun j t hj => ?_, fun j t hj => ?_, fun j t hj => ?_, fun j m t u r nj hj hm hr => ?_, fun j t hj => ?_, fun j ea hj => ?_⟩
  · rw [upd_ne fun z => hn i (by rw [z]; exact hp)]
    exact k.keep d o hd hn
  · by_cases z : t = p
    · subst z
      rw [upd_same]
      simp
    · rw [upd_ne z]
      exact k.ioH j t hj
  · rcases get_set hj with ⟨_, _, z⟩ | ⟨ne, hj⟩
    · cases z
    · exact k.dat j t hj
  · rcases get_set hj with ⟨_, _, z⟩ | ⟨ne, hj⟩
    · cases z
    · obtain ⟨r, zs, a2, b2, f2, e2, q2⟩ := k.own j t hj
      refine ⟨r, zs, a2, b2, f2, ?_, q2⟩
      rw [upd_ne fun z => hH0 (by rw [← z]; exact b2)]
      exact e2
  · rcases get_set hj with ⟨_, _, z⟩ | ⟨_, hj⟩
    · cases z
    · rcases get_set hm with ⟨_, _, z⟩ | ⟨_, hm⟩
      · cases z
      · exact k.sep j m t u r nj hj hm hr
  · rcases get_set hj with ⟨rfl, hl, z⟩ | ⟨ne, hj⟩
    · cases z
      exact ⟨p, ys, hp, b, upd_same, hq, hr⟩
    · obtain ⟨r, zs, a2, b2, e2, q2⟩ := k.io j t hj
      refine ⟨r, zs, a2, b2, ?_, q2⟩
      rw [upd_ne fun z => ne (hun j (by rw [← z]; exact a2)).symm]
      exact e2
  · rcases get_set hj with ⟨_, _, z⟩ | ⟨ne, hj⟩
    · cases z
    · exact k.exn j ea hj
end

/-! ### the judgements -/
/-- what a mirror's result says of an expression's end -/
def RdE (K : PySem.W.Frag) (mg : Str → Option Value) (c : Cc) (W : WX) (σ : L2.St) (F : Hp) (r : Rs D) (Q : VK) : Prop := match r with
  | .ok d s => ∀ v F' H', Ok K c F' σ H' s → Ex F F' → Sh K F' v d → Q v H'
  | .exc x s => ∀ a F' H', mg x = some (.ref a) → Ok K c F' σ H' s → W (.ref a) none σ H'
  | .fail => False
def RdA (K : PySem.W.Frag) (mg : Str → Option Value) (c : Cc) (W : WX) (σ : L2.St) (F : Hp) (r : Rs (List D)) (Q : List V → Hp → Prop) : Prop := match r with
  | .ok ds s => ∀ vs F' H', Ok K c F' σ H' s → Ex F F' → ShAll K F' vs ds → Q vs H'
  | .exc x s => ∀ a F' H', mg x = some (.ref a) → Ok K c F' σ H' s → W (.ref a) none σ H'
  | .fail => False
def RdB (K : PySem.W.Frag) (mg : Str → Option Value) (c : Cc) (W : WX) (σ : L2.St) (F : Hp) (r : Rs Bool) (Q : Bool → Hp → Prop) : Prop := match r with
  | .ok b s => ∀ F' H', Ok K c F' σ H' s → Ex F F' → Q b H'
  | .exc x s => ∀ a F' H', mg x = some (.ref a) → Ok K c F' σ H' s → W (.ref a) none σ H'
  | .fail => False
/-- .. of one that gives a new list -/
def RdO (K : PySem.W.Frag) (mg : Str → Option Value) (c : Cc) (W : WX) (σ : L2.St) (F : Hp) (r : Rs (List D)) (Q : VK) : Prop := match r with
  | .ok ds s => ∀ p xs F' H', Ok K c F' σ H' s → Ex F F' → Fresh K c F' σ H' s p xs ds → Q (.ref p) H'
  | .exc x s => ∀ a F' H', mg x = some (.ref a) → Ok K c F' σ H' s → W (.ref a) none σ H'
  | .fail => False
/-- a list or any data, as it stands in the heap just now -/
def BDp (K : PySem.W.Frag) (F H : Hp) (v : V) (d : D) : Prop := Sh K F v d ∨ ∃ p xs ds, v = .ref p ∧ d = .list ds ∧ H p = some (.lst xs) ∧ ShAll K F xs ds
def RdV (K : PySem.W.Frag) (mg : Str → Option Value) (c : Cc) (W : WX) (σ : L2.St) (F : Hp) (r : Rs D) (Q : VK) : Prop := match r with
  | .ok d s => ∀ v F' H', Ok K c F' σ H' s → Ex F F' → BDp K F' H' v d → Q v H'
  | .exc x s => ∀ a F' H', mg x = some (.ref a) → Ok K c F' σ H' s → W (.ref a) none σ H'
  | .fail => False
/-- .. of a statement's end -/
def RdS (K : PySem.W.Frag) (mg : Str → Option Value) (c : Cc) (W : WX) (F : Hp) (o : Ot) (E : Ends) : Prop := match o with
  | .nx s => ∀ σ' F' H', Ok K c F' σ' H' s → Ex F F' → E.nx σ' H'
  | .rt d s => ∀ v σ' F' H', Ok K c F' σ' H' s → Ex F F' → Sh K F' v d → E.rt v H'
  | .bk s => ∀ σ' F' H', Ok K c F' σ' H' s → Ex F F' → E.bk σ' H'
  | .ct s => ∀ σ' F' H', Ok K c F' σ' H' s → Ex F F' → E.ct σ' H'
  | .exc x s => ∀ a σ' F' H', mg x = some (.ref a) → Ok K c F' σ' H' s → W (.ref a) none σ' H'
  | .fail => False
def tE (X : Cx) (W : WX) (m : ME) : TE := fun σ H Q => ∃ c F s, Ok X.K c F σ H s ∧ RdE X.K X.mg c W σ F (m s) Q
def tA (X : Cx) (W : WX) (m : MA) : TA := fun σ H Q => ∃ c F s, Ok X.K c F σ H s ∧ RdA X.K X.mg c W σ F (m s) Q
def tT (X : Cx) (W : WX) (m : MB) : TT := fun σ H Q => ∃ c F s, Ok X.K c F σ H s ∧ RdB X.K X.mg c W σ F (m s) Q
def tO (X : Cx) (W : WX) (m : MA) : TE := fun σ H Q => ∃ c F s, Ok X.K c F σ H s ∧ RdO X.K X.mg c W σ F (m s) Q
def tV (X : Cx) (W : WX) (m : ME) : TE := fun σ H Q => ∃ c F s, Ok X.K c F σ H s ∧ RdV X.K X.mg c W σ F (m s) Q
def tS (X : Cx) (W : WX) (m : MS) : TS := fun E σ H => ∃ c F s, Ok X.K c F σ H s ∧ RdS X.K X.mg c W F (m s) E
def SE (X : Cx) (W : WX) (e : Expr) (m : ME) : Prop := PE X e (tE X W m)
def SA (X : Cx) (W : WX) (es : List Expr) (m : MA) : Prop := PA X es (tA X W m)
def ST (X : Cx) (W : WX) (e : Expr) (m : MB) : Prop := PT X e (tT X W m)
/-- a new list -/
def SO (X : Cx) (W : WX) (e : Expr) (m : MA) : Prop := PE X e (tO X W m)
/-- a value just for now -/
def SB (X : Cx) (W : WX) (e : Expr) (m : ME) : Prop := PE X e (tV X W m)
def SS (X : Cx) (W : WX) (st : Stmt) (m : MS) : Prop := PS X st (tS X W m)
def SSs (X : Cx) (W : WX) (st : List Stmt) (m : MS) : Prop := PSs X st (tS X W m)

section
variable {X : Cx} {W : WX} {e e1 e2 : Expr} {es : List Expr}
theorem PE.imp {t t' : TE} (h : PE X e t) (f : ∀ σ H Q, t' σ H Q → t σ H Q) : PE X e t' := ⟨fun pins s σ H Q I q => h.run pins s σ H Q I (f σ H Q q)⟩
theorem PT.imp {t t' : TT} (h : PT X e t) (f : ∀ σ H Q, t' σ H Q → t σ H Q) : PT X e t' := ⟨fun pins s σ H Q I q => h.run pins s σ H Q I (f σ H Q q)⟩
theorem PA.imp {t t' : TA} (h : PA X es t) (f : ∀ σ H Q, t' σ H Q → t σ H Q) : PA X es t' := ⟨fun pos pins s σ H Q I q => h.run pos pins s σ H Q I (f σ H Q q)⟩
theorem PS.imp {st : Stmt} {t t' : TS} (h : PS X st t) (f : ∀ D σ H, t' D σ H → t D σ H) : PS X st t' := ⟨fun pins s σ H D I q => h.run pins s σ H D I (f D σ H q)⟩
theorem PSs.imp {st : List Stmt} {t t' : TS} (h : PSs X st t) (f : ∀ D σ H, t' D σ H → t D σ H) : PSs X st t' := ⟨fun pins s σ H D I q => h.run pins s σ H D I (f D σ H q)⟩
/-- the results' meanings, read on -/
theorem RdE.bnd {K : PySem.W.Frag} {mg : Str → Option Value} {c : Cc} {σ : L2.St} {F : Hp} {α : Type} {r : Rs D} {k : D → Sl → Rs α} {Q : VK} {G : Hp → Rs α → Prop}
    (hx : ∀ x s, G F (.exc x s) → ∀ a F' H', mg x = some (.ref a) → Ok K c F' σ H' s → W (.ref a) none σ H') (hf : ¬ G F .fail) (h : G F (DV.bnd r k))
    (hok : ∀ d s, G F (k d s) → ∀ v F' H', Ok K c F' σ H' s → Ex F F' → Sh K F' v d → Q v H') : RdE K mg c W σ F r Q := by
  cases r with
  | ok d s => exact hok d s h
  | exc x s => exact hx x s h
  | fail => exact absurd h hf
theorem RdE.mono {K : PySem.W.Frag} {mg : Str → Option Value} {c : Cc} {σ : L2.St} {F F1 : Hp} {r : Rs D} {Q : VK} (h : RdE K mg c W σ F r Q) (e : Ex F F1) : RdE K mg c W σ F1 r Q := by
  cases r with
  | ok d s => exact fun v F' H' k e2 => h v F' H' k (e.trans e2)
  | exc x s => exact h
  | fail => exact h
end
end DV

/-! DV, part B: operations on data, and the expressions' rules. -/
namespace DV
open PySem PySem.Spec PyProof.Rows L2

theorem sz_le {n : Nat} (h : n ≤ 1000000) : n ≤ sizeLine := by
  rw [sizeLine_eq]
  omega

/-! ### names, constants -/
def mC (d : D) : ME := fun s => .ok d s
def mVar (i : Nat) : ME := fun s => match s[i]? with
  | some (.dat d) => .ok d s
  | some (.own ds) => .ok (.list ds) (s.set i (.dat (.list ds)))
  | _ => .fail
/-- the same, a list of one's own just looked at -/
def mVarB (i : Nat) : ME := fun s => match s[i]? with
  | some (.dat d) => .ok d s
  | some (.own ds) => .ok (.list ds) s
  | _ => .fail
section
variable {X : Cx} {W : WX} {pos : Pos} {e : Expr}
theorem se_const {v : V} {d : D} (h : PE X e (tC v)) (hd : ∀ F, Sh X.K F v d) : SE X W e (mC d) :=
  PE.imp h fun σ H Q ⟨c, F, s, k, q⟩ => q v F H k (.refl F) (hd F)
theorem se_int {i : Int} {j : Nat} : SE X W (.Constant (.int i) j pos) (mC (.int i)) := se_const pe_int fun _ => .int i
theorem se_bl {b : Bool} {j : Nat} : SE X W (.Constant (.bool b) j pos) (mC (.bool b)) := se_const pe_bl fun _ => .bl b
theorem se_non {j : Nat} : SE X W (.Constant .none j pos) (mC .none) := se_const pe_non fun _ => .non
theorem se_str {x : Str} {j : Nat} : SE X W (.Constant (.str x) j pos) (mC (.str x)) := se_const pe_str fun _ => .str x
/-- a constant of the module -/
def GlobD (X : Cx) (x : Str) (d : D) : Prop := ∃ (v : V) (u : Value), X.mg x = some u ∧ RelV v u ∧ ∀ F, Sh X.K F v d
theorem se_glob {x : Str} {d : D} (h : GlobD X x d) (hg : Gl X x) (hd : (x == ("__debug__" : Str)) = false := by decide) : SE X W (.Name x pos) (mC d) := by
  obtain ⟨v, u, hm, r, hs⟩ := h
  exact se_const (pe_glob hg hm r hd) hs
theorem se_var {i : Nat} (h : PE X e (tVar i)) : SE X W e (mVar i) := PE.imp h fun σ H Q ⟨c, F, s, k, q⟩ => by
  unfold mVar at q
  cases hs : s[i]? with
  | none =>
    rw [hs] at q
    exact q.elim
  | some x =>
    rw [hs] at q
    cases x with
    | dat d =>
      obtain ⟨v, a, b⟩ := k.dat i d hs
      exact ⟨v, a, q v F H k (.refl F) b⟩
    | own ds =>
      obtain ⟨p, xs, a, f, k2, b⟩ := k.freeze_slot hs
      exact ⟨_, a, q _ _ H k2 (.new f) b⟩
    | _ => exact q.elim
theorem sb_var {i : Nat} (h : PE X e (tVar i)) : SB X W e (mVarB i) := PE.imp h fun σ H Q ⟨c, F, s, k, q⟩ => by
  unfold mVarB at q
  cases hs : s[i]? with
  | none =>
    rw [hs] at q
    exact q.elim
  | some x =>
    rw [hs] at q
    cases x with
    | dat d =>
      obtain ⟨v, a, b⟩ := k.dat i d hs
      exact ⟨v, a, q v F H k (.refl F) (.inl b)⟩
    | own ds =>
      obtain ⟨p, xs, a, h0, f, hp, b⟩ := k.own i ds hs
      exact ⟨_, a, q _ F H k (.refl F) (.inr ⟨p, xs, ds, rfl, rfl, hp, b⟩)⟩
    | _ => exact q.elim
theorem sb_of {m : ME} (h : SE X W e m) : SB X W e m := PE.imp h fun σ H Q ⟨c, F, s, k, q⟩ => ⟨c, F, s, k, by
  cases hm : m s with
  | ok d s' =>
    rw [hm] at q
    exact fun v F' H' k' e' b => q v F' H' k' e' (.inl b)
  | exc x s' =>
    rw [hm] at q
    exact q
  | fail =>
    rw [hm] at q
    exact q⟩
/-- a new list as data -/
def mLst (m : MA) : ME := fun s => bnd (m s) fun ds s => .ok (.list ds) s
theorem se_of {m : MA} (h : SO X W e m) : SE X W e (mLst m) := PE.imp h fun σ H Q ⟨c, F, s, k, q⟩ => ⟨c, F, s, k, by
  unfold mLst at q
  cases hm : m s with
  | ok d s' =>
    rw [hm] at q
    intro p xs F' H' k' e' fr
    obtain ⟨k2, e2, b⟩ := k'.freeze_fresh fr
    exact q _ _ H' k2 (e'.trans e2) b
  | exc x s' =>
    rw [hm] at q
    exact q
  | fail =>
    rw [hm] at q
    exact q⟩
end

/-! ### results, read on -/
section
variable {K : PySem.W.Frag} {mg : Str → Option Value} {c : Cc} {W : WX} {σ : L2.St} {F : Hp}
theorem rdE_bnd {r : Rs D} {k : D → Sl → Rs D} {Q Q' : VK} (h : RdE K mg c W σ F (bnd r k) Q) (f : ∀ d s v F' H', RdE K mg c W σ F (k d s) Q → Ok K c F' σ H' s → Ex F F' → Sh K F' v d → Q' v H') : RdE K mg c W σ F r Q' := by
  cases r with
  | ok d s => exact fun v F' H' a b g => f d s v F' H' h a b g
  | exc x s => exact h
  | fail => exact h
theorem rdE_bndB {r : Rs D} {k : D → Sl → Rs Bool} {Q : Bool → Hp → Prop} {Q' : VK} (h : RdB K mg c W σ F (bnd r k) Q) (f : ∀ d s v F' H', RdB K mg c W σ F (k d s) Q → Ok K c F' σ H' s → Ex F F' → Sh K F' v d → Q' v H') : RdE K mg c W σ F r Q' := by
  cases r with
  | ok d s => exact fun v F' H' a b g => f d s v F' H' h a b g
  | exc x s => exact h
  | fail => exact h
theorem rdE_bndA {r : Rs D} {k : D → Sl → Rs (List D)} {Q : List V → Hp → Prop} {Q' : VK} (h : RdA K mg c W σ F (bnd r k) Q) (f : ∀ d s v F' H', RdA K mg c W σ F (k d s) Q → Ok K c F' σ H' s → Ex F F' → Sh K F' v d → Q' v H') : RdE K mg c W σ F r Q' := by
  cases r with
  | ok d s => exact fun v F' H' a b g => f d s v F' H' h a b g
  | exc x s => exact h
  | fail => exact h
theorem rdE_bndO {r : Rs D} {k : D → Sl → Rs (List D)} {Q Q' : VK} (h : RdO K mg c W σ F (bnd r k) Q) (f : ∀ d s v F' H', RdO K mg c W σ F (k d s) Q → Ok K c F' σ H' s → Ex F F' → Sh K F' v d → Q' v H') : RdE K mg c W σ F r Q' := by
  cases r with
  | ok d s => exact fun v F' H' a b g => f d s v F' H' h a b g
  | exc x s => exact h
  | fail => exact h
theorem rdV_bnd {r : Rs D} {k : D → Sl → Rs D} {Q Q' : VK} (h : RdE K mg c W σ F (bnd r k) Q) (f : ∀ d s v F' H', RdE K mg c W σ F (k d s) Q → Ok K c F' σ H' s → Ex F F' → BDp K F' H' v d → Q' v H') : RdV K mg c W σ F r Q' := by
  cases r with
  | ok d s => exact fun v F' H' a b g => f d s v F' H' h a b g
  | exc x s => exact h
  | fail => exact h
theorem rdV_bndB {r : Rs D} {k : D → Sl → Rs Bool} {Q : Bool → Hp → Prop} {Q' : VK} (h : RdB K mg c W σ F (bnd r k) Q) (f : ∀ d s v F' H', RdB K mg c W σ F (k d s) Q → Ok K c F' σ H' s → Ex F F' → BDp K F' H' v d → Q' v H') : RdV K mg c W σ F r Q' := by
  cases r with
  | ok d s => exact fun v F' H' a b g => f d s v F' H' h a b g
  | exc x s => exact h
  | fail => exact h
theorem rdV_bndO {r : Rs D} {k : D → Sl → Rs (List D)} {Q Q' : VK} (h : RdO K mg c W σ F (bnd r k) Q) (f : ∀ d s v F' H', RdO K mg c W σ F (k d s) Q → Ok K c F' σ H' s → Ex F F' → BDp K F' H' v d → Q' v H') : RdV K mg c W σ F r Q' := by
  cases r with
  | ok d s => exact fun v F' H' a b g => f d s v F' H' h a b g
  | exc x s => exact h
  | fail => exact h
theorem rdB_bnd {r : Rs Bool} {k : Bool → Sl → Rs D} {Q : VK} {Q' : Bool → Hp → Prop} (h : RdE K mg c W σ F (bnd r k) Q) (f : ∀ d s F' H', RdE K mg c W σ F (k d s) Q → Ok K c F' σ H' s → Ex F F' → Q' d H') : RdB K mg c W σ F r Q' := by
  cases r with
  | ok d s => exact fun F' H' a b => f d s F' H' h a b
  | exc x s => exact h
  | fail => exact h
theorem rdB_bndB {r : Rs Bool} {k : Bool → Sl → Rs Bool} {Q Q' : Bool → Hp → Prop} (h : RdB K mg c W σ F (bnd r k) Q) (f : ∀ d s F' H', RdB K mg c W σ F (k d s) Q → Ok K c F' σ H' s → Ex F F' → Q' d H') : RdB K mg c W σ F r Q' := by
  cases r with
  | ok d s => exact fun F' H' a b => f d s F' H' h a b
  | exc x s => exact h
  | fail => exact h
theorem rdA_bnd {r : Rs (List D)} {k : List D → Sl → Rs D} {Q : VK} {Q' : List V → Hp → Prop} (h : RdE K mg c W σ F (bnd r k) Q) (f : ∀ d s v F' H', RdE K mg c W σ F (k d s) Q → Ok K c F' σ H' s → Ex F F' → ShAll K F' v d → Q' v H') : RdA K mg c W σ F r Q' := by
  cases r with
  | ok d s => exact fun v F' H' a b g => f d s v F' H' h a b g
  | exc x s => exact h
  | fail => exact h
theorem rdA_bndA {r : Rs (List D)} {k : List D → Sl → Rs (List D)} {Q Q' : List V → Hp → Prop} (h : RdA K mg c W σ F (bnd r k) Q) (f : ∀ d s v F' H', RdA K mg c W σ F (k d s) Q → Ok K c F' σ H' s → Ex F F' → ShAll K F' v d → Q' v H') : RdA K mg c W σ F r Q' := by
  cases r with
  | ok d s => exact fun v F' H' a b g => f d s v F' H' h a b g
  | exc x s => exact h
  | fail => exact h
theorem rdA_bndO {r : Rs (List D)} {k : List D → Sl → Rs (List D)} {Q : VK} {Q' : List V → Hp → Prop} (h : RdO K mg c W σ F (bnd r k) Q) (f : ∀ d s v F' H', RdO K mg c W σ F (k d s) Q → Ok K c F' σ H' s → Ex F F' → ShAll K F' v d → Q' v H') : RdA K mg c W σ F r Q' := by
  cases r with
  | ok d s => exact fun v F' H' a b g => f d s v F' H' h a b g
  | exc x s => exact h
  | fail => exact h
theorem rdE_mono {F1 : Hp} {r : Rs D} {Q : VK} (h : RdE K mg c W σ F r Q) (e : Ex F F1) : RdE K mg c W σ F1 r Q := by
  cases r with
  | ok d s => exact fun v F' H' k e2 => h v F' H' k (e.trans e2)
  | exc x s => exact h
  | fail => exact h
theorem rdB_mono {F1 : Hp} {r : Rs Bool} {Q : Bool → Hp → Prop} (h : RdB K mg c W σ F r Q) (e : Ex F F1) : RdB K mg c W σ F1 r Q := by
  cases r with
  | ok d s => exact fun F' H' k e2 => h F' H' k (e.trans e2)
  | exc x s => exact h
  | fail => exact h
theorem rdA_mono {F1 : Hp} {r : Rs (List D)} {Q : List V → Hp → Prop} (h : RdA K mg c W σ F r Q) (e : Ex F F1) : RdA K mg c W σ F1 r Q := by
  cases r with
  | ok d s => exact fun v F' H' k e2 => h v F' H' k (e.trans e2)
  | exc x s => exact h
  | fail => exact h
theorem rdO_mono {F1 : Hp} {r : Rs (List D)} {Q : VK} (h : RdO K mg c W σ F r Q) (e : Ex F F1) : RdO K mg c W σ F1 r Q := by
  cases r with
  | ok d s => exact fun p xs F' H' k e2 => h p xs F' H' k (e.trans e2)
  | exc x s => exact h
  | fail => exact h
theorem rdV_mono {F1 : Hp} {r : Rs D} {Q : VK} (h : RdV K mg c W σ F r Q) (e : Ex F F1) : RdV K mg c W σ F1 r Q := by
  cases r with
  | ok d s => exact fun v F' H' k e2 => h v F' H' k (e.trans e2)
  | exc x s => exact h
  | fail => exact h
theorem rdS_mono {F1 : Hp} {o : Ot} {E : Ends} (h : RdS K mg c W F o E) (e : Ex F F1) : RdS K mg c W F1 o E := by
  cases o with
  | nx s => exact fun σ' F' H' k e2 => h σ' F' H' k (e.trans e2)
  | rt d s => exact fun v σ' F' H' k e2 => h v σ' F' H' k (e.trans e2)
  | bk s => exact fun σ' F' H' k e2 => h σ' F' H' k (e.trans e2)
  | ct s => exact fun σ' F' H' k e2 => h σ' F' H' k (e.trans e2)
  | exc x s => exact h
  | fail => exact h
end

/-! ### two-place operations -/
/-- a two-place operation on data: g tells its value -/
def OpD (X : Cx) (f : Value → Value → Sem Value) (g : D → D → Option D) : Prop :=
  OpR X f fun x y H Q => ∃ F d e r, Ex F H ∧ Sh X.K F x d ∧ BDp X.K F H y e ∧ g d e = some r ∧ ∀ v F' H', Grow F H F' H' → Sh X.K F' v r → Q v H'
def m2 (g : D → D → Option D) (ma mb : ME) : ME := fun s => bnd (ma s) fun x s => bnd (mb s) fun y s => optR (g x y) s
section
variable {X : Cx} {W : WX} {pos : Pos} {a b e : Expr} {ma mb : ME} {g : D → D → Option D} {f : Value → Value → Sem Value}
theorem OpR.imp {r r' : R2} (h : OpR X f r) (i : ∀ x y H Q, r' x y H Q → r x y H Q) : OpR X f r' := fun pins s σ H x y v u Q I rx ry q => h pins s σ H x y v u Q I rx ry (i x y H Q q)
theorem OpD.lift {te : TE → TE → TE} (hr : ∀ ta tb σ H Q, tOp (fun x y H Q => ∃ F d e r, Ex F H ∧ Sh X.K F x d ∧ BDp X.K F H y e ∧ g d e = some r ∧ ∀ v F' H', Grow F H F' H' → Sh X.K F' v r → Q v H') ta tb σ H Q → te ta tb σ H Q)
    (σ : L2.St) (H : Hp) (Q : VK) (h : tE X W (m2 g ma mb) σ H Q) : te (tE X W ma) (tV X W mb) σ H Q := by
  obtain ⟨c, F, s, k, q⟩ := h
  refine hr _ _ σ H Q ⟨c, F, s, k, rdE_bnd q fun d s1 v F1 H1 q1 k1 e1 b1 => ⟨c, F1, s1, k1, rdV_bnd (rdE_mono q1 e1) fun d2 s2 v2 F2 H2 q2 k2 e2 b2 => ?_⟩⟩
  cases hg : g d d2 with
  | none =>
    rw [hg] at q2
    exact q2.elim
  | some r =>
    rw [hg] at q2
    exact ⟨F2, d, d2, r, k2.fh, dp_mono e2 b1, b2, hg, fun v F' H' gr b => q2 v F' H' (k2.grow gr) (e2.trans gr.ff) b⟩
theorem se_opB {op : Operator} (ho : OpD X (binaryOp op) g) (ha : SE X W a ma) (hb : SB X W b mb) : SE X W (.BinOp a op b pos) (m2 g ma mb) :=
  PE.imp (pe_op ho ha hb) fun σ H Q h => OpD.lift (te := tOp _) (fun _ _ _ _ _ z => z) σ H Q h
theorem se_op {op : Operator} (ho : OpD X (binaryOp op) g) (ha : SE X W a ma) (hb : SE X W b mb) : SE X W (.BinOp a op b pos) (m2 g ma mb) := se_opB ho ha (sb_of hb)
theorem se_cmpB {op : CmpOp} (ho : OpD X (compareOp op) g) (ha : SE X W a ma) (hb : SB X W b mb) (hm : behindInMarks op b = false) : SE X W (.Compare a [op] [b] pos) (m2 g ma mb) :=
  PE.imp (pe_cmpR ho ha hb hm) fun σ H Q h => OpD.lift (te := tOp _) (fun _ _ _ _ _ z => z) σ H Q h
theorem se_cmp {op : CmpOp} (ho : OpD X (compareOp op) g) (ha : SE X W a ma) (hb : SE X W b mb) (hm : behindInMarks op b = false) : SE X W (.Compare a [op] [b] pos) (m2 g ma mb) := se_cmpB ho ha (sb_of hb) hm
/-- a value that is a bool, as a test -/
def asB (d : D) : Option Bool := match d with
  | .bool b => some b
  | _ => none
def mT (m : ME) : MB := fun s => bnd (m s) fun d s => optR (asB d) s
theorem asB_some {d : D} {c : Bool} (h : asB d = some c) : d = .bool c := by
  cases d with
  | bool z => exact congrArg _ (Option.some.inj h)
  | _ => cases h
theorem tT_of {m : ME} {c : Cc} {F : Hp} {σ : L2.St} {s : Sl} {Q : Bool → Hp → Prop} {K : PySem.W.Frag} {mg : Str → Option Value} (q : RdB K mg c W σ F (mT m s) Q) : RdE K mg c W σ F (m s) fun v H' => ∃ k, v = .bl k ∧ Q k H' := by
  refine rdE_bndB q fun d s1 v F1 H1 q1 k1 e1 b1 => ?_
  cases hg : asB d with
  | none =>
    rw [hg] at q1
    exact q1.elim
  | some z =>
    rw [hg] at q1
    have hd := asB_some hg
    subst hd
    cases b1
    exact ⟨z, rfl, q1 F1 H1 k1 e1⟩
theorem st_cmpB {op : CmpOp} (ho : OpD X (compareOp op) g) (ha : SE X W a ma) (hb : SB X W b mb) (hm : behindInMarks op b = false) : ST X W (.Compare a [op] [b] pos) (mT (m2 g ma mb)) :=
  PT.imp (pt_cmpR ho ha hb hm) fun σ H Q ⟨c, F, s, k, q⟩ => OpD.lift (te := tOp _) (fun _ _ _ _ _ z => z) σ H _ ⟨c, F, s, k, tT_of q⟩
theorem st_cmp {op : CmpOp} (ho : OpD X (compareOp op) g) (ha : SE X W a ma) (hb : SE X W b mb) (hm : behindInMarks op b = false) : ST X W (.Compare a [op] [b] pos) (mT (m2 g ma mb)) := st_cmpB ho ha (sb_of hb) hm
theorem st_val {m : ME} (h : SE X W e m) (he : ∀ whole, isTrue e X.env whole = (do let v ← whole; standAt e.pos; holding [v] (truthy v)) := by intro _; rfl) : ST X W e (mT m) :=
  PT.imp (pt_val h he) fun σ H Q ⟨c, F, s, k, q⟩ => ⟨c, F, s, k, tT_of q⟩
/-- a op b op' c -/
def mChain (g g' : D → D → Option D) (ma mb mc : ME) : ME := fun s => bnd (ma s) fun x s => bnd (mb s) fun y s => bnd (optR (g x y) s) fun z s => match z with
  | .bool true => bnd (mc s) fun w s => optR (g' y w) s
  | .bool false => .ok (.bool false) s
  | _ => .fail
theorem chain_read {c : Expr} {mc : ME} {g' : D → D → Option D} (σ : L2.St) (H : Hp) (Q : VK) (h : tE X W (mChain g g' ma mb mc) σ H Q) :
    tChain (fun x y H Q => ∃ F d e r, Ex F H ∧ Sh X.K F x d ∧ BDp X.K F H y e ∧ g d e = some r ∧ ∀ v F' H', Grow F H F' H' → Sh X.K F' v r → Q v H')
      (fun x y H Q => ∃ F d e r, Ex F H ∧ Sh X.K F x d ∧ BDp X.K F H y e ∧ g' d e = some r ∧ ∀ v F' H', Grow F H F' H' → Sh X.K F' v r → Q v H') (tE X W ma) (tE X W mb) (tE X W mc) σ H Q := by
  obtain ⟨cc, F, s, k, q⟩ := h
  refine ⟨cc, F, s, k, rdE_bnd q fun d s1 v F1 H1 q1 k1 e1 b1 => ⟨cc, F1, s1, k1, rdE_bnd (rdE_mono q1 e1) fun d2 s2 v2 F2 H2 q2 k2 e2 b2 => ?_⟩⟩
  cases hg : g d d2 with
  | none =>
    rw [hg] at q2
    exact q2.elim
  | some r =>
    rw [hg] at q2
    refine ⟨F2, d, d2, r, k2.fh, dp_mono e2 b1, .inl b2, hg, fun v3 F3 H3 gr b3 => ?_⟩
    have k3 := k2.grow gr
    cases r with
    | bool z =>
      cases b3
      refine ⟨z, rfl, ?_⟩
      cases z with
      | false => exact q2 _ _ _ k3 (e2.trans gr.ff) (.bl false)
      | true =>
        show tE X W mc σ H3 _
        refine ⟨cc, F3, s2, k3, rdE_bnd (rdE_mono q2 (e2.trans gr.ff)) fun d4 s4 v4 F4 H4 q4 k4 e4 b4 => ?_⟩
        cases hg' : g' d2 d4 with
        | none =>
          rw [hg'] at q4
          exact q4.elim
        | some r' =>
          rw [hg'] at q4
          exact ⟨F4, d2, d4, r', k4.fh, dp_mono (gr.ff.trans e4) b2, .inl b4, hg', fun v F' H' gr' b => q4 v F' H' (k4.grow gr') (e4.trans gr'.ff) b⟩
    | _ => exact q2.elim
theorem se_chain {c : Expr} {mc : ME} {g' : D → D → Option D} {op op' : CmpOp} (ho : OpD X (compareOp op) g) (ho' : OpD X (compareOp op') g') (ha : SE X W a ma) (hb : SE X W b mb) (hc : SE X W c mc)
    (hm : lastMarks [op, op'] [b, c] = false := by with_unfolding_all rfl) : SE X W (.Compare a [op, op'] [b, c] pos) (mChain g g' ma mb mc) :=
  PE.imp (pe_chain ho ho' ha hb hc hm) fun σ H Q h => chain_read (c := c) σ H Q h
theorem st_chain {c : Expr} {mc : ME} {g' : D → D → Option D} {op op' : CmpOp} (ho : OpD X (compareOp op) g) (ho' : OpD X (compareOp op') g') (ha : SE X W a ma) (hb : SE X W b mb) (hc : SE X W c mc)
    (hm : lastMarks [op, op'] [b, c] = false := by with_unfolding_all rfl) : ST X W (.Compare a [op, op'] [b, c] pos) (mT (mChain g g' ma mb mc)) :=
  PT.imp (pt_chain ho ho' ha hb hc hm) fun σ H Q ⟨c', F, s, k, q⟩ => chain_read (c := c) σ H _ ⟨c', F, s, k, tT_of q⟩
/-! and, or, not; a if t else b -/
def mAndT (ma mb : MB) : MB := fun s => bnd (ma s) fun x s => match x with
  | true => mb s
  | false => .ok false s
def mOrT (ma mb : MB) : MB := fun s => bnd (ma s) fun x s => match x with
  | true => .ok true s
  | false => mb s
def mNotT (ma : MB) : MB := fun s => bnd (ma s) fun x s => .ok (!x) s
variable {ta tb : MB} {rest : List Expr}
def SW (X : Cx) (W : WX) (e : Expr) (m : MB) : Prop := PW X e (tT X W m)
theorem PW.imp {t t' : TT} (h : PW X e t) (i : ∀ σ H Q, t' σ H Q → t σ H Q) : PW X e t' := ⟨fun wh pins s σ H Q I q => h.run wh pins s σ H Q I (i σ H Q q)⟩
theorem sw_and1 (h : ST X W a ta) : SW X W (.BoolOp .And [a] pos) ta := pw_and1 h
theorem sw_or1 (h : ST X W a ta) : SW X W (.BoolOp .Or [a] pos) ta := pw_or1 h
theorem sw_and (ha : ST X W a ta) (hb : SW X W (.BoolOp .And (b :: rest) pos) tb) : SW X W (.BoolOp .And (a :: b :: rest) pos) (mAndT ta tb) :=
  PW.imp (pw_and ha hb) fun σ H Q ⟨c, F, s, k, q⟩ => ⟨c, F, s, k, rdB_bndB q fun d s1 F1 H1 q1 k1 e1 => by
    cases d with
    | true => exact ⟨c, F1, s1, k1, rdB_mono q1 e1⟩
    | false => exact q1 F1 H1 k1 e1⟩
theorem sw_or (ha : ST X W a ta) (hb : SW X W (.BoolOp .Or (b :: rest) pos) tb) : SW X W (.BoolOp .Or (a :: b :: rest) pos) (mOrT ta tb) :=
  PW.imp (pw_or ha hb) fun σ H Q ⟨c, F, s, k, q⟩ => ⟨c, F, s, k, rdB_bndB q fun d s1 F1 H1 q1 k1 e1 => by
    cases d with
    | false => exact ⟨c, F1, s1, k1, rdB_mono q1 e1⟩
    | true => exact q1 F1 H1 k1 e1⟩
theorem st_w (h : SW X W e ta) : ST X W e ta := L2.PW.pt h
theorem st_not (h : ST X W a ta) : ST X W (.UnaryOp .Not a pos) (mNotT ta) :=
  PT.imp (pt_not h) fun σ H Q ⟨c, F, s, k, q⟩ => ⟨c, F, s, k, rdB_bndB q fun d s1 F1 H1 q1 k1 e1 => q1 F1 H1 k1 e1⟩
/-- .. as values -/
def mAndV (ma mb : ME) : ME := fun s => bnd (ma s) fun x s => match x with
  | .bool true => mb s
  | .bool false => .ok (.bool false) s
  | _ => .fail
def mOrV (ma mb : ME) : ME := fun s => bnd (ma s) fun x s => match x with
  | .bool true => .ok (.bool true) s
  | .bool false => mb s
  | _ => .fail
def mNotV (ma : ME) : ME := fun s => bnd (ma s) fun x s => match x with
  | .bool c => .ok (.bool (!c)) s
  | _ => .fail
theorem se_one {op : BoolOp} (h : SE X W a ma) : SE X W (.BoolOp op [a] pos) ma := pe_one h
theorem se_and (ha : SE X W a ma) (hb : SE X W (.BoolOp .And (b :: rest) pos) mb) : SE X W (.BoolOp .And (a :: b :: rest) pos) (mAndV ma mb) :=
  PE.imp (pe_and ha hb) fun σ H Q ⟨c, F, s, k, q⟩ => ⟨c, F, s, k, rdE_bnd q fun d s1 v F1 H1 q1 k1 e1 b1 => by
    cases d with
    | bool z =>
      cases b1
      refine ⟨z, rfl, ?_⟩
      cases z with
      | true => exact ⟨c, F1, s1, k1, rdE_mono q1 e1⟩
      | false => exact q1 _ F1 H1 k1 e1 (.bl false)
    | _ => exact q1.elim⟩
theorem se_or (ha : SE X W a ma) (hb : SE X W (.BoolOp .Or (b :: rest) pos) mb) : SE X W (.BoolOp .Or (a :: b :: rest) pos) (mOrV ma mb) :=
  PE.imp (pe_or ha hb) fun σ H Q ⟨c, F, s, k, q⟩ => ⟨c, F, s, k, rdE_bnd q fun d s1 v F1 H1 q1 k1 e1 b1 => by
    cases d with
    | bool z =>
      cases b1
      refine ⟨z, rfl, ?_⟩
      cases z with
      | false => exact ⟨c, F1, s1, k1, rdE_mono q1 e1⟩
      | true => exact q1 _ F1 H1 k1 e1 (.bl true)
    | _ => exact q1.elim⟩
theorem se_not (ha : SE X W a ma) : SE X W (.UnaryOp .Not a pos) (mNotV ma) :=
  PE.imp (pe_not ha) fun σ H Q ⟨c, F, s, k, q⟩ => ⟨c, F, s, k, rdE_bnd q fun d s1 v F1 H1 q1 k1 e1 b1 => by
    cases d with
    | bool z =>
      cases b1
      exact ⟨z, rfl, q1 _ F1 H1 k1 e1 (.bl _)⟩
    | _ => exact q1.elim⟩
def mIfE (t : MB) (ma mb : ME) : ME := fun s => bnd (t s) fun x s => match x with
  | true => ma s
  | false => mb s
theorem se_ifExp {c : Expr} (hc : ST X W c ta) (ha : SE X W a ma) (hb : SE X W b mb) : SE X W (.IfExp c a b pos) (mIfE ta ma mb) :=
  PE.imp (pe_ifExp hc ha hb) fun σ H Q ⟨c, F, s, k, q⟩ => ⟨c, F, s, k, rdB_bnd q fun d s1 F1 H1 q1 k1 e1 => by
    cases d with
    | true => exact ⟨c, F1, s1, k1, rdE_mono q1 e1⟩
    | false => exact ⟨c, F1, s1, k1, rdE_mono q1 e1⟩⟩
end

/-! ### arguments, displays -/
def mNil : MA := fun s => .ok [] s
def mCons (m : ME) (ms : MA) : MA := fun s => bnd (m s) fun d s => bnd (ms s) fun ds s => .ok (d :: ds) s
/-- the items of a list or tuple -/
def seqD (d : D) : Option (List D) := match d with
  | .list xs => some xs
  | .tuple xs => some xs
  | _ => none
def mStar (m : ME) (ms : MA) : MA := fun s => bnd (m s) fun d s => match seqD d with
  | some xs => bnd (ms s) fun ds s => .ok (xs ++ ds) s
  | none => .fail
def mTup (ms : MA) : ME := fun s => bnd (ms s) fun ds s => if ds.length ≤ 1000000 then .ok (.tuple ds) s else .fail
def mDisp (ms : MA) : MA := fun s => bnd (ms s) fun ds s => if ds.length ≤ 1000000 then .ok ds s else .fail
theorem sh_seq {K : PySem.W.Frag} {F : Hp} {v : V} {d : D} {xs : List D} (h : Sh K F v d) (e : seqD d = some xs) : ∃ p ys, v = .ref p ∧ (SqT K F p ys ∨ SqL K F p ys) ∧ ShAll K F ys xs := by
  cases h with
  | lst h a =>
    cases e
    exact ⟨_, _, rfl, .inr h, a⟩
  | tup h a =>
    cases e
    exact ⟨_, _, rfl, .inl h.sq, a⟩
  | _ => cases e
section
variable {X : Cx} {W : WX} {pos : Pos} {e : Expr} {es : List Expr} {m : ME} {ms : MA}
theorem sa_nil : SA X W [] mNil := PA.imp pa_nil fun σ H Q ⟨c, F, s, k, q⟩ => q [] F H k (.refl F) .nil
theorem sa_cons (h : SE X W e m) (hr : SA X W es ms) (hs : starEach (e :: es) X.env = (false, eval e X.env) :: starEach es X.env := by rfl) : SA X W (e :: es) (mCons m ms) :=
  PA.imp (pa_cons h hr hs) fun σ H Q ⟨c, F, s, k, q⟩ => ⟨c, F, s, k, rdE_bndA q fun d s1 v F1 H1 q1 k1 e1 b1 =>
    ⟨c, F1, s1, k1, rdA_bndA (rdA_mono q1 e1) fun ds s2 vs F2 H2 q2 k2 e2 b2 => q2 (v :: vs) F2 H2 k2 e2 (.cons (dp_mono e2 b1) b2)⟩⟩
theorem sa_star {p : Pos} (h : SE X W e m) (hr : SA X W es ms) (hs : starEach (.Starred e p :: es) X.env = (true, eval e X.env) :: starEach es X.env := by rfl) : SA X W (.Starred e p :: es) (mStar m ms) :=
  PA.imp (StX.pa_star h hr hs) fun σ H Q ⟨c, F, s, k, q⟩ => ⟨c, F, s, k, rdE_bndA q fun d s1 v F1 H1 q1 k1 e1 b1 => by
    cases hd : seqD d with
    | none =>
      rw [hd] at q1
      exact q1.elim
    | some xs =>
      rw [hd] at q1
      obtain ⟨p, ys, rfl, hq, ha⟩ := sh_seq b1 hd
      refine ⟨p, ys, rfl, hq.elim (fun z => .inl (sqT_mono k1.fh z)) (fun z => .inr (sqL_mono k1.fh z)), c, F1, s1, k1, rdA_bndA (rdA_mono q1 e1) fun ds s2 vs F2 H2 q2 k2 e2 b2 => ?_⟩
      exact q2 (ys ++ vs) F2 H2 k2 e2 (dpAll_app (dpAll_mono e2 ha) b2)⟩
/-- a new tuple, its object known -/
def rTupZ (xs : List V) (H : Hp) (Q : VK) : Prop := ∀ p o, H p = none → o.dict = none → Q (.ref p) (upd H p (.frz o (.tup xs)))
theorem fin_tup {pins : List (Addr × Obj)} {s : Shared} {σ : L2.St} {H : Hp} {xs : List V} {its : List Value} {t' : Nat} {Q : VK} (I : Inv X pins σ H s) (r : Vals xs its) (hz : xs.length ≤ sizeLine) (q : rTupZ xs H Q) :
    EP X pins σ Q (.ref s.heap.objs.size) { s with heap := s.heap.push { cls := .type "tuple", data := .seq its.toArray }, toks := t' } := by
  refine ⟨.ref s.heap.objs.size, _, I.laid (t' := t') (o := .frz { cls := .type "tuple", data := .seq its.toArray } (.tup xs)) (fun b ob q => Heap.get?_push_of_some _ q) (Nat.le_refl _) ?_, rfl, q _ _ (I.hok.fresh (Nat.le_refl _)) rfl⟩
  exact ⟨Heap.get?_push_size _ rfl, hz, _, r, IsTup.new _ _⟩
theorem rTupZ_of {K : PySem.W.Frag} {F H : Hp} {Q : VK} {xs : List V} {ds : List D} (h : Ex F H) (a : ShAll K F xs ds) (q : ∀ v F' H', Grow F H F' H' → Sh K F' v (.tuple ds) → Q v H') : rTupZ xs H Q := fun p o hp hd => by
  have n : F p = none := h.back hp
  refine q _ (upd F p (.frz o (.tup xs))) _ (.one h hp) (.tup (.inl ⟨o, upd_same, hd⟩) (dpAll_mono (.new n) a))
theorem pe_tupZ {t : TA} {x1 : Nat} (h : PA X es t) : PE X (.Tuple es x1 pos) (fun σ H Q => t σ H fun xs H1 => xs.length ≤ sizeLine ∧ rTupZ xs H1 Q) := by
  refine ⟨fun pins s σ H Q I hq => ?_⟩
  refine wpAny_Tuple_spliced (thn (h.run pos pins s σ H _ I hq) fun us s1 ⟨xs, H1, I1, r, z, q⟩ => ⟨by rw [← r.length]; exact z, ?_⟩)
  exact fin_tup (t' := s1.toks) I1 r z q
theorem se_tup {x1 : Nat} (h : SA X W es ms) : SE X W (.Tuple es x1 pos) (mTup ms) :=
  PE.imp (pe_tupZ h) fun σ H Q ⟨c, F, s, k, q⟩ => ⟨c, F, s, k, rdA_bnd q fun ds s1 vs F1 H1 q1 k1 e1 b1 => by
    by_cases hz : ds.length ≤ 1000000
    · rw [if_pos hz] at q1
      refine ⟨by rw [dpAll_length b1]; exact sz_le hz, rTupZ_of k1.fh b1 fun v F' H' gr b => q1 v F' H' (k1.grow gr) (e1.trans gr.ff) b⟩
    · rw [if_neg hz] at q1
      exact q1.elim⟩
/-- what is new lies apart from all that is held -/
theorem Ok.fresh_new {K : PySem.W.Frag} {c : Cc} {F H : Hp} {σ : L2.St} {s : Sl} {p : Addr} {xs : List V} {ds : List D} (k : Ok K c F σ H s) (hp : H p = none) (a : ShAll K F xs ds) : Ok K c F σ (upd H p (.lst xs)) s ∧ Fresh K c F σ (upd H p (.lst xs)) s p xs ds := by
  refine ⟨k.grow (.side k.fh hp), ?_, k.fh.back hp, upd_same, a, fun i es hi hσ => ?_⟩
  · cases e : c.H0 p with
    | none => rfl
    | some o =>
      by_cases ha : ∃ i, c.A i = some p
      · obtain ⟨i, ha⟩ := ha
        exact absurd hp (k.ioH i p ha)
      · have q := k.keep p o e fun i z => ha ⟨i, z⟩
        rw [hp] at q
        cases q
  · obtain ⟨r, ys, a1, _, _, a2, _⟩ := k.own i es hi
    rw [hσ] at a1
    cases a1
    rw [hp] at a2
    cases a2
theorem so_lst (h : SA X W es ms) : SO X W (.List es pos) (mDisp ms) :=
  PE.imp (pe_lst h) fun σ H Q ⟨c, F, s, k, q⟩ => ⟨c, F, s, k, rdA_bndO q fun ds s1 vs F1 H1 q1 k1 e1 b1 => by
    by_cases hz : ds.length ≤ 1000000
    · rw [if_pos hz] at q1
      refine ⟨by rw [dpAll_length b1]; exact sz_le hz, fun p hp => ?_⟩
      obtain ⟨k2, fr⟩ := k1.fresh_new hp b1
      exact q1 p vs F1 _ k2 e1 fr
    · rw [if_neg hz] at q1
      exact q1.elim⟩
end
end DV

/-! DV, part C: operations on data. -/
namespace DV
open PySem PySem.Spec PyProof.Rows L2

/-! ### arithmetic -/
def dAdd (d e : D) : Option D := match d, e with
  | .int i, .int j => some (.int (i + j))
  | .str x, .str y => if x.length + y.length ≤ 1000000 then some (.str (x ++ y)) else none
  | .tuple xs, .tuple ys => if xs.length + ys.length ≤ 1000000 then some (.tuple (xs ++ ys)) else none
  | .list xs, .list ys => if xs.length + ys.length ≤ 1000000 then some (.list (xs ++ ys)) else none
  | _, _ => none
def dSub (d e : D) : Option D := match d, e with
  | .int i, .int j => some (.int (i - j))
  | _, _ => none
def dMul (d e : D) : Option D := match d, e with
  | .int i, .int j => if i.natAbs.log2 + j.natAbs.log2 < 1000000 then some (.int (i * j)) else none
  | .tuple xs, .int k => if xs.isEmpty = false ∧ 1 ≤ k ∧ k ≤ 1000 ∧ xs.length ≤ 1000 then some (.tuple (List.replicate k.toNat xs).flatten) else none
  | _, _ => none
def dFdiv (d e : D) : Option D := match d, e with
  | .int i, .int j => if j ≠ 0 ∧ j.natAbs.log2 < 9000 then some (.int (i.fdiv j)) else none
  | _, _ => none
def dMod (d e : D) : Option D := match d, e with
  | .int i, .int j => if j ≠ 0 then some (.int (i.fmod j)) else none
  | _, _ => none
def dPow (d e : D) : Option D := match d, e with
  | .int i, .int j => if 0 ≤ j ∧ j ≤ 1000 ∧ i.natAbs ≤ 1000 then some (.int (i ^ j.toNat)) else none
  | _, _ => none
def dLt (d e : D) : Option D := match d, e with
  | .int i, .int j => some (.bool (decide (i < j)))
  | _, _ => none
def dLe (d e : D) : Option D := match d, e with
  | .int i, .int j => some (.bool (decide (i ≤ j)))
  | _, _ => none
def dGt (d e : D) : Option D := match d, e with
  | .int i, .int j => some (.bool (decide (j < i)))
  | _, _ => none
def dGe (d e : D) : Option D := match d, e with
  | .int i, .int j => some (.bool (decide (j ≤ i)))
  | _, _ => none
def dEqv (d e : D) : Option Bool := match d, e with
  | .int i, .int j => some (i == j)
  | .str x, .str y => some (x == y)
  | .bool a, .bool b => some (a == b)
  | d, e => if SeqAt.shaped d && SeqAt.shaped e then some (PyData.eqv d e) else none
def dEq (d e : D) : Option D := (dEqv d e).map .bool
def dNe (d e : D) : Option D := (dEqv d e).map fun b => .bool (!b)
def dInB (d e : D) : Option Bool := match e with
  | .list ds => if SeqAt.shaped d && SeqAt.shaped (.list ds) then some (ds.any fun z => PyData.eqv z d) else none
  | .tuple ds => if SeqAt.shaped d && SeqAt.shaped (.tuple ds) then some (ds.any fun z => PyData.eqv z d) else none
  | _ => none
def dIn (d e : D) : Option D := (dInB d e).map .bool
def dNotIn (d e : D) : Option D := (dInB d e).map fun b => .bool (!b)
def isNoneD : D → Bool
  | .none => true
  | _ => false
def dIsN (d e : D) : Option D := match e with
  | .none => some (.bool (isNoneD d))
  | _ => none
def dNotN (d e : D) : Option D := match e with
  | .none => some (.bool (!isNoneD d))
  | _ => none
theorem bDp_dp {K : PySem.W.Frag} {F H : Hp} {v : V} {d : D} (h : BDp K F H v d) (e : Ex F H) : Dp K H v d := by
  rcases h with h | ⟨p, xs, ds, rfl, rfl, hp, a⟩
  · exact (dp_mono e h).dp
  · exact .lst (.inl (.inl hp)) (dpAll_mono e a).dp
/-- a BDp that is no list is plain -/
theorem bDp_sh {K : PySem.W.Frag} {F H : Hp} {v : V} {d : D} (h : BDp K F H v d) (n : ∀ ds, d ≠ .list ds) : Sh K F v d := by
  rcases h with h | ⟨p, xs, ds, _, e, _⟩
  · exact h
  · exact absurd e (n ds)
/-- a list or tuple of any kind, in the layer's words -/
theorem bDp_seq {K : PySem.W.Frag} {F H : Hp} {v : V} {d : D} {ds : List D} (h : BDp K F H v d) (e : Ex F H) (hs : seqD d = some ds) : ∃ p xs, v = .ref p ∧ (SqL K H p xs ∨ SqT K H p xs) ∧ ShAll K F xs ds := by
  rcases h with h | ⟨p, xs, es, rfl, rfl, hp, a⟩
  · obtain ⟨p, xs, rfl, hq, a⟩ := sh_seq h hs
    exact ⟨p, xs, rfl, hq.elim (fun z => .inr (sqT_mono e z)) (fun z => .inl (sqL_mono e z)), a⟩
  · cases hs
    exact ⟨p, xs, rfl, .inl (.inl (.inl hp)), a⟩
theorem Sh.int_inv {K : PySem.W.Frag} {F : Hp} {v : V} {i : Int} (h : Sh K F v (.int i)) : v = .int i := by
  cases h
  rfl
section
variable {X : Cx}
theorem opD_of {f : Value → Value → Sem Value} {g : D → D → Option D} {r : R2} (h : OpR X f r)
    (i : ∀ x y F H d e z (Q : VK), Ex F H → Sh X.K F x d → BDp X.K F H y e → g d e = some z → (∀ v F' H', Grow F H F' H' → Sh X.K F' v z → Q v H') → r x y H Q) : OpD X f g :=
  fun pins s σ H x y v u Q I rx ry ⟨F, d, e, z, h1, h2, h3, h4, h5⟩ => h pins s σ H x y v u Q I rx ry (i x y F H d e z Q h1 h2 h3 h4 h5)
theorem opD_flat {f : Value → Value → Sem Value} {g : D → D → Option D} {r : R2} (h : OpR X f r) (fl : ∀ d e z, g d e = some z → flatD d = true ∧ flatD e = true ∧ flatD z = true)
    (i : ∀ d e z H (Q : VK), g d e = some z → Q (vOf z) H → r (vOf d) (vOf e) H Q) : OpD X f g :=
  opD_of h fun x y F H d e z Q h1 h2 h3 h4 h5 => by
    obtain ⟨f1, f2, f3⟩ := fl d e z h4
    have h3' : Sh X.K F y e := bDp_sh h3 fun ds z => by rw [z] at f2; cases f2
    rw [dp_flat h2 f1, dp_flat h3' f2]
    exact i d e z H Q h4 (h5 _ F H (.refl h1) (dp_vOf f3))
theorem od_intI {f : Value → Value → Sem Value} {C : Int → Int → Prop} {o : Int → Int → V} {g : D → D → Option D} (h : OpR X f (rI C o))
    (i : ∀ d e z, g d e = some z → ∃ i j, d = .int i ∧ e = .int j ∧ C i j ∧ flatD z = true ∧ vOf z = o i j) : OpD X f g :=
  opD_flat h (fun d e z hz => by
    obtain ⟨i, j, rfl, rfl, _, c, _⟩ := i d e z hz
    exact ⟨rfl, rfl, c⟩) fun d e z H Q hz q => by
    obtain ⟨i, j, rfl, rfl, c, _, e2⟩ := i d e z hz
    rw [e2] at q
    exact ⟨i, j, rfl, rfl, c, q⟩
theorem od_intI0 {f : Value → Value → Sem Value} {o : Int → Int → V} {g : D → D → Option D} (h : OpR X f (rI0 o))
    (i : ∀ d e z, g d e = some z → ∃ i j, d = .int i ∧ e = .int j ∧ flatD z = true ∧ vOf z = o i j) : OpD X f g :=
  opD_flat h (fun d e z hz => by
    obtain ⟨i, j, rfl, rfl, c, _⟩ := i d e z hz
    exact ⟨rfl, rfl, c⟩) fun d e z H Q hz q => by
    obtain ⟨i, j, rfl, rfl, _, e2⟩ := i d e z hz
    rw [e2] at q
    exact ⟨i, j, rfl, rfl, q⟩
theorem int2 {d e z : D} {g : D → D → Option D} (h : g d e = some z) (hd : ∀ d e, (∀ i, d ≠ .int i) → g d e = none) (he : ∀ i e, (∀ j, e ≠ .int j) → g (.int i) e = none) : ∃ i j, d = .int i ∧ e = .int j := by
  cases d with
  | int i =>
    cases e with
    | int j => exact ⟨i, j, rfl, rfl⟩
    | _ => rw [he i _ (by intro j q; cases q)] at h; cases h
  | _ => rw [hd _ _ (by intro j q; cases q)] at h; cases h
theorem od_sub : OpD X (binaryOp .Sub) dSub := od_intI0 op_sub fun d e z h => by
  unfold dSub at h
  split at h
  · cases h
    exact ⟨_, _, rfl, rfl, rfl, rfl⟩
  · cases h
theorem od_lt : OpD X (compareOp .Lt) dLt := od_intI0 op_lt fun d e z h => by
  unfold dLt at h
  split at h
  · cases h
    exact ⟨_, _, rfl, rfl, rfl, rfl⟩
  · cases h
theorem od_le : OpD X (compareOp .LtE) dLe := od_intI0 op_le fun d e z h => by
  unfold dLe at h
  split at h
  · cases h
    exact ⟨_, _, rfl, rfl, rfl, rfl⟩
  · cases h
theorem od_gt : OpD X (compareOp .Gt) dGt := od_intI0 op_gt fun d e z h => by
  unfold dGt at h
  split at h
  · cases h
    exact ⟨_, _, rfl, rfl, rfl, rfl⟩
  · cases h
theorem od_ge : OpD X (compareOp .GtE) dGe := od_intI0 op_ge fun d e z h => by
  unfold dGe at h
  split at h
  · cases h
    exact ⟨_, _, rfl, rfl, rfl, rfl⟩
  · cases h
theorem od_fdiv : OpD X (binaryOp .FloorDiv) dFdiv := od_intI (C := fun _ j => j ≠ 0 ∧ j.natAbs.log2 < 9000) (o := fun i j => .int (i.fdiv j)) (opI fun _ _ _ _ _ _ _ hc q => floordiv_int hc.1 q (.inl (PyProof.noPylong_of_log2 hc.2))) fun d e z h => by
  unfold dFdiv at h
  split at h
  · split at h
    · rename_i c
      cases h
      exact ⟨_, _, rfl, rfl, c, rfl, rfl⟩
    · cases h
  · cases h
theorem od_mod : OpD X (binaryOp .Mod) dMod := od_intI op_modN fun d e z h => by
  unfold dMod at h
  split at h
  · split at h
    · rename_i c
      cases h
      exact ⟨_, _, rfl, rfl, c, rfl, rfl⟩
    · cases h
  · cases h
theorem od_pow : OpD X (binaryOp .Pow) dPow := od_intI op_pow fun d e z h => by
  unfold dPow at h
  split at h
  · split at h
    · rename_i i j c
      cases h
      exact ⟨_, _, rfl, rfl, ⟨c.1, by omega, Nat.lt_of_le_of_lt c.2.2 (by decide)⟩, rfl, rfl⟩
    · cases h
  · cases h
/-! ### sums of tuples, of texts -/
theorem op_catZ : OpR X (binaryOp .Add) (fun x y H Q => ∃ a b xs ys, x = .ref a ∧ y = .ref b ∧ SqT X.K H a xs ∧ SqT X.K H b ys ∧ xs.length + ys.length ≤ sizeLine ∧ (xs = [] → Q (.ref b) H) ∧ (ys = [] → Q (.ref a) H) ∧ rTupZ (xs ++ ys) H Q) := by
  intro pins s σ H x y v u Q I rx ry h
  obtain ⟨a, b, xs, ys, rfl, rfl, ha, hb, hz, q0, q1, q2⟩ := h
  cases rx
  cases ry
  obtain ⟨its, r1, p1, _⟩ := I.tuple ha
  obtain ⟨its2, r2, p2, _⟩ := I.tuple hb
  by_cases hx : xs = []
  · subst hx
    cases r1
    exact cat_tup0 p1 p2 ⟨.ref b, H, I, rfl, q0 rfl⟩
  · refine HT.cat_tup p1 p2 (fun z => hx (r1.nil_iff.mp z)) (fun z => ⟨.ref a, H, I, rfl, q1 (r2.nil_iff.mp z)⟩) (fun z => ?_) (by rw [← r1.length, ← r2.length]; exact hz)
    exact fin_tup (t' := s.toks) I (r1.append r2) (by rw [List.length_append]; exact hz) q2
theorem sh_tup {K : PySem.W.Frag} {F : Hp} {v : V} {ds : List D} (h : Sh K F v (.tuple ds)) : ∃ p xs, v = .ref p ∧ SqT K F p xs ∧ ShAll K F xs ds := by
  cases h with
  | tup h a => exact ⟨_, _, rfl, h.sq, a⟩
theorem op_catLL : OpR X (binaryOp .Add) (fun x y H Q => ∃ a b xs ys, x = .ref a ∧ y = .ref b ∧ SqL X.K H a xs ∧ SqL X.K H b ys ∧ xs.length + ys.length ≤ sizeLine ∧ ∀ p, H p = none → Q (.ref p) (upd H p (.lst (xs ++ ys)))) := by
  intro pins s σ H x y v u Q I rx ry h
  obtain ⟨a, b, xs, ys, rfl, rfl, ha, hb, hz, q⟩ := h
  cases rx
  cases ry
  obtain ⟨its, r1, ⟨⟨c1, d1, t1, l1⟩, n1, e1, f1, g1, i1⟩, _⟩ := I.list ha
  obtain ⟨its2, r2, ⟨⟨c2, d2, t2, l2⟩, n2, e2, f2, g2, i2⟩, _⟩ := I.list hb
  simp only at f1 i1 f2 i2
  subst f1 i1 f2 i2
  have h1 := r1.length
  have h2 := r2.length
  refine concat_meets ⟨_, e1, rfl⟩ ⟨_, e2, rfl⟩ noFill_list_add seq_list_add PySem.F.slot_list_add PySem.F.entry_list_add (PySem.F.args_list_add_2 _ _) (list_addW a b its.toArray its2.toArray n1 n2 d1 d2 l1 l2 (by simp only [List.size_toArray]; omega)) ⟨e1, e2, ?_⟩
  have ea : its.toArray ++ its2.toArray = (its ++ its2).toArray := by simp
  rw [ea]
  exact ⟨.ref _, _, I.lnew (t' := s.toks) (r1.append r2) (by rw [List.length_append]; omega), rfl, q _ I.fresh⟩
theorem od_add : OpD X (binaryOp .Add) dAdd := by
  refine opD_of (op_add.or (op_add_str.or (op_catZ.or op_catLL))) fun x y F H d e z Q h1 h2 h3 h4 h5 => ?_
  unfold dAdd at h4
  split at h4
  · cases h4
    have h3' := bDp_sh h3 (by intro ds q; cases q)
    cases h2
    cases h3'
    exact .inl ⟨_, _, rfl, rfl, h5 _ F H (.refl h1) (.int _)⟩
  · split at h4
    · rename_i c
      cases h4
      have h3' := bDp_sh h3 (by intro ds q; cases q)
      cases h2
      cases h3'
      exact .inr (.inl ⟨_, _, rfl, rfl, sz_le c, h5 _ F H (.refl h1) (.str _)⟩)
    · cases h4
  · split at h4
    · rename_i xs ys c
      cases h4
      have h3' := bDp_sh h3 (by intro ds q; cases q)
      obtain ⟨a, us, rfl, ha, aa⟩ := sh_tup h2
      obtain ⟨b, ws, rfl, hb, ab⟩ := sh_tup h3'
      refine .inr (.inr (.inl ⟨a, b, us, ws, rfl, rfl, sqT_mono h1 ha, sqT_mono h1 hb, by rw [dpAll_length aa, dpAll_length ab]; exact sz_le c, fun e => ?_, fun e => ?_, rTupZ_of h1 (dpAll_app aa ab) h5⟩))
      · subst e
        cases aa
        exact h5 _ F H (.refl h1) h3'
      · subst e
        cases ab
        rw [List.append_nil] at h5
        exact h5 _ F H (.refl h1) h2
    · cases h4
  · split at h4
    · rename_i xs ys c
      cases h4
      have hl : ∃ b ws, y = .ref b ∧ SqL X.K H b ws ∧ ShAll X.K F ws ys := by
        rcases h3 with h3 | ⟨p, xs', ds', rfl, e, hp, a⟩
        · cases h3 with
          | lst h a => exact ⟨_, _, rfl, sqL_mono h1 h, a⟩
        · cases e
          exact ⟨p, xs', rfl, .inl (.inl hp), a⟩
      obtain ⟨b, ws, rfl, hb, ab⟩ := hl
      cases h2 with
      | lst ha aa =>
        refine .inr (.inr (.inr ⟨_, b, _, ws, rfl, rfl, sqL_mono h1 ha, hb, by rw [dpAll_length aa, dpAll_length ab]; exact sz_le c, fun p hp => ?_⟩))
        have n := h1.back hp
        exact h5 _ (upd F p (.lst _)) _ (.one h1 hp) (.lst (.inl (.inl upd_same)) (dpAll_mono (.new n) (dpAll_app aa ab)))
    · cases h4
  · cases h4
/-! ### products -/
theorem op_repZ : OpR X (binaryOp .Mult) (fun x y H Q => ∃ l k xs, x = .ref l ∧ y = .int k ∧ SqT X.K H l xs ∧ xs ≠ [] ∧ 2 ≤ k ∧ k ≤ 1000 ∧ xs.length ≤ 1000 ∧ rTupZ (List.replicate k.toNat xs).flatten H Q) := by
  intro pins s σ H x y v u Q I rx ry h
  obtain ⟨l, k, xs, rfl, rfl, hT, hne, h1, h2, hz, q⟩ := h
  cases rx
  obtain ⟨t, rfl⟩ := ry
  obtain ⟨its, r, ⟨⟨cls, dd, data, sl⟩, ho, hc, n, hd⟩, hs⟩ := I.tuple hT
  simp only at hc hd
  subst hc hd
  have hle : its.length = xs.length := r.length.symm
  have hn : its ≠ [] := fun e => hne (by
    rw [e] at hle
    exact List.eq_nil_of_length_eq_zero hle.symm)
  have hi : its.toArray.isEmpty = false := by
    cases its with
    | nil => exact absurd rfl hn
    | cons a b => rfl
  have hsz0 : its.toArray.size = xs.length := by rw [List.size_toArray, hle]
  have hm : ((its.toArray.size : Nat) : Int) * k ≤ 1000000 := by
    rw [hsz0]
    have a1 : ((xs.length : Nat) : Int) * k ≤ 1000 * k := Int.mul_le_mul_of_nonneg_right (by omega) (by omega)
    omega
  have flen : (List.replicate k.toNat its).flatten.length ≤ sizeLine := by
    rw [PyProof.Rows.lm_len_rep_flat, hle, sizeLine_eq]
    have a1 : k.toNat * xs.length ≤ 1000 * 1000 := Nat.mul_le_mul (by omega) hz
    omega
  have c0 : (decide (k < -(2 ^ 63)) || decide (k ≥ 2 ^ 63)) = false := by
    rw [decide_eq_false (by omega), decide_eq_false (by omega)] <;> rfl
  have c1 : (its.toArray.isEmpty || k == 1) = false := by
    rw [hi, Bool.false_or]
    exact beq_eq_false_iff_ne.mpr (by omega)
  have c2 : (decide (k ≤ 0) || its.toArray.isEmpty) = false := by
    rw [hi, Bool.or_false]
    exact decide_eq_false (by omega)
  have c4 : Builtin.Tuple.tupleTooMany (((its.toArray.size : Nat) : Int) * k) = false := by
    unfold Builtin.Tuple.tupleTooMany
    rw [sizeLine_eq]
    exact decide_eq_false (by omega)
  refine wpAny_binaryOp_repeat_ref (T := "tuple") (U := "int") (by decide) ⟨_, ho, rfl⟩ (fun s' => typeIs_int s' k t) noFill_tuple_mul F.fills_int_mul F.slot_int_rmul repeat_tuple F.slot_int_index.lookup
    (call_meets F.slot_int_rmul (typeIs_int s k t) F.entry_int_rmul (F.args_int_rmul_2 _ _) (int_rmul_tuple k t l its.toArray n dd sl)
      ⟨ho, rfl, ⟨_, ho, rfl⟩, call_meets F.slot_tuple_mul ⟨_, ho, rfl⟩ F.entry_tuple_mul (F.args_tuple_mul_2 _ _) (tuple_mulW l its.toArray n dd sl k t c0 c1 c2 (by omega) c4 (by rw [size_rep, List.size_toArray]; exact flen)) ⟨ho, ?_⟩⟩)
  rw [size_rep]
  exact fin_tup (t' := s.toks) I (r.rep k.toNat) (by rw [PyProof.Rows.lm_len_rep_flat, sizeLine_eq]; have a1 : k.toNat * xs.length ≤ 1000 * 1000 := Nat.mul_le_mul (by omega) hz; omega) q
theorem tuple_mul1 (l : Addr) (items : Array Value) (n : Nat) (dd : Option Addr) (sl : Array (Option Value)) (x : Int) (u : Tok) (c0 : (decide (x < -(2 ^ 63)) || decide (x ≥ 2 ^ 63)) = false) (c1 : (items.isEmpty || x == 1) = true) :
    Meets (Builtin.«tuple.__mul__» ⟨[.ref l, .int x u], []⟩) (fun _ R s => s.heap.get? l = some { cls := .type "tuple", dict := dd, data := .seq items n, slots := sl } ∧
      R (.ok (.ret (Value.ref l))) s) :=
  .of_wp fun prog w A R s h => by
    obtain ⟨hp, g, d, tk, os⟩ := s
    obtain ⟨hl, h⟩ := h
    have f1 := AutoSeq1.idx_int
    wp_walk using wpAny_loadPart' hl
    repeat (first
      | (refine wpAny_ite_false (decide_eq_false (by rw [c0]; exact Bool.false_ne_true)) ?_; wp_walk using wpAny_loadPart' hl)
      | (refine wpAny_ite_true (decide_eq_true c1) ?_; wp_walk using wpAny_loadPart' hl))
    exact ⟨_, rfl, h⟩
/-- t * 1 is t itself -/
theorem op_rep1 : OpR X (binaryOp .Mult) (fun x y H Q => ∃ l xs, x = .ref l ∧ y = .int 1 ∧ SqT X.K H l xs ∧ Q (.ref l) H) := by
  intro pins s σ H x y v u Q I rx ry h
  obtain ⟨l, xs, rfl, rfl, hT, q⟩ := h
  cases rx
  obtain ⟨t, rfl⟩ := ry
  obtain ⟨its, r, ⟨⟨cls, dd, data, sl⟩, ho, hc, n, hd⟩, hs⟩ := I.tuple hT
  simp only at hc hd
  subst hc hd
  refine wpAny_binaryOp_repeat_ref (T := "tuple") (U := "int") (by decide) ⟨_, ho, rfl⟩ (fun s' => typeIs_int s' 1 t) noFill_tuple_mul F.fills_int_mul F.slot_int_rmul repeat_tuple F.slot_int_index.lookup
    (call_meets F.slot_int_rmul (typeIs_int s 1 t) F.entry_int_rmul (F.args_int_rmul_2 _ _) (int_rmul_tuple 1 t l its.toArray n dd sl)
      ⟨ho, rfl, ⟨_, ho, rfl⟩, call_meets F.slot_tuple_mul ⟨_, ho, rfl⟩ F.entry_tuple_mul (F.args_tuple_mul_2 _ _) (tuple_mul1 l its.toArray n dd sl 1 t (by decide) (by simp)) ⟨ho, ?_⟩⟩)
  exact ⟨.ref l, H, I, rfl, q⟩
theorem od_mul : OpD X (binaryOp .Mult) dMul := by
  refine opD_of (op_mulW.or (op_repZ.or op_rep1)) fun x y F H d e z Q h1 h2 h3 h4 h5 => ?_
  unfold dMul at h4
  split at h4
  · split at h4
    · rename_i c
      cases h4
      have h3' := bDp_sh h3 (by intro ds q; cases q)
      cases h2
      cases h3'
      exact .inl ⟨_, _, rfl, rfl, c, h5 _ F H (.refl h1) (.int _)⟩
    · cases h4
  · split at h4
    · rename_i xs k c
      cases h4
      have h3' := bDp_sh h3 (by intro ds q; cases q)
      cases h3'
      obtain ⟨a, us, rfl, ha, aa⟩ := sh_tup h2
      by_cases hk : k = 1
      · subst hk
        refine .inr (.inr ⟨a, us, rfl, rfl, sqT_mono h1 ha, ?_⟩)
        have e : (List.replicate (1 : Int).toNat xs).flatten = xs := by
          show (List.replicate 1 xs).flatten = xs
          simp
        rw [e] at h5
        exact h5 _ F H (.refl h1) h2
      · refine .inr (.inl ⟨a, k, us, rfl, rfl, sqT_mono h1 ha, fun e => ?_, by omega, c.2.2.1, by rw [dpAll_length aa]; exact c.2.2.2, ?_⟩)
        · subst e
          cases aa
          exact absurd c.1 (by simp)
        · refine rTupZ_of h1 ?_ h5
          have rep : ∀ n : Nat, ShAll X.K F (List.replicate n us).flatten (List.replicate n xs).flatten := fun n => by
            induction n with
            | zero => exact .nil
            | succ n ih =>
              rw [List.replicate_succ, List.replicate_succ, List.flatten_cons, List.flatten_cons]
              exact dpAll_app aa ih
          exact rep _
    · cases h4
  · cases h4
/-! ### ==, in, is None -/
theorem op_eqDD (hu : X.A.units + 64 < cLine) : OpD X (compareOp .Eq) dEq := by
  refine opD_of (op_eq.or (op_eqD hu)) fun x y F H d e z Q h1 h2 h3 h4 h5 => ?_
  have fin : ∀ b, dEqv d e = some b → Q (.bl b) H := fun b hb => by
    unfold dEq at h4
    rw [hb] at h4
    cases h4
    exact h5 _ F H (.refl h1) (.bl b)
  have sc : ∀ a b, Sh X.K F y b → flatD d = true → d = a → e = b → scal (vOf a) (vOf b) = true → flatD b = true → dEqv d e = some (decide (vOf a = vOf b)) → rEq x y H Q := fun a b hy fa ea eb hs fb hd => by
    subst ea eb
    rw [dp_flat h2 fa, dp_flat hy fb]
    exact ⟨hs, fin _ hd⟩
  unfold dEqv at fin sc
  split at fin
  · exact .inl (sc _ _ (bDp_sh h3 (by intro ds q; cases q)) rfl rfl rfl rfl rfl (congrArg some dec_int.symm))
  · exact .inl (sc _ _ (bDp_sh h3 (by intro ds q; cases q)) rfl rfl rfl rfl rfl (congrArg some dec_str.symm))
  · exact .inl (sc _ _ (bDp_sh h3 (by intro ds q; cases q)) rfl rfl rfl rfl rfl (congrArg some dec_bl.symm))
  · rename_i n1 n2 n3
    by_cases c : (SeqAt.shaped d && SeqAt.shaped e) = true
    · rw [if_pos c] at fin
      rw [Bool.and_eq_true] at c
      exact .inr ⟨d, e, (dp_mono h1 h2).dp, bDp_dp h3 h1, c.1, c.2, fin _ rfl⟩
    · unfold dEq dEqv at h4
      split at h4
      · exact absurd rfl (n1 _ _ rfl)
      · exact absurd rfl (n2 _ _ rfl)
      · exact absurd rfl (n3 _ _ rfl)
      · rw [if_neg c] at h4
        cases h4
end
end DV

/-! DV, part D: !=, in, is None, -x, subscripts, slices, calls of built-ins. -/
namespace DV
open PySem PySem.Spec PyProof.Rows L2
section
variable {X : Cx}
theorem op_neDD (hu : X.A.units + 64 < cLine) : OpD X (compareOp .NotEq) dNe := by
  refine opD_of (op_ne.or (op_neD hu)) fun x y F H d e z Q h1 h2 h3 h4 h5 => ?_
  have fin : ∀ b, dEqv d e = some b → Q (.bl (!b)) H := fun b hb => by
    unfold dNe at h4
    rw [hb] at h4
    cases h4
    exact h5 _ F H (.refl h1) (.bl _)
  have sc : ∀ a b, Sh X.K F y b → flatD d = true → d = a → e = b → scal (vOf a) (vOf b) = true → flatD b = true → dEqv d e = some (decide (vOf a = vOf b)) → rNe x y H Q := fun a b hy fa ea eb hs fb hd => by
    subst ea eb
    rw [dp_flat h2 fa, dp_flat hy fb]
    exact ⟨hs, fin _ hd⟩
  unfold dEqv at fin sc
  split at fin
  · exact .inl (sc _ _ (bDp_sh h3 (by intro ds q; cases q)) rfl rfl rfl rfl rfl (congrArg some dec_int.symm))
  · exact .inl (sc _ _ (bDp_sh h3 (by intro ds q; cases q)) rfl rfl rfl rfl rfl (congrArg some dec_str.symm))
  · exact .inl (sc _ _ (bDp_sh h3 (by intro ds q; cases q)) rfl rfl rfl rfl rfl (congrArg some dec_bl.symm))
  · rename_i n1 n2 n3
    by_cases c : (SeqAt.shaped d && SeqAt.shaped e) = true
    · rw [if_pos c] at fin
      rw [Bool.and_eq_true] at c
      exact .inr ⟨d, e, (dp_mono h1 h2).dp, bDp_dp h3 h1, c.1, c.2, fin _ rfl⟩
    · unfold dNe dEqv at h4
      split at h4
      · exact absurd rfl (n1 _ _ rfl)
      · exact absurd rfl (n2 _ _ rfl)
      · exact absurd rfl (n3 _ _ rfl)
      · rw [if_neg c] at h4
        cases h4
/-! ### in -/
def rInS (K : PySem.W.Frag) (neg : Bool) : R2 := fun x y H Q => ∃ d e ds, Dp K H x d ∧ Dp K H y e ∧ (e = .list ds ∨ e = .tuple ds) ∧ SeqAt.shaped d = true ∧ SeqAt.shaped e = true ∧ Q (.bl (if neg then !(ds.any fun z => PyData.eqv z d) else ds.any fun z => PyData.eqv z d)) H
theorem shaped_tup {ds : List D} (h : SeqAt.shaped (.tuple ds) = true) : SeqAt.shaped (.list ds) = true := h
theorem or_inS (hu : X.A.units + 65 < cLine) : OpR X (compareOp .In) (rInS X.K false) := by
  intro pins s σ H x y v u Q I rx ry h
  obtain ⟨d, e, ds, hd, he, hs, sd, se, q⟩ := h
  obtain ⟨as, r1⟩ := Dp.reads I d x v hd rx
  rcases hs with rfl | rfl
  · obtain ⟨bs, r2⟩ := Dp.reads I (.list ds) y u he ry
    exact SeqAt.in_list_reads r2 r1 (SeqAt.canLay_of_shaped se) (SeqAt.canLay_of_shaped sd) (room_in_shaped sd hu) ⟨.bl _, H, I, rfl, q⟩
  · obtain ⟨bs, r2⟩ := Dp.reads I (.tuple ds) y u he ry
    exact SeqAt.in_tuple_reads r2 r1 (SeqAt.canLay_of_shaped (shaped_tup se)) (SeqAt.canLay_of_shaped sd) (room_in_shaped sd hu) ⟨.bl _, H, I, rfl, q⟩
theorem or_notInS (hu : X.A.units + 65 < cLine) : OpR X (compareOp .NotIn) (rInS X.K true) := by
  intro pins s σ H x y v u Q I rx ry h
  obtain ⟨d, e, ds, hd, he, hs, sd, se, q⟩ := h
  obtain ⟨as, r1⟩ := Dp.reads I d x v hd rx
  rcases hs with rfl | rfl
  · obtain ⟨bs, r2⟩ := Dp.reads I (.list ds) y u he ry
    exact SeqAt.notIn_list_reads r2 r1 (SeqAt.canLay_of_shaped se) (SeqAt.canLay_of_shaped sd) (room_in_shaped sd hu) ⟨.bl _, H, I, rfl, q⟩
  · obtain ⟨bs, r2⟩ := Dp.reads I (.tuple ds) y u he ry
    exact SeqAt.notIn_tuple_reads r2 r1 (SeqAt.canLay_of_shaped (shaped_tup se)) (SeqAt.canLay_of_shaped sd) (room_in_shaped sd hu) ⟨.bl _, H, I, rfl, q⟩
theorem dInB_some {d e : D} {b : Bool} (h : dInB d e = some b) : ∃ ds, (e = .list ds ∨ e = .tuple ds) ∧ SeqAt.shaped d = true ∧ SeqAt.shaped e = true ∧ b = ds.any fun z => PyData.eqv z d := by
  unfold dInB at h
  split at h
  · split at h
    · rename_i c
      rw [Bool.and_eq_true] at c
      cases h
      exact ⟨_, .inl rfl, c.1, c.2, rfl⟩
    · cases h
  · split at h
    · rename_i c
      rw [Bool.and_eq_true] at c
      cases h
      exact ⟨_, .inr rfl, c.1, c.2, rfl⟩
    · cases h
  · cases h
theorem op_inDD (hu : X.A.units + 65 < cLine) : OpD X (compareOp .In) dIn := by
  refine opD_of (or_inS hu) fun x y F H d e z Q h1 h2 h3 h4 h5 => ?_
  unfold dIn at h4
  cases hb : dInB d e with
  | none =>
    rw [hb] at h4
    cases h4
  | some b =>
    rw [hb] at h4
    cases h4
    obtain ⟨ds, hs, sd, se, rfl⟩ := dInB_some hb
    exact ⟨d, e, ds, (dp_mono h1 h2).dp, bDp_dp h3 h1, hs, sd, se, h5 _ F H (.refl h1) (.bl _)⟩
theorem op_notInDD (hu : X.A.units + 65 < cLine) : OpD X (compareOp .NotIn) dNotIn := by
  refine opD_of (or_notInS hu) fun x y F H d e z Q h1 h2 h3 h4 h5 => ?_
  unfold dNotIn at h4
  cases hb : dInB d e with
  | none =>
    rw [hb] at h4
    cases h4
  | some b =>
    rw [hb] at h4
    cases h4
    obtain ⟨ds, hs, sd, se, rfl⟩ := dInB_some hb
    exact ⟨d, e, ds, (dp_mono h1 h2).dp, bDp_dp h3 h1, hs, sd, se, h5 _ F H (.refl h1) (.bl _)⟩
theorem non_iff {K : PySem.W.Frag} {F : Hp} {v : V} {d : D} (h : Sh K F v d) : decide (v = .non) = isNoneD d := by
  cases h <;> first
    | rfl
    | exact decide_eq_false (by intro q; cases q)
theorem op_isND : OpD X (compareOp .Is) dIsN := by
  refine opD_of op_isN fun x y F H d e z Q h1 h2 h3 h4 h5 => ?_
  unfold dIsN at h4
  split at h4
  · cases h4
    have h3' := bDp_sh h3 (by intro ds q; cases q)
    cases h3'
    refine ⟨rfl, ?_⟩
    rw [non_iff h2]
    exact h5 _ F H (.refl h1) (.bl _)
  · cases h4
theorem op_notND : OpD X (compareOp .IsNot) dNotN := by
  refine opD_of op_notN fun x y F H d e z Q h1 h2 h3 h4 h5 => ?_
  unfold dNotN at h4
  split at h4
  · cases h4
    have h3' := bDp_sh h3 (by intro ds q; cases q)
    cases h3'
    refine ⟨rfl, ?_⟩
    rw [non_iff h2]
    exact h5 _ F H (.refl h1) (.bl _)
  · cases h4
end

/-! ### one-place operations -/
def m1 (g : D → Option D) (m : ME) : ME := fun s => bnd (m s) fun x s => optR (g x) s
def dNeg (d : D) : Option D := match d with
  | .int i => some (.int (-i))
  | _ => none
section
variable {X : Cx} {W : WX} {pos p : Pos} {a b e : Expr} {es : List Expr} {m ma mb : ME} {ms : MA}
theorem se_neg (h : SE X W a m) : SE X W (.UnaryOp .USub a pos) (m1 dNeg m) :=
  PE.imp (pe_un un_neg h) fun σ H Q ⟨c, F, s, k, q⟩ => ⟨c, F, s, k, rdE_bnd q fun d s1 v F1 H1 q1 k1 e1 b1 => by
    cases d with
    | int i =>
      cases b1
      exact ⟨i, rfl, q1 _ F1 H1 k1 e1 (.int _)⟩
    | _ => exact q1.elim⟩
/-! ### subscripts -/
theorem atI_sh {K : PySem.W.Frag} {F : Hp} {xs : List V} {ds : List D} {i : Int} {d : D} (a : ShAll K F xs ds) (h : atI ds i = some d) : ∃ v, atI xs i = some v ∧ Sh K F v d := by
  unfold atI at h ⊢
  rw [dpAll_length a]
  cases e : ixN ds.length i with
  | none =>
    rw [e] at h
    cases h
  | some j =>
    rw [e] at h
    exact dpAll_getD a h
def dIx (d e : D) : Option D := match d, e with
  | .list ds, .int i => atI ds i
  | .tuple ds, .int i => atI ds i
  | .str z, .int i => if z.length ≤ 1000000 then (atI z.cps.toList i).map fun c => .str ⟨#[c]⟩ else none
  | _, _ => none
theorem se_ix (ha : SE X W a ma) (hb : SE X W b mb) (hs : PlainIx b) : SE X W (.Subscript a b pos) (m2 dIx ma mb) :=
  PE.imp (pe_ix ix_seq ha hb hs) fun σ H Q ⟨c, F, s, k, q⟩ => ⟨c, F, s, k, rdE_bnd q fun d s1 v F1 H1 q1 k1 e1 b1 => ⟨c, F1, s1, k1, rdE_bnd (rdE_mono q1 e1) fun d2 s2 v2 F2 H2 q2 k2 e2 b2 => by
    cases hg : dIx d d2 with
    | none =>
      rw [hg] at q2
      exact q2.elim
    | some r =>
      rw [hg] at q2
      have q3 : ∀ v, Sh X.K F2 v r → Q v H2 := fun v hv => q2 v F2 H2 k2 e2 hv
      unfold dIx at hg
      split at hg
      · cases b2
        cases b1 with
        | lst h a =>
          obtain ⟨v, hv, sv⟩ := atI_sh a hg
          exact .inl ⟨_, _, _, v, rfl, rfl, sqL_mono (e2.trans k2.fh) h, hv, q3 v (dp_mono e2 sv)⟩
      · cases b2
        cases b1 with
        | tup h a =>
          obtain ⟨v, hv, sv⟩ := atI_sh a hg
          exact .inr (.inl ⟨_, _, _, v, rfl, rfl, sqT_mono (e2.trans k2.fh) h.sq, hv, q3 v (dp_mono e2 sv)⟩)
      · cases b2
        cases b1
        split at hg
        · rename_i z i hz
          cases hc : atI z.cps.toList i with
          | none =>
            rw [hc] at hg
            cases hg
          | some ch =>
            rw [hc] at hg
            cases hg
            exact .inr (.inr ⟨_, _, ch, rfl, rfl, sz_le hz, hc, q3 _ (.str _)⟩)
        · cases hg
      · cases hg⟩⟩
/-- the item of a list of one's own, or handed in, by its name -/
def mIxV (i : Nat) (mb : ME) : ME := fun s => match s[i]? with
  | some (.own _) => bnd (mb s) fun y s => match s[i]?, y with
    | some (.own ds), .int k => optR (atI ds k) s
    | _, _ => .fail
  | some (.io _) => bnd (mb s) fun y s => match s[i]?, y with
    | some (.io ds), .int k => optR (atI ds k) s
    | _, _ => .fail
  | some (.dat d) => bnd (mb s) fun y s => optR (dIx d y) s
  | _ => .fail
theorem se_ixv {i : Nat} (ha : PE X a (tVar i)) (hb : SE X W b mb) (hs : PlainIx b) : SE X W (.Subscript a b pos) (mIxV i mb) :=
  PE.imp (pe_ix ix_seq ha hb hs) fun σ H Q ⟨c, F, s, k, q⟩ => by
    unfold mIxV at q
    cases h0 : s[i]? with
    | none =>
      rw [h0] at q
      exact q.elim
    | some x =>
      rw [h0] at q
      cases x with
      | own ds0 =>
        obtain ⟨p0, xs0, a0, _⟩ := k.own i ds0 h0
        refine ⟨_, a0, c, F, s, k, rdE_bnd q fun d2 s2 v2 F2 H2 q2 k2 e2 b2 => ?_⟩
        cases h1 : s2[i]? with
        | none =>
          rw [h1] at q2
          exact q2.elim
        | some y =>
          rw [h1] at q2
          cases y with
          | own ds =>
            cases d2 with
            | int j =>
              cases b2
              have q3 : RdE X.K X.mg c W σ F (optR (atI ds j) s2) Q := q2
              cases hg : atI ds j with
              | none =>
                rw [hg] at q3
                exact q3.elim
              | some r =>
                rw [hg] at q3
                obtain ⟨p, xs, a1, _, _, hp, al⟩ := k2.own i ds h1
                rw [a0] at a1
                cases a1
                obtain ⟨v, hv, sv⟩ := atI_sh al hg
                exact .inl ⟨_, xs, j, v, rfl, rfl, .inl (.inl hp), hv, q3 v F2 H2 k2 e2 sv⟩
            | _ => exact q2.elim
          | _ => exact q2.elim
      | io is0 =>
        obtain ⟨p0, xs0, _, a0, _⟩ := k.io i is0 h0
        refine ⟨_, a0, c, F, s, k, rdE_bnd q fun d2 s2 v2 F2 H2 q2 k2 e2 b2 => ?_⟩
        cases h1 : s2[i]? with
        | none =>
          rw [h1] at q2
          exact q2.elim
        | some y =>
          rw [h1] at q2
          cases y with
          | io ds =>
            cases d2 with
            | int j =>
              cases b2
              have q3 : RdE X.K X.mg c W σ F (optR (atI ds j) s2) Q := q2
              cases hg : atI ds j with
              | none =>
                rw [hg] at q3
                exact q3.elim
              | some r =>
                rw [hg] at q3
                obtain ⟨p, xs, _, a1, hp, al, _⟩ := k2.io i ds h1
                rw [a0] at a1
                cases a1
                obtain ⟨v, hv, sv⟩ := atI_sh al hg
                exact .inl ⟨_, xs, j, v, rfl, rfl, .inl (.inl hp), hv, q3 v F2 H2 k2 e2 sv⟩
            | _ => exact q2.elim
          | _ => exact q2.elim
      | dat d =>
        obtain ⟨v, a0, b1⟩ := k.dat i d h0
        refine ⟨_, a0, c, F, s, k, rdE_bnd q fun d2 s2 v2 F2 H2 q2 k2 e2 b2 => ?_⟩
        cases hg : dIx d d2 with
        | none =>
          rw [hg] at q2
          exact q2.elim
        | some r =>
          rw [hg] at q2
          have q3 : ∀ v, Sh X.K F2 v r → Q v H2 := fun v hv => q2 v F2 H2 k2 e2 hv
          unfold dIx at hg
          split at hg
          · cases b2
            cases b1 with
            | lst h a =>
              obtain ⟨v, hv, sv⟩ := atI_sh a hg
              exact .inl ⟨_, _, _, v, rfl, rfl, sqL_mono (e2.trans k2.fh) h, hv, q3 v (dp_mono e2 sv)⟩
          · cases b2
            cases b1 with
            | tup h a =>
              obtain ⟨v, hv, sv⟩ := atI_sh a hg
              exact .inr (.inl ⟨_, _, _, v, rfl, rfl, sqT_mono (e2.trans k2.fh) h.sq, hv, q3 v (dp_mono e2 sv)⟩)
          · cases b2
            cases b1
            split at hg
            · rename_i z i hz
              cases hc : atI z.cps.toList i with
              | none =>
                rw [hc] at hg
                cases hg
              | some ch =>
                rw [hc] at hg
                cases hg
                exact .inr (.inr ⟨_, _, ch, rfl, rfl, sz_le hz, hc, q3 _ (.str _)⟩)
            · cases hg
          · cases hg
      | _ => exact q.elim
/-! ### slices -/
def cutL {α : Type} (xs : List α) (lo hi : Option Int) : List α := (xs.drop (HT.sIx xs.length 0 lo)).take (HT.sIx xs.length xs.length hi - HT.sIx xs.length 0 lo)
theorem cut_sh {K : PySem.W.Frag} {F : Hp} {xs : List V} {ds : List D} (a : ShAll K F xs ds) (lo hi : Option Int) : ShAll K F (cutV xs lo hi) (cutL ds lo hi) := by
  unfold cutV cutL
  rw [dpAll_length a]
  exact dpAll_take _ (dpAll_drop _ a)
theorem sl_tupZ : SlR X (fun x lo hi H Q => ∃ a xs, x = .ref a ∧ SqT X.K H a xs ∧ (cutV xs lo hi = xs → Q (.ref a) H) ∧ rTupZ (cutV xs lo hi) H Q) := by
  intro pins s σ H x v vl vu lo hi sl Q I rx hs pl pu h
  obtain ⟨a, xs, rfl, hx, q1, q2⟩ := h
  cases rx
  obtain ⟨its, r, ht, hz⟩ := I.tuple hx
  have hlen : its.toArray.size = xs.length := by rw [List.size_toArray]; exact r.length.symm
  refine ⟨"tuple", _, PyProof.Rows.slot_tuple_getitem.lookup, ht.typeIs, ?_⟩
  by_cases hw : HT.sIx xs.length 0 lo = 0 ∧ HT.sIx xs.length xs.length hi = xs.length
  · refine getItem_tuple_whole ht hs pl pu (by rw [hlen]; exact hw) ⟨.ref a, H, I, rfl, q1 ?_⟩
    unfold cutV
    rw [hw.1, hw.2]
    simp
  · refine HT.getItem_tuple_cut ht hs pl pu (by rw [hlen]; exact hw) ?_ (by rw [hlen]; exact hz)
    rw [hlen]
    exact fin_tup (t' := s.toks) I ((r.drop (HT.sIx xs.length 0 lo)).take (HT.sIx xs.length xs.length hi - HT.sIx xs.length 0 lo)) (Nat.le_trans (cutV_length xs lo hi) hz) q2
/-- a slice's parts -/
abbrev MO := Sl → Rs (Option Int)
def RdP (K : PySem.W.Frag) (mg : Str → Option Value) (c : Cc) (W : WX) (σ : L2.St) (F : Hp) (r : Rs (Option Int)) (Q : Option Int → Hp → Prop) : Prop := match r with
  | .ok o s => ∀ F' H', Ok K c F' σ H' s → Ex F F' → Q o H'
  | .exc x s => ∀ a F' H', mg x = some (.ref a) → Ok K c F' σ H' s → W (.ref a) none σ H'
  | .fail => False
def SP' (X : Cx) (W : WX) (e : Option Expr) (m : MO) : Prop := PO X e fun σ H Q => ∃ c F s, Ok X.K c F σ H s ∧ RdP X.K X.mg c W σ F (m s) Q
def mNoP : MO := fun s => .ok none s
def asI (d : D) : Option Int := match d with
  | .int i => some i
  | _ => none
def mP (m : ME) : MO := fun s => bnd (m s) fun d s => optR ((asI d).map some) s
theorem PO.imp {e : Option Expr} {t t' : TO} (h : PO X e t) (i : ∀ σ H Q, t' σ H Q → t σ H Q) : PO X e t' := ⟨fun pins s σ H Q I q => h.run pins s σ H Q I (i σ H Q q)⟩
theorem sp_none : SP' X W none mNoP := PO.imp po_none fun σ H Q ⟨c, F, s, k, q⟩ => q F H k (.refl F)
theorem sp_some (h : SE X W e m) : SP' X W (some e) (mP m) := PO.imp (po_some h) fun σ H Q ⟨c, F, s, k, q⟩ => ⟨c, F, s, k, by
  unfold mP at q
  cases hm : m s with
  | ok d s' =>
    rw [hm] at q
    intro v F' H' k' e' b
    cases d with
    | int i =>
      cases b
      exact ⟨i, rfl, q F' H' k' e'⟩
    | _ => exact q.elim
  | exc x s' =>
    rw [hm] at q
    exact q
  | fail =>
    rw [hm] at q
    exact q⟩
def dCut (d : D) (lo hi : Option Int) : Option D := match d with
  | .tuple ds => some (.tuple (cutL ds lo hi))
  | _ => none
def mSl (m : ME) (ml mh : MO) : ME := fun s => bnd (m s) fun d s => bnd (ml s) fun l s => bnd (mh s) fun u s => optR (dCut d l u) s
theorem rdP_bnd {K : PySem.W.Frag} {mg : Str → Option Value} {c : Cc} {W : WX} {σ : L2.St} {F : Hp} {r : Rs (Option Int)} {k : Option Int → Sl → Rs D} {Q : VK} {Q' : Option Int → Hp → Prop} (h : RdE K mg c W σ F (bnd r k) Q)
    (f : ∀ d s F' H', RdE K mg c W σ F (k d s) Q → Ok K c F' σ H' s → Ex F F' → Q' d H') : RdP K mg c W σ F r Q' := by
  cases r with
  | ok d s => exact fun F' H' a b => f d s F' H' h a b
  | exc x s => exact h
  | fail => exact h
theorem rdP_bndO {K : PySem.W.Frag} {mg : Str → Option Value} {c : Cc} {W : WX} {σ : L2.St} {F : Hp} {r : Rs (Option Int)} {k : Option Int → Sl → Rs (List D)} {Q : VK} {Q' : Option Int → Hp → Prop} (h : RdO K mg c W σ F (bnd r k) Q)
    (f : ∀ d s F' H', RdO K mg c W σ F (k d s) Q → Ok K c F' σ H' s → Ex F F' → Q' d H') : RdP K mg c W σ F r Q' := by
  cases r with
  | ok d s => exact fun F' H' a b => f d s F' H' h a b
  | exc x s => exact h
  | fail => exact h
theorem se_slice {lo hi : Option Expr} {ml mh : MO} {p2 : Pos} (h : SE X W e m) (hl : SP' X W lo ml) (hu : SP' X W hi mh) : SE X W (.Subscript e (.Slice lo hi none p2) pos) (mSl m ml mh) :=
  PE.imp (pe_slice sl_tupZ h hl hu) fun σ H Q ⟨c, F, s, k, q⟩ => ⟨c, F, s, k, rdE_bnd q fun d s1 v F1 H1 q1 k1 e1 b1 => ⟨c, F1, s1, k1, rdP_bnd (rdE_mono q1 e1) fun l s2 F2 H2 q2 k2 e2 => ⟨c, F2, s2, k2, rdP_bnd (rdE_mono q2 e2) fun u s3 F3 H3 q3 k3 e3 => by
    cases d with
    | tuple ds =>
      obtain ⟨a, xs, rfl, ha, aa⟩ := sh_tup b1
      have e13 := e2.trans e3
      refine ⟨a, xs, rfl, sqT_mono (e13.trans k3.fh) ha, fun e => ?_, rTupZ_of k3.fh (dpAll_mono e13 (cut_sh aa l u)) fun v F' H' gr b => q3 v F' H' (k3.grow gr) (e3.trans gr.ff) b⟩
      have e' : cutL ds l u = ds := by
        have hl : (cutL ds l u).length = ds.length := by rw [← dpAll_length (cut_sh aa l u), e, dpAll_length aa]
        unfold cutL at hl ⊢
        rw [List.length_take, List.length_drop] at hl
        generalize HT.sIx ds.length 0 l = i at *
        generalize HT.sIx ds.length ds.length u = j at *
        by_cases hd : ds.length = 0
        · have z : ds = [] := List.eq_nil_of_length_eq_zero hd
          rw [z]
          simp
        · have : i = 0 := by omega
          subst this
          rw [List.drop_zero]
          exact List.take_of_length_le (by omega)
      have q4 : RdE X.K X.mg c W σ F2 (optR (some (PyData.tuple (cutL ds l u))) s3) Q := q3
      rw [e'] at q4
      exact q4 _ F3 H3 k3 e3 (dp_mono e13 b1)
    | _ => exact q3.elim⟩⟩⟩
/-- a slice of a list: a new list -/
def mSlL (m : ME) (ml mh : MO) : MA := fun s => bnd (m s) fun d s => bnd (ml s) fun l s => bnd (mh s) fun u s => match d with
  | .list ds => .ok (cutL ds l u) s
  | _ => .fail
theorem so_slice {lo hi : Option Expr} {ml mh : MO} {p2 : Pos} (h : SE X W e m) (hl : SP' X W lo ml) (hu : SP' X W hi mh) : SO X W (.Subscript e (.Slice lo hi none p2) pos) (mSlL m ml mh) :=
  PE.imp (pe_slice sl_list h hl hu) fun σ H Q ⟨c, F, s, k, q⟩ => ⟨c, F, s, k, rdE_bndO q fun d s1 v F1 H1 q1 k1 e1 b1 => ⟨c, F1, s1, k1, rdP_bndO (rdO_mono q1 e1) fun l s2 F2 H2 q2 k2 e2 => ⟨c, F2, s2, k2, rdP_bndO (rdO_mono q2 e2) fun u s3 F3 H3 q3 k3 e3 => by
    cases d with
    | list ds =>
      cases b1 with
      | lst h a =>
        have e13 := e2.trans e3
        refine ⟨_, _, rfl, sqL_mono (e13.trans k3.fh) h, fun p hp => ?_⟩
        obtain ⟨k4, fr⟩ := k3.fresh_new hp (dpAll_mono e13 (cut_sh a l u))
        exact q3 p _ F3 _ k4 e3 fr
    | _ => exact q3.elim⟩⟩⟩

/-! ### calls of built-ins of one argument -/
def CallD (X : Cx) (f : Value) (g : D → Option D) : Prop :=
  CallR X f fun vs H Q => ∃ F v d r, Ex F H ∧ vs = [v] ∧ BDp X.K F H v d ∧ g d = some r ∧ ∀ w F' H', Grow F H F' H' → Sh X.K F' w r → Q w H'
/-- .. that give a new list -/
def CallO (X : Cx) (f : Value) (g : D → Option (List D)) : Prop :=
  CallR X f fun vs H Q => ∃ F v d r, Ex F H ∧ vs = [v] ∧ BDp X.K F H v d ∧ g d = some r ∧ ∀ p xs, H p = none → ShAll X.K F xs r → Q (.ref p) (upd H p (.lst xs))
def mO1 (g : D → Option (List D)) (m : ME) : MA := fun s => bnd (m s) fun x s => optR (g x) s
theorem callR_imp {f : Value} {r r' : List V → Hp → VK → Prop} (h : CallR X f r) (i : ∀ vs H Q, r' vs H Q → r vs H Q) : CallR X f r' := fun pins s σ H vs us Q I r q => h pins s σ H vs us Q I r (i vs H Q q)
theorem sb_args {m : ME} (h : SB X W e m) (hs : starEach [e] X.env = (false, eval e X.env) :: starEach [] X.env := by rfl) : PA X [e] (tCons (tV X W m) tNil) := pa_cons h pa_nil hs
theorem callD_read {r : List V → Hp → VK → Prop} {g : D → Option D} (hr : ∀ vs H Q, (∃ F v d r, Ex F H ∧ vs = [v] ∧ BDp X.K F H v d ∧ g d = some r ∧ ∀ w F' H', Grow F H F' H' → Sh X.K F' w r → Q w H') → r vs H Q)
    (σ : L2.St) (H : Hp) (Q : VK) (h : tE X W (m1 g m) σ H Q) : tCB r (tCons (tV X W m) tNil) σ H Q := by
  obtain ⟨c, F, s, k, q⟩ := h
  refine ⟨c, F, s, k, rdV_bnd q fun d s1 v F1 H1 q1 k1 e1 b1 => ?_⟩
  cases hg : g d with
  | none =>
    rw [hg] at q1
    exact q1.elim
  | some z =>
    rw [hg] at q1
    exact hr _ _ _ ⟨F1, v, d, z, k1.fh, rfl, b1, hg, fun w F' H' gr b => q1 w F' H' (k1.grow gr) (e1.trans gr.ff) b⟩
theorem callO_read {r : List V → Hp → VK → Prop} {g : D → Option (List D)} (hr : ∀ vs H Q, (∃ F v d r, Ex F H ∧ vs = [v] ∧ BDp X.K F H v d ∧ g d = some r ∧ ∀ p xs, H p = none → ShAll X.K F xs r → Q (.ref p) (upd H p (.lst xs))) → r vs H Q)
    (σ : L2.St) (H : Hp) (Q : VK) (h : tO X W (mO1 g m) σ H Q) : tCB r (tCons (tV X W m) tNil) σ H Q := by
  obtain ⟨c, F, s, k, q⟩ := h
  refine ⟨c, F, s, k, rdV_bndO q fun d s1 v F1 H1 q1 k1 e1 b1 => ?_⟩
  cases hg : g d with
  | none =>
    rw [hg] at q1
    exact q1.elim
  | some z =>
    rw [hg] at q1
    refine hr _ _ _ ⟨F1, v, d, z, k1.fh, rfl, b1, hg, fun p xs hp ha => ?_⟩
    obtain ⟨k2, fr⟩ := k1.fresh_new hp ha
    exact q1 p xs F1 _ k2 e1 fr
theorem se_callB {x : Str} {id : String} {g : D → Option D} (hc : CallD X (.builtin id) g) (hg : Gl X x) (hm : X.mg x = none) (hv : bootBuiltins x = some (.builtin id)) (ha : SB X W e m) (hn : x ≠ "__name__" := by decide) (hdb : (x == ("__debug__" : Str)) = false := by decide)
    (he : starEach [e] X.env = (false, eval e X.env) :: starEach [] X.env := by rfl) (hpl : (backTo pos (starEach [] X.env)).any (·.1) = false := by rfl) : SE X W (.Call (.Name x p) [e] [] pos) (m1 g m) :=
  PE.imp (pe_callB hc hg hm hv (sb_args ha he) hn hdb he hpl) fun σ H Q h => callD_read (fun _ _ _ z => z) σ H Q h
theorem se_callT {x : Str} {T : String} {g : D → Option D} (hc : CallD X (.type T) g) (hg : Gl X x) (hm : X.mg x = none) (hv : bootBuiltins x = some (.type T)) (ha : SB X W e m) (hn : x ≠ "__name__" := by decide) (hdb : (x == ("__debug__" : Str)) = false := by decide)
    (he : starEach [e] X.env = (false, eval e X.env) :: starEach [] X.env := by rfl) (hpl : (backTo pos (starEach [] X.env)).any (·.1) = false := by rfl) : SE X W (.Call (.Name x p) [e] [] pos) (m1 g m) :=
  PE.imp (pe_callTy hc hg hm hv (sb_args ha he) hn hdb he hpl) fun σ H Q h => callD_read (fun _ _ _ z => z) σ H Q h
theorem so_callB {x : Str} {id : String} {g : D → Option (List D)} (hc : CallO X (.builtin id) g) (hg : Gl X x) (hm : X.mg x = none) (hv : bootBuiltins x = some (.builtin id)) (ha : SB X W e m) (hn : x ≠ "__name__" := by decide) (hdb : (x == ("__debug__" : Str)) = false := by decide)
    (he : starEach [e] X.env = (false, eval e X.env) :: starEach [] X.env := by rfl) (hpl : (backTo pos (starEach [] X.env)).any (·.1) = false := by rfl) : SO X W (.Call (.Name x p) [e] [] pos) (mO1 g m) :=
  PE.imp (pe_callB hc hg hm hv (sb_args ha he) hn hdb he hpl) fun σ H Q h => callO_read (fun _ _ _ z => z) σ H Q h
theorem so_callT {x : Str} {T : String} {g : D → Option (List D)} (hc : CallO X (.type T) g) (hg : Gl X x) (hm : X.mg x = none) (hv : bootBuiltins x = some (.type T)) (ha : SB X W e m) (hn : x ≠ "__name__" := by decide) (hdb : (x == ("__debug__" : Str)) = false := by decide)
    (he : starEach [e] X.env = (false, eval e X.env) :: starEach [] X.env := by rfl) (hpl : (backTo pos (starEach [] X.env)).any (·.1) = false := by rfl) : SO X W (.Call (.Name x p) [e] [] pos) (mO1 g m) :=
  PE.imp (pe_callTy hc hg hm hv (sb_args ha he) hn hdb he hpl) fun σ H Q h => callO_read (fun _ _ _ z => z) σ H Q h
end
/-! the built-ins -/
def dLen (d : D) : Option D := match d with
  | .list ds => some (.int ds.length)
  | .tuple ds => some (.int ds.length)
  | .str z => if z.length ≤ 1000000 then some (.int z.length) else none
  | _ => none
def dAbs (d : D) : Option D := match d with
  | .int i => some (.int (if i < 0 then -i else i))
  | _ => none
def dInt (d : D) : Option D := match d with
  | .int i => some (.int i)
  | .bool k => some (.int (if k then 1 else 0))
  | _ => none
def dTuple (d : D) : Option D := match d with
  | .list ds => some (.tuple ds)
  | .tuple ds => some (.tuple ds)
  | _ => none
def dList (d : D) : Option (List D) := seqD d
/-- the ints of a list -/
def intsOf : List D → Option (List Int)
  | [] => some []
  | .int i :: ds => (intsOf ds).map (i :: ·)
  | _ :: _ => none
def boolsOf : List D → Option (List Bool)
  | [] => some []
  | .bool b :: ds => (boolsOf ds).map (b :: ·)
  | _ :: _ => none
theorem intsOf_sh {K : PySem.W.Frag} {F : Hp} : ∀ {xs : List V} {ds : List D} {ns : List Int}, ShAll K F xs ds → intsOf ds = some ns → xs = ns.map V.int
  | _, _, _, .nil, h => by
    cases h
    rfl
  | _, _, ns, .cons (d := d) (ds := ds) h t, e => by
    cases d with
    | int i =>
      have e' : (intsOf ds).map (i :: ·) = some ns := e
      cases hi : intsOf ds with
      | none =>
        rw [hi] at e'
        cases e'
      | some ms =>
        rw [hi] at e'
        cases e'
        rw [List.map_cons, ← intsOf_sh t hi, h.int_inv]
    | _ => cases e
theorem boolsOf_sh {K : PySem.W.Frag} {F : Hp} : ∀ {xs : List V} {ds : List D} {ns : List Bool}, ShAll K F xs ds → boolsOf ds = some ns → xs = ns.map V.bl
  | _, _, _, .nil, h => by
    cases h
    rfl
  | _, _, ns, .cons (d := d) (ds := ds) h t, e => by
    cases d with
    | bool i =>
      have e' : (boolsOf ds).map (i :: ·) = some ns := e
      cases hi : boolsOf ds with
      | none =>
        rw [hi] at e'
        cases e'
      | some ms =>
        rw [hi] at e'
        cases e'
        cases h
        rw [List.map_cons, ← boolsOf_sh t hi]
    | _ => cases e
theorem intsOf_map : ∀ ns : List Int, intsOf (ns.map .int) = some ns
  | [] => rfl
  | n :: ns => by
    show (intsOf (ns.map .int)).map (n :: ·) = _
    rw [intsOf_map ns]
    rfl
theorem boolsOf_map : ∀ ns : List Bool, boolsOf (ns.map .bool) = some ns
  | [] => rfl
  | n :: ns => by
    show (boolsOf (ns.map .bool)).map (n :: ·) = _
    rw [boolsOf_map ns]
    rfl
/-- the ints of a list's data -/
def listI (d : D) : Option (List Int) := match d with
  | .list ds => intsOf ds
  | _ => none
def listB (d : D) : Option (List Bool) := match d with
  | .list ds => boolsOf ds
  | _ => none
def dSum (d : D) : Option D := (listI d).map fun ns => .int ns.sum
def dAll (d : D) : Option D := (listB d).map fun bs => .bool (bs.all id)
def dAny (d : D) : Option D := (listB d).map fun bs => .bool (bs.any id)
def maxI : List Int → Option Int
  | [] => none
  | n :: ns => some (ns.foldl max n)
def minI : List Int → Option Int
  | [] => none
  | n :: ns => some (ns.foldl min n)
def dMax (d : D) : Option D := ((listI d).bind maxI).map .int
def dMin (d : D) : Option D := ((listI d).bind minI).map .int
def sortI (ns : List Int) : List Int := ns.mergeSort fun a b => decide (a ≤ b)
def dSorted (d : D) : Option (List D) := (listI d).map fun ns => (sortI ns).map .int
theorem foldl_max : ∀ (ns : List Int) (n : Int), (∀ y, y ∈ n :: ns → y ≤ ns.foldl max n) ∧ ns.foldl max n ∈ n :: ns
  | [], n => by simp
  | m :: ns, n => by
    obtain ⟨h1, h2⟩ := foldl_max ns (max n m)
    rw [List.foldl_cons]
    refine ⟨fun y hy => ?_, ?_⟩
    · have h0 := h1 (max n m) List.mem_cons_self
      rcases List.mem_cons.mp hy with rfl | hy
      · omega
      · rcases List.mem_cons.mp hy with rfl | hy
        · omega
        · exact h1 y (List.mem_cons_of_mem _ hy)
    · rcases List.mem_cons.mp h2 with e | h
      · rw [e]
        by_cases c : n ≤ m
        · rw [Int.max_eq_right c]
          simp
        · rw [Int.max_eq_left (by omega)]
          simp
      · exact List.mem_cons_of_mem _ (List.mem_cons_of_mem _ h)
theorem foldl_min : ∀ (ns : List Int) (n : Int), (∀ y, y ∈ n :: ns → ns.foldl min n ≤ y) ∧ ns.foldl min n ∈ n :: ns
  | [], n => by simp
  | m :: ns, n => by
    obtain ⟨h1, h2⟩ := foldl_min ns (min n m)
    rw [List.foldl_cons]
    refine ⟨fun y hy => ?_, ?_⟩
    · have h0 := h1 (min n m) List.mem_cons_self
      rcases List.mem_cons.mp hy with rfl | hy
      · omega
      · rcases List.mem_cons.mp hy with rfl | hy
        · omega
        · exact h1 y (List.mem_cons_of_mem _ hy)
    · rcases List.mem_cons.mp h2 with e | h
      · rw [e]
        by_cases c : n ≤ m
        · rw [Int.min_eq_left c]
          simp
        · rw [Int.min_eq_right (by omega)]
          simp
      · exact List.mem_cons_of_mem _ (List.mem_cons_of_mem _ h)
theorem sorted_one : ∀ {xs ys : List Int}, xs.Perm ys → xs.Pairwise (· ≤ ·) → ys.Pairwise (· ≤ ·) → xs = ys
  | [], ys, p, _, _ => (List.nil_perm.mp p).symm
  | x :: xs, [], p, _, _ => by
    have := p.length_eq
    simp at this
  | x :: xs, y :: ys, p, hx, hy => by
    rw [List.pairwise_cons] at hx hy
    have e : x = y := by
      have h1 : x ∈ y :: ys := p.mem_iff.mp List.mem_cons_self
      have h2 : y ∈ x :: xs := p.mem_iff.mpr List.mem_cons_self
      rcases List.mem_cons.mp h1 with e | h1
      · exact e
      · rcases List.mem_cons.mp h2 with e | h2
        · exact e.symm
        · have := hx.1 y h2
          have := hy.1 x h1
          omega
    subst e
    rw [sorted_one (List.Perm.cons_inv p) hx.2 hy.2]
theorem sortI_perm (ns : List Int) : (sortI ns).Perm ns := List.mergeSort_perm _ _
theorem sortI_sorted (ns : List Int) : (sortI ns).Pairwise (· ≤ ·) := by
  have h := List.pairwise_mergeSort (le := fun a b : Int => decide (a ≤ b)) (by
    intro a b c
    simp only [decide_eq_true_eq]
    omega) (by
    intro a b
    simp only [Bool.or_eq_true, decide_eq_true_eq]
    omega) ns
  exact h.imp fun {a b} z => of_decide_eq_true z
section
variable {X : Cx}
theorem callD_of {f : Value} {g : D → Option D} {r : List V → Hp → VK → Prop} (h : CallR X f r)
    (i : ∀ F H v d z (Q : VK), Ex F H → BDp X.K F H v d → g d = some z → (∀ w F' H', Grow F H F' H' → Sh X.K F' w z → Q w H') → r [v] H Q) : CallD X f g :=
  callR_imp h fun vs H Q ⟨F, v, d, z, h1, e, h2, h3, h4⟩ => by
    subst e
    exact i F H v d z Q h1 h2 h3 h4
theorem callO_of {f : Value} {g : D → Option (List D)} {r : List V → Hp → VK → Prop} (h : CallR X f r)
    (i : ∀ F H v d z (Q : VK), Ex F H → BDp X.K F H v d → g d = some z → (∀ p xs, H p = none → ShAll X.K F xs z → Q (.ref p) (upd H p (.lst xs))) → r [v] H Q) : CallO X f g :=
  callR_imp h fun vs H Q ⟨F, v, d, z, h1, e, h2, h3, h4⟩ => by
    subst e
    exact i F H v d z Q h1 h2 h3 h4
theorem cd_len : CallD X (.builtin "len") dLen := callD_of (call_len_seq.or call_len_str) fun F H v d z Q h1 h2 h3 h4 => by
  have sq : ∀ ds, seqD d = some ds → z = .int ds.length → ∃ p ys, [v] = [V.ref p] ∧ (SqL X.K H p ys ∨ SqT X.K H p ys) ∧ Q (.int ys.length) H := fun ds hs hz => by
    obtain ⟨p, xs, rfl, hq, a⟩ := bDp_seq h2 h1 hs
    refine ⟨p, xs, rfl, hq, ?_⟩
    rw [dpAll_length a]
    subst hz
    exact h4 _ F H (.refl h1) (.int _)
  unfold dLen at h3
  split at h3
  · cases h3
    exact .inl (sq _ rfl rfl)
  · cases h3
    exact .inl (sq _ rfl rfl)
  · split at h3
    · rename_i hz
      cases h3
      have h2' := bDp_sh h2 (by intro ds q; cases q)
      cases h2'
      exact .inr ⟨_, rfl, sz_le hz, h4 _ F H (.refl h1) (.int _)⟩
    · cases h3
  · cases h3
theorem cd_abs : CallD X (.builtin "abs") dAbs := callD_of call_abs fun F H v d z Q h1 h2 h3 h4 => by
  unfold dAbs at h3
  split at h3
  · cases h3
    have h2' := bDp_sh h2 (by intro ds q; cases q)
    cases h2'
    exact ⟨_, rfl, h4 _ F H (.refl h1) (.int _)⟩
  · cases h3
theorem cd_int : CallD X (.type "int") dInt := callD_of call_int1 fun F H v d z Q h1 h2 h3 h4 => by
  unfold dInt at h3
  split at h3
  · cases h3
    have h2' := bDp_sh h2 (by intro ds q; cases q)
    cases h2'
    exact .inl ⟨_, rfl, h4 _ F H (.refl h1) (.int _)⟩
  · cases h3
    have h2' := bDp_sh h2 (by intro ds q; cases q)
    cases h2'
    exact .inr ⟨_, rfl, h4 _ F H (.refl h1) (.int _)⟩
  · cases h3
theorem call_tupleZ : CallR X (.type "tuple") (fun xs H Q => ∃ p ys, xs = [.ref p] ∧ ((SqL X.K H p ys ∧ rTupZ ys H Q) ∨ (SqT X.K H p ys ∧ Q (.ref p) H))) := by
  intro pins s σ H xs us Q I r h
  obtain ⟨p, ys, rfl, h⟩ := h
  obtain ⟨u, rfl, rx⟩ := vals1 r
  cases rx
  rcases h with ⟨hq, q⟩ | ⟨hq, q⟩
  · obtain ⟨its, r', pl, hz⟩ := I.list hq
    have hlen := r'.length
    refine call_tuple_list pl.isList (fun h' kp => ?_) (by simp only [List.size_toArray] <;> omega)
    have I1 : Inv X pins σ H { s with heap := h' } := I.kept (t' := s.toks) kp
    exact fin_tup (t' := s.toks) I1 r' hz q
  · obtain ⟨its, r', pl, hz⟩ := I.tuple hq
    exact call_tuple_same pl ⟨.ref p, H, I, rfl, q⟩
theorem cd_tuple : CallD X (.type "tuple") dTuple := callD_of call_tupleZ fun F H v d z Q h1 h2 h3 h4 => by
  unfold dTuple at h3
  split at h3
  · cases h3
    rcases h2 with h2 | ⟨p, xs, es, rfl, e, hp, a⟩
    · cases h2 with
      | lst h a => exact ⟨_, _, rfl, .inl ⟨sqL_mono h1 h, rTupZ_of h1 a h4⟩⟩
    · cases e
      exact ⟨p, xs, rfl, .inl ⟨.inl (.inl hp), rTupZ_of h1 a h4⟩⟩
  · cases h3
    have h2' := bDp_sh h2 (by intro ds q; cases q)
    obtain ⟨a, us, rfl, ha, aa⟩ := sh_tup h2'
    exact ⟨a, us, rfl, .inr ⟨sqT_mono h1 ha, h4 _ F H (.refl h1) h2'⟩⟩
  · cases h3
theorem co_list : CallO X (.type "list") dList := callO_of call_list_of fun F H v d z Q h1 h2 h3 h4 => by
  obtain ⟨p, xs, rfl, hq, a⟩ := bDp_seq h2 h1 h3
  exact ⟨p, xs, rfl, hq, fun l hl => h4 l xs hl a⟩
/-- a list's ints, bools -/
theorem listI_sq {K : PySem.W.Frag} {F H : Hp} {v : V} {d : D} {ns : List Int} (h : BDp K F H v d) (e : Ex F H) (hn : listI d = some ns) : ∃ p, v = .ref p ∧ SqL K H p (ns.map V.int) := by
  cases d with
  | list ds =>
    have hn' : intsOf ds = some ns := hn
    rcases h with h | ⟨p, xs, es, rfl, e2, hp, a⟩
    · cases h with
      | lst h a =>
        rw [← intsOf_sh a hn']
        exact ⟨_, rfl, sqL_mono e h⟩
    · cases e2
      rw [← intsOf_sh a hn']
      exact ⟨p, rfl, .inl (.inl hp)⟩
  | _ => cases hn
theorem listB_sq {K : PySem.W.Frag} {F H : Hp} {v : V} {d : D} {ns : List Bool} (h : BDp K F H v d) (e : Ex F H) (hn : listB d = some ns) : ∃ p, v = .ref p ∧ SqL K H p (ns.map V.bl) := by
  cases d with
  | list ds =>
    have hn' : boolsOf ds = some ns := hn
    rcases h with h | ⟨p, xs, es, rfl, e2, hp, a⟩
    · cases h with
      | lst h a =>
        rw [← boolsOf_sh a hn']
        exact ⟨_, rfl, sqL_mono e h⟩
    · cases e2
      rw [← boolsOf_sh a hn']
      exact ⟨p, rfl, .inl (.inl hp)⟩
  | _ => cases hn
theorem map_inv {α : Type} {o : Option α} {f : α → D} {z : D} (h : o.map f = some z) : ∃ a, o = some a ∧ f a = z := by
  cases o with
  | none => cases h
  | some a => exact ⟨a, rfl, Option.some.inj h⟩
theorem cd_sum (hc : X.calm = true) : CallD X (.builtin "sum") dSum := callD_of (cr_sum hc) fun F H v d z Q h1 h2 h3 h4 => by
  obtain ⟨ns, hn, rfl⟩ := map_inv h3
  obtain ⟨p, rfl, hq⟩ := listI_sq h2 h1 hn
  exact ⟨p, ns, rfl, hq, h4 _ F H (.refl h1) (.int _)⟩
theorem cd_all (hc : X.calm = true) : CallD X (.builtin "all") dAll := callD_of (cr_all hc) fun F H v d z Q h1 h2 h3 h4 => by
  obtain ⟨ns, hn, rfl⟩ := map_inv h3
  obtain ⟨p, rfl, hq⟩ := listB_sq h2 h1 hn
  exact ⟨p, ns, rfl, hq, h4 _ F H (.refl h1) (.bl _)⟩
theorem cd_any (hc : X.calm = true) : CallD X (.builtin "any") dAny := callD_of (cr_any hc) fun F H v d z Q h1 h2 h3 h4 => by
  obtain ⟨ns, hn, rfl⟩ := map_inv h3
  obtain ⟨p, rfl, hq⟩ := listB_sq h2 h1 hn
  exact ⟨p, ns, rfl, hq, h4 _ F H (.refl h1) (.bl _)⟩
theorem cd_max (hc : X.calm = true) : CallD X (.builtin "max") dMax := callD_of (cr_max hc) fun F H v d z Q h1 h2 h3 h4 => by
  obtain ⟨m, hm, rfl⟩ := map_inv h3
  cases hn : listI d with
  | none =>
    rw [hn] at hm
    cases hm
  | some ns =>
    rw [hn] at hm
    obtain ⟨p, rfl, hq⟩ := listI_sq h2 h1 hn
    cases ns with
    | nil => cases hm
    | cons n ns =>
      have e : ns.foldl max n = m := Option.some.inj hm
      obtain ⟨a1, a2⟩ := foldl_max ns n
      refine ⟨p, _, rfl, hq, Nat.succ_pos _, fun m' h6 h7 => ?_⟩
      have e2 : m' = m := by
        have := a1 m' h6
        have := h7 _ a2
        omega
      rw [e2]
      exact h4 _ F H (.refl h1) (.int _)
theorem cd_min (hc : X.calm = true) : CallD X (.builtin "min") dMin := callD_of (cr_min hc) fun F H v d z Q h1 h2 h3 h4 => by
  obtain ⟨m, hm, rfl⟩ := map_inv h3
  cases hn : listI d with
  | none =>
    rw [hn] at hm
    cases hm
  | some ns =>
    rw [hn] at hm
    obtain ⟨p, rfl, hq⟩ := listI_sq h2 h1 hn
    cases ns with
    | nil => cases hm
    | cons n ns =>
      have e : ns.foldl min n = m := Option.some.inj hm
      obtain ⟨a1, a2⟩ := foldl_min ns n
      refine ⟨p, _, rfl, hq, Nat.succ_pos _, fun m' h6 h7 => ?_⟩
      have e2 : m' = m := by
        have := a1 m' h6
        have := h7 _ a2
        omega
      rw [e2]
      exact h4 _ F H (.refl h1) (.int _)
theorem sh_ints {K : PySem.W.Frag} {F : Hp} : ∀ ns : List Int, ShAll K F (ns.map V.int) (ns.map .int)
  | [] => .nil
  | n :: ns => .cons (.int n) (sh_ints ns)
theorem co_sorted : CallO X (.builtin "sorted") dSorted := callO_of cr_sortedI fun F H v d z Q h1 h2 h3 h4 => by
  unfold dSorted at h3
  cases hn : listI d with
  | none =>
    rw [hn] at h3
    cases h3
  | some ns =>
    rw [hn] at h3
    cases h3
    obtain ⟨p, rfl, hq⟩ := listI_sq h2 h1 hn
    refine ⟨p, ns, rfl, hq, fun ns' l p1 p2 hl => ?_⟩
    rw [sorted_one (p1.trans (sortI_perm ns).symm) p2 (sortI_sorted ns)]
    exact h4 l _ hl (sh_ints _)
end
end DV

/-! DV, part Dz: a def's promise where no guard of a repr is open around it (so that repr of lists and tuples can be told within). -/
namespace DV
open PySem PySem.Spec PyProof.Rows L2

/-- around a body nothing is let out -/
theorem takesN0 {X : Cx} : L2N.Takes X (fun _ _ _ _ => False) := fun _ _ ⟨_, _, _, _, _, _, _, _, _, _, _, _, _, _, _, _, w⟩ => w.elim
/-- room, and no repr is under way -/
structure RoomG (k : Nat) (A : Around) : Prop where
  rm : Room k A
  gd : A.guards = some []
theorem RoomG.mono {j k : Nat} {A : Around} (r : RoomG k A) (h : j ≤ k) : RoomG j A := ⟨r.rm.mono h, r.gd⟩
theorem RoomG.deeper {k : Nat} {A : Around} (r : RoomG (k + 1) A) (env : Env) : RoomG k (A.deeper env) := ⟨r.rm.deeper env, r.gd⟩
structure FnG (P : Program) (w : World) (K : PySem.W.Frag) (mg : Str → Option Value) (base : Heap) (k : Nat) (f : Addr) (fd : FuncData) (ps : List Str) (sp : Sp) : Prop where
  len : ∀ vs H Q E, sp vs H Q E → vs.length = ps.length
  run : ∀ (A : Around) (outer : List Env) (s : Shared) (H : Hp) (args : Args) (us : List Value) (vs : List V) (Q : VK) (E : XK), RoomG k A → Env0 P w K mg base A outer s H → BindsTo s fd args (ps.zip us) → Vals vs us → sp vs H Q E →
    codeAny (model P w) A (.call (.ref f) args) (CR (L2N.CX P w) outer P w H s Q E) s
theorem FnG.mono {P : Program} {w : World} {K : PySem.W.Frag} {mg : Str → Option Value} {base : Heap} {j k : Nat} {f : Addr} {fd : FuncData} {ps : List Str} {sp : Sp} (F : FnG P w K mg base j f fd ps sp) (h : j ≤ k) :
    FnG P w K mg base k f fd ps sp := ⟨F.len, fun A outer s H args us vs Q E hr => F.run A outer s H args us vs Q E (hr.mono h)⟩
theorem FnG.imp {P : Program} {w : World} {K : PySem.W.Frag} {mg : Str → Option Value} {base : Heap} {k : Nat} {f : Addr} {fd : FuncData} {ps : List Str} {sp sp' : Sp} (F : FnG P w K mg base k f fd ps sp)
    (h : ∀ vs H Q E, sp' vs H Q E → sp vs H Q E) : FnG P w K mg base k f fd ps sp' :=
  ⟨fun vs H Q E q => F.len vs H Q E (h _ _ _ _ q), fun A outer s H args us vs Q E hr he hb hv hs => F.run A outer s H args us vs Q E hr he hb hv (h _ _ _ _ hs)⟩
/-- a def by its body -/
theorem okG {P : Program} {w : World} {K : PySem.W.Frag} {mg : Str → Option Value} {base : Heap} {x qual : Str} {st : Stmt} {f : Addr} {fd : FuncData} {N ps : List Str} {k : Nat} {sp : Sp}
    (F : L2.Fun K x qual st f fd) (S : FnScope N ps (defScope st)) (len : ∀ vs H Q E, sp vs H Q E → vs.length = ps.length)
    (hbody : ∀ (cdv : Value) (A : Around) (outer : List Env) (s : Shared) (H : Hp) (vs : List V) (Q : VK) (E : XK), RoomG k (A.deeper (envOfC qual (defScope st) s.heap.objs.size f cdv)) → sp vs H Q E →
      ∃ t, PSs (cxOf (L2N.CX P w) P w K mg base N qual (defScope st) f cdv A outer s H E) (defBody st) t ∧ t { nx := fun _ H' => Q .non H', rt := Q } (start N vs) H) : FnG P w K mg base (k + 1) f fd ps sp := by
  obtain ⟨oc, od, kV, doc, pm, an, cdv, ct, osl, rfl, lk, hcd⟩ := F.ex
  refine ⟨len, fun A outer s H args us vs Q E hr e0 hb r hsp => ?_⟩
  have hl := len _ _ _ _ hsp
  have KX : K.In s.heap := e0.mod.kin.keeps fun b o e => (e0.bs b o e).1
  have lim : s.heap.NoLimit := e0.mod.nolimit.keeps fun b o e => (e0.bs b o e).1
  have hkind : ∀ y ∈ ps.zip us, (defScope st).names.lookup y.1 = some .local ∨ ((defScope st).names.lookup y.1 = some .cell ∧ ((cellsFrom (s.heap.objs.size + 1) (defScope st).names []).lookup y.1).isSome = true) := fun ⟨n, v⟩ hy => by
    rcases S.par n (List.of_mem_zip hy).1 with q | q
    · exact .inl q
    · exact .inr ⟨q, PySem.W.cellsFrom_some _ _ _ (.inl q)⟩
  refine codeAny_call_function hr.rm.depth (KX _ _ lk) rfl S.co S.gen rfl (PySem.W.codeRec_of KX hcd) (hb _ _ _ _ ?_)
  refine wpAny_newFunctionEnv_cells S.kind hkind fun env he s1 x => ?_
  subst he
  refine ⟨lim.keeps x.toInCall.keep, codeAny_func ?_⟩
  obtain ⟨t, ht, hq⟩ := hbody cdv A outer s H vs Q E (hr.deeper _) hsp
  have I := inv_start (CX := L2N.CX P w) (mg := mg) (E := E) S hr.rm.hd e0 hl r x
  refine wpAny_mono (ht.run [] s1 (start N vs) H _ I hq) (fun fl s' hs => ?_) fun e s' hs => hs
  cases fl with
  | ret u =>
    obtain ⟨v, σ', H', J, rv, q⟩ := hs
    exact ⟨v, H', J.os, J.bare, J.base, J.hok, rv, q⟩
  | next =>
    obtain ⟨σ', H', J, q⟩ := hs
    exact ⟨.non, H', J.os, J.bare, J.base, J.hok, rfl, q⟩
  | brk =>
    obtain ⟨_, _, _, q⟩ := hs
    exact False.elim q
  | cont =>
    obtain ⟨_, _, _, q⟩ := hs
    exact False.elim q
section
variable {X : Cx} {k : Nat} {f : Addr} {fd : FuncData} {ps : List Str} {sp : Sp} {E : L2.St → XK} {x : Str} {p pos : Pos} {e : Expr} {es : List Expr} {t : TA}
theorem pe_callG (F : FnG X.prog X.w X.K X.mg X.base k f fd ps sp) (hr : RoomG k X.A) (hg : Gl X x) (hm : X.mg x = some (.ref f)) (hk : PySem.W.keepIn X.K (.ref f) = true) (hb : Binds X.K fd ps []) (hx : ∀ σ, PassesAt (L2N.CX X.prog X.w) X σ (E σ))
    (ha : PA X (e :: es) t) (hdb : (x == ("__debug__" : Str)) = false := by decide) (he : starEach (e :: es) X.env = (false, eval e X.env) :: starEach es X.env := by rfl) (hpl : (backTo pos (starEach es X.env)).any (·.1) = false := by rfl) :
    PE X (.Call (.Name x p) (e :: es) [] pos) (tCallS sp E t) := by
  refine ⟨fun pins s σ H Q I h => ?_⟩
  refine wpAny_Call_Name_kw (ld_glob I hg hm ?_ hdb)
  refine PySem.W.callWith_K (h₀ := X.base) I.ok.mod.kin hk (thn (ha.run pos pins s σ H _ I h) fun us s1 ⟨vs, H1, I1, r, q⟩ => ⟨I1.kIn, ?_⟩) he hpl
  have hl : us.length = ps.length := by rw [← r.length]; exact F.len _ _ _ _ q
  have b := hb s1 us I1.kIn (by rw [List.append_nil]; exact hl)
  rw [List.append_nil] at b
  refine wpAny_call (codeAny_mono (F.run X.A X.stack s1 H1 ⟨us, []⟩ us vs Q (E σ) hr I1.env0 b r q) fun r' s' hq => ?_)
  cases r' with
  | error e => exact hx σ pins H1 s1 e s' I1 hq
  | ok fl =>
    cases fl with
    | ret u => exact I1.after hq
    | next => exact False.elim hq
    | brk => exact False.elim hq
    | cont => exact False.elim hq
end
end DV

/-! DV, part E: defs and their promises, calls, statements, loops. -/
namespace DV
open PySem PySem.Spec PyProof.Rows L2

/-! ### what a def does, as a function on data -/
inductive FP where
  | ok (d : D)
  | exc (x : Str)
  | fail
/-- .. of one whose first argument is a list that it changes -/
inductive FS where
  | ok (d : D) (io : List D)
  | exc (x : Str) (io : List D)
  | fail
def spP (K : PySem.W.Frag) (mg : Str → Option Value) (m : List D → FP) : Sp := fun vs H Q E => ∃ F ds, Ex F H ∧ ShAll K F vs ds ∧ match m ds with
  | .ok d => ∀ v F' H', Grow F H F' H' → Sh K F' v d → Q v H'
  | .exc x => ∀ a F' H', mg x = some (.ref a) → Grow F H F' H' → E (.ref a) none H'
  | .fail => False
/-- how the heap stands behind a def that changed the list at p -/
structure Aft (K : PySem.W.Frag) (F H : Hp) (p : Addr) (xs : List V) (ds : List D) (F' H' : Hp) (es : List D) : Prop where
  ff : Ex F F'
  fh : Ex F' H'
  keep : ∀ b o, H b = some o → b ≠ p → H' b = some o
  nw : ∀ b, F' b ≠ none → F b = none → H b = none
  io : ∃ ys, H' p = some (.lst ys) ∧ ShAll K F' ys es ∧ Ret (xs, ds) ys es
def spS (K : PySem.W.Frag) (mg : Str → Option Value) (m : List D → List D → FS) : Sp := fun vs H Q E => ∃ F p xs ws ds as, vs = .ref p :: ws ∧ Ex F H ∧ F p = none ∧ H p = some (.lst xs) ∧ ShAll K F xs ds ∧ ShAll K F ws as ∧ match m ds as with
  | .ok d es => ∀ v F' H', Aft K F H p xs ds F' H' es → Sh K F' v d → Q v H'
  | .exc x es => ∀ a F' H', mg x = some (.ref a) → Aft K F H p xs ds F' H' es → E (.ref a) none H'
  | .fail => False
/-- the mirror of a def from that of its body: np parameters, nl names -/
def mfunP (np nl : Nat) (ms : MS) : List D → FP := fun ds => if ds.length = np then (match ms (ds.map .dat ++ List.replicate (nl - np) .un) with
  | .rt d _ => .ok d
  | .nx _ => .ok .none
  | .exc x _ => .exc x
  | _ => .fail) else .fail
def ioAt (s : Sl) : Option (List D) := match List.head? s with
  | some (.io ds) => some ds
  | _ => none
def mfunS (np nl : Nat) (ms : MS) : List D → List D → FS := fun io ds => if ds.length + 1 = np then (match ms (.io io :: (ds.map .dat ++ List.replicate (nl - np) .un)) with
  | .rt d s => (match ioAt s with | some es => .ok d es | none => .fail)
  | .nx s => (match ioAt s with | some es => .ok .none es | none => .fail)
  | .exc x s => (match ioAt s with | some es => .exc x es | none => .fail)
  | _ => .fail) else .fail
/-- what is wanted of exceptions that leave a def -/
abbrev WD (E : XK) : WX := fun cls d _ H => E cls d H
theorem start_get {vs : List V} {N : List Str} {i : Nat} {v : V} (h : vs[i]? = some v) : (L2.start N vs)[i]? = some (some v) := by
  unfold L2.start
  have hi := (List.getElem?_eq_some_iff.mp h).1
  rw [List.getElem?_append_left (by rw [List.length_map]; exact hi), List.getElem?_map, h]
  rfl
theorem start_len {vs : List V} {N : List Str} (h : vs.length ≤ N.length) : (L2.start N vs).length = N.length := by
  unfold L2.start
  rw [List.length_append, List.length_map, List.length_replicate]
  omega
theorem dats_get {ds : List D} {n i : Nat} {x : SV} (h : (ds.map SV.dat ++ List.replicate n SV.un)[i]? = some x) : (∃ d, ds[i]? = some d ∧ x = .dat d) ∨ x = .un := by
  by_cases hi : i < ds.length
  · rw [List.getElem?_append_left (by rw [List.length_map]; exact hi), List.getElem?_map, List.getElem?_eq_getElem hi] at h
    exact .inl ⟨ds[i], List.getElem?_eq_getElem hi, (Option.some.inj h).symm⟩
  · rw [List.getElem?_append_right (by rw [List.length_map]; omega)] at h
    exact .inr (List.mem_replicate.mp (List.mem_of_getElem? h)).2
section
variable {P : Program} {w : World} {K : PySem.W.Frag} {mg : Str → Option Value} {base : Heap} {x qual : Str} {st : Stmt} {f : Addr} {fd : FuncData} {N ps : List Str} {k : Nat} {ms : MS}
/-- a def that changes nothing that it is given -/
theorem fn_P (Fn : Fun K x qual st f fd) (S : FnScope N ps (defScope st)) (hn : ps.length ≤ N.length)
    (hb : ∀ (cdv : Value) (A : Around) (outer : List Env) (s : Shared) (H : Hp) (E : XK), RoomG k (A.deeper (envOfC qual (defScope st) s.heap.objs.size f cdv)) →
      SSs (cxOf (L2N.CX P w) P w K mg base N qual (defScope st) f cdv A outer s H E) (WD E) (defBody st) ms) : FnG P w K mg base (k + 1) f fd ps (spP K mg (mfunP ps.length N.length ms)) := by
  have len : ∀ vs H Q E, spP K mg (mfunP ps.length N.length ms) vs H Q E → vs.length = ps.length := by
    rintro vs H Q E ⟨F, ds, _, a, q⟩
    unfold mfunP at q
    by_cases hl : ds.length = ps.length
    · rw [dpAll_length a, hl]
    · rw [if_neg hl] at q
      exact q.elim
  refine okG Fn S len fun cdv A outer s H vs Q E hr h => ⟨_, hb cdv A outer s H E hr, ?_⟩
  have hvl := len vs H Q E h
  obtain ⟨F, ds, e, a, q⟩ := h
  have hdl : ds.length = ps.length := by rw [← dpAll_length a, hvl]
  unfold mfunP at q
  rw [if_pos hdl] at q
  refine ⟨⟨F, H, fun _ => none, fun _ => ([], [])⟩, F, ds.map .dat ++ List.replicate (N.length - ps.length) .un, ?_, ?_⟩
  · refine ⟨?_, .refl F, e, fun _ _ h _ => h, fun _ h1 h2 => absurd h2 h1, (fun _ _ h => nomatch h), (fun _ _ h => nomatch h), fun i d h => ?_, fun i d h => ?_, fun i j d1 d2 p _ h => ?_, fun i d h => ?_, fun i ea h => ?_⟩
    · rw [start_len (by omega), List.length_append, List.length_map, List.length_replicate]
      omega
    · rcases dats_get h with ⟨d', h1, h2⟩ | h2
      · cases h2
        obtain ⟨v, hv, sv⟩ := dpAll_getD a h1
        exact ⟨v, start_get hv, sv⟩
      · cases h2
    · rcases dats_get h with ⟨d', h1, h2⟩ | h2 <;> cases h2
    · rcases dats_get h with ⟨d', h1, h2⟩ | h2 <;> cases h2
    · rcases dats_get h with ⟨d', h1, h2⟩ | h2 <;> cases h2
    · rcases dats_get h with ⟨d', h1, h2⟩ | h2 <;> cases h2
  · have gr : ∀ {F' H' : Hp} {σ' : L2.St} {s' : Sl}, Ok K ⟨F, H, fun _ => none, fun _ => ([], [])⟩ F' σ' H' s' → Grow F H F' H' := fun k => ⟨k.ff, k.fh, fun b o h => k.keep b o h (fun _ h => nomatch h), fun b h1 h2 => k.new b h1 h2⟩
    cases hm : ms (ds.map .dat ++ List.replicate (N.length - ps.length) .un) with
    | nx s' =>
      rw [hm] at q
      exact fun σ' F' H' k _ => q .non F' H' (gr k) .non
    | rt d s' =>
      rw [hm] at q
      exact fun v σ' F' H' k _ b => q v F' H' (gr k) b
    | exc y s' =>
      rw [hm] at q
      exact fun a σ' F' H' ha k => q a F' H' ha (gr k)
    | bk s' =>
      rw [hm] at q
      exact q.elim
    | ct s' =>
      rw [hm] at q
      exact q.elim
    | fail =>
      rw [hm] at q
      exact q.elim
/-- a def whose first parameter is a list that it changes -/
theorem fn_S (Fn : Fun K x qual st f fd) (S : FnScope N ps (defScope st)) (hn : ps.length ≤ N.length)
    (hb : ∀ (cdv : Value) (A : Around) (outer : List Env) (s : Shared) (H : Hp) (E : XK), RoomG k (A.deeper (envOfC qual (defScope st) s.heap.objs.size f cdv)) →
      SSs (cxOf (L2N.CX P w) P w K mg base N qual (defScope st) f cdv A outer s H E) (WD E) (defBody st) ms) : FnG P w K mg base (k + 1) f fd ps (spS K mg (mfunS ps.length N.length ms)) := by
  have len : ∀ vs H Q E, spS K mg (mfunS ps.length N.length ms) vs H Q E → vs.length = ps.length := by
    rintro vs H Q E ⟨F, p, xs, ws, ds, as, rfl, _, _, _, _, a, q⟩
    unfold mfunS at q
    by_cases hl : as.length + 1 = ps.length
    · rw [List.length_cons, dpAll_length a, hl]
    · rw [if_neg hl] at q
      exact q.elim
  refine okG Fn S len fun cdv A outer s H vs Q E hr h => ⟨_, hb cdv A outer s H E hr, ?_⟩
  have hvl := len vs H Q E h
  obtain ⟨F, p, xs, ws, ds, as, rfl, e, fp, hp, a0, a, q⟩ := h
  have hdl : as.length + 1 = ps.length := by rw [← dpAll_length a, ← hvl, List.length_cons]
  unfold mfunS at q
  rw [if_pos hdl] at q
  let c : Cc := ⟨F, H, fun i => if i = 0 then some p else none, fun _ => (xs, ds)⟩
  have cA : ∀ i r, c.A i = some r → i = 0 ∧ r = p := fun i r h => by
    have h' : (if i = 0 then some p else none) = some r := h
    by_cases hi : i = 0
    · rw [if_pos hi] at h'
      exact ⟨hi, (Option.some.inj h').symm⟩
    · rw [if_neg hi] at h'
      cases h'
  have tailg : ∀ {i : Nat} {y : SV}, (SV.io ds :: (as.map SV.dat ++ List.replicate (N.length - ps.length) SV.un))[i]? = some y → (i = 0 ∧ y = .io ds) ∨ (∃ j, i = j + 1 ∧ ((∃ d, as[j]? = some d ∧ y = .dat d) ∨ y = .un)) := fun {i y} h => by
    cases i with
    | zero =>
      simp only [List.getElem?_cons_zero, Option.some.injEq] at h
      exact .inl ⟨rfl, h.symm⟩
    | succ j =>
      simp only [List.getElem?_cons_succ] at h
      exact .inr ⟨j, rfl, dats_get h⟩
  refine ⟨c, F, .io ds :: (as.map .dat ++ List.replicate (N.length - ps.length) .un), ?_, ?_⟩
  · refine ⟨?_, .refl F, e, fun _ _ h _ => h, fun _ h1 h2 => absurd h2 h1, fun i r h => ?_, fun i r h => ?_, fun i d h => ?_, fun i d h => ?_, fun i j d1 d2 p _ h => ?_, fun i d h => ?_, fun i ea h => ?_⟩
    · rw [start_len (by omega), List.length_cons, List.length_append, List.length_map, List.length_replicate]
      omega
    · obtain ⟨rfl, rfl⟩ := cA i r h
      refine ⟨?_, fp, fun j hj => (cA j _ hj).1⟩
      show H r ≠ none
      rw [hp]
      simp
    · obtain ⟨rfl, rfl⟩ := cA i r h
      rw [hp]
      simp
    · rcases tailg h with ⟨_, h2⟩ | ⟨j, rfl, ⟨d', h1, h2⟩ | h2⟩
      · cases h2
      · cases h2
        obtain ⟨v, hv, sv⟩ := dpAll_getD a h1
        exact ⟨v, start_get (by simpa using hv), sv⟩
      · cases h2
    · rcases tailg h with ⟨_, h2⟩ | ⟨j, rfl, ⟨d', h1, h2⟩ | h2⟩ <;> cases h2
    · rcases tailg h with ⟨_, h2⟩ | ⟨j, rfl, ⟨d', h1, h2⟩ | h2⟩ <;> cases h2
    · rcases tailg h with ⟨rfl, h2⟩ | ⟨j, rfl, ⟨d', h1, h2⟩ | h2⟩
      · cases h2
        exact ⟨p, xs, rfl, start_get rfl, hp, a0, Ret.refl xs ds⟩
      · cases h2
      · cases h2
    · rcases tailg h with ⟨_, h2⟩ | ⟨j, rfl, ⟨d', h1, h2⟩ | h2⟩ <;> cases h2
  · have af : ∀ {F' H' : Hp} {σ' : L2.St} {s' : Sl} {es : List D}, Ok K c F' σ' H' s' → ioAt s' = some es → Aft K F H p xs ds F' H' es := fun {F' H' σ' s' es} k hs => by
      refine ⟨k.ff, k.fh, fun b o h ne => k.keep b o h fun i hi => ne (cA i b hi).2, fun b h1 h2 => k.new b h1 h2, ?_⟩
      unfold ioAt at hs
      split at hs
      · rename_i ds' hd
        cases hs
        rw [List.head?_eq_getElem?] at hd
        obtain ⟨r, ys, hA, _, hr, al, rt⟩ := k.io 0 es hd
        obtain ⟨_, rfl⟩ := cA 0 r hA
        exact ⟨ys, hr, al, rt⟩
      · cases hs
    cases hm : ms (.io ds :: (as.map .dat ++ List.replicate (N.length - ps.length) .un)) with
    | nx s' =>
      rw [hm] at q
      cases hi : ioAt s' with
      | none =>
        simp only [hi] at q
      | some es =>
        simp only [hi] at q
        exact fun σ' F' H' k _ => q .non F' H' (af k hi) .non
    | rt d s' =>
      rw [hm] at q
      cases hi : ioAt s' with
      | none =>
        simp only [hi] at q
      | some es =>
        simp only [hi] at q
        exact fun v σ' F' H' k _ b => q v F' H' (af k hi) b
    | exc y s' =>
      rw [hm] at q
      cases hi : ioAt s' with
      | none =>
        simp only [hi] at q
      | some es =>
        simp only [hi] at q
        exact fun a σ' F' H' ha k => q a F' H' ha (af k hi)
    | bk s' =>
      rw [hm] at q
      exact q.elim
    | ct s' =>
      rw [hm] at q
      exact q.elim
    | fail =>
      rw [hm] at q
      exact q.elim
end

/-! ### calls of defs -/
def mCallP (m : List D → FP) (ms : MA) : ME := fun s => bnd (ms s) fun ds s => match m ds with
  | .ok d => .ok d s
  | .exc x => .exc x s
  | .fail => .fail
/-- the first argument is the list in slot i -/
def mCallS (m : List D → List D → FS) (i : Nat) (ms : MA) : ME := fun s => match s[i]? with
  | some (.io _) => bnd (ms s) fun as s => (match s[i]? with
    | some (.io ds) => (match m ds as with
      | .ok d es => .ok d (s.set i (.io es))
      | .exc x es => .exc x (s.set i (.io es))
      | .fail => .fail)
    | _ => .fail)
  | some (.own _) => bnd (ms s) fun as s => (match s[i]? with
    | some (.own ds) => (match m ds as with
      | .ok d es => .ok d (s.set i (.own es))
      | .exc x es => .exc x (s.set i (.own es))
      | .fail => .fail)
    | _ => .fail)
  | _ => .fail
section
variable {K : PySem.W.Frag} {c : Cc} {F F' H H' : Hp} {σ : L2.St} {s : Sl} {i : Nat} {p : Addr} {xs : List V} {ds es : List D}
theorem upd_back (hk : ∀ b o, H b = some o → b ≠ p → H' b = some o) {ys : List V} (hp : H' p = some (.lst ys)) : upd (fun b => if b = p then H p else H' b) p (.lst ys) = H' := by
  funext b
  by_cases hb : b = p
  · subst hb
    rw [upd_same, hp]
  · rw [upd_ne hb, if_neg hb]
theorem grow_but (e : Ex F H) (fp : F p = none) (hff : Ex F F') (hfh : Ex F' H') (hk : ∀ b o, H b = some o → b ≠ p → H' b = some o) (hnw : ∀ b, F' b ≠ none → F b = none → H b = none) (hp : H p ≠ none) : Grow F H F' (fun b => if b = p then H p else H' b) := by
  have f'p : F' p = none := by
    cases h : F' p with
    | none => rfl
    | some o => exact absurd (hnw p (by rw [h]; simp) fp) hp
  refine ⟨hff, fun b o h => ?_, fun b o h => ?_, hnw⟩
  · by_cases hb : b = p
    · subst hb
      rw [f'p] at h
      cases h
    · show (if b = p then H p else H' b) = some o
      rw [if_neg hb]
      exact hfh b o h
  · show (if b = p then H p else H' b) = some o
    by_cases hb : b = p
    · subst hb
      rw [if_pos rfl]
      exact h
    · rw [if_neg hb]
      exact hk b o h hb
theorem Ok.aft_io (k : Ok K c F σ H s) (hs : s[i]? = some (SV.io ds)) (hA : c.A i = some p) (hp : H p = some (.lst xs)) (rt : Ret (c.X0 i) xs ds) (hff : Ex F F') (hfh : Ex F' H')
    (hk : ∀ b o, H b = some o → b ≠ p → H' b = some o) (hnw : ∀ b, F' b ≠ none → F b = none → H b = none) {ys : List V} (hp' : H' p = some (.lst ys)) (al : ShAll K F' ys es) (rt' : Ret (xs, ds) ys es) : Ok K c F' σ H' (s.set i (.io es)) := by
  have k1 := k.grow (grow_but k.fh (k.ioF hA) hff hfh hk hnw (by rw [hp]; simp))
  have k2 := k1.put_io hs hA al (rt.trans rt')
  rw [upd_back hk hp'] at k2
  exact k2
theorem Ok.aft_own (k : Ok K c F σ H s) (hs : s[i]? = some (SV.own ds)) (hσ : σ[i]? = some (some (V.ref p))) (hp : H p = some (.lst xs)) (fp : F p = none) (hff : Ex F F') (hfh : Ex F' H')
    (hk : ∀ b o, H b = some o → b ≠ p → H' b = some o) (hnw : ∀ b, F' b ≠ none → F b = none → H b = none) {ys : List V} (hp' : H' p = some (.lst ys)) (al : ShAll K F' ys es) : Ok K c F' σ H' (s.set i (.own es)) := by
  have k1 := k.grow (grow_but k.fh fp hff hfh hk hnw (by rw [hp]; simp))
  have k2 := k1.put_own hs hσ al
  rw [upd_back hk hp'] at k2
  exact k2
end
section
variable {X : Cx} {W : WX} {pos p : Pos} {e : Expr} {es : List Expr} {m : ME} {ms : MA} {x : Str} {f : Addr} {fd : FuncData} {ps : List Str} {k : Nat}
theorem se_callP {mf : List D → FP} (Fn : FnG X.prog X.w X.K X.mg X.base k f fd ps (spP X.K X.mg mf)) (hr : RoomG k X.A) (tk : L2N.Takes X W) (hg : Gl X x) (hm : X.mg x = some (.ref f)) (hk : PySem.W.keepIn X.K (.ref f) = true) (hb : Binds X.K fd ps [])
    (ha : SA X W (e :: es) ms) (hdb : (x == ("__debug__" : Str)) = false := by decide) (he : starEach (e :: es) X.env = (false, eval e X.env) :: starEach es X.env := by rfl) (hpl : (backTo pos (starEach es X.env)).any (·.1) = false := by rfl) :
    SE X W (.Call (.Name x p) (e :: es) [] pos) (mCallP mf ms) :=
  PE.imp (pe_callG (E := WE W) Fn hr hg hm hk hb (fun σ => L2N.passAt tk σ) ha hdb he hpl) fun σ H Q ⟨c, F, s, k, q⟩ => ⟨c, F, s, k, rdA_bnd q fun ds s1 vs F1 H1 q1 k1 e1 b1 => ⟨F1, ds, k1.fh, b1, by
    cases hd : mf ds with
    | ok d =>
      rw [hd] at q1
      exact fun v F' H' gr b => q1 v F' H' (k1.grow gr) (e1.trans gr.ff) b
    | exc y =>
      rw [hd] at q1
      exact fun a F' H' ha gr => q1 a F' H' ha (k1.grow gr)
    | fail =>
      rw [hd] at q1
      exact q1.elim⟩⟩
theorem se_callS {mf : List D → List D → FS} {i : Nat} (Fn : FnG X.prog X.w X.K X.mg X.base k f fd ps (spS X.K X.mg mf)) (hr : RoomG k X.A) (tk : L2N.Takes X W) (hg : Gl X x) (hm : X.mg x = some (.ref f)) (hk : PySem.W.keepIn X.K (.ref f) = true) (hb : Binds X.K fd ps [])
    (hv : PE X e (tVar i)) (ha : SA X W es ms) (hdb : (x == ("__debug__" : Str)) = false := by decide) (he : starEach (e :: es) X.env = (false, eval e X.env) :: starEach es X.env := by rfl) (hpl : (backTo pos (starEach es X.env)).any (·.1) = false := by rfl) :
    SE X W (.Call (.Name x p) (e :: es) [] pos) (mCallS mf i ms) :=
  PE.imp (pe_callG (E := WE W) Fn hr hg hm hk hb (fun σ => L2N.passAt tk σ) (pa_cons hv ha he) hdb he hpl) fun σ H Q ⟨c, F, s, k, q⟩ => by
    unfold mCallS at q
    cases h0 : s[i]? with
    | none =>
      rw [h0] at q
      exact q.elim
    | some z =>
      rw [h0] at q
      cases z with
      | io ds0 =>
        obtain ⟨p0, xs0, hA0, a0, _⟩ := k.io i ds0 h0
        refine ⟨_, a0, c, F, s, k, rdA_bnd q fun as s1 vs F1 H1 q1 k1 e1 b1 => ?_⟩
        cases h1 : s1[i]? with
        | none =>
          rw [h1] at q1
          exact q1.elim
        | some y =>
          rw [h1] at q1
          cases y with
          | io ds =>
            obtain ⟨p1, xs, hA, a1, hp, al, rt⟩ := k1.io i ds h1
            rw [a0] at a1
            cases a1
            refine ⟨F1, _, xs, vs, ds, as, rfl, k1.fh, k1.ioF hA, hp, al, b1, ?_⟩
            have q2 : RdE X.K X.mg c W σ F (match mf ds as with
              | .ok d es => .ok d (s1.set i (.io es))
              | .exc x es => .exc x (s1.set i (.io es))
              | .fail => .fail) Q := q1
            cases hd : mf ds as with
            | ok d es =>
              rw [hd] at q2
              rintro v F' H' ⟨h1', h2', h3', h4', ys, h5', h6', h7'⟩ b
              exact q2 v F' H' (k1.aft_io h1 hA hp rt h1' h2' h3' h4' h5' h6' h7') (e1.trans h1') b
            | exc y es =>
              rw [hd] at q2
              rintro a F' H' ha ⟨h1', h2', h3', h4', ys, h5', h6', h7'⟩
              exact q2 a F' H' ha (k1.aft_io h1 hA hp rt h1' h2' h3' h4' h5' h6' h7')
            | fail =>
              rw [hd] at q2
              exact q2.elim
          | _ => exact q1.elim
      | own ds0 =>
        obtain ⟨p0, xs0, a0, _⟩ := k.own i ds0 h0
        refine ⟨_, a0, c, F, s, k, rdA_bnd q fun as s1 vs F1 H1 q1 k1 e1 b1 => ?_⟩
        cases h1 : s1[i]? with
        | none =>
          rw [h1] at q1
          exact q1.elim
        | some y =>
          rw [h1] at q1
          cases y with
          | own ds =>
            obtain ⟨p1, xs, a1, _, fp, hp, al⟩ := k1.own i ds h1
            rw [a0] at a1
            cases a1
            refine ⟨F1, _, xs, vs, ds, as, rfl, k1.fh, fp, hp, al, b1, ?_⟩
            have q2 : RdE X.K X.mg c W σ F (match mf ds as with
              | .ok d es => .ok d (s1.set i (.own es))
              | .exc x es => .exc x (s1.set i (.own es))
              | .fail => .fail) Q := q1
            cases hd : mf ds as with
            | ok d es =>
              rw [hd] at q2
              rintro v F' H' ⟨h1', h2', h3', h4', ys, h5', h6', h7'⟩ b
              exact q2 v F' H' (k1.aft_own h1 a0 hp fp h1' h2' h3' h4' h5' h6') (e1.trans h1') b
            | exc y es =>
              rw [hd] at q2
              rintro a F' H' ha ⟨h1', h2', h3', h4', ys, h5', h6', h7'⟩
              exact q2 a F' H' ha (k1.aft_own h1 a0 hp fp h1' h2' h3' h4' h5' h6')
            | fail =>
              rw [hd] at q2
              exact q2.elim
          | _ => exact q1.elim
      | _ => exact q.elim
end

/-! ### calls with lists of one's own that are just looked at -/
/-- the data with the lists of one's own that the call looks at -/
def Lend (c : Cc) (F H : Hp) (σ : L2.St) (s : Sl) (Fb : Hp) : Prop := Ex F Fb ∧ Ex Fb H ∧ ∀ b, Fb b ≠ none → F b = none → ∃ (i : Nat) (es : List D), s[i]? = some (SV.own es) ∧ σ[i]? = some (some (V.ref b))
def RdAb (K : PySem.W.Frag) (mg : Str → Option Value) (c : Cc) (W : WX) (σ : L2.St) (F : Hp) (r : Rs (List D)) (Q : List V → Hp → Prop) : Prop := match r with
  | .ok ds s => ∀ vs F' H' Fb, Ok K c F' σ H' s → Ex F F' → Lend c F' H' σ s Fb → ShAll K Fb vs ds → Q vs H'
  | .exc x s => ∀ a F' H', mg x = some (.ref a) → Ok K c F' σ H' s → W (.ref a) none σ H'
  | .fail => False
def SAb (X : Cx) (W : WX) (es : List Expr) (m : MA) : Prop := PA X es (fun σ H Q => ∃ c F s, Ok X.K c F σ H s ∧ RdAb X.K X.mg c W σ F (m s) Q)
def mConsV (i : Nat) (ms : MA) : MA := fun s => match s[i]? with
  | some (.own _) => bnd (ms s) fun ds s => (match s[i]? with
    | some (.own es) => .ok (.list es :: ds) s
    | _ => .fail)
  | _ => .fail
section
variable {X : Cx} {W : WX} {pos p : Pos} {e : Expr} {es : List Expr} {m : ME} {ms : MA} {x : Str} {f : Addr} {fd : FuncData} {ps : List Str} {k : Nat}
theorem sab_nil : SAb X W [] mNil := PA.imp pa_nil fun σ H Q ⟨c, F, s, k, q⟩ => q [] F H F k (.refl F) ⟨.refl F, k.fh, fun _ a b => absurd b a⟩ .nil
theorem sab_cons (h : SE X W e m) (hr : SAb X W es ms) (hs : starEach (e :: es) X.env = (false, eval e X.env) :: starEach es X.env := by rfl) : SAb X W (e :: es) (mCons m ms) :=
  PA.imp (pa_cons h hr hs) fun σ H Q ⟨c, F, s, k, q⟩ => ⟨c, F, s, k, by
    unfold mCons at q
    cases hm : m s with
    | ok d s1 =>
      rw [hm] at q
      intro v F1 H1 k1 e1 b1
      refine ⟨c, F1, s1, k1, ?_⟩
      have q' : RdAb X.K X.mg c W σ F (bnd (ms s1) fun ds s => .ok (d :: ds) s) Q := q
      cases hms : ms s1 with
      | ok ds s2 =>
        rw [hms] at q'
        exact fun vs F2 H2 Fb k2 e2 ln b2 => q' (v :: vs) F2 H2 Fb k2 (e1.trans e2) ln (.cons (dp_mono (e2.trans ln.1) b1) b2)
      | exc y s2 =>
        rw [hms] at q'
        exact q'
      | fail =>
        rw [hms] at q'
        exact q'
    | exc y s1 =>
      rw [hm] at q
      exact q
    | fail =>
      rw [hm] at q
      exact q⟩
theorem sab_consV {i : Nat} (h : PE X e (tVar i)) (hr : SAb X W es ms) (hs : starEach (e :: es) X.env = (false, eval e X.env) :: starEach es X.env := by rfl) : SAb X W (e :: es) (mConsV i ms) :=
  PA.imp (pa_cons h hr hs) fun σ H Q ⟨c, F, s, k, q⟩ => by
    unfold mConsV at q
    cases h0 : s[i]? with
    | none =>
      rw [h0] at q
      exact q.elim
    | some z =>
      rw [h0] at q
      cases z with
      | own ds0 =>
        obtain ⟨p0, xs0, a0, _⟩ := k.own i ds0 h0
        refine ⟨_, a0, c, F, s, k, ?_⟩
        have q' : RdAb X.K X.mg c W σ F (bnd (ms s) fun ds s => (match s[i]? with
          | some (.own es) => .ok (.list es :: ds) s
          | _ => .fail)) Q := q
        cases hms : ms s with
        | ok ds s2 =>
          rw [hms] at q'
          intro vs F2 H2 Fb k2 e2 ln b2
          have q2 : RdAb X.K X.mg c W σ F (match s2[i]? with
            | some (.own es) => .ok (.list es :: ds) s2
            | _ => .fail) Q := q'
          cases h1 : s2[i]? with
          | none =>
            rw [h1] at q2
            exact q2.elim
          | some y =>
            rw [h1] at q2
            cases y with
            | own es =>
              obtain ⟨p1, xs, a1, _, fp, hp, al⟩ := k2.own i es h1
              rw [a0] at a1
              cases a1
              cases hb : Fb p0 with
              | some o =>
                have ho : o = .lst xs := by
                  have z := ln.2.1 _ _ hb
                  rw [hp] at z
                  exact (Option.some.inj z).symm
                subst ho
                exact q2 _ F2 H2 Fb k2 e2 ln (.cons (.lst (.inl (.inl hb)) (dpAll_mono ln.1 al)) b2)
              | none =>
                refine q2 _ F2 H2 (upd Fb p0 (.lst xs)) k2 e2 ⟨ln.1.trans (.new hb), fun b o h => ?_, fun b h1' h2' => ?_⟩ (.cons (.lst (.inl (.inl upd_same)) (dpAll_mono (ln.1.trans (.new hb)) al)) (dpAll_mono (.new hb) b2))
                · by_cases hbp : b = p0
                  · subst hbp
                    rw [upd_same] at h
                    rw [hp]
                    exact h
                  · rw [upd_ne hbp] at h
                    exact ln.2.1 b o h
                · by_cases hbp : b = p0
                  · subst hbp
                    exact ⟨i, es, h1, a0⟩
                  · rw [upd_ne hbp] at h1'
                    exact ln.2.2 b h1' h2'
            | _ => exact q2.elim
        | exc y s2 =>
          rw [hms] at q'
          exact q'
        | fail =>
          rw [hms] at q'
          exact q'
      | _ => exact q.elim
/-- the same calls, the answer flat -/
def mCallPb (m : List D → FP) (ms : MA) : ME := fun s => bnd (ms s) fun ds s => match m ds with
  | .ok d => if flatD d = true then .ok d s else .fail
  | .exc x => .exc x s
  | .fail => .fail
def mCallSb (m : List D → List D → FS) (i : Nat) (ms : MA) : ME := fun s => match s[i]? with
  | some (.io _) => bnd (ms s) fun as s => (match s[i]? with
    | some (.io ds) => (match m ds as with
      | .ok d es => if flatD d = true then .ok d (s.set i (.io es)) else .fail
      | .exc x es => .exc x (s.set i (.io es))
      | .fail => .fail)
    | _ => .fail)
  | _ => .fail
theorem rdAb_bnd {K : PySem.W.Frag} {mg : Str → Option Value} {c : Cc} {σ : L2.St} {F : Hp} {r : Rs (List D)} {k : List D → Sl → Rs D} {Q : VK} {Q' : List V → Hp → Prop} (h : RdE K mg c W σ F (bnd r k) Q)
    (f : ∀ d s v F' H' Fb, RdE K mg c W σ F (k d s) Q → Ok K c F' σ H' s → Ex F F' → Lend c F' H' σ s Fb → ShAll K Fb v d → Q' v H') : RdAb K mg c W σ F r Q' := by
  cases r with
  | ok d s => exact fun v F' H' Fb a b g z => f d s v F' H' Fb h a b g z
  | exc x s => exact h
  | fail => exact h
theorem ret_flat {K : PySem.W.Frag} {F F2 : Hp} : ∀ {ys : List V} {es : List D}, (∀ (k : Nat) (v : V) (d : D), ys[k]? = some v → es[k]? = some d → flatD d = true ∨ Sh K F v d) → ShAll K F2 ys es → ShAll K F ys es := by
  intro ys
  induction ys with
  | nil =>
    intro es _ h
    cases h
    exact .nil
  | cons v ys ih =>
    intro es h g
    cases g with
    | cons a t =>
      refine .cons ?_ (ih (fun k v d h1 h2 => h (k + 1) v d (by simpa using h1) (by simpa using h2)) t)
      rcases h 0 v _ rfl rfl with f | f
      · exact dp_any a f
      · exact f
theorem se_callPb {mf : List D → FP} (Fn : FnG X.prog X.w X.K X.mg X.base k f fd ps (spP X.K X.mg mf)) (hr : RoomG k X.A) (tk : L2N.Takes X W) (hg : Gl X x) (hm : X.mg x = some (.ref f)) (hk : PySem.W.keepIn X.K (.ref f) = true) (hb : Binds X.K fd ps [])
    (ha : SAb X W (e :: es) ms) (hdb : (x == ("__debug__" : Str)) = false := by decide) (he : starEach (e :: es) X.env = (false, eval e X.env) :: starEach es X.env := by rfl) (hpl : (backTo pos (starEach es X.env)).any (·.1) = false := by rfl) :
    SE X W (.Call (.Name x p) (e :: es) [] pos) (mCallPb mf ms) :=
  PE.imp (pe_callG (E := WE W) Fn hr hg hm hk hb (fun σ => L2N.passAt tk σ) ha hdb he hpl) fun σ H Q ⟨c, F, s, k, q⟩ => ⟨c, F, s, k, rdAb_bnd q fun ds s1 vs F1 H1 Fb q1 k1 e1 ln b1 => ⟨Fb, ds, ln.2.1, b1, by
    cases hd : mf ds with
    | ok d =>
      rw [hd] at q1
      by_cases hf : flatD d = true
      · have q2 : RdE X.K X.mg c W σ F (if flatD d = true then .ok d s1 else .fail) Q := q1
        rw [if_pos hf] at q2
        exact fun v F' H' gr b => q2 v F1 H' (k1.grow ⟨.refl F1, (k1.fh.trans gr.hh), gr.hh, fun _ a b => absurd b a⟩) e1 (dp_any b hf)
      · have q2 : RdE X.K X.mg c W σ F (if flatD d = true then .ok d s1 else .fail) Q := q1
        rw [if_neg hf] at q2
        exact q2.elim
    | exc y =>
      rw [hd] at q1
      exact fun a F' H' ha gr => q1 a F1 H' ha (k1.grow ⟨.refl F1, (k1.fh.trans gr.hh), gr.hh, fun _ a b => absurd b a⟩)
    | fail =>
      rw [hd] at q1
      exact q1.elim⟩⟩
theorem se_callSb {mf : List D → List D → FS} {i : Nat} (Fn : FnG X.prog X.w X.K X.mg X.base k f fd ps (spS X.K X.mg mf)) (hr : RoomG k X.A) (tk : L2N.Takes X W) (hg : Gl X x) (hm : X.mg x = some (.ref f)) (hk : PySem.W.keepIn X.K (.ref f) = true) (hb : Binds X.K fd ps [])
    (hv : PE X e (tVar i)) (ha : SAb X W es ms) (hdb : (x == ("__debug__" : Str)) = false := by decide) (he : starEach (e :: es) X.env = (false, eval e X.env) :: starEach es X.env := by rfl) (hpl : (backTo pos (starEach es X.env)).any (·.1) = false := by rfl) :
    SE X W (.Call (.Name x p) (e :: es) [] pos) (mCallSb mf i ms) :=
  PE.imp (pe_callG (E := WE W) Fn hr hg hm hk hb (fun σ => L2N.passAt tk σ) (pa_cons hv ha he) hdb he hpl) fun σ H Q ⟨c, F, s, k, q⟩ => by
    unfold mCallSb at q
    cases h0 : s[i]? with
    | none =>
      rw [h0] at q
      exact q.elim
    | some z =>
      rw [h0] at q
      cases z with
      | io ds0 =>
        obtain ⟨p0, xs0, hA0, a0, _⟩ := k.io i ds0 h0
        refine ⟨_, a0, c, F, s, k, rdAb_bnd q fun as s1 vs F1 H1 Fb q1 k1 e1 ln b1 => ?_⟩
        cases h1 : s1[i]? with
        | none =>
          rw [h1] at q1
          exact q1.elim
        | some y =>
          rw [h1] at q1
          cases y with
          | io ds =>
            obtain ⟨p1, xs, hA, a1, hp, al, rt⟩ := k1.io i ds h1
            rw [a0] at a1
            cases a1
            have fb : Fb p0 = none := by
              cases hfb : Fb p0 with
              | none => rfl
              | some o =>
                obtain ⟨j, es', hj, hσ⟩ := ln.2.2 p0 (by rw [hfb]; simp) (k1.ioF hA)
                obtain ⟨r, _, a2, h02, _⟩ := k1.own j es' hj
                rw [hσ] at a2
                cases a2
                exact absurd h02 (k1.st i _ hA).1
            refine ⟨Fb, _, xs, vs, ds, as, rfl, ln.2.1, fb, hp, dpAll_mono ln.1 al, b1, ?_⟩
            have q2 : RdE X.K X.mg c W σ F (match mf ds as with
              | .ok d es => if flatD d = true then .ok d (s1.set i (.io es)) else .fail
              | .exc x es => .exc x (s1.set i (.io es))
              | .fail => .fail) Q := q1
            have aft : ∀ {F' H' : Hp} {es : List D}, Aft X.K Fb H1 p0 xs ds F' H' es → Ok X.K c F1 σ H' (s1.set i (.io es)) := by
              rintro F' H' es ⟨h1', h2', h3', h4', ys, h5', h6', h7'⟩
              have al' : ShAll X.K F1 ys es := ret_flat (fun k v d hy he => by
                rcases h7' k v d hy he with f | ⟨f1, f2⟩
                · exact .inl f
                · obtain ⟨d', hd', sd⟩ := dpAll_get al f1
                  rw [f2] at hd'
                  cases hd'
                  exact .inr sd) h6'
              refine k1.aft_io h1 hA hp rt (.refl F1) (fun b o h => ?_) h3' (fun _ a b => absurd b a) h5' al' h7'
              by_cases hb : b = p0
              · subst hb
                rw [k1.ioF hA] at h
                cases h
              · exact h3' b o (k1.fh b o h) hb
            cases hd : mf ds as with
            | ok d es =>
              rw [hd] at q2
              by_cases hf : flatD d = true
              · have q3 : RdE X.K X.mg c W σ F (if flatD d = true then .ok d (s1.set i (.io es)) else .fail) Q := q2
                rw [if_pos hf] at q3
                exact fun v F' H' af b => q3 v F1 H' (aft af) e1 (dp_any b hf)
              · have q3 : RdE X.K X.mg c W σ F (if flatD d = true then .ok d (s1.set i (.io es)) else .fail) Q := q2
                rw [if_neg hf] at q3
                exact q3.elim
            | exc y es =>
              rw [hd] at q2
              exact fun a F' H' ha af => q2 a F1 H' ha (aft af)
            | fail =>
              rw [hd] at q2
              exact q2.elim
          | _ => exact q1.elim
      | _ => exact q.elim
end
end DV

/-! DV, part F: statements, what is walked, for, while, comprehensions. -/
namespace DV
open PySem PySem.Spec PyProof.Rows L2

def toS {α : Type} (r : Rs α) (k : α → Sl → Ot) : Ot := match r with
  | .ok a s => k a s
  | .exc x s => .exc x s
  | .fail => .fail
@[simp] theorem toS_ok {α : Type} (a : α) (s : Sl) (k : α → Sl → Ot) : toS (.ok a s) k = k a s := rfl
@[simp] theorem toS_exc {α : Type} (x : Str) (s : Sl) (k : α → Sl → Ot) : toS (.exc x s) k = .exc x s := rfl
@[simp] theorem toS_fail {α : Type} (k : α → Sl → Ot) : toS (.fail : Rs α) k = .fail := rfl
section
variable {K : PySem.W.Frag} {mg : Str → Option Value} {c : Cc} {W : WX} {σ : L2.St} {F : Hp} {E : Ends}
theorem rdE_toS {r : Rs D} {k : D → Sl → Ot} {Q' : VK} (h : RdS K mg c W F (toS r k) E) (f : ∀ d s v F' H', RdS K mg c W F (k d s) E → Ok K c F' σ H' s → Ex F F' → Sh K F' v d → Q' v H') : RdE K mg c W σ F r Q' := by
  cases r with
  | ok d s => exact fun v F' H' a b g => f d s v F' H' h a b g
  | exc x s => exact fun a F' H' ha k => h a σ F' H' ha k
  | fail => exact h
theorem rdB_toS {r : Rs Bool} {k : Bool → Sl → Ot} {Q' : Bool → Hp → Prop} (h : RdS K mg c W F (toS r k) E) (f : ∀ d s F' H', RdS K mg c W F (k d s) E → Ok K c F' σ H' s → Ex F F' → Q' d H') : RdB K mg c W σ F r Q' := by
  cases r with
  | ok d s => exact fun F' H' a b => f d s F' H' h a b
  | exc x s => exact fun a F' H' ha k => h a σ F' H' ha k
  | fail => exact h
theorem rdO_toS {r : Rs (List D)} {k : List D → Sl → Ot} {Q' : VK} (h : RdS K mg c W F (toS r k) E) (f : ∀ ds s p xs F' H', RdS K mg c W F (k ds s) E → Ok K c F' σ H' s → Ex F F' → Fresh K c F' σ H' s p xs ds → Q' (.ref p) H') : RdO K mg c W σ F r Q' := by
  cases r with
  | ok d s => exact fun p xs F' H' a b g => f d s p xs F' H' h a b g
  | exc x s => exact fun a F' H' ha k => h a σ F' H' ha k
  | fail => exact h
end

/-! ### small statements -/
def mSeq (a b : MS) : MS := fun s => match a s with
  | .nx s => b s
  | o => o
def mNext : MS := fun s => .nx s
def mBreak : MS := fun s => .bk s
def mCont : MS := fun s => .ct s
def mRet (m : ME) : MS := fun s => toS (m s) fun d s => .rt d s
def mRetN : MS := fun s => .rt .none s
def mSet (i : Nat) (m : ME) : MS := fun s => toS (m s) fun d s => .nx (s.set i (.dat d))
def mSetO (i : Nat) (m : MA) : MS := fun s => toS (m s) fun ds s => .nx (s.set i (.own ds))
def mDrop (m : ME) : MS := fun s => toS (m s) fun _ s => .nx s
def mIf (t : MB) (a b : MS) : MS := fun s => toS (t s) fun b' s => match b' with
  | true => a s
  | false => b s
section
variable {X : Cx} {W : WX} {pos : Pos} {e : Expr} {st : Stmt} {rest : List Stmt} {m : ME} {a b : MS}
theorem sss_nil : SSs X W [] mNext := PSs.imp pss_nil fun E σ H ⟨c, F, s, k, q⟩ => q σ F H k (.refl F)
theorem sss_cons (h : SS X W st a) (hr : SSs X W rest b) : SSs X W (st :: rest) (mSeq a b) := PSs.imp (pss_cons h hr) fun E σ H ⟨c, F, s, k, q⟩ => ⟨c, F, s, k, by
  have q' : RdS X.K X.mg c W F (match a s with
    | .nx s => b s
    | o => o) E := q
  cases hm : a s with
  | nx s1 =>
    rw [hm] at q'
    exact fun σ' F' H' k' e' => ⟨c, F', s1, k', rdS_mono q' e'⟩
  | _ =>
    rw [hm] at q'
    exact q'⟩
theorem sss_one (h : SS X W st a) : SSs X W [st] a := pss_one h
theorem ss_pass : SS X W (.Pass pos) mNext := PS.imp ps_pass fun E σ H ⟨c, F, s, k, q⟩ => q σ F H k (.refl F)
theorem ss_break : SS X W (.Break pos) mBreak := PS.imp ps_break fun E σ H ⟨c, F, s, k, q⟩ => q σ F H k (.refl F)
theorem ss_cont : SS X W (.Continue pos) mCont := PS.imp ps_continue fun E σ H ⟨c, F, s, k, q⟩ => q σ F H k (.refl F)
theorem ss_ret (h : SE X W e m) : SS X W (.Return (some e) pos) (mRet m) := PS.imp (ps_ret h) fun E σ H ⟨c, F, s, k, q⟩ => ⟨c, F, s, k, rdE_toS q fun d s1 v F1 H1 q1 k1 e1 b1 => q1 v σ F1 H1 k1 e1 b1⟩
theorem ss_retN : SS X W (.Return none pos) mRetN := PS.imp ps_retN fun E σ H ⟨c, F, s, k, q⟩ => q .non σ F H k (.refl F) .non
theorem ss_expr (h : SE X W e m) (hs : swapsWith e none pos.line X.env = pure false := by rfl) : SS X W (.Expr e pos) (mDrop m) := PS.imp (ps_expr h hs) fun E σ H ⟨c, F, s, k, q⟩ => ⟨c, F, s, k, rdE_toS q fun d s1 v F1 H1 q1 k1 e1 b1 => q1 σ F1 H1 k1 e1⟩
/-- a statement name = value by its raw reading -/
theorem ss_setR {i : Nat} {te : TE} (h : PS X st (tAsg te (gName i))) (hr : ∀ σ H Q, tE X W m σ H Q → te σ H Q) : SS X W st (mSet i m) := PS.imp h fun E σ H ⟨c, F, s, k, q⟩ => hr σ H _ ⟨c, F, s, k, rdE_toS q fun d s1 v F1 H1 q1 k1 e1 b1 => q1 _ F1 H1 (k1.set_dat b1) e1⟩
theorem ss_setOR {i : Nat} {te : TE} {m : MA} (h : PS X st (tAsg te (gName i))) (hr : ∀ σ H Q, tO X W m σ H Q → te σ H Q) : SS X W st (mSetO i m) := PS.imp h fun E σ H ⟨c, F, s, k, q⟩ => hr σ H _ ⟨c, F, s, k, rdO_toS q fun ds s1 p xs F1 H1 q1 k1 e1 fr => q1 _ F1 H1 (k1.set_own fr) e1⟩
theorem ss_set {i : Nat} {x : Str} {pos' : Pos} (hN : X.N.Nodup) (hi : X.N[i]? = some x) (hx : Loc X.env.scope x) (he : SE X W e m) (hs : swapsWith e (some (.Name x pos')) pos.line X.env = pure false := by rfl)
    (hf : X.fn x = true ∨ X.env.scope.names.lookup x = some .local := by first | exact .inl rfl | exact .inr rfl | assumption) : SS X W (.Assign [.Name x pos'] e pos) (mSet i m) :=
  ss_setR (ps_set hN hi hx he hs hf) fun _ _ _ z => z
theorem ss_setO {i : Nat} {x : Str} {pos' : Pos} {m : MA} (hN : X.N.Nodup) (hi : X.N[i]? = some x) (hx : Loc X.env.scope x) (he : SO X W e m) (hs : swapsWith e (some (.Name x pos')) pos.line X.env = pure false := by rfl)
    (hf : X.fn x = true ∨ X.env.scope.names.lookup x = some .local := by first | exact .inl rfl | exact .inr rfl | assumption) : SS X W (.Assign [.Name x pos'] e pos) (mSetO i m) :=
  ss_setOR (ps_set hN hi hx he hs hf) fun _ _ _ z => z
theorem ss_if {t : MB} {c : Expr} {sa sb : List Stmt} (hc : ST X W c t) (ha : SSs X W sa a) (hb : SSs X W sb b) : SS X W (.If c sa sb pos) (mIf t a b) := PS.imp (ps_if hc ha hb) fun E σ H ⟨c, F, s, k, q⟩ => ⟨c, F, s, k, rdB_toS q fun d s1 F1 H1 q1 k1 e1 => by
  cases d with
  | true => exact ⟨c, F1, s1, k1, rdS_mono q1 e1⟩
  | false => exact ⟨c, F1, s1, k1, rdS_mono q1 e1⟩⟩
end

/-! ### targets -/
/-- a value as it comes from an iterator: data, or a tuple just made of data -/
def YSh (K : PySem.W.Frag) (F H : Hp) (v : V) (d : D) : Prop := Sh K F v d ∨ ∃ a xs ds, v = .ref a ∧ d = .tuple ds ∧ SqT K H a xs ∧ ShAll K F xs ds
abbrev MG := D → Sl → Option Sl
abbrev MGs := List D → Sl → Option Sl
/-- what a target's slots leave -/
def Off (vs : List Nat) (σ σ' : L2.St) : Prop := σ'.length = σ.length ∧ ∀ j, j ∉ vs → σ'[j]? = σ[j]?
theorem Off.refl (σ : L2.St) (vs : List Nat) : Off vs σ σ := ⟨rfl, fun _ _ => rfl⟩
theorem Off.trans {vs : List Nat} {a b c : L2.St} (h : Off vs a b) (g : Off vs b c) : Off vs a c := ⟨g.1.trans h.1, fun j hj => (g.2 j hj).trans (h.2 j hj)⟩
theorem Off.set {vs : List Nat} {i : Nat} (hi : i ∈ vs) (σ : L2.St) (x : Option V) : Off vs σ (σ.set i x) := ⟨List.length_set, fun j hj => List.getElem?_set_ne fun e => hj (by rw [← e]; exact hi)⟩
def RdG (X : Cx) (vs : List Nat) (σ : L2.St) (H : Hp) (Q : L2.St → Hp → Prop) (P : Cc → Hp → Prop) (go : Sl → Option Sl) : Prop :=
  ∃ c F s s', Ok X.K c F σ H s ∧ P c F ∧ go s = some s' ∧ ∀ σ', Ok X.K c F σ' H s' → Off vs σ σ' → Q σ' H
def SG (X : Cx) (vs : List Nat) (tg : Expr) (g : MG) : Prop := PG X tg fun v σ H Q => ∃ d, RdG X vs σ H Q (fun _ F => Sh X.K F v d) (g d)
def SGT (X : Cx) (vs : List Nat) (tg : Expr) (g : MG) : Prop := PG X tg fun v σ H Q => ∃ d, RdG X vs σ H Q (fun _ F => YSh X.K F H v d) (g d)
def SGs (X : Cx) (vs : List Nat) (tgs : List Expr) (g : MGs) : Prop := PGs X tgs fun ws σ H Q => ∃ ds, RdG X vs σ H Q (fun _ F => ShAll X.K F ws ds) (g ds)
def gN (i : Nat) : MG := fun d s => some (s.set i (.dat d))
def gsN : MGs := fun ds s => match ds with
  | [] => some s
  | _ => none
def gsC (g : MG) (gs : MGs) : MGs := fun ds s => match ds with
  | d :: ds => (g d s).bind fun s => gs ds s
  | [] => none
def gT (n : Nat) (gs : MGs) : MG := fun d s => match d with
  | .tuple ds => if ds.length = n then gs ds s else none
  | _ => none
section
variable {X : Cx} {W : WX} {pos : Pos} {e : Expr} {es : List Expr} {vs : List Nat} {g : MG} {gs : MGs}
theorem PG.imp {t t' : TG} (h : PG X e t) (i : ∀ v σ H Q, t' v σ H Q → t v σ H Q) : PG X e t' := ⟨fun pins s σ H v u Q I r q => h.run pins s σ H v u Q I r (i v σ H Q q)⟩
theorem PGs.imp {t t' : TGs} (h : PGs X es t) (i : ∀ v σ H Q, t' v σ H Q → t v σ H Q) : PGs X es t' := ⟨fun pins s σ H v u Q I r q => h.run pins s σ H v u Q I r (i v σ H Q q)⟩
theorem sg_name {i : Nat} {x : Str} (hN : X.N.Nodup) (hi : X.N[i]? = some x) (hx : Loc X.env.scope x) (hv : i ∈ vs) (hf : X.fn x = true ∨ X.env.scope.names.lookup x = some .local := by first | exact .inl rfl | exact .inr rfl | assumption) : SG X vs (.Name x pos) (gN i) :=
  PG.imp (pg_name hN hi hx hf) fun v σ H Q ⟨d, c, F, s, s', k, b, hs, q⟩ => by
    cases hs
    exact q _ (k.set_dat b) (Off.set hv σ _)
theorem sgs_nil : SGs X vs [] gsN := PGs.imp pgs_nil fun ws σ H Q ⟨ds, c, F, s, s', k, b, hs, q⟩ => by
  cases b with
  | nil =>
    cases hs
    exact ⟨rfl, q σ k (Off.refl σ vs)⟩
  | cons _ _ => cases hs
theorem sgs_cons (h : SG X vs e g) (hr : SGs X vs es gs)
    (hs : (assignEach (e :: es) X.env).map (·.2) = assign e X.env :: (assignEach es X.env).map (·.2) := by rfl) : SGs X vs (e :: es) (gsC g gs) :=
  PGs.imp (pgs_cons h hr hs) fun ws σ H Q ⟨ds, c, F, s, s', k, b, hs, q⟩ => by
    cases b with
    | nil => cases hs
    | @cons v vr d dr b1 b2 =>
      have hs' : (g d s).bind (fun s => gs dr s) = some s' := hs
      cases h1 : g d s with
      | none =>
        rw [h1] at hs'
        cases hs'
      | some s1 =>
        rw [h1] at hs'
        exact ⟨v, vr, rfl, d, c, F, s, s1, k, b1, h1, fun σ1 k1 o1 => ⟨dr, c, F, s1, s', k1, b2, hs', fun σ2 k2 o2 => q σ2 k2 (o1.trans o2)⟩⟩
theorem sgt_tup {n k : Nat} (hc : X.calm = true) (h : SGs X vs es gs) (hn : (assignEach es X.env).length = n := by rfl) (hst : (assignEach es X.env).findIdx? (·.1) = none := by rfl) : SGT X vs (.Tuple es k pos) (gT n gs) :=
  PG.imp (pg_tup hc h hn hst) fun v σ H Q ⟨d, c, F, s, s', k, b, hs, q⟩ => by
    have main : ∀ a xs ds, v = .ref a → d = .tuple ds → SqT X.K H a xs → ShAll X.K F xs ds → gTup X.K n (fun ws σ H Q => ∃ ds, RdG X vs σ H Q (fun _ F => ShAll X.K F ws ds) (gs ds)) v σ H Q := fun a xs ds ev ed hq ha => by
      subst ev ed
      have hs' : (if ds.length = n then gs ds s else none) = some s' := hs
      by_cases hl : ds.length = n
      · rw [if_pos hl] at hs'
        exact ⟨a, xs, rfl, hq, by rw [dpAll_length ha, hl], ds, c, F, s, s', k, ha, hs', q⟩
      · rw [if_neg hl] at hs'
        cases hs'
    rcases b with b | ⟨a, xs, ds, ev, ed, hq, ha⟩
    · cases b with
      | tup hz ha => exact main _ _ _ rfl rfl (sqT_mono k.fh hz.sq) ha
      | _ => cases hs
    · exact main a xs ds ev ed hq ha
theorem sg_of (h : SGT X vs e g) : SG X vs e g := PG.imp h fun v σ H Q ⟨d, c, F, s, s', k, b, r⟩ => ⟨d, c, F, s, s', k, .inl b, r⟩
/-- target = value -/
def mAsg (g : MG) (m : ME) : MS := fun s => toS (m s) fun d s => match g d s with
  | some s => .nx s
  | none => .fail
theorem ss_asg {tg : Expr} {m : ME} (he : SE X W e m) (hg : SG X vs tg g) (hs : swapsWithSole [tg] e pos.line X.env = pure false := by rfl) (hw : swappedStores [tg] e X.env = pure none := by rfl)
    (h1 : (assignEach [tg] X.env).map (·.2) = [assign tg X.env] := by rfl) : SS X W (.Assign [tg] e pos) (mAsg g m) :=
  PS.imp (ps_asg he hg hs hw h1) fun E σ H ⟨c, F, s, k, q⟩ => ⟨c, F, s, k, rdE_toS q fun d s1 v F1 H1 q1 k1 e1 b1 => by
    have q2 : RdS X.K X.mg c W F (match g d s1 with
      | some s => .nx s
      | none => .fail) E := q1
    cases hg : g d s1 with
    | none =>
      rw [hg] at q2
      exact q2.elim
    | some s2 =>
      rw [hg] at q2
      exact ⟨d, c, F1, s1, s2, k1, b1, hg, fun σ' k' _ => q2 σ' F1 H1 k' e1⟩⟩
/-- a, b = x, y -/
def mPar (i j : Nat) (ma mb : ME) : MS := fun s => toS (ma s) fun d s => toS (mb s) fun d2 s => .nx ((s.set i (.dat d)).set j (.dat d2))
end
/-! ### lists of one's own -/
/-- x.append(e) -/
def mApp (i : Nat) (m : ME) : MS := fun s => match s[i]? with
  | some (.own _) => toS (m s) fun d s => (match s[i]? with
    | some (.own ds) => if ds.length < 1000000 then .nx (s.set i (.own (ds ++ [d]))) else .fail
    | _ => .fail)
  | _ => .fail
/-- x.extend(a new list) -/
def mExt (i : Nat) (m : MA) : MS := fun s => match s[i]? with
  | some (.own _) => toS (m s) fun es s => (match s[i]? with
    | some (.own ds) => if ds.length + es.length ≤ 1000000 then .nx (s.set i (.own (ds ++ es))) else .fail
    | _ => .fail)
  | _ => .fail
/-- x[k] = e -/
def mSto (i : Nat) (mk me : ME) : MS := fun s => toS (me s) fun d s => match s[i]? with
  | some (.own _) => toS (mk s) fun y s => (match s[i]?, y with
    | some (.own ds), .int k => (match ixN ds.length k with
      | some j => .nx (s.set i (.own (ds.set j d)))
      | none => .fail)
    | _, _ => .fail)
  | some (.io _) => toS (mk s) fun y s => (match s[i]?, y with
    | some (.io ds), .int k => (match ixN ds.length k with
      | some j => if flatD d = true then .nx (s.set i (.io (ds.set j d))) else .fail
      | none => .fail)
    | _, _ => .fail)
  | _ => .fail
/-- x += e, ints -/
def mAug (i : Nat) (f : Int → Int → Int) (m : ME) : MS := fun s => match s[i]? with
  | some (.dat (.int a)) => toS (m s) fun d s => (match d with
    | .int b => .nx (s.set i (.dat (.int (f a b))))
    | _ => .fail)
  | _ => .fail
section
variable {X : Cx} {W : WX} {pos apos : Pos} {o e ix : Expr} {es : List Expr} {m mk : ME} {st : Stmt}
theorem ret_set {z : List V × List D} {xs : List V} {ds : List D} {j : Nat} {v : V} {d : D} (h : Ret z xs ds) (f : flatD d = true) : Ret z (xs.set j v) (ds.set j d) := fun k v' d' h1 h2 => by
  rcases get_set h2 with ⟨_, _, e⟩ | ⟨ne, h2⟩
  · subst e
    exact .inl f
  · rw [List.getElem?_set_ne ne] at h1
    exact h k v' d' h1 h2
theorem ss_par {i j : Nat} {x y : Str} {a b : Expr} {ma mb : ME} {px py pt : Pos} {kt k2 : Nat} {pt2 : Pos} {ta : TA} (hp : PS X (.Assign [.Tuple [.Name x px, .Name y py] kt pt] (.Tuple [a, b] k2 pt2) pos) (tPar i j ta)) (hta : ta = tCons (tE X W ma) (tCons (tE X W mb) tNil)) : SS X W (.Assign [.Tuple [.Name x px, .Name y py] kt pt] (.Tuple [a, b] k2 pt2) pos) (mPar i j ma mb) :=
  PS.imp hp fun E σ H ⟨c, F, s, k, q⟩ => by
    subst hta
    exact ⟨c, F, s, k, rdE_toS q fun d s1 v F1 H1 q1 k1 e1 b1 => ⟨c, F1, s1, k1, rdE_toS (rdS_mono q1 e1) fun d2 s2 v2 F2 H2 q2 k2 e2 b2 => ⟨v, v2, rfl, q2 _ F2 H2 ((k2.set_dat (dp_mono e2 b1)).set_dat b2) e2⟩⟩⟩
theorem ss_app {i : Nat} (hp : PS X st (tDrop (tBM X.K "list" rAppend (tVar i) (tCons (tE X W m) tNil)))) : SS X W st (mApp i m) :=
  PS.imp hp fun E σ H ⟨c, F, s, k, q⟩ => by
    unfold mApp at q
    cases h0 : s[i]? with
    | none =>
      rw [h0] at q
      exact q.elim
    | some z =>
      rw [h0] at q
      cases z with
      | own ds0 =>
        obtain ⟨p0, xs0, a0, _, _, hp0, _⟩ := k.own i ds0 h0
        refine ⟨_, a0, .inl ⟨rfl, _, .inl (.inl hp0)⟩, c, F, s, k, rdE_toS q fun d s1 v F1 H1 q1 k1 e1 b1 => ?_⟩
        cases h1 : s1[i]? with
        | none =>
          rw [h1] at q1
          exact q1.elim
        | some y =>
          rw [h1] at q1
          cases y with
          | own ds =>
            obtain ⟨p1, xs, a1, _, fp, hp1, al⟩ := k1.own i ds h1
            rw [a0] at a1
            cases a1
            have q2 : RdS X.K X.mg c W F (if ds.length < 1000000 then .nx (s1.set i (.own (ds ++ [d]))) else .fail) E := q1
            by_cases hl : ds.length < 1000000
            · rw [if_pos hl] at q2
              refine ⟨p0, xs, v, rfl, rfl, hp1, by rw [dpAll_length al]; exact Nat.lt_of_lt_of_le hl (sz_le (Nat.le_refl _)), ?_⟩
              exact q2 σ F1 _ (k1.put_own h1 a0 (dpAll_app al (dpAll_one b1))) e1
            · rw [if_neg hl] at q2
              exact q2.elim
          | _ => exact q1.elim
      | _ => exact q.elim
theorem ss_ext {i : Nat} {m : MA} (hp : PS X st (tDrop (tBM X.K "list" rExtend (tVar i) (tCons (tO X W m) tNil)))) : SS X W st (mExt i m) :=
  PS.imp hp fun E σ H ⟨c, F, s, k, q⟩ => by
    unfold mExt at q
    cases h0 : s[i]? with
    | none =>
      rw [h0] at q
      exact q.elim
    | some z =>
      rw [h0] at q
      cases z with
      | own ds0 =>
        obtain ⟨p0, xs0, a0, _, _, hp0, _⟩ := k.own i ds0 h0
        refine ⟨_, a0, .inl ⟨rfl, _, .inl (.inl hp0)⟩, c, F, s, k, rdO_toS q fun es s1 p xs2 F1 H1 q1 k1 e1 fr => ?_⟩
        cases h1 : s1[i]? with
        | none =>
          rw [h1] at q1
          exact q1.elim
        | some y =>
          rw [h1] at q1
          cases y with
          | own ds =>
            obtain ⟨p1, xs, a1, _, fp, hp1, al⟩ := k1.own i ds h1
            rw [a0] at a1
            cases a1
            have q2 : RdS X.K X.mg c W F (if ds.length + es.length ≤ 1000000 then .nx (s1.set i (.own (ds ++ es))) else .fail) E := q1
            by_cases hl : ds.length + es.length ≤ 1000000
            · rw [if_pos hl] at q2
              refine ⟨p0, p, xs, xs2, rfl, rfl, hp1, fr.at_, by rw [dpAll_length al, dpAll_length fr.all]; exact sz_le hl, ?_⟩
              exact q2 σ F1 _ (k1.put_own h1 a0 (dpAll_app al fr.all)) e1
            · rw [if_neg hl] at q2
              exact q2.elim
          | _ => exact q1.elim
      | _ => exact q.elim
theorem ixN_sh {K : PySem.W.Frag} {F : Hp} {xs : List V} {ds : List D} {k : Int} {j : Nat} (a : ShAll K F xs ds) (h : ixN ds.length k = some j) : ixN xs.length k = some j := by
  rw [dpAll_length a]
  exact h
theorem ss_sto {i : Nat} (hp : PS X st (tAsg (tE X W m) (gSub (tVar i) (tE X W mk) rSetL))) : SS X W st (mSto i mk m) :=
  PS.imp hp fun E σ H ⟨c, F, s, k, q⟩ => ⟨c, F, s, k, rdE_toS q fun d s1 v F1 H1 q1 k1 e1 b1 => by
    cases h0 : s1[i]? with
    | none =>
      rw [h0] at q1
      exact q1.elim
    | some z =>
      rw [h0] at q1
      cases z with
      | own ds0 =>
        obtain ⟨p0, xs0, a0, _, _, hp0, _⟩ := k1.own i ds0 h0
        refine ⟨_, a0, c, F1, s1, k1, rdE_toS (rdS_mono q1 e1) fun y s2 v2 F2 H2 q2 k2 e2 b2 => ?_⟩
        cases h1 : s2[i]? with
        | none =>
          rw [h1] at q2
          exact q2.elim
        | some w =>
          rw [h1] at q2
          cases w with
          | own ds =>
            cases y with
            | int kk =>
              cases b2
              obtain ⟨p1, xs, a1, _, fp, hp1, al⟩ := k2.own i ds h1
              rw [a0] at a1
              cases a1
              have q3 : RdS X.K X.mg c W F1 (match ixN ds.length kk with
                | some j => .nx (s2.set i (.own (ds.set j d)))
                | none => .fail) E := q2
              cases hj : ixN ds.length kk with
              | none =>
                rw [hj] at q3
                exact q3.elim
              | some j =>
                rw [hj] at q3
                refine ⟨p0, xs, kk, j, rfl, rfl, hp1, ixN_sh al hj, ?_⟩
                exact q3 σ F2 _ (k2.put_own h1 a0 (dpAll_set j al (dp_mono e2 b1))) e2
            | _ => exact q2.elim
          | _ => exact q2.elim
      | io ds0 =>
        obtain ⟨p0, xs0, hA0, a0, hp0, _⟩ := k1.io i ds0 h0
        refine ⟨_, a0, c, F1, s1, k1, rdE_toS (rdS_mono q1 e1) fun y s2 v2 F2 H2 q2 k2 e2 b2 => ?_⟩
        cases h1 : s2[i]? with
        | none =>
          rw [h1] at q2
          exact q2.elim
        | some w =>
          rw [h1] at q2
          cases w with
          | io ds =>
            cases y with
            | int kk =>
              cases b2
              obtain ⟨p1, xs, hA, a1, hp1, al, rt⟩ := k2.io i ds h1
              rw [a0] at a1
              cases a1
              have q3 : RdS X.K X.mg c W F1 (match ixN ds.length kk with
                | some j => if flatD d = true then .nx (s2.set i (.io (ds.set j d))) else .fail
                | none => .fail) E := q2
              cases hj : ixN ds.length kk with
              | none =>
                rw [hj] at q3
                exact q3.elim
              | some j =>
                rw [hj] at q3
                have q4 : RdS X.K X.mg c W F1 (if flatD d = true then .nx (s2.set i (.io (ds.set j d))) else .fail) E := q3
                by_cases hf : flatD d = true
                · rw [if_pos hf] at q4
                  refine ⟨p0, xs, kk, j, rfl, rfl, hp1, ixN_sh al hj, ?_⟩
                  exact q4 σ F2 _ (k2.put_io h1 hA (dpAll_set j al (dp_mono e2 b1)) (ret_set rt hf)) e2
                · rw [if_neg hf] at q4
                  exact q4.elim
            | _ => exact q2.elim
          | _ => exact q2.elim
      | _ => exact q1.elim⟩
theorem ss_aug {i : Nat} {f : Int → Int → Int} (hp : PS X st (tAug i (tE X W m) (ipI f))) : SS X W st (mAug i f m) :=
  PS.imp hp fun E σ H ⟨c, F, s, k, q⟩ => by
    unfold mAug at q
    cases h0 : s[i]? with
    | none =>
      rw [h0] at q
      exact q.elim
    | some z =>
      rw [h0] at q
      cases z with
      | dat d0 =>
        cases d0 with
        | int a =>
          obtain ⟨v0, a0, b0⟩ := k.dat i _ h0
          cases b0
          refine ⟨_, a0, c, F, s, k, rdE_toS q fun d s1 v F1 H1 q1 k1 e1 b1 => ?_⟩
          cases d with
          | int b =>
            cases b1
            exact ⟨a, b, rfl, rfl, q1 _ F1 H1 (k1.set_dat (.int _)) e1⟩
          | _ => exact q1.elim
        | _ => exact q.elim
      | _ => exact q.elim
end
end DV

/-! DV, part G: what is walked, for, while, comprehensions. -/
namespace DV
open PySem PySem.Spec PyProof.Rows L2

/-! ### what is walked -/
/-- an iterator yields these data, one after another, whatever the heap does besides -/
structure Walks (K : PySem.W.Frag) (J : It) (F : Hp) (ds : List D) : Prop where
  go : ∀ (i : Nat) (F1 H : Hp), i < ds.length → Ex F F1 → Ex F1 H → J.go i H
  yld : ∀ (i : Nat) (F1 H : Hp) (x : V) (H' : Hp), i < ds.length → Ex F F1 → Ex F1 H → J.yld i H x H' → Ex H H' ∧ ∃ d, ds[i]? = some d ∧ YSh K F1 H' x d
  stop : ∀ (i : Nat) (F1 H : Hp), ds.length ≤ i → Ex F F1 → Ex F1 H → J.stop i H
/-- .. that are data as they come -/
structure WalksD (K : PySem.W.Frag) (J : It) (F : Hp) (ds : List D) : Prop extends Walks K J F ds where
  dat : ∀ (i : Nat) (F1 H : Hp) (x : V) (H' : Hp), i < ds.length → Ex F F1 → Ex F1 H → J.yld i H x H' → ∃ d, ds[i]? = some d ∧ Sh K F1 x d
def RdI (P : Hp → It → List D → Prop) (K : PySem.W.Frag) (mg : Str → Option Value) (c : Cc) (W : WX) (σ : L2.St) (F : Hp) (r : Rs (List D)) (R : It → Hp → Prop) : Prop := match r with
  | .ok ds s => ∀ J F' H', Ok K c F' σ H' s → Ex F F' → P F' J ds → R J H'
  | .exc x s => ∀ a F' H', mg x = some (.ref a) → Ok K c F' σ H' s → W (.ref a) none σ H'
  | .fail => False
def SI (X : Cx) (W : WX) (tg e : Expr) (m : MA) : Prop := PI X tg e fun σ H R => ∃ c F s, Ok X.K c F σ H s ∧ RdI (fun F J ds => WalksD X.K J F ds) X.K X.mg c W σ F (m s) R
def SIT (X : Cx) (W : WX) (tg e : Expr) (m : MA) : Prop := PI X tg e fun σ H R => ∃ c F s, Ok X.K c F σ H s ∧ RdI (fun F J ds => Walks X.K J F ds) X.K X.mg c W σ F (m s) R
section
variable {X : Cx} {W : WX} {pos p : Pos} {e e2 tg : Expr} {es : List Expr} {m : ME} {ms : MA}
theorem PI.imp {t t' : TI} (h : PI X tg e t) (i : ∀ σ H R, t' σ H R → t σ H R) : PI X tg e t' := ⟨fun pins s σ H R I q => h.run pins s σ H R I (i σ H R q)⟩
theorem PI.or {t t' : TI} (h : PI X tg e t) (h' : PI X tg e t') : PI X tg e (fun σ H R => t σ H R ∨ t' σ H R) := ⟨fun pins s σ H R I q => q.elim (h.run pins s σ H R I) (h'.run pins s σ H R I)⟩
theorem walks_list {K : PySem.W.Frag} {F : Hp} {a : Addr} {xs : List V} {ds : List D} (h : SqL K F a xs) (al : ShAll K F xs ds) : WalksD K (Itl K a) F ds := by
  have hl := dpAll_length al
  have at_ : ∀ {i : Nat}, i < ds.length → ∃ x d, xs[i]? = some x ∧ ds[i]? = some d ∧ Sh K F x d := fun {i} hi => by
    have hx : i < xs.length := by omega
    obtain ⟨d, h1, h2⟩ := dpAll_get al (List.getElem?_eq_getElem hx)
    exact ⟨xs[i], d, List.getElem?_eq_getElem hx, h1, h2⟩
  refine ⟨⟨fun i F1 H hi e1 e2 => ?_, fun i F1 H x H' hi e1 e2 hy => ?_, fun i F1 H hi e1 e2 => ?_⟩, fun i F1 H x H' hi e1 e2 hy => ?_⟩
  · obtain ⟨x, d, hx, _⟩ := at_ hi
    exact ⟨xs, x, sqL_mono (e1.trans e2) h, hx⟩
  · obtain ⟨y, d, hx, hd, sd⟩ := at_ hi
    obtain ⟨rfl, hall⟩ := hy
    have := hall xs (sqL_mono (e1.trans e2) h)
    rw [hx] at this
    cases this
    exact ⟨.refl _, d, hd, .inl (dp_mono e1 sd)⟩
  · exact ⟨xs, sqL_mono (e1.trans e2) h, by omega⟩
  · obtain ⟨y, d, hx, hd, sd⟩ := at_ hi
    obtain ⟨rfl, hall⟩ := hy
    have := hall xs (sqL_mono (e1.trans e2) h)
    rw [hx] at this
    cases this
    exact ⟨d, hd, dp_mono e1 sd⟩
theorem walks_tup {K : PySem.W.Frag} {F : Hp} {a : Addr} {xs : List V} {ds : List D} (h : SqT K F a xs) (al : ShAll K F xs ds) : WalksD K (Itt K a) F ds := by
  have hl := dpAll_length al
  have at_ : ∀ {i : Nat}, i < ds.length → ∃ x d, xs[i]? = some x ∧ ds[i]? = some d ∧ Sh K F x d := fun {i} hi => by
    have hx : i < xs.length := by omega
    obtain ⟨d, h1, h2⟩ := dpAll_get al (List.getElem?_eq_getElem hx)
    exact ⟨xs[i], d, List.getElem?_eq_getElem hx, h1, h2⟩
  refine ⟨⟨fun i F1 H hi e1 e2 => ?_, fun i F1 H x H' hi e1 e2 hy => ?_, fun i F1 H hi e1 e2 => ?_⟩, fun i F1 H x H' hi e1 e2 hy => ?_⟩
  · obtain ⟨x, d, hx, _⟩ := at_ hi
    exact ⟨xs, x, sqT_mono (e1.trans e2) h, hx⟩
  · obtain ⟨y, d, hx, hd, sd⟩ := at_ hi
    obtain ⟨rfl, hall⟩ := hy
    have := hall xs (sqT_mono (e1.trans e2) h)
    rw [hx] at this
    cases this
    exact ⟨.refl _, d, hd, .inl (dp_mono e1 sd)⟩
  · exact ⟨xs, sqT_mono (e1.trans e2) h, by omega⟩
  · obtain ⟨y, d, hx, hd, sd⟩ := at_ hi
    obtain ⟨rfl, hall⟩ := hy
    have := hall xs (sqT_mono (e1.trans e2) h)
    rw [hx] at this
    cases this
    exact ⟨d, hd, dp_mono e1 sd⟩
/-- over a list or a tuple -/
def mItems (m : ME) : MA := fun s => bnd (m s) fun d s => optR (seqD d) s
theorem rdE_bndI {P : Hp → It → List D → Prop} {K : PySem.W.Frag} {mg : Str → Option Value} {c : Cc} {σ : L2.St} {F : Hp} {r : Rs D} {k : D → Sl → Rs (List D)} {R : It → Hp → Prop} {Q' : VK} (h : RdI P K mg c W σ F (bnd r k) R)
    (f : ∀ d s v F' H', RdI P K mg c W σ F (k d s) R → Ok K c F' σ H' s → Ex F F' → Sh K F' v d → Q' v H') : RdE K mg c W σ F r Q' := by
  cases r with
  | ok d s => exact fun v F' H' a b g => f d s v F' H' h a b g
  | exc x s => exact h
  | fail => exact h
theorem rdA_bndI {P : Hp → It → List D → Prop} {K : PySem.W.Frag} {mg : Str → Option Value} {c : Cc} {σ : L2.St} {F : Hp} {r : Rs (List D)} {k : List D → Sl → Rs (List D)} {R : It → Hp → Prop} {Q' : List V → Hp → Prop} (h : RdI P K mg c W σ F (bnd r k) R)
    (f : ∀ d s v F' H', RdI P K mg c W σ F (k d s) R → Ok K c F' σ H' s → Ex F F' → ShAll K F' v d → Q' v H') : RdA K mg c W σ F r Q' := by
  cases r with
  | ok d s => exact fun v F' H' a b g => f d s v F' H' h a b g
  | exc x s => exact h
  | fail => exact h
theorem si_data (h : SE X W e m) : SI X W tg e (mItems m) := PI.imp (PI.or (pi_list h) (pi_tup h)) fun σ H R ⟨c, F, s, k, q⟩ => by
  unfold mItems at q
  cases hm : m s with
  | ok d s1 =>
    rw [hm] at q
    have q' : RdI (fun F J ds => WalksD X.K J F ds) X.K X.mg c W σ F (optR (seqD d) s1) R := q
    cases d with
    | list ds =>
      refine .inl ⟨c, F, s, k, ?_⟩
      rw [hm]
      intro v F' H' k' e' b
      cases b with
      | lst hl al => exact ⟨_, rfl, ⟨_, sqL_mono k'.fh hl⟩, q' _ F' H' k' e' (walks_list hl al)⟩
    | tuple ds =>
      refine .inr ⟨c, F, s, k, ?_⟩
      rw [hm]
      intro v F' H' k' e' b
      cases b with
      | tup hl al => exact ⟨_, rfl, ⟨_, sqT_mono k'.fh hl.sq⟩, q' _ F' H' k' e' (walks_tup hl.sq al)⟩
    | _ => exact q'.elim
  | exc x s1 =>
    rw [hm] at q
    refine .inl ⟨c, F, s, k, ?_⟩
    rw [hm]
    exact q
  | fail =>
    rw [hm] at q
    exact q.elim
/-- range(n) -/
def rngD (n : Nat) : List D := (List.range n).map fun i => .int (Int.ofNat i)
def mRng1 (m : ME) : MA := fun s => bnd (m s) fun d s => match d with
  | .int n => if n ≤ 1000000000 ∧ -1000000000 ≤ n then .ok (rngD n.toNat) s else .fail
  | _ => .fail
theorem rngD_get {n i : Nat} (h : i < n) : (rngD n)[i]? = some (.int (i : Int)) := by
  unfold rngD
  rw [List.getElem?_map, List.getElem?_range h]
  rfl
theorem rngD_len (n : Nat) : (rngD n).length = n := by
  unfold rngD
  rw [List.length_map, List.length_range]
theorem walks_rng {K : PySem.W.Frag} {F : Hp} {n : Nat} : WalksD K (Itr 0 n) F (rngD n) := by
  refine ⟨⟨fun i F1 H hi e1 e2 => ?_, fun i F1 H x H' hi e1 e2 hy => ?_, fun i F1 H hi e1 e2 => ?_⟩, fun i F1 H x H' hi e1 e2 hy => ?_⟩
  · rw [rngD_len] at hi
    exact hi
  · rw [rngD_len] at hi
    obtain ⟨rfl, rfl⟩ := hy
    refine ⟨.refl _, _, rngD_get hi, .inl ?_⟩
    rw [Int.zero_add]
    exact .int _
  · rw [rngD_len] at hi
    exact hi
  · rw [rngD_len] at hi
    obtain ⟨rfl, rfl⟩ := hy
    refine ⟨_, rngD_get hi, ?_⟩
    rw [Int.zero_add]
    exact .int _
theorem si_range1 (hg : Gl X "range") (hm : X.mg "range" = none) (h : SE X W e m) (hs0 : starEach (e :: []) X.env = (false, eval e X.env) :: starEach [] X.env := by rfl) (hs : starEach [e] X.env = [(false, eval e X.env)] := by rfl) : SI X W tg (.Call (.Name "range" p) [e] [] pos) (mRng1 m) :=
  PI.imp (pi_range1 hg hm (pa_cons h pa_nil hs0) hs) fun σ H R ⟨c, F, s, k, q⟩ => ⟨c, F, s, k, rdE_bndI q fun d s1 v F1 H1 q1 k1 e1 b1 => by
    cases d with
    | int n =>
      cases b1
      have q2 : RdI (fun F J ds => WalksD X.K J F ds) X.K X.mg c W σ F (if n ≤ 1000000000 ∧ -1000000000 ≤ n then .ok (rngD n.toNat) s1 else .fail) R := q1
      by_cases hn : n ≤ 1000000000 ∧ -1000000000 ≤ n
      · rw [if_pos hn] at q2
        exact ⟨n, rfl, by omega, by omega, q2 _ F1 H1 k1 e1 walks_rng⟩
      · rw [if_neg hn] at q2
        exact q2.elim
    | _ => exact q1.elim⟩
/-- zip of two lists or two tuples -/
def zipD : List D → List D → List D
  | x :: xs, y :: ys => .tuple [x, y] :: zipD xs ys
  | _, _ => []
def mZip (ms : MA) : MA := fun s => bnd (ms s) fun ds s => match ds with
  | [.list xs, .list ys] => .ok (zipD xs ys) s
  | [.tuple xs, .tuple ys] => .ok (zipD xs ys) s
  | _ => .fail
theorem zipD_get : ∀ {xs ys : List D} {i : Nat} {x y : D}, xs[i]? = some x → ys[i]? = some y → (zipD xs ys)[i]? = some (.tuple [x, y])
  | _ :: _, _ :: _, 0, _, _, h1, h2 => by
    cases h1
    cases h2
    rfl
  | _ :: xs, _ :: ys, i + 1, _, _, h1, h2 => by
    show (zipD xs ys)[i]? = _
    exact zipD_get (by simpa using h1) (by simpa using h2)
  | [], _, _, _, _, h1, _ => by simp at h1
  | _ :: _, [], _, _, _, _, h2 => by simp at h2
theorem zipD_len : ∀ xs ys : List D, (zipD xs ys).length = min xs.length ys.length
  | [], _ => by simp [zipD]
  | _ :: _, [] => by simp [zipD]
  | _ :: xs, _ :: ys => by
    show (zipD xs ys).length + 1 = _
    rw [zipD_len xs ys, List.length_cons, List.length_cons]
    omega
/-! ### for -/
def mForL (g : MG) (b : MS) : List D → MS
  | [], s => .nx s
  | d :: ds, s => match g d s with
    | none => .fail
    | some s1 => match b s1 with
      | .nx s2 => mForL g b ds s2
      | .ct s2 => mForL g b ds s2
      | .bk s2 => .nx s2
      | o => o
def mFor (src : MA) (g : MG) (b : MS) : MS := fun s => toS (src s) fun ds s => mForL g b ds s
theorem rdI_toS {P : Hp → It → List D → Prop} {K : PySem.W.Frag} {mg : Str → Option Value} {c : Cc} {σ : L2.St} {F : Hp} {r : Rs (List D)} {k : List D → Sl → Ot} {E : Ends} {R' : It → Hp → Prop} (h : RdS K mg c W F (toS r k) E)
    (f : ∀ ds s J F' H', RdS K mg c W F (k ds s) E → Ok K c F' σ H' s → Ex F F' → P F' J ds → R' J H') : RdI P K mg c W σ F r R' := by
  cases r with
  | ok d s => exact fun J F' H' a b g => f d s J F' H' h a b g
  | exc x s => exact fun a F' H' ha k => h a σ F' H' ha k
  | fail => exact h
theorem for_read {vs : List Nat} {g : MG} {b : MS} {J : It} {ds : List D} {c : Cc} {F : Hp} {σ : L2.St} {H : Hp} {s : Sl} {E : Ends} {tG : TG} (wk : Walks X.K J F ds) (k : Ok X.K c F σ H s) (q : RdS X.K X.mg c W F (mForL g b ds s) E)
    (hG : ∀ (i : Nat) (x : V) (F1 H H' : Hp) (d : D) (σ : L2.St) (Q : L2.St → Hp → Prop), i < ds.length → Ex F F1 → Ex F1 H → J.yld i H x H' → ds[i]? = some d → RdG X vs σ H' Q (fun _ F2 => F2 = F1) (g d) → tG x σ H' Q) :
    ∃ Wd : Nat → Nat → L2.St → Hp → Prop, (∃ m, Wd 0 m σ H) ∧ ∀ i m σ H, Wd i m σ H →
      (J.stop i H ∧ E.nx σ H) ∨ (J.go i H ∧ ∃ N : L2.St → Hp → Prop, (∀ σ' H', N σ' H' → ∃ m', m' < m ∧ Wd (i + 1) m' σ' H') ∧ ∀ x H', J.yld i H x H' → tG x σ H' fun σ2 H2 => tS X W b { E with nx := N, ct := N, bk := E.nx } σ2 H2) := by
  refine ⟨fun i m σ H => m + i = ds.length ∧ ∃ F1 s, Ok X.K c F1 σ H s ∧ Ex F F1 ∧ RdS X.K X.mg c W F1 (mForL g b (ds.drop i) s) E, ⟨ds.length, by omega, F, s, k, .refl F, q⟩, ?_⟩
  rintro i m σ H ⟨hm, F1, s, k, e1, q⟩
  by_cases hi : i < ds.length
  · refine .inr ⟨wk.go i F1 H hi e1 k.fh, fun σ' H' => ∃ F2 s2, Ok X.K c F2 σ' H' s2 ∧ Ex F F2 ∧ RdS X.K X.mg c W F2 (mForL g b (ds.drop (i + 1)) s2) E, fun σ' H' h => ⟨m - 1, by omega, by omega, h⟩, fun x H' hy => ?_⟩
    have hd : ds[i]? = some ds[i] := List.getElem?_eq_getElem hi
    rw [List.drop_eq_getElem_cons hi] at q
    have q1 : RdS X.K X.mg c W F1 (match g ds[i] s with
      | none => .fail
      | some s1 => match b s1 with
        | .nx s2 => mForL g b (ds.drop (i + 1)) s2
        | .ct s2 => mForL g b (ds.drop (i + 1)) s2
        | .bk s2 => .nx s2
        | o => o) E := q
    obtain ⟨ex, d, hd', ysh⟩ := wk.yld i F1 H x H' hi e1 k.fh hy
    cases hg : g ds[i] s with
    | none =>
      rw [hg] at q1
      exact q1.elim
    | some s1 =>
      rw [hg] at q1
      refine hG i x F1 H H' ds[i] σ _ hi e1 k.fh hy hd ⟨c, F1, s, s1, k.grow ⟨.refl F1, k.fh.trans ex, ex, fun _ a b => absurd b a⟩, rfl, hg, fun σ2 k2 _ => ⟨c, F1, s1, k2, ?_⟩⟩
      have q2 : RdS X.K X.mg c W F1 (match b s1 with
        | .nx s2 => mForL g b (ds.drop (i + 1)) s2
        | .ct s2 => mForL g b (ds.drop (i + 1)) s2
        | .bk s2 => .nx s2
        | o => o) E := q1
      cases hb : b s1 with
      | nx s2 =>
        rw [hb] at q2
        exact fun σ' F' H' k' e' => ⟨F', s2, k', e1.trans e', rdS_mono q2 e'⟩
      | ct s2 =>
        rw [hb] at q2
        exact fun σ' F' H' k' e' => ⟨F', s2, k', e1.trans e', rdS_mono q2 e'⟩
      | bk s2 =>
        rw [hb] at q2
        exact q2
      | rt d s2 =>
        rw [hb] at q2
        exact q2
      | exc y s2 =>
        rw [hb] at q2
        exact q2
      | fail =>
        rw [hb] at q2
        exact q2
  · refine .inl ⟨wk.stop i F1 H (by omega) e1 k.fh, ?_⟩
    rw [List.drop_eq_nil_of_le (by omega)] at q
    exact q σ F1 H k (.refl F1)
theorem ss_for {vs : List Nat} {g : MG} {b : MS} {body : List Stmt} (hp : PassesOwn (model X.prog X.w) X.A X.env X.xe) (hc : X.calm = true) (hi : SI X W tg e ms) (hg : SG X vs tg g) (hb : SSs X W body b) (hs : ∀ x, foldedSetIterable e X.env x = pure x := by intro _; rfl) : SS X W (.For tg e body [] pos) (mFor ms g b) :=
  PS.imp (ps_for hp hc hi hg hb hs) fun E σ H ⟨c, F, s, k, q⟩ => ⟨c, F, s, k, rdI_toS q fun ds s1 J F1 H1 q1 k1 e1 wk => for_read (vs := vs) (tG := fun v σ H Q => ∃ d, RdG X vs σ H Q (fun _ F => Sh X.K F v d) (g d)) wk.toWalks k1 (rdS_mono q1 e1) fun i x F2 H2 H' d σ Q hi' e2 e3 hy hd ⟨c', F', s', s'', k', ef, hgo, hQ⟩ => by
    subst ef
    obtain ⟨d', hd', sd⟩ := wk.dat i F' H2 x H' hi' e2 e3 hy
    rw [hd] at hd'
    cases hd'
    exact ⟨d, c', F', s', s'', k', sd, hgo, hQ⟩⟩
theorem ss_forT {vs : List Nat} {g : MG} {b : MS} {body : List Stmt} (hp : PassesOwn (model X.prog X.w) X.A X.env X.xe) (hc : X.calm = true) (hi : SIT X W tg e ms) (hg : SGT X vs tg g) (hb : SSs X W body b) (hs : ∀ x, foldedSetIterable e X.env x = pure x := by intro _; rfl) : SS X W (.For tg e body [] pos) (mFor ms g b) :=
  PS.imp (ps_for hp hc hi hg hb hs) fun E σ H ⟨c, F, s, k, q⟩ => ⟨c, F, s, k, rdI_toS q fun ds s1 J F1 H1 q1 k1 e1 wk => for_read (vs := vs) (tG := fun v σ H Q => ∃ d, RdG X vs σ H Q (fun _ F => YSh X.K F H v d) (g d)) wk k1 (rdS_mono q1 e1) fun i x F2 H2 H' d σ Q hi' e2 e3 hy hd ⟨c', F', s', s'', k', ef, hgo, hQ⟩ => by
    subst ef
    obtain ⟨_, d', hd', sd⟩ := wk.yld i F' H2 x H' hi' e2 e3 hy
    rw [hd] at hd'
    cases hd'
    exact ⟨d, c', F', s', s'', k', sd, hgo, hQ⟩⟩
/-! ### while -/
def mWhN (t : MB) (b : MS) : Nat → Sl → Option Ot
  | 0, _ => none
  | n + 1, s => match t s with
    | .ok true s1 => (match b s1 with
      | .nx s2 => mWhN t b n s2
      | .ct s2 => mWhN t b n s2
      | .bk s2 => some (.nx s2)
      | o => some o)
    | .ok false s1 => some (.nx s1)
    | .exc x s1 => some (.exc x s1)
    | .fail => some .fail
open Classical in
/-- a while loop; one that never ends is no end at all -/
noncomputable def mWhile (t : MB) (b : MS) : MS := fun s => if h : ∃ n o, mWhN t b n s = some o then h.choose_spec.choose else .fail
theorem mWhN_more {t : MB} {b : MS} : ∀ {n : Nat} {s : Sl} {o : Ot} (k : Nat), mWhN t b n s = some o → mWhN t b (n + k) s = some o
  | 0, _, _, _, h => by cases h
  | n + 1, s, o, k, h => by
    rw [show n + 1 + k = (n + k) + 1 by omega]
    unfold mWhN at h ⊢
    cases ht : t s with
    | ok c s1 =>
      rw [ht] at h
      cases c with
      | false => exact h
      | true =>
        dsimp only at h ⊢
        cases hb : b s1 with
        | nx s2 =>
          rw [hb] at h
          exact mWhN_more k h
        | ct s2 =>
          rw [hb] at h
          exact mWhN_more k h
        | _ =>
          rw [hb] at h
          exact h
    | exc x s1 =>
      rw [ht] at h
      exact h
    | fail =>
      rw [ht] at h
      exact h
theorem mWhile_eq {t : MB} {b : MS} {n : Nat} {s : Sl} {o : Ot} (h : mWhN t b n s = some o) : mWhile t b s = o := by
  have hex : ∃ n o, mWhN t b n s = some o := ⟨n, o, h⟩
  unfold mWhile
  rw [dif_pos hex]
  have h2 := hex.choose_spec.choose_spec
  have a1 := mWhN_more hex.choose h
  have a2 := mWhN_more n h2
  rw [Nat.add_comm] at a2
  rw [a1] at a2
  exact (Option.some.inj a2).symm
theorem mWhile_ends {t : MB} {b : MS} {s : Sl} (h : mWhile t b s ≠ .fail) : ∃ n, mWhN t b n s = some (mWhile t b s) := by
  by_cases hex : ∃ n o, mWhN t b n s = some o
  · obtain ⟨n, o, hn⟩ := hex
    exact ⟨n, by rw [mWhile_eq hn]; exact hn⟩
  · unfold mWhile at h
    rw [dif_neg hex] at h
    exact absurd rfl h
/-- one turn of it -/
theorem mWhile_step {t : MB} {b : MS} {s s1 s2 : Sl} (ht : t s = .ok true s1) (hb : b s1 = .nx s2) : mWhile t b s = mWhile t b s2 := by
  by_cases hex : ∃ n o, mWhN t b n s2 = some o
  · obtain ⟨n, o, hn⟩ := hex
    rw [mWhile_eq hn]
    refine mWhile_eq (n := n + 1) ?_
    unfold mWhN
    rw [ht]
    dsimp only
    rw [hb]
    exact hn
  · have hex' : ¬ ∃ n o, mWhN t b n s = some o := by
      rintro ⟨n, o, hn⟩
      cases n with
      | zero => cases hn
      | succ n =>
        unfold mWhN at hn
        rw [ht] at hn
        dsimp only at hn
        rw [hb] at hn
        exact hex ⟨n, o, hn⟩
    unfold mWhile
    rw [dif_neg hex, dif_neg hex']
theorem mWhile_stop {t : MB} {b : MS} {s s1 : Sl} (ht : t s = .ok false s1) : mWhile t b s = .nx s1 := mWhile_eq (n := 1) (by
  unfold mWhN
  rw [ht])
theorem ss_while {t : MB} {b : MS} {cond : Expr} {body : List Stmt} (hp : PassesOwn (model X.prog X.w) X.A X.env X.xe) (hc : ST X W cond t) (hb : SSs X W body b) : SS X W (.While cond body [] pos) (mWhile t b) :=
  PS.imp (ps_while hp hc hb) fun E σ H ⟨c, F, s, k, q⟩ => by
    have hne : mWhile t b s ≠ .fail := fun h => by
      rw [h] at q
      exact q
    obtain ⟨n, hn⟩ := mWhile_ends hne
    refine ⟨fun m σ H => ∃ F1 s o, Ok X.K c F1 σ H s ∧ mWhN t b m s = some o ∧ RdS X.K X.mg c W F1 o E, ⟨n, F, s, _, k, hn, q⟩, ?_⟩
    rintro m σ H ⟨F1, s, o, k, hm, q⟩
    cases m with
    | zero => cases hm
    | succ m =>
      unfold mWhN at hm
      refine ⟨c, F1, s, k, ?_⟩
      cases ht : t s with
      | ok z s1 =>
        rw [ht] at hm
        intro F2 H2 k2 e2
        cases z with
        | false =>
          cases hm
          exact q σ F2 H2 k2 e2
        | true =>
          dsimp only at hm
          rw [if_pos rfl]
          refine ⟨fun σ' H' => ∃ F3 s3 o3, Ok X.K c F3 σ' H' s3 ∧ mWhN t b m s3 = some o3 ∧ RdS X.K X.mg c W F3 o3 E, fun σ' H' h => ⟨m, by omega, h⟩, c, F2, s1, k2, ?_⟩
          cases hb' : b s1 with
          | nx s2 =>
            rw [hb'] at hm
            exact fun σ' F' H' k' e' => ⟨F', s2, o, k', hm, rdS_mono q (e2.trans e')⟩
          | ct s2 =>
            rw [hb'] at hm
            exact fun σ' F' H' k' e' => ⟨F', s2, o, k', hm, rdS_mono q (e2.trans e')⟩
          | bk s2 =>
            rw [hb'] at hm
            cases hm
            exact fun σ' F' H' k' e' => q σ' F' H' k' (e2.trans e')
          | rt d s2 =>
            rw [hb'] at hm
            cases hm
            exact rdS_mono q e2
          | exc y s2 =>
            rw [hb'] at hm
            cases hm
            exact q
          | fail =>
            rw [hb'] at hm
            cases hm
            exact q
      | exc x s1 =>
        rw [ht] at hm
        cases hm
        exact fun a F' H' ha k' => q a σ F' H' ha k'
      | fail =>
        rw [ht] at hm
        cases hm
        exact q
/-! ### comprehensions -/
/-- the block's own slots forgotten -/
def unS (s : Sl) : List Nat → Sl
  | [] => s
  | v :: vs => (unS s vs).set v .un
/-- behind the block: what the slots held before -/
def keepS (s0 : Sl) (s : Sl) : List Nat → Sl
  | [] => s
  | v :: vs => (keepS s0 s vs).set v (match s0[v]? with
    | some (.dat d) => .dat d
    | _ => .un)
def mLcL (vs : List Nat) (g : MG) (t : MB) (m : ME) : List D → Sl → Rs (List D)
  | [], s => .ok [] s
  | d :: ds, s => match g d s with
    | none => .fail
    | some s1 => match t s1 with
      | .ok true s2 => (match m s2 with
        | .ok y s3 => (match mLcL vs g t m ds (unS s3 vs) with
          | .ok ys s4 => .ok (y :: ys) s4
          | _ => .fail)
        | _ => .fail)
      | .ok false s2 => mLcL vs g t m ds (unS s2 vs)
      | _ => .fail
def mLc (vs : List Nat) (src : MA) (g : MG) (t : MB) (m : ME) : MA := fun s => bnd (src s) fun ds s1 => bnd (mLcL vs g t m ds (unS s1 vs)) fun ys s2 => if ys.length ≤ 1000000 then .ok ys (keepS s1 s2 vs) else .fail
def mTrue : MB := fun s => .ok true s
end
section
variable {K : PySem.W.Frag} {c : Cc} {F H : Hp} {σ : L2.St} {s s0 : Sl}
theorem Ok.unS (k : Ok K c F σ H s) : ∀ vs : List Nat, Ok K c F (wipe σ vs) H (unS s vs)
  | [] => k
  | v :: vs => (k.unS vs).set_un none
theorem wipe_get {σ : L2.St} {i : Nat} : ∀ {vs : List Nat}, i ∉ vs → (wipe σ vs)[i]? = σ[i]?
  | [], _ => rfl
  | v :: vs, h => by
    rw [List.mem_cons, not_or] at h
    show ((wipe σ vs).set v none)[i]? = _
    rw [List.getElem?_set_ne (fun e => h.1 e.symm), wipe_get h.2]
theorem wipe_in {σ : L2.St} {i : Nat} : ∀ {vs : List Nat}, i ∈ vs → i < σ.length → (wipe σ vs)[i]? = some none
  | [], h, _ => by cases h
  | v :: vs, h, hl => by
    show ((wipe σ vs).set v none)[i]? = _
    by_cases e : v = i
    · subst e
      exact List.getElem?_set_self (by rw [wipe_length]; exact hl)
    · rw [List.getElem?_set_ne e]
      rcases List.mem_cons.mp h with h | h
      · exact absurd h.symm e
      · exact wipe_in h hl
theorem wipe_off {σ σ' : L2.St} {vs : List Nat} (h : Off vs σ σ') : wipe σ' vs = wipe σ vs := by
  apply List.ext_getElem?
  intro i
  by_cases hi : i ∈ vs
  · by_cases hl : i < σ.length
    · rw [wipe_in hi hl, wipe_in hi (by rw [h.1]; exact hl)]
    · rw [List.getElem?_eq_none (by rw [wipe_length, h.1]; omega), List.getElem?_eq_none (by rw [wipe_length]; omega)]
  · rw [wipe_get hi, wipe_get hi, h.2 i hi]
theorem wipe_wipe {σ : L2.St} {vs : List Nat} : wipe (wipe σ vs) vs = wipe σ vs := wipe_off ⟨wipe_length σ vs, fun _ hj => wipe_get hj⟩
theorem unS_len : ∀ vs : List Nat, (unS s vs).length = s.length
  | [] => rfl
  | v :: vs => by
    show ((unS s vs).set v .un).length = _
    rw [List.length_set, unS_len vs]
theorem unS_get {i : Nat} : ∀ {vs : List Nat}, i ∉ vs → (unS s vs)[i]? = s[i]?
  | [], _ => rfl
  | v :: vs, h => by
    rw [List.mem_cons, not_or] at h
    show ((unS s vs).set v .un)[i]? = _
    rw [List.getElem?_set_ne (fun e => h.1 e.symm), unS_get h.2]
theorem unS_in {i : Nat} : ∀ {vs : List Nat}, i ∈ vs → i < s.length → (unS s vs)[i]? = some .un
  | [], h, _ => by cases h
  | v :: vs, h, hl => by
    show ((unS s vs).set v .un)[i]? = _
    by_cases e : v = i
    · subst e
      exact List.getElem?_set_self (by rw [unS_len]; exact hl)
    · rw [List.getElem?_set_ne e]
      rcases List.mem_cons.mp h with h | h
      · exact absurd h.symm e
      · exact unS_in h hl
/-- back from the block: the outer slots, the block's own ones forgotten -/
theorem Ok.unwipe {vs : List Nat} (k : Ok K c F (wipe σ vs) H s) (hu : ∀ v ∈ vs, v < s.length → s[v]? = some .un) : Ok K c F σ H s where
  len := by rw [k.len, wipe_length]
  ff := k.ff
  fh := k.fh
  keep := k.keep
  new := k.new
  st := k.st
  ioH := k.ioH
  dat := fun i d h => by
    obtain ⟨v, a, b⟩ := k.dat i d h
    exact ⟨v, (wipe_some a).1, b⟩
  own := fun i d h => by
    obtain ⟨p, xs, a, b⟩ := k.own i d h
    exact ⟨p, xs, (wipe_some a).1, b⟩
  sep := fun i j d1 d2 p ne h1 h2 hp hq => by
    have o1 : i ∉ vs := fun hi => by
      have := hu i hi (List.getElem?_eq_some_iff.mp h1).1
      rw [h1] at this
      cases this
    have o2 : j ∉ vs := fun hj => by
      have := hu j hj (List.getElem?_eq_some_iff.mp h2).1
      rw [h2] at this
      cases this
    exact k.sep i j d1 d2 p ne h1 h2 (by rw [wipe_get o1]; exact hp) (by rw [wipe_get o2]; exact hq)
  io := fun i d h => by
    obtain ⟨p, xs, a, b, q⟩ := k.io i d h
    exact ⟨p, xs, a, (wipe_some b).1, q⟩
  exn := fun i ea h => (wipe_some (k.exn i ea h)).1
theorem set_self {σ : L2.St} {i : Nat} {x : Option V} (h : σ[i]? = some x) : σ.set i x = σ := by
  obtain ⟨hl, e⟩ := List.getElem?_eq_some_iff.mp h
  rw [← e]
  exact List.set_getElem_self hl
/-- .. what they held as data is known again -/
theorem Ok.keepS {F0 H0 : Hp} {s0 : Sl} (k0 : Ok K c F0 σ H0 s0) (e : Ex F0 F) : ∀ (vs : List Nat) {s : Sl}, Ok K c F σ H s → Ok K c F σ H (keepS s0 s vs)
  | [], _, k => k
  | v :: vs, s, k => by
    have k1 := Ok.keepS k0 e vs k
    show Ok K c F σ H ((DV.keepS s0 s vs).set v (match s0[v]? with
      | some (.dat d) => .dat d
      | _ => .un))
    have un : Ok K c F σ H ((DV.keepS s0 s vs).set v .un) := by
      by_cases hv : v < σ.length
      · have z := k1.set_un (i := v) σ[v]
        rw [set_self (List.getElem?_eq_getElem hv)] at z
        exact z
      · have z := k1.set_un (i := v) none
        rw [show σ.set v none = σ from List.set_eq_of_length_le (by omega)] at z
        exact z
    cases h0 : s0[v]? with
    | none => exact un
    | some x =>
      cases x with
      | dat d =>
        obtain ⟨w, a, b⟩ := k0.dat v d h0
        have z := k1.set_dat (i := v) (dp_mono e b)
        rw [set_self a] at z
        exact z
      | _ => exact un
/-! the list that a comprehension makes is kept apart -/
def Cc.lock (c : Cc) (D0 : Addr) (acc : List V) : Cc := { c with H0 := upd c.H0 D0 (.lst acc) }
theorem Ok.lock {D0 : Addr} {acc : List V} (k : Ok K c F σ H s) (h0 : c.H0 D0 = none) (hD : H D0 = some (.lst acc)) (hF : F D0 = none) (ap : ∀ (i : Nat) (es : List D), s[i]? = some (SV.own es) → σ[i]? ≠ some (some (V.ref D0))) : Ok K (c.lock D0 acc) F σ H s where
  len := k.len
  ff := k.ff
  fh := k.fh
  keep := fun b o h n => by
    by_cases e : b = D0
    · subst e
      have h' : upd c.H0 b (.lst acc) b = some o := h
      rw [upd_same] at h'
      rw [hD]
      exact h'
    · have h' : upd c.H0 D0 (.lst acc) b = some o := h
      rw [upd_ne e] at h'
      exact k.keep b o h' n
  new := fun b h1 h2 => by
    have e : b ≠ D0 := fun e => h1 (by rw [e]; exact hF)
    show upd c.H0 D0 (.lst acc) b = none
    rw [upd_ne e]
    exact k.new b h1 h2
  st := fun i p h => by
    obtain ⟨a, b, r⟩ := k.st i p h
    have e : p ≠ D0 := fun e => a (by rw [e]; exact h0)
    refine ⟨?_, b, r⟩
    show upd c.H0 D0 (.lst acc) p ≠ none
    rw [upd_ne e]
    exact a
  ioH := k.ioH
  dat := k.dat
  own := fun i ds h => by
    obtain ⟨p, xs, a, b, r⟩ := k.own i ds h
    have e : p ≠ D0 := fun e => ap i ds h (by rw [← e]; exact a)
    refine ⟨p, xs, a, ?_, r⟩
    show upd c.H0 D0 (.lst acc) p = none
    rw [upd_ne e]
    exact b
  sep := k.sep
  io := k.io
  exn := k.exn
theorem Ok.unlock {D0 : Addr} {acc : List V} (k : Ok K (c.lock D0 acc) F σ H s) (h0 : c.H0 D0 = none) (hF0 : c.F0 D0 = none) (nA : ∀ i, c.A i ≠ some D0) :
    Ok K c F σ H s ∧ H D0 = some (.lst acc) ∧ F D0 = none ∧ ∀ (i : Nat) (es : List D), s[i]? = some (SV.own es) → σ[i]? ≠ some (some (V.ref D0)) := by
  have hD : H D0 = some (.lst acc) := k.keep D0 _ upd_same nA
  have hF : F D0 = none := by
    cases h : F D0 with
    | none => rfl
    | some o =>
      have := k.new D0 (by rw [h]; simp) hF0
      rw [show (c.lock D0 acc).H0 D0 = some (.lst acc) from upd_same] at this
      cases this
  have ne : ∀ {b : Addr}, b ≠ D0 → (c.lock D0 acc).H0 b = c.H0 b := fun {b} e => upd_ne e
  refine ⟨⟨k.len, k.ff, k.fh, fun b o h n => ?_, fun b h1 h2 => ?_, fun i p h => ?_, k.ioH, k.dat, fun i ds h => ?_, k.sep, k.io, k.exn⟩, hD, hF, fun i es hi hσ => ?_⟩
  · refine k.keep b o ?_ n
    rw [ne (ne_of_none h h0)]
    exact h
  · have e : b ≠ D0 := fun e => h1 (by rw [e]; exact hF)
    rw [← ne e]
    exact k.new b h1 h2
  · obtain ⟨a, b, r⟩ := k.st i p h
    have e : p ≠ D0 := fun e => nA i (by rw [← e]; exact h)
    rw [ne e] at a
    exact ⟨a, b, r⟩
  · obtain ⟨p, xs, a, b, r⟩ := k.own i ds h
    have e : p ≠ D0 := fun e => by
      rw [e, show (c.lock D0 acc).H0 D0 = some (.lst acc) from upd_same] at b
      cases b
    rw [ne e] at b
    exact ⟨p, xs, a, b, r⟩
  · obtain ⟨p, xs, a, b, r⟩ := k.own i es hi
    rw [hσ] at a
    cases a
    rw [show (c.lock D0 acc).H0 D0 = some (.lst acc) from upd_same] at b
    cases b
theorem Ok.nA (k : Ok K c F σ H s) {p : Addr} (h : c.H0 p = none) (i : Nat) : c.A i ≠ some p := fun e => (k.st i p e).1 h
/-- the list apart grows -/
theorem Ok.at_D {D0 : Addr} {xs : List V} (k : Ok K c F σ H s) (h0 : c.H0 D0 = none) (hF : F D0 = none) (ap : ∀ (i : Nat) (es : List D), s[i]? = some (SV.own es) → σ[i]? ≠ some (some (V.ref D0))) : Ok K c F σ (upd H D0 (.lst xs)) s where
  len := k.len
  ff := k.ff
  fh := k.fh.to hF
  keep := fun b o h n => by
    rw [upd_ne (ne_of_none h h0)]
    exact k.keep b o h n
  new := k.new
  st := k.st
  ioH := fun i p h => by
    rw [upd_ne fun e => k.nA h0 i (by rw [← e]; exact h)]
    exact k.ioH i p h
  dat := k.dat
  own := fun i ds h => by
    obtain ⟨p, ys, a, b, f, e, r⟩ := k.own i ds h
    refine ⟨p, ys, a, b, f, ?_, r⟩
    rw [upd_ne fun z => ap i ds h (by rw [← z]; exact a)]
    exact e
  sep := k.sep
  io := fun i ds h => by
    obtain ⟨p, ys, a, b, e, r⟩ := k.io i ds h
    refine ⟨p, ys, a, b, ?_, r⟩
    rw [upd_ne fun z => k.nA h0 i (by rw [← z]; exact a)]
    exact e
  exn := k.exn
end
end DV

/-! DV, part H: comprehensions. -/
namespace DV
open PySem PySem.Spec PyProof.Rows L2
abbrev W0 : WX := fun _ _ _ _ => False
def STs (X : Cx) (W : WX) (ifs : List Expr) (m : MB) : Prop := PTs X ifs (tT X W m)
section
variable {X : Cx} {W : WX} {e : Expr} {t : MB}
theorem PTs.imp {ifs : List Expr} {t t' : TT} (h : PTs X ifs t) (f : ∀ σ H Q, t' σ H Q → t σ H Q) : PTs X ifs t' := ⟨fun pins s σ H Q I q => h.run pins s σ H Q I (f σ H Q q)⟩
theorem sts_nil : STs X W [] mTrue := PTs.imp pts_nil fun σ H Q ⟨c, F, s, k, q⟩ => q F H k (.refl F)
theorem sts_one (h : ST X W e t) : STs X W [e] t := pts_one h
theorem mLcL_noexc {vs : List Nat} {g : MG} {t : MB} {m : ME} : ∀ (ds : List D) (s : Sl) {x : Str} {s' : Sl}, mLcL vs g t m ds s ≠ .exc x s'
  | [], s, x, s' => by
    unfold mLcL
    intro h
    cases h
  | d :: ds, s, x, s' => by
    unfold mLcL
    intro h
    cases hg : g d s with
    | none =>
      rw [hg] at h
      cases h
    | some s1 =>
      rw [hg] at h
      dsimp only at h
      cases ht : t s1 with
      | ok b s2 =>
        rw [ht] at h
        cases b with
        | true =>
          dsimp only at h
          cases hm : m s2 with
          | ok y s3 =>
            rw [hm] at h
            dsimp only at h
            cases hr : mLcL vs g t m ds (unS s3 vs) with
            | ok ys s4 =>
              rw [hr] at h
              cases h
            | exc y s4 =>
              rw [hr] at h
              cases h
            | fail =>
              rw [hr] at h
              cases h
          | exc y s3 =>
            rw [hm] at h
            cases h
          | fail =>
            rw [hm] at h
            cases h
        | false => exact mLcL_noexc ds _ h
      | exc y s2 =>
        rw [ht] at h
        cases h
      | fail =>
        rw [ht] at h
        cases h
/-- one turn of a comprehension, taken apart -/
theorem mLcL_cons {vs : List Nat} {g : MG} {t : MB} {m : ME} {d : D} {ds : List D} {s sE : Sl} {ys : List D} (h : mLcL vs g t m (d :: ds) s = .ok ys sE) :
    ∃ s1, g d s = some s1 ∧ ((∃ s2 y s3 zs, t s1 = .ok true s2 ∧ m s2 = .ok y s3 ∧ mLcL vs g t m ds (unS s3 vs) = .ok zs sE ∧ ys = y :: zs) ∨ ∃ s2, t s1 = .ok false s2 ∧ mLcL vs g t m ds (unS s2 vs) = .ok ys sE) := by
  unfold mLcL at h
  cases hg : g d s with
  | none =>
    rw [hg] at h
    cases h
  | some s1 =>
    rw [hg] at h
    dsimp only at h
    refine ⟨s1, rfl, ?_⟩
    cases ht : t s1 with
    | ok b s2 =>
      rw [ht] at h
      cases b with
      | true =>
        dsimp only at h
        cases hm : m s2 with
        | ok y s3 =>
          rw [hm] at h
          dsimp only at h
          cases hr : mLcL vs g t m ds (unS s3 vs) with
          | ok zs s4 =>
            rw [hr] at h
            cases h
            exact .inl ⟨s2, y, s3, zs, rfl, hm, hr, rfl⟩
          | exc y s4 =>
            rw [hr] at h
            cases h
          | fail =>
            rw [hr] at h
            cases h
        | exc y s3 =>
          rw [hm] at h
          cases h
        | fail =>
          rw [hm] at h
          cases h
      | false => exact .inr ⟨s2, rfl, h⟩
    | exc y s2 =>
      rw [ht] at h
      cases h
    | fail =>
      rw [ht] at h
      cases h
/-- the block's slots are forgotten -/
def Un0 (vs : List Nat) (s : Sl) : Prop := ∀ v ∈ vs, v < s.length → s[v]? = some .un
theorem un0_unS (vs : List Nat) (s : Sl) : Un0 vs (unS s vs) := fun v hv hl => unS_in hv (by rw [unS_len] at hl; exact hl)
/-- the list at D0 lies apart -/
def Apart (σ : L2.St) (s : Sl) (D0 : Addr) : Prop := ∀ (i : Nat) (es : List D), s[i]? = some (SV.own es) → σ[i]? ≠ some (some (V.ref D0))
theorem apart_unS {σ : L2.St} {s : Sl} {D0 : Addr} {vs : List Nat} (h : Apart σ s D0) : Apart (wipe σ vs) (unS s vs) D0 := fun i es hi hσ => by
  by_cases hv : i ∈ vs
  · have hl : i < s.length := by
      have := (List.getElem?_eq_some_iff.mp hi).1
      rw [unS_len] at this
      exact this
    rw [unS_in hv hl] at hi
    cases hi
  · rw [unS_get hv] at hi
    rw [wipe_get hv] at hσ
    exact h i es hi hσ
/-- the state of a comprehension between two turns -/
structure LcAt (K : PySem.W.Frag) (c : Cc) (vs : List Nat) (σ : L2.St) (D0 : Addr) (F H : Hp) (s : Sl) (done : List D) : Prop where
  ok : Ok K c F (wipe σ vs) H s
  at_ : ∃ acc, H D0 = some (.lst acc) ∧ ShAll K F acc done
  f : F D0 = none
  ap : Apart (wipe σ vs) s D0
  un : Un0 vs s
theorem lc_loop {vs : List Nat} {g : MG} {t : MB} {m : ME} {J : It} {ds ys done0 : List D} {c : Cc} {F1 H0' : Hp} {σ : L2.St} {s0 sE : Sl} {D0 : Addr} {tG : TG} {Fin : Hp → Prop} (wk : Walks X.K J F1 ds)
    (h0 : c.H0 D0 = none) (hF0 : c.F0 D0 = none) (st : LcAt X.K c vs σ D0 F1 H0' s0 done0) (hm : mLcL vs g t m ds s0 = .ok ys sE) (hl : done0.length + ys.length ≤ 1000000)
    (fin : ∀ F' H', LcAt X.K c vs σ D0 F' H' sE (done0 ++ ys) → Ex F1 F' → Fin H')
    (hG : ∀ (i : Nat) (x : V) (F2 H H' : Hp) (d : D) (σ : L2.St) (Q : L2.St → Hp → Prop), i < ds.length → Ex F1 F2 → Ex F2 H → J.yld i H x H' → ds[i]? = some d → RdG X vs σ H' Q (fun _ F3 => F3 = F2) (g d) → tG x σ H' Q) :
    ∃ Wd : Nat → Nat → Hp → Prop, (∃ m, Wd 0 m H0') ∧ ∀ i m' H, Wd i m' H →
      (J.stop i H ∧ Fin H) ∨ (J.go i H ∧ ∃ Nx : Hp → Prop, (∀ H', Nx H' → ∃ m'', m'' < m' ∧ Wd (i + 1) m'' H') ∧ ∀ x H', J.yld i H x H' → tG x (wipe σ vs) H' fun σ2 H2 => wipe σ2 vs = wipe σ vs ∧ tT X W0 t σ2 H2 fun b H3 =>
        if b = true then tE X W0 m σ2 H3 fun y H4 => ∃ acc, H4 D0 = some (.lst acc) ∧ acc.length < sizeLine ∧ Nx (upd H4 D0 (.lst (acc ++ [y]))) else Nx H3) := by
  refine ⟨fun i m' H => m' + i = ds.length ∧ ∃ F2 s2 done rest, LcAt X.K c vs σ D0 F2 H s2 done ∧ Ex F1 F2 ∧ mLcL vs g t m (ds.drop i) s2 = .ok rest sE ∧ done ++ rest = done0 ++ ys,
    ⟨ds.length, by omega, F1, s0, done0, ys, st, .refl F1, hm, rfl⟩, ?_⟩
  rintro i m' H ⟨hmi, F2, s2, done, rest, ⟨k, ⟨acc, hD, al⟩, hf, ap, un⟩, e12, hr, hsum⟩
  by_cases hi : i < ds.length
  · have hd : ds[i]? = some ds[i] := List.getElem?_eq_getElem hi
    rw [List.drop_eq_getElem_cons hi] at hr
    obtain ⟨s3, hg, hturn⟩ := mLcL_cons hr
    refine .inr ⟨wk.go i F2 H hi e12 k.fh, fun H' => ∃ F3 s4 done' rest', LcAt X.K c vs σ D0 F3 H' s4 done' ∧ Ex F1 F3 ∧ mLcL vs g t m (ds.drop (i + 1)) s4 = .ok rest' sE ∧ done' ++ rest' = done0 ++ ys, fun H' h => ⟨m' - 1, by omega, by omega, h⟩, fun x H' hy => ?_⟩
    obtain ⟨ex, _⟩ := wk.yld i F2 H x H' hi e12 k.fh hy
    have k' : Ok X.K c F2 (wipe σ vs) H' s2 := k.grow ⟨.refl F2, k.fh.trans ex, ex, fun _ a b => absurd b a⟩
    have kl := k'.lock h0 (ex _ _ hD) hf ap
    refine hG i x F2 H H' ds[i] _ _ hi e12 k.fh hy hd ⟨c.lock D0 acc, F2, s2, s3, kl, rfl, hg, fun σ2 k2 off => ?_⟩
    have hw : wipe σ2 vs = wipe σ vs := by rw [wipe_off off, wipe_wipe]
    have nA : ∀ j, c.A j ≠ some D0 := k.nA h0
    refine ⟨hw, c.lock D0 acc, F2, s3, k2, ?_⟩
    rcases hturn with ⟨s4, y, s5, zs, ht, hm', hz, rfl⟩ | ⟨s4, ht, hz⟩
    · rw [ht]
      intro F3 H3 k3 e3
      rw [if_pos rfl]
      refine ⟨c.lock D0 acc, F3, s4, k3, ?_⟩
      rw [hm']
      intro v F4 H4 k4 e4 b4
      obtain ⟨k5, hD4, hf4, ap4⟩ := k4.unlock h0 hF0 nA
      have hlen : acc.length < sizeLine := by
        have h1 : done.length + (zs.length + 1) = done0.length + ys.length := by
          have := congrArg List.length hsum
          rw [List.length_append, List.length_append, List.length_cons] at this
          exact this
        rw [dpAll_length al]
        exact Nat.lt_of_lt_of_le (by omega : done.length < 1000000) (sz_le (Nat.le_refl _))
      have k6 := (k5.at_D (xs := acc ++ [v]) h0 hf4 ap4).unS vs
      rw [hw] at k6
      refine ⟨acc, hD4, hlen, F4, unS s5 vs, done ++ [y], zs, ⟨k6, ⟨acc ++ [v], upd_same, dpAll_app (dpAll_mono (e3.trans e4) al) (dpAll_one b4)⟩, hf4, ?_, un0_unS vs s5⟩, e12.trans (e3.trans e4), hz, by rw [← hsum, List.append_assoc]; rfl⟩
      have := apart_unS (vs := vs) ap4
      rw [hw] at this
      exact this
    · rw [ht]
      intro F3 H3 k3 e3
      rw [if_neg (by simp)]
      obtain ⟨k5, hD4, hf4, ap4⟩ := k3.unlock h0 hF0 nA
      have k6 := k5.unS vs
      rw [hw] at k6
      refine ⟨F3, unS s4 vs, done, rest, ⟨k6, ⟨acc, hD4, dpAll_mono e3 al⟩, hf4, ?_, un0_unS vs s4⟩, e12.trans e3, hz, hsum⟩
      have := apart_unS (vs := vs) ap4
      rw [hw] at this
      exact this
  · refine .inl ⟨wk.stop i F2 H (by omega) e12 k.fh, ?_⟩
    rw [List.drop_eq_nil_of_le (by omega)] at hr
    have hr' : (Rs.ok [] s2 : Rs (List D)) = .ok rest sE := hr
    injection hr' with h1 h2
    subst h1 h2
    rw [List.append_nil] at hsum
    subst hsum
    exact fin F2 H ⟨k, ⟨acc, hD, al⟩, hf, ap, un⟩ e12
theorem keepS_get {s0 s : Sl} {i : Nat} : ∀ {vs : List Nat}, i ∉ vs → (keepS s0 s vs)[i]? = s[i]?
  | [], _ => rfl
  | v :: vs, h => by
    rw [List.mem_cons, not_or] at h
    unfold keepS
    rw [List.getElem?_set_ne (fun e => h.1 e.symm), keepS_get h.2]
theorem keepS_own {s0 s : Sl} {i : Nat} {es : List D} : ∀ {vs : List Nat}, i ∈ vs → (keepS s0 s vs)[i]? ≠ some (SV.own es)
  | [], h => by cases h
  | v :: vs, h => by
    intro q
    unfold keepS at q
    rcases get_set q with ⟨rfl, _, e⟩ | ⟨ne, q⟩
    · split at e <;> cases e
    · rcases List.mem_cons.mp h with h | h
      · exact ne h.symm
      · exact keepS_own h q
/-- the reading of a comprehension -/
theorem lc_read {vs : List Nat} {src : MA} {g : MG} {t : MB} {m : ME} {P : Hp → It → List D → Prop} {tG : TG} (hP : ∀ F J ds, P F J ds → Walks X.K J F ds)
    (hG : ∀ (J : It) (ds : List D) (F1 : Hp), P F1 J ds → ∀ (i : Nat) (x : V) (F2 H H' : Hp) (d : D) (σ : L2.St) (Q : L2.St → Hp → Prop), i < ds.length → Ex F1 F2 → Ex F2 H → J.yld i H x H' → ds[i]? = some d → RdG X vs σ H' Q (fun _ F3 => F3 = F2) (g d) → tG x σ H' Q)
    (σ : L2.St) (H : Hp) (Q : VK) (h : tO X W (mLc vs src g t m) σ H Q) : tLc (fun σ H R => ∃ c F s, Ok X.K c F σ H s ∧ RdI P X.K X.mg c W σ F (src s) R) tG (tT X W0 t) (tE X W0 m) vs σ H Q := by
  obtain ⟨c, F, s, k, q⟩ := h
  refine ⟨c, F, s, k, ?_⟩
  unfold mLc at q
  cases hs : src s with
  | exc x s1 =>
    rw [hs] at q
    exact q
  | fail =>
    rw [hs] at q
    exact q
  | ok ds s1 =>
    rw [hs] at q
    intro J F1 H1 k1 e1 wk D0 hD
    have q1 : RdO X.K X.mg c W σ F (bnd (mLcL vs g t m ds (unS s1 vs)) fun ys s2 => if ys.length ≤ 1000000 then .ok ys (keepS s1 s2 vs) else .fail) Q := q
    cases hm : mLcL vs g t m ds (unS s1 vs) with
    | exc x s2 => exact absurd hm (mLcL_noexc _ _)
    | fail =>
      rw [hm] at q1
      exact q1.elim
    | ok ys s2 =>
      rw [hm] at q1
      have q2 : RdO X.K X.mg c W σ F (if ys.length ≤ 1000000 then .ok ys (keepS s1 s2 vs) else .fail) Q := q1
      by_cases hl : ys.length ≤ 1000000
      · rw [if_pos hl] at q2
        obtain ⟨k2, fr⟩ := (k1.unS vs).fresh_new (xs := []) (ds := []) hD .nil
        have hF0 : c.F0 D0 = none := k1.ff.back fr.f
        refine lc_loop (done0 := []) (hP _ _ _ wk) fr.h0 hF0 ⟨k2, ⟨[], upd_same, .nil⟩, fr.f, fr.apart, un0_unS vs s1⟩ hm (by simpa using hl) (fun F' H' la e' => ?_) (hG J ds F1 wk)
        obtain ⟨k', ⟨acc, hD', al⟩, hf', ap', un'⟩ := la
        have k4 := k1.keepS e' vs (k'.unwipe un')
        refine q2 D0 acc F' H' k4 (e1.trans e') ⟨fr.h0, hf', hD', al, fun i es hi hσ => ?_⟩
        by_cases hv : i ∈ vs
        · exact keepS_own hv hi
        · rw [keepS_get hv] at hi
          exact ap' i es hi (by rw [wipe_get hv]; exact hσ)
      · rw [if_neg hl] at q2
        exact q2.elim
/-- the context of a comprehension's block -/
abbrev Blk (X : Cx) (scope : Scope) (s : Shared) (H : Hp) (C : Addr) (cl : List (Str × Addr)) (fp : List Addr) : Cx := X.blk s H scope (compEnvC scope cl C X.env) fp
variable {tg iter elt : Expr} {ifs : List Expr} {scope : Scope} {own : List (Str × Nat)} {pos spos py : Pos} {src : MA} {g : MG} {m : ME}
theorem so_lc (hc : X.calm = true) (hN : X.N.Nodup) (hi : SI X W tg iter src) (ok : BlkOk X.N X.env.scope scope own)
    (hg : ∀ s H C cl fp, SG (Blk X scope s H C cl fp) (own.map (·.2)) tg g) (ht : ∀ s H C cl fp, STs (Blk X scope s H C cl fp) W0 ifs t) (he : ∀ s H C cl fp, SE (Blk X scope s H C cl fp) W0 elt m)
    (hs : ∀ x, foldedSetIterable iter X.env x = pure x := by intro _; rfl) : SO X W (.ListComp elt [⟨tg, iter, ifs, 0⟩] scope pos) (mLc (own.map (·.2)) src g t m) :=
  PE.imp (pe_lc (g := fun v σ H Q => ∃ d, RdG X (own.map fun p : Str × Nat => p.2) σ H Q (fun _ F => Sh X.K F v d) (g d)) (tt := tT X W0 t) (te := tE X W0 m) hc hN hi ok hg ht he hs) fun σ H Q h =>
    lc_read (fun _ _ _ z => z.toWalks) (fun J ds F1 wk i x F2 H H' d σ Q hi' e2 e3 hy hd ⟨c', F', s', s'', k', ef, hgo, hQ⟩ => by
      subst ef
      obtain ⟨d', hd', sd⟩ := wk.dat i F' H x H' hi' e2 e3 hy
      rw [hd] at hd'
      cases hd'
      exact ⟨d, c', F', s', s'', k', sd, hgo, hQ⟩) σ H Q h
theorem ss_setLc {i : Nat} {y : Str} (hc : X.calm = true) (hN : X.N.Nodup) (hy : X.N[i]? = some y) (hyl : X.env.scope.names.lookup y = some .local) (hsw : swapsWith (.ListComp elt [⟨tg, iter, ifs, 0⟩] scope pos) (some (.Name y py)) spos.line X.env = pure true)
    (hi : SI X W tg iter src) (ok : BlkOk X.N X.env.scope scope own)
    (hg : ∀ s H C cl fp, SG (Blk X scope s H C cl fp) (own.map (·.2)) tg g) (ht : ∀ s H C cl fp, STs (Blk X scope s H C cl fp) W0 ifs t) (he : ∀ s H C cl fp, SE (Blk X scope s H C cl fp) W0 elt m)
    (hs : ∀ x, foldedSetIterable iter X.env x = pure x := by intro _; rfl) : SS X W (.Assign [.Name y py] (.ListComp elt [⟨tg, iter, ifs, 0⟩] scope pos) spos) (mSetO i (mLc (own.map (·.2)) src g t m)) :=
  ss_setOR (ps_setLc (g := fun v σ H Q => ∃ d, RdG X (own.map fun p : Str × Nat => p.2) σ H Q (fun _ F => Sh X.K F v d) (g d)) (tt := tT X W0 t) (te := tE X W0 m) hc hN hy hyl hsw hi ok hg ht he hs) fun σ H Q h =>
    lc_read (fun _ _ _ z => z.toWalks) (fun J ds F1 wk i x F2 H H' d σ Q hi' e2 e3 hy hd ⟨c', F', s', s'', k', ef, hgo, hQ⟩ => by
      subst ef
      obtain ⟨d', hd', sd⟩ := wk.dat i F' H x H' hi' e2 e3 hy
      rw [hd] at hd'
      cases hd'
      exact ⟨d, c', F', s', s'', k', sd, hgo, hQ⟩) σ H Q h
theorem so_lcT (hc : X.calm = true) (hN : X.N.Nodup) (hi : SIT X W tg iter src) (ok : BlkOk X.N X.env.scope scope own)
    (hg : ∀ s H C cl fp, SGT (Blk X scope s H C cl fp) (own.map (·.2)) tg g) (ht : ∀ s H C cl fp, STs (Blk X scope s H C cl fp) W0 ifs t) (he : ∀ s H C cl fp, SE (Blk X scope s H C cl fp) W0 elt m)
    (hs : ∀ x, foldedSetIterable iter X.env x = pure x := by intro _; rfl) : SO X W (.ListComp elt [⟨tg, iter, ifs, 0⟩] scope pos) (mLc (own.map (·.2)) src g t m) :=
  PE.imp (pe_lc (g := fun v σ H Q => ∃ d, RdG X (own.map fun p : Str × Nat => p.2) σ H Q (fun _ F => YSh X.K F H v d) (g d)) (tt := tT X W0 t) (te := tE X W0 m) hc hN hi ok hg ht he hs) fun σ H Q h =>
    lc_read (fun _ _ _ z => z) (fun J ds F1 wk i x F2 H H' d σ Q hi' e2 e3 hy hd ⟨c', F', s', s'', k', ef, hgo, hQ⟩ => by
      subst ef
      obtain ⟨_, d', hd', sd⟩ := wk.yld i F' H x H' hi' e2 e3 hy
      rw [hd] at hd'
      cases hd'
      exact ⟨d, c', F', s', s'', k', sd, hgo, hQ⟩) σ H Q h
/-! a list of one's own that is set by a slot and then is data alone -/
def mSetD (i : Nat) (m : MA) : MS := fun s => toS (m s) fun ds s => .nx (s.set i (.dat (.list ds)))
theorem ss_dat {st : Stmt} {i : Nat} {m : MA} (h : SS X W st (mSetO i m)) : SS X W st (mSetD i m) := PS.imp h fun E σ H ⟨c, F, s, k, q⟩ => ⟨c, F, s, k, by
  unfold mSetD at q
  unfold mSetO
  cases hm : m s with
  | ok ds s1 =>
    rw [hm] at q
    intro σ' F' H' k' e'
    by_cases hi : i < s1.length
    · have hi' : (s1.set i (SV.own ds))[i]? = some (.own ds) := List.getElem?_set_self hi
      obtain ⟨p, xs, a, fp, k2, b⟩ := k'.freeze_slot hi'
      rw [List.set_set] at k2
      exact q σ' _ H' k2 (e'.trans (.new fp))
    · have e1 : s1.set i (SV.own ds) = s1 := List.set_eq_of_length_le (by omega)
      have e2 : s1.set i (SV.dat (.list ds)) = s1 := List.set_eq_of_length_le (by omega)
      have q2 : RdS X.K X.mg c W F (.nx (s1.set i (.dat (.list ds)))) E := q
      rw [e2] at q2
      have k'' : Ok X.K c F' σ' H' s1 := by
        have : Ok X.K c F' σ' H' (s1.set i (SV.own ds)) := k'
        rw [e1] at this
        exact this
      exact q2 σ' F' H' k'' e'
  | exc x s1 =>
    rw [hm] at q
    exact q
  | fail =>
    rw [hm] at q
    exact q⟩
end
end DV

/-! DV, part I: raise, try, isinstance, t.index, repr, zip. -/
namespace DV
open PySem PySem.Spec PyProof.Rows L2

/-! ### raise -/
def mRaise (x : Str) : MS := fun s => .exc x s
theorem ss_raise {X : Cx} {W : WX} {C : Addr} {x m : Str} {j : Nat} {p p2 pos pos2 : Pos} {bm : List Value} {B nw ii : String} (hc : X.calm = true) (tk : L2N.Takes X W) (Fb : ExcBaseFacts B nw ii bm) (q : PySem.W.excIn X.K C bm nw = true) (gC : X.mg x = some (.ref C))
    (kC : PySem.W.keepIn X.K (.ref C) = true) (r : Raises X (.ref C)) (hg : Gl X x) (hdb : (x == ("__debug__" : Str)) = false := by decide) :
    SS X W (.Raise (some (.Call (.Name x p) [.Constant (.str m) j p2] [] pos)) none pos2) (mRaise x) :=
  PS.imp (L2N.ps_raise hc tk (L2N.pmk_own Fb q gC kC r hg hdb)) fun E σ H ⟨c, F, s, k, q⟩ => q C σ F H gC k

/-! ### isinstance of a suite's exception -/
def mIsE (i : Nat) (a : Addr) (b : Bool) : ME := fun s => match s[i]? with
  | some (.exn a') => if a' = a then .ok (.bool b) s else .fail
  | _ => .fail
theorem mIsE_at {i : Nat} {a : Addr} {b : Bool} {s : Sl} (h : s[i]? = some (.exn a)) : mIsE i a b s = .ok (.bool b) s := by
  unfold mIsE
  rw [h]
  simp
theorem tIsE {K : PySem.W.Frag} {mg : Str → Option Value} {c : Cc} {W : WX} {σ : L2.St} {F H : Hp} {s : Sl} {i : Nat} {a : Addr} {b : Bool} {Q : VK} (k : Ok K c F σ H s) (q : RdE K mg c W σ F (mIsE i a b s) Q) :
    σ[i]? = some (some (V.ref a)) ∧ ∀ F' H', Grow F H F' H' → Q (.bl b) H' := by
  unfold mIsE at q
  split at q
  · rename_i a' h
    split at q
    · rename_i e
      subst e
      exact ⟨k.exn i a' h, fun F' H' gr => q (.bl b) F' H' (k.grow gr) gr.ff (.bl b)⟩
    · exact q.elim
  · exact q.elim
section
variable {X : Cx} {W : WX} {a C D : Addr} {oe : Obj} {pn : List (Addr × Obj)} {i : Nat} {n x : Str} {p p0 p1 p2 pos : Pos} {b : Bool}
theorem se_isE (hC : ExcC X.K D) (hz : Zc (.ref D) none oe) (hf : ∃ vs, oe.data = .fields vs) (hg : Gl (X.suite a ((a, oe) :: pn)) "isinstance") (hm : X.mg "isinstance" = none)
    (hv : PE (X.suite a ((a, oe) :: pn)) (.Name n p0) (tVar i)) (hgx : Gl (X.suite a ((a, oe) :: pn)) x) (hx : X.mg x = some (.ref C)) (e : PySem.W.kitOne X.K (.ref D) (.ref C) = some b) (hdb : (x == ("__debug__" : Str)) = false := by decide) :
    SE (X.suite a ((a, oe) :: pn)) W (.Call (.Name "isinstance" p) [.Name n p0, .Name x p1] [] pos) (mIsE i a b) :=
  PE.imp (pe_callB (call_isE hC hz hf) hg hm rfl (pa_cons hv (pa_cons (pe_glob (v := .ref C) hgx hx rfl hdb) pa_nil))) fun σ H Q ⟨c, F, s, k, q⟩ => by
    obtain ⟨h1, h2⟩ := tIsE k q
    exact ⟨_, h1, .ref C, .ref C, b, rfl, fun u r => r, e, h2 F H (.refl k.fh)⟩
/-- .. (A, B, ..) -/
theorem call_isET (hC : ExcC X.K D) (hz : Zc (.ref D) none oe) (hf : ∃ vs, oe.data = .fields vs) : CallR (X.suite a ((a, oe) :: pn)) (.builtin "isinstance")
    (fun xs H Q => ∃ (tp : Addr) (cs : List V) (us : List Value) (b : Bool), xs = [.ref a, .ref tp] ∧ H tp = some (.tup cs) ∧ Paired ClsV cs us ∧ PySem.W.kitAny X.K (.ref D) us = some b ∧ Q (.bl b) H) := by
  intro pins s σ H xs us Q I r h
  obtain ⟨tp, cs, ws, b, rfl, hT, k, e, q⟩ := h
  obtain ⟨u1, u2, rfl, r1, r2⟩ := vals2 r
  cases (show u2 = Value.ref tp from r2)
  cases (show u1 = Value.ref a from r1)
  obtain ⟨hget, _⟩ := I.pin (a, oe) (List.mem_append.mpr (.inl List.mem_cons_self))
  obtain ⟨vs, hv⟩ := hf
  have J : PySem.W.InstAt s.heap a oe D none := by
    obtain ⟨oc, od, oda, osl⟩ := oe
    obtain ⟨h1, h2⟩ := hz
    dsimp only at h1 h2 hv
    subst h1 h2 hv
    exact ⟨hget, rfl, rfl, trivial⟩
  obtain ⟨_, its, rv, o, h1, h2, n, h3⟩ := (show ObjOk X.prog X.w H s.heap tp (.tup cs) from I.hok tp _ hT)
  have e3 := ClsV.all k rv
  subst e3
  obtain ⟨oc, od, dt, sl⟩ := o
  simp only at h2 h3
  subst h2 h3
  exact PySem.W.kia_tup (PySem.W.handS_kitx_exc hC.hg hC.hk hC.hs hC.hd hC.ha hC.hn hC.ht hC.hm) I.kIn J h1 e (fun z => nomatch z) fun tk => ⟨.bl b, H, I.tok tk, rfl, q⟩
/-- a row of class names -/
inductive ClsNames (X : Cx) : List Expr → List Value → Prop
  | nil : ClsNames X [] []
  | cons {x : Str} {p : Pos} {C : Addr} {es : List Expr} {us : List Value} (hg : Gl X x) (hx : X.mg x = some (.ref C)) (hdb : (x == ("__debug__" : Str)) = false) (hs : starEach (.Name x p :: es) X.env = (false, eval (.Name x p) X.env) :: starEach es X.env) (r : ClsNames X es us) : ClsNames X (.Name x p :: es) (.ref C :: us)
def tVals (vs : List V) : TA := fun _ H Q => Q vs H
theorem clsNames_pa : ∀ {es : List Expr} {us : List Value}, ClsNames X es us → ∃ vs, PA X es (tVals vs) ∧ Paired ClsV vs us ∧ vs.length = us.length
  | _, _, .nil => ⟨[], pa_nil, .nil, rfl⟩
  | _, _, .cons (C := C) hg hx hdb hs r => by
    obtain ⟨vs, h, k, l⟩ := clsNames_pa r
    exact ⟨.ref C :: vs, PA.imp (pa_cons (pe_glob (v := .ref C) hg hx rfl hdb) h hs) fun σ H Q q => q, .cons (.own C) k, congrArg (· + 1) l⟩
theorem se_isET {es : List Expr} {us : List Value} {j : Nat} (hC : ExcC X.K D) (hz : Zc (.ref D) none oe) (hf : ∃ vs, oe.data = .fields vs) (hg : Gl (X.suite a ((a, oe) :: pn)) "isinstance") (hm : X.mg "isinstance" = none)
    (hv : PE (X.suite a ((a, oe) :: pn)) (.Name n p0) (tVar i)) (hn : ClsNames (X.suite a ((a, oe) :: pn)) es us) (hl : us.length ≤ 1000) (e : PySem.W.kitAny X.K (.ref D) us = some b)
    (hs2 : starEach [.Name n p0, .Tuple es j p1] X.env = (false, eval (.Name n p0) X.env) :: starEach [.Tuple es j p1] X.env := by rfl) (hs1 : starEach [.Tuple es j p1] X.env = (false, eval (.Tuple es j p1) X.env) :: starEach [] X.env := by rfl) (hpl : (backTo pos (starEach [.Tuple es j p1] X.env)).any (·.1) = false := by rfl) :
    SE (X.suite a ((a, oe) :: pn)) W (.Call (.Name "isinstance" p) [.Name n p0, .Tuple es j p1] [] pos) (mIsE i a b) := by
  obtain ⟨vs, ht, hk, hlen⟩ := clsNames_pa hn
  refine PE.imp (pe_callB (call_isET hC hz hf) hg hm rfl (pa_cons hv (pa_cons (pe_tup ht) pa_nil hs1) hs2) (he := hs2) (hpl := hpl)) fun σ H Q ⟨c, F, s, k, q⟩ => ?_
  obtain ⟨h1, h2⟩ := tIsE k q
  refine ⟨_, h1, by rw [hlen]; exact Nat.le_trans hl (by decide), fun tp htp => ⟨tp, vs, us, b, rfl, upd_same, hk, e, h2 F _ (.side k.fh htp)⟩⟩
end
end DV

/-! DV, part J: try, t.index, repr, zip. -/
namespace DV
open PySem PySem.Spec PyProof.Rows L2

/-! ### try .. except X as n -/
section
variable {K : PySem.W.Frag} {c : Cc} {F H : Hp} {σ : L2.St} {s : Sl} {i : Nat}
theorem Ok.set_exn (k : Ok K c F σ H s) (a : Addr) : Ok K c F (σ.set i (some (.ref a))) H (s.set i (.exn a)) where
  len := by rw [List.length_set, List.length_set]; exact k.len
  ff := k.ff
  fh := k.fh
  keep := k.keep
  new := k.new
  st := k.st
  ioH := k.ioH
  dat := fun j e hj => by
    rcases get_set hj with ⟨_, _, q⟩ | ⟨ne, hj⟩
    · cases q
    · obtain ⟨w, a, b⟩ := k.dat j e hj
      exact ⟨w, by rw [List.getElem?_set_ne ne]; exact a, b⟩
  own := fun j es hj => by
    rcases get_set hj with ⟨_, _, q⟩ | ⟨ne, hj⟩
    · cases q
    · obtain ⟨p, xs, a, r⟩ := k.own j es hj
      exact ⟨p, xs, by rw [List.getElem?_set_ne ne]; exact a, r⟩
  sep := fun j l d e p hne h1 h2 h3 => by
    rcases get_set h1 with ⟨_, _, q⟩ | ⟨n1, h1⟩
    · cases q
    · rcases get_set h2 with ⟨_, _, q⟩ | ⟨n2, h2⟩
      · cases q
      · rw [List.getElem?_set_ne n1] at h3
        rw [List.getElem?_set_ne n2]
        exact k.sep j l d e p hne h1 h2 h3
  io := fun j es hj => by
    rcases get_set hj with ⟨_, _, q⟩ | ⟨ne, hj⟩
    · cases q
    · obtain ⟨p, xs, a, b, r⟩ := k.io j es hj
      exact ⟨p, xs, a, by rw [List.getElem?_set_ne ne]; exact b, r⟩
  exn := fun j ea hj => by
    rcases get_set hj with ⟨e, hl, q⟩ | ⟨ne, hj⟩
    · cases q
      subst e
      rw [List.getElem?_set_self (by rw [← k.len]; exact hl)]
    · rw [List.getElem?_set_ne ne]
      exact k.exn j ea hj
end
section
variable {K : PySem.W.Frag} {c : Cc} {F F' H H' : Hp} {σ σ' : L2.St} {s s' : Sl}
/-- the context that begins here -/
abbrev Cc.fix (c : Cc) (F : Hp) : Cc := ⟨F, c.H0, c.A, c.X0⟩
theorem Ok.fix (k : Ok K c F σ H s) : Ok K (c.fix F) F σ H s :=
  ⟨k.len, .refl F, k.fh, k.keep, fun b h1 h2 => absurd h2 h1, fun i p h => ⟨(k.st i p h).1, k.ioF h, (k.st i p h).2.2⟩, k.ioH, k.dat, k.own, k.sep, k.io, k.exn⟩
theorem Ok.unfix (k : Ok K c F σ H s) (k' : Ok K (c.fix F) F' σ' H' s') : Ok K c F' σ' H' s' ∧ Ex F F' :=
  ⟨⟨k'.len, k.ff.trans k'.ff, k'.fh, k'.keep, fun b h1 h2 => by
    by_cases h : F b = none
    · exact k'.new b h1 h
    · exact k.new b h h2, k.st, k'.ioH, k'.dat, k'.own, k'.sep, k'.io, k'.exn⟩, k'.ff⟩
end
/-- the slot of a suite's name is wiped behind it -/
def clrO (i : Nat) (o : Ot) : Ot := match o with
  | .nx s => .nx (s.set i .un)
  | .rt d s => .rt d (s.set i .un)
  | .bk s => .bk (s.set i .un)
  | .ct s => .ct (s.set i .un)
  | .exc _ _ => .fail
  | .fail => .fail
/-- cat: does the clause catch it; oc: what comes behind the suite (its name's slot wiped) -/
def mTry (mb : MS) (cat : Str → Option Bool) (i : Nat) (oc : Sl → Ot) : MS := fun s => match mb s with
  | .exc x s => (match cat x with
    | some true => if i < s.length then oc (s.set i .un) else .fail
    | some false => .exc x s
    | none => .fail)
  | o => o
/-- what stands of the classes that a clause is asked about -/
def CatOk (X : Cx) (c : Value) (cat : Str → Option Bool) : Prop := ∀ (x : Str) (D : Addr) (b : Bool), cat x = some b → X.mg x = some (.ref D) → PySem.W.exmOne X.K (.ref D) c = some b
section
variable {X : Cx} {W : WX} {x n : Str} {c : Value} {i : Nat} {body suite : List Stmt} {b₀ : Stmt} {np pos pos' : Pos} {mb : MS} {cat : Str → Option Bool} {oc : Sl → Ot} {mh : Str → Addr → MS}
theorem ss_try (hs : X.stack = X.env :: X.outer) (hf : X.env.frame = some X.env.locals) (hN : X.N.Nodup) (hi : X.N[i]? = some n) (hln : X.env.kindOf n = some .local) (hc : Names X x c) (tk : L2N.Takes X W)
    (hb : ∀ (W' : WX) (pn : List (Addr × Obj)) (xe : Value → Shared → Prop), L2N.Takes (X.tr pn xe) W' → PassesOwn (model X.prog X.w) X.A X.env xe → SSs (X.tr pn xe) W' body mb)
    (hcat : CatOk X c cat)
    (hsu : ∀ (y : Str) (D a : Addr) (oe : Obj) (pn : List (Addr × Obj)), cat y = some true → X.mg y = some (.ref D) → L2N.Zn (.ref D) none oe → (∃ vs, oe.data = .fields vs) → SSs (X.suite a ((a, oe) :: pn)) W0 (b₀ :: suite) (mh y a))
    (hoc : ∀ (y : Str) (a : Addr) (s : Sl), cat y = some true → s[i]? = some (.exn a) → clrO i (mh y a s) = oc (s.set i .un)) :
    SS X W (.Try body [.ExceptHandler (some (.Name x np)) (some n) (b₀ :: suite) pos'] [] [] pos) (mTry mb cat i oc) :=
  PS.imp (L2N.ps_try_as (tb := fun W' => tS X W' mb) (ts := fun a cls d E σ H => ∃ y D, cat y = some true ∧ X.mg y = some (.ref D) ∧ cls = .ref D ∧ d = none ∧ tS X W0 (mh y a) E σ H) (Wout := W) hs hf hN hi hln hc tk (fun W' pn xe t po => hb W' pn xe t po)
    (fun a oe cls d pn hz hfl => ⟨fun pins s σ H E I ⟨y, D, h1, h2, h3, h4, q⟩ => by
      subst h3
      subst h4
      exact (hsu y D a oe pn h1 h2 hz hfl).run pins s σ H E I q⟩)) fun E σ H ⟨c', F, s, k, q⟩ => ⟨c'.fix F, F, s, k.fix, by
    unfold mTry at q
    cases hm : mb s with
    | exc y s1 =>
      rw [hm] at q
      intro D σ' F' H' hD k0
      obtain ⟨k', ee⟩ := k.unfix k0
      cases hcy : cat y with
      | none =>
        simp only [hcy] at q
        exact q.elim
      | some b =>
        simp only [hcy] at q
        refine ⟨b, hcat y D b hcy hD, fun hb a' ha' => ?_, fun hb => ?_⟩
        · subst hb
          by_cases hl : i < s1.length
          · simp only [hl, if_true] at q
            have hget : (s1.set i (.exn a'))[i]? = some (.exn a') := List.getElem?_set_self hl
            have ho := hoc y a' _ hcy hget
            rw [List.set_set] at ho
            refine ⟨y, D, hcy, hD, rfl, rfl, c', F', _, k'.set_exn a', ?_⟩
            rw [← ho] at q
            cases hmh : mh y a' (s1.set i (.exn a')) with
            | nx s2 =>
              rw [hmh] at q
              exact fun σ2 F2 H2 k2 e2 => q _ F2 H2 (k2.set_un none) (ee.trans e2)
            | rt d s2 =>
              rw [hmh] at q
              exact fun v σ2 F2 H2 k2 e2 b2 => q v _ F2 H2 (k2.set_un none) (ee.trans e2) b2
            | bk s2 =>
              rw [hmh] at q
              exact fun σ2 F2 H2 k2 e2 => q _ F2 H2 (k2.set_un none) (ee.trans e2)
            | ct s2 =>
              rw [hmh] at q
              exact fun σ2 F2 H2 k2 e2 => q _ F2 H2 (k2.set_un none) (ee.trans e2)
            | exc z s2 =>
              rw [hmh] at q
              exact q.elim
            | fail =>
              rw [hmh] at q
              exact q.elim
          · simp only [hl, if_false] at q
            exact q.elim
        · subst hb
          exact q D σ' F' H' hD k'
    | nx s1 =>
      rw [hm] at q
      exact fun σ2 F2 H2 k2 e2 => q σ2 F2 H2 (k.unfix k2).1 e2
    | rt d s1 =>
      rw [hm] at q
      exact fun v σ2 F2 H2 k2 e2 => q v σ2 F2 H2 (k.unfix k2).1 e2
    | bk s1 =>
      rw [hm] at q
      exact fun σ2 F2 H2 k2 e2 => q σ2 F2 H2 (k.unfix k2).1 e2
    | ct s1 =>
      rw [hm] at q
      exact fun σ2 F2 H2 k2 e2 => q σ2 F2 H2 (k.unfix k2).1 e2
    | fail =>
      rw [hm] at q
      exact q⟩
end
end DV

/-! DV, part K: index of tuples and lists, repr, zip. -/
namespace DV
open PySem PySem.Spec PyProof.Rows L2

/-! ### index -/
def dIndex (d e : D) : Option D := match d with
  | .tuple ds => if SeqAt.shaped (.tuple ds) && SeqAt.shaped e then (ds.findIdx? fun z => PyData.eqv z e).map fun j => .int (Int.ofNat j) else none
  | .list ds => if SeqAt.shaped (.list ds) && SeqAt.shaped e then (ds.findIdx? fun z => PyData.eqv z e).map fun j => .int (Int.ofNat j) else none
  | _ => none
def rIndexT (K : PySem.W.Frag) : V → List V → Hp → VK → Prop := fun x xs H Q => ∃ (a : Addr) (y : V) (d : PyData) (ws : List V) (ds : List PyData) (j : Nat) (z : PyData), x = V.ref a ∧ xs = [y] ∧ SqT K H a ws ∧ DpAll K H ws ds ∧ Dp K H y d ∧
  SeqAt.shaped (.tuple ds) = true ∧ SeqAt.shaped d = true ∧ ds[j]? = some z ∧ PyData.eqv z d = true ∧ (∀ (m : Nat) (z' : PyData), m < j → ds[m]? = some z' → PyData.eqv z' d = false) ∧ Q (.int (j : Nat)) H
theorem mt_indexT {X : Cx} (hu : X.A.units + 65 < cLine) : MtR X "tuple.index" (rIndexT X.K) := by
  intro pins s σ H x xs v us Q I rx rxs h
  obtain ⟨a, y, d, ws, ds, j, z, rfl, rfl, hs, ha, hy, sl, sd, hz, hzj, hno, q⟩ := h
  cases rx
  cases rxs with
  | cons ry rt =>
    rename_i uy ut
    cases rt
    obtain ⟨bs, r1⟩ := Dp.reads I d y uy hy ry
    have hxs : PyData.canLayAll0 ds = true := SeqAt.canLay_of_shaped (shaped_tup sl)
    have hroom : X.A.units + 1 + min (PyData.depthAll ds) d.depth < cLine := room_in_shaped sd hu
    obtain ⟨its, rv, ⟨⟨cls, dd, data, sls⟩, ho, hc, n, hdt⟩, hlen⟩ := I.tuple hs
    simp only at hc hdt
    subst hc hdt
    obtain ⟨as, h4⟩ := Dp.readsAll I ds _ its ha rv
    have hn : its.length = ds.length := SeqAt.ReadsAll.length ds its as h4
    have hmap : its.map (SeqAt.readOf s.heap) = ds := SeqAt.readsAll_map ds its as hxs h4
    have hvl := rv.length
    obtain ⟨hjd, _⟩ := List.getElem?_eq_some_iff.mp hz
    have hjl : j < its.length := by omega
    have hj : j < its.toArray.size := by simpa using hjl
    have at_ : ∀ (m : Nat) (hm : m < its.toArray.size) (z' : PyData), ds[m]? = some z' → SeqAt.readOf s.heap its.toArray[m] = z' := by
      intro m hm z' hz'
      have hml : m < its.length := by simpa using hm
      rw [← hmap, List.getElem?_map, List.getElem?_eq_getElem hml] at hz'
      have e1 : SeqAt.readOf s.heap its[m] = z' := Option.some.inj (show some (SeqAt.readOf s.heap its[m]) = some z' from hz')
      simpa using e1
    refine call_meets PySem.F.slot_tuple_index ⟨_, ho, rfl⟩ PySem.F.entry_tuple_index (PySem.F.args_tuple_index_2 _ _)
      (TI.tuple_indexAt a its.toArray n dd sls uy (fun u => PyData.eqv (SeqAt.readOf s.heap u) d) j hj ?_ ?_) ⟨ho, SeqAt.items_eqAt (vs := its.toArray) (show ReadsAll s.heap its.toArray.toList ds as from h4) r1 hxs (SeqAt.canLay_of_shaped sd) hroom, ?_⟩
    · show PyData.eqv (SeqAt.readOf s.heap its.toArray[j]) d = true
      rw [at_ j hj z hz]
      exact hzj
    · intro m hm hmj
      have hmd : m < ds.length := by omega
      have hz' : ds[m]? = some ds[m] := List.getElem?_eq_getElem hmd
      show PyData.eqv (SeqAt.readOf s.heap its.toArray[m]) d = false
      rw [at_ m hm _ hz']
      exact hno m _ hmj hz'
    · exact ⟨.int (j : Nat), H, I.tok _, ⟨_, rfl⟩, q⟩
theorem sqZ_obj {X : Cx} {pins : List (Addr × Obj)} {σ : L2.St} {H F : Hp} {s : Shared} {a : Addr} {xs : List V} (I : Inv X pins σ H s) (e : Ex F H) (h : SqZ X.K F a xs) : ∃ o, s.heap.get? a = some o ∧ o.cls = .type "tuple" ∧ o.dict = none := by
  rcases h with ⟨o, h, d⟩ | ⟨o, its, n, h1, h2, h3, _⟩
  · obtain ⟨h1, _, _, _, o', h2, h3, _⟩ := (show ObjOk X.prog X.w H s.heap a (.frz o (.tup xs)) from I.hok a _ (e _ _ h))
    rw [h1] at h2
    cases h2
    exact ⟨o, h1, h3, d⟩
  · exact ⟨o, I.kIn _ _ h1, h2, h3⟩
section
variable {X : Cx} {W : WX} {o e : Expr} {es : List Expr} {name : Str} {apos cpos : Pos} {id : String} {r : V → List V → Hp → VK → Prop} {to : TE} {t : TA}
/-- t.m(..), t a tuple -/
theorem pe_tm (slot : Slot "tuple" name id) (hty : typeOf (.builtin id) = pure (.type "method_descriptor")) (hm : MtR X id r) (ho : PE X o to) (ha : PA X (e :: es) t)
    (hbase : attributeBase o name X.env (eval o X.env) = eval o X.env := by rfl)
    (hfew : ((backTo cpos (starEach (e :: es) X.env)).all (fun x => !x.1) && (backToKw cpos (keywordEach [] X.env)).all (fun x => x.1.isSome)
      && decide ((e :: es).length + ([] : List Keyword).length + (if ([] : List Keyword).isEmpty then 0 else 1) < 30)) = true := by rfl)
    (hline : (apos.endLine == cpos.line) = true := by rfl) (hs : starEach (e :: es) X.env = (false, eval e X.env) :: starEach es X.env := by rfl) (hplain : (backTo cpos (starEach es X.env)).any (·.1) = false := by rfl) :
    PE X (.Call (.Attribute o name apos) (e :: es) [] cpos) (fun σ H Q => to σ H fun x H1 => (∃ p F xs, x = .ref p ∧ Ex F H1 ∧ SqZ X.K F p xs) ∧ t σ H1 fun xs H2 => r x xs H2 Q) := by
  refine ⟨fun pins s σ H Q I h => ?_⟩
  refine wpAny_Call_method_late hbase hfew hline rfl (thn (ho.run pins s σ H _ I h) fun v s1 ⟨x, H1, I1, r1, ⟨p, F, xs, ex, e1, hq⟩, q1⟩ => ?_)
  subst ex
  obtain ⟨ob, g1, g2, g3⟩ := sqZ_obj I1 e1 hq
  cases (show v = Value.ref p from r1)
  refine ⟨"tuple", id, PySem.F.plainAttrs_tuple, slot, hty, ⟨ob, g1, g2⟩, fun a ea => ?_, ?_⟩
  · cases ea
    exact ⟨ob, g1, g3⟩
  have hA := ha.run cpos pins s1 σ H1 _ I1 q1
  rw [hs] at hA ⊢
  refine Calls.callWith_builtin (by show (false || (backTo cpos (starEach es X.env)).any (·.1)) = false; rw [hplain] <;> rfl) (Calls.evalArgs_plain ?_)
  exact thn hA fun us s2 ⟨vs, H2, I2, r2, q2⟩ => hm pins s2 σ H2 (.ref p) vs _ us Q I2 rfl r2 q2
theorem dIndex_some {ds : List D} {e : D} {z : D} (h : ((ds.findIdx? fun z => PyData.eqv z e).map fun j => PyData.int (Int.ofNat j)) = some z) :
    ∃ (j : Nat) (y : D), z = .int (j : Nat) ∧ ds[j]? = some y ∧ PyData.eqv y e = true ∧ ∀ (m : Nat) (z' : PyData), m < j → ds[m]? = some z' → PyData.eqv z' e = false := by
  cases hf : ds.findIdx? fun z => PyData.eqv z e with
  | none =>
    rw [hf] at h
    cases h
  | some j =>
    rw [hf] at h
    cases h
    obtain ⟨hj, h1, h2⟩ := List.findIdx?_eq_some_iff_getElem.mp hf
    refine ⟨j, ds[j], rfl, List.getElem?_eq_getElem hj, h1, fun m z' hm hz => ?_⟩
    have hm' : m < ds.length := by omega
    rw [List.getElem?_eq_getElem hm'] at hz
    cases hz
    simpa using h2 m hm
def mIndex (m me : ME) : ME := fun s => bnd (m s) fun d s => match d with
  | .tuple ds => bnd (me s) fun e s => optR (dIndex (.tuple ds) e) s
  | .list ds => bnd (me s) fun e s => optR (dIndex (.list ds) e) s
  | _ => .fail
theorem se_index {m me : ME} (hu : X.A.units + 65 < cLine) (h : SE X W o m) (he : SE X W e me)
    (hbase : attributeBase o "index" X.env (eval o X.env) = eval o X.env := by rfl)
    (hfew : ((backTo cpos (starEach [e] X.env)).all (fun x => !x.1) && (backToKw cpos (keywordEach [] X.env)).all (fun x => x.1.isSome)
      && decide (([e] : List Expr).length + ([] : List Keyword).length + (if ([] : List Keyword).isEmpty then 0 else 1) < 30)) = true := by rfl)
    (hline : (apos.endLine == cpos.line) = true := by rfl) (hs : starEach [e] X.env = (false, eval e X.env) :: starEach [] X.env := by rfl) (hplain : (backTo cpos (starEach [] X.env)).any (·.1) = false := by rfl) :
    SE X W (.Call (.Attribute o "index" apos) [e] [] cpos) (mIndex m me) := by
  have hT := PE.imp (pe_tm (apos := apos) (cpos := cpos) PySem.F.slot_tuple_index PySem.F.type_tuple_index (mt_indexT hu) h (pa_cons he pa_nil hs) hbase hfew hline hs hplain) (fun σ H Q (q : (∃ c F s, Ok X.K c F σ H s ∧ RdE X.K X.mg c W σ F (mIndex m me s) Q ∧ ∀ ds s', m s ≠ .ok (.list ds) s')) => by
    obtain ⟨c, F, s, k, q, hnl⟩ := q
    refine ⟨c, F, s, k, ?_⟩
    unfold mIndex at q
    cases hm : m s with
    | exc x s' =>
      rw [hm] at q
      exact q
    | fail =>
      rw [hm] at q
      exact q
    | ok d0 s' =>
      rw [hm] at q
      intro v F1 H1 k1 e1 b1
      cases d0 with
      | tuple ds =>
        cases b1 with
        | tup hz al =>
          refine ⟨⟨_, F1, _, rfl, k1.fh, hz⟩, c, F1, s', k1, rdE_bnd (rdE_mono q e1) fun d s2 w F2 H2 q2 k2 e2 b2 => ?_⟩
          unfold dIndex at q2
          dsimp only at q2
          split at q2
          · rename_i cc
            rw [Bool.and_eq_true] at cc
            cases hr : (ds.findIdx? fun z => PyData.eqv z d).map fun j => PyData.int (Int.ofNat j) with
            | none =>
              rw [hr] at q2
              exact q2.elim
            | some z =>
              rw [hr] at q2
              obtain ⟨j, y, rfl, hj, hy, hno⟩ := dIndex_some hr
              exact ⟨_, _, d, _, ds, j, y, rfl, rfl, sqT_mono (e2.trans k2.fh) hz.sq, (dpAll_mono (e2.trans k2.fh) al).dp, (dp_mono k2.fh b2).dp, cc.1, cc.2, hj, hy, hno, q2 _ F2 H2 k2 e2 (.int _)⟩
          · exact q2.elim
      | list ds => exact absurd hm (hnl _ _)
      | _ => exact q.elim)
  have hL := PE.imp (pe_bm (apos := apos) (cpos := cpos) PySem.F.plainAttrs_list PySem.F.slot_list_index PySem.F.type_list_index (mt_indexD hu) h (pa_cons he pa_nil hs) hbase hfew hline hs hplain) (fun σ H Q (q : (∃ c F s ds, Ok X.K c F σ H s ∧ RdE X.K X.mg c W σ F (mIndex m me s) Q ∧ ∃ s', m s = .ok (.list ds) s')) => by
    obtain ⟨c, F, s, ds, k, q, s', hm⟩ := q
    refine ⟨c, F, s, k, ?_⟩
    unfold mIndex at q
    rw [hm] at q ⊢
    intro v F1 H1 k1 e1 b1
    cases b1 with
    | lst hz al =>
      refine ⟨.inl ⟨rfl, _, sqL_mono k1.fh hz⟩, c, F1, s', k1, rdE_bnd (rdE_mono q e1) fun d s2 w F2 H2 q2 k2 e2 b2 => ?_⟩
      unfold dIndex at q2
      dsimp only at q2
      split at q2
      · rename_i cc
        rw [Bool.and_eq_true] at cc
        cases hr : (ds.findIdx? fun z => PyData.eqv z d).map fun j => PyData.int (Int.ofNat j) with
        | none =>
          rw [hr] at q2
          exact q2.elim
        | some z =>
          rw [hr] at q2
          obtain ⟨j, y, rfl, hj, hy, hno⟩ := dIndex_some hr
          exact ⟨_, _, d, ds, j, y, rfl, rfl, .lst (sqL_mono (e2.trans k2.fh) hz) (dpAll_mono (e2.trans k2.fh) al).dp, (dp_mono k2.fh b2).dp, cc.1, cc.2, hj, hy, hno, q2 _ F2 H2 k2 e2 (.int _)⟩
      · exact q2.elim)
  refine ⟨fun pins s σ H Q I q => ?_⟩
  obtain ⟨c, F, sl, k, q⟩ := q
  by_cases hm : ∃ ds s', m sl = .ok (.list ds) s'
  · obtain ⟨ds, s', hm⟩ := hm
    exact hL.run pins s σ H Q I ⟨c, F, sl, ds, k, q, s', hm⟩
  · exact hT.run pins s σ H Q I ⟨c, F, sl, k, q, fun ds s' h => hm ⟨ds, s', h⟩⟩
end

/-! ### repr -/
def dRepr (d : D) : Option D := if (d.showable && !d.hasDict && decide (d.depth ≤ 60) && decide (d.shown.length ≤ 1000000)) = true then some (.str d.shown) else none
theorem cd_repr {X : Cx} (hg : X.A.guards = some []) (hu : X.A.units + 65 < cLine) : CallD X (.builtin "repr") dRepr := by
  intro pins s σ H vs us Q I r ⟨F, v, d, z, h1, e, h2, h3, h4⟩
  subst e
  obtain ⟨u, rfl, rv⟩ := vals1 r
  unfold dRepr at h3
  split at h3
  · rename_i hc
    cases h3
    simp only [Bool.and_eq_true, Bool.not_eq_true', decide_eq_true_eq] at hc
    obtain ⟨⟨⟨c1, c2⟩, c3⟩, c4⟩ := hc
    have hq : ∀ t, EP X pins σ Q (.str d.shown t) { s with toks := s.toks + 1 } := fun t => ⟨.str d.shown, H, I.tok _, ⟨t, rfl⟩, h4 _ F H (.refl h1) (.str _)⟩
    have hdp := bDp_dp h2 h1
    obtain ⟨as, rd⟩ := Dp.reads I d v u hdp rv
    have hsz : d.shown.length ≤ sizeLine := sz_le c4
    cases rd with
    | none => exact PySem.P.repr_of_none (hq _)
    | bool b => exact PySem.P.repr_of_bool (hq _)
    | int i t =>
      refine PySem.P.repr_of_int ?_ (hq _)
      simpa [PyData.showable] using c1
    | str x t => exact PySem.P.repr_of_str (hq _) hsz
    | list a1 a2 a3 a4 =>
      exact PySem.repr_of_reads' (h₀ := s.heap) (.list a1 a2 a3 a4) c1 (PyData.noDict_hsm c2) hg (by omega) (fun _ _ z => z) (fun h' u tk hk => ⟨.str _, H, I.kept (t' := tk) hk, ⟨u, rfl⟩, h4 _ F H (.refl h1) (.str _)⟩) hsz
    | tuple a1 a2 a3 a4 =>
      exact PySem.repr_of_reads' (h₀ := s.heap) (.tuple a1 a2 a3 a4) c1 (PyData.noDict_hsm c2) hg (by omega) (fun _ _ z => z) (fun h' u tk hk => ⟨.str _, H, I.kept (t' := tk) hk, ⟨u, rfl⟩, h4 _ F H (.refl h1) (.str _)⟩) hsz
    | dict a1 a2 a3 a4 a5 => simp [PyData.hasDict] at c2
  · cases h3

/-! ### zip -/
theorem walks_zip {K : PySem.W.Frag} {F : Hp} {a b : Addr} {xs ys : List V} {ds es : List D} (ha : SqL K F a xs) (hb : SqL K F b ys) (al : ShAll K F xs ds) (bl : ShAll K F ys es) : Walks K (Itz K a b) F (zipD ds es) := by
  have l1 := dpAll_length al
  have l2 := dpAll_length bl
  have at_ : ∀ {i : Nat}, i < (zipD ds es).length → ∃ x y d e, xs[i]? = some x ∧ ys[i]? = some y ∧ ds[i]? = some d ∧ es[i]? = some e ∧ Sh K F x d ∧ Sh K F y e := fun {i} hi => by
    rw [zipD_len] at hi
    have h1 : i < xs.length := by omega
    have h2 : i < ys.length := by omega
    obtain ⟨d, g1, g2⟩ := dpAll_get al (List.getElem?_eq_getElem h1)
    obtain ⟨e, g3, g4⟩ := dpAll_get bl (List.getElem?_eq_getElem h2)
    exact ⟨_, _, d, e, List.getElem?_eq_getElem h1, List.getElem?_eq_getElem h2, g1, g3, g2, g4⟩
  refine ⟨fun i F1 H hi e1 e2 => ?_, fun i F1 H x H' hi e1 e2 hy => ?_, fun i F1 H hi e1 e2 => ?_⟩
  · obtain ⟨x, y, d, e, g1, g2, _⟩ := at_ hi
    exact ⟨xs, ys, x, y, sqL_mono (e1.trans e2) ha, sqL_mono (e1.trans e2) hb, g1, g2⟩
  · obtain ⟨x', y', d, e, g1, g2, g3, g4, s1, s2⟩ := at_ hi
    obtain ⟨T, u, w, rfl, hT, rfl, k1, k2⟩ := hy
    have q1 := k1 xs (sqL_mono (e1.trans e2) ha)
    have q2 := k2 ys (sqL_mono (e1.trans e2) hb)
    rw [g1] at q1
    rw [g2] at q2
    cases q1
    cases q2
    exact ⟨.new hT, _, zipD_get g3 g4, .inr ⟨T, _, _, rfl, rfl, .inl (.inl upd_same), .cons (dp_mono e1 s1) (.cons (dp_mono e1 s2) .nil)⟩⟩
  · rw [zipD_len] at hi
    exact ⟨xs, ys, sqL_mono (e1.trans e2) ha, sqL_mono (e1.trans e2) hb, by omega⟩
theorem walks_zipT {K : PySem.W.Frag} {F : Hp} {a b : Addr} {xs ys : List V} {ds es : List D} (ha : SqT K F a xs) (hb : SqT K F b ys) (al : ShAll K F xs ds) (bl : ShAll K F ys es) : Walks K (RZ.ItzT K a b) F (zipD ds es) := by
  have l1 := dpAll_length al
  have l2 := dpAll_length bl
  have at_ : ∀ {i : Nat}, i < (zipD ds es).length → ∃ x y d e, xs[i]? = some x ∧ ys[i]? = some y ∧ ds[i]? = some d ∧ es[i]? = some e ∧ Sh K F x d ∧ Sh K F y e := fun {i} hi => by
    rw [zipD_len] at hi
    have h1 : i < xs.length := by omega
    have h2 : i < ys.length := by omega
    obtain ⟨d, g1, g2⟩ := dpAll_get al (List.getElem?_eq_getElem h1)
    obtain ⟨e, g3, g4⟩ := dpAll_get bl (List.getElem?_eq_getElem h2)
    exact ⟨_, _, d, e, List.getElem?_eq_getElem h1, List.getElem?_eq_getElem h2, g1, g3, g2, g4⟩
  refine ⟨fun i F1 H hi e1 e2 => ?_, fun i F1 H x H' hi e1 e2 hy => ?_, fun i F1 H hi e1 e2 => ?_⟩
  · obtain ⟨x, y, d, e, g1, g2, _⟩ := at_ hi
    exact ⟨xs, ys, x, y, sqT_mono (e1.trans e2) ha, sqT_mono (e1.trans e2) hb, g1, g2⟩
  · obtain ⟨x', y', d, e, g1, g2, g3, g4, s1, s2⟩ := at_ hi
    obtain ⟨T, u, w, rfl, hT, rfl, k1, k2⟩ := hy
    have q1 := k1 xs (sqT_mono (e1.trans e2) ha)
    have q2 := k2 ys (sqT_mono (e1.trans e2) hb)
    rw [g1] at q1
    rw [g2] at q2
    cases q1
    cases q2
    exact ⟨.new hT, _, zipD_get g3 g4, .inr ⟨T, _, _, rfl, rfl, .inl (.inl upd_same), .cons (dp_mono e1 s1) (.cons (dp_mono e1 s2) .nil)⟩⟩
  · rw [zipD_len] at hi
    exact ⟨xs, ys, sqT_mono (e1.trans e2) ha, sqT_mono (e1.trans e2) hb, by omega⟩
section
variable {X : Cx} {W : WX} {e e2 : Expr} {p pos tpos : Pos} {elts : List Expr} {kk : Nat} {ms : MA}
theorem sit_zip (hg : Gl X "zip") (hm : X.mg "zip" = none) (ha : SA X W [e, e2] ms)
    (hs : starEach [e, e2] X.env = (false, eval e X.env) :: starEach [e2] X.env := by rfl) (hpl : (backTo pos (starEach [e2] X.env)).any (·.1) = false := by rfl) :
    SIT X W (.Tuple elts kk tpos) (.Call (.Name "zip" p) [e, e2] [] pos) (mZip ms) := PI.imp (RZ.pi_zipA hg hm ha hs hpl) fun σ H R ⟨c, F, s, k, q⟩ => ⟨c, F, s, k, rdA_bndI q fun ds s1 vs F1 H1 q1 k1 e1 b1 => by
    split at q1
    · rename_i xs ys
      cases b1 with
      | cons h1 t1 =>
        cases t1 with
        | cons h2 t2 =>
          cases t2
          cases h1 with
          | lst g1 a1 =>
            cases h2 with
            | lst g2 a2 => exact ⟨_, _, _, _, rfl, .inl ⟨sqL_mono k1.fh g1, sqL_mono k1.fh g2, q1 _ F1 H1 k1 e1 (walks_zip g1 g2 a1 a2)⟩⟩
    · rename_i xs ys
      cases b1 with
      | cons h1 t1 =>
        cases t1 with
        | cons h2 t2 =>
          cases t2
          cases h1 with
          | tup g1 a1 =>
            cases h2 with
            | tup g2 a2 => exact ⟨_, _, _, _, rfl, .inr ⟨sqT_mono k1.fh g1.sq, sqT_mono k1.fh g2.sq, q1 _ F1 H1 k1 e1 (walks_zipT g1.sq g2.sq a1 a2)⟩⟩
    · exact q1.elim⟩
end
end DV

/-! DV, part L: isinstance of data, t[::-1]. -/
namespace DV
open PySem PySem.Spec PyProof.Rows L2

/-! ### isinstance(x, T), T a built-in type -/
def tyName (d : D) : String := match d with
  | .none => "NoneType"
  | .bool _ => "bool"
  | .int _ => "int"
  | .str _ => "str"
  | .list _ => "list"
  | .tuple _ => "tuple"
  | .dict _ => "dict"
theorem sh_tyX {K : PySem.W.Frag} {F H : Hp} {v : V} {d : D} (e : Ex F H) (h : Sh K F v d) : TyX K H v (.type (tyName d)) := by
  cases h with
  | non => exact .base .non
  | bl b => exact .base (.bl b)
  | int i => exact .base (.int i)
  | str x => exact .base (.str x)
  | lst h a =>
    rcases h with (h | ⟨o, h⟩) | ⟨o, its, n, h1, h2, _⟩
    · exact .base (.lst (e _ _ h))
    · exact .base (.frz (e _ _ h))
    · exact .kList h1 h2
  | tup h a =>
    rcases h with ⟨o, h, _⟩ | ⟨o, its, n, h1, h2, _⟩
    · exact .fTuple (e _ _ h)
    · exact .kTuple h1 h2
def dIsTup (d : D) : D := .bool (match d with
  | .tuple _ => true
  | _ => false)
def dIsInt (d : D) : D := .bool (match d with
  | .int _ => true
  | .bool _ => true
  | _ => false)
def dIsStr (d : D) : D := .bool (match d with
  | .str _ => true
  | _ => false)
def dIsBool (d : D) : D := .bool (match d with
  | .bool _ => true
  | _ => false)
def dIsList (d : D) : D := .bool (match d with
  | .list _ => true
  | _ => false)
theorem kitB_tup (d : D) : ∃ b, kitB (tyName d) "tuple" = some b ∧ dIsTup d = .bool b := by
  cases d with
  | none => exact ⟨false, (by decide +kernel : kitB "NoneType" "tuple" = some false), rfl⟩
  | bool _ => exact ⟨false, (by decide +kernel : kitB "bool" "tuple" = some false), rfl⟩
  | int _ => exact ⟨false, (by decide +kernel : kitB "int" "tuple" = some false), rfl⟩
  | str _ => exact ⟨false, (by decide +kernel : kitB "str" "tuple" = some false), rfl⟩
  | list _ => exact ⟨false, (by decide +kernel : kitB "list" "tuple" = some false), rfl⟩
  | tuple _ => exact ⟨true, (by decide +kernel : kitB "tuple" "tuple" = some true), rfl⟩
  | dict _ => exact ⟨false, (by decide +kernel : kitB "dict" "tuple" = some false), rfl⟩
theorem kitB_int (d : D) : ∃ b, kitB (tyName d) "int" = some b ∧ dIsInt d = .bool b := by
  cases d with
  | none => exact ⟨false, (by decide +kernel : kitB "NoneType" "int" = some false), rfl⟩
  | bool _ => exact ⟨true, (by decide +kernel : kitB "bool" "int" = some true), rfl⟩
  | int _ => exact ⟨true, (by decide +kernel : kitB "int" "int" = some true), rfl⟩
  | str _ => exact ⟨false, (by decide +kernel : kitB "str" "int" = some false), rfl⟩
  | list _ => exact ⟨false, (by decide +kernel : kitB "list" "int" = some false), rfl⟩
  | tuple _ => exact ⟨false, (by decide +kernel : kitB "tuple" "int" = some false), rfl⟩
  | dict _ => exact ⟨false, (by decide +kernel : kitB "dict" "int" = some false), rfl⟩
theorem kitB_str (d : D) : ∃ b, kitB (tyName d) "str" = some b ∧ dIsStr d = .bool b := by
  cases d with
  | none => exact ⟨false, (by decide +kernel : kitB "NoneType" "str" = some false), rfl⟩
  | bool _ => exact ⟨false, (by decide +kernel : kitB "bool" "str" = some false), rfl⟩
  | int _ => exact ⟨false, (by decide +kernel : kitB "int" "str" = some false), rfl⟩
  | str _ => exact ⟨true, (by decide +kernel : kitB "str" "str" = some true), rfl⟩
  | list _ => exact ⟨false, (by decide +kernel : kitB "list" "str" = some false), rfl⟩
  | tuple _ => exact ⟨false, (by decide +kernel : kitB "tuple" "str" = some false), rfl⟩
  | dict _ => exact ⟨false, (by decide +kernel : kitB "dict" "str" = some false), rfl⟩
theorem kitB_bool (d : D) : ∃ b, kitB (tyName d) "bool" = some b ∧ dIsBool d = .bool b := by
  cases d with
  | none => exact ⟨false, (by decide +kernel : kitB "NoneType" "bool" = some false), rfl⟩
  | bool _ => exact ⟨true, (by decide +kernel : kitB "bool" "bool" = some true), rfl⟩
  | int _ => exact ⟨false, (by decide +kernel : kitB "int" "bool" = some false), rfl⟩
  | str _ => exact ⟨false, (by decide +kernel : kitB "str" "bool" = some false), rfl⟩
  | list _ => exact ⟨false, (by decide +kernel : kitB "list" "bool" = some false), rfl⟩
  | tuple _ => exact ⟨false, (by decide +kernel : kitB "tuple" "bool" = some false), rfl⟩
  | dict _ => exact ⟨false, (by decide +kernel : kitB "dict" "bool" = some false), rfl⟩
theorem kitB_list (d : D) : ∃ b, kitB (tyName d) "list" = some b ∧ dIsList d = .bool b := by
  cases d with
  | none => exact ⟨false, (by decide +kernel : kitB "NoneType" "list" = some false), rfl⟩
  | bool _ => exact ⟨false, (by decide +kernel : kitB "bool" "list" = some false), rfl⟩
  | int _ => exact ⟨false, (by decide +kernel : kitB "int" "list" = some false), rfl⟩
  | str _ => exact ⟨false, (by decide +kernel : kitB "str" "list" = some false), rfl⟩
  | list _ => exact ⟨true, (by decide +kernel : kitB "list" "list" = some true), rfl⟩
  | tuple _ => exact ⟨false, (by decide +kernel : kitB "tuple" "list" = some false), rfl⟩
  | dict _ => exact ⟨false, (by decide +kernel : kitB "dict" "list" = some false), rfl⟩
def mIsI (f : D → D) (m : ME) : ME := fun s => bnd (m s) fun d s => .ok (f d) s
section
variable {X : Cx} {W : WX} {e : Expr} {m : ME} {x : Str} {T : String} {p p1 pos : Pos} {f : D → D}
theorem se_isi (hf : ∀ d, ∃ b, kitB (tyName d) T = some b ∧ f d = .bool b) (hg : Gl X "isinstance") (hm : X.mg "isinstance" = none) (he : SE X W e m) (hgx : Gl X x) (hmx : X.mg x = none) (hb : bootBuiltins x = some (.type T)) (hn : x ≠ "__name__" := by decide) (hdb : (x == ("__debug__" : Str)) = false := by decide)
    (hs : starEach [e, .Name x p1] X.env = (false, eval e X.env) :: starEach [.Name x p1] X.env := by rfl) :
    SE X W (.Call (.Name "isinstance" p) [e, .Name x p1] [] pos) (mIsI f m) :=
  PE.imp (pe_callB call_isi hg hm rfl (pa_cons he (pa_cons (pe_bltn (v := .ty T) hgx hmx hb rfl hn hdb) pa_nil) hs) (he := hs)) fun σ H Q ⟨c, F, s, k, q⟩ => ⟨c, F, s, k, rdE_bnd q fun d s1 v F1 H1 q1 k1 e1 b1 => by
    obtain ⟨b, h1, h2⟩ := hf d
    rw [h2] at q1
    exact ⟨v, .ty T, _, .type T, b, rfl, .ty T, sh_tyX k1.fh b1, kit_ty h1, q1 _ F1 H1 k1 e1 (.bl b)⟩⟩
end

/-! ### t[::-1] -/
section
variable {prog : Program} {w : World} {A : Around} {E : Value → Shared → Prop} {s : Shared}
theorem sliceApplied_rev {sl : Addr} {t : Tok} {n : Nat} {Q : Int × Int × Nat → Shared → Prop} (hs : s.heap.IsSliceOf sl .none .none (.int (-1) t)) (h : Q ((n : Int) - 1, -1, n) s) :
    wpAny (model prog w) A (Builtin.Slice.sliceApplied (.ref sl) (pure (n : Int))) Q E s := by
  obtain ⟨os, hos, hcs, hds⟩ := id hs
  unfold Builtin.Slice.sliceApplied Builtin.Slice.sliceFields
  refine wpAny_bind (wpAny_bind (wpAny_field hos hds (x := .none) rfl (wpAny_bind (wpAny_field hos hds (x := .none) rfl (wpAny_bind (wpAny_field hos hds (x := .int (-1) t) rfl (wpAny_pure ?_)))))))
  refine wpAny_bind (HT.slicePart_ (.int (-1) t) ?_)
  show wpAny _ _ (if ((-1 : Int) == 0) = true then _ else _) _ _ s
  rw [if_neg (by decide)]
  refine wpAny_bind (HT.slicePart_ .none (wpAny_bind (HT.slicePart_ .none (wpAny_bind (wpAny_pure ?_)))))
  show wpAny _ _ (pure ((n : Int) - 1, (-1 : Int), Builtin.Slice.slicePlaces ((n : Int) - 1) (-1) (-1))) _ _ s
  have e : Builtin.Slice.slicePlaces ((n : Int) - 1) (-1) (-1) = n := by
    unfold Builtin.Slice.slicePlaces
    have h1 : ¬ ((-1 : Int) > 0) := by omega
    simp only [h1, if_false, Int.neg_neg, Int.ediv_one]
    split <;> omega
  rw [e]
  exact wpAny_pure h
theorem fm_congr {α β : Type} {f g : α → Option β} : ∀ {l : List α}, (∀ m ∈ l, f m = g m) → l.filterMap f = l.filterMap g
  | [], _ => rfl
  | m :: l, h => by
    rw [List.filterMap_cons, List.filterMap_cons, h m List.mem_cons_self, fm_congr fun m hm => h m (List.mem_cons_of_mem _ hm)]
theorem pick_rev (xs : Array Value) : ((List.range xs.size).filterMap fun (m : Nat) => xs[(((xs.size : Nat) : Int) - 1 + (m : Int) * (-1)).toNat]?).toArray = xs.toList.reverse.toArray := by
  congr 1
  have e : ∀ m ∈ List.range xs.size, xs[(((xs.size : Nat) : Int) - 1 + (m : Int) * (-1)).toNat]? = xs.toList.reverse[m]? := fun m hm => by
    have hm := List.mem_range.mp hm
    have h1 : (((xs.size : Nat) : Int) - 1 + (m : Int) * (-1)).toNat = xs.size - 1 - m := by omega
    rw [h1, List.getElem?_reverse (by simpa using hm)]
    simp
  rw [fm_congr e]
  have l : xs.size = xs.toList.reverse.length := by simp
  rw [l]
  generalize xs.toList.reverse = ys
  apply List.ext_getElem?
  intro i
  have z : ∀ (zs : List Value), (List.range zs.length).filterMap (fun m => zs[m]?) = zs := fun zs => by
    induction zs with
    | nil => rfl
    | cons y ys ih =>
      rw [List.length_cons, List.range_succ_eq_map, List.filterMap_cons]
      simp only [List.getElem?_cons_zero, List.filterMap_map]
      congr 1
  rw [z]
theorem getItem_tuple_rev {t sl : Addr} {items : Array Value} {tk : Tok} {Q : Value → Shared → Prop} (ht : IsTup s.heap t items) (hs : s.heap.IsSliceOf sl .none .none (.int (-1) tk))
    (h : Q (.ref s.heap.objs.size) { s with heap := s.heap.push { cls := .type "tuple", data := .seq items.toList.reverse.toArray } })
    (hsz : items.size ≤ sizeLine) : wpAny (model prog w) A (getItem (.ref t) (.ref sl)) Q E s := by
  have htake : sizeOk (.seq items.toList.reverse.toArray) := by
    show items.toList.reverse.toArray.size ≤ sizeLine
    simpa using hsz
  obtain ⟨os, hos, hcs, hds⟩ := id hs
  have hTs : s.TypeIs (.ref sl) "slice" := ⟨os, hos, hcs⟩
  unfold getItem
  try with_reducible refine wpAny_holding ?_
  first | refine wpAny_bind (wpAny_pure ?_) | skip
  refine wpAny_bind (wpAny_sequenceKey ht.typeIs (by decide) ?_)
  refine wpAny_bind (wpAny_callSpecial?_slot (name := Str.ofString "__getitem__") ht.typeIs PyProof.Rows.slot_tuple_getitem
    (wpAny_call_entry PyProof.Rows.slot_tuple_getitem ht.typeIs entry_tuple_getitem ?_ (args_tuple_getitem _ _)))
  show wpAny _ _ (Builtin.Tuple.tupleItemsOf (.ref t) >>= _) _ _ s
  refine wpAny_bind (tupleItemsOf_ ht ?_)
  refine wpAny_bind (wpAny_typeOf hTs ?_)
  rw [if_pos (by decide)]
  refine wpAny_bind (sliceApplied_rev hs ?_)
  have hno : ¬ ((((items.size : Nat) : Int) - 1 == 0 && (-1 : Int) == 1 && items.size == items.size) = true) := by
    intro q
    rw [Bool.and_eq_true, Bool.and_eq_true] at q
    exact absurd q.1.2 (by decide)
  show wpAny _ _ (if (((items.size : Nat) : Int) - 1 == 0 && (-1 : Int) == 1 && items.size == items.size) = true then _ else _) _ _ s
  rw [if_neg hno, pick_rev]
  first
    | exact wpAny_bind (m := Builtin.Tuple.tupleExact _) (wpAny_newObj_type (wpAny_pure ⟨_, rfl, wpAny_pure h⟩) htake)
    | exact wpAny_bind (m := Builtin.Tuple.tupleExact _) (wpAny_newObj_type (wpAny_bind (wpAny_pure (wpAny_pure ⟨_, rfl, wpAny_pure h⟩))) htake)
    | exact wpAny_bind (wpAny_bind (m := Builtin.Tuple.tupleExact _) (wpAny_newObj_type (wpAny_pure (wpAny_pure ⟨_, rfl, wpAny_pure h⟩)) htake))
    | exact wpAny_bind (wpAny_bind (m := Builtin.Tuple.tupleExact _) (wpAny_newObj_type (wpAny_pure ⟨_, rfl, wpAny_pure h⟩) htake))
end
def dRev (d : D) : Option D := match d with
  | .tuple ds => some (.tuple ds.reverse)
  | _ => none
def mRev (m ms : ME) : ME := fun s => bnd (m s) fun d s => bnd (ms s) fun e s => match d, e with
  | .tuple ds, .int (-1) => .ok (.tuple ds.reverse) s
  | _, _ => .fail
section
variable {X : Cx} {W : WX} {e st : Expr} {m ms : ME} {p2 pos : Pos}
theorem vals_reverse : ∀ {xs : List V} {us : List Value}, Vals xs us → Vals xs.reverse us.reverse
  | _, _, .nil => .nil
  | _, _, .cons h t => by
    rw [List.reverse_cons, List.reverse_cons]
    exact (vals_reverse t).append (.cons h .nil)
theorem pe_revT {te ts : TE} (he : PE X e te) (hst : PE X st ts) : PE X (.Subscript e (.Slice none none (some st) p2) pos)
    (fun σ H Q => te σ H fun x H1 => ts σ H1 fun y H2 => y = .int (-1) ∧ ∃ a xs, x = .ref a ∧ SqT X.K H2 a xs ∧ rTupZ xs.reverse H2 Q) := by
  refine ⟨fun pins s σ H Q I h => ?_⟩
  refine Subscript_ (thn (he.run pins s σ H _ I h) fun v s1 ⟨x, H1, I1, r1, q1⟩ => ?_)
  refine wpAny_Slice ?_
  rw [evalPart_none]
  refine wpAny_pure (wpAny_pure ?_)
  rw [evalPart_some]
  refine thn (hst.run pins s1 σ H1 _ I1 q1) fun vst s3 ⟨y, H3, I3, ry, q3⟩ => ?_
  obtain ⟨rfl, a, xs, rfl, hq, q⟩ := q3
  obtain ⟨tk, rfl⟩ := ry
  cases r1
  have I4 : Inv X pins σ H3 { s3 with heap := s3.heap.push { cls := .type "slice", data := .fields #[.none, .none, .int (-1) tk] } } := I3.kept (t' := s3.toks) fun b ob q => Heap.get?_push_of_some _ q
  obtain ⟨its, r, ht, hz⟩ := I4.tuple hq
  show wpAny (model X.prog X.w) X.A (subscriptTail e (.Slice none none (some st) p2) (.ref a) (.ref s3.heap.objs.size)) (EP X pins σ Q) X.xe { s3 with heap := s3.heap.push { cls := .type "slice", data := .fields #[.none, .none, .int (-1) tk] } }
  refine tail_any (ops := [.ref a, .ref s3.heap.objs.size]) ht.typeIs PyProof.Rows.slot_tuple_getitem.lookup (getItem_tuple_rev ht (Heap.IsSliceOf.new ..) ?_ (by rw [List.size_toArray, ← r.length]; exact hz)) (by with_unfolding_all rfl)
  exact fin_tup (s := { s3 with heap := s3.heap.push { cls := .type "slice", data := .fields #[.none, .none, .int (-1) tk] } }) (t' := s3.toks) I4 (vals_reverse r) (by rw [List.length_reverse]; exact hz) q
theorem shAll_reverse {K : PySem.W.Frag} {F : Hp} : ∀ {xs : List V} {ds : List D}, ShAll K F xs ds → ShAll K F xs.reverse ds.reverse
  | _, _, .nil => .nil
  | _, _, .cons h t => by
    rw [List.reverse_cons, List.reverse_cons]
    exact dpAll_app (shAll_reverse t) (.cons h .nil)
theorem se_revT (h : SE X W e m) (hst : SE X W st ms) : SE X W (.Subscript e (.Slice none none (some st) p2) pos) (mRev m ms) :=
  PE.imp (pe_revT h hst) fun σ H Q ⟨c, F, s, k, q⟩ => ⟨c, F, s, k, rdE_bnd q fun d s1 v F1 H1 q1 k1 e1 b1 => ⟨c, F1, s1, k1, rdE_bnd (rdE_mono q1 e1) fun y s2 w F2 H2 q2 k2 e2 b2 => by
    split at q2
    · rename_i ds
      obtain ⟨a, us, rfl, ha, aa⟩ := sh_tup b1
      cases b2
      exact ⟨rfl, a, us, rfl, sqT_mono (e2.trans k2.fh) ha, rTupZ_of k2.fh (shAll_reverse (dpAll_mono e2 aa)) fun v F' H' gr b => q2 v F' H' (k2.grow gr) (e2.trans gr.ff) b⟩
    · exact q2.elim⟩⟩
end
end DV

/-! DV, part M: small words for the printed texts; the head. -/
namespace DV
open PySem PySem.Spec PyProof.Rows L2
theorem u64 {k : Nat} {A : Around} (r : RoomG k A) : A.units + 64 < cLine := by have := r.rm.un; omega
theorem u65 {k : Nat} {A : Around} (r : RoomG k A) : A.units + 65 < cLine := by have := r.rm.un; omega
abbrev veB : List Value := [.type "ValueError", .type "Exception", .type "BaseException", .type "object"]

theorem kitOne_of {K : PySem.W.Frag} {A B : Addr} {b : Bool} (hA : PySem.W.subIn K (.ref A) (.ref A) = some true) (h : PySem.W.subIn K (.ref A) (.ref B) = some b) (hd : PySem.W.hasDictIn K B = true) (ht : PySem.W.typeIn K (.ref B) = some (.type "type")) :
    PySem.W.kitOne K (.ref A) (.ref B) = some b := by
  obtain ⟨cd, hc, _⟩ := PySem.W.any_some hd
  have e : PySem.W.kitCls K (.ref A) (.ref B) = some b := by
    show (if ((PySem.W.clsIn K B).isSome && PySem.W.typeIn K (.ref B) == some (.type "type")) = true then PySem.W.subIn K (.ref A) (.ref B) else none) = some b
    rw [if_pos (by rw [hc, ht] <;> rfl)]
    exact h
  unfold PySem.W.kitOne
  by_cases q : ((Value.ref A : Value) == .ref B) = true
  · rw [if_pos q]
    have e2 : A = B := Value.ref.inj (beq_iff_eq.mp q)
    subst e2
    rw [hA] at h
    exact h
  · rw [if_neg q]
    exact e
/-- how the law's call finds the heap: an abstract heap in which the script alone is tracked (or nothing) -/
structure Start (P : Program) (w : World) (K : PySem.W.Frag) (mg : Str → Option Value) (s₁ : Shared) (a : Addr) (ns : List Int) (base : Heap) (H : Hp) : Prop where
  seq : SqL K H a (ns.map V.int)
  kin : K.In base
  nsm : base.Ns mainGlobals mg
  env : Env0 P w K mg base callerA [] s₁ H
  one : ∀ b u, H b = some u → ∃ o xs, u = .frz o (.lst xs)
theorem start_of {P : Program} {w : World} {K : PySem.W.Frag} {mg mb : Str → Option Value} {a : Addr} {s₁ : Shared} {vs : List Value} {ns : List Int}
    (KX : K.In s₁.heap) (hns : s₁.heap.Ns mainGlobals mg) (hb : s₁.heap.Ns builtinsNs mb) (hbb : ∀ x : Str, x ≠ "__name__" → mb x = bootBuiltins x) (hlim : s₁.heap.NoLimit) (hg : s₁.gens = #[])
    (ha : s₁.heap.get? a = some { cls := .type "list", data := .seq vs.toArray }) (hi : IntsAre vs ns) (hl : ns.length ≤ sizeLine) : ∃ base H, Start P w K mg s₁ a ns base H := by
  have rv := vals_ints hi
  have lenV := hi.length
  have main : ∀ H : Hp, SqL K H a (ns.map V.int) → HOk P w H s₁.heap → (∀ b u, H b = some u → b = a ∧ ∃ o xs, u = .frz o (.lst xs)) → (H a ≠ none → K.lookup a = none) → ∃ base H, Start P w K mg s₁ a ns base H := fun H hS hok hA hK => by
    have dictNot : ∀ {b : Addr} {o : Obj} {es : Array DictEntry} {ep : Nat}, s₁.heap.get? b = some o → o.data = .dict es ep → H b = none := fun {b o es ep} e d => by
      cases q : H b with
      | none => rfl
      | some u =>
        obtain ⟨rfl, _⟩ := hA b u q
        rw [ha] at e
        cases e
        cases d
    have up : ∀ {b : Addr} {m : Str → Option Value}, s₁.heap.Ns b m → (hidT s₁.heap H).Ns b m := fun {b m} ⟨o, es, ep, e, d, r⟩ => ⟨o, es, ep, hidT_get e (dictNot e d), d, r⟩
    have kin : K.In (hidT s₁.heap H) := fun b o e => hidT_get (KX b o e) (by
      cases q : H b with
      | none => rfl
      | some u =>
        obtain ⟨rfl, _⟩ := hA b u q
        have z := hK (by rw [q]; simp)
        rw [z] at e
        cases e)
    obtain ⟨mc, l1, l2⟩ := hlim
    exact ⟨hidT s₁.heap H, H, hS, kin, up hns, ⟨rfl, ⟨kin, up hns, ⟨mb, up hb, hbb⟩, ⟨mc, up l1, l2⟩⟩, fun b o e => of_hidT e, Nat.le_of_eq (hidT_size _ _), trivial, (fun b z => absurd z (by simp [frs])), hok, .of_eq hg⟩, fun b u e => (hA b u e).2⟩
  cases hk : K.lookup a with
  | some o =>
    have e := KX a o hk
    rw [ha] at e
    cases e
    exact main (fun _ => none) (.inr ⟨_, vs.toArray, _, hk, rfl, rfl, rfl, by rw [List.size_toArray, lenV]; exact hl, by simpa using rv⟩) (fun b u z => by cases z) (fun b u z => by cases z) fun z => absurd rfl z
  | none =>
    refine main (upd (fun _ => none) a (.frz { cls := .type "list", data := .seq vs.toArray } (.lst (ns.map V.int)))) (.inl (.inr ⟨_, upd_same⟩)) (fun b u z => ?_) (fun b u z => ?_) fun _ => hk
    · by_cases q : b = a
      · subst q
        rw [upd_same] at z
        cases z
        exact ⟨ha, by rw [List.length_map]; exact hl, vs, _, rv, ha⟩
      · rw [upd_ne q] at z
        cases z
    · by_cases q : b = a
      · subst q
        rw [upd_same] at z
        cases z
        exact ⟨rfl, _, _, rfl⟩
      · rw [upd_ne q] at z
        cases z
/-- what is to be shown of a law: a mirror that its def keeps, which says True of every script -/
structure LawG (P : Program) (w : World) (K : PySem.W.Frag) (mg : Str → Option Value) (n : Nat) (fa : Addr) (x : Str) : Prop where
  ex : ∃ (fd : FuncData) (m : List D → FP) (k : Nat), RoomG k callerA ∧ (∀ (s : Shared) (u : Value), BindsTo s fd ⟨[u], []⟩ [(x, u)]) ∧ (∀ base : Heap, FnG P w K mg base k fa fd [x] (spP K mg m)) ∧
    ∀ ns : List Int, ns.length ≤ n → (∀ i ∈ ns, Builtin.Int.intBits i ≤ 1048576) → m [.list (ns.map .int)] = .ok (.bool true)
theorem room_caller (k : Nat) (h : 3 * k + 5 + callerA.depth < recursionLimit ∧ callerA.units + 16 * k + 200 < cLine := by decide) : RoomG k callerA := ⟨⟨rfl, by omega, h.2⟩, rfl⟩
theorem walk_G {l : PySem.W.OpenLaw} {n : Nat} {q : Program} {loose : List Str} {XP : (Str → Option Value) → Heap → Prop} {YP : World → Heap → Prop} {d : DefRec} {K : Params → PySem.W.Frag} {x : Str}
    (hn : l.most = some n) (hn2 : n ≤ sizeLine) (hdf : d.params.defaults = []) (hY : ∀ (w : World) (h : Heap), YP w h → (K w.params).In h)
    (F : ∀ (w : World) (mg : Str → Option Value) (fa : Addr) (h : Heap), (K w.params).In h → h.Ns mainGlobals mg → mg d.name = some (.ref fa) → LawG l.prog w (K w.params) mg n fa x) :
    PySem.W.WalkO q loose XP YP l.row.toRowW d [] (fun f vs => PySem.call f vs) := by
  refine Att.attach_callB hn hdf fun w s₀ s₁ mg mb fa o pm cd doc a vs ns G Y ho hd hcd hmg hobj hints hlen hbits hg => ?_
  have KX := hY w _ Y
  obtain ⟨fd, m, k, hr, hb, hF, hm⟩ := (F w mg fa _ KX G.T.g hmg).ex
  obtain ⟨base, H, S⟩ := start_of (P := l.prog) (w := w) KX G.T.g G.T.b G.T.builtins G.T.nolimit hg hobj hints (Nat.le_trans hlen hn2)
  have hsp : spP (K w.params) mg m [.ref a] H (fun v _ => v = .bl true) fun _ _ _ => False := by
    refine ⟨H, [.list (ns.map .int)], .refl H, .cons (.lst S.seq (sh_ints ns)) .nil, ?_⟩
    rw [hm ns hlen hbits]
    intro v F' H' _ b
    cases b
    rfl
  refine codeAny_mono ((hF base).run callerA [] s₁ H ⟨[.ref a], []⟩ [.ref a] [.ref a] _ _ hr S.env (hb s₁ (.ref a)) (.cons rfl .nil) hsp) fun r s' h => ?_
  cases r with
  | error e =>
    obtain ⟨_, _, _, _, _, _, _, _, _, _, _, _, z⟩ := h
    exact z.elim
  | ok fl =>
    cases fl with
    | next => exact False.elim h
    | brk => exact False.elim h
    | cont => exact False.elim h
    | ret u =>
      obtain ⟨v, H', os, bare, un, hok', r', q'⟩ := h
      have e1 : v = .bl true := q'
      subst e1
      cases (show u = Value.bool true from r')
      refine ⟨rfl, OldK.of_keep fun b o e => ?_, os, bare⟩
      cases z : H b with
      | none => exact un.keep b o e z (fun y => by cases y) (by simp)
      | some y =>
        obtain ⟨ob, xs, rfl⟩ := S.one b y z
        obtain ⟨e1, _⟩ := S.env.hok b _ z
        obtain ⟨e2, _⟩ := hok' b _ (un.frzs b ob _ z)
        rw [e] at e1
        cases e1
        exact e2
end DV

/-! DV, part Q: comprehensions of two clauses. -/
namespace DV
open PySem PySem.Spec PyProof.Rows L2

def mLcL2 (vs vs1 : List Nat) (g : MG) (t : MB) (src1 : MA) (g1 : MG) (t1 : MB) (m : ME) : List D → Sl → Rs (List D)
  | [], s => .ok [] s
  | d :: ds, s => match g d s with
    | none => .fail
    | some s1 => match t s1 with
      | .ok true s2 => (match src1 s2 with
        | .ok es s3 => (match mLcL vs1 g1 t1 m es (unS s3 vs1) with
          | .ok ys s4 => (match mLcL2 vs vs1 g t src1 g1 t1 m ds (unS s4 vs) with
            | .ok zs s5 => .ok (ys ++ zs) s5
            | _ => .fail)
          | _ => .fail)
        | _ => .fail)
      | .ok false s2 => mLcL2 vs vs1 g t src1 g1 t1 m ds (unS s2 vs)
      | _ => .fail
def mLc2 (vs vs1 : List Nat) (src : MA) (g : MG) (t : MB) (src1 : MA) (g1 : MG) (t1 : MB) (m : ME) : MA := fun s => bnd (src s) fun ds s1 => match mLcL2 vs vs1 g t src1 g1 t1 m ds (unS s1 vs) with
  | .ok ys s2 => if ys.length ≤ 1000000 then .ok ys (keepS s1 s2 vs) else .fail
  | _ => .fail
theorem mLcL2_cons {vs vs1 : List Nat} {g : MG} {t : MB} {src1 : MA} {g1 : MG} {t1 : MB} {m : ME} {d : D} {ds : List D} {s sE : Sl} {ys : List D} (h : mLcL2 vs vs1 g t src1 g1 t1 m (d :: ds) s = .ok ys sE) :
    ∃ s1, g d s = some s1 ∧ ((∃ s2 es s3 us s4 zs, t s1 = .ok true s2 ∧ src1 s2 = .ok es s3 ∧ mLcL vs1 g1 t1 m es (unS s3 vs1) = .ok us s4 ∧ mLcL2 vs vs1 g t src1 g1 t1 m ds (unS s4 vs) = .ok zs sE ∧ ys = us ++ zs) ∨
      ∃ s2, t s1 = .ok false s2 ∧ mLcL2 vs vs1 g t src1 g1 t1 m ds (unS s2 vs) = .ok ys sE) := by
  unfold mLcL2 at h
  split at h
  · cases h
  · rename_i s1 hg
    refine ⟨s1, hg, ?_⟩
    split at h
    · rename_i s2 ht
      split at h
      · rename_i es s3 hs
        split at h
        · rename_i us s4 hm
          split at h
          · rename_i zs s5 hr
            cases h
            exact .inl ⟨s2, es, s3, us, s4, zs, ht, hs, hm, hr, rfl⟩
          · cases h
        · cases h
      · cases h
    · rename_i s2 ht
      exact .inr ⟨s2, ht, h⟩
    · cases h
theorem wipe_sub {σ : L2.St} {vs1 vs : List Nat} (hv : ∀ i ∈ vs1, i ∈ vs) : wipe (wipe σ vs1) vs = wipe σ vs := by
  apply List.ext_getElem?
  intro i
  by_cases hi : i ∈ vs
  · by_cases hl : i < σ.length
    · rw [wipe_in hi (by rw [wipe_length]; exact hl), wipe_in hi hl]
    · rw [List.getElem?_eq_none (by rw [wipe_length, wipe_length]; omega), List.getElem?_eq_none (by rw [wipe_length]; omega)]
  · rw [wipe_get hi, wipe_get hi, wipe_get fun h => hi (hv i h)]
section
variable {X : Cx} {W : WX}
/-- what is walked, as a reading -/
abbrev tI (X : Cx) (W : WX) (P : Hp → It → List D → Prop) (src : MA) : TI := fun σ H R => ∃ c F s, Ok X.K c F σ H s ∧ RdI P X.K X.mg c W σ F (src s) R
theorem lc_loop2 {vs vs1 : List Nat} (hv : ∀ i ∈ vs1, i ∈ vs) {g : MG} {t : MB} {src1 : MA} {g1 : MG} {t1 : MB} {m : ME} {J : It} {ds ys done0 : List D} {c : Cc} {F1 H0' : Hp} {σ : L2.St} {s0 sE : Sl} {D0 : Addr} {tG tG1 : TG} {Fin : Hp → Prop} {P1 : Hp → It → List D → Prop} (wk : Walks X.K J F1 ds)
    (h0 : c.H0 D0 = none) (hF0 : c.F0 D0 = none) (st : LcAt X.K c vs σ D0 F1 H0' s0 done0) (hm : mLcL2 vs vs1 g t src1 g1 t1 m ds s0 = .ok ys sE) (hl : done0.length + ys.length ≤ 1000000)
    (fin : ∀ F' H', LcAt X.K c vs σ D0 F' H' sE (done0 ++ ys) → Ex F1 F' → Fin H')
    (hG : ∀ (i : Nat) (x : V) (F2 H H' : Hp) (d : D) (σ : L2.St) (Q : L2.St → Hp → Prop), i < ds.length → Ex F1 F2 → Ex F2 H → J.yld i H x H' → ds[i]? = some d → RdG X vs σ H' Q (fun _ F3 => F3 = F2) (g d) → tG x σ H' Q)
    (hP1 : ∀ F J ds, P1 F J ds → Walks X.K J F ds)
    (hG1 : ∀ (J : It) (ds : List D) (F1 : Hp), P1 F1 J ds → ∀ (i : Nat) (x : V) (F2 H H' : Hp) (d : D) (σ : L2.St) (Q : L2.St → Hp → Prop), i < ds.length → Ex F1 F2 → Ex F2 H → J.yld i H x H' → ds[i]? = some d → RdG X vs1 σ H' Q (fun _ F3 => F3 = F2) (g1 d) → tG1 x σ H' Q) :
    ∃ Wd : Nat → Nat → Hp → Prop, (∃ m, Wd 0 m H0') ∧ ∀ i m' H, Wd i m' H →
      (J.stop i H ∧ Fin H) ∨ (J.go i H ∧ ∃ Nx : Hp → Prop, (∀ H', Nx H' → ∃ m'', m'' < m' ∧ Wd (i + 1) m'' H') ∧ ∀ x H', J.yld i H x H' → tG x (wipe σ vs) H' fun σ2 H2 => wipe σ2 vs = wipe σ vs ∧ tT X W0 t σ2 H2 fun b H3 =>
        if b = true then tI X W0 P1 src1 σ2 H3 fun J1 H4 => ∃ W1 : Nat → Nat → Hp → Prop, (∃ m, W1 0 m H4) ∧ ∀ j k H, W1 j k H →
          (J1.stop j H ∧ Nx H) ∨ (J1.go j H ∧ ∃ Nx1 : Hp → Prop, (∀ H', Nx1 H' → ∃ k', k' < k ∧ W1 (j + 1) k' H') ∧ ∀ x H', J1.yld j H x H' → tG1 x (wipe σ2 vs1) H' fun σ3 H5 => wipe σ3 vs1 = wipe σ2 vs1 ∧ tT X W0 t1 σ3 H5 fun b H6 =>
            if b = true then tE X W0 m σ3 H6 fun y H7 => ∃ acc, H7 D0 = some (.lst acc) ∧ acc.length < sizeLine ∧ Nx1 (upd H7 D0 (.lst (acc ++ [y]))) else Nx1 H6)
        else Nx H3) := by
  refine ⟨fun i m' H => m' + i = ds.length ∧ ∃ F2 s2 done rest, LcAt X.K c vs σ D0 F2 H s2 done ∧ Ex F1 F2 ∧ mLcL2 vs vs1 g t src1 g1 t1 m (ds.drop i) s2 = .ok rest sE ∧ done ++ rest = done0 ++ ys,
    ⟨ds.length, by omega, F1, s0, done0, ys, st, .refl F1, hm, rfl⟩, ?_⟩
  rintro i m' H ⟨hmi, F2, s2, done, rest, ⟨k, ⟨acc, hD, al⟩, hf, ap, un⟩, e12, hr, hsum⟩
  by_cases hi : i < ds.length
  · have hd : ds[i]? = some ds[i] := List.getElem?_eq_getElem hi
    rw [List.drop_eq_getElem_cons hi] at hr
    obtain ⟨s3, hg, hturn⟩ := mLcL2_cons hr
    refine .inr ⟨wk.go i F2 H hi e12 k.fh, fun H' => ∃ F3 s4 done' rest', LcAt X.K c vs σ D0 F3 H' s4 done' ∧ Ex F1 F3 ∧ mLcL2 vs vs1 g t src1 g1 t1 m (ds.drop (i + 1)) s4 = .ok rest' sE ∧ done' ++ rest' = done0 ++ ys, fun H' h => ⟨m' - 1, by omega, by omega, h⟩, fun x H' hy => ?_⟩
    obtain ⟨ex, _⟩ := wk.yld i F2 H x H' hi e12 k.fh hy
    have k' : Ok X.K c F2 (wipe σ vs) H' s2 := k.grow ⟨.refl F2, k.fh.trans ex, ex, fun _ a b => absurd b a⟩
    have kl := k'.lock h0 (ex _ _ hD) hf ap
    refine hG i x F2 H H' ds[i] _ _ hi e12 k.fh hy hd ⟨c.lock D0 acc, F2, s2, s3, kl, rfl, hg, fun σ2 k2 off => ?_⟩
    have hw : wipe σ2 vs = wipe σ vs := by rw [wipe_off off, wipe_wipe]
    have nA : ∀ j, c.A j ≠ some D0 := k.nA h0
    refine ⟨hw, c.lock D0 acc, F2, s3, k2, ?_⟩
    rcases hturn with ⟨s4, es, s5, us, s6, zs, ht, hs, hm', hz, rfl⟩ | ⟨s4, ht, hz⟩
    · rw [ht]
      intro F3 H3 k3 e3
      rw [if_pos rfl]
      refine ⟨c.lock D0 acc, F3, s4, k3, ?_⟩
      rw [hs]
      intro J1 F4 H4 k4 e4 wk1
      obtain ⟨k5, hD4, hf4, ap4⟩ := k4.unlock h0 hF0 nA
      have hlen : done.length + us.length ≤ 1000000 := by
        have := congrArg List.length hsum
        simp only [List.length_append] at this
        omega
      refine lc_loop (vs := vs1) (σ := σ2) (done0 := done) (hP1 _ _ _ wk1) h0 hF0 ⟨k5.unS vs1, ⟨acc, hD4, dpAll_mono (e3.trans e4) al⟩, hf4, apart_unS ap4, un0_unS vs1 s5⟩ hm' hlen (fun F5 H5 la e5 => ?_) (hG1 J1 es F4 wk1)
      have k6 := la.ok.unS vs
      have a6 := apart_unS (vs := vs) la.ap
      rw [wipe_sub hv, hw] at k6 a6
      exact ⟨F5, unS s6 vs, done ++ us, zs, ⟨k6, la.at_, la.f, a6, un0_unS vs s6⟩, e12.trans (e3.trans (e4.trans e5)), hz, by rw [← hsum, List.append_assoc]⟩
    · rw [ht]
      intro F3 H3 k3 e3
      rw [if_neg (by simp)]
      obtain ⟨k5, hD4, hf4, ap4⟩ := k3.unlock h0 hF0 nA
      have k6 := k5.unS vs
      have a6 := apart_unS (vs := vs) ap4
      rw [hw] at k6 a6
      exact ⟨F3, unS s4 vs, done, rest, ⟨k6, ⟨acc, hD4, dpAll_mono e3 al⟩, hf4, a6, un0_unS vs s4⟩, e12.trans e3, hz, hsum⟩
  · refine .inl ⟨wk.stop i F2 H (by omega) e12 k.fh, ?_⟩
    rw [List.drop_eq_nil_of_le (by omega)] at hr
    have hr' : (Rs.ok [] s2 : Rs (List D)) = .ok rest sE := hr
    injection hr' with h1 h2
    subst h1 h2
    rw [List.append_nil] at hsum
    subst hsum
    exact fin F2 H ⟨k, ⟨acc, hD, al⟩, hf, ap, un⟩ e12
theorem lc_read2 {vs vs1 : List Nat} (hv : ∀ i ∈ vs1, i ∈ vs) {src src1 : MA} {g g1 : MG} {t t1 : MB} {m : ME} {P P1 : Hp → It → List D → Prop} {tG tG1 : TG} (hP : ∀ F J ds, P F J ds → Walks X.K J F ds)
    (hG : ∀ (J : It) (ds : List D) (F1 : Hp), P F1 J ds → ∀ (i : Nat) (x : V) (F2 H H' : Hp) (d : D) (σ : L2.St) (Q : L2.St → Hp → Prop), i < ds.length → Ex F1 F2 → Ex F2 H → J.yld i H x H' → ds[i]? = some d → RdG X vs σ H' Q (fun _ F3 => F3 = F2) (g d) → tG x σ H' Q)
    (hP1 : ∀ F J ds, P1 F J ds → Walks X.K J F ds)
    (hG1 : ∀ (J : It) (ds : List D) (F1 : Hp), P1 F1 J ds → ∀ (i : Nat) (x : V) (F2 H H' : Hp) (d : D) (σ : L2.St) (Q : L2.St → Hp → Prop), i < ds.length → Ex F1 F2 → Ex F2 H → J.yld i H x H' → ds[i]? = some d → RdG X vs1 σ H' Q (fun _ F3 => F3 = F2) (g1 d) → tG1 x σ H' Q)
    (σ : L2.St) (H : Hp) (Q : VK) (h : tO X W (mLc2 vs vs1 src g t src1 g1 t1 m) σ H Q) : tLc2 (tI X W P src) tG (tT X W0 t) (tI X W0 P1 src1) tG1 (tT X W0 t1) (tE X W0 m) vs vs1 σ H Q := by
  obtain ⟨c, F, s, k, q⟩ := h
  refine ⟨c, F, s, k, ?_⟩
  unfold mLc2 at q
  cases hs : src s with
  | exc x s1 =>
    rw [hs] at q
    exact q
  | fail =>
    rw [hs] at q
    exact q
  | ok ds s1 =>
    rw [hs] at q
    intro J F1 H1 k1 e1 wk D0 hD
    cases hm : mLcL2 vs vs1 g t src1 g1 t1 m ds (unS s1 vs) with
    | exc x s2 =>
      simp only [bnd_ok, hm] at q
      exact q.elim
    | fail =>
      simp only [bnd_ok, hm] at q
      exact q.elim
    | ok ys s2 =>
      simp only [bnd_ok, hm] at q
      by_cases hl : ys.length ≤ 1000000
      · rw [if_pos hl] at q
        obtain ⟨k2, fr⟩ := (k1.unS vs).fresh_new (xs := []) (ds := []) hD .nil
        have hF0 : c.F0 D0 = none := k1.ff.back fr.f
        refine lc_loop2 hv (done0 := []) (hP _ _ _ wk) fr.h0 hF0 ⟨k2, ⟨[], upd_same, .nil⟩, fr.f, fr.apart, un0_unS vs s1⟩ hm (by simpa using hl) (fun F' H' la e' => ?_) (hG J ds F1 wk) hP1 hG1
        obtain ⟨k', ⟨acc, hD', al⟩, hf', ap', un'⟩ := la
        have k4 := k1.keepS e' vs (k'.unwipe un')
        refine q D0 acc F' H' k4 (e1.trans e') ⟨fr.h0, hf', hD', al, fun i es hi hσ => ?_⟩
        by_cases hv' : i ∈ vs
        · exact keepS_own hv' hi
        · rw [keepS_get hv'] at hi
          exact ap' i es hi (by rw [wipe_get hv']; exact hσ)
      · rw [if_neg hl] at q
        exact q.elim
/-- how the two kinds of sources and targets go together -/
theorem gate_d {vs : List Nat} {g : MG} (J : It) (ds : List D) (F1 : Hp) (wk : WalksD X.K J F1 ds) (i : Nat) (x : V) (F2 H H' : Hp) (d : D) (σ : L2.St) (Q : L2.St → Hp → Prop) (hi' : i < ds.length) (e2 : Ex F1 F2) (e3 : Ex F2 H) (hy : J.yld i H x H') (hd : ds[i]? = some d) (h : RdG X vs σ H' Q (fun _ F3 => F3 = F2) (g d)) :
    ∃ d, RdG X vs σ H' Q (fun _ F => Sh X.K F x d) (g d) := by
  obtain ⟨c', F', s', s'', k', ef, hgo, hQ⟩ := h
  subst ef
  obtain ⟨d', hd', sd⟩ := wk.dat i F' H x H' hi' e2 e3 hy
  rw [hd] at hd'
  cases hd'
  exact ⟨d, c', F', s', s'', k', sd, hgo, hQ⟩
variable {tg tg1 iter iter1 elt : Expr} {ifs ifs1 : List Expr} {scope : Scope} {own : List (Str × Nat)} {vs1 : List Nat} {pos spos py : Pos} {src src1 : MA} {g g1 : MG} {t t1 : MB} {m : ME}
theorem so_lc2 (hc : X.calm = true) (hN : X.N.Nodup) (hi : SI X W tg iter src) (ok : BlkOk X.N X.env.scope scope own) (hv : ∀ i ∈ vs1, i ∈ own.map (·.2))
    (hg : ∀ s H C cl fp, SG (Blk X scope s H C cl fp) (own.map (·.2)) tg g) (ht : ∀ s H C cl fp, STs (Blk X scope s H C cl fp) W0 ifs t)
    (hi1 : ∀ s H C cl fp, SI (Blk X scope s H C cl fp) W0 tg1 iter1 src1) (hg1 : ∀ s H C cl fp, SG (Blk X scope s H C cl fp) vs1 tg1 g1) (ht1 : ∀ s H C cl fp, STs (Blk X scope s H C cl fp) W0 ifs1 t1)
    (he : ∀ s H C cl fp, SE (Blk X scope s H C cl fp) W0 elt m)
    (hs : ∀ x, foldedSetIterable iter X.env x = pure x := by intro _; rfl) (hs1 : ∀ env x, foldedSetIterable iter1 env x = pure x := by intro _ _; rfl) :
    SO X W (.ListComp elt [⟨tg, iter, ifs, 0⟩, ⟨tg1, iter1, ifs1, 0⟩] scope pos) (mLc2 (own.map (·.2)) vs1 src g t src1 g1 t1 m) :=
  PE.imp (pe_lc2 (g := fun v σ H Q => ∃ d, RdG X (own.map fun p : Str × Nat => p.2) σ H Q (fun _ F => Sh X.K F v d) (g d)) (tt := tT X W0 t) (wi1 := tI X W0 (fun F J ds => WalksD X.K J F ds) src1) (g1 := fun v σ H Q => ∃ d, RdG X vs1 σ H Q (fun _ F => Sh X.K F v d) (g1 d)) (tt1 := tT X W0 t1) (te := tE X W0 m) hc hN hi ok hv hg ht hi1 hg1 ht1 he hs hs1) fun σ H Q h =>
    lc_read2 hv (fun _ _ _ z => z.toWalks) gate_d (fun _ _ _ z => z.toWalks) gate_d σ H Q h
theorem ss_setLc2 {i : Nat} {y : Str} (hc : X.calm = true) (hN : X.N.Nodup) (hy : X.N[i]? = some y) (hyl : X.env.scope.names.lookup y = some .local) (hsw : swapsWith (.ListComp elt [⟨tg, iter, ifs, 0⟩, ⟨tg1, iter1, ifs1, 0⟩] scope pos) (some (.Name y py)) spos.line X.env = pure true)
    (hi : SI X W tg iter src) (ok : BlkOk X.N X.env.scope scope own) (hv : ∀ i ∈ vs1, i ∈ own.map (·.2))
    (hg : ∀ s H C cl fp, SG (Blk X scope s H C cl fp) (own.map (·.2)) tg g) (ht : ∀ s H C cl fp, STs (Blk X scope s H C cl fp) W0 ifs t)
    (hi1 : ∀ s H C cl fp, SI (Blk X scope s H C cl fp) W0 tg1 iter1 src1) (hg1 : ∀ s H C cl fp, SG (Blk X scope s H C cl fp) vs1 tg1 g1) (ht1 : ∀ s H C cl fp, STs (Blk X scope s H C cl fp) W0 ifs1 t1)
    (he : ∀ s H C cl fp, SE (Blk X scope s H C cl fp) W0 elt m)
    (hs : ∀ x, foldedSetIterable iter X.env x = pure x := by intro _; rfl) (hs1 : ∀ env x, foldedSetIterable iter1 env x = pure x := by intro _ _; rfl) :
    SS X W (.Assign [.Name y py] (.ListComp elt [⟨tg, iter, ifs, 0⟩, ⟨tg1, iter1, ifs1, 0⟩] scope pos) spos) (mSetO i (mLc2 (own.map (·.2)) vs1 src g t src1 g1 t1 m)) :=
  ss_setOR (ps_setLc2 (g := fun v σ H Q => ∃ d, RdG X (own.map fun p : Str × Nat => p.2) σ H Q (fun _ F => Sh X.K F v d) (g d)) (tt := tT X W0 t) (wi1 := tI X W0 (fun F J ds => WalksD X.K J F ds) src1) (g1 := fun v σ H Q => ∃ d, RdG X vs1 σ H Q (fun _ F => Sh X.K F v d) (g1 d)) (tt1 := tT X W0 t1) (te := tE X W0 m) hc hN hy hyl hsw hi ok hv hg ht hi1 hg1 ht1 he hs hs1) fun σ H Q h =>
    lc_read2 hv (fun _ _ _ z => z.toWalks) gate_d (fun _ _ _ z => z.toWalks) gate_d σ H Q h
end
end DV

/-! DV, part R: sorted(set(xs)), xs a list of ints. -/
namespace DV
open PySem PySem.Spec PyProof.Rows L2

/-- a set just made -/
abbrev newSet (w : World) : Obj := { cls := .type "set", dict := none, data := .set #[] 0 (.fresh 0 0 (!w.params.followText "set-order")) }
/-- an iterator over the list at l -/
abbrev lstIt (l : Addr) : Obj := { cls := .type "list_iterator", data := .fields #[.ref l, .int 0 0] }
/-- what is left of the state: the heap grew, and the set stands at a -/
structure SetDone (w : World) (s : Shared) (ns : List Int) (h' : Heap) : Prop where
  ex : ∃ c, c ≤ ns.length ∧ SetR w h' s.heap.objs.size (fun j => decide (j ∈ ns)) c
  keep : ∀ b o, s.heap.get? b = some o → h'.get? b = some o
section
variable {P : Program} {w : World} {A : Around} {E : Value → Shared → Prop} {s : Shared} {l : Addr} {items : Array Value} {ns : List Int}
/-- the walk over the list, each item put into the set -/
theorem fill_set (hh : A.handled = none) (hl : s.heap.IsList l items) (hit : IntsAre items.toList ns) (hb : ns.length + 1 < scanBound) {R : Result → Shared → Prop}
    (h : ∀ h' tk, SetDone w s ns h' → R (.ok (.ret .none)) { s with heap := h', toks := tk }) :
    codeAny (model P w) A (.builtin "set.update.loop" ⟨[.ref s.heap.objs.size, .ref (s.heap.objs.size + 1)], []⟩) R { s with heap := (s.heap.push (newSet w)).push (lstIt l) } := by
  have hsz : items.size = ns.length := by
    have q := IntsAre.length hit
    rwa [Array.length_toList] at q
  have hlS : l < s.heap.objs.size := by
    obtain ⟨o, e, _⟩ := hl
    exact Heap.lt_size e
  have z1 : (s.heap.push (newSet w)).objs.size = s.heap.objs.size + 1 := Heap.size_push ..
  have hl1 : (s.heap.push (newSet w)).IsList l items := by
    obtain ⟨o, e, c, n, d⟩ := hl
    exact ⟨o, Heap.get?_push_of_some _ e, c, n, d⟩
  have hval : ∀ (i : Nat) (v : Value), items[i]? = some v → ∃ k t, ns[i]? = some k ∧ v = .int k t := fun i v hv => by
    have hi : i < ns.length := by rw [← hsz]; exact (Array.getElem?_eq_some_iff.mp hv).1
    obtain ⟨t, e⟩ := PyProof.Rows.IntsAre.int_at hit i v (by rw [Array.getElem?_toList]; exact hv)
    refine ⟨ns[i], t, List.getElem?_eq_getElem hi, ?_⟩
    rw [e, List.getD_eq_getElem?_getD, List.getElem?_eq_getElem hi]
    rfl
  have hS : ((s.heap.push (newSet w)).push (lstIt l)).get? s.heap.objs.size = some (newSet w) := Heap.get?_push_of_some _ (Heap.get?_push_size _ rfl)
  have hI : ((s.heap.push (newSet w)).push (lstIt l)).get? (s.heap.objs.size + 1) = some (lstIt l) := by
    rw [← z1]
    exact Heap.get?_push_size _ rfl
  refine set_update_ints ((Walks.list (A := A.in1) (by show A.in1.handled = none; exact hh) (s.heap.objs.size + 1) l (Nat.ne_of_lt (Nat.lt_succ_of_lt hlS)) items).toS) s.heap.objs.size
    (by simp only [List.mem_cons, List.not_mem_nil, or_false, not_or]; exact ⟨Nat.ne_of_lt (Nat.lt_succ_self _), Nat.ne_of_gt hlS⟩) ns hsz hb hval (items.size - 0) 0 _ (by omega) (Nat.zero_le _) ⟨⟨_, hI, rfl, rfl⟩, hl1.push _⟩ ⟨0, Nat.le_refl 0, setR_new_at hS⟩ fun s' c hm hc hR => ?_
  obtain ⟨h', g2, d2, tk, os2⟩ := s'
  cases (show g2 = s.gens from hm.gens)
  cases (show d2 = s.drawn from hm.drawn)
  cases (show os2 = s.os from hm.os)
  refine h h' tk ⟨⟨c, by omega, hR⟩, fun b o e => ?_⟩
  have hb0 := Heap.lt_size e
  exact hm.heap b o (by simp only [List.mem_cons, List.not_mem_nil, or_false, not_or]; exact ⟨Nat.ne_of_lt hb0, Nat.ne_of_lt (Nat.lt_succ_of_lt hb0)⟩) (Heap.get?_push_of_some _ (Heap.get?_push_of_some _ e))
set_option maxHeartbeats 8000000 in
theorem call_set_ints {Q : Value → Shared → Prop} (hh : A.handled = none) (hl : s.heap.IsList l items) (hit : IntsAre items.toList ns) (hb : ns.length + 1 < scanBound)
    (h : ∀ (h' : Heap) (tk : Nat), SetDone w s ns h' → Q (.ref s.heap.objs.size) { s with heap := h', toks := tk }) : wpAny (model P w) A (call (.type "set") [.ref l]) Q E s := by
  obtain ⟨c, tl, hmro⟩ := F.called_set.mro
  have k1 := F.called_set.made
  have k2 := F.called_set.sub
  have k3 := F.called_set.notType
  have k4 := F.called_set.canCreate
  have k5 := F.typeCall_set_1 (.ref l)
  have k6 := F.called_set.init.lookup
  have k7 := F.called_set.init.bind (.ref s.heap.objs.size)
  refine wpAny_call (codeAny_of_tree ?_)
  show wpAny _ _ (callAny (.type "set") _) _ _ _
  refine wpAny_pure ⟨Code.quiet_builtin _ (by decide +kernel), codeAny_builtin F.entry_type_call ?_⟩
  rw [Around.under_plain (weight_type_call_type "set" [.ref l] []) rfl]
  repeat (any_goals (first | assumption | wp_step))
  refine codeAny_mono (code_set_led1 (.ref l) (E := E) (Q₁ := fun obj s₁ => obj = .ref s.heap.objs.size ∧ s₁ = { s with heap := s.heap.push (newSet w) }) ⟨rfl, rfl⟩) fun r s₁ hr => ?_
  rcases r with e | fl
  · exact hr
  cases fl with
  | ret obj =>
    obtain ⟨rfl, rfl⟩ := hr
    have hT : Shared.TypeIs { s with heap := s.heap.push (newSet w) } (.ref s.heap.objs.size) "set" := ⟨_, Heap.get?_push_size _ rfl, rfl⟩
    repeat (any_goals (first | assumption | wp_step))
    refine codeAny_mono (codeAny_call_builtin (R := wants (fun r s₂ => r = .none ∧ ∃ h' tk, s₂ = { s with heap := h', toks := tk } ∧ SetDone w s ns h') E) F.called_set.init.plain F.entry_set_init (check_set_init_1 hT ?_)) fun r₂ s₂ hr₂ => ?_
    · obtain ⟨⟨oc, od, odt, osl⟩, ho, hc, nl, hd⟩ := id hl
      simp only at hc hd
      subst hc; subst hd
      have ho' : (s.heap.push (newSet w)).get? l = some { cls := .type "list", dict := od, data := .seq items nl, slots := osl } := Heap.get?_push_of_some _ ho
      have t1 := F.sub_list_set
      have t2 := F.sub_list_frozenset
      have t3 : (Value.type "list" == Value.type "dict") = false := by decide
      have hl1 : (s.heap.push (newSet w)).IsList l items := ⟨_, ho', rfl, nl, rfl⟩
      unfold Builtin.«set.__init__» noKeywords Builtin.Frozenset.updateFrom
      generalize hPI : pyIter = PI
      wp_walk
      subst hPI
      refine wpAny_pyIter_list hl1 (wpAny_bind (wpAny_runValue ?_))
      have z1 : (s.heap.push (newSet w)).objs.size = s.heap.objs.size + 1 := Heap.size_push ..
      rw [z1]
      refine fill_set (by simp [hh]) hl hit hb fun h' tk hd => ?_
      show wpAny _ _ _ _ _ _
      exact wpAny_pure (wpAny_pure ⟨rfl, h', tk, rfl, hd⟩)
    · rcases r₂ with e | fl₂
      · exact hr₂
      cases fl₂ with
      | ret r =>
        obtain ⟨rfl, h', tk, rfl, hd⟩ := hr₂
        repeat (any_goals (first | assumption | wp_step))
        exact h _ _ hd
      | _ => exact hr₂.elim
  | _ => exact hr.elim
end
end DV

/-! DV, part S: sorted(set(xs)) in the layer. -/
namespace DV
open PySem PySem.Spec PyProof.Rows L2
/-! ### in the layer -/
def rSetL (K : PySem.W.Frag) (w : World) : List V → Hp → VK → Prop := fun vs H Q => ∃ (p : Addr) (ns : List Int), vs = [V.ref p] ∧ SqL K H p (ns.map V.int) ∧ ns.length + 1 < scanBound ∧
  ∀ (q : Addr) (n : Nat), H q = none → n ≤ ns.length → Q (.ref q) (upd H q (SetO w q (fun j => decide (j ∈ ns)) n))
theorem cr_setL {X : Cx} (hc : X.calm = true) : CallR X (.type "set") (rSetL X.K X.w) := by
  intro pins s σ H vs us Q I r h
  obtain ⟨p, ns, rfl, hq, hb, q⟩ := h
  obtain ⟨its, rv, pl, hz⟩ := I.list hq
  rw [Vals.ref1 r]
  refine call_set_ints (I.ok.hd hc) pl.isList (intsAre_of rv) hb fun h' tk D => ?_
  obtain ⟨c, hle, R⟩ := D.ex
  exact ⟨.ref s.heap.objs.size, upd H s.heap.objs.size (SetO X.w s.heap.objs.size (fun j => decide (j ∈ ns)) c), I.laid (t' := tk) D.keep (Nat.le_refl _) (setO_new R), rfl, q _ c (I.hok.fresh (Nat.le_refl _)) hle⟩
/-- the ints, each once, ascending -/
def ded : List Int → List Int
  | [] => []
  | x :: xs => if x ∈ xs then ded xs else x :: ded xs
theorem ded_mem (k : Int) : ∀ xs, k ∈ ded xs ↔ k ∈ xs
  | [] => Iff.rfl
  | x :: xs => by
    unfold ded
    by_cases h : x ∈ xs
    · rw [if_pos h, ded_mem k xs, List.mem_cons]
      exact ⟨.inr, fun z => z.elim (fun e => e ▸ h) id⟩
    · rw [if_neg h, List.mem_cons, List.mem_cons, ded_mem k xs]
theorem ded_nodup : ∀ xs, (ded xs).Nodup
  | [] => List.nodup_nil
  | x :: xs => by
    unfold ded
    by_cases h : x ∈ xs
    · rw [if_pos h]
      exact ded_nodup xs
    · rw [if_neg h, List.nodup_cons, ded_mem]
      exact ⟨h, ded_nodup xs⟩
def ascI (ns : List Int) : List Int := sortI (ded ns)
theorem strict_one : ∀ {xs ys : List Int}, xs.Pairwise (· < ·) → ys.Pairwise (· < ·) → (∀ k, k ∈ xs ↔ k ∈ ys) → xs = ys
  | [], [], _, _, _ => rfl
  | [], y :: ys, _, _, h => absurd ((h y).mpr List.mem_cons_self) (by simp)
  | x :: xs, [], _, _, h => absurd ((h x).mp List.mem_cons_self) (by simp)
  | x :: xs, y :: ys, hx, hy, h => by
    rw [List.pairwise_cons] at hx hy
    have e : x = y := by
      rcases List.mem_cons.mp ((h x).mp List.mem_cons_self) with e | h1
      · exact e
      · rcases List.mem_cons.mp ((h y).mpr List.mem_cons_self) with e | h2
        · exact e.symm
        · have := hy.1 x h1
          have := hx.1 y h2
          omega
    subst e
    rw [strict_one hx.2 hy.2 fun k => ⟨fun hk => ?_, fun hk => ?_⟩]
    · rcases List.mem_cons.mp ((h k).mp (List.mem_cons_of_mem _ hk)) with e | h1
      · have := hx.1 k hk
        omega
      · exact h1
    · rcases List.mem_cons.mp ((h k).mpr (List.mem_cons_of_mem _ hk)) with e | h1
      · have := hy.1 k hk
        omega
      · exact h1
theorem ascI_mem (ns : List Int) (k : Int) : k ∈ ascI ns ↔ k ∈ ns := by
  unfold ascI
  rw [(sortI_perm _).mem_iff, ded_mem]
theorem ascI_asc (ns : List Int) : (ascI ns).Pairwise (· < ·) := by
  have h1 := sortI_sorted (ded ns)
  have h2 : (sortI (ded ns)).Nodup := (sortI_perm _).nodup_iff.mpr (ded_nodup _)
  unfold ascI
  exact (List.Pairwise.and h1 h2).imp fun {a b} z => by
    have := z.1
    have := z.2
    omega
def dSortSet (d : D) : Option (List D) := (listI d).bind fun ns => if ns.length < 63 then some ((ascI ns).map .int) else none
section
variable {X : Cx} {W : WX} {e : Expr} {m : ME} {p p1 pos pos1 : Pos}
theorem so_sortSet (hc : X.calm = true) (hg : Gl X "sorted") (hm : X.mg "sorted" = none) (hg1 : Gl X "set") (hm1 : X.mg "set" = none) (ha : SB X W e m)
    (he : starEach [e] X.env = (false, eval e X.env) :: starEach [] X.env := by rfl) (hpl : (backTo pos1 (starEach [] X.env)).any (·.1) = false := by rfl)
    (he2 : starEach [.Call (.Name "set" p1) [e] [] pos1] X.env = (false, eval (.Call (.Name "set" p1) [e] [] pos1) X.env) :: starEach [] X.env := by rfl) (hpl2 : (backTo pos (starEach [] X.env)).any (·.1) = false := by rfl) :
    SO X W (.Call (.Name "sorted" p) [.Call (.Name "set" p1) [e] [] pos1] [] pos) (mO1 dSortSet m) :=
  PE.imp (pe_callB (cr_sortedSet hc) hg hm rfl (pa_cons (pe_callTy (cr_setL hc) hg1 hm1 rfl (sb_args ha he) (he := he) (hpl := hpl)) pa_nil he2) (he := he2) (hpl := hpl2)) fun σ H Q ⟨c, F, s, k, q⟩ => ⟨c, F, s, k, rdV_bndO q fun d s1 v F1 H1 q1 k1 e1 b1 => by
    unfold dSortSet at q1
    cases hn : listI d with
    | none =>
      rw [hn] at q1
      exact q1.elim
    | some ns =>
      rw [hn] at q1
      simp only [Option.bind_some] at q1
      by_cases hl : ns.length < 63
      · rw [if_pos hl] at q1
        obtain ⟨a, rfl, hq⟩ := listI_sq b1 k1.fh hn
        refine ⟨a, ns, rfl, hq, by unfold scanBound; omega, fun b n hb hle => ⟨b, _, n, rfl, upd_same, by omega, fun zs p' z1 z2 z3 hp' => ?_⟩⟩
        have k2 : Ok X.K c F1 σ (upd H1 b (SetO X.w b (fun j => decide (j ∈ ns)) n)) s1 := k1.grow (.side k1.fh hb)
        have ez : zs = ascI ns := strict_one z1 (ascI_asc ns) fun k => by
          rw [z2 k, ascI_mem]
          simp
        subst ez
        obtain ⟨k3, fr⟩ := k2.fresh_new hp' (sh_ints (ascI ns))
        exact q1 p' _ F1 _ k3 e1 fr
      · rw [if_neg hl] at q1
        exact q1.elim⟩
end
end DV

/-! DV, part T: what runs in an except suite. -/
namespace DV
open PySem PySem.Spec PyProof.Rows L2 HotX

section
variable {prog : Program} {w : World} {A : Around} {E : Value → Shared → Prop} {s : Shared}
theorem hot_keep {x1 : Addr} {h h' : Heap} (hot : HotAt A x1 h) (k : ∀ o, h.get? x1 = some o → h'.get? x1 = some o) : HotAt A x1 h' := by
  obtain ⟨hh, o1, vs1, h1, d1, c1⟩ := hot
  exact ⟨hh, o1, vs1, k _ h1, d1, c1⟩
/-- the handled exception is no iterator of a tuple -/
theorem hot_ne {x1 it t : Addr} {i : Nat} (hot : HotAt A x1 s.heap) (hit : IsTupIter s.heap it t i) : x1 ≠ it := by
  obtain ⟨_, o1, vs1, h1, d1, c1⟩ := hot
  obtain ⟨o, ho, _, hd⟩ := hit
  intro e
  rw [e, ho] at h1
  cases h1
  rw [hd] at d1
  cases d1
  simp at c1
theorem tuple_out_hot {it t x1 : Addr} {i : Nat} {items : Array Value} {Q : Option Value → Shared → Prop} (hot : HotAt A x1 s.heap) (hit : IsTupIter s.heap it t i) (ht : IsTup s.heap t items) (hx : items[i]? = none)
    (hQ : ∀ h', (∀ b o, b ≠ it → s.heap.get? b = some o → h'.get? b = some o) → Q none { s with heap := h' }) : wpAny (model prog w) A (pyNext (.ref it)) Q E s := by
  have hne := hot_ne hot hit
  obtain ⟨o, ho, hc, hd⟩ := id hit
  obtain ⟨ot, hot', _, nt, hdt⟩ := ht
  obtain ⟨hh, o1, vs1, h1, d1, c1⟩ := hot
  unfold pyNext
  refine wpAny_bind (wpAny_attempt (wpAny_callSpecial?_slot (name := Str.ofString "__next__") hit.typeIs slot_tupleiter_next (wpAny_call_entry slot_tupleiter_next hit.typeIs entry_tupleiter_next ?_ (args_tupleiter_next _))))
  show wpAny _ _ (field (.ref it) 0 >>= _) _ _ s
  refine wpAny_bind (wpAny_field ho hd (x := .ref t) rfl ?_)
  show wpAny _ _ (if (Value.ref t == Value.none) = true then _ else _) _ _ s
  rw [if_neg (show ¬ ((Value.ref t == Value.none) = true) from Bool.false_ne_true)]
  show wpAny _ _ (field (.ref it) 1 >>= _) _ _ s
  refine wpAny_bind (wpAny_field ho hd (x := .int i 0) rfl ?_)
  show wpAny _ _ (seqItems? (.ref t) >>= _) _ _ s
  refine wpAny_bind (wpAny_seqItems hot' hdt ?_)
  simp only [Int.toNat_natCast, hx]
  refine wpAny_bind (wpAny_rule (wpAny_bind (wpAny_setField ho hd (by simp) ?_)))
  have up : ∀ b u, b ≠ it → s.heap.get? b = some u → (s.heap.update it (Obj.mapFields (·.setIfInBounds 0 Value.none))).get? b = some u := fun b u hb e => by
    rw [Heap.get?_update_other _ _ (Ne.symm hb)]
    exact e
  show wpAny _ _ (newExc (.type "StopIteration") [] >>= _) _ _ _
  refine wpAny_bind ?_
  simp only [newExc, newTuple]
  refine wpAny_bind (wpAny_newObj_type ?_ (by size_fits))
  refine wpAny_bind (m := firstArgMember _ _) (wpAny_of_eq (a := Value.none) (by first | rfl | (simp only [firstArgMember]; rfl)) ?_)
  refine wpAny_newObj_type ?_ (by size_fits)
  refine raiseNew_hot ⟨hh, o1, vs1, Heap.get?_push_of_some _ (Heap.get?_push_of_some _ (up _ _ hne h1)), d1, c1⟩ (Nat.ne_of_lt (Heap.lt_size (Heap.get?_push_of_some _ (up _ _ hne h1)))) (Heap.get?_push_size _ rfl) rfl (by first | (simp; done) | (simp; omega) | (simp only [Array.size_append]; simp; omega)) ?_
  refine wpAny_bind (wpAny_isInstance (T := "StopIteration") (b := true) ⟨_, Heap.get?_update_self _ (Heap.get?_push_size _ rfl) rfl, rfl⟩ isSubtype_stop ?_)
  refine wpAny_pure (hQ _ fun b u hb e => ?_)
  rw [Heap.get?_update_other _ _ (Nat.ne_of_gt (Heap.lt_size (Heap.get?_push_of_some _ (up b u hb e))))]
  exact Heap.get?_push_of_some _ (Heap.get?_push_of_some _ (up b u hb e))
theorem unpack_hot {t x1 : Addr} {items : Array Value} {Q : List Value → Shared → Prop} (hot : HotAt A x1 s.heap) (ht : IsTup s.heap t items)
    (hQ : ∀ h', (∀ b o, b ≠ s.heap.objs.size → s.heap.get? b = some o → h'.get? b = some o) → Q items.toList { s with heap := h' }) : wpAny (model prog w) A (unpackItems (.ref t) items.size none) Q E s := by
  have hlt : t ≠ s.heap.objs.size := by obtain ⟨o, ho, _⟩ := ht; exact Nat.ne_of_lt (Heap.lt_size ho)
  have hx1 : x1 ≠ s.heap.objs.size := by obtain ⟨_, o, _, ho, _⟩ := hot; exact Nat.ne_of_lt (Heap.lt_size ho)
  unfold unpackItems
  refine wpAny_bind ?_
  unfold notIterableAtAll
  refine wpAny_bind (wpAny_specialOf ht.typeIs slot_tuple_iter.lookup (wpAny_pure ?_))
  simp only [Bool.false_eq_true, if_false]
  refine wpAny_bind (wpAny_holding (iter_tuple ht (wpAny_bind (wpAny_holding (draw_tuple hlt items.size 0 _ _ ⟨_, Heap.get?_push_size _ rfl, rfl, rfl⟩ (ht.push _) (by omega) fun h₁ hit₁ hs₁ => ?_)))))
  have all : List.take items.size (List.drop 0 items.toList) = items.toList := by
    rw [List.drop_zero]
    exact List.take_of_length_le (by simp)
  rw [all, if_neg (by simp)]
  have k1 : ∀ b o, b ≠ s.heap.objs.size → s.heap.get? b = some o → h₁.get? b = some o := fun b o hb e => hs₁.extBut b o hb (Heap.get?_push_of_some _ e)
  refine wpAny_bind (wpAny_holding (tuple_out_hot (hot_keep hot fun o e => k1 x1 o hx1 e) hit₁ ((ht.push _).extBut hs₁.extBut hlt) (by simp) fun h₂ k2 => ?_))
  simp only [Option.isSome_none, Bool.false_eq_true, if_false]
  exact wpAny_pure (hQ h₂ fun b o hb e => k2 b o hb (k1 b o hb e))
end
section
variable {X : Cx} {W : WX}
/-- a, b = x, y in a suite (or in a def that runs there) -/
theorem ps_parH {i j : Nat} {x y : Str} {a b : Expr} {ta : TA} {px py pt : Pos} {kt k2 pt2} (hc : L2H.HotC X) (hN : X.N.Nodup) (hi : X.N[i]? = some x) (hj : X.N[j]? = some y) (hij : i ≠ j)
    (hx : X.env.scope.names.lookup x = some .local) (hy : X.env.scope.names.lookup y = some .local) (ha : PA X [a, b] ta)
    (hw : swappedStores [.Tuple [.Name x px, .Name y py] kt pt] (.Tuple [a, b] k2 pt2) X.env = pure (some [x, y]))
    (hs : swapsWithSole [.Tuple [.Name x px, .Name y py] kt pt] (.Tuple [a, b] k2 pt2) pos.line X.env = pure false := by rfl) :
    PS X (.Assign [.Tuple [.Name x px, .Name y py] kt pt] (.Tuple [a, b] k2 pt2) pos) (tPar i j ta) := by
  refine ⟨fun pins s σ H D I h => ?_⟩
  rw [exec_Assign_arm]
  refine wpAny_bind (wpAny_standAt ?_)
  rw [hs]
  refine wpAny_bind (wpAny_pure ?_)
  rw [if_neg (by decide)]
  refine wpAny_bind (Tuple_ (thn (ha.run _ pins s σ H _ I h) fun us s1 ⟨vs, H1, I1, r1, v, w, e1, q1⟩ => ?_))
  subst e1
  obtain ⟨u1, u2, rfl, rv, rw'⟩ := vals2 r1
  refine wpAny_newObj_type ?_ (by show 2 ≤ sizeLine; decide)
  have I2 : Inv X pins σ H1 { s1 with heap := s1.heap.push { cls := .type "tuple", data := .seq [u1, u2].toArray } } := I1.kept (t' := s1.toks) fun b o e => Heap.get?_push_of_some _ e
  obtain ⟨x1, hot⟩ := hc.at I2
  rw [hw]
  refine wpAny_bind (wpAny_pure ?_)
  show wpAny (model X.prog X.w) X.A (do rule "assign.swapped-stores"; let items ← unpackItems (.ref s1.heap.objs.size) 2 none; assignInOrder [fun v => bindName X.env y v, fun v => bindName X.env x v] items.reverse; pure Flow.next) _ _ _
  refine wpAny_bind (wpAny_rule (wpAny_bind (unpack_hot (items := #[u1, u2]) hot (IsTup.new s1.heap _) fun h' kx => ?_)))
  have I3 := I2.kept (h' := h') (t' := s1.toks) fun b o e => kx b o (Nat.ne_of_lt (Heap.lt_size e)) e
  show wpAny _ _ (assignInOrder [fun v => bindName X.env y v, fun v => bindName X.env x v] [u2, u1] >>= fun _ => pure Flow.next) _ _ _
  refine wpAny_bind (assignInOrder_cons (wpAny_bindName (store_ok I3 hN hj (.inl hy) rw' (fun s2 I4 => assignInOrder_cons (wpAny_bindName (store_ok I4 hN hi (.inl hx) rv (fun s3 I5 => ?_) (.inr hx)))) (.inr hy))))
  rw [List.set_comm _ _ (Ne.symm hij)] at I5
  exact assignInOrder_nil (wpAny_pure ⟨_, H1, I5, q1⟩)
end
/-! ### defs that are called in a suite -/
structure RoomHG (k : Nat) (A : Around) : Prop where
  rm : L2H.RoomH k A
  gd : A.guards = some []
theorem RoomHG.mono {j k : Nat} {A : Around} (r : RoomHG k A) (h : j ≤ k) : RoomHG j A := ⟨r.rm.mono h, r.gd⟩
theorem RoomHG.deeper {k : Nat} {A : Around} (r : RoomHG (k + 1) A) (env : Env) : RoomHG k (A.deeper env) := ⟨r.rm.deeper env, r.gd⟩
theorem RoomHG.mark {k : Nat} {A : Around} (r : RoomG k A) (v : Option Value) : RoomHG k (A.mark v) := ⟨⟨r.rm.dp, r.rm.un⟩, r.gd⟩
theorem RoomHG.u65 {k : Nat} {A : Around} (r : RoomHG k A) : A.units + 65 < cLine := by have := r.rm.un; omega
structure FnGH (P : Program) (w : World) (K : PySem.W.Frag) (mg : Str → Option Value) (base : Heap) (k : Nat) (f : Addr) (fd : FuncData) (ps : List Str) (sp : Sp) : Prop where
  len : ∀ vs H Q E, sp vs H Q E → vs.length = ps.length
  run : ∀ (A : Around) (outer : List Env) (s : Shared) (H : Hp) (args : Args) (us : List Value) (vs : List V) (Q : VK) (E : XK) (p : Addr × Obj), RoomHG k A → L2H.Hot1 A p → L2H.PinOk outer H s p → Env0 P w K mg base A outer s H → BindsTo s fd args (ps.zip us) → Vals vs us → sp vs H Q E →
    codeAny (model P w) A (.call (.ref f) args) (CR (L2N.CX P w) outer P w H s Q E) s
section
variable {ps N : List Str} {ms : MS}
/-- the mirror's reading at a def's entry -/
theorem readP {X : Cx} (hn : ps.length ≤ N.length) {vs : List V} {H : Hp} {Q : VK} {E : XK} (h : spP X.K X.mg (mfunP ps.length N.length ms) vs H Q E) : tS X (WD E) ms { nx := fun _ H' => Q .non H', rt := Q } (L2.start N vs) H := by
  have len : ∀ vs H Q E, spP X.K X.mg (mfunP ps.length N.length ms) vs H Q E → vs.length = ps.length := by
    rintro vs H Q E ⟨F, ds, _, a, q⟩
    unfold mfunP at q
    by_cases hl : ds.length = ps.length
    · rw [dpAll_length a, hl]
    · rw [if_neg hl] at q
      exact q.elim
  have hvl := len vs H Q E h
  obtain ⟨F, ds, e, a, q⟩ := h
  have hdl : ds.length = ps.length := by rw [← dpAll_length a, hvl]
  unfold mfunP at q
  rw [if_pos hdl] at q
  refine ⟨⟨F, H, fun _ => none, fun _ => ([], [])⟩, F, ds.map .dat ++ List.replicate (N.length - ps.length) .un, ?_, ?_⟩
  · refine ⟨?_, .refl F, e, fun _ _ h _ => h, fun _ h1 h2 => absurd h2 h1, (fun _ _ h => nomatch h), (fun _ _ h => nomatch h), fun i d h => ?_, fun i d h => ?_, fun i j d1 d2 p _ h => ?_, fun i d h => ?_, fun i ea h => ?_⟩
    · rw [start_len (by omega), List.length_append, List.length_map, List.length_replicate]
      omega
    · rcases dats_get h with ⟨d', h1, h2⟩ | h2
      · cases h2
        obtain ⟨v, hv, sv⟩ := dpAll_getD a h1
        exact ⟨v, start_get hv, sv⟩
      · cases h2
    · rcases dats_get h with ⟨d', h1, h2⟩ | h2 <;> cases h2
    · rcases dats_get h with ⟨d', h1, h2⟩ | h2 <;> cases h2
    · rcases dats_get h with ⟨d', h1, h2⟩ | h2 <;> cases h2
    · rcases dats_get h with ⟨d', h1, h2⟩ | h2 <;> cases h2
  · have gr : ∀ {F' H' : Hp} {σ' : L2.St} {s' : Sl}, Ok X.K ⟨F, H, fun _ => none, fun _ => ([], [])⟩ F' σ' H' s' → Grow F H F' H' := fun k => ⟨k.ff, k.fh, fun b o h => k.keep b o h (fun _ h => nomatch h), fun b h1 h2 => k.new b h1 h2⟩
    cases hm : ms (ds.map .dat ++ List.replicate (N.length - ps.length) .un) with
    | nx s' =>
      rw [hm] at q
      exact fun σ' F' H' k _ => q .non F' H' (gr k) .non
    | rt d s' =>
      rw [hm] at q
      exact fun v σ' F' H' k _ b => q v F' H' (gr k) b
    | exc y s' =>
      rw [hm] at q
      exact fun a σ' F' H' ha k => q a F' H' ha (gr k)
    | bk s' =>
      rw [hm] at q
      exact q.elim
    | ct s' =>
      rw [hm] at q
      exact q.elim
    | fail =>
      rw [hm] at q
      exact q.elim
end
section
variable {P : Program} {w : World} {K : PySem.W.Frag} {mg : Str → Option Value} {base : Heap} {x qual : Str} {st : Stmt} {f : Addr} {fd : FuncData} {N ps : List Str} {k : Nat} {ms : MS}
/-- a def that changes nothing that it is given, called where an exception is handled -/
theorem fn_PH (Fn : L2.Fun K x qual st f fd) (S : FnScope N ps (defScope st)) (hn : ps.length ≤ N.length)
    (hb : ∀ (cdv : Value) (A : Around) (outer : List Env) (s : Shared) (H : Hp) (E : XK) (p : Addr × Obj), L2H.Hot1 A p → RoomHG k (A.deeper (envOfC qual (defScope st) s.heap.objs.size f cdv)) →
      SSs (L2H.cxH (L2N.CX P w) P w K mg base N qual (defScope st) f cdv A outer s H E p) (WD E) (defBody st) ms) : FnGH P w K mg base (k + 1) f fd ps (spP K mg (mfunP ps.length N.length ms)) := by
  have len : ∀ vs H Q E, spP K mg (mfunP ps.length N.length ms) vs H Q E → vs.length = ps.length := by
    rintro vs H Q E ⟨F, ds, _, a, q⟩
    unfold mfunP at q
    by_cases hl : ds.length = ps.length
    · rw [dpAll_length a, hl]
    · rw [if_neg hl] at q
      exact q.elim
  obtain ⟨oc, od, kV, doc, pm, an, cdv, ct, osl, rfl, lk, hcd⟩ := Fn.ex
  refine ⟨len, fun A outer s H args us vs Q E p hr hot hpin e0 hbd r hsp => ?_⟩
  have hl := len _ _ _ _ hsp
  have KX : K.In s.heap := e0.mod.kin.keeps fun b o e => (e0.bs b o e).1
  have lim : s.heap.NoLimit := e0.mod.nolimit.keeps fun b o e => (e0.bs b o e).1
  have hkind : ∀ y ∈ ps.zip us, (defScope st).names.lookup y.1 = some .local ∨ ((defScope st).names.lookup y.1 = some .cell ∧ ((cellsFrom (s.heap.objs.size + 1) (defScope st).names []).lookup y.1).isSome = true) := fun ⟨n, v⟩ hy => by
    rcases S.par n (List.of_mem_zip hy).1 with q | q
    · exact .inl q
    · exact .inr ⟨q, PySem.W.cellsFrom_some _ _ _ (.inl q)⟩
  refine codeAny_call_function hr.rm.depth (KX _ _ lk) rfl S.co S.gen rfl (PySem.W.codeRec_of KX hcd) (hbd _ _ _ _ ?_)
  refine wpAny_newFunctionEnv_cells S.kind hkind fun env he s1 x => ?_
  subst he
  refine ⟨lim.keeps x.toInCall.keep, codeAny_func ?_⟩
  have I := L2H.inv_startH (CX := L2N.CX P w) (mg := mg) (E := E) (cd := cdv) (qual := qual) (f := f) (A := A) S hpin e0 hl r x
  refine wpAny_mono ((hb cdv A outer s H E p hot (hr.deeper _)).run [] s1 (L2.start N vs) H _ I (readP (X := L2H.cxH (L2N.CX P w) P w K mg base N qual (defScope st) f cdv A outer s H E p) hn hsp)) (fun fl s' hs => ?_) fun e s' hs => hs
  cases fl with
  | ret u =>
    obtain ⟨v, σ', H', J, rv, q⟩ := hs
    exact ⟨v, H', J.os, J.bare, J.base, J.hok, rv, q⟩
  | next =>
    obtain ⟨σ', H', J, q⟩ := hs
    exact ⟨.non, H', J.os, J.bare, J.base, J.hok, rfl, q⟩
  | brk =>
    obtain ⟨_, _, _, q⟩ := hs
    exact False.elim q
  | cont =>
    obtain ⟨_, _, _, q⟩ := hs
    exact False.elim q
end
section
variable {X : Cx} {W : WX} {k : Nat} {f : Addr} {fd : FuncData} {ps : List Str} {sp : Sp} {E : L2.St → XK} {x : Str} {p pos : Pos} {e : Expr} {es : List Expr} {t : TA} {ms : MA}
theorem pe_callGH (F : FnGH X.prog X.w X.K X.mg X.base k f fd ps sp) (hr : RoomHG k X.A) (hc : L2H.HotC X) (hg : Gl X x) (hm : X.mg x = some (.ref f)) (hk : PySem.W.keepIn X.K (.ref f) = true) (hb : Binds X.K fd ps []) (hx : ∀ σ, PassesAt (L2N.CX X.prog X.w) X σ (E σ))
    (ha : PA X (e :: es) t) (hdb : (x == ("__debug__" : Str)) = false := by decide) (he : starEach (e :: es) X.env = (false, eval e X.env) :: starEach es X.env := by rfl) (hpl : (backTo pos (starEach es X.env)).any (·.1) = false := by rfl) :
    PE X (.Call (.Name x p) (e :: es) [] pos) (tCallS sp E t) := by
  refine ⟨fun pins s σ H Q I h => ?_⟩
  refine wpAny_Call_Name_kw (ld_glob I hg hm ?_ hdb)
  refine PySem.W.callWith_K (h₀ := X.base) I.ok.mod.kin hk (thn (ha.run pos pins s σ H _ I h) fun us s1 ⟨vs, H1, I1, r, q⟩ => ⟨I1.kIn, ?_⟩) he hpl
  obtain ⟨p1, hot, hp⟩ := hc
  have hl : us.length = ps.length := by rw [← r.length]; exact F.len _ _ _ _ q
  have b := hb s1 us I1.kIn (by rw [List.append_nil]; exact hl)
  rw [List.append_nil] at b
  have P1 := I1.pin p1 (List.mem_append_left _ hp)
  have hpin : L2H.PinOk X.stack H1 s1 p1 := ⟨P1.1, P1.2.1, fun hm => (List.mem_cons.mp (I1.stkSub p1.1 hm)).elim P1.2.2.1 P1.2.2.2.1, P1.2.2.2.2⟩
  refine wpAny_call (codeAny_mono (F.run X.A X.stack s1 H1 ⟨us, []⟩ us vs Q (E σ) p1 hr hot hpin I1.env0 b r q) fun r' s' hq => ?_)
  cases r' with
  | error e => exact hx σ pins H1 s1 e s' I1 hq
  | ok fl =>
    cases fl with
    | ret u => exact I1.after hq
    | next => exact False.elim hq
    | brk => exact False.elim hq
    | cont => exact False.elim hq
theorem se_callPH {mf : List D → FP} (Fn : FnGH X.prog X.w X.K X.mg X.base k f fd ps (spP X.K X.mg mf)) (hr : RoomHG k X.A) (hc : L2H.HotC X) (tk : L2N.Takes X W) (hg : Gl X x) (hm : X.mg x = some (.ref f)) (hk : PySem.W.keepIn X.K (.ref f) = true) (hb : Binds X.K fd ps [])
    (ha : SA X W (e :: es) ms) (hdb : (x == ("__debug__" : Str)) = false := by decide) (he : starEach (e :: es) X.env = (false, eval e X.env) :: starEach es X.env := by rfl) (hpl : (backTo pos (starEach es X.env)).any (·.1) = false := by rfl) :
    SE X W (.Call (.Name x p) (e :: es) [] pos) (mCallP mf ms) :=
  PE.imp (pe_callGH (E := WE W) Fn hr hc hg hm hk hb (fun σ => L2N.passAt tk σ) ha hdb he hpl) fun σ H Q ⟨c, F, s, k, q⟩ => ⟨c, F, s, k, rdA_bnd q fun ds s1 vs F1 H1 q1 k1 e1 b1 => ⟨F1, ds, k1.fh, b1, by
    cases hd : mf ds with
    | ok d =>
      rw [hd] at q1
      exact fun v F' H' gr b => q1 v F' H' (k1.grow gr) (e1.trans gr.ff) b
    | exc y =>
      rw [hd] at q1
      exact fun a F' H' ha gr => q1 a F' H' ha (k1.grow gr)
    | fail =>
      rw [hd] at q1
      exact q1.elim⟩⟩
/-- a suite bears its exception -/
theorem hot_suite {a : Addr} {oe : Obj} {cls : Value} {d : Option Addr} {pn : List (Addr × Obj)} (hz : L2N.Zn cls d oe) (hf : ∃ vs, oe.data = .fields vs) : L2H.HotC (X.suite a ((a, oe) :: pn)) := by
  obtain ⟨vs, hv⟩ := hf
  exact ⟨(a, oe), ⟨rfl, vs, hv, hz.2.2 vs hv⟩, List.mem_cons_self⟩
/-- in a def that runs there -/
theorem hot_def {CX : CXT} {P : Program} {w : World} {K : PySem.W.Frag} {mg : Str → Option Value} {base : Heap} {N : List Str} {qual : Str} {scope : Scope} {f : Addr} {cd : Value} {A : Around} {outer : List Env} {s : Shared} {H : Hp} {E : XK} {p : Addr × Obj} (h : L2H.Hot1 A p) :
    L2H.HotC (L2H.cxH CX P w K mg base N qual scope f cd A outer s H E p) := ⟨p, h, List.mem_cons_self⟩
end
end DV

/-! DV, part U: try .. except X: without a name. -/
namespace DV
open PySem PySem.Spec PyProof.Rows L2

/-- nothing is raised in a suite -/
def noX (o : Ot) : Ot := match o with
  | .exc _ _ => .fail
  | o => o
def mTryO (mb : MS) (cat : Str → Option Bool) (mh : MS) : MS := fun s => match mb s with
  | .exc x s => (match cat x with
    | some true => noX (mh s)
    | some false => .exc x s
    | none => .fail)
  | o => o
section
variable {X : Cx} {W : WX} {x : Str} {c : Value} {body suite : List Stmt} {b₀ : Stmt} {np pos pos' : Pos} {mb mh : MS} {cat : Str → Option Bool}
theorem ss_tryO (hs : X.stack = X.env :: X.outer) (hf : X.env.frame = some X.env.locals) (hc : Names X x c) (tk : L2N.Takes X W)
    (hb : ∀ (W' : WX) (pn : List (Addr × Obj)) (xe : Value → Shared → Prop), L2N.Takes (X.tr pn xe) W' → PassesOwn (model X.prog X.w) X.A X.env xe → SSs (X.tr pn xe) W' body mb)
    (hcat : CatOk X c cat)
    (hsu : ∀ (a : Addr) (oe : Obj) (cls : Value) (d : Option Addr) (pn : List (Addr × Obj)), L2N.Zn cls d oe → (∃ vs, oe.data = .fields vs) → SSs (X.suite a ((a, oe) :: pn)) W0 (b₀ :: suite) mh) :
    SS X W (.Try body [.ExceptHandler (some (.Name x np)) none (b₀ :: suite) pos'] [] [] pos) (mTryO mb cat mh) :=
  PS.imp (L2N.ps_try_many (tb := fun W' => tS X W' mb) (Wout := W) hs hf tk (fun W' pn xe t po => hb W' pn xe t po)
    (.cons (ts := fun _ _ _ => tS X W0 mh) hc (fun a oe cls d pn hz hfl => hsu a oe cls d pn hz hfl) .nil)) fun E σ H ⟨c', F, s, k, q⟩ => ⟨c'.fix F, F, s, k.fix, by
    unfold mTryO at q
    cases hm : mb s with
    | exc y s1 =>
      rw [hm] at q
      intro D σ' F' H' hD k0
      obtain ⟨k', ee⟩ := k.unfix k0
      cases hcy : cat y with
      | none =>
        simp only [hcy] at q
        exact q.elim
      | some b =>
        simp only [hcy] at q
        refine ⟨b, hcat y D b hcy hD, fun hb a' ha' => ?_, fun hb => ?_⟩
        · subst hb
          refine ⟨c', F', s1, k', ?_⟩
          have q' : RdS X.K X.mg c' W F (noX (mh s1)) E := q
          cases hmh : mh s1 with
          | nx s2 =>
            rw [hmh] at q'
            exact fun σ2 F2 H2 k2 e2 => q' _ F2 H2 k2 (ee.trans e2)
          | rt d s2 =>
            rw [hmh] at q'
            exact fun v σ2 F2 H2 k2 e2 b2 => q' v _ F2 H2 k2 (ee.trans e2) b2
          | bk s2 =>
            rw [hmh] at q'
            exact fun σ2 F2 H2 k2 e2 => q' _ F2 H2 k2 (ee.trans e2)
          | ct s2 =>
            rw [hmh] at q'
            exact fun σ2 F2 H2 k2 e2 => q' _ F2 H2 k2 (ee.trans e2)
          | exc z s2 =>
            rw [hmh] at q'
            exact q'.elim
          | fail =>
            rw [hmh] at q'
            exact q'.elim
        · subst hb
          exact q D σ' F' H' hD k'
    | nx s1 =>
      rw [hm] at q
      exact fun σ2 F2 H2 k2 e2 => q σ2 F2 H2 (k.unfix k2).1 e2
    | rt d s1 =>
      rw [hm] at q
      exact fun v σ2 F2 H2 k2 e2 => q v σ2 F2 H2 (k.unfix k2).1 e2
    | bk s1 =>
      rw [hm] at q
      exact fun σ2 F2 H2 k2 e2 => q σ2 F2 H2 (k.unfix k2).1 e2
    | ct s1 =>
      rw [hm] at q
      exact fun σ2 F2 H2 k2 e2 => q σ2 F2 H2 (k.unfix k2).1 e2
    | fail =>
      rw [hm] at q
      exact q⟩
end
theorem u64H {k : Nat} {A : Around} (r : RoomHG k A) : A.units + 64 < cLine := by have := r.rm.un; omega
theorem u65H {k : Nat} {A : Around} (r : RoomHG k A) : A.units + 65 < cLine := by have := r.rm.un; omega
/-- a tuple of ints that the module holds -/
theorem sh_const {K : PySem.W.Frag} {F : Hp} {a : Addr} {n : Nat} {sl : Array (Option Value)} {ts : List (Int × Tok)} (h : K.lookup a = some ⟨.type "tuple", none, .seq (ts.map fun p => Value.int p.1 p.2).toArray n, sl⟩) (hl : ts.length ≤ 1000) : Sh K F (.ref a) (.tuple (ts.map fun p => .int p.1)) := by
  have v : ∀ ts : List (Int × Tok), Vals (ts.map fun p => V.int p.1) (ts.map fun p => Value.int p.1 p.2) := fun ts => by
    induction ts with
    | nil => exact .nil
    | cons p ts ih => exact .cons ⟨p.2, rfl⟩ ih
  have w : ∀ ts : List (Int × Tok), ShAll K F (ts.map fun p => V.int p.1) (ts.map fun p => .int p.1) := fun ts => by
    induction ts with
    | nil => exact .nil
    | cons p ts ih => exact .cons (.int _) ih
  exact .tup (.inr ⟨_, _, n, h, rfl, rfl, rfl, by simp; exact Nat.le_trans hl (by decide), by simpa using v ts⟩) (w ts)
end DV

/-! DV, part N: plain words about data, no program in sight. -/
namespace DV
open PySem

/-! ### tame data -/
structure Tm (n m : Nat) (d : D) : Prop where
  lay : d.canLay0 = true
  sho : d.showable = true
  dep : d.depth ≤ n
  len : d.shown.length ≤ m
theorem Tm.mono {n m n' m' : Nat} {d : D} (h : Tm n m d) (hn : n ≤ n') (hm : m ≤ m') : Tm n' m' d := ⟨h.lay, h.sho, Nat.le_trans h.dep hn, Nat.le_trans h.len hm⟩
theorem Tm.shaped {n m : Nat} {d : D} (h : Tm n m d) (hn : n ≤ 64) : SeqAt.shaped d = true := by
  unfold SeqAt.shaped
  rw [h.lay, decide_eq_true (Nat.le_trans h.dep hn)]
  rfl
theorem tm_none : Tm 0 4 .none := ⟨by simp [PyData.canLay0], by simp [PyData.showable], by simp [PyData.depth], by simp [PyData.shown]; decide⟩
theorem tm_bool (b : Bool) : Tm 0 5 (.bool b) := ⟨by simp [PyData.canLay0], by simp [PyData.showable], by simp [PyData.depth], by cases b <;> simp [PyData.shown] <;> decide⟩
theorem tm_str {x : Str} (h : PyData.strOk x = true) : Tm 0 (10 * x.length + 2) (.str x) := by
  refine ⟨by simp [PyData.canLay0, h], by simp [PyData.showable], by simp [PyData.depth], ?_⟩
  simp only [PyData.shown]
  refine StrLaws.reprText_len x fun c hc => ?_
  unfold PyData.strOk at h
  rw [Array.all_eq_true'] at h
  have := h c (by simpa using hc)
  simp at this
  omega
theorem strLen_app (x y : Str) : (x ++ y).length = x.length + y.length := strLen_append x y
theorem showableAll_of : ∀ {ds : List D}, (∀ d ∈ ds, d.showable = true) → PyData.showableAll ds = true
  | [], _ => by simp [PyData.showableAll]
  | d :: ds, h => by
    simp only [PyData.showableAll, Bool.and_eq_true]
    exact ⟨h d List.mem_cons_self, showableAll_of fun e he => h e (List.mem_cons_of_mem _ he)⟩
theorem canLayAll_of : ∀ {ds : List D}, (∀ d ∈ ds, d.canLay0 = true) → PyData.canLayAll0 ds = true
  | [], _ => by simp [PyData.canLayAll0]
  | d :: ds, h => by
    simp only [PyData.canLayAll0, Bool.and_eq_true]
    exact ⟨h d List.mem_cons_self, canLayAll_of fun e he => h e (List.mem_cons_of_mem _ he)⟩
theorem depthAll_of {n : Nat} : ∀ {ds : List D}, (∀ d ∈ ds, d.depth ≤ n) → PyData.depthAll ds ≤ n
  | [], _ => by simp [PyData.depthAll]
  | d :: ds, h => by
    simp only [PyData.depthAll]
    have h1 := h d List.mem_cons_self
    have h2 := depthAll_of (ds := ds) fun e he => h e (List.mem_cons_of_mem _ he)
    omega
theorem join_len {m : Nat} : ∀ {ds : List D}, (∀ d ∈ ds, d.shown.length ≤ m) → (Str.join ", " (PyData.shownAll ds)).length ≤ ds.length * (m + 2)
  | [], _ => by simp [PyData.shownAll]; decide
  | [d], h => by
    have := h d List.mem_cons_self
    show d.shown.length ≤ _
    simp
    omega
  | d :: e :: ds, h => by
    have h1 := h d List.mem_cons_self
    have h2 := join_len (ds := e :: ds) fun f hf => h f (List.mem_cons_of_mem _ hf)
    show (d.shown ++ ", " ++ Str.join ", " (PyData.shownAll (e :: ds))).length ≤ _
    rw [strLen_append, strLen_append]
    have h3 : ((", " : String) : Str).length = 2 := rfl
    rw [h3]
    simp only [List.length_cons] at h2 ⊢
    have : (ds.length + 1 + 1) * (m + 2) = (ds.length + 1) * (m + 2) + (m + 2) := by rw [Nat.add_mul (ds.length + 1) 1, Nat.one_mul]
    omega
theorem tm_tup {n m : Nat} {ds : List D} (h : ∀ d ∈ ds, Tm n m d) : Tm (n + 1) (ds.length * (m + 2) + 3) (.tuple ds) := by
  refine ⟨by simp only [PyData.canLay0]; exact canLayAll_of fun d hd => (h d hd).lay, by simp only [PyData.showable]; exact showableAll_of fun d hd => (h d hd).sho, ?_, ?_⟩
  · simp only [PyData.depth]
    have := depthAll_of (n := n) fun d hd => (h d hd).dep
    omega
  · simp only [PyData.shown]
    unfold tupleText
    rw [strLen_append, strLen_append]
    have h1 := join_len (m := m) fun d hd => (h d hd).len
    have h2 : (("(" : String) : Str).length = 1 := rfl
    have h3 : ((if (PyData.shownAll ds).length == 1 then ",)" else ")" : String) : Str).length ≤ 2 := by split <;> decide
    have h4 : ("(" : Str).length = 1 := rfl
    omega
theorem textFrom_le {m : Nat} : ∀ (ds : List D) (k : Nat) (acc : Str), (∀ d ∈ ds, d.shown.length ≤ m) → (textFrom k acc (PyData.shownAll ds)).length ≤ acc.length + ds.length * (m + 2)
  | [], k, acc, _ => by show acc.length ≤ _; omega
  | d :: ds, k, acc, h => by
    have ih := textFrom_le ds (k + 1) (acc ++ (if k > 0 then ", " else "" : String) ++ d.shown) fun e he => h e (List.mem_cons_of_mem _ he)
    have h1 := h d List.mem_cons_self
    show (textFrom (k + 1) (acc ++ (if k > 0 then ", " else "" : String) ++ d.shown) (PyData.shownAll ds)).length ≤ _
    have e : (acc ++ (if k > 0 then ", " else "" : String) ++ d.shown).length ≤ acc.length + 2 + d.shown.length := by
      rw [strLen_append, strLen_append]
      have : ((if k > 0 then ", " else "" : String) : Str).length ≤ 2 := by split <;> decide
      omega
    rw [List.length_cons, Nat.add_mul, Nat.one_mul]
    omega
theorem tm_list {n m : Nat} {ds : List D} (h : ∀ d ∈ ds, Tm n m d) : Tm (n + 1) (ds.length * (m + 2) + 3) (.list ds) := by
  refine ⟨by simp only [PyData.canLay0]; exact canLayAll_of fun d hd => (h d hd).lay, by simp only [PyData.showable]; exact showableAll_of fun d hd => (h d hd).sho, ?_, ?_⟩
  · simp only [PyData.depth]
    have := depthAll_of (n := n) fun d hd => (h d hd).dep
    omega
  · simp only [PyData.shown]
    unfold listText
    rw [strLen_append]
    have h1 := textFrom_le (m := m) ds 0 "[" fun d hd => (h d hd).len
    have h2 : ("[" : Str).length = 1 := rfl
    have h4 : ("]" : Str).length = 1 := rfl
    omega
end DV

/-! DV, part O: the mirrors' words as simp lemmas (printed by gensimp.py). -/
namespace DV
open PySem L2
@[simp] theorem ap_mC (d : D) (s : Sl) : mC d s = (.ok d s) := rfl
@[simp] theorem ap_mVar (i : Nat) (s : Sl) : mVar i s = (match s[i]? with
  | some (.dat d) => .ok d s
  | some (.own ds) => .ok (.list ds) (s.set i (.dat (.list ds)))
  | _ => .fail) := rfl
@[simp] theorem ap_mVarB (i : Nat) (s : Sl) : mVarB i s = (match s[i]? with
  | some (.dat d) => .ok d s
  | some (.own ds) => .ok (.list ds) s
  | _ => .fail) := rfl
@[simp] theorem ap_mLst (m : MA) (s : Sl) : mLst m s = (bnd (m s) fun ds s => .ok (.list ds) s) := rfl
@[simp] theorem ap_m2 (g : D → D → Option D) (ma mb : ME) (s : Sl) : m2 g ma mb s = (bnd (ma s) fun x s => bnd (mb s) fun y s => optR (g x y) s) := rfl
@[simp] theorem ap_mT (m : ME) (s : Sl) : mT m s = (bnd (m s) fun d s => optR (asB d) s) := rfl
@[simp] theorem ap_mChain (g g' : D → D → Option D) (ma mb mc : ME) (s : Sl) : mChain g g' ma mb mc s = (bnd (ma s) fun x s => bnd (mb s) fun y s => bnd (optR (g x y) s) fun z s => match z with
  | .bool true => bnd (mc s) fun w s => optR (g' y w) s
  | .bool false => .ok (.bool false) s
  | _ => .fail) := rfl
@[simp] theorem ap_mAndT (ma mb : MB) (s : Sl) : mAndT ma mb s = (bnd (ma s) fun x s => match x with
  | true => mb s
  | false => .ok false s) := rfl
@[simp] theorem ap_mOrT (ma mb : MB) (s : Sl) : mOrT ma mb s = (bnd (ma s) fun x s => match x with
  | true => .ok true s
  | false => mb s) := rfl
@[simp] theorem ap_mNotT (ma : MB) (s : Sl) : mNotT ma s = (bnd (ma s) fun x s => .ok (!x) s) := rfl
@[simp] theorem ap_mAndV (ma mb : ME) (s : Sl) : mAndV ma mb s = (bnd (ma s) fun x s => match x with
  | .bool true => mb s
  | .bool false => .ok (.bool false) s
  | _ => .fail) := rfl
@[simp] theorem ap_mOrV (ma mb : ME) (s : Sl) : mOrV ma mb s = (bnd (ma s) fun x s => match x with
  | .bool true => .ok (.bool true) s
  | .bool false => mb s
  | _ => .fail) := rfl
@[simp] theorem ap_mNotV (ma : ME) (s : Sl) : mNotV ma s = (bnd (ma s) fun x s => match x with
  | .bool c => .ok (.bool (!c)) s
  | _ => .fail) := rfl
@[simp] theorem ap_mIfE (t : MB) (ma mb : ME) (s : Sl) : mIfE t ma mb s = (bnd (t s) fun x s => match x with
  | true => ma s
  | false => mb s) := rfl
@[simp] theorem ap_mNil  (s : Sl) : mNil  s = (.ok [] s) := rfl
@[simp] theorem ap_mCons (m : ME) (ms : MA) (s : Sl) : mCons m ms s = (bnd (m s) fun d s => bnd (ms s) fun ds s => .ok (d :: ds) s) := rfl
@[simp] theorem ap_mStar (m : ME) (ms : MA) (s : Sl) : mStar m ms s = (bnd (m s) fun d s => match seqD d with
  | some xs => bnd (ms s) fun ds s => .ok (xs ++ ds) s
  | none => .fail) := rfl
@[simp] theorem ap_mTup (ms : MA) (s : Sl) : mTup ms s = (bnd (ms s) fun ds s => if ds.length ≤ 1000000 then .ok (.tuple ds) s else .fail) := rfl
@[simp] theorem ap_mDisp (ms : MA) (s : Sl) : mDisp ms s = (bnd (ms s) fun ds s => if ds.length ≤ 1000000 then .ok ds s else .fail) := rfl
@[simp] theorem ap_m1 (g : D → Option D) (m : ME) (s : Sl) : m1 g m s = (bnd (m s) fun x s => optR (g x) s) := rfl
@[simp] theorem ap_mIxV (i : Nat) (mb : ME) (s : Sl) : mIxV i mb s = (match s[i]? with
  | some (.own _) => bnd (mb s) fun y s => match s[i]?, y with
    | some (.own ds), .int k => optR (atI ds k) s
    | _, _ => .fail
  | some (.io _) => bnd (mb s) fun y s => match s[i]?, y with
    | some (.io ds), .int k => optR (atI ds k) s
    | _, _ => .fail
  | some (.dat d) => bnd (mb s) fun y s => optR (dIx d y) s
  | _ => .fail) := rfl
@[simp] theorem ap_mNoP  (s : Sl) : mNoP  s = (.ok none s) := rfl
@[simp] theorem ap_mP (m : ME) (s : Sl) : mP m s = (bnd (m s) fun d s => optR ((asI d).map some) s) := rfl
@[simp] theorem ap_mSl (m : ME) (ml mh : MO) (s : Sl) : mSl m ml mh s = (bnd (m s) fun d s => bnd (ml s) fun l s => bnd (mh s) fun u s => optR (dCut d l u) s) := rfl
@[simp] theorem ap_mSlL (m : ME) (ml mh : MO) (s : Sl) : mSlL m ml mh s = (bnd (m s) fun d s => bnd (ml s) fun l s => bnd (mh s) fun u s => match d with
  | .list ds => .ok (cutL ds l u) s
  | _ => .fail) := rfl
@[simp] theorem ap_mO1 (g : D → Option (List D)) (m : ME) (s : Sl) : mO1 g m s = (bnd (m s) fun x s => optR (g x) s) := rfl
@[simp] theorem ap_mCallP (m : List D → FP) (ms : MA) (s : Sl) : mCallP m ms s = (bnd (ms s) fun ds s => match m ds with
  | .ok d => .ok d s
  | .exc x => .exc x s
  | .fail => .fail) := rfl
@[simp] theorem ap_mCallS (m : List D → List D → FS) (i : Nat) (ms : MA) (s : Sl) : mCallS m i ms s = (match s[i]? with
  | some (.io _) => bnd (ms s) fun as s => (match s[i]? with
    | some (.io ds) => (match m ds as with
      | .ok d es => .ok d (s.set i (.io es))
      | .exc x es => .exc x (s.set i (.io es))
      | .fail => .fail)
    | _ => .fail)
  | some (.own _) => bnd (ms s) fun as s => (match s[i]? with
    | some (.own ds) => (match m ds as with
      | .ok d es => .ok d (s.set i (.own es))
      | .exc x es => .exc x (s.set i (.own es))
      | .fail => .fail)
    | _ => .fail)
  | _ => .fail) := rfl
@[simp] theorem ap_mConsV (i : Nat) (ms : MA) (s : Sl) : mConsV i ms s = (match s[i]? with
  | some (.own _) => bnd (ms s) fun ds s => (match s[i]? with
    | some (.own es) => .ok (.list es :: ds) s
    | _ => .fail)
  | _ => .fail) := rfl
@[simp] theorem ap_mCallPb (m : List D → FP) (ms : MA) (s : Sl) : mCallPb m ms s = (bnd (ms s) fun ds s => match m ds with
  | .ok d => if flatD d = true then .ok d s else .fail
  | .exc x => .exc x s
  | .fail => .fail) := rfl
@[simp] theorem ap_mCallSb (m : List D → List D → FS) (i : Nat) (ms : MA) (s : Sl) : mCallSb m i ms s = (match s[i]? with
  | some (.io _) => bnd (ms s) fun as s => (match s[i]? with
    | some (.io ds) => (match m ds as with
      | .ok d es => if flatD d = true then .ok d (s.set i (.io es)) else .fail
      | .exc x es => .exc x (s.set i (.io es))
      | .fail => .fail)
    | _ => .fail)
  | _ => .fail) := rfl
@[simp] theorem ap_mSeq (a b : MS) (s : Sl) : mSeq a b s = (match a s with
  | .nx s => b s
  | o => o) := rfl
@[simp] theorem ap_mNext  (s : Sl) : mNext  s = (.nx s) := rfl
@[simp] theorem ap_mBreak  (s : Sl) : mBreak  s = (.bk s) := rfl
@[simp] theorem ap_mCont  (s : Sl) : mCont  s = (.ct s) := rfl
@[simp] theorem ap_mRet (m : ME) (s : Sl) : mRet m s = (toS (m s) fun d s => .rt d s) := rfl
@[simp] theorem ap_mRetN  (s : Sl) : mRetN  s = (.rt .none s) := rfl
@[simp] theorem ap_mSet (i : Nat) (m : ME) (s : Sl) : mSet i m s = (toS (m s) fun d s => .nx (s.set i (.dat d))) := rfl
@[simp] theorem ap_mSetO (i : Nat) (m : MA) (s : Sl) : mSetO i m s = (toS (m s) fun ds s => .nx (s.set i (.own ds))) := rfl
@[simp] theorem ap_mDrop (m : ME) (s : Sl) : mDrop m s = (toS (m s) fun _ s => .nx s) := rfl
@[simp] theorem ap_mIf (t : MB) (a b : MS) (s : Sl) : mIf t a b s = (toS (t s) fun b' s => match b' with
  | true => a s
  | false => b s) := rfl
@[simp] theorem ap_gN (i : Nat) (d : D) (s : Sl) : gN i d s = (some (s.set i (.dat d))) := rfl
@[simp] theorem ap_gsN  (ds : List D) (s : Sl) : gsN  ds s = (match ds with
  | [] => some s
  | _ => none) := rfl
@[simp] theorem ap_gsC (g : MG) (gs : MGs) (ds : List D) (s : Sl) : gsC g gs ds s = (match ds with
  | d :: ds => (g d s).bind fun s => gs ds s
  | [] => none) := rfl
@[simp] theorem ap_gT (n : Nat) (gs : MGs) (d : D) (s : Sl) : gT n gs d s = (match d with
  | .tuple ds => if ds.length = n then gs ds s else none
  | _ => none) := rfl
@[simp] theorem ap_mAsg (g : MG) (m : ME) (s : Sl) : mAsg g m s = (toS (m s) fun d s => match g d s with
  | some s => .nx s
  | none => .fail) := rfl
@[simp] theorem ap_mPar (i j : Nat) (ma mb : ME) (s : Sl) : mPar i j ma mb s = (toS (ma s) fun d s => toS (mb s) fun d2 s => .nx ((s.set i (.dat d)).set j (.dat d2))) := rfl
@[simp] theorem ap_mApp (i : Nat) (m : ME) (s : Sl) : mApp i m s = (match s[i]? with
  | some (.own _) => toS (m s) fun d s => (match s[i]? with
    | some (.own ds) => if ds.length < 1000000 then .nx (s.set i (.own (ds ++ [d]))) else .fail
    | _ => .fail)
  | _ => .fail) := rfl
@[simp] theorem ap_mExt (i : Nat) (m : MA) (s : Sl) : mExt i m s = (match s[i]? with
  | some (.own _) => toS (m s) fun es s => (match s[i]? with
    | some (.own ds) => if ds.length + es.length ≤ 1000000 then .nx (s.set i (.own (ds ++ es))) else .fail
    | _ => .fail)
  | _ => .fail) := rfl
@[simp] theorem ap_mSto (i : Nat) (mk me : ME) (s : Sl) : mSto i mk me s = (toS (me s) fun d s => match s[i]? with
  | some (.own _) => toS (mk s) fun y s => (match s[i]?, y with
    | some (.own ds), .int k => (match ixN ds.length k with
      | some j => .nx (s.set i (.own (ds.set j d)))
      | none => .fail)
    | _, _ => .fail)
  | some (.io _) => toS (mk s) fun y s => (match s[i]?, y with
    | some (.io ds), .int k => (match ixN ds.length k with
      | some j => if flatD d = true then .nx (s.set i (.io (ds.set j d))) else .fail
      | none => .fail)
    | _, _ => .fail)
  | _ => .fail) := rfl
@[simp] theorem ap_mAug (i : Nat) (f : Int → Int → Int) (m : ME) (s : Sl) : mAug i f m s = (match s[i]? with
  | some (.dat (.int a)) => toS (m s) fun d s => (match d with
    | .int b => .nx (s.set i (.dat (.int (f a b))))
    | _ => .fail)
  | _ => .fail) := rfl
@[simp] theorem ap_mItems (m : ME) (s : Sl) : mItems m s = (bnd (m s) fun d s => optR (seqD d) s) := rfl
@[simp] theorem ap_mRng1 (m : ME) (s : Sl) : mRng1 m s = (bnd (m s) fun d s => match d with
  | .int n => if n ≤ 1000000000 ∧ -1000000000 ≤ n then .ok (rngD n.toNat) s else .fail
  | _ => .fail) := rfl
@[simp] theorem ap_mZip (ms : MA) (s : Sl) : mZip ms s = (bnd (ms s) fun ds s => match ds with
  | [.list xs, .list ys] => .ok (zipD xs ys) s
  | [.tuple xs, .tuple ys] => .ok (zipD xs ys) s
  | _ => .fail) := rfl
@[simp] theorem ap_mFor (src : MA) (g : MG) (b : MS) (s : Sl) : mFor src g b s = (toS (src s) fun ds s => mForL g b ds s) := rfl
@[simp] theorem ap_mTrue  (s : Sl) : mTrue  s = (.ok true s) := rfl
@[simp] theorem ap_mSetD (i : Nat) (m : MA) (s : Sl) : mSetD i m s = (toS (m s) fun ds s => .nx (s.set i (.dat (.list ds)))) := rfl
@[simp] theorem ap_mRaise (x : Str) (s : Sl) : mRaise x s = (.exc x s) := rfl
@[simp] theorem ap_mTry (mb : MS) (cat : Str → Option Bool) (i : Nat) (oc : Sl → Ot) (s : Sl) : mTry mb cat i oc s = (match mb s with
  | .exc x s => (match cat x with
    | some true => if i < s.length then oc (s.set i .un) else .fail
    | some false => .exc x s
    | none => .fail)
  | o => o) := rfl
@[simp] theorem ap_mTryO (mb : MS) (cat : Str → Option Bool) (mh : MS) (s : Sl) : mTryO mb cat mh s = (match mb s with
  | .exc x s => (match cat x with
    | some true => noX (mh s)
    | some false => .exc x s
    | none => .fail)
  | o => o) := rfl
@[simp] theorem ap_mIndex (m me : ME) (s : Sl) : mIndex m me s = (bnd (m s) fun d s => match d with
  | .tuple ds => bnd (me s) fun e s => optR (dIndex (.tuple ds) e) s
  | .list ds => bnd (me s) fun e s => optR (dIndex (.list ds) e) s
  | _ => .fail) := rfl
@[simp] theorem ap_mIsI (f : D → D) (m : ME) (s : Sl) : mIsI f m s = (bnd (m s) fun d s => .ok (f d) s) := rfl
@[simp] theorem ap_mRev (m ms : ME) (s : Sl) : mRev m ms s = (bnd (m s) fun d s => bnd (ms s) fun e s => match d, e with
  | .tuple ds, .int (-1) => .ok (.tuple ds.reverse) s
  | _, _ => .fail) := rfl
/-! operations on written data -/
@[simp] theorem dAdd_int (i j : Int) : dAdd (.int i) (.int j) = some (.int (i + j)) := rfl
@[simp] theorem dSub_int (i j : Int) : dSub (.int i) (.int j) = some (.int (i - j)) := rfl
@[simp] theorem dLt_int (i j : Int) : dLt (.int i) (.int j) = some (.bool (decide (i < j))) := rfl
@[simp] theorem dLe_int (i j : Int) : dLe (.int i) (.int j) = some (.bool (decide (i ≤ j))) := rfl
@[simp] theorem dGt_int (i j : Int) : dGt (.int i) (.int j) = some (.bool (decide (j < i))) := rfl
@[simp] theorem dGe_int (i j : Int) : dGe (.int i) (.int j) = some (.bool (decide (j ≤ i))) := rfl
@[simp] theorem dNeg_int (i : Int) : dNeg (.int i) = some (.int (-i)) := rfl
@[simp] theorem dInt_int (i : Int) : dInt (.int i) = some (.int i) := rfl
@[simp] theorem dInt_bool (b : Bool) : dInt (.bool b) = some (.int (if b then 1 else 0)) := rfl
@[simp] theorem dAbs_int (i : Int) : dAbs (.int i) = some (.int (if i < 0 then -i else i)) := rfl
@[simp] theorem dLen_list (ds : List D) : dLen (.list ds) = some (.int ds.length) := rfl
@[simp] theorem dLen_tuple (ds : List D) : dLen (.tuple ds) = some (.int ds.length) := rfl
@[simp] theorem dTuple_list (ds : List D) : dTuple (.list ds) = some (.tuple ds) := rfl
@[simp] theorem dTuple_tuple (ds : List D) : dTuple (.tuple ds) = some (.tuple ds) := rfl
@[simp] theorem dList_list (ds : List D) : dList (.list ds) = some ds := rfl
@[simp] theorem dList_tuple (ds : List D) : dList (.tuple ds) = some ds := rfl
@[simp] theorem seqD_list (ds : List D) : seqD (.list ds) = some ds := rfl
@[simp] theorem seqD_tuple (ds : List D) : seqD (.tuple ds) = some ds := rfl
@[simp] theorem asB_bool (b : Bool) : asB (.bool b) = some b := rfl
@[simp] theorem asI_int (i : Int) : asI (.int i) = some i := rfl
@[simp] theorem dIx_list (ds : List D) (i : Int) : dIx (.list ds) (.int i) = atI ds i := rfl
@[simp] theorem dIx_tuple (ds : List D) (i : Int) : dIx (.tuple ds) (.int i) = atI ds i := rfl
@[simp] theorem dEq_int (i j : Int) : dEq (.int i) (.int j) = some (.bool (decide (i = j))) := by
  have h : (i == j) = decide (i = j) := by rw [Bool.eq_iff_iff]; simp
  show some (PyData.bool ((i == j))) = _
  rw [h]
@[simp] theorem dEq_str (x y : Str) : dEq (.str x) (.str y) = some (.bool (decide (x = y))) := by
  have h : (x == y) = decide (x = y) := by rw [Bool.eq_iff_iff]; simp
  show some (PyData.bool ((x == y))) = _
  rw [h]
@[simp] theorem dEq_bool (x y : Bool) : dEq (.bool x) (.bool y) = some (.bool (decide (x = y))) := by
  have h : (x == y) = decide (x = y) := by rw [Bool.eq_iff_iff]; simp
  show some (PyData.bool ((x == y))) = _
  rw [h]
@[simp] theorem dNe_int (i j : Int) : dNe (.int i) (.int j) = some (.bool (!decide (i = j))) := by
  have h : (i == j) = decide (i = j) := by rw [Bool.eq_iff_iff]; simp
  show some (PyData.bool (!(i == j))) = _
  rw [h]
@[simp] theorem dNe_str (x y : Str) : dNe (.str x) (.str y) = some (.bool (!decide (x = y))) := by
  have h : (x == y) = decide (x = y) := by rw [Bool.eq_iff_iff]; simp
  show some (PyData.bool (!(x == y))) = _
  rw [h]
@[simp] theorem dNe_bool (x y : Bool) : dNe (.bool x) (.bool y) = some (.bool (!decide (x = y))) := by
  have h : (x == y) = decide (x = y) := by rw [Bool.eq_iff_iff]; simp
  show some (PyData.bool (!(x == y))) = _
  rw [h]
@[simp] theorem dIsN_none (d : D) : dIsN d .none = some (.bool (isNoneD d)) := rfl
@[simp] theorem dNotN_none (d : D) : dNotN d .none = some (.bool (!isNoneD d)) := rfl
@[simp] theorem isNoneD_none : isNoneD .none = true := rfl
@[simp] theorem isNoneD_tuple (ds : List D) : isNoneD (.tuple ds) = false := rfl
@[simp] theorem isNoneD_list (ds : List D) : isNoneD (.list ds) = false := rfl
@[simp] theorem isNoneD_int (i : Int) : isNoneD (.int i) = false := rfl
@[simp] theorem isNoneD_str (i : Str) : isNoneD (.str i) = false := rfl
@[simp] theorem isNoneD_bool (i : Bool) : isNoneD (.bool i) = false := rfl
@[simp] theorem dIsTup_tuple (ds : List D) : dIsTup (.tuple ds) = .bool true := rfl
@[simp] theorem dIsTup_list (ds : List D) : dIsTup (.list ds) = .bool false := rfl
@[simp] theorem dIsTup_str (i : Str) : dIsTup (.str i) = .bool false := rfl
@[simp] theorem dIsTup_int (i : Int) : dIsTup (.int i) = .bool false := rfl
@[simp] theorem dCut_tuple (ds : List D) (l h : Option Int) : dCut (.tuple ds) l h = some (.tuple (cutL ds l h)) := rfl
@[simp] theorem flatD_int (i : Int) : flatD (.int i) = true := rfl
theorem dAdd_tup {xs ys : List D} (h : xs.length + ys.length ≤ 1000000) : dAdd (.tuple xs) (.tuple ys) = some (.tuple (xs ++ ys)) := if_pos h
theorem dAdd_list {xs ys : List D} (h : xs.length + ys.length ≤ 1000000) : dAdd (.list xs) (.list ys) = some (.list (xs ++ ys)) := if_pos h
theorem dAdd_str {x y : Str} (h : x.length + y.length ≤ 1000000) : dAdd (.str x) (.str y) = some (.str (x ++ y)) := if_pos h
theorem dMod_int {i j : Int} (h : j ≠ 0) : dMod (.int i) (.int j) = some (.int (i.fmod j)) := if_pos h
theorem dFdiv_int {i j : Int} (h : j ≠ 0) (h2 : j.natAbs < 2 ^ 9000) : dFdiv (.int i) (.int j) = some (.int (i.fdiv j)) := if_pos ⟨h, by
  by_cases z : j.natAbs = 0
  · rw [z]; decide
  · exact (Nat.log2_lt z).mpr h2⟩
theorem log2_le {n k : Nat} (h : n < 2 ^ (k + 1)) : n.log2 ≤ k := by
  by_cases z : n = 0
  · subst z; simp
  · have := (Nat.log2_lt z).mpr h
    omega
theorem dMul_int {i j : Int} (hi : i.natAbs < 2 ^ 400000) (hj : j.natAbs < 2 ^ 400000) : dMul (.int i) (.int j) = some (.int (i * j)) := if_pos (by
  have h1 := log2_le (k := 399999) hi
  have h2 := log2_le (k := 399999) hj
  omega)
theorem eqv_int (i j : Int) : PyData.eqv (.int i) (.int j) = (i == j) := by simp [PyData.eqv]
theorem eqv_str (i j : Str) : PyData.eqv (.str i) (.str j) = (i == j) := by simp [PyData.eqv]
theorem dEqv_sh {a b : D} (ha : SeqAt.shaped a = true) (hb : SeqAt.shaped b = true) : dEqv a b = some (PyData.eqv a b) := by
  unfold dEqv
  split
  · rw [eqv_int]
  · rw [eqv_str]
  · simp [PyData.eqv]
  · rw [ha, hb]; rfl
theorem dEq_sh {a b : D} (ha : SeqAt.shaped a = true) (hb : SeqAt.shaped b = true) : dEq a b = some (.bool (PyData.eqv a b)) := by
  unfold dEq; rw [dEqv_sh ha hb]; rfl
theorem dNe_sh {a b : D} (ha : SeqAt.shaped a = true) (hb : SeqAt.shaped b = true) : dNe a b = some (.bool (!PyData.eqv a b)) := by
  unfold dNe; rw [dEqv_sh ha hb]; rfl
theorem dIn_list {d : D} {ds : List D} (ha : SeqAt.shaped d = true) (hb : SeqAt.shaped (.list ds) = true) : dIn d (.list ds) = some (.bool (ds.any fun z => PyData.eqv z d)) := by
  unfold dIn dInB; simp [ha, hb]
theorem dIn_tuple {d : D} {ds : List D} (ha : SeqAt.shaped d = true) (hb : SeqAt.shaped (.tuple ds) = true) : dIn d (.tuple ds) = some (.bool (ds.any fun z => PyData.eqv z d)) := by
  unfold dIn dInB; simp [ha, hb]
theorem dNotIn_list {d : D} {ds : List D} (ha : SeqAt.shaped d = true) (hb : SeqAt.shaped (.list ds) = true) : dNotIn d (.list ds) = some (.bool (!(ds.any fun z => PyData.eqv z d))) := by
  unfold dNotIn dInB; simp [ha, hb]
theorem dNotIn_tuple {d : D} {ds : List D} (ha : SeqAt.shaped d = true) (hb : SeqAt.shaped (.tuple ds) = true) : dNotIn d (.tuple ds) = some (.bool (!(ds.any fun z => PyData.eqv z d))) := by
  unfold dNotIn dInB; simp [ha, hb]
theorem dSum_ints (ns : List Int) : dSum (.list (ns.map .int)) = some (.int ns.sum) := by
  unfold dSum listI; simp [intsOf_map]
theorem dAll_bools (ns : List Bool) : dAll (.list (ns.map .bool)) = some (.bool (ns.all id)) := by
  unfold dAll listB; simp [boolsOf_map]
theorem dAny_bools (ns : List Bool) : dAny (.list (ns.map .bool)) = some (.bool (ns.any id)) := by
  unfold dAny listB; simp [boolsOf_map]
theorem dRepr_tm {n m : Nat} {d : D} (h : Tm n m d) (hn : n ≤ 60) (hm : m ≤ 1000000) : dRepr d = some (.str d.shown) := by
  unfold dRepr
  rw [if_pos]
  rw [h.sho, PyData.hasDict_of_canLay d h.lay, decide_eq_true (Nat.le_trans h.dep hn), decide_eq_true (Nat.le_trans h.len hm)]
  rfl
/-! places -/
theorem atI_nat {α : Type} (xs : List α) (k : Nat) : atI xs (k : Int) = xs[k]? := by
  unfold atI ixN
  by_cases h : k < xs.length
  · rw [if_pos (by omega), if_pos (by omega)]
    simp
  · rw [if_pos (by omega), if_neg (by omega)]
    simp
    omega
@[simp] theorem atI_0 {α : Type} (xs : List α) : atI xs 0 = xs[0]? := atI_nat xs 0
@[simp] theorem atI_1 {α : Type} (xs : List α) : atI xs 1 = xs[1]? := atI_nat xs 1
@[simp] theorem atI_2 {α : Type} (xs : List α) : atI xs 2 = xs[2]? := atI_nat xs 2
@[simp] theorem atI_3 {α : Type} (xs : List α) : atI xs 3 = xs[3]? := atI_nat xs 3
@[simp] theorem atI_cast {α : Type} (xs : List α) (k : Nat) : atI xs (k : Int) = xs[k]? := atI_nat xs k
theorem atI_last {α : Type} (xs : List α) (h : xs ≠ []) : atI xs (-1) = xs[xs.length - 1]? := by
  unfold atI ixN
  have : 0 < xs.length := List.length_pos_iff.mpr h
  rw [if_neg (by omega), if_pos (by omega)]
  show xs[((-1 : Int) + (xs.length : Int)).toNat]? = _
  congr 1
  omega
@[simp] theorem ixN_0 (n : Nat) : ixN (n + 1) 0 = some 0 := by simp [ixN]
@[simp] theorem ixN_1 (n : Nat) : ixN (n + 1 + 1) 1 = some 1 := by
  unfold ixN
  rw [if_pos (by omega), if_pos (by omega)]
  rfl
/-! loops -/
theorem forL_nil {g : MG} {b : MS} {s : Sl} : mForL g b [] s = .nx s := rfl
theorem forL_nx {g : MG} {b : MS} {d : D} {ds : List D} {s s1 s2 : Sl} (hg : g d s = some s1) (hb : b s1 = .nx s2) : mForL g b (d :: ds) s = mForL g b ds s2 := by
  unfold mForL
  rw [hg]
  simp only
  rw [hb]
  cases ds <;> rfl
theorem forL_ct {g : MG} {b : MS} {d : D} {ds : List D} {s s1 s2 : Sl} (hg : g d s = some s1) (hb : b s1 = .ct s2) : mForL g b (d :: ds) s = mForL g b ds s2 := by
  unfold mForL
  rw [hg]
  simp only
  rw [hb]
  cases ds <;> rfl
theorem forL_bk {g : MG} {b : MS} {d : D} {ds : List D} {s s1 s2 : Sl} (hg : g d s = some s1) (hb : b s1 = .bk s2) : mForL g b (d :: ds) s = .nx s2 := by
  unfold mForL
  rw [hg]
  simp only
  rw [hb]
theorem forL_rt {g : MG} {b : MS} {d r : D} {ds : List D} {s s1 s2 : Sl} (hg : g d s = some s1) (hb : b s1 = .rt r s2) : mForL g b (d :: ds) s = .rt r s2 := by
  unfold mForL
  rw [hg]
  simp only
  rw [hb]
theorem forL_exc {g : MG} {b : MS} {d : D} {x : Str} {ds : List D} {s s1 s2 : Sl} (hg : g d s = some s1) (hb : b s1 = .exc x s2) : mForL g b (d :: ds) s = .exc x s2 := by
  unfold mForL
  rw [hg]
  simp only
  rw [hb]
/-- a loop with an invariant over what is still to come -/
theorem forL_inv {g : MG} {b : MS} (I : List D → Sl → Prop) (step : ∀ d ds s, I (d :: ds) s → ∃ s1 s2, g d s = some s1 ∧ (b s1 = .nx s2 ∨ b s1 = .ct s2) ∧ I ds s2) : ∀ (ds : List D) (s : Sl), I ds s → ∃ s', mForL g b ds s = .nx s' ∧ I [] s'
  | [], s, h => ⟨s, rfl, h⟩
  | d :: ds, s, h => by
    obtain ⟨s1, s2, hg, hb, hI⟩ := step d ds s h
    obtain ⟨s', h1, h2⟩ := forL_inv I step ds s2 hI
    refine ⟨s', ?_, h2⟩
    rcases hb with hb | hb
    · rw [forL_nx hg hb, h1]
    · rw [forL_ct hg hb, h1]
/-- a comprehension, item by item -/
theorem lcL_nil {vs : List Nat} {g : MG} {t : MB} {m : ME} {s : Sl} : mLcL vs g t m [] s = .ok [] s := rfl
theorem lcL_yes {vs : List Nat} {g : MG} {t : MB} {m : ME} {d y : D} {ds ys : List D} {s s1 s2 s3 s4 : Sl} (hg : g d s = some s1) (ht : t s1 = .ok true s2) (hm : m s2 = .ok y s3) (hr : mLcL vs g t m ds (unS s3 vs) = .ok ys s4) : mLcL vs g t m (d :: ds) s = .ok (y :: ys) s4 := by
  unfold mLcL
  rw [hg]
  simp only [ht, hm, hr]
theorem lcL_no {vs : List Nat} {g : MG} {t : MB} {m : ME} {d : D} {ds : List D} {s s1 s2 : Sl} (hg : g d s = some s1) (ht : t s1 = .ok false s2) : mLcL vs g t m (d :: ds) s = mLcL vs g t m ds (unS s2 vs) := by
  conv => lhs; unfold mLcL
  rw [hg]
  simp only [ht]
/-- .. where the slots stay as they are: every item gives its own -/
theorem lcL_map {vs : List Nat} {g : MG} {m : ME} {s : Sl} {f : D → D} : ∀ {ds : List D}, (∀ d ∈ ds, ∃ s1 s3, g d s = some s1 ∧ m s1 = .ok (f d) s3 ∧ unS s3 vs = s) → mLcL vs g mTrue m ds s = .ok (ds.map f) s
  | [], _ => rfl
  | d :: ds, h => by
    obtain ⟨s1, s3, h1, h2, h3⟩ := h d List.mem_cons_self
    refine lcL_yes h1 rfl h2 ?_
    rw [h3]
    exact lcL_map fun e he => h e (List.mem_cons_of_mem _ he)
theorem lcL_filter {vs : List Nat} {g : MG} {t : MB} {m : ME} {s : Sl} {p : D → Bool} {f : D → D} : ∀ {ds : List D}, (∀ d ∈ ds, ∃ s1 s2, g d s = some s1 ∧ t s1 = .ok (p d) s2 ∧ (p d = false → unS s2 vs = s) ∧ (p d = true → ∃ s3, m s2 = .ok (f d) s3 ∧ unS s3 vs = s)) →
    mLcL vs g t m ds s = .ok ((ds.filter p).map f) s
  | [], _ => rfl
  | d :: ds, h => by
    obtain ⟨s1, s2, h1, h2, h3, h4⟩ := h d List.mem_cons_self
    have ih := lcL_filter (ds := ds) (vs := vs) (g := g) (t := t) (m := m) (s := s) (p := p) (f := f) fun e he => h e (List.mem_cons_of_mem _ he)
    cases hp : p d with
    | false =>
      rw [hp] at h2
      rw [lcL_no h1 h2, h3 hp, ih, List.filter_cons_of_neg (by simp [hp])]
    | true =>
      rw [hp] at h2
      obtain ⟨s3, h5, h6⟩ := h4 hp
      rw [List.filter_cons_of_pos hp, List.map_cons]
      refine lcL_yes h1 h2 h5 ?_
      rw [h6]
      exact ih
end DV

/-! DV, part P: more plain words. -/
namespace DV
open PySem L2
theorem fdiv_nat (a b : Nat) : Int.fdiv a b = ((a / b : Nat) : Int) := by
  rw [Int.fdiv_eq_ediv_of_nonneg _ (by omega)]
  rfl
theorem fmod_nat (a b : Nat) : Int.fmod a b = ((a % b : Nat) : Int) := by
  rw [Int.fmod_eq_emod_of_nonneg _ (by omega)]
  rfl
theorem dFdiv_nat {a b : Nat} (h : 0 < b) (h2 : b < 2 ^ 64) : dFdiv (.int a) (.int b) = some (.int ((a / b : Nat) : Int)) := by
  rw [dFdiv_int (by omega) (Nat.lt_of_lt_of_le (show (b : Int).natAbs < 2 ^ 64 by simpa using h2) (by decide +kernel)), fdiv_nat]
theorem dMod_nat {a b : Nat} (h : 0 < b) : dMod (.int a) (.int b) = some (.int ((a % b : Nat) : Int)) := by
  rw [dMod_int (by omega), fmod_nat]
theorem dMul_nat {a b : Nat} (h : a < 2 ^ 1000) (h2 : b < 2 ^ 1000) : dMul (.int a) (.int b) = some (.int ((a * b : Nat) : Int)) := by
  rw [dMul_int (Nat.lt_of_lt_of_le (show (a : Int).natAbs < 2 ^ 1000 by simpa using h) (by decide +kernel)) (Nat.lt_of_lt_of_le (show (b : Int).natAbs < 2 ^ 1000 by simpa using h2) (by decide +kernel))]
  rw [Int.natCast_mul]
theorem dMod_pos {i : Int} {b : Nat} (h : 0 < b) : ∃ r : Nat, r < b ∧ dMod (.int i) (.int b) = some (.int (r : Int)) := by
  refine ⟨(i.fmod b).toNat, ?_, ?_⟩
  · have h1 := Int.fmod_nonneg_of_pos (a := i) (b := (b : Int)) (by omega)
    have h2 := Int.fmod_lt_of_pos i (b := (b : Int)) (by omega)
    omega
  · rw [dMod_int (by omega)]
    have h1 := Int.fmod_nonneg_of_pos (a := i) (b := (b : Int)) (by omega)
    rw [Int.toNat_of_nonneg h1]
theorem forL_brk {g : MG} {b : MS} (I : List D → Sl → Prop) (J : Sl → Prop) (fin : ∀ s, I [] s → J s)
    (step : ∀ d ds s, I (d :: ds) s → ∃ s1 s2, g d s = some s1 ∧ (((b s1 = .nx s2 ∨ b s1 = .ct s2) ∧ I ds s2) ∨ (b s1 = .bk s2 ∧ J s2))) : ∀ (ds : List D) (s : Sl), I ds s → ∃ s', mForL g b ds s = .nx s' ∧ J s'
  | [], s, h => ⟨s, rfl, fin s h⟩
  | d :: ds, s, h => by
    obtain ⟨s1, s2, hg, hb⟩ := step d ds s h
    rcases hb with ⟨hb, hI⟩ | ⟨hb, hJ⟩
    · obtain ⟨s', h1, h2⟩ := forL_brk I J fin step ds s2 hI
      refine ⟨s', ?_, h2⟩
      rcases hb with hb | hb
      · rw [forL_nx hg hb, h1]
      · rw [forL_ct hg hb, h1]
    · exact ⟨s2, forL_bk hg hb, hJ⟩
/-- a loop, whatever it ends with -/
theorem forL_any {g : MG} {b : MS} (I : List D → Sl → Prop) (Out : Ot → Prop) (fin : ∀ s, I [] s → Out (.nx s))
    (step : ∀ d ds s, I (d :: ds) s → ∃ s1, g d s = some s1 ∧ ((∃ s2, (b s1 = .nx s2 ∨ b s1 = .ct s2) ∧ I ds s2) ∨ (∃ s2, b s1 = .bk s2 ∧ Out (.nx s2)) ∨ (∃ r s2, b s1 = .rt r s2 ∧ Out (.rt r s2)) ∨ (∃ x s2, b s1 = .exc x s2 ∧ Out (.exc x s2)))) :
    ∀ (ds : List D) (s : Sl), I ds s → Out (mForL g b ds s)
  | [], s, h => fin s h
  | d :: ds, s, h => by
    obtain ⟨s1, hg, hb⟩ := step d ds s h
    rcases hb with ⟨s2, hb, hI⟩ | ⟨s2, hb, hO⟩ | ⟨r, s2, hb, hO⟩ | ⟨x, s2, hb, hO⟩
    · have ih := forL_any I Out fin step ds s2 hI
      rcases hb with hb | hb
      · rw [forL_nx hg hb]
        exact ih
      · rw [forL_ct hg hb]
        exact ih
    · rw [forL_bk hg hb]
      exact hO
    · rw [forL_rt hg hb]
      exact hO
    · rw [forL_exc hg hb]
      exact hO
theorem shaped_strs {xs : List Str} (h : ∀ x ∈ xs, PyData.strOk x = true) : SeqAt.shaped (.list (xs.map .str)) = true ∧ SeqAt.shaped (.tuple (xs.map .str)) = true := by
  have h1 : PyData.canLayAll0 (xs.map .str) = true := canLayAll_of fun d hd => by
    obtain ⟨x, hx, rfl⟩ := List.mem_map.mp hd
    simpa [PyData.canLay0] using h x hx
  have h2 : PyData.depthAll (xs.map .str) ≤ 0 := depthAll_of fun d hd => by
    obtain ⟨x, hx, rfl⟩ := List.mem_map.mp hd
    simp [PyData.depth]
  constructor
  · unfold SeqAt.shaped
    simp only [PyData.canLay0, PyData.depth, h1, Bool.true_and]
    exact decide_eq_true (by omega)
  · unfold SeqAt.shaped
    simp only [PyData.canLay0, PyData.depth, h1, Bool.true_and]
    exact decide_eq_true (by omega)
theorem shaped_str {x : Str} (h : PyData.strOk x = true) : SeqAt.shaped (.str x) = true := by
  unfold SeqAt.shaped
  simp [PyData.canLay0, PyData.depth, h]
theorem any_strs (xs : List Str) (x : Str) : ((xs.map PyData.str).any fun z => PyData.eqv z (.str x)) = decide (x ∈ xs) := by
  induction xs with
  | nil => simp
  | cons y ys ih =>
    rw [List.map_cons, List.any_cons, ih, eqv_str]
    by_cases h : y = x
    · subst h; simp
    · have h' : ¬ x = y := fun e => h e.symm
      simp [h, h']
/-- comprehensions over encoded items -/
theorem lcA_map {α : Type} {enc : α → D} {vs : List Nat} {g : MG} {m : ME} {s : Sl} {f : α → D} : ∀ {xs : List α}, (∀ x ∈ xs, ∃ s1 s3, g (enc x) s = some s1 ∧ m s1 = .ok (f x) s3 ∧ unS s3 vs = s) → mLcL vs g mTrue m (xs.map enc) s = .ok (xs.map f) s
  | [], _ => rfl
  | d :: ds, h => by
    obtain ⟨s1, s3, h1, h2, h3⟩ := h d List.mem_cons_self
    rw [List.map_cons, List.map_cons]
    refine lcL_yes h1 rfl h2 ?_
    rw [h3]
    exact lcA_map fun e he => h e (List.mem_cons_of_mem _ he)
theorem lcA_filter {α : Type} {enc : α → D} {vs : List Nat} {g : MG} {t : MB} {m : ME} {s : Sl} {p : α → Bool} {f : α → D} : ∀ {xs : List α}, (∀ d ∈ xs, ∃ s1 s2, g (enc d) s = some s1 ∧ t s1 = .ok (p d) s2 ∧ (p d = false → unS s2 vs = s) ∧ (p d = true → ∃ s3, m s2 = .ok (f d) s3 ∧ unS s3 vs = s)) →
    mLcL vs g t m (xs.map enc) s = .ok ((xs.filter p).map f) s
  | [], _ => rfl
  | d :: ds, h => by
    obtain ⟨s1, s2, h1, h2, h3, h4⟩ := h d List.mem_cons_self
    have ih := lcA_filter (xs := ds) (enc := enc) (vs := vs) (g := g) (t := t) (m := m) (s := s) (p := p) (f := f) fun e he => h e (List.mem_cons_of_mem _ he)
    rw [List.map_cons]
    cases hp : p d with
    | false =>
      rw [hp] at h2
      rw [lcL_no h1 h2, h3 hp, ih, List.filter_cons_of_neg (by simp [hp])]
    | true =>
      rw [hp] at h2
      obtain ⟨s3, h5, h6⟩ := h4 hp
      rw [List.filter_cons_of_pos hp, List.map_cons]
      refine lcL_yes h1 h2 h5 ?_
      rw [h6]
      exact ih
theorem lcA_map0 {α : Type} {enc : α → D} {vs : List Nat} {g : MG} {m : ME} {s : Sl} {f : α → D} {xs : List α} (h : ∀ x ∈ xs, ∃ s1, g (enc x) s = some s1 ∧ m s1 = .ok (f x) s1 ∧ unS s1 vs = s) : mLcL vs g mTrue m (xs.map enc) s = .ok (xs.map f) s :=
  lcA_map fun x hx => let ⟨s1, h1, h2, h3⟩ := h x hx; ⟨s1, s1, h1, h2, h3⟩
theorem lcA_filter0 {α : Type} {enc : α → D} {vs : List Nat} {g : MG} {t : MB} {m : ME} {s : Sl} {p : α → Bool} {f : α → D} {xs : List α} (h : ∀ d ∈ xs, ∃ s1, g (enc d) s = some s1 ∧ t s1 = .ok (p d) s1 ∧ (p d = true → m s1 = .ok (f d) s1) ∧ unS s1 vs = s) :
    mLcL vs g t m (xs.map enc) s = .ok ((xs.filter p).map f) s :=
  lcA_filter fun x hx => let ⟨s1, h1, h2, h3, h4⟩ := h x hx; ⟨s1, s1, h1, h2, fun _ => h4, fun e => ⟨s1, h3 e, h4⟩⟩
theorem findIdx_strs (facts : List Str) (x : Str) (h : x ∈ facts) : ((facts.map PyData.str).findIdx? fun z => PyData.eqv z (.str x)) = some (facts.idxOf x) := by
  induction facts with
  | nil => cases h
  | cons y ys ih =>
    rw [List.map_cons, List.findIdx?_cons, eqv_str]
    by_cases e : y = x
    · subst e
      simp
    · have e1 : (y == x) = false := by simpa using e
      rw [e1]
      have h' : x ∈ ys := by
        rcases List.mem_cons.mp h with q | q
        · exact absurd q.symm e
        · exact q
      rw [ih h']
      simp [List.idxOf_cons, e1]
theorem dIndex_strs {facts : List Str} (hf : ∀ x ∈ facts, PyData.strOk x = true) {x : Str} (h : x ∈ facts) : dIndex (.tuple (facts.map .str)) (.str x) = some (.int ((facts.idxOf x : Nat) : Int)) := by
  unfold dIndex
  simp only [(shaped_strs hf).2, shaped_str (hf x h), Bool.and_self, if_true, findIdx_strs facts x h, Option.map_some]
  rfl
/-! ### letters -/
def LetC (c : Nat) : Prop := c = 97 ∨ c = 98 ∨ c = 99 ∨ c = 120 ∨ c = 121 ∨ c = 122
/-- a word of these letters -/
structure LW (n : Nat) (x : Str) : Prop where
  let_ : ∀ c ∈ x.cps.toList, LetC c
  len : x.length ≤ n
theorem LW.ok {n : Nat} {x : Str} (h : LW n x) : PyData.strOk x = true := by
  unfold PyData.strOk
  rw [Array.all_eq_true']
  intro c hc
  have := h.let_ c (by simpa using hc)
  unfold LetC at this
  simp
  omega
theorem LW.mono {n m : Nat} {x : Str} (h : LW n x) (hm : n ≤ m) : LW m x := ⟨h.let_, Nat.le_trans h.len hm⟩
theorem lw_nil : LW 0 "" := ⟨fun c (hc : c ∈ ([] : List Nat)) => absurd hc (by simp), by decide⟩
theorem lw_add {n : Nat} {x : Str} {c : Nat} (h : LW n x) (hc : LetC c) : LW (n + 1) (x ++ ⟨#[c]⟩) := by
  refine ⟨fun d hd => ?_, ?_⟩
  · have hd' : d ∈ x.cps.toList ++ [c] := by
      have e : (x ++ ⟨#[c]⟩ : Str).cps = x.cps ++ #[c] := rfl
      rw [e] at hd
      simpa using hd
    rcases List.mem_append.mp hd' with q | q
    · exact h.let_ d q
    · simp at q
      subst q
      exact hc
  · rw [strLen_append]
    have := h.len
    show x.length + 1 ≤ n + 1
    omega
theorem letter_at {r : Nat} (h : r < 6) : ∃ c, LetC c ∧ dIx (.str "abcxyz") (.int (r : Int)) = some (.str ⟨#[c]⟩) := by
  have : r = 0 ∨ r = 1 ∨ r = 2 ∨ r = 3 ∨ r = 4 ∨ r = 5 := by omega
  rcases this with rfl | rfl | rfl | rfl | rfl | rfl
  · exact ⟨97, by unfold LetC; omega, rfl⟩
  · exact ⟨98, by unfold LetC; omega, rfl⟩
  · exact ⟨99, by unfold LetC; omega, rfl⟩
  · exact ⟨120, by unfold LetC; omega, rfl⟩
  · exact ⟨121, by unfold LetC; omega, rfl⟩
  · exact ⟨122, by unfold LetC; omega, rfl⟩
/-- the word that stands where all others fail -/
def wN (k : Nat) : Str := ⟨#[119, 97 + k]⟩
theorem wN_at {k : Nat} (h : k < 16) : ∃ d, dIx (.str "abcdefghijklmnop") (.int (k : Int)) = some d ∧ dAdd (.str "w") d = some (.str (wN k)) := by
  have : k = 0 ∨ k = 1 ∨ k = 2 ∨ k = 3 ∨ k = 4 ∨ k = 5 ∨ k = 6 ∨ k = 7 ∨ k = 8 ∨ k = 9 ∨ k = 10 ∨ k = 11 ∨ k = 12 ∨ k = 13 ∨ k = 14 ∨ k = 15 := by omega
  rcases this with rfl | rfl | rfl | rfl | rfl | rfl | rfl | rfl | rfl | rfl | rfl | rfl | rfl | rfl | rfl | rfl <;> exact ⟨_, rfl, rfl⟩
theorem cutL_map {α β : Type} (f : α → β) (xs : List α) (lo hi : Option Int) : cutL (xs.map f) lo hi = (cutL xs lo hi).map f := by
  unfold cutL
  rw [List.length_map, ← List.map_drop, ← List.map_take]
theorem cutL_len {α : Type} (xs : List α) (lo hi : Option Int) : (cutL xs lo hi).length ≤ xs.length := by
  unfold cutL
  rw [List.length_take, List.length_drop]
  omega
theorem cutL_mem {α : Type} {xs : List α} {lo hi : Option Int} {x : α} (h : x ∈ cutL xs lo hi) : x ∈ xs := List.mem_of_mem_drop (List.mem_of_mem_take h)
theorem rngD_all {n : Nat} {d : D} (h : d ∈ rngD n) : ∃ k : Nat, k < n ∧ d = .int (k : Int) := by
  unfold rngD at h
  obtain ⟨k, hk, e⟩ := List.mem_map.mp h
  exact ⟨k, List.mem_range.mp hk, e.symm⟩
theorem lt_big {a : Nat} (h : a < 2 ^ 64) : a < 2 ^ 1000 := Nat.lt_of_lt_of_le h (by decide +kernel)
end DV

namespace K84
open PySem PySem.Spec PyProof.Rows L2 DV
noncomputable section
def top (i : Nat) : Stmt := PySem.Challenge.pw_spansay_k84_gambles_checked.main.body.getD i (.Pass ⟨0, 0, 0, 0⟩)
abbrev s_common : Stmt := top 9
abbrev s_lowest : Stmt := top 10
abbrev s_is_ratio : Stmt := top 11
abbrev s_plus : Stmt := top 12
abbrev s_times : Stmt := top 13
abbrev s_compare : Stmt := top 14
abbrev s_total : Stmt := top 15
abbrev s_is_scene : Stmt := top 17
abbrev s_check_lot : Stmt := top 22
abbrev s_check_gamble : Stmt := top 23
abbrev s_is_plain : Stmt := top 24
abbrev s_system_of : Stmt := top 25
abbrev s__law_stream : Stmt := top 27
abbrev s__law_next : Stmt := top 28
abbrev s__law_word : Stmt := top 29
abbrev s__law_facts : Stmt := top 30
abbrev s__law_scene : Stmt := top 31
abbrev s__law_gcd : Stmt := top 32
abbrev s__law_ratio : Stmt := top 33
abbrev s__law_sum : Stmt := top 34
abbrev s__law_times : Stmt := top 35
abbrev s__law_less : Stmt := top 36
abbrev s__law_lot : Stmt := top 37
abbrev s__law_gamble : Stmt := top 38
abbrev s__law_checked : Stmt := top 39
abbrev s__law_bad_lots : Stmt := top 40
abbrev s__law_bad_gambles : Stmt := top 41
abbrev s__law_system_due : Stmt := top 42
abbrev s__law_number : Stmt := top 43
abbrev s__law_ratios_fit : Stmt := top 44
abbrev s_law : Stmt := top 45
abbrev n_common : List Str := ["a", "b"]
abbrev p_common : List Str := ["a", "b"]
abbrev n_lowest : List Str := ["a", "b", "factor"]
abbrev p_lowest : List Str := ["a", "b"]
abbrev n_is_ratio : List Str := ["value"]
abbrev p_is_ratio : List Str := ["value"]
abbrev n_plus : List Str := ["first", "second"]
abbrev p_plus : List Str := ["first", "second"]
abbrev n_times : List Str := ["first", "second"]
abbrev p_times : List Str := ["first", "second"]
abbrev n_compare : List Str := ["first", "second", "left", "right"]
abbrev p_compare : List Str := ["first", "second"]
abbrev n_total : List Str := ["ratios", "found", "ratio"]
abbrev p_total : List Str := ["ratios"]
abbrev n_is_scene : List Str := ["facts", "scene", "places", "fact", "k"]
abbrev p_is_scene : List Str := ["facts", "scene"]
abbrev n_check_lot : List Str := ["many", "lot", "states", "_", "ratio", "state", "k"]
abbrev p_check_lot : List Str := ["many", "lot"]
abbrev n_check_gamble : List Str := ["facts", "gamble", "scenes", "starts", "options", "row", "lot", "scene"]
abbrev p_check_gamble : List Str := ["facts", "gamble"]
abbrev n_is_plain : List Str := ["gamble", "row"]
abbrev p_is_plain : List Str := ["gamble"]
abbrev n_system_of : List Str := ["gamble", "scenes", "starts", "options", "moves", "row", "states", "lot", "state", "_"]
abbrev p_system_of : List Str := ["gamble"]
abbrev n__law_stream : List Str := ["script", "numbers", "cell", "rest", "k", "mixed"]
abbrev p__law_stream : List Str := ["script"]
abbrev n__law_next : List Str := ["state", "many", "turn"]
abbrev p__law_next : List Str := ["state", "many"]
abbrev n__law_word : List Str := ["state", "taken", "known", "turn", "word", "k"]
abbrev p__law_word : List Str := ["state", "taken"]
abbrev n__law_facts : List Str := ["state", "many", "found", "k"]
abbrev p__law_facts : List Str := ["state", "many"]
abbrev n__law_scene : List Str := ["state", "facts", "fact"]
abbrev p__law_scene : List Str := ["state", "facts"]
abbrev n__law_gcd : List Str := ["a", "b", "turn"]
abbrev p__law_gcd : List Str := ["a", "b"]
abbrev n__law_ratio : List Str := ["a", "b", "factor"]
abbrev p__law_ratio : List Str := ["a", "b"]
abbrev n__law_sum : List Str := ["first", "second"]
abbrev p__law_sum : List Str := ["first", "second"]
abbrev n__law_times : List Str := ["first", "second"]
abbrev p__law_times : List Str := ["first", "second"]
abbrev n__law_less : List Str := ["first", "second"]
abbrev p__law_less : List Str := ["first", "second"]
abbrev n__law_lot : List Str := ["state", "many", "states", "weights", "k"]
abbrev p__law_lot : List Str := ["state", "many"]
abbrev n__law_gamble : List Str := ["state", "facts", "most", "options", "many", "scenes", "rows", "k", "j"]
abbrev p__law_gamble : List Str := ["state", "facts", "most", "options"]
abbrev n__law_checked : List Str := ["facts", "gamble", "e"]
abbrev p__law_checked : List Str := ["facts", "gamble"]
abbrev n__law_bad_lots : List Str := ["state", "many", "lot", "k", "one", "ratio", "rows", "bad"]
abbrev p__law_bad_lots : List Str := ["state", "many", "lot"]
abbrev n__law_bad_gambles : List Str := ["state", "gamble", "scenes", "starts", "options", "many", "at", "k", "rows", "lots", "turn", "bad"]
abbrev p__law_bad_gambles : List Str := ["state", "gamble"]
abbrev n__law_system_due : List Str := ["gamble", "moves", "row", "found", "lot", "one", "ratio"]
abbrev p__law_system_due : List Str := ["gamble"]
abbrev n__law_number : List Str := ["state"]
abbrev p__law_number : List Str := ["state"]
abbrev n__law_ratios_fit : List Str := ["state", "first", "second", "due", "a", "b"]
abbrev p__law_ratios_fit : List Str := ["state"]
abbrev n_law : List Str := ["script", "state", "facts", "gamble", "kept", "bad", "thin", "row"]
abbrev p_law : List Str := ["script"]
def c_MAX_OPTIONS : D := (.int 4)
def c_MAX_PART : D := (.int 1000)
def c_MAX_STATES : D := (.int 8)
def c_NOTHING : D := (.tuple [(.int 0), (.int 1)])
def c_WHOLE : D := (.tuple [(.int 1), (.int 1)])
/-- does «except NotAllowed» catch it -/
def cat_NotAllowed (x : Str) : Option Bool := if x = "SpanError" then some false else if x = "NotAllowed" then some true else if x = "TooLarge" then some false else if x = "Missing" then some false else if x = "BadPaper" then some false else none
def w_common_1 : MB := (mT (m2 dNe (mVar 1) (mC (.int 0))))
def b_common_1 : MS := (mPar 0 1 (mVar 1) (m2 dMod (mVar 0) (mVar 1)))
def m_common : MS := (mSeq (mWhile w_common_1 b_common_1) (mRet (m1 dAbs (mVar 0))))
def c_common := mfunP 2 2 m_common
def m_lowest : MS := (mSeq (mIf (mT (m2 dEq (mVar 1) (mC (.int 0)))) (mRaise "NotAllowed") mNext) (mSeq (mSet 2 (mIfE (mT (m2 dGt (mVar 1) (mC (.int 0)))) (mCallP c_common (mCons (mVar 0) (mCons (mVar 1) mNil))) (m1 dNeg (mCallP c_common (mCons (mVar 0) (mCons (mVar 1) mNil)))))) (mRet (mTup (mCons (m2 dFdiv (mVar 0) (mVar 2)) (mCons (m2 dFdiv (mVar 1) (mVar 2)) mNil))))))
def c_lowest := mfunP 2 3 m_lowest
def m_is_ratio : MS := (mRet (mAndV (m2 dGe (m2 dIx (mVar 0) (mC (.int 1))) (mC (.int 1))) (m2 dEq (mCallP c_common (mCons (m2 dIx (mVar 0) (mC (.int 0))) (mCons (m2 dIx (mVar 0) (mC (.int 1))) mNil))) (mC (.int 1)))))
def c_is_ratio := mfunP 1 1 m_is_ratio
def m_plus : MS := (mRet (mCallP c_lowest (mCons (m2 dAdd (m2 dMul (m2 dIx (mVar 0) (mC (.int 0))) (m2 dIx (mVar 1) (mC (.int 1)))) (m2 dMul (m2 dIx (mVar 1) (mC (.int 0))) (m2 dIx (mVar 0) (mC (.int 1))))) (mCons (m2 dMul (m2 dIx (mVar 0) (mC (.int 1))) (m2 dIx (mVar 1) (mC (.int 1)))) mNil))))
def c_plus := mfunP 2 2 m_plus
def m_times : MS := (mRet (mCallP c_lowest (mCons (m2 dMul (m2 dIx (mVar 0) (mC (.int 0))) (m2 dIx (mVar 1) (mC (.int 0)))) (mCons (m2 dMul (m2 dIx (mVar 0) (mC (.int 1))) (m2 dIx (mVar 1) (mC (.int 1)))) mNil))))
def c_times := mfunP 2 2 m_times
def m_compare : MS := (mSeq (mPar 2 3 (m2 dMul (m2 dIx (mVar 0) (mC (.int 0))) (m2 dIx (mVar 1) (mC (.int 1)))) (m2 dMul (m2 dIx (mVar 1) (mC (.int 0))) (m2 dIx (mVar 0) (mC (.int 1))))) (mRet (m2 dSub (m1 dInt (m2 dGt (mVar 2) (mVar 3))) (m1 dInt (m2 dLt (mVar 2) (mVar 3))))))
def c_compare := mfunP 2 4 m_compare
def b_total_1 : MS := (mSet 1 (mCallP c_plus (mCons (mVar 1) (mCons (mVar 2) mNil))))
def m_total : MS := (mSeq (mSet 1 (mC c_NOTHING)) (mSeq (mFor (mItems (mVar 0)) (gN 2) b_total_1) (mRet (mVar 1))))
def c_total := mfunP 1 3 m_total
def e_is_scene_1 : ME := (m2 dIn (mVar 3) (mVar 0))
def e_is_scene_2 : ME := (mIndex (mVar 0) (mVar 3))
def e_is_scene_3 : ME := (m2 dLt (m2 dIx (mVar 2) (mVar 4)) (m2 dIx (mVar 2) (m2 dAdd (mVar 4) (mC (.int 1)))))
def m_is_scene : MS := (mSeq (mIf (mNotT (mT (m1 dAll (mLst (mLc [3] (mItems (mVar 1)) (gN 3) mTrue e_is_scene_1))))) (mRet (mC (.bool false))) mNext) (mSeq (mSet 2 (mLst (mLc [3] (mItems (mVar 1)) (gN 3) mTrue e_is_scene_2))) (mRet (m1 dAll (mLst (mLc [4] (mRng1 (m2 dSub (m1 dLen (mVar 2)) (mC (.int 1)))) (gN 4) mTrue e_is_scene_3))))))
def c_is_scene := mfunP 2 5 m_is_scene
def e_check_lot_1 : ME := (mVar 5)
def e_check_lot_2 : ME := (mChain dLe dLt (mC (.int 0)) (mVar 5) (mVar 0))
def e_check_lot_3 : ME := (m2 dLt (m2 dIx (mVar 2) (mVar 6)) (m2 dIx (mVar 2) (m2 dAdd (mVar 6) (mC (.int 1)))))
def b_check_lot_1 : MS := (mIf (mOrT (mNotT (mT (mCallP c_is_ratio (mCons (mVar 4) mNil)))) (mOrT (mT (m2 dLt (m2 dIx (mVar 4) (mC (.int 0))) (mC (.int 1)))) (mT (m2 dGt (m2 dIx (mVar 4) (mC (.int 1))) (mC c_MAX_PART))))) (mRaise "NotAllowed") mNext)
def e_check_lot_4 : ME := (mVar 4)
def m_check_lot : MS := (mSeq (mSet 2 (mLst (mLc [5, 3] (mItems (mVar 1)) (gT 2 (gsC (gN 5) (gsC (gN 3) gsN))) mTrue e_check_lot_1))) (mSeq (mIf (mNotT (mT (m1 dAll (mLst (mLc [5] (mItems (mVar 2)) (gN 5) mTrue e_check_lot_2))))) (mRaise "NotAllowed") mNext) (mSeq (mIf (mNotT (mT (m1 dAll (mLst (mLc [6] (mRng1 (m2 dSub (m1 dLen (mVar 2)) (mC (.int 1)))) (gN 6) mTrue e_check_lot_3))))) (mRaise "NotAllowed") mNext) (mSeq (mFor (mItems (mVar 1)) (gT 2 (gsC (gN 3) (gsC (gN 4) gsN))) b_check_lot_1) (mIf (mT (m2 dNe (mCallP c_total (mCons (mLst (mLc [3, 4] (mItems (mVar 1)) (gT 2 (gsC (gN 3) (gsC (gN 4) gsN))) mTrue e_check_lot_4)) mNil)) (mC c_WHOLE))) (mRaise "NotAllowed") mNext)))))
def c_check_lot := mfunP 2 7 m_check_lot
def e_check_gamble_1 : ME := (mCallP c_is_scene (mCons (mVar 0) (mCons (mVar 7) mNil)))
def b_check_gamble_1 : MS := (mDrop (mCallP c_check_lot (mCons (m1 dLen (mVar 2)) (mCons (mVar 6) mNil))))
def b_check_gamble_2 : MS := (mSeq (mIf (mNotT (mT (mChain dLe dLe (mC (.int 1)) (m1 dLen (mVar 5)) (mC c_MAX_OPTIONS)))) (mRaise "NotAllowed") mNext) (mFor (mItems (mVar 5)) (gN 6) b_check_gamble_1))
def m_check_gamble : MS := (mSeq (mAsg (gT 3 (gsC (gN 2) (gsC (gN 3) (gsC (gN 4) gsN)))) (mVar 1)) (mSeq (mIf (mOrT (mNotT (mT (mChain dLe dLe (mC (.int 1)) (m1 dLen (mVar 2)) (mC c_MAX_STATES)))) (mT (m2 dNe (m1 dLen (mVar 4)) (m1 dLen (mVar 2))))) (mRaise "NotAllowed") mNext) (mSeq (mIf (mNotT (mT (m1 dAll (mLst (mLc [7] (mItems (mVar 2)) (gN 7) mTrue e_check_gamble_1))))) (mRaise "NotAllowed") mNext) (mSeq (mDrop (mCallP c_check_lot (mCons (m1 dLen (mVar 2)) (mCons (mVar 3) mNil)))) (mFor (mItems (mVar 4)) (gN 5) b_check_gamble_2)))))
def c_check_gamble := mfunP 2 8 m_check_gamble
def e_is_plain_1 : ME := (m2 dEq (m1 dLen (mVar 1)) (mC (.int 1)))
def m_is_plain : MS := (mRet (m1 dAll (mLst (mLc [1] (mItems (m2 dIx (mVar 0) (mC (.int 2)))) (gN 1) mTrue e_is_plain_1))))
def c_is_plain := mfunP 1 2 m_is_plain
def e_system_of_1 : ME := (mVar 8)
def b_system_of_1 : MS := (mSeq (mSetD 6 (mLc2 [7, 8, 9] [8, 9] (mItems (mVar 5)) (gN 7) mTrue (mItems (mVar 7)) (gT 2 (gsC (gN 8) (gsC (gN 9) gsN))) mTrue e_system_of_1)) (mApp 4 (m1 dTuple (mLst (mO1 dSortSet (mVar 6))))))
def e_system_of_2 : ME := (mVar 8)
def m_system_of : MS := (mSeq (mAsg (gT 3 (gsC (gN 1) (gsC (gN 2) (gsC (gN 3) gsN)))) (mVar 0)) (mSeq (mSetO 4 (mDisp mNil)) (mSeq (mFor (mItems (mVar 3)) (gN 5) b_system_of_1) (mRet (mTup (mCons (mVar 1) (mCons (m1 dTuple (mLst (mLc [8, 9] (mItems (mVar 2)) (gT 2 (gsC (gN 8) (gsC (gN 9) gsN))) mTrue e_system_of_2))) (mCons (m1 dTuple (mVarB 4)) mNil))))))))
def c_system_of := mfunP 1 10 m_system_of
def b__law_stream_1 : MS := (mSeq (mApp 1 (m2 dMod (m1 dInt (mVar 3)) (mC (.int 1009)))) (mSeq (mSet 3 (m2 dFdiv (mVar 3) (mC (.int 1009)))) (mIf (mT (m2 dEq (mVar 3) (mC (.int 0)))) mBreak mNext)))
def b__law_stream_2 : MS := (mSeq (mSet 5 (m2 dMod (m1 dInt (m2 dAdd (m2 dAdd (m2 dMul (mVar 5) (mC (.int 48271))) (m2 dMul (mC (.int 7)) (mVar 4))) (mC (.int 11)))) (mC (.int 2147483647)))) (mApp 1 (m2 dMod (m2 dMod (m1 dInt (m2 dAdd (m2 dMul (mVar 5) (mC (.int 69621))) (mVar 4))) (mC (.int 2147483629))) (mC (.int 1009)))))
def b__law_stream_3 : MS := (mSeq (mSet 3 (m1 dAbs (m1 dInt (mVar 2)))) (mIf (mT (m2 dGe (mVar 3) (m2 dPow (mC (.int 10)) (mC (.int 18))))) (mFor (mRng1 (mC (.int 60))) (gN 4) b__law_stream_1) (mSeq (mSet 5 (m2 dMod (m1 dInt (mVar 3)) (mC (.int 2147483647)))) (mFor (mRng1 (mC (.int 10))) (gN 4) b__law_stream_2))))
def m__law_stream : MS := (mSeq (mSetO 1 (mDisp mNil)) (mSeq (mFor (mItems (mLst (mSlL (mVar 0) mNoP (mP (mC (.int 63)))))) (gN 2) b__law_stream_3) (mSeq (mIf (mT (m2 dEq (m1 dLen (mVarB 1)) (mC (.int 0)))) (mApp 1 (mC (.int 0))) mNext) (mRet (mVar 1)))))
def c__law_stream := mfunP 1 6 m__law_stream
def m__law_next : MS := (mSeq (mSto 0 (mC (.int 1)) (m2 dAdd (mIxV 0 (mC (.int 1))) (mC (.int 1)))) (mSeq (mSet 2 (m2 dFdiv (mIxV 0 (mC (.int 1))) (m1 dLen (mIxV 0 (mC (.int 0)))))) (mRet (m2 dMod (m1 dInt (m2 dAdd (m2 dAdd (m2 dIx (mIxV 0 (mC (.int 0))) (m2 dMod (mIxV 0 (mC (.int 1))) (m1 dLen (mIxV 0 (mC (.int 0)))))) (m2 dMul (mVar 2) (mC (.int 389)))) (m2 dMul (m2 dMul (mIxV 0 (mC (.int 1))) (mVar 2)) (mC (.int 17))))) (mVar 1)))))
def c__law_next := mfunS 2 3 m__law_next
def b__law_word_1 : MS := (mSet 4 (m2 dAdd (mVar 4) (m2 dIx (mC (.str "abcxyz")) (mCallS c__law_next 0 (mCons (mC (.int 6)) mNil)))))
def b__law_word_2 : MS := (mSeq (mSet 4 (mC (.str ""))) (mSeq (mFor (mRng1 (m2 dIx (mLst (mDisp (mCons (mC (.int 1)) (mCons (mC (.int 1)) (mCons (mC (.int 1)) (mCons (mC (.int 2)) (mCons (mC (.int 3)) (mCons (mC (.int 8)) mNil)))))))) (mCallS c__law_next 0 (mCons (mC (.int 6)) mNil)))) (gN 5) b__law_word_1) (mIf (mAndT (mT (m2 dNotIn (mVar 4) (mVar 1))) (mT (m2 dNotIn (mVar 4) (mVar 2)))) (mRet (mVar 4)) mNext)))
def m__law_word : MS := (mSeq (mSet 2 (mLst (mDisp (mCons (mC (.str "and")) (mCons (mC (.str "or")) (mCons (mC (.str "not")) (mCons (mC (.str "some")) (mCons (mC (.str "all")) (mCons (mC (.str "point")) (mCons (mC (.str "begins")) (mCons (mC (.str "begun")) (mCons (mC (.str "ends")) (mCons (mC (.str "ended")) (mCons (mC (.str "during")) (mCons (mC (.str "around")) (mCons (mC (.str "meets")) (mCons (mC (.str "met")) (mCons (mC (.str "later")) (mCons (mC (.str "earlier")) mNil))))))))))))))))))) (mSeq (mFor (mRng1 (mC (.int 40))) (gN 3) b__law_word_2) (mRet (m2 dAdd (mC (.str "w")) (m2 dIx (mC (.str "abcdefghijklmnop")) (m2 dMod (m1 dLen (mVar 1)) (mC (.int 16))))))))
def c__law_word := mfunS 2 6 m__law_word
def b__law_facts_1 : MS := (mApp 2 (mCallSb c__law_word 0 (mConsV 2 mNil)))
def m__law_facts : MS := (mSeq (mSetO 2 (mDisp mNil)) (mSeq (mFor (mRng1 (mVar 1)) (gN 3) b__law_facts_1) (mRet (m1 dTuple (mVarB 2)))))
def c__law_facts := mfunS 2 4 m__law_facts
def e__law_scene_1 : ME := (mVar 2)
def t__law_scene_1 : MB := (mT (m2 dEq (mCallS c__law_next 0 (mCons (mC (.int 2)) mNil)) (mC (.int 0))))
def m__law_scene : MS := (mRet (m1 dTuple (mLst (mLc [2] (mItems (mVar 1)) (gN 2) t__law_scene_1 e__law_scene_1))))
def c__law_scene := mfunS 2 3 m__law_scene
def b__law_gcd_1 : MS := (mSeq (mIf (mT (m2 dEq (mVar 1) (mC (.int 0)))) mBreak mNext) (mPar 0 1 (mVar 1) (m2 dMod (mVar 0) (mVar 1))))
def m__law_gcd : MS := (mSeq (mFor (mRng1 (mC (.int 400))) (gN 2) b__law_gcd_1) (mRet (m1 dAbs (mVar 0))))
def c__law_gcd := mfunP 2 3 m__law_gcd
def m__law_ratio : MS := (mSeq (mSet 2 (mCallP c__law_gcd (mCons (mVar 0) (mCons (mVar 1) mNil)))) (mSeq (mIf (mT (m2 dLt (mVar 1) (mC (.int 0)))) (mSet 2 (m2 dSub (mC (.int 0)) (mVar 2))) mNext) (mRet (mTup (mCons (m2 dFdiv (mVar 0) (mVar 2)) (mCons (m2 dFdiv (mVar 1) (mVar 2)) mNil))))))
def c__law_ratio := mfunP 2 3 m__law_ratio
def m__law_sum : MS := (mRet (mCallP c__law_ratio (mCons (m2 dAdd (m2 dMul (m2 dIx (mVar 0) (mC (.int 0))) (m2 dIx (mVar 1) (mC (.int 1)))) (m2 dMul (m2 dIx (mVar 1) (mC (.int 0))) (m2 dIx (mVar 0) (mC (.int 1))))) (mCons (m2 dMul (m2 dIx (mVar 0) (mC (.int 1))) (m2 dIx (mVar 1) (mC (.int 1)))) mNil))))
def c__law_sum := mfunP 2 2 m__law_sum
def m__law_times : MS := (mRet (mCallP c__law_ratio (mCons (m2 dMul (m2 dIx (mVar 0) (mC (.int 0))) (m2 dIx (mVar 1) (mC (.int 0)))) (mCons (m2 dMul (m2 dIx (mVar 0) (mC (.int 1))) (m2 dIx (mVar 1) (mC (.int 1)))) mNil))))
def c__law_times := mfunP 2 2 m__law_times
def m__law_less : MS := (mRet (m2 dLt (m2 dMul (m2 dIx (mVar 0) (mC (.int 0))) (m2 dIx (mVar 1) (mC (.int 1)))) (m2 dMul (m2 dIx (mVar 1) (mC (.int 0))) (m2 dIx (mVar 0) (mC (.int 1))))))
def c__law_less := mfunP 2 2 m__law_less
def e__law_lot_1 : ME := (mVar 4)
def t__law_lot_1 : MB := (mT (m2 dEq (mCallS c__law_next 0 (mCons (mC (.int 3)) mNil)) (mC (.int 0))))
def e__law_lot_2 : ME := (m2 dAdd (mC (.int 1)) (mCallS c__law_next 0 (mCons (m2 dIx (mLst (mDisp (mCons (mC (.int 1)) (mCons (mC (.int 6)) mNil)))) (mCallS c__law_next 0 (mCons (mC (.int 2)) mNil))) mNil)))
def e__law_lot_3 : ME := (mTup (mCons (m2 dIx (mVar 2) (mVar 4)) (mCons (mCallP c__law_ratio (mCons (m2 dIx (mVar 3) (mVar 4)) (mCons (m1 dSum (mVar 3)) mNil))) mNil)))
def m__law_lot : MS := (mSeq (mSet 2 (mLst (mLc [4] (mRng1 (mVar 1)) (gN 4) t__law_lot_1 e__law_lot_1))) (mSeq (mIf (mT (m2 dEq (m1 dLen (mVar 2)) (mC (.int 0)))) (mSet 2 (mLst (mDisp (mCons (mCallS c__law_next 0 (mCons (mVar 1) mNil)) mNil)))) mNext) (mSeq (mSet 3 (mLst (mLc [4] (mItems (mVar 2)) (gN 4) mTrue e__law_lot_2))) (mRet (m1 dTuple (mLst (mLc [4] (mRng1 (m1 dLen (mVar 2))) (gN 4) mTrue e__law_lot_3)))))))
def c__law_lot := mfunS 2 5 m__law_lot
def e__law_gamble_1 : ME := (mCallS c__law_scene 0 (mCons (mVar 1) mNil))
def e__law_gamble_2 : ME := (mCallS c__law_lot 0 (mCons (mVar 4) mNil))
def b__law_gamble_1 : MS := (mApp 6 (m1 dTuple (mLst (mLc [8] (mRng1 (m2 dAdd (mC (.int 1)) (mCallS c__law_next 0 (mCons (mVar 3) mNil)))) (gN 8) mTrue e__law_gamble_2))))
def m__law_gamble : MS := (mSeq (mSet 4 (m2 dAdd (mC (.int 1)) (mCallS c__law_next 0 (mCons (mVar 2) mNil)))) (mSeq (mSet 5 (m1 dTuple (mLst (mLc [7] (mRng1 (mVar 4)) (gN 7) mTrue e__law_gamble_1)))) (mSeq (mSetO 6 (mDisp mNil)) (mSeq (mFor (mRng1 (mVar 4)) (gN 7) b__law_gamble_1) (mRet (mTup (mCons (mVar 5) (mCons (mCallS c__law_lot 0 (mCons (mVar 4) mNil)) (mCons (m1 dTuple (mVarB 6)) mNil)))))))))
def c__law_gamble := mfunS 4 9 m__law_gamble
def h__law_checked_1 (a : Addr) : MS := (mRet (m2 dIx (mLst (mDisp (mCons (mC (.str "other")) (mCons (mC (.bool false)) mNil)))) (m1 dInt (mAndV (mIsE 2 a true) (mNotV (mIsE 2 a false))))))
-- OC _law_checked
def oc__law_checked_1 : Sl → Ot := fun s => .rt (.bool false) s
theorem oc__law_checked_1_is (y : Str) (a : Addr) (s : Sl) (_ : cat_NotAllowed y = some true) (h : s[2]? = some (.exn a)) : clrO 2 (h__law_checked_1 a s) = oc__law_checked_1 (s.set 2 .un) := by
  have e : ∀ b, mIsE 2 a b s = .ok (.bool b) s := fun b => mIsE_at h
  simp [h__law_checked_1, oc__law_checked_1, mRet, mTup, mCons, mNil, mC, mAndV, mOrV, mNotV, mNotT, mT, asB, m1, dInt, m2, dIx, mLst, mDisp, e, clrO, atI_1, atI_0, dIx_list]
def m__law_checked : MS := (mTry (mRet (m2 dIx (mLst (mDisp (mCons (mC (.str "other")) (mCons (mC (.bool true)) mNil)))) (m1 dInt (m2 dIsN (mCallP c_check_gamble (mCons (mVar 0) (mCons (mVar 1) mNil))) (mC .none))))) cat_NotAllowed 2 oc__law_checked_1)
def c__law_checked := mfunP 2 3 m__law_checked
def b__law_bad_lots_1 : MS := (mApp 6 (m2 dAdd (m2 dAdd (mSl (mVar 2) mNoP (mP (mVar 3))) (mTup (mCons (mTup (mCons (mVar 4) (mCons (mVar 7) mNil))) mNil))) (mSl (mVar 2) (mP (m2 dAdd (mVar 3) (mC (.int 1)))) mNoP)))
def m__law_bad_lots : MS := (mSeq (mSet 3 (mCallS c__law_next 0 (mCons (m1 dLen (mVar 2)) mNil))) (mSeq (mAsg (gT 2 (gsC (gN 4) (gsC (gN 5) gsN))) (m2 dIx (mVar 2) (mVar 3))) (mSeq (mSetO 6 (mDisp (mCons (mTup mNil) (mCons (m2 dAdd (mVar 2) (mTup (mCons (mTup (mCons (mVar 1) (mCons (mTup (mCons (mC (.int 1)) (mCons (mC (.int 2)) mNil))) mNil))) mNil))) (mCons (m2 dAdd (mVar 2) (mTup (mCons (m2 dIx (mVar 2) (m1 dNeg (mC (.int 1)))) mNil))) (mCons (m2 dAdd (mVar 2) (mTup (mCons (mTup (mCons (m2 dSub (mVar 1) (mC (.int 1))) (mCons (mTup (mCons (mC (.int 1)) (mCons (mC (.int 3)) mNil))) mNil))) mNil))) (mCons (mTup (mCons (mTup (mCons (m2 dSub (mC (.int 0)) (mC (.int 1))) (mCons (mTup (mCons (mC (.int 1)) (mCons (mC (.int 1)) mNil))) mNil))) mNil)) (mCons (mTup (mCons (mTup (mCons (mVar 1) (mCons (mTup (mCons (mC (.int 1)) (mCons (mC (.int 1)) mNil))) mNil))) mNil)) mNil)))))))) (mSeq (mFor (mItems (mLst (mDisp (mCons (mTup (mCons (mC (.int 0)) (mCons (mC (.int 1)) mNil))) (mCons (mTup (mCons (m2 dSub (mC (.int 0)) (mC (.int 1))) (mCons (mC (.int 2)) mNil))) (mCons (mTup (mCons (m2 dMul (mC (.int 2)) (m2 dIx (mVar 5) (mC (.int 0)))) (mCons (m2 dMul (mC (.int 2)) (m2 dIx (mVar 5) (mC (.int 1)))) mNil))) (mCons (mTup (mCons (m2 dIx (mVar 5) (mC (.int 0))) (mCons (m2 dSub (mC (.int 0)) (m2 dIx (mVar 5) (mC (.int 1)))) mNil))) (mCons (mTup (mCons (m2 dAdd (m2 dIx (mVar 5) (mC (.int 0))) (m2 dIx (mVar 5) (mC (.int 1)))) (mCons (m2 dIx (mVar 5) (mC (.int 1))) mNil))) (mCons (mTup (mCons (mC (.int 1)) (mCons (mC (.int 0)) mNil))) mNil))))))))) (gN 7) b__law_bad_lots_1) (mSeq (mIf (mT (m2 dGt (mVar 1) (mC (.int 1)))) (mSeq (mApp 6 (mTup (mCons (mTup (mCons (mC (.int 0)) (mCons (mTup (mCons (mC (.int 1)) (mCons (mC (.int 1001)) mNil))) mNil))) (mCons (mTup (mCons (m2 dSub (mVar 1) (mC (.int 1))) (mCons (mTup (mCons (mC (.int 1000)) (mCons (mC (.int 1001)) mNil))) mNil))) mNil)))) (mSeq (mApp 6 (mTup (mCons (mTup (mCons (m2 dSub (mVar 1) (mC (.int 1))) (mCons (mTup (mCons (mC (.int 1)) (mCons (mC (.int 2)) mNil))) mNil))) (mCons (mTup (mCons (mC (.int 0)) (mCons (mTup (mCons (mC (.int 1)) (mCons (mC (.int 2)) mNil))) mNil))) mNil)))) (mSeq (mApp 6 (mTup (mCons (mTup (mCons (mC (.int 0)) (mCons (mTup (mCons (mC (.int 1)) (mCons (mC (.int 2)) mNil))) mNil))) (mCons (mTup (mCons (m2 dSub (mVar 1) (mC (.int 1))) (mCons (mTup (mCons (mC (.int 2)) (mCons (mC (.int 4)) mNil))) mNil))) mNil)))) (mSeq (mApp 6 (mTup (mCons (mTup (mCons (mC (.int 0)) (mCons (mTup (mCons (mC (.int 1)) (mCons (mC (.int 2)) mNil))) mNil))) (mCons (mTup (mCons (m2 dSub (mVar 1) (mC (.int 1))) (mCons (mTup (mCons (mC (.int 1)) (mCons (mC (.int 3)) mNil))) mNil))) mNil)))) (mApp 6 (mTup (mCons (mTup (mCons (mC (.int 0)) (mCons (mTup (mCons (mC (.int 0)) (mCons (mC (.int 1)) mNil))) mNil))) (mCons (mTup (mCons (m2 dSub (mVar 1) (mC (.int 1))) (mCons (mTup (mCons (mC (.int 1)) (mCons (mC (.int 1)) mNil))) mNil))) mNil)))))))) mNext) (mRet (mVar 6)))))))
def c__law_bad_lots := mfunS 3 8 m__law_bad_lots
def b__law_bad_gambles_1 : MS := (mSeq (mSet 11 (m2 dIx (mVar 9) (mCallS c__law_next 0 (mCons (m1 dLen (mVar 9)) mNil)))) (mApp 8 (mTup (mCons (mVar 2) (mCons (mVar 3) (mCons (m2 dAdd (m2 dAdd (mSl (mVar 4) mNoP (mP (mVar 6))) (mTup (mCons (m2 dAdd (m2 dAdd (mSl (m2 dIx (mVar 4) (mVar 6)) mNoP (mP (mVar 7))) (mTup (mCons (mVar 11) mNil))) (mSl (m2 dIx (mVar 4) (mVar 6)) (mP (m2 dAdd (mVar 7) (mC (.int 1)))) mNoP)) mNil))) (mSl (mVar 4) (mP (m2 dAdd (mVar 6) (mC (.int 1)))) mNoP)) mNil))))))
def m__law_bad_gambles : MS := (mSeq (mAsg (gT 3 (gsC (gN 2) (gsC (gN 3) (gsC (gN 4) gsN)))) (mVar 1)) (mSeq (mSet 5 (m1 dLen (mVar 2))) (mSeq (mSet 6 (mCallS c__law_next 0 (mCons (mVar 5) mNil))) (mSeq (mSet 7 (mCallS c__law_next 0 (mCons (m1 dLen (m2 dIx (mVar 4) (mVar 6))) mNil))) (mSeq (mSetO 8 (mDisp (mCons (mTup (mCons (mTup mNil) (mCons (mVar 3) (mCons (mTup mNil) mNil)))) (mCons (mTup (mCons (mVar 2) (mCons (mVar 3) (mCons (mSl (mVar 4) (mP (mC (.int 1))) mNoP) mNil)))) (mCons (mTup (mCons (mVar 2) (mCons (mVar 3) (mCons (m2 dAdd (mVar 4) (mSl (mVar 4) mNoP (mP (mC (.int 1))))) mNil)))) (mCons (mTup (mCons (m2 dAdd (mVar 2) (mSl (mVar 2) mNoP (mP (mC (.int 1))))) (mCons (mVar 3) (mCons (mVar 4) mNil)))) mNil)))))) (mSeq (mApp 8 (mTup (mCons (m2 dAdd (m2 dAdd (mSl (mVar 2) mNoP (mP (mVar 6))) (mTup (mCons (mTup (mCons (mC (.str "qq")) mNil)) mNil))) (mSl (mVar 2) (mP (m2 dAdd (mVar 6) (mC (.int 1)))) mNoP)) (mCons (mVar 3) (mCons (mVar 4) mNil))))) (mSeq (mApp 8 (mTup (mCons (mVar 2) (mCons (mVar 3) (mCons (m2 dAdd (m2 dAdd (mSl (mVar 4) mNoP (mP (mVar 6))) (mTup (mCons (mTup mNil) mNil))) (mSl (mVar 4) (mP (m2 dAdd (mVar 6) (mC (.int 1)))) mNoP)) mNil))))) (mSeq (mApp 8 (mTup (mCons (mVar 2) (mCons (mVar 3) (mCons (m2 dAdd (m2 dAdd (mSl (mVar 4) mNoP (mP (mVar 6))) (mTup (mCons (mSl (m2 dMul (m2 dIx (mVar 4) (mVar 6)) (mC (.int 5))) mNoP (mP (mC (.int 5)))) mNil))) (mSl (mVar 4) (mP (m2 dAdd (mVar 6) (mC (.int 1)))) mNoP)) mNil))))) (mSeq (mApp 8 (mTup (mCons (m2 dMul (mSl (mVar 2) mNoP (mP (mC (.int 1)))) (mC (.int 9))) (mCons (mTup (mCons (mTup (mCons (mC (.int 0)) (mCons (mTup (mCons (mC (.int 1)) (mCons (mC (.int 1)) mNil))) mNil))) mNil)) (mCons (m2 dMul (mTup (mCons (mTup (mCons (mTup (mCons (mTup (mCons (mC (.int 0)) (mCons (mTup (mCons (mC (.int 1)) (mCons (mC (.int 1)) mNil))) mNil))) mNil)) mNil)) mNil)) (mC (.int 9))) mNil))))) (mSeq (mSet 9 (mCallS c__law_bad_lots 0 (mCons (mVar 5) (mCons (mVar 3) mNil)))) (mSeq (mApp 8 (mTup (mCons (mVar 2) (mCons (m2 dIx (mVar 9) (mCallS c__law_next 0 (mCons (m1 dLen (mVar 9)) mNil))) (mCons (mVar 4) mNil))))) (mSeq (mSet 9 (mCallS c__law_bad_lots 0 (mCons (mVar 5) (mCons (m2 dIx (m2 dIx (mVar 4) (mVar 6)) (mVar 7)) mNil)))) (mSeq (mFor (mRng1 (mC (.int 3))) (gN 10) b__law_bad_gambles_1) (mRet (mVar 8)))))))))))))))
def c__law_bad_gambles := mfunS 2 12 m__law_bad_gambles
def e__law_system_due_1 : ME := (mVar 5)
def b__law_system_due_1 : MS := (mExt 3 (mLc [5, 6] (mItems (mVar 4)) (gT 2 (gsC (gN 5) (gsC (gN 6) gsN))) mTrue e__law_system_due_1))
def b__law_system_due_2 : MS := (mSeq (mSetO 3 (mDisp mNil)) (mSeq (mFor (mItems (mVar 2)) (gN 4) b__law_system_due_1) (mApp 1 (m1 dTuple (mLst (mO1 dSortSet (mVarB 3)))))))
def e__law_system_due_2 : ME := (mVar 5)
def m__law_system_due : MS := (mSeq (mSetO 1 (mDisp mNil)) (mSeq (mFor (mItems (m2 dIx (mVar 0) (mC (.int 2)))) (gN 2) b__law_system_due_2) (mRet (mTup (mCons (m2 dIx (mVar 0) (mC (.int 0))) (mCons (m1 dTuple (mLst (mLc [5, 6] (mItems (m2 dIx (mVar 0) (mC (.int 1)))) (gT 2 (gsC (gN 5) (gsC (gN 6) gsN))) mTrue e__law_system_due_2))) (mCons (m1 dTuple (mVarB 1)) mNil)))))))
def c__law_system_due := mfunP 1 7 m__law_system_due
def m__law_number : MS := (mRet (m2 dMul (m2 dSub (mCallS c__law_next 0 (mCons (mC (.int 1009)) mNil)) (mC (.int 500))) (m2 dIx (mLst (mDisp (mCons (mC (.int 1)) (mCons (mC (.int 6)) (mCons (m2 dPow (mC (.int 10)) (mC (.int 12))) mNil))))) (mCallS c__law_next 0 (mCons (mC (.int 3)) mNil)))))
def c__law_number := mfunS 1 1 m__law_number
def h__law_ratios_fit_1 : MS := (mRet (m2 dEq (m1 dRepr (mTup (mCons (mCallP c_is_ratio (mCons (mVar 1) mNil)) (mCons (mCallP c_is_ratio (mCons (mTup (mCons (mVar 4) (mCons (mC (.int 0)) mNil))) mNil)) (mCons (mCallP c_is_ratio (mCons (mTup (mCons (m2 dIx (mVar 1) (mC (.int 0))) (mCons (m2 dSub (mC (.int 0)) (m2 dIx (mVar 1) (mC (.int 1)))) mNil))) mNil)) mNil))))) (m1 dRepr (mTup (mCons (mC (.bool true)) (mCons (mC (.bool false)) (mCons (mC (.bool false)) mNil)))))))
def m__law_ratios_fit : MS := (mSeq (mSet 1 (mCallP c__law_ratio (mCons (mCallS c__law_number 0 mNil) (mCons (m2 dAdd (mC (.int 1)) (m1 dAbs (mCallS c__law_number 0 mNil))) mNil)))) (mSeq (mSet 2 (mCallP c__law_ratio (mCons (mCallS c__law_number 0 mNil) (mCons (m2 dAdd (mC (.int 1)) (m1 dAbs (mCallS c__law_number 0 mNil))) mNil)))) (mSeq (mSet 3 (mTup (mCons (mCallP c__law_sum (mCons (mVar 1) (mCons (mVar 2) mNil))) (mCons (mCallP c__law_times (mCons (mVar 1) (mCons (mVar 2) mNil))) (mCons (m2 dSub (m1 dInt (mCallP c__law_less (mCons (mVar 2) (mCons (mVar 1) mNil)))) (m1 dInt (mCallP c__law_less (mCons (mVar 1) (mCons (mVar 2) mNil))))) (mCons (mC (.int 0)) mNil)))))) (mSeq (mIf (mT (m2 dNe (m1 dRepr (mTup (mCons (mCallP c_plus (mCons (mVar 1) (mCons (mVar 2) mNil))) (mCons (mCallP c_times (mCons (mVar 1) (mCons (mVar 2) mNil))) (mCons (mCallP c_compare (mCons (mVar 1) (mCons (mVar 2) mNil))) (mCons (mCallP c_compare (mCons (mVar 1) (mCons (mVar 1) mNil))) mNil)))))) (m1 dRepr (mVar 3)))) (mRet (mC (.bool false))) mNext) (mSeq (mSet 4 (mCallS c__law_number 0 mNil)) (mSeq (mSet 5 (mCallS c__law_number 0 mNil)) (mSeq (mIf (mAndT (mT (m2 dNe (mVar 5) (mC (.int 0)))) (mT (m2 dNe (m1 dRepr (mTup (mCons (mCallP c_lowest (mCons (mVar 4) (mCons (mVar 5) mNil))) (mCons (mCallP c_is_ratio (mCons (mTup (mCons (mVar 4) (mCons (mVar 5) mNil))) mNil)) mNil)))) (m1 dRepr (mTup (mCons (mCallP c__law_ratio (mCons (mVar 4) (mCons (mVar 5) mNil))) (mCons (mAndV (m2 dGt (mVar 5) (mC (.int 0))) (m2 dEq (mCallP c__law_gcd (mCons (mVar 4) (mCons (mVar 5) mNil))) (mC (.int 1)))) mNil))))))) (mRet (mC (.bool false))) mNext) (mSeq (mTryO (mDrop (mCallP c_lowest (mCons (mVar 4) (mCons (mC (.int 0)) mNil)))) cat_NotAllowed h__law_ratios_fit_1) (mRet (mC (.bool false)))))))))))
def c__law_ratios_fit := mfunS 1 6 m__law_ratios_fit
def e_law_1 : ME := (m1 dLen (mVar 7))
def b_law_1 : MS := (mIf (mT (m2 dNe (mCallP c__law_checked (mCons (mVar 2) (mCons (mVar 5) mNil))) (mC (.bool false)))) (mRet (mC (.bool false))) mNext)
def m_law : MS := (mSeq (mSetO 1 (mDisp (mCons (mCallP c__law_stream (mCons (mVar 0) mNil)) (mCons (mC (.int 0)) mNil)))) (mSeq (mSet 2 (mCallS c__law_facts 1 (mCons (m2 dAdd (mC (.int 1)) (mCallS c__law_next 1 (mCons (mC (.int 3)) mNil))) mNil))) (mSeq (mSet 3 (mCallS c__law_gamble 1 (mCons (mVar 2) (mCons (mC (.int 8)) (mCons (mC (.int 4)) mNil))))) (mSeq (mSet 4 (m1 dRepr (mVar 3))) (mSeq (mIf (mOrT (mT (m2 dNe (mCallP c__law_checked (mCons (mVar 2) (mCons (mVar 3) mNil))) (mC (.bool true)))) (mT (m2 dNe (m1 dRepr (mCallP c_system_of (mCons (mVar 3) mNil))) (m1 dRepr (mCallP c__law_system_due (mCons (mVar 3) mNil)))))) (mRet (mC (.bool false))) mNext) (mSeq (mIf (mOrT (mT (m2 dNe (m1 dRepr (mCallP c_is_plain (mCons (mVar 3) mNil))) (m1 dRepr (m2 dEq (m1 dMax (mLst (mLc [7] (mItems (m2 dIx (mVar 3) (mC (.int 2)))) (gN 7) mTrue e_law_1))) (mC (.int 1)))))) (mT (m2 dNe (mTup (mCons (mC c_MAX_PART) (mCons (mC c_MAX_OPTIONS) mNil))) (mTup (mCons (mC (.int 1000)) (mCons (mC (.int 4)) mNil)))))) (mRet (mC (.bool false))) mNext) (mSeq (mFor (mItems (mCallS c__law_bad_gambles 1 (mCons (mVar 3) mNil))) (gN 5) b_law_1) (mSeq (mSet 6 (mTup (mCons (mTup (mCons (mTup mNil) (mCons (mTup mNil) mNil))) (mCons (mTup (mCons (mTup (mCons (mC (.int 0)) (mCons (mTup (mCons (mC (.int 1)) (mCons (mC (.int 1000)) mNil))) mNil))) (mCons (mTup (mCons (mC (.int 1)) (mCons (mTup (mCons (mC (.int 999)) (mCons (mC (.int 1000)) mNil))) mNil))) mNil))) (mCons (mTup (mCons (m2 dMul (mTup (mCons (mTup (mCons (mTup (mCons (mC (.int 1)) (mCons (mTup (mCons (mC (.int 1)) (mCons (mC (.int 1)) mNil))) mNil))) mNil)) mNil)) (mC (.int 4))) (mCons (mTup (mCons (mTup (mCons (mTup (mCons (mC (.int 0)) (mCons (mTup (mCons (mC (.int 1)) (mCons (mC (.int 1)) mNil))) mNil))) mNil)) mNil)) mNil))) mNil))))) (mRet (mAndV (m2 dEq (mCallP c__law_checked (mCons (mVar 2) (mCons (mVar 6) mNil))) (mC (.bool true))) (mAndV (mCallS c__law_ratios_fit 1 mNil) (m2 dEq (m1 dRepr (mVar 3)) (mVar 4)))))))))))))
def c_law := mfunP 1 8 m_law
structure Ad where
  a_SpanError : Addr
  a_NotAllowed : Addr
  a_TooLarge : Addr
  a_Missing : Addr
  a_BadPaper : Addr
  a_common : Addr
  d_common : FuncData
  a_lowest : Addr
  d_lowest : FuncData
  a_is_ratio : Addr
  d_is_ratio : FuncData
  a_plus : Addr
  d_plus : FuncData
  a_times : Addr
  d_times : FuncData
  a_compare : Addr
  d_compare : FuncData
  a_total : Addr
  d_total : FuncData
  a_is_scene : Addr
  d_is_scene : FuncData
  a_check_lot : Addr
  d_check_lot : FuncData
  a_check_gamble : Addr
  d_check_gamble : FuncData
  a_is_plain : Addr
  d_is_plain : FuncData
  a_system_of : Addr
  d_system_of : FuncData
  a__law_stream : Addr
  d__law_stream : FuncData
  a__law_next : Addr
  d__law_next : FuncData
  a__law_word : Addr
  d__law_word : FuncData
  a__law_facts : Addr
  d__law_facts : FuncData
  a__law_scene : Addr
  d__law_scene : FuncData
  a__law_gcd : Addr
  d__law_gcd : FuncData
  a__law_ratio : Addr
  d__law_ratio : FuncData
  a__law_sum : Addr
  d__law_sum : FuncData
  a__law_times : Addr
  d__law_times : FuncData
  a__law_less : Addr
  d__law_less : FuncData
  a__law_lot : Addr
  d__law_lot : FuncData
  a__law_gamble : Addr
  d__law_gamble : FuncData
  a__law_checked : Addr
  d__law_checked : FuncData
  a__law_bad_lots : Addr
  d__law_bad_lots : FuncData
  a__law_bad_gambles : Addr
  d__law_bad_gambles : FuncData
  a__law_system_due : Addr
  d__law_system_due : FuncData
  a__law_number : Addr
  d__law_number : FuncData
  a__law_ratios_fit : Addr
  d__law_ratios_fit : FuncData
  a_law : Addr
  d_law : FuncData
/-- what the top has written -/
structure Txt (K : PySem.W.Frag) (mg : Str → Option Value) (a : Ad) : Prop where
  n_abs : mg "abs" = none
  n_all : mg "all" = none
  n_int : mg "int" = none
  n_isinstance : mg "isinstance" = none
  n_len : mg "len" = none
  n_max : mg "max" = none
  n_range : mg "range" = none
  n_repr : mg "repr" = none
  n_set : mg "set" = none
  n_sorted : mg "sorted" = none
  n_sum : mg "sum" = none
  n_tuple : mg "tuple" = none
  c_MAX_OPTIONS : ∃ (v : V) (u : Value), mg "MAX_OPTIONS" = some u ∧ RelV v u ∧ ∀ F, Sh K F v c_MAX_OPTIONS
  c_MAX_PART : ∃ (v : V) (u : Value), mg "MAX_PART" = some u ∧ RelV v u ∧ ∀ F, Sh K F v c_MAX_PART
  c_MAX_STATES : ∃ (v : V) (u : Value), mg "MAX_STATES" = some u ∧ RelV v u ∧ ∀ F, Sh K F v c_MAX_STATES
  c_NOTHING : ∃ (v : V) (u : Value), mg "NOTHING" = some u ∧ RelV v u ∧ ∀ F, Sh K F v c_NOTHING
  c_WHOLE : ∃ (v : V) (u : Value), mg "WHOLE" = some u ∧ RelV v u ∧ ∀ F, Sh K F v c_WHOLE
  k_SpanError : mg "SpanError" = some (.ref a.a_SpanError)
  p_SpanError : PySem.W.keepIn K (.ref a.a_SpanError) = true
  s_SpanError : PySem.W.subIn K (.ref a.a_SpanError) (.type "BaseException") = some true
  y_SpanError : PySem.W.typeIn K (.ref a.a_SpanError) = some (.type "type")
  h_SpanError : PySem.W.hasDictIn K a.a_SpanError = true
  k_NotAllowed : mg "NotAllowed" = some (.ref a.a_NotAllowed)
  p_NotAllowed : PySem.W.keepIn K (.ref a.a_NotAllowed) = true
  e_NotAllowed : PySem.W.excIn K a.a_NotAllowed veB "ValueError.__new__" = true
  s_NotAllowed : PySem.W.subIn K (.ref a.a_NotAllowed) (.type "BaseException") = some true
  y_NotAllowed : PySem.W.typeIn K (.ref a.a_NotAllowed) = some (.type "type")
  h_NotAllowed : PySem.W.hasDictIn K a.a_NotAllowed = true
  k_TooLarge : mg "TooLarge" = some (.ref a.a_TooLarge)
  p_TooLarge : PySem.W.keepIn K (.ref a.a_TooLarge) = true
  s_TooLarge : PySem.W.subIn K (.ref a.a_TooLarge) (.type "BaseException") = some true
  y_TooLarge : PySem.W.typeIn K (.ref a.a_TooLarge) = some (.type "type")
  h_TooLarge : PySem.W.hasDictIn K a.a_TooLarge = true
  k_Missing : mg "Missing" = some (.ref a.a_Missing)
  p_Missing : PySem.W.keepIn K (.ref a.a_Missing) = true
  s_Missing : PySem.W.subIn K (.ref a.a_Missing) (.type "BaseException") = some true
  y_Missing : PySem.W.typeIn K (.ref a.a_Missing) = some (.type "type")
  h_Missing : PySem.W.hasDictIn K a.a_Missing = true
  k_BadPaper : mg "BadPaper" = some (.ref a.a_BadPaper)
  p_BadPaper : PySem.W.keepIn K (.ref a.a_BadPaper) = true
  s_BadPaper : PySem.W.subIn K (.ref a.a_BadPaper) (.type "BaseException") = some true
  y_BadPaper : PySem.W.typeIn K (.ref a.a_BadPaper) = some (.type "type")
  h_BadPaper : PySem.W.hasDictIn K a.a_BadPaper = true
  x_NotAllowed : ExcC K a.a_NotAllowed
  i_NotAllowed_BadPaper : PySem.W.kitOne K (.ref a.a_NotAllowed) (.ref a.a_BadPaper) = some false
  i_NotAllowed_Missing : PySem.W.kitOne K (.ref a.a_NotAllowed) (.ref a.a_Missing) = some false
  i_NotAllowed_SpanError : PySem.W.kitOne K (.ref a.a_NotAllowed) (.ref a.a_SpanError) = some true
  i_NotAllowed_TooLarge : PySem.W.kitOne K (.ref a.a_NotAllowed) (.ref a.a_TooLarge) = some false
  u_SpanError_NotAllowed : PySem.W.subIn K (.ref a.a_SpanError) (.ref a.a_NotAllowed) = some false
  u_NotAllowed_NotAllowed : PySem.W.subIn K (.ref a.a_NotAllowed) (.ref a.a_NotAllowed) = some true
  u_TooLarge_NotAllowed : PySem.W.subIn K (.ref a.a_TooLarge) (.ref a.a_NotAllowed) = some false
  u_Missing_NotAllowed : PySem.W.subIn K (.ref a.a_Missing) (.ref a.a_NotAllowed) = some false
  u_BadPaper_NotAllowed : PySem.W.subIn K (.ref a.a_BadPaper) (.ref a.a_NotAllowed) = some false
  g_common : mg "common" = some (.ref a.a_common)
  F_common : L2.Fun K "common" "common" s_common a.a_common a.d_common
  g_lowest : mg "lowest" = some (.ref a.a_lowest)
  F_lowest : L2.Fun K "lowest" "lowest" s_lowest a.a_lowest a.d_lowest
  g_is_ratio : mg "is_ratio" = some (.ref a.a_is_ratio)
  F_is_ratio : L2.Fun K "is_ratio" "is_ratio" s_is_ratio a.a_is_ratio a.d_is_ratio
  g_plus : mg "plus" = some (.ref a.a_plus)
  F_plus : L2.Fun K "plus" "plus" s_plus a.a_plus a.d_plus
  g_times : mg "times" = some (.ref a.a_times)
  F_times : L2.Fun K "times" "times" s_times a.a_times a.d_times
  g_compare : mg "compare" = some (.ref a.a_compare)
  F_compare : L2.Fun K "compare" "compare" s_compare a.a_compare a.d_compare
  g_total : mg "total" = some (.ref a.a_total)
  F_total : L2.Fun K "total" "total" s_total a.a_total a.d_total
  g_is_scene : mg "is_scene" = some (.ref a.a_is_scene)
  F_is_scene : L2.Fun K "is_scene" "is_scene" s_is_scene a.a_is_scene a.d_is_scene
  g_check_lot : mg "check_lot" = some (.ref a.a_check_lot)
  F_check_lot : L2.Fun K "check_lot" "check_lot" s_check_lot a.a_check_lot a.d_check_lot
  g_check_gamble : mg "check_gamble" = some (.ref a.a_check_gamble)
  F_check_gamble : L2.Fun K "check_gamble" "check_gamble" s_check_gamble a.a_check_gamble a.d_check_gamble
  g_is_plain : mg "is_plain" = some (.ref a.a_is_plain)
  F_is_plain : L2.Fun K "is_plain" "is_plain" s_is_plain a.a_is_plain a.d_is_plain
  g_system_of : mg "system_of" = some (.ref a.a_system_of)
  F_system_of : L2.Fun K "system_of" "system_of" s_system_of a.a_system_of a.d_system_of
  g__law_stream : mg "_law_stream" = some (.ref a.a__law_stream)
  F__law_stream : L2.Fun K "_law_stream" "_law_stream" s__law_stream a.a__law_stream a.d__law_stream
  g__law_next : mg "_law_next" = some (.ref a.a__law_next)
  F__law_next : L2.Fun K "_law_next" "_law_next" s__law_next a.a__law_next a.d__law_next
  g__law_word : mg "_law_word" = some (.ref a.a__law_word)
  F__law_word : L2.Fun K "_law_word" "_law_word" s__law_word a.a__law_word a.d__law_word
  g__law_facts : mg "_law_facts" = some (.ref a.a__law_facts)
  F__law_facts : L2.Fun K "_law_facts" "_law_facts" s__law_facts a.a__law_facts a.d__law_facts
  g__law_scene : mg "_law_scene" = some (.ref a.a__law_scene)
  F__law_scene : L2.Fun K "_law_scene" "_law_scene" s__law_scene a.a__law_scene a.d__law_scene
  g__law_gcd : mg "_law_gcd" = some (.ref a.a__law_gcd)
  F__law_gcd : L2.Fun K "_law_gcd" "_law_gcd" s__law_gcd a.a__law_gcd a.d__law_gcd
  g__law_ratio : mg "_law_ratio" = some (.ref a.a__law_ratio)
  F__law_ratio : L2.Fun K "_law_ratio" "_law_ratio" s__law_ratio a.a__law_ratio a.d__law_ratio
  g__law_sum : mg "_law_sum" = some (.ref a.a__law_sum)
  F__law_sum : L2.Fun K "_law_sum" "_law_sum" s__law_sum a.a__law_sum a.d__law_sum
  g__law_times : mg "_law_times" = some (.ref a.a__law_times)
  F__law_times : L2.Fun K "_law_times" "_law_times" s__law_times a.a__law_times a.d__law_times
  g__law_less : mg "_law_less" = some (.ref a.a__law_less)
  F__law_less : L2.Fun K "_law_less" "_law_less" s__law_less a.a__law_less a.d__law_less
  g__law_lot : mg "_law_lot" = some (.ref a.a__law_lot)
  F__law_lot : L2.Fun K "_law_lot" "_law_lot" s__law_lot a.a__law_lot a.d__law_lot
  g__law_gamble : mg "_law_gamble" = some (.ref a.a__law_gamble)
  F__law_gamble : L2.Fun K "_law_gamble" "_law_gamble" s__law_gamble a.a__law_gamble a.d__law_gamble
  g__law_checked : mg "_law_checked" = some (.ref a.a__law_checked)
  F__law_checked : L2.Fun K "_law_checked" "_law_checked" s__law_checked a.a__law_checked a.d__law_checked
  g__law_bad_lots : mg "_law_bad_lots" = some (.ref a.a__law_bad_lots)
  F__law_bad_lots : L2.Fun K "_law_bad_lots" "_law_bad_lots" s__law_bad_lots a.a__law_bad_lots a.d__law_bad_lots
  g__law_bad_gambles : mg "_law_bad_gambles" = some (.ref a.a__law_bad_gambles)
  F__law_bad_gambles : L2.Fun K "_law_bad_gambles" "_law_bad_gambles" s__law_bad_gambles a.a__law_bad_gambles a.d__law_bad_gambles
  g__law_system_due : mg "_law_system_due" = some (.ref a.a__law_system_due)
  F__law_system_due : L2.Fun K "_law_system_due" "_law_system_due" s__law_system_due a.a__law_system_due a.d__law_system_due
  g__law_number : mg "_law_number" = some (.ref a.a__law_number)
  F__law_number : L2.Fun K "_law_number" "_law_number" s__law_number a.a__law_number a.d__law_number
  g__law_ratios_fit : mg "_law_ratios_fit" = some (.ref a.a__law_ratios_fit)
  F__law_ratios_fit : L2.Fun K "_law_ratios_fit" "_law_ratios_fit" s__law_ratios_fit a.a__law_ratios_fit a.d__law_ratios_fit
  g_law : mg "law" = some (.ref a.a_law)
  F_law : L2.Fun K "law" "law" s_law a.a_law a.d_law
namespace Txt
variable {K : PySem.W.Frag} {mg : Str → Option Value} {a : Ad}
theorem b_common (T : Txt K mg a) : Binds K a.d_common p_common [] := T.F_common.binds (ps := p_common) fun _ _ _ _ _ _ us hl => match us, hl with | [_, _], _ => rfl
theorem b_lowest (T : Txt K mg a) : Binds K a.d_lowest p_lowest [] := T.F_lowest.binds (ps := p_lowest) fun _ _ _ _ _ _ us hl => match us, hl with | [_, _], _ => rfl
theorem b_is_ratio (T : Txt K mg a) : Binds K a.d_is_ratio p_is_ratio [] := T.F_is_ratio.binds (ps := p_is_ratio) fun _ _ _ _ _ _ us hl => match us, hl with | [_], _ => rfl
theorem b_plus (T : Txt K mg a) : Binds K a.d_plus p_plus [] := T.F_plus.binds (ps := p_plus) fun _ _ _ _ _ _ us hl => match us, hl with | [_, _], _ => rfl
theorem b_times (T : Txt K mg a) : Binds K a.d_times p_times [] := T.F_times.binds (ps := p_times) fun _ _ _ _ _ _ us hl => match us, hl with | [_, _], _ => rfl
theorem b_compare (T : Txt K mg a) : Binds K a.d_compare p_compare [] := T.F_compare.binds (ps := p_compare) fun _ _ _ _ _ _ us hl => match us, hl with | [_, _], _ => rfl
theorem b_total (T : Txt K mg a) : Binds K a.d_total p_total [] := T.F_total.binds (ps := p_total) fun _ _ _ _ _ _ us hl => match us, hl with | [_], _ => rfl
theorem b_is_scene (T : Txt K mg a) : Binds K a.d_is_scene p_is_scene [] := T.F_is_scene.binds (ps := p_is_scene) fun _ _ _ _ _ _ us hl => match us, hl with | [_, _], _ => rfl
theorem b_check_lot (T : Txt K mg a) : Binds K a.d_check_lot p_check_lot [] := T.F_check_lot.binds (ps := p_check_lot) fun _ _ _ _ _ _ us hl => match us, hl with | [_, _], _ => rfl
theorem b_check_gamble (T : Txt K mg a) : Binds K a.d_check_gamble p_check_gamble [] := T.F_check_gamble.binds (ps := p_check_gamble) fun _ _ _ _ _ _ us hl => match us, hl with | [_, _], _ => rfl
theorem b_is_plain (T : Txt K mg a) : Binds K a.d_is_plain p_is_plain [] := T.F_is_plain.binds (ps := p_is_plain) fun _ _ _ _ _ _ us hl => match us, hl with | [_], _ => rfl
theorem b_system_of (T : Txt K mg a) : Binds K a.d_system_of p_system_of [] := T.F_system_of.binds (ps := p_system_of) fun _ _ _ _ _ _ us hl => match us, hl with | [_], _ => rfl
theorem b__law_stream (T : Txt K mg a) : Binds K a.d__law_stream p__law_stream [] := T.F__law_stream.binds (ps := p__law_stream) fun _ _ _ _ _ _ us hl => match us, hl with | [_], _ => rfl
theorem b__law_next (T : Txt K mg a) : Binds K a.d__law_next p__law_next [] := T.F__law_next.binds (ps := p__law_next) fun _ _ _ _ _ _ us hl => match us, hl with | [_, _], _ => rfl
theorem b__law_word (T : Txt K mg a) : Binds K a.d__law_word p__law_word [] := T.F__law_word.binds (ps := p__law_word) fun _ _ _ _ _ _ us hl => match us, hl with | [_, _], _ => rfl
theorem b__law_facts (T : Txt K mg a) : Binds K a.d__law_facts p__law_facts [] := T.F__law_facts.binds (ps := p__law_facts) fun _ _ _ _ _ _ us hl => match us, hl with | [_, _], _ => rfl
theorem b__law_scene (T : Txt K mg a) : Binds K a.d__law_scene p__law_scene [] := T.F__law_scene.binds (ps := p__law_scene) fun _ _ _ _ _ _ us hl => match us, hl with | [_, _], _ => rfl
theorem b__law_gcd (T : Txt K mg a) : Binds K a.d__law_gcd p__law_gcd [] := T.F__law_gcd.binds (ps := p__law_gcd) fun _ _ _ _ _ _ us hl => match us, hl with | [_, _], _ => rfl
theorem b__law_ratio (T : Txt K mg a) : Binds K a.d__law_ratio p__law_ratio [] := T.F__law_ratio.binds (ps := p__law_ratio) fun _ _ _ _ _ _ us hl => match us, hl with | [_, _], _ => rfl
theorem b__law_sum (T : Txt K mg a) : Binds K a.d__law_sum p__law_sum [] := T.F__law_sum.binds (ps := p__law_sum) fun _ _ _ _ _ _ us hl => match us, hl with | [_, _], _ => rfl
theorem b__law_times (T : Txt K mg a) : Binds K a.d__law_times p__law_times [] := T.F__law_times.binds (ps := p__law_times) fun _ _ _ _ _ _ us hl => match us, hl with | [_, _], _ => rfl
theorem b__law_less (T : Txt K mg a) : Binds K a.d__law_less p__law_less [] := T.F__law_less.binds (ps := p__law_less) fun _ _ _ _ _ _ us hl => match us, hl with | [_, _], _ => rfl
theorem b__law_lot (T : Txt K mg a) : Binds K a.d__law_lot p__law_lot [] := T.F__law_lot.binds (ps := p__law_lot) fun _ _ _ _ _ _ us hl => match us, hl with | [_, _], _ => rfl
theorem b__law_gamble (T : Txt K mg a) : Binds K a.d__law_gamble p__law_gamble [] := T.F__law_gamble.binds (ps := p__law_gamble) fun _ _ _ _ _ _ us hl => match us, hl with | [_, _, _, _], _ => rfl
theorem b__law_checked (T : Txt K mg a) : Binds K a.d__law_checked p__law_checked [] := T.F__law_checked.binds (ps := p__law_checked) fun _ _ _ _ _ _ us hl => match us, hl with | [_, _], _ => rfl
theorem b__law_bad_lots (T : Txt K mg a) : Binds K a.d__law_bad_lots p__law_bad_lots [] := T.F__law_bad_lots.binds (ps := p__law_bad_lots) fun _ _ _ _ _ _ us hl => match us, hl with | [_, _, _], _ => rfl
theorem b__law_bad_gambles (T : Txt K mg a) : Binds K a.d__law_bad_gambles p__law_bad_gambles [] := T.F__law_bad_gambles.binds (ps := p__law_bad_gambles) fun _ _ _ _ _ _ us hl => match us, hl with | [_, _], _ => rfl
theorem b__law_system_due (T : Txt K mg a) : Binds K a.d__law_system_due p__law_system_due [] := T.F__law_system_due.binds (ps := p__law_system_due) fun _ _ _ _ _ _ us hl => match us, hl with | [_], _ => rfl
theorem b__law_number (T : Txt K mg a) : Binds K a.d__law_number p__law_number [] := T.F__law_number.binds (ps := p__law_number) fun _ _ _ _ _ _ us hl => match us, hl with | [_], _ => rfl
theorem b__law_ratios_fit (T : Txt K mg a) : Binds K a.d__law_ratios_fit p__law_ratios_fit [] := T.F__law_ratios_fit.binds (ps := p__law_ratios_fit) fun _ _ _ _ _ _ us hl => match us, hl with | [_], _ => rfl
theorem b_law (T : Txt K mg a) : Binds K a.d_law p_law [] := T.F_law.binds (ps := p_law) fun _ _ _ _ _ _ us hl => match us, hl with | [_], _ => rfl
theorem exm_NotAllowed (T : Txt K mg a) {C : Addr} {b : Bool} (h : PySem.W.subIn K (.ref C) (.ref a.a_NotAllowed) = some b) : PySem.W.exmOne K (.ref C) (.ref a.a_NotAllowed) = some b := PySem.W.exm_ref T.s_NotAllowed T.h_NotAllowed T.y_NotAllowed h
theorem j_NotAllowed_BadPaper_Missing_TooLarge (T : Txt K mg a) : PySem.W.kitAny K (.ref a.a_NotAllowed) [.ref a.a_BadPaper, .ref a.a_Missing, .ref a.a_TooLarge] = some false := (kitAny_cons T.i_NotAllowed_BadPaper (fun _ => (kitAny_cons T.i_NotAllowed_Missing (fun _ => (kitAny_cons T.i_NotAllowed_TooLarge (fun _ => kitAny_nil) (fun h => nomatch h))) (fun h => nomatch h))) (fun h => nomatch h))
end Txt
section
variable {P : Program} {w : World} {K : PySem.W.Frag} {mg : Str → Option Value} {base : Heap} {a : Ad}
theorem cat_NotAllowed_ok (T : Txt K mg a) {X : Cx} (hK : X.K = K) (hM : X.mg = mg) : CatOk X (.ref a.a_NotAllowed) cat_NotAllowed := fun x D b hc hD => by
  rw [hM] at hD
  rw [hK]
  unfold cat_NotAllowed at hc
  by_cases q : x = "SpanError"
  · rw [if_pos q] at hc
    rw [q, T.k_SpanError] at hD
    cases hc
    cases hD
    exact T.exm_NotAllowed T.u_SpanError_NotAllowed
  rw [if_neg q] at hc
  by_cases q : x = "NotAllowed"
  · rw [if_pos q] at hc
    rw [q, T.k_NotAllowed] at hD
    cases hc
    cases hD
    exact T.exm_NotAllowed T.u_NotAllowed_NotAllowed
  rw [if_neg q] at hc
  by_cases q : x = "TooLarge"
  · rw [if_pos q] at hc
    rw [q, T.k_TooLarge] at hD
    cases hc
    cases hD
    exact T.exm_NotAllowed T.u_TooLarge_NotAllowed
  rw [if_neg q] at hc
  by_cases q : x = "Missing"
  · rw [if_pos q] at hc
    rw [q, T.k_Missing] at hD
    cases hc
    cases hD
    exact T.exm_NotAllowed T.u_Missing_NotAllowed
  rw [if_neg q] at hc
  by_cases q : x = "BadPaper"
  · rw [if_pos q] at hc
    rw [q, T.k_BadPaper] at hD
    cases hc
    cases hD
    exact T.exm_NotAllowed T.u_BadPaper_NotAllowed
  rw [if_neg q] at hc
  cases hc
theorem cat_NotAllowed_is (T : Txt K mg a) {y : Str} {D : Addr} {oe : Obj} {G : Prop} (hy : cat_NotAllowed y = some true) (hD : mg y = some (.ref D)) (hz : L2N.Zn (.ref D) none oe) (h : L2N.Zn (.ref a.a_NotAllowed) none oe → G) : G := by
  unfold cat_NotAllowed at hy
  by_cases q : y = "SpanError"
  · rw [if_pos q] at hy
    cases hy
  rw [if_neg q] at hy
  by_cases q : y = "NotAllowed"
  · rw [if_pos q] at hy
    rw [q, T.k_NotAllowed] at hD
    cases hD
    exact h hz
  rw [if_neg q] at hy
  by_cases q : y = "TooLarge"
  · rw [if_pos q] at hy
    cases hy
  rw [if_neg q] at hy
  by_cases q : y = "Missing"
  · rw [if_pos q] at hy
    cases hy
  rw [if_neg q] at hy
  by_cases q : y = "BadPaper"
  · rw [if_pos q] at hy
    cases hy
  rw [if_neg q] at hy
  cases hy
theorem sc_common : FnScope n_common p_common (defScope s_common) := ⟨rfl, rfl, rfl, by decide +kernel, rfl, by decide +kernel, by decide +kernel⟩
theorem ok_common (T : Txt K mg a) : FnG P w K mg base 2 a.a_common a.d_common p_common (spP K mg c_common) := fn_P T.F_common sc_common (by decide) fun cdv A outer s H E hr => by
  have nd : (n_common).Nodup := sc_common.nd
  have tk := L2N.takes_of (X := cxOf (L2N.CX P w) P w K mg base n_common "common" (defScope s_common) a.a_common cdv A outer s H E) rfl rfl rfl rfl
  have po : PassesOwn (model P w) (A.deeper (envOfC "common" (defScope s_common) s.heap.objs.size a.a_common cdv)) _ (cxOf (L2N.CX P w) P w K mg base n_common "common" (defScope s_common) a.a_common cdv A outer s H E).xe := passes_of rfl
  exact (sss_cons (ss_while po (st_cmpB (op_neDD (u64 hr)) (se_var (pv 1)) (sb_of se_int) (nomark _)) (sss_one (ss_par (ps_par (i := 0) (j := 1) rfl nd rfl rfl (by decide) rfl rfl (pa_cons (se_var (pv 1)) (pa_cons (se_op od_mod (se_var (pv 0)) (se_var (pv 1))) pa_nil)) rfl) rfl))) (sss_one (ss_ret (se_callB cd_abs rfl T.n_abs rfl (sb_of (se_var (pv 0)))))))
theorem okH_common (T : Txt K mg a) : FnGH P w K mg base 2 a.a_common a.d_common p_common (spP K mg c_common) := fn_PH T.F_common sc_common (by decide) fun cdv A outer s H E p hp hr => by
  have nd : (n_common).Nodup := sc_common.nd
  have tk := L2N.takes_of (X := L2H.cxH (L2N.CX P w) P w K mg base n_common "common" (defScope s_common) a.a_common cdv A outer s H E p) rfl rfl rfl rfl
  have po : PassesOwn (model P w) (A.deeper (envOfC "common" (defScope s_common) s.heap.objs.size a.a_common cdv)) _ (L2H.cxH (L2N.CX P w) P w K mg base n_common "common" (defScope s_common) a.a_common cdv A outer s H E p).xe := passes_of rfl
  exact (sss_cons (ss_while po (st_cmpB (op_neDD (u64H hr)) (se_var (pv 1)) (sb_of se_int) (nomark _)) (sss_one (ss_par (ps_parH (i := 0) (j := 1) (hot_def hp) nd rfl rfl (by decide) rfl rfl (pa_cons (se_var (pv 1)) (pa_cons (se_op od_mod (se_var (pv 0)) (se_var (pv 1))) pa_nil)) rfl) rfl))) (sss_one (ss_ret (se_callB cd_abs rfl T.n_abs rfl (sb_of (se_var (pv 0)))))))
theorem sc_lowest : FnScope n_lowest p_lowest (defScope s_lowest) := ⟨rfl, rfl, rfl, by decide +kernel, rfl, by decide +kernel, by decide +kernel⟩
theorem ok_lowest (T : Txt K mg a) : FnG P w K mg base 3 a.a_lowest a.d_lowest p_lowest (spP K mg c_lowest) := fn_P T.F_lowest sc_lowest (by decide) fun cdv A outer s H E hr => by
  have nd : (n_lowest).Nodup := sc_lowest.nd
  have tk := L2N.takes_of (X := cxOf (L2N.CX P w) P w K mg base n_lowest "lowest" (defScope s_lowest) a.a_lowest cdv A outer s H E) rfl rfl rfl rfl
  have po : PassesOwn (model P w) (A.deeper (envOfC "lowest" (defScope s_lowest) s.heap.objs.size a.a_lowest cdv)) _ (cxOf (L2N.CX P w) P w K mg base n_lowest "lowest" (defScope s_lowest) a.a_lowest cdv A outer s H E).xe := passes_of rfl
  exact (sss_cons (ss_if (st_cmpB (op_eqDD (u64 hr)) (se_var (pv 1)) (sb_of se_int) (nomark _)) (sss_one (ss_raise rfl tk PySem.F.excBase_ValueError T.e_NotAllowed T.k_NotAllowed T.p_NotAllowed (raises_own T.s_NotAllowed T.y_NotAllowed) rfl)) sss_nil) (sss_cons (ss_set nd rfl (Or.inl rfl) (se_ifExp (st_cmpB od_gt (se_var (pv 1)) (sb_of se_int) (nomark _)) (se_callP (ok_common T) (hr.mono (by decide)) tk rfl T.g_common T.F_common.kp T.b_common (sa_cons (se_var (pv 0)) (sa_cons (se_var (pv 1)) sa_nil))) (se_neg (se_callP (ok_common T) (hr.mono (by decide)) tk rfl T.g_common T.F_common.kp T.b_common (sa_cons (se_var (pv 0)) (sa_cons (se_var (pv 1)) sa_nil)))))) (sss_one (ss_ret (se_tup (sa_cons (se_op od_fdiv (se_var (pv 0)) (se_var (pv 2))) (sa_cons (se_op od_fdiv (se_var (pv 1)) (se_var (pv 2))) sa_nil)))))))
theorem sc_is_ratio : FnScope n_is_ratio p_is_ratio (defScope s_is_ratio) := ⟨rfl, rfl, rfl, by decide +kernel, rfl, by decide +kernel, by decide +kernel⟩
theorem ok_is_ratio (T : Txt K mg a) : FnG P w K mg base 3 a.a_is_ratio a.d_is_ratio p_is_ratio (spP K mg c_is_ratio) := fn_P T.F_is_ratio sc_is_ratio (by decide) fun cdv A outer s H E hr => by
  have nd : (n_is_ratio).Nodup := sc_is_ratio.nd
  have tk := L2N.takes_of (X := cxOf (L2N.CX P w) P w K mg base n_is_ratio "is_ratio" (defScope s_is_ratio) a.a_is_ratio cdv A outer s H E) rfl rfl rfl rfl
  have po : PassesOwn (model P w) (A.deeper (envOfC "is_ratio" (defScope s_is_ratio) s.heap.objs.size a.a_is_ratio cdv)) _ (cxOf (L2N.CX P w) P w K mg base n_is_ratio "is_ratio" (defScope s_is_ratio) a.a_is_ratio cdv A outer s H E).xe := passes_of rfl
  exact (sss_one (ss_ret (se_and (se_cmpB od_ge (se_ix (se_var (pv 0)) se_int (fun _ _ => rfl)) (sb_of se_int) (nomark _)) (se_one (se_cmpB (op_eqDD (u64 hr)) (se_callP (ok_common T) (hr.mono (by decide)) tk rfl T.g_common T.F_common.kp T.b_common (sa_cons (se_ix (se_var (pv 0)) se_int (fun _ _ => rfl)) (sa_cons (se_ix (se_var (pv 0)) se_int (fun _ _ => rfl)) sa_nil))) (sb_of se_int) (nomark _))))))
theorem okH_is_ratio (T : Txt K mg a) : FnGH P w K mg base 3 a.a_is_ratio a.d_is_ratio p_is_ratio (spP K mg c_is_ratio) := fn_PH T.F_is_ratio sc_is_ratio (by decide) fun cdv A outer s H E p hp hr => by
  have nd : (n_is_ratio).Nodup := sc_is_ratio.nd
  have tk := L2N.takes_of (X := L2H.cxH (L2N.CX P w) P w K mg base n_is_ratio "is_ratio" (defScope s_is_ratio) a.a_is_ratio cdv A outer s H E p) rfl rfl rfl rfl
  have po : PassesOwn (model P w) (A.deeper (envOfC "is_ratio" (defScope s_is_ratio) s.heap.objs.size a.a_is_ratio cdv)) _ (L2H.cxH (L2N.CX P w) P w K mg base n_is_ratio "is_ratio" (defScope s_is_ratio) a.a_is_ratio cdv A outer s H E p).xe := passes_of rfl
  exact (sss_one (ss_ret (se_and (se_cmpB od_ge (se_ix (se_var (pv 0)) se_int (fun _ _ => rfl)) (sb_of se_int) (nomark _)) (se_one (se_cmpB (op_eqDD (u64H hr)) (se_callPH (okH_common T) (hr.mono (by decide)) (hot_def hp) tk rfl T.g_common T.F_common.kp T.b_common (sa_cons (se_ix (se_var (pv 0)) se_int (fun _ _ => rfl)) (sa_cons (se_ix (se_var (pv 0)) se_int (fun _ _ => rfl)) sa_nil))) (sb_of se_int) (nomark _))))))
theorem sc_plus : FnScope n_plus p_plus (defScope s_plus) := ⟨rfl, rfl, rfl, by decide +kernel, rfl, by decide +kernel, by decide +kernel⟩
theorem ok_plus (T : Txt K mg a) : FnG P w K mg base 4 a.a_plus a.d_plus p_plus (spP K mg c_plus) := fn_P T.F_plus sc_plus (by decide) fun cdv A outer s H E hr => by
  have nd : (n_plus).Nodup := sc_plus.nd
  have tk := L2N.takes_of (X := cxOf (L2N.CX P w) P w K mg base n_plus "plus" (defScope s_plus) a.a_plus cdv A outer s H E) rfl rfl rfl rfl
  have po : PassesOwn (model P w) (A.deeper (envOfC "plus" (defScope s_plus) s.heap.objs.size a.a_plus cdv)) _ (cxOf (L2N.CX P w) P w K mg base n_plus "plus" (defScope s_plus) a.a_plus cdv A outer s H E).xe := passes_of rfl
  exact (sss_one (ss_ret (se_callP (ok_lowest T) (hr.mono (by decide)) tk rfl T.g_lowest T.F_lowest.kp T.b_lowest (sa_cons (se_op od_add (se_op od_mul (se_ix (se_var (pv 0)) se_int (fun _ _ => rfl)) (se_ix (se_var (pv 1)) se_int (fun _ _ => rfl))) (se_op od_mul (se_ix (se_var (pv 1)) se_int (fun _ _ => rfl)) (se_ix (se_var (pv 0)) se_int (fun _ _ => rfl)))) (sa_cons (se_op od_mul (se_ix (se_var (pv 0)) se_int (fun _ _ => rfl)) (se_ix (se_var (pv 1)) se_int (fun _ _ => rfl))) sa_nil)))))
theorem sc_times : FnScope n_times p_times (defScope s_times) := ⟨rfl, rfl, rfl, by decide +kernel, rfl, by decide +kernel, by decide +kernel⟩
theorem ok_times (T : Txt K mg a) : FnG P w K mg base 4 a.a_times a.d_times p_times (spP K mg c_times) := fn_P T.F_times sc_times (by decide) fun cdv A outer s H E hr => by
  have nd : (n_times).Nodup := sc_times.nd
  have tk := L2N.takes_of (X := cxOf (L2N.CX P w) P w K mg base n_times "times" (defScope s_times) a.a_times cdv A outer s H E) rfl rfl rfl rfl
  have po : PassesOwn (model P w) (A.deeper (envOfC "times" (defScope s_times) s.heap.objs.size a.a_times cdv)) _ (cxOf (L2N.CX P w) P w K mg base n_times "times" (defScope s_times) a.a_times cdv A outer s H E).xe := passes_of rfl
  exact (sss_one (ss_ret (se_callP (ok_lowest T) (hr.mono (by decide)) tk rfl T.g_lowest T.F_lowest.kp T.b_lowest (sa_cons (se_op od_mul (se_ix (se_var (pv 0)) se_int (fun _ _ => rfl)) (se_ix (se_var (pv 1)) se_int (fun _ _ => rfl))) (sa_cons (se_op od_mul (se_ix (se_var (pv 0)) se_int (fun _ _ => rfl)) (se_ix (se_var (pv 1)) se_int (fun _ _ => rfl))) sa_nil)))))
theorem sc_compare : FnScope n_compare p_compare (defScope s_compare) := ⟨rfl, rfl, rfl, by decide +kernel, rfl, by decide +kernel, by decide +kernel⟩
theorem ok_compare (T : Txt K mg a) : FnG P w K mg base 2 a.a_compare a.d_compare p_compare (spP K mg c_compare) := fn_P T.F_compare sc_compare (by decide) fun cdv A outer s H E hr => by
  have nd : (n_compare).Nodup := sc_compare.nd
  have tk := L2N.takes_of (X := cxOf (L2N.CX P w) P w K mg base n_compare "compare" (defScope s_compare) a.a_compare cdv A outer s H E) rfl rfl rfl rfl
  have po : PassesOwn (model P w) (A.deeper (envOfC "compare" (defScope s_compare) s.heap.objs.size a.a_compare cdv)) _ (cxOf (L2N.CX P w) P w K mg base n_compare "compare" (defScope s_compare) a.a_compare cdv A outer s H E).xe := passes_of rfl
  exact (sss_cons (ss_par (ps_par (i := 2) (j := 3) rfl nd rfl rfl (by decide) rfl rfl (pa_cons (se_op od_mul (se_ix (se_var (pv 0)) se_int (fun _ _ => rfl)) (se_ix (se_var (pv 1)) se_int (fun _ _ => rfl))) (pa_cons (se_op od_mul (se_ix (se_var (pv 1)) se_int (fun _ _ => rfl)) (se_ix (se_var (pv 0)) se_int (fun _ _ => rfl))) pa_nil)) rfl) rfl) (sss_one (ss_ret (se_op od_sub (se_callT cd_int rfl T.n_int rfl (sb_of (se_cmpB od_gt (se_var (pv 2)) (sb_of (se_var (pv 3))) (nomark _)))) (se_callT cd_int rfl T.n_int rfl (sb_of (se_cmpB od_lt (se_var (pv 2)) (sb_of (se_var (pv 3))) (nomark _))))))))
theorem sc_total : FnScope n_total p_total (defScope s_total) := ⟨rfl, rfl, rfl, by decide +kernel, rfl, by decide +kernel, by decide +kernel⟩
theorem ok_total (T : Txt K mg a) : FnG P w K mg base 5 a.a_total a.d_total p_total (spP K mg c_total) := fn_P T.F_total sc_total (by decide) fun cdv A outer s H E hr => by
  have nd : (n_total).Nodup := sc_total.nd
  have tk := L2N.takes_of (X := cxOf (L2N.CX P w) P w K mg base n_total "total" (defScope s_total) a.a_total cdv A outer s H E) rfl rfl rfl rfl
  have po : PassesOwn (model P w) (A.deeper (envOfC "total" (defScope s_total) s.heap.objs.size a.a_total cdv)) _ (cxOf (L2N.CX P w) P w K mg base n_total "total" (defScope s_total) a.a_total cdv A outer s H E).xe := passes_of rfl
  exact (sss_cons (ss_set nd rfl (Or.inl rfl) (se_glob T.c_NOTHING rfl)) (sss_cons (ss_for (vs := [2]) po rfl (si_data (se_var (pv 0))) (sg_name nd rfl (Or.inl rfl) (by decide)) (sss_one (ss_set nd rfl (Or.inl rfl) (se_callP (ok_plus T) (hr.mono (by decide)) tk rfl T.g_plus T.F_plus.kp T.b_plus (sa_cons (se_var (pv 1)) (sa_cons (se_var (pv 2)) sa_nil)))))) (sss_one (ss_ret (se_var (pv 1))))))
theorem sc_is_scene : FnScope n_is_scene p_is_scene (defScope s_is_scene) := ⟨rfl, rfl, rfl, by decide +kernel, rfl, by decide +kernel, by decide +kernel⟩
theorem ok_is_scene (T : Txt K mg a) : FnG P w K mg base 2 a.a_is_scene a.d_is_scene p_is_scene (spP K mg c_is_scene) := fn_P T.F_is_scene sc_is_scene (by decide) fun cdv A outer s H E hr => by
  have nd : (n_is_scene).Nodup := sc_is_scene.nd
  have tk := L2N.takes_of (X := cxOf (L2N.CX P w) P w K mg base n_is_scene "is_scene" (defScope s_is_scene) a.a_is_scene cdv A outer s H E) rfl rfl rfl rfl
  have po : PassesOwn (model P w) (A.deeper (envOfC "is_scene" (defScope s_is_scene) s.heap.objs.size a.a_is_scene cdv)) _ (cxOf (L2N.CX P w) P w K mg base n_is_scene "is_scene" (defScope s_is_scene) a.a_is_scene cdv A outer s H E).xe := passes_of rfl
  exact (sss_cons (ss_if (st_not (st_val (se_callB (cd_all rfl) rfl T.n_all rfl (sb_of (se_of (so_lc (own := [("fact", 3)]) rfl nd (si_data (se_var (pv 1))) (blkOk_by (N := n_is_scene) (sc := defScope s_is_scene) (by decide +kernel)) (fun _ _ _ _ _ => (sg_name nd rfl (Or.inl rfl) (by decide))) (fun _ _ _ _ _ => sts_nil) (fun _ _ _ _ _ => (se_cmpB (op_inDD (u65 hr)) (se_var (pv 3)) (sb_of (se_var (pv 0))) (by with_unfolding_all rfl))))))))) (sss_one (ss_ret se_bl)) sss_nil) (sss_cons (ss_set nd rfl (Or.inr rfl) (se_of (so_lc (own := [("fact", 3)]) rfl nd (si_data (se_var (pv 1))) (blkOk_by (N := n_is_scene) (sc := defScope s_is_scene) (by decide +kernel)) (fun _ _ _ _ _ => (sg_name nd rfl (Or.inl rfl) (by decide))) (fun _ _ _ _ _ => sts_nil) (fun _ _ _ _ _ => (se_index (u65 hr) (se_var (pv 0)) (se_var (pv 3))))))) (sss_one (ss_ret (se_callB (cd_all rfl) rfl T.n_all rfl (sb_of (se_of (so_lc (own := [("k", 4)]) rfl nd (si_range1 rfl T.n_range (se_op od_sub (se_callB cd_len rfl T.n_len rfl (sb_of (se_var (pv 2)))) se_int)) (blkOk_by (N := n_is_scene) (sc := defScope s_is_scene) (by decide +kernel)) (fun _ _ _ _ _ => (sg_name nd rfl (Or.inl rfl) (by decide))) (fun _ _ _ _ _ => sts_nil) (fun _ _ _ _ _ => (se_cmpB od_lt (se_ix (se_var (pv 2)) (se_var (pv 4)) (fun _ _ => rfl)) (sb_of (se_ix (se_var (pv 2)) (se_op od_add (se_var (pv 4)) se_int) (fun _ _ => rfl))) (nomark _)))))))))))
theorem sc_check_lot : FnScope n_check_lot p_check_lot (defScope s_check_lot) := ⟨rfl, rfl, rfl, by decide +kernel, rfl, by decide +kernel, by decide +kernel⟩
theorem ok_check_lot (T : Txt K mg a) : FnG P w K mg base 6 a.a_check_lot a.d_check_lot p_check_lot (spP K mg c_check_lot) := fn_P T.F_check_lot sc_check_lot (by decide) fun cdv A outer s H E hr => by
  have nd : (n_check_lot).Nodup := sc_check_lot.nd
  have tk := L2N.takes_of (X := cxOf (L2N.CX P w) P w K mg base n_check_lot "check_lot" (defScope s_check_lot) a.a_check_lot cdv A outer s H E) rfl rfl rfl rfl
  have po : PassesOwn (model P w) (A.deeper (envOfC "check_lot" (defScope s_check_lot) s.heap.objs.size a.a_check_lot cdv)) _ (cxOf (L2N.CX P w) P w K mg base n_check_lot "check_lot" (defScope s_check_lot) a.a_check_lot cdv A outer s H E).xe := passes_of rfl
  exact (sss_cons (ss_set nd rfl (Or.inr rfl) (se_of (so_lc (own := [("state", 5), ("_", 3)]) rfl nd (si_data (se_var (pv 1))) (blkOk_by (N := n_check_lot) (sc := defScope s_check_lot) (by decide +kernel)) (fun _ _ _ _ _ => (sg_of (sgt_tup rfl (sgs_cons (sg_name nd rfl (Or.inl rfl) (by decide)) (sgs_cons (sg_name nd rfl (Or.inl rfl) (by decide)) sgs_nil))))) (fun _ _ _ _ _ => sts_nil) (fun _ _ _ _ _ => (se_var (pv 5)))))) (sss_cons (ss_if (st_not (st_val (se_callB (cd_all rfl) rfl T.n_all rfl (sb_of (se_of (so_lc (own := [("state", 5)]) rfl nd (si_data (se_var (pv 2))) (blkOk_by (N := n_check_lot) (sc := defScope s_check_lot) (by decide +kernel)) (fun _ _ _ _ _ => (sg_name nd rfl (Or.inl rfl) (by decide))) (fun _ _ _ _ _ => sts_nil) (fun _ _ _ _ _ => (se_chain od_le od_lt se_int (se_var (pv 5)) (se_var (pv 0)))))))))) (sss_one (ss_raise rfl tk PySem.F.excBase_ValueError T.e_NotAllowed T.k_NotAllowed T.p_NotAllowed (raises_own T.s_NotAllowed T.y_NotAllowed) rfl)) sss_nil) (sss_cons (ss_if (st_not (st_val (se_callB (cd_all rfl) rfl T.n_all rfl (sb_of (se_of (so_lc (own := [("k", 6)]) rfl nd (si_range1 rfl T.n_range (se_op od_sub (se_callB cd_len rfl T.n_len rfl (sb_of (se_var (pv 2)))) se_int)) (blkOk_by (N := n_check_lot) (sc := defScope s_check_lot) (by decide +kernel)) (fun _ _ _ _ _ => (sg_name nd rfl (Or.inl rfl) (by decide))) (fun _ _ _ _ _ => sts_nil) (fun _ _ _ _ _ => (se_cmpB od_lt (se_ix (se_var (pv 2)) (se_var (pv 6)) (fun _ _ => rfl)) (sb_of (se_ix (se_var (pv 2)) (se_op od_add (se_var (pv 6)) se_int) (fun _ _ => rfl))) (nomark _))))))))) (sss_one (ss_raise rfl tk PySem.F.excBase_ValueError T.e_NotAllowed T.k_NotAllowed T.p_NotAllowed (raises_own T.s_NotAllowed T.y_NotAllowed) rfl)) sss_nil) (sss_cons (ss_for (vs := [3, 4]) po rfl (si_data (se_var (pv 1))) (sg_of (sgt_tup rfl (sgs_cons (sg_name nd rfl (Or.inl rfl) (by decide)) (sgs_cons (sg_name nd rfl (Or.inl rfl) (by decide)) sgs_nil)))) (sss_one (ss_if (st_w (sw_or (st_not (st_val (se_callP (ok_is_ratio T) (hr.mono (by decide)) tk rfl T.g_is_ratio T.F_is_ratio.kp T.b_is_ratio (sa_cons (se_var (pv 4)) sa_nil)))) (sw_or (st_cmpB od_lt (se_ix (se_var (pv 4)) se_int (fun _ _ => rfl)) (sb_of se_int) (nomark _)) (sw_or1 (st_cmpB od_gt (se_ix (se_var (pv 4)) se_int (fun _ _ => rfl)) (sb_of (se_glob T.c_MAX_PART rfl)) (nomark _)))))) (sss_one (ss_raise rfl tk PySem.F.excBase_ValueError T.e_NotAllowed T.k_NotAllowed T.p_NotAllowed (raises_own T.s_NotAllowed T.y_NotAllowed) rfl)) sss_nil))) (sss_one (ss_if (st_cmpB (op_neDD (u64 hr)) (se_callP (ok_total T) (hr.mono (by decide)) tk rfl T.g_total T.F_total.kp T.b_total (sa_cons (se_of (so_lc (own := [("_", 3), ("ratio", 4)]) rfl nd (si_data (se_var (pv 1))) (blkOk_by (N := n_check_lot) (sc := defScope s_check_lot) (by decide +kernel)) (fun _ _ _ _ _ => (sg_of (sgt_tup rfl (sgs_cons (sg_name nd rfl (Or.inl rfl) (by decide)) (sgs_cons (sg_name nd rfl (Or.inl rfl) (by decide)) sgs_nil))))) (fun _ _ _ _ _ => sts_nil) (fun _ _ _ _ _ => (se_var (pv 4))))) sa_nil)) (sb_of (se_glob T.c_WHOLE rfl)) (nomark _)) (sss_one (ss_raise rfl tk PySem.F.excBase_ValueError T.e_NotAllowed T.k_NotAllowed T.p_NotAllowed (raises_own T.s_NotAllowed T.y_NotAllowed) rfl)) sss_nil))))))
theorem sc_check_gamble : FnScope n_check_gamble p_check_gamble (defScope s_check_gamble) := ⟨rfl, rfl, rfl, by decide +kernel, rfl, by decide +kernel, by decide +kernel⟩
theorem ok_check_gamble (T : Txt K mg a) : FnG P w K mg base 7 a.a_check_gamble a.d_check_gamble p_check_gamble (spP K mg c_check_gamble) := fn_P T.F_check_gamble sc_check_gamble (by decide) fun cdv A outer s H E hr => by
  have nd : (n_check_gamble).Nodup := sc_check_gamble.nd
  have tk := L2N.takes_of (X := cxOf (L2N.CX P w) P w K mg base n_check_gamble "check_gamble" (defScope s_check_gamble) a.a_check_gamble cdv A outer s H E) rfl rfl rfl rfl
  have po : PassesOwn (model P w) (A.deeper (envOfC "check_gamble" (defScope s_check_gamble) s.heap.objs.size a.a_check_gamble cdv)) _ (cxOf (L2N.CX P w) P w K mg base n_check_gamble "check_gamble" (defScope s_check_gamble) a.a_check_gamble cdv A outer s H E).xe := passes_of rfl
  exact (sss_cons (ss_asg (vs := [2, 3, 4]) (se_var (pv 1)) (sg_of (sgt_tup rfl (sgs_cons (sg_name nd rfl (Or.inl rfl) (by decide)) (sgs_cons (sg_name nd rfl (Or.inl rfl) (by decide)) (sgs_cons (sg_name nd rfl (Or.inl rfl) (by decide)) sgs_nil)))))) (sss_cons (ss_if (st_w (sw_or (st_not (st_chain od_le od_le se_int (se_callB cd_len rfl T.n_len rfl (sb_of (se_var (pv 2)))) (se_glob T.c_MAX_STATES rfl))) (sw_or1 (st_cmpB (op_neDD (u64 hr)) (se_callB cd_len rfl T.n_len rfl (sb_of (se_var (pv 4)))) (sb_of (se_callB cd_len rfl T.n_len rfl (sb_of (se_var (pv 2))))) (nomark _))))) (sss_one (ss_raise rfl tk PySem.F.excBase_ValueError T.e_NotAllowed T.k_NotAllowed T.p_NotAllowed (raises_own T.s_NotAllowed T.y_NotAllowed) rfl)) sss_nil) (sss_cons (ss_if (st_not (st_val (se_callB (cd_all rfl) rfl T.n_all rfl (sb_of (se_of (so_lc (own := [("scene", 7)]) rfl nd (si_data (se_var (pv 2))) (blkOk_by (N := n_check_gamble) (sc := defScope s_check_gamble) (by decide +kernel)) (fun _ _ _ _ _ => (sg_name nd rfl (Or.inl rfl) (by decide))) (fun _ _ _ _ _ => sts_nil) (fun _ _ _ _ _ => (se_callP (ok_is_scene T) (hr.mono (by decide)) takesN0 rfl T.g_is_scene T.F_is_scene.kp T.b_is_scene (sa_cons (se_var (pv 0)) (sa_cons (se_var (pv 7)) sa_nil)))))))))) (sss_one (ss_raise rfl tk PySem.F.excBase_ValueError T.e_NotAllowed T.k_NotAllowed T.p_NotAllowed (raises_own T.s_NotAllowed T.y_NotAllowed) rfl)) sss_nil) (sss_cons (ss_expr (se_callP (ok_check_lot T) (hr.mono (by decide)) tk rfl T.g_check_lot T.F_check_lot.kp T.b_check_lot (sa_cons (se_callB cd_len rfl T.n_len rfl (sb_of (se_var (pv 2)))) (sa_cons (se_var (pv 3)) sa_nil)))) (sss_one (ss_for (vs := [5]) po rfl (si_data (se_var (pv 4))) (sg_name nd rfl (Or.inl rfl) (by decide)) (sss_cons (ss_if (st_not (st_chain od_le od_le se_int (se_callB cd_len rfl T.n_len rfl (sb_of (se_var (pv 5)))) (se_glob T.c_MAX_OPTIONS rfl))) (sss_one (ss_raise rfl tk PySem.F.excBase_ValueError T.e_NotAllowed T.k_NotAllowed T.p_NotAllowed (raises_own T.s_NotAllowed T.y_NotAllowed) rfl)) sss_nil) (sss_one (ss_for (vs := [6]) po rfl (si_data (se_var (pv 5))) (sg_name nd rfl (Or.inl rfl) (by decide)) (sss_one (ss_expr (se_callP (ok_check_lot T) (hr.mono (by decide)) tk rfl T.g_check_lot T.F_check_lot.kp T.b_check_lot (sa_cons (se_callB cd_len rfl T.n_len rfl (sb_of (se_var (pv 2)))) (sa_cons (se_var (pv 6)) sa_nil))))))))))))))
theorem sc_is_plain : FnScope n_is_plain p_is_plain (defScope s_is_plain) := ⟨rfl, rfl, rfl, by decide +kernel, rfl, by decide +kernel, by decide +kernel⟩
theorem ok_is_plain (T : Txt K mg a) : FnG P w K mg base 2 a.a_is_plain a.d_is_plain p_is_plain (spP K mg c_is_plain) := fn_P T.F_is_plain sc_is_plain (by decide) fun cdv A outer s H E hr => by
  have nd : (n_is_plain).Nodup := sc_is_plain.nd
  have tk := L2N.takes_of (X := cxOf (L2N.CX P w) P w K mg base n_is_plain "is_plain" (defScope s_is_plain) a.a_is_plain cdv A outer s H E) rfl rfl rfl rfl
  have po : PassesOwn (model P w) (A.deeper (envOfC "is_plain" (defScope s_is_plain) s.heap.objs.size a.a_is_plain cdv)) _ (cxOf (L2N.CX P w) P w K mg base n_is_plain "is_plain" (defScope s_is_plain) a.a_is_plain cdv A outer s H E).xe := passes_of rfl
  exact (sss_one (ss_ret (se_callB (cd_all rfl) rfl T.n_all rfl (sb_of (se_of (so_lc (own := [("row", 1)]) rfl nd (si_data (se_ix (se_var (pv 0)) se_int (fun _ _ => rfl))) (blkOk_by (N := n_is_plain) (sc := defScope s_is_plain) (by decide +kernel)) (fun _ _ _ _ _ => (sg_name nd rfl (Or.inl rfl) (by decide))) (fun _ _ _ _ _ => sts_nil) (fun _ _ _ _ _ => (se_cmpB (op_eqDD (u64 hr)) (se_callB cd_len rfl T.n_len rfl (sb_of (se_var (pv 1)))) (sb_of se_int) (nomark _)))))))))
theorem sc_system_of : FnScope n_system_of p_system_of (defScope s_system_of) := ⟨rfl, rfl, rfl, by decide +kernel, rfl, by decide +kernel, by decide +kernel⟩
theorem ok_system_of (T : Txt K mg a) : FnG P w K mg base 2 a.a_system_of a.d_system_of p_system_of (spP K mg c_system_of) := fn_P T.F_system_of sc_system_of (by decide) fun cdv A outer s H E hr => by
  have nd : (n_system_of).Nodup := sc_system_of.nd
  have tk := L2N.takes_of (X := cxOf (L2N.CX P w) P w K mg base n_system_of "system_of" (defScope s_system_of) a.a_system_of cdv A outer s H E) rfl rfl rfl rfl
  have po : PassesOwn (model P w) (A.deeper (envOfC "system_of" (defScope s_system_of) s.heap.objs.size a.a_system_of cdv)) _ (cxOf (L2N.CX P w) P w K mg base n_system_of "system_of" (defScope s_system_of) a.a_system_of cdv A outer s H E).xe := passes_of rfl
  exact (sss_cons (ss_asg (vs := [1, 2, 3]) (se_var (pv 0)) (sg_of (sgt_tup rfl (sgs_cons (sg_name nd rfl (Or.inl rfl) (by decide)) (sgs_cons (sg_name nd rfl (Or.inl rfl) (by decide)) (sgs_cons (sg_name nd rfl (Or.inl rfl) (by decide)) sgs_nil)))))) (sss_cons (ss_setO nd rfl (Or.inl rfl) (so_lst sa_nil)) (sss_cons (ss_for (vs := [5]) po rfl (si_data (se_var (pv 3))) (sg_name nd rfl (Or.inl rfl) (by decide)) (sss_cons (ss_dat (ss_setLc2 (own := [("lot", 7), ("state", 8), ("_", 9)]) (vs1 := [8, 9]) rfl nd rfl rfl (sw_true rfl rfl rfl (by decide +kernel)) (si_data (se_var (pv 5))) (blkOk_by (N := n_system_of) (sc := defScope s_system_of) (by decide +kernel)) (by decide) (fun _ _ _ _ _ => (sg_name nd rfl (Or.inl rfl) (by decide))) (fun _ _ _ _ _ => sts_nil) (fun _ _ _ _ _ => (si_data (se_var (pv 7)))) (fun _ _ _ _ _ => (sg_of (sgt_tup rfl (sgs_cons (sg_name nd rfl (Or.inl rfl) (by decide)) (sgs_cons (sg_name nd rfl (Or.inl rfl) (by decide)) sgs_nil))))) (fun _ _ _ _ _ => sts_nil) (fun _ _ _ _ _ => (se_var (pv 8))))) (sss_one (ss_app (ps_expr (pe_bm PySem.F.plainAttrs_list PySem.F.slot_list_append PySem.F.type_list_append mt_append (pv 4) (pa_cons (se_callT cd_tuple rfl T.n_tuple rfl (sb_of (se_of (so_sortSet rfl rfl T.n_sorted rfl T.n_set (sb_of (se_var (pv 6))))))) pa_nil))))))) (sss_one (ss_ret (se_tup (sa_cons (se_var (pv 1)) (sa_cons (se_callT cd_tuple rfl T.n_tuple rfl (sb_of (se_of (so_lc (own := [("state", 8), ("_", 9)]) rfl nd (si_data (se_var (pv 2))) (blkOk_by (N := n_system_of) (sc := defScope s_system_of) (by decide +kernel)) (fun _ _ _ _ _ => (sg_of (sgt_tup rfl (sgs_cons (sg_name nd rfl (Or.inl rfl) (by decide)) (sgs_cons (sg_name nd rfl (Or.inl rfl) (by decide)) sgs_nil))))) (fun _ _ _ _ _ => sts_nil) (fun _ _ _ _ _ => (se_var (pv 8))))))) (sa_cons (se_callT cd_tuple rfl T.n_tuple rfl (sb_var (pv 4))) sa_nil)))))))))
theorem sc__law_stream : FnScope n__law_stream p__law_stream (defScope s__law_stream) := ⟨rfl, rfl, rfl, by decide +kernel, rfl, by decide +kernel, by decide +kernel⟩
theorem ok__law_stream (T : Txt K mg a) : FnG P w K mg base 2 a.a__law_stream a.d__law_stream p__law_stream (spP K mg c__law_stream) := fn_P T.F__law_stream sc__law_stream (by decide) fun cdv A outer s H E hr => by
  have nd : (n__law_stream).Nodup := sc__law_stream.nd
  have tk := L2N.takes_of (X := cxOf (L2N.CX P w) P w K mg base n__law_stream "_law_stream" (defScope s__law_stream) a.a__law_stream cdv A outer s H E) rfl rfl rfl rfl
  have po : PassesOwn (model P w) (A.deeper (envOfC "_law_stream" (defScope s__law_stream) s.heap.objs.size a.a__law_stream cdv)) _ (cxOf (L2N.CX P w) P w K mg base n__law_stream "_law_stream" (defScope s__law_stream) a.a__law_stream cdv A outer s H E).xe := passes_of rfl
  exact (sss_cons (ss_setO nd rfl (Or.inl rfl) (so_lst sa_nil)) (sss_cons (ss_for (vs := [2]) po rfl (si_data (se_of (so_slice (se_var (pv 0)) sp_none (sp_some se_int)))) (sg_name nd rfl (Or.inl rfl) (by decide)) (sss_cons (ss_set nd rfl (Or.inl rfl) (se_callB cd_abs rfl T.n_abs rfl (sb_of (se_callT cd_int rfl T.n_int rfl (sb_of (se_var (pv 2))))))) (sss_one (ss_if (st_cmpB od_ge (se_var (pv 3)) (sb_of (se_op od_pow se_int se_int)) (nomark _)) (sss_one (ss_for (vs := [4]) po rfl (si_range1 rfl T.n_range se_int) (sg_name nd rfl (Or.inl rfl) (by decide)) (sss_cons (ss_app (ps_expr (pe_bm PySem.F.plainAttrs_list PySem.F.slot_list_append PySem.F.type_list_append mt_append (pv 1) (pa_cons (se_op od_mod (se_callT cd_int rfl T.n_int rfl (sb_of (se_var (pv 3)))) se_int) pa_nil)))) (sss_cons (ss_set nd rfl (Or.inl rfl) (se_op od_fdiv (se_var (pv 3)) se_int)) (sss_one (ss_if (st_cmpB (op_eqDD (u64 hr)) (se_var (pv 3)) (sb_of se_int) (nomark _)) (sss_one ss_break) sss_nil)))))) (sss_cons (ss_set nd rfl (Or.inl rfl) (se_op od_mod (se_callT cd_int rfl T.n_int rfl (sb_of (se_var (pv 3)))) se_int)) (sss_one (ss_for (vs := [4]) po rfl (si_range1 rfl T.n_range se_int) (sg_name nd rfl (Or.inl rfl) (by decide)) (sss_cons (ss_set nd rfl (Or.inl rfl) (se_op od_mod (se_callT cd_int rfl T.n_int rfl (sb_of (se_op od_add (se_op od_add (se_op od_mul (se_var (pv 5)) se_int) (se_op od_mul se_int (se_var (pv 4)))) se_int))) se_int)) (sss_one (ss_app (ps_expr (pe_bm PySem.F.plainAttrs_list PySem.F.slot_list_append PySem.F.type_list_append mt_append (pv 1) (pa_cons (se_op od_mod (se_op od_mod (se_callT cd_int rfl T.n_int rfl (sb_of (se_op od_add (se_op od_mul (se_var (pv 5)) se_int) (se_var (pv 4))))) se_int) se_int) pa_nil))))))))))))) (sss_cons (ss_if (st_cmpB (op_eqDD (u64 hr)) (se_callB cd_len rfl T.n_len rfl (sb_var (pv 1))) (sb_of se_int) (nomark _)) (sss_one (ss_app (ps_expr (pe_bm PySem.F.plainAttrs_list PySem.F.slot_list_append PySem.F.type_list_append mt_append (pv 1) (pa_cons se_int pa_nil))))) sss_nil) (sss_one (ss_ret (se_var (pv 1)))))))
theorem sc__law_next : FnScope n__law_next p__law_next (defScope s__law_next) := ⟨rfl, rfl, rfl, by decide +kernel, rfl, by decide +kernel, by decide +kernel⟩
theorem ok__law_next (T : Txt K mg a) : FnG P w K mg base 2 a.a__law_next a.d__law_next p__law_next (spS K mg c__law_next) := fn_S T.F__law_next sc__law_next (by decide) fun cdv A outer s H E hr => by
  have nd : (n__law_next).Nodup := sc__law_next.nd
  have tk := L2N.takes_of (X := cxOf (L2N.CX P w) P w K mg base n__law_next "_law_next" (defScope s__law_next) a.a__law_next cdv A outer s H E) rfl rfl rfl rfl
  have po : PassesOwn (model P w) (A.deeper (envOfC "_law_next" (defScope s__law_next) s.heap.objs.size a.a__law_next cdv)) _ (cxOf (L2N.CX P w) P w K mg base n__law_next "_law_next" (defScope s__law_next) a.a__law_next cdv A outer s H E).xe := passes_of rfl
  exact (sss_cons (ss_sto (ps_asg (se_op od_add (se_ixv (pv 0) se_int (fun _ _ => rfl)) se_int) (pg_sub (pv 0) se_int set_list))) (sss_cons (ss_set nd rfl (Or.inl rfl) (se_op od_fdiv (se_ixv (pv 0) se_int (fun _ _ => rfl)) (se_callB cd_len rfl T.n_len rfl (sb_of (se_ixv (pv 0) se_int (fun _ _ => rfl)))))) (sss_one (ss_ret (se_op od_mod (se_callT cd_int rfl T.n_int rfl (sb_of (se_op od_add (se_op od_add (se_ix (se_ixv (pv 0) se_int (fun _ _ => rfl)) (se_op od_mod (se_ixv (pv 0) se_int (fun _ _ => rfl)) (se_callB cd_len rfl T.n_len rfl (sb_of (se_ixv (pv 0) se_int (fun _ _ => rfl))))) (fun _ _ => rfl)) (se_op od_mul (se_var (pv 2)) se_int)) (se_op od_mul (se_op od_mul (se_ixv (pv 0) se_int (fun _ _ => rfl)) (se_var (pv 2))) se_int)))) (se_var (pv 1)))))))
theorem sc__law_word : FnScope n__law_word p__law_word (defScope s__law_word) := ⟨rfl, rfl, rfl, by decide +kernel, rfl, by decide +kernel, by decide +kernel⟩
theorem ok__law_word (T : Txt K mg a) : FnG P w K mg base 3 a.a__law_word a.d__law_word p__law_word (spS K mg c__law_word) := fn_S T.F__law_word sc__law_word (by decide) fun cdv A outer s H E hr => by
  have nd : (n__law_word).Nodup := sc__law_word.nd
  have tk := L2N.takes_of (X := cxOf (L2N.CX P w) P w K mg base n__law_word "_law_word" (defScope s__law_word) a.a__law_word cdv A outer s H E) rfl rfl rfl rfl
  have po : PassesOwn (model P w) (A.deeper (envOfC "_law_word" (defScope s__law_word) s.heap.objs.size a.a__law_word cdv)) _ (cxOf (L2N.CX P w) P w K mg base n__law_word "_law_word" (defScope s__law_word) a.a__law_word cdv A outer s H E).xe := passes_of rfl
  exact (sss_cons (ss_set nd rfl (Or.inl rfl) (se_of (so_lst (sa_cons se_str (sa_cons se_str (sa_cons se_str (sa_cons se_str (sa_cons se_str (sa_cons se_str (sa_cons se_str (sa_cons se_str (sa_cons se_str (sa_cons se_str (sa_cons se_str (sa_cons se_str (sa_cons se_str (sa_cons se_str (sa_cons se_str (sa_cons se_str sa_nil))))))))))))))))))) (sss_cons (ss_for (vs := [3]) po rfl (si_range1 rfl T.n_range se_int) (sg_name nd rfl (Or.inl rfl) (by decide)) (sss_cons (ss_set nd rfl (Or.inl rfl) se_str) (sss_cons (ss_for (vs := [5]) po rfl (si_range1 rfl T.n_range (se_ix (se_of (so_lst (sa_cons se_int (sa_cons se_int (sa_cons se_int (sa_cons se_int (sa_cons se_int (sa_cons se_int sa_nil)))))))) (se_callS (ok__law_next T) (hr.mono (by decide)) tk rfl T.g__law_next T.F__law_next.kp T.b__law_next (pv 0) (sa_cons se_int sa_nil)) (fun _ _ => rfl))) (sg_name nd rfl (Or.inl rfl) (by decide)) (sss_one (ss_set nd rfl (Or.inl rfl) (se_op od_add (se_var (pv 4)) (se_ix se_str (se_callS (ok__law_next T) (hr.mono (by decide)) tk rfl T.g__law_next T.F__law_next.kp T.b__law_next (pv 0) (sa_cons se_int sa_nil)) (fun _ _ => rfl)))))) (sss_one (ss_if (st_w (sw_and (st_cmpB (op_notInDD (u65 hr)) (se_var (pv 4)) (sb_of (se_var (pv 1))) (by with_unfolding_all rfl)) (sw_and1 (st_cmpB (op_notInDD (u65 hr)) (se_var (pv 4)) (sb_of (se_var (pv 2))) (by with_unfolding_all rfl))))) (sss_one (ss_ret (se_var (pv 4)))) sss_nil))))) (sss_one (ss_ret (se_op od_add se_str (se_ix se_str (se_op od_mod (se_callB cd_len rfl T.n_len rfl (sb_of (se_var (pv 1)))) se_int) (fun _ _ => rfl)))))))
theorem sc__law_facts : FnScope n__law_facts p__law_facts (defScope s__law_facts) := ⟨rfl, rfl, rfl, by decide +kernel, rfl, by decide +kernel, by decide +kernel⟩
theorem ok__law_facts (T : Txt K mg a) : FnG P w K mg base 4 a.a__law_facts a.d__law_facts p__law_facts (spS K mg c__law_facts) := fn_S T.F__law_facts sc__law_facts (by decide) fun cdv A outer s H E hr => by
  have nd : (n__law_facts).Nodup := sc__law_facts.nd
  have tk := L2N.takes_of (X := cxOf (L2N.CX P w) P w K mg base n__law_facts "_law_facts" (defScope s__law_facts) a.a__law_facts cdv A outer s H E) rfl rfl rfl rfl
  have po : PassesOwn (model P w) (A.deeper (envOfC "_law_facts" (defScope s__law_facts) s.heap.objs.size a.a__law_facts cdv)) _ (cxOf (L2N.CX P w) P w K mg base n__law_facts "_law_facts" (defScope s__law_facts) a.a__law_facts cdv A outer s H E).xe := passes_of rfl
  exact (sss_cons (ss_setO nd rfl (Or.inl rfl) (so_lst sa_nil)) (sss_cons (ss_for (vs := [3]) po rfl (si_range1 rfl T.n_range (se_var (pv 1))) (sg_name nd rfl (Or.inl rfl) (by decide)) (sss_one (ss_app (ps_expr (pe_bm PySem.F.plainAttrs_list PySem.F.slot_list_append PySem.F.type_list_append mt_append (pv 2) (pa_cons (se_callSb (ok__law_word T) (hr.mono (by decide)) tk rfl T.g__law_word T.F__law_word.kp T.b__law_word (pv 0) (sab_consV (pv 2) sab_nil)) pa_nil)))))) (sss_one (ss_ret (se_callT cd_tuple rfl T.n_tuple rfl (sb_var (pv 2)))))))
theorem sc__law_scene : FnScope n__law_scene p__law_scene (defScope s__law_scene) := ⟨rfl, rfl, rfl, by decide +kernel, rfl, by decide +kernel, by decide +kernel⟩
theorem ok__law_scene (T : Txt K mg a) : FnG P w K mg base 3 a.a__law_scene a.d__law_scene p__law_scene (spS K mg c__law_scene) := fn_S T.F__law_scene sc__law_scene (by decide) fun cdv A outer s H E hr => by
  have nd : (n__law_scene).Nodup := sc__law_scene.nd
  have tk := L2N.takes_of (X := cxOf (L2N.CX P w) P w K mg base n__law_scene "_law_scene" (defScope s__law_scene) a.a__law_scene cdv A outer s H E) rfl rfl rfl rfl
  have po : PassesOwn (model P w) (A.deeper (envOfC "_law_scene" (defScope s__law_scene) s.heap.objs.size a.a__law_scene cdv)) _ (cxOf (L2N.CX P w) P w K mg base n__law_scene "_law_scene" (defScope s__law_scene) a.a__law_scene cdv A outer s H E).xe := passes_of rfl
  exact (sss_one (ss_ret (se_callT cd_tuple rfl T.n_tuple rfl (sb_of (se_of (so_lc (own := [("fact", 2)]) rfl nd (si_data (se_var (pv 1))) (blkOk_by (N := n__law_scene) (sc := defScope s__law_scene) (by decide +kernel)) (fun _ _ _ _ _ => (sg_name nd rfl (Or.inl rfl) (by decide))) (fun _ _ _ _ _ => (sts_one (st_cmpB (op_eqDD (u64 hr)) (se_callS (ok__law_next T) (hr.mono (by decide)) takesN0 rfl T.g__law_next T.F__law_next.kp T.b__law_next (pv 0) (sa_cons se_int sa_nil)) (sb_of se_int) (nomark _)))) (fun _ _ _ _ _ => (se_var (pv 2)))))))))
theorem sc__law_gcd : FnScope n__law_gcd p__law_gcd (defScope s__law_gcd) := ⟨rfl, rfl, rfl, by decide +kernel, rfl, by decide +kernel, by decide +kernel⟩
theorem ok__law_gcd (T : Txt K mg a) : FnG P w K mg base 2 a.a__law_gcd a.d__law_gcd p__law_gcd (spP K mg c__law_gcd) := fn_P T.F__law_gcd sc__law_gcd (by decide) fun cdv A outer s H E hr => by
  have nd : (n__law_gcd).Nodup := sc__law_gcd.nd
  have tk := L2N.takes_of (X := cxOf (L2N.CX P w) P w K mg base n__law_gcd "_law_gcd" (defScope s__law_gcd) a.a__law_gcd cdv A outer s H E) rfl rfl rfl rfl
  have po : PassesOwn (model P w) (A.deeper (envOfC "_law_gcd" (defScope s__law_gcd) s.heap.objs.size a.a__law_gcd cdv)) _ (cxOf (L2N.CX P w) P w K mg base n__law_gcd "_law_gcd" (defScope s__law_gcd) a.a__law_gcd cdv A outer s H E).xe := passes_of rfl
  exact (sss_cons (ss_for (vs := [2]) po rfl (si_range1 rfl T.n_range se_int) (sg_name nd rfl (Or.inl rfl) (by decide)) (sss_cons (ss_if (st_cmpB (op_eqDD (u64 hr)) (se_var (pv 1)) (sb_of se_int) (nomark _)) (sss_one ss_break) sss_nil) (sss_one (ss_par (ps_par (i := 0) (j := 1) rfl nd rfl rfl (by decide) rfl rfl (pa_cons (se_var (pv 1)) (pa_cons (se_op od_mod (se_var (pv 0)) (se_var (pv 1))) pa_nil)) rfl) rfl)))) (sss_one (ss_ret (se_callB cd_abs rfl T.n_abs rfl (sb_of (se_var (pv 0)))))))
theorem sc__law_ratio : FnScope n__law_ratio p__law_ratio (defScope s__law_ratio) := ⟨rfl, rfl, rfl, by decide +kernel, rfl, by decide +kernel, by decide +kernel⟩
theorem ok__law_ratio (T : Txt K mg a) : FnG P w K mg base 3 a.a__law_ratio a.d__law_ratio p__law_ratio (spP K mg c__law_ratio) := fn_P T.F__law_ratio sc__law_ratio (by decide) fun cdv A outer s H E hr => by
  have nd : (n__law_ratio).Nodup := sc__law_ratio.nd
  have tk := L2N.takes_of (X := cxOf (L2N.CX P w) P w K mg base n__law_ratio "_law_ratio" (defScope s__law_ratio) a.a__law_ratio cdv A outer s H E) rfl rfl rfl rfl
  have po : PassesOwn (model P w) (A.deeper (envOfC "_law_ratio" (defScope s__law_ratio) s.heap.objs.size a.a__law_ratio cdv)) _ (cxOf (L2N.CX P w) P w K mg base n__law_ratio "_law_ratio" (defScope s__law_ratio) a.a__law_ratio cdv A outer s H E).xe := passes_of rfl
  exact (sss_cons (ss_set nd rfl (Or.inl rfl) (se_callP (ok__law_gcd T) (hr.mono (by decide)) tk rfl T.g__law_gcd T.F__law_gcd.kp T.b__law_gcd (sa_cons (se_var (pv 0)) (sa_cons (se_var (pv 1)) sa_nil)))) (sss_cons (ss_if (st_cmpB od_lt (se_var (pv 1)) (sb_of se_int) (nomark _)) (sss_one (ss_set nd rfl (Or.inl rfl) (se_op od_sub se_int (se_var (pv 2))))) sss_nil) (sss_one (ss_ret (se_tup (sa_cons (se_op od_fdiv (se_var (pv 0)) (se_var (pv 2))) (sa_cons (se_op od_fdiv (se_var (pv 1)) (se_var (pv 2))) sa_nil)))))))
theorem sc__law_sum : FnScope n__law_sum p__law_sum (defScope s__law_sum) := ⟨rfl, rfl, rfl, by decide +kernel, rfl, by decide +kernel, by decide +kernel⟩
theorem ok__law_sum (T : Txt K mg a) : FnG P w K mg base 4 a.a__law_sum a.d__law_sum p__law_sum (spP K mg c__law_sum) := fn_P T.F__law_sum sc__law_sum (by decide) fun cdv A outer s H E hr => by
  have nd : (n__law_sum).Nodup := sc__law_sum.nd
  have tk := L2N.takes_of (X := cxOf (L2N.CX P w) P w K mg base n__law_sum "_law_sum" (defScope s__law_sum) a.a__law_sum cdv A outer s H E) rfl rfl rfl rfl
  have po : PassesOwn (model P w) (A.deeper (envOfC "_law_sum" (defScope s__law_sum) s.heap.objs.size a.a__law_sum cdv)) _ (cxOf (L2N.CX P w) P w K mg base n__law_sum "_law_sum" (defScope s__law_sum) a.a__law_sum cdv A outer s H E).xe := passes_of rfl
  exact (sss_one (ss_ret (se_callP (ok__law_ratio T) (hr.mono (by decide)) tk rfl T.g__law_ratio T.F__law_ratio.kp T.b__law_ratio (sa_cons (se_op od_add (se_op od_mul (se_ix (se_var (pv 0)) se_int (fun _ _ => rfl)) (se_ix (se_var (pv 1)) se_int (fun _ _ => rfl))) (se_op od_mul (se_ix (se_var (pv 1)) se_int (fun _ _ => rfl)) (se_ix (se_var (pv 0)) se_int (fun _ _ => rfl)))) (sa_cons (se_op od_mul (se_ix (se_var (pv 0)) se_int (fun _ _ => rfl)) (se_ix (se_var (pv 1)) se_int (fun _ _ => rfl))) sa_nil)))))
theorem sc__law_times : FnScope n__law_times p__law_times (defScope s__law_times) := ⟨rfl, rfl, rfl, by decide +kernel, rfl, by decide +kernel, by decide +kernel⟩
theorem ok__law_times (T : Txt K mg a) : FnG P w K mg base 4 a.a__law_times a.d__law_times p__law_times (spP K mg c__law_times) := fn_P T.F__law_times sc__law_times (by decide) fun cdv A outer s H E hr => by
  have nd : (n__law_times).Nodup := sc__law_times.nd
  have tk := L2N.takes_of (X := cxOf (L2N.CX P w) P w K mg base n__law_times "_law_times" (defScope s__law_times) a.a__law_times cdv A outer s H E) rfl rfl rfl rfl
  have po : PassesOwn (model P w) (A.deeper (envOfC "_law_times" (defScope s__law_times) s.heap.objs.size a.a__law_times cdv)) _ (cxOf (L2N.CX P w) P w K mg base n__law_times "_law_times" (defScope s__law_times) a.a__law_times cdv A outer s H E).xe := passes_of rfl
  exact (sss_one (ss_ret (se_callP (ok__law_ratio T) (hr.mono (by decide)) tk rfl T.g__law_ratio T.F__law_ratio.kp T.b__law_ratio (sa_cons (se_op od_mul (se_ix (se_var (pv 0)) se_int (fun _ _ => rfl)) (se_ix (se_var (pv 1)) se_int (fun _ _ => rfl))) (sa_cons (se_op od_mul (se_ix (se_var (pv 0)) se_int (fun _ _ => rfl)) (se_ix (se_var (pv 1)) se_int (fun _ _ => rfl))) sa_nil)))))
theorem sc__law_less : FnScope n__law_less p__law_less (defScope s__law_less) := ⟨rfl, rfl, rfl, by decide +kernel, rfl, by decide +kernel, by decide +kernel⟩
theorem ok__law_less (T : Txt K mg a) : FnG P w K mg base 2 a.a__law_less a.d__law_less p__law_less (spP K mg c__law_less) := fn_P T.F__law_less sc__law_less (by decide) fun cdv A outer s H E hr => by
  have nd : (n__law_less).Nodup := sc__law_less.nd
  have tk := L2N.takes_of (X := cxOf (L2N.CX P w) P w K mg base n__law_less "_law_less" (defScope s__law_less) a.a__law_less cdv A outer s H E) rfl rfl rfl rfl
  have po : PassesOwn (model P w) (A.deeper (envOfC "_law_less" (defScope s__law_less) s.heap.objs.size a.a__law_less cdv)) _ (cxOf (L2N.CX P w) P w K mg base n__law_less "_law_less" (defScope s__law_less) a.a__law_less cdv A outer s H E).xe := passes_of rfl
  exact (sss_one (ss_ret (se_cmpB od_lt (se_op od_mul (se_ix (se_var (pv 0)) se_int (fun _ _ => rfl)) (se_ix (se_var (pv 1)) se_int (fun _ _ => rfl))) (sb_of (se_op od_mul (se_ix (se_var (pv 1)) se_int (fun _ _ => rfl)) (se_ix (se_var (pv 0)) se_int (fun _ _ => rfl)))) (nomark _))))
theorem sc__law_lot : FnScope n__law_lot p__law_lot (defScope s__law_lot) := ⟨rfl, rfl, rfl, by decide +kernel, rfl, by decide +kernel, by decide +kernel⟩
theorem ok__law_lot (T : Txt K mg a) : FnG P w K mg base 4 a.a__law_lot a.d__law_lot p__law_lot (spS K mg c__law_lot) := fn_S T.F__law_lot sc__law_lot (by decide) fun cdv A outer s H E hr => by
  have nd : (n__law_lot).Nodup := sc__law_lot.nd
  have tk := L2N.takes_of (X := cxOf (L2N.CX P w) P w K mg base n__law_lot "_law_lot" (defScope s__law_lot) a.a__law_lot cdv A outer s H E) rfl rfl rfl rfl
  have po : PassesOwn (model P w) (A.deeper (envOfC "_law_lot" (defScope s__law_lot) s.heap.objs.size a.a__law_lot cdv)) _ (cxOf (L2N.CX P w) P w K mg base n__law_lot "_law_lot" (defScope s__law_lot) a.a__law_lot cdv A outer s H E).xe := passes_of rfl
  exact (sss_cons (ss_set nd rfl (Or.inr rfl) (se_of (so_lc (own := [("k", 4)]) rfl nd (si_range1 rfl T.n_range (se_var (pv 1))) (blkOk_by (N := n__law_lot) (sc := defScope s__law_lot) (by decide +kernel)) (fun _ _ _ _ _ => (sg_name nd rfl (Or.inl rfl) (by decide))) (fun _ _ _ _ _ => (sts_one (st_cmpB (op_eqDD (u64 hr)) (se_callS (ok__law_next T) (hr.mono (by decide)) takesN0 rfl T.g__law_next T.F__law_next.kp T.b__law_next (pv 0) (sa_cons se_int sa_nil)) (sb_of se_int) (nomark _)))) (fun _ _ _ _ _ => (se_var (pv 4)))))) (sss_cons (ss_if (st_cmpB (op_eqDD (u64 hr)) (se_callB cd_len rfl T.n_len rfl (sb_of (se_var (pv 2)))) (sb_of se_int) (nomark _)) (sss_one (ss_set nd rfl (Or.inr rfl) (se_of (so_lst (sa_cons (se_callS (ok__law_next T) (hr.mono (by decide)) tk rfl T.g__law_next T.F__law_next.kp T.b__law_next (pv 0) (sa_cons (se_var (pv 1)) sa_nil)) sa_nil))))) sss_nil) (sss_cons (ss_set nd rfl (Or.inr rfl) (se_of (so_lc (own := [("k", 4)]) rfl nd (si_data (se_var (pv 2))) (blkOk_by (N := n__law_lot) (sc := defScope s__law_lot) (by decide +kernel)) (fun _ _ _ _ _ => (sg_name nd rfl (Or.inl rfl) (by decide))) (fun _ _ _ _ _ => sts_nil) (fun _ _ _ _ _ => (se_op od_add se_int (se_callS (ok__law_next T) (hr.mono (by decide)) takesN0 rfl T.g__law_next T.F__law_next.kp T.b__law_next (pv 0) (sa_cons (se_ix (se_of (so_lst (sa_cons se_int (sa_cons se_int sa_nil)))) (se_callS (ok__law_next T) (hr.mono (by decide)) takesN0 rfl T.g__law_next T.F__law_next.kp T.b__law_next (pv 0) (sa_cons se_int sa_nil)) (fun _ _ => rfl)) sa_nil))))))) (sss_one (ss_ret (se_callT cd_tuple rfl T.n_tuple rfl (sb_of (se_of (so_lc (own := [("k", 4)]) rfl nd (si_range1 rfl T.n_range (se_callB cd_len rfl T.n_len rfl (sb_of (se_var (pv 2))))) (blkOk_by (N := n__law_lot) (sc := defScope s__law_lot) (by decide +kernel)) (fun _ _ _ _ _ => (sg_name nd rfl (Or.inl rfl) (by decide))) (fun _ _ _ _ _ => sts_nil) (fun _ _ _ _ _ => (se_tup (sa_cons (se_ix (se_var (pv 2)) (se_var (pv 4)) (fun _ _ => rfl)) (sa_cons (se_callP (ok__law_ratio T) (hr.mono (by decide)) takesN0 rfl T.g__law_ratio T.F__law_ratio.kp T.b__law_ratio (sa_cons (se_ix (se_var (pv 3)) (se_var (pv 4)) (fun _ _ => rfl)) (sa_cons (se_callB (cd_sum rfl) rfl T.n_sum rfl (sb_of (se_var (pv 3)))) sa_nil))) sa_nil)))))))))))))
theorem sc__law_gamble : FnScope n__law_gamble p__law_gamble (defScope s__law_gamble) := ⟨rfl, rfl, rfl, by decide +kernel, rfl, by decide +kernel, by decide +kernel⟩
theorem ok__law_gamble (T : Txt K mg a) : FnG P w K mg base 5 a.a__law_gamble a.d__law_gamble p__law_gamble (spS K mg c__law_gamble) := fn_S T.F__law_gamble sc__law_gamble (by decide) fun cdv A outer s H E hr => by
  have nd : (n__law_gamble).Nodup := sc__law_gamble.nd
  have tk := L2N.takes_of (X := cxOf (L2N.CX P w) P w K mg base n__law_gamble "_law_gamble" (defScope s__law_gamble) a.a__law_gamble cdv A outer s H E) rfl rfl rfl rfl
  have po : PassesOwn (model P w) (A.deeper (envOfC "_law_gamble" (defScope s__law_gamble) s.heap.objs.size a.a__law_gamble cdv)) _ (cxOf (L2N.CX P w) P w K mg base n__law_gamble "_law_gamble" (defScope s__law_gamble) a.a__law_gamble cdv A outer s H E).xe := passes_of rfl
  exact (sss_cons (ss_set nd rfl (Or.inr rfl) (se_op od_add se_int (se_callS (ok__law_next T) (hr.mono (by decide)) tk rfl T.g__law_next T.F__law_next.kp T.b__law_next (pv 0) (sa_cons (se_var (pv 2)) sa_nil)))) (sss_cons (ss_set nd rfl (Or.inl rfl) (se_callT cd_tuple rfl T.n_tuple rfl (sb_of (se_of (so_lc (own := [("k", 7)]) rfl nd (si_range1 rfl T.n_range (se_var (pv 4))) (blkOk_by (N := n__law_gamble) (sc := defScope s__law_gamble) (by decide +kernel)) (fun _ _ _ _ _ => (sg_name nd rfl (Or.inl rfl) (by decide))) (fun _ _ _ _ _ => sts_nil) (fun _ _ _ _ _ => (se_callS (ok__law_scene T) (hr.mono (by decide)) takesN0 rfl T.g__law_scene T.F__law_scene.kp T.b__law_scene (pv 0) (sa_cons (se_var (pv 1)) sa_nil)))))))) (sss_cons (ss_setO nd rfl (Or.inl rfl) (so_lst sa_nil)) (sss_cons (ss_for (vs := [7]) po rfl (si_range1 rfl T.n_range (se_var (pv 4))) (sg_name nd rfl (Or.inl rfl) (by decide)) (sss_one (ss_app (ps_expr (pe_bm PySem.F.plainAttrs_list PySem.F.slot_list_append PySem.F.type_list_append mt_append (pv 6) (pa_cons (se_callT cd_tuple rfl T.n_tuple rfl (sb_of (se_of (so_lc (own := [("j", 8)]) rfl nd (si_range1 rfl T.n_range (se_op od_add se_int (se_callS (ok__law_next T) (hr.mono (by decide)) tk rfl T.g__law_next T.F__law_next.kp T.b__law_next (pv 0) (sa_cons (se_var (pv 3)) sa_nil)))) (blkOk_by (N := n__law_gamble) (sc := defScope s__law_gamble) (by decide +kernel)) (fun _ _ _ _ _ => (sg_name nd rfl (Or.inl rfl) (by decide))) (fun _ _ _ _ _ => sts_nil) (fun _ _ _ _ _ => (se_callS (ok__law_lot T) (hr.mono (by decide)) takesN0 rfl T.g__law_lot T.F__law_lot.kp T.b__law_lot (pv 0) (sa_cons (se_var (pv 4)) sa_nil))))))) pa_nil)))))) (sss_one (ss_ret (se_tup (sa_cons (se_var (pv 5)) (sa_cons (se_callS (ok__law_lot T) (hr.mono (by decide)) tk rfl T.g__law_lot T.F__law_lot.kp T.b__law_lot (pv 0) (sa_cons (se_var (pv 4)) sa_nil)) (sa_cons (se_callT cd_tuple rfl T.n_tuple rfl (sb_var (pv 6))) sa_nil))))))))))
theorem sc__law_checked : FnScope n__law_checked p__law_checked (defScope s__law_checked) := ⟨rfl, rfl, rfl, by decide +kernel, rfl, by decide +kernel, by decide +kernel⟩
theorem ok__law_checked (T : Txt K mg a) : FnG P w K mg base 8 a.a__law_checked a.d__law_checked p__law_checked (spP K mg c__law_checked) := fn_P T.F__law_checked sc__law_checked (by decide) fun cdv A outer s H E hr => by
  have nd : (n__law_checked).Nodup := sc__law_checked.nd
  have tk := L2N.takes_of (X := cxOf (L2N.CX P w) P w K mg base n__law_checked "_law_checked" (defScope s__law_checked) a.a__law_checked cdv A outer s H E) rfl rfl rfl rfl
  have po : PassesOwn (model P w) (A.deeper (envOfC "_law_checked" (defScope s__law_checked) s.heap.objs.size a.a__law_checked cdv)) _ (cxOf (L2N.CX P w) P w K mg base n__law_checked "_law_checked" (defScope s__law_checked) a.a__law_checked cdv A outer s H E).xe := passes_of rfl
  exact (sss_one (ss_try (mh := fun _ => h__law_checked_1) rfl rfl nd rfl rfl ⟨rfl, by decide, Or.inl T.k_NotAllowed⟩ tk (fun _ _ _ tk po => (sss_one (ss_ret (se_ix (se_of (so_lst (sa_cons se_str (sa_cons se_bl sa_nil)))) (se_callT cd_int rfl T.n_int rfl (sb_of (se_cmpB op_isND (se_callP (ok_check_gamble T) (hr.mono (by decide)) tk rfl T.g_check_gamble T.F_check_gamble.kp T.b_check_gamble (sa_cons (se_var (pv 0)) (sa_cons (se_var (pv 1)) sa_nil))) (sb_of se_non) (nomark _)))) (fun _ _ => rfl))))) (cat_NotAllowed_ok T rfl rfl) (fun y D a oe pn hy hD hz hfl => cat_NotAllowed_is T hy hD hz fun hz => (sss_one (ss_ret (se_ix (se_of (so_lst (sa_cons se_str (sa_cons se_bl sa_nil)))) (se_callT cd_int rfl T.n_int rfl (sb_of (se_and (se_isE T.x_NotAllowed hz.zc hfl rfl T.n_isinstance (pv 2) rfl T.k_SpanError T.i_NotAllowed_SpanError) (se_one (se_not (se_isET T.x_NotAllowed hz.zc hfl rfl T.n_isinstance (pv 2) (.cons rfl T.k_BadPaper (by decide) rfl (.cons rfl T.k_Missing (by decide) rfl (.cons rfl T.k_TooLarge (by decide) rfl .nil))) (by show 3 ≤ 1000; decide) T.j_NotAllowed_BadPaper_Missing_TooLarge)))))) (fun _ _ => rfl))))) oc__law_checked_1_is))
theorem sc__law_bad_lots : FnScope n__law_bad_lots p__law_bad_lots (defScope s__law_bad_lots) := ⟨rfl, rfl, rfl, by decide +kernel, rfl, by decide +kernel, by decide +kernel⟩
theorem ok__law_bad_lots (T : Txt K mg a) : FnG P w K mg base 3 a.a__law_bad_lots a.d__law_bad_lots p__law_bad_lots (spS K mg c__law_bad_lots) := fn_S T.F__law_bad_lots sc__law_bad_lots (by decide) fun cdv A outer s H E hr => by
  have nd : (n__law_bad_lots).Nodup := sc__law_bad_lots.nd
  have tk := L2N.takes_of (X := cxOf (L2N.CX P w) P w K mg base n__law_bad_lots "_law_bad_lots" (defScope s__law_bad_lots) a.a__law_bad_lots cdv A outer s H E) rfl rfl rfl rfl
  have po : PassesOwn (model P w) (A.deeper (envOfC "_law_bad_lots" (defScope s__law_bad_lots) s.heap.objs.size a.a__law_bad_lots cdv)) _ (cxOf (L2N.CX P w) P w K mg base n__law_bad_lots "_law_bad_lots" (defScope s__law_bad_lots) a.a__law_bad_lots cdv A outer s H E).xe := passes_of rfl
  exact (sss_cons (ss_set nd rfl (Or.inl rfl) (se_callS (ok__law_next T) (hr.mono (by decide)) tk rfl T.g__law_next T.F__law_next.kp T.b__law_next (pv 0) (sa_cons (se_callB cd_len rfl T.n_len rfl (sb_of (se_var (pv 2)))) sa_nil))) (sss_cons (ss_asg (vs := [4, 5]) (se_ix (se_var (pv 2)) (se_var (pv 3)) (fun _ _ => rfl)) (sg_of (sgt_tup rfl (sgs_cons (sg_name nd rfl (Or.inl rfl) (by decide)) (sgs_cons (sg_name nd rfl (Or.inl rfl) (by decide)) sgs_nil))))) (sss_cons (ss_setO nd rfl (Or.inl rfl) (so_lst (sa_cons (se_tup sa_nil) (sa_cons (se_op od_add (se_var (pv 2)) (se_tup (sa_cons (se_tup (sa_cons (se_var (pv 1)) (sa_cons (se_tup (sa_cons se_int (sa_cons se_int sa_nil))) sa_nil))) sa_nil))) (sa_cons (se_op od_add (se_var (pv 2)) (se_tup (sa_cons (se_ix (se_var (pv 2)) (se_neg se_int) (fun _ _ => rfl)) sa_nil))) (sa_cons (se_op od_add (se_var (pv 2)) (se_tup (sa_cons (se_tup (sa_cons (se_op od_sub (se_var (pv 1)) se_int) (sa_cons (se_tup (sa_cons se_int (sa_cons se_int sa_nil))) sa_nil))) sa_nil))) (sa_cons (se_tup (sa_cons (se_tup (sa_cons (se_op od_sub se_int se_int) (sa_cons (se_tup (sa_cons se_int (sa_cons se_int sa_nil))) sa_nil))) sa_nil)) (sa_cons (se_tup (sa_cons (se_tup (sa_cons (se_var (pv 1)) (sa_cons (se_tup (sa_cons se_int (sa_cons se_int sa_nil))) sa_nil))) sa_nil)) sa_nil)))))))) (sss_cons (ss_for (vs := [7]) po rfl (si_data (se_of (so_lst (sa_cons (se_tup (sa_cons se_int (sa_cons se_int sa_nil))) (sa_cons (se_tup (sa_cons (se_op od_sub se_int se_int) (sa_cons se_int sa_nil))) (sa_cons (se_tup (sa_cons (se_op od_mul se_int (se_ix (se_var (pv 5)) se_int (fun _ _ => rfl))) (sa_cons (se_op od_mul se_int (se_ix (se_var (pv 5)) se_int (fun _ _ => rfl))) sa_nil))) (sa_cons (se_tup (sa_cons (se_ix (se_var (pv 5)) se_int (fun _ _ => rfl)) (sa_cons (se_op od_sub se_int (se_ix (se_var (pv 5)) se_int (fun _ _ => rfl))) sa_nil))) (sa_cons (se_tup (sa_cons (se_op od_add (se_ix (se_var (pv 5)) se_int (fun _ _ => rfl)) (se_ix (se_var (pv 5)) se_int (fun _ _ => rfl))) (sa_cons (se_ix (se_var (pv 5)) se_int (fun _ _ => rfl)) sa_nil))) (sa_cons (se_tup (sa_cons se_int (sa_cons se_int sa_nil))) sa_nil))))))))) (sg_name nd rfl (Or.inl rfl) (by decide)) (sss_one (ss_app (ps_expr (pe_bm PySem.F.plainAttrs_list PySem.F.slot_list_append PySem.F.type_list_append mt_append (pv 6) (pa_cons (se_op od_add (se_op od_add (se_slice (se_var (pv 2)) sp_none (sp_some (se_var (pv 3)))) (se_tup (sa_cons (se_tup (sa_cons (se_var (pv 4)) (sa_cons (se_var (pv 7)) sa_nil))) sa_nil))) (se_slice (se_var (pv 2)) (sp_some (se_op od_add (se_var (pv 3)) se_int)) sp_none)) pa_nil)))))) (sss_cons (ss_if (st_cmpB od_gt (se_var (pv 1)) (sb_of se_int) (nomark _)) (sss_cons (ss_app (ps_expr (pe_bm PySem.F.plainAttrs_list PySem.F.slot_list_append PySem.F.type_list_append mt_append (pv 6) (pa_cons (se_tup (sa_cons (se_tup (sa_cons se_int (sa_cons (se_tup (sa_cons se_int (sa_cons se_int sa_nil))) sa_nil))) (sa_cons (se_tup (sa_cons (se_op od_sub (se_var (pv 1)) se_int) (sa_cons (se_tup (sa_cons se_int (sa_cons se_int sa_nil))) sa_nil))) sa_nil))) pa_nil)))) (sss_cons (ss_app (ps_expr (pe_bm PySem.F.plainAttrs_list PySem.F.slot_list_append PySem.F.type_list_append mt_append (pv 6) (pa_cons (se_tup (sa_cons (se_tup (sa_cons (se_op od_sub (se_var (pv 1)) se_int) (sa_cons (se_tup (sa_cons se_int (sa_cons se_int sa_nil))) sa_nil))) (sa_cons (se_tup (sa_cons se_int (sa_cons (se_tup (sa_cons se_int (sa_cons se_int sa_nil))) sa_nil))) sa_nil))) pa_nil)))) (sss_cons (ss_app (ps_expr (pe_bm PySem.F.plainAttrs_list PySem.F.slot_list_append PySem.F.type_list_append mt_append (pv 6) (pa_cons (se_tup (sa_cons (se_tup (sa_cons se_int (sa_cons (se_tup (sa_cons se_int (sa_cons se_int sa_nil))) sa_nil))) (sa_cons (se_tup (sa_cons (se_op od_sub (se_var (pv 1)) se_int) (sa_cons (se_tup (sa_cons se_int (sa_cons se_int sa_nil))) sa_nil))) sa_nil))) pa_nil)))) (sss_cons (ss_app (ps_expr (pe_bm PySem.F.plainAttrs_list PySem.F.slot_list_append PySem.F.type_list_append mt_append (pv 6) (pa_cons (se_tup (sa_cons (se_tup (sa_cons se_int (sa_cons (se_tup (sa_cons se_int (sa_cons se_int sa_nil))) sa_nil))) (sa_cons (se_tup (sa_cons (se_op od_sub (se_var (pv 1)) se_int) (sa_cons (se_tup (sa_cons se_int (sa_cons se_int sa_nil))) sa_nil))) sa_nil))) pa_nil)))) (sss_one (ss_app (ps_expr (pe_bm PySem.F.plainAttrs_list PySem.F.slot_list_append PySem.F.type_list_append mt_append (pv 6) (pa_cons (se_tup (sa_cons (se_tup (sa_cons se_int (sa_cons (se_tup (sa_cons se_int (sa_cons se_int sa_nil))) sa_nil))) (sa_cons (se_tup (sa_cons (se_op od_sub (se_var (pv 1)) se_int) (sa_cons (se_tup (sa_cons se_int (sa_cons se_int sa_nil))) sa_nil))) sa_nil))) pa_nil))))))))) sss_nil) (sss_one (ss_ret (se_var (pv 6)))))))))
theorem sc__law_bad_gambles : FnScope n__law_bad_gambles p__law_bad_gambles (defScope s__law_bad_gambles) := ⟨rfl, rfl, rfl, by decide +kernel, rfl, by decide +kernel, by decide +kernel⟩
theorem ok__law_bad_gambles (T : Txt K mg a) : FnG P w K mg base 4 a.a__law_bad_gambles a.d__law_bad_gambles p__law_bad_gambles (spS K mg c__law_bad_gambles) := fn_S T.F__law_bad_gambles sc__law_bad_gambles (by decide) fun cdv A outer s H E hr => by
  have nd : (n__law_bad_gambles).Nodup := sc__law_bad_gambles.nd
  have tk := L2N.takes_of (X := cxOf (L2N.CX P w) P w K mg base n__law_bad_gambles "_law_bad_gambles" (defScope s__law_bad_gambles) a.a__law_bad_gambles cdv A outer s H E) rfl rfl rfl rfl
  have po : PassesOwn (model P w) (A.deeper (envOfC "_law_bad_gambles" (defScope s__law_bad_gambles) s.heap.objs.size a.a__law_bad_gambles cdv)) _ (cxOf (L2N.CX P w) P w K mg base n__law_bad_gambles "_law_bad_gambles" (defScope s__law_bad_gambles) a.a__law_bad_gambles cdv A outer s H E).xe := passes_of rfl
  exact (sss_cons (ss_asg (vs := [2, 3, 4]) (se_var (pv 1)) (sg_of (sgt_tup rfl (sgs_cons (sg_name nd rfl (Or.inl rfl) (by decide)) (sgs_cons (sg_name nd rfl (Or.inl rfl) (by decide)) (sgs_cons (sg_name nd rfl (Or.inl rfl) (by decide)) sgs_nil)))))) (sss_cons (ss_set nd rfl (Or.inl rfl) (se_callB cd_len rfl T.n_len rfl (sb_of (se_var (pv 2))))) (sss_cons (ss_set nd rfl (Or.inl rfl) (se_callS (ok__law_next T) (hr.mono (by decide)) tk rfl T.g__law_next T.F__law_next.kp T.b__law_next (pv 0) (sa_cons (se_var (pv 5)) sa_nil))) (sss_cons (ss_set nd rfl (Or.inl rfl) (se_callS (ok__law_next T) (hr.mono (by decide)) tk rfl T.g__law_next T.F__law_next.kp T.b__law_next (pv 0) (sa_cons (se_callB cd_len rfl T.n_len rfl (sb_of (se_ix (se_var (pv 4)) (se_var (pv 6)) (fun _ _ => rfl)))) sa_nil))) (sss_cons (ss_setO nd rfl (Or.inl rfl) (so_lst (sa_cons (se_tup (sa_cons (se_tup sa_nil) (sa_cons (se_var (pv 3)) (sa_cons (se_tup sa_nil) sa_nil)))) (sa_cons (se_tup (sa_cons (se_var (pv 2)) (sa_cons (se_var (pv 3)) (sa_cons (se_slice (se_var (pv 4)) (sp_some se_int) sp_none) sa_nil)))) (sa_cons (se_tup (sa_cons (se_var (pv 2)) (sa_cons (se_var (pv 3)) (sa_cons (se_op od_add (se_var (pv 4)) (se_slice (se_var (pv 4)) sp_none (sp_some se_int))) sa_nil)))) (sa_cons (se_tup (sa_cons (se_op od_add (se_var (pv 2)) (se_slice (se_var (pv 2)) sp_none (sp_some se_int))) (sa_cons (se_var (pv 3)) (sa_cons (se_var (pv 4)) sa_nil)))) sa_nil)))))) (sss_cons (ss_app (ps_expr (pe_bm PySem.F.plainAttrs_list PySem.F.slot_list_append PySem.F.type_list_append mt_append (pv 8) (pa_cons (se_tup (sa_cons (se_op od_add (se_op od_add (se_slice (se_var (pv 2)) sp_none (sp_some (se_var (pv 6)))) (se_tup (sa_cons (se_tup (sa_cons se_str sa_nil)) sa_nil))) (se_slice (se_var (pv 2)) (sp_some (se_op od_add (se_var (pv 6)) se_int)) sp_none)) (sa_cons (se_var (pv 3)) (sa_cons (se_var (pv 4)) sa_nil)))) pa_nil)))) (sss_cons (ss_app (ps_expr (pe_bm PySem.F.plainAttrs_list PySem.F.slot_list_append PySem.F.type_list_append mt_append (pv 8) (pa_cons (se_tup (sa_cons (se_var (pv 2)) (sa_cons (se_var (pv 3)) (sa_cons (se_op od_add (se_op od_add (se_slice (se_var (pv 4)) sp_none (sp_some (se_var (pv 6)))) (se_tup (sa_cons (se_tup sa_nil) sa_nil))) (se_slice (se_var (pv 4)) (sp_some (se_op od_add (se_var (pv 6)) se_int)) sp_none)) sa_nil)))) pa_nil)))) (sss_cons (ss_app (ps_expr (pe_bm PySem.F.plainAttrs_list PySem.F.slot_list_append PySem.F.type_list_append mt_append (pv 8) (pa_cons (se_tup (sa_cons (se_var (pv 2)) (sa_cons (se_var (pv 3)) (sa_cons (se_op od_add (se_op od_add (se_slice (se_var (pv 4)) sp_none (sp_some (se_var (pv 6)))) (se_tup (sa_cons (se_slice (se_op od_mul (se_ix (se_var (pv 4)) (se_var (pv 6)) (fun _ _ => rfl)) se_int) sp_none (sp_some se_int)) sa_nil))) (se_slice (se_var (pv 4)) (sp_some (se_op od_add (se_var (pv 6)) se_int)) sp_none)) sa_nil)))) pa_nil)))) (sss_cons (ss_app (ps_expr (pe_bm PySem.F.plainAttrs_list PySem.F.slot_list_append PySem.F.type_list_append mt_append (pv 8) (pa_cons (se_tup (sa_cons (se_op od_mul (se_slice (se_var (pv 2)) sp_none (sp_some se_int)) se_int) (sa_cons (se_tup (sa_cons (se_tup (sa_cons se_int (sa_cons (se_tup (sa_cons se_int (sa_cons se_int sa_nil))) sa_nil))) sa_nil)) (sa_cons (se_op od_mul (se_tup (sa_cons (se_tup (sa_cons (se_tup (sa_cons (se_tup (sa_cons se_int (sa_cons (se_tup (sa_cons se_int (sa_cons se_int sa_nil))) sa_nil))) sa_nil)) sa_nil)) sa_nil)) se_int) sa_nil)))) pa_nil)))) (sss_cons (ss_set nd rfl (Or.inl rfl) (se_callS (ok__law_bad_lots T) (hr.mono (by decide)) tk rfl T.g__law_bad_lots T.F__law_bad_lots.kp T.b__law_bad_lots (pv 0) (sa_cons (se_var (pv 5)) (sa_cons (se_var (pv 3)) sa_nil)))) (sss_cons (ss_app (ps_expr (pe_bm PySem.F.plainAttrs_list PySem.F.slot_list_append PySem.F.type_list_append mt_append (pv 8) (pa_cons (se_tup (sa_cons (se_var (pv 2)) (sa_cons (se_ix (se_var (pv 9)) (se_callS (ok__law_next T) (hr.mono (by decide)) tk rfl T.g__law_next T.F__law_next.kp T.b__law_next (pv 0) (sa_cons (se_callB cd_len rfl T.n_len rfl (sb_of (se_var (pv 9)))) sa_nil)) (fun _ _ => rfl)) (sa_cons (se_var (pv 4)) sa_nil)))) pa_nil)))) (sss_cons (ss_set nd rfl (Or.inl rfl) (se_callS (ok__law_bad_lots T) (hr.mono (by decide)) tk rfl T.g__law_bad_lots T.F__law_bad_lots.kp T.b__law_bad_lots (pv 0) (sa_cons (se_var (pv 5)) (sa_cons (se_ix (se_ix (se_var (pv 4)) (se_var (pv 6)) (fun _ _ => rfl)) (se_var (pv 7)) (fun _ _ => rfl)) sa_nil)))) (sss_cons (ss_for (vs := [10]) po rfl (si_range1 rfl T.n_range se_int) (sg_name nd rfl (Or.inl rfl) (by decide)) (sss_cons (ss_set nd rfl (Or.inl rfl) (se_ix (se_var (pv 9)) (se_callS (ok__law_next T) (hr.mono (by decide)) tk rfl T.g__law_next T.F__law_next.kp T.b__law_next (pv 0) (sa_cons (se_callB cd_len rfl T.n_len rfl (sb_of (se_var (pv 9)))) sa_nil)) (fun _ _ => rfl))) (sss_one (ss_app (ps_expr (pe_bm PySem.F.plainAttrs_list PySem.F.slot_list_append PySem.F.type_list_append mt_append (pv 8) (pa_cons (se_tup (sa_cons (se_var (pv 2)) (sa_cons (se_var (pv 3)) (sa_cons (se_op od_add (se_op od_add (se_slice (se_var (pv 4)) sp_none (sp_some (se_var (pv 6)))) (se_tup (sa_cons (se_op od_add (se_op od_add (se_slice (se_ix (se_var (pv 4)) (se_var (pv 6)) (fun _ _ => rfl)) sp_none (sp_some (se_var (pv 7)))) (se_tup (sa_cons (se_var (pv 11)) sa_nil))) (se_slice (se_ix (se_var (pv 4)) (se_var (pv 6)) (fun _ _ => rfl)) (sp_some (se_op od_add (se_var (pv 7)) se_int)) sp_none)) sa_nil))) (se_slice (se_var (pv 4)) (sp_some (se_op od_add (se_var (pv 6)) se_int)) sp_none)) sa_nil)))) pa_nil))))))) (sss_one (ss_ret (se_var (pv 8)))))))))))))))))
theorem sc__law_system_due : FnScope n__law_system_due p__law_system_due (defScope s__law_system_due) := ⟨rfl, rfl, rfl, by decide +kernel, rfl, by decide +kernel, by decide +kernel⟩
theorem ok__law_system_due (T : Txt K mg a) : FnG P w K mg base 2 a.a__law_system_due a.d__law_system_due p__law_system_due (spP K mg c__law_system_due) := fn_P T.F__law_system_due sc__law_system_due (by decide) fun cdv A outer s H E hr => by
  have nd : (n__law_system_due).Nodup := sc__law_system_due.nd
  have tk := L2N.takes_of (X := cxOf (L2N.CX P w) P w K mg base n__law_system_due "_law_system_due" (defScope s__law_system_due) a.a__law_system_due cdv A outer s H E) rfl rfl rfl rfl
  have po : PassesOwn (model P w) (A.deeper (envOfC "_law_system_due" (defScope s__law_system_due) s.heap.objs.size a.a__law_system_due cdv)) _ (cxOf (L2N.CX P w) P w K mg base n__law_system_due "_law_system_due" (defScope s__law_system_due) a.a__law_system_due cdv A outer s H E).xe := passes_of rfl
  exact (sss_cons (ss_setO nd rfl (Or.inl rfl) (so_lst sa_nil)) (sss_cons (ss_for (vs := [2]) po rfl (si_data (se_ix (se_var (pv 0)) se_int (fun _ _ => rfl))) (sg_name nd rfl (Or.inl rfl) (by decide)) (sss_cons (ss_setO nd rfl (Or.inl rfl) (so_lst sa_nil)) (sss_cons (ss_for (vs := [4]) po rfl (si_data (se_var (pv 2))) (sg_name nd rfl (Or.inl rfl) (by decide)) (sss_one (ss_ext (ps_expr (pe_bm PySem.F.plainAttrs_list PySem.F.slot_list_extend PySem.F.type_list_extend mt_extend (pv 3) (pa_cons (so_lc (own := [("one", 5), ("ratio", 6)]) rfl nd (si_data (se_var (pv 4))) (blkOk_by (N := n__law_system_due) (sc := defScope s__law_system_due) (by decide +kernel)) (fun _ _ _ _ _ => (sg_of (sgt_tup rfl (sgs_cons (sg_name nd rfl (Or.inl rfl) (by decide)) (sgs_cons (sg_name nd rfl (Or.inl rfl) (by decide)) sgs_nil))))) (fun _ _ _ _ _ => sts_nil) (fun _ _ _ _ _ => (se_var (pv 5)))) pa_nil)))))) (sss_one (ss_app (ps_expr (pe_bm PySem.F.plainAttrs_list PySem.F.slot_list_append PySem.F.type_list_append mt_append (pv 1) (pa_cons (se_callT cd_tuple rfl T.n_tuple rfl (sb_of (se_of (so_sortSet rfl rfl T.n_sorted rfl T.n_set (sb_var (pv 3)))))) pa_nil)))))))) (sss_one (ss_ret (se_tup (sa_cons (se_ix (se_var (pv 0)) se_int (fun _ _ => rfl)) (sa_cons (se_callT cd_tuple rfl T.n_tuple rfl (sb_of (se_of (so_lc (own := [("one", 5), ("ratio", 6)]) rfl nd (si_data (se_ix (se_var (pv 0)) se_int (fun _ _ => rfl))) (blkOk_by (N := n__law_system_due) (sc := defScope s__law_system_due) (by decide +kernel)) (fun _ _ _ _ _ => (sg_of (sgt_tup rfl (sgs_cons (sg_name nd rfl (Or.inl rfl) (by decide)) (sgs_cons (sg_name nd rfl (Or.inl rfl) (by decide)) sgs_nil))))) (fun _ _ _ _ _ => sts_nil) (fun _ _ _ _ _ => (se_var (pv 5))))))) (sa_cons (se_callT cd_tuple rfl T.n_tuple rfl (sb_var (pv 1))) sa_nil))))))))
theorem sc__law_number : FnScope n__law_number p__law_number (defScope s__law_number) := ⟨rfl, rfl, rfl, by decide +kernel, rfl, by decide +kernel, by decide +kernel⟩
theorem ok__law_number (T : Txt K mg a) : FnG P w K mg base 3 a.a__law_number a.d__law_number p__law_number (spS K mg c__law_number) := fn_S T.F__law_number sc__law_number (by decide) fun cdv A outer s H E hr => by
  have nd : (n__law_number).Nodup := sc__law_number.nd
  have tk := L2N.takes_of (X := cxOf (L2N.CX P w) P w K mg base n__law_number "_law_number" (defScope s__law_number) a.a__law_number cdv A outer s H E) rfl rfl rfl rfl
  have po : PassesOwn (model P w) (A.deeper (envOfC "_law_number" (defScope s__law_number) s.heap.objs.size a.a__law_number cdv)) _ (cxOf (L2N.CX P w) P w K mg base n__law_number "_law_number" (defScope s__law_number) a.a__law_number cdv A outer s H E).xe := passes_of rfl
  exact (sss_one (ss_ret (se_op od_mul (se_op od_sub (se_callS (ok__law_next T) (hr.mono (by decide)) tk rfl T.g__law_next T.F__law_next.kp T.b__law_next (pv 0) (sa_cons se_int sa_nil)) se_int) (se_ix (se_of (so_lst (sa_cons se_int (sa_cons se_int (sa_cons (se_op od_pow se_int se_int) sa_nil))))) (se_callS (ok__law_next T) (hr.mono (by decide)) tk rfl T.g__law_next T.F__law_next.kp T.b__law_next (pv 0) (sa_cons se_int sa_nil)) (fun _ _ => rfl)))))
theorem sc__law_ratios_fit : FnScope n__law_ratios_fit p__law_ratios_fit (defScope s__law_ratios_fit) := ⟨rfl, rfl, rfl, by decide +kernel, rfl, by decide +kernel, by decide +kernel⟩
theorem ok__law_ratios_fit (T : Txt K mg a) : FnG P w K mg base 5 a.a__law_ratios_fit a.d__law_ratios_fit p__law_ratios_fit (spS K mg c__law_ratios_fit) := fn_S T.F__law_ratios_fit sc__law_ratios_fit (by decide) fun cdv A outer s H E hr => by
  have nd : (n__law_ratios_fit).Nodup := sc__law_ratios_fit.nd
  have tk := L2N.takes_of (X := cxOf (L2N.CX P w) P w K mg base n__law_ratios_fit "_law_ratios_fit" (defScope s__law_ratios_fit) a.a__law_ratios_fit cdv A outer s H E) rfl rfl rfl rfl
  have po : PassesOwn (model P w) (A.deeper (envOfC "_law_ratios_fit" (defScope s__law_ratios_fit) s.heap.objs.size a.a__law_ratios_fit cdv)) _ (cxOf (L2N.CX P w) P w K mg base n__law_ratios_fit "_law_ratios_fit" (defScope s__law_ratios_fit) a.a__law_ratios_fit cdv A outer s H E).xe := passes_of rfl
  exact (sss_cons (ss_set nd rfl (Or.inl rfl) (se_callP (ok__law_ratio T) (hr.mono (by decide)) tk rfl T.g__law_ratio T.F__law_ratio.kp T.b__law_ratio (sa_cons (se_callS (ok__law_number T) (hr.mono (by decide)) tk rfl T.g__law_number T.F__law_number.kp T.b__law_number (pv 0) sa_nil) (sa_cons (se_op od_add se_int (se_callB cd_abs rfl T.n_abs rfl (sb_of (se_callS (ok__law_number T) (hr.mono (by decide)) tk rfl T.g__law_number T.F__law_number.kp T.b__law_number (pv 0) sa_nil)))) sa_nil)))) (sss_cons (ss_set nd rfl (Or.inl rfl) (se_callP (ok__law_ratio T) (hr.mono (by decide)) tk rfl T.g__law_ratio T.F__law_ratio.kp T.b__law_ratio (sa_cons (se_callS (ok__law_number T) (hr.mono (by decide)) tk rfl T.g__law_number T.F__law_number.kp T.b__law_number (pv 0) sa_nil) (sa_cons (se_op od_add se_int (se_callB cd_abs rfl T.n_abs rfl (sb_of (se_callS (ok__law_number T) (hr.mono (by decide)) tk rfl T.g__law_number T.F__law_number.kp T.b__law_number (pv 0) sa_nil)))) sa_nil)))) (sss_cons (ss_set nd rfl (Or.inl rfl) (se_tup (sa_cons (se_callP (ok__law_sum T) (hr.mono (by decide)) tk rfl T.g__law_sum T.F__law_sum.kp T.b__law_sum (sa_cons (se_var (pv 1)) (sa_cons (se_var (pv 2)) sa_nil))) (sa_cons (se_callP (ok__law_times T) (hr.mono (by decide)) tk rfl T.g__law_times T.F__law_times.kp T.b__law_times (sa_cons (se_var (pv 1)) (sa_cons (se_var (pv 2)) sa_nil))) (sa_cons (se_op od_sub (se_callT cd_int rfl T.n_int rfl (sb_of (se_callP (ok__law_less T) (hr.mono (by decide)) tk rfl T.g__law_less T.F__law_less.kp T.b__law_less (sa_cons (se_var (pv 2)) (sa_cons (se_var (pv 1)) sa_nil))))) (se_callT cd_int rfl T.n_int rfl (sb_of (se_callP (ok__law_less T) (hr.mono (by decide)) tk rfl T.g__law_less T.F__law_less.kp T.b__law_less (sa_cons (se_var (pv 1)) (sa_cons (se_var (pv 2)) sa_nil)))))) (sa_cons se_int sa_nil)))))) (sss_cons (ss_if (st_cmpB (op_neDD (u64 hr)) (se_callB (cd_repr hr.gd (u65 hr)) rfl T.n_repr rfl (sb_of (se_tup (sa_cons (se_callP (ok_plus T) (hr.mono (by decide)) tk rfl T.g_plus T.F_plus.kp T.b_plus (sa_cons (se_var (pv 1)) (sa_cons (se_var (pv 2)) sa_nil))) (sa_cons (se_callP (ok_times T) (hr.mono (by decide)) tk rfl T.g_times T.F_times.kp T.b_times (sa_cons (se_var (pv 1)) (sa_cons (se_var (pv 2)) sa_nil))) (sa_cons (se_callP (ok_compare T) (hr.mono (by decide)) tk rfl T.g_compare T.F_compare.kp T.b_compare (sa_cons (se_var (pv 1)) (sa_cons (se_var (pv 2)) sa_nil))) (sa_cons (se_callP (ok_compare T) (hr.mono (by decide)) tk rfl T.g_compare T.F_compare.kp T.b_compare (sa_cons (se_var (pv 1)) (sa_cons (se_var (pv 1)) sa_nil))) sa_nil))))))) (sb_of (se_callB (cd_repr hr.gd (u65 hr)) rfl T.n_repr rfl (sb_of (se_var (pv 3))))) (nomark _)) (sss_one (ss_ret se_bl)) sss_nil) (sss_cons (ss_set nd rfl (Or.inl rfl) (se_callS (ok__law_number T) (hr.mono (by decide)) tk rfl T.g__law_number T.F__law_number.kp T.b__law_number (pv 0) sa_nil)) (sss_cons (ss_set nd rfl (Or.inl rfl) (se_callS (ok__law_number T) (hr.mono (by decide)) tk rfl T.g__law_number T.F__law_number.kp T.b__law_number (pv 0) sa_nil)) (sss_cons (ss_if (st_w (sw_and (st_cmpB (op_neDD (u64 hr)) (se_var (pv 5)) (sb_of se_int) (nomark _)) (sw_and1 (st_cmpB (op_neDD (u64 hr)) (se_callB (cd_repr hr.gd (u65 hr)) rfl T.n_repr rfl (sb_of (se_tup (sa_cons (se_callP (ok_lowest T) (hr.mono (by decide)) tk rfl T.g_lowest T.F_lowest.kp T.b_lowest (sa_cons (se_var (pv 4)) (sa_cons (se_var (pv 5)) sa_nil))) (sa_cons (se_callP (ok_is_ratio T) (hr.mono (by decide)) tk rfl T.g_is_ratio T.F_is_ratio.kp T.b_is_ratio (sa_cons (se_tup (sa_cons (se_var (pv 4)) (sa_cons (se_var (pv 5)) sa_nil))) sa_nil)) sa_nil))))) (sb_of (se_callB (cd_repr hr.gd (u65 hr)) rfl T.n_repr rfl (sb_of (se_tup (sa_cons (se_callP (ok__law_ratio T) (hr.mono (by decide)) tk rfl T.g__law_ratio T.F__law_ratio.kp T.b__law_ratio (sa_cons (se_var (pv 4)) (sa_cons (se_var (pv 5)) sa_nil))) (sa_cons (se_and (se_cmpB od_gt (se_var (pv 5)) (sb_of se_int) (nomark _)) (se_one (se_cmpB (op_eqDD (u64 hr)) (se_callP (ok__law_gcd T) (hr.mono (by decide)) tk rfl T.g__law_gcd T.F__law_gcd.kp T.b__law_gcd (sa_cons (se_var (pv 4)) (sa_cons (se_var (pv 5)) sa_nil))) (sb_of se_int) (nomark _)))) sa_nil)))))) (nomark _))))) (sss_one (ss_ret se_bl)) sss_nil) (sss_cons (ss_tryO rfl rfl ⟨rfl, by decide, Or.inl T.k_NotAllowed⟩ tk (fun _ _ _ tk po => (sss_one (ss_expr (se_callP (ok_lowest T) (hr.mono (by decide)) tk rfl T.g_lowest T.F_lowest.kp T.b_lowest (sa_cons (se_var (pv 4)) (sa_cons se_int sa_nil)))))) (cat_NotAllowed_ok T rfl rfl) (fun a oe cls d pn hz hfl => (sss_one (ss_ret (se_cmpB (op_eqDD (u64H (RoomHG.mark hr _))) (se_callB (cd_repr (RoomHG.mark hr _).gd (u65H (RoomHG.mark hr _))) rfl T.n_repr rfl (sb_of (se_tup (sa_cons (se_callPH (okH_is_ratio T) ((RoomHG.mark hr _).mono (by decide)) (hot_suite hz hfl) takesN0 rfl T.g_is_ratio T.F_is_ratio.kp T.b_is_ratio (sa_cons (se_var (pv 1)) sa_nil)) (sa_cons (se_callPH (okH_is_ratio T) ((RoomHG.mark hr _).mono (by decide)) (hot_suite hz hfl) takesN0 rfl T.g_is_ratio T.F_is_ratio.kp T.b_is_ratio (sa_cons (se_tup (sa_cons (se_var (pv 4)) (sa_cons se_int sa_nil))) sa_nil)) (sa_cons (se_callPH (okH_is_ratio T) ((RoomHG.mark hr _).mono (by decide)) (hot_suite hz hfl) takesN0 rfl T.g_is_ratio T.F_is_ratio.kp T.b_is_ratio (sa_cons (se_tup (sa_cons (se_ix (se_var (pv 1)) se_int (fun _ _ => rfl)) (sa_cons (se_op od_sub se_int (se_ix (se_var (pv 1)) se_int (fun _ _ => rfl))) sa_nil))) sa_nil)) sa_nil)))))) (sb_of (se_callB (cd_repr (RoomHG.mark hr _).gd (u65H (RoomHG.mark hr _))) rfl T.n_repr rfl (sb_of (se_tup (sa_cons se_bl (sa_cons se_bl (sa_cons se_bl sa_nil))))))) (nomark _)))))) (sss_one (ss_ret se_bl))))))))))
theorem sc_law : FnScope n_law p_law (defScope s_law) := ⟨rfl, rfl, rfl, by decide +kernel, rfl, by decide +kernel, by decide +kernel⟩
theorem ok_law (T : Txt K mg a) : FnG P w K mg base 9 a.a_law a.d_law p_law (spP K mg c_law) := fn_P T.F_law sc_law (by decide) fun cdv A outer s H E hr => by
  have nd : (n_law).Nodup := sc_law.nd
  have tk := L2N.takes_of (X := cxOf (L2N.CX P w) P w K mg base n_law "law" (defScope s_law) a.a_law cdv A outer s H E) rfl rfl rfl rfl
  have po : PassesOwn (model P w) (A.deeper (envOfC "law" (defScope s_law) s.heap.objs.size a.a_law cdv)) _ (cxOf (L2N.CX P w) P w K mg base n_law "law" (defScope s_law) a.a_law cdv A outer s H E).xe := passes_of rfl
  exact (sss_cons (ss_setO nd rfl (Or.inl rfl) (so_lst (sa_cons (se_callP (ok__law_stream T) (hr.mono (by decide)) tk rfl T.g__law_stream T.F__law_stream.kp T.b__law_stream (sa_cons (se_var (pv 0)) sa_nil)) (sa_cons se_int sa_nil)))) (sss_cons (ss_set nd rfl (Or.inl rfl) (se_callS (ok__law_facts T) (hr.mono (by decide)) tk rfl T.g__law_facts T.F__law_facts.kp T.b__law_facts (pv 1) (sa_cons (se_op od_add se_int (se_callS (ok__law_next T) (hr.mono (by decide)) tk rfl T.g__law_next T.F__law_next.kp T.b__law_next (pv 1) (sa_cons se_int sa_nil))) sa_nil))) (sss_cons (ss_set nd rfl (Or.inl rfl) (se_callS (ok__law_gamble T) (hr.mono (by decide)) tk rfl T.g__law_gamble T.F__law_gamble.kp T.b__law_gamble (pv 1) (sa_cons (se_var (pv 2)) (sa_cons se_int (sa_cons se_int sa_nil))))) (sss_cons (ss_set nd rfl (Or.inl rfl) (se_callB (cd_repr hr.gd (u65 hr)) rfl T.n_repr rfl (sb_of (se_var (pv 3))))) (sss_cons (ss_if (st_w (sw_or (st_cmpB (op_neDD (u64 hr)) (se_callP (ok__law_checked T) (hr.mono (by decide)) tk rfl T.g__law_checked T.F__law_checked.kp T.b__law_checked (sa_cons (se_var (pv 2)) (sa_cons (se_var (pv 3)) sa_nil))) (sb_of se_bl) (nomark _)) (sw_or1 (st_cmpB (op_neDD (u64 hr)) (se_callB (cd_repr hr.gd (u65 hr)) rfl T.n_repr rfl (sb_of (se_callP (ok_system_of T) (hr.mono (by decide)) tk rfl T.g_system_of T.F_system_of.kp T.b_system_of (sa_cons (se_var (pv 3)) sa_nil)))) (sb_of (se_callB (cd_repr hr.gd (u65 hr)) rfl T.n_repr rfl (sb_of (se_callP (ok__law_system_due T) (hr.mono (by decide)) tk rfl T.g__law_system_due T.F__law_system_due.kp T.b__law_system_due (sa_cons (se_var (pv 3)) sa_nil))))) (nomark _))))) (sss_one (ss_ret se_bl)) sss_nil) (sss_cons (ss_if (st_w (sw_or (st_cmpB (op_neDD (u64 hr)) (se_callB (cd_repr hr.gd (u65 hr)) rfl T.n_repr rfl (sb_of (se_callP (ok_is_plain T) (hr.mono (by decide)) tk rfl T.g_is_plain T.F_is_plain.kp T.b_is_plain (sa_cons (se_var (pv 3)) sa_nil)))) (sb_of (se_callB (cd_repr hr.gd (u65 hr)) rfl T.n_repr rfl (sb_of (se_cmpB (op_eqDD (u64 hr)) (se_callB (cd_max rfl) rfl T.n_max rfl (sb_of (se_of (so_lc (own := [("row", 7)]) rfl nd (si_data (se_ix (se_var (pv 3)) se_int (fun _ _ => rfl))) (blkOk_by (N := n_law) (sc := defScope s_law) (by decide +kernel)) (fun _ _ _ _ _ => (sg_name nd rfl (Or.inl rfl) (by decide))) (fun _ _ _ _ _ => sts_nil) (fun _ _ _ _ _ => (se_callB cd_len rfl T.n_len rfl (sb_of (se_var (pv 7))))))))) (sb_of se_int) (nomark _))))) (nomark _)) (sw_or1 (st_cmpB (op_neDD (u64 hr)) (se_tup (sa_cons (se_glob T.c_MAX_PART rfl) (sa_cons (se_glob T.c_MAX_OPTIONS rfl) sa_nil))) (sb_of (se_tup (sa_cons se_int (sa_cons se_int sa_nil)))) (nomark _))))) (sss_one (ss_ret se_bl)) sss_nil) (sss_cons (ss_for (vs := [5]) po rfl (si_data (se_callS (ok__law_bad_gambles T) (hr.mono (by decide)) tk rfl T.g__law_bad_gambles T.F__law_bad_gambles.kp T.b__law_bad_gambles (pv 1) (sa_cons (se_var (pv 3)) sa_nil))) (sg_name nd rfl (Or.inl rfl) (by decide)) (sss_one (ss_if (st_cmpB (op_neDD (u64 hr)) (se_callP (ok__law_checked T) (hr.mono (by decide)) tk rfl T.g__law_checked T.F__law_checked.kp T.b__law_checked (sa_cons (se_var (pv 2)) (sa_cons (se_var (pv 5)) sa_nil))) (sb_of se_bl) (nomark _)) (sss_one (ss_ret se_bl)) sss_nil))) (sss_cons (ss_set nd rfl (Or.inl rfl) (se_tup (sa_cons (se_tup (sa_cons (se_tup sa_nil) (sa_cons (se_tup sa_nil) sa_nil))) (sa_cons (se_tup (sa_cons (se_tup (sa_cons se_int (sa_cons (se_tup (sa_cons se_int (sa_cons se_int sa_nil))) sa_nil))) (sa_cons (se_tup (sa_cons se_int (sa_cons (se_tup (sa_cons se_int (sa_cons se_int sa_nil))) sa_nil))) sa_nil))) (sa_cons (se_tup (sa_cons (se_op od_mul (se_tup (sa_cons (se_tup (sa_cons (se_tup (sa_cons se_int (sa_cons (se_tup (sa_cons se_int (sa_cons se_int sa_nil))) sa_nil))) sa_nil)) sa_nil)) se_int) (sa_cons (se_tup (sa_cons (se_tup (sa_cons (se_tup (sa_cons se_int (sa_cons (se_tup (sa_cons se_int (sa_cons se_int sa_nil))) sa_nil))) sa_nil)) sa_nil)) sa_nil))) sa_nil))))) (sss_one (ss_ret (se_and (se_cmpB (op_eqDD (u64 hr)) (se_callP (ok__law_checked T) (hr.mono (by decide)) tk rfl T.g__law_checked T.F__law_checked.kp T.b__law_checked (sa_cons (se_var (pv 2)) (sa_cons (se_var (pv 6)) sa_nil))) (sb_of se_bl) (nomark _)) (se_and (se_callS (ok__law_ratios_fit T) (hr.mono (by decide)) tk rfl T.g__law_ratios_fit T.F__law_ratios_fit.kp T.b__law_ratios_fit (pv 1) sa_nil) (se_one (se_cmpB (op_eqDD (u64 hr)) (se_callB (cd_repr hr.gd (u65 hr)) rfl T.n_repr rfl (sb_of (se_var (pv 3)))) (sb_of (se_var (pv 4))) (nomark _)))))))))))))))
end
/-- what is to be shown of the law in plain Lean -/
def Plain : Prop := ∀ ns : List Int, ns.length ≤ 63 → (∀ i ∈ ns, Builtin.Int.intBits i ≤ 1048576) → c_law [.list (ns.map .int)] = .ok (.bool true)
theorem all_mk (hp : Plain) {P : Program} {w : World} {K : PySem.W.Frag} {h : Heap} {mg : Str → Option Value} {fa : Addr} (X : K.In h) (G : h.Ns mainGlobals mg) (hfa : mg "law" = some (.ref fa))
    {t_MAX_OPTIONS : Tok}
    {t_MAX_PART : Tok}
    {t_MAX_STATES : Tok}
    {t_NOTHING_0 t_NOTHING_1 : Tok} {A_NOTHING : Addr} {n_NOTHING : Nat} {sl_NOTHING : Array (Option Value)}
    {t_WHOLE_0 t_WHOLE_1 : Tok} {A_WHOLE : Addr} {n_WHOLE : Nat} {sl_WHOLE : Array (Option Value)}
    {A_SpanError : Addr}
    {A_NotAllowed : Addr}
    {A_TooLarge : Addr}
    {A_Missing : Addr}
    {A_BadPaper : Addr}
    {f_common : Addr} {od_common an_common : Option Addr} {sl_common : Array (Option Value)} {oc_common kV_common dc_common pm_common cd_common ct_common : Value}
    {f_lowest : Addr} {od_lowest an_lowest : Option Addr} {sl_lowest : Array (Option Value)} {oc_lowest kV_lowest dc_lowest pm_lowest cd_lowest ct_lowest : Value}
    {f_is_ratio : Addr} {od_is_ratio an_is_ratio : Option Addr} {sl_is_ratio : Array (Option Value)} {oc_is_ratio kV_is_ratio dc_is_ratio pm_is_ratio cd_is_ratio ct_is_ratio : Value}
    {f_plus : Addr} {od_plus an_plus : Option Addr} {sl_plus : Array (Option Value)} {oc_plus kV_plus dc_plus pm_plus cd_plus ct_plus : Value}
    {f_times : Addr} {od_times an_times : Option Addr} {sl_times : Array (Option Value)} {oc_times kV_times dc_times pm_times cd_times ct_times : Value}
    {f_compare : Addr} {od_compare an_compare : Option Addr} {sl_compare : Array (Option Value)} {oc_compare kV_compare dc_compare pm_compare cd_compare ct_compare : Value}
    {f_total : Addr} {od_total an_total : Option Addr} {sl_total : Array (Option Value)} {oc_total kV_total dc_total pm_total cd_total ct_total : Value}
    {f_is_scene : Addr} {od_is_scene an_is_scene : Option Addr} {sl_is_scene : Array (Option Value)} {oc_is_scene kV_is_scene dc_is_scene pm_is_scene cd_is_scene ct_is_scene : Value}
    {f_check_lot : Addr} {od_check_lot an_check_lot : Option Addr} {sl_check_lot : Array (Option Value)} {oc_check_lot kV_check_lot dc_check_lot pm_check_lot cd_check_lot ct_check_lot : Value}
    {f_check_gamble : Addr} {od_check_gamble an_check_gamble : Option Addr} {sl_check_gamble : Array (Option Value)} {oc_check_gamble kV_check_gamble dc_check_gamble pm_check_gamble cd_check_gamble ct_check_gamble : Value}
    {f_is_plain : Addr} {od_is_plain an_is_plain : Option Addr} {sl_is_plain : Array (Option Value)} {oc_is_plain kV_is_plain dc_is_plain pm_is_plain cd_is_plain ct_is_plain : Value}
    {f_system_of : Addr} {od_system_of an_system_of : Option Addr} {sl_system_of : Array (Option Value)} {oc_system_of kV_system_of dc_system_of pm_system_of cd_system_of ct_system_of : Value}
    {f__law_stream : Addr} {od__law_stream an__law_stream : Option Addr} {sl__law_stream : Array (Option Value)} {oc__law_stream kV__law_stream dc__law_stream pm__law_stream cd__law_stream ct__law_stream : Value}
    {f__law_next : Addr} {od__law_next an__law_next : Option Addr} {sl__law_next : Array (Option Value)} {oc__law_next kV__law_next dc__law_next pm__law_next cd__law_next ct__law_next : Value}
    {f__law_word : Addr} {od__law_word an__law_word : Option Addr} {sl__law_word : Array (Option Value)} {oc__law_word kV__law_word dc__law_word pm__law_word cd__law_word ct__law_word : Value}
    {f__law_facts : Addr} {od__law_facts an__law_facts : Option Addr} {sl__law_facts : Array (Option Value)} {oc__law_facts kV__law_facts dc__law_facts pm__law_facts cd__law_facts ct__law_facts : Value}
    {f__law_scene : Addr} {od__law_scene an__law_scene : Option Addr} {sl__law_scene : Array (Option Value)} {oc__law_scene kV__law_scene dc__law_scene pm__law_scene cd__law_scene ct__law_scene : Value}
    {f__law_gcd : Addr} {od__law_gcd an__law_gcd : Option Addr} {sl__law_gcd : Array (Option Value)} {oc__law_gcd kV__law_gcd dc__law_gcd pm__law_gcd cd__law_gcd ct__law_gcd : Value}
    {f__law_ratio : Addr} {od__law_ratio an__law_ratio : Option Addr} {sl__law_ratio : Array (Option Value)} {oc__law_ratio kV__law_ratio dc__law_ratio pm__law_ratio cd__law_ratio ct__law_ratio : Value}
    {f__law_sum : Addr} {od__law_sum an__law_sum : Option Addr} {sl__law_sum : Array (Option Value)} {oc__law_sum kV__law_sum dc__law_sum pm__law_sum cd__law_sum ct__law_sum : Value}
    {f__law_times : Addr} {od__law_times an__law_times : Option Addr} {sl__law_times : Array (Option Value)} {oc__law_times kV__law_times dc__law_times pm__law_times cd__law_times ct__law_times : Value}
    {f__law_less : Addr} {od__law_less an__law_less : Option Addr} {sl__law_less : Array (Option Value)} {oc__law_less kV__law_less dc__law_less pm__law_less cd__law_less ct__law_less : Value}
    {f__law_lot : Addr} {od__law_lot an__law_lot : Option Addr} {sl__law_lot : Array (Option Value)} {oc__law_lot kV__law_lot dc__law_lot pm__law_lot cd__law_lot ct__law_lot : Value}
    {f__law_gamble : Addr} {od__law_gamble an__law_gamble : Option Addr} {sl__law_gamble : Array (Option Value)} {oc__law_gamble kV__law_gamble dc__law_gamble pm__law_gamble cd__law_gamble ct__law_gamble : Value}
    {f__law_checked : Addr} {od__law_checked an__law_checked : Option Addr} {sl__law_checked : Array (Option Value)} {oc__law_checked kV__law_checked dc__law_checked pm__law_checked cd__law_checked ct__law_checked : Value}
    {f__law_bad_lots : Addr} {od__law_bad_lots an__law_bad_lots : Option Addr} {sl__law_bad_lots : Array (Option Value)} {oc__law_bad_lots kV__law_bad_lots dc__law_bad_lots pm__law_bad_lots cd__law_bad_lots ct__law_bad_lots : Value}
    {f__law_bad_gambles : Addr} {od__law_bad_gambles an__law_bad_gambles : Option Addr} {sl__law_bad_gambles : Array (Option Value)} {oc__law_bad_gambles kV__law_bad_gambles dc__law_bad_gambles pm__law_bad_gambles cd__law_bad_gambles ct__law_bad_gambles : Value}
    {f__law_system_due : Addr} {od__law_system_due an__law_system_due : Option Addr} {sl__law_system_due : Array (Option Value)} {oc__law_system_due kV__law_system_due dc__law_system_due pm__law_system_due cd__law_system_due ct__law_system_due : Value}
    {f__law_number : Addr} {od__law_number an__law_number : Option Addr} {sl__law_number : Array (Option Value)} {oc__law_number kV__law_number dc__law_number pm__law_number cd__law_number ct__law_number : Value}
    {f__law_ratios_fit : Addr} {od__law_ratios_fit an__law_ratios_fit : Option Addr} {sl__law_ratios_fit : Array (Option Value)} {oc__law_ratios_fit kV__law_ratios_fit dc__law_ratios_fit pm__law_ratios_fit cd__law_ratios_fit ct__law_ratios_fit : Value}
    {f_law : Addr} {od_law an_law : Option Addr} {sl_law : Array (Option Value)} {oc_law kV_law dc_law pm_law cd_law ct_law : Value}
    (z_abs : PySem.W.nsIn K mainGlobals "abs" = some none)
    (z_all : PySem.W.nsIn K mainGlobals "all" = some none)
    (z_int : PySem.W.nsIn K mainGlobals "int" = some none)
    (z_isinstance : PySem.W.nsIn K mainGlobals "isinstance" = some none)
    (z_len : PySem.W.nsIn K mainGlobals "len" = some none)
    (z_max : PySem.W.nsIn K mainGlobals "max" = some none)
    (z_range : PySem.W.nsIn K mainGlobals "range" = some none)
    (z_repr : PySem.W.nsIn K mainGlobals "repr" = some none)
    (z_set : PySem.W.nsIn K mainGlobals "set" = some none)
    (z_sorted : PySem.W.nsIn K mainGlobals "sorted" = some none)
    (z_sum : PySem.W.nsIn K mainGlobals "sum" = some none)
    (z_tuple : PySem.W.nsIn K mainGlobals "tuple" = some none)
    (v_MAX_OPTIONS : PySem.W.nsIn K mainGlobals "MAX_OPTIONS" = some (some (.int 4 t_MAX_OPTIONS)))
    (v_MAX_PART : PySem.W.nsIn K mainGlobals "MAX_PART" = some (some (.int 1000 t_MAX_PART)))
    (v_MAX_STATES : PySem.W.nsIn K mainGlobals "MAX_STATES" = some (some (.int 8 t_MAX_STATES)))
    (v_NOTHING : PySem.W.nsIn K mainGlobals "NOTHING" = some (some (.ref A_NOTHING)))
    (vl_NOTHING : K.lookup A_NOTHING = some ⟨.type "tuple", none, .seq #[.int 0 t_NOTHING_0, .int 1 t_NOTHING_1] n_NOTHING, sl_NOTHING⟩)
    (v_WHOLE : PySem.W.nsIn K mainGlobals "WHOLE" = some (some (.ref A_WHOLE)))
    (vl_WHOLE : K.lookup A_WHOLE = some ⟨.type "tuple", none, .seq #[.int 1 t_WHOLE_0, .int 1 t_WHOLE_1] n_WHOLE, sl_WHOLE⟩)
    (m_SpanError : PySem.W.nsIn K mainGlobals "SpanError" = some (some (.ref A_SpanError)))
    (p_SpanError : PySem.W.keepIn K (.ref A_SpanError) = true)
    (s_SpanError : PySem.W.subIn K (.ref A_SpanError) (.type "BaseException") = some true)
    (y_SpanError : PySem.W.typeIn K (.ref A_SpanError) = some (.type "type"))
    (h_SpanError : PySem.W.hasDictIn K A_SpanError = true)
    (m_NotAllowed : PySem.W.nsIn K mainGlobals "NotAllowed" = some (some (.ref A_NotAllowed)))
    (p_NotAllowed : PySem.W.keepIn K (.ref A_NotAllowed) = true)
    (e_NotAllowed : PySem.W.excIn K A_NotAllowed veB "ValueError.__new__" = true)
    (s_NotAllowed : PySem.W.subIn K (.ref A_NotAllowed) (.type "BaseException") = some true)
    (y_NotAllowed : PySem.W.typeIn K (.ref A_NotAllowed) = some (.type "type"))
    (h_NotAllowed : PySem.W.hasDictIn K A_NotAllowed = true)
    (m_TooLarge : PySem.W.nsIn K mainGlobals "TooLarge" = some (some (.ref A_TooLarge)))
    (p_TooLarge : PySem.W.keepIn K (.ref A_TooLarge) = true)
    (s_TooLarge : PySem.W.subIn K (.ref A_TooLarge) (.type "BaseException") = some true)
    (y_TooLarge : PySem.W.typeIn K (.ref A_TooLarge) = some (.type "type"))
    (h_TooLarge : PySem.W.hasDictIn K A_TooLarge = true)
    (m_Missing : PySem.W.nsIn K mainGlobals "Missing" = some (some (.ref A_Missing)))
    (p_Missing : PySem.W.keepIn K (.ref A_Missing) = true)
    (s_Missing : PySem.W.subIn K (.ref A_Missing) (.type "BaseException") = some true)
    (y_Missing : PySem.W.typeIn K (.ref A_Missing) = some (.type "type"))
    (h_Missing : PySem.W.hasDictIn K A_Missing = true)
    (m_BadPaper : PySem.W.nsIn K mainGlobals "BadPaper" = some (some (.ref A_BadPaper)))
    (p_BadPaper : PySem.W.keepIn K (.ref A_BadPaper) = true)
    (s_BadPaper : PySem.W.subIn K (.ref A_BadPaper) (.type "BaseException") = some true)
    (y_BadPaper : PySem.W.typeIn K (.ref A_BadPaper) = some (.type "type"))
    (h_BadPaper : PySem.W.hasDictIn K A_BadPaper = true)
    (hn0 : PySem.W.specialIn K (.builtin "object.__class__") "__get__" = some (some (.builtin "getset_descriptor.__get__")))
    (ht0 : PySem.W.takesIn K (.builtin "object.__class__") = some true)
    (xg_NotAllowed : PySem.W.findIn K (.ref A_NotAllowed) "__getattribute__" = some (some (.builtin "BaseException.__getattribute__")))
    (xk_NotAllowed : PySem.W.findIn K (.ref A_NotAllowed) "__getattr__" = some none)
    (xa_NotAllowed : PySem.W.findIn K (.ref A_NotAllowed) "__class__" = some (some (.builtin "object.__class__")))
    (xm_NotAllowed : PySem.W.mroIn K A_NotAllowed (.type "object") = some true)
    (w_NotAllowed_BadPaper : PySem.W.subIn K (.ref A_NotAllowed) (.ref A_BadPaper) = some false)
    (w_NotAllowed_Missing : PySem.W.subIn K (.ref A_NotAllowed) (.ref A_Missing) = some false)
    (w_NotAllowed_SpanError : PySem.W.subIn K (.ref A_NotAllowed) (.ref A_SpanError) = some true)
    (w_NotAllowed_TooLarge : PySem.W.subIn K (.ref A_NotAllowed) (.ref A_TooLarge) = some false)
    (u_SpanError_NotAllowed : PySem.W.subIn K (.ref A_SpanError) (.ref A_NotAllowed) = some false)
    (u_NotAllowed_NotAllowed : PySem.W.subIn K (.ref A_NotAllowed) (.ref A_NotAllowed) = some true)
    (u_TooLarge_NotAllowed : PySem.W.subIn K (.ref A_TooLarge) (.ref A_NotAllowed) = some false)
    (u_Missing_NotAllowed : PySem.W.subIn K (.ref A_Missing) (.ref A_NotAllowed) = some false)
    (u_BadPaper_NotAllowed : PySem.W.subIn K (.ref A_BadPaper) (.ref A_NotAllowed) = some false)
    (g_common : PySem.W.nsIn K mainGlobals "common" = some (some (.ref f_common)))
    (l_common : K.lookup f_common = some ⟨oc_common, od_common, .func (PySem.W.fnOf "common" "common" (defArgs s_common) (defBody s_common) (defScope s_common) .none kV_common dc_common pm_common an_common cd_common ct_common), sl_common⟩)
    (cc_common : PySem.W.codeIn K cd_common "common" = true)
    (k_common : PySem.W.keepIn K (.ref f_common) = true)
    (g_lowest : PySem.W.nsIn K mainGlobals "lowest" = some (some (.ref f_lowest)))
    (l_lowest : K.lookup f_lowest = some ⟨oc_lowest, od_lowest, .func (PySem.W.fnOf "lowest" "lowest" (defArgs s_lowest) (defBody s_lowest) (defScope s_lowest) .none kV_lowest dc_lowest pm_lowest an_lowest cd_lowest ct_lowest), sl_lowest⟩)
    (cc_lowest : PySem.W.codeIn K cd_lowest "lowest" = true)
    (k_lowest : PySem.W.keepIn K (.ref f_lowest) = true)
    (g_is_ratio : PySem.W.nsIn K mainGlobals "is_ratio" = some (some (.ref f_is_ratio)))
    (l_is_ratio : K.lookup f_is_ratio = some ⟨oc_is_ratio, od_is_ratio, .func (PySem.W.fnOf "is_ratio" "is_ratio" (defArgs s_is_ratio) (defBody s_is_ratio) (defScope s_is_ratio) .none kV_is_ratio dc_is_ratio pm_is_ratio an_is_ratio cd_is_ratio ct_is_ratio), sl_is_ratio⟩)
    (cc_is_ratio : PySem.W.codeIn K cd_is_ratio "is_ratio" = true)
    (k_is_ratio : PySem.W.keepIn K (.ref f_is_ratio) = true)
    (g_plus : PySem.W.nsIn K mainGlobals "plus" = some (some (.ref f_plus)))
    (l_plus : K.lookup f_plus = some ⟨oc_plus, od_plus, .func (PySem.W.fnOf "plus" "plus" (defArgs s_plus) (defBody s_plus) (defScope s_plus) .none kV_plus dc_plus pm_plus an_plus cd_plus ct_plus), sl_plus⟩)
    (cc_plus : PySem.W.codeIn K cd_plus "plus" = true)
    (k_plus : PySem.W.keepIn K (.ref f_plus) = true)
    (g_times : PySem.W.nsIn K mainGlobals "times" = some (some (.ref f_times)))
    (l_times : K.lookup f_times = some ⟨oc_times, od_times, .func (PySem.W.fnOf "times" "times" (defArgs s_times) (defBody s_times) (defScope s_times) .none kV_times dc_times pm_times an_times cd_times ct_times), sl_times⟩)
    (cc_times : PySem.W.codeIn K cd_times "times" = true)
    (k_times : PySem.W.keepIn K (.ref f_times) = true)
    (g_compare : PySem.W.nsIn K mainGlobals "compare" = some (some (.ref f_compare)))
    (l_compare : K.lookup f_compare = some ⟨oc_compare, od_compare, .func (PySem.W.fnOf "compare" "compare" (defArgs s_compare) (defBody s_compare) (defScope s_compare) .none kV_compare dc_compare pm_compare an_compare cd_compare ct_compare), sl_compare⟩)
    (cc_compare : PySem.W.codeIn K cd_compare "compare" = true)
    (k_compare : PySem.W.keepIn K (.ref f_compare) = true)
    (g_total : PySem.W.nsIn K mainGlobals "total" = some (some (.ref f_total)))
    (l_total : K.lookup f_total = some ⟨oc_total, od_total, .func (PySem.W.fnOf "total" "total" (defArgs s_total) (defBody s_total) (defScope s_total) .none kV_total dc_total pm_total an_total cd_total ct_total), sl_total⟩)
    (cc_total : PySem.W.codeIn K cd_total "total" = true)
    (k_total : PySem.W.keepIn K (.ref f_total) = true)
    (g_is_scene : PySem.W.nsIn K mainGlobals "is_scene" = some (some (.ref f_is_scene)))
    (l_is_scene : K.lookup f_is_scene = some ⟨oc_is_scene, od_is_scene, .func (PySem.W.fnOf "is_scene" "is_scene" (defArgs s_is_scene) (defBody s_is_scene) (defScope s_is_scene) .none kV_is_scene dc_is_scene pm_is_scene an_is_scene cd_is_scene ct_is_scene), sl_is_scene⟩)
    (cc_is_scene : PySem.W.codeIn K cd_is_scene "is_scene" = true)
    (k_is_scene : PySem.W.keepIn K (.ref f_is_scene) = true)
    (g_check_lot : PySem.W.nsIn K mainGlobals "check_lot" = some (some (.ref f_check_lot)))
    (l_check_lot : K.lookup f_check_lot = some ⟨oc_check_lot, od_check_lot, .func (PySem.W.fnOf "check_lot" "check_lot" (defArgs s_check_lot) (defBody s_check_lot) (defScope s_check_lot) .none kV_check_lot dc_check_lot pm_check_lot an_check_lot cd_check_lot ct_check_lot), sl_check_lot⟩)
    (cc_check_lot : PySem.W.codeIn K cd_check_lot "check_lot" = true)
    (k_check_lot : PySem.W.keepIn K (.ref f_check_lot) = true)
    (g_check_gamble : PySem.W.nsIn K mainGlobals "check_gamble" = some (some (.ref f_check_gamble)))
    (l_check_gamble : K.lookup f_check_gamble = some ⟨oc_check_gamble, od_check_gamble, .func (PySem.W.fnOf "check_gamble" "check_gamble" (defArgs s_check_gamble) (defBody s_check_gamble) (defScope s_check_gamble) .none kV_check_gamble dc_check_gamble pm_check_gamble an_check_gamble cd_check_gamble ct_check_gamble), sl_check_gamble⟩)
    (cc_check_gamble : PySem.W.codeIn K cd_check_gamble "check_gamble" = true)
    (k_check_gamble : PySem.W.keepIn K (.ref f_check_gamble) = true)
    (g_is_plain : PySem.W.nsIn K mainGlobals "is_plain" = some (some (.ref f_is_plain)))
    (l_is_plain : K.lookup f_is_plain = some ⟨oc_is_plain, od_is_plain, .func (PySem.W.fnOf "is_plain" "is_plain" (defArgs s_is_plain) (defBody s_is_plain) (defScope s_is_plain) .none kV_is_plain dc_is_plain pm_is_plain an_is_plain cd_is_plain ct_is_plain), sl_is_plain⟩)
    (cc_is_plain : PySem.W.codeIn K cd_is_plain "is_plain" = true)
    (k_is_plain : PySem.W.keepIn K (.ref f_is_plain) = true)
    (g_system_of : PySem.W.nsIn K mainGlobals "system_of" = some (some (.ref f_system_of)))
    (l_system_of : K.lookup f_system_of = some ⟨oc_system_of, od_system_of, .func (PySem.W.fnOf "system_of" "system_of" (defArgs s_system_of) (defBody s_system_of) (defScope s_system_of) .none kV_system_of dc_system_of pm_system_of an_system_of cd_system_of ct_system_of), sl_system_of⟩)
    (cc_system_of : PySem.W.codeIn K cd_system_of "system_of" = true)
    (k_system_of : PySem.W.keepIn K (.ref f_system_of) = true)
    (g__law_stream : PySem.W.nsIn K mainGlobals "_law_stream" = some (some (.ref f__law_stream)))
    (l__law_stream : K.lookup f__law_stream = some ⟨oc__law_stream, od__law_stream, .func (PySem.W.fnOf "_law_stream" "_law_stream" (defArgs s__law_stream) (defBody s__law_stream) (defScope s__law_stream) .none kV__law_stream dc__law_stream pm__law_stream an__law_stream cd__law_stream ct__law_stream), sl__law_stream⟩)
    (cc__law_stream : PySem.W.codeIn K cd__law_stream "_law_stream" = true)
    (k__law_stream : PySem.W.keepIn K (.ref f__law_stream) = true)
    (g__law_next : PySem.W.nsIn K mainGlobals "_law_next" = some (some (.ref f__law_next)))
    (l__law_next : K.lookup f__law_next = some ⟨oc__law_next, od__law_next, .func (PySem.W.fnOf "_law_next" "_law_next" (defArgs s__law_next) (defBody s__law_next) (defScope s__law_next) .none kV__law_next dc__law_next pm__law_next an__law_next cd__law_next ct__law_next), sl__law_next⟩)
    (cc__law_next : PySem.W.codeIn K cd__law_next "_law_next" = true)
    (k__law_next : PySem.W.keepIn K (.ref f__law_next) = true)
    (g__law_word : PySem.W.nsIn K mainGlobals "_law_word" = some (some (.ref f__law_word)))
    (l__law_word : K.lookup f__law_word = some ⟨oc__law_word, od__law_word, .func (PySem.W.fnOf "_law_word" "_law_word" (defArgs s__law_word) (defBody s__law_word) (defScope s__law_word) .none kV__law_word dc__law_word pm__law_word an__law_word cd__law_word ct__law_word), sl__law_word⟩)
    (cc__law_word : PySem.W.codeIn K cd__law_word "_law_word" = true)
    (k__law_word : PySem.W.keepIn K (.ref f__law_word) = true)
    (g__law_facts : PySem.W.nsIn K mainGlobals "_law_facts" = some (some (.ref f__law_facts)))
    (l__law_facts : K.lookup f__law_facts = some ⟨oc__law_facts, od__law_facts, .func (PySem.W.fnOf "_law_facts" "_law_facts" (defArgs s__law_facts) (defBody s__law_facts) (defScope s__law_facts) .none kV__law_facts dc__law_facts pm__law_facts an__law_facts cd__law_facts ct__law_facts), sl__law_facts⟩)
    (cc__law_facts : PySem.W.codeIn K cd__law_facts "_law_facts" = true)
    (k__law_facts : PySem.W.keepIn K (.ref f__law_facts) = true)
    (g__law_scene : PySem.W.nsIn K mainGlobals "_law_scene" = some (some (.ref f__law_scene)))
    (l__law_scene : K.lookup f__law_scene = some ⟨oc__law_scene, od__law_scene, .func (PySem.W.fnOf "_law_scene" "_law_scene" (defArgs s__law_scene) (defBody s__law_scene) (defScope s__law_scene) .none kV__law_scene dc__law_scene pm__law_scene an__law_scene cd__law_scene ct__law_scene), sl__law_scene⟩)
    (cc__law_scene : PySem.W.codeIn K cd__law_scene "_law_scene" = true)
    (k__law_scene : PySem.W.keepIn K (.ref f__law_scene) = true)
    (g__law_gcd : PySem.W.nsIn K mainGlobals "_law_gcd" = some (some (.ref f__law_gcd)))
    (l__law_gcd : K.lookup f__law_gcd = some ⟨oc__law_gcd, od__law_gcd, .func (PySem.W.fnOf "_law_gcd" "_law_gcd" (defArgs s__law_gcd) (defBody s__law_gcd) (defScope s__law_gcd) .none kV__law_gcd dc__law_gcd pm__law_gcd an__law_gcd cd__law_gcd ct__law_gcd), sl__law_gcd⟩)
    (cc__law_gcd : PySem.W.codeIn K cd__law_gcd "_law_gcd" = true)
    (k__law_gcd : PySem.W.keepIn K (.ref f__law_gcd) = true)
    (g__law_ratio : PySem.W.nsIn K mainGlobals "_law_ratio" = some (some (.ref f__law_ratio)))
    (l__law_ratio : K.lookup f__law_ratio = some ⟨oc__law_ratio, od__law_ratio, .func (PySem.W.fnOf "_law_ratio" "_law_ratio" (defArgs s__law_ratio) (defBody s__law_ratio) (defScope s__law_ratio) .none kV__law_ratio dc__law_ratio pm__law_ratio an__law_ratio cd__law_ratio ct__law_ratio), sl__law_ratio⟩)
    (cc__law_ratio : PySem.W.codeIn K cd__law_ratio "_law_ratio" = true)
    (k__law_ratio : PySem.W.keepIn K (.ref f__law_ratio) = true)
    (g__law_sum : PySem.W.nsIn K mainGlobals "_law_sum" = some (some (.ref f__law_sum)))
    (l__law_sum : K.lookup f__law_sum = some ⟨oc__law_sum, od__law_sum, .func (PySem.W.fnOf "_law_sum" "_law_sum" (defArgs s__law_sum) (defBody s__law_sum) (defScope s__law_sum) .none kV__law_sum dc__law_sum pm__law_sum an__law_sum cd__law_sum ct__law_sum), sl__law_sum⟩)
    (cc__law_sum : PySem.W.codeIn K cd__law_sum "_law_sum" = true)
    (k__law_sum : PySem.W.keepIn K (.ref f__law_sum) = true)
    (g__law_times : PySem.W.nsIn K mainGlobals "_law_times" = some (some (.ref f__law_times)))
    (l__law_times : K.lookup f__law_times = some ⟨oc__law_times, od__law_times, .func (PySem.W.fnOf "_law_times" "_law_times" (defArgs s__law_times) (defBody s__law_times) (defScope s__law_times) .none kV__law_times dc__law_times pm__law_times an__law_times cd__law_times ct__law_times), sl__law_times⟩)
    (cc__law_times : PySem.W.codeIn K cd__law_times "_law_times" = true)
    (k__law_times : PySem.W.keepIn K (.ref f__law_times) = true)
    (g__law_less : PySem.W.nsIn K mainGlobals "_law_less" = some (some (.ref f__law_less)))
    (l__law_less : K.lookup f__law_less = some ⟨oc__law_less, od__law_less, .func (PySem.W.fnOf "_law_less" "_law_less" (defArgs s__law_less) (defBody s__law_less) (defScope s__law_less) .none kV__law_less dc__law_less pm__law_less an__law_less cd__law_less ct__law_less), sl__law_less⟩)
    (cc__law_less : PySem.W.codeIn K cd__law_less "_law_less" = true)
    (k__law_less : PySem.W.keepIn K (.ref f__law_less) = true)
    (g__law_lot : PySem.W.nsIn K mainGlobals "_law_lot" = some (some (.ref f__law_lot)))
    (l__law_lot : K.lookup f__law_lot = some ⟨oc__law_lot, od__law_lot, .func (PySem.W.fnOf "_law_lot" "_law_lot" (defArgs s__law_lot) (defBody s__law_lot) (defScope s__law_lot) .none kV__law_lot dc__law_lot pm__law_lot an__law_lot cd__law_lot ct__law_lot), sl__law_lot⟩)
    (cc__law_lot : PySem.W.codeIn K cd__law_lot "_law_lot" = true)
    (k__law_lot : PySem.W.keepIn K (.ref f__law_lot) = true)
    (g__law_gamble : PySem.W.nsIn K mainGlobals "_law_gamble" = some (some (.ref f__law_gamble)))
    (l__law_gamble : K.lookup f__law_gamble = some ⟨oc__law_gamble, od__law_gamble, .func (PySem.W.fnOf "_law_gamble" "_law_gamble" (defArgs s__law_gamble) (defBody s__law_gamble) (defScope s__law_gamble) .none kV__law_gamble dc__law_gamble pm__law_gamble an__law_gamble cd__law_gamble ct__law_gamble), sl__law_gamble⟩)
    (cc__law_gamble : PySem.W.codeIn K cd__law_gamble "_law_gamble" = true)
    (k__law_gamble : PySem.W.keepIn K (.ref f__law_gamble) = true)
    (g__law_checked : PySem.W.nsIn K mainGlobals "_law_checked" = some (some (.ref f__law_checked)))
    (l__law_checked : K.lookup f__law_checked = some ⟨oc__law_checked, od__law_checked, .func (PySem.W.fnOf "_law_checked" "_law_checked" (defArgs s__law_checked) (defBody s__law_checked) (defScope s__law_checked) .none kV__law_checked dc__law_checked pm__law_checked an__law_checked cd__law_checked ct__law_checked), sl__law_checked⟩)
    (cc__law_checked : PySem.W.codeIn K cd__law_checked "_law_checked" = true)
    (k__law_checked : PySem.W.keepIn K (.ref f__law_checked) = true)
    (g__law_bad_lots : PySem.W.nsIn K mainGlobals "_law_bad_lots" = some (some (.ref f__law_bad_lots)))
    (l__law_bad_lots : K.lookup f__law_bad_lots = some ⟨oc__law_bad_lots, od__law_bad_lots, .func (PySem.W.fnOf "_law_bad_lots" "_law_bad_lots" (defArgs s__law_bad_lots) (defBody s__law_bad_lots) (defScope s__law_bad_lots) .none kV__law_bad_lots dc__law_bad_lots pm__law_bad_lots an__law_bad_lots cd__law_bad_lots ct__law_bad_lots), sl__law_bad_lots⟩)
    (cc__law_bad_lots : PySem.W.codeIn K cd__law_bad_lots "_law_bad_lots" = true)
    (k__law_bad_lots : PySem.W.keepIn K (.ref f__law_bad_lots) = true)
    (g__law_bad_gambles : PySem.W.nsIn K mainGlobals "_law_bad_gambles" = some (some (.ref f__law_bad_gambles)))
    (l__law_bad_gambles : K.lookup f__law_bad_gambles = some ⟨oc__law_bad_gambles, od__law_bad_gambles, .func (PySem.W.fnOf "_law_bad_gambles" "_law_bad_gambles" (defArgs s__law_bad_gambles) (defBody s__law_bad_gambles) (defScope s__law_bad_gambles) .none kV__law_bad_gambles dc__law_bad_gambles pm__law_bad_gambles an__law_bad_gambles cd__law_bad_gambles ct__law_bad_gambles), sl__law_bad_gambles⟩)
    (cc__law_bad_gambles : PySem.W.codeIn K cd__law_bad_gambles "_law_bad_gambles" = true)
    (k__law_bad_gambles : PySem.W.keepIn K (.ref f__law_bad_gambles) = true)
    (g__law_system_due : PySem.W.nsIn K mainGlobals "_law_system_due" = some (some (.ref f__law_system_due)))
    (l__law_system_due : K.lookup f__law_system_due = some ⟨oc__law_system_due, od__law_system_due, .func (PySem.W.fnOf "_law_system_due" "_law_system_due" (defArgs s__law_system_due) (defBody s__law_system_due) (defScope s__law_system_due) .none kV__law_system_due dc__law_system_due pm__law_system_due an__law_system_due cd__law_system_due ct__law_system_due), sl__law_system_due⟩)
    (cc__law_system_due : PySem.W.codeIn K cd__law_system_due "_law_system_due" = true)
    (k__law_system_due : PySem.W.keepIn K (.ref f__law_system_due) = true)
    (g__law_number : PySem.W.nsIn K mainGlobals "_law_number" = some (some (.ref f__law_number)))
    (l__law_number : K.lookup f__law_number = some ⟨oc__law_number, od__law_number, .func (PySem.W.fnOf "_law_number" "_law_number" (defArgs s__law_number) (defBody s__law_number) (defScope s__law_number) .none kV__law_number dc__law_number pm__law_number an__law_number cd__law_number ct__law_number), sl__law_number⟩)
    (cc__law_number : PySem.W.codeIn K cd__law_number "_law_number" = true)
    (k__law_number : PySem.W.keepIn K (.ref f__law_number) = true)
    (g__law_ratios_fit : PySem.W.nsIn K mainGlobals "_law_ratios_fit" = some (some (.ref f__law_ratios_fit)))
    (l__law_ratios_fit : K.lookup f__law_ratios_fit = some ⟨oc__law_ratios_fit, od__law_ratios_fit, .func (PySem.W.fnOf "_law_ratios_fit" "_law_ratios_fit" (defArgs s__law_ratios_fit) (defBody s__law_ratios_fit) (defScope s__law_ratios_fit) .none kV__law_ratios_fit dc__law_ratios_fit pm__law_ratios_fit an__law_ratios_fit cd__law_ratios_fit ct__law_ratios_fit), sl__law_ratios_fit⟩)
    (cc__law_ratios_fit : PySem.W.codeIn K cd__law_ratios_fit "_law_ratios_fit" = true)
    (k__law_ratios_fit : PySem.W.keepIn K (.ref f__law_ratios_fit) = true)
    (g_law : PySem.W.nsIn K mainGlobals "law" = some (some (.ref f_law)))
    (l_law : K.lookup f_law = some ⟨oc_law, od_law, .func (PySem.W.fnOf "law" "law" (defArgs s_law) (defBody s_law) (defScope s_law) .none kV_law dc_law pm_law an_law cd_law ct_law), sl_law⟩)
    (cc_law : PySem.W.codeIn K cd_law "law" = true)
    (k_law : PySem.W.keepIn K (.ref f_law) = true)
    : LawG P w K mg 63 fa "script" := by
  have e := hfa.symm.trans (PySem.W.mg_of X G g_law)
  cases e
  have T : Txt K mg { a_SpanError := A_SpanError, a_NotAllowed := A_NotAllowed, a_TooLarge := A_TooLarge, a_Missing := A_Missing, a_BadPaper := A_BadPaper, a_common := f_common, d_common := PySem.W.fnOf "common" "common" (defArgs s_common) (defBody s_common) (defScope s_common) .none kV_common dc_common pm_common an_common cd_common ct_common, a_lowest := f_lowest, d_lowest := PySem.W.fnOf "lowest" "lowest" (defArgs s_lowest) (defBody s_lowest) (defScope s_lowest) .none kV_lowest dc_lowest pm_lowest an_lowest cd_lowest ct_lowest, a_is_ratio := f_is_ratio, d_is_ratio := PySem.W.fnOf "is_ratio" "is_ratio" (defArgs s_is_ratio) (defBody s_is_ratio) (defScope s_is_ratio) .none kV_is_ratio dc_is_ratio pm_is_ratio an_is_ratio cd_is_ratio ct_is_ratio, a_plus := f_plus, d_plus := PySem.W.fnOf "plus" "plus" (defArgs s_plus) (defBody s_plus) (defScope s_plus) .none kV_plus dc_plus pm_plus an_plus cd_plus ct_plus, a_times := f_times, d_times := PySem.W.fnOf "times" "times" (defArgs s_times) (defBody s_times) (defScope s_times) .none kV_times dc_times pm_times an_times cd_times ct_times, a_compare := f_compare, d_compare := PySem.W.fnOf "compare" "compare" (defArgs s_compare) (defBody s_compare) (defScope s_compare) .none kV_compare dc_compare pm_compare an_compare cd_compare ct_compare, a_total := f_total, d_total := PySem.W.fnOf "total" "total" (defArgs s_total) (defBody s_total) (defScope s_total) .none kV_total dc_total pm_total an_total cd_total ct_total, a_is_scene := f_is_scene, d_is_scene := PySem.W.fnOf "is_scene" "is_scene" (defArgs s_is_scene) (defBody s_is_scene) (defScope s_is_scene) .none kV_is_scene dc_is_scene pm_is_scene an_is_scene cd_is_scene ct_is_scene, a_check_lot := f_check_lot, d_check_lot := PySem.W.fnOf "check_lot" "check_lot" (defArgs s_check_lot) (defBody s_check_lot) (defScope s_check_lot) .none kV_check_lot dc_check_lot pm_check_lot an_check_lot cd_check_lot ct_check_lot, a_check_gamble := f_check_gamble, d_check_gamble := PySem.W.fnOf "check_gamble" "check_gamble" (defArgs s_check_gamble) (defBody s_check_gamble) (defScope s_check_gamble) .none kV_check_gamble dc_check_gamble pm_check_gamble an_check_gamble cd_check_gamble ct_check_gamble, a_is_plain := f_is_plain, d_is_plain := PySem.W.fnOf "is_plain" "is_plain" (defArgs s_is_plain) (defBody s_is_plain) (defScope s_is_plain) .none kV_is_plain dc_is_plain pm_is_plain an_is_plain cd_is_plain ct_is_plain, a_system_of := f_system_of, d_system_of := PySem.W.fnOf "system_of" "system_of" (defArgs s_system_of) (defBody s_system_of) (defScope s_system_of) .none kV_system_of dc_system_of pm_system_of an_system_of cd_system_of ct_system_of, a__law_stream := f__law_stream, d__law_stream := PySem.W.fnOf "_law_stream" "_law_stream" (defArgs s__law_stream) (defBody s__law_stream) (defScope s__law_stream) .none kV__law_stream dc__law_stream pm__law_stream an__law_stream cd__law_stream ct__law_stream, a__law_next := f__law_next, d__law_next := PySem.W.fnOf "_law_next" "_law_next" (defArgs s__law_next) (defBody s__law_next) (defScope s__law_next) .none kV__law_next dc__law_next pm__law_next an__law_next cd__law_next ct__law_next, a__law_word := f__law_word, d__law_word := PySem.W.fnOf "_law_word" "_law_word" (defArgs s__law_word) (defBody s__law_word) (defScope s__law_word) .none kV__law_word dc__law_word pm__law_word an__law_word cd__law_word ct__law_word, a__law_facts := f__law_facts, d__law_facts := PySem.W.fnOf "_law_facts" "_law_facts" (defArgs s__law_facts) (defBody s__law_facts) (defScope s__law_facts) .none kV__law_facts dc__law_facts pm__law_facts an__law_facts cd__law_facts ct__law_facts, a__law_scene := f__law_scene, d__law_scene := PySem.W.fnOf "_law_scene" "_law_scene" (defArgs s__law_scene) (defBody s__law_scene) (defScope s__law_scene) .none kV__law_scene dc__law_scene pm__law_scene an__law_scene cd__law_scene ct__law_scene, a__law_gcd := f__law_gcd, d__law_gcd := PySem.W.fnOf "_law_gcd" "_law_gcd" (defArgs s__law_gcd) (defBody s__law_gcd) (defScope s__law_gcd) .none kV__law_gcd dc__law_gcd pm__law_gcd an__law_gcd cd__law_gcd ct__law_gcd, a__law_ratio := f__law_ratio, d__law_ratio := PySem.W.fnOf "_law_ratio" "_law_ratio" (defArgs s__law_ratio) (defBody s__law_ratio) (defScope s__law_ratio) .none kV__law_ratio dc__law_ratio pm__law_ratio an__law_ratio cd__law_ratio ct__law_ratio, a__law_sum := f__law_sum, d__law_sum := PySem.W.fnOf "_law_sum" "_law_sum" (defArgs s__law_sum) (defBody s__law_sum) (defScope s__law_sum) .none kV__law_sum dc__law_sum pm__law_sum an__law_sum cd__law_sum ct__law_sum, a__law_times := f__law_times, d__law_times := PySem.W.fnOf "_law_times" "_law_times" (defArgs s__law_times) (defBody s__law_times) (defScope s__law_times) .none kV__law_times dc__law_times pm__law_times an__law_times cd__law_times ct__law_times, a__law_less := f__law_less, d__law_less := PySem.W.fnOf "_law_less" "_law_less" (defArgs s__law_less) (defBody s__law_less) (defScope s__law_less) .none kV__law_less dc__law_less pm__law_less an__law_less cd__law_less ct__law_less, a__law_lot := f__law_lot, d__law_lot := PySem.W.fnOf "_law_lot" "_law_lot" (defArgs s__law_lot) (defBody s__law_lot) (defScope s__law_lot) .none kV__law_lot dc__law_lot pm__law_lot an__law_lot cd__law_lot ct__law_lot, a__law_gamble := f__law_gamble, d__law_gamble := PySem.W.fnOf "_law_gamble" "_law_gamble" (defArgs s__law_gamble) (defBody s__law_gamble) (defScope s__law_gamble) .none kV__law_gamble dc__law_gamble pm__law_gamble an__law_gamble cd__law_gamble ct__law_gamble, a__law_checked := f__law_checked, d__law_checked := PySem.W.fnOf "_law_checked" "_law_checked" (defArgs s__law_checked) (defBody s__law_checked) (defScope s__law_checked) .none kV__law_checked dc__law_checked pm__law_checked an__law_checked cd__law_checked ct__law_checked, a__law_bad_lots := f__law_bad_lots, d__law_bad_lots := PySem.W.fnOf "_law_bad_lots" "_law_bad_lots" (defArgs s__law_bad_lots) (defBody s__law_bad_lots) (defScope s__law_bad_lots) .none kV__law_bad_lots dc__law_bad_lots pm__law_bad_lots an__law_bad_lots cd__law_bad_lots ct__law_bad_lots, a__law_bad_gambles := f__law_bad_gambles, d__law_bad_gambles := PySem.W.fnOf "_law_bad_gambles" "_law_bad_gambles" (defArgs s__law_bad_gambles) (defBody s__law_bad_gambles) (defScope s__law_bad_gambles) .none kV__law_bad_gambles dc__law_bad_gambles pm__law_bad_gambles an__law_bad_gambles cd__law_bad_gambles ct__law_bad_gambles, a__law_system_due := f__law_system_due, d__law_system_due := PySem.W.fnOf "_law_system_due" "_law_system_due" (defArgs s__law_system_due) (defBody s__law_system_due) (defScope s__law_system_due) .none kV__law_system_due dc__law_system_due pm__law_system_due an__law_system_due cd__law_system_due ct__law_system_due, a__law_number := f__law_number, d__law_number := PySem.W.fnOf "_law_number" "_law_number" (defArgs s__law_number) (defBody s__law_number) (defScope s__law_number) .none kV__law_number dc__law_number pm__law_number an__law_number cd__law_number ct__law_number, a__law_ratios_fit := f__law_ratios_fit, d__law_ratios_fit := PySem.W.fnOf "_law_ratios_fit" "_law_ratios_fit" (defArgs s__law_ratios_fit) (defBody s__law_ratios_fit) (defScope s__law_ratios_fit) .none kV__law_ratios_fit dc__law_ratios_fit pm__law_ratios_fit an__law_ratios_fit cd__law_ratios_fit ct__law_ratios_fit, a_law := fa, d_law := PySem.W.fnOf "law" "law" (defArgs s_law) (defBody s_law) (defScope s_law) .none kV_law dc_law pm_law an_law cd_law ct_law } :=
    { n_abs := PySem.W.mg_none_of X G z_abs,
      n_all := PySem.W.mg_none_of X G z_all,
      n_int := PySem.W.mg_none_of X G z_int,
      n_isinstance := PySem.W.mg_none_of X G z_isinstance,
      n_len := PySem.W.mg_none_of X G z_len,
      n_max := PySem.W.mg_none_of X G z_max,
      n_range := PySem.W.mg_none_of X G z_range,
      n_repr := PySem.W.mg_none_of X G z_repr,
      n_set := PySem.W.mg_none_of X G z_set,
      n_sorted := PySem.W.mg_none_of X G z_sorted,
      n_sum := PySem.W.mg_none_of X G z_sum,
      n_tuple := PySem.W.mg_none_of X G z_tuple,
      c_MAX_OPTIONS := ⟨.int 4, _, PySem.W.mg_of X G v_MAX_OPTIONS, ⟨_, rfl⟩, fun F => .int 4⟩,
      c_MAX_PART := ⟨.int 1000, _, PySem.W.mg_of X G v_MAX_PART, ⟨_, rfl⟩, fun F => .int 1000⟩,
      c_MAX_STATES := ⟨.int 8, _, PySem.W.mg_of X G v_MAX_STATES, ⟨_, rfl⟩, fun F => .int 8⟩,
      c_NOTHING := ⟨.ref A_NOTHING, _, PySem.W.mg_of X G v_NOTHING, rfl, fun F => sh_const (ts := [(0, t_NOTHING_0), (1, t_NOTHING_1)]) vl_NOTHING (by simp)⟩,
      c_WHOLE := ⟨.ref A_WHOLE, _, PySem.W.mg_of X G v_WHOLE, rfl, fun F => sh_const (ts := [(1, t_WHOLE_0), (1, t_WHOLE_1)]) vl_WHOLE (by simp)⟩,
      k_SpanError := PySem.W.mg_of X G m_SpanError,
      p_SpanError := p_SpanError,
      s_SpanError := s_SpanError,
      y_SpanError := y_SpanError,
      h_SpanError := h_SpanError,
      k_NotAllowed := PySem.W.mg_of X G m_NotAllowed,
      p_NotAllowed := p_NotAllowed,
      e_NotAllowed := e_NotAllowed,
      s_NotAllowed := s_NotAllowed,
      y_NotAllowed := y_NotAllowed,
      h_NotAllowed := h_NotAllowed,
      k_TooLarge := PySem.W.mg_of X G m_TooLarge,
      p_TooLarge := p_TooLarge,
      s_TooLarge := s_TooLarge,
      y_TooLarge := y_TooLarge,
      h_TooLarge := h_TooLarge,
      k_Missing := PySem.W.mg_of X G m_Missing,
      p_Missing := p_Missing,
      s_Missing := s_Missing,
      y_Missing := y_Missing,
      h_Missing := h_Missing,
      k_BadPaper := PySem.W.mg_of X G m_BadPaper,
      p_BadPaper := p_BadPaper,
      s_BadPaper := s_BadPaper,
      y_BadPaper := y_BadPaper,
      h_BadPaper := h_BadPaper,
      x_NotAllowed := ⟨xg_NotAllowed, xk_NotAllowed, s_NotAllowed, h_NotAllowed, xa_NotAllowed, hn0, ht0, xm_NotAllowed⟩,
      i_NotAllowed_BadPaper := kitOne_of u_NotAllowed_NotAllowed w_NotAllowed_BadPaper h_BadPaper y_BadPaper,
      i_NotAllowed_Missing := kitOne_of u_NotAllowed_NotAllowed w_NotAllowed_Missing h_Missing y_Missing,
      i_NotAllowed_SpanError := kitOne_of u_NotAllowed_NotAllowed w_NotAllowed_SpanError h_SpanError y_SpanError,
      i_NotAllowed_TooLarge := kitOne_of u_NotAllowed_NotAllowed w_NotAllowed_TooLarge h_TooLarge y_TooLarge,
      u_SpanError_NotAllowed := u_SpanError_NotAllowed,
      u_NotAllowed_NotAllowed := u_NotAllowed_NotAllowed,
      u_TooLarge_NotAllowed := u_TooLarge_NotAllowed,
      u_Missing_NotAllowed := u_Missing_NotAllowed,
      u_BadPaper_NotAllowed := u_BadPaper_NotAllowed,
      g_common := PySem.W.mg_of X G g_common,
      F_common := fun_mk (st := s_common) l_common cc_common k_common,
      g_lowest := PySem.W.mg_of X G g_lowest,
      F_lowest := fun_mk (st := s_lowest) l_lowest cc_lowest k_lowest,
      g_is_ratio := PySem.W.mg_of X G g_is_ratio,
      F_is_ratio := fun_mk (st := s_is_ratio) l_is_ratio cc_is_ratio k_is_ratio,
      g_plus := PySem.W.mg_of X G g_plus,
      F_plus := fun_mk (st := s_plus) l_plus cc_plus k_plus,
      g_times := PySem.W.mg_of X G g_times,
      F_times := fun_mk (st := s_times) l_times cc_times k_times,
      g_compare := PySem.W.mg_of X G g_compare,
      F_compare := fun_mk (st := s_compare) l_compare cc_compare k_compare,
      g_total := PySem.W.mg_of X G g_total,
      F_total := fun_mk (st := s_total) l_total cc_total k_total,
      g_is_scene := PySem.W.mg_of X G g_is_scene,
      F_is_scene := fun_mk (st := s_is_scene) l_is_scene cc_is_scene k_is_scene,
      g_check_lot := PySem.W.mg_of X G g_check_lot,
      F_check_lot := fun_mk (st := s_check_lot) l_check_lot cc_check_lot k_check_lot,
      g_check_gamble := PySem.W.mg_of X G g_check_gamble,
      F_check_gamble := fun_mk (st := s_check_gamble) l_check_gamble cc_check_gamble k_check_gamble,
      g_is_plain := PySem.W.mg_of X G g_is_plain,
      F_is_plain := fun_mk (st := s_is_plain) l_is_plain cc_is_plain k_is_plain,
      g_system_of := PySem.W.mg_of X G g_system_of,
      F_system_of := fun_mk (st := s_system_of) l_system_of cc_system_of k_system_of,
      g__law_stream := PySem.W.mg_of X G g__law_stream,
      F__law_stream := fun_mk (st := s__law_stream) l__law_stream cc__law_stream k__law_stream,
      g__law_next := PySem.W.mg_of X G g__law_next,
      F__law_next := fun_mk (st := s__law_next) l__law_next cc__law_next k__law_next,
      g__law_word := PySem.W.mg_of X G g__law_word,
      F__law_word := fun_mk (st := s__law_word) l__law_word cc__law_word k__law_word,
      g__law_facts := PySem.W.mg_of X G g__law_facts,
      F__law_facts := fun_mk (st := s__law_facts) l__law_facts cc__law_facts k__law_facts,
      g__law_scene := PySem.W.mg_of X G g__law_scene,
      F__law_scene := fun_mk (st := s__law_scene) l__law_scene cc__law_scene k__law_scene,
      g__law_gcd := PySem.W.mg_of X G g__law_gcd,
      F__law_gcd := fun_mk (st := s__law_gcd) l__law_gcd cc__law_gcd k__law_gcd,
      g__law_ratio := PySem.W.mg_of X G g__law_ratio,
      F__law_ratio := fun_mk (st := s__law_ratio) l__law_ratio cc__law_ratio k__law_ratio,
      g__law_sum := PySem.W.mg_of X G g__law_sum,
      F__law_sum := fun_mk (st := s__law_sum) l__law_sum cc__law_sum k__law_sum,
      g__law_times := PySem.W.mg_of X G g__law_times,
      F__law_times := fun_mk (st := s__law_times) l__law_times cc__law_times k__law_times,
      g__law_less := PySem.W.mg_of X G g__law_less,
      F__law_less := fun_mk (st := s__law_less) l__law_less cc__law_less k__law_less,
      g__law_lot := PySem.W.mg_of X G g__law_lot,
      F__law_lot := fun_mk (st := s__law_lot) l__law_lot cc__law_lot k__law_lot,
      g__law_gamble := PySem.W.mg_of X G g__law_gamble,
      F__law_gamble := fun_mk (st := s__law_gamble) l__law_gamble cc__law_gamble k__law_gamble,
      g__law_checked := PySem.W.mg_of X G g__law_checked,
      F__law_checked := fun_mk (st := s__law_checked) l__law_checked cc__law_checked k__law_checked,
      g__law_bad_lots := PySem.W.mg_of X G g__law_bad_lots,
      F__law_bad_lots := fun_mk (st := s__law_bad_lots) l__law_bad_lots cc__law_bad_lots k__law_bad_lots,
      g__law_bad_gambles := PySem.W.mg_of X G g__law_bad_gambles,
      F__law_bad_gambles := fun_mk (st := s__law_bad_gambles) l__law_bad_gambles cc__law_bad_gambles k__law_bad_gambles,
      g__law_system_due := PySem.W.mg_of X G g__law_system_due,
      F__law_system_due := fun_mk (st := s__law_system_due) l__law_system_due cc__law_system_due k__law_system_due,
      g__law_number := PySem.W.mg_of X G g__law_number,
      F__law_number := fun_mk (st := s__law_number) l__law_number cc__law_number k__law_number,
      g__law_ratios_fit := PySem.W.mg_of X G g__law_ratios_fit,
      F__law_ratios_fit := fun_mk (st := s__law_ratios_fit) l__law_ratios_fit cc__law_ratios_fit k__law_ratios_fit,
      g_law := PySem.W.mg_of X G g_law,
      F_law := fun_mk (st := s_law) l_law cc_law k_law }
  exact ⟨_, c_law, 9, room_caller _, fun s u => .of_eq rfl, fun base => ok_law T, hp⟩
end
end K84

namespace K84
open PySem DV L2
/-- the stream's numbers -/
structure NsOk (ns : List Int) : Prop where
  pos : 0 < ns.length
  len : ns.length ≤ 100000
abbrev stD (ns : List Int) (c : Nat) : List D := [.list (ns.map .int), .int c]
theorem next_spec {ns : List Int} (h : NsOk ns) (c : Nat) (hc : c < 2 ^ 60) (many : Nat) (hm : 0 < many) :
    ∃ r : Nat, r < many ∧ c__law_next (stD ns c) [.int many] = .ok (.int r) (stD ns (c + 1)) := by
  obtain ⟨hl, hl2⟩ := h
  have e0 : ((c : Int) + 1) = ((c + 1 : Nat) : Int) := by omega
  obtain ⟨t, ht, h1⟩ : ∃ t : Nat, t ≤ c + 1 ∧ dFdiv (.int ((c : Int) + 1)) (.int (ns.length : Int)) = some (.int (t : Int)) := ⟨(c + 1) / ns.length, Nat.div_le_self _ _, by rw [e0]; exact dFdiv_nat hl (by omega)⟩
  obtain ⟨i, hi, h2⟩ : ∃ i : Nat, i < ns.length ∧ dMod (.int ((c : Int) + 1)) (.int (ns.length : Int)) = some (.int (i : Int)) := ⟨(c + 1) % ns.length, Nat.mod_lt _ hl, by rw [e0]; exact dMod_nat hl⟩
  obtain ⟨z, hz⟩ : ∃ z, ns[i]? = some z := ⟨_, List.getElem?_eq_getElem hi⟩
  obtain ⟨u, h3⟩ : ∃ u : Int, dMul (.int (t : Int)) (.int 389) = some (.int u) := ⟨_, dMul_nat (b := 389) (lt_big (by omega)) (lt_big (by omega))⟩
  obtain ⟨v, hv, h4⟩ : ∃ v : Nat, v < 2 ^ 1000 ∧ dMul (.int ((c : Int) + 1)) (.int (t : Int)) = some (.int (v : Int)) := ⟨(c + 1) * t, by
    have : (c + 1) * t ≤ (2 ^ 60) * (2 ^ 60) := Nat.mul_le_mul (by omega) (by omega)
    exact Nat.lt_of_le_of_lt this (by decide +kernel), by rw [e0]; exact dMul_nat (lt_big (by omega)) (lt_big (by omega))⟩
  obtain ⟨x, h5⟩ : ∃ x : Int, dMul (.int (v : Int)) (.int 17) = some (.int x) := ⟨_, dMul_nat (b := 17) hv (lt_big (by omega))⟩
  obtain ⟨r, hr, h6⟩ := dMod_pos (i := z + u + x) hm
  refine ⟨r, hr, ?_⟩
  simp [c__law_next, mfunS, m__law_next, toS, stD, h1, h2, h3, h4, h5, hz, h6, ioAt]
theorem digits_loop (d0 cell : D) (e : SV) (xs : List Int) (hx : xs.length ≤ 900000) (k0 : SV) (rest : Int) : ∃ ys : List Int, ys.length ≤ xs.length + 60 ∧ xs.length < ys.length ∧ ∃ a b, mForL (gN 4) b__law_stream_1 (rngD 60)
    [.dat d0, .own (xs.map .int), .dat cell, .dat (.int rest), k0, e] = .nx [.dat d0, .own (ys.map .int), .dat cell, a, b, e] := by
  obtain ⟨s', h1, ys, a, b, h2, h3, h4⟩ := forL_brk
    (I := fun ds s => ∃ (ys : List Int) (r : Int) (k : SV), (∀ d ∈ ds, ∃ k : Nat, d = .int (k : Int)) ∧ ys.length + ds.length ≤ xs.length + 60 ∧ (xs.length ≤ ys.length ∧ (xs.length < ys.length ∨ 0 < ds.length)) ∧ s = [.dat d0, .own (ys.map .int), .dat cell, .dat (.int r), k, e])
    (J := fun s => ∃ (ys : List Int) (a b : SV), ys.length ≤ xs.length + 60 ∧ xs.length < ys.length ∧ s = [.dat d0, .own (ys.map .int), .dat cell, a, b, e])
    (g := gN 4) (b := b__law_stream_1)
    (fun s ⟨ys, r, k, _, h2, h3, h4⟩ => ⟨ys, _, _, by simpa using h2, by simpa using h3.2, h4⟩)
    (fun d ds s ⟨ys, r, k, h1, h2, h3, h4⟩ => by
      obtain ⟨k', rfl⟩ := h1 d List.mem_cons_self
      subst h4
      have q1 : dMod (.int r) (.int 1009) = some (.int (r.fmod 1009)) := dMod_int (by decide)
      have q2 : dFdiv (.int r) (.int 1009) = some (.int (r.fdiv 1009)) := dFdiv_int (by decide) (Nat.lt_of_lt_of_le (by decide : (1009 : Int).natAbs < 2 ^ 64) (by decide +kernel))
      have hl : ys.length < 1000000 := by simp only [List.length_cons] at h2; omega
      refine ⟨_, [.dat d0, .own ((ys ++ [r.fmod 1009]).map .int), .dat cell, .dat (.int (r.fdiv 1009)), .dat (.int k'), e], rfl, ?_⟩
      by_cases q3 : r.fdiv 1009 = 0
      · refine .inr ⟨?_, ys ++ [r.fmod 1009], _, _, ?_, ?_, rfl⟩
        · simp [b__law_stream_1, toS, q1, q2, q3, hl]
        · simp only [List.length_cons, List.length_append, List.length_nil] at h2 ⊢; omega
        · simp only [List.length_cons, List.length_append, List.length_nil] at h2 h3 ⊢; omega
      · refine .inl ⟨.inl ?_, ys ++ [r.fmod 1009], _, _, fun d hd => h1 d (List.mem_cons_of_mem _ hd), ?_, ?_, rfl⟩
        · simp [b__law_stream_1, toS, q1, q2, q3, hl]
        · simp only [List.length_cons, List.length_append, List.length_nil] at h2 ⊢; omega
        · simp only [List.length_cons, List.length_append, List.length_nil] at h2 h3 ⊢; omega)
    (rngD 60) _ ⟨xs, rest, k0, fun d hd => by obtain ⟨k, _, e⟩ := rngD_all hd; exact ⟨k, e⟩, by simp [rngD], by simp [rngD], rfl⟩
  exact ⟨ys, h2, h3, a, b, by rw [h1, h4]⟩
theorem mixed_loop (d0 cell r0 : D) (xs : List Int) (hx : xs.length ≤ 900000) (k0 : SV) (mixed : Nat) (hm : mixed < 2147483647) : ∃ ys : List Int, ys.length ≤ xs.length + 10 ∧ xs.length < ys.length ∧ ∃ a b, mForL (gN 4) b__law_stream_2 (rngD 10)
    [.dat d0, .own (xs.map .int), .dat cell, .dat r0, k0, .dat (.int mixed)] = .nx [.dat d0, .own (ys.map .int), .dat cell, .dat r0, a, b] := by
  obtain ⟨s', h1, ys, m', k', _, h2, h3, _, h4⟩ := forL_inv
    (I := fun ds s => ∃ (ys : List Int) (m : Nat) (k : SV), (∀ d ∈ ds, ∃ k : Nat, k < 10 ∧ d = .int (k : Int)) ∧ ys.length + ds.length ≤ xs.length + 10 ∧ (xs.length ≤ ys.length ∧ (xs.length < ys.length ∨ 0 < ds.length)) ∧ m < 2147483647 ∧ s = [.dat d0, .own (ys.map .int), .dat cell, .dat r0, k, .dat (.int m)])
    (g := gN 4) (b := b__law_stream_2)
    (fun d ds s ⟨ys, m, k, h1, h2, h3, h5, h4⟩ => by
      obtain ⟨k', hk', rfl⟩ := h1 d List.mem_cons_self
      subst h4
      have hl : ys.length < 1000000 := by simp only [List.length_cons] at h2; omega
      obtain ⟨u1, q1⟩ : ∃ u : Int, dMul (.int (m : Int)) (.int 48271) = some (.int u) := ⟨_, dMul_nat (b := 48271) (lt_big (by omega)) (lt_big (by omega))⟩
      obtain ⟨u2, q2⟩ : ∃ u : Int, dMul (.int 7) (.int (k' : Int)) = some (.int u) := ⟨_, dMul_nat (a := 7) (lt_big (by omega)) (lt_big (by omega))⟩
      obtain ⟨m2, hm2, q3⟩ := dMod_pos (i := u1 + u2 + 11) (b := 2147483647) (by omega)
      obtain ⟨u3, q4⟩ : ∃ u : Int, dMul (.int (m2 : Int)) (.int 69621) = some (.int u) := ⟨_, dMul_nat (b := 69621) (lt_big (by omega)) (lt_big (by omega))⟩
      obtain ⟨m3, hm3, q5⟩ := dMod_pos (i := u3 + (k' : Int)) (b := 2147483629) (by omega)
      obtain ⟨m4, hm4, q6⟩ := dMod_pos (i := (m3 : Int)) (b := 1009) (by omega)
      have q3' : dMod (.int (u1 + u2 + 11)) (.int 2147483647) = some (.int (m2 : Int)) := q3
      have q5' : dMod (.int (u3 + (k' : Int))) (.int 2147483629) = some (.int (m3 : Int)) := q5
      have q6' : dMod (.int (m3 : Int)) (.int 1009) = some (.int (m4 : Int)) := q6
      refine ⟨_, [.dat d0, .own ((ys ++ [(m4 : Int)]).map .int), .dat cell, .dat r0, .dat (.int k'), .dat (.int m2)], rfl, .inl ?_, ys ++ [(m4 : Int)], m2, _, fun d hd => h1 d (List.mem_cons_of_mem _ hd), ?_, ?_, hm2, rfl⟩
      · simp [b__law_stream_2, toS, q1, q2, q3', q4, q5', q6', hl]
      · simp only [List.length_cons, List.length_append, List.length_nil] at h2 ⊢; omega
      · simp only [List.length_cons, List.length_append, List.length_nil] at h2 h3 ⊢; omega)
    (rngD 10) _ ⟨xs, mixed, k0, fun d hd => rngD_all hd, by simp [rngD], by simp [rngD], hm, rfl⟩
  exact ⟨ys, by simpa using h2, by simpa using h3.2, _, _, by rw [h1, h4]⟩
theorem stream_spec (script : List Int) (h : script.length ≤ 63) : ∃ ns, NsOk ns ∧ c__law_stream [.list (script.map .int)] = .ok (.list (ns.map .int)) := by
  have hp : dPow (.int 10) (.int 18) = some (.int 1000000000000000000) := by rfl
  have hcl : (cutL script none (some 63)).length ≤ 63 := Nat.le_trans (cutL_len _ _ _) h
  obtain ⟨s', h1, ys, a, b, c, e, _, h2, h3⟩ := forL_inv
    (I := fun ds s => ∃ (ys : List Int) (a b c e : SV), (∀ d ∈ ds, ∃ i : Int, d = .int i) ∧ ys.length + 60 * ds.length ≤ 60 * 63 ∧ s = [.dat (.list (script.map .int)), .own (ys.map .int), a, b, c, e])
    (g := gN 2) (b := b__law_stream_3)
    (fun d ds s ⟨ys, a, b, c, e, h1, h2, h3⟩ => by
      obtain ⟨i, rfl⟩ := h1 d List.mem_cons_self
      subst h3
      simp only [List.length_cons] at h2
      by_cases hi : 1000000000000000000 ≤ (if i < 0 then -i else i)
      · obtain ⟨zs, z1, z2, a', b', z3⟩ := digits_loop (.list (script.map .int)) (.int i) e ys (by omega) c (if i < 0 then -i else i)
        refine ⟨_, [.dat (.list (script.map .int)), .own (zs.map .int), .dat (.int i), a', b', e], rfl, .inl ?_, zs, _, _, _, _, fun d hd => h1 d (List.mem_cons_of_mem _ hd), ?_, rfl⟩
        · simp [b__law_stream_3, toS, hp, hi, z3]
        · omega
      · obtain ⟨m, hm, q⟩ := dMod_pos (i := (if i < 0 then -i else i)) (b := 2147483647) (by omega)
        have q' : dMod (.int (if i < 0 then -i else i)) (.int 2147483647) = some (.int (m : Int)) := q
        obtain ⟨zs, z1, z2, a', b', z3⟩ := mixed_loop (.list (script.map .int)) (.int i) (.int (if i < 0 then -i else i)) ys (by omega) c m hm
        refine ⟨_, [.dat (.list (script.map .int)), .own (zs.map .int), .dat (.int i), .dat (.int (if i < 0 then -i else i)), a', b'], rfl, .inl ?_, zs, _, _, _, _, fun d hd => h1 d (List.mem_cons_of_mem _ hd), ?_, rfl⟩
        · simp [b__law_stream_3, toS, hp, hi, q', z3]
        · omega)
    ((cutL script none (some 63)).map .int) [.dat (.list (script.map .int)), .own [], .un, .un, .un, .un] ⟨[], .un, .un, .un, .un, fun d hd => by
      obtain ⟨i, _, e⟩ := List.mem_map.mp hd
      exact ⟨i, e.symm⟩, by simp; omega, rfl⟩
  subst h3
  by_cases hy : ys.length = 0
  · have hy' : ys = [] := List.length_eq_zero_iff.mp hy
    subst hy'
    refine ⟨[0], ⟨by simp, by simp⟩, ?_⟩
    simp [c__law_stream, mfunP, m__law_stream, toS, cutL_map, h1]
  · refine ⟨ys, ⟨by omega, by simp at h2; omega⟩, ?_⟩
    have hy2 : ¬ (ys.length : Int) = 0 := by omega
    simp [c__law_stream, mfunP, m__law_stream, toS, cutL_map, h1, hy, hy2]
abbrev knownD : List D := [.str "and", .str "or", .str "not", .str "some", .str "all", .str "point", .str "begins", .str "begun", .str "ends", .str "ended", .str "during", .str "around", .str "meets", .str "met", .str "later", .str "earlier"]
theorem known_shaped : SeqAt.shaped (.list knownD) = true := by decide +kernel
theorem word_in {ns : List Int} (h : NsOk ns) (taken turn : D) : ∀ (n : Nat) (c : Nat) (hc : c + n < 2 ^ 60) (w : Str) (m : Nat) (hw : LW m w) (hm : m + n ≤ 1000) (k : SV), ∃ (w' : Str) (k' : SV), LW (m + n) w' ∧
    mForL (gN 5) b__law_word_1 (rngD n) [.io (stD ns c), .dat taken, .dat (.list knownD), .dat turn, .dat (.str w), k] = .nx [.io (stD ns (c + n)), .dat taken, .dat (.list knownD), .dat turn, .dat (.str w'), k'] := by
  intro n c hc w m hw hm k
  obtain ⟨s', h1, c', w', k', m', _, h2, h3, h4, h5⟩ := forL_inv
    (I := fun ds s => ∃ (c' : Nat) (w' : Str) (k' : SV) (m' : Nat), (∀ d ∈ ds, ∃ k : Nat, d = .int (k : Int)) ∧ c' + ds.length = c + n ∧ m' + ds.length = m + n ∧ LW m' w' ∧ s = [.io (stD ns c'), .dat taken, .dat (.list knownD), .dat turn, .dat (.str w'), k'])
    (g := gN 5) (b := b__law_word_1) (fun d ds s ⟨c', w', k', m', h1, h2, h3, h4, h5⟩ => by
      obtain ⟨k'', rfl⟩ := h1 d List.mem_cons_self
      subst h5
      simp only [List.length_cons] at h2 h3
      obtain ⟨r, hr, hn⟩ := next_spec h c' (by omega) 6 (by omega)
      obtain ⟨ch, hch, hd⟩ := letter_at hr
      have hn' : c__law_next [.list (ns.map .int), .int (c' : Int)] [.int 6] = .ok (.int r) (stD ns (c' + 1)) := hn
      have hl : dAdd (.str w') (.str ⟨#[ch]⟩) = some (.str (w' ++ ⟨#[ch]⟩)) := dAdd_str (by have := h4.len; show w'.length + 1 ≤ _; omega)
      refine ⟨_, [.io (stD ns (c' + 1)), .dat taken, .dat (.list knownD), .dat turn, .dat (.str (w' ++ ⟨#[ch]⟩)), .dat (.int k'')], rfl, .inl ?_, c' + 1, _, _, m' + 1, fun d hd => h1 d (List.mem_cons_of_mem _ hd), by omega, by omega, lw_add h4 hch, rfl⟩
      simp [b__law_word_1, toS, stD, hn', hd, hl])
    (rngD n) _ ⟨c, w, k, m, fun d hd => by obtain ⟨k, _, e⟩ := rngD_all hd; exact ⟨k, e⟩, by simp [rngD], by simp [rngD], hw, rfl⟩
  simp only [List.length_nil, Nat.add_zero] at h2 h3
  subst h2 h3
  exact ⟨w', k', h4, by rw [h1, h5]⟩
theorem six_at {r : Nat} (h : r < 6) : ∃ n : Nat, 1 ≤ n ∧ n ≤ 8 ∧ atI [PyData.int 1, .int 1, .int 1, .int 2, .int 3, .int 8] (r : Int) = some (.int (n : Int)) := by
  have : r = 0 ∨ r = 1 ∨ r = 2 ∨ r = 3 ∨ r = 4 ∨ r = 5 := by omega
  rcases this with rfl | rfl | rfl | rfl | rfl | rfl
  · exact ⟨1, by omega, by omega, rfl⟩
  · exact ⟨1, by omega, by omega, rfl⟩
  · exact ⟨1, by omega, by omega, rfl⟩
  · exact ⟨2, by omega, by omega, rfl⟩
  · exact ⟨3, by omega, by omega, rfl⟩
  · exact ⟨8, by omega, by omega, rfl⟩
theorem word_spec {ns : List Int} (h : NsOk ns) (c : Nat) (hc : c + 400 < 2 ^ 60) (taken : List Str) (ht : ∀ x ∈ taken, PyData.strOk x = true) : ∃ (c' : Nat) (w : Str), c ≤ c' ∧ c' ≤ c + 400 ∧
    c__law_word (stD ns c) [.list (taken.map .str)] = .ok (.str w) (stD ns c') ∧ ((LW 8 w ∧ w ∉ taken) ∨ w = wN (taken.length % 16)) := by
  have hsh := (shaped_strs ht).1
  have key := forL_any
    (I := fun ds s => ∃ (c' : Nat) (a b k : SV), (∀ d ∈ ds, ∃ k : Nat, d = .int (k : Int)) ∧ c ≤ c' ∧ c' + 10 * ds.length ≤ c + 400 ∧ s = [.io (stD ns c'), .dat (.list (taken.map .str)), .dat (.list knownD), a, b, k])
    (Out := fun o => ∃ (c' : Nat) (a b k : SV), c ≤ c' ∧ c' ≤ c + 400 ∧ ((∃ w, o = .rt (.str w) [.io (stD ns c'), .dat (.list (taken.map .str)), .dat (.list knownD), a, b, k] ∧ LW 8 w ∧ w ∉ taken) ∨ o = .nx [.io (stD ns c'), .dat (.list (taken.map .str)), .dat (.list knownD), a, b, k]))
    (g := gN 3) (b := b__law_word_2) (fun s ⟨c', a, b, k, _, h2, h3, h4⟩ => ⟨c', a, b, k, h2, by simpa using h3, .inr (by rw [h4])⟩)
    (fun d ds s ⟨c', a, b, k, h1, h2, h3, h4⟩ => by
      obtain ⟨k'', rfl⟩ := h1 d List.mem_cons_self
      subst h4
      simp only [List.length_cons] at h3
      obtain ⟨r, hr, hn⟩ := next_spec h c' (by omega) 6 (by omega)
      have hn' : c__law_next [.list (ns.map .int), .int (c' : Int)] [.int 6] = .ok (.int r) (stD ns (c' + 1)) := hn
      obtain ⟨n, hn1, hn2, hat⟩ := six_at hr
      obtain ⟨w, k', hw, hloop⟩ := word_in h (.list (taken.map .str)) (.int k'') n (c' + 1) (by omega) "" 0 lw_nil (by omega) k
      have hws : SeqAt.shaped (.str w) = true := shaped_str hw.ok
      have q1 : dNotIn (.str w) (.list (taken.map .str)) = some (.bool (!decide (w ∈ taken))) := by rw [dNotIn_list hws hsh, any_strs]
      have hbig : (n : Int) ≤ 1000000000 := by omega
      have hbig2 : (-1000000000 : Int) ≤ (n : Int) := by omega
      have q2 : dNotIn (.str w) (.list knownD) = some (.bool (!(knownD.any fun z => PyData.eqv z (.str w)))) := dNotIn_list hws known_shaped
      by_cases hin : w ∈ taken
      · refine ⟨_, rfl, .inl ⟨[.io (stD ns (c' + 1 + n)), .dat (.list (taken.map .str)), .dat (.list knownD), .dat (.int k''), .dat (.str w), k'], .inl ?_, c' + 1 + n, _, _, _, fun d hd => h1 d (List.mem_cons_of_mem _ hd), by omega, by omega, rfl⟩⟩
        simp [b__law_word_2, toS, hn', hat, hloop, q1, hin, hbig, hbig2]
      · cases hk : knownD.any fun z => PyData.eqv z (.str w) with
        | true =>
          rw [hk] at q2
          refine ⟨_, rfl, .inl ⟨[.io (stD ns (c' + 1 + n)), .dat (.list (taken.map .str)), .dat (.list knownD), .dat (.int k''), .dat (.str w), k'], .inl ?_, c' + 1 + n, _, _, _, fun d hd => h1 d (List.mem_cons_of_mem _ hd), by omega, by omega, rfl⟩⟩
          simp [b__law_word_2, toS, hn', hat, hloop, q1, hin, q2, hbig, hbig2]
        | false =>
          rw [hk] at q2
          refine ⟨_, rfl, .inr (.inr (.inl ⟨.str w, [.io (stD ns (c' + 1 + n)), .dat (.list (taken.map .str)), .dat (.list knownD), .dat (.int k''), .dat (.str w), k'], ?_, c' + 1 + n, .dat (.int k''), .dat (.str w), k', by omega, by omega, .inl ⟨w, rfl, hw.mono (by omega), hin⟩⟩))⟩
          simp [b__law_word_2, toS, hn', hat, hloop, q1, hin, q2, hbig, hbig2])
    (rngD 40) [.io (stD ns c), .dat (.list (taken.map .str)), .dat (.list knownD), .un, .un, .un] ⟨c, .un, .un, .un, fun d hd => by obtain ⟨k, _, e⟩ := rngD_all hd; exact ⟨k, e⟩, by omega, by simp [rngD], rfl⟩
  obtain ⟨c', a, b, k, h1, h2, ⟨w, h3, h4, h5⟩ | h3⟩ := key
  · refine ⟨c', w, h1, h2, ?_, .inl ⟨h4, h5⟩⟩
    simp [c__law_word, mfunS, m__law_word, toS, h3, ioAt]
  · refine ⟨c', wN (taken.length % 16), h1, h2, ?_, .inr rfl⟩
    have hk : taken.length % 16 < 16 := Nat.mod_lt _ (by omega)
    have q3 : dMod (.int (taken.length : Int)) (.int 16) = some (.int ((taken.length % 16 : Nat) : Int)) := dMod_nat (b := 16) (by omega)
    generalize taken.length % 16 = k16 at hk q3 ⊢
    obtain ⟨d, q1, q2⟩ := wN_at hk
    simp [c__law_word, mfunS, m__law_word, toS, h3, ioAt, q1, q2, q3]
/-- the facts -/
structure FactsOk (facts : List Str) : Prop where
  nd : facts.Nodup
  fw : ∀ x ∈ facts, LW 8 x ∨ ∃ i, i < 16 ∧ x = wN i
theorem wN_ok {k : Nat} (h : k < 16) : PyData.strOk (wN k) = true := by
  unfold PyData.strOk wN
  simp
  omega
theorem FactsOk.ok {facts : List Str} (h : FactsOk facts) : ∀ x ∈ facts, PyData.strOk x = true := fun x hx => by
  rcases h.fw x hx with h | ⟨i, hi, rfl⟩
  · exact h.ok
  · exact wN_ok hi
theorem FactsOk.len {facts : List Str} (h : FactsOk facts) : ∀ x ∈ facts, x.length ≤ 8 := fun x hx => by
  rcases h.fw x hx with h | ⟨i, hi, rfl⟩
  · exact h.len
  · show 2 ≤ 8
    omega
theorem lw_ne_wN {x : Str} {n k : Nat} (h : LW n x) (e : x = wN k) : False := by
  subst e
  have := h.let_ 119 (by simp [wN])
  unfold LetC at this
  omega
theorem wN_inj {i j : Nat} (h : wN i = wN j) : i = j := by
  unfold wN at h
  simp at h
  exact h
theorem facts_spec {ns : List Int} (h : NsOk ns) (c : Nat) (hc : c + 10000 < 2 ^ 60) (many : Nat) (hm : many ≤ 16) : ∃ (c' : Nat) (facts : List Str), c ≤ c' ∧ c' ≤ c + 400 * many ∧
    c__law_facts (stD ns c) [.int many] = .ok (.tuple (facts.map .str)) (stD ns c') ∧ FactsOk facts ∧ facts.length = many := by
  obtain ⟨s', h1, c', fs, k, _, h2, h3, h4, h5, h6, h7⟩ := forL_inv
    (I := fun ds s => ∃ (c' : Nat) (fs : List Str) (k : SV), (∀ d ∈ ds, ∃ k : Nat, d = .int (k : Int)) ∧ c ≤ c' ∧ c' + 400 * ds.length ≤ c + 400 * many ∧ fs.length + ds.length = many ∧ fs.Nodup ∧ (∀ x ∈ fs, LW 8 x ∨ ∃ i, i < fs.length ∧ x = wN i) ∧ s = [.io (stD ns c'), .dat (.int many), .own (fs.map .str), k])
    (g := gN 3) (b := b__law_facts_1) (fun d ds s ⟨c', fs, k, h1, h2, h3, h4, h5, h6, h7⟩ => by
      obtain ⟨k'', rfl⟩ := h1 d List.mem_cons_self
      subst h7
      simp only [List.length_cons] at h3 h4
      have hok : ∀ x ∈ fs, PyData.strOk x = true := fun x hx => by
        rcases h6 x hx with h | ⟨i, hi, rfl⟩
        · exact h.ok
        · exact wN_ok (by omega)
      obtain ⟨c2, w, g1, g2, g3, g4⟩ := word_spec h c' (by omega) fs hok
      have hmod : fs.length % 16 = fs.length := Nat.mod_eq_of_lt (by omega)
      have hnew : w ∉ fs ∧ (LW 8 w ∨ w = wN fs.length) := by
        rcases g4 with ⟨a, b⟩ | e
        · exact ⟨b, .inl a⟩
        · rw [hmod] at e
          refine ⟨fun hin => ?_, .inr e⟩
          rcases h6 w hin with h | ⟨i, hi, e2⟩
          · exact lw_ne_wN h e
          · have := wN_inj (e2.symm.trans e)
            omega
      have g3' : c__law_word [.list (ns.map .int), .int (c' : Int)] [.list (fs.map .str)] = .ok (.str w) (stD ns c2) := g3
      have hlen : fs.length < 1000000 := by omega
      refine ⟨_, [.io (stD ns c2), .dat (.int many), .own ((fs ++ [w]).map .str), .dat (.int k'')], rfl, .inl ?_, c2, fs ++ [w], _, fun d hd => h1 d (List.mem_cons_of_mem _ hd), by omega, by omega, ?_, ?_, ?_, rfl⟩
      · simp [b__law_facts_1, toS, stD, g3', hlen, flatD]
      · simp; omega
      · rw [List.nodup_append]
        exact ⟨h5, by simp, fun a ha b hb => by simp at hb; subst hb; exact fun e => hnew.1 (e ▸ ha)⟩
      · intro x hx
        rcases List.mem_append.mp hx with hx | hx
        · rcases h6 x hx with h | ⟨i, hi, e⟩
          · exact .inl h
          · exact .inr ⟨i, by simp; omega, e⟩
        · simp at hx
          subst hx
          rcases hnew.2 with h | e
          · exact .inl h
          · exact .inr ⟨fs.length, by simp, e⟩)
    (rngD many) [.io (stD ns c), .dat (.int many), .own [], .un] ⟨c, [], .un, fun d hd => by obtain ⟨k, _, e⟩ := rngD_all hd; exact ⟨k, e⟩, by omega, by simp [rngD], by simp [rngD], List.nodup_nil, (fun x hx => by simp at hx), rfl⟩
  simp only [List.length_nil, Nat.mul_zero, Nat.add_zero] at h3 h4
  refine ⟨c', fs, h2, h3, ?_, ⟨h5, fun x hx => ?_⟩, h4⟩
  · have hb1 : (many : Int) ≤ 1000000000 := by omega
    have hb2 : (-1000000000 : Int) ≤ (many : Int) := by omega
    rw [h7] at h1
    simp [c__law_facts, mfunS, m__law_facts, toS, h1, ioAt, hb1, hb2]
  · rcases h6 x hx with h | ⟨i, hi, e⟩
    · exact .inl h
    · exact .inr ⟨i, by omega, e⟩
abbrev sD (sc : List Str) : D := .tuple (sc.map .str)
theorem scene_lc {ns : List Int} (h : NsOk ns) (F : D) : ∀ (fs : List Str) (c : Nat) (hc : c + fs.length < 2 ^ 60), ∃ sc : List Str, sc.Sublist fs ∧
    mLcL [2] (gN 2) t__law_scene_1 e__law_scene_1 (fs.map .str) [.io (stD ns c), .dat F, .un] = .ok (sc.map .str) [.io (stD ns (c + fs.length)), .dat F, .un]
  | [], c, _ => ⟨[], List.Sublist.refl _, rfl⟩
  | f :: fs, c, hc => by
    simp only [List.length_cons] at hc
    obtain ⟨r, hr, hn⟩ := next_spec h c (by omega) 2 (by omega)
    have hn' : c__law_next [.list (ns.map .int), .int (c : Int)] [.int 2] = .ok (.int r) (stD ns (c + 1)) := hn
    obtain ⟨sc, h1, h2⟩ := scene_lc h F fs (c + 1) (by omega)
    have e : c + 1 + fs.length = c + (f :: fs).length := by simp; omega
    rw [e] at h2
    by_cases hz : r = 0
    · refine ⟨f :: sc, h1.cons₂ f, ?_⟩
      rw [List.map_cons, List.map_cons]
      refine lcL_yes (s1 := [.io (stD ns c), .dat F, .dat (.str f)]) (s2 := [.io (stD ns (c + 1)), .dat F, .dat (.str f)]) (s3 := [.io (stD ns (c + 1)), .dat F, .dat (.str f)]) rfl ?_ rfl h2
      simp [t__law_scene_1, stD, hn', hz]
    · refine ⟨sc, h1.cons f, ?_⟩
      rw [List.map_cons, lcL_no (s1 := [.io (stD ns c), .dat F, .dat (.str f)]) (s2 := [.io (stD ns (c + 1)), .dat F, .dat (.str f)]) rfl ?_]
      · exact h2
      · simp [t__law_scene_1, stD, hn', hz]
theorem scene_spec {ns : List Int} (h : NsOk ns) (facts : List Str) (hf : facts.length ≤ 16) (c : Nat) (hc : c + 100 < 2 ^ 60) : ∃ sc : List Str, sc.Sublist facts ∧
    c__law_scene (stD ns c) [sD facts] = .ok (sD sc) (stD ns (c + facts.length)) := by
  obtain ⟨sc, h1, h2⟩ := scene_lc h (sD facts) facts c (by omega)
  refine ⟨sc, h1, ?_⟩
  have hl : sc.length ≤ 1000000 := Nat.le_trans h1.length_le (by omega)
  simp [c__law_scene, mfunS, m__law_scene, toS, mLc, unS, keepS, sD, h2, hl, ioAt]
/-! ### scenes -/
def scenes (facts : List Str) : List (List Str) := facts.foldl (fun found f => found ++ found.map (· ++ [f])) [[]]
theorem scenes_cons (facts : List Str) (f : Str) : scenes (facts ++ [f]) = scenes facts ++ (scenes facts).map (· ++ [f]) := by
  unfold scenes
  rw [List.foldl_append]
  rfl
theorem sub_concat {α : Type} {l pre : List α} {f : α} : l.Sublist (pre ++ [f]) ↔ l.Sublist pre ∨ ∃ l', l = l' ++ [f] ∧ l'.Sublist pre := by
  constructor
  · intro h
    obtain ⟨a, b, rfl, h1, h2⟩ := List.sublist_append_iff.mp h
    cases h2 with
    | cons _ h3 =>
      cases h3
      exact .inl (by simpa using h1)
    | cons_cons _ h3 =>
      cases h3
      exact .inr ⟨a, rfl, h1⟩
  · rintro (h | ⟨l', rfl, h⟩)
    · exact h.trans (List.sublist_append_left _ _)
    · exact h.append (List.Sublist.refl _)
theorem mem_scenes : ∀ (pre : List Str) (sc : List Str), sc ∈ pre.foldl (fun found f => found ++ found.map (· ++ [f])) [[]] ↔ sc.Sublist pre := by
  intro pre
  have : ∀ (n : Nat) (pre : List Str), pre.length = n → ∀ sc, sc ∈ scenes pre ↔ sc.Sublist pre := by
    intro n
    induction n with
    | zero =>
      intro pre hp sc
      rw [List.length_eq_zero_iff.mp hp]
      unfold scenes
      simp
    | succ n ih =>
      intro pre hp sc
      rcases List.eq_nil_or_concat pre with rfl | ⟨pre', f, rfl⟩
      · cases hp
      · rw [List.concat_eq_append] at hp ⊢
        have hl : pre'.length = n := by simpa using hp
        rw [scenes_cons, List.mem_append, List.mem_map, ih pre' hl sc, sub_concat]
        constructor
        · rintro (h | ⟨l, h, rfl⟩)
          · exact .inl h
          · exact .inr ⟨l, rfl, (ih pre' hl l).mp h⟩
        · rintro (h | ⟨l, rfl, h⟩)
          · exact .inl h
          · exact .inr ⟨l, (ih pre' hl l).mpr h, rfl⟩
  exact this _ pre rfl
theorem mem_scenes' (facts sc : List Str) : sc ∈ scenes facts ↔ sc.Sublist facts := mem_scenes facts sc
def subB (facts sc : List Str) : Bool := decide (sc ∈ scenes facts)
/-! order by places -/
theorem range_sub : ∀ (n a : Nat) (l : List Nat), l.Pairwise (· < ·) → (∀ x ∈ l, a ≤ x ∧ x < a + n) → l.Sublist (List.range' a n)
  | 0, a, [], _, _ => List.Sublist.refl _
  | 0, a, x :: l, _, h => by have := h x List.mem_cons_self; omega
  | n + 1, a, [], _, _ => List.nil_sublist _
  | n + 1, a, x :: l, hp, h => by
    rw [List.range'_succ]
    rw [List.pairwise_cons] at hp
    have hx := h x List.mem_cons_self
    by_cases e : x = a
    · subst e
      exact (range_sub n (x + 1) l hp.2 fun y hy => by
        have := hp.1 y hy
        have := h y (List.mem_cons_of_mem _ hy)
        omega).cons₂ x
    · exact (range_sub n (a + 1) (x :: l) (List.pairwise_cons.mpr hp) fun y hy => by
        rcases List.mem_cons.mp hy with rfl | hy
        · omega
        · have := hp.1 y hy
          have := h y (List.mem_cons_of_mem _ hy)
          omega).cons a
theorem sub_of_places {facts sc : List Str} (hm : ∀ x ∈ sc, x ∈ facts) (hp : (sc.map fun x => facts.idxOf x).Pairwise (· < ·)) : sc.Sublist facts := by
  have h1 := range_sub facts.length 0 (sc.map fun x => facts.idxOf x) hp fun x hx => by
    obtain ⟨y, hy, rfl⟩ := List.mem_map.mp hx
    have := List.idxOf_lt_length_of_mem (hm y hy)
    omega
  have h2 := h1.map fun i => facts.getD i ""
  have e1 : (sc.map fun x => facts.idxOf x).map (fun i => facts.getD i "") = sc := by
    rw [List.map_map]
    conv => rhs; rw [← List.map_id sc]
    apply List.map_congr_left
    intro x hx
    have hl := List.idxOf_lt_length_of_mem (hm x hx)
    simp [List.getD, List.getElem?_eq_getElem hl]
  have e2 : (List.range' 0 facts.length).map (fun i => facts.getD i "") = facts := by
    apply List.ext_getElem
    · simp
    · intro i h1 h2
      simp [List.getD, h2]
  rw [e1, e2] at h2
  exact h2
theorem places_of_sub {facts sc : List Str} (hn : facts.Nodup) (h : sc.Sublist facts) : (sc.map fun x => facts.idxOf x).Pairwise (· < ·) := by
  have h1 : (facts.map fun x => facts.idxOf x) = List.range facts.length := by
    apply List.ext_getElem
    · simp
    · intro i h1 h2
      simp only [List.getElem_map, List.getElem_range]
      exact hn.idxOf_getElem i (by simpa using h1)
  have h2 := h.map fun x => facts.idxOf x
  rw [h1] at h2
  exact List.Pairwise.sublist h2 (by simpa using List.pairwise_lt_range)
theorem adj_pairwise : ∀ {l : List Nat}, (∀ k, k + 1 < l.length → l.getD k 0 < l.getD (k + 1) 0) → l.Pairwise (· < ·)
  | [], _ => List.Pairwise.nil
  | [x], _ => List.pairwise_singleton _ _
  | x :: y :: l, h => by
    have ih := adj_pairwise (l := y :: l) fun k hk => by
      have := h (k + 1) (by simp at hk ⊢; omega)
      simpa using this
    rw [List.pairwise_cons]
    refine ⟨fun z hz => ?_, ih⟩
    have h0 : x < y := by simpa using h 0 (by simp)
    rcases List.mem_cons.mp hz with rfl | hz
    · exact h0
    · rw [List.pairwise_cons] at ih
      exact Nat.lt_trans h0 (ih.1 z hz)
theorem pairwise_adj {l : List Nat} (h : l.Pairwise (· < ·)) (k : Nat) (hk : k + 1 < l.length) : l.getD k 0 < l.getD (k + 1) 0 := by
  have := List.pairwise_iff_getElem.mp h k (k + 1) (by omega) hk (by omega)
  simp [List.getD, List.getElem?_eq_getElem hk, List.getElem?_eq_getElem (show k < l.length by omega), this]
theorem is_scene_spec {facts : List Str} (hf : FactsOk facts) (sc : List Str) (hs : ∀ x ∈ sc, PyData.strOk x = true) (hl : sc.length ≤ 100) : c_is_scene [sD facts, sD sc] = .ok (.bool (subB facts sc)) := by
  have hfo := hf.ok
  obtain ⟨L1, h1, l1, a1⟩ : ∃ L1, mLcL [3] (gN 3) mTrue e_is_scene_1 (sc.map .str) [.dat (sD facts), .dat (sD sc), .un, .un, .un] = .ok L1 [.dat (sD facts), .dat (sD sc), .un, .un, .un] ∧ L1.length ≤ 1000000 ∧ dAll (.list L1) = some (.bool (sc.all fun x => decide (x ∈ facts))) := by
    refine ⟨(sc.map fun x => decide (x ∈ facts)).map .bool, ?_, by simp; omega, by rw [dAll_bools, List.all_map]; rfl⟩
    rw [List.map_map]
    refine lcA_map0 fun x hx => ⟨_, rfl, ?_, rfl⟩
    have q : dIn (.str x) (.tuple (facts.map .str)) = some (.bool (decide (x ∈ facts))) := by rw [dIn_tuple (shaped_str (hs x hx)) (shaped_strs hfo).2, any_strs]
    simp [e_is_scene_1, sD, q, gN]
  by_cases hm : ∀ x ∈ sc, x ∈ facts
  · have ha1 : (sc.all fun x => decide (x ∈ facts)) = true := by
      rw [List.all_eq_true]
      intro x hx
      simpa using hm x hx
    rw [ha1] at a1
    obtain ⟨ps, hps⟩ : ∃ ps : List Nat, ps = sc.map fun x => facts.idxOf x := ⟨_, rfl⟩
    have hpl : ps.length = sc.length := by rw [hps, List.length_map]
    obtain ⟨L2, h2, hL2⟩ : ∃ L2 : List D, mLcL [3] (gN 3) mTrue e_is_scene_2 (sc.map .str) [.dat (sD facts), .dat (sD sc), .un, .un, .un] = .ok L2 [.dat (sD facts), .dat (sD sc), .un, .un, .un] ∧ L2 = ps.map fun n => .int (n : Int) := by
      refine ⟨_, ?_, rfl⟩
      rw [hps, List.map_map]
      refine lcA_map0 fun x hx => ⟨_, rfl, ?_, rfl⟩
      have q := dIndex_strs hfo (hm x hx)
      simp [e_is_scene_2, sD, q, gN]
    have l2 : L2.length = sc.length := by rw [hL2, List.length_map, hpl]
    obtain ⟨L3, h3, l3, a3⟩ : ∃ L3, mLcL [4] (gN 4) mTrue e_is_scene_3 (rngD (sc.length - 1)) [.dat (sD facts), .dat (sD sc), .dat (.list L2), .un, .un] = .ok L3 [.dat (sD facts), .dat (sD sc), .dat (.list L2), .un, .un] ∧ L3.length ≤ 1000000 ∧ dAll (.list L3) = some (.bool (subB facts sc)) := by
      refine ⟨((List.range (sc.length - 1)).map fun k => decide (ps.getD k 0 < ps.getD (k + 1) 0)).map .bool, ?_, by simp; omega, ?_⟩
      · rw [List.map_map]
        unfold rngD
        refine lcA_map0 fun k hk => ⟨_, rfl, ?_, rfl⟩
        have hk := List.mem_range.mp hk
        have g1 : atI L2 (Int.ofNat k) = some (.int (ps.getD k 0 : Nat)) := by
          show atI L2 (k : Int) = _
          have : k < ps.length := by omega
          rw [DV.atI_nat, hL2, List.getElem?_map, List.getElem?_eq_getElem this]
          simp [List.getD, this]
        have g2 : atI L2 (Int.ofNat k + 1) = some (.int (ps.getD (k + 1) 0 : Nat)) := by
          show atI L2 ((k : Int) + 1) = _
          have : k + 1 < ps.length := by omega
          rw [show ((k : Int) + 1) = ((k + 1 : Nat) : Int) by omega, DV.atI_nat, hL2, List.getElem?_map, List.getElem?_eq_getElem this]
          simp [List.getD, this]
        generalize Int.ofNat k = kk at g1 g2 ⊢
        obtain ⟨u, hu⟩ : ∃ u, u = ps[k]?.getD 0 := ⟨_, rfl⟩
        obtain ⟨v, hv⟩ : ∃ v, v = ps[k + 1]?.getD 0 := ⟨_, rfl⟩
        rw [List.getD_eq_getElem?_getD, ← hu] at g1
        rw [List.getD_eq_getElem?_getD, ← hv] at g2
        simp [e_is_scene_3, g1, g2, gN, ← hu, ← hv]
      · rw [dAll_bools]
        congr 2
        unfold subB
        rw [Bool.eq_iff_iff, List.all_map, List.all_eq_true]
        simp only [decide_eq_true_eq, mem_scenes', Function.comp, id]
        constructor
        · intro h
          refine sub_of_places hm ?_
          rw [← hps]
          exact adj_pairwise fun k hk => h k (List.mem_range.mpr (by omega))
        · intro h k hk
          have hp := places_of_sub hf.nd h
          rw [← hps] at hp
          refine pairwise_adj hp k ?_
          have := List.mem_range.mp hk
          omega
    have e2 : ((L2.length : Int) - 1).toNat = sc.length - 1 := by omega
    have e3 : ((L2.length : Int) - 1 ≤ 1000000000 ∧ -1000000000 ≤ (L2.length : Int) - 1) := by omega
    have hl2 : L2.length ≤ 1000000 := by omega
    have e4 : (L2.length : Int) ≤ 1000000000 + 1 := by omega
    have e5 : (-1000000000 : Int) ≤ (L2.length : Int) - 1 := by omega
    simp [c_is_scene, mfunP, m_is_scene, toS, mLc, unS, keepS, h1, h2, h3, l1, hl2, l3, a1, a3, e2, e3.1, e3.2]
  · have ha1 : (sc.all fun x => decide (x ∈ facts)) = false := by
      rw [Bool.eq_false_iff]
      intro h
      rw [List.all_eq_true] at h
      exact hm fun x hx => by simpa using h x hx
    rw [ha1] at a1
    have hsub : subB facts sc = false := by
      unfold subB
      rw [decide_eq_false_iff_not, mem_scenes']
      exact fun h => hm fun x hx => h.subset hx
    rw [hsub]
    simp [c_is_scene, mfunP, m_is_scene, toS, mLc, unS, keepS, h1, l1, a1]
structure ScOk (s : List Str) : Prop where
  ok : ∀ x ∈ s, PyData.strOk x = true
  len : ∀ x ∈ s, x.length ≤ 8
  few : s.length ≤ 6
theorem tm_int {i : Int} (h : i.natAbs < 2 ^ 60) : Tm 0 62 (.int i) := by
  refine ⟨by simp [PyData.canLay0], ?_, by simp [PyData.depth], ?_⟩
  · simp only [PyData.showable, decide_eq_true_eq]
    exact Nat.lt_of_le_of_lt (log2_le (k := 59) h) (by omega)
  · simp only [PyData.shown]
    have h2 : i.natAbs.log2 < 60 := by
      have := log2_le (k := 59) h
      omega
    have e := int_text_length_le (k := 60) (by omega) h2
    rw [ofString_length]
    omega
theorem tm_word {x : Str} (h : PyData.strOk x = true) (hl : x.length ≤ 8) : Tm 0 82 (.str x) := (tm_str h).mono (Nat.le_refl _) (by omega)
theorem tm_sc {s : List Str} (h : ScOk s) : Tm 1 510 (sD s) := by
  have := tm_tup (n := 0) (m := 82) (ds := s.map .str) fun d hd => by
    obtain ⟨x, hx, rfl⟩ := List.mem_map.mp hd
    exact tm_word (h.ok x hx) (h.len x hx)
  refine this.mono (by omega) ?_
  rw [List.length_map]
  have h1 := h.few
  have : s.length * (82 + 2) ≤ 6 * (82 + 2) := Nat.mul_le_mul_right _ h1
  omega
theorem tm_two {n m : Nat} {a b : DV.D} (ha : Tm n m a) (hb : Tm n m b) : Tm (n + 1) (2 * (m + 2) + 3) (.tuple [a, b]) := tm_tup (ds := [a, b]) fun d hd => by
  rcases List.mem_cons.mp hd with rfl | hd
  · exact ha
  · rcases List.mem_cons.mp hd with rfl | hd
    · exact hb
    · cases hd
theorem tm_one {n m : Nat} {a : DV.D} (ha : Tm n m a) : Tm (n + 1) (1 * (m + 2) + 3) (.tuple [a]) := tm_tup (ds := [a]) fun d hd => by
  rcases List.mem_cons.mp hd with rfl | hd
  · exact ha
  · cases hd
theorem fine_sub {facts s : List Str} (hf : FactsOk facts) (h3 : facts.length ≤ 3) (h : s.Sublist facts) : ScOk s := ⟨fun x hx => hf.ok x (h.subset hx), fun x hx => hf.len x (h.subset hx), Nat.le_trans h.length_le (by omega)⟩
end K84

namespace K84
open PySem DV L2
theorem le_mul1 {r q : Int} (h : 0 < r) (hq : 1 ≤ q) : r ≤ r * q := by
  have := Int.mul_le_mul_of_nonneg_left hq (Int.le_of_lt h)
  omega
/-! ### numbers -/
theorem fmod_sub (a b : Int) : a.fmod b = a - b * a.fdiv b := by
  have := Int.mul_fdiv_add_fmod a b
  omega
theorem gcd_fmod (a b : Int) : Int.gcd b (a.fmod b) = Int.gcd a b := by
  rw [fmod_sub, Int.gcd_sub_mul_left_right, Int.gcd_comm]
theorem fmod_small {a b : Int} (h : b ≠ 0) : (0 < b ∧ 0 ≤ a.fmod b ∧ a.fmod b < b) ∨ (b < 0 ∧ a.fmod b ≤ 0 ∧ b < a.fmod b) := by
  rcases Int.lt_or_gt_of_ne h with hb | hb
  · refine .inr ⟨hb, ?_, ?_⟩
    · have h1 := Int.fmod_nonneg_of_pos (a := -a) (b := -b) (by omega)
      rw [Int.neg_fmod_neg] at h1
      omega
    · have h1 := Int.fmod_lt_of_pos (-a) (b := -b) (by omega)
      rw [Int.neg_fmod_neg] at h1
      omega
  · exact .inl ⟨hb, Int.fmod_nonneg_of_pos a hb, Int.fmod_lt_of_pos a hb⟩
theorem fmod_lt {a b : Int} (h : b ≠ 0) : (a.fmod b).natAbs < b.natAbs := by
  rcases fmod_small (a := a) h with ⟨h1, h2, h3⟩ | ⟨h1, h2, h3⟩ <;> omega
/-- two turns halve the second -/
theorem fmod_half {a b : Int} (h : b ≠ 0) (h2 : a.fmod b ≠ 0) : 2 * (b.fmod (a.fmod b)).natAbs < b.natAbs := by
  generalize hr : a.fmod b = r at h2
  have e := fmod_sub b r
  have d := fmod_small (a := b) h2
  have d0 := fmod_small (a := a) h
  rw [hr] at d0
  generalize b.fmod r = s at e d
  generalize b.fdiv r = q at e
  rcases d0 with ⟨p1, p2, p3⟩ | ⟨p1, p2, p3⟩
  · rcases d with ⟨r1, r2, r3⟩ | ⟨r1, r2, r3⟩
    · have hq : 1 ≤ q := by
        rcases Int.lt_or_le q 1 with hq | hq
        · have : r * q ≤ 0 := Int.mul_nonpos_of_nonneg_of_nonpos (by omega) (by omega)
          omega
        · exact hq
      have : r ≤ r * q := le_mul1 r1 hq
      omega
    · omega
  · rcases d with ⟨r1, r2, r3⟩ | ⟨r1, r2, r3⟩
    · omega
    · have hq : 1 ≤ q := by
        rcases Int.lt_or_le q 1 with hq | hq
        · have : 0 ≤ r * q := Int.mul_nonneg_of_nonpos_of_nonpos (by omega) (by omega)
          omega
        · exact hq
      have : (-r) ≤ (-r) * q := le_mul1 (by omega) hq
      rw [Int.neg_mul] at this
      omega
theorem gcd_loop : ∀ (n : Nat) (a b : Int) (k : SV) (ds : List D), b.natAbs < 2 ^ n → 2 * n + 1 ≤ ds.length → ∃ (z : Int) (k' : SV), z.natAbs = Int.gcd a b ∧
    mForL (gN 2) b__law_gcd_1 ds [.dat (.int a), .dat (.int b), k] = .nx [.dat (.int z), .dat (.int 0), k']
  | n, a, b, k, [], _, h => by simp at h
  | n, a, b, k, d :: ds, hb, hl => by
    by_cases h0 : b = 0
    · subst h0
      refine ⟨a, .dat d, by simp, ?_⟩
      exact forL_bk (s1 := [.dat (.int a), .dat (.int 0), .dat d]) rfl (by simp [b__law_gcd_1, toS])
    · cases n with
      | zero => exact absurd hb (by simp; exact h0)
      | succ n =>
        have s1 : mForL (gN 2) b__law_gcd_1 (d :: ds) [.dat (.int a), .dat (.int b), k] = mForL (gN 2) b__law_gcd_1 ds [.dat (.int b), .dat (.int (a.fmod b)), .dat d] :=
          forL_nx (s1 := [.dat (.int a), .dat (.int b), .dat d]) rfl (by simp [b__law_gcd_1, toS, h0, dMod_int h0])
        cases ds with
        | nil => simp at hl
        | cons d2 ds =>
          by_cases h1 : a.fmod b = 0
          · refine ⟨b, .dat d2, ?_, ?_⟩
            · have := gcd_fmod a b
              rw [h1] at this
              rw [← this]
              simp
            · rw [s1, h1]
              exact forL_bk (s1 := [.dat (.int b), .dat (.int 0), .dat d2]) rfl (by simp [b__law_gcd_1, toS])
          · have s2 : mForL (gN 2) b__law_gcd_1 (d2 :: ds) [.dat (.int b), .dat (.int (a.fmod b)), .dat d] = mForL (gN 2) b__law_gcd_1 ds [.dat (.int (a.fmod b)), .dat (.int (b.fmod (a.fmod b))), .dat d2] :=
              forL_nx (s1 := [.dat (.int b), .dat (.int (a.fmod b)), .dat d2]) rfl (by simp [b__law_gcd_1, toS, h1, dMod_int h1])
            have hh := fmod_half h0 h1
            obtain ⟨z, k', e1, e2⟩ := gcd_loop n (a.fmod b) (b.fmod (a.fmod b)) (.dat d2) ds (by rw [Nat.pow_succ] at hb; omega) (by simp at hl; omega)
            refine ⟨z, k', ?_, by rw [s1, s2, e2]⟩
            rw [e1, gcd_fmod, gcd_fmod]
theorem abs_nat (z : Int) : (if z < 0 then -z else z) = (z.natAbs : Int) := by
  split <;> omega
theorem law_gcd_spec (a b : Int) (hb : b.natAbs < 2 ^ 199) : c__law_gcd [.int a, .int b] = .ok (.int (Int.gcd a b : Nat)) := by
  obtain ⟨z, k', h1, h2⟩ := gcd_loop 199 a b .un (rngD 400) hb (by simp [rngD])
  simp [c__law_gcd, mfunP, m__law_gcd, toS, h2, abs_nat, h1]
theorem common_loop : ∀ (n : Nat) (a b : Int), b.natAbs < n → ∃ z : Int, z.natAbs = Int.gcd a b ∧ mWhN w_common_1 b_common_1 n [.dat (.int a), .dat (.int b)] = some (.nx [.dat (.int z), .dat (.int 0)])
  | 0, _, _, h => absurd h (by omega)
  | n + 1, a, b, h => by
    by_cases h0 : b = 0
    · subst h0
      refine ⟨a, by simp, ?_⟩
      simp [mWhN, w_common_1]
    · obtain ⟨z, e1, e2⟩ := common_loop n b (a.fmod b) (by have := fmod_lt (a := a) h0; omega)
      refine ⟨z, by rw [e1, gcd_fmod], ?_⟩
      simp [mWhN, w_common_1, b_common_1, toS, h0, dMod_int h0]
      exact e2
theorem common_spec (a b : Int) : c_common [.int a, .int b] = .ok (.int (Int.gcd a b : Nat)) := by
  obtain ⟨z, h1, h2⟩ := common_loop (b.natAbs + 1) a b (by omega)
  have h3 := mWhile_eq h2
  simp [c_common, mfunP, m_common, toS, h3, abs_nat, h1]
/-! ### ratios -/
def sg (a b : Int) : Int := if b < 0 then -(Int.gcd a b : Int) else (Int.gcd a b : Int)
abbrev R := Int × Int
abbrev rD (r : R) : DV.D := .tuple [.int r.1, .int r.2]
def norm (a b : Int) : R := (a.fdiv (sg a b), b.fdiv (sg a b))
theorem gcd_pos {a b : Int} (h : b ≠ 0) : 0 < Int.gcd a b := Int.gcd_pos_of_ne_zero_right _ h
theorem gcd_le {a b : Int} (h : b ≠ 0) : Int.gcd a b ≤ b.natAbs := Nat.le_of_dvd (by omega) (Int.natAbs_dvd_natAbs.mpr (Int.gcd_dvd_right a b))
theorem sg_ne {a b : Int} (h : b ≠ 0) : sg a b ≠ 0 := by
  have := gcd_pos (a := a) h
  unfold sg
  split <;> omega
theorem sg_le {a b : Int} (h : b ≠ 0) : (sg a b).natAbs ≤ b.natAbs := by
  have := gcd_le (a := a) h
  unfold sg
  split <;> omega
theorem big9 {j : Int} (h : j.natAbs < 2 ^ 1000) : j.natAbs < 2 ^ 9000 := Nat.lt_of_lt_of_le h (by decide +kernel)
set_option exponentiation.threshold 2000 in
theorem big4 {j : Int} (h : j.natAbs < 2 ^ 1000) : j.natAbs < 2 ^ 400000 := Nat.lt_of_lt_of_le h (by exact Nat.pow_le_pow_right (by decide) (by decide))
theorem lowest_spec (a b : Int) (h : b ≠ 0) (hb : b.natAbs < 2 ^ 1000) : c_lowest [.int a, .int b] = .ok (rD (norm a b)) := by
  have q := sg_ne (a := a) h
  have q2 := sg_le (a := a) h
  have f1 : ∀ x : Int, dFdiv (.int x) (.int (sg a b)) = some (.int (x.fdiv (sg a b))) := fun x => dFdiv_int q (big9 (Nat.lt_of_le_of_lt q2 hb))
  by_cases hp : 0 < b
  · have e : sg a b = (Int.gcd a b : Int) := by unfold sg; rw [if_neg (by omega)]
    rw [e] at f1
    simp [c_lowest, mfunP, m_lowest, toS, h, hp, common_spec, f1, norm, e]
  · have e : sg a b = -(Int.gcd a b : Int) := by unfold sg; rw [if_pos (by omega)]
    rw [e] at f1
    simp [c_lowest, mfunP, m_lowest, toS, h, hp, common_spec, f1, norm, e]
theorem lowest_zero (a : Int) : c_lowest [.int a, .int 0] = .exc "NotAllowed" := by
  simp [c_lowest, mfunP, m_lowest, toS]
theorem law_ratio_spec (a b : Int) (h : b ≠ 0) (hb : b.natAbs < 2 ^ 199) : c__law_ratio [.int a, .int b] = .ok (rD (norm a b)) := by
  have q := sg_ne (a := a) h
  have q2 := sg_le (a := a) h
  have hb2 : b.natAbs < 2 ^ 1000 := Nat.lt_of_lt_of_le hb (by decide +kernel)
  have f1 : ∀ x : Int, dFdiv (.int x) (.int (sg a b)) = some (.int (x.fdiv (sg a b))) := fun x => dFdiv_int q (big9 (Nat.lt_of_le_of_lt q2 hb2))
  by_cases hp : b < 0
  · have e : sg a b = -(Int.gcd a b : Int) := by unfold sg; rw [if_pos hp]
    rw [e] at f1
    simp [c__law_ratio, mfunP, m__law_ratio, toS, h, hp, law_gcd_spec a b hb, f1, norm, e]
  · have e : sg a b = (Int.gcd a b : Int) := by unfold sg; rw [if_neg hp]
    rw [e] at f1
    simp [c__law_ratio, mfunP, m__law_ratio, toS, h, hp, law_gcd_spec a b hb, f1, norm, e]
theorem is_ratio_spec (r : R) : c_is_ratio [rD r] = .ok (.bool (decide (1 ≤ r.2) && decide (Int.gcd r.1 r.2 = 1))) := by
  have e : ((Int.gcd r.1 r.2 : Nat) : Int) = 1 ↔ Int.gcd r.1 r.2 = 1 := by omega
  by_cases h : 1 ≤ r.2 <;> simp [c_is_ratio, mfunP, m_is_ratio, toS, h, common_spec, e]
end K84

namespace K84
open PySem DV L2
/-! ### sums of ratios -/
theorem sg_dvd (a b : Int) : sg a b ∣ a ∧ sg a b ∣ b := by
  have h1 := Int.gcd_dvd_left a b
  have h2 := Int.gcd_dvd_right a b
  unfold sg
  split
  · exact ⟨Int.neg_dvd.mpr h1, Int.neg_dvd.mpr h2⟩
  · exact ⟨h1, h2⟩
theorem norm_eq (a b : Int) : sg a b * (norm a b).1 = a ∧ sg a b * (norm a b).2 = b := ⟨Int.mul_fdiv_cancel' (sg_dvd a b).1, Int.mul_fdiv_cancel' (sg_dvd a b).2⟩
theorem norm_rep (a b : Int) : (norm a b).1 * b = a * (norm a b).2 := by
  obtain ⟨h1, h2⟩ := norm_eq a b
  generalize norm a b = n at h1 h2 ⊢
  generalize sg a b = g at h1 h2
  subst h1
  rw [← h2]
  grind
theorem sg_pos {a b : Int} (h : 0 < b) : 0 < sg a b := by
  have := gcd_pos (a := a) (b := b) (by omega)
  unfold sg
  rw [if_neg (by omega)]
  omega
theorem norm_pos {a b : Int} (h : 0 < b) : 0 < (norm a b).2 := by
  have h1 := (norm_eq a b).2
  have h2 := sg_pos (a := a) h
  rcases Int.lt_or_le 0 (norm a b).2 with q | q
  · exact q
  · have : sg a b * (norm a b).2 ≤ 0 := Int.mul_nonpos_of_nonneg_of_nonpos (by omega) q
    omega
theorem norm_ne {a b : Int} (h : b ≠ 0) : (norm a b).2 ≠ 0 := fun q => by
  have h1 := (norm_eq a b).2
  rw [q, Int.mul_zero] at h1
  exact h h1.symm
theorem norm_num_pos {a b : Int} (h : 0 < b) (ha : 0 < a) : 0 < (norm a b).1 := by
  have h1 := (norm_eq a b).1
  have h2 := sg_pos (a := a) h
  rcases Int.lt_or_le 0 (norm a b).1 with q | q
  · exact q
  · have : sg a b * (norm a b).1 ≤ 0 := Int.mul_nonpos_of_nonneg_of_nonpos (by omega) q
    omega
theorem norm_gcd {a b : Int} (h : b ≠ 0) : Int.gcd (norm a b).1 (norm a b).2 = 1 := by
  obtain ⟨h1, h2⟩ := norm_eq a b
  have h3 := Int.gcd_mul_left (sg a b) (norm a b).1 (norm a b).2
  rw [h1, h2] at h3
  have h4 : (sg a b).natAbs = Int.gcd a b := by
    unfold sg
    split <;> omega
  have h5 := gcd_pos (a := a) h
  rw [h4] at h3
  exact (Nat.eq_of_mul_eq_mul_left h5 (by rw [Nat.mul_one]; exact h3)).symm
theorem norm_le {a b : Int} (h : b ≠ 0) : (norm a b).1.natAbs ≤ a.natAbs ∧ (norm a b).2.natAbs ≤ b.natAbs := by
  obtain ⟨h1, h2⟩ := norm_eq a b
  have h3 : 1 ≤ (sg a b).natAbs := by
    have := sg_ne (a := a) h
    omega
  have e : ∀ x y : Int, sg a b * x = y → x.natAbs ≤ y.natAbs := fun x y e => by
    rw [← e, Int.natAbs_mul]
    exact Nat.le_mul_of_pos_left _ h3
  exact ⟨e _ _ h1, e _ _ h2⟩
def plusR (x y : R) : R := norm (x.1 * y.2 + y.1 * x.2) (x.2 * y.2)
def Bd (k : Nat) (r : R) : Prop := r.1.natAbs < 2 ^ k ∧ r.2.natAbs < 2 ^ k
theorem Bd.mono {j k : Nat} {r : R} (h : Bd j r) (hj : j ≤ k) : Bd k r := ⟨Nat.lt_of_lt_of_le h.1 (Nat.pow_le_pow_right (by omega) hj), Nat.lt_of_lt_of_le h.2 (Nat.pow_le_pow_right (by omega) hj)⟩
theorem mul_bd {a b : Int} {j k : Nat} (h : a.natAbs < 2 ^ j) (h2 : b.natAbs < 2 ^ k) : (a * b).natAbs < 2 ^ (j + k) := by
  rw [Int.natAbs_mul, Nat.pow_add]
  exact Nat.mul_lt_mul'' h h2
theorem add_bd {a b : Int} {j : Nat} (h : a.natAbs < 2 ^ j) (h2 : b.natAbs < 2 ^ j) : (a + b).natAbs < 2 ^ (j + 1) := by
  rw [Nat.pow_succ]
  omega
theorem plusR_bd {x y : R} {j k : Nat} (hx : Bd j x) (hy : Bd k y) (h1 : x.2 ≠ 0) (h2 : y.2 ≠ 0) : Bd (j + k + 1) (plusR x y) := by
  have h3 : x.2 * y.2 ≠ 0 := Int.mul_ne_zero h1 h2
  obtain ⟨a, b⟩ := norm_le (a := x.1 * y.2 + y.1 * x.2) h3
  have c1 := mul_bd hx.1 hy.2
  have c2 := mul_bd hy.1 hx.2
  rw [Nat.add_comm k j] at c2
  have c3 := mul_bd hx.2 hy.2
  refine ⟨Nat.lt_of_le_of_lt a (add_bd c1 c2), Nat.lt_of_le_of_lt b (Nat.lt_of_lt_of_le c3 (Nat.pow_le_pow_right (by omega) (by omega)))⟩
theorem dMul_bd {a b : Int} (h : a.natAbs < 2 ^ 1000) (h2 : b.natAbs < 2 ^ 1000) : dMul (.int a) (.int b) = some (.int (a * b)) := dMul_int (big4 h) (big4 h2)
theorem bd1 {j : Nat} {a : Int} (h : a.natAbs < 2 ^ j) (hj : j ≤ 1000) : a.natAbs < 2 ^ 1000 := Nat.lt_of_lt_of_le h (Nat.pow_le_pow_right (by omega) hj)
theorem plus_spec {x y : R} {j k : Nat} (hx : Bd j x) (hy : Bd k y) (hj : j + k ≤ 999) (h1 : x.2 ≠ 0) (h2 : y.2 ≠ 0) : c_plus [rD x, rD y] = .ok (rD (plusR x y)) := by
  have m1 := dMul_bd (bd1 hx.1 (by omega)) (bd1 hy.2 (by omega))
  have m2 := dMul_bd (bd1 hy.1 (by omega)) (bd1 hx.2 (by omega))
  have m3 := dMul_bd (bd1 hx.2 (by omega)) (bd1 hy.2 (by omega))
  have l := lowest_spec (x.1 * y.2 + y.1 * x.2) (x.2 * y.2) (Int.mul_ne_zero h1 h2) (bd1 (mul_bd hx.2 hy.2) (by omega))
  simp [c_plus, mfunP, m_plus, toS, m1, m2, m3, l, plusR]
def tot (rs : List R) : R := rs.foldl plusR (0, 1)
theorem total_loop (d0 : SV) : ∀ (rs : List R) (acc : R) (k : SV) (n : Nat), n + rs.length ≤ 9 → Bd (100 * (n + 1)) acc → 0 < acc.2 → (∀ r ∈ rs, Bd 60 r ∧ 0 < r.2) → ∃ k' : SV, mForL (gN 2) b_total_1 (rs.map rD) [d0, .dat (rD acc), k] = .nx [d0, .dat (rD (rs.foldl plusR acc)), k']
  | [], acc, k, n, _, _, _, _ => ⟨k, rfl⟩
  | r :: rs, acc, k, n, hn, hb, hp, hr => by
    obtain ⟨hb2, hp2⟩ := hr r List.mem_cons_self
    simp only [List.length_cons] at hn
    have e := plus_spec hb hb2 (by omega) (by omega) (by omega)
    obtain ⟨k', ih⟩ := total_loop d0 rs (plusR acc r) (.dat (rD r)) (n + 1) (by omega) ((plusR_bd hb hb2 (by omega) (by omega)).mono (by omega)) (norm_pos (Int.mul_pos hp hp2)) fun q hq => hr q (List.mem_cons_of_mem _ hq)
    refine ⟨k', ?_⟩
    rw [List.map_cons, List.foldl_cons, ← ih]
    exact forL_nx (s1 := [d0, .dat (rD acc), .dat (rD r)]) rfl (by simp [b_total_1, toS, e])
theorem total_spec (rs : List R) (hl : rs.length ≤ 9) (h : ∀ r ∈ rs, Bd 60 r ∧ 0 < r.2) : c_total [.list (rs.map rD)] = .ok (rD (tot rs)) := by
  obtain ⟨k', e⟩ := total_loop (.dat (.list (rs.map rD))) rs (0, 1) .un 0 (by omega) ⟨by decide +kernel, by decide +kernel⟩ (by decide) h
  simp [c_total, mfunP, m_total, toS, c_NOTHING, e, tot]
/-- it stands for w parts of D -/
def Rep (r : R) (w D : Int) : Prop := r.1 * D = w * r.2
theorem plusR_rep {x y : R} {w v D : Int} (hx : Rep x w D) (hy : Rep y v D) (h1 : 0 < x.2) (h2 : 0 < y.2) : Rep (plusR x y) (w + v) D := by
  have h3 : 0 < x.2 * y.2 := Int.mul_pos h1 h2
  have e := norm_rep (x.1 * y.2 + y.1 * x.2) (x.2 * y.2)
  unfold Rep plusR at *
  generalize norm (x.1 * y.2 + y.1 * x.2) (x.2 * y.2) = n at e ⊢
  refine Int.eq_of_mul_eq_mul_right (Int.ne_of_gt h3) ?_
  grind
theorem tot_rep {D : Int} : ∀ (l : List (R × Int)) (acc : R) (a : Int), Rep acc a D → 0 < acc.2 → (∀ p ∈ l, Rep p.1 p.2 D ∧ 0 < p.1.2) → Rep ((l.map (·.1)).foldl plusR acc) (a + (l.map (·.2)).sum) D ∧ 0 < ((l.map (·.1)).foldl plusR acc).2
  | [], acc, a, h, hp, _ => ⟨by simpa using h, hp⟩
  | p :: l, acc, a, h, hp, hl => by
    obtain ⟨h1, h2⟩ := hl p List.mem_cons_self
    have := tot_rep l (plusR acc p.1) (a + p.2) (plusR_rep h h1 hp h2) (norm_pos (Int.mul_pos hp h2)) fun q hq => hl q (List.mem_cons_of_mem _ hq)
    simpa [Int.add_assoc] using this
/-- the chances add up to 1 -/
theorem tot_gcd : ∀ (rs : List R) (acc : R), Int.gcd acc.1 acc.2 = 1 → 0 < acc.2 → (∀ r ∈ rs, 0 < r.2) → Int.gcd (rs.foldl plusR acc).1 (rs.foldl plusR acc).2 = 1
  | [], acc, h, _, _ => h
  | r :: rs, acc, h, hp, hl => by
    have h2 := hl r List.mem_cons_self
    have h3 : 0 < acc.2 * r.2 := Int.mul_pos hp h2
    exact tot_gcd rs (plusR acc r) (norm_gcd (by omega)) (norm_pos h3) fun q hq => hl q (List.mem_cons_of_mem _ hq)
theorem tot_one {D : Int} (hD : 0 < D) (l : List (R × Int)) (hl : ∀ p ∈ l, Rep p.1 p.2 D ∧ 0 < p.1.2) (rs : List R) (e : rs = l.map (·.1)) : tot rs = (1, 1) ↔ (l.map (·.2)).sum = D := by
  subst e
  obtain ⟨h1, h2⟩ := tot_rep l (0, 1) 0 (by simp [Rep]) (by decide) hl
  have h3 := tot_gcd (l.map (·.1)) (0, 1) (by decide) (by decide) fun r hr => by
    obtain ⟨p, hp, rfl⟩ := List.mem_map.mp hr
    exact (hl p hp).2
  unfold tot
  generalize (l.map (·.1)).foldl plusR (0, 1) = t at h1 h2 h3 ⊢
  rw [Int.zero_add] at h1
  unfold Rep at h1
  constructor
  · intro h
    subst h
    simp at h1
    exact h1.symm
  · intro h
    rw [h, Int.mul_comm] at h1
    have e := Int.eq_of_mul_eq_mul_left (Int.ne_of_gt hD) h1
    obtain ⟨x, y⟩ := t
    simp only at e h2 h3
    subst e
    rw [Int.gcd_self] at h3
    have : x = 1 := by omega
    rw [this]
end K84

namespace K84
open PySem DV L2
/-! ### lots -/
abbrev Lot := List (Int × R)
abbrev eD (e : Int × R) : DV.D := .tuple [.int e.1, rD e.2]
abbrev lD (l : Lot) : DV.D := .tuple (l.map eD)
def goodR (r : R) : Bool := decide (1 ≤ r.2) && decide (Int.gcd r.1 r.2 = 1) && decide (1 ≤ r.1) && decide (r.2 ≤ 1000)
def okLot (many : Int) (l : Lot) : Bool := (l.all fun e => decide (0 ≤ e.1) && decide (e.1 < many)) && decide ((l.map (·.1)).Pairwise (· < ·)) && (l.all fun e => goodR e.2) && decide (tot (l.map (·.2)) = (1, 1))
structure LotFine (l : Lot) : Prop where
  len : l.length ≤ 9
  bd : ∀ e ∈ l, Bd 60 e.2
theorem adjI : ∀ {l : List Int}, (∀ k, k + 1 < l.length → l.getD k 0 < l.getD (k + 1) 0) → l.Pairwise (· < ·)
  | [], _ => List.Pairwise.nil
  | [x], _ => List.pairwise_singleton _ _
  | x :: y :: l, h => by
    have ih := adjI (l := y :: l) fun k hk => by
      have := h (k + 1) (by simp at hk ⊢; omega)
      simpa using this
    rw [List.pairwise_cons]
    refine ⟨fun z hz => ?_, ih⟩
    have h0 : x < y := by simpa using h 0 (by simp)
    rcases List.mem_cons.mp hz with rfl | hz
    · exact h0
    · rw [List.pairwise_cons] at ih
      exact Int.lt_trans h0 (ih.1 z hz)
theorem pairI {l : List Int} (h : l.Pairwise (· < ·)) (k : Nat) (hk : k + 1 < l.length) : l.getD k 0 < l.getD (k + 1) 0 := by
  have := List.pairwise_iff_getElem.mp h k (k + 1) (by omega) hk (by omega)
  simp [List.getD, List.getElem?_eq_getElem hk, List.getElem?_eq_getElem (show k < l.length by omega), this]
theorem shaped_rD (r : R) : SeqAt.shaped (rD r) = true := by
  simp [SeqAt.shaped, PyData.canLay0, PyData.canLayAll0, PyData.depth, PyData.depthAll]
theorem eqv_rD (r q : R) : PyData.eqv (rD r) (rD q) = decide (r = q) := by
  rw [Bool.eq_iff_iff]
  simp [PyData.eqv, PyData.eqvAll, Prod.ext_iff]
theorem lot_loop (s0 s1 s2 s5 s6 : SV) : ∀ (l : Lot) (a b : SV), (∀ e ∈ l, Bd 60 e.2) →
    ((l.all fun e => goodR e.2) = true → ∃ a' b', mForL (gT 2 (gsC (gN 3) (gsC (gN 4) gsN))) b_check_lot_1 (l.map eD) [s0, s1, s2, a, b, s5, s6] = .nx [s0, s1, s2, a', b', s5, s6]) ∧
    ((l.all fun e => goodR e.2) = false → ∃ s', mForL (gT 2 (gsC (gN 3) (gsC (gN 4) gsN))) b_check_lot_1 (l.map eD) [s0, s1, s2, a, b, s5, s6] = .exc "NotAllowed" s')
  | [], a, b, _ => ⟨fun _ => ⟨a, b, rfl⟩, fun h => by simp at h⟩
  | e :: l, a, b, hl => by
    obtain ⟨ih1, ih2⟩ := lot_loop s0 s1 s2 s5 s6 l (.dat (.int e.1)) (.dat (rD e.2)) fun q hq => hl q (List.mem_cons_of_mem _ hq)
    have hg : gT 2 (gsC (gN 3) (gsC (gN 4) gsN)) (eD e) [s0, s1, s2, a, b, s5, s6] = some [s0, s1, s2, .dat (.int e.1), .dat (rD e.2), s5, s6] := rfl
    have hr := is_ratio_spec e.2
    rw [List.map_cons, List.all_cons]
    by_cases h : goodR e.2 = true
    · have hb : b_check_lot_1 [s0, s1, s2, .dat (.int e.1), .dat (rD e.2), s5, s6] = .nx [s0, s1, s2, .dat (.int e.1), .dat (rD e.2), s5, s6] := by
        unfold goodR at h
        simp only [Bool.and_eq_true, decide_eq_true_eq] at h
        obtain ⟨⟨⟨h1, h2⟩, h3⟩, h4⟩ := h
        have h3' : ¬ e.2.1 < 1 := by omega
        have h4' : ¬ 1000 < e.2.2 := by omega
        simp [b_check_lot_1, hr, h1, h2, c_MAX_PART, h3', h4']
      rw [h, Bool.true_and, forL_nx hg hb]
      exact ⟨ih1, ih2⟩
    · have hb : b_check_lot_1 [s0, s1, s2, .dat (.int e.1), .dat (rD e.2), s5, s6] = .exc "NotAllowed" [s0, s1, s2, .dat (.int e.1), .dat (rD e.2), s5, s6] := by
        unfold goodR at h
        by_cases h1 : 1 ≤ e.2.2 ∧ Int.gcd e.2.1 e.2.2 = 1
        · by_cases h3 : 1 ≤ e.2.1
          · have h4 : 1000 < e.2.2 := by
              rcases Int.lt_or_le 1000 e.2.2 with q | q
              · exact q
              · exact absurd (by simp [h1.1, h1.2, h3, q]) h
            have h3' : ¬ e.2.1 < 1 := by omega
            simp [b_check_lot_1, hr, h1.1, h1.2, c_MAX_PART, h3', h4]
          · have h3' : e.2.1 < 1 := by omega
            simp [b_check_lot_1, hr, h1.1, h1.2, c_MAX_PART, h3']
        · have hf : (decide (1 ≤ e.2.2) && decide (Int.gcd e.2.1 e.2.2 = 1)) = false := by
            rw [Bool.eq_false_iff]
            intro q
            simp only [Bool.and_eq_true, decide_eq_true_eq] at q
            exact h1 q
          rw [hf] at hr
          simp [b_check_lot_1, hr]
      have h' : goodR e.2 = false := by simpa using h
      rw [h', Bool.false_and]
      exact ⟨fun q => absurd q (by simp), fun _ => ⟨_, forL_exc hg hb⟩⟩
theorem check_lot_spec (many : Int) {l : Lot} (hl : LotFine l) : c_check_lot [.int many, lD l] = if okLot many l then .ok .none else .exc "NotAllowed" := by
  have hlen := hl.len
  obtain ⟨xs, hxs⟩ : ∃ xs : List Int, xs = l.map (·.1) := ⟨_, rfl⟩
  have hxl : xs.length = l.length := by rw [hxs, List.length_map]
  obtain ⟨L1, h1, hL1⟩ : ∃ L1 : List D, mLcL [5, 3] (gT 2 (gsC (gN 5) (gsC (gN 3) gsN))) mTrue e_check_lot_1 (l.map eD) [.dat (.int many), .dat (lD l), .un, .un, .un, .un, .un] = .ok L1 [.dat (.int many), .dat (lD l), .un, .un, .un, .un, .un] ∧ L1 = xs.map .int := by
    refine ⟨_, ?_, rfl⟩
    rw [hxs, List.map_map]
    refine lcA_map0 fun e he => ⟨_, rfl, ?_, rfl⟩
    simp [e_check_lot_1]
  have l1 : L1.length = l.length := by rw [hL1, List.length_map, hxl]
  obtain ⟨L2, h2, l2, a2⟩ : ∃ L2 : List D, mLcL [5] (gN 5) mTrue e_check_lot_2 L1 [.dat (.int many), .dat (lD l), .dat (.list L1), .un, .un, .un, .un] = .ok L2 [.dat (.int many), .dat (lD l), .dat (.list L1), .un, .un, .un, .un] ∧ L2.length ≤ 1000000 ∧ dAll (.list L2) = some (.bool (xs.all fun x => decide (0 ≤ x) && decide (x < many))) := by
    refine ⟨(xs.map fun x => decide (0 ≤ x) && decide (x < many)).map .bool, ?_, by simp; omega, by rw [dAll_bools, List.all_map]; rfl⟩
    rw [List.map_map]
    generalize L1 = L at hL1 ⊢
    rw [hL1]
    refine lcA_map0 fun x hx => ⟨_, rfl, ?_, rfl⟩
    by_cases h0 : 0 ≤ x <;> simp [e_check_lot_2, h0]
  obtain ⟨L3, h3, l3, a3⟩ : ∃ L3 : List D, mLcL [6] (gN 6) mTrue e_check_lot_3 (rngD (l.length - 1)) [.dat (.int many), .dat (lD l), .dat (.list L1), .un, .un, .un, .un] = .ok L3 [.dat (.int many), .dat (lD l), .dat (.list L1), .un, .un, .un, .un] ∧ L3.length ≤ 1000000 ∧ dAll (.list L3) = some (.bool (decide (xs.Pairwise (· < ·)))) := by
    refine ⟨((List.range (l.length - 1)).map fun k => decide (xs.getD k 0 < xs.getD (k + 1) 0)).map .bool, ?_, by simp; omega, ?_⟩
    · rw [List.map_map]
      unfold rngD
      refine lcA_map0 fun k hk => ⟨_, rfl, ?_, rfl⟩
      have hk := List.mem_range.mp hk
      have g1 : atI L1 (Int.ofNat k) = some (.int (xs.getD k 0)) := by
        show atI L1 (k : Int) = _
        have : k < xs.length := by omega
        rw [DV.atI_nat, hL1, List.getElem?_map, List.getElem?_eq_getElem this]
        simp [List.getD, this]
      have g2 : atI L1 (Int.ofNat k + 1) = some (.int (xs.getD (k + 1) 0)) := by
        show atI L1 ((k : Int) + 1) = _
        have : k + 1 < xs.length := by omega
        rw [show ((k : Int) + 1) = ((k + 1 : Nat) : Int) by omega, DV.atI_nat, hL1, List.getElem?_map, List.getElem?_eq_getElem this]
        simp [List.getD, this]
      generalize Int.ofNat k = kk at g1 g2 ⊢
      obtain ⟨u, hu⟩ : ∃ u, u = xs[k]?.getD 0 := ⟨_, rfl⟩
      obtain ⟨v, hv⟩ : ∃ v, v = xs[k + 1]?.getD 0 := ⟨_, rfl⟩
      rw [List.getD_eq_getElem?_getD, ← hu] at g1
      rw [List.getD_eq_getElem?_getD, ← hv] at g2
      simp [e_check_lot_3, g1, g2, gN, ← hu, ← hv]
    · rw [dAll_bools]
      congr 2
      rw [Bool.eq_iff_iff, List.all_map, List.all_eq_true]
      simp only [decide_eq_true_eq, Function.comp, id]
      constructor
      · intro h
        exact adjI fun k hk => h k (List.mem_range.mpr (by omega))
      · intro h k hk
        refine pairI h k ?_
        have := List.mem_range.mp hk
        omega
  obtain ⟨lp1, lp2⟩ := lot_loop (.dat (.int many)) (.dat (lD l)) (.dat (.list L1)) .un .un l .un .un hl.bd
  have e2 : ((L1.length : Int) - 1).toNat = l.length - 1 := by omega
  have e3 : (L1.length : Int) - 1 ≤ 1000000000 := by omega
  have e4 : (-1000000000 : Int) ≤ (L1.length : Int) - 1 := by omega
  have ll1 : L1.length ≤ 1000000 := by omega
  have b1 : (l.all fun e => decide (0 ≤ e.1) && decide (e.1 < many)) = (xs.all fun x => decide (0 ≤ x) && decide (x < many)) := by rw [hxs, List.all_map]; rfl
  unfold okLot
  rw [b1, ← hxs]
  cases hb1 : xs.all fun x => decide (0 ≤ x) && decide (x < many) with
  | false =>
    rw [hb1] at a2
    simp [c_check_lot, mfunP, m_check_lot, toS, mLc, unS, keepS, h1, ll1, h2, l2, a2]
  | true =>
    rw [hb1] at a2
    by_cases hb2 : xs.Pairwise (· < ·)
    · rw [decide_eq_true hb2] at a3
      cases hb3 : l.all fun e => goodR e.2 with
      | false =>
        obtain ⟨s', e5⟩ := lp2 hb3
        simp [c_check_lot, mfunP, m_check_lot, toS, mLc, unS, keepS, h1, ll1, h2, l2, a2, e2, e3, e4, h3, l3, a3, e5]
      | true =>
        obtain ⟨p', q', e5⟩ := lp1 hb3
        have hpos : ∀ r ∈ l.map (·.2), Bd 60 r ∧ 0 < r.2 := fun r hr => by
          obtain ⟨e, he, rfl⟩ := List.mem_map.mp hr
          have := List.all_eq_true.mp hb3 e he
          unfold goodR at this
          simp only [Bool.and_eq_true, decide_eq_true_eq] at this
          exact ⟨hl.bd e he, by omega⟩
        have ht := total_spec (l.map (·.2)) (by simpa using hlen) hpos
        obtain ⟨L4, h4, hL4⟩ : ∃ L4 : List D, mLcL [3, 4] (gT 2 (gsC (gN 3) (gsC (gN 4) gsN))) mTrue e_check_lot_4 (l.map eD) [.dat (.int many), .dat (lD l), .dat (.list L1), .un, .un, .un, .un] = .ok L4 [.dat (.int many), .dat (lD l), .dat (.list L1), .un, .un, .un, .un] ∧ L4 = (l.map (·.2)).map rD := by
          refine ⟨_, ?_, rfl⟩
          rw [List.map_map]
          refine lcA_map0 fun e he => ⟨_, rfl, ?_, rfl⟩
          simp [e_check_lot_4]
        have l4 : L4.length ≤ 1000000 := by rw [hL4]; simp; omega
        rw [← hL4] at ht
        generalize tot (l.map (·.2)) = t at ht
        have q : dNe (rD t) c_WHOLE = some (.bool (!decide (t = (1, 1)))) := by
          have := dNe_sh (shaped_rD t) (shaped_rD (1, 1))
          rw [eqv_rD] at this
          exact this
        obtain ⟨Z, hZ⟩ : ∃ Z, Z = rD t := ⟨_, rfl⟩
        rw [← hZ] at ht q
        by_cases hb4 : t = (1, 1)
        · rw [decide_eq_true hb4] at q
          simp [c_check_lot, mfunP, m_check_lot, toS, mLc, unS, keepS, h1, ll1, h2, l2, a2, e2, e3, e4, h3, l3, a3, e5, h4, l4, ht, q, hb4, hb2]
        · rw [decide_eq_false hb4] at q
          simp [c_check_lot, mfunP, m_check_lot, toS, mLc, unS, keepS, h1, ll1, h2, l2, a2, e2, e3, e4, h3, l3, a3, e5, h4, l4, ht, q, hb4, hb2]
    · rw [decide_eq_false hb2] at a3
      simp [c_check_lot, mfunP, m_check_lot, toS, mLc, unS, keepS, h1, ll1, h2, l2, a2, e2, e3, e4, h3, l3, a3, hb2]
end K84

namespace K84
open PySem DV L2
/-! ### gambles -/
structure Gm where
  sc : List (List Str)
  st : Lot
  op : List (List Lot)
abbrev rowD (row : List Lot) : DV.D := .tuple (row.map lD)
abbrev scD (sc : List (List Str)) : DV.D := .tuple (sc.map sD)
abbrev opD (op : List (List Lot)) : DV.D := .tuple (op.map rowD)
abbrev gD (g : Gm) : DV.D := .tuple [scD g.sc, lD g.st, opD g.op]
def okRow (many : Int) (row : List Lot) : Bool := decide (1 ≤ row.length) && decide (row.length ≤ 4) && row.all (okLot many)
def okG (facts : List Str) (g : Gm) : Bool := decide (1 ≤ g.sc.length) && decide (g.sc.length ≤ 8) && decide (g.op.length = g.sc.length) && g.sc.all (subB facts) && okLot (g.sc.length : Nat) g.st && g.op.all (okRow (g.sc.length : Nat))
structure GmFine (g : Gm) : Prop where
  sc : ∀ s ∈ g.sc, (∀ x ∈ s, PyData.strOk x = true) ∧ s.length ≤ 100
  scl : g.sc.length ≤ 1000
  st : LotFine g.st
  op : ∀ row ∈ g.op, ∀ l ∈ row, LotFine l
theorem row_loop (s0 s1 s3 s4 s5 s7 : SV) (S : List D) : ∀ (row : List Lot) (a : SV), (∀ l ∈ row, LotFine l) →
    ((row.all (okLot (S.length : Nat))) = true → ∃ a', mForL (gN 6) b_check_gamble_1 (row.map lD) [s0, s1, .dat (.tuple S), s3, s4, s5, a, s7] = .nx [s0, s1, .dat (.tuple S), s3, s4, s5, a', s7]) ∧
    ((row.all (okLot (S.length : Nat))) = false → ∃ s', mForL (gN 6) b_check_gamble_1 (row.map lD) [s0, s1, .dat (.tuple S), s3, s4, s5, a, s7] = .exc "NotAllowed" s')
  | [], a, _ => ⟨fun _ => ⟨a, rfl⟩, fun h => absurd h (by simp)⟩
  | l :: row, a, hl => by
    obtain ⟨ih1, ih2⟩ := row_loop s0 s1 s3 s4 s5 s7 S row (.dat (lD l)) fun q hq => hl q (List.mem_cons_of_mem _ hq)
    have hg : gN 6 (lD l) [s0, s1, .dat (.tuple S), s3, s4, s5, a, s7] = some [s0, s1, .dat (.tuple S), s3, s4, s5, .dat (lD l), s7] := rfl
    have hc := check_lot_spec (S.length : Nat) (hl l List.mem_cons_self)
    obtain ⟨Z, hZ⟩ : ∃ Z, Z = lD l := ⟨_, rfl⟩
    rw [← hZ] at hc hg ih1 ih2
    rw [List.map_cons, List.all_cons, ← hZ]
    cases ho : okLot (S.length : Nat) l with
    | true =>
      rw [ho] at hc
      have hb : b_check_gamble_1 [s0, s1, .dat (.tuple S), s3, s4, s5, .dat Z, s7] = .nx [s0, s1, .dat (.tuple S), s3, s4, s5, .dat Z, s7] := by
        simp only [if_true] at hc
        simp [b_check_gamble_1, toS, hc]
      rw [Bool.true_and, forL_nx hg hb]
      exact ⟨ih1, ih2⟩
    | false =>
      rw [ho] at hc
      have hb : b_check_gamble_1 [s0, s1, .dat (.tuple S), s3, s4, s5, .dat Z, s7] = .exc "NotAllowed" [s0, s1, .dat (.tuple S), s3, s4, s5, .dat Z, s7] := by
        simp only [Bool.false_eq_true, if_false] at hc
        simp [b_check_gamble_1, toS, hc]
      rw [Bool.false_and]
      exact ⟨fun q => absurd q (by simp), fun _ => ⟨_, forL_exc hg hb⟩⟩
theorem rows_loop (s0 s1 s3 s4 s7 : SV) (S : List D) : ∀ (op : List (List Lot)) (a b : SV), (∀ row ∈ op, ∀ l ∈ row, LotFine l) →
    ((op.all (okRow (S.length : Nat))) = true → ∃ a' b', mForL (gN 5) b_check_gamble_2 (op.map rowD) [s0, s1, .dat (.tuple S), s3, s4, a, b, s7] = .nx [s0, s1, .dat (.tuple S), s3, s4, a', b', s7]) ∧
    ((op.all (okRow (S.length : Nat))) = false → ∃ s', mForL (gN 5) b_check_gamble_2 (op.map rowD) [s0, s1, .dat (.tuple S), s3, s4, a, b, s7] = .exc "NotAllowed" s')
  | [], a, b, _ => ⟨fun _ => ⟨a, b, rfl⟩, fun h => absurd h (by simp)⟩
  | row :: op, a, b, hl => by
    have hg : gN 5 (.tuple (row.map lD)) [s0, s1, .dat (.tuple S), s3, s4, a, b, s7] = some [s0, s1, .dat (.tuple S), s3, s4, .dat (.tuple (row.map lD)), b, s7] := rfl
    obtain ⟨lp1, lp2⟩ := row_loop s0 s1 s3 s4 (.dat (.tuple (row.map lD))) s7 S row b (hl row List.mem_cons_self)
    obtain ⟨L, hL⟩ : ∃ L, L = row.map lD := ⟨_, rfl⟩
    have hLl : L.length = row.length := by rw [hL, List.length_map]
    rw [List.map_cons, List.all_cons]
    show (_ → ∃ a' b', mForL _ _ (.tuple (row.map lD) :: _) _ = _) ∧ (_ → ∃ s', mForL _ _ (.tuple (row.map lD) :: _) _ = _)
    rw [← hL] at lp1 lp2 hg ⊢
    unfold okRow
    by_cases h1 : 1 ≤ row.length
    · by_cases h2 : row.length ≤ 4
      · have i1 : (1 : Int) ≤ (row.length : Int) := by omega
        have i2 : (row.length : Int) ≤ 4 := by omega
        cases ho : row.all (okLot (S.length : Nat)) with
        | true =>
          obtain ⟨b', e⟩ := lp1 ho
          obtain ⟨ih1, ih2⟩ := rows_loop s0 s1 s3 s4 s7 S op (.dat (.tuple L)) b' fun q hq => hl q (List.mem_cons_of_mem _ hq)
          have hb : b_check_gamble_2 [s0, s1, .dat (.tuple S), s3, s4, .dat (.tuple L), b, s7] = .nx [s0, s1, .dat (.tuple S), s3, s4, .dat (.tuple L), b', s7] := by
            simp [b_check_gamble_2, toS, hLl, i1, i2, c_MAX_OPTIONS, e]
          rw [forL_nx hg hb, decide_eq_true h1, decide_eq_true h2]
          exact ⟨ih1, ih2⟩
        | false =>
          obtain ⟨s', e⟩ := lp2 ho
          have hb : b_check_gamble_2 [s0, s1, .dat (.tuple S), s3, s4, .dat (.tuple L), b, s7] = .exc "NotAllowed" s' := by
            simp [b_check_gamble_2, toS, hLl, i1, i2, c_MAX_OPTIONS, e]
          exact ⟨fun q => absurd q (by simp), fun _ => ⟨_, forL_exc hg hb⟩⟩
      · have i1 : (1 : Int) ≤ (row.length : Int) := by omega
        have i2 : ¬ (row.length : Int) ≤ 4 := by omega
        have hb : b_check_gamble_2 [s0, s1, .dat (.tuple S), s3, s4, .dat (.tuple L), b, s7] = .exc "NotAllowed" [s0, s1, .dat (.tuple S), s3, s4, .dat (.tuple L), b, s7] := by
          simp [b_check_gamble_2, toS, hLl, i1, i2, c_MAX_OPTIONS]
        rw [decide_eq_false h2]
        exact ⟨fun q => absurd q (by simp), fun _ => ⟨_, forL_exc hg hb⟩⟩
    · have i1 : ¬ (1 : Int) ≤ (row.length : Int) := by omega
      have hb : b_check_gamble_2 [s0, s1, .dat (.tuple S), s3, s4, .dat (.tuple L), b, s7] = .exc "NotAllowed" [s0, s1, .dat (.tuple S), s3, s4, .dat (.tuple L), b, s7] := by
        simp [b_check_gamble_2, toS, hLl, i1, c_MAX_OPTIONS]
      rw [decide_eq_false h1]
      exact ⟨fun q => absurd q (by simp), fun _ => ⟨_, forL_exc hg hb⟩⟩
theorem check_gamble_spec {facts : List Str} (hf : FactsOk facts) {g : Gm} (hg : GmFine g) : c_check_gamble [sD facts, gD g] = if okG facts g then .ok .none else .exc "NotAllowed" := by
  obtain ⟨S, hS⟩ : ∃ S, S = g.sc.map sD := ⟨_, rfl⟩
  obtain ⟨O, hO⟩ : ∃ O, O = g.op.map rowD := ⟨_, rfl⟩
  obtain ⟨Z, hZ⟩ : ∃ Z, Z = lD g.st := ⟨_, rfl⟩
  obtain ⟨F, hF⟩ : ∃ F, F = sD facts := ⟨_, rfl⟩
  have hSl : S.length = g.sc.length := by rw [hS, List.length_map]
  have hOl : O.length = g.op.length := by rw [hO, List.length_map]
  have hscl := hg.scl
  obtain ⟨L1, h1, l1, a1⟩ : ∃ L1, mLcL [7] (gN 7) mTrue e_check_gamble_1 S [.dat F, .dat (.tuple [.tuple S, Z, .tuple O]), .dat (.tuple S), .dat Z, .dat (.tuple O), .un, .un, .un] = .ok L1 [.dat F, .dat (.tuple [.tuple S, Z, .tuple O]), .dat (.tuple S), .dat Z, .dat (.tuple O), .un, .un, .un] ∧ L1.length ≤ 1000000 ∧ dAll (.list L1) = some (.bool (g.sc.all (subB facts))) := by
    refine ⟨(g.sc.map (subB facts)).map .bool, ?_, by simp; omega, by rw [dAll_bools, List.all_map]; rfl⟩
    generalize h0 : Z = Z0
    obtain ⟨T, hT⟩ : ∃ T, T = S := ⟨_, rfl⟩
    rw [← hT]
    conv => lhs; arg 5; rw [hT, hS]
    rw [List.map_map]
    refine lcA_map0 fun s hs => ⟨_, rfl, ?_, rfl⟩
    have q := is_scene_spec hf s (hg.sc s hs).1 (hg.sc s hs).2
    rw [← hF] at q
    simp [e_check_gamble_1, gN, q]
  have hst := check_lot_spec (S.length : Nat) hg.st
  rw [← hZ] at hst
  obtain ⟨lp1, lp2⟩ := rows_loop (.dat F) (.dat (.tuple [.tuple S, Z, .tuple O])) (.dat Z) (.dat (.tuple O)) .un S g.op .un .un hg.op
  rw [← hO] at lp1 lp2
  show c_check_gamble [sD facts, .tuple [.tuple (g.sc.map sD), lD g.st, .tuple (g.op.map rowD)]] = _
  rw [← hS, ← hO, ← hZ, ← hF]
  unfold okG
  rw [← hSl]
  by_cases c1 : 1 ≤ S.length
  · by_cases c2 : S.length ≤ 8
    · have i1 : (1 : Int) ≤ (S.length : Int) := by omega
      have i2 : (S.length : Int) ≤ 8 := by omega
      by_cases c3 : g.op.length = S.length
      · have i3 : (O.length : Int) = (S.length : Int) := by omega
        cases hb1 : g.sc.all (subB facts) with
        | false =>
          rw [hb1] at a1
          simp [c_check_gamble, mfunP, m_check_gamble, toS, mLc, unS, keepS, c_MAX_STATES, i1, i2, i3, h1, l1, a1]
        | true =>
          rw [hb1] at a1
          cases hb2 : okLot (S.length : Nat) g.st with
          | false =>
            rw [hb2] at hst
            simp only [Bool.false_eq_true, if_false] at hst
            simp [c_check_gamble, mfunP, m_check_gamble, toS, mLc, unS, keepS, c_MAX_STATES, i1, i2, i3, h1, l1, a1, hst]
          | true =>
            rw [hb2] at hst
            simp only [if_true] at hst
            cases hb3 : g.op.all (okRow (S.length : Nat)) with
            | false =>
              obtain ⟨s', e⟩ := lp2 hb3
              simp [c_check_gamble, mfunP, m_check_gamble, toS, mLc, unS, keepS, c_MAX_STATES, i1, i2, i3, h1, l1, a1, hst, e]
            | true =>
              obtain ⟨a', b', e⟩ := lp1 hb3
              simp [c_check_gamble, mfunP, m_check_gamble, toS, mLc, unS, keepS, c_MAX_STATES, i1, i2, i3, h1, l1, a1, hst, e, c1, c2, c3]
      · have i3 : ¬ (O.length : Int) = (S.length : Int) := by omega
        simp [c_check_gamble, mfunP, m_check_gamble, toS, c_MAX_STATES, i1, i2, i3, c3]
    · have i1 : (1 : Int) ≤ (S.length : Int) := by omega
      have i2 : ¬ (S.length : Int) ≤ 8 := by omega
      simp [c_check_gamble, mfunP, m_check_gamble, toS, c_MAX_STATES, i1, i2, c2]
  · have i1 : ¬ (1 : Int) ≤ (S.length : Int) := by omega
    simp [c_check_gamble, mfunP, m_check_gamble, toS, c_MAX_STATES, i1, c1]
end K84

namespace K84
open PySem DV L2
/-! ### the law's lots -/
structure GoodLot (many : Nat) (l : Lot) (W : List (Int × Int)) (S : Int) : Prop where
  eq : l = W.map fun p => (p.1, norm p.2 S)
  sum : (W.map (·.2)).sum = S
  wt : ∀ p ∈ W, 1 ≤ p.2 ∧ p.2 ≤ 6
  asc : (W.map (·.1)).Pairwise (· < ·)
  rng : ∀ p ∈ W, 0 ≤ p.1 ∧ p.1 < many
  ne : W ≠ []
  len : W.length ≤ 8
theorem sum_le {W : List (Int × Int)} (h : ∀ p ∈ W, 1 ≤ p.2 ∧ p.2 ≤ 6) : (W.length : Int) ≤ (W.map (·.2)).sum ∧ (W.map (·.2)).sum ≤ 6 * W.length := by
  induction W with
  | nil => simp
  | cons p W ih =>
    have h1 := h p List.mem_cons_self
    have h2 := ih fun q hq => h q (List.mem_cons_of_mem _ hq)
    simp only [List.map_cons, List.sum_cons, List.length_cons]
    omega
theorem mem_le_sum {W : List (Int × Int)} (h : ∀ p ∈ W, 1 ≤ p.2 ∧ p.2 ≤ 6) {p : Int × Int} (hp : p ∈ W) : p.2 ≤ (W.map (·.2)).sum := by
  induction W with
  | nil => cases hp
  | cons q W ih =>
    have h1 := h q List.mem_cons_self
    have h2 := (sum_le fun r hr => h r (List.mem_cons_of_mem _ hr)).1
    simp only [List.map_cons, List.sum_cons]
    rcases List.mem_cons.mp hp with rfl | hp
    · omega
    · have := ih (fun r hr => h r (List.mem_cons_of_mem _ hr)) hp
      omega
namespace GoodLot
variable {many : Nat} {l : Lot} {W : List (Int × Int)} {S : Int}
theorem pos (h : GoodLot many l W S) : 1 ≤ S ∧ S ≤ 48 := by
  have h1 := sum_le h.wt
  rw [h.sum] at h1
  have h2 : 0 < W.length := List.length_pos_iff.mpr h.ne
  have := h.len
  omega
theorem good (h : GoodLot many l W S) : ∀ p ∈ W, Rep (norm p.2 S) p.2 S ∧ 0 < (norm p.2 S).2 ∧ goodR (norm p.2 S) = true ∧ (norm p.2 S).1 ≤ 48 ∧ (norm p.2 S).2 ≤ 48 := fun p hp => by
  have hs := h.pos
  have hw := h.wt p hp
  have h1 := norm_pos (a := p.2) (b := S) (by omega)
  have h2 := norm_num_pos (a := p.2) (b := S) (by omega) (by omega)
  have h3 := norm_gcd (a := p.2) (b := S) (by omega)
  have h4 := norm_le (a := p.2) (b := S) (by omega)
  refine ⟨norm_rep _ _, h1, ?_, by omega, by omega⟩
  unfold goodR
  simp only [Bool.and_eq_true, decide_eq_true_eq]
  omega
theorem ratios (h : GoodLot many l W S) : l.map (·.2) = (W.map fun p => (norm p.2 S, p.2)).map (·.1) := by
  rw [h.eq, List.map_map, List.map_map]
  rfl
theorem ok (h : GoodLot many l W S) : okLot many l = true := by
  have hs := h.pos
  unfold okLot
  simp only [Bool.and_eq_true, List.all_eq_true, decide_eq_true_eq]
  refine ⟨⟨⟨fun e he => ?_, ?_⟩, fun e he => ?_⟩, ?_⟩
  · rw [h.eq] at he
    obtain ⟨p, hp, rfl⟩ := List.mem_map.mp he
    exact h.rng p hp
  · rw [h.eq, List.map_map]
    exact h.asc
  · rw [h.eq] at he
    obtain ⟨p, hp, rfl⟩ := List.mem_map.mp he
    exact (h.good p hp).2.2.1
  · refine (tot_one (D := S) (by omega) (W.map fun p => (norm p.2 S, p.2)) (fun q hq => ?_) _ h.ratios).mpr ?_
    · obtain ⟨p, hp, rfl⟩ := List.mem_map.mp hq
      exact ⟨(h.good p hp).1, (h.good p hp).2.1⟩
    · rw [List.map_map]
      exact h.sum
theorem mem (h : GoodLot many l W S) {e : Int × R} (he : e ∈ l) : (0 ≤ e.1 ∧ e.1 < many) ∧ goodR e.2 = true ∧ e.2.1 ≤ 48 ∧ e.2.2 ≤ 48 := by
  rw [h.eq] at he
  obtain ⟨p, hp, rfl⟩ := List.mem_map.mp he
  exact ⟨h.rng p hp, (h.good p hp).2.2.1, (h.good p hp).2.2.2.1, (h.good p hp).2.2.2.2⟩
end GoodLot
theorem goodR_iff {r : R} : goodR r = true ↔ 1 ≤ r.2 ∧ Int.gcd r.1 r.2 = 1 ∧ 1 ≤ r.1 ∧ r.2 ≤ 1000 := by
  unfold goodR
  simp only [Bool.and_eq_true, decide_eq_true_eq]
  omega
theorem GoodLot.fine {many : Nat} {l : Lot} {W : List (Int × Int)} {S : Int} (h : GoodLot many l W S) : LotFine l := by
  refine ⟨by rw [h.eq, List.length_map]; have := h.len; omega, fun e he => ?_⟩
  obtain ⟨_, h2, h3, h4⟩ := h.mem he
  rw [goodR_iff] at h2
  exact ⟨Nat.lt_of_lt_of_le (show e.2.1.natAbs < 2 ^ 6 by omega) (by decide), Nat.lt_of_lt_of_le (show e.2.2.natAbs < 2 ^ 6 by omega) (by decide)⟩
theorem lot_states {ns : List Int} (h : NsOk ns) (m : D) : ∀ (ks : List Nat) (c : Nat) (hc : c + ks.length < 2 ^ 60), ∃ xs : List Nat, xs.Sublist ks ∧
    mLcL [4] (gN 4) t__law_lot_1 e__law_lot_1 (ks.map fun i => .int (Int.ofNat i)) [.io (stD ns c), .dat m, .un, .un, .un] = .ok (xs.map fun i => .int (Int.ofNat i)) [.io (stD ns (c + ks.length)), .dat m, .un, .un, .un]
  | [], c, _ => ⟨[], List.Sublist.refl _, rfl⟩
  | f :: fs, c, hc => by
    simp only [List.length_cons] at hc
    obtain ⟨r, hr, hn⟩ := next_spec h c (by omega) 3 (by omega)
    have hn' : c__law_next [.list (ns.map .int), .int (c : Int)] [.int 3] = .ok (.int r) (stD ns (c + 1)) := hn
    obtain ⟨sc, h1, h2⟩ := lot_states h m fs (c + 1) (by omega)
    have e : c + 1 + fs.length = c + (f :: fs).length := by simp; omega
    rw [e] at h2
    by_cases hz : r = 0
    · refine ⟨f :: sc, h1.cons₂ f, ?_⟩
      rw [List.map_cons, List.map_cons]
      refine lcL_yes (s1 := [.io (stD ns c), .dat m, .un, .un, .dat (.int (Int.ofNat f))]) (s2 := [.io (stD ns (c + 1)), .dat m, .un, .un, .dat (.int (Int.ofNat f))]) (s3 := [.io (stD ns (c + 1)), .dat m, .un, .un, .dat (.int (Int.ofNat f))]) rfl ?_ rfl h2
      simp [t__law_lot_1, stD, hn', hz]
    · refine ⟨sc, h1.cons f, ?_⟩
      rw [List.map_cons, lcL_no (s1 := [.io (stD ns c), .dat m, .un, .un, .dat (.int (Int.ofNat f))]) (s2 := [.io (stD ns (c + 1)), .dat m, .un, .un, .dat (.int (Int.ofNat f))]) rfl ?_]
      · exact h2
      · simp [t__law_lot_1, stD, hn', hz]
theorem lot_weights {ns : List Int} (h : NsOk ns) (m st : D) : ∀ (ks : List D) (c : Nat) (hc : c + 2 * ks.length < 2 ^ 60), ∃ ws : List Int, ws.length = ks.length ∧ (∀ w ∈ ws, 1 ≤ w ∧ w ≤ 6) ∧
    mLcL [4] (gN 4) mTrue e__law_lot_2 ks [.io (stD ns c), .dat m, .dat st, .un, .un] = .ok (ws.map .int) [.io (stD ns (c + 2 * ks.length)), .dat m, .dat st, .un, .un]
  | [], c, _ => ⟨[], rfl, fun w hw => (by cases hw), rfl⟩
  | f :: fs, c, hc => by
    simp only [List.length_cons] at hc
    obtain ⟨r, hr, hn⟩ := next_spec h c (by omega) 2 (by omega)
    have hn' : c__law_next [.list (ns.map .int), .int (c : Int)] [.int 2] = .ok (.int r) (stD ns (c + 1)) := hn
    obtain ⟨w, hw, hat, hw2⟩ : ∃ b : Nat, 0 < b ∧ atI [PyData.int 1, PyData.int 6] (r : Int) = some (.int (b : Int)) ∧ b ≤ 6 := by
      have : r = 0 ∨ r = 1 := by omega
      rcases this with rfl | rfl
      · exact ⟨1, by omega, rfl, by omega⟩
      · exact ⟨6, by omega, rfl, by omega⟩
    obtain ⟨v, hv, hm⟩ := next_spec h (c + 1) (by omega) w hw
    have hm' : c__law_next [.list (ns.map .int), .int ((c + 1 : Nat) : Int)] [.int (w : Int)] = .ok (.int v) (stD ns (c + 2)) := hm
    obtain ⟨ws, h1, h2, h3⟩ := lot_weights h m st fs (c + 2) (by omega)
    have e : c + 2 + 2 * fs.length = c + 2 * (f :: fs).length := by simp; omega
    rw [e] at h3
    refine ⟨(1 + (v : Int)) :: ws, by simp [h1], fun x hx => ?_, ?_⟩
    · rcases List.mem_cons.mp hx with rfl | hx
      · omega
      · exact h2 x hx
    · rw [List.map_cons]
      refine lcL_yes (s1 := [.io (stD ns c), .dat m, .dat st, .un, .dat f]) (s2 := [.io (stD ns c), .dat m, .dat st, .un, .dat f]) (s3 := [.io (stD ns (c + 2)), .dat m, .dat st, .un, .dat f]) rfl rfl ?_ h3
      generalize hk : (c + 1 : Nat) = c1 at hn' hm'
      simp [e__law_lot_2, stD, hn', hat, hm']
theorem range_zip {α : Type} (f : Int → Int → α) : ∀ (xs ws : List Int), xs.length = ws.length → (List.range xs.length).map (fun k => f (xs.getD k 0) (ws.getD k 0)) = (xs.zip ws).map fun p => f p.1 p.2 := fun xs ws h => by
  refine List.ext_getElem (by simp [h]) fun i h1 h2 => ?_
  simp at h1 h2
  have h3 : i < ws.length := by omega
  simp [List.getD, h1, h2, h3]
theorem lot_spec {ns : List Int} (h : NsOk ns) (many : Nat) (h1 : 1 ≤ many) (h8 : many ≤ 8) (c : Nat) (hc : c + 100 < 2 ^ 60) : ∃ (c' : Nat) (l : Lot) (W : List (Int × Int)) (S : Int), c ≤ c' ∧ c' ≤ c + 30 ∧ GoodLot many l W S ∧
    c__law_lot (stD ns c) [.int many] = .ok (lD l) (stD ns c') := by
  obtain ⟨xs0, hs0, e0⟩ := lot_states h (.int many) (List.range many) c (by simp; omega)
  rw [List.length_range] at e0
  have hb1 : (many : Int) ≤ 1000000000 := by omega
  have hb2 : (-1000000000 : Int) ≤ (many : Int) := by omega
  have hl0 : xs0.length ≤ many := by have := hs0.length_le; simpa using this
  have hl0' : xs0.length ≤ 1000000 := by omega
  obtain ⟨L0, hL0⟩ : ∃ L0 : List D, L0 = xs0.map fun i => .int (Int.ofNat i) := ⟨_, rfl⟩
  have hL0l : L0.length = xs0.length := by rw [hL0, List.length_map]
  rw [← hL0] at e0
  have e0' : mLcL [4] (gN 4) t__law_lot_1 e__law_lot_1 (rngD many) [.io (stD ns c), .dat (.int many), .un, .un, .un] = .ok L0 [.io (stD ns (c + many)), .dat (.int many), .un, .un, .un] := e0
  -- the states
  obtain ⟨xs, c1, hc1, hc2, hx1, hx2, hx3, hx4, hrest⟩ : ∃ (xs : List Int) (c1 : Nat), c ≤ c1 ∧ c1 ≤ c + many + 1 ∧ xs ≠ [] ∧ xs.length ≤ many ∧ xs.Pairwise (· < ·) ∧ (∀ x ∈ xs, 0 ≤ x ∧ x < many) ∧
      ∀ (k : MS) (o : Ot), k [.io (stD ns c1), .dat (.int many), .dat (.list (xs.map .int)), .un, .un] = o →
        mSeq (mSet 2 (mLst (mLc [4] (mRng1 (mVar 1)) (gN 4) t__law_lot_1 e__law_lot_1))) (mSeq (mIf (mT (m2 dEq (m1 dLen (mVar 2)) (mC (.int 0)))) (mSet 2 (mLst (mDisp (mCons (mCallS c__law_next 0 (mCons (mVar 1) mNil)) mNil)))) mNext) k) [.io (stD ns c), .dat (.int many), .un, .un, .un] = o := by
    by_cases hz : xs0 = []
    · obtain ⟨r, hr, hn⟩ := next_spec h (c + many) (by omega) many h1
      have hn' : c__law_next [.list (ns.map .int), .int ((c + many : Nat) : Int)] [.int (many : Int)] = .ok (.int r) (stD ns (c + many + 1)) := hn
      refine ⟨[(r : Int)], c + many + 1, by omega, by omega, by simp, by simpa using h1, List.pairwise_singleton _ _, fun x hx => ?_, fun k o hk => ?_⟩
      · simp at hx
        omega
      · have hl : L0.length = 0 := by rw [hL0l, hz]; rfl
        have hl2 : L0.length ≤ 1000000 := by omega
        generalize hq : (c + many : Nat) = cc at e0' hn' hk
        generalize c__law_next = nx at hn' ⊢
        simp [toS, mLc, unS, keepS, hb1, hb2, e0', hl, stD, hn'] at hk ⊢
        exact hk
    · refine ⟨xs0.map fun i => Int.ofNat i, c + many, by omega, by omega, by simpa using hz, by simpa using hl0, ?_, fun x hx => ?_, fun k o hk => ?_⟩
      · rw [List.pairwise_map]
        refine ((List.pairwise_lt_range (n := many)).sublist hs0).imp fun {a b} q => ?_
        show (a : Int) < b
        omega
      · obtain ⟨i, hi, rfl⟩ := List.mem_map.mp hx
        have := List.mem_range.mp (hs0.subset hi)
        show 0 ≤ (i : Int) ∧ (i : Int) < many
        omega
      · have hl : ¬ (L0.length : Int) = 0 := by
          have : 0 < xs0.length := List.length_pos_iff.mpr hz
          omega
        have hl2 : L0.length ≤ 1000000 := by omega
        have eL : L0 = (xs0.map fun i => Int.ofNat i).map .int := by rw [hL0, List.map_map]; rfl
        rw [← eL] at hk
        generalize (c + many : Nat) = cc at e0' hk
        have hl3 : ¬ L0 = [] := fun q => hl (by rw [q]; rfl)
        simp [toS, mLc, unS, keepS, hb1, hb2, e0', hl2, hl, hl3, stD] at hk ⊢
        exact hk
  obtain ⟨X, hX⟩ : ∃ X : List D, X = xs.map .int := ⟨_, rfl⟩
  have hXl : X.length = xs.length := by rw [hX, List.length_map]
  obtain ⟨ws, w1, w2, w3⟩ := lot_weights h (.int many) (.list X) X c1 (by omega)
  have hwl : ws.length = xs.length := by omega
  obtain ⟨S, hS⟩ : ∃ S, S = ws.sum := ⟨_, rfl⟩
  obtain ⟨Y, hY⟩ : ∃ Y : List D, Y = ws.map .int := ⟨_, rfl⟩
  rw [← hY] at w3
  have hYl : Y.length = xs.length := by rw [hY, List.length_map, hwl]
  have hsum : dSum (.list Y) = some (.int S) := by rw [hY, hS, dSum_ints]
  have zw : ((xs.zip ws).map (·.2)) = ws := List.map_snd_zip (by omega)
  have zx : ((xs.zip ws).map (·.1)) = xs := List.map_fst_zip (by omega)
  have hzl : (xs.zip ws).length = xs.length := by simp; omega
  have G : GoodLot many ((xs.zip ws).map fun p => (p.1, norm p.2 S)) (xs.zip ws) S := by
    refine ⟨rfl, by rw [zw, hS], fun p hp => w2 _ (List.of_mem_zip hp).2, by rw [zx]; exact hx3, fun p hp => hx4 _ (List.of_mem_zip hp).1, fun q => hx1 ?_, by omega⟩
    rw [q] at hzl
    exact List.length_eq_zero_iff.mp hzl.symm
  have hp := G.pos
  refine ⟨c1 + 2 * X.length, _, _, S, by omega, by omega, G, ?_⟩
  obtain ⟨L4, h4, hL4⟩ : ∃ L4 : List D, mLcL [4] (gN 4) mTrue e__law_lot_3 (rngD xs.length) [.io (stD ns (c1 + 2 * X.length)), .dat (.int many), .dat (.list X), .dat (.list Y), .un] = .ok L4 [.io (stD ns (c1 + 2 * X.length)), .dat (.int many), .dat (.list X), .dat (.list Y), .un] ∧ L4 = (List.range xs.length).map fun k => eD (xs.getD k 0, norm (ws.getD k 0) S) := by
    refine ⟨_, ?_, rfl⟩
    unfold rngD
    refine lcA_map0 fun k hk => ⟨_, rfl, ?_, rfl⟩
    have hk := List.mem_range.mp hk
    have g1 : atI X (Int.ofNat k) = some (.int (xs.getD k 0)) := by
      show atI X (k : Int) = _
      rw [DV.atI_nat, hX, List.getElem?_map, List.getElem?_eq_getElem hk]
      simp [List.getD, hk]
    have g2 : atI Y (Int.ofNat k) = some (.int (ws.getD k 0)) := by
      show atI Y (k : Int) = _
      have : k < ws.length := by omega
      rw [DV.atI_nat, hY, List.getElem?_map, List.getElem?_eq_getElem this]
      simp [List.getD, this]
    have g3 := law_ratio_spec (ws.getD k 0) S (by omega) (Nat.lt_of_lt_of_le (show S.natAbs < 2 ^ 6 by omega) (by decide))
    generalize ws.getD k 0 = w at g2 g3 ⊢
    generalize xs.getD k 0 = x at g1 ⊢
    generalize Int.ofNat k = kk at g1 g2 ⊢
    simp [e__law_lot_3, g1, g2, hsum, g3, gN]
  have hL4' : L4 = ((xs.zip ws).map fun p => (p.1, norm p.2 S)).map eD := by
    rw [hL4, range_zip (fun x w => eD (x, norm w S)) xs ws (by omega), List.map_map]
    rfl
  have hl4 : L4.length ≤ 1000000 := by rw [hL4]; simp; omega
  have hlY : Y.length ≤ 1000000 := by omega
  show mfunS 2 5 m__law_lot _ _ = .ok (.tuple (((xs.zip ws).map fun p => (p.1, norm p.2 S)).map eD)) _
  rw [← hL4']
  have hb3 : (xs.length : Int) ≤ 1000000000 := by omega
  have hb4 : (-1000000000 : Int) ≤ (xs.length : Int) := by omega
  have hXn : ((X.length : Int)).toNat = xs.length := by omega
  rw [← hX] at hrest
  have key := hrest (mSeq (mSet 3 (mLst (mLc [4] (mItems (mVar 2)) (gN 4) mTrue e__law_lot_2))) (mRet (m1 dTuple (mLst (mLc [4] (mRng1 (m1 dLen (mVar 2))) (gN 4) mTrue e__law_lot_3))))) (.rt (.tuple L4) [.io (stD ns (c1 + 2 * X.length)), .dat (.int many), .dat (.list X), .dat (.list Y), .un]) (by
    generalize (c1 + 2 * X.length : Nat) = cc at w3 h4
    simp [toS, mLc, unS, keepS, w3, hlY, hb3, hb4, hXl, h4, hl4])
  have key' : m__law_lot [.io (stD ns c), .dat (.int many), .un, .un, .un] = _ := key
  simp [mfunS, key', ioAt]
end K84

namespace K84
open PySem DV L2
/-! ### the law's gambles -/
def GL (many : Nat) (l : Lot) : Prop := ∃ W S, GoodLot many l W S
structure GoodG (facts : List Str) (g : Gm) : Prop where
  few : 1 ≤ g.sc.length ∧ g.sc.length ≤ 8
  sc : ∀ s ∈ g.sc, s.Sublist facts
  st : GL g.sc.length g.st
  opl : g.op.length = g.sc.length
  op : ∀ row ∈ g.op, (1 ≤ row.length ∧ row.length ≤ 4) ∧ ∀ l ∈ row, GL g.sc.length l
theorem scenes_lc {ns : List Int} (h : NsOk ns) (facts : List Str) (hf : facts.length ≤ 16) (a b m : SV) : ∀ (ks : List D) (c : Nat) (hc : c + 100 * ks.length + 1000 < 2 ^ 60), ∃ (sc : List (List Str)) (c' : Nat), c ≤ c' ∧ c' ≤ c + 20 * ks.length ∧ sc.length = ks.length ∧ (∀ s ∈ sc, s.Sublist facts) ∧
    mLcL [7] (gN 7) mTrue e__law_gamble_1 ks [.io (stD ns c), .dat (sD facts), a, b, m, .un, .un, .un, .un] = .ok (sc.map sD) [.io (stD ns c'), .dat (sD facts), a, b, m, .un, .un, .un, .un]
  | [], c, _ => ⟨[], c, by omega, by omega, rfl, (fun s hs => by cases hs), rfl⟩
  | k :: ks, c, hc => by
    simp only [List.length_cons] at hc
    obtain ⟨s, hs, e⟩ := scene_spec h facts hf c (by omega)
    obtain ⟨sc, c', h1, h2, h3, h4, h5⟩ := scenes_lc h facts hf a b m ks (c + facts.length) (by omega)
    refine ⟨s :: sc, c', by omega, by simp only [List.length_cons]; omega, by simp [h3], fun t ht => ?_, ?_⟩
    · rcases List.mem_cons.mp ht with rfl | ht
      · exact hs
      · exact h4 t ht
    · rw [List.map_cons]
      have e' : c__law_scene [.list (ns.map .int), .int (c : Int)] [sD facts] = .ok (sD s) (stD ns (c + facts.length)) := e
      obtain ⟨F, hF⟩ : ∃ F, F = sD facts := ⟨_, rfl⟩
      obtain ⟨Z, hZ⟩ : ∃ Z, Z = sD s := ⟨_, rfl⟩
      rw [← hF] at e' h5 ⊢
      rw [← hZ] at e' ⊢
      refine lcL_yes (s1 := [.io (stD ns c), .dat F, a, b, m, .un, .un, .dat k, .un]) (s2 := [.io (stD ns c), .dat F, a, b, m, .un, .un, .dat k, .un]) (s3 := [.io (stD ns (c + facts.length)), .dat F, a, b, m, .un, .un, .dat k, .un]) rfl rfl ?_ h5
      simp [e__law_gamble_1, stD, e']
theorem lots_lc {ns : List Int} (h : NsOk ns) (many : Nat) (h1 : 1 ≤ many) (h8 : many ≤ 8) (F a b e f k : SV) : ∀ (ks : List D) (c : Nat) (hc : c + 100 * ks.length + 1000 < 2 ^ 60), ∃ (row : List Lot) (c' : Nat), c ≤ c' ∧ c' ≤ c + 30 * ks.length ∧ row.length = ks.length ∧ (∀ l ∈ row, GL many l) ∧
    mLcL [8] (gN 8) mTrue e__law_gamble_2 ks [.io (stD ns c), F, a, b, .dat (.int many), e, f, k, .un] = .ok (row.map lD) [.io (stD ns c'), F, a, b, .dat (.int many), e, f, k, .un]
  | [], c, _ => ⟨[], c, by omega, by omega, rfl, (fun s hs => by cases hs), rfl⟩
  | d :: ks, c, hc => by
    simp only [List.length_cons] at hc
    obtain ⟨c1, l, W, S, q1, q2, G, e1⟩ := lot_spec h many h1 h8 c (by omega)
    obtain ⟨row, c', p1, p2, p3, p4, p5⟩ := lots_lc h many h1 h8 F a b e f k ks c1 (by omega)
    refine ⟨l :: row, c', by omega, by simp only [List.length_cons]; omega, by simp [p3], fun t ht => ?_, ?_⟩
    · rcases List.mem_cons.mp ht with rfl | ht
      · exact ⟨W, S, G⟩
      · exact p4 t ht
    · rw [List.map_cons]
      have e' : c__law_lot [.list (ns.map .int), .int (c : Int)] [.int (many : Int)] = .ok (lD l) (stD ns c1) := e1
      obtain ⟨Z, hZ⟩ : ∃ Z, Z = lD l := ⟨_, rfl⟩
      rw [← hZ] at e' ⊢
      refine lcL_yes (s1 := [.io (stD ns c), F, a, b, .dat (.int many), e, f, k, .dat d]) (s2 := [.io (stD ns c), F, a, b, .dat (.int many), e, f, k, .dat d]) (s3 := [.io (stD ns c1), F, a, b, .dat (.int many), e, f, k, .dat d]) rfl rfl ?_ p5
      simp [e__law_gamble_2, stD, e']
theorem gamble_spec {ns : List Int} (h : NsOk ns) {facts : List Str} (hf : facts.length ≤ 16) (c : Nat) (hc : c + 100000 < 2 ^ 60) : ∃ (c' : Nat) (g : Gm), c ≤ c' ∧ c' ≤ c + 3000 ∧ GoodG facts g ∧
    c__law_gamble (stD ns c) [sD facts, .int 8, .int 4] = .ok (gD g) (stD ns c') := by
  obtain ⟨r, hr, hn⟩ := next_spec h c (by omega) 8 (by omega)
  have hn' : c__law_next [.list (ns.map .int), .int (c : Int)] [.int 8] = .ok (.int r) (stD ns (c + 1)) := hn
  obtain ⟨many, hm⟩ : ∃ many, many = r + 1 := ⟨_, rfl⟩
  have em : (1 : Int) + (r : Int) = (many : Int) := by omega
  obtain ⟨F, hF⟩ : ∃ F, F = sD facts := ⟨_, rfl⟩
  obtain ⟨sc, c1, s1, s2, s3, s4, s5⟩ := scenes_lc h facts hf (.dat (.int 8)) (.dat (.int 4)) (.dat (.int many)) (rngD many) (c + 1) (by simp [rngD]; omega)
  have hrl : (rngD many).length = many := by simp [rngD]
  rw [hrl] at s2 s3
  rw [← hF] at s5
  obtain ⟨X, hX⟩ : ∃ X, X = sc.map sD := ⟨_, rfl⟩
  have hXl : X.length = many := by rw [hX, List.length_map, s3]
  rw [← hX] at s5
  obtain ⟨s', l1, c2, op, k', _, l2, l3, l4, l5, l6⟩ := forL_inv
    (I := fun ds s => ∃ (c2 : Nat) (op : List (List Lot)) (k : SV), (∀ d ∈ ds, ∃ k : Nat, d = .int (k : Int)) ∧ c1 ≤ c2 ∧ c2 + 130 * ds.length ≤ c1 + 130 * many ∧ op.length + ds.length = many ∧ (∀ row ∈ op, (1 ≤ row.length ∧ row.length ≤ 4) ∧ ∀ l ∈ row, GL many l) ∧
      s = [.io (stD ns c2), .dat F, .dat (.int 8), .dat (.int 4), .dat (.int many), .dat (.tuple X), .own (op.map rowD), k, .un])
    (g := gN 7) (b := b__law_gamble_1) (fun d ds s ⟨c2, op, k, i1, i2, i3, i4, i5, i6⟩ => by
      obtain ⟨k'', rfl⟩ := i1 d List.mem_cons_self
      subst i6
      simp only [List.length_cons] at i3 i4
      obtain ⟨v, hv, hm2⟩ := next_spec h c2 (by omega) 4 (by omega)
      have hm2' : c__law_next [.list (ns.map .int), .int (c2 : Int)] [.int 4] = .ok (.int v) (stD ns (c2 + 1)) := hm2
      obtain ⟨many2, hm3⟩ : ∃ many2, many2 = v + 1 := ⟨_, rfl⟩
      have em2 : (1 : Int) + (v : Int) = (many2 : Int) := by omega
      obtain ⟨O, hO⟩ : ∃ O, O = op.map rowD := ⟨_, rfl⟩
      have hOl : O.length < 1000000 := by rw [hO, List.length_map]; omega
      rw [← hO]
      obtain ⟨row, c3, p1, p2, p3, p4, p5⟩ := lots_lc h many (by omega) (by omega) (.dat F) (.dat (.int 8)) (.dat (.int 4)) (.dat (.tuple X)) (.own O) (.dat (.int k'')) (rngD many2) (c2 + 1) (by simp [rngD]; omega)
      have hrl2 : (rngD many2).length = many2 := by simp [rngD]
      rw [hrl2] at p2 p3
      obtain ⟨Y, hY⟩ : ∃ Y, Y = row.map lD := ⟨_, rfl⟩
      have hYl : Y.length ≤ 1000000 := by rw [hY, List.length_map]; omega
      rw [← hY] at p5
      have hb1 : (many2 : Int) ≤ 1000000000 := by omega
      have hb2 : (-1000000000 : Int) ≤ (many2 : Int) := by omega
      refine ⟨_, [.io (stD ns c3), .dat F, .dat (.int 8), .dat (.int 4), .dat (.int many), .dat (.tuple X), .own (O ++ [.tuple Y]), .dat (.int k''), .un], rfl, .inl ?_, c3, op ++ [row], _, fun d hd => i1 d (List.mem_cons_of_mem _ hd), by omega, by omega, by simp; omega, fun rw_ hr_ => ?_, by rw [hO, hY, List.map_append]; rfl⟩
      · generalize (c2 + 1 : Nat) = cc at hm2' p5
        simp [b__law_gamble_1, toS, stD, hm2', em2, mLc, unS, keepS, hb1, hb2] at p5 ⊢
        simp [p5, hYl, hOl]
      · rcases List.mem_append.mp hr_ with q | q
        · exact i5 _ q
        · simp at q
          subst q
          exact ⟨by omega, p4⟩)
    (rngD many) [.io (stD ns c1), .dat F, .dat (.int 8), .dat (.int 4), .dat (.int many), .dat (.tuple X), .own [], .un, .un] ⟨c1, [], .un, fun d hd => by obtain ⟨k, _, e⟩ := rngD_all hd; exact ⟨k, e⟩, by omega, by simp [rngD], by simp [rngD], (fun row hr => by cases hr), rfl⟩
  simp only [List.length_nil, Nat.mul_zero, Nat.add_zero] at l3 l4
  obtain ⟨c3, l, W, S, q1, q2, G, e1⟩ := lot_spec h many (by omega) (by omega) c2 (by omega)
  have e1' : c__law_lot [.list (ns.map .int), .int (c2 : Int)] [.int (many : Int)] = .ok (lD l) (stD ns c3) := e1
  obtain ⟨Z, hZ⟩ : ∃ Z, Z = lD l := ⟨_, rfl⟩
  obtain ⟨O, hO⟩ : ∃ O, O = op.map rowD := ⟨_, rfl⟩
  refine ⟨c3, ⟨sc, l, op⟩, by omega, by omega, ⟨by show 1 ≤ sc.length ∧ sc.length ≤ 8; omega, s4, by show GL sc.length l; rw [s3]; exact ⟨W, S, G⟩, by show op.length = sc.length; omega, fun row hr => by rw [show (Gm.mk sc l op).sc.length = many from s3]; exact l5 row hr⟩, ?_⟩
  show mfunS 4 9 m__law_gamble _ _ = .ok (.tuple [.tuple (sc.map sD), lD l, .tuple (op.map rowD)]) _
  rw [← hX, ← hZ, ← hO]
  rw [← hZ] at e1'
  rw [l6, ← hO] at l1
  have hb1 : (many : Int) ≤ 1000000000 := by omega
  have hb2 : (-1000000000 : Int) ≤ (many : Int) := by omega
  have hXl2 : X.length ≤ 1000000 := by omega
  rw [← hF]
  generalize (c + 1 : Nat) = cc at hn' s5
  simp [mfunS, m__law_gamble, toS, stD, hn', em, mLc, unS, keepS, hb1, hb2, ioAt] at s5 l1 ⊢
  simp [s5, hXl2, l1, e1', hb1, hb2]
end K84

namespace K84
open PySem DV L2
/-! ### what is read of a gamble -/
theorem GL.ok {many : Nat} {l : Lot} (h : GL many l) : okLot many l = true := let ⟨_, _, h⟩ := h; h.ok
theorem GL.fine {many : Nat} {l : Lot} (h : GL many l) : LotFine l := let ⟨_, _, h⟩ := h; h.fine
theorem GL.len {many : Nat} {l : Lot} (h : GL many l) : 1 ≤ l.length ∧ l.length ≤ 8 := by
  obtain ⟨W, S, h⟩ := h
  have := List.length_pos_iff.mpr h.ne
  have := h.len
  rw [h.eq, List.length_map]
  omega
theorem GL.rng {many : Nat} {l : Lot} (h : GL many l) : ∀ e ∈ l, 0 ≤ e.1 ∧ e.1 < many := fun e he => by
  obtain ⟨W, S, h⟩ := h
  exact (h.mem he).1
theorem GoodG.ok {facts : List Str} {g : Gm} (h : GoodG facts g) : okG facts g = true := by
  unfold okG
  obtain ⟨h1, h2⟩ := h.few
  have a1 : g.sc.all (subB facts) = true := by
    rw [List.all_eq_true]
    intro s hs
    unfold subB
    exact decide_eq_true ((mem_scenes' facts s).mpr (h.sc s hs))
  have a2 := h.st.ok
  have a3 : g.op.all (okRow (g.sc.length : Nat)) = true := by
    rw [List.all_eq_true]
    intro row hr
    obtain ⟨⟨p1, p2⟩, p3⟩ := h.op row hr
    unfold okRow
    simp only [Bool.and_eq_true, decide_eq_true_eq, List.all_eq_true]
    exact ⟨⟨p1, p2⟩, fun l hl => (p3 l hl).ok⟩
  simp [h1, h2, h.opl, a1, a2, a3]
theorem GoodG.fine {facts : List Str} {g : Gm} (hf : FactsOk facts) (h3 : facts.length ≤ 3) (h : GoodG facts g) : GmFine g :=
  ⟨fun s hs => ⟨fun x hx => hf.ok x ((h.sc s hs).subset hx), Nat.le_trans (h.sc s hs).length_le (by omega)⟩, by have := h.few; omega, h.st.fine, fun row hr l hl => ((h.op row hr).2 l hl).fine⟩
theorem cat_na : cat_NotAllowed "NotAllowed" = some true := by decide +kernel
theorem checked_spec {facts : List Str} (hf : FactsOk facts) {g : Gm} (hg : GmFine g) : c__law_checked [sD facts, gD g] = .ok (.bool (okG facts g)) := by
  have hc := check_gamble_spec hf hg
  obtain ⟨G, hG⟩ : ∃ G, G = gD g := ⟨_, rfl⟩
  obtain ⟨F, hF⟩ : ∃ F, F = sD facts := ⟨_, rfl⟩
  rw [← hG, ← hF] at hc ⊢
  cases h : okG facts g with
  | true =>
    rw [h] at hc
    simp only [if_true] at hc
    simp [c__law_checked, mfunP, m__law_checked, toS, hc]
  | false =>
    rw [h] at hc
    simp only [Bool.false_eq_true, if_false] at hc
    simp [c__law_checked, mfunP, m__law_checked, toS, hc, oc__law_checked_1, cat_na]
/-! systems -/
def rowS (row : List Lot) : List Int := row.flatMap fun l => l.map (·.1)
abbrev movD (row : List Lot) : DV.D := .tuple ((ascI (rowS row)).map .int)
abbrev sysD (g : Gm) : DV.D := .tuple [scD g.sc, .tuple (g.st.map fun e => .int e.1), .tuple (g.op.map movD)]
theorem lc2_flat {α : Type} {enc : α → DV.D} {f : α → List DV.D} {vs vs1 : List Nat} {g : MG} {src1 : MA} {g1 : MG} {m : ME} {s : Sl} : ∀ {xs : List α},
    (∀ x ∈ xs, ∃ s1 es s3, g (enc x) s = some s1 ∧ src1 s1 = .ok es s1 ∧ mLcL vs1 g1 mTrue m es (unS s1 vs1) = .ok (f x) s3 ∧ unS s3 vs = s) → mLcL2 vs vs1 g mTrue src1 g1 mTrue m (xs.map enc) s = .ok (xs.flatMap f) s
  | [], _ => rfl
  | x :: xs, h => by
    obtain ⟨s1, es, s3, h1, h2, h3, h4⟩ := h x List.mem_cons_self
    have ih := lc2_flat (xs := xs) (vs := vs) (vs1 := vs1) (g := g) (src1 := src1) (g1 := g1) (m := m) (s := s) (enc := enc) (f := f) fun e he => h e (List.mem_cons_of_mem _ he)
    rw [List.map_cons, List.flatMap_cons]
    unfold mLcL2
    rw [h1]
    simp only [ap_mTrue, h2, h3, h4, ih]
theorem rowS_len {row : List Lot} {n : Nat} (h : ∀ l ∈ row, l.length ≤ n) : (rowS row).length ≤ row.length * n := by
  induction row with
  | nil => simp [rowS]
  | cons l row ih =>
    have h1 := h l List.mem_cons_self
    have h2 := ih fun q hq => h q (List.mem_cons_of_mem _ hq)
    unfold rowS at h2 ⊢
    rw [List.flatMap_cons, List.length_append, List.length_map, List.length_cons, Nat.succ_mul]
    omega
theorem dSortSet_ints {xs : List Int} (h : xs.length < 63) : dSortSet (.list (xs.map .int)) = some ((ascI xs).map .int) := by
  unfold dSortSet listI
  simp [intsOf_map, h]
theorem ascI_len (xs : List Int) : (ascI xs).length ≤ xs.length := by
  have h1 : (ded xs).length ≤ xs.length := by
    induction xs with
    | nil => simp [ded]
    | cons x xs ih =>
      unfold ded
      split
      · simp; omega
      · simp; omega
  unfold ascI sortI
  rw [List.length_mergeSort]
  exact h1
theorem int_map_flat (row : List Lot) : (row.flatMap fun l => l.map fun e => PyData.int e.1) = (rowS row).map .int := by
  unfold rowS
  rw [List.map_flatMap]
  congr 1
  funext l
  rw [List.map_map]
  rfl
theorem sys_loop (s0 s1 s2 s3 : SV) : ∀ (op : List (List Lot)) (ms : List DV.D) (a b : SV), ms.length + op.length ≤ 100 → (∀ row ∈ op, row.length ≤ 4 ∧ ∀ l ∈ row, l.length ≤ 8) →
    ∃ a' b', mForL (gN 5) b_system_of_1 (op.map rowD) [s0, s1, s2, s3, .own ms, a, b, .un, .un, .un] = .nx [s0, s1, s2, s3, .own (ms ++ op.map movD), a', b', .un, .un, .un]
  | [], ms, a, b, _, _ => ⟨a, b, by simp [mForL]⟩
  | row :: op, ms, a, b, hl, h => by
    obtain ⟨h1, h2⟩ := h row List.mem_cons_self
    simp only [List.length_cons] at hl
    have h3 := rowS_len h2
    have h4 : (rowS row).length ≤ 32 := Nat.le_trans h3 (by omega)
    have hs := dSortSet_ints (xs := rowS row) (by omega)
    have hc : mLcL2 [7, 8, 9] [8, 9] (gN 7) mTrue (mItems (mVar 7)) (gT 2 (gsC (gN 8) (gsC (gN 9) gsN))) mTrue e_system_of_1 (row.map lD) [s0, s1, s2, s3, .own ms, .dat (rowD row), b, .un, .un, .un] = .ok ((rowS row).map .int) [s0, s1, s2, s3, .own ms, .dat (rowD row), b, .un, .un, .un] := by
      rw [← int_map_flat]
      refine lc2_flat fun l _ => ⟨[s0, s1, s2, s3, .own ms, .dat (rowD row), b, .dat (lD l), .un, .un], l.map eD, [s0, s1, s2, s3, .own ms, .dat (rowD row), b, .dat (lD l), .un, .un], rfl, by simp, ?_, rfl⟩
      show mLcL [8, 9] _ mTrue _ (l.map eD) [s0, s1, s2, s3, .own ms, .dat (rowD row), b, .dat (lD l), .un, .un] = _
      refine lcA_map0 fun e _ => ⟨_, rfl, ?_, rfl⟩
      simp [e_system_of_1]
    obtain ⟨a', b', ih⟩ := sys_loop s0 s1 s2 s3 op (ms ++ [movD row]) (.dat (rowD row)) (.dat (.list ((rowS row).map .int))) (by simp; omega) fun q hq => h q (List.mem_cons_of_mem _ hq)
    refine ⟨a', b', ?_⟩
    have hl4 : ((rowS row).map PyData.int).length ≤ 1000000 := by rw [List.length_map]; omega
    have hms : ms.length < 1000000 := by omega
    rw [List.map_cons, forL_nx (s1 := [s0, s1, s2, s3, .own ms, .dat (rowD row), b, .un, .un, .un]) (s2 := [s0, s1, s2, s3, .own (ms ++ [movD row]), .dat (rowD row), .dat (.list ((rowS row).map .int)), .un, .un, .un]) rfl ?_]
    · rw [ih, List.map_cons, List.append_assoc]
      rfl
    · obtain ⟨R, hR⟩ : ∃ R, R = row.map lD := ⟨_, rfl⟩
      obtain ⟨X, hX⟩ : ∃ X, X = (rowS row).map PyData.int := ⟨_, rfl⟩
      obtain ⟨Y, hY⟩ : ∃ Y, Y = (ascI (rowS row)).map PyData.int := ⟨_, rfl⟩
      have hr : rowD row = .tuple R := by rw [hR]
      have hm : movD row = .tuple Y := by rw [hY]
      rw [hr, hm, ← hX]
      rw [hr, ← hX, ← hR] at hc
      rw [← hX, ← hY] at hs
      rw [← hX] at hl4
      simp [b_system_of_1, toS, mLc2, hc, hs, hl4, hms, unS, keepS]
theorem due_in (s0 s1 s2 : SV) : ∀ (row : List Lot) (ms : List DV.D) (a : SV), ms.length + 8 * row.length ≤ 1000 → (∀ l ∈ row, l.length ≤ 8) →
    ∃ a', mForL (gN 4) b__law_system_due_1 (row.map lD) [s0, s1, s2, .own ms, a, .un, .un] = .nx [s0, s1, s2, .own (ms ++ (rowS row).map .int), a', .un, .un]
  | [], ms, a, _, _ => ⟨a, by simp [mForL, rowS]⟩
  | l :: row, ms, a, hl, h => by
    have h1 := h l List.mem_cons_self
    simp only [List.length_cons] at hl
    obtain ⟨a', ih⟩ := due_in s0 s1 s2 row (ms ++ l.map fun e => .int e.1) (.dat (lD l)) (by simp; omega) fun q hq => h q (List.mem_cons_of_mem _ hq)
    refine ⟨a', ?_⟩
    have hc : mLcL [5, 6] (gT 2 (gsC (gN 5) (gsC (gN 6) gsN))) mTrue e__law_system_due_1 (l.map eD) [s0, s1, s2, .own ms, .dat (lD l), .un, .un] = .ok (l.map fun e => .int e.1) [s0, s1, s2, .own ms, .dat (lD l), .un, .un] := by
      refine lcA_map0 fun e _ => ⟨_, rfl, ?_, rfl⟩
      simp [e__law_system_due_1]
    rw [List.map_cons, forL_nx (s1 := [s0, s1, s2, .own ms, .dat (lD l), .un, .un]) (s2 := [s0, s1, s2, .own (ms ++ l.map fun e => .int e.1), .dat (lD l), .un, .un]) rfl ?_]
    · rw [ih]
      simp [rowS]
    · obtain ⟨R, hR⟩ : ∃ R, R = l.map eD := ⟨_, rfl⟩
      obtain ⟨X, hX⟩ : ∃ X, X = l.map fun e => PyData.int e.1 := ⟨_, rfl⟩
      have hXl : X.length ≤ 8 := by rw [hX, List.length_map]; omega
      have hr : lD l = .tuple R := by rw [hR]
      rw [hr, ← hX]
      rw [hr, ← hX, ← hR] at hc
      have q1 : X.length ≤ 1000000 := by omega
      have q2 : ms.length + X.length ≤ 1000000 := by omega
      simp [b__law_system_due_1, toS, mLc, hc, q1, q2, unS, keepS]
theorem due_loop (s0 : SV) : ∀ (op : List (List Lot)) (ms : List DV.D) (a b c : SV), ms.length + op.length ≤ 100 → (∀ row ∈ op, row.length ≤ 4 ∧ ∀ l ∈ row, l.length ≤ 8) →
    ∃ a' b' c', mForL (gN 2) b__law_system_due_2 (op.map rowD) [s0, .own ms, a, b, c, .un, .un] = .nx [s0, .own (ms ++ op.map movD), a', b', c', .un, .un]
  | [], ms, a, b, c, _, _ => ⟨a, b, c, by simp [mForL]⟩
  | row :: op, ms, a, b, c, hl, h => by
    obtain ⟨h1, h2⟩ := h row List.mem_cons_self
    simp only [List.length_cons] at hl
    have h4 : (rowS row).length ≤ 32 := Nat.le_trans (rowS_len h2) (by omega)
    have hs := dSortSet_ints (xs := rowS row) (by omega)
    obtain ⟨x, hx⟩ := due_in s0 (.own ms) (.dat (rowD row)) row [] c (by simp; omega) h2
    rw [List.nil_append] at hx
    obtain ⟨a', b', c', ih⟩ := due_loop s0 op (ms ++ [movD row]) (.dat (rowD row)) (.own ((rowS row).map .int)) x (by simp; omega) fun q hq => h q (List.mem_cons_of_mem _ hq)
    refine ⟨a', b', c', ?_⟩
    have hms : ms.length < 1000000 := by omega
    rw [List.map_cons, forL_nx (s1 := [s0, .own ms, .dat (rowD row), b, c, .un, .un]) (s2 := [s0, .own (ms ++ [movD row]), .dat (rowD row), .own ((rowS row).map .int), x, .un, .un]) rfl ?_]
    · rw [ih, List.map_cons, List.append_assoc]
      rfl
    · obtain ⟨R, hR⟩ : ∃ R, R = row.map lD := ⟨_, rfl⟩
      obtain ⟨X, hX⟩ : ∃ X, X = (rowS row).map PyData.int := ⟨_, rfl⟩
      obtain ⟨Y, hY⟩ : ∃ Y, Y = (ascI (rowS row)).map PyData.int := ⟨_, rfl⟩
      have hr : rowD row = .tuple R := by rw [hR]
      have hm : movD row = .tuple Y := by rw [hY]
      rw [hr, hm, ← hX]
      rw [hr, ← hX, ← hR] at hx
      rw [← hX, ← hY] at hs
      simp [b__law_system_due_2, toS, hx, hs, hms]
theorem system_of_spec {facts : List Str} {g : Gm} (h : GoodG facts g) : c_system_of [gD g] = .ok (sysD g) ∧ c__law_system_due [gD g] = .ok (sysD g) := by
  have hop : ∀ row ∈ g.op, row.length ≤ 4 ∧ ∀ l ∈ row, l.length ≤ 8 := fun row hr => ⟨(h.op row hr).1.2, fun l hl => ((h.op row hr).2 l hl).len.2⟩
  have hl : g.op.length ≤ 8 := by
    have := h.few
    rw [h.opl]
    omega
  have hst := h.st.len
  obtain ⟨S, hS⟩ : ∃ S, S = g.sc.map sD := ⟨_, rfl⟩
  obtain ⟨T, hT⟩ : ∃ T, T = g.st.map eD := ⟨_, rfl⟩
  obtain ⟨T2, hT2⟩ : ∃ T2, T2 = g.st.map fun e => PyData.int e.1 := ⟨_, rfl⟩
  obtain ⟨O, hO⟩ : ∃ O, O = g.op.map rowD := ⟨_, rfl⟩
  obtain ⟨M, hM⟩ : ∃ M, M = g.op.map movD := ⟨_, rfl⟩
  have hl2 : T2.length ≤ 1000000 := by rw [hT2, List.length_map]; omega
  show c_system_of [.tuple [.tuple (g.sc.map sD), .tuple (g.st.map eD), .tuple (g.op.map rowD)]] = .ok (.tuple [.tuple (g.sc.map sD), .tuple (g.st.map fun e => .int e.1), .tuple (g.op.map movD)]) ∧
    c__law_system_due [.tuple [.tuple (g.sc.map sD), .tuple (g.st.map eD), .tuple (g.op.map rowD)]] = .ok (.tuple [.tuple (g.sc.map sD), .tuple (g.st.map fun e => .int e.1), .tuple (g.op.map movD)])
  obtain ⟨a1, b1, l1⟩ := sys_loop (.dat (.tuple [.tuple S, .tuple T, .tuple O])) (.dat (.tuple S)) (.dat (.tuple T)) (.dat (.tuple O)) g.op [] .un .un (by simp; omega) hop
  obtain ⟨a2, b2, c2, l2⟩ := due_loop (.dat (.tuple [.tuple S, .tuple T, .tuple O])) g.op [] .un .un .un (by simp; omega) hop
  rw [← hO, ← hM, List.nil_append] at l1 l2
  rw [← hS, ← hT, ← hT2, ← hO, ← hM]
  constructor
  · have hc : mLcL [8, 9] (gT 2 (gsC (gN 8) (gsC (gN 9) gsN))) mTrue e_system_of_2 T [.dat (.tuple [.tuple S, .tuple T, .tuple O]), .dat (.tuple S), .dat (.tuple T), .dat (.tuple O), .own M, a1, b1, .un, .un, .un] = .ok T2 [.dat (.tuple [.tuple S, .tuple T, .tuple O]), .dat (.tuple S), .dat (.tuple T), .dat (.tuple O), .own M, a1, b1, .un, .un, .un] := by
      obtain ⟨T', hT'⟩ : ∃ T', T' = T := ⟨_, rfl⟩
      rw [← hT']
      conv => lhs; arg 5; rw [hT', hT]
      rw [hT2]
      refine lcA_map0 fun e _ => ⟨_, rfl, ?_, rfl⟩
      simp [e_system_of_2]
    simp [c_system_of, mfunP, m_system_of, toS, l1, mLc, hc, hl2, unS, keepS]
  · have hc : mLcL [5, 6] (gT 2 (gsC (gN 5) (gsC (gN 6) gsN))) mTrue e__law_system_due_2 T [.dat (.tuple [.tuple S, .tuple T, .tuple O]), .own M, a2, b2, c2, .un, .un] = .ok T2 [.dat (.tuple [.tuple S, .tuple T, .tuple O]), .own M, a2, b2, c2, .un, .un] := by
      obtain ⟨T', hT'⟩ : ∃ T', T' = T := ⟨_, rfl⟩
      rw [← hT']
      conv => lhs; arg 5; rw [hT', hT]
      rw [hT2]
      refine lcA_map0 fun e _ => ⟨_, rfl, ?_, rfl⟩
      simp [e__law_system_due_2]
    simp [c__law_system_due, mfunP, m__law_system_due, toS, l2, mLc, hc, hl2, unS, keepS]
/-! one option each -/
theorem max_one {xs : List Int} (h : ∀ x ∈ xs, 1 ≤ x) (hn : xs ≠ []) : ∃ m, dMax (.list (xs.map .int)) = some (.int m) ∧ (m = 1 ↔ ∀ x ∈ xs, x = 1) := by
  have key : ∀ (xs : List Int) (a : Int), (∀ x ∈ xs, 1 ≤ x) → 1 ≤ a → 1 ≤ xs.foldl max a ∧ (xs.foldl max a = 1 ↔ a = 1 ∧ ∀ x ∈ xs, x = 1) := by
    intro xs
    induction xs with
    | nil => intro a _ ha; exact ⟨ha, by simp⟩
    | cons x xs ih =>
      intro a h ha
      have hx := h x List.mem_cons_self
      obtain ⟨h1, h2⟩ := ih (max a x) (fun y hy => h y (List.mem_cons_of_mem _ hy)) (by omega)
      refine ⟨h1, ?_⟩
      rw [List.foldl_cons, h2]
      constructor
      · rintro ⟨p, q⟩
        refine ⟨by omega, fun y hy => ?_⟩
        rcases List.mem_cons.mp hy with rfl | hy
        · omega
        · exact q y hy
      · rintro ⟨p, q⟩
        have := q x List.mem_cons_self
        exact ⟨by omega, fun y hy => q y (List.mem_cons_of_mem _ hy)⟩
  cases xs with
  | nil => exact absurd rfl hn
  | cons x xs =>
    refine ⟨xs.foldl max x, ?_, ?_⟩
    · unfold dMax listI
      show Option.map _ (Option.bind (intsOf ((x :: xs).map .int)) _) = _
      rw [intsOf_map]
      rfl
    · rw [(key xs x (fun y hy => h y (List.mem_cons_of_mem _ hy)) (h x List.mem_cons_self)).2]
      simp
end K84

namespace K84
open PySem DV L2
/-! ### lots that are none -/
theorem cutL_to {α : Type} (xs : List α) (k : Nat) : cutL xs none (some (k : Int)) = xs.take k := by
  unfold cutL
  rw [HT.sIx_nat, HT.sIx_none, List.drop_zero, Nat.sub_zero, ← List.take_eq_take_min]
theorem cutL_from {α : Type} (xs : List α) (k : Nat) : cutL xs (some (k : Int)) none = xs.drop k := by
  unfold cutL
  rw [HT.sIx_nat, HT.sIx_none, List.take_of_length_le (by rw [List.length_drop]; omega)]
  by_cases h : k ≤ xs.length
  · rw [Nat.min_eq_left h]
  · rw [Nat.min_eq_right (by omega), List.drop_of_length_le (Nat.le_refl _), List.drop_of_length_le (by omega)]
theorem cutL_from1 {α : Type} (xs : List α) (k : Nat) : cutL xs (some ((k : Int) + 1)) none = xs.drop (k + 1) := cutL_from xs (k + 1)
theorem cutL_to1 {α : Type} (xs : List α) : cutL xs none (some 1) = xs.take 1 := cutL_to xs 1
theorem cutL_to5 {α : Type} (xs : List α) : cutL xs none (some 5) = xs.take 5 := cutL_to xs 5
theorem cutL_fr1 {α : Type} (xs : List α) : cutL xs (some 1) none = xs.drop 1 := cutL_from xs 1
theorem okLot_badR {many : Int} {l : Lot} {e : Int × R} (he : e ∈ l) (h : goodR e.2 = false) : okLot many l = false := by
  rw [Bool.eq_false_iff]
  intro q
  unfold okLot at q
  simp only [Bool.and_eq_true, List.all_eq_true] at q
  have := q.1.2 e he
  rw [h] at this
  cases this
theorem okLot_badS {many : Int} {l : Lot} {e : Int × R} (he : e ∈ l) (h : ¬ (0 ≤ e.1 ∧ e.1 < many)) : okLot many l = false := by
  rw [Bool.eq_false_iff]
  intro q
  unfold okLot at q
  simp only [Bool.and_eq_true, List.all_eq_true, decide_eq_true_eq] at q
  exact h (q.1.1.1 e he)
theorem okLot_badA {many : Int} {l : Lot} (h : ¬ (l.map (·.1)).Pairwise (· < ·)) : okLot many l = false := by
  rw [Bool.eq_false_iff]
  intro q
  unfold okLot at q
  simp only [Bool.and_eq_true, List.all_eq_true, decide_eq_true_eq] at q
  exact h q.1.1.2
theorem okLot_badT {many : Int} {l : Lot} (h : tot (l.map (·.2)) ≠ (1, 1)) : okLot many l = false := by
  rw [Bool.eq_false_iff]
  intro q
  unfold okLot at q
  simp only [Bool.and_eq_true, List.all_eq_true, decide_eq_true_eq] at q
  exact h q.2
/-- what stands in the place of a chance -/
def bads (r : R) : List R := [(0, 1), (-1, 2), (2 * r.1, 2 * r.2), (r.1, -r.2), (r.1 + r.2, r.2), (1, 0)]
def putL (l : Lot) (k : Nat) (one : Int) (b : R) : Lot := l.take k ++ [(one, b)] ++ l.drop (k + 1)
def pairLots (many : Int) : List Lot := [[(0, (1, 1001)), (many - 1, (1000, 1001))], [(many - 1, (1, 2)), (0, (1, 2))], [(0, (1, 2)), (many - 1, (2, 4))], [(0, (1, 2)), (many - 1, (1, 3))], [(0, (0, 1)), (many - 1, (1, 1))]]
def badLots (many : Int) (l : Lot) (k : Nat) (e z : Int × R) : List Lot := ([[], l ++ [(many, (1, 2))], l ++ [z], l ++ [(many - 1, (1, 3))], [(-1, (1, 1))], [(many, (1, 1))]] ++ (bads e.2).map (putL l k e.1)) ++ (if 1 < many then pairLots many else [])
theorem lot_split {l : Lot} {k : Nat} {e : Int × R} (h : l[k]? = some e) : l = l.take k ++ [e] ++ l.drop (k + 1) := by
  obtain ⟨hk, he⟩ := List.getElem?_eq_some_iff.mp h
  rw [← he]
  simp
theorem GoodLot.put_sum {many : Nat} {l : Lot} {W : List (Int × Int)} {S : Int} (h : GoodLot many l W S) {k : Nat} {e : Int × R} (he : l[k]? = some e) :
    tot ((putL l k e.1 (e.2.1 + e.2.2, e.2.2)).map (·.2)) ≠ (1, 1) := by
  have hs := h.pos
  have hk : k < W.length := by
    have := (List.getElem?_eq_some_iff.mp he).1
    rw [h.eq, List.length_map] at this
    exact this
  have hp := List.getElem_mem hk
  obtain ⟨g1, g2, _⟩ := h.good _ hp
  have ee : e = (W[k].1, norm W[k].2 S) := by
    have := (List.getElem?_eq_some_iff.mp he).2
    rw [← this]
    simp [h.eq]
  intro q
  have hw : W = W.take k ++ [W[k]] ++ W.drop (k + 1) := by simp
  have q2 := (tot_one (D := S) (by omega) ((W.take k).map (fun p => (norm p.2 S, p.2)) ++ [((e.2.1 + e.2.2, e.2.2), W[k].2 + S)] ++ (W.drop (k + 1)).map (fun p => (norm p.2 S, p.2))) (fun z hz => ?_) _ ?_).mp q
  · rw [List.map_append, List.map_append, List.map_map, List.map_map, List.sum_append, List.sum_append] at q2
    have hsum := h.sum
    rw [hw, List.map_append, List.map_append, List.sum_append, List.sum_append] at hsum
    simp only [List.map_cons, List.map_nil, List.sum_cons, List.sum_nil] at q2 hsum
    have e1 : ((fun x => x.2) ∘ fun p : Int × Int => (norm p.2 S, p.2)) = fun p => p.2 := rfl
    rw [e1] at q2
    omega
  · rcases List.mem_append.mp hz with hz | hz
    · rcases List.mem_append.mp hz with hz | hz
      · obtain ⟨p, hp, rfl⟩ := List.mem_map.mp hz
        have := h.good p (List.mem_of_mem_take hp)
        exact ⟨this.1, this.2.1⟩
      · rw [List.mem_singleton] at hz
        subst hz
        rw [ee]
        refine ⟨?_, g2⟩
        unfold Rep at g1 ⊢
        simp only
        rw [Int.add_mul, g1, Int.add_mul, Int.mul_comm S]
    · obtain ⟨p, hp, rfl⟩ := List.mem_map.mp hz
      have := h.good p (List.mem_of_mem_drop hp)
      exact ⟨this.1, this.2.1⟩
  · unfold putL
    rw [List.map_append, List.map_append, List.map_append, List.map_append, h.eq, List.map_take, List.map_drop, ← List.map_take, ← List.map_drop]
    simp [List.map_take, List.map_drop, Function.comp_def]
theorem GoodLot.more_sum {many : Nat} {l : Lot} {W : List (Int × Int)} {S : Int} (h : GoodLot many l W S) (x : Int) : tot ((l ++ [(x, ((1, 3) : R))] : Lot).map (·.2)) ≠ (1, 1) := by
  have hs := h.pos
  intro q
  have q2 := (tot_one (D := 3 * S) (by omega) (W.map (fun p => (norm p.2 S, 3 * p.2)) ++ [((1, 3), S)]) (fun z hz => ?_) _ ?_).mp q
  · rw [List.map_append, List.map_map, List.sum_append] at q2
    have e1 : ((fun x => x.2) ∘ fun p : Int × Int => (norm p.2 S, 3 * p.2)) = fun p => 3 * p.2 := rfl
    have e2 : ∀ W : List (Int × Int), (W.map fun p => 3 * p.2).sum = 3 * (W.map (·.2)).sum := fun W => by
      induction W with
      | nil => rfl
      | cons a W ih => simp only [List.map_cons, List.sum_cons, ih]; omega
    rw [e1, e2, h.sum] at q2
    simp at q2
    omega
  · rcases List.mem_append.mp hz with hz | hz
    · obtain ⟨p, hp, rfl⟩ := List.mem_map.mp hz
      have := h.good p hp
      refine ⟨?_, this.2.1⟩
      have e := this.1
      unfold Rep at e ⊢
      simp only
      rw [Int.mul_left_comm, e, Int.mul_assoc]
    · rw [List.mem_singleton] at hz
      subst hz
      exact ⟨by unfold Rep; simp; omega, by show (0 : Int) < 3; decide⟩
  · rw [h.eq, List.map_append, List.map_append, List.map_map, List.map_map]
    rfl
theorem not_good0 {x y : Int} (h : x < 1 ∨ y < 1 ∨ 1000 < y ∨ Int.gcd x y ≠ 1) : goodR (x, y) = false := by
  rw [Bool.eq_false_iff]
  intro q
  rw [goodR_iff] at q
  simp only at q
  rcases h with h | h | h | h
  · omega
  · omega
  · omega
  · exact h q.2.1
theorem bads_bad {many : Nat} {l : Lot} {W : List (Int × Int)} {S : Int} (h : GoodLot many l W S) {k : Nat} {e z : Int × R} (he : l[k]? = some e) (hz : l[l.length - 1]? = some z) :
    ∀ b ∈ badLots many l k e z, okLot many b = false ∧ LotFine b := by
  have hl := h.fine
  have hlen : l.length ≤ 8 := by rw [h.eq, List.length_map]; exact h.len
  have hem : e ∈ l := List.mem_of_getElem? he
  have hzm : z ∈ l := List.mem_of_getElem? hz
  obtain ⟨_, ge, e48, e49⟩ := h.mem hem
  have ge' := ge
  rw [goodR_iff] at ge'
  have two : ∀ x y : Int × R, Bd 60 x.2 → Bd 60 y.2 → LotFine [x, y] := fun x y hx hy => ⟨by simp, fun q hq => by
    rcases List.mem_cons.mp hq with rfl | hq
    · exact hx
    · rw [List.mem_singleton] at hq
      subst hq
      exact hy⟩
  have bd : ∀ x y : Int, x.natAbs ≤ 2000 → y.natAbs ≤ 2000 → Bd 60 (x, y) := fun x y hx hy => ⟨Nat.lt_of_le_of_lt hx (by decide), Nat.lt_of_le_of_lt hy (by decide)⟩
  have more : ∀ x : Int × R, Bd 60 x.2 → LotFine (l ++ [x]) := fun x hx => ⟨by simp; omega, fun q hq => by
    rcases List.mem_append.mp hq with hq | hq
    · exact hl.bd q hq
    · rw [List.mem_singleton] at hq
      subst hq
      exact hx⟩
  have put : ∀ r : R, Bd 60 r → LotFine (putL l k e.1 r) := fun r hr => ⟨by
      unfold putL
      simp
      have := (List.getElem?_eq_some_iff.mp he).1
      omega, fun q hq => by
    unfold putL at hq
    rcases List.mem_append.mp hq with hq | hq
    · rcases List.mem_append.mp hq with hq | hq
      · exact hl.bd q (List.mem_of_mem_take hq)
      · rw [List.mem_singleton] at hq
        subst hq
        exact hr
    · exact hl.bd q (List.mem_of_mem_drop hq)⟩
  have putm : ∀ r : R, (e.1, r) ∈ putL l k e.1 r := fun r => by unfold putL; simp
  intro b hb
  unfold badLots at hb
  rcases List.mem_append.mp hb with hb | hb
  · rcases List.mem_append.mp hb with hb | hb
    · simp only [List.mem_cons, List.not_mem_nil, or_false] at hb
      rcases hb with rfl | rfl | rfl | rfl | rfl | rfl
      · exact ⟨okLot_badT (by decide), ⟨by simp, fun q hq => by cases hq⟩⟩
      · exact ⟨okLot_badS (e := (many, (1, 2))) (by simp) (by simp), more _ (bd _ _ (by decide) (by decide))⟩
      · refine ⟨okLot_badA fun q => ?_, more _ (hl.bd z hzm)⟩
        rw [List.map_append, List.pairwise_append] at q
        have := q.2.2 z.1 (List.mem_map.mpr ⟨z, hzm, rfl⟩) z.1 (by simp)
        omega
      · exact ⟨okLot_badT (h.more_sum _), more _ (bd _ _ (by decide) (by decide))⟩
      · refine ⟨okLot_badS (e := (-1, (1, 1))) (by simp) (by simp), ⟨by simp, fun q hq => ?_⟩⟩
        rw [List.mem_singleton] at hq
        subst hq
        exact bd _ _ (by decide) (by decide)
      · refine ⟨okLot_badS (e := (many, (1, 1))) (by simp) (by simp), ⟨by simp, fun q hq => ?_⟩⟩
        rw [List.mem_singleton] at hq
        subst hq
        exact bd _ _ (by decide) (by decide)
    · obtain ⟨r, hr, rfl⟩ := List.mem_map.mp hb
      unfold bads at hr
      simp only [List.mem_cons, List.not_mem_nil, or_false] at hr
      rcases hr with rfl | rfl | rfl | rfl | rfl | rfl
      · exact ⟨okLot_badR (putm _) (by show goodR (0, 1) = false; decide), put _ (bd _ _ (by decide) (by decide))⟩
      · exact ⟨okLot_badR (putm _) (by show goodR (-1, 2) = false; decide), put _ (bd _ _ (by decide) (by decide))⟩
      · refine ⟨okLot_badR (putm _) (not_good0 (.inr (.inr (.inr ?_)))), put _ (bd _ _ (by omega) (by omega))⟩
        rw [Int.gcd_mul_left]
        show 2 * _ ≠ 1
        omega
      · exact ⟨okLot_badR (putm _) (not_good0 (.inr (.inl (by omega)))), put _ (bd _ _ (by omega) (by omega))⟩
      · exact ⟨okLot_badT (h.put_sum he), put _ (bd _ _ (by omega) (by omega))⟩
      · exact ⟨okLot_badR (putm _) (by show goodR (1, 0) = false; decide), put _ (bd _ _ (by decide) (by decide))⟩
  · split at hb
    · rename_i hm
      unfold pairLots at hb
      simp only [List.mem_cons, List.not_mem_nil, or_false] at hb
      rcases hb with rfl | rfl | rfl | rfl | rfl
      · exact ⟨okLot_badR (e := (0, (1, 1001))) (by simp) (by decide), two _ _ (bd _ _ (by decide) (by decide)) (bd _ _ (by decide) (by decide))⟩
      · refine ⟨okLot_badA fun q => ?_, two _ _ (bd _ _ (by decide) (by decide)) (bd _ _ (by decide) (by decide))⟩
        simp at q
        omega
      · exact ⟨okLot_badR (e := (many - 1, (2, 4))) (by simp) (by show goodR (2, 4) = false; decide), two _ _ (bd _ _ (by decide) (by decide)) (bd _ _ (by decide) (by decide))⟩
      · exact ⟨okLot_badT (by show tot [(1, 2), (1, 3)] ≠ (1, 1); decide +kernel), two _ _ (bd _ _ (by decide) (by decide)) (bd _ _ (by decide) (by decide))⟩
      · exact ⟨okLot_badR (e := (0, (0, 1))) (by simp) (by decide), two _ _ (bd _ _ (by decide) (by decide)) (bd _ _ (by decide) (by decide))⟩
    · cases hb
/-! the law's rows -/
theorem bads_loop (s0 s1 s5 : SV) (X : List DV.D) (k : Nat) (one : Int) (hX : X.length ≤ 100) : ∀ (bs : List DV.D) (ms : List DV.D) (a : SV), ms.length + bs.length ≤ 100 →
    ∃ a', mForL (gN 7) b__law_bad_lots_1 bs [s0, s1, .dat (.tuple X), .dat (.int k), .dat (.int one), s5, .own ms, a] = .nx [s0, s1, .dat (.tuple X), .dat (.int k), .dat (.int one), s5, .own (ms ++ bs.map fun b => .tuple (X.take k ++ [.tuple [.int one, b]] ++ X.drop (k + 1))), a']
  | [], ms, a, _ => ⟨a, by simp [mForL]⟩
  | b :: bs, ms, a, hl => by
    simp only [List.length_cons] at hl
    obtain ⟨a', ih⟩ := bads_loop s0 s1 s5 X k one hX bs (ms ++ [.tuple (X.take k ++ [.tuple [.int one, b]] ++ X.drop (k + 1))]) (.dat b) (by simp; omega)
    refine ⟨a', ?_⟩
    rw [forL_nx (s1 := [s0, s1, .dat (.tuple X), .dat (.int k), .dat (.int one), s5, .own ms, .dat b]) (s2 := [s0, s1, .dat (.tuple X), .dat (.int k), .dat (.int one), s5, .own (ms ++ [.tuple (X.take k ++ [.tuple [.int one, b]] ++ X.drop (k + 1))]), .dat b]) rfl ?_]
    · rw [ih, List.map_cons, List.append_assoc]
      rfl
    · have l1 : (X.take k).length ≤ 100 := by rw [List.length_take]; omega
      have l2 : (X.drop (k + 1)).length ≤ 100 := by rw [List.length_drop]; omega
      have c1 : dCut (.tuple X) none (some (k : Int)) = some (.tuple (X.take k)) := by rw [dCut_tuple, cutL_to]
      have c2 : dCut (.tuple X) (some ((k : Int) + 1)) none = some (.tuple (X.drop (k + 1))) := by rw [dCut_tuple, cutL_from1]
      generalize X.take k = A at l1 c1 ⊢
      generalize X.drop (k + 1) = B at l2 c2 ⊢
      have d1 : dAdd (.tuple A) (.tuple [.tuple [.int one, b]]) = some (.tuple (A ++ [.tuple [.int one, b]])) := dAdd_tup (by simp; omega)
      have d2 : dAdd (.tuple (A ++ [.tuple [.int one, b]])) (.tuple B) = some (.tuple (A ++ [.tuple [.int one, b]] ++ B)) := dAdd_tup (by simp; omega)
      have hms : ms.length < 1000000 := by omega
      simp [-dCut_tuple, b__law_bad_lots_1, toS, c1, c2, d1, d2, hms]
end K84

namespace K84
open PySem DV L2
theorem bad_lots_spec {ns : List Int} (h : NsOk ns) {many : Nat} (h1 : 1 ≤ many) (h8 : many ≤ 8) {l : Lot} (hg : GL many l) (c : Nat) (hc : c + 100 < 2 ^ 60) : ∃ rows : List Lot, 1 ≤ rows.length ∧ rows.length ≤ 20 ∧ (∀ b ∈ rows, okLot many b = false ∧ LotFine b) ∧
    c__law_bad_lots (stD ns c) [.int many, lD l] = .ok (.list (rows.map lD)) (stD ns (c + 1)) := by
  have hl := hg.len
  obtain ⟨k, hk, hn⟩ := next_spec h c (by omega) l.length (by omega)
  obtain ⟨e, he⟩ : ∃ e, l[k]? = some e := ⟨_, List.getElem?_eq_getElem hk⟩
  obtain ⟨z, hz⟩ : ∃ z, l[l.length - 1]? = some z := ⟨_, List.getElem?_eq_getElem (by omega)⟩
  obtain ⟨W, S, G⟩ := hg
  have hb := bads_bad G he hz
  have hem := G.mem (List.mem_of_getElem? he)
  have hx48 := goodR_iff.mp hem.2.1
  refine ⟨badLots many l k e z, by simp [badLots], ?_, hb, ?_⟩
  · unfold badLots bads pairLots
    split <;> simp
  obtain ⟨X, hX⟩ : ∃ X, X = l.map eD := ⟨_, rfl⟩
  have hXl : X.length = l.length := by rw [hX, List.length_map]
  have x1 : dIx (.tuple X) (.int k) = some (eD e) := by rw [dIx_tuple, DV.atI_nat, hX, List.getElem?_map, he]; rfl
  have x2 : dIx (.tuple X) (.int (-1)) = some (eD z) := by
    rw [dIx_tuple, DV.atI_last _ (by intro q; rw [q] at hXl; simp at hXl; omega), hXl, hX, List.getElem?_map, hz]; rfl
  have hlX : dLen (.tuple X) = some (.int (l.length : Nat)) := by rw [dLen_tuple, hXl]
  have app : ∀ d, dAdd (.tuple X) (.tuple [d]) = some (.tuple (X ++ [d])) := fun d => dAdd_tup (by simp; omega)
  obtain ⟨x, a, b⟩ := e
  simp only at hx48 hem
  have m1 := dMul_bd (a := 2) (b := a) (by decide +kernel) (Nat.lt_of_le_of_lt (show a.natAbs ≤ 48 by omega) (by decide +kernel))
  have m2' := dMul_bd (a := 2) (b := b) (by decide +kernel) (Nat.lt_of_le_of_lt (show b.natAbs ≤ 48 by omega) (by decide +kernel))
  have hn' : c__law_next [.list (ns.map .int), .int (c : Int)] [.int (l.length : Nat)] = .ok (.int k) (stD ns (c + 1)) := hn
  obtain ⟨u, hu⟩ : ∃ u, u = eD z := ⟨_, rfl⟩
  rw [← hu] at x2
  obtain ⟨L0, hL0⟩ : ∃ L0 : List DV.D, L0 = [.tuple [], .tuple (X ++ [.tuple [.int many, .tuple [.int 1, .int 2]]]), .tuple (X ++ [u]), .tuple (X ++ [.tuple [.int (many - 1), .tuple [.int 1, .int 3]]]), .tuple [.tuple [.int (-1), .tuple [.int 1, .int 1]]], .tuple [.tuple [.int many, .tuple [.int 1, .int 1]]]] := ⟨_, rfl⟩
  have hL0l : L0.length = 6 := by rw [hL0]; rfl
  obtain ⟨a', lp⟩ := bads_loop (.io (stD ns (c + 1))) (.dat (.int many)) (.dat (rD (a, b))) X k x (by omega) ((bads (a, b)).map rD) L0 .un (by rw [hL0l]; simp [bads])
  obtain ⟨L1, hL1⟩ : ∃ L1, L1 = L0 ++ ((bads (a, b)).map rD).map fun b => .tuple (X.take k ++ [.tuple [.int x, b]] ++ X.drop (k + 1)) := ⟨_, rfl⟩
  rw [← hL1] at lp
  have hL1l : L1.length = 12 := by rw [hL1]; simp [hL0l, bads]
  have hrows : (badLots many l k (x, a, b) z).map lD = L1 ++ (if (1 : Int) < many then (pairLots many).map lD else []) := by
    rw [hL1, hL0, hu, hX]
    unfold badLots putL
    split <;> simp [bads, List.map_take, List.map_drop]
  rw [hrows]
  have e0 : (bads (a, b)).map rD = [.tuple [.int 0, .int 1], .tuple [.int (-1), .int 2], .tuple [.int (2 * a), .int (2 * b)], .tuple [.int a, .int (-b)], .tuple [.int (a + b), .int b], .tuple [.int 1, .int 0]] := rfl
  rw [e0] at lp
  show c__law_bad_lots _ [_, .tuple (l.map eD)] = _
  rw [← hX]
  have a1 := app (.tuple [.int many, .tuple [.int 1, .int 2]])
  have a2 := app u
  have a3 := app (.tuple [.int (many - 1), .tuple [.int 1, .int 3]])
  obtain ⟨A1, hA1⟩ : ∃ A, A = X ++ [.tuple [.int many, .tuple [.int 1, .int 2]]] := ⟨_, rfl⟩
  obtain ⟨A2, hA2⟩ : ∃ A, A = X ++ [u] := ⟨_, rfl⟩
  obtain ⟨A3, hA3⟩ : ∃ A, A = X ++ [.tuple [.int (many - 1), .tuple [.int 1, .int 3]]] := ⟨_, rfl⟩
  rw [← hA1] at a1 hL0
  rw [← hA2] at a2 hL0
  rw [← hA3] at a3 hL0
  rw [hL0] at lp
  generalize hS1 : stD ns (c + 1) = S1 at hn' lp ⊢
  have hS1' : S1 = stD ns (c + 1) := hS1.symm
  by_cases hm : (1 : Int) < many
  · rw [if_pos hm]
    have hlt : L1.length + 5 < 1000000 := by omega
    generalize X.length = n at hlX
    simp [c__law_bad_lots, mfunS, m__law_bad_lots, toS, stD, hlX, hn', x1, x2, a1, a2, a3, m1, m2', lp, hm, ioAt, pairLots, hL1l]
  · rw [if_neg hm]
    simp [c__law_bad_lots, mfunS, m__law_bad_lots, toS, stD, hlX, hn', x1, x2, a1, a2, a3, m1, m2', lp, hm, ioAt]
end K84

namespace K84
open PySem DV L2
/-! ### gambles that are none -/
theorem put_facts (X : List DV.D) (k : Nat) (hX : X.length ≤ 1000) : ∃ A B, A = X.take k ∧ B = X.drop (k + 1) ∧ dCut (.tuple X) none (some (k : Int)) = some (.tuple A) ∧ dCut (.tuple X) (some ((k : Int) + 1)) none = some (.tuple B) ∧
    (∀ Y, dAdd (.tuple A) (.tuple [Y]) = some (.tuple (A ++ [Y]))) ∧ (∀ Y, dAdd (.tuple (A ++ [Y])) (.tuple B) = some (.tuple (A ++ Y :: B))) := by
  have l1 : (X.take k).length ≤ 1000 := by rw [List.length_take]; omega
  have l2 : (X.drop (k + 1)).length ≤ 1000 := by rw [List.length_drop]; omega
  refine ⟨_, _, rfl, rfl, by rw [dCut_tuple, cutL_to], by rw [dCut_tuple, cutL_from1], fun Y => dAdd_tup (by simp only [List.length_cons, List.length_nil]; omega), fun Y => ?_⟩
  rw [dAdd_tup (by simp only [List.length_cons, List.length_nil, List.length_append]; omega)]
  simp
theorem okG_iff {facts : List Str} {g : Gm} : okG facts g = true ↔ (1 ≤ g.sc.length ∧ g.sc.length ≤ 8) ∧ g.op.length = g.sc.length ∧ (∀ s ∈ g.sc, subB facts s = true) ∧ okLot (g.sc.length : Nat) g.st = true ∧ ∀ row ∈ g.op, (1 ≤ row.length ∧ row.length ≤ 4) ∧ ∀ l ∈ row, okLot (g.sc.length : Nat) l = true := by
  unfold okG okRow
  simp only [Bool.and_eq_true, List.all_eq_true, decide_eq_true_eq]
  constructor
  · rintro ⟨⟨⟨⟨⟨a, b⟩, c⟩, d⟩, e⟩, f⟩
    exact ⟨⟨a, b⟩, c, d, e, f⟩
  · rintro ⟨⟨a, b⟩, c, d, e, f⟩
    exact ⟨⟨⟨⟨⟨a, b⟩, c⟩, d⟩, e⟩, f⟩
theorem okG_no {facts : List Str} {g : Gm} (h : ¬ ((1 ≤ g.sc.length ∧ g.sc.length ≤ 8) ∧ g.op.length = g.sc.length ∧ (∀ s ∈ g.sc, subB facts s = true) ∧ okLot (g.sc.length : Nat) g.st = true ∧ ∀ row ∈ g.op, (1 ≤ row.length ∧ row.length ≤ 4) ∧ ∀ l ∈ row, okLot (g.sc.length : Nat) l = true)) : okG facts g = false := by
  rw [Bool.eq_false_iff]
  exact fun q => h (okG_iff.mp q)
def put {α : Type} (xs : List α) (k : Nat) (x : α) : List α := xs.take k ++ x :: xs.drop (k + 1)
theorem put_len {α : Type} {xs : List α} {k : Nat} {x : α} (h : k < xs.length) : (put xs k x).length = xs.length := by
  unfold put
  simp
  omega
theorem put_mem {α : Type} {xs : List α} {k : Nat} {x y : α} (h : y ∈ put xs k x) : y ∈ xs ∨ y = x := by
  unfold put at h
  rcases List.mem_append.mp h with h | h
  · exact .inl (List.mem_of_mem_take h)
  · rcases List.mem_cons.mp h with h | h
    · exact .inr h
    · exact .inl (List.mem_of_mem_drop h)
theorem put_self {α : Type} {xs : List α} {k : Nat} {x : α} : x ∈ put xs k x := by
  unfold put
  simp
theorem put_map {α β : Type} (f : α → β) (xs : List α) (k : Nat) (x : α) : (put xs k x).map f = (xs.map f).take k ++ f x :: (xs.map f).drop (k + 1) := by
  unfold put
  simp [List.map_take, List.map_drop]
def tinyL : Lot := [(0, (1, 1))]
theorem tinyL_fine : LotFine tinyL := ⟨by decide, fun e he => by
  unfold tinyL at he
  rw [List.mem_singleton] at he
  subst he
  exact ⟨by decide, by decide⟩⟩
/-- the rows that are written -/
def badG1 (g : Gm) (at_ : Nat) (row : List Lot) : List Gm := [⟨[], g.st, []⟩, ⟨g.sc, g.st, g.op.drop 1⟩, ⟨g.sc, g.st, g.op ++ g.op.take 1⟩, ⟨g.sc ++ g.sc.take 1, g.st, g.op⟩, ⟨put g.sc at_ ["qq"], g.st, g.op⟩,
  ⟨g.sc, g.st, put g.op at_ []⟩, ⟨g.sc, g.st, put g.op at_ ((List.replicate 5 row).flatten.take 5)⟩, ⟨(List.replicate 9 (g.sc.take 1)).flatten, tinyL, List.replicate 9 [tinyL]⟩]
theorem qq_not {facts : List Str} (hf : FactsOk facts) : (Str.mk #[113, 113]) ∉ facts := fun h => by
  rcases hf.fw _ h with q | ⟨i, hi, e⟩
  · have := q.let_ 113 (by simp)
    unfold LetC at this
    omega
  · unfold wN at e
    simp at e
theorem rep_len {α : Type} (n : Nat) (xs : List α) : (List.replicate n xs).flatten.length = n * xs.length := by
  induction n with
  | zero => simp
  | succ n ih => rw [List.replicate_succ, List.flatten_cons, List.length_append, ih, Nat.succ_mul]; omega
theorem rep_mem {α : Type} {n : Nat} {xs : List α} {x : α} (h : x ∈ (List.replicate n xs).flatten) : x ∈ xs := by
  obtain ⟨l, hl, hx⟩ := List.mem_flatten.mp h
  rw [List.eq_of_mem_replicate hl] at hx
  exact hx
theorem badG1_bad {facts : List Str} (hf : FactsOk facts) (h3 : facts.length ≤ 3) {g : Gm} (h : GoodG facts g) {at_ : Nat} (ha : at_ < g.sc.length) {row : List Lot} (hrow : row ∈ g.op) : ∀ b ∈ badG1 g at_ row, okG facts b = false ∧ GmFine b := by
  have hfine := h.fine hf h3
  have hfew := h.few
  have hopl := h.opl
  obtain ⟨⟨hr1, hr2⟩, hr3⟩ := h.op row hrow
  have ha' : at_ < g.op.length := by omega
  intro b hb
  unfold badG1 at hb
  simp only [List.mem_cons, List.not_mem_nil, or_false] at hb
  rcases hb with rfl | rfl | rfl | rfl | rfl | rfl | rfl | rfl
  · exact ⟨okG_no fun q => by simp at q, ⟨fun s hs => (by cases hs), by simp, hfine.st, fun r hr => by cases hr⟩⟩
  · exact ⟨okG_no fun q => by
      have := q.2.1
      simp at this
      omega, ⟨hfine.sc, hfine.scl, hfine.st, fun r hr => hfine.op r (List.mem_of_mem_drop hr)⟩⟩
  · exact ⟨okG_no fun q => by
      have := q.2.1
      simp at this
      omega, ⟨hfine.sc, hfine.scl, hfine.st, fun r hr => by
        rcases List.mem_append.mp hr with hr | hr
        · exact hfine.op r hr
        · exact hfine.op r (List.mem_of_mem_take hr)⟩⟩
  · exact ⟨okG_no fun q => by
      have := q.2.1
      simp at this
      omega, ⟨fun r hr => by
        rcases List.mem_append.mp hr with hr | hr
        · exact hfine.sc r hr
        · exact hfine.sc r (List.mem_of_mem_take hr), by simp; omega, hfine.st, hfine.op⟩⟩
  · exact ⟨okG_no fun q => by
      have := q.2.2.1 _ put_self
      unfold subB at this
      rw [decide_eq_true_eq, mem_scenes'] at this
      exact qq_not hf (this.subset (List.mem_singleton.mpr rfl)), ⟨fun r hr => by
        rcases put_mem hr with hr | rfl
        · exact hfine.sc r hr
        · exact ⟨fun x hx => by
            rw [List.mem_singleton] at hx
            subst hx
            decide +kernel, by simp⟩, by rw [put_len ha]; omega, hfine.st, hfine.op⟩⟩
  · exact ⟨okG_no fun q => by
      have := q.2.2.2.2 _ put_self
      simp at this, ⟨hfine.sc, hfine.scl, hfine.st, fun r hr => by
        rcases put_mem hr with hr | rfl
        · exact hfine.op r hr
        · exact fun l hl => by cases hl⟩⟩
  · exact ⟨okG_no fun q => by
      have := (q.2.2.2.2 _ put_self).1.2
      rw [List.length_take, rep_len] at this
      omega, ⟨hfine.sc, hfine.scl, hfine.st, fun r hr => by
        rcases put_mem hr with hr | rfl
        · exact hfine.op r hr
        · exact fun l hl => hfine.op row hrow l (rep_mem (List.mem_of_mem_take hl))⟩⟩
  · have l9 : ((List.replicate 9 (g.sc.take 1)).flatten).length = 9 := by rw [rep_len, List.length_take]; omega
    exact ⟨okG_no fun q => by
      have := q.1.2
      rw [l9] at this
      omega, ⟨fun r hr => hfine.sc r (List.mem_of_mem_take (rep_mem hr)), by show ((List.replicate 9 (g.sc.take 1)).flatten).length ≤ 1000; rw [l9]; omega, tinyL_fine, fun r hr l hl => by
        rw [List.eq_of_mem_replicate hr, List.mem_singleton] at hl
        rw [hl]
        exact tinyL_fine⟩⟩
theorem badG2_bad {facts : List Str} {g : Gm} (hfine : GmFine g) {b : Lot} (hb : okLot (g.sc.length : Nat) b = false ∧ LotFine b) : okG facts ⟨g.sc, b, g.op⟩ = false ∧ GmFine ⟨g.sc, b, g.op⟩ := by
  refine ⟨okG_no fun q => ?_, ⟨hfine.sc, hfine.scl, hb.2, hfine.op⟩⟩
  have := q.2.2.2.1
  rw [hb.1] at this
  cases this
theorem badG3_bad {facts : List Str} {g : Gm} (hfine : GmFine g) {at_ k : Nat} {row : List Lot} (hrow : row ∈ g.op) {b : Lot} (hb : okLot (g.sc.length : Nat) b = false ∧ LotFine b) : okG facts ⟨g.sc, g.st, put g.op at_ (put row k b)⟩ = false ∧ GmFine ⟨g.sc, g.st, put g.op at_ (put row k b)⟩ := by
  refine ⟨okG_no fun q => ?_, ⟨hfine.sc, hfine.scl, hfine.st, fun r hr => ?_⟩⟩
  · have := (q.2.2.2.2 _ put_self).2 _ put_self
    rw [hb.1] at this
    cases this
  · rcases put_mem hr with hr | rfl
    · exact hfine.op r hr
    · intro l hl
      rcases put_mem hl with hl | rfl
      · exact hfine.op row hrow l hl
      · exact hb.2
theorem turns_loop {ns : List Int} (h : NsOk ns) {facts : List Str} {g : Gm} (hfine : GmFine g) (hopl : g.op.length ≤ 8) {at_ k : Nat} {row : List Lot} (hat : g.op[at_]? = some row) (hrl : row.length ≤ 4) {lots : List Lot} (hl1 : 1 ≤ lots.length) (hl2 : lots.length ≤ 20)
    (hlots : ∀ b ∈ lots, okLot (g.sc.length : Nat) b = false ∧ LotFine b) (s1 s2 s3 : DV.D) (hs2 : s2 = scD g.sc) (hs3 : s3 = lD g.st) (s5 : SV) : ∀ (ds : List DV.D) (c : Nat) (hc : c + ds.length < 2 ^ 60) (gs : List Gm) (a b : SV), gs.length + ds.length ≤ 100 → (∀ x ∈ gs, okG facts x = false ∧ GmFine x) →
    ∃ (gs' : List Gm) (a' b' : SV), (∀ x ∈ gs', okG facts x = false ∧ GmFine x) ∧ gs'.length = gs.length + ds.length ∧
    mForL (gN 10) b__law_bad_gambles_1 ds [.io (stD ns c), .dat s1, .dat s2, .dat s3, .dat (opD g.op), s5, .dat (.int at_), .dat (.int k), .own (gs.map gD), .dat (.list (lots.map lD)), a, b] = .nx [.io (stD ns (c + ds.length)), .dat s1, .dat s2, .dat s3, .dat (opD g.op), s5, .dat (.int at_), .dat (.int k), .own (gs'.map gD), .dat (.list (lots.map lD)), a', b']
  | [], c, _, gs, a, b, _, hg => ⟨gs, a, b, hg, rfl, rfl⟩
  | d :: ds, c, hc, gs, a, b, hl, hg => by
    simp only [List.length_cons] at hc hl
    obtain ⟨r, hr, hn⟩ := next_spec h c (by omega) lots.length (by omega)
    have hbad := hlots _ (List.getElem_mem hr)
    have hbd := badG3_bad (facts := facts) hfine (at_ := at_) (k := k) (List.mem_of_getElem? hat) hbad
    obtain ⟨gs', a', b', i1, i2, i3⟩ := turns_loop h (facts := facts) hfine hopl hat (k := k) hrl hl1 hl2 hlots s1 s2 s3 hs2 hs3 s5 ds (c + 1) (by omega) (gs ++ [⟨g.sc, g.st, put g.op at_ (put row k lots[r])⟩]) (.dat d) (.dat (lD lots[r])) (by simp; omega) (fun x hx => by
      rcases List.mem_append.mp hx with hx | hx
      · exact hg x hx
      · rw [List.mem_singleton] at hx
        subst hx
        exact hbd)
    refine ⟨gs', a', b', i1, by rw [i2]; simp; omega, ?_⟩
    have ec : c + (d :: ds).length = c + 1 + ds.length := by simp; omega
    rw [ec, ← i3]
    refine forL_nx (s1 := [.io (stD ns c), .dat s1, .dat s2, .dat s3, .dat (opD g.op), s5, .dat (.int at_), .dat (.int k), .own (gs.map gD), .dat (.list (lots.map lD)), .dat d, b]) rfl ?_
    have hn' : c__law_next [.list (ns.map .int), .int (c : Int)] [.int (lots.length : Nat)] = .ok (.int r) (stD ns (c + 1)) := hn
    obtain ⟨O, hO⟩ : ∃ O, O = g.op.map rowD := ⟨_, rfl⟩
    obtain ⟨X, hX⟩ : ∃ X, X = row.map lD := ⟨_, rfl⟩
    obtain ⟨L, hL⟩ : ∃ L, L = lots.map lD := ⟨_, rfl⟩
    obtain ⟨G, hG⟩ : ∃ G, G = gs.map gD := ⟨_, rfl⟩
    obtain ⟨u, hu⟩ : ∃ u, u = lD lots[r] := ⟨_, rfl⟩
    have hGl : G.length < 1000000 := by rw [hG, List.length_map]; omega
    obtain ⟨A, B, hA, hB, c1, c2, d1, d2⟩ := put_facts O at_ (by rw [hO, List.length_map]; omega)
    obtain ⟨A', B', hA', hB', c1', c2', d1', d2'⟩ := put_facts X k (by rw [hX, List.length_map]; omega)
    have x1 : dIx (.tuple O) (.int at_) = some (.tuple X) := by rw [dIx_tuple, DV.atI_nat, hO, List.getElem?_map, hat, hX]; rfl
    have x2 : dIx (.list L) (.int r) = some u := by rw [dIx_list, DV.atI_nat, hL, List.getElem?_map, List.getElem?_eq_getElem hr, hu]; rfl
    have x3 : dLen (.list L) = some (.int (lots.length : Nat)) := by rw [dLen_list, hL, List.length_map]
    have hgd : (gs ++ [(⟨g.sc, g.st, put g.op at_ (put row k lots[r])⟩ : Gm)]).map gD = G ++ [.tuple [s2, s3, .tuple (A ++ .tuple (A' ++ u :: B') :: B)]] := by
      rw [List.map_append, hG, hA, hB, hA', hB', hu, hO, hX, hs2, hs3]
      congr 1
      show [PyData.tuple [scD g.sc, lD g.st, .tuple ((put g.op at_ (put row k lots[r])).map rowD)]] = _
      rw [put_map rowD]
      show [PyData.tuple [scD g.sc, lD g.st, .tuple (_ ++ .tuple ((put row k lots[r]).map lD) :: _)]] = _
      rw [put_map lD]
    rw [hgd]
    show b__law_bad_gambles_1 [_, _, _, _, .dat (.tuple (g.op.map rowD)), _, _, _, _, _, _, _] = .nx [_, _, _, _, .dat (.tuple (g.op.map rowD)), _, _, _, _, _, _, _]
    rw [← hO, ← hL, ← hG, ← hu]
    generalize stD ns (c + 1) = S1 at hn' ⊢
    simp [-dCut_tuple, b__law_bad_gambles_1, toS, stD, hn', x1, x2, x3, c1, c2, d1, d2, c1', c2', d1', d2', hGl]
end K84

namespace K84
open PySem DV L2
theorem bad_gambles_spec {ns : List Int} (h : NsOk ns) {facts : List Str} (hf : FactsOk facts) (h3 : facts.length ≤ 3) {g : Gm} (hg : GoodG facts g) (c : Nat) (hc : c + 1000 < 2 ^ 60) : ∃ gs : List Gm, (∀ x ∈ gs, okG facts x = false ∧ GmFine x) ∧
    c__law_bad_gambles (stD ns c) [gD g] = .ok (.list (gs.map gD)) (stD ns (c + 8)) := by
  have hfew := hg.few
  have hopl := hg.opl
  have hfine := hg.fine hf h3
  obtain ⟨many, hmany⟩ : ∃ many, many = g.sc.length := ⟨_, rfl⟩
  rw [← hmany] at hfew hopl
  obtain ⟨at_, hat, hn1⟩ := next_spec h c (by omega) many (by omega)
  have hat' : at_ < g.op.length := by omega
  obtain ⟨row, hrow⟩ : ∃ row, g.op[at_]? = some row := ⟨_, List.getElem?_eq_getElem hat'⟩
  have hrm := List.mem_of_getElem? hrow
  obtain ⟨⟨hr1, hr2⟩, hr3⟩ := hg.op row hrm
  obtain ⟨k, hk, hn2⟩ := next_spec h (c + 1) (by omega) row.length (by omega)
  obtain ⟨lots1, a1, a2, a3, hb1⟩ := bad_lots_spec h (many := many) (by omega) (by omega) (by rw [hmany]; exact hg.st) (c + 1 + 1) (by omega)
  obtain ⟨r, hr, hn3⟩ := next_spec h (c + 1 + 1 + 1) (by omega) lots1.length (by omega)
  have hkl : row[k]? = some row[k] := List.getElem?_eq_getElem hk
  obtain ⟨lots2, b1, b2, b3, hb2⟩ := bad_lots_spec h (many := many) (by omega) (by omega) (by rw [hmany]; exact hr3 _ (List.getElem_mem hk)) (c + 1 + 1 + 1 + 1) (by omega)
  rw [hmany] at a3 b3
  obtain ⟨gs', x, y, t1, t2, t3⟩ := turns_loop h (facts := facts) hfine (by omega) hrow (k := k) hr2 b1 b2 b3 (gD g) (scD g.sc) (lD g.st) rfl rfl (.dat (.int many)) (rngD 3) (c + 1 + 1 + 1 + 1 + 1) (by simp [rngD]; omega) (badG1 g at_ row ++ [⟨g.sc, lots1[r], g.op⟩]) .un .un (by simp [badG1, rngD]) (fun z hz => by
    rcases List.mem_append.mp hz with hz | hz
    · exact badG1_bad hf h3 hg (by omega) hrm z hz
    · rw [List.mem_singleton] at hz
      subst hz
      exact badG2_bad hfine (a3 _ (List.getElem_mem hr)))
  refine ⟨gs', t1, ?_⟩
  have e8 : c + 1 + 1 + 1 + 1 + 1 + (rngD 3).length = c + 8 := by simp [rngD]
  rw [e8] at t3
  obtain ⟨S, hS⟩ : ∃ S, S = g.sc.map sD := ⟨_, rfl⟩
  obtain ⟨T, hT⟩ : ∃ T, T = lD g.st := ⟨_, rfl⟩
  obtain ⟨O, hO⟩ : ∃ O, O = g.op.map rowD := ⟨_, rfl⟩
  obtain ⟨X, hX⟩ : ∃ X, X = row.map lD := ⟨_, rfl⟩
  obtain ⟨L1, hL1⟩ : ∃ L1, L1 = lots1.map lD := ⟨_, rfl⟩
  obtain ⟨L2, hL2⟩ : ∃ L2, L2 = lots2.map lD := ⟨_, rfl⟩
  obtain ⟨u, hu⟩ : ∃ u, u = lD lots1[r] := ⟨_, rfl⟩
  obtain ⟨v, hv⟩ : ∃ v, v = lD row[k] := ⟨_, rfl⟩
  have hSl : S.length = many := by rw [hS, List.length_map, hmany]
  have hOl : O.length = many := by rw [hO, List.length_map, hopl]
  have hXl : X.length = row.length := by rw [hX, List.length_map]
  have y1 : dLen (.tuple S) = some (.int many) := by rw [dLen_tuple, hSl]
  have y2 : dLen (.tuple X) = some (.int row.length) := by rw [dLen_tuple, hXl]
  have y3 : dLen (.list L1) = some (.int lots1.length) := by rw [dLen_list, hL1, List.length_map]
  have x1 : dIx (.tuple O) (.int at_) = some (.tuple X) := by rw [dIx_tuple, DV.atI_nat, hO, List.getElem?_map, hrow, hX]; rfl
  have x2 : dIx (.list L1) (.int r) = some u := by rw [dIx_list, DV.atI_nat, hL1, List.getElem?_map, List.getElem?_eq_getElem hr, hu]; rfl
  have x3 : dIx (.tuple X) (.int k) = some v := by rw [dIx_tuple, DV.atI_nat, hX, List.getElem?_map, hkl, hv]; rfl
  obtain ⟨A, B, hA, hB, c1, c2, d1, d2⟩ := put_facts S at_ (by omega)
  obtain ⟨A', B', hA', hB', c1', c2', d1', d2'⟩ := put_facts O at_ (by omega)
  obtain ⟨O1, hO1⟩ : ∃ O1, O1 = O.take 1 := ⟨_, rfl⟩
  obtain ⟨O2, hO2⟩ : ∃ O2, O2 = O.drop 1 := ⟨_, rfl⟩
  obtain ⟨S1, hS1⟩ : ∃ S1, S1 = S.take 1 := ⟨_, rfl⟩
  have hS1l : S1.length = 1 := by rw [hS1, List.length_take]; omega
  have o1 : dCut (.tuple O) none (some 1) = some (.tuple O1) := by rw [dCut_tuple, cutL_to1, hO1]
  have o2 : dCut (.tuple O) (some 1) none = some (.tuple O2) := by rw [dCut_tuple, cutL_fr1, hO2]
  have o3 : dCut (.tuple S) none (some 1) = some (.tuple S1) := by rw [dCut_tuple, cutL_to1, hS1]
  have p1 : dAdd (.tuple O) (.tuple O1) = some (.tuple (O ++ O1)) := dAdd_tup (by rw [hO1, List.length_take]; omega)
  have p2 : dAdd (.tuple S) (.tuple S1) = some (.tuple (S ++ S1)) := dAdd_tup (by omega)
  have m5 : dMul (.tuple X) (.int 5) = some (.tuple (List.replicate 5 X).flatten) := if_pos ⟨by
    rw [List.isEmpty_eq_false_iff]
    intro q
    rw [q] at hXl
    simp at hXl
    omega, by omega, by omega, by omega⟩
  have m9 : dMul (.tuple S1) (.int 9) = some (.tuple (List.replicate 9 S1).flatten) := if_pos ⟨by
    rw [List.isEmpty_eq_false_iff]
    intro q
    rw [q] at hS1l
    simp at hS1l, by omega, by omega, by omega⟩
  obtain ⟨S9, hS9⟩ : ∃ S9, S9 = (List.replicate 9 S1).flatten := ⟨_, rfl⟩
  obtain ⟨X5, hX5⟩ : ∃ X5, X5 = (List.replicate 5 X).flatten := ⟨_, rfl⟩
  obtain ⟨X6, hX6⟩ : ∃ X6, X6 = X5.take 5 := ⟨_, rfl⟩
  rw [← hS9] at m9
  rw [← hX5] at m5
  have c5 : dCut (.tuple X5) none (some 5) = some (.tuple X6) := by rw [dCut_tuple, cutL_to5, hX6]
  obtain ⟨T9, hT9⟩ : ∃ T9 : List DV.D, T9 = (List.replicate 9 [PyData.tuple [.tuple [.tuple [.int 0, .tuple [.int 1, .int 1]]]]]).flatten := ⟨_, rfl⟩
  have m9' : dMul (.tuple [.tuple [.tuple [.tuple [.int 0, .tuple [.int 1, .int 1]]]]]) (.int 9) = some (.tuple T9) := by rw [hT9]; rfl
  have hgs : (badG1 g at_ row ++ [(⟨g.sc, lots1[r], g.op⟩ : Gm)]).map gD = [.tuple [.tuple [], T, .tuple []], .tuple [.tuple S, T, .tuple O2], .tuple [.tuple S, T, .tuple (O ++ O1)], .tuple [.tuple (S ++ S1), T, .tuple O], .tuple [.tuple (A ++ .tuple [.str "qq"] :: B), T, .tuple O],
      .tuple [.tuple S, T, .tuple (A' ++ .tuple [] :: B')], .tuple [.tuple S, T, .tuple (A' ++ .tuple X6 :: B')], .tuple [.tuple S9, .tuple [.tuple [.int 0, .tuple [.int 1, .int 1]]], .tuple T9], .tuple [.tuple S, u, .tuple O]] := by
    rw [hA, hB, hA', hB', hX6, hX5, hS9, hT9, hO2, hO1, hS1, hT, hu, hO, hS, hX]
    unfold badG1
    simp only [List.map_append, List.map_cons, List.map_nil, List.cons_append, List.nil_append]
    have r1 : (put g.sc at_ [Str.ofString "qq"]).map sD = (g.sc.map sD).take at_ ++ .tuple [.str "qq"] :: (g.sc.map sD).drop (at_ + 1) := put_map sD _ _ _
    have r2 : (put g.op at_ []).map rowD = (g.op.map rowD).take at_ ++ .tuple [] :: (g.op.map rowD).drop (at_ + 1) := put_map rowD _ _ _
    have r3 : (put g.op at_ ((List.replicate 5 row).flatten.take 5)).map rowD = (g.op.map rowD).take at_ ++ .tuple ((List.replicate 5 (row.map lD)).flatten.take 5) :: (g.op.map rowD).drop (at_ + 1) := by
      rw [put_map rowD]
      show _ ++ PyData.tuple (((List.replicate 5 row).flatten.take 5).map lD) :: _ = _
      rw [List.map_take, List.map_flatten, List.map_replicate]
    have r4 : ((List.replicate 9 (g.sc.take 1)).flatten).map sD = (List.replicate 9 ((g.sc.map sD).take 1)).flatten := by rw [List.map_flatten, List.map_replicate, List.map_take]
    show [_, _, _, _, PyData.tuple [.tuple ((put g.sc at_ [Str.ofString "qq"]).map sD), _, _], PyData.tuple [_, _, .tuple ((put g.op at_ []).map rowD)], PyData.tuple [_, _, .tuple ((put g.op at_ ((List.replicate 5 row).flatten.take 5)).map rowD)], PyData.tuple [.tuple (((List.replicate 9 (g.sc.take 1)).flatten).map sD), _, _], _] = _
    rw [r1, r2, r3, r4]
    have s1 : opD (g.op.drop 1) = .tuple ((g.op.map rowD).drop 1) := by rw [← List.map_drop]
    have s2 : opD (g.op ++ g.op.take 1) = .tuple (g.op.map rowD ++ (g.op.map rowD).take 1) := by rw [← List.map_take, ← List.map_append]
    have s3 : scD (g.sc ++ g.sc.take 1) = .tuple (g.sc.map sD ++ (g.sc.map sD).take 1) := by rw [← List.map_take, ← List.map_append]
    show [PyData.tuple [_, _, _], .tuple [_, _, opD (g.op.drop 1)], .tuple [_, _, opD (g.op ++ g.op.take 1)], .tuple [scD (g.sc ++ g.sc.take 1), _, _], _, _, _, _, _] = _
    rw [s1, s2, s3]
    rfl
  obtain ⟨R0, hR0⟩ : ∃ R0, R0 = (badG1 g at_ row ++ [(⟨g.sc, lots1[r], g.op⟩ : Gm)]).map gD := ⟨_, rfl⟩
  rw [← hR0] at t3
  have t3' : mForL (gN 10) b__law_bad_gambles_1 (rngD 3) [.io (stD ns (c + 1 + 1 + 1 + 1 + 1)), .dat (.tuple [.tuple S, T, .tuple O]), .dat (.tuple S), .dat T, .dat (.tuple O), .dat (.int many), .dat (.int at_), .dat (.int k), .own R0, .dat (.list L2), .un, .un] = .nx [.io (stD ns (c + 8)), .dat (.tuple [.tuple S, T, .tuple O]), .dat (.tuple S), .dat T, .dat (.tuple O), .dat (.int many), .dat (.int at_), .dat (.int k), .own (gs'.map gD), .dat (.list L2), x, y] := by
    rw [hS, hT, hO, hL2]
    exact t3
  rw [hR0, hgs] at t3'
  have hn1' : c__law_next [.list (ns.map .int), .int (c : Int)] [.int (many : Int)] = .ok (.int at_) (stD ns (c + 1)) := hn1
  rw [← hL1, ← hT] at hb1
  rw [← hL2, ← hv] at hb2
  show c__law_bad_gambles _ [.tuple [.tuple (g.sc.map sD), lD g.st, .tuple (g.op.map rowD)]] = _
  rw [← hS, ← hT, ← hO]
  generalize gs'.map gD = R at t3' ⊢
  generalize stD ns (c + 1 + 1 + 1 + 1 + 1) = Q5 at hb2 t3'
  generalize stD ns (c + 1 + 1 + 1 + 1) = Q4 at hn3 hb2
  generalize stD ns (c + 1 + 1 + 1) = Q3 at hb1 hn3
  generalize stD ns (c + 1 + 1) = Q2 at hn2 hb1
  generalize stD ns (c + 1) = Q1 at hn1' hn2
  generalize stD ns (c + 8) = Q8 at t3' ⊢
  simp [-dCut_tuple, c__law_bad_gambles, mfunS, m__law_bad_gambles, toS, stD, hn1', hn2, hn3, hb1, hb2, x1, x2, x3, y1, y2, y3, o1, o2, o3, p1, p2, c1, c2, d1, d2, c1', c2', d1', d2', m5, m9, m9', c5, t3', ioAt]
end K84

namespace K84
open PySem DV L2
/-! ### ratios -/
theorem tm_big {i : Int} (h : i.natAbs < 2 ^ 250) : Tm 0 302 (.int i) := by
  have h2 : i.natAbs.log2 < 250 := by
    have := log2_le (k := 249) h
    omega
  refine ⟨by simp [PyData.canLay0], ?_, by simp [PyData.depth], ?_⟩
  · simp only [PyData.showable, decide_eq_true_eq]
    omega
  · simp only [PyData.shown]
    have e := int_text_length_le (k := 250) (by omega) h2
    rw [ofString_length]
    omega
theorem tm_R {r : R} (h : Bd 250 r) : Tm 1 700 (rD r) := (tm_two (tm_big h.1) (tm_big h.2)).mono (by omega) (by omega)
theorem number_spec {ns : List Int} (h : NsOk ns) (c : Nat) (hc : c + 10 < 2 ^ 60) : ∃ z : Int, z.natAbs < 2 ^ 50 ∧ c__law_number (stD ns c) [] = .ok (.int z) (stD ns (c + 2)) := by
  obtain ⟨a, ha, hn1⟩ := next_spec h c (by omega) 1009 (by omega)
  obtain ⟨b, hb, hn2⟩ := next_spec h (c + 1) (by omega) 3 (by omega)
  have hn1' : c__law_next [.list (ns.map .int), .int (c : Int)] [.int 1009] = .ok (.int a) (stD ns (c + 1)) := hn1
  have hn2' : c__law_next (stD ns (c + 1)) [.int 3] = .ok (.int b) (stD ns (c + 2)) := hn2
  have hp : dPow (.int 10) (.int 12) = some (.int 1000000000000) := by rfl
  obtain ⟨m, hm, hat⟩ : ∃ m : Int, m.natAbs ≤ 1000000000000 ∧ atI [PyData.int 1, PyData.int 6, PyData.int 1000000000000] (b : Int) = some (.int m) := by
    have : b = 0 ∨ b = 1 ∨ b = 2 := by omega
    rcases this with rfl | rfl | rfl
    · exact ⟨1, by omega, rfl⟩
    · exact ⟨6, by omega, rfl⟩
    · exact ⟨1000000000000, by omega, rfl⟩
  have ha' : ((a : Int) - 500).natAbs ≤ 600 := by omega
  have hmul : dMul (.int ((a : Int) - 500)) (.int m) = some (.int (((a : Int) - 500) * m)) := dMul_bd (Nat.lt_of_le_of_lt ha' (by decide +kernel)) (Nat.lt_of_le_of_lt hm (by decide +kernel))
  refine ⟨((a : Int) - 500) * m, ?_, ?_⟩
  · rw [Int.natAbs_mul]
    exact Nat.lt_of_le_of_lt (Nat.mul_le_mul ha' hm) (by decide)
  · generalize stD ns (c + 1) = S1 at hn1' hn2'
    generalize stD ns (c + 2) = S2 at hn2' ⊢
    simp [c__law_number, mfunS, m__law_number, toS, stD, hn1', hn2', hp, hat, hmul, ioAt]
def timesR (x y : R) : R := norm (x.1 * y.1) (x.2 * y.2)
def lessB (x y : R) : Bool := decide (x.1 * y.2 < y.1 * x.2)
structure Rt (x : R) : Prop where
  bd : Bd 51 x
  pos : 0 < x.2
  low : Int.gcd x.1 x.2 = 1
theorem Rt.b {x : R} (h : Rt x) : x.1.natAbs < 2 ^ 1000 ∧ x.2.natAbs < 2 ^ 1000 := ⟨bd1 h.bd.1 (by omega), bd1 h.bd.2 (by omega)⟩
theorem sums_spec {x y : R} (hx : Rt x) (hy : Rt y) : c__law_sum [rD x, rD y] = .ok (rD (plusR x y)) ∧ c_plus [rD x, rD y] = .ok (rD (plusR x y)) ∧
    c__law_times [rD x, rD y] = .ok (rD (timesR x y)) ∧ c_times [rD x, rD y] = .ok (rD (timesR x y)) ∧
    c__law_less [rD x, rD y] = .ok (.bool (lessB x y)) ∧ c_compare [rD x, rD y] = .ok (.int ((if lessB y x then 1 else 0) - (if lessB x y then 1 else 0))) ∧ Bd 250 (plusR x y) ∧ Bd 250 (timesR x y) := by
  have m1 := dMul_bd hx.b.1 hy.b.2
  have m2 := dMul_bd hy.b.1 hx.b.2
  have m3 := dMul_bd hx.b.2 hy.b.2
  have m4 := dMul_bd hx.b.1 hy.b.1
  have px := hx.pos
  have py := hy.pos
  have pxy : x.2 * y.2 ≠ 0 := Int.mul_ne_zero (by omega) (by omega)
  have bxy : (x.2 * y.2).natAbs < 2 ^ 199 := Nat.lt_of_lt_of_le (mul_bd hx.bd.2 hy.bd.2) (Nat.pow_le_pow_right (by omega) (by omega))
  have bxy2 : (x.2 * y.2).natAbs < 2 ^ 1000 := bd1 bxy (by omega)
  have l1 := law_ratio_spec (x.1 * y.2 + y.1 * x.2) (x.2 * y.2) pxy bxy
  have l2 := law_ratio_spec (x.1 * y.1) (x.2 * y.2) pxy bxy
  have l3 := lowest_spec (x.1 * y.1) (x.2 * y.2) pxy bxy2
  have l4 := plus_spec hx.bd hy.bd (by omega) (by omega) (by omega)
  refine ⟨?_, l4, ?_, ?_, ?_, ?_, (plusR_bd hx.bd hy.bd (by omega) (by omega)).mono (by omega), ?_⟩
  · simp [c__law_sum, mfunP, m__law_sum, toS, m1, m2, m3, l1, plusR]
  · simp [c__law_times, mfunP, m__law_times, toS, m3, m4, l2, timesR]
  · simp [c_times, mfunP, m_times, toS, m3, m4, l3, timesR]
  · simp [c__law_less, mfunP, m__law_less, toS, m1, m2, lessB]
  · simp [c_compare, mfunP, m_compare, toS, m1, m2, lessB]
  · obtain ⟨a, b⟩ := norm_le (a := x.1 * y.1) pxy
    have c1 := mul_bd hx.bd.1 hy.bd.1
    have c2 := mul_bd hx.bd.2 hy.bd.2
    exact ⟨Nat.lt_of_le_of_lt a (Nat.lt_of_lt_of_le c1 (Nat.pow_le_pow_right (by omega) (by omega))), Nat.lt_of_le_of_lt b (Nat.lt_of_lt_of_le c2 (Nat.pow_le_pow_right (by omega) (by omega)))⟩
theorem tm_four {n m : Nat} {a b e f : DV.D} (ha : Tm n m a) (hb : Tm n m b) (he : Tm n m e) (hf : Tm n m f) : Tm (n + 1) (4 * (m + 2) + 3) (.tuple [a, b, e, f]) := tm_tup (ds := [a, b, e, f]) fun d hd => by
  simp only [List.mem_cons, List.not_mem_nil, or_false] at hd
  rcases hd with rfl | rfl | rfl | rfl <;> assumption
theorem tm_three {n m : Nat} {a b e : DV.D} (ha : Tm n m a) (hb : Tm n m b) (he : Tm n m e) : Tm (n + 1) (3 * (m + 2) + 3) (.tuple [a, b, e]) := tm_tup (ds := [a, b, e]) fun d hd => by
  simp only [List.mem_cons, List.not_mem_nil, or_false] at hd
  rcases hd with rfl | rfl | rfl <;> assumption
theorem ratio_drawn {ns : List Int} (h : NsOk ns) (c : Nat) (hc : c + 100 < 2 ^ 60) : ∃ (a b : Int) (x : R), Rt x ∧ c__law_number (stD ns c) [] = .ok (.int a) (stD ns (c + 2)) ∧ c__law_number (stD ns (c + 2)) [] = .ok (.int b) (stD ns (c + 4)) ∧
    c__law_ratio [.int a, .int (1 + if b < 0 then -b else b)] = .ok (rD x) := by
  obtain ⟨a, ha, e1⟩ := number_spec h c (by omega)
  obtain ⟨b, hb, e2⟩ := number_spec h (c + 2) (by omega)
  have e : (1 + if b < 0 then -b else b) = 1 + (b.natAbs : Int) := by rw [abs_nat]
  have hp : (1 + (b.natAbs : Int)) ≠ 0 := by omega
  have hb2 : (1 + (b.natAbs : Int)).natAbs < 2 ^ 51 := by omega
  refine ⟨a, b, norm a (1 + (b.natAbs : Int)), ⟨?_, norm_pos (by omega), norm_gcd hp⟩, e1, e2, ?_⟩
  · obtain ⟨p, q⟩ := norm_le (a := a) hp
    exact ⟨by omega, by omega⟩
  · rw [e]
    exact law_ratio_spec a _ hp (Nat.lt_of_lt_of_le hb2 (Nat.pow_le_pow_right (by omega) (by omega)))
theorem fit_spec {ns : List Int} (h : NsOk ns) (c : Nat) (hc : c + 1000 < 2 ^ 60) : ∃ c' : Nat, c__law_ratios_fit (stD ns c) [] = .ok (.bool true) (stD ns c') := by
  obtain ⟨a1, b1, x, hx, n1, n2, r1⟩ := ratio_drawn h c (by omega)
  obtain ⟨a2, b2, y, hy, n3, n4, r2⟩ := ratio_drawn h (c + 4) (by omega)
  obtain ⟨a, ha, n5⟩ := number_spec h (c + 4 + 4) (by omega)
  obtain ⟨b, hb, n6⟩ := number_spec h (c + 4 + 4 + 2) (by omega)
  refine ⟨c + 4 + 4 + 2 + 2, ?_⟩
  obtain ⟨s1, s2, s3, s4, s5, s6, bp, bt⟩ := sums_spec hx hy
  obtain ⟨_, _, _, _, s7, _, _, _⟩ := sums_spec hy hx
  obtain ⟨_, _, _, _, _, s8, _, _⟩ := sums_spec hx hx
  have s8' : c_compare [rD x, rD x] = .ok (.int 0) := by
    rw [s8]
    unfold lessB
    simp
  obtain ⟨w, hw⟩ : ∃ w : Int, w = (if lessB y x then 1 else 0) - (if lessB x y then 1 else 0) := ⟨_, rfl⟩
  rw [← hw] at s6
  have hw2 : w.natAbs ≤ 1 := by
    rw [hw]
    cases lessB y x <;> cases lessB x y <;> decide
  have hw' : (.int ((if lessB y x then 1 else 0) - (if lessB x y then 1 else 0))) = (PyData.int w) := by rw [hw]
  have rp1 : dRepr (.tuple [rD (plusR x y), rD (timesR x y), .int w, .int 0]) = _ := dRepr_tm (tm_four (tm_R bp) (tm_R bt) ((tm_big (i := w) (Nat.lt_of_le_of_lt hw2 (by decide))).mono (by omega) (by omega)) ((tm_big (i := 0) (by decide)).mono (n' := 1) (m' := 700) (by omega) (by omega))) (by omega) (by omega)
  have isx := is_ratio_spec x
  have hpx := hx.pos
  rw [decide_eq_true (show 1 ≤ x.2 by omega), decide_eq_true hx.low] at isx
  have is0 := is_ratio_spec (a, 0)
  have isn := is_ratio_spec (x.1, -x.2)
  rw [decide_eq_false (by simp)] at is0
  rw [decide_eq_false (by simp; omega)] at isn
  have rp3 : dRepr (.tuple [.bool true, .bool false, .bool false]) = _ := dRepr_tm (tm_three (tm_bool true) (tm_bool false) (tm_bool false)) (by omega) (by omega)
  have lz := lowest_zero a
  generalize PyData.shown (.tuple [rD (plusR x y), rD (timesR x y), .int w, .int 0]) = z1 at rp1
  generalize PyData.shown (.tuple [.bool true, .bool false, .bool false]) = z3 at rp3
  have isn' : c_is_ratio [.tuple [.int x.1, .int (-x.2)]] = .ok (.bool false) := isn
  have is0' : c_is_ratio [.tuple [.int a, .int 0]] = .ok (.bool false) := is0
  have x1 : dIx (rD x) (.int 0) = some (.int x.1) := rfl
  have x2 : dIx (rD x) (.int 1) = some (.int x.2) := rfl
  generalize rD (plusR x y) = P at *
  generalize rD (timesR x y) = Q at *
  generalize rD x = X at *
  generalize rD y = Y at *
  have first : dRepr (.tuple [P, Q, .int ((if lessB y x then 1 else 0) - (if lessB x y then 1 else 0)), .int 0]) = some (.str z1) := by rw [hw']; exact rp1
  have z2 : ∀ (Z : Prop), (b ≠ 0 → ∀ (L : DV.D) (z : Str) (t : Bool), c_lowest [.int a, .int b] = .ok L → c__law_ratio [.int a, .int b] = .ok L → c_is_ratio [.tuple [.int a, .int b]] = .ok (.bool t) → (t = (decide (0 < b) && decide (Int.gcd a b = 1))) → c__law_gcd [.int a, .int b] = .ok (.int (Int.gcd a b : Nat)) → dRepr (.tuple [L, .bool t]) = some (.str z) → Z) → (b = 0 → Z) → Z := fun Z hZ hZ0 => by
    by_cases q : b = 0
    · exact hZ0 q
    · have hb199 : b.natAbs < 2 ^ 199 := Nat.lt_of_lt_of_le hb (Nat.pow_le_pow_right (by omega) (by omega))
      have e : (decide (1 ≤ b) && decide (Int.gcd a b = 1)) = (decide (0 < b) && decide (Int.gcd a b = 1)) := rfl
      obtain ⟨q1, q2⟩ := norm_le (a := a) q
      have bn : Bd 250 (norm a b) := ⟨Nat.lt_of_le_of_lt q1 (Nat.lt_of_lt_of_le ha (Nat.pow_le_pow_right (by omega) (by omega))), Nat.lt_of_le_of_lt q2 (Nat.lt_of_lt_of_le hb (Nat.pow_le_pow_right (by omega) (by omega)))⟩
      exact hZ q _ _ _ (lowest_spec a b q (bd1 hb (by omega))) (law_ratio_spec a b q hb199) (is_ratio_spec (a, b)) e (law_gcd_spec a b hb199) (dRepr_tm (tm_two (tm_R bn) ((tm_bool _).mono (by omega) (by omega))) (by omega) (by omega))
  have n1' : c__law_number [.list (ns.map .int), .int (c : Int)] [] = .ok (.int a1) (stD ns (c + 2)) := n1
  generalize stD ns (c + 4 + 4 + 2 + 2) = Q8 at n6 ⊢
  generalize stD ns (c + 4 + 4 + 2) = Q7 at n5 n6
  generalize stD ns (c + 4 + 4) = Q6 at n4 n5
  generalize stD ns (c + 4 + 2) = Q5 at n3 n4
  generalize stD ns (c + 4) = Q4 at n2 n3
  generalize stD ns (c + 2) = Q2 at n1' n2
  generalize hvb1 : (1 + if b1 < 0 then -b1 else b1) = B1 at r1
  generalize hvb2 : (1 + if b2 < 0 then -b2 else b2) = B2 at r2
  have hcn := cat_na
  refine z2 _ (fun q L z t q1 q2 q3 q4 q5 q6 => ?_) (fun q => ?_)
  · have e : ((Int.gcd a b : Nat) : Int) = 1 ↔ Int.gcd a b = 1 := by omega
    have q6' : dRepr (.tuple [L, .bool (decide (0 < b) && decide (Int.gcd a b = 1))]) = some (.str z) := by rw [← q4]; exact q6
    by_cases qb : 0 < b
    · simp only [qb, decide_true, Bool.true_and] at q6'
      simp [c__law_ratios_fit, mfunS, m__law_ratios_fit, toS, stD, n1', n2, n3, n4, n5, n6, hvb1, hvb2, r1, r2, s1, s2, s3, s4, s5, s6, s7, s8', rp1, first, q, q1, q2, q3, q5, q6, q6', e, qb, lz, hcn, noX, h__law_ratios_fit_1, isx, is0', isn', x1, x2, rp3, ioAt]
    · simp only [qb, decide_false, Bool.false_and] at q6'
      simp [c__law_ratios_fit, mfunS, m__law_ratios_fit, toS, stD, n1', n2, n3, n4, n5, n6, hvb1, hvb2, r1, r2, s1, s2, s3, s4, s5, s6, s7, s8', rp1, first, q, q1, q2, q3, q5, q6, q6', e, qb, lz, hcn, noX, h__law_ratios_fit_1, isx, is0', isn', x1, x2, rp3, ioAt]
  · subst q
    simp [c__law_ratios_fit, mfunS, m__law_ratios_fit, toS, stD, n1', n2, n3, n4, n5, n6, hvb1, hvb2, r1, r2, s1, s2, s3, s4, s5, s6, s7, s8', rp1, first, lz, hcn, noX, h__law_ratios_fit_1, isx, is0', isn', x1, x2, rp3, ioAt]
end K84

namespace K84
open PySem DV L2
/-! ### the law -/
theorem tm_many {n m k : Nat} {ds : List DV.D} (h : ∀ d ∈ ds, Tm n m d) (hk : ds.length ≤ k) : Tm (n + 1) (k * (m + 2) + 3) (.tuple ds) :=
  (tm_tup h).mono (Nat.le_refl _) (Nat.add_le_add_right (Nat.mul_le_mul_right _ hk) _)
theorem tm_small {many : Nat} {l : Lot} (hl : GL many l) (hm : many ≤ 8) : ∀ e ∈ l, Tm 0 62 (PyData.int e.1) := fun e he => by
  have := hl.rng e he
  exact tm_int (Nat.lt_of_lt_of_le (show e.1.natAbs < 2 ^ 3 by omega) (by decide))
theorem tm_lot {many : Nat} {l : Lot} (hl : GL many l) (hm : many ≤ 8) : Tm 3 2171 (lD l) := by
  have hs := tm_small hl hm
  have hlen := hl.len.2
  obtain ⟨W, S, G⟩ := hl
  refine tm_many (n := 2) (m := 269) (k := 8) (fun d hd => ?_) (by rw [List.length_map]; exact hlen)
  obtain ⟨e, he, rfl⟩ := List.mem_map.mp hd
  have hm := G.mem he
  have := goodR_iff.mp hm.2.1
  have b1 : e.2.1.natAbs < 2 ^ 60 := Nat.lt_of_lt_of_le (show e.2.1.natAbs < 2 ^ 6 by omega) (by decide)
  have b2 : e.2.2.natAbs < 2 ^ 60 := Nat.lt_of_lt_of_le (show e.2.2.natAbs < 2 ^ 6 by omega) (by decide)
  exact tm_two (m := 131) ((hs e he).mono (by omega) (by omega)) (tm_two (tm_int b1) (tm_int b2))
theorem tm_sys {facts : List Str} {g : Gm} (hf : FactsOk facts) (h3 : facts.length ≤ 3) (h : GoodG facts g) : Tm 6 208746 (gD g) ∧ Tm 3 49290 (sysD g) := by
  have hfew := h.few.2
  have hopl : g.op.length ≤ 8 := by rw [h.opl]; exact hfew
  have sc : Tm 2 4099 (scD g.sc) := tm_many (n := 1) (m := 510) (k := 8) (fun d hd => by
    obtain ⟨s, hs, rfl⟩ := List.mem_map.mp hd
    exact tm_sc (fine_sub hf h3 (h.sc s hs))) (by rw [List.length_map]; exact hfew)
  have st := tm_lot h.st hfew
  constructor
  · have op : Tm 5 69579 (opD g.op) := tm_many (n := 4) (m := 8695) (k := 8) (fun d hd => by
      obtain ⟨row, hr, rfl⟩ := List.mem_map.mp hd
      obtain ⟨⟨_, h4⟩, hl⟩ := h.op row hr
      exact tm_many (n := 3) (m := 2171) (k := 4) (fun d hd => by
        obtain ⟨l, hl', rfl⟩ := List.mem_map.mp hd
        exact tm_lot (hl l hl') hfew) (by rw [List.length_map]; exact h4)) (by rw [List.length_map]; exact hopl)
    exact tm_three (sc.mono (by omega) (by omega)) (st.mono (by omega) (by omega)) op
  · have st2 : Tm 1 515 (.tuple (g.st.map fun e => .int e.1)) := tm_many (n := 0) (m := 62) (k := 8) (fun d hd => by
      obtain ⟨e, he, rfl⟩ := List.mem_map.mp hd
      exact tm_small h.st hfew e he) (by rw [List.length_map]; exact h.st.len.2)
    have mv : Tm 2 16427 (.tuple (g.op.map movD)) := tm_many (n := 1) (m := 2051) (k := 8) (fun d hd => by
      obtain ⟨row, hr, rfl⟩ := List.mem_map.mp hd
      obtain ⟨⟨_, h4⟩, hl⟩ := h.op row hr
      refine tm_many (n := 0) (m := 62) (k := 32) (fun d hd => ?_) ?_
      · obtain ⟨i, hi, rfl⟩ := List.mem_map.mp hd
        rw [ascI_mem] at hi
        unfold rowS at hi
        obtain ⟨l, hl', hi⟩ := List.mem_flatMap.mp hi
        obtain ⟨e, he, rfl⟩ := List.mem_map.mp hi
        exact tm_small (hl l hl') hfew e he
      · rw [List.length_map]
        have h1 := ascI_len (rowS row)
        have h2 := rowS_len (row := row) (n := 8) fun l hl' => (hl l hl').len.2
        have : row.length * 8 ≤ 4 * 8 := Nat.mul_le_mul_right _ h4
        omega) (by rw [List.length_map]; exact hopl)
    exact tm_three (sc.mono (by omega) (by omega)) (st2.mono (by omega) (by omega)) mv
theorem is_plain_spec {facts : List Str} {g : Gm} (h : GoodG facts g) : ∃ t : Bool, c_is_plain [gD g] = .ok (.bool t) ∧ ∃ (m : Int), dMax (.list ((g.op.map fun row => (row.length : Int)).map .int)) = some (.int m) ∧ decide (m = 1) = t := by
  have hfew := h.few
  have hopl := h.opl
  obtain ⟨m, hm, hm1⟩ := max_one (xs := g.op.map fun row => (row.length : Int)) (fun x hx => by
    obtain ⟨row, hr, rfl⟩ := List.mem_map.mp hx
    have := (h.op row hr).1.1
    omega) (by
    intro q
    have := congrArg List.length q
    simp at this
    rw [this] at hopl
    simp at hopl
    omega)
  refine ⟨decide (m = 1), ?_, m, hm, rfl⟩
  have hc : mLcL [1] (gN 1) mTrue e_is_plain_1 (g.op.map rowD) [.dat (gD g), .un] = .ok ((g.op.map fun row => decide ((row.length : Int) = 1)).map .bool) [.dat (gD g), .un] := by
    rw [List.map_map]
    refine lcA_map0 fun row hr => ⟨_, rfl, ?_, rfl⟩
    obtain ⟨X, hX⟩ : ∃ X, X = row.map lD := ⟨_, rfl⟩
    have hXl : X.length = row.length := by rw [hX, List.length_map]
    show e_is_plain_1 [_, .dat (.tuple (row.map lD))] = .ok _ [_, .dat (.tuple (row.map lD))]
    rw [← hX]
    simp [e_is_plain_1, hXl]
  have hall : ((g.op.map fun row => decide ((row.length : Int) = 1)).all id) = decide (m = 1) := by
    rw [Bool.eq_iff_iff, List.all_map, List.all_eq_true, decide_eq_true_eq, hm1]
    constructor
    · intro q x hx
      obtain ⟨row, hr, rfl⟩ := List.mem_map.mp hx
      simpa using q row hr
    · intro q row hr
      simpa using q _ (List.mem_map.mpr ⟨row, hr, rfl⟩)
  have hd := dAll_bools (g.op.map fun row => decide ((row.length : Int) = 1))
  rw [hall] at hd
  have hl : ((g.op.map fun row => decide ((row.length : Int) = 1)).map PyData.bool).length ≤ 1000000 := by simp; omega
  generalize (g.op.map fun row => decide ((row.length : Int) = 1)).map PyData.bool = L at hc hd hl
  obtain ⟨S, hS⟩ : ∃ S, S = scD g.sc := ⟨_, rfl⟩
  obtain ⟨T, hT⟩ : ∃ T, T = lD g.st := ⟨_, rfl⟩
  obtain ⟨O, hO⟩ : ∃ O, O = g.op.map rowD := ⟨_, rfl⟩
  show c_is_plain [.tuple [scD g.sc, lD g.st, .tuple (g.op.map rowD)]] = _
  have hc' : mLcL [1] (gN 1) mTrue e_is_plain_1 (g.op.map rowD) [.dat (.tuple [scD g.sc, lD g.st, .tuple (g.op.map rowD)]), .un] = .ok L [.dat (.tuple [scD g.sc, lD g.st, .tuple (g.op.map rowD)]), .un] := hc
  rw [← hS, ← hT, ← hO] at hc' ⊢
  simp [c_is_plain, mfunP, m_is_plain, toS, mLc, hc', hd, hl, unS, keepS]
theorem max_lc {g : Gm} (s : Sl) (s0 s1 s2 s3 s4 s5 s6 : SV) : mLcL [7] (gN 7) mTrue e_law_1 (g.op.map rowD) [s0, s1, s2, s3, s4, s5, s6, .un] = .ok ((g.op.map fun row => (row.length : Int)).map .int) [s0, s1, s2, s3, s4, s5, s6, .un] := by
  rw [List.map_map]
  refine lcA_map0 fun row hr => ⟨_, rfl, ?_, rfl⟩
  obtain ⟨X, hX⟩ : ∃ X, X = row.map lD := ⟨_, rfl⟩
  have hXl : X.length = row.length := by rw [hX, List.length_map]
  show e_law_1 [_, _, _, _, _, _, _, .dat (.tuple (row.map lD))] = .ok _ [_, _, _, _, _, _, _, .dat (.tuple (row.map lD))]
  rw [← hX]
  simp [e_law_1, hXl]
theorem bad_loop {facts : List Str} (hf : FactsOk facts) (s0 s1 s3 s4 s6 s7 : SV) : ∀ (gs : List Gm) (a : SV), (∀ x ∈ gs, okG facts x = false ∧ GmFine x) → ∃ a', mForL (gN 5) b_law_1 (gs.map gD) [s0, s1, .dat (sD facts), s3, s4, a, s6, s7] = .nx [s0, s1, .dat (sD facts), s3, s4, a', s6, s7]
  | [], a, _ => ⟨a, rfl⟩
  | x :: gs, a, h => by
    obtain ⟨h1, h2⟩ := h x List.mem_cons_self
    obtain ⟨a', ih⟩ := bad_loop hf s0 s1 s3 s4 s6 s7 gs (.dat (gD x)) fun y hy => h y (List.mem_cons_of_mem _ hy)
    have hc := checked_spec hf h2
    rw [h1] at hc
    refine ⟨a', ?_⟩
    rw [List.map_cons, forL_nx (s1 := [s0, s1, .dat (sD facts), s3, s4, .dat (gD x), s6, s7]) (s2 := [s0, s1, .dat (sD facts), s3, s4, .dat (gD x), s6, s7]) rfl ?_]
    · exact ih
    · generalize gD x = G at hc ⊢
      generalize sD facts = F at hc ⊢
      simp [b_law_1, toS, hc]
def thinG : Gm := ⟨[[], []], [(0, (1, 1000)), (1, (999, 1000))], [[[(1, (1, 1))], [(1, (1, 1))], [(1, (1, 1))], [(1, (1, 1))]], [[(0, (1, 1))]]]⟩
theorem thin_ok (facts : List Str) : okG facts thinG = true ∧ GmFine thinG := by
  have hs : subB facts [] = true := by
    unfold subB
    exact decide_eq_true ((mem_scenes' facts []).mpr (List.nil_sublist _))
  have l1 : okLot 2 [(1, (1, 1))] = true := by decide +kernel
  have l0 : okLot 2 [(0, (1, 1))] = true := by decide +kernel
  have l2 : okLot 2 [(0, (1, 1000)), (1, (999, 1000))] = true := by decide +kernel
  constructor
  · rw [okG_iff]
    refine ⟨by decide, by decide, fun s hs' => ?_, l2, fun row hr => ?_⟩
    · simp [thinG] at hs'
      subst hs'
      exact hs
    · simp [thinG] at hr
      rcases hr with rfl | rfl
      · refine ⟨by decide, fun l hl => ?_⟩
        simp at hl
        subst hl
        exact l1
      · refine ⟨by decide, fun l hl => ?_⟩
        simp at hl
        subst hl
        exact l0
  · have f1 : ∀ x : Int, LotFine [(x, (1, 1))] := fun x => ⟨by simp, fun e he => by
      rw [List.mem_singleton] at he
      subst he
      exact ⟨(by decide : (1 : Int).natAbs < 2 ^ 60), (by decide : (1 : Int).natAbs < 2 ^ 60)⟩⟩
    refine ⟨fun s hs' => ?_, by decide, ⟨by decide, fun e he => ?_⟩, fun row hr l hl => ?_⟩
    · simp [thinG] at hs'
      subst hs'
      exact ⟨fun x hx => (by cases hx), by decide⟩
    · simp [thinG] at he
      rcases he with rfl | rfl
      · exact ⟨(by decide : (1 : Int).natAbs < 2 ^ 60), (by decide : (1000 : Int).natAbs < 2 ^ 60)⟩
      · exact ⟨(by decide : (999 : Int).natAbs < 2 ^ 60), (by decide : (1000 : Int).natAbs < 2 ^ 60)⟩
    · simp [thinG] at hr
      rcases hr with rfl | rfl
      · simp at hl
        subst hl
        exact f1 1
      · simp at hl
        subst hl
        exact f1 0
theorem plain : Plain := by
  intro script hlen _
  obtain ⟨ns, h, hs⟩ := stream_spec script hlen
  obtain ⟨n, hn, hn1⟩ := next_spec h 0 (by omega) 3 (by omega)
  have hn' : c__law_next [.list (ns.map .int), .int 0] [.int 3] = .ok (.int n) (stD ns 1) := hn1
  obtain ⟨c2, facts, a1, a2, a3, hf, a4⟩ := facts_spec h 1 (by omega) (1 + n) (by omega)
  have e1 : (((1 + n : Nat)) : Int) = 1 + (n : Int) := by omega
  rw [e1] at a3
  have h3 : facts.length ≤ 3 := by omega
  obtain ⟨c3, g, b1, b2, hg, b3⟩ := gamble_spec h (facts := facts) (by omega) c2 (by omega)
  obtain ⟨gs, d1, d2⟩ := bad_gambles_spec h hf h3 hg c3 (by omega)
  obtain ⟨c5, f1⟩ := fit_spec h (c3 + 8) (by omega)
  have hfine := hg.fine hf h3
  have ck := checked_spec hf hfine
  rw [hg.ok] at ck
  obtain ⟨tg, ts⟩ := tm_sys hf h3 hg
  have rg := dRepr_tm tg (by omega) (by omega)
  have rs := dRepr_tm ts (by omega) (by omega)
  obtain ⟨y1, y2⟩ := system_of_spec hg
  obtain ⟨t, p1, m, p2, p3⟩ := is_plain_spec hg
  have rb := dRepr_tm (tm_bool t) (by omega) (by omega)
  obtain ⟨th1, th2⟩ := thin_ok facts
  have ckt := checked_spec hf th2
  rw [th1] at ckt
  have hml : ((g.op.map fun row => (row.length : Int)).map PyData.int).length ≤ 1000000 := by
    have := hg.few
    have := hg.opl
    simp
    omega
  have mlc := fun s0 s1 s2 s3 s4 s5 s6 => max_lc (g := g) [] s0 s1 s2 s3 s4 s5 s6
  have lp := fun s0 s1 s3 s4 s6 s7 a => bad_loop hf s0 s1 s3 s4 s6 s7 gs a d1
  generalize (g.op.map fun row => (row.length : Int)).map PyData.int = ML at p2 hml mlc
  generalize gs.map gD = GS at d2 lp
  have ix : dIx (gD g) (.int 2) = some (.tuple (g.op.map rowD)) := rfl
  generalize g.op.map rowD = O at ix mlc
  generalize script.map PyData.int = SC at hs ⊢
  have mt : dMul (.tuple [.tuple [.tuple [.int 1, .tuple [.int 1, .int 1]]]]) (.int 4) = some (.tuple [.tuple [.tuple [.int 1, .tuple [.int 1, .int 1]]], .tuple [.tuple [.int 1, .tuple [.int 1, .int 1]]], .tuple [.tuple [.int 1, .tuple [.int 1, .int 1]]], .tuple [.tuple [.int 1, .tuple [.int 1, .int 1]]]]) := by rfl
  have ckt' : c__law_checked [sD facts, .tuple [.tuple [.tuple [], .tuple []], .tuple [.tuple [.int 0, .tuple [.int 1, .int 1000]], .tuple [.int 1, .tuple [.int 999, .int 1000]]],
      .tuple [.tuple [.tuple [.tuple [.int 1, .tuple [.int 1, .int 1]]], .tuple [.tuple [.int 1, .tuple [.int 1, .int 1]]], .tuple [.tuple [.int 1, .tuple [.int 1, .int 1]]], .tuple [.tuple [.int 1, .tuple [.int 1, .int 1]]]], .tuple [.tuple [.tuple [.int 0, .tuple [.int 1, .int 1]]]]]]] = .ok (.bool true) := ckt
  have nt : dNe (.tuple [c_MAX_PART, c_MAX_OPTIONS]) (.tuple [.int 1000, .int 4]) = some (.bool false) := by
    rw [dNe_sh (by decide +kernel) (by decide +kernel)]
    simp [PyData.eqv, PyData.eqvAll, c_MAX_PART, c_MAX_OPTIONS]
  generalize gD g = G at *
  generalize sysD g = SY at *
  generalize PyData.shown G = zg at *
  generalize PyData.shown SY = zs at *
  generalize PyData.shown (.bool t) = zb at *
  change c__law_facts _ _ = .ok (sD facts) _ at a3
  generalize sD facts = F at *
  generalize stD ns 1 = S1 at hn' a3
  generalize stD ns c2 = S2 at a3 b3
  generalize stD ns c3 = S3 at b3 d2
  generalize stD ns (c3 + 8) = S4 at d2 f1
  generalize stD ns c5 = S5 at f1
  obtain ⟨a', lp'⟩ := lp (.dat (.list SC)) (.own S4) (.dat G) (.dat (.str zg)) .un .un .un
  simp [c_law, mfunP, m_law, toS, hs, hn', a3, b3, rg, ck, y1, y2, rs, p1, rb, ix, mLc, mlc, p2, p3, hml, nt, d2, lp', mt, ckt', f1, unS, keepS]
end K84

open PySem PySem.W PyProof.Rows in
set_option maxRecDepth 100000 in
set_option maxHeartbeats 0 in
theorem PySem.Challenge.cw_spansay_k84_gambles_checked_holds : PySem.Challenge.rw_spansay_k84_gambles_checked.Holds := by
  w_on; o_law; k_head; (case hw => w_witness2)
  k_fill
  refine DV.walk_G (l := PySem.Challenge.rw_spansay_k84_gambles_checked) (n := 63) (x := "script") rfl (by decide) rfl (fun w h Y => PySem.W.kIn_of Y) ?F
  case F =>
    intro w mg fa h KX G hmg
    refine' K84.all_mk K84.plain KX G hmg ?z_abs ?z_all ?z_int ?z_isinstance ?z_len ?z_max ?z_range ?z_repr ?z_set ?z_sorted ?z_sum ?z_tuple ?v_MAX_OPTIONS ?v_MAX_PART ?v_MAX_STATES ?v_NOTHING ?vl_NOTHING ?v_WHOLE ?vl_WHOLE ?m_SpanError ?p_SpanError ?s_SpanError ?y_SpanError ?h_SpanError ?m_NotAllowed ?p_NotAllowed ?e_NotAllowed ?s_NotAllowed ?y_NotAllowed ?h_NotAllowed ?m_TooLarge ?p_TooLarge ?s_TooLarge ?y_TooLarge ?h_TooLarge ?m_Missing ?p_Missing ?s_Missing ?y_Missing ?h_Missing ?m_BadPaper ?p_BadPaper ?s_BadPaper ?y_BadPaper ?h_BadPaper ?hn0 ?ht0 ?xg_NotAllowed ?xk_NotAllowed ?xa_NotAllowed ?xm_NotAllowed ?w_NotAllowed_BadPaper ?w_NotAllowed_Missing ?w_NotAllowed_SpanError ?w_NotAllowed_TooLarge ?u_SpanError_NotAllowed ?u_NotAllowed_NotAllowed ?u_TooLarge_NotAllowed ?u_Missing_NotAllowed ?u_BadPaper_NotAllowed ?g_common ?l_common ?cc_common ?k_common ?g_lowest ?l_lowest ?cc_lowest ?k_lowest ?g_is_ratio ?l_is_ratio ?cc_is_ratio ?k_is_ratio ?g_plus ?l_plus ?cc_plus ?k_plus ?g_times ?l_times ?cc_times ?k_times ?g_compare ?l_compare ?cc_compare ?k_compare ?g_total ?l_total ?cc_total ?k_total ?g_is_scene ?l_is_scene ?cc_is_scene ?k_is_scene ?g_check_lot ?l_check_lot ?cc_check_lot ?k_check_lot ?g_check_gamble ?l_check_gamble ?cc_check_gamble ?k_check_gamble ?g_is_plain ?l_is_plain ?cc_is_plain ?k_is_plain ?g_system_of ?l_system_of ?cc_system_of ?k_system_of ?g__law_stream ?l__law_stream ?cc__law_stream ?k__law_stream ?g__law_next ?l__law_next ?cc__law_next ?k__law_next ?g__law_word ?l__law_word ?cc__law_word ?k__law_word ?g__law_facts ?l__law_facts ?cc__law_facts ?k__law_facts ?g__law_scene ?l__law_scene ?cc__law_scene ?k__law_scene ?g__law_gcd ?l__law_gcd ?cc__law_gcd ?k__law_gcd ?g__law_ratio ?l__law_ratio ?cc__law_ratio ?k__law_ratio ?g__law_sum ?l__law_sum ?cc__law_sum ?k__law_sum ?g__law_times ?l__law_times ?cc__law_times ?k__law_times ?g__law_less ?l__law_less ?cc__law_less ?k__law_less ?g__law_lot ?l__law_lot ?cc__law_lot ?k__law_lot ?g__law_gamble ?l__law_gamble ?cc__law_gamble ?k__law_gamble ?g__law_checked ?l__law_checked ?cc__law_checked ?k__law_checked ?g__law_bad_lots ?l__law_bad_lots ?cc__law_bad_lots ?k__law_bad_lots ?g__law_bad_gambles ?l__law_bad_gambles ?cc__law_bad_gambles ?k__law_bad_gambles ?g__law_system_due ?l__law_system_due ?cc__law_system_due ?k__law_system_due ?g__law_number ?l__law_number ?cc__law_number ?k__law_number ?g__law_ratios_fit ?l__law_ratios_fit ?cc__law_ratios_fit ?k__law_ratios_fit ?g_law ?l_law ?cc_law ?k_law
    (case z_abs => k_is)
    (case z_all => k_is)
    (case z_int => k_is)
    (case z_isinstance => k_is)
    (case z_len => k_is)
    (case z_max => k_is)
    (case z_range => k_is)
    (case z_repr => k_is)
    (case z_set => k_is)
    (case z_sorted => k_is)
    (case z_sum => k_is)
    (case z_tuple => k_is)
    (case v_MAX_OPTIONS => k_is)
    (case v_MAX_PART => k_is)
    (case v_MAX_STATES => k_is)
    (case v_NOTHING => k_is)
    (case vl_NOTHING => k_is)
    (case v_WHOLE => k_is)
    (case vl_WHOLE => k_is)
    (case m_SpanError => k_is)
    (case p_SpanError => k_is)
    (case s_SpanError => k_is)
    (case y_SpanError => k_is)
    (case h_SpanError => k_is)
    (case m_NotAllowed => k_is)
    (case p_NotAllowed => k_is)
    (case e_NotAllowed => first | k_is | k_exc)
    (case s_NotAllowed => k_is)
    (case y_NotAllowed => k_is)
    (case h_NotAllowed => k_is)
    (case m_TooLarge => k_is)
    (case p_TooLarge => k_is)
    (case s_TooLarge => k_is)
    (case y_TooLarge => k_is)
    (case h_TooLarge => k_is)
    (case m_Missing => k_is)
    (case p_Missing => k_is)
    (case s_Missing => k_is)
    (case y_Missing => k_is)
    (case h_Missing => k_is)
    (case m_BadPaper => k_is)
    (case p_BadPaper => k_is)
    (case s_BadPaper => k_is)
    (case y_BadPaper => k_is)
    (case h_BadPaper => k_is)
    (case hn0 => k_is)
    (case ht0 => k_is)
    (case xg_NotAllowed => k_is)
    (case xk_NotAllowed => k_is)
    (case xa_NotAllowed => k_is)
    (case xm_NotAllowed => k_is)
    (case w_NotAllowed_BadPaper => k_is)
    (case w_NotAllowed_Missing => k_is)
    (case w_NotAllowed_SpanError => k_is)
    (case w_NotAllowed_TooLarge => k_is)
    (case u_SpanError_NotAllowed => k_is)
    (case u_NotAllowed_NotAllowed => k_is)
    (case u_TooLarge_NotAllowed => k_is)
    (case u_Missing_NotAllowed => k_is)
    (case u_BadPaper_NotAllowed => k_is)
    (case g_common => k_is)
    (case l_common => k_is)
    (case cc_common => k_is)
    (case k_common => k_is)
    (case g_lowest => k_is)
    (case l_lowest => k_is)
    (case cc_lowest => k_is)
    (case k_lowest => k_is)
    (case g_is_ratio => k_is)
    (case l_is_ratio => k_is)
    (case cc_is_ratio => k_is)
    (case k_is_ratio => k_is)
    (case g_plus => k_is)
    (case l_plus => k_is)
    (case cc_plus => k_is)
    (case k_plus => k_is)
    (case g_times => k_is)
    (case l_times => k_is)
    (case cc_times => k_is)
    (case k_times => k_is)
    (case g_compare => k_is)
    (case l_compare => k_is)
    (case cc_compare => k_is)
    (case k_compare => k_is)
    (case g_total => k_is)
    (case l_total => k_is)
    (case cc_total => k_is)
    (case k_total => k_is)
    (case g_is_scene => k_is)
    (case l_is_scene => k_is)
    (case cc_is_scene => k_is)
    (case k_is_scene => k_is)
    (case g_check_lot => k_is)
    (case l_check_lot => k_is)
    (case cc_check_lot => k_is)
    (case k_check_lot => k_is)
    (case g_check_gamble => k_is)
    (case l_check_gamble => k_is)
    (case cc_check_gamble => k_is)
    (case k_check_gamble => k_is)
    (case g_is_plain => k_is)
    (case l_is_plain => k_is)
    (case cc_is_plain => k_is)
    (case k_is_plain => k_is)
    (case g_system_of => k_is)
    (case l_system_of => k_is)
    (case cc_system_of => k_is)
    (case k_system_of => k_is)
    (case g__law_stream => k_is)
    (case l__law_stream => k_is)
    (case cc__law_stream => k_is)
    (case k__law_stream => k_is)
    (case g__law_next => k_is)
    (case l__law_next => k_is)
    (case cc__law_next => k_is)
    (case k__law_next => k_is)
    (case g__law_word => k_is)
    (case l__law_word => k_is)
    (case cc__law_word => k_is)
    (case k__law_word => k_is)
    (case g__law_facts => k_is)
    (case l__law_facts => k_is)
    (case cc__law_facts => k_is)
    (case k__law_facts => k_is)
    (case g__law_scene => k_is)
    (case l__law_scene => k_is)
    (case cc__law_scene => k_is)
    (case k__law_scene => k_is)
    (case g__law_gcd => k_is)
    (case l__law_gcd => k_is)
    (case cc__law_gcd => k_is)
    (case k__law_gcd => k_is)
    (case g__law_ratio => k_is)
    (case l__law_ratio => k_is)
    (case cc__law_ratio => k_is)
    (case k__law_ratio => k_is)
    (case g__law_sum => k_is)
    (case l__law_sum => k_is)
    (case cc__law_sum => k_is)
    (case k__law_sum => k_is)
    (case g__law_times => k_is)
    (case l__law_times => k_is)
    (case cc__law_times => k_is)
    (case k__law_times => k_is)
    (case g__law_less => k_is)
    (case l__law_less => k_is)
    (case cc__law_less => k_is)
    (case k__law_less => k_is)
    (case g__law_lot => k_is)
    (case l__law_lot => k_is)
    (case cc__law_lot => k_is)
    (case k__law_lot => k_is)
    (case g__law_gamble => k_is)
    (case l__law_gamble => k_is)
    (case cc__law_gamble => k_is)
    (case k__law_gamble => k_is)
    (case g__law_checked => k_is)
    (case l__law_checked => k_is)
    (case cc__law_checked => k_is)
    (case k__law_checked => k_is)
    (case g__law_bad_lots => k_is)
    (case l__law_bad_lots => k_is)
    (case cc__law_bad_lots => k_is)
    (case k__law_bad_lots => k_is)
    (case g__law_bad_gambles => k_is)
    (case l__law_bad_gambles => k_is)
    (case cc__law_bad_gambles => k_is)
    (case k__law_bad_gambles => k_is)
    (case g__law_system_due => k_is)
    (case l__law_system_due => k_is)
    (case cc__law_system_due => k_is)
    (case k__law_system_due => k_is)
    (case g__law_number => k_is)
    (case l__law_number => k_is)
    (case cc__law_number => k_is)
    (case k__law_number => k_is)
    (case g__law_ratios_fit => k_is)
    (case l__law_ratios_fit => k_is)
    (case cc__law_ratios_fit => k_is)
    (case k__law_ratios_fit => k_is)
    (case g_law => k_is)
    (case l_law => k_is)
    (case cc_law => k_is)
    (case k_law => k_is)
