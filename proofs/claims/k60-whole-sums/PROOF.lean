import PyProof.Rows.All
import Wide.All
import OpenK.AllK
import Wide.FinOn
import PyProof.EqAt
import PyProof.EqKinds
import PyProof.TupleCall
import HandS.ForMost
import HandS.TupAny
import HandS.TupMul
import HandS.Gcd
import HandS.Wide
import HandS.IsInst
import HandS.Style
import KE.GoesEnum
import HandS.RevRange
import HandS.Walk
import HandS.Defaults
import HandS.WordsExc
import HandS.TryMany
import HandS.ExcField
import PySem.Challenge.RW_heirlines_k60_whole_sums_line_by_line
import KE.SortData
import PyProof.ReprRoads
import HandS.RaiseMore
import PyProof.ReprLen
import HandS.ExcOwn
import KE.KExcSuper
import HandS.ExcSuper
import HandS.Head0
import HandS.Head1
import HandS.Head2
import HandS.Head3
import HandS.HeadEnd
import HandS.HeadHook1
import HandS.HeadHook2
set_option Elab.async false
set_option linter.all false
set_option maxRecDepth 100000
set_option maxHeartbeats 4000000
/-! Layer A: data and cells over the hand layer. Data never changes (PyData, read by Dp in a part G of the heap); cells are the lists and dicts that still change. -/
namespace AB
open PySem PySem.Spec PyProof.Rows L2

/-- a value: data, or a cell's address -/
inductive AV where
  | d (x : PyData)
  | r (a : Addr)
/-- what stands in a cell: a list, a dict, a dict while it is walked -/
inductive Cell where
  | l (xs : List AV)
  | k (kvs : List (Key × AV))
  | f (o : Obj) (vs : List (Key × V)) (kvs : List (Key × AV))
abbrev Cs := Addr → Option Cell
def cup (C : Cs) (a : Addr) (c : Cell) : Cs := fun b => if b = a then some c else C b
def cdel (C : Cs) (a : Addr) : Cs := fun b => if b = a then none else C b
theorem cup_same {C : Cs} {a : Addr} {c : Cell} : cup C a c a = some c := if_pos rfl
theorem cup_ne {C : Cs} {a b : Addr} {c : Cell} (h : b ≠ a) : cup C a c b = C b := if_neg h
theorem cdel_same {C : Cs} {a : Addr} : cdel C a a = none := if_pos rfl
theorem cdel_ne {C : Cs} {a b : Addr} (h : b ≠ a) : cdel C a b = C b := if_neg h
theorem cup_cup {C : Cs} {a : Addr} {c c' : Cell} : cup (cup C a c) a c' = cup C a c' := by
  funext b
  by_cases h : b = a
  · rw [h, cup_same, cup_same]
  · rw [cup_ne h, cup_ne h, cup_ne h]
theorem cdel_cup {C : Cs} {a : Addr} {c : Cell} (h : C a = none) : cdel (cup C a c) a = C := by
  funext b
  by_cases e : b = a
  · rw [e, cdel_same, h]
  · rw [cdel_ne e, cup_ne e]
theorem cne {C : Cs} {a b : Addr} {c : Cell} (h : C a = some c) (h' : C b = none) : a ≠ b := fun e => by
  rw [e, h'] at h
  cases h

mutual
theorem dp_mono {K : PySem.W.Frag} {G G' : Hp} (e : Same G G') : ∀ (x : PyData) (v : V), Dp K G v x → Dp K G' v x
  | .none, _, h => by
    cases h
    exact .non
  | .bool _, _, h => by
    cases h
    exact .bl _
  | .int _, _, h => by
    cases h
    exact .int _
  | .str _, _, h => by
    cases h
    exact .str _
  | .list xs, _, h => by
    cases h with
    | lst s hs => exact .lst (e.seq s) (dps_mono e xs _ hs)
  | .tuple xs, _, h => by
    cases h with
    | tup s hs =>
      refine .tup ?_ (dps_mono e xs _ hs)
      rcases s with (s | ⟨o, s⟩) | s
      · exact .inl (.inl (e _ _ s))
      · exact .inl (.inr ⟨o, e _ _ s⟩)
      · exact .inr s
  | .dict _, _, h => nomatch h
theorem dps_mono {K : PySem.W.Frag} {G G' : Hp} (e : Same G G') : ∀ (xs : List PyData) (vs : List V), DpAll K G vs xs → DpAll K G' vs xs
  | [], _, h => by
    cases h
    exact .nil
  | x :: xs, _, h => by
    cases h with
    | cons h1 h2 => exact .cons (dp_mono e x _ h1) (dps_mono e xs _ h2)
end

def Rv (K : PySem.W.Frag) (G : Hp) (v : V) : AV → Prop
  | .d x => Dp K G v x
  | .r a => v = .ref a
abbrev Rvs (K : PySem.W.Frag) (G : Hp) : List V → List AV → Prop := Paired (Rv K G)
abbrev Rkv (K : PySem.W.Frag) (G : Hp) : List (Key × V) → List (Key × AV) → Prop := Paired fun p q => p.1 = q.1 ∧ Rv K G p.2 q.2
theorem Rv.mono {K : PySem.W.Frag} {G G' : Hp} {v : V} {x : AV} (e : Same G G') (h : Rv K G v x) : Rv K G' v x := by
  cases x with
  | d x => exact dp_mono e x v h
  | r a => exact h
theorem Rvs.mono {K : PySem.W.Frag} {G G' : Hp} {vs : List V} {xs : List AV} (e : Same G G') (h : Rvs K G vs xs) : Rvs K G' vs xs := Paired.mapP h fun _ _ q => q.mono e
theorem Rkv.mono {K : PySem.W.Frag} {G G' : Hp} {vs : List (Key × V)} {xs : List (Key × AV)} (e : Same G G') (h : Rkv K G vs xs) : Rkv K G' vs xs := Paired.mapP h fun _ _ q => ⟨q.1, q.2.mono e⟩
theorem Rvs.of_dps {K : PySem.W.Frag} {G : Hp} : ∀ {vs : List V} {xs : List PyData}, DpAll K G vs xs → Rvs K G vs (xs.map AV.d)
  | _, _, .nil => .nil
  | _, _, .cons h1 h2 => .cons h1 (Rvs.of_dps h2)
theorem Rvs.dps {K : PySem.W.Frag} {G : Hp} : ∀ {vs : List V} {xs : List PyData}, Rvs K G vs (xs.map AV.d) → DpAll K G vs xs
  | _, [], h => by
    cases h
    exact .nil
  | _, _ :: _, h => by
    cases h with
    | cons h1 h2 => exact .cons h1 (Rvs.dps h2)
theorem Rvs.length {K : PySem.W.Frag} {G : Hp} {vs : List V} {xs : List AV} (h : Rvs K G vs xs) : vs.length = xs.length := Paired.length h
theorem pget {α β : Type} {F : α → β → Prop} : ∀ {xs : List α} {ys : List β} {i : Nat} {y : β}, Paired F xs ys → ys[i]? = some y → ∃ x, xs[i]? = some x ∧ F x y
  | _, _, _, _, .nil, e => by simp at e
  | _, _, 0, _, .cons r _, e => by
    simp at e
    subst e
    exact ⟨_, rfl, r⟩
  | _, _, i + 1, y, .cons _ t, e => by
    obtain ⟨u, h1, h2⟩ := pget (i := i) (y := y) t (by simpa using e)
    exact ⟨u, by simpa using h1, h2⟩
theorem pset {α β : Type} {F : α → β → Prop} {x : α} {y : β} (r : F x y) : ∀ {xs : List α} {ys : List β} (i : Nat), Paired F xs ys → Paired F (xs.set i x) (ys.set i y)
  | _, _, _, .nil => .nil
  | _, _, 0, .cons _ t => .cons r t
  | _, _, i + 1, .cons q t => .cons q (pset r i t)
theorem papp {α β : Type} {F : α → β → Prop} : ∀ {xs : List α} {ys : List β} {us : List α} {ws : List β}, Paired F xs ys → Paired F us ws → Paired F (xs ++ us) (ys ++ ws)
  | _, _, _, _, .nil, s => s
  | _, _, _, _, .cons r t, s => .cons r (papp t s)
theorem ptake {α β : Type} {F : α → β → Prop} : ∀ {xs : List α} {ys : List β} (n : Nat), Paired F xs ys → Paired F (xs.take n) (ys.take n)
  | _, _, 0, _ => .nil
  | _, _, _ + 1, .nil => .nil
  | _, _, n + 1, .cons r t => .cons r (ptake n t)
theorem pdrop {α β : Type} {F : α → β → Prop} : ∀ {xs : List α} {ys : List β} (n : Nat), Paired F xs ys → Paired F (xs.drop n) (ys.drop n)
  | _, _, 0, r => r
  | _, _, _ + 1, .nil => .nil
  | _, _, n + 1, .cons _ t => pdrop n t

def COk (K : PySem.W.Frag) (G H : Hp) (a : Addr) : Cell → Prop
  | .l xs => ∃ vs, H a = some (.lst vs) ∧ Rvs K G vs xs
  | .k kvs => ∃ vs, H a = some (.dK vs) ∧ Rkv K G vs kvs
  | .f o vs kvs => H a = some (.frz o (.dK vs)) ∧ Rkv K G vs kvs
theorem COk.some {K : PySem.W.Frag} {G H : Hp} {a : Addr} {c : Cell} (h : COk K G H a c) : ∃ o, H a = some o := by
  cases c with
  | l xs => obtain ⟨_, h, _⟩ := h; exact ⟨_, h⟩
  | k xs => obtain ⟨_, h, _⟩ := h; exact ⟨_, h⟩
  | f o vs xs => obtain ⟨h, _⟩ := h; exact ⟨_, h⟩
theorem COk.mono {K : PySem.W.Frag} {G G' H H' : Hp} {a : Addr} {c : Cell} (e : Same G G') (eh : H' a = H a) (h : COk K G H a c) : COk K G' H' a c := by
  cases c with
  | l xs => obtain ⟨vs, h, r⟩ := h; exact ⟨vs, eh.trans h, r.mono e⟩
  | k xs => obtain ⟨vs, h, r⟩ := h; exact ⟨vs, eh.trans h, Rkv.mono e r⟩
  | f o vs xs => obtain ⟨h, r⟩ := h; exact ⟨eh.trans h, Rkv.mono e r⟩
structure Rel (K : PySem.W.Frag) (G : Hp) (C : Cs) (H : Hp) : Prop where
  ex : Same G H
  cell : ∀ a c, C a = some c → G a = none ∧ COk K G H a c
structure Stp (K : PySem.W.Frag) (G : Hp) (C : Cs) (H : Hp) (G' : Hp) (C' : Cs) (H' : Hp) : Prop where
  rel : Rel K G' C' H'
  ex : Same G G'
  keep : ∀ b o, H b = some o → G b = none → C b = none → H' b = some o ∧ G' b = none ∧ C' b = none
theorem Rel.none {K : PySem.W.Frag} {G H : Hp} {C : Cs} (R : Rel K G C H) {p : Addr} (h : H p = none) : G p = none ∧ C p = none := by
  refine ⟨Same.free R.ex h, ?_⟩
  cases e : C p with
  | none => rfl
  | some c =>
    obtain ⟨_, o⟩ := R.cell p c e
    obtain ⟨u, q⟩ := o.some
    rw [h] at q
    cases q
theorem Stp.refl {K : PySem.W.Frag} {G H : Hp} {C : Cs} (R : Rel K G C H) : Stp K G C H G C H := ⟨R, Same.refl _, fun _ _ h g c => ⟨h, g, c⟩⟩
theorem Stp.trans {K : PySem.W.Frag} {G G1 G2 H H1 H2 : Hp} {C C1 C2 : Cs} (a : Stp K G C H G1 C1 H1) (b : Stp K G1 C1 H1 G2 C2 H2) : Stp K G C H G2 C2 H2 :=
  ⟨b.rel, a.ex.trans b.ex, fun c o h g k => let ⟨h1, g1, k1⟩ := a.keep c o h g k; b.keep c o h1 g1 k1⟩
/-- a new object becomes data -/
theorem Stp.data {K : PySem.W.Frag} {G H : Hp} {C : Cs} (R : Rel K G C H) {p : Addr} {o : HO} (n : H p = Option.none) : Stp K G C H (upd G p o) C (upd H p o) := by
  obtain ⟨g, c⟩ := R.none n
  have e : Same G (upd G p o) := fun b u h => by
    rw [upd_ne (ne_of_none h g)]
    exact h
  refine ⟨⟨fun b u h => ?_, fun a c' h => ?_⟩, e, fun b u h g' c' => ?_⟩
  · by_cases hb : b = p
    · subst hb
      rw [upd_same] at h ⊢
      exact h
    · rw [upd_ne hb] at h ⊢
      exact R.ex b u h
  · have ha : a ≠ p := cne h c
    obtain ⟨h1, h2⟩ := R.cell a c' h
    rw [upd_ne ha]
    exact ⟨h1, h2.mono e (upd_ne ha)⟩
  · have hb : b ≠ p := ne_of_none h n
    rw [upd_ne hb, upd_ne hb]
    exact ⟨h, g', c'⟩
theorem dp_new {K : PySem.W.Frag} {G : Hp} {p : Addr} {vs : List V} {xs : List PyData} (n : G p = none) (h : DpAll K G vs xs) : Dp K (upd G p (.tup vs)) (.ref p) (.tuple xs) :=
  .tup (SqT.of upd_same) (dps_mono (fun b u q => by rw [upd_ne (ne_of_none q n)]; exact q) xs vs h)
theorem dp_newL {K : PySem.W.Frag} {G : Hp} {p : Addr} {vs : List V} {xs : List PyData} (n : G p = none) (h : DpAll K G vs xs) : Dp K (upd G p (.lst vs)) (.ref p) (.list xs) :=
  .lst (SqL.of upd_same) (dps_mono (fun b u q => by rw [upd_ne (ne_of_none q n)]; exact q) xs vs h)
/-- a new object becomes a cell -/
theorem Stp.cell {K : PySem.W.Frag} {G H : Hp} {C : Cs} (R : Rel K G C H) {p : Addr} {o : HO} {c : Cell} (n : H p = Option.none) (k : COk K G (upd H p o) p c) : Stp K G C H G (cup C p c) (upd H p o) := by
  obtain ⟨g, c0⟩ := R.none n
  refine ⟨⟨fun b u h => ?_, fun a c' h => ?_⟩, Same.refl _, fun b u h g' c' => ?_⟩
  · rw [upd_ne (ne_of_none (R.ex b u h) n)]
    exact R.ex b u h
  · by_cases ha : a = p
    · subst ha
      rw [cup_same] at h
      cases h
      exact ⟨g, k⟩
    · rw [cup_ne ha] at h
      obtain ⟨h1, h2⟩ := R.cell a c' h
      exact ⟨h1, h2.mono (Same.refl _) (upd_ne ha)⟩
  · have hb : b ≠ p := ne_of_none h n
    rw [upd_ne hb, cup_ne hb]
    exact ⟨h, g', c'⟩
/-- a cell changes -/
theorem Stp.put {K : PySem.W.Frag} {G H : Hp} {C : Cs} (R : Rel K G C H) {p : Addr} {o : HO} {c0 c : Cell} (n : C p = some c0) (k : COk K G (upd H p o) p c) : Stp K G C H G (cup C p c) (upd H p o) := by
  obtain ⟨g, _⟩ := R.cell p c0 n
  refine ⟨⟨fun b u h => ?_, fun a c' h => ?_⟩, Same.refl _, fun b u h g' c' => ?_⟩
  · rw [upd_ne (ne_of_none h g)]
    exact R.ex b u h
  · by_cases ha : a = p
    · subst ha
      rw [cup_same] at h
      cases h
      exact ⟨g, k⟩
    · rw [cup_ne ha] at h
      obtain ⟨h1, h2⟩ := R.cell a c' h
      exact ⟨h1, h2.mono (Same.refl _) (upd_ne ha)⟩
  · have hb : b ≠ p := fun e => by
      rw [e, n] at c'
      cases c'
    rw [upd_ne hb, cup_ne hb]
    exact ⟨h, g', c'⟩
/-- a list cell becomes data -/
theorem Stp.freeze {K : PySem.W.Frag} {G H : Hp} {C : Cs} (R : Rel K G C H) {p : Addr} {xs : List PyData} (n : C p = some (.l (xs.map AV.d))) :
    ∃ G', Stp K G C H G' (cdel C p) H ∧ Dp K G' (.ref p) (.list xs) := by
  obtain ⟨g, vs, e, r⟩ := R.cell p _ n
  have sm : Same G (upd G p (.lst vs)) := fun b u h => by
    rw [upd_ne (ne_of_none h g)]
    exact h
  refine ⟨upd G p (.lst vs), ⟨⟨fun b u h => ?_, fun a c' h => ?_⟩, sm, fun b u h g' c' => ?_⟩, dp_newL g r.dps⟩
  · by_cases hb : b = p
    · subst hb
      rw [upd_same] at h
      cases h
      exact e
    · rw [upd_ne hb] at h
      exact R.ex b u h
  · have ha : a ≠ p := fun z => by
      rw [z, cdel_same] at h
      cases h
    rw [cdel_ne ha] at h
    obtain ⟨h1, h2⟩ := R.cell a c' h
    rw [upd_ne ha]
    exact ⟨h1, h2.mono sm rfl⟩
  · have hb : b ≠ p := fun z => by
      rw [z, n] at c'
      cases c'
    rw [upd_ne hb, cdel_ne hb]
    exact ⟨h, g', c'⟩
/-- cells are forgotten -/
def Sub (C1 C : Cs) : Prop := ∀ a c, C1 a = some c → C a = some c
theorem Sub.refl (C : Cs) : Sub C C := fun _ _ h => h
theorem Sub.trans {C C1 C2 : Cs} (a : Sub C C1) (b : Sub C1 C2) : Sub C C2 := fun x c h => b x c (a x c h)
theorem Sub.cup {C : Cs} {a : Addr} {c : Cell} (h : C a = Option.none) : Sub C (cup C a c) := fun b c' q => by
  rw [cup_ne (cne q h)]
  exact q
theorem Sub.del {C : Cs} {a : Addr} : Sub (cdel C a) C := fun b c' q => by
  by_cases h : b = a
  · rw [h, cdel_same] at q
    cases q
  · rw [cdel_ne h] at q
    exact q
theorem Stp.drop {K : PySem.W.Frag} {G H : Hp} {C C1 : Cs} (R : Rel K G C H) (s : Sub C1 C) : Stp K G C H G C1 H :=
  ⟨⟨R.ex, fun a c h => R.cell a c (s a c h)⟩, Same.refl _, fun b o h g c => ⟨h, g, by
    cases e : C1 b with
    | none => rfl
    | some c1 =>
      rw [s b c1 e] at c
      cases c⟩⟩

/-! ### slots -/
abbrev Sl := List (Option AV)
structure RS (K : PySem.W.Frag) (G : Hp) (σ : L2.St) (ρ : Sl) : Prop where
  len : σ.length = ρ.length
  at' : ∀ (i : Nat) (av : AV), ρ[i]? = some (some av) → ∃ v, σ[i]? = some (some v) ∧ Rv K G v av
theorem RS.mono {K : PySem.W.Frag} {G G' : Hp} {σ : L2.St} {ρ : Sl} (e : Same G G') (h : RS K G σ ρ) : RS K G' σ ρ :=
  ⟨h.len, fun i av q => let ⟨v, h1, h2⟩ := h.at' i av q; ⟨v, h1, h2.mono e⟩⟩
theorem RS.set {K : PySem.W.Frag} {G : Hp} {σ : L2.St} {ρ : Sl} {i : Nat} {v : V} {av : AV} (h : RS K G σ ρ) (r : Rv K G v av) : RS K G (σ.set i (some v)) (ρ.set i (some av)) := by
  refine ⟨by rw [List.length_set, List.length_set, h.len], fun j aw q => ?_⟩
  by_cases hj : i = j
  · subst hj
    by_cases hl : i < ρ.length
    · rw [List.getElem?_set_self hl] at q
      cases q
      exact ⟨v, List.getElem?_set_self (by rw [h.len]; exact hl), r⟩
    · rw [List.getElem?_eq_none (by simpa using hl)] at q
      cases q
  · rw [List.getElem?_set_ne hj] at q ⊢
    exact h.at' j aw q
theorem RS.forget {K : PySem.W.Frag} {G : Hp} {σ : L2.St} {ρ : Sl} {i : Nat} (h : RS K G σ ρ) : RS K G (σ.set i none) (ρ.set i none) := by
  refine ⟨by rw [List.length_set, List.length_set, h.len], fun j aw q => ?_⟩
  by_cases hj : i = j
  · subst hj
    by_cases hl : i < ρ.length
    · rw [List.getElem?_set_self hl] at q
      cases q
    · rw [List.getElem?_eq_none (by simpa using hl)] at q
      cases q
  · rw [List.getElem?_set_ne hj] at q ⊢
    exact h.at' j aw q
/-- slots forgotten -/
def awipe (ρ : Sl) : List Nat → Sl
  | [] => ρ
  | v :: vs => (awipe ρ vs).set v none
theorem RS.wipe {K : PySem.W.Frag} {G : Hp} {σ : L2.St} {ρ : Sl} (h : RS K G σ ρ) : ∀ vs, RS K G (L2.wipe σ vs) (awipe ρ vs)
  | [] => h
  | _ :: vs => (h.wipe vs).forget

/-! ### what is wanted of exceptions: an own error of the class at c, its field's name, its field -/
structure Xn where
  c : Addr
  f : Str
  x : PyData
structure Par where
  E : XK
  X : Xn → Cs → Prop
def Lk (K : PySem.W.Frag) (P : Par) (G : Hp) (C : Cs) (H : Hp) : Prop :=
  ∀ G' C' H' (c d : Addr) (f : Str) (v : V) (x : PyData), Stp K G C H G' C' H' → H' d = some (.xd [(f, v)]) → Dp K G' v x → P.X ⟨c, f, x⟩ C' → P.E (.ref c) (some d) H'
theorem Lk.step {K : PySem.W.Frag} {P : Par} {G G1 H H1 : Hp} {C C1 : Cs} (l : Lk K P G C H) (s : Stp K G C H G1 C1 H1) : Lk K P G1 C1 H1 :=
  fun G' C' H' c d f v x st h r q => l G' C' H' c d f v x (s.trans st) h r q

/-! ### readings over data -/
abbrev AE := Sl → Cs → (AV → Cs → Prop) → Prop
abbrev AT := Sl → Cs → (Bool → Cs → Prop) → Prop
abbrev AA := Sl → Cs → (List AV → Cs → Prop) → Prop
abbrev AG := AV → Sl → Cs → (Sl → Cs → Prop) → Prop
abbrev AGs := List AV → Sl → Cs → (Sl → Cs → Prop) → Prop
structure AEnds where
  nx : Sl → Cs → Prop
  rt : AV → Cs → Prop
  bk : Sl → Cs → Prop := fun _ _ => False
  ct : Sl → Cs → Prop := fun _ _ => False
abbrev AS := AEnds → Sl → Cs → Prop

/-- the state as it is read -/
structure At (K : PySem.W.Frag) (P : Par) (G : Hp) (C : Cs) (H : Hp) (σ : L2.St) (ρ : Sl) : Prop where
  rel : Rel K G C H
  rs : RS K G σ ρ
  lk : Lk K P G C H
theorem At.step {K : PySem.W.Frag} {P : Par} {G G1 H H1 : Hp} {C C1 : Cs} {σ : L2.St} {ρ : Sl} (a : At K P G C H σ ρ) (s : Stp K G C H G1 C1 H1) : At K P G1 C1 H1 σ ρ := ⟨s.rel, a.rs.mono s.ex, a.lk.step s⟩
theorem At.stepS {K : PySem.W.Frag} {P : Par} {G G1 H H1 : Hp} {C C1 : Cs} {σ σ1 : L2.St} {ρ ρ1 : Sl} (a : At K P G C H σ ρ) (s : Stp K G C H G1 C1 H1) (r : RS K G1 σ1 ρ1) : At K P G1 C1 H1 σ1 ρ1 := ⟨s.rel, r, a.lk.step s⟩

def gE (K : PySem.W.Frag) (P : Par) (ae : AE) : TE := fun σ H Q => ∃ G C ρ, ∃ q : AV → Cs → Prop, At K P G C H σ ρ ∧ ae ρ C q ∧ ∀ v av G' C' H', Stp K G C H G' C' H' → Rv K G' v av → q av C' → Q v H'
def gT (K : PySem.W.Frag) (P : Par) (ae : AT) : TT := fun σ H Q => ∃ G C ρ, ∃ q : Bool → Cs → Prop, At K P G C H σ ρ ∧ ae ρ C q ∧ ∀ b G' C' H', Stp K G C H G' C' H' → q b C' → Q b H'
def gA (K : PySem.W.Frag) (P : Par) (ae : AA) : TA := fun σ H Q => ∃ G C ρ, ∃ q : List AV → Cs → Prop, At K P G C H σ ρ ∧ ae ρ C q ∧ ∀ vs avs G' C' H', Stp K G C H G' C' H' → Rvs K G' vs avs → q avs C' → Q vs H'
structure EndsOk (K : PySem.W.Frag) (G : Hp) (C : Cs) (H : Hp) (k : AEnds) (D : Ends) : Prop where
  nx : ∀ σ ρ G' C' H', Stp K G C H G' C' H' → RS K G' σ ρ → k.nx ρ C' → D.nx σ H'
  rt : ∀ v av G' C' H', Stp K G C H G' C' H' → Rv K G' v av → k.rt av C' → D.rt v H'
  bk : ∀ σ ρ G' C' H', Stp K G C H G' C' H' → RS K G' σ ρ → k.bk ρ C' → D.bk σ H'
  ct : ∀ σ ρ G' C' H', Stp K G C H G' C' H' → RS K G' σ ρ → k.ct ρ C' → D.ct σ H'
theorem EndsOk.step {K : PySem.W.Frag} {G G1 H H1 : Hp} {C C1 : Cs} {k : AEnds} {D : Ends} (e : EndsOk K G C H k D) (s : Stp K G C H G1 C1 H1) : EndsOk K G1 C1 H1 k D :=
  ⟨fun σ ρ G' C' H' st r q => e.nx σ ρ G' C' H' (s.trans st) r q, fun v av G' C' H' st r q => e.rt v av G' C' H' (s.trans st) r q, fun σ ρ G' C' H' st r q => e.bk σ ρ G' C' H' (s.trans st) r q, fun σ ρ G' C' H' st r q => e.ct σ ρ G' C' H' (s.trans st) r q⟩
def gS (K : PySem.W.Frag) (P : Par) (as : AS) : TS := fun D σ H => ∃ G C ρ k, At K P G C H σ ρ ∧ as k ρ C ∧ EndsOk K G C H k D
/-- a target; vs: the slots it may store to -/
def gG (K : PySem.W.Frag) (P : Par) (vs : List Nat) (ag : AG) : TG := fun v σ H Q => ∃ G C ρ av, ∃ q : Sl → Cs → Prop, At K P G C H σ ρ ∧ Rv K G v av ∧ ag av ρ C q ∧
  ∀ σ' ρ' G' C' H', L2.wipe σ' vs = L2.wipe σ vs → Stp K G C H G' C' H' → RS K G' σ' ρ' → q ρ' C' → Q σ' H'
def gGs (K : PySem.W.Frag) (P : Par) (vs : List Nat) (ag : AGs) : TGs := fun us σ H Q => ∃ G C ρ avs, ∃ q : Sl → Cs → Prop, At K P G C H σ ρ ∧ Rvs K G us avs ∧ ag avs ρ C q ∧
  ∀ σ' ρ' G' C' H', L2.wipe σ' vs = L2.wipe σ vs → Stp K G C H G' C' H' → RS K G' σ' ρ' → q ρ' C' → Q σ' H'

section
variable {X : Cx} {P : Par} {e : Expr} {es : List Expr} {st : Stmt} {sts : List Stmt}
def APE (X : Cx) (P : Par) (e : Expr) (ae : AE) : Prop := PE X e (gE X.K P ae)
def APT (X : Cx) (P : Par) (e : Expr) (ae : AT) : Prop := PT X e (gT X.K P ae)
def APW (X : Cx) (P : Par) (e : Expr) (ae : AT) : Prop := PW X e (gT X.K P ae)
def APA (X : Cx) (P : Par) (es : List Expr) (ae : AA) : Prop := PA X es (gA X.K P ae)
def APS (X : Cx) (P : Par) (st : Stmt) (as : AS) : Prop := PS X st (gS X.K P as)
def APSs (X : Cx) (P : Par) (sts : List Stmt) (as : AS) : Prop := PSs X sts (gS X.K P as)
def APG (X : Cx) (P : Par) (vs : List Nat) (e : Expr) (ag : AG) : Prop := PG X e (gG X.K P vs ag)
def APGs (X : Cx) (P : Par) (vs : List Nat) (es : List Expr) (ag : AGs) : Prop := PGs X es (gGs X.K P vs ag)
theorem pe_mono {t u : TE} (h : PE X e t) (m : ∀ σ H Q, u σ H Q → t σ H Q) : PE X e u := ⟨fun pins s σ H Q I q => h.run pins s σ H Q I (m σ H Q q)⟩
theorem pt_mono {t u : TT} (h : PT X e t) (m : ∀ σ H Q, u σ H Q → t σ H Q) : PT X e u := ⟨fun pins s σ H Q I q => h.run pins s σ H Q I (m σ H Q q)⟩
theorem pw_mono {t u : TT} (h : PW X e t) (m : ∀ σ H Q, u σ H Q → t σ H Q) : PW X e u := ⟨fun w pins s σ H Q I q => h.run w pins s σ H Q I (m σ H Q q)⟩
theorem pa_mono {t u : TA} (h : PA X es t) (m : ∀ σ H Q, u σ H Q → t σ H Q) : PA X es u := ⟨fun pos pins s σ H Q I q => h.run pos pins s σ H Q I (m σ H Q q)⟩
theorem ps_mono {t u : TS} (h : PS X st t) (m : ∀ D σ H, u D σ H → t D σ H) : PS X st u := ⟨fun pins s σ H D I q => h.run pins s σ H D I (m D σ H q)⟩
theorem pss_mono {t u : TS} (h : PSs X sts t) (m : ∀ D σ H, u D σ H → t D σ H) : PSs X sts u := ⟨fun pins s σ H D I q => h.run pins s σ H D I (m D σ H q)⟩
theorem pg_mono {t u : TG} (h : PG X e t) (m : ∀ v σ H Q, u v σ H Q → t v σ H Q) : PG X e u := ⟨fun pins s σ H v w Q I r q => h.run pins s σ H v w Q I r (m v σ H Q q)⟩
theorem pgs_mono {t u : TGs} (h : PGs X es t) (m : ∀ v σ H Q, u v σ H Q → t v σ H Q) : PGs X es u := ⟨fun pins s σ H v w Q I r q => h.run pins s σ H v w Q I r (m v σ H Q q)⟩
end
end AB

set_option Elab.async false
set_option linter.all false
set_option maxRecDepth 100000
set_option maxHeartbeats 4000000
/-! Layer A, expressions. -/
namespace AB
open PySem PySem.Spec PyProof.Rows L2

theorem rv_int {K : PySem.W.Frag} {G : Hp} {i : Int} : Rv K G (.int i) (.d (.int i)) := Dp.int i
theorem rv_bl {K : PySem.W.Frag} {G : Hp} {b : Bool} : Rv K G (.bl b) (.d (.bool b)) := Dp.bl b
theorem rv_str {K : PySem.W.Frag} {G : Hp} {x : Str} : Rv K G (.str x) (.d (.str x)) := Dp.str x
theorem rv_non {K : PySem.W.Frag} {G : Hp} : Rv K G .non (.d .none) := Dp.non
theorem rv_d {K : PySem.W.Frag} {G : Hp} {v : V} {x : PyData} (h : Dp K G v x) : Rv K G v (.d x) := h
theorem rv_r {K : PySem.W.Frag} {G : Hp} {a : Addr} : Rv K G (.ref a) (.r a) := rfl

/-! ### names, constants -/
def aVar (i : Nat) : AE := fun ρ C q => match ρ[i]? with
  | some (some av) => q av C
  | _ => False
def aC (x : PyData) : AE := fun _ C q => q (.d x) C
section
variable {X : Cx} {P : Par} {e a b c : Expr} {es : List Expr} {ae aa ab ac : AE} {pos : Pos}
theorem ape_of {t : TE} (h : PE X e t) (m : ∀ G C H σ ρ (q : AV → Cs → Prop) (Q : VK), At X.K P G C H σ ρ → ae ρ C q → (∀ v av G' C' H', Stp X.K G C H G' C' H' → Rv X.K G' v av → q av C' → Q v H') → t σ H Q) : APE X P e ae :=
  pe_mono h fun σ H Q ⟨G, C, ρ, q, hA, hw, fin⟩ => m G C H σ ρ q Q hA hw fin
theorem apv (i : Nat) {x : Str} {pos : Pos} (hN : X.N[i]? = some x := by rfl) (hv : Vis X.env.scope x := by first | exact Or.inl rfl | exact Or.inr (Or.inl rfl) | exact Or.inr (Or.inr rfl)) (hd : (x == ("__debug__" : Str)) = false := by decide)
    (hcd : (x == ("__classdict__" : Str)) = false := by decide) : APE X P (.Name x pos) (aVar i) :=
  ape_of (pe_var hN hv hd hcd) fun G C H σ ρ q Q hA hw fin => by
    unfold aVar at hw
    cases hr : ρ[i]? with
    | none =>
      rw [hr] at hw
      exact hw.elim
    | some o =>
      cases o with
      | none =>
        rw [hr] at hw
        exact hw.elim
      | some av =>
        rw [hr] at hw
        obtain ⟨v, h1, h2⟩ := hA.rs.at' i av hr
        exact ⟨v, h1, fin v av G C H (Stp.refl hA.rel) h2 hw⟩
theorem ape_c {v : V} {x : PyData} (h : PE X e (tC v)) (r : ∀ K G, Dp K G v x) : APE X P e (aC x) :=
  ape_of h fun G C H σ ρ q Q hA hw fin => fin v (.d x) G C H (Stp.refl hA.rel) (r _ _) hw
theorem api {i : Int} {j pos} : APE X P (.Constant (.int i) j pos) (aC (.int i)) := ape_c pe_int fun _ _ => .int i
theorem apb {b : Bool} {j pos} : APE X P (.Constant (.bool b) j pos) (aC (.bool b)) := ape_c pe_bl fun _ _ => .bl b
theorem apn {j pos} : APE X P (.Constant .none j pos) (aC .none) := ape_c pe_non fun _ _ => .non
theorem apstr {x : Str} {j pos} : APE X P (.Constant (.str x) j pos) (aC (.str x)) := ape_c pe_str fun _ _ => .str x
/-- a module's int -/
theorem apglob {x : Str} {i : Int} {u : Value} {pos : Pos} (hg : Gl X x) (hm : X.mg x = some u) (r : RelV (.int i) u) (hd : (x == ("__debug__" : Str)) = false := by decide) : APE X P (.Name x pos) (aC (.int i)) := ape_c (pe_glob hg hm r hd) fun _ _ => .int i

/-! ### operators by values -/
abbrev AR := AV → AV → Cs → (AV → Cs → Prop) → Prop
def Snd2 (K : PySem.W.Frag) (r : R2) (ar : AR) : Prop := ∀ G C H v w x y (q : AV → Cs → Prop) (Q : VK), Rel K G C H → Rv K G v x → Rv K G w y → ar x y C q →
  (∀ z az G' C' H', Stp K G C H G' C' H' → Rv K G' z az → q az C' → Q z H') → r v w H Q
def aOp (r : AR) (a b : AE) : AE := fun ρ C q => a ρ C fun x C1 => b ρ C1 fun y C2 => r x y C2 q
theorem gE_op {K : PySem.W.Frag} {r : R2} {ar : AR} (hs : Snd2 K r ar) {σ : L2.St} {H : Hp} {Q : VK} (h : gE K P (aOp ar aa ab) σ H Q) : tOp r (gE K P aa) (gE K P ab) σ H Q := by
  obtain ⟨G, C, ρ, q, hA, hw, fin⟩ := h
  refine ⟨G, C, ρ, _, hA, hw, fun v x G1 C1 H1 s1 r1 h1 => ?_⟩
  refine ⟨G1, C1, ρ, _, hA.step s1, h1, fun w y G2 C2 H2 s2 r2 h2 => ?_⟩
  exact hs G2 C2 H2 v w x y q Q s2.rel (r1.mono s2.ex) r2 h2 fun z az G3 C3 H3 s3 r3 h3 => fin z az G3 C3 H3 ((s1.trans s2).trans s3) r3 h3
theorem ape_op {op : Operator} {r : R2} {ar : AR} (ho : OpR X (binaryOp op) r) (hs : Snd2 X.K r ar) (ha : APE X P a aa) (hb : APE X P b ab) : APE X P (.BinOp a op b pos) (aOp ar aa ab) :=
  pe_mono (pe_op ho ha hb) fun σ H Q h => gE_op hs h
theorem ape_cmp {op : CmpOp} {r : R2} {ar : AR} (ho : OpR X (compareOp op) r) (hs : Snd2 X.K r ar) (ha : APE X P a aa) (hb : APE X P b ab) (hm : behindInMarks op b = false) : APE X P (.Compare a [op] [b] pos) (aOp ar aa ab) :=
  pe_mono (pe_cmpR ho ha hb hm) fun σ H Q h => gE_op hs h
theorem ape_ix {r : R2} {ar : AR} (hr : IxR X r) (hs : Snd2 X.K r ar) (ha : APE X P a aa) (hb : APE X P b ab) (hp : PlainIx b) : APE X P (.Subscript a b pos) (aOp ar aa ab) :=
  pe_mono (pe_ix hr ha hb hp) fun σ H Q h => gE_op hs h
/-- two ints -/
def onI2 (x y : AV) (p : Int → Int → Prop) : Prop := match x, y with
  | .d (.int i), .d (.int j) => p i j
  | _, _ => False
def onB (x : AV) (p : Bool → Prop) : Prop := match x with
  | .d (.bool b) => p b
  | _ => False
def arI (c : Int → Int → Prop) (f : Int → Int → Int) : AR := fun x y C q => onI2 x y fun i j => c i j ∧ q (.d (.int (f i j))) C
def arI0 (f : Int → Int → Int) : AR := fun x y C q => onI2 x y fun i j => q (.d (.int (f i j))) C
def arB (f : Int → Int → Bool) : AR := fun x y C q => onI2 x y fun i j => q (.d (.bool (f i j))) C
theorem two_ints {K : PySem.W.Frag} {G : Hp} {v w : V} {x y : AV} {p : Int → Int → Prop} (h1 : Rv K G v x) (h2 : Rv K G w y) (h : onI2 x y p) : ∃ i j, v = .int i ∧ w = .int j ∧ x = .d (.int i) ∧ y = .d (.int j) ∧ p i j := by
  cases x with
  | r a => exact h.elim
  | d x =>
    cases x with
    | int i =>
      cases y with
      | r a => exact h.elim
      | d y =>
        cases y with
        | int j =>
          cases h1
          cases h2
          exact ⟨i, j, rfl, rfl, rfl, rfl, h⟩
        | _ => exact h.elim
    | _ => exact h.elim
theorem snd_I {K : PySem.W.Frag} {c : Int → Int → Prop} {f : Int → Int → Int} : Snd2 K (rI c fun i j => .int (f i j)) (arI c f) := fun G C H v w x y q Q R h1 h2 h fin => by
  obtain ⟨i, j, rfl, rfl, rfl, rfl, p⟩ := two_ints h1 h2 h
  exact ⟨i, j, rfl, rfl, p.1, fin _ _ G C H (Stp.refl R) rv_int p.2⟩
theorem snd_I0 {K : PySem.W.Frag} {f : Int → Int → Int} : Snd2 K (rI0 fun i j => .int (f i j)) (arI0 f) := fun G C H v w x y q Q R h1 h2 h fin => by
  obtain ⟨i, j, rfl, rfl, rfl, rfl, p⟩ := two_ints h1 h2 h
  exact ⟨i, j, rfl, rfl, fin _ _ G C H (Stp.refl R) rv_int p⟩
theorem snd_B {K : PySem.W.Frag} {f : Int → Int → Bool} : Snd2 K (rI0 fun i j => .bl (f i j)) (arB f) := fun G C H v w x y q Q R h1 h2 h fin => by
  obtain ⟨i, j, rfl, rfl, rfl, rfl, p⟩ := two_ints h1 h2 h
  exact ⟨i, j, rfl, rfl, fin _ _ G C H (Stp.refl R) rv_bl p⟩
/-- ==, != of ints and of texts -/
def arEq (neg : Bool) : AR := fun x y C q => match x, y with
  | .d (.int i), .d (.int j) => q (.d (.bool (neg ^^ decide (i = j)))) C
  | .d (.str i), .d (.str j) => q (.d (.bool (neg ^^ decide (i = j)))) C
  | _, _ => False
theorem two_scal {K : PySem.W.Frag} {G : Hp} {v w : V} {x y : AV} {C : Cs} {q : AV → Cs → Prop} {neg : Bool} (h1 : Rv K G v x) (h2 : Rv K G w y) (h : arEq neg x y C q) : scal v w = true ∧ q (.d (.bool (neg ^^ decide (v = w)))) C := by
  cases x with
  | r a => exact h.elim
  | d x =>
    cases x with
    | int i =>
      cases y with
      | r a => exact h.elim
      | d y =>
        cases y with
        | int j =>
          cases h1
          cases h2
          refine ⟨rfl, ?_⟩
          have e : decide (V.int i = V.int j) = decide (i = j) := by
            by_cases z : i = j
            · subst z
              simp
            · rw [decide_eq_false z, decide_eq_false fun q => z (V.int.inj q)]
          rw [e]
          exact h
        | _ => exact h.elim
    | str i =>
      cases y with
      | r a => exact h.elim
      | d y =>
        cases y with
        | str j =>
          cases h1
          cases h2
          refine ⟨rfl, ?_⟩
          have e : decide (V.str i = V.str j) = decide (i = j) := by
            by_cases z : i = j
            · subst z
              simp
            · rw [decide_eq_false z, decide_eq_false fun q => z (V.str.inj q)]
          rw [e]
          exact h
        | _ => exact h.elim
    | _ => exact h.elim
theorem snd_eq {K : PySem.W.Frag} : Snd2 K rEq (arEq false) := fun G C H v w x y q Q R h1 h2 h fin => by
  obtain ⟨s, p⟩ := two_scal h1 h2 h
  refine ⟨s, fin _ _ G C H (Stp.refl R) rv_bl ?_⟩
  simpa using p
theorem snd_ne {K : PySem.W.Frag} : Snd2 K rNe (arEq true) := fun G C H v w x y q Q R h1 h2 h fin => by
  obtain ⟨s, p⟩ := two_scal h1 h2 h
  refine ⟨s, fin _ _ G C H (Stp.refl R) rv_bl ?_⟩
  simpa using p
/-- a subscript of a tuple, of a list, of a list cell -/
def arIx : AR := fun x y C q => match x, y with
  | .d (.tuple xs), .d (.int i) => ∃ v, atI xs i = some v ∧ q (.d v) C
  | .d (.list xs), .d (.int i) => ∃ v, atI xs i = some v ∧ q (.d v) C
  | .r p, .d (.int i) => ∃ xs v, C p = some (.l xs) ∧ atI xs i = some v ∧ q v C
  | _, _ => False
theorem atI_pair {α β : Type} {F : α → β → Prop} {vs : List α} {xs : List β} {i : Int} {x : β} (h : Paired F vs xs) (e : atI xs i = some x) : ∃ v, atI vs i = some v ∧ F v x := by
  unfold atI at e ⊢
  rw [show vs.length = xs.length from Paired.length h]
  cases q : ixN xs.length i with
  | none =>
    rw [q] at e
    cases e
  | some j =>
    rw [q] at e
    exact pget h e
theorem dps_paired {K : PySem.W.Frag} {G : Hp} : ∀ {vs : List V} {xs : List PyData}, DpAll K G vs xs → Paired (Dp K G) vs xs
  | _, _, .nil => .nil
  | _, _, .cons h1 h2 => .cons h1 (dps_paired h2)
theorem dps_of {K : PySem.W.Frag} {G : Hp} : ∀ {vs : List V} {xs : List PyData}, Paired (Dp K G) vs xs → DpAll K G vs xs
  | _, _, .nil => .nil
  | _, _, .cons h1 h2 => .cons h1 (dps_of h2)
theorem sqT_mono {K : PySem.W.Frag} {G H : Hp} {a : Addr} {xs : List V} (e : Same G H) (s : SqT K G a xs) : SqT K H a xs := by
  rcases s with (s | ⟨o, s⟩) | s
  · exact .inl (.inl (e _ _ s))
  · exact .inl (.inr ⟨o, e _ _ s⟩)
  · exact .inr s
theorem snd_ix {K : PySem.W.Frag} : Snd2 K (rIx K) arIx := fun G C H v w x y q Q R h1 h2 h fin => by
  cases y with
  | r b => cases x with
    | d x => cases x <;> exact h.elim
    | r a => exact h.elim
  | d y =>
    cases y with
    | int i =>
      cases h2
      cases x with
      | r a =>
        obtain ⟨xs, x, e, ea, h⟩ := h
        obtain ⟨_, vs, eh, rs⟩ := R.cell a _ e
        cases h1
        obtain ⟨z, e2, r2⟩ := atI_pair rs ea
        exact .inl ⟨a, vs, i, z, rfl, rfl, SqL.of eh, e2, fin z x G C H (Stp.refl R) r2 h⟩
      | d x =>
        cases x with
        | tuple xs =>
          obtain ⟨x, ea, h⟩ := h
          cases h1 with
          | tup s rs =>
            obtain ⟨z, e2, r2⟩ := atI_pair (dps_paired rs) ea
            exact .inr (.inl ⟨_, _, i, z, rfl, rfl, sqT_mono R.ex s, e2, fin z (.d x) G C H (Stp.refl R) r2 h⟩)
        | list xs =>
          obtain ⟨x, ea, h⟩ := h
          cases h1 with
          | lst s rs =>
            obtain ⟨z, e2, r2⟩ := atI_pair (dps_paired rs) ea
            exact .inl ⟨_, _, i, z, rfl, rfl, Same.seq R.ex s, e2, fin z (.d x) G C H (Stp.refl R) r2 h⟩
        | _ => exact h.elim
    | _ => cases x with
      | d x => cases x <;> exact h.elim
      | r a => exact h.elim
theorem apx (ha : APE X P a aa) (hb : APE X P b ab) (hp : PlainIx b := by exact fun _ _ => rfl) : APE X P (.Subscript a b pos) (aOp arIx aa ab) := ape_ix ix_seq snd_ix ha hb hp

/-! ### tests -/
def aTest (a : AE) : AT := fun ρ C q => a ρ C fun x C1 => onB x fun b => q b C1
theorem bool_of {K : PySem.W.Frag} {G : Hp} {v : V} {x : AV} {p : Bool → Prop} (h1 : Rv K G v x) (h : onB x p) : ∃ b, v = .bl b ∧ p b := by
  cases x with
  | r a => exact h.elim
  | d x =>
    cases x with
    | bool b =>
      cases h1
      exact ⟨b, rfl, h⟩
    | _ => exact h.elim
theorem gT_test {K : PySem.W.Frag} {σ : L2.St} {H : Hp} {Q : Bool → Hp → Prop} (h : gT K P (aTest aa) σ H Q) : gE K P aa σ H fun x H1 => ∃ c, x = .bl c ∧ Q c H1 := by
  obtain ⟨G, C, ρ, q, hA, hw, fin⟩ := h
  refine ⟨G, C, ρ, _, hA, hw, fun v x G1 C1 H1 s1 r1 h1 => ?_⟩
  obtain ⟨b, e, h1⟩ := bool_of r1 h1
  exact ⟨b, e, fin b G1 C1 H1 s1 h1⟩
theorem apt_val {ae : AE} (h : APE X P e ae) (he : ∀ whole, isTrue e X.env whole = (do let v ← whole; standAt e.pos; holding [v] (truthy v)) := by intro _; rfl) : APT X P e (aTest ae) :=
  pt_mono (pt_val h he) fun σ H Q h => gT_test h
theorem apt_cmp {op : CmpOp} {r : R2} {ar : AR} (ho : OpR X (compareOp op) r) (hs : Snd2 X.K r ar) (ha : APE X P a aa) (hb : APE X P b ab) (hm : behindInMarks op b = false) : APT X P (.Compare a [op] [b] pos) (aTest (aOp ar aa ab)) :=
  pt_mono (pt_cmpR ho ha hb hm) fun σ H Q h => gE_op hs (gT_test h)
def aChain (r r' : AR) (a b c : AE) : AE := fun ρ C q => a ρ C fun x C1 => b ρ C1 fun y C2 => r x y C2 fun z C3 => onB z fun k => if k = true then c ρ C3 fun w C4 => r' y w C4 q else q (.d (.bool false)) C3
theorem gE_chain {K : PySem.W.Frag} {r r' : R2} {ar ar' : AR} (hs : Snd2 K r ar) (hs' : Snd2 K r' ar') {σ : L2.St} {H : Hp} {Q : VK} (h : gE K P (aChain ar ar' aa ab ac) σ H Q) : tChain r r' (gE K P aa) (gE K P ab) (gE K P ac) σ H Q := by
  obtain ⟨G, C, ρ, q, hA, hw, fin⟩ := h
  refine ⟨G, C, ρ, _, hA, hw, fun v x G1 C1 H1 s1 r1 h1 => ?_⟩
  refine ⟨G1, C1, ρ, _, hA.step s1, h1, fun w y G2 C2 H2 s2 r2 h2 => ?_⟩
  refine hs G2 C2 H2 v w x y _ _ s2.rel (r1.mono s2.ex) r2 h2 fun z az G3 C3 H3 s3 r3 h3 => ?_
  obtain ⟨k, e, h3⟩ := bool_of r3 h3
  refine ⟨k, e, ?_⟩
  have s13 := (s1.trans s2).trans s3
  cases k with
  | true =>
    refine iteT ?_
    replace h3 : ac ρ C3 _ := h3
    refine ⟨G3, C3, ρ, _, hA.step s13, h3, fun u au G4 C4 H4 s4 r4 h4 => ?_⟩
    exact hs' G4 C4 H4 w u y au q Q s4.rel ((r2.mono s3.ex).mono s4.ex) r4 h4 fun z az G5 C5 H5 s5 r5 h5 => fin z az G5 C5 H5 ((s13.trans s4).trans s5) r5 h5
  | false =>
    refine iteF ?_
    exact fin _ _ G3 C3 H3 s13 rv_bl h3
theorem ape_chain {op op' : CmpOp} {r r' : R2} {ar ar' : AR} (ho : OpR X (compareOp op) r) (ho' : OpR X (compareOp op') r') (hs : Snd2 X.K r ar) (hs' : Snd2 X.K r' ar') (ha : APE X P a aa) (hb : APE X P b ab) (hc : APE X P c ac) (hm : lastMarks [op, op'] [b, c] = false := by with_unfolding_all rfl) :
    APE X P (.Compare a [op, op'] [b, c] pos) (aChain ar ar' aa ab ac) := pe_mono (pe_chain ho ho' ha hb hc hm) fun σ H Q h => gE_chain hs hs' h
theorem apt_chain {op op' : CmpOp} {r r' : R2} {ar ar' : AR} (ho : OpR X (compareOp op) r) (ho' : OpR X (compareOp op') r') (hs : Snd2 X.K r ar) (hs' : Snd2 X.K r' ar') (ha : APE X P a aa) (hb : APE X P b ab) (hc : APE X P c ac) (hm : lastMarks [op, op'] [b, c] = false := by with_unfolding_all rfl) :
    APT X P (.Compare a [op, op'] [b, c] pos) (aTest (aChain ar ar' aa ab ac)) := pt_mono (pt_chain ho ho' ha hb hc hm) fun σ H Q h => gE_chain hs hs' (gT_test h)
def aAnd (t u : AT) : AT := fun ρ C q => t ρ C fun c C1 => if c = true then u ρ C1 q else q false C1
def aOr (t u : AT) : AT := fun ρ C q => t ρ C fun c C1 => if c = true then q true C1 else u ρ C1 q
def aNot (t : AT) : AT := fun ρ C q => t ρ C fun c C1 => q (!c) C1
variable {tA tB' : AT} {rest : List Expr}
theorem gT_bind {K : PySem.W.Frag} {tt : AT} {k : Bool → AT} {f : Bool → TT} (hk : ∀ b σ H Q, gT K P (k b) σ H Q → f b σ H Q) {σ : L2.St} {H : Hp} {Q : Bool → Hp → Prop} (h : gT K P (fun ρ C q => tt ρ C fun b C1 => k b ρ C1 q) σ H Q) :
    gT K P tt σ H fun b H1 => f b σ H1 Q := by
  obtain ⟨G, C, ρ, q, hA, hw, fin⟩ := h
  refine ⟨G, C, ρ, _, hA, hw, fun b G1 C1 H1 s1 h1 => ?_⟩
  exact hk b σ H1 Q ⟨G1, C1, ρ, q, hA.step s1, h1, fun b2 G2 C2 H2 s2 h2 => fin b2 G2 C2 H2 (s1.trans s2) h2⟩
theorem gT_ret {K : PySem.W.Frag} {b : Bool} {σ : L2.St} {H : Hp} {Q : Bool → Hp → Prop} (h : gT K P (fun ρ C q => q b C) σ H Q) : Q b H := by
  obtain ⟨G, C, ρ, q, hA, hw, fin⟩ := h
  exact fin b G C H (Stp.refl hA.rel) hw
theorem apw_1 (ha : APT X P a tA) : APW X P (.BoolOp .And [a] pos) tA := pw_and1 ha
theorem apw_o1 (ha : APT X P a tA) : APW X P (.BoolOp .Or [a] pos) tA := pw_or1 ha
theorem apw_and (ha : APT X P a tA) (hb : APW X P (.BoolOp .And (b :: rest) pos) tB') : APW X P (.BoolOp .And (a :: b :: rest) pos) (aAnd tA tB') :=
  pw_mono (pw_and ha hb) fun σ H Q h => gT_bind (k := fun c => fun ρ C q => if c = true then tB' ρ C q else q false C) (f := fun c σ H Q => if c = true then gT X.K P tB' σ H Q else Q false H) (fun c σ H Q h => by
    cases c with
    | true => exact h
    | false => exact gT_ret (b := false) h) h
theorem apw_or (ha : APT X P a tA) (hb : APW X P (.BoolOp .Or (b :: rest) pos) tB') : APW X P (.BoolOp .Or (a :: b :: rest) pos) (aOr tA tB') :=
  pw_mono (pw_or ha hb) fun σ H Q h => gT_bind (k := fun c => fun ρ C q => if c = true then q true C else tB' ρ C q) (f := fun c σ H Q => if c = true then Q true H else gT X.K P tB' σ H Q) (fun c σ H Q h => by
    cases c with
    | false => exact h
    | true => exact gT_ret (b := true) h) h
theorem apt_w (h : APW X P e tA) : APT X P e tA := PW.pt h
theorem apt_not (ha : APT X P a tA) : APT X P (.UnaryOp .Not a pos) (aNot tA) :=
  pt_mono (pt_not ha) fun σ H Q h => gT_bind (k := fun c => fun ρ C q => q (!c) C) (f := fun c σ H Q => Q (!c) H) (fun c σ H Q h => gT_ret (b := !c) h) h
/-- and, or, not as values of bools -/
def aAndV (a b : AE) : AE := fun ρ C q => a ρ C fun x C1 => onB x fun c => if c = true then b ρ C1 q else q (.d (.bool false)) C1
def aOrV (a b : AE) : AE := fun ρ C q => a ρ C fun x C1 => onB x fun c => if c = true then q (.d (.bool true)) C1 else b ρ C1 q
def aNotV (a : AE) : AE := fun ρ C q => a ρ C fun x C1 => onB x fun c => q (.d (.bool (!c))) C1
theorem ape_one {op : BoolOp} (h : APE X P a aa) : APE X P (.BoolOp op [a] pos) aa := pe_one h
theorem ape_and (ha : APE X P a aa) (hb : APE X P (.BoolOp .And (b :: rest) pos) ab) : APE X P (.BoolOp .And (a :: b :: rest) pos) (aAndV aa ab) :=
  pe_mono (pe_and ha hb) fun σ H Q h => by
    obtain ⟨G, C, ρ, q, hA, hw, fin⟩ := h
    refine ⟨G, C, ρ, _, hA, hw, fun v x G1 C1 H1 s1 r1 h1 => ?_⟩
    obtain ⟨k, e, h1⟩ := bool_of r1 h1
    refine ⟨k, e, ?_⟩
    cases k with
    | true => exact iteT ⟨G1, C1, ρ, q, hA.step s1, h1, fun v2 av2 G2 C2 H2 s2 r2 h2 => fin v2 av2 G2 C2 H2 (s1.trans s2) r2 h2⟩
    | false => exact iteF (fin _ _ G1 C1 H1 s1 rv_bl h1)
theorem ape_or (ha : APE X P a aa) (hb : APE X P (.BoolOp .Or (b :: rest) pos) ab) : APE X P (.BoolOp .Or (a :: b :: rest) pos) (aOrV aa ab) :=
  pe_mono (pe_or ha hb) fun σ H Q h => by
    obtain ⟨G, C, ρ, q, hA, hw, fin⟩ := h
    refine ⟨G, C, ρ, _, hA, hw, fun v x G1 C1 H1 s1 r1 h1 => ?_⟩
    obtain ⟨k, e, h1⟩ := bool_of r1 h1
    refine ⟨k, e, ?_⟩
    cases k with
    | false => exact iteF ⟨G1, C1, ρ, q, hA.step s1, h1, fun v2 av2 G2 C2 H2 s2 r2 h2 => fin v2 av2 G2 C2 H2 (s1.trans s2) r2 h2⟩
    | true => exact iteT (fin _ _ G1 C1 H1 s1 rv_bl h1)
theorem ape_not (ha : APE X P a aa) : APE X P (.UnaryOp .Not a pos) (aNotV aa) :=
  pe_mono (pe_not ha) fun σ H Q h => by
    obtain ⟨G, C, ρ, q, hA, hw, fin⟩ := h
    refine ⟨G, C, ρ, _, hA, hw, fun v x G1 C1 H1 s1 r1 h1 => ?_⟩
    obtain ⟨k, e, h1⟩ := bool_of r1 h1
    exact ⟨k, e, fin _ _ G1 C1 H1 s1 rv_bl h1⟩
def aIf (t : AT) (a b : AE) : AE := fun ρ C q => t ρ C fun c C1 => if c = true then a ρ C1 q else b ρ C1 q
theorem ape_if (hc : APT X P c tA) (ha : APE X P a aa) (hb : APE X P b ab) : APE X P (.IfExp c a b pos) (aIf tA aa ab) :=
  pe_mono (pe_ifExp hc ha hb) fun σ H Q h => by
    obtain ⟨G, C, ρ, q, hA, hw, fin⟩ := h
    refine ⟨G, C, ρ, _, hA, hw, fun k G1 C1 H1 s1 h1 => ?_⟩
    cases k with
    | true => exact iteT ⟨G1, C1, ρ, q, hA.step s1, h1, fun v2 av2 G2 C2 H2 s2 r2 h2 => fin v2 av2 G2 C2 H2 (s1.trans s2) r2 h2⟩
    | false => exact iteF ⟨G1, C1, ρ, q, hA.step s1, h1, fun v2 av2 G2 C2 H2 s2 r2 h2 => fin v2 av2 G2 C2 H2 (s1.trans s2) r2 h2⟩

/-! ### arguments, displays -/
def aNil : AA := fun _ C q => q [] C
def aCons (a : AE) (r : AA) : AA := fun ρ C q => a ρ C fun x C1 => r ρ C1 fun xs C2 => q (x :: xs) C2
variable {ar : AA}
theorem apa_nil : APA X P [] aNil := pa_mono pa_nil fun σ H Q h => by
  obtain ⟨G, C, ρ, q, hA, hw, fin⟩ := h
  exact fin [] [] G C H (Stp.refl hA.rel) .nil hw
theorem apa_cons (ha : APE X P e ae) (hr : APA X P es ar) (hs : starEach (e :: es) X.env = (false, eval e X.env) :: starEach es X.env := by rfl) : APA X P (e :: es) (aCons ae ar) :=
  pa_mono (pa_cons ha hr hs) fun σ H Q h => by
    obtain ⟨G, C, ρ, q, hA, hw, fin⟩ := h
    refine ⟨G, C, ρ, _, hA, hw, fun v x G1 C1 H1 s1 r1 h1 => ?_⟩
    exact ⟨G1, C1, ρ, _, hA.step s1, h1, fun vs xs G2 C2 H2 s2 r2 h2 => fin (v :: vs) (x :: xs) G2 C2 H2 (s1.trans s2) (.cons (r1.mono s2.ex) r2) h2⟩
def allD : List AV → Option (List PyData)
  | [] => some []
  | .d x :: r => match allD r with
    | some xs => some (x :: xs)
    | none => none
  | .r _ :: _ => none
theorem allD_map : ∀ {avs : List AV} {xs : List PyData}, allD avs = some xs → avs = xs.map AV.d
  | [], _, h => by
    cases h
    rfl
  | .d x :: r, xs, h => by
    unfold allD at h
    cases e : allD r with
    | none =>
      rw [e] at h
      cases h
    | some ys =>
      rw [e] at h
      cases h
      rw [allD_map e]
      rfl
  | .r _ :: _, _, h => nomatch h
theorem allD_of : ∀ (xs : List PyData), allD (xs.map AV.d) = some xs
  | [] => rfl
  | x :: r => by
    show (match allD (r.map AV.d) with
      | some xs => some (x :: xs)
      | none => none) = _
    rw [allD_of r]
/-- a tuple of data -/
def aTup (t : AA) : AE := fun ρ C q => t ρ C fun avs C1 => avs.length ≤ 1000 ∧ match allD avs with
  | some xs => q (.d (.tuple xs)) C1
  | none => False
def aLst (t : AA) : AE := fun ρ C q => t ρ C fun avs C1 => avs.length ≤ 1000 ∧ match allD avs with
  | some xs => q (.d (.list xs)) C1
  | none => False
/-- a list display as a cell -/
def aLstC (t : AA) : AE := fun ρ C q => t ρ C fun avs C1 => avs.length ≤ 1000 ∧ ∀ p, C1 p = none → q (.r p) (cup C1 p (.l avs))
theorem sz1000 {n : Nat} (h : n ≤ 1000) : n ≤ sizeLine := Nat.le_of_lt (small1000 h)
theorem ape_tup {x1} (h : APA X P es ar) : APE X P (.Tuple es x1 pos) (aTup ar) :=
  pe_mono (pe_tup h) fun σ H Q h => by
    obtain ⟨G, C, ρ, q, hA, hw, fin⟩ := h
    refine ⟨G, C, ρ, _, hA, hw, fun vs avs G1 C1 H1 s1 r1 h1 => ?_⟩
    obtain ⟨hl, h1⟩ := h1
    refine ⟨by rw [r1.length]; exact sz1000 hl, fun p np => ?_⟩
    cases e : allD avs with
    | none =>
      rw [e] at h1
      exact h1.elim
    | some xs =>
      rw [e] at h1
      have e2 := allD_map e
      subst e2
      exact fin _ _ _ C1 _ (s1.trans (Stp.data s1.rel np)) (rv_d (dp_new (s1.rel.none np).1 r1.dps)) h1
theorem ape_lst (h : APA X P es ar) : APE X P (.List es pos) (aLst ar) :=
  pe_mono (pe_lst h) fun σ H Q h => by
    obtain ⟨G, C, ρ, q, hA, hw, fin⟩ := h
    refine ⟨G, C, ρ, _, hA, hw, fun vs avs G1 C1 H1 s1 r1 h1 => ?_⟩
    obtain ⟨hl, h1⟩ := h1
    refine ⟨by rw [r1.length]; exact sz1000 hl, fun p np => ?_⟩
    cases e : allD avs with
    | none =>
      rw [e] at h1
      exact h1.elim
    | some xs =>
      rw [e] at h1
      have e2 := allD_map e
      subst e2
      exact fin _ _ _ C1 _ (s1.trans (Stp.data s1.rel np)) (rv_d (dp_newL (s1.rel.none np).1 r1.dps)) h1
theorem ape_lstC (h : APA X P es ar) : APE X P (.List es pos) (aLstC ar) :=
  pe_mono (pe_lst h) fun σ H Q h => by
    obtain ⟨G, C, ρ, q, hA, hw, fin⟩ := h
    refine ⟨G, C, ρ, _, hA, hw, fun vs avs G1 C1 H1 s1 r1 h1 => ?_⟩
    obtain ⟨hl, h1⟩ := h1
    refine ⟨by rw [r1.length]; exact sz1000 hl, fun p np => ?_⟩
    exact fin _ _ _ _ _ (s1.trans (Stp.cell s1.rel np (c := .l avs) ⟨vs, upd_same, r1⟩)) rv_r (h1 p (s1.rel.none np).2)
end
end AB

set_option Elab.async false
set_option linter.all false
set_option maxRecDepth 100000
set_option maxHeartbeats 4000000
/-! Layer A, calls, slices, methods. -/
namespace AB
open PySem PySem.Spec PyProof.Rows L2
section
variable {X : Cx} {P : Par} {e o a b c : Expr} {es : List Expr} {ae ao aa ab ac : AE} {ar : AA} {pos p2 : Pos} {K : PySem.W.Frag}

theorem ap_add (ha : APE X P a aa) (hb : APE X P b ab) : APE X P (.BinOp a .Add b pos) (aOp (arI0 fun i j => i + j) aa ab) := ape_op op_add snd_I0 ha hb
theorem ap_sub (ha : APE X P a aa) (hb : APE X P b ab) : APE X P (.BinOp a .Sub b pos) (aOp (arI0 fun i j => i - j) aa ab) := ape_op op_sub snd_I0 ha hb
theorem ap_mul (ha : APE X P a aa) (hb : APE X P b ab) : APE X P (.BinOp a .Mult b pos) (aOp (arI CMulW fun i j => i * j) aa ab) := ape_op op_mulW snd_I ha hb
theorem ap_div (ha : APE X P a aa) (hb : APE X P b ab) : APE X P (.BinOp a .FloorDiv b pos) (aOp (arI CDivW fun i j => i / j) aa ab) := ape_op op_fdivW snd_I ha hb
theorem ap_mod (ha : APE X P a aa) (hb : APE X P b ab) : APE X P (.BinOp a .Mod b pos) (aOp (arI (fun _ j => 0 < j) fun i j => i % j) aa ab) := ape_op op_mod snd_I ha hb
theorem ap_pow (ha : APE X P a aa) (hb : APE X P b ab) : APE X P (.BinOp a .Pow b pos) (aOp (arI CPow fun i j => i ^ j.toNat) aa ab) := ape_op op_pow snd_I ha hb
theorem ap_lt (ha : APE X P a aa) (hb : APE X P b ab) : APE X P (.Compare a [.Lt] [b] pos) (aOp (arB fun i j => decide (i < j)) aa ab) := ape_cmp op_lt snd_B ha hb (nomark _)
theorem ap_gt (ha : APE X P a aa) (hb : APE X P b ab) : APE X P (.Compare a [.Gt] [b] pos) (aOp (arB fun i j => decide (j < i)) aa ab) := ape_cmp op_gt snd_B ha hb (nomark _)
theorem ap_eq (ha : APE X P a aa) (hb : APE X P b ab) : APE X P (.Compare a [.Eq] [b] pos) (aOp (arEq false) aa ab) := ape_cmp op_eq snd_eq ha hb (nomark _)
theorem at_lt (ha : APE X P a aa) (hb : APE X P b ab) : APT X P (.Compare a [.Lt] [b] pos) (aTest (aOp (arB fun i j => decide (i < j)) aa ab)) := apt_cmp op_lt snd_B ha hb (nomark _)
theorem at_gt (ha : APE X P a aa) (hb : APE X P b ab) : APT X P (.Compare a [.Gt] [b] pos) (aTest (aOp (arB fun i j => decide (j < i)) aa ab)) := apt_cmp op_gt snd_B ha hb (nomark _)
theorem at_ge (ha : APE X P a aa) (hb : APE X P b ab) : APT X P (.Compare a [.GtE] [b] pos) (aTest (aOp (arB fun i j => decide (j ≤ i)) aa ab)) := apt_cmp op_ge snd_B ha hb (nomark _)
theorem at_le (ha : APE X P a aa) (hb : APE X P b ab) : APT X P (.Compare a [.LtE] [b] pos) (aTest (aOp (arB fun i j => decide (i ≤ j)) aa ab)) := apt_cmp op_le snd_B ha hb (nomark _)
theorem at_eq (ha : APE X P a aa) (hb : APE X P b ab) : APT X P (.Compare a [.Eq] [b] pos) (aTest (aOp (arEq false) aa ab)) := apt_cmp op_eq snd_eq ha hb (nomark _)
theorem at_ne (ha : APE X P a aa) (hb : APE X P b ab) : APT X P (.Compare a [.NotEq] [b] pos) (aTest (aOp (arEq true) aa ab)) := apt_cmp op_ne snd_ne ha hb (nomark _)
/-- a <= b <= c -/
theorem ap_lele (ha : APE X P a aa) (hb : APE X P b ab) (hc : APE X P c ac) (hm : lastMarks [.LtE, .LtE] [b, c] = false := by with_unfolding_all rfl) :
    APE X P (.Compare a [.LtE, .LtE] [b, c] pos) (aChain (arB fun i j => decide (i ≤ j)) (arB fun i j => decide (i ≤ j)) aa ab ac) := ape_chain op_le op_le snd_B snd_B ha hb hc hm
theorem at_lele (ha : APE X P a aa) (hb : APE X P b ab) (hc : APE X P c ac) (hm : lastMarks [.LtE, .LtE] [b, c] = false := by with_unfolding_all rfl) :
    APT X P (.Compare a [.LtE, .LtE] [b, c] pos) (aTest (aChain (arB fun i j => decide (i ≤ j)) (arB fun i j => decide (i ≤ j)) aa ab ac)) := apt_chain op_le op_le snd_B snd_B ha hb hc hm

/-! ### is of bools; in a tuple of texts; lists against [] -/
def arIsB : AR := fun x y C q => match x, y with
  | .d (.bool i), .d (.bool j) => q (.d (.bool (decide (i = j)))) C
  | _, _ => False
theorem snd_isB : Snd2 K rIsB arIsB := fun G C H v w x y q Q R h1 h2 h fin => by
  cases x with
  | r a => exact h.elim
  | d x =>
    cases x with
    | bool i =>
      cases y with
      | r a => exact h.elim
      | d y =>
        cases y with
        | bool j =>
          cases h1
          cases h2
          exact ⟨i, j, rfl, rfl, fin _ _ G C H (Stp.refl R) rv_bl h⟩
        | _ => exact h.elim
    | _ => exact h.elim
theorem ap_isB (ha : APE X P a aa) (hb : APE X P b ab) : APE X P (.Compare a [.Is] [b] pos) (aOp arIsB aa ab) := ape_cmp op_isBl snd_isB ha hb (nomark _)
def arInS : AR := fun x y C q => ∃ (s : Str) (ss : List Str), x = .d (.str s) ∧ y = .d (.tuple (ss.map .str)) ∧ q (.d (.bool (decide (s ∈ ss)))) C
theorem dps_strs {G : Hp} : ∀ {ss : List Str} {vs : List V}, DpAll K G vs (ss.map .str) → vs = ss.map V.str
  | [], _, h => by
    cases h
    rfl
  | s :: r, _, h => by
    cases h with
    | cons h1 h2 =>
      cases h1
      rw [dps_strs h2]
      rfl
theorem dps_ints {G : Hp} : ∀ {ns : List Int} {vs : List V}, DpAll K G vs (ns.map .int) → vs = ns.map V.int
  | [], _, h => by
    cases h
    rfl
  | s :: r, _, h => by
    cases h with
    | cons h1 h2 =>
      cases h1
      rw [dps_ints h2]
      rfl
theorem flat_strs : ∀ ss : List Str, (ss.map V.str).all flatV = true
  | [] => rfl
  | s :: r => by
    rw [List.map_cons, List.all_cons, flat_strs r]
    rfl
theorem inV_strs (s : Str) : ∀ ss : List Str, inV (.str s) (ss.map V.str) = decide (s ∈ ss)
  | [] => by simp [inV]
  | x :: r => by
    have ih := inV_strs s r
    unfold inV at ih ⊢
    rw [List.map_cons, List.any_cons, ih]
    show ((x == s) || decide (s ∈ r)) = decide (s ∈ x :: r)
    by_cases h : x = s
    · subst h
      simp
    · have h2 : ¬ s = x := fun e => h e.symm
      simp [h, h2]
theorem snd_inS : Snd2 K (rIn K false) arInS := fun G C H v w x y q Q R h1 h2 h fin => by
  obtain ⟨s, ss, rfl, rfl, h⟩ := h
  cases h1
  cases h2 with
  | tup t rs =>
    have e := dps_strs rs
    subst e
    refine ⟨_, _, rfl, .inr (sqT_mono R.ex t), rfl, flat_strs ss, ?_⟩
    rw [if_neg Bool.false_ne_true, inV_strs]
    exact fin _ _ G C H (Stp.refl R) rv_bl h
theorem ap_inS (ha : APE X P a aa) (hb : APE X P b ab) (hm : behindInMarks .In b = false := by rfl) : APE X P (.Compare a [.In] [b] pos) (aOp arInS aa ab) := ape_cmp op_in_seq snd_inS ha hb hm
/-- an own list, as data -/
def AsD (C : Cs) : AV → PyData → Prop
  | .d x, y => y = x
  | .r p, y => ∃ xs : List PyData, C p = some (.l (xs.map AV.d)) ∧ y = .list xs
theorem AsD.dp {G H : Hp} {C : Cs} {v : V} {x : AV} {y : PyData} (R : Rel K G C H) (r : Rv K G v x) (h : AsD C x y) : Dp K H v y := by
  cases x with
  | d x =>
    cases (show y = x from h)
    exact dp_mono R.ex _ _ r
  | r p =>
    obtain ⟨xs, e, rfl⟩ := h
    obtain ⟨g, vs, eh, rs⟩ := R.cell p _ e
    cases r
    exact .lst (SqL.of eh) (dps_mono R.ex _ _ rs.dps)
def arEqL (neg : Bool) : AR := fun x y C q => ∃ d f, AsD C x d ∧ AsD C y f ∧ SeqAt.shaped d = true ∧ SeqAt.shaped f = true ∧ q (.d (.bool (neg ^^ PyData.eqv d f))) C
theorem snd_eqL : Snd2 K (rEqD K) (arEqL false) := fun G C H v w x y q Q R h1 h2 h fin => by
  obtain ⟨d, f, hd, hf, sd, sf, h⟩ := h
  exact ⟨d, f, AsD.dp R h1 hd, AsD.dp R h2 hf, sd, sf, fin _ _ G C H (Stp.refl R) rv_bl (by simpa using h)⟩
theorem snd_neL : Snd2 K (rNeD K) (arEqL true) := fun G C H v w x y q Q R h1 h2 h fin => by
  obtain ⟨d, f, hd, hf, sd, sf, h⟩ := h
  exact ⟨d, f, AsD.dp R h1 hd, AsD.dp R h2 hf, sd, sf, fin _ _ G C H (Stp.refl R) rv_bl (by simpa using h)⟩
theorem at_eqL (hu : X.A.units + 64 < cLine) (ha : APE X P a aa) (hb : APE X P b ab) : APT X P (.Compare a [.Eq] [b] pos) (aTest (aOp (arEqL false) aa ab)) := apt_cmp (op_eqD hu) snd_eqL ha hb (nomark _)
theorem at_neL (hu : X.A.units + 64 < cLine) (ha : APE X P a aa) (hb : APE X P b ab) : APT X P (.Compare a [.NotEq] [b] pos) (aTest (aOp (arEqL true) aa ab)) := apt_cmp (op_neD hu) snd_neL ha hb (nomark _)

/-! ### + and * of tuples and of list cells -/
def arCatT : AR := fun x y C q => match x, y with
  | .d (.tuple xs), .d (.tuple ys) => xs.length + ys.length ≤ 1000 ∧ q (.d (.tuple (xs ++ ys))) C
  | _, _ => False
theorem dps_app {G : Hp} : ∀ {vs ws : List V} {xs ys : List PyData}, DpAll K G vs xs → DpAll K G ws ys → DpAll K G (vs ++ ws) (xs ++ ys)
  | _, _, _, _, .nil, s => s
  | _, _, _, _, .cons r t, s => .cons r (dps_app t s)
theorem dps_len {G : Hp} {vs : List V} {xs : List PyData} (h : DpAll K G vs xs) : vs.length = xs.length := Paired.length (dps_paired h)
theorem snd_catT : Snd2 K (rCatA K) arCatT := fun G C H v w x y q Q R h1 h2 h fin => by
  cases x with
  | r a => exact h.elim
  | d x =>
    cases x with
    | tuple xs =>
      cases y with
      | r a => exact h.elim
      | d y =>
        cases y with
        | tuple ys =>
          obtain ⟨hl, h⟩ := h
          cases h1 with
          | tup s rs =>
            cases h2 with
            | tup t ts =>
              refine ⟨_, _, _, _, rfl, rfl, sqT_mono R.ex s, sqT_mono R.ex t, by rw [dps_len rs, dps_len ts]; exact sz1000 hl, fun e => ?_, fun _ e => ?_, fun _ _ p np => ?_⟩
              · subst e
                cases rs
                exact fin _ _ G C H (Stp.refl R) (rv_d (.tup t ts)) h
              · subst e
                cases ts
                rw [List.append_nil] at h
                exact fin _ _ G C H (Stp.refl R) (rv_d (.tup s rs)) h
              · exact fin _ _ _ C _ (Stp.data R np) (rv_d (dp_new (R.none np).1 (dps_app rs ts))) h
        | _ => exact h.elim
    | _ => exact h.elim
theorem ap_catT (ha : APE X P a aa) (hb : APE X P b ab) : APE X P (.BinOp a .Add b pos) (aOp arCatT aa ab) := ape_op op_catA snd_catT ha hb
def arCatC : AR := fun x y C q => ∃ (p p' : Addr) (xs ys : List AV), x = .r p ∧ y = .r p' ∧ C p = some (.l xs) ∧ C p' = some (.l ys) ∧ xs.length + ys.length ≤ 1000 ∧ ∀ l, C l = none → q (.r l) (cup C l (.l (xs ++ ys)))
theorem snd_catC : Snd2 K rCat arCatC := fun G C H v w x y q Q R h1 h2 h fin => by
  obtain ⟨p, p', xs, ys, rfl, rfl, e1, e2, hl, h⟩ := h
  obtain ⟨_, vs, f1, r1⟩ := R.cell p _ e1
  obtain ⟨_, ws, f2, r2⟩ := R.cell p' _ e2
  cases h1
  cases h2
  exact ⟨p, p', vs, ws, rfl, rfl, f1, f2, by rw [r1.length, r2.length]; exact sz1000 hl, fun l nl => fin _ _ _ _ _ (Stp.cell (c := .l (xs ++ ys)) R nl ⟨vs ++ ws, upd_same, papp r1 r2⟩) rv_r (h l (R.none nl).2)⟩
theorem ap_catC (ha : APE X P a aa) (hb : APE X P b ab) : APE X P (.BinOp a .Add b pos) (aOp arCatC aa ab) := ape_op op_cat snd_catC ha hb
theorem rep_pair {α β : Type} {F : α → β → Prop} {vs : List α} {xs : List β} (h : Paired F vs xs) : ∀ n, Paired F (List.replicate n vs).flatten (List.replicate n xs).flatten
  | 0 => .nil
  | n + 1 => by
    rw [List.replicate_succ, List.replicate_succ, List.flatten_cons, List.flatten_cons]
    exact papp h (rep_pair h n)
def arRepC : AR := fun x y C q => ∃ (p : Addr) (k : Int) (xs : List AV), x = .r p ∧ y = .d (.int k) ∧ C p = some (.l xs) ∧ 0 ≤ k ∧ k ≤ 1000 ∧ xs.length ≤ 1000 ∧ ∀ l, C l = none → q (.r l) (cup C l (.l (List.replicate k.toNat xs).flatten))
theorem snd_repC : Snd2 K rRep arRepC := fun G C H v w x y q Q R h1 h2 h fin => by
  obtain ⟨p, k, xs, rfl, rfl, e1, k0, k1, hl, h⟩ := h
  obtain ⟨_, vs, f1, r1⟩ := R.cell p _ e1
  cases h1
  cases h2
  refine ⟨p, k, vs, rfl, rfl, f1, by omega, by omega, ?_, fun l nl => fin _ _ _ _ _ (Stp.cell (c := .l _) R nl ⟨_, upd_same, rep_pair r1 k.toNat⟩) rv_r (h l (R.none nl).2)⟩
  rw [r1.length]
  have h3 : k.toNat ≤ 1000 := by omega
  exact Nat.le_trans (Nat.mul_le_mul hl h3) (by decide)
theorem ap_repC (ha : APE X P a aa) (hb : APE X P b ab) : APE X P (.BinOp a .Mult b pos) (aOp arRepC aa ab) := ape_op op_rep snd_repC ha hb
def arRepT : AR := fun x y C q => ∃ (k : Int) (xs : List PyData), x = .d (.tuple xs) ∧ y = .d (.int k) ∧ xs ≠ [] ∧ 2 ≤ k ∧ k ≤ 1000 ∧ xs.length ≤ 1000 ∧ q (.d (.tuple (List.replicate k.toNat xs).flatten)) C
theorem snd_repT : Snd2 K (rRepT K) arRepT := fun G C H v w x y q Q R h1 h2 h fin => by
  obtain ⟨k, xs, rfl, rfl, hn, k0, k1, hl, h⟩ := h
  cases h2
  cases h1 with
  | tup s rs =>
    refine ⟨_, k, _, rfl, rfl, sqT_mono R.ex s, fun e => ?_, k0, k1, by rw [dps_len rs]; exact hl, fun p np => fin _ _ _ C _ (Stp.data R np) (rv_d (dp_new (R.none np).1 (dps_of (rep_pair (dps_paired rs) k.toNat)))) h⟩
    subst e
    cases rs
    exact hn rfl
theorem ap_repT (ha : APE X P a aa) (hb : APE X P b ab) : APE X P (.BinOp a .Mult b pos) (aOp arRepT aa ab) := ape_op op_repT snd_repT ha hb

/-! ### slices [:e] -/
def aSl (r : AR) (a b : AE) : AE := aOp r a b
def arSlT : AR := fun x y C q => ∃ (xs : List PyData) (j : Int), x = .d (.tuple xs) ∧ y = .d (.int j) ∧ 0 ≤ j ∧ q (.d (.tuple (xs.take j.toNat))) C
def arSlC : AR := fun x y C q => ∃ (p : Addr) (xs : List AV) (j : Int), x = .r p ∧ y = .d (.int j) ∧ C p = some (.l xs) ∧ 0 ≤ j ∧ ∀ l, C l = none → q (.r l) (cup C l (.l (xs.take j.toNat)))
theorem cutV_take {xs : List V} {j : Int} (h : 0 ≤ j) : cutV xs none (some j) = xs.take j.toNat := by
  obtain ⟨n, rfl⟩ : ∃ n : Nat, j = n := ⟨j.toNat, by omega⟩
  unfold cutV
  rw [HT.sIx_nat, HT.sIx_none, List.drop_zero, Nat.sub_zero, Int.toNat_natCast]
  by_cases c : n ≤ xs.length
  · rw [Nat.min_eq_left c]
  · rw [Nat.min_eq_right (by omega), List.take_of_length_le (Nat.le_refl _), List.take_of_length_le (by omega)]
theorem dps_take {G : Hp} {vs : List V} {xs : List PyData} (h : DpAll K G vs xs) (n : Nat) : DpAll K G (vs.take n) (xs.take n) := dps_of (ptake n (dps_paired h))
theorem ap_slT {hi : Expr} (ha : APE X P a aa) (hb : APE X P hi ab) : APE X P (.Subscript a (.Slice none (some hi) none p2) pos) (aSl arSlT aa ab) :=
  pe_mono (pe_slice sl_tupA ha po_none (po_some hb)) fun σ H Q h => by
    obtain ⟨G, C, ρ, q, hA, hw, fin⟩ := h
    refine ⟨G, C, ρ, _, hA, hw, fun v x G1 C1 H1 s1 r1 h1 => ?_⟩
    refine ⟨G1, C1, ρ, _, hA.step s1, h1, fun w y G2 C2 H2 s2 r2 h2 => ?_⟩
    obtain ⟨xs, j, rfl, rfl, hj, h2⟩ := h2
    cases r2
    refine ⟨j, rfl, ?_⟩
    cases r1 with
    | tup s rs =>
      refine ⟨_, _, rfl, sqT_mono (fun b o z => s2.rel.ex b o (s2.ex b o z)) s, fun e => ?_, fun _ p np => ?_⟩
      · have e2 := e.2
        have e3 := cutV_take (xs := ‹List V›) hj
        have e4 := dps_len rs
        obtain ⟨n, rfl⟩ : ∃ n : Nat, j = n := ⟨j.toNat, by omega⟩
        rw [HT.sIx_nat] at e2
        have e5 : xs.take ((n : Int)).toNat = xs := List.take_of_length_le (by rw [Int.toNat_natCast]; omega)
        rw [e5] at h2
        exact fin _ _ G2 C2 H2 (s1.trans s2) (rv_d (.tup (sqT_mono s2.ex s) (dps_mono s2.ex _ _ rs))) h2
      · rw [cutV_take hj]
        exact fin _ _ _ _ _ ((s1.trans s2).trans (Stp.data s2.rel np)) (rv_d (dp_new (s2.rel.none np).1 (dps_take (dps_mono s2.ex _ _ rs) _))) h2
theorem ap_slC {hi : Expr} (ha : APE X P a aa) (hb : APE X P hi ab) : APE X P (.Subscript a (.Slice none (some hi) none p2) pos) (aSl arSlC aa ab) :=
  pe_mono (pe_slice sl_list ha po_none (po_some hb)) fun σ H Q h => by
    obtain ⟨G, C, ρ, q, hA, hw, fin⟩ := h
    refine ⟨G, C, ρ, _, hA, hw, fun v x G1 C1 H1 s1 r1 h1 => ?_⟩
    refine ⟨G1, C1, ρ, _, hA.step s1, h1, fun w y G2 C2 H2 s2 r2 h2 => ?_⟩
    obtain ⟨p, xs, j, rfl, rfl, e, hj, h2⟩ := h2
    cases r2
    cases r1
    refine ⟨j, rfl, ?_⟩
    obtain ⟨_, vs, f1, rs⟩ := s2.rel.cell p _ e
    refine ⟨p, vs, rfl, SqL.of f1, fun l nl => ?_⟩
    rw [cutV_take hj]
    exact fin _ _ _ _ _ ((s1.trans s2).trans (Stp.cell (c := .l _) s2.rel nl ⟨_, upd_same, ptake j.toNat rs⟩)) rv_r (h2 l (s2.rel.none nl).2)

/-! ### calls of built-ins -/
abbrev ACR := List AV → Cs → (AV → Cs → Prop) → Prop
def SndC (K : PySem.W.Frag) (r : List V → Hp → VK → Prop) (ac : ACR) : Prop := ∀ G C H vs avs (q : AV → Cs → Prop) (Q : VK), Rel K G C H → Rvs K G vs avs → ac avs C q →
  (∀ z az G' C' H', Stp K G C H G' C' H' → Rv K G' z az → q az C' → Q z H') → r vs H Q
def aCB (r : ACR) (t : AA) : AE := fun ρ C q => t ρ C fun avs C1 => r avs C1 q
theorem gE_cb {r : List V → Hp → VK → Prop} {acr : ACR} (hs : SndC K r acr) {σ : L2.St} {H : Hp} {Q : VK} (h : gE K P (aCB acr ar) σ H Q) : tCB r (gA K P ar) σ H Q := by
  obtain ⟨G, C, ρ, q, hA, hw, fin⟩ := h
  refine ⟨G, C, ρ, _, hA, hw, fun vs avs G1 C1 H1 s1 r1 h1 => ?_⟩
  exact hs G1 C1 H1 vs avs q Q s1.rel r1 h1 fun z az G2 C2 H2 s2 r2 h2 => fin z az G2 C2 H2 (s1.trans s2) r2 h2
variable {x : Str} {p : Pos} {id T : String} {r : List V → Hp → VK → Prop} {acr : ACR}
theorem ap_cb (hc : CallR X (.builtin id) r) (hs : SndC X.K r acr) (hm : X.mg x = none) (hv : bootBuiltins x = some (.builtin id)) (ha : APA X P (e :: es) ar) (hg : Gl X x := by rfl) (hn : x ≠ "__name__" := by decide) (hdb : (x == ("__debug__" : Str)) = false := by decide)
    (he : starEach (e :: es) X.env = (false, eval e X.env) :: starEach es X.env := by rfl) (hpl : (backTo pos (starEach es X.env)).any (·.1) = false := by rfl) : APE X P (.Call (.Name x p) (e :: es) [] pos) (aCB acr ar) :=
  pe_mono (pe_callB hc hg hm hv ha hn hdb he hpl) fun σ H Q h => gE_cb hs h
theorem ap_cty (hc : CallR X (.type T) r) (hs : SndC X.K r acr) (hm : X.mg x = none) (hv : bootBuiltins x = some (.type T)) (ha : APA X P (e :: es) ar) (hg : Gl X x := by rfl) (hn : x ≠ "__name__" := by decide) (hdb : (x == ("__debug__" : Str)) = false := by decide)
    (he : starEach (e :: es) X.env = (false, eval e X.env) :: starEach es X.env := by rfl) (hpl : (backTo pos (starEach es X.env)).any (·.1) = false := by rfl) : APE X P (.Call (.Name x p) (e :: es) [] pos) (aCB acr ar) :=
  pe_mono (pe_callTy hc hg hm hv ha hn hdb he hpl) fun σ H Q h => gE_cb hs h
/-- len -/
def acLen : ACR := fun avs C q => match avs with
  | [.d (.tuple xs)] => q (.d (.int xs.length)) C
  | [.d (.list xs)] => q (.d (.int xs.length)) C
  | [.r p] => ∃ xs, C p = some (.l xs) ∧ q (.d (.int xs.length)) C
  | _ => False
theorem snd_len : SndC K (fun xs H Q => ∃ p ys, xs = [.ref p] ∧ (SqL K H p ys ∨ SqT K H p ys) ∧ Q (.int ys.length) H) acLen := fun G C H vs avs q Q R rv h fin => by
  unfold acLen at h
  split at h
  · cases rv with
    | cons r1 r2 =>
      cases r2
      cases r1 with
      | tup s rs =>
        refine ⟨_, _, rfl, .inr (sqT_mono R.ex s), ?_⟩
        rw [dps_len rs]
        exact fin _ _ G C H (Stp.refl R) rv_int h
  · cases rv with
    | cons r1 r2 =>
      cases r2
      cases r1 with
      | lst s rs =>
        refine ⟨_, _, rfl, .inl (Same.seq R.ex s), ?_⟩
        rw [dps_len rs]
        exact fin _ _ G C H (Stp.refl R) rv_int h
  · obtain ⟨xs, e, h⟩ := h
    obtain ⟨_, ws, f1, rs⟩ := R.cell _ _ e
    cases rv with
    | cons r1 r2 =>
      cases r2
      cases r1
      refine ⟨_, _, rfl, .inl (SqL.of f1), ?_⟩
      rw [rs.length]
      exact fin _ _ G C H (Stp.refl R) rv_int h
  · exact h.elim
theorem ap_len (hm : X.mg "len" = none) (ha : APE X P e ae) (hg : Gl X "len" := by rfl) (he : starEach [e] X.env = (false, eval e X.env) :: starEach [] X.env := by rfl) (hpl : (backTo pos (starEach [] X.env)).any (·.1) = false := by rfl) :
    APE X P (.Call (.Name "len" p) [e] [] pos) (aCB acLen (aCons ae aNil)) := ap_cb call_len_seq snd_len hm PySem.boot_len (apa_cons ha apa_nil he) hg (by decide) (by decide) he hpl
/-- min of two ints, gcd, int of an int -/
def ac2I (f : Int → Int → Int) : ACR := fun avs C q => match avs with
  | [.d (.int i), .d (.int j)] => q (.d (.int (f i j))) C
  | _ => False
theorem snd_2I {f : Int → Int → Int} : SndC K (fun xs H Q => ∃ i j, xs = [.int i, .int j] ∧ Q (.int (f i j)) H) (ac2I f) := fun G C H vs avs q Q R rv h fin => by
  unfold ac2I at h
  split at h
  · cases rv with
    | cons r1 r2 =>
      cases r2 with
      | cons r2 r3 =>
        cases r3
        cases r1
        cases r2
        exact ⟨_, _, rfl, fin _ _ G C H (Stp.refl R) rv_int h⟩
  · exact h.elim
def acInt : ACR := fun avs C q => match avs with
  | [.d (.int i)] => q (.d (.int i)) C
  | _ => False
theorem snd_int : SndC K (fun xs H Q => (∃ i, xs = [.int i] ∧ Q (.int i) H) ∨ ∃ k, xs = [.bl k] ∧ Q (.int (if k then 1 else 0)) H) acInt := fun G C H vs avs q Q R rv h fin => by
  unfold acInt at h
  split at h
  · cases rv with
    | cons r1 r2 =>
      cases r2
      cases r1
      exact .inl ⟨_, rfl, fin _ _ G C H (Stp.refl R) rv_int h⟩
  · exact h.elim
theorem ap_int (hm : X.mg "int" = none) (ha : APE X P e ae) (hg : Gl X "int" := by rfl) (he : starEach [e] X.env = (false, eval e X.env) :: starEach [] X.env := by rfl) (hpl : (backTo pos (starEach [] X.env)).any (·.1) = false := by rfl) :
    APE X P (.Call (.Name "int" p) [e] [] pos) (aCB acInt (aCons ae aNil)) := ap_cty call_int1 snd_int hm (by decide +kernel) (apa_cons ha apa_nil he) hg (by decide) (by decide) he hpl
/-- sum of ints -/
def acSum : ACR := fun avs C q => ∃ ns : List Int, avs = [.d (.list (ns.map .int))] ∧ q (.d (.int ns.sum)) C
theorem snd_sum : SndC K (rSum K) acSum := fun G C H vs avs q Q R rv h fin => by
  obtain ⟨ns, rfl, h⟩ := h
  cases rv with
  | cons r1 r2 =>
    cases r2
    cases r1 with
    | lst s rs =>
      have e := dps_ints rs
      subst e
      exact ⟨_, ns, rfl, Same.seq R.ex s, fin _ _ G C H (Stp.refl R) rv_int h⟩
theorem ap_sum (hc : X.calm = true) (hm : X.mg "sum" = none) (ha : APE X P e ae) (hg : Gl X "sum" := by rfl) (he : starEach [e] X.env = (false, eval e X.env) :: starEach [] X.env := by rfl) (hpl : (backTo pos (starEach [] X.env)).any (·.1) = false := by rfl) :
    APE X P (.Call (.Name "sum" p) [e] [] pos) (aCB acSum (aCons ae aNil)) := ap_cb (cr_sum hc) snd_sum hm (by decide +kernel) (apa_cons ha apa_nil he) hg (by decide) (by decide) he hpl
/-- tuple(a list) -/
def acTup : ACR := fun avs C q => ∃ x xs, avs = [x] ∧ AsD C x (.list xs) ∧ q (.d (.tuple xs)) C
theorem snd_tup : SndC K (fun xs H Q => ∃ p ys, xs = [.ref p] ∧ ((SqL K H p ys ∧ ∀ l, H l = none → Q (.ref l) (upd H l (.tup ys))) ∨ (SqT K H p ys ∧ Q (.ref p) H))) acTup := fun G C H vs avs q Q R rv h fin => by
  obtain ⟨x, xs, rfl, hx, h⟩ := h
  cases rv with
  | cons r1 r2 =>
    cases r2
    cases x with
    | d x =>
      cases (show PyData.list xs = x from hx)
      cases r1 with
      | lst s rs => exact ⟨_, _, rfl, .inl ⟨Same.seq R.ex s, fun l nl => fin _ _ _ C _ (Stp.data R nl) (rv_d (dp_new (R.none nl).1 rs)) h⟩⟩
    | r p =>
      obtain ⟨ys, e, e2⟩ := hx
      cases e2
      obtain ⟨_, ws, f1, rs⟩ := R.cell p _ e
      cases r1
      exact ⟨p, ws, rfl, .inl ⟨SqL.of f1, fun l nl => fin _ _ _ C _ (Stp.data R nl) (rv_d (dp_new (R.none nl).1 rs.dps)) h⟩⟩
theorem ap_tuple (hm : X.mg "tuple" = none) (ha : APE X P e ae) (hg : Gl X "tuple" := by rfl) (he : starEach [e] X.env = (false, eval e X.env) :: starEach [] X.env := by rfl) (hpl : (backTo pos (starEach [] X.env)).any (·.1) = false := by rfl) :
    APE X P (.Call (.Name "tuple" p) [e] [] pos) (aCB acTup (aCons ae aNil)) := ap_cty call_tuple_of snd_tup hm (by decide +kernel) (apa_cons ha apa_nil he) hg (by decide) (by decide) he hpl
theorem ap_min (hc : X.calm = true) (hm : X.mg "min" = none) (ha : APA X P (e :: es) ar) (hg : Gl X "min" := by rfl) (he : starEach (e :: es) X.env = (false, eval e X.env) :: starEach es X.env := by rfl) (hpl : (backTo pos (starEach es X.env)).any (·.1) = false := by rfl) :
    APE X P (.Call (.Name "min" p) (e :: es) [] pos) (aCB (ac2I fun i j => if j < i then j else i) ar) := ap_cb (call_min2 hc) snd_2I hm (by decide +kernel) ha hg (by decide) (by decide) he hpl
theorem ap_gcd (hm : X.mg "gcd" = some (.builtin "math.gcd")) (ha : APA X P (e :: es) ar) (hg : Gl X "gcd" := by rfl) (he : starEach (e :: es) X.env = (false, eval e X.env) :: starEach es X.env := by rfl) (hpl : (backTo pos (starEach es X.env)).any (·.1) = false := by rfl) :
    APE X P (.Call (.Name "gcd" p) (e :: es) [] pos) (aCB (ac2I fun i j => ((Nat.gcd i.natAbs j.natAbs : Nat) : Int)) ar) :=
  pe_mono (pe_callBfun cr_gcd hg hm ha (by decide) he hpl) fun σ H Q h => gE_cb snd_2I h

/-! ### isinstance(e, T), T a built-in class -/
def tyD : PyData → String
  | .none => "NoneType"
  | .bool _ => "bool"
  | .int _ => "int"
  | .str _ => "str"
  | .list _ => "list"
  | .tuple _ => "tuple"
  | .dict _ => "dict"
def isD (T : String) : PyData → Bool
  | .bool _ => T == "bool" || T == "int"
  | x => T == tyD x
def aIsi (T : String) (a : AE) : AE := fun ρ C q => a ρ C fun x C1 => match x with
  | .d x => q (.d (.bool (isD T x))) C1
  | .r _ => False
theorem dp_ty {H : Hp} {v : V} {x : PyData} (h : Dp K H v x) : TyX K H v (.type (tyD x)) := by
  cases h with
  | non => exact .base .non
  | bl b => exact .base (.bl b)
  | int i => exact .base (.int i)
  | str s => exact .base (.str s)
  | lst s _ =>
    rcases s with (s | ⟨o, s⟩) | ⟨o, its, n, l, c, _⟩
    · exact .base (.lst s)
    · exact .base (.frz s)
    · exact .kList l c
  | tup s _ =>
    rcases s with (s | ⟨o, s⟩) | ⟨o, its, n, l, c, _⟩
    · exact .base (.tup s)
    · exact .fTuple s
    · exact .kTuple l c
theorem ap_isi {px pt : Pos} {tn : Str} (T : String) (hT : T = "int" ∨ T = "bool" ∨ T = "tuple" ∨ T = "str") (hk : ∀ x : PyData, PySem.W.kitOne X.K (.type (tyD x)) (.type T) = some (isD T x)) (hm : X.mg "isinstance" = none) (hmt : X.mg tn = none) (hv : bootBuiltins tn = some (.type T))
    (ha : APE X P a ae) (hg : Gl X "isinstance" := by rfl) (hgt : Gl X tn := by rfl) (hn : tn ≠ "__name__" := by decide) (hdb : (tn == ("__debug__" : Str)) = false := by decide)
    (he : starEach [a, .Name tn pt] X.env = (false, eval a X.env) :: starEach [.Name tn pt] X.env := by rfl) (he2 : starEach [.Name tn pt] X.env = (false, eval (.Name tn pt) X.env) :: starEach [] X.env := by rfl)
    (hpl : (backTo pos (starEach [.Name tn pt] X.env)).any (·.1) = false := by rfl) : APE X P (.Call (.Name "isinstance" px) [a, .Name tn pt] [] pos) (aIsi T ae) :=
  pe_mono (pe_callB call_isi hg hm (by decide +kernel) (pa_cons ha (pa_cons (pe_bltn (v := .ty T) hgt hmt hv rfl hn hdb) pa_nil he2) he) (by decide) (by decide) he hpl) fun σ H Q h => by
    obtain ⟨G, C, ρ, q, hA, hw, fin⟩ := h
    refine ⟨G, C, ρ, _, hA, hw, fun v x G1 C1 H1 s1 r1 h1 => ?_⟩
    cases x with
    | r a => exact h1.elim
    | d x => exact ⟨v, .ty T, _, _, _, rfl, .ty T, dp_ty (dp_mono s1.rel.ex _ _ r1), hk x, fin _ _ G1 C1 H1 s1 rv_bl h1⟩

/-! ### methods of lists -/
def aApp (o e : AE) : AE := fun ρ C q => o ρ C fun x C1 => ∃ p xs0, x = .r p ∧ C1 p = some (.l xs0) ∧ e ρ C1 fun y C2 => ∃ xs, C2 p = some (.l xs) ∧ xs.length < 100000 ∧ q (.d .none) (cup C2 p (.l (xs ++ [y])))
theorem ap_append {apos : Pos} {pl : Sem Bool} (ho : APE X P o ao) (he : APE X P e ae) (hs : starEach [e] X.env = (false, eval e X.env) :: starEach [] X.env := by rfl)
    (hp : PE X (.Call (.Attribute o "append" apos) [e] [] pos) (tBM X.K "list" rAppend (gE X.K P ao) (tCons (gE X.K P ae) tNil))) : APE X P (.Call (.Attribute o "append" apos) [e] [] pos) (aApp ao ae) :=
  pe_mono hp fun σ H Q h => by
    obtain ⟨G, C, ρ, q, hA, hw, fin⟩ := h
    refine ⟨G, C, ρ, _, hA, hw, fun v x G1 C1 H1 s1 r1 h1 => ?_⟩
    obtain ⟨p, xs0, rfl, e0, h1⟩ := h1
    obtain ⟨_, vs0, f0, _⟩ := s1.rel.cell p _ e0
    cases r1
    refine ⟨.inl ⟨rfl, _, SqL.of f0⟩, ?_⟩
    refine ⟨G1, C1, ρ, _, hA.step s1, h1, fun w y G2 C2 H2 s2 r2 h2 => ?_⟩
    obtain ⟨xs, e2, hl, h2⟩ := h2
    obtain ⟨_, vs, f2, rs⟩ := s2.rel.cell p _ e2
    refine ⟨p, vs, w, rfl, rfl, f2, by rw [rs.length]; exact Nat.lt_of_lt_of_le hl (by decide), ?_⟩
    exact fin _ _ _ _ _ ((s1.trans s2).trans (Stp.put (c := .l (xs ++ [y])) s2.rel e2 ⟨_, upd_same, papp rs (.cons r2 .nil)⟩)) rv_non h2
def aPop (o : AE) : AE := fun ρ C q => o ρ C fun x C1 => ∃ p xs y, x = .r p ∧ C1 p = some (.l (xs ++ [y])) ∧ q y (cup C1 p (.l xs))
theorem ap_pop {apos : Pos} (ho : APE X P o ao) (hp : PE X (.Call (.Attribute o "pop" apos) [] [] pos) (tBM0 X.K "list" rPop (gE X.K P ao))) : APE X P (.Call (.Attribute o "pop" apos) [] [] pos) (aPop ao) :=
  pe_mono hp fun σ H Q h => by
    obtain ⟨G, C, ρ, q, hA, hw, fin⟩ := h
    refine ⟨G, C, ρ, _, hA, hw, fun v x G1 C1 H1 s1 r1 h1 => ?_⟩
    obtain ⟨p, xs, y, rfl, e0, h1⟩ := h1
    obtain ⟨_, vs0, f0, rs⟩ := s1.rel.cell p _ e0
    cases r1
    obtain ⟨w, hw2, rw2⟩ := pget (i := xs.length) (y := y) rs (by simp)
    have hlen : vs0.length = xs.length + 1 := by rw [rs.length, List.length_append]; rfl
    have hd : Rvs X.K G1 vs0.dropLast xs := by
      have z := ptake xs.length rs
      rw [List.take_left] at z
      rw [List.dropLast_eq_take, hlen]
      exact z
    refine ⟨.inl ⟨rfl, _, SqL.of f0⟩, p, vs0, w, rfl, rfl, f0, ?_, ?_⟩
    · rw [hlen]
      exact hw2
    · exact fin _ _ _ _ _ (s1.trans (Stp.put (c := .l xs) s1.rel e0 ⟨_, upd_same, hd⟩)) rw2 h1
end
end AB

set_option Elab.async false
set_option linter.all false
set_option maxRecDepth 100000
set_option maxHeartbeats 4000000
/-! enumerate of a tuple, in a for. -/
namespace AB
open PySem PySem.Spec PyProof.Rows L2
theorem meets_enumT {v : Value} {o : Obj} {H : Heap → Prop} (B : Begins v o H) :
    Meets (Builtin.«enumerate.__new__» ⟨[.type "enumerate", v], []⟩) (fun _ R s => H s.heap ∧
      R (.ok (.ret (.ref (s.heap.push o).objs.size))) { s with heap := (s.heap.push o).push { cls := .type "enumerate", data := .fields #[.none, .bool false, .ref s.heap.objs.size, rawInt 0, .none, .none] } }) :=
  .of_wp fun prog w A R s h => by
    obtain ⟨hp, g, d, tk, os⟩ := s
    obtain ⟨h1, h⟩ := h
    have hsub := sub_enumerate
    have begins : ∀ {A' : Around} {E : Value → Shared → Prop} {Q : Value → Shared → Prop}, Q (.ref hp.objs.size) ⟨hp.push o, g, d, tk, os⟩ → wpAny (model prog w) A' (pyIter v) Q E ⟨hp, g, d, tk, os⟩ :=
      fun q => B.iter prog w _ _ ⟨hp, g, d, tk, os⟩ _ h1 q
    wp_walk using begins
    refine wpAny_stack_any fun st => wpAny_pure ?_
    split
    · rename_i c _ _ _ _ _
      cases (c == Value.type "enumerate")
      · wp_walk using begins
        exact ⟨_, rfl, h⟩
      · wp_walk using begins
        exact ⟨_, rfl, h⟩
    · wp_walk using begins
      exact ⟨_, rfl, h⟩
section
variable {prog : Program} {w : World} {A : Around} {E : Value → Shared → Prop} {s : Shared}
theorem call_enumT {v : Value} {o : Obj} {H : Heap → Prop} {Q : Value → Shared → Prop} (B : Begins v o H) (h1 : H s.heap)
    (h : ∀ h', IsEnum h' (s.heap.objs.size + 1) s.heap.objs.size 0 .none → h'.get? s.heap.objs.size = some o →
      (∀ b u, s.heap.get? b = some u → h'.get? b = some u) → Q (.ref (s.heap.objs.size + 1)) { s with heap := h' }) :
    wpAny (model prog w) A (call (.type "enumerate") [v]) Q E s := by
  refine callType_new F.called_enumerate (by decide) (F.typeCall_enumerate_1 _) (F.newCall_enumerate_1 _) (fun obj => F.args_object_init_2 obj _) F.entry_enumerate_new (meets_enumT B) ⟨h1, ?_⟩
  have hz : (s.heap.push o).objs.size = s.heap.objs.size + 1 := Heap.size_push ..
  show _ ∧ _
  rw [hz]
  have he : IsEnum ((s.heap.push o).push { cls := .type "enumerate", data := .fields #[.none, .bool false, .ref s.heap.objs.size, rawInt 0, .none, .none] }) (s.heap.objs.size + 1) s.heap.objs.size 0 .none := by
    have z := Heap.get?_push_size (s.heap.push o) (o := { cls := .type "enumerate", data := .fields #[.none, .bool false, .ref s.heap.objs.size, rawInt 0, .none, .none] }) rfl
    rw [hz] at z
    exact z
  exact ⟨⟨_, he, rfl⟩, h _ he (Heap.get?_push_of_some _ (Heap.get?_push_size _ B.free)) fun b u x => Heap.get?_push_of_some _ (Heap.get?_push_of_some _ x)⟩
end
/-- the items of the tuple at a, each in a new pair with its number -/
def IteT (K : PySem.W.Frag) (a : Addr) : It :=
  ⟨fun i H => ∃ (xs : List V) (x : V), SqT K H a xs ∧ xs[i]? = some x,
   fun i H v H' => ∃ T x, v = .ref T ∧ H T = none ∧ H' = upd H T (.tup [.int (i : Nat), x]) ∧ ∀ xs, SqT K H a xs → xs[i]? = some x,
   fun i H => ∃ xs : List V, SqT K H a xs ∧ xs.length = i⟩
theorem turn_enumT {P : Program} {w : World} {K : PySem.W.Frag} {elts : List Expr} {kk : Nat} {tpos : Pos} (a e it : Addr) :
    Turn P w K (.Tuple elts kk tpos) (IteT K a) [e, it] e (fun i h => (∃ old, IsEnum h e it ((i : Nat) : Int) old) ∧ h.IsTupleIter it a i ∧ e ≠ it ∧ a ≠ e ∧ a ≠ it) where
  mem := by simp
  obj := fun i h st b hb => by
    obtain ⟨⟨old, he⟩, ⟨o, ho, hc, hd⟩, _⟩ := st
    have z : b = e ∨ b = it := by simpa using hb
    rcases z with z | z
    · subst z
      exact ⟨_, he, fun v q => nomatch q⟩
    · subst z
      exact ⟨o, ho, fun v q => by
        rw [hd] at q
        cases q⟩
  keep := fun i h h' st k => by
    obtain ⟨⟨old, he⟩, hi, hne⟩ := st
    exact ⟨⟨old, k e (by simp) _ he⟩, hi.at fun o q => k it (by simp) o q, hne⟩
  item := by
    intro X hP hw hK hc i pins s σ H E I hf st hg
    subst hP hw hK
    obtain ⟨⟨old, he⟩, hit, hne, hae, hai⟩ := st
    obtain ⟨xs, x, hq, hx⟩ := hg
    obtain ⟨its, rv, p, hz⟩ := I.tuple hq
    obtain ⟨u, hu, ru⟩ := rv.get hx
    have hel : e < s.heap.objs.size := Heap.lt_size he
    have hil : it < s.heap.objs.size := by
      obtain ⟨_, q, _⟩ := hit
      exact Heap.lt_size q
    have hT : s.heap.IsTuple a its.toArray := p
    have hi : i < its.toArray.size := by
      have z := (List.getElem?_eq_some_iff.mp hu).1
      simpa using z
    refine wpAny_pyNext_enum_itemD (Draws.tuple (A := X.A.in1) (I.ok.hd hc) it a hai its.toArray) he ⟨hit, hT⟩ hi hne (by simp [hne, Ne.symm hae]) fun y h' tk hy ho hst hnew hsz hk => ?_
    have ey : y = u := by
      have z : its.toArray[i]? = some y := hy
      rw [List.getElem?_toArray, hu] at z
      exact (Option.some.inj z).symm
    subst ey
    refine ⟨_, rfl, wpAny_letOwnedTupleGo_enum (s := { s with heap := h', toks := tk + 1 }) ho fun h'' he' sb => ?_⟩
    have hT2 : h''.get? s.heap.objs.size = some { cls := .type "tuple", data := .seq #[.int i tk, y] } := (sb.2 _ (Nat.ne_of_gt hel)).trans hnew
    have new : ObjOk X.prog X.w (upd H s.heap.objs.size (.tup [.int (i : Nat), x])) h'' s.heap.objs.size (.tup [.int (i : Nat), x]) :=
      ⟨by show 2 ≤ sizeLine; decide, [.int i tk, y], .cons ⟨_, rfl⟩ (.cons ru .nil), ⟨_, hT2, rfl, _, rfl⟩⟩
    have I1 : Inv X pins σ (upd H s.heap.objs.size (.tup [.int (i : Nat), x])) { s with heap := h'', toks := tk + 1 } :=
      I.turnedNew (ch := [e, it]) (fun b ob hb q => (sb.2 b (fun z => hb (by simp [z]))).trans (hk b ob (fun z => hb (by simp [z])) (fun z => hb (by simp [z])) q)) hf (Nat.le_refl _) new
    refine ⟨.ref s.heap.objs.size, _, I1, rfl, ⟨_, x, rfl, I.hok.fresh (Nat.le_refl _), rfl, fun ys hy => by rw [I.tuple_inj hy hq]; exact hx⟩, ⟨⟨y, ?_⟩, hst.1.at fun o q => (sb.2 it (Ne.symm hne)).trans q, hne, hae, hai⟩, fun b hb => ?_⟩
    · have e1 : ((i + 1 : Nat) : Int) = (i : Int) + 1 := by omega
      rw [e1]
      exact he'
    · have hb' : b < s.heap.objs.size := by
        have z : b = e ∨ b = it := by simpa using hb
        rcases z with z | z
        · rw [z]
          exact hel
        · rw [z]
          exact hil
      rw [upd_ne (Nat.ne_of_lt hb')]
      exact (hf b hb).1
  done := by
    intro X hP hw hK hc i pins s σ H E I hf st hg
    subst hP hw hK
    obtain ⟨⟨old, he⟩, hit, hne, hae, hai⟩ := st
    obtain ⟨xs, hq, hx⟩ := hg
    obtain ⟨its, rv, p, hz⟩ := I.tuple hq
    obtain ⟨f0, f1, f2, f3, f4, f5⟩ := hf it (by simp)
    have hl := rv.length
    have hT : s.heap.IsTuple a its.toArray := p
    have e2 : its.toArray.size = i := by
      rw [List.size_toArray]
      omega
    have hit2 : s.heap.IsTupleIter it a its.toArray.size := by
      rw [e2]
      exact hit
    exact wpAny_pyNext_enum_endD (Draws.tuple (A := X.A.in1) (I.ok.hd hc) it a hai its.toArray) he ⟨hit2, hT⟩ fun h' eb => ⟨rfl, I.turned (t' := s.toks) (fun b o hb q => eb b o hb q) f0 f1 f3 f4 f5⟩
  self := fun A i s Q E st h => by
    obtain ⟨⟨_, he⟩, _⟩ := st
    exact wpAny_pyIter_enum he h
def iEnumT (K : PySem.W.Frag) (ta : TA) : TI := fun σ H R => ta σ H fun vs H1 => ∃ a xs, vs = [.ref a] ∧ SqT K H1 a xs ∧ R (IteT K a) H1
theorem pi_enumT {X : Cx} {e : Expr} {ta : TA} {p pos tpos : Pos} {elts : List Expr} {kk : Nat} (hg : Gl X "enumerate") (hm : X.mg "enumerate" = none) (ha : PA X [e] ta) (hs : starEach [e] X.env = [(false, eval e X.env)] := by rfl) :
    PI X (.Tuple elts kk tpos) (.Call (.Name "enumerate" p) [e] [] pos) (iEnumT X.K ta) := by
  refine ⟨fun pins s σ H R I h => ?_⟩
  refine Call_ (ld_blt I hg hm boot_enumerate (PyProof.Rows.callWith_type1 (thn (ha.run pos pins s σ H _ I h) fun us s1 ⟨vs, H1, I1, r1, q1⟩ => ?_) hs rfl))
  obtain ⟨a, xs, ex, hq, q⟩ := q1
  subst ex
  cases r1 with
  | cons r rr =>
    cases rr
    cases r
    obtain ⟨its, rv, p', hz⟩ := I1.tuple hq
    have hT : s1.heap.IsTuple a its.toArray := p'
    have hal : a < s1.heap.objs.size := by
      obtain ⟨o, ho, _⟩ := p'
      exact Heap.lt_size ho
    refine call_enumT (begins_tuple a its.toArray) hT fun h' he hit hk => wpAny_pyIter_enum he ?_
    have I2 : Inv X pins σ H1 { s1 with heap := h' } := I1.kept (t' := s1.toks) hk
    have h5 : a ≠ s1.heap.objs.size + 1 := Nat.ne_of_lt (Nat.lt_succ_of_lt hal)
    refine ⟨s1.heap.objs.size + 1, [s1.heap.objs.size + 1, s1.heap.objs.size], _, _, H1, rfl, I2, turn_enumT a (s1.heap.objs.size + 1) s1.heap.objs.size, ⟨⟨.none, he⟩, ⟨_, hit, rfl, rfl⟩, Nat.succ_ne_self _, h5, Nat.ne_of_lt hal⟩, fun b hb => ?_, q⟩
    have hle : s1.heap.objs.size ≤ b := by
      have z : b = s1.heap.objs.size + 1 ∨ b = s1.heap.objs.size := by simpa using hb
      rcases z with z | z
      · rw [z]
        exact Nat.le_add_right _ _
      · rw [z]
        exact Nat.le_refl _
    exact I1.fpOk hle (I1.hok.fresh hle)
end AB

set_option Elab.async false
set_option linter.all false
set_option maxRecDepth 100000
set_option maxHeartbeats 4000000
/-! Layer A: what is walked, comprehensions, for, while, statements. -/
namespace AB
open PySem PySem.Spec PyProof.Rows L2

/-- a walk over these items, while the cells are so -/
structure WkA (K : PySem.W.Frag) (G0 : Hp) (J : It) (its : List AV) (sb : Cs → Prop) : Prop where
  go : ∀ i G C H, Same G0 G → Rel K G C H → sb C → i < its.length → J.go i H
  stop : ∀ G C H, Same G0 G → Rel K G C H → sb C → J.stop its.length H
  yld : ∀ i x v G C H H2, Same G0 G → Rel K G C H → sb C → its[i]? = some x → J.yld i H v H2 → ∃ G2, Stp K G C H G2 C H2 ∧ Rv K G2 v x
abbrev AW := Sl → Cs → (List AV → (Cs → Prop) → Cs → Prop) → Prop
def gI (K : PySem.W.Frag) (P : Par) (aw : AW) : TI := fun σ H R => ∃ G C ρ, ∃ q : List AV → (Cs → Prop) → Cs → Prop, At K P G C H σ ρ ∧ aw ρ C q ∧ ∀ its sb G' C' H' J, Stp K G C H G' C' H' → WkA K G' J its sb → q its sb C' → R J H'
def API (X : Cx) (P : Par) (tg e : Expr) (aw : AW) : Prop := PI X tg e (gI X.K P aw)
section
variable {X : Cx} {P : Par} {tg e : Expr} {es : List Expr} {ae : AE} {ar : AA} {K : PySem.W.Frag} {p pos tpos : Pos} {elts : List Expr} {kk : Nat}
theorem pi_mono {t u : TI} (h : PI X tg e t) (m : ∀ σ H R, u σ H R → t σ H R) : PI X tg e u := ⟨fun pins s σ H R I q => h.run pins s σ H R I (m σ H R q)⟩
/-- over a tuple or list of data -/
def awD (a : AE) : AW := fun ρ C q => a ρ C fun x C1 => match x with
  | .d (.tuple xs) => q (xs.map .d) (fun _ => True) C1
  | _ => False
def awL (a : AE) : AW := fun ρ C q => a ρ C fun x C1 => match x with
  | .d (.list xs) => q (xs.map .d) (fun _ => True) C1
  | _ => False
/-- over a list cell that stays as it is -/
def awC (a : AE) : AW := fun ρ C q => a ρ C fun x C1 => ∃ p xs, x = .r p ∧ C1 p = some (.l xs) ∧ q xs (fun C => C p = some (.l xs)) C1
theorem map_get {xs : List PyData} {i : Nat} {x : AV} (h : (xs.map AV.d)[i]? = some x) : ∃ y, xs[i]? = some y ∧ x = .d y := by
  rw [List.getElem?_map] at h
  cases e : xs[i]? with
  | none =>
    rw [e] at h
    cases h
  | some y =>
    rw [e] at h
    exact ⟨y, rfl, (Option.some.inj h).symm⟩
theorem wk_tup {G0 : Hp} {a : Addr} {vs : List V} {xs : List PyData} (s : SqT K G0 a vs) (r : DpAll K G0 vs xs) : WkA K G0 (Itt K a) (xs.map AV.d) fun _ => True where
  go := fun i G C H e R _ hi => by
    have hl := dps_len r
    rw [List.length_map] at hi
    exact ⟨vs, vs[i]'(by omega), sqT_mono R.ex (sqT_mono e s), by simp [show i < vs.length by omega]⟩
  stop := fun G C H e R _ => ⟨vs, sqT_mono R.ex (sqT_mono e s), by rw [dps_len r, List.length_map]; exact Nat.le_refl _⟩
  yld := fun i x v G C H H2 e R _ hx y => by
    obtain ⟨rfl, y⟩ := y
    obtain ⟨z, hz, rfl⟩ := map_get hx
    obtain ⟨u, hu, ru⟩ := pget (dps_paired r) hz
    have e2 := (y vs (sqT_mono R.ex (sqT_mono e s))).symm.trans hu
    cases e2
    exact ⟨G, Stp.refl R, dp_mono e _ _ ru⟩
theorem wk_lst {G0 : Hp} {a : Addr} {vs : List V} {xs : List PyData} (s : SqL K G0 a vs) (r : DpAll K G0 vs xs) : WkA K G0 (Itl K a) (xs.map AV.d) fun _ => True where
  go := fun i G C H e R _ hi => by
    have hl := dps_len r
    rw [List.length_map] at hi
    exact ⟨vs, vs[i]'(by omega), Same.seq R.ex (Same.seq e s), by simp [show i < vs.length by omega]⟩
  stop := fun G C H e R _ => ⟨vs, Same.seq R.ex (Same.seq e s), by rw [dps_len r, List.length_map]; exact Nat.le_refl _⟩
  yld := fun i x v G C H H2 e R _ hx y => by
    obtain ⟨rfl, y⟩ := y
    obtain ⟨z, hz, rfl⟩ := map_get hx
    obtain ⟨u, hu, ru⟩ := pget (dps_paired r) hz
    have e2 := (y vs (Same.seq R.ex (Same.seq e s))).symm.trans hu
    cases e2
    exact ⟨G, Stp.refl R, dp_mono e _ _ ru⟩
theorem wk_cell {G0 : Hp} {a : Addr} {xs : List AV} : WkA K G0 (Itl K a) xs fun C => C a = some (.l xs) where
  go := fun i G C H e R hs hi => by
    obtain ⟨_, vs, f, r⟩ := R.cell a _ hs
    have hl := r.length
    exact ⟨vs, vs[i]'(by omega), SqL.of f, by simp [show i < vs.length by omega]⟩
  stop := fun G C H e R hs => by
    obtain ⟨_, vs, f, r⟩ := R.cell a _ hs
    exact ⟨vs, SqL.of f, by rw [r.length]; exact Nat.le_refl _⟩
  yld := fun i x v G C H H2 e R hs hx y => by
    obtain ⟨rfl, y⟩ := y
    obtain ⟨_, vs, f, r⟩ := R.cell a _ hs
    obtain ⟨u, hu, ru⟩ := pget r hx
    have e2 := (y vs (SqL.of f)).symm.trans hu
    cases e2
    exact ⟨G, Stp.refl R, ru⟩
theorem awi_tup (h : APE X P e ae) : API X P tg e (awD ae) := pi_mono (pi_tup h) fun σ H R hh => by
  obtain ⟨G, C, ρ, q, hA, hw, fin⟩ := hh
  refine ⟨G, C, ρ, _, hA, hw, fun v x G1 C1 H1 s1 r1 h1 => ?_⟩
  cases x with
  | r a => exact h1.elim
  | d x =>
    cases x with
    | tuple xs =>
      cases r1 with
      | tup s rs => exact ⟨_, rfl, ⟨_, sqT_mono s1.rel.ex s⟩, fin _ _ G1 C1 H1 _ s1 (wk_tup s rs) h1⟩
    | _ => exact h1.elim
theorem awi_lst (h : APE X P e ae) : API X P tg e (awL ae) := pi_mono (pi_list h) fun σ H R hh => by
  obtain ⟨G, C, ρ, q, hA, hw, fin⟩ := hh
  refine ⟨G, C, ρ, _, hA, hw, fun v x G1 C1 H1 s1 r1 h1 => ?_⟩
  cases x with
  | r a => exact h1.elim
  | d x =>
    cases x with
    | list xs =>
      cases r1 with
      | lst s rs => exact ⟨_, rfl, ⟨_, Same.seq s1.rel.ex s⟩, fin _ _ G1 C1 H1 _ s1 (wk_lst s rs) h1⟩
    | _ => exact h1.elim
theorem awi_cell (h : APE X P e ae) : API X P tg e (awC ae) := pi_mono (pi_list h) fun σ H R hh => by
  obtain ⟨G, C, ρ, q, hA, hw, fin⟩ := hh
  refine ⟨G, C, ρ, _, hA, hw, fun v x G1 C1 H1 s1 r1 h1 => ?_⟩
  obtain ⟨p, xs, rfl, e1, h1⟩ := h1
  obtain ⟨_, vs, f, rs⟩ := s1.rel.cell p _ e1
  cases r1
  exact ⟨p, rfl, ⟨vs, SqL.of f⟩, fin _ _ G1 C1 H1 _ s1 wk_cell h1⟩
/-- ranges -/
def rngL (lo : Int) (n : Nat) (c : Int) : List AV := (List.range n).map fun (i : Nat) => AV.d (.int (lo + i * c))
theorem rng_get {lo c : Int} {n i : Nat} {x : AV} (h : (rngL lo n c)[i]? = some x) : i < n ∧ x = .d (.int (lo + i * c)) := by
  unfold rngL at h
  rw [List.getElem?_map] at h
  by_cases hi : i < n
  · rw [List.getElem?_range hi] at h
    exact ⟨hi, (Option.some.inj h).symm⟩
  · rw [List.getElem?_eq_none (by simpa using hi)] at h
    cases h
theorem rng_len {lo c : Int} {n : Nat} : (rngL lo n c).length = n := by
  unfold rngL
  rw [List.length_map, List.length_range]
theorem wk_rng {G0 : Hp} {lo : Int} {n : Nat} : WkA K G0 (Itr lo n) (rngL lo n 1) fun _ => True where
  go := fun i G C H e R _ hi => by
    rw [rng_len] at hi
    exact hi
  stop := fun G C H e R _ => by
    rw [rng_len]
    exact Nat.le_refl _
  yld := fun i x v G C H H2 e R _ hx y => by
    obtain ⟨rfl, rfl⟩ := y
    obtain ⟨_, rfl⟩ := rng_get hx
    refine ⟨G, Stp.refl R, ?_⟩
    rw [Int.mul_one]
    exact rv_int
theorem wk_rngC {G0 : Hp} {lo c : Int} {n : Nat} : WkA K G0 (Itc lo c n) (rngL lo n c) fun _ => True where
  go := fun i G C H e R _ hi => by
    rw [rng_len] at hi
    exact hi
  stop := fun G C H e R _ => by
    rw [rng_len]
    exact Nat.le_refl _
  yld := fun i x v G C H H2 e R _ hx y => by
    obtain ⟨rfl, rfl⟩ := y
    obtain ⟨_, rfl⟩ := rng_get hx
    exact ⟨G, Stp.refl R, rv_int⟩
def awR1 (t : AA) : AW := fun ρ C q => t ρ C fun avs C1 => match avs with
  | [.d (.int j)] => (-(2 ^ 62) ≤ j ∧ j < 2 ^ 62) ∧ q (rngL 0 j.toNat 1) (fun _ => True) C1
  | _ => False
def awR2 (t : AA) : AW := fun ρ C q => t ρ C fun avs C1 => match avs with
  | [.d (.int i), .d (.int j)] => (-(2 ^ 62) ≤ i ∧ i < 2 ^ 62 ∧ -(2 ^ 62) ≤ j ∧ j < 2 ^ 62) ∧ q (rngL i (j - i).toNat 1) (fun _ => True) C1
  | _ => False
/-- range(a, -1, -1) -/
def awR3 (t : AA) : AW := fun ρ C q => t ρ C fun avs C1 => match avs with
  | [.d (.int i), .d (.int j), .d (.int c)] => ∃ n, RgC i j c n ∧ q (rngL i n c) (fun _ => True) C1
  | _ => False
theorem awi_r1 (hm : X.mg "range" = none) (ha : APE X P e ae) (hg : Gl X "range" := by rfl) (he : starEach [e] X.env = (false, eval e X.env) :: starEach [] X.env := by rfl) : API X P tg (.Call (.Name "range" p) [e] [] pos) (awR1 (aCons ae aNil)) :=
  pi_mono (pi_range1 hg hm (apa_cons ha apa_nil he) he) fun σ H R hh => by
    obtain ⟨G, C, ρ, q, hA, hw, fin⟩ := hh
    refine ⟨G, C, ρ, _, hA, hw, fun vs avs G1 C1 H1 s1 r1 h1 => ?_⟩
    split at h1
    · cases r1 with
      | cons r1 r2 =>
        cases r2
        cases r1
        obtain ⟨⟨h2, h3⟩, h1⟩ := h1
        exact ⟨_, rfl, h2, h3, fin _ _ G1 C1 H1 _ s1 wk_rng h1⟩
    · exact h1.elim
theorem awi_r2 {e2 : Expr} {ae2 : AE} (hm : X.mg "range" = none) (ha : APE X P e ae) (ha2 : APE X P e2 ae2) (hg : Gl X "range" := by rfl) (he : starEach [e, e2] X.env = [(false, eval e X.env), (false, eval e2 X.env)] := by rfl) (he2 : starEach [e2] X.env = [(false, eval e2 X.env)] := by rfl) :
    API X P tg (.Call (.Name "range" p) [e, e2] [] pos) (awR2 (aCons ae (aCons ae2 aNil))) :=
  pi_mono (pi_range2 hg hm (apa_cons ha (apa_cons ha2 apa_nil he2) (by rw [he, he2])) he he2) fun σ H R hh => by
    obtain ⟨G, C, ρ, q, hA, hw, fin⟩ := hh
    refine ⟨G, C, ρ, _, hA, hw, fun vs avs G1 C1 H1 s1 r1 h1 => ?_⟩
    split at h1
    · cases r1 with
      | cons r1 r2 =>
        cases r2 with
        | cons r2 r3 =>
          cases r3
          cases r1
          cases r2
          obtain ⟨h2, h1⟩ := h1
          exact ⟨_, _, rfl, h2, fin _ _ G1 C1 H1 _ s1 wk_rng h1⟩
    · exact h1.elim
theorem awi_r3 {e2 e3 : Expr} {ae2 ae3 : AE} (hm : X.mg "range" = none) (ha : APE X P e ae) (ha2 : APE X P e2 ae2) (ha3 : APE X P e3 ae3) (hg : Gl X "range" := by rfl)
    (he : starEach [e, e2, e3] X.env = (false, eval e X.env) :: starEach [e2, e3] X.env := by rfl) (he2 : starEach [e2, e3] X.env = (false, eval e2 X.env) :: starEach [e3] X.env := by rfl) (he3 : starEach [e3] X.env = (false, eval e3 X.env) :: starEach [] X.env := by rfl)
    (hpl : (backTo pos (starEach [e2, e3] X.env)).any (·.1) = false := by rfl) :
    API X P tg (.Call (.Name "range" p) [e, e2, e3] [] pos) (awR3 (aCons ae (aCons ae2 (aCons ae3 aNil)))) :=
  pi_mono (pi_range3 hg hm (apa_cons ha (apa_cons ha2 (apa_cons ha3 apa_nil he3) he2) he) he hpl) fun σ H R hh => by
    obtain ⟨G, C, ρ, q, hA, hw, fin⟩ := hh
    refine ⟨G, C, ρ, _, hA, hw, fun vs avs G1 C1 H1 s1 r1 h1 => ?_⟩
    split at h1
    · cases r1 with
      | cons r1 r2 =>
        cases r2 with
        | cons r2 r3 =>
          cases r3 with
          | cons r3 r4 =>
            cases r4
            cases r1
            cases r2
            cases r3
            obtain ⟨n, h2, h1⟩ := h1
            exact ⟨_, _, _, n, rfl, h2, fin _ _ G1 C1 H1 _ s1 wk_rngC h1⟩
    · exact h1.elim
/-- enumerate -/
def enumL (xs : List PyData) : List AV := xs.mapIdx fun i y => AV.d (.tuple [.int (i : Nat), y])
theorem enum_get {xs : List PyData} {i : Nat} {x : AV} (h : (enumL xs)[i]? = some x) : ∃ y, xs[i]? = some y ∧ x = .d (.tuple [.int (i : Nat), y]) := by
  unfold enumL at h
  rw [List.getElem?_mapIdx] at h
  cases e : xs[i]? with
  | none =>
    rw [e] at h
    cases h
  | some y =>
    rw [e] at h
    exact ⟨y, rfl, (Option.some.inj h).symm⟩
theorem enum_len {xs : List PyData} : (enumL xs).length = xs.length := by
  unfold enumL
  rw [List.length_mapIdx]
theorem dp_pair {G : Hp} {v w : V} {x y : PyData} (h1 : Dp K G v x) (h2 : Dp K G w y) : DpAll K G [v, w] [x, y] := .cons h1 (.cons h2 .nil)
theorem wk_enumT {G0 : Hp} {a : Addr} {vs : List V} {xs : List PyData} (s : SqT K G0 a vs) (r : DpAll K G0 vs xs) : WkA K G0 (IteT K a) (enumL xs) fun _ => True where
  go := fun i G C H e R _ hi => by
    have hl := dps_len r
    rw [enum_len] at hi
    exact ⟨vs, vs[i]'(by omega), sqT_mono R.ex (sqT_mono e s), by simp [show i < vs.length by omega]⟩
  stop := fun G C H e R _ => ⟨vs, sqT_mono R.ex (sqT_mono e s), by rw [dps_len r, enum_len]⟩
  yld := fun i x v G C H H2 e R _ hx y => by
    obtain ⟨T, u, rfl, nT, rfl, y⟩ := y
    obtain ⟨z, hz, rfl⟩ := enum_get hx
    obtain ⟨u', hu, ru⟩ := pget (dps_paired r) hz
    have e2 := (y vs (sqT_mono R.ex (sqT_mono e s))).symm.trans hu
    cases e2
    exact ⟨_, Stp.data R nT, rv_d (dp_new (R.none nT).1 (dp_pair (.int _) (dp_mono e _ _ ru)))⟩
theorem wk_enumL {G0 : Hp} {a : Addr} {vs : List V} {xs : List PyData} (s : SqL K G0 a vs) (r : DpAll K G0 vs xs) : WkA K G0 (Ite K a) (enumL xs) fun _ => True where
  go := fun i G C H e R _ hi => by
    have hl := dps_len r
    rw [enum_len] at hi
    exact ⟨vs, vs[i]'(by omega), Same.seq R.ex (Same.seq e s), by simp [show i < vs.length by omega]⟩
  stop := fun G C H e R _ => ⟨vs, Same.seq R.ex (Same.seq e s), by rw [dps_len r, enum_len]; exact Nat.le_refl _⟩
  yld := fun i x v G C H H2 e R _ hx y => by
    obtain ⟨T, u, rfl, nT, rfl, y⟩ := y
    obtain ⟨z, hz, rfl⟩ := enum_get hx
    obtain ⟨u', hu, ru⟩ := pget (dps_paired r) hz
    have e2 := (y vs (Same.seq R.ex (Same.seq e s))).symm.trans hu
    cases e2
    exact ⟨_, Stp.data R nT, rv_d (dp_new (R.none nT).1 (dp_pair (.int _) (dp_mono e _ _ ru)))⟩
def awET (t : AA) : AW := fun ρ C q => t ρ C fun avs C1 => match avs with
  | [.d (.tuple xs)] => q (enumL xs) (fun _ => True) C1
  | _ => False
def awEL (t : AA) : AW := fun ρ C q => t ρ C fun avs C1 => match avs with
  | [.d (.list xs)] => q (enumL xs) (fun _ => True) C1
  | _ => False
theorem awi_enumT (hm : X.mg "enumerate" = none) (ha : APE X P e ae) (hg : Gl X "enumerate" := by rfl) (he : starEach [e] X.env = (false, eval e X.env) :: starEach [] X.env := by rfl) : API X P (.Tuple elts kk tpos) (.Call (.Name "enumerate" p) [e] [] pos) (awET (aCons ae aNil)) :=
  pi_mono (pi_enumT hg hm (apa_cons ha apa_nil he) he) fun σ H R hh => by
    obtain ⟨G, C, ρ, q, hA, hw, fin⟩ := hh
    refine ⟨G, C, ρ, _, hA, hw, fun vs avs G1 C1 H1 s1 r1 h1 => ?_⟩
    split at h1
    · cases r1 with
      | cons r1 r2 =>
        cases r2
        cases r1 with
        | tup s rs => exact ⟨_, _, rfl, sqT_mono s1.rel.ex s, fin _ _ G1 C1 H1 _ s1 (wk_enumT s rs) h1⟩
    · exact h1.elim
theorem awi_enumL (hm : X.mg "enumerate" = none) (ha : APE X P e ae) (hg : Gl X "enumerate" := by rfl) (he : starEach [e] X.env = (false, eval e X.env) :: starEach [] X.env := by rfl) : API X P (.Tuple elts kk tpos) (.Call (.Name "enumerate" p) [e] [] pos) (awEL (aCons ae aNil)) :=
  pi_mono (pi_enum hg hm (apa_cons ha apa_nil he) he) fun σ H R hh => by
    obtain ⟨G, C, ρ, q, hA, hw, fin⟩ := hh
    refine ⟨G, C, ρ, _, hA, hw, fun vs avs G1 C1 H1 s1 r1 h1 => ?_⟩
    split at h1
    · cases r1 with
      | cons r1 r2 =>
        cases r2
        cases r1 with
        | lst s rs => exact ⟨_, _, rfl, Same.seq s1.rel.ex s, fin _ _ G1 C1 H1 _ s1 (wk_enumL s rs) h1⟩
    · exact h1.elim
/-- zip of two lists of data -/
def zipL (xs ys : List PyData) : List AV := List.zipWith (fun a b => AV.d (.tuple [a, b])) xs ys
theorem zip_get {xs ys : List PyData} {i : Nat} {x : AV} (h : (zipL xs ys)[i]? = some x) : ∃ a b, xs[i]? = some a ∧ ys[i]? = some b ∧ x = .d (.tuple [a, b]) := by
  unfold zipL at h
  rw [List.getElem?_zipWith] at h
  cases e1 : xs[i]? with
  | none =>
    rw [e1] at h
    cases h
  | some a =>
    cases e2 : ys[i]? with
    | none =>
      rw [e1, e2] at h
      cases h
    | some b =>
      rw [e1, e2] at h
      exact ⟨a, b, rfl, rfl, (Option.some.inj h).symm⟩
theorem zip_len {xs ys : List PyData} : (zipL xs ys).length = min xs.length ys.length := by
  unfold zipL
  rw [List.length_zipWith]
theorem wk_zip {G0 : Hp} {a b : Addr} {vs ws : List V} {xs ys : List PyData} (s : SqL K G0 a vs) (s2 : SqL K G0 b ws) (r : DpAll K G0 vs xs) (r2 : DpAll K G0 ws ys) : WkA K G0 (Itz K a b) (zipL xs ys) fun _ => True where
  go := fun i G C H e R _ hi => by
    have hl := dps_len r
    have hl2 := dps_len r2
    rw [zip_len] at hi
    exact (walk_zip (xs := vs) (ys := ws) rfl).goes i H (by omega) ⟨Same.seq R.ex (Same.seq e s), Same.seq R.ex (Same.seq e s2)⟩
  stop := fun G C H e R _ => by
    rw [zip_len, ← dps_len r, ← dps_len r2]
    exact (walk_zip (xs := vs) (ys := ws) rfl).stops H ⟨Same.seq R.ex (Same.seq e s), Same.seq R.ex (Same.seq e s2)⟩
  yld := fun i x v G C H H2 e R _ hx y => by
    have hi : i < (zipL xs ys).length := (List.getElem?_eq_some_iff.mp hx).1
    rw [zip_len, ← dps_len r, ← dps_len r2] at hi
    have y2 := (walk_zip (xs := vs) (ys := ws) rfl).yields i H v H2 hi ⟨Same.seq R.ex (Same.seq e s), Same.seq R.ex (Same.seq e s2)⟩ y
    obtain ⟨T, u, u2, rfl, nT, rfl, y1, y2⟩ := y2
    obtain ⟨z, z2, hz, hz2, rfl⟩ := zip_get hx
    obtain ⟨u', hu, ru⟩ := pget (dps_paired r) hz
    obtain ⟨u2', hu2, ru2⟩ := pget (dps_paired r2) hz2
    have e2 := y1.symm.trans hu
    have e3 := y2.symm.trans hu2
    cases e2
    cases e3
    exact ⟨_, Stp.data R nT, rv_d (dp_new (R.none nT).1 (dp_pair (dp_mono e _ _ ru) (dp_mono e _ _ ru2)))⟩
def awZ (t : AA) : AW := fun ρ C q => t ρ C fun avs C1 => match avs with
  | [.d (.list xs), .d (.list ys)] => q (zipL xs ys) (fun _ => True) C1
  | _ => False
theorem awi_zip {e2 : Expr} {ae2 : AE} (hm : X.mg "zip" = none) (ha : APE X P e ae) (ha2 : APE X P e2 ae2) (hg : Gl X "zip" := by rfl) (he : starEach [e, e2] X.env = (false, eval e X.env) :: starEach [e2] X.env := by rfl) (he2 : starEach [e2] X.env = (false, eval e2 X.env) :: starEach [] X.env := by rfl)
    (hpi : PI X (.Tuple elts kk tpos) (.Call (.Name "zip" p) [e, e2] [] pos) (iZip X.K (gA X.K P (aCons ae (aCons ae2 aNil))))) : API X P (.Tuple elts kk tpos) (.Call (.Name "zip" p) [e, e2] [] pos) (awZ (aCons ae (aCons ae2 aNil))) :=
  pi_mono hpi fun σ H R hh => by
    obtain ⟨G, C, ρ, q, hA, hw, fin⟩ := hh
    refine ⟨G, C, ρ, _, hA, hw, fun vs avs G1 C1 H1 s1 r1 h1 => ?_⟩
    split at h1
    · cases r1 with
      | cons r1 r2 =>
        cases r2 with
        | cons r2 r3 =>
          cases r3
          cases r1 with
          | lst s rs =>
            cases r2 with
            | lst s2 rs2 => exact ⟨_, _, _, _, rfl, Same.seq s1.rel.ex s, Same.seq s1.rel.ex s2, fin _ _ G1 C1 H1 _ s1 (wk_zip s s2 rs rs2) h1⟩
    · exact h1.elim
/-- the keys of a dict cell while it is locked -/
def keyD : Key → PyData
  | .inl i => .int i
  | .inr x => .str x
theorem dp_key {G : Hp} (k : Key) : Dp K G (kV k) (keyD k) := by
  cases k with
  | inl i => exact .int i
  | inr x => exact .str x
def awK (a : AE) : AW := fun ρ C q => a ρ C fun x C1 => ∃ p o vs kvs, x = .r p ∧ C1 p = some (.f o vs kvs) ∧ q (kvs.map fun kv => AV.d (keyD kv.1)) (fun C => C p = some (.f o vs kvs)) C1
theorem awi_keys (h : APE X P e ae) : API X P tg e (awK ae) := pi_mono (pi_keys h) fun σ H R hh => by
  obtain ⟨G, C, ρ, q, hA, hw, fin⟩ := hh
  refine ⟨G, C, ρ, _, hA, hw, fun v x G1 C1 H1 s1 r1 h1 => ?_⟩
  obtain ⟨p, o, vs, kvs, rfl, e1, h1⟩ := h1
  obtain ⟨_, f, rs⟩ := s1.rel.cell p _ e1
  cases r1
  have hl : vs.length = kvs.length := Paired.length rs
  refine ⟨p, o, rfl, .inl ⟨vs, f, fin _ _ G1 C1 H1 _ s1 ⟨fun i G C H e R hs hi => ?_, fun G C H e R hs => ?_, fun i x v G C H H2 e R hs hx y => ?_⟩ h1⟩⟩
  · rw [List.length_map] at hi
    exact ⟨(R.cell p _ hs).2.1, by omega⟩
  · rw [List.length_map]
    exact ⟨(R.cell p _ hs).2.1, by omega⟩
  · obtain ⟨rfl, k, u, hk, rfl⟩ := y
    rw [List.getElem?_map] at hx
    cases ek : kvs[i]? with
    | none =>
      rw [ek] at hx
      cases hx
    | some kv =>
      rw [ek] at hx
      cases hx
      obtain ⟨q2, hq2, r2⟩ := pget rs ek
      rw [hk] at hq2
      cases hq2
      obtain ⟨k2, x2⟩ := kv
      cases (show k = k2 from r2.1)
      exact ⟨G, Stp.refl R, dp_key k⟩
/-- reversed(range(n)) -/
def awRev (a : AE) : AW := fun ρ C q => a ρ C fun x C1 => match x with
  | .d (.int j) => (0 ≤ j ∧ j < 2 ^ 62) ∧ q (rngL (j - 1) j.toNat (-1)) (fun _ => True) C1
  | _ => False
theorem awi_rev {p2 pos2 : Pos} (hm : X.mg "reversed" = none) (hm2 : X.mg "range" = none) (ha : APE X P e ae) (hg : Gl X "reversed" := by rfl) (hg2 : Gl X "range" := by rfl) (he : starEach [e] X.env = (false, eval e X.env) :: starEach [] X.env := by rfl)
    (he2 : starEach [.Call (.Name "range" p2) [e] [] pos2] X.env = (false, eval (.Call (.Name "range" p2) [e] [] pos2) X.env) :: starEach [] X.env := by rfl) :
    API X P tg (.Call (.Name "reversed" p) [.Call (.Name "range" p2) [e] [] pos2] [] pos) (awRev ae) :=
  pi_mono (pi_revR hg hm (prg_1 hg2 hm2 ha he) he2) fun σ H R hh => by
    obtain ⟨G, C, ρ, q, hA, hw, fin⟩ := hh
    refine ⟨G, C, ρ, _, hA, hw, fun v x G1 C1 H1 s1 r1 h1 => ?_⟩
    cases x with
    | r a => exact h1.elim
    | d x =>
      cases x with
      | int j =>
        cases r1
        obtain ⟨⟨h2, h3⟩, h1⟩ := h1
        refine ⟨j, rfl, by decide, by decide, by omega, h3, ?_⟩
        have e1 : (0 : Int) + (((j - 0).toNat : Nat) : Int) - 1 = j - 1 := by omega
        have e2 : (j - 0).toNat = j.toNat := by omega
        rw [e1, e2]
        exact fin _ _ G1 C1 H1 _ s1 wk_rngC h1
      | _ => exact h1.elim
end
end AB

set_option Elab.async false
set_option linter.all false
set_option maxRecDepth 100000
set_option maxHeartbeats 4000000
/-! Layer A, targets, statements, loops, comprehensions. -/
namespace AB
open PySem PySem.Spec PyProof.Rows L2
section
variable {X : Cx} {P : Par} {tg e a b : Expr} {es ts : List Expr} {st : Stmt} {sts : List Stmt} {ae aa ab : AE} {ar : AA} {K : PySem.W.Frag} {p pos : Pos} {s1 s2 : AS} {t : AT}

/-! ### targets -/
def agN (i : Nat) : AG := fun v ρ C q => q (ρ.set i (some v)) C
def agNil : AGs := fun vs ρ C q => match vs with
  | [] => q ρ C
  | _ => False
def agCons (g : AG) (r : AGs) : AGs := fun vs ρ C q => match vs with
  | v :: us => g v ρ C fun ρ1 C1 => r us ρ1 C1 q
  | [] => False
def agTup (n : Nat) (g : AGs) : AG := fun v ρ C q => match v with
  | .d (.tuple xs) => xs.length = n ∧ g (xs.map .d) ρ C q
  | _ => False
theorem wipe_set {σ : L2.St} {i : Nat} {v : V} : ∀ {vs : List Nat}, i ∈ vs → L2.wipe (σ.set i (some v)) vs = L2.wipe σ vs
  | [], h => by cases h
  | j :: vs, h => by
    show (L2.wipe (σ.set i (some v)) vs).set j none = (L2.wipe σ vs).set j none
    by_cases hm : i ∈ vs
    · rw [wipe_set hm]
    · have e : i = j := by
        cases h with
        | head => rfl
        | tail _ h => exact absurd h hm
      subst e
      have z : ∀ (vs : List Nat), i ∉ vs → L2.wipe (σ.set i (some v)) vs = (L2.wipe σ vs).set i (some v) := by
        intro vs
        induction vs with
        | nil =>
          intro _
          rfl
        | cons k ks ih =>
          intro hn
          have h1 : i ≠ k := fun e => hn (by rw [e]; exact List.mem_cons_self)
          have h2 : i ∉ ks := fun q => hn (List.mem_cons_of_mem _ q)
          show (L2.wipe (σ.set i (some v)) ks).set k none = ((L2.wipe σ ks).set k none).set i (some v)
          rw [ih h2, List.set_comm _ _ h1]
      rw [z vs hm, List.set_set]
variable {vs : List Nat}
theorem apg_n {i : Nat} {x : Str} (hN : X.N.Nodup) (hi : X.N[i]? = some x := by rfl) (hx : Loc X.env.scope x := by first | exact Or.inl rfl | exact Or.inr rfl) (hf : X.fn x = true ∨ X.env.scope.names.lookup x = some .local := by first | exact .inl rfl | exact .inr rfl | assumption)
    (hv : i ∈ vs := by decide) : APG X P vs (.Name x pos) (agN i) := pg_mono (pg_name (i := i) hN hi hx hf) fun v σ H Q h => by
  obtain ⟨G, C, ρ, av, q, hA, r, hw, fin⟩ := h
  exact fin _ _ G C H (wipe_set hv) (Stp.refl hA.rel) (hA.rs.set r) hw
variable {g : AG} {gs : AGs}
theorem apgs_nil : APGs X P vs [] agNil := pgs_mono pgs_nil fun us σ H Q h => by
  obtain ⟨G, C, ρ, avs, q, hA, r, hw, fin⟩ := h
  cases avs with
  | nil =>
    cases r
    exact ⟨rfl, fin _ _ G C H rfl (Stp.refl hA.rel) hA.rs hw⟩
  | cons _ _ => exact hw.elim
theorem apgs_cons (h1 : APG X P vs e g) (h2 : APGs X P vs es gs) (hs : (assignEach (e :: es) X.env).map (·.2) = assign e X.env :: (assignEach es X.env).map (·.2) := by rfl) : APGs X P vs (e :: es) (agCons g gs) :=
  pgs_mono (pgs_cons h1 h2 hs) fun us σ H Q h => by
    obtain ⟨G, C, ρ, avs, q, hA, r, hw, fin⟩ := h
    cases avs with
    | nil => exact hw.elim
    | cons av avs =>
      cases r with
      | cons r1 r2 =>
        refine ⟨_, _, rfl, G, C, ρ, av, _, hA, r1, hw, fun σ1 ρ1 G1 C1 H1 w1 st1 rs1 h1 => ?_⟩
        refine ⟨G1, C1, ρ1, avs, _, hA.stepS st1 rs1, Rvs.mono st1.ex r2, h1, fun σ2 ρ2 G2 C2 H2 w2 st2 rs2 h2 => ?_⟩
        exact fin σ2 ρ2 G2 C2 H2 (w2.trans w1) (st1.trans st2) rs2 h2
theorem apg_t {k : Nat} {n : Nat} (hc : X.calm = true) (h : APGs X P vs es gs) (hn : (assignEach es X.env).length = n := by rfl) (hst : (assignEach es X.env).findIdx? (·.1) = none := by rfl) : APG X P vs (.Tuple es k pos) (agTup n gs) :=
  pg_mono (pg_tup hc h hn hst) fun v σ H Q h => by
    obtain ⟨G, C, ρ, av, q, hA, r, hw, fin⟩ := h
    cases av with
    | r a => exact hw.elim
    | d x =>
      cases x with
      | tuple xs =>
        obtain ⟨hl, hw⟩ := hw
        cases r with
        | tup s rs =>
          refine ⟨_, _, rfl, sqT_mono hA.rel.ex s, by rw [dps_len rs]; exact hl, ?_⟩
          exact ⟨G, C, ρ, _, q, hA, Rvs.of_dps rs, hw, fin⟩
      | _ => exact hw.elim
/-- o[i] = v, o a list cell -/
def agSub (o i : AE) : AG := fun v ρ C q => o ρ C fun x C1 => i ρ C1 fun y C2 => ∃ p xs k j, x = .r p ∧ y = .d (.int k) ∧ C2 p = some (.l xs) ∧ ixN xs.length k = some j ∧ q ρ (cup C2 p (.l (xs.set j v)))
theorem apg_s (ho : APE X P a aa) (hi : APE X P b ab)
    (ha : ∀ v, assign (.Subscript a b pos) X.env v = (do
      let ov ← holding [v] (eval a X.env)
      let iv ← holding [v, ov] (eval b X.env)
      standAt pos
      holding [v, ov, iv] (setItem ov iv v)
      release [v, ov, iv] []) := by intro _; rfl) : APG X P vs (.Subscript a b pos) (agSub aa ab) :=
  pg_mono (pg_sub ho hi set_list ha) fun v σ H Q h => by
    obtain ⟨G, C, ρ, av, q, hA, r, hw, fin⟩ := h
    refine ⟨G, C, ρ, _, hA, hw, fun u x G1 C1 H1 s1 r1 h1 => ?_⟩
    refine ⟨G1, C1, ρ, _, hA.step s1, h1, fun w y G2 C2 H2 s2 r2 h2 => ?_⟩
    obtain ⟨p, xs, k, j, rfl, rfl, e1, e2, h2⟩ := h2
    obtain ⟨_, vs2, f, rs⟩ := s2.rel.cell p _ e1
    cases r1
    cases r2
    refine ⟨p, vs2, k, j, rfl, rfl, f, by rw [rs.length]; exact e2, ?_⟩
    have s12 := s1.trans s2
    have s3 := Stp.put (c := .l (xs.set j av)) s2.rel e1 ⟨_, upd_same, pset (Rv.mono s12.ex r) j rs⟩
    exact fin _ _ _ _ _ rfl (s12.trans s3) (hA.rs.mono (s12.trans s3).ex) h2

/-! ### statements -/
theorem aps_of {u : TS} (h : PS X st u) (m : ∀ G C H σ ρ k D, At X.K P G C H σ ρ → s1 k ρ C → EndsOk X.K G C H k D → u D σ H) : APS X P st s1 := ps_mono h fun D σ H ⟨G, C, ρ, k, hA, hw, en⟩ => m G C H σ ρ k D hA hw en
def aNext : AS := fun k ρ C => k.nx ρ C
def aSeq (s t : AS) : AS := fun k ρ C => s { k with nx := fun ρ1 C1 => t k ρ1 C1 } ρ C
theorem apss_nil : APSs X P [] aNext := pss_mono pss_nil fun D σ H ⟨G, C, ρ, k, hA, hw, en⟩ => en.nx σ ρ G C H (Stp.refl hA.rel) hA.rs hw
theorem apss_cons (h1 : APS X P st s1) (h2 : APSs X P sts s2) : APSs X P (st :: sts) (aSeq s1 s2) := pss_mono (pss_cons h1 h2) fun D σ H ⟨G, C, ρ, k, hA, hw, en⟩ =>
  ⟨G, C, ρ, _, hA, hw, ⟨fun σ1 ρ1 G1 C1 H1 s1 r1 q1 => ⟨G1, C1, ρ1, k, hA.stepS s1 r1, q1, en.step s1⟩, en.rt, en.bk, en.ct⟩⟩
theorem apss_one (h1 : APS X P st s1) : APSs X P [st] s1 := pss_one h1
def aBreak : AS := fun k ρ C => k.bk ρ C
def aCont : AS := fun k ρ C => k.ct ρ C
theorem aps_pass : APS X P (.Pass pos) aNext := aps_of ps_pass fun G C H σ ρ k D hA hw en => en.nx σ ρ G C H (Stp.refl hA.rel) hA.rs hw
def aNever : AS := fun _ _ _ => False
theorem aps_never : APS X P st aNever := aps_of (ps_never (st := st)) fun G C H σ ρ k D hA hw en => hw.elim
def aRet (a : AE) : AS := fun k ρ C => a ρ C k.rt
theorem aps_ret (h : APE X P e ae) : APS X P (.Return (some e) pos) (aRet ae) := aps_of (ps_ret h) fun G C H σ ρ k D hA hw en => ⟨G, C, ρ, _, hA, hw, en.rt⟩
def aDrop (a : AE) : AS := fun k ρ C => a ρ C fun _ C1 => k.nx ρ C1
theorem aps_expr (h : APE X P e ae) (hs : swapsWith e none pos.line X.env = pure false := by rfl) : APS X P (.Expr e pos) (aDrop ae) := aps_of (ps_expr h hs) fun G C H σ ρ k D hA hw en =>
  ⟨G, C, ρ, _, hA, hw, fun v av G1 C1 H1 s1 r1 q1 => en.nx σ ρ G1 C1 H1 s1 (hA.rs.mono s1.ex) q1⟩
def aSet (i : Nat) (a : AE) : AS := fun k ρ C => a ρ C fun v C1 => k.nx (ρ.set i (some v)) C1
theorem aps_set (i : Nat) {x : Str} {pos' : Pos} (hN : X.N.Nodup) (he : APE X P e ae) (hi : X.N[i]? = some x := by rfl) (hx : Loc X.env.scope x := by first | exact Or.inl rfl | exact Or.inr rfl) (hs : swapsWith e (some (.Name x pos')) pos.line X.env = pure false := by rfl)
    (hf : X.fn x = true ∨ X.env.scope.names.lookup x = some .local := by first | exact .inl rfl | exact .inr rfl | assumption) : APS X P (.Assign [.Name x pos'] e pos) (aSet i ae) :=
  aps_of (ps_set (i := i) hN hi hx he hs hf) fun G C H σ ρ k D hA hw en => ⟨G, C, ρ, _, hA, hw, fun v av G1 C1 H1 s1 r1 q1 => en.nx _ _ G1 C1 H1 s1 ((hA.rs.mono s1.ex).set r1) q1⟩
def aAsg (a : AE) (g : AG) : AS := fun k ρ C => a ρ C fun v C1 => g v ρ C1 k.nx
theorem aps_asg (he : APE X P e ae) (hg : APG X P vs tg g) (hs : swapsWithSole [tg] e pos.line X.env = pure false := by rfl) (hw : swappedStores [tg] e X.env = pure none := by rfl)
    (h1 : (assignEach [tg] X.env).map (·.2) = [assign tg X.env] := by rfl) : APS X P (.Assign [tg] e pos) (aAsg ae g) :=
  aps_of (ps_asg he hg hs hw h1) fun G C H σ ρ k D hA hw en => ⟨G, C, ρ, _, hA, hw, fun v av G1 C1 H1 s1 r1 q1 =>
    ⟨G1, C1, ρ, av, _, hA.step s1, r1, q1, fun σ2 ρ2 G2 C2 H2 _ s2 r2 q2 => en.nx σ2 ρ2 G2 C2 H2 (s1.trans s2) r2 q2⟩⟩
def aPar (i j : Nat) (r : AA) : AS := fun k ρ C => r ρ C fun vs C1 => match vs with
  | [v, w] => k.nx ((ρ.set i (some v)).set j (some w)) C1
  | _ => False
theorem aps_par (i j : Nat) {x y : Str} {a b : Expr} {px py pt : Pos} {kt k2 pt2} (hc : X.calm = true) (hN : X.N.Nodup) (ha : APA X P [a, b] ar) (hi : X.N[i]? = some x := by rfl) (hj : X.N[j]? = some y := by rfl) (hij : i ≠ j := by decide)
    (hx : X.env.scope.names.lookup x = some .local := by rfl) (hy : X.env.scope.names.lookup y = some .local := by rfl)
    (hw : swappedStores [.Tuple [.Name x px, .Name y py] kt pt] (.Tuple [a, b] k2 pt2) X.env = pure (some [x, y]) := by rfl)
    (hs : swapsWithSole [.Tuple [.Name x px, .Name y py] kt pt] (.Tuple [a, b] k2 pt2) pos.line X.env = pure false := by rfl) :
    APS X P (.Assign [.Tuple [.Name x px, .Name y py] kt pt] (.Tuple [a, b] k2 pt2) pos) (aPar i j ar) :=
  aps_of (ps_par hc hN hi hj hij hx hy ha hw hs) fun G C H σ ρ k D hA hw en => ⟨G, C, ρ, _, hA, hw, fun vs avs G1 C1 H1 s1 r1 q1 => by
    split at q1
    · cases r1 with
      | cons r1 r2 =>
        cases r2 with
        | cons r2 r3 =>
          cases r3
          exact ⟨_, _, rfl, en.nx _ _ G1 C1 H1 s1 (((hA.rs.mono s1.ex).set r1).set r2) q1⟩
    · exact q1.elim⟩
/-- x += e -/
def aAug (i : Nat) (f : Int → Int → Int) (a : AE) : AS := fun k ρ C => match ρ[i]? with
  | some (some (.d (.int x))) => a ρ C fun v C1 => match v with
    | .d (.int y) => k.nx (ρ.set i (some (.d (.int (f x y))))) C1
    | _ => False
  | _ => False
theorem aps_aug (i : Nat) {x : Str} {pos' : Pos} {op : Operator} {f : Int → Int → Int} (hN : X.N.Nodup) (ho : PIp X op (ipI f)) (he : APE X P e ae) (hi : X.N[i]? = some x := by rfl) (hx : Loc X.env.scope x := by first | exact Or.inl rfl | exact Or.inr rfl)
    (hf : X.fn x = true ∨ X.env.scope.names.lookup x = some .local := by first | exact .inl rfl | exact .inr rfl | assumption) : APS X P (.AugAssign (.Name x pos') op e pos) (aAug i f ae) :=
  aps_of (ps_aug (i := i) hN hi hx he ho hf) fun G C H σ ρ k D hA hw en => by
    unfold aAug at hw
    split at hw
    · rename_i x hx
      obtain ⟨v, h1, h2⟩ := hA.rs.at' i _ hx
      cases h2
      refine ⟨_, h1, G, C, ρ, _, hA, hw, fun v av G1 C1 H1 s1 r1 q1 => ?_⟩
      split at q1
      · cases r1
        exact ⟨_, _, rfl, rfl, en.nx _ _ G1 C1 H1 s1 ((hA.rs.mono s1.ex).set rv_int) q1⟩
      · exact q1.elim
    · exact hw.elim
/-- o[i] += e, o a list cell -/
def aAugS (o i a : AE) : AS := fun k ρ C => o ρ C fun x C1 => i ρ C1 fun y C2 => ∃ p xs j n m, x = .r p ∧ y = .d (.int j) ∧ C2 p = some (.l xs) ∧ ixN xs.length j = some n ∧ xs[n]? = some (.d (.int m)) ∧ a ρ C2 fun z C3 => match z with
  | .d (.int z) => C3 p = some (.l xs) ∧ k.nx ρ (cup C3 p (.l (xs.set n (.d (.int (m + z))))))
  | _ => False
theorem get_list : PGet X (rIxL X.K) := by
  intro pins s σ H o i ov iv Q I ro ri h
  obtain ⟨p, xs, j, v, rfl, rfl, hq, ha, q⟩ := h
  cases ro
  obtain ⟨t, rfl⟩ := ri
  obtain ⟨its, r, pl, hz⟩ := I.list hq
  obtain ⟨n, h1, h2, h3, h4, h5⟩ := atI_get ha
  obtain ⟨u, eu, ru⟩ := r.get h2
  have hl := r.length
  have hn := line63
  have fin : EP X pins σ Q u s := ⟨v, H, I, ru, q⟩
  by_cases h0 : 0 ≤ j
  · have hj : j.toNat = n := by
      rw [seqIndex_of h0 h5] at h1
      exact Option.some.inj h1
    exact wpAny_getItem_list pl.isList h0 (by omega) (by rw [hj]; simpa using eu) fin
  · have hj : (j + (its.toArray.size : Int)).toNat = n := by
      rw [seqIndex_neg (by omega) h4] at h1
      rw [List.size_toArray, ← hl]
      exact Option.some.inj h1
    exact wpAny_getItem_list_neg pl.isList (by omega) (by rw [List.size_toArray] <;> omega) (by omega) (by rw [hj]; simpa using eu) fin
theorem aps_augS {o i : Expr} {ao ai : AE} {tpos : Pos} (ho : APE X P o ao) (hi : APE X P i ai) (he : APE X P e ae)
    (hst : ∀ ov iv new, augStore i ov iv new = (do holding [new, ov, iv] (setItem ov iv new); release [new, ov, iv] []; pure .next) := by intros; rfl) : APS X P (.AugAssign (.Subscript o i tpos) .Add e pos) (aAugS ao ai ae) :=
  aps_of (ps_augS ho hi get_list he ip_add set_list hst) fun G C H σ ρ k D hA hw en =>
    ⟨G, C, ρ, _, hA, hw, fun u x G1 C1 H1 s1 r1 h1 => ⟨G1, C1, ρ, _, hA.step s1, h1, fun w y G2 C2 H2 s2 r2 h2 => by
      obtain ⟨p, xs, j, n, m, rfl, rfl, e1, e2, e3, h2⟩ := h2
      obtain ⟨_, vs2, f, rs⟩ := s2.rel.cell p _ e1
      cases r1
      cases r2
      obtain ⟨v3, hv3, r3⟩ := pget rs e3
      cases r3
      have s12 := s1.trans s2
      refine ⟨p, vs2, j, .int m, rfl, rfl, SqL.of f, ?_, G2, C2, ρ, _, hA.step s12, h2, fun z az G3 C3 H3 s3 r3 h3 => ?_⟩
      · unfold atI
        rw [rs.length, e2]
        exact hv3
      · split at h3
        · rename_i y3
          obtain ⟨e4, h3⟩ := h3
          obtain ⟨_, vs4, f4, rs4⟩ := s3.rel.cell p _ e4
          cases r3
          refine ⟨m, y3, rfl, rfl, p, vs4, j, n, rfl, rfl, f4, by rw [rs4.length]; exact e2, ?_⟩
          have s4 := Stp.put (c := .l (xs.set n (.d (.int (m + y3))))) s3.rel e4 ⟨_, upd_same, pset rv_int n rs4⟩
          have st := (s12.trans s3).trans s4
          exact en.nx σ ρ _ _ _ st (hA.rs.mono st.ex) h3
        · exact h3.elim⟩⟩
def aIfS (t : AT) (s u : AS) : AS := fun k ρ C => t ρ C fun b C1 => if b = true then s k ρ C1 else u k ρ C1
theorem aps_if {c : Expr} {x y : List Stmt} (hc : APT X P c t) (ha : APSs X P x s1) (hb : APSs X P y s2) : APS X P (.If c x y pos) (aIfS t s1 s2) :=
  aps_of (ps_if hc ha hb) fun G C H σ ρ k D hA hw en => ⟨G, C, ρ, _, hA, hw, fun b G1 C1 H1 s1 h1 => by
    cases b with
    | true => exact iteT ⟨G1, C1, ρ, k, hA.step s1, h1, en.step s1⟩
    | false => exact iteF ⟨G1, C1, ρ, k, hA.step s1, h1, en.step s1⟩⟩
/-- another view of the state -/
def Vw (ρ : Sl) (C : Cs) (ρ2 : Sl) (C2 : Cs) : Prop := ∀ K G H σ, Rel K G C H → RS K G σ ρ → ∃ G2, Stp K G C H G2 C2 H ∧ RS K G2 σ ρ2
def aVw (s : AS) : AS := fun k ρ C => ∃ ρ2 C2, Vw ρ C ρ2 C2 ∧ s k ρ2 C2
theorem Vw.refl (ρ : Sl) (C : Cs) : Vw ρ C ρ C := fun K G H σ R S => ⟨G, Stp.refl R, S⟩
theorem Vw.trans {ρ ρ1 ρ2 : Sl} {C C1 C2 : Cs} (a : Vw ρ C ρ1 C1) (b : Vw ρ1 C1 ρ2 C2) : Vw ρ C ρ2 C2 := fun K G H σ R S => by
  obtain ⟨G1, s1, S1⟩ := a K G H σ R S
  obtain ⟨G2, s2, S2⟩ := b K G1 H σ s1.rel S1
  exact ⟨G2, s1.trans s2, S2⟩
theorem Vw.drop {ρ : Sl} {C C1 : Cs} (s : Sub C1 C) : Vw ρ C ρ C1 := fun K G H σ R S => ⟨G, Stp.drop R s, S⟩
/-- the slot i, that holds the list cell at p, holds data from here on -/
theorem Vw.freeze {ρ : Sl} {C : Cs} (i : Nat) {p : Addr} {xs : List PyData} (hi : ρ[i]? = some (some (.r p))) (hp : C p = some (.l (xs.map AV.d))) : Vw ρ C (ρ.set i (some (.d (.list xs)))) (cdel C p) := fun K G H σ R S => by
  obtain ⟨G2, s, d⟩ := Stp.freeze R hp
  refine ⟨G2, s, ?_⟩
  obtain ⟨v, h1, h2⟩ := S.at' i _ hi
  cases h2
  have z := (S.mono s.ex).set (i := i) (rv_d d)
  have e : σ.set i (some (V.ref p)) = σ := by
    refine List.ext_getElem? fun j => ?_
    by_cases hj : i = j
    · subst hj
      rw [h1]
      exact List.getElem?_set_self (List.getElem?_eq_some_iff.mp h1).1
    · exact List.getElem?_set_ne hj
  rw [e] at z
  exact z
theorem apss_vw (h : APSs X P sts s1) : APSs X P sts (aVw s1) := pss_mono h fun D σ H ⟨G, C, ρ, k, hA, hw, en⟩ => by
  obtain ⟨ρ2, C2, hv, hw⟩ := hw
  obtain ⟨G2, s, S⟩ := hv X.K G H σ hA.rel hA.rs
  exact ⟨G2, C2, ρ2, k, hA.stepS s S, hw, en.step s⟩

/-! ### loops -/
def aFor (w : AW) (g : AG) (b : AS) : AS := fun k ρ C => w ρ C fun its sb C1 => ∃ Pv : Nat → Sl → Cs → Prop, Pv 0 ρ C1 ∧ (∀ i ρ C, i ≤ its.length → Pv i ρ C → sb C) ∧
  (∀ i x ρ C, its[i]? = some x → Pv i ρ C → g x ρ C fun ρ2 C2 => b { k with nx := Pv (i + 1), ct := Pv (i + 1), bk := k.nx } ρ2 C2) ∧ ∀ ρ C, Pv its.length ρ C → k.nx ρ C
theorem aps_for {iter : Expr} {body : List Stmt} {w : AW} (hp : PassesOwn (model X.prog X.w) X.A X.env X.xe) (hc : X.calm = true) (hi : API X P tg iter w) (hg : APG X P vs tg g) (hb : APSs X P body s1)
    (hs : ∀ x, foldedSetIterable iter X.env x = pure x := by intro _; rfl) : APS X P (.For tg iter body [] pos) (aFor w g s1) :=
  aps_of (ps_for hp hc hi hg hb hs) fun G C H σ ρ k D hA hw en => ⟨G, C, ρ, _, hA, hw, fun its sb G1 C1 H1 J s1 wk h1 => by
    obtain ⟨Pv, p0, psb, turn, done⟩ := h1
    refine ⟨fun i m σ H => m = its.length - i ∧ i ≤ its.length ∧ ∃ G2 C2 ρ2, Stp X.K G1 C1 H1 G2 C2 H ∧ RS X.K G2 σ ρ2 ∧ Pv i ρ2 C2, ⟨its.length, by simp, Nat.zero_le _, G1, C1, ρ, Stp.refl s1.rel, hA.rs.mono s1.ex, p0⟩, ?_⟩
    rintro i m σ2 H2 ⟨rfl, hi, G2, C2, ρ2, s2, r2, p2⟩
    have s12 := s1.trans s2
    by_cases hlt : i < its.length
    · refine .inr ⟨wk.go i G2 C2 H2 s2.ex s2.rel (psb i ρ2 C2 hi p2) hlt, fun σ' H' => ∃ G3 C3 ρ3, Stp X.K G1 C1 H1 G3 C3 H' ∧ RS X.K G3 σ' ρ3 ∧ Pv (i + 1) ρ3 C3, fun σ' H' hN => ⟨its.length - (i + 1), by omega, rfl, hlt, hN⟩, fun x H3 hy => ?_⟩
      have hx : its[i]? = some its[i] := List.getElem?_eq_getElem hlt
      obtain ⟨G3, s3, r3⟩ := wk.yld i _ x G2 C2 H2 H3 s2.ex s2.rel (psb i ρ2 C2 hi p2) hx hy
      have t := turn i _ ρ2 C2 hx p2
      have hA2 := hA.stepS s12 r2
      refine ⟨G3, C2, ρ2, _, _, hA2.step s3, r3, t, fun σ4 ρ4 G4 C4 H4 _ s4 r4 h4 => ?_⟩
      have s14 := (s2.trans s3).trans s4
      refine ⟨G4, C4, ρ4, _, hA.stepS (s1.trans s14) r4, h4, ⟨fun σ5 ρ5 G5 C5 H5 s5 r5 q5 => ⟨G5, C5, ρ5, s14.trans s5, r5, q5⟩, fun v av G5 C5 H5 s5 r5 q5 => en.rt v av G5 C5 H5 ((s1.trans s14).trans s5) r5 q5,
        fun σ5 ρ5 G5 C5 H5 s5 r5 q5 => en.nx σ5 ρ5 G5 C5 H5 ((s1.trans s14).trans s5) r5 q5, fun σ5 ρ5 G5 C5 H5 s5 r5 q5 => ⟨G5, C5, ρ5, s14.trans s5, r5, q5⟩⟩⟩
    · have ei : i = its.length := by omega
      subst ei
      exact .inl ⟨wk.stop G2 C2 H2 s2.ex s2.rel (psb _ ρ2 C2 hi p2), en.nx σ2 ρ2 G2 C2 H2 s12 r2 (done ρ2 C2 p2)⟩⟩
def aWhile (t : AT) (b : AS) : AS := fun k ρ C => ∃ W : Nat → Sl → Cs → Prop, (∃ m, W m ρ C) ∧ ∀ m ρ C, W m ρ C → t ρ C fun c C1 => if c = true then b { k with nx := fun ρ' C' => ∃ m', m' < m ∧ W m' ρ' C', ct := fun ρ' C' => ∃ m', m' < m ∧ W m' ρ' C', bk := k.nx } ρ C1 else k.nx ρ C1
theorem aps_while {c : Expr} {body : List Stmt} (hp : PassesOwn (model X.prog X.w) X.A X.env X.xe) (hc : APT X P c t) (hb : APSs X P body s1) : APS X P (.While c body [] pos) (aWhile t s1) :=
  aps_of (ps_while hp hc hb) fun G C H σ ρ k D hA hw en => by
    obtain ⟨W, ⟨m0, w0⟩, turn⟩ := hw
    refine ⟨fun m σ H' => ∃ G2 C2 ρ2, Stp X.K G C H G2 C2 H' ∧ RS X.K G2 σ ρ2 ∧ W m ρ2 C2, ⟨m0, G, C, ρ, Stp.refl hA.rel, hA.rs, w0⟩, ?_⟩
    rintro m σ2 H2 ⟨G2, C2, ρ2, s2, r2, w2⟩
    refine ⟨G2, C2, ρ2, _, hA.stepS s2 r2, turn m ρ2 C2 w2, fun b G3 C3 H3 s3 h3 => ?_⟩
    have s23 := s2.trans s3
    cases b with
    | true =>
      replace h3 := if_pos (c := true = true) rfl ▸ h3
      refine iteT ⟨fun σ' H' => ∃ m', m' < m ∧ ∃ G4 C4 ρ4, Stp X.K G C H G4 C4 H' ∧ RS X.K G4 σ' ρ4 ∧ W m' ρ4 C4, fun σ' H' z => z, ?_⟩
      refine ⟨G3, C3, ρ2, _, hA.stepS s23 (r2.mono s3.ex), h3, ⟨fun σ5 ρ5 G5 C5 H5 s5 r5 q5 => ?_, fun v av G5 C5 H5 s5 r5 q5 => en.rt v av G5 C5 H5 (s23.trans s5) r5 q5, fun σ5 ρ5 G5 C5 H5 s5 r5 q5 => en.nx σ5 ρ5 G5 C5 H5 (s23.trans s5) r5 q5, fun σ5 ρ5 G5 C5 H5 s5 r5 q5 => ?_⟩⟩
      · obtain ⟨m', hm, w'⟩ := q5
        exact ⟨m', hm, G5, C5, ρ5, s23.trans s5, r5, w'⟩
      · obtain ⟨m', hm, w'⟩ := q5
        exact ⟨m', hm, G5, C5, ρ5, s23.trans s5, r5, w'⟩
    | false =>
      replace h3 := if_neg (c := false = true) Bool.false_ne_true ▸ h3
      exact iteF (en.nx σ2 ρ2 G3 C3 H3 s23 (r2.mono s3.ex) h3)
end
end AB

set_option Elab.async false
set_option linter.all false
set_option maxRecDepth 100000
set_option maxHeartbeats 4000000
/-! Layer A, comprehensions, dicts, calls of defs, raising. -/
namespace AB
open PySem PySem.Spec PyProof.Rows L2

/-! ### comprehensions -/
def hdel (H : Hp) (D : Addr) : Hp := fun b => if b = D then none else H b
theorem hdel_same {H : Hp} {D : Addr} : hdel H D D = none := if_pos rfl
theorem hdel_ne {H : Hp} {D b : Addr} (h : b ≠ D) : hdel H D b = H b := if_neg h
theorem hdel_some {H : Hp} {D b : Addr} {o : HO} (h : hdel H D b = some o) : b ≠ D ∧ H b = some o := by
  by_cases e : b = D
  · rw [e, hdel_same] at h
    cases h
  · rw [hdel_ne e] at h
    exact ⟨e, h⟩
theorem hdel_upd {H : Hp} {D : Addr} {o : HO} : hdel (upd H D o) D = hdel H D := by
  funext b
  by_cases e : b = D
  · rw [e, hdel_same, hdel_same]
  · rw [hdel_ne e, hdel_ne e, upd_ne e]
theorem hdel_new {H : Hp} {D : Addr} {o : HO} (h : H D = none) : hdel (upd H D o) D = H := by
  funext b
  by_cases e : b = D
  · rw [e, hdel_same, h]
  · rw [hdel_ne e, upd_ne e]
section
variable {K : PySem.W.Frag} {G G1 G2 G' H H1 H' : Hp} {C C1 C2 C' : Cs} {D : Addr}
theorem Rel.back (R : Rel K G C (hdel H D)) : Rel K G C H := by
  refine ⟨fun b o h => (hdel_some (R.ex b o h)).2, fun a c h => ?_⟩
  obtain ⟨g, k⟩ := R.cell a c h
  obtain ⟨o, ho⟩ := k.some
  exact ⟨g, k.mono (Same.refl _) (hdel_ne (hdel_some ho).1).symm⟩
theorem Rel.hide (R : Rel K G C H) (g : G D = Option.none) (c : C D = Option.none) : Rel K G C (hdel H D) := by
  refine ⟨fun b o h => ?_, fun a c' h => ?_⟩
  · rw [hdel_ne (ne_of_none h g)]
    exact R.ex b o h
  · obtain ⟨g', k⟩ := R.cell a c' h
    exact ⟨g', k.mono (Same.refl _) (hdel_ne (cne h c))⟩
/-- on from a state in which D is hidden -/
theorem Stp.on (n : H1 D = none) (a : Stp K G1 C1 H1 G2 C2 (hdel H D)) (b : Stp K G2 C2 H G' C' H') : Stp K G1 C1 H1 G' C' H' :=
  ⟨b.rel, a.ex.trans b.ex, fun x o h g c => by
    obtain ⟨h2, g2, c2⟩ := a.keep x o h g c
    exact b.keep x o (hdel_some h2).2 g2 c2⟩
theorem Stp.onHide (n : H1 D = none) (a : Stp K G1 C1 H1 G2 C2 (hdel H D)) (b : Stp K G2 C2 H G' C' H') {o : HO} (hD : H D = some o) : Stp K G1 C1 H1 G' C' (hdel H' D) ∧ H' D = some o := by
  have z := a.rel.none (p := D) hdel_same
  obtain ⟨k1, k2, k3⟩ := b.keep D o hD z.1 z.2
  refine ⟨⟨b.rel.hide k2 k3, a.ex.trans b.ex, fun x u h g c => ?_⟩, k1⟩
  obtain ⟨h2, g2, c2⟩ := (Stp.on n a b).keep x u h g c
  exact ⟨by rw [hdel_ne (ne_of_none h n)]; exact h2, g2, c2⟩
end
theorem wipe_wipe {σ : L2.St} : ∀ {vs : List Nat}, L2.wipe (L2.wipe σ vs) vs = L2.wipe σ vs := by
  intro vs
  have hn : ∀ {us : List Nat} {i : Nat}, i ∈ us → i < σ.length → (L2.wipe σ us)[i]? = some none := by
    intro us
    induction us with
    | nil =>
      intro i h
      cases h
    | cons j us ih =>
      intro i h hl
      show ((L2.wipe σ us).set j none)[i]? = some none
      by_cases e : j = i
      · subst e
        rw [List.getElem?_set_self (by rw [L2.wipe_length]; exact hl)]
      · rw [List.getElem?_set_ne e]
        cases h with
        | head => exact absurd rfl e
        | tail _ h => exact ih h hl
  have go : ∀ us, (∀ i, i ∈ us → i ∈ vs) → L2.wipe (L2.wipe σ vs) us = L2.wipe σ vs := by
    intro us
    induction us with
    | nil =>
      intro _
      rfl
    | cons j us ih =>
      intro hs
      show (L2.wipe (L2.wipe σ vs) us).set j none = _
      rw [ih fun i hi => hs i (List.mem_cons_of_mem _ hi)]
      refine List.ext_getElem? fun i => ?_
      by_cases e : j = i
      · subst e
        by_cases hl : j < σ.length
        · rw [List.getElem?_set_self (by rw [L2.wipe_length]; exact hl), hn (hs j List.mem_cons_self) hl]
        · rw [List.getElem?_eq_none (by rw [List.length_set, L2.wipe_length]; omega), List.getElem?_eq_none (by rw [L2.wipe_length]; omega)]
      · rw [List.getElem?_set_ne e]
  exact go vs fun _ h => h
def atYes : AT := fun _ C q => q true C
def APTs (X : Cx) (P : Par) (ifs : List Expr) (t : AT) : Prop := PTs X ifs (gT X.K P t)
theorem pts_mono {X : Cx} {ifs : List Expr} {t u : TT} (h : PTs X ifs t) (m : ∀ σ H Q, u σ H Q → t σ H Q) : PTs X ifs u := ⟨fun pins s σ H Q I q => h.run pins s σ H Q I (m σ H Q q)⟩
theorem apts_nil {X : Cx} {P : Par} : APTs X P [] atYes := pts_mono pts_nil fun σ H Q h => gT_ret (b := true) h
theorem apts_one {X : Cx} {P : Par} {c : Expr} {t : AT} (h : APT X P c t) : APTs X P [c] t := pts_one h
abbrev ixs (own : List (Str × Nat)) : List Nat := own.map fun p => p.2
def lcInv (w : AW) (g : AG) (t : AT) (e : AE) (vs : List Nat) (ρ : Sl) (C : Cs) (done : List AV → Cs → Prop) : Prop :=
  w ρ C fun its sb C1 => ∃ Pv : Nat → List AV → Cs → Prop, Pv 0 [] C1 ∧ (∀ i acc C, i ≤ its.length → Pv i acc C → sb C) ∧
    (∀ i x acc C, its[i]? = some x → Pv i acc C → g x (awipe ρ vs) C fun ρ2 C2 => t ρ2 C2 fun b C3 => if b = true then e ρ2 C3 fun y C4 => acc.length < 100000 ∧ Pv (i + 1) (acc ++ [y]) C4 else Pv (i + 1) acc C3) ∧
    ∀ acc C, Pv its.length acc C → done acc C
/-- a comprehension whose list is data -/
def aLc (w : AW) (g : AG) (t : AT) (e : AE) (vs : List Nat) : AE := fun ρ C q => lcInv w g t e vs ρ C fun acc C' => match allD acc with
  | some xs => q (.d (.list xs)) C'
  | none => False
/-- a comprehension whose list is a cell -/
def aLcC (w : AW) (g : AG) (t : AT) (e : AE) (vs : List Nat) : AE := fun ρ C q => lcInv w g t e vs ρ C fun acc C' => ∀ p, C' p = none → q (.r p) (cup C' p (.l acc))
section
variable {X : Cx} {P : Par} {w : AW} {g : AG} {t : AT} {ae : AE} {vs : List Nat} {K : PySem.W.Frag}
theorem lc_sound {done : List AV → Cs → Prop} {ρ : Sl} {σ : L2.St} {G H : Hp} {C : Cs} {Q : VK} (hA : At K P G C H σ ρ) (hw : lcInv w g t ae vs ρ C done)
    (fin : ∀ acc D vacc G' C' H', Stp K G C H G' C' (hdel H' D) → H' D = some (.lst vacc) → Rvs K G' vacc acc → done acc C' → Q (.ref D) H') :
    tLc (gI K P w) (gG K P vs g) (gT K P t) (gE K P ae) vs σ H Q := by
  refine ⟨G, C, ρ, _, hA, hw, fun its sb G1 C1 H1 J s1 wk h1 => ?_⟩
  obtain ⟨Pv, p0, psb, turn, dn⟩ := h1
  intro D nD
  refine ⟨fun i m H => m = its.length - i ∧ i ≤ its.length ∧ ∃ G2 C2 acc vacc, Stp K G1 C1 H1 G2 C2 (hdel H D) ∧ H D = some (.lst vacc) ∧ Rvs K G2 vacc acc ∧ Pv i acc C2, ⟨its.length, by simp, Nat.zero_le _, G1, C1, [], [], ?_, upd_same, .nil, p0⟩, ?_⟩
  · rw [hdel_new nD]
    exact Stp.refl s1.rel
  rintro i m H2 ⟨rfl, hi, G2, C2, acc, vacc, s2, hD, ra, p2⟩
  have R2 : Rel K G2 C2 H2 := s2.rel.back
  have nd := s2.rel.none (p := D) hdel_same
  by_cases hlt : i < its.length
  · refine .inr ⟨wk.go i G2 C2 H2 s2.ex R2 (psb i acc C2 hi p2) hlt, fun H' => ∃ G3 C3 acc vacc, Stp K G1 C1 H1 G3 C3 (hdel H' D) ∧ H' D = some (.lst vacc) ∧ Rvs K G3 vacc acc ∧ Pv (i + 1) acc C3, fun H' hN => ⟨its.length - (i + 1), by omega, rfl, hlt, hN⟩, fun x H3 hy => ?_⟩
    have hx : its[i]? = some its[i] := List.getElem?_eq_getElem hlt
    obtain ⟨G3, s3, r3⟩ := wk.yld i _ x G2 C2 H2 H3 s2.ex R2 (psb i acc C2 hi p2) hx hy
    have tn := turn i _ acc C2 hx p2
    have l3 : Lk K P G3 C2 H3 := fun G' C' H' c d f v x st => hA.lk G' C' H' c d f v x (s1.trans (Stp.on nD s2 (s3.trans st)))
    have rs3 : RS K G3 (L2.wipe σ vs) (awipe ρ vs) := (hA.rs.mono (s1.ex.trans (s2.ex.trans s3.ex))).wipe vs
    refine ⟨G3, C2, awipe ρ vs, _, _, ⟨s3.rel, rs3, l3⟩, r3, tn, fun σ4 ρ4 G4 C4 H4 w4 s4 r4 h4 => ⟨by rw [w4, wipe_wipe], ?_⟩⟩
    have s34 := s3.trans s4
    have at4 : At K P G4 C4 H4 σ4 ρ4 := ⟨s4.rel, r4, fun G' C' H' c d f v x st => l3 G' C' H' c d f v x (s4.trans st)⟩
    refine ⟨G4, C4, ρ4, _, at4, h4, fun b G5 C5 H5 s5 h5 => ?_⟩
    have s35 := s34.trans s5
    cases b with
    | false =>
      refine iteF ?_
      obtain ⟨z1, z2⟩ := Stp.onHide nD s2 s35 hD
      exact ⟨G5, C5, acc, vacc, z1, z2, ra.mono s35.ex, by simpa using h5⟩
    | true =>
      refine iteT ?_
      refine ⟨G5, C5, ρ4, _, at4.step s5, by simpa using h5, fun y ay G6 C6 H6 s6 r6 h6 => ?_⟩
      obtain ⟨hz, h6⟩ := h6
      have s36 := s35.trans s6
      obtain ⟨z1, z2⟩ := Stp.onHide nD s2 s36 hD
      refine ⟨vacc, z2, by rw [ra.length]; exact Nat.lt_of_lt_of_le hz (by decide), G6, C6, acc ++ [ay], vacc ++ [y], ?_, upd_same, papp (ra.mono s36.ex) (.cons r6 .nil), h6⟩
      rw [hdel_upd]
      exact z1
  · have ei : i = its.length := by omega
    subst ei
    exact .inl ⟨wk.stop G2 C2 H2 s2.ex R2 (psb _ acc C2 hi p2), fin acc D vacc G2 C2 H2 (s1.trans s2) hD ra (dn acc C2 p2)⟩
theorem Stp.unhide {G G' H H' : Hp} {C C' : Cs} {D : Addr} {vs : List V} (s : Stp K G C H G' C' (hdel H' D)) (hD : H' D = some (.lst vs)) : Stp K G C H (upd G' D (.lst vs)) C' H' := by
  have z := s.rel.none (p := D) hdel_same
  have s2 := Stp.data s.rel (p := D) (o := .lst vs) hdel_same
  have e : upd (hdel H' D) D (.lst vs) = H' := by
    funext b
    by_cases hb : b = D
    · rw [hb, upd_same, hD]
    · rw [upd_ne hb, hdel_ne hb]
  rw [e] at s2
  exact s.trans s2
theorem Stp.unhideC {G G' H H' : Hp} {C C' : Cs} {D : Addr} {vs : List V} {xs : List AV} (s : Stp K G C H G' C' (hdel H' D)) (hD : H' D = some (.lst vs)) (r : Rvs K G' vs xs) : Stp K G C H G' (cup C' D (.l xs)) H' := by
  have s2 := Stp.cell s.rel (p := D) (o := .lst vs) (c := .l xs) hdel_same ⟨vs, upd_same, r⟩
  have e : upd (hdel H' D) D (.lst vs) = H' := by
    funext b
    by_cases hb : b = D
    · rw [hb, upd_same, hD]
    · rw [upd_ne hb, hdel_ne hb]
  rw [e] at s2
  exact s.trans s2
variable {elt tg iter : Expr} {ifs : List Expr} {scope : Scope} {pos : Pos}
theorem lc_data {σ : L2.St} {H : Hp} {Q : VK} (h : gE K P (aLc w g t ae vs) σ H Q) : tLc (gI K P w) (gG K P vs g) (gT K P t) (gE K P ae) vs σ H Q := by
  obtain ⟨G, C, ρ, q, hA, hw, fin⟩ := h
  refine lc_sound hA hw fun acc D vacc G' C' H' s hD ra dn => ?_
  cases e : allD acc with
  | none =>
    rw [e] at dn
    exact dn.elim
  | some xs =>
    rw [e] at dn
    have e2 := allD_map e
    subst e2
    exact fin _ _ _ _ _ (s.unhide hD) (rv_d (dp_newL (s.rel.none (p := D) hdel_same).1 ra.dps)) dn
theorem lc_cell {σ : L2.St} {H : Hp} {Q : VK} (h : gE K P (aLcC w g t ae vs) σ H Q) : tLc (gI K P w) (gG K P vs g) (gT K P t) (gE K P ae) vs σ H Q := by
  obtain ⟨G, C, ρ, q, hA, hw, fin⟩ := h
  refine lc_sound hA hw fun acc D vacc G' C' H' s hD ra dn => ?_
  exact fin _ _ _ _ _ (s.unhideC hD ra) rv_r (dn D (s.rel.none (p := D) hdel_same).2)
theorem ape_lc (own : List (Str × Nat)) (hc : X.calm = true) (hN : X.N.Nodup) (hi : API X P tg iter w) (ok : BlkOk X.N X.env.scope scope own)
    (hg : ∀ (s : Shared) (H : Hp) (C : Addr) (cl : List (Str × Addr)) (fp : List Addr), APG (X.blk s H scope (compEnvC scope cl C X.env) fp) P (ixs own) tg g)
    (ht : ∀ (s : Shared) (H : Hp) (C : Addr) (cl : List (Str × Addr)) (fp : List Addr), APTs (X.blk s H scope (compEnvC scope cl C X.env) fp) P ifs t)
    (he : ∀ (s : Shared) (H : Hp) (C : Addr) (cl : List (Str × Addr)) (fp : List Addr), APE (X.blk s H scope (compEnvC scope cl C X.env) fp) P elt ae) (hs : ∀ x, foldedSetIterable iter X.env x = pure x := by intro _; rfl) :
    APE X P (.ListComp elt [⟨tg, iter, ifs, 0⟩] scope pos) (aLc w g t ae (ixs own)) := pe_mono (pe_lc (g := gG X.K P (ixs own) g) (tt := gT X.K P t) (te := gE X.K P ae) hc hN hi ok hg ht he hs) fun σ H Q h => lc_data h
theorem ape_lcC (own : List (Str × Nat)) (hc : X.calm = true) (hN : X.N.Nodup) (hi : API X P tg iter w) (ok : BlkOk X.N X.env.scope scope own)
    (hg : ∀ (s : Shared) (H : Hp) (C : Addr) (cl : List (Str × Addr)) (fp : List Addr), APG (X.blk s H scope (compEnvC scope cl C X.env) fp) P (ixs own) tg g)
    (ht : ∀ (s : Shared) (H : Hp) (C : Addr) (cl : List (Str × Addr)) (fp : List Addr), APTs (X.blk s H scope (compEnvC scope cl C X.env) fp) P ifs t)
    (he : ∀ (s : Shared) (H : Hp) (C : Addr) (cl : List (Str × Addr)) (fp : List Addr), APE (X.blk s H scope (compEnvC scope cl C X.env) fp) P elt ae) (hs : ∀ x, foldedSetIterable iter X.env x = pure x := by intro _; rfl) :
    APE X P (.ListComp elt [⟨tg, iter, ifs, 0⟩] scope pos) (aLcC w g t ae (ixs own)) := pe_mono (pe_lc (g := gG X.K P (ixs own) g) (tt := gT X.K P t) (te := gE X.K P ae) hc hN hi ok hg ht he hs) fun σ H Q h => lc_cell h
/-- name = [..] -/
theorem aps_lc (i : Nat) {y : Str} {py spos : Pos} (own : List (Str × Nat)) (hc : X.calm = true) (hN : X.N.Nodup) (hi : API X P tg iter w) (ok : BlkOk X.N X.env.scope scope own)
    (hg : ∀ (s : Shared) (H : Hp) (C : Addr) (cl : List (Str × Addr)) (fp : List Addr), APG (X.blk s H scope (compEnvC scope cl C X.env) fp) P (ixs own) tg g)
    (ht : ∀ (s : Shared) (H : Hp) (C : Addr) (cl : List (Str × Addr)) (fp : List Addr), APTs (X.blk s H scope (compEnvC scope cl C X.env) fp) P ifs t)
    (he : ∀ (s : Shared) (H : Hp) (C : Addr) (cl : List (Str × Addr)) (fp : List Addr), APE (X.blk s H scope (compEnvC scope cl C X.env) fp) P elt ae)
    (hsw : swapsWith (.ListComp elt [⟨tg, iter, ifs, 0⟩] scope pos) (some (.Name y py)) spos.line X.env = pure true) (hy : X.N[i]? = some y := by rfl) (hyl : X.env.scope.names.lookup y = some .local := by rfl) (hs : ∀ x, foldedSetIterable iter X.env x = pure x := by intro _; rfl) :
    APS X P (.Assign [.Name y py] (.ListComp elt [⟨tg, iter, ifs, 0⟩] scope pos) spos) (aSet i (aLc w g t ae (ixs own))) :=
  aps_of (ps_setLc (i := i) (g := gG X.K P (ixs own) g) (tt := gT X.K P t) (te := gE X.K P ae) hc hN hy hyl hsw hi ok hg ht he hs) fun G C H σ ρ k D hA hw en =>
    lc_data ⟨G, C, ρ, _, hA, hw, fun v av G1 C1 H1 s1 r1 q1 => en.nx _ _ G1 C1 H1 s1 ((hA.rs.mono s1.ex).set r1) q1⟩
theorem aps_lcC (i : Nat) {y : Str} {py spos : Pos} (own : List (Str × Nat)) (hc : X.calm = true) (hN : X.N.Nodup) (hi : API X P tg iter w) (ok : BlkOk X.N X.env.scope scope own)
    (hg : ∀ (s : Shared) (H : Hp) (C : Addr) (cl : List (Str × Addr)) (fp : List Addr), APG (X.blk s H scope (compEnvC scope cl C X.env) fp) P (ixs own) tg g)
    (ht : ∀ (s : Shared) (H : Hp) (C : Addr) (cl : List (Str × Addr)) (fp : List Addr), APTs (X.blk s H scope (compEnvC scope cl C X.env) fp) P ifs t)
    (he : ∀ (s : Shared) (H : Hp) (C : Addr) (cl : List (Str × Addr)) (fp : List Addr), APE (X.blk s H scope (compEnvC scope cl C X.env) fp) P elt ae)
    (hsw : swapsWith (.ListComp elt [⟨tg, iter, ifs, 0⟩] scope pos) (some (.Name y py)) spos.line X.env = pure true) (hy : X.N[i]? = some y := by rfl) (hyl : X.env.scope.names.lookup y = some .local := by rfl) (hs : ∀ x, foldedSetIterable iter X.env x = pure x := by intro _; rfl) :
    APS X P (.Assign [.Name y py] (.ListComp elt [⟨tg, iter, ifs, 0⟩] scope pos) spos) (aSet i (aLcC w g t ae (ixs own))) :=
  aps_of (ps_setLc (i := i) (g := gG X.K P (ixs own) g) (tt := gT X.K P t) (te := gE X.K P ae) hc hN hy hyl hsw hi ok hg ht he hs) fun G C H σ ρ k D hA hw en =>
    lc_cell ⟨G, C, ρ, _, hA, hw, fun v av G1 C1 H1 s1 r1 q1 => en.nx _ _ G1 C1 H1 s1 ((hA.rs.mono s1.ex).set r1) q1⟩
end

/-! ### calls of defs -/
/-- a promise over data: the arguments, the cells, what is wanted of the value, what is wanted of an error -/
abbrev ASp := List AV → Cs → (AV → Cs → Prop) → (Xn → Cs → Prop) → Prop
def gSp (K : PySem.W.Frag) (asp : ASp) : Sp := fun vs H Q E => ∃ G C avs, ∃ q : AV → Cs → Prop, ∃ x : Xn → Cs → Prop, Rel K G C H ∧ Rvs K G vs avs ∧ asp avs C q x ∧
  (∀ v av G' C' H', Stp K G C H G' C' H' → Rv K G' v av → q av C' → Q v H') ∧ Lk K ⟨E, x⟩ G C H
def aCall (asp : ASp) (x : Xn → Cs → Prop) (t : AA) : AE := fun ρ C q => t ρ C fun avs C1 => asp avs C1 q x
section
variable {X : Cx} {P : Par} {CX : CXT} {k : Nat} {f : Addr} {fd : FuncData} {ps : List Str} {asp : ASp} {x : Str} {p pos : Pos} {e : Expr} {es : List Expr} {ar : AA} {E : XK}
/-- a call whose errors are wished for as the def's own -/
theorem ap_callX (F : FnOk X.prog X.w X.K X.mg X.base CX k f fd ps (gSp X.K asp)) (hr : Room k X.A) (hm : X.mg x = some (.ref f)) (hk : PySem.W.keepIn X.K (.ref f) = true) (hb : Binds X.K fd ps []) (hx : Passes CX X P.E)
    (ha : APA X P (e :: es) ar) (hg : Gl X x := by rfl) (hdb : (x == ("__debug__" : Str)) = false := by decide) (he : starEach (e :: es) X.env = (false, eval e X.env) :: starEach es X.env := by rfl) (hpl : (backTo pos (starEach es X.env)).any (·.1) = false := by rfl) :
    APE X P (.Call (.Name x p) (e :: es) [] pos) (aCall asp P.X ar) := pe_mono (pe_call F hr hg hm hk hb .nil hx ha hdb he hpl) fun σ H Q h => by
  obtain ⟨G, C, ρ, q, hA, hw, fin⟩ := h
  refine ⟨G, C, ρ, _, hA, hw, fun vs avs G1 C1 H1 s1 r1 h1 => ?_⟩
  show gSp X.K asp (vs ++ []) H1 Q _
  rw [List.append_nil]
  exact ⟨G1, C1, avs, q, P.X, s1.rel, r1, h1, fun v av G2 C2 H2 s2 r2 h2 => fin v av G2 C2 H2 (s1.trans s2) r2 h2, hA.lk.step s1⟩
/-- a call out of which no error comes -/
theorem ap_call (F : FnOk X.prog X.w X.K X.mg X.base CX k f fd ps (gSp X.K asp)) (hr : Room k X.A) (hm : X.mg x = some (.ref f)) (hk : PySem.W.keepIn X.K (.ref f) = true) (hb : Binds X.K fd ps []) (hx : Passes CX X E)
    (ha : APA X P (e :: es) ar) (hg : Gl X x := by rfl) (hdb : (x == ("__debug__" : Str)) = false := by decide) (he : starEach (e :: es) X.env = (false, eval e X.env) :: starEach es X.env := by rfl) (hpl : (backTo pos (starEach es X.env)).any (·.1) = false := by rfl) :
    APE X P (.Call (.Name x p) (e :: es) [] pos) (aCall asp (fun _ _ => False) ar) := pe_mono (pe_call F hr hg hm hk hb .nil hx ha hdb he hpl) fun σ H Q h => by
  obtain ⟨G, C, ρ, q, hA, hw, fin⟩ := h
  refine ⟨G, C, ρ, _, hA, hw, fun vs avs G1 C1 H1 s1 r1 h1 => ?_⟩
  show gSp X.K asp (vs ++ []) H1 Q _
  rw [List.append_nil]
  exact ⟨G1, C1, avs, q, fun _ _ => False, s1.rel, r1, h1, fun v av G2 C2 H2 s2 r2 h2 => fin v av G2 C2 H2 (s1.trans s2) r2 h2, fun _ _ _ _ _ _ _ _ _ _ _ z => z.elim⟩
end
section
variable {P : Program} {w : World} {K : PySem.W.Frag} {mg : Str → Option Value} {base : Heap}
/-- what a def's return may lead to: cells forgotten; a list cell as data -/
def Ret (q : AV → Cs → Prop) (av : AV) (C' : Cs) : Prop := ∃ C1, Sub C1 C' ∧ (q av C1 ∨ ∃ p xs, av = .r p ∧ C' p = some (.l (xs.map AV.d)) ∧ C1 p = none ∧ q (.d (.list xs)) C1)
theorem Ret.of {q : AV → Cs → Prop} {av : AV} {C : Cs} (h : q av C) : Ret q av C := ⟨C, Sub.refl C, .inl h⟩
theorem Ret.sub {q : AV → Cs → Prop} {av : AV} {C C1 : Cs} (s : Sub C1 C) (h : q av C1) : Ret q av C := ⟨C1, s, .inl h⟩
theorem Ret.frz {q : AV → Cs → Prop} {p : Addr} {xs : List PyData} {C C1 : Cs} (s : Sub C1 C) (e : C p = some (.l (xs.map AV.d))) (n : C1 p = none) (h : q (.d (.list xs)) C1) : Ret q (.r p) C := ⟨C1, s, .inr ⟨p, xs, rfl, e, n, h⟩⟩
theorem ret_sound {G H G' H' : Hp} {C C' : Cs} {q : AV → Cs → Prop} {Q : VK} {v : V} {av : AV} (s : Stp K G C H G' C' H') (r : Rv K G' v av) (h : Ret q av C') (fin : ∀ v av G' C' H', Stp K G C H G' C' H' → Rv K G' v av → q av C' → Q v H') : Q v H' := by
  obtain ⟨C1, sb, h⟩ := h
  rcases h with h | ⟨p, xs, rfl, e, n, h⟩
  · exact fin v av G' C1 H' (s.trans (Stp.drop s.rel sb)) r h
  · obtain ⟨G2, s2, d⟩ := Stp.freeze s.rel e
    cases r
    refine fin _ (.d (.list xs)) G2 C1 H' ((s.trans s2).trans (Stp.drop s2.rel fun a c ha => ?_)) d h
    rw [cdel_ne (cne ha n)]
    exact sb a c ha
def astart (N : List Str) (avs : List AV) : Sl := avs.map some ++ List.replicate (N.length - avs.length) none
theorem rs_start {G : Hp} {N : List Str} {vs : List V} {avs : List AV} (h : Rvs K G vs avs) : RS K G (start N vs) (astart N avs) := by
  have hl := h.length
  refine ⟨?_, fun i av e => ?_⟩
  · unfold L2.start astart
    rw [List.length_append, List.length_append, List.length_map, List.length_map, List.length_replicate, List.length_replicate, hl]
  · unfold astart at e
    by_cases hi : i < avs.length
    · rw [List.getElem?_append_left (by rw [List.length_map]; exact hi), List.getElem?_map] at e
      cases ea : avs[i]? with
      | none =>
        rw [ea] at e
        cases e
      | some x =>
        rw [ea] at e
        cases e
        obtain ⟨v, hv, r⟩ := pget h ea
        refine ⟨v, ?_, r⟩
        unfold L2.start
        rw [List.getElem?_append_left (by rw [List.length_map]; omega), List.getElem?_map, hv]
        rfl
    · rw [List.getElem?_append_right (by rw [List.length_map]; omega)] at e
      rw [List.getElem?_replicate] at e
      split at e
      · cases e
      · cases e
theorem gs_start {G H : Hp} {C : Cs} {N : List Str} {vs : List V} {avs : List AV} {q : AV → Cs → Prop} {Q : VK} {P' : Par} {as : AS} (R : Rel K G C H) (rv : Rvs K G vs avs) (lk : Lk K P' G C H) (fin : ∀ v av G' C' H', Stp K G C H G' C' H' → Rv K G' v av → q av C' → Q v H')
    (h : as { nx := fun _ C' => Ret q (.d .none) C', rt := Ret q } (astart N avs) C) : gS K P' as { nx := fun _ H' => Q .non H', rt := Q } (start N vs) H :=
  ⟨G, C, _, _, ⟨R, rs_start rv, lk⟩, h, ⟨fun σ ρ G' C' H' s r z => ret_sound s rv_non z fin, fun v av G' C' H' s r z => ret_sound s r z fin, fun _ _ _ _ _ _ _ z => z.elim, fun _ _ _ _ _ _ _ z => z.elim⟩⟩
/-- THE RULE for a def out of which no error comes -/
theorem fok {x qual : Str} {st : Stmt} {f : Addr} {fd : FuncData} {N ps : List Str} {k : Nat} {asp : ASp} {dvs : List V} {kws : List (Str × V)} (F : FunD K x qual (defArgs st) (defBody st) (defScope st) dvs kws f fd) (S : FnScope N ps (defScope st)) (len : ∀ avs C q z, asp avs C q z → avs.length = ps.length)
    (hbody : ∀ (cdv : Value) (A : Around) (outer : List Env) (s : Shared) (H : Hp) (P' : Par), Room k (A.deeper (envOfC qual (defScope st) s.heap.objs.size f cdv)) →
      ∃ as, APSs (cxOf CX0 P w K mg base N qual (defScope st) f cdv A outer s H P'.E).nox P' (defBody st) as ∧ ∀ avs C q, asp avs C q P'.X → as { nx := fun _ C' => Ret q (.d .none) C', rt := Ret q } (astart N avs) C) :
    FnOk P w K mg base CX0 (k + 1) f fd ps (gSp K asp) := by
  refine F.ok S (fun vs H Q E h => ?_) (fun cdv A outer s H vs Q E hr h => ?_)
  · obtain ⟨G, C, avs, q, z, R, rv, ha, _⟩ := h
    rw [rv.length]
    exact len _ _ _ _ ha
  · obtain ⟨G, C, avs, q, z, R, rv, ha, fin, lk⟩ := h
    obtain ⟨as, hs, hr2⟩ := hbody cdv A outer s H ⟨E, z⟩ hr
    have hs2 : PSs (cxOf CX0 P w K mg base N qual (defScope st) f cdv A outer s H E).nox (defBody st) _ := hs
    exact ⟨_, hs2.nox, gs_start R rv lk fin (hr2 avs C q ha)⟩
/-- .. for a def that may raise -/
theorem fokX {x qual : Str} {st : Stmt} {f : Addr} {fd : FuncData} {N ps : List Str} {k : Nat} {asp : ASp} {dvs : List V} {kws : List (Str × V)} (F : FunD K x qual (defArgs st) (defBody st) (defScope st) dvs kws f fd) (S : FnScope N ps (defScope st)) (len : ∀ avs C q z, asp avs C q z → avs.length = ps.length)
    (hbody : ∀ (cdv : Value) (A : Around) (outer : List Env) (s : Shared) (H : Hp) (P' : Par), Room k (A.deeper (envOfC qual (defScope st) s.heap.objs.size f cdv)) →
      ∃ as, APSs (cxOf (L2.CX P w) P w K mg base N qual (defScope st) f cdv A outer s H P'.E) P' (defBody st) as ∧ ∀ avs C q, asp avs C q P'.X → as { nx := fun _ C' => Ret q (.d .none) C', rt := Ret q } (astart N avs) C) :
    FnOk P w K mg base (L2.CX P w) (k + 1) f fd ps (gSp K asp) := by
  refine F.ok S (fun vs H Q E h => ?_) (fun cdv A outer s H vs Q E hr h => ?_)
  · obtain ⟨G, C, avs, q, z, R, rv, ha, _⟩ := h
    rw [rv.length]
    exact len _ _ _ _ ha
  · obtain ⟨G, C, avs, q, z, R, rv, ha, fin, lk⟩ := h
    obtain ⟨as, hs, hr2⟩ := hbody cdv A outer s H ⟨E, z⟩ hr
    exact ⟨_, hs, gs_start R rv lk fin (hr2 avs C q ha)⟩
/-- a pure def: data to data, the cells as they are -/
def pureSp (pre : List PyData → (PyData → Prop) → Prop) : ASp := fun avs C q _ => ∃ ds, avs = ds.map AV.d ∧ pre ds fun d => q (.d d) C
end
end AB

set_option Elab.async false
set_option linter.all false
set_option maxRecDepth 100000
set_option maxHeartbeats 4000000
/-! Layer A, dicts, locks, methods with their side conditions, three names at once. -/
namespace AB
open PySem PySem.Spec PyProof.Rows L2
section
variable {X : Cx} {P : Par} {e o a b c : Expr} {es : List Expr} {st : Stmt} {ae ao aa ab ac : AE} {ar : AA} {pos p2 apos cpos pos' : Pos} {K : PySem.W.Frag} {s1 : AS}
theorem ap_app (ho : APE X P o ao) (he : APE X P e ae) (hbase : attributeBase o "append" X.env (eval o X.env) = eval o X.env := by rfl)
    (hfew : ((backTo cpos (starEach [e] X.env)).all (fun x => !x.1) && (backToKw cpos (keywordEach [] X.env)).all (fun x => x.1.isSome)
      && decide (([e] : List Expr).length + ([] : List Keyword).length + (if ([] : List Keyword).isEmpty then 0 else 1) < 30)) = true := by rfl)
    (hline : (apos.endLine == cpos.line) = true := by rfl) (hs : starEach [e] X.env = (false, eval e X.env) :: starEach [] X.env := by rfl) (hplain : (backTo cpos (starEach [] X.env)).any (·.1) = false := by rfl) :
    APE X P (.Call (.Attribute o "append" apos) [e] [] cpos) (aApp ao ae) :=
  ap_append (pl := pure false) ho he hs (pe_bm PySem.F.plainAttrs_list PySem.F.slot_list_append PySem.F.type_list_append mt_append ho (pa_cons he pa_nil hs) hbase hfew hline hs hplain)
theorem ap_pop0 (ho : APE X P o ao) (hbase : attributeBase o "pop" X.env (eval o X.env) = eval o X.env := by rfl) (hline : (apos.endLine == cpos.line) = true := by rfl) : APE X P (.Call (.Attribute o "pop" apos) [] [] cpos) (aPop ao) :=
  ap_pop ho (pe_bm0 PySem.F.plainAttrs_list PySem.F.slot_list_pop PySem.F.type_list_pop mt_pop ho hbase hline)

/-! ### dicts -/
def aval (kvs : List (Key × AV)) (k : Key) : Option AV := (kvs.find? fun kv => decide (kv.1 = k)).map (·.2)
def aput (kvs : List (Key × AV)) (k : Key) (v : AV) : List (Key × AV) :=
  if (kvs.any fun kv => decide (kv.1 = k)) = true then kvs.map (fun kv => if kv.1 = k then (kv.1, v) else kv) else kvs ++ [(k, v)]
def keyOf : AV → Option Key
  | .d (.int i) => some (.inl i)
  | .d (.str x) => some (.inr x)
  | _ => none
theorem key_v {G : Hp} {v : V} {x : AV} {k : Key} (r : Rv K G v x) (h : keyOf x = some k) : v = kV k := by
  cases x with
  | r a => cases h
  | d x =>
    cases x with
    | int i =>
      cases h
      cases r
      rfl
    | str i =>
      cases h
      cases r
      rfl
    | _ => cases h
theorem val_none {G : Hp} {k : Key} : ∀ {vs : List (Key × V)} {kvs : List (Key × AV)}, Rkv K G vs kvs → aval kvs k = none → valV vs k = none
  | _, _, .nil, _ => rfl
  | (k1, v) :: vs, (k2, x) :: kvs, .cons r t, h => by
    obtain ⟨e, r⟩ := r
    cases (show k1 = k2 from e)
    unfold aval at h
    unfold valV
    rw [List.find?_cons] at h ⊢
    by_cases z : k1 = k
    · rw [decide_eq_true z] at h
      cases h
    · rw [decide_eq_false z] at h ⊢
      exact val_none t h
theorem val_some {G : Hp} {k : Key} {x : AV} : ∀ {vs : List (Key × V)} {kvs : List (Key × AV)}, Rkv K G vs kvs → aval kvs k = some x → ∃ v, valV vs k = some v ∧ Rv K G v x
  | _, _, .nil, h => by cases h
  | (k1, v) :: vs, (k2, y) :: kvs, .cons r t, h => by
    obtain ⟨e, r⟩ := r
    cases (show k1 = k2 from e)
    unfold aval at h
    unfold valV
    rw [List.find?_cons] at h ⊢
    by_cases z : k1 = k
    · rw [decide_eq_true z] at h ⊢
      cases h
      exact ⟨v, rfl, r⟩
    · rw [decide_eq_false z] at h ⊢
      exact val_some t h
theorem any_kv {G : Hp} {k : Key} : ∀ {vs : List (Key × V)} {kvs : List (Key × AV)}, Rkv K G vs kvs → (vs.any fun kv => decide (kv.1 = k)) = (kvs.any fun kv => decide (kv.1 = k))
  | _, _, .nil => rfl
  | (k1, v) :: vs, (k2, y) :: kvs, .cons r t => by
    cases (show k1 = k2 from r.1)
    rw [List.any_cons, List.any_cons, any_kv t]
theorem map_kv {G : Hp} {k : Key} {v : V} {x : AV} (r : Rv K G v x) : ∀ {vs : List (Key × V)} {kvs : List (Key × AV)}, Rkv K G vs kvs → Rkv K G (vs.map fun kv => if kv.1 = k then (kv.1, v) else kv) (kvs.map fun kv => if kv.1 = k then (kv.1, x) else kv)
  | _, _, .nil => .nil
  | (k1, w) :: vs, (k2, y) :: kvs, .cons q t => by
    obtain ⟨e, q⟩ := q
    cases (show k1 = k2 from e)
    refine .cons ?_ (map_kv r t)
    by_cases z : k1 = k
    · simp only [z, if_true]
      exact ⟨trivial, r⟩
    · simp only [z, if_false]
      exact ⟨trivial, q⟩
theorem put_kv {G : Hp} {k : Key} {v : V} {x : AV} {vs : List (Key × V)} {kvs : List (Key × AV)} (h : Rkv K G vs kvs) (r : Rv K G v x) : Rkv K G (putK vs k v) (aput kvs k x) := by
  unfold putK aput
  rw [any_kv h]
  split
  · exact map_kv r h
  · exact papp h (.cons ⟨rfl, r⟩ .nil)
theorem kv_len {G : Hp} {vs : List (Key × V)} {kvs : List (Key × AV)} (h : Rkv K G vs kvs) : vs.length = kvs.length := Paired.length h
/-- what a dict cell holds, locked or not -/
def dictAt (C : Cs) (p : Addr) (kvs : List (Key × AV)) : Prop := C p = some (.k kvs) ∨ ∃ o vs, C p = some (.f o vs kvs)
theorem dict_rd {G H : Hp} {C : Cs} {p : Addr} {kvs : List (Key × AV)} (R : Rel K G C H) (h : dictAt C p kvs) : ∃ vs, Rd H p (.dK vs) ∧ Rkv K G vs kvs := by
  rcases h with h | ⟨o, vs, h⟩
  · obtain ⟨_, vs, e, r⟩ := R.cell p _ h
    exact ⟨vs, .inl e, r⟩
  · obtain ⟨_, e, r⟩ := R.cell p _ h
    exact ⟨vs, .inr ⟨o, e⟩, r⟩
def aDGet (d k : AE) : AE := fun ρ C q => d ρ C fun x C1 => k ρ C1 fun y C2 => ∃ p kvs ky v, x = .r p ∧ keyOf y = some ky ∧ dictAt C2 p kvs ∧ aval kvs ky = some v ∧ q v C2
theorem ap_dget (hu : X.A.units + 1 < cLine) (ho : APE X P o ao) (hi : APE X P e ae) (hs : NoSl e := by exact fun _ _ => rfl) : APE X P (.Subscript o e pos) (aDGet ao ae) := pe_mono (pe_dget hu ho hi hs) fun σ H Q h => by
  obtain ⟨G, C, ρ, q, hA, hw, fin⟩ := h
  refine ⟨G, C, ρ, _, hA, hw, fun v x G1 C1 H1 s1 r1 h1 => ?_⟩
  refine ⟨G1, C1, ρ, _, hA.step s1, h1, fun w y G2 C2 H2 s2 r2 h2 => ?_⟩
  obtain ⟨p, kvs, ky, z, rfl, ek, dk, ev, h2⟩ := h2
  obtain ⟨vs, rd, rk⟩ := dict_rd s2.rel dk
  obtain ⟨u, hu, ru⟩ := val_some rk ev
  cases r1
  refine ⟨p, u, rfl, .inl ⟨vs, ky, rd, key_v r2 ek, hu.symm⟩, fin u z G2 C2 H2 (s1.trans s2) ru h2⟩
/-- d.get(k, x) -/
def aDGet2 (d k f : AE) : AE := fun ρ C q => d ρ C fun x C1 => ∃ p kvs0, x = .r p ∧ dictAt C1 p kvs0 ∧ k ρ C1 fun y C2 => f ρ C2 fun z C3 => ∃ kvs ky, keyOf y = some ky ∧ dictAt C3 p kvs ∧ q ((aval kvs ky).getD z) C3
theorem ap_dget2 (hu : X.A.units + 1 < cLine) (ho : APE X P o ao) (hi : APE X P a aa) (hf : APE X P b ab) (m : M2 X o "get" apos a b cpos) : APE X P (.Call (.Attribute o "get" apos) [a, b] [] cpos) (aDGet2 ao aa ab) :=
  pe_mono (pe_dget2 hu ho hi hf m) fun σ H Q h => by
    obtain ⟨G, C, ρ, q, hA, hw, fin⟩ := h
    refine ⟨G, C, ρ, _, hA, hw, fun v x G1 C1 H1 s1 r1 h1 => ?_⟩
    obtain ⟨p, kvs0, rfl, d0, h1⟩ := h1
    obtain ⟨vs0, rd0, _⟩ := dict_rd s1.rel d0
    cases r1
    refine ⟨p, rfl, .inl ⟨vs0, rd0⟩, G1, C1, ρ, _, hA.step s1, h1, fun w y G2 C2 H2 s2 r2 h2 => ?_⟩
    refine ⟨G2, C2, ρ, _, hA.step (s1.trans s2), h2, fun w3 z G3 C3 H3 s3 r3 h3 => ?_⟩
    obtain ⟨kvs, ky, ek, dk, h3⟩ := h3
    obtain ⟨vs, rd, rk⟩ := dict_rd s3.rel dk
    refine ⟨valV vs ky, .inl ⟨vs, ky, rd, key_v (r2.mono s3.ex) ek, rfl⟩, ?_⟩
    have st := (s1.trans s2).trans s3
    cases ev : aval kvs ky with
    | none =>
      rw [val_none rk ev]
      rw [ev] at h3
      exact fin w3 z G3 C3 H3 st r3 h3
    | some u =>
      obtain ⟨u2, hu2, ru2⟩ := val_some rk ev
      rw [hu2]
      rw [ev] at h3
      exact fin u2 u G3 C3 H3 st ru2 h3
/-- d[k] = e -/
def aDPut (d k v : AE) : AS := fun K ρ C => v ρ C fun z C1 => d ρ C1 fun x C2 => k ρ C2 fun y C3 => ∃ p kvs ky, x = .r p ∧ keyOf y = some ky ∧ C3 p = some (.k kvs) ∧ kvs.length < 100000 ∧ K.nx ρ (cup C3 p (.k (aput kvs ky z)))
theorem aps_dput (hu : X.A.units + 1 < cLine) (ho : APE X P o ao) (hi : APE X P a aa) (hv : APE X P e ae) (hs : swapsWith e (some (.Subscript o a pos')) pos.line X.env = pure false := by rfl) : APS X P (.Assign [.Subscript o a pos'] e pos) (aDPut ao aa ae) :=
  aps_of (ps_dput hu ho hi hv hs) fun G C H σ ρ k D hA hw en => ⟨G, C, ρ, _, hA, hw, fun v z G1 C1 H1 s1 r1 h1 => ⟨G1, C1, ρ, _, hA.step s1, h1, fun u x G2 C2 H2 s2 r2 h2 =>
    ⟨G2, C2, ρ, _, hA.step (s1.trans s2), h2, fun w y G3 C3 H3 s3 r3 h3 => by
      obtain ⟨p, kvs, ky, rfl, ek, e3, hl, h3⟩ := h3
      obtain ⟨_, vs, f, rk⟩ := s3.rel.cell p _ e3
      cases r2
      refine ⟨p, upd H3 p (.dK (putK vs ky v)), rfl, .inl ⟨vs, ky, f, key_v r3 ek, by rw [kv_len rk]; exact Nat.lt_of_lt_of_le hl (by decide), rfl⟩, ?_⟩
      have s4 := Stp.put (c := .k (aput kvs ky z)) s3.rel e3 ⟨_, upd_same, put_kv rk ((Rv.mono s2.ex r1).mono s3.ex)⟩
      have st := ((s1.trans s2).trans s3).trans s4
      exact en.nx σ ρ _ _ _ st (hA.rs.mono st.ex) h3⟩⟩⟩
/-- {} -/
def aDNew : AE := fun _ C q => ∀ p, C p = none → q (.r p) (cup C p (.k []))
theorem ap_dnew : APE X P (.Dict [] [] pos) aDNew := pe_mono pe_dnewK fun σ H Q h => by
  obtain ⟨G, C, ρ, q, hA, hw, fin⟩ := h
  exact fun p np => fin _ _ _ _ _ (Stp.cell (c := .k []) hA.rel np ⟨[], upd_same, .nil⟩) rv_r (hw p (hA.rel.none np).2)

/-! ### a statement, an expression, under which a dict is locked -/
theorem Rel.lock {G H : Hp} {C : Cs} {p : Addr} {vs : List (Key × V)} {kvs : List (Key × AV)} {od : Obj} (R : Rel K G C H) (e : C p = some (.k kvs)) (rk : Rkv K G vs kvs) : Stp K G C H G (cup C p (.f od vs kvs)) (upd H p (.frz od (.dK vs))) :=
  Stp.put R e ⟨upd_same, rk⟩
/-- the lock on the dict cell in the slot i -/
def lockEnds (k : AEnds) (p : Addr) (od : Obj) (vs : List (Key × V)) (kvs : List (Key × AV)) : AEnds where
  nx := fun ρ' C' => C' p = some (.f od vs kvs) ∧ k.nx ρ' (cup C' p (.k kvs))
  rt := fun v C' => C' p = some (.f od vs kvs) ∧ k.rt v (cup C' p (.k kvs))
  bk := fun ρ' C' => C' p = some (.f od vs kvs) ∧ k.bk ρ' (cup C' p (.k kvs))
  ct := fun ρ' C' => C' p = some (.f od vs kvs) ∧ k.ct ρ' (cup C' p (.k kvs))
def aLock (i : Nat) (s : AS) : AS := fun k ρ C => ∃ p kvs, ρ[i]? = some (some (.r p)) ∧ C p = some (.k kvs) ∧ ∀ od vs, s (lockEnds k p od vs kvs) ρ (cup C p (.f od vs kvs))
theorem Rel.unlock {G H : Hp} {C : Cs} {p : Addr} {vs : List (Key × V)} {kvs : List (Key × AV)} {od : Obj} (R : Rel K G C H) (e : C p = some (.f od vs kvs)) : H p = some (.frz od (.dK vs)) ∧ Stp K G C H G (cup C p (.k kvs)) (upd H p (.dK vs)) := by
  obtain ⟨_, f, rk⟩ := R.cell p _ e
  exact ⟨f, Stp.put R e ⟨vs, upd_same, rk⟩⟩
theorem aps_lock (i : Nat) (h : APS X P st s1) : APS X P st (aLock i s1) := aps_of (ps_lock h) fun G C H σ ρ k D hA hw en => by
  obtain ⟨p, kvs, hi, e, hw⟩ := hw
  obtain ⟨_, vs, f, rk⟩ := hA.rel.cell p _ e
  refine ⟨p, .dK vs, f, trivial, fun od => ?_⟩
  have s0 := Rel.lock (od := od) hA.rel e rk
  refine ⟨G, _, ρ, _, hA.step s0, hw od vs, ⟨fun σ1 ρ1 G1 C1 H1 s1 r1 q1 => ?_, fun v av G1 C1 H1 s1 r1 q1 => ?_, fun σ1 ρ1 G1 C1 H1 s1 r1 q1 => ?_, fun σ1 ρ1 G1 C1 H1 s1 r1 q1 => ?_⟩⟩
  · obtain ⟨z1, z2⟩ := Rel.unlock s1.rel q1.1
    exact ⟨z1, en.nx σ1 ρ1 _ _ _ ((s0.trans s1).trans z2) r1 q1.2⟩
  · obtain ⟨z1, z2⟩ := Rel.unlock s1.rel q1.1
    exact ⟨z1, en.rt v av _ _ _ ((s0.trans s1).trans z2) r1 q1.2⟩
  · obtain ⟨z1, z2⟩ := Rel.unlock s1.rel q1.1
    exact ⟨z1, en.bk σ1 ρ1 _ _ _ ((s0.trans s1).trans z2) r1 q1.2⟩
  · obtain ⟨z1, z2⟩ := Rel.unlock s1.rel q1.1
    exact ⟨z1, en.ct σ1 ρ1 _ _ _ ((s0.trans s1).trans z2) r1 q1.2⟩
def aLockE (i : Nat) (a : AE) : AE := fun ρ C q => ∃ p kvs, ρ[i]? = some (some (.r p)) ∧ C p = some (.k kvs) ∧ ∀ od vs, a ρ (cup C p (.f od vs kvs)) fun v C' => C' p = some (.f od vs kvs) ∧ q v (cup C' p (.k kvs))
theorem ap_lock (i : Nat) (h : APE X P e ae) : APE X P e (aLockE i ae) := pe_mono (pe_lock h) fun σ H Q h => by
  obtain ⟨G, C, ρ, q, hA, hw, fin⟩ := h
  obtain ⟨p, kvs, hi, e, hw⟩ := hw
  obtain ⟨_, vs, f, rk⟩ := hA.rel.cell p _ e
  refine ⟨p, .dK vs, f, trivial, fun od => ?_⟩
  have s0 := Rel.lock (od := od) hA.rel e rk
  refine ⟨G, _, ρ, _, hA.step s0, hw od vs, fun v av G1 C1 H1 s1 r1 q1 => ?_⟩
  obtain ⟨z1, z2⟩ := Rel.unlock s1.rel q1.1
  exact ⟨z1, fin v av _ _ _ ((s0.trans s1).trans z2) r1 q1.2⟩

/-! ### a, b, c = e1, e2, e3 -/
def aPar3 (i j l : Nat) (r : AA) : AS := fun k ρ C => r ρ C fun vs C1 => match vs with
  | [u, v, w] => k.nx (((ρ.set i (some u)).set j (some v)).set l (some w)) C1
  | _ => False
theorem aps_par3 (i j l : Nat) {x y z : Str} {px py pz pt : Pos} {kt k2 pt2} (hc : X.calm = true) (hN : X.N.Nodup) (ha : APA X P [a, b, c] ar) (hi : X.N[i]? = some x := by rfl) (hj : X.N[j]? = some y := by rfl) (hl : X.N[l]? = some z := by rfl)
    (hij : i ≠ j := by decide) (hil : i ≠ l := by decide) (hjl : j ≠ l := by decide)
    (hx : X.env.scope.names.lookup x = some .local := by rfl) (hy : X.env.scope.names.lookup y = some .local := by rfl) (hz : X.env.scope.names.lookup z = some .local := by rfl)
    (hw : swappedStores [.Tuple [.Name x px, .Name y py, .Name z pz] kt pt] (.Tuple [a, b, c] k2 pt2) X.env = pure (some [x, y, z]) := by rfl)
    (hs : swapsWithSole [.Tuple [.Name x px, .Name y py, .Name z pz] kt pt] (.Tuple [a, b, c] k2 pt2) pos.line X.env = pure false := by rfl) :
    APS X P (.Assign [.Tuple [.Name x px, .Name y py, .Name z pz] kt pt] (.Tuple [a, b, c] k2 pt2) pos) (aPar3 i j l ar) :=
  aps_of (ps_par3 hc hN hi hj hl hij hil hjl hx hy hz ha hw hs) fun G C H σ ρ k D hA hw en => ⟨G, C, ρ, _, hA, hw, fun vs avs G1 C1 H1 s1 r1 q1 => by
    split at q1
    · cases r1 with
      | cons r1 r2 =>
        cases r2 with
        | cons r2 r3 =>
          cases r3 with
          | cons r3 r4 =>
            cases r4
            exact ⟨_, _, _, rfl, en.nx _ _ G1 C1 H1 s1 ((((hA.rs.mono s1.ex).set r1).set r2).set r3) q1⟩
    · exact q1.elim⟩
theorem aw_zip {p tpos : Pos} {elts : List Expr} {kk : Nat} {e2 : Expr} {ae2 : AE} (hm : X.mg "zip" = none) (ha : APE X P e ae) (ha2 : APE X P e2 ae2) (hg : Gl X "zip" := by rfl) (he : starEach [e, e2] X.env = (false, eval e X.env) :: starEach [e2] X.env := by rfl) (he2 : starEach [e2] X.env = (false, eval e2 X.env) :: starEach [] X.env := by rfl)
    (hpl : (backTo pos (starEach [e2] X.env)).any (·.1) = false := by rfl) :
    API X P (.Tuple elts kk tpos) (.Call (.Name "zip" p) [e, e2] [] pos) (awZ (aCons ae (aCons ae2 aNil))) :=
  awi_zip hm ha ha2 hg he he2 (pi_zip hg hm (apa_cons ha (apa_cons ha2 apa_nil he2) he) he hpl)
end
end AB

set_option Elab.async false
set_option linter.all false
set_option maxRecDepth 100000
set_option maxHeartbeats 4000000
/-! Layer A, small things: minus, isinstance's answers, readings by simp. -/
namespace AB
open PySem PySem.Spec PyProof.Rows L2
section
variable {X : Cx} {P : Par} {e : Expr} {ae : AE} {pos : Pos} {K : PySem.W.Frag}
/-- -e -/
def aNeg (a : AE) : AE := fun ρ C q => a ρ C fun x C1 => match x with
  | .d (.int i) => q (.d (.int (-i))) C1
  | _ => False
theorem ap_neg (ha : APE X P e ae) : APE X P (.UnaryOp .USub e pos) (aNeg ae) := pe_mono (pe_un un_neg ha) fun σ H Q h => by
  obtain ⟨G, C, ρ, q, hA, hw, fin⟩ := h
  refine ⟨G, C, ρ, _, hA, hw, fun v x G1 C1 H1 s1 r1 h1 => ?_⟩
  split at h1
  · cases r1
    exact ⟨_, rfl, fin _ _ G1 C1 H1 s1 rv_int h1⟩
  · exact h1.elim
end
theorem isi_ok_int (K : PySem.W.Frag) : ∀ x : PyData, PySem.W.kitOne K (.type (tyD x)) (.type "int") = some (isD "int" x) := fun x => by
  cases x <;> (refine kit_ty ?_; dsimp only [tyD, isD]; decide +kernel)
theorem isi_ok_bool (K : PySem.W.Frag) : ∀ x : PyData, PySem.W.kitOne K (.type (tyD x)) (.type "bool") = some (isD "bool" x) := fun x => by
  cases x <;> (refine kit_ty ?_; dsimp only [tyD, isD]; decide +kernel)
theorem isi_ok_tuple (K : PySem.W.Frag) : ∀ x : PyData, PySem.W.kitOne K (.type (tyD x)) (.type "tuple") = some (isD "tuple" x) := fun x => by
  cases x <;> (refine kit_ty ?_; dsimp only [tyD, isD]; decide +kernel)
theorem isi_ok_str (K : PySem.W.Frag) : ∀ x : PyData, PySem.W.kitOne K (.type (tyD x)) (.type "str") = some (isD "str" x) := fun x => by
  cases x <;> (refine kit_ty ?_; dsimp only [tyD, isD]; decide +kernel)
theorem iteY {c A B : Prop} [Decidable c] (hc : c) (h : A) : if c then A else B := by
  rw [if_pos hc]
  exact h
theorem iteN {c A B : Prop} [Decidable c] (hc : ¬ c) (h : B) : if c then A else B := by
  rw [if_neg hc]
  exact h
section
variable {i j k l : Nat} {x y z u : PyData} {ρ : Sl} {C : Cs} {q : Sl → Cs → Prop} {v : AV}
theorem g_n : agN i v ρ C q = q (ρ.set i (some v)) C := rfl
theorem g_tup2 : agTup 2 (agCons (agN i) (agCons (agN j) agNil)) (.d (.tuple [x, y])) ρ C q = q ((ρ.set i (some (.d x))).set j (some (.d y))) C :=
  propext ⟨fun h => h.2, fun h => ⟨rfl, h⟩⟩
theorem g_tup3 : agTup 3 (agCons (agN i) (agCons (agN j) (agCons (agN k) agNil))) (.d (.tuple [x, y, z])) ρ C q = q (((ρ.set i (some (.d x))).set j (some (.d y))).set k (some (.d z))) C :=
  propext ⟨fun h => h.2, fun h => ⟨rfl, h⟩⟩
theorem g_tup4 : agTup 4 (agCons (agN i) (agCons (agN j) (agCons (agN k) (agCons (agN l) agNil)))) (.d (.tuple [x, y, z, u])) ρ C q = q ((((ρ.set i (some (.d x))).set j (some (.d y))).set k (some (.d z))).set l (some (.d u))) C :=
  propext ⟨fun h => h.2, fun h => ⟨rfl, h⟩⟩
/-- number, (a, b, c) -/
theorem g_tup13 : agTup 2 (agCons (agN i) (agCons (agTup 3 (agCons (agN j) (agCons (agN k) (agCons (agN l) agNil)))) agNil)) (.d (.tuple [u, .tuple [x, y, z]])) ρ C q = q ((((ρ.set i (some (.d u))).set j (some (.d x))).set k (some (.d y))).set l (some (.d z))) C :=
  propext ⟨fun h => h.2.2, fun h => ⟨rfl, rfl, h⟩⟩
end
/-! ### readings, a statement at a time -/
section
variable {k : AEnds} {ρ : Sl} {C : Cs} {s t u : AS} {a : AE} {c : AT} {g : AG} {w : AW} {i j l : Nat} {r : AA} {b : AS} {f : Int → Int → Int}
theorem i_seq (h : s { k with nx := fun ρ1 C1 => t k ρ1 C1 } ρ C) : aSeq s t k ρ C := h
theorem i_set (h : a ρ C fun v C1 => k.nx (ρ.set i (some v)) C1) : aSet i a k ρ C := h
theorem i_if (h : c ρ C fun b C1 => if b = true then s k ρ C1 else u k ρ C1) : aIfS c s u k ρ C := h
theorem i_ret (h : a ρ C k.rt) : aRet a k ρ C := h
theorem i_drop (h : a ρ C fun _ C1 => k.nx ρ C1) : aDrop a k ρ C := h
theorem i_asg (h : a ρ C fun v C1 => g v ρ C1 k.nx) : aAsg a g k ρ C := h
theorem i_next (h : k.nx ρ C) : aNext k ρ C := h
theorem i_par (h : r ρ C fun vs C1 => match vs with
    | [v, w] => k.nx ((ρ.set i (some v)).set j (some w)) C1
    | _ => False) : aPar i j r k ρ C := h
theorem i_par3 (h : r ρ C fun vs C1 => match vs with
    | [u, v, w] => k.nx (((ρ.set i (some u)).set j (some v)).set l (some w)) C1
    | _ => False) : aPar3 i j l r k ρ C := h
/-- a for over a list of items; the word speaks of the turn, the slots and the cells -/
theorem i_for {its : List AV} {sb : Cs → Prop} {C1 : Cs} (hw : ∀ q : List AV → (Cs → Prop) → Cs → Prop, q its sb C1 → w ρ C q) (Pv : Nat → Sl → Cs → Prop) (h0 : Pv 0 ρ C1) (hsb : ∀ i ρ C, i ≤ its.length → Pv i ρ C → sb C)
    (turn : ∀ i x ρ C, its[i]? = some x → Pv i ρ C → g x ρ C fun ρ2 C2 => b { k with nx := Pv (i + 1), ct := Pv (i + 1), bk := k.nx } ρ2 C2) (done : ∀ ρ C, Pv its.length ρ C → k.nx ρ C) : aFor w g b k ρ C :=
  hw _ ⟨Pv, h0, hsb, turn, done⟩
theorem i_aug {x : Int} (hx : ρ[i]? = some (some (.d (.int x)))) (h : a ρ C fun v C1 => match v with
    | .d (.int y) => k.nx (ρ.set i (some (.d (.int (f x y))))) C1
    | _ => False) : aAug i f a k ρ C := by
  unfold aAug
  rw [hx]
  exact h
theorem i_vw {ρ2 : Sl} {C2 : Cs} (h : Vw ρ C ρ2 C2) (h2 : s k ρ2 C2) : aVw s k ρ C := ⟨ρ2, C2, h, h2⟩
end
/-! ### comprehensions, read -/
section
variable {w : AW} {g : AG} {t : AT} {e : AE} {vs : List Nat} {ρ : Sl} {C C1 : Cs} {its : List AV} {sb : Cs → Prop} {done : List AV → Cs → Prop} {q : AV → Cs → Prop}
theorem take_snoc {α : Type} {l : List α} {i : Nat} {x : α} (h : l[i]? = some x) : l.take (i + 1) = l.take i ++ [x] := by
  rw [List.take_add_one, h]
  rfl
theorem lc_map (f : AV → AV) (hw : ∀ q : List AV → (Cs → Prop) → Cs → Prop, q its sb C1 → w ρ C q) (hsb : sb C1) (hl : its.length ≤ 100000)
    (he : ∀ (i : Nat) x, its[i]? = some x → ∀ q : AV → Cs → Prop, q (f x) C1 → g x (awipe ρ vs) C1 fun ρ2 C2 => e ρ2 C2 q) (h : done (its.map f) C1) : lcInv w g atYes e vs ρ C done := by
  refine hw _ ⟨fun i acc C' => acc = (its.take i).map f ∧ C' = C1, ⟨rfl, rfl⟩, fun i acc C' _ h => ?_, fun i x acc C' hx hp => ?_, fun acc C' hp => ?_⟩
  · rw [h.2]
    exact hsb
  · obtain ⟨rfl, rfl⟩ := hp
    refine he i x hx _ ⟨?_, ?_⟩
    · have z := (List.getElem?_eq_some_iff.mp hx).1
      rw [List.length_map, List.length_take]
      omega
    · refine ⟨?_, rfl⟩
      rw [take_snoc hx, List.map_append]
      rfl
  · obtain ⟨rfl, rfl⟩ := hp
    rw [List.take_of_length_le (Nat.le_refl _)]
    exact h
theorem map_d {f : AV → PyData} (its : List AV) : its.map (fun x => AV.d (f x)) = (its.map f).map AV.d := by
  rw [List.map_map]
  rfl
theorem i_lc (f : AV → PyData) (hw : ∀ q : List AV → (Cs → Prop) → Cs → Prop, q its sb C1 → w ρ C q) (hsb : sb C1) (hl : its.length ≤ 100000)
    (he : ∀ (i : Nat) x, its[i]? = some x → ∀ q : AV → Cs → Prop, q (.d (f x)) C1 → g x (awipe ρ vs) C1 fun ρ2 C2 => e ρ2 C2 q) (h : q (.d (.list (its.map f))) C1) : aLc w g atYes e vs ρ C q := by
  refine lc_map (fun x => AV.d (f x)) hw hsb hl he ?_
  rw [map_d, allD_of]
  exact h
theorem i_lcC (f : AV → AV) (hw : ∀ q : List AV → (Cs → Prop) → Cs → Prop, q its sb C1 → w ρ C q) (hsb : sb C1) (hl : its.length ≤ 100000)
    (he : ∀ (i : Nat) x, its[i]? = some x → ∀ q : AV → Cs → Prop, q (f x) C1 → g x (awipe ρ vs) C1 fun ρ2 C2 => e ρ2 C2 q) (h : ∀ a, C1 a = none → q (.r a) (cup C1 a (.l (its.map f)))) : aLcC w g atYes e vs ρ C q :=
  lc_map f hw hsb hl he h
/-- with a test -/
theorem i_lcF (p : AV → Bool) (f : AV → PyData) (hw : ∀ q : List AV → (Cs → Prop) → Cs → Prop, q its sb C1 → w ρ C q) (hsb : sb C1) (hl : its.length ≤ 100000)
    (he : ∀ (i : Nat) x, its[i]? = some x → ∀ q : AV → Cs → Prop, ∀ z : Cs → Prop, (p x = true → q (.d (f x)) C1) → (p x = false → z C1) → g x (awipe ρ vs) C1 fun ρ2 C2 => t ρ2 C2 fun b C3 => if b = true then e ρ2 C3 q else z C3)
    (h : q (.d (.list ((its.filter p).map f))) C1) : aLc w g t e vs ρ C q := by
  refine hw _ ⟨fun i acc C' => acc = (((its.take i).filter p).map f).map AV.d ∧ C' = C1, ⟨rfl, rfl⟩, fun i acc C' _ h => ?_, fun i x acc C' hx hp => ?_, fun acc C' hp => ?_⟩
  · rw [h.2]
    exact hsb
  · obtain ⟨rfl, rfl⟩ := hp
    refine he i x hx _ _ (fun e1 => ⟨?_, ?_, rfl⟩) (fun e1 => ⟨?_, rfl⟩)
    · have z := (List.getElem?_eq_some_iff.mp hx).1
      rw [List.length_map, List.length_map]
      have z2 := List.length_filter_le p (its.take i)
      rw [List.length_take] at z2
      omega
    · rw [take_snoc hx, List.filter_append, List.filter_cons_of_pos e1, List.filter_nil, List.map_append, List.map_append]
      rfl
    · rw [take_snoc hx, List.filter_append, List.filter_cons_of_neg (by rw [e1]; exact Bool.false_ne_true), List.filter_nil, List.append_nil]
  · obtain ⟨rfl, rfl⟩ := hp
    rw [List.take_of_length_le (Nat.le_refl _), allD_of]
    exact h
end
section
variable {w : AW} {g : AG} {t : AT} {e : AE} {vs : List Nat} {ρ : Sl} {C C1 : Cs} {its : List AV} {sb : Cs → Prop} {done : List AV → Cs → Prop} {q : AV → Cs → Prop}
/-- item by item -/
theorem lc_pt (res : List AV) (hw : ∀ q : List AV → (Cs → Prop) → Cs → Prop, q its sb C1 → w ρ C q) (hsb : sb C1) (hlen : res.length = its.length) (hl : its.length ≤ 100000)
    (he : ∀ (i : Nat) x y, its[i]? = some x → res[i]? = some y → ∀ q : AV → Cs → Prop, q y C1 → g x (awipe ρ vs) C1 fun ρ2 C2 => e ρ2 C2 q) (h : done res C1) : lcInv w g atYes e vs ρ C done := by
  refine hw _ ⟨fun i acc C' => acc = res.take i ∧ C' = C1, ⟨rfl, rfl⟩, fun i acc C' _ h => ?_, fun i x acc C' hx hp => ?_, fun acc C' hp => ?_⟩
  · rw [h.2]
    exact hsb
  · obtain ⟨rfl, rfl⟩ := hp
    have z := (List.getElem?_eq_some_iff.mp hx).1
    have hy : res[i]? = some (res[i]'(by omega)) := List.getElem?_eq_getElem (by omega)
    refine he i x _ hx hy _ ⟨?_, ?_⟩
    · rw [List.length_take]
      omega
    · exact ⟨(take_snoc hy).symm, rfl⟩
  · obtain ⟨rfl, rfl⟩ := hp
    rw [List.take_of_length_le (by omega)]
    exact h
theorem i_lcP (ds : List PyData) (hw : ∀ q : List AV → (Cs → Prop) → Cs → Prop, q its sb C1 → w ρ C q) (hsb : sb C1) (hlen : ds.length = its.length) (hl : its.length ≤ 100000)
    (he : ∀ (i : Nat) x y, its[i]? = some x → ds[i]? = some y → ∀ q : AV → Cs → Prop, q (.d y) C1 → g x (awipe ρ vs) C1 fun ρ2 C2 => e ρ2 C2 q) (h : q (.d (.list ds)) C1) : aLc w g atYes e vs ρ C q := by
  refine lc_pt (ds.map AV.d) hw hsb (by rw [List.length_map]; exact hlen) hl (fun i x y hx hy => ?_) ?_
  · rw [List.getElem?_map] at hy
    cases e1 : ds[i]? with
    | none =>
      rw [e1] at hy
      cases hy
    | some z =>
      rw [e1] at hy
      cases hy
      exact he i x z hx e1
  · rw [allD_of]
    exact h
theorem i_lcPC (res : List AV) (hw : ∀ q : List AV → (Cs → Prop) → Cs → Prop, q its sb C1 → w ρ C q) (hsb : sb C1) (hlen : res.length = its.length) (hl : its.length ≤ 100000)
    (he : ∀ (i : Nat) x y, its[i]? = some x → res[i]? = some y → ∀ q : AV → Cs → Prop, q y C1 → g x (awipe ρ vs) C1 fun ρ2 C2 => e ρ2 C2 q) (h : ∀ a, C1 a = none → q (.r a) (cup C1 a (.l res))) : aLcC w g atYes e vs ρ C q :=
  lc_pt res hw hsb hlen hl he h
/-- over written data, by a function of what is written -/
theorem i_lcM {α : Type} (xs : List α) (en f : α → PyData) (hw : ∀ q : List AV → (Cs → Prop) → Cs → Prop, q ((xs.map en).map AV.d) sb C1 → w ρ C q) (hsb : sb C1) (hl : xs.length ≤ 100000)
    (he : ∀ (i : Nat) x, xs[i]? = some x → ∀ q : AV → Cs → Prop, q (.d (f x)) C1 → g (.d (en x)) (awipe ρ vs) C1 fun ρ2 C2 => e ρ2 C2 q) (h : q (.d (.list (xs.map f))) C1) : aLc w g atYes e vs ρ C q := by
  refine i_lcP (xs.map f) hw hsb (by simp) (by simpa using hl) (fun i x y hx hy => ?_) h
  rw [List.getElem?_map, List.getElem?_map] at hx
  rw [List.getElem?_map] at hy
  cases e1 : xs[i]? with
  | none =>
    rw [e1] at hx
    cases hx
  | some z =>
    rw [e1] at hx hy
    cases hx
    cases hy
    exact he i z e1
/-- .. with a test -/
theorem i_lcFM {α : Type} (xs : List α) (en f : α → PyData) (p : α → Bool) (hw : ∀ q : List AV → (Cs → Prop) → Cs → Prop, q ((xs.map en).map AV.d) sb C1 → w ρ C q) (hsb : sb C1) (hl : xs.length ≤ 100000)
    (he : ∀ (i : Nat) x, xs[i]? = some x → ∀ q : AV → Cs → Prop, ∀ z : Cs → Prop, (p x = true → q (.d (f x)) C1) → (p x = false → z C1) → g (.d (en x)) (awipe ρ vs) C1 fun ρ2 C2 => t ρ2 C2 fun b C3 => if b = true then e ρ2 C3 q else z C3)
    (h : q (.d (.list ((xs.filter p).map f))) C1) : aLc w g t e vs ρ C q := by
  refine hw _ ⟨fun i acc C' => acc = (((xs.take i).filter p).map f).map AV.d ∧ C' = C1, ⟨rfl, rfl⟩, fun i acc C' _ h => ?_, fun i x acc C' hx hp => ?_, fun acc C' hp => ?_⟩
  · rw [h.2]
    exact hsb
  · obtain ⟨rfl, rfl⟩ := hp
    rw [List.getElem?_map, List.getElem?_map] at hx
    cases ex : xs[i]? with
    | none =>
      rw [ex] at hx
      cases hx
    | some u =>
      rw [ex] at hx
      cases hx
      refine he i u ex _ _ (fun e1 => ⟨?_, ?_, rfl⟩) (fun e1 => ⟨?_, rfl⟩)
      · have z := (List.getElem?_eq_some_iff.mp ex).1
        rw [List.length_map, List.length_map]
        have z2 := List.length_filter_le p (xs.take i)
        rw [List.length_take] at z2
        omega
      · rw [take_snoc ex, List.filter_append, List.filter_cons_of_pos e1, List.filter_nil, List.map_append, List.map_append]
        rfl
      · rw [take_snoc ex, List.filter_append, List.filter_cons_of_neg (by rw [e1]; exact Bool.false_ne_true), List.filter_nil, List.append_nil]
  · obtain ⟨rfl, rfl⟩ := hp
    rw [List.take_of_length_le (by rw [List.length_map, List.length_map]; exact Nat.le_refl _), allD_of]
    exact h
end
/-! ### subscripts, read -/
section
variable {xs : List PyData} {ys : List AV} {a b c d e : PyData} {v : PyData} {u : AV} {C : Cs} {q : AV → Cs → Prop} {p : Addr} {k : Nat}
theorem arIx_t {i : Int} : arIx (.d (.tuple xs)) (.d (.int i)) C q = ∃ v, atI xs i = some v ∧ q (.d v) C := rfl
theorem arIx_l {i : Int} : arIx (.d (.list xs)) (.d (.int i)) C q = ∃ v, atI xs i = some v ∧ q (.d v) C := rfl
theorem atI_0 : atI (a :: xs) 0 = some a := atI_nat (j := 0) rfl
theorem atI_1 : atI (a :: b :: xs) 1 = some b := atI_nat (j := 1) rfl
theorem atI_2 : atI (a :: b :: c :: xs) 2 = some c := atI_nat (j := 2) rfl
theorem atI_3 : atI (a :: b :: c :: d :: xs) 3 = some d := atI_nat (j := 3) rfl
theorem arIx_t0 : arIx (.d (.tuple (a :: xs))) (.d (.int 0)) C q = q (.d a) C := propext ⟨fun ⟨v, e, h⟩ => by rw [atI_0] at e; cases e; exact h, fun h => ⟨a, atI_0, h⟩⟩
theorem arIx_t1 : arIx (.d (.tuple (a :: b :: xs))) (.d (.int 1)) C q = q (.d b) C := propext ⟨fun ⟨v, e, h⟩ => by rw [atI_1] at e; cases e; exact h, fun h => ⟨b, atI_1, h⟩⟩
theorem arIx_t2 : arIx (.d (.tuple (a :: b :: c :: xs))) (.d (.int 2)) C q = q (.d c) C := propext ⟨fun ⟨v, e, h⟩ => by rw [atI_2] at e; cases e; exact h, fun h => ⟨c, atI_2, h⟩⟩
theorem arIx_t3 : arIx (.d (.tuple (a :: b :: c :: d :: xs))) (.d (.int 3)) C q = q (.d d) C := propext ⟨fun ⟨v, e, h⟩ => by rw [atI_3] at e; cases e; exact h, fun h => ⟨d, atI_3, h⟩⟩
theorem ix_t (h : xs[k]? = some v) (hq : q (.d v) C) : arIx (.d (.tuple xs)) (.d (.int (k : Nat))) C q := ⟨v, atI_nat h, hq⟩
theorem ix_l (h : xs[k]? = some v) (hq : q (.d v) C) : arIx (.d (.list xs)) (.d (.int (k : Nat))) C q := ⟨v, atI_nat h, hq⟩
theorem ix_c (hp : C p = some (.l ys)) (h : ys[k]? = some u) (hq : q u C) : arIx (.r p) (.d (.int (k : Nat))) C q := ⟨ys, u, hp, atI_nat h, hq⟩
theorem atI_neg1 {α : Type} {l : List α} {x : α} (h : l.getLast? = some x) : atI l (-1) = some x := by
  have hn : l ≠ [] := fun e => by
    rw [e] at h
    cases h
  have e1 : x = l.getLast hn := by
    rw [List.getLast?_eq_getLast hn] at h
    exact (Option.some.inj h).symm
  have e2 := List.dropLast_concat_getLast hn
  rw [← e2, e1]
  exact atI_last _ _
theorem ix_c1 (hp : C p = some (.l ys)) (h : ys.getLast? = some u) (hq : q u C) : arIx (.r p) (.d (.int (-1))) C q := ⟨ys, u, hp, atI_neg1 h, hq⟩
theorem ix_l1 (h : xs.getLast? = some v) (hq : q (.d v) C) : arIx (.d (.list xs)) (.d (.int (-1))) C q := ⟨v, atI_neg1 h, hq⟩
theorem ix_t1 (h : xs.getLast? = some v) (hq : q (.d v) C) : arIx (.d (.tuple xs)) (.d (.int (-1))) C q := ⟨v, atI_neg1 h, hq⟩
end
end AB

set_option Elab.async false
set_option linter.all false
set_option maxRecDepth 100000
set_option maxHeartbeats 4000000
/-! Layer A, raising. -/
namespace AB
open PySem PySem.Spec PyProof.Rows L2
/-- C(e): a new error whose own dict holds the field -/
def tMkX (C : Addr) (f : Str) (ta : TA) : L2.St → Hp → XK → Prop := fun σ H Q => ta σ H fun vs H1 => ∃ v, vs = [v] ∧ ∀ d, H1 d = none → Q (.ref C) (some d) (upd H1 d (.xd [(f, v)]))
/-- what a class of errors does when it is called -/
def MkRule (pr : Program) (K : PySem.W.Frag) (mg : Str → Option Value) (x f : Str) (C : Addr) : Prop := ∀ (X : Cx) (a : Expr) (ta : TA) (p pos : Pos), X.prog = pr → X.K = K → X.mg = mg → Room 1 X.A → Gl X x → PA X [a] ta →
  starEach [a] X.env = (false, eval a X.env) :: starEach [] X.env → (backTo pos (starEach [] X.env)).any (·.1) = false → PMk X (.Call (.Name x p) [a] [] pos) (tMkX C f ta)
def aRaise (xp : Xn → Cs → Prop) (C : Addr) (f : Str) (r : AA) : AS := fun k ρ C' => r ρ C' fun avs C2 => ∃ x, avs = [.d x] ∧ xp ⟨C, f, x⟩ C2
section
variable {X : Cx} {P : Par} {a e : Expr} {aa : AE} {x f : Str} {C : Addr} {p pos pos2 : Pos}
theorem aps_raise (m : MkRule X.prog X.K X.mg x f C) (hc : X.calm = true) (tk : Takes X (fun cls d _ H => P.E cls d H)) (hr : Room 1 X.A) (ha : APE X P a aa) (hg : Gl X x := by rfl)
    (he : starEach [a] X.env = (false, eval a X.env) :: starEach [] X.env := by rfl) (hpl : (backTo pos (starEach [] X.env)).any (·.1) = false := by rfl) :
    APS X P (.Raise (some (.Call (.Name x p) [a] [] pos)) none pos2) (aRaise P.X C f (aCons aa aNil)) :=
  aps_of (ps_raise hc tk (m X a _ p pos rfl rfl rfl hr hg (apa_cons ha apa_nil he) he hpl)) fun G C1 H σ ρ k D hA hw en => by
    refine ⟨G, C1, ρ, _, hA, hw, fun vs avs G2 C2 H2 s2 r2 q2 => ?_⟩
    obtain ⟨x, rfl, q2⟩ := q2
    obtain ⟨v, rfl, r1⟩ : ∃ v, vs = [v] ∧ Rv X.K G2 v (.d x) := by
      cases r2 with
      | cons r1 r3 =>
        cases r3
        exact ⟨_, rfl, r1⟩
    · refine ⟨v, rfl, fun d hd => ?_⟩
      have s3 := Stp.data s2.rel (o := .xd [(f, v)]) hd
      exact hA.lk _ _ _ _ _ _ _ _ (s2.trans s3) upd_same (dp_mono s3.ex _ _ r1) q2
end
end AB

set_option Elab.async false
set_option linter.all false
set_option maxRecDepth 100000
set_option maxHeartbeats 4000000
/-! The program's text: the defs by their places, their scopes. -/
namespace AB
open PySem PySem.Spec PyProof.Rows L2
def topS (i : Nat) : Stmt := PySem.Challenge.pw_heirlines_k60_whole_sums_line_by_line.main.body.getD i (.Pass ⟨0, 0, 0, 0⟩)
abbrev s_is_whole : Stmt := topS 2
theorem sc_is_whole : FnScope ["value"] ["value"] (defScope s_is_whole) := ⟨rfl, rfl, rfl, by decide +kernel, rfl, by decide +kernel, by decide +kernel⟩
abbrev s_is_within : Stmt := topS 3
theorem sc_is_within : FnScope ["value", "least", "most"] ["value", "least", "most"] (defScope s_is_within) := ⟨rfl, rfl, rfl, by decide +kernel, rfl, by decide +kernel, by decide +kernel⟩
abbrev s_is_truth : Stmt := topS 4
theorem sc_is_truth : FnScope ["value"] ["value"] (defScope s_is_truth) := ⟨rfl, rfl, rfl, by decide +kernel, rfl, by decide +kernel, by decide +kernel⟩
abbrev s_is_tuple_of : Stmt := topS 5
theorem sc_is_tuple_of : FnScope ["value", "many"] ["value", "many"] (defScope s_is_tuple_of) := ⟨rfl, rfl, rfl, by decide +kernel, rfl, by decide +kernel, by decide +kernel⟩
abbrev s_is_word_of : Stmt := topS 6
theorem sc_is_word_of : FnScope ["value", "choices"] ["value", "choices"] (defScope s_is_word_of) := ⟨rfl, rfl, rfl, by decide +kernel, rfl, by decide +kernel, by decide +kernel⟩
abbrev s_is_line : Stmt := topS 17
theorem sc_is_line : FnScope ["thing", "number", "marks", "mark", "life", "children", "child"] ["thing", "number", "marks"] (defScope s_is_line) := ⟨rfl, rfl, rfl, by decide +kernel, rfl, by decide +kernel, by decide +kernel⟩
abbrev s_need_lines : Stmt := topS 18
theorem sc_need_lines : FnScope ["family", "marks", "number", "line"] ["family", "marks"] (defScope s_need_lines) := ⟨rfl, rfl, rfl, by decide +kernel, rfl, by decide +kernel, by decide +kernel⟩
abbrev s_need_family : Stmt := topS 19
theorem sc_need_family : FnScope ["family", "marks"] ["family", "marks"] (defScope s_need_family) := ⟨rfl, rfl, rfl, by decide +kernel, rfl, by decide +kernel, by decide +kernel⟩
abbrev s_has_too_many : Stmt := topS 20
theorem sc_has_too_many : FnScope ["lines", "found", "line", "many", "child"] ["lines"] (defScope s_has_too_many) := ⟨rfl, rfl, rfl, by decide +kernel, rfl, by decide +kernel, by decide +kernel⟩
abbrev s_reading_counts : Stmt := topS 21
theorem sc_reading_counts : FnScope ["lines", "line", "found", "number", "child"] ["lines"] (defScope s_reading_counts) := ⟨rfl, rfl, rfl, by decide +kernel, rfl, by decide +kernel, by decide +kernel⟩
abbrev s_are_weights : Stmt := topS 26
theorem sc_are_weights : FnScope ["value", "thing"] ["value"] (defScope s_are_weights) := ⟨rfl, rfl, rfl, by decide +kernel, rfl, by decide +kernel, by decide +kernel⟩
abbrev s_are_stand_rows : Stmt := topS 27
theorem sc_are_stand_rows : FnScope ["value", "ranks", "cells", "stand"] ["value", "ranks"] (defScope s_are_stand_rows) := ⟨rfl, rfl, rfl, by decide +kernel, rfl, by decide +kernel, by decide +kernel⟩
abbrev s_are_takes : Stmt := topS 28
theorem sc_are_takes : FnScope ["value", "stands", "ranks", "takes", "cell"] ["value", "stands", "ranks", "takes"] (defScope s_are_takes) := ⟨rfl, rfl, rfl, by decide +kernel, rfl, by decide +kernel, by decide +kernel⟩
abbrev s_are_closings : Stmt := topS 29
theorem sc_are_closings : FnScope ["value", "marks", "stands", "ranks", "both"] ["value", "marks", "stands", "ranks"] (defScope s_are_closings) := ⟨rfl, rfl, rfl, by decide +kernel, rfl, by decide +kernel, by decide +kernel⟩
abbrev s_need_deal : Stmt := topS 30
theorem sc_need_deal : FnScope ["deal", "marks", "weights", "read", "close"] ["deal"] (defScope s_need_deal) := ⟨rfl, rfl, rfl, by decide +kernel, rfl, by decide +kernel, by decide +kernel⟩
abbrev s_dealt_row : Stmt := topS 31
theorem sc_dealt_row : FnScope ["deal", "ranks", "stand", "rank"] ["deal", "ranks"] (defScope s_dealt_row) := ⟨rfl, rfl, rfl, by decide +kernel, rfl, by decide +kernel, by decide +kernel⟩
abbrev s_closings_of : Stmt := topS 32
theorem sc_closings_of : FnScope ["deal", "lines", "told_so", "mark", "is_alive", "children", "child", "stand"] ["deal", "lines"] (defScope s_closings_of) := ⟨rfl, rfl, rfl, by decide +kernel, rfl, by decide +kernel, by decide +kernel⟩
abbrev s_fraction : Stmt := topS 36
theorem sc_fraction : FnScope ["above", "below", "common"] ["above", "below"] (defScope s_fraction) := ⟨rfl, rfl, rfl, by decide +kernel, rfl, by decide +kernel, by decide +kernel⟩
abbrev s_need_short : Stmt := topS 37
theorem sc_need_short : FnScope ["had"] ["had"] (defScope s_need_short) := ⟨rfl, rfl, rfl, by decide +kernel, rfl, by decide +kernel, by decide +kernel⟩
abbrev s_row_weight : Stmt := topS 38
theorem sc_row_weight : FnScope ["deal", "closings", "children", "child"] ["deal", "closings", "children"] (defScope s_row_weight) := ⟨rfl, rfl, rfl, by decide +kernel, rfl, by decide +kernel, by decide +kernel⟩
abbrev s_joined_parts : Stmt := topS 39
theorem sc_joined_parts : FnScope ["deal", "closings", "children", "paid_by", "marks", "whole", "below", "child", "mark", "sums", "times", "had", "more", "common", "thing"] ["deal", "closings", "children", "paid_by"] (defScope s_joined_parts) := ⟨rfl, rfl, rfl, by decide +kernel, rfl, by decide +kernel, by decide +kernel⟩
abbrev s_paid : Stmt := topS 40
theorem sc_paid : FnScope ["deal", "family", "lines", "closings", "needed", "paid_by", "number", "mark", "is_alive", "children", "one", "nothing", "child", "weighed", "sums", "below", "thing"] ["deal", "family"] (defScope s_paid) := ⟨rfl, rfl, rfl, by decide +kernel, rfl, by decide +kernel, by decide +kernel⟩
abbrev s_receivers : Stmt := topS 41
theorem sc_receivers : FnScope ["deal", "family", "lines", "closings", "having", "number", "line", "child"] ["deal", "family"] (defScope s_receivers) := ⟨rfl, rfl, rfl, by decide +kernel, rfl, by decide +kernel, by decide +kernel⟩
abbrev s__law_mixed : Stmt := topS 43
theorem sc__law_mixed : FnScope ["_law_cell", "_law_n", "_law_blend"] ["_law_cell", "_law_n"] (defScope s__law_mixed) := ⟨rfl, rfl, rfl, by decide +kernel, rfl, by decide +kernel, by decide +kernel⟩
abbrev s__law_folded : Stmt := topS 44
theorem sc__law_folded : FnScope ["_law_script", "_law_n", "_law_found", "_law_cell"] ["_law_script"] (defScope s__law_folded) := ⟨rfl, rfl, rfl, by decide +kernel, rfl, by decide +kernel, by decide +kernel⟩
abbrev s__law_draw : Stmt := topS 45
theorem sc__law_draw : FnScope ["_law_m", "_law_limit", "_law_n", "_law_lot", "_law_here", "_law_cell"] ["_law_m", "_law_limit"] (defScope s__law_draw) := ⟨rfl, rfl, rfl, by decide +kernel, rfl, by decide +kernel, by decide +kernel⟩
abbrev s__law_begun : Stmt := topS 46
theorem sc__law_begun : FnScope ["_law_script", "_law_m", "_law_cell"] ["_law_script"] (defScope s__law_begun) := ⟨rfl, rfl, rfl, by decide +kernel, rfl, by decide +kernel, by decide +kernel⟩
abbrev s__law_like : Stmt := topS 47
theorem sc__law_like : FnScope ["_law_got", "_law_due"] ["_law_got", "_law_due"] (defScope s__law_like) := ⟨rfl, rfl, rfl, by decide +kernel, rfl, by decide +kernel, by decide +kernel⟩
abbrev s__law_planted : Stmt := topS 48
theorem sc__law_planted : FnScope ["_law_row", "_law_looks", "_law_count", "_law_trail", "_law_n", "_law_kids", "_law_lines", "_law_kid"] ["_law_row", "_law_looks"] (defScope s__law_planted) := ⟨rfl, rfl, rfl, by decide +kernel, rfl, by decide +kernel, by decide +kernel⟩
abbrev s__law_family : Stmt := topS 49
theorem sc__law_family : FnScope ["_law_m", "_law_marks", "_law_most", "_law_row", "_law_turn", "_law_n"] ["_law_m", "_law_marks", "_law_most"] (defScope s__law_family) := ⟨rfl, rfl, rfl, by decide +kernel, rfl, by decide +kernel, by decide +kernel⟩
abbrev s__law_line_at : Stmt := topS 50
theorem sc__law_line_at : FnScope ["_law_family_here", "_law_way", "_law_line", "_law_n"] ["_law_family_here", "_law_way"] (defScope s__law_line_at) := ⟨rfl, rfl, rfl, by decide +kernel, rfl, by decide +kernel, by decide +kernel⟩
abbrev s__law_deal : Stmt := topS 51
theorem sc__law_deal : FnScope ["_law_m", "_law_marks", "_law_wide", "_law_ranks_so", "_law_stands_so", "_law_n", "_law_weights", "_law_stand", "_law_read_so", "_law_close_so", "_law_mark", "_law_dead", "_law_living"] ["_law_m", "_law_marks", "_law_wide"] (defScope s__law_deal) := ⟨rfl, rfl, rfl, by decide +kernel, rfl, by decide +kernel, by decide +kernel⟩
abbrev s__law_dealt : Stmt := topS 53
theorem sc__law_dealt : FnScope ["_law_deal_here", "_law_family_here", "_law_told_here", "_law_line", "_law_stand", "_law_child"] ["_law_deal_here", "_law_family_here"] (defScope s__law_dealt) := ⟨rfl, rfl, rfl, by decide +kernel, rfl, by decide +kernel, by decide +kernel⟩
abbrev s__law_low : Stmt := topS 54
theorem sc__law_low : FnScope ["_law_above", "_law_below", "_law_one", "_law_other"] ["_law_above", "_law_below"] (defScope s__law_low) := ⟨rfl, rfl, rfl, by decide +kernel, rfl, by decide +kernel, by decide +kernel⟩
abbrev s__law_part : Stmt := topS 55
theorem sc__law_part : FnScope ["_law_deal_here", "_law_told_here", "_law_line", "_law_n", "_law_child", "_law_whole"] ["_law_deal_here", "_law_told_here", "_law_line", "_law_n"] (defScope s__law_part) := ⟨rfl, rfl, rfl, by decide +kernel, rfl, by decide +kernel, by decide +kernel⟩
abbrev s__law_shares : Stmt := topS 56
theorem sc__law_shares : FnScope ["_law_deal_here", "_law_family_here", "_law_told_here", "_law_found", "_law_ends", "_law_way", "_law_n", "_law_above", "_law_below", "_law_place", "_law_child", "_law_part_here"] ["_law_deal_here", "_law_family_here"] (defScope s__law_shares) := ⟨rfl, rfl, rfl, by decide +kernel, rfl, by decide +kernel, by decide +kernel⟩
abbrev s__law_shared : Stmt := topS 58
theorem sc__law_shared : FnScope ["_law_m", "_law_marks", "_law_lines", "_law_n", "_law_step", "_law_kids"] ["_law_m", "_law_marks"] (defScope s__law_shared) := ⟨rfl, rfl, rfl, by decide +kernel, rfl, by decide +kernel, by decide +kernel⟩
abbrev s__law_sum : Stmt := topS 59
theorem sc__law_sum : FnScope ["_law_one", "_law_other"] ["_law_one", "_law_other"] (defScope s__law_sum) := ⟨rfl, rfl, rfl, by decide +kernel, rfl, by decide +kernel, by decide +kernel⟩
abbrev s__law_all_paid : Stmt := topS 60
theorem sc__law_all_paid : FnScope ["_law_deal_here", "_law_family_here", "_law_told_here", "_law_found", "_law_n", "_law_line", "_law_mark", "_law_sums", "_law_many", "_law_rows", "_law_child", "_law_whole", "_law_weight", "_law_one", "_law_near", "_law_more"] ["_law_deal_here", "_law_family_here"] (defScope s__law_all_paid) := ⟨rfl, rfl, rfl, by decide +kernel, rfl, by decide +kernel, by decide +kernel⟩
abbrev s__law_small_sums : Stmt := topS 61
theorem sc__law_small_sums : FnScope ["_law_deal_here", "_law_family_here", "_law_mark", "_law_sums", "_law_rows", "_law_way", "_law_had"] ["_law_deal_here", "_law_family_here"] (defScope s__law_small_sums) := ⟨rfl, rfl, rfl, by decide +kernel, rfl, by decide +kernel, by decide +kernel⟩
abbrev s__law_told : Stmt := topS 62
theorem sc__law_told : FnScope ["_law_deal_here", "_law_family_here", "_law_due"] ["_law_deal_here", "_law_family_here", "_law_due"] (defScope s__law_told) := ⟨rfl, rfl, rfl, by decide +kernel, rfl, by decide +kernel, by decide +kernel⟩
abbrev s__law_error : Stmt := topS 63
theorem sc__law_error : FnScope ["_law_deal_here", "_law_family_here", "_law_is_paid", "_law_found", "e"] ["_law_deal_here", "_law_family_here", "_law_is_paid"] (defScope s__law_error) := ⟨rfl, rfl, rfl, by decide +kernel, rfl, by decide +kernel, by decide +kernel⟩
abbrev s__law_by_hand : Stmt := topS 64
theorem sc__law_by_hand : FnScope ["_law_plain", "_law_n", "_law_great", "_law_is_paid", "_law_told_here"] [] (defScope s__law_by_hand) := ⟨rfl, rfl, rfl, by decide +kernel, rfl, by decide +kernel, by decide +kernel⟩
abbrev s_law : Stmt := topS 65
theorem sc_law : FnScope ["_law_script", "_law_m", "_law_turn", "_law_marks", "_law_deal_here", "_law_family_here", "_law_due", "_law_told_here", "_law_child", "_law_whole", "_law_mark", "_law_sums", "_law_weight", "_law_one", "_law_near", "_law_more", "_law_n"] ["_law_script"] (defScope s_law) := ⟨rfl, rfl, rfl, by decide +kernel, rfl, by decide +kernel, by decide +kernel⟩
structure Dd (K : PySem.W.Frag) (mg : Str → Option Value) (x : Str) (st : Stmt) (ps : List Str) : Type where
  f : Addr
  fd : FuncData
  dvs : List V
  F : FunD K x x (defArgs st) (defBody st) (defScope st) dvs [] f fd
  g : mg x = some (.ref f)
  b : Binds K fd ps []
/-- what the top has written -/
structure Txt (P : Program) (K : PySem.W.Frag) (mg : Str → Option Value) : Type where
  d_is_whole : Dd K mg "is_whole" s_is_whole ["value"]
  d_is_within : Dd K mg "is_within" s_is_within ["value", "least", "most"]
  d_is_truth : Dd K mg "is_truth" s_is_truth ["value"]
  d_is_tuple_of : Dd K mg "is_tuple_of" s_is_tuple_of ["value", "many"]
  d_is_word_of : Dd K mg "is_word_of" s_is_word_of ["value", "choices"]
  d_is_line : Dd K mg "is_line" s_is_line ["thing", "number", "marks"]
  d_need_lines : Dd K mg "need_lines" s_need_lines ["family", "marks"]
  d_need_family : Dd K mg "need_family" s_need_family ["family", "marks"]
  d_has_too_many : Dd K mg "has_too_many" s_has_too_many ["lines"]
  d_reading_counts : Dd K mg "reading_counts" s_reading_counts ["lines"]
  d_are_weights : Dd K mg "are_weights" s_are_weights ["value"]
  d_are_stand_rows : Dd K mg "are_stand_rows" s_are_stand_rows ["value", "ranks"]
  d_are_takes : Dd K mg "are_takes" s_are_takes ["value", "stands", "ranks", "takes"]
  d_are_closings : Dd K mg "are_closings" s_are_closings ["value", "marks", "stands", "ranks"]
  d_need_deal : Dd K mg "need_deal" s_need_deal ["deal"]
  d_dealt_row : Dd K mg "dealt_row" s_dealt_row ["deal", "ranks"]
  d_closings_of : Dd K mg "closings_of" s_closings_of ["deal", "lines"]
  d_fraction : Dd K mg "fraction" s_fraction ["above", "below"]
  d_need_short : Dd K mg "need_short" s_need_short ["had"]
  d_row_weight : Dd K mg "row_weight" s_row_weight ["deal", "closings", "children"]
  d_joined_parts : Dd K mg "joined_parts" s_joined_parts ["deal", "closings", "children", "paid_by"]
  d_paid : Dd K mg "paid" s_paid ["deal", "family"]
  d_receivers : Dd K mg "receivers" s_receivers ["deal", "family"]
  d__law_mixed : Dd K mg "_law_mixed" s__law_mixed ["_law_cell", "_law_n"]
  d__law_folded : Dd K mg "_law_folded" s__law_folded ["_law_script"]
  d__law_draw : Dd K mg "_law_draw" s__law_draw ["_law_m", "_law_limit"]
  d__law_begun : Dd K mg "_law_begun" s__law_begun ["_law_script"]
  d__law_like : Dd K mg "_law_like" s__law_like ["_law_got", "_law_due"]
  d__law_planted : Dd K mg "_law_planted" s__law_planted ["_law_row", "_law_looks"]
  d__law_family : Dd K mg "_law_family" s__law_family ["_law_m", "_law_marks", "_law_most"]
  d__law_line_at : Dd K mg "_law_line_at" s__law_line_at ["_law_family_here", "_law_way"]
  d__law_deal : Dd K mg "_law_deal" s__law_deal ["_law_m", "_law_marks", "_law_wide"]
  d__law_dealt : Dd K mg "_law_dealt" s__law_dealt ["_law_deal_here", "_law_family_here"]
  d__law_low : Dd K mg "_law_low" s__law_low ["_law_above", "_law_below"]
  d__law_part : Dd K mg "_law_part" s__law_part ["_law_deal_here", "_law_told_here", "_law_line", "_law_n"]
  d__law_shares : Dd K mg "_law_shares" s__law_shares ["_law_deal_here", "_law_family_here"]
  d__law_shared : Dd K mg "_law_shared" s__law_shared ["_law_m", "_law_marks"]
  d__law_sum : Dd K mg "_law_sum" s__law_sum ["_law_one", "_law_other"]
  d__law_all_paid : Dd K mg "_law_all_paid" s__law_all_paid ["_law_deal_here", "_law_family_here"]
  d__law_small_sums : Dd K mg "_law_small_sums" s__law_small_sums ["_law_deal_here", "_law_family_here"]
  d__law_told : Dd K mg "_law_told" s__law_told ["_law_deal_here", "_law_family_here", "_law_due"]
  d__law_error : Dd K mg "_law_error" s__law_error ["_law_deal_here", "_law_family_here", "_law_is_paid"]
  d__law_by_hand : Dd K mg "_law_by_hand" s__law_by_hand []
  d_law : Dd K mg "law" s_law ["_law_script"]
  b_bool : mg "bool" = none
  b_enumerate : mg "enumerate" = none
  b_int : mg "int" = none
  b_isinstance : mg "isinstance" = none
  b_len : mg "len" = none
  b_min : mg "min" = none
  b_range : mg "range" = none
  b_repr : mg "repr" = none
  b_reversed : mg "reversed" = none
  b_sorted : mg "sorted" = none
  b_str : mg "str" = none
  b_sum : mg "sum" = none
  b_tuple : mg "tuple" = none
  b_zip : mg "zip" = none
  b_gcd : mg "gcd" = some (.builtin "math.gcd")
  C_BadDeal : Addr
  g_BadDeal : mg "BadDeal" = some (.ref C_BadDeal)
  k_BadDeal : PySem.W.keepIn K (.ref C_BadDeal) = true
  x_BadDeal : MkRule P K mg "BadDeal" "word" C_BadDeal
  f_BadDeal : XfC K C_BadDeal
  n_BadDeal : PySem.W.findIn K (.ref C_BadDeal) "word" = some none
  C_BadFamily : Addr
  g_BadFamily : mg "BadFamily" = some (.ref C_BadFamily)
  k_BadFamily : PySem.W.keepIn K (.ref C_BadFamily) = true
  x_BadFamily : MkRule P K mg "BadFamily" "place" C_BadFamily
  f_BadFamily : XfC K C_BadFamily
  n_BadFamily : PySem.W.findIn K (.ref C_BadFamily) "place" = some none
  e_dd : PySem.W.exmOne K (.ref C_BadDeal) (.ref C_BadDeal) = some true
  e_fd : PySem.W.exmOne K (.ref C_BadFamily) (.ref C_BadDeal) = some false
  e_ff : PySem.W.exmOne K (.ref C_BadFamily) (.ref C_BadFamily) = some true
  t_MOST_LINES : Tok
  c_MOST_LINES : mg "MOST_LINES" = some (.int 2000 t_MOST_LINES)
  t_MOST_CHILDREN : Tok
  c_MOST_CHILDREN : mg "MOST_CHILDREN" = some (.int 600 t_MOST_CHILDREN)
  t_MOST_MEMBERS : Tok
  c_MOST_MEMBERS : mg "MOST_MEMBERS" = some (.int (10 ^ 60) t_MOST_MEMBERS)
  t_MOST_STANDS : Tok
  c_MOST_STANDS : mg "MOST_STANDS" = some (.int 8 t_MOST_STANDS)
  t_MOST_RANKS : Tok
  c_MOST_RANKS : mg "MOST_RANKS" = some (.int 8 t_MOST_RANKS)
  t_MOST_WEIGHT : Tok
  c_MOST_WEIGHT : mg "MOST_WEIGHT" = some (.int 99 t_MOST_WEIGHT)
  t_MOST_DIGITS : Tok
  c_MOST_DIGITS : mg "MOST_DIGITS" = some (.int 1000 t_MOST_DIGITS)
  t_FIRST_TOO_LONG : Tok
  c_FIRST_TOO_LONG : mg "FIRST_TOO_LONG" = some (.int (10 ^ 1000) t_FIRST_TOO_LONG)
end AB

set_option Elab.async false
set_option linter.all false
set_option maxRecDepth 100000
set_option maxHeartbeats 4000000
/-! The walks: small questions, a line. -/
namespace AB
open PySem PySem.Spec PyProof.Rows L2
section
variable {P : Program} {w : World} {K : PySem.W.Frag} {mg : Str → Option Value} {base : Heap}
def isInt (x : PyData) : Bool := isD "int" x && !isD "bool" x
def withinD (x : PyData) (lo hi : Int) : Bool := match x with
  | .int n => decide (lo ≤ n) && decide (n ≤ hi)
  | _ => false
def tupD (x : PyData) (n : Int) : Bool := match x with
  | .tuple xs => decide ((xs.length : Int) = n)
  | _ => false
theorem isInt_int (n : Int) : isInt (.int n) = true := rfl
theorem withinD_int (n lo hi : Int) : withinD (.int n) lo hi = (decide (lo ≤ n) && decide (n ≤ hi)) := rfl
theorem tupD_tup (xs : List PyData) (n : Int) : tupD (.tuple xs) n = decide ((xs.length : Int) = n) := rfl
def sp_is_whole : ASp := fun avs C q _ => match avs with
  | [.d x] => q (.d (.bool (isInt x))) C
  | _ => False
def sp_is_within : ASp := fun avs C q _ => match avs with
  | [.d x, .d (.int lo), .d (.int hi)] => q (.d (.bool (withinD x lo hi))) C
  | _ => False
def sp_is_truth : ASp := fun avs C q _ => match avs with
  | [.d (.bool b)] => q (.d (.bool true)) C
  | _ => False
def sp_is_tuple_of : ASp := fun avs C q _ => match avs with
  | [.d x, .d (.int n)] => q (.d (.bool (tupD x n))) C
  | _ => False
def sp_is_word_of : ASp := fun avs C q _ => ∃ (s : Str) (ss : List Str), avs = [.d (.str s), .d (.tuple (ss.map .str))] ∧ q (.d (.bool (decide (s ∈ ss)))) C
/-! ### a line -/
structure Ln where
  mark : Nat
  live : Bool
  kids : List Nat
def encI (n : Nat) : PyData := .int (n : Int)
def encL (l : Ln) : PyData := .tuple [.int (l.mark : Nat), .bool l.live, .tuple (l.kids.map encI)]
def lnOk (l : Ln) (n m : Nat) : Bool := decide (l.mark < m) && decide (l.kids.length ≤ 600) && l.kids.all fun k => decide (k < n)
def sp_is_line : ASp := fun avs C q _ => ∃ l n m, avs = [.d (encL l), .d (encI n), .d (encI m)] ∧ q (.d (.bool (lnOk l n m))) C
local macro_rules | `(tactic| walk_at "rd") => `(tactic| try simp only [astart, List.map_cons, List.map_nil, List.length_cons, List.length_nil, List.replicate_succ, List.replicate_zero, List.cons_append, List.nil_append, aVar, aC, aOp, arI, arI0, arB, onI2, onB, aTest, aChain, aAnd, aOr, aNot, aAndV, aOrV, aNotV, aIf, aNil, aCons, aIsi, aNext, aCB, acLen, aCall, g_n, g_tup2, g_tup3, g_tup4, g_tup13, aNeg, aTup, allD, arIx_t0, arIx_t1, arIx_t2, arIx_t3, List.getElem?_cons_zero, List.getElem?_cons_succ, List.set_cons_zero, List.set_cons_succ, if_true, if_false, Bool.false_eq_true, Bool.not_true, Bool.not_false, isInt_int, withinD_int, tupD_tup, encL, encI, sp_is_whole, sp_is_within, sp_is_truth, sp_is_tuple_of, sp_is_word_of])
local macro_rules | `(tactic| walk_at "st") => `(tactic| ((try dsimp only); (try refine i_seq ?_); (first | refine i_set ?_ | refine i_if ?_ | refine i_ret ?_ | refine i_asg ?_ | refine i_drop ?_ | refine i_par ?_ | refine i_par3 ?_ | refine i_next ?_); (walk_at "rd")))
theorem ok_is_whole (T : Txt P K mg) : FnOk P w K mg base CX0 1 T.d_is_whole.f T.d_is_whole.fd ["value"] (gSp K sp_is_whole) := by
  refine fok T.d_is_whole.F sc_is_whole (fun avs C q z h => ?_) (fun cdv A outer s H P' hr => ?_)
  · unfold sp_is_whole at h
    split at h
    · rfl
    · exact h.elim
  · refine ⟨_, (apss_one (aps_ret (ape_and (ap_isi "int" (by decide) (isi_ok_int _) T.b_isinstance T.b_int (by decide +kernel) (apv 0)) (ape_one (ape_not (ap_isi "bool" (by decide) (isi_ok_bool _) T.b_isinstance T.b_bool (by decide +kernel) (apv 0))))))), fun avs C q h => ?_⟩
    unfold sp_is_whole at h
    split at h
    · rename_i x
      unfold isInt at h
      walk_at "st"
      cases e : isD "int" x with
      | true =>
        rw [e] at h
        exact Ret.of h
      | false =>
        rw [e] at h
        exact Ret.of h
    · exact h.elim
theorem ok_is_within (T : Txt P K mg) : FnOk P w K mg base CX0 2 T.d_is_within.f T.d_is_within.fd ["value", "least", "most"] (gSp K sp_is_within) := by
  refine fok T.d_is_within.F sc_is_within (fun avs C q z h => ?_) (fun cdv A outer s H P' hr => ?_)
  · unfold sp_is_within at h
    split at h
    · rfl
    · exact h.elim
  · refine ⟨_, (apss_one (aps_ret (ape_and (ap_call (ok_is_whole T) (hr.mono (by decide)) T.d_is_whole.g T.d_is_whole.F.kp T.d_is_whole.b pass0 (apa_cons (apv 0) apa_nil)) (ape_one (ap_lele (apv 1) (apv 0) (apv 2)))))), fun avs C q h => ?_⟩
    unfold sp_is_within at h
    split at h
    · rename_i x lo hi
      walk_at "st"
      cases x with
      | int n =>
        walk_at "rd"
        unfold withinD at h
        dsimp only at h
        cases e : decide (lo ≤ n) with
        | true =>
          rw [e] at h
          exact Ret.of h
        | false =>
          rw [e] at h
          exact Ret.of h
      | _ => exact Ret.of h
    · exact h.elim
theorem ok_is_truth (T : Txt P K mg) : FnOk P w K mg base CX0 1 T.d_is_truth.f T.d_is_truth.fd ["value"] (gSp K sp_is_truth) := by
  refine fok T.d_is_truth.F sc_is_truth (fun avs C q z h => ?_) (fun cdv A outer s H P' hr => ?_)
  · unfold sp_is_truth at h
    split at h
    · rfl
    · exact h.elim
  · refine ⟨_, (apss_one (aps_ret (ape_or (ap_isB (apv 0) apb) (ape_one (ap_isB (apv 0) apb))))), fun avs C q h => ?_⟩
    unfold sp_is_truth at h
    split at h
    · rename_i x
      cases x <;> exact Ret.of h
    · exact h.elim
theorem ok_is_tuple_of (T : Txt P K mg) : FnOk P w K mg base CX0 1 T.d_is_tuple_of.f T.d_is_tuple_of.fd ["value", "many"] (gSp K sp_is_tuple_of) := by
  refine fok T.d_is_tuple_of.F sc_is_tuple_of (fun avs C q z h => ?_) (fun cdv A outer s H P' hr => ?_)
  · unfold sp_is_tuple_of at h
    split at h
    · rfl
    · exact h.elim
  · refine ⟨_, (apss_one (aps_ret (ape_and (ap_isi "tuple" (by decide) (isi_ok_tuple _) T.b_isinstance T.b_tuple (by decide +kernel) (apv 0)) (ape_one (ap_eq (ap_len T.b_len (apv 0)) (apv 1)))))), fun avs C q h => ?_⟩
    unfold sp_is_tuple_of at h
    split at h
    · rename_i x n
      cases x with
      | tuple xs =>
        show Ret q (AV.d (PyData.bool (false ^^ decide ((xs.length : Int) = n)))) C
        rw [Bool.false_xor]
        exact Ret.of h
      | _ => exact Ret.of h
    · exact h.elim
theorem ok_is_word_of (T : Txt P K mg) : FnOk P w K mg base CX0 1 T.d_is_word_of.f T.d_is_word_of.fd ["value", "choices"] (gSp K sp_is_word_of) := by
  refine fok T.d_is_word_of.F sc_is_word_of (fun avs C q z h => ?_) (fun cdv A outer s H P' hr => ?_)
  · obtain ⟨s, ss, rfl, h⟩ := h
    rfl
  · refine ⟨_, (apss_one (aps_ret (ape_and (ap_isi "str" (by decide) (isi_ok_str _) T.b_isinstance T.b_str (by decide +kernel) (apv 0)) (ape_one (ap_inS (apv 0) (apv 1)))))), fun avs C q h => ?_⟩
    obtain ⟨s, ss, rfl, h⟩ := h
    exact ⟨s, ss, rfl, rfl, Ret.of h⟩
theorem ok_is_line (T : Txt P K mg) : FnOk P w K mg base CX0 3 T.d_is_line.f T.d_is_line.fd ["thing", "number", "marks"] (gSp K sp_is_line) := by
  refine fok T.d_is_line.F sc_is_line (fun avs C q z h => ?_) (fun cdv A outer s H P' hr => ?_)
  · obtain ⟨l, n, m, rfl, h⟩ := h
    rfl
  · refine ⟨_, (apss_cons (aps_if (apt_not (apt_val (ap_call (ok_is_tuple_of T) (hr.mono (by decide)) T.d_is_tuple_of.g T.d_is_tuple_of.F.kp T.d_is_tuple_of.b pass0 (apa_cons (apv 0) (apa_cons api apa_nil))))) (apss_one (aps_ret apb)) apss_nil)
        (apss_cons (aps_asg (vs := [3, 4, 5]) (apv 0) (apg_t (n := 3) rfl (apgs_cons (apg_n (i := 3) sc_is_line.nd) (apgs_cons (apg_n (i := 4) sc_is_line.nd) (apgs_cons (apg_n (i := 5) sc_is_line.nd) apgs_nil)))))
        (apss_cons (aps_if (apt_w (apw_or (apt_not (apt_val (ap_call (ok_is_within T) (hr.mono (by decide)) T.d_is_within.g T.d_is_within.F.kp T.d_is_within.b pass0 (apa_cons (apv 3) (apa_cons api (apa_cons (ap_sub (apv 2) api) apa_nil)))))) (apw_o1 (apt_not (apt_val (ap_call (ok_is_truth T) (hr.mono (by decide)) T.d_is_truth.g T.d_is_truth.F.kp T.d_is_truth.b pass0 (apa_cons (apv 4) apa_nil))))))) (apss_one (aps_ret apb)) apss_nil)
        (apss_cons (aps_if (apt_w (apw_or (apt_not (apt_val (ap_isi "tuple" (by decide) (isi_ok_tuple _) T.b_isinstance T.b_tuple (by decide +kernel) (apv 5)))) (apw_o1 (at_gt (ap_len T.b_len (apv 5)) (apglob rfl T.c_MOST_CHILDREN (by exact ⟨_, rfl⟩)))))) (apss_one (aps_ret apb)) apss_nil)
        (apss_cons (aps_for (vs := [6]) PassesOwn.never rfl (awi_tup (apv 5)) (apg_n (i := 6) sc_is_line.nd) (apss_one (aps_if (apt_not (apt_val (ap_call (ok_is_within T) (hr.mono (by decide)) T.d_is_within.g T.d_is_within.F.kp T.d_is_within.b pass0 (apa_cons (apv 6) (apa_cons api (apa_cons (ap_sub (apv 1) api) apa_nil)))))) (apss_one (aps_ret apb)) apss_nil)))
        (apss_one (aps_ret apb))))))), fun avs C q h => ?_⟩
    obtain ⟨l, n, m, rfl, h⟩ := h
    walk_at "st"
    refine iteN (by simp) ?_
    walk_at "st"
    walk_at "st"
    cases e1 : decide (l.mark < m) with
    | false =>
      refine iteY ?_ ?_
      · have := of_decide_eq_false e1
        simp
        omega
      · walk_at "st"
        unfold lnOk at h
        rw [e1] at h
        exact Ret.of h
    | true =>
      have e1' := of_decide_eq_true e1
      refine iteN ?_ ?_
      · simp
        omega
      walk_at "st"
      refine iteN (by simp [isD, tyD]) ?_
      cases e2 : decide (l.kids.length ≤ 600) with
      | false =>
        have e2' := of_decide_eq_false e2
        refine iteY ?_ ?_
        · simp
          omega
        · walk_at "st"
          unfold lnOk at h
          rw [e1, e2] at h
          exact Ret.of h
      | true =>
        have e2' := of_decide_eq_true e2
        refine iteN ?_ ?_
        · simp
          omega
        refine i_seq ?_
        refine i_for (fun q hq => hq) (fun i ρ' C' => ∃ y, ρ' = [some (.d (encL l)), some (.d (.int n)), some (.d (.int m)), some (.d (.int l.mark)), some (.d (.bool l.live)), some (.d (.tuple (l.kids.map encI))), y] ∧ C' = C ∧ ∀ j k, j < i → l.kids[j]? = some k → k < n)
          ⟨none, rfl, rfl, fun j k hj => by omega⟩ (fun _ _ _ _ _ => trivial) ?_ ?_
        · rintro i x ρ' C' hx ⟨y, rfl, rfl, hk⟩
          obtain ⟨d, hd, rfl⟩ := map_get hx
          rw [List.getElem?_map] at hd
          cases ek : l.kids[i]? with
          | none =>
            rw [ek] at hd
            cases hd
          | some k =>
            rw [ek] at hd
            cases hd
            walk_at "rd"
            walk_at "st"
            cases e3 : decide (k < n) with
            | false =>
              have e3' := of_decide_eq_false e3
              refine iteY ?_ ?_
              · simp
                omega
              · walk_at "st"
                have hf : l.kids.all (fun k => decide (k < n)) = false := by
                  rw [List.all_eq_false]
                  exact ⟨k, List.mem_of_getElem? ek, by simpa using e3'⟩
                unfold lnOk at h
                rw [hf, Bool.and_false] at h
                exact Ret.of h
            | true =>
              have e3' := of_decide_eq_true e3
              refine iteN ?_ ?_
              · simp
                omega
              refine ⟨_, rfl, trivial, fun j k' hj hk' => ?_⟩
              by_cases hji : j = i
              · subst hji
                rw [ek] at hk'
                cases hk'
                exact e3'
              · exact hk j k' (by omega) hk'
        · rintro ρ' C' ⟨y, rfl, rfl, hk⟩
          walk_at "st"
          have hf : l.kids.all (fun k => decide (k < n)) = true := by
            rw [List.all_eq_true]
            intro k hm
            obtain ⟨j, hj, e⟩ := List.getElem_of_mem hm
            refine decide_eq_true (hk j k ?_ (by rw [List.getElem?_eq_getElem hj, e]))
            rw [List.length_map, List.length_map]
            exact hj
          unfold lnOk at h
          rw [e1, e2, hf] at h
          exact Ret.of h
end
end AB

set_option Elab.async false
set_option linter.all false
set_option maxRecDepth 100000
set_option maxHeartbeats 4000000
/-! Rows of values line by line; the walks has_too_many, reading_counts. -/
namespace AB
open PySem PySem.Spec PyProof.Rows L2
/-! ### line by line -/
section
variable {α β : Type} {g : List α → Ln → α}
def rows (g : List α → Ln → α) (f : List Ln) : List α := f.foldl (fun acc l => acc ++ [g acc l]) []
theorem rows_snoc {f : List Ln} {l : Ln} : rows g (f ++ [l]) = rows g f ++ [g (rows g f) l] := by
  unfold rows
  rw [List.foldl_append]
  rfl
theorem rows_take {f : List Ln} {i : Nat} {l : Ln} (h : f[i]? = some l) : rows g (f.take (i + 1)) = rows g (f.take i) ++ [g (rows g (f.take i)) l] := by
  rw [take_snoc h, rows_snoc]
theorem rows_len (f : List Ln) : (rows g f).length = f.length := by
  have z : ∀ (f : List Ln) (a : List α), (f.foldl (fun acc l => acc ++ [g acc l]) a).length = a.length + f.length := by
    intro f
    induction f with
    | nil =>
      intro a
      rfl
    | cons l r ih =>
      intro a
      rw [List.foldl_cons, ih, List.length_append, List.length_cons, List.length_cons, List.length_nil]
      omega
  have z2 := z f []
  rw [List.length_nil, Nat.zero_add] at z2
  exact z2
theorem rows_app (f1 : List Ln) : ∀ (f2 : List Ln), ∃ r, rows g (f1 ++ f2) = rows g f1 ++ r := by
  have z : ∀ (f2 : List Ln) (a : List α), ∃ r, f2.foldl (fun acc l => acc ++ [g acc l]) a = a ++ r := by
    intro f2
    induction f2 with
    | nil =>
      intro a
      exact ⟨[], by simp⟩
    | cons l r ih =>
      intro a
      obtain ⟨r2, e⟩ := ih (a ++ [g a l])
      exact ⟨[g a l] ++ r2, by rw [List.foldl_cons, e, List.append_assoc]⟩
  intro f2
  unfold rows
  rw [List.foldl_append]
  exact z f2 _
/-- the rows of the first lines are the first rows -/
theorem take_rows (f : List Ln) (i : Nat) : (rows g f).take i = rows g (f.take i) := by
  obtain ⟨r, e⟩ := rows_app (g := g) (f.take i) (f.drop i)
  rw [List.take_append_drop] at e
  rw [e]
  by_cases h : i ≤ f.length
  · have hl : (rows g (f.take i)).length = i := by
      rw [rows_len, List.length_take]
      omega
    exact List.take_left' hl
  · have e2 : f.drop i = [] := List.drop_eq_nil_of_le (by omega)
    have e3 : f.take i = f := List.take_of_length_le (by omega)
    rw [e3] at e ⊢
    rw [← e]
    exact List.take_of_length_le (by rw [rows_len]; omega)
theorem rows_get {f : List Ln} {i : Nat} {l : Ln} (h : f[i]? = some l) : (rows g f)[i]? = some (g (rows g (f.take i)) l) := by
  have hi : i < f.length := (List.getElem?_eq_some_iff.mp h).1
  have e := take_rows (g := g) f (i + 1)
  rw [rows_take h] at e
  have hl : (rows g (f.take i)).length = i := by
    rw [rows_len, List.length_take]
    omega
  have e2 : ((rows g f).take (i + 1))[i]? = (rows g f)[i]? := by
    rw [List.getElem?_take]
    exact if_pos (Nat.lt_succ_self i)
  rw [← e2, e, List.getElem?_append_right (by omega), hl, Nat.sub_self]
  rfl
theorem rows_prev {f : List Ln} {i k : Nat} (hk : k < i) : (rows g (f.take i))[k]? = (rows g f)[k]? := by
  rw [← take_rows, List.getElem?_take]
  exact if_pos hk
theorem rows_last {f : List Ln} {l : Ln} (h : f.getLast? = some l) : (rows g f).getLast? = some (g (rows g f.dropLast) l) := by
  have hn : f ≠ [] := fun e => by
    rw [e] at h
    cases h
  have e1 : l = f.getLast hn := by
    rw [List.getLast?_eq_getLast hn] at h
    exact (Option.some.inj h).symm
  have e2 := List.dropLast_concat_getLast hn
  rw [← e2, rows_snoc, List.getLast?_concat, ← e1]
  simp
end
def encF (f : List Ln) : PyData := .tuple (f.map encL)
def kidsOk (f : List Ln) : Prop := ∀ (i : Nat) (l : Ln), f[i]? = some l → ∀ k ∈ l.kids, k < i
/-- the sum of what stands at some places -/
def gsum (acc : List Nat) (ks : List Nat) : Nat := (ks.map fun k => acc.getD k 0).sum
theorem gsum_snoc (acc ks : List Nat) (k : Nat) : gsum acc (ks ++ [k]) = gsum acc ks + acc.getD k 0 := by
  unfold gsum
  rw [List.map_append, List.sum_append]
  simp
def gmin (acc : List Nat) (l : Ln) : Nat := min (1 + gsum acc l.kids) (10 ^ 60 + 1)
def tooMany (f : List Ln) : Bool := match (rows gmin f).getLast? with
  | some n => decide (10 ^ 60 < n)
  | none => false
def cI (n : Nat) : AV := .d (.int (n : Int))
theorem at_map {α : Type} {f : α → AV} {xs : List α} {k : Nat} {x : α} (h : xs[k]? = some x) : (xs.map f)[k]? = some (f x) := by
  rw [List.getElem?_map, h]
  rfl
theorem atD_map {α : Type} {f : α → PyData} {xs : List α} {k : Nat} {x : α} (h : xs[k]? = some x) : (xs.map f)[k]? = some (f x) := by
  rw [List.getElem?_map, h]
  rfl
theorem of_atD {α : Type} {f : α → PyData} {xs : List α} {k : Nat} {y : PyData} (h : (xs.map f)[k]? = some y) : ∃ x, xs[k]? = some x ∧ y = f x := by
  rw [List.getElem?_map] at h
  cases e : xs[k]? with
  | none =>
    rw [e] at h
    cases h
  | some x =>
    rw [e] at h
    exact ⟨x, rfl, (Option.some.inj h).symm⟩
section
variable {P : Program} {w : World} {K : PySem.W.Frag} {mg : Str → Option Value} {base : Heap}
local macro_rules | `(tactic| walk_at "rd") => `(tactic| try simp only [astart, List.map_cons, List.map_nil, List.length_cons, List.length_nil, List.replicate_succ, List.replicate_zero, List.cons_append, List.nil_append, aVar, aC, aOp, arI, arI0, arB, onI2, onB, aTest, aChain, aAnd, aOr, aNot, aAndV, aOrV, aNotV, aIf, aNil, aCons, aIsi, aNext, aCB, acLen, aCall, g_n, g_tup2, g_tup3, g_tup4, g_tup13, aNeg, aTup, allD, arIx_t0, arIx_t1, arIx_t2, arIx_t3, List.getElem?_cons_zero, List.getElem?_cons_succ, List.set_cons_zero, List.set_cons_succ, if_true, if_false, Bool.false_eq_true, Bool.not_true, Bool.not_false, isInt_int, withinD_int, tupD_tup, encL, encI, sp_is_whole, sp_is_within, sp_is_truth, sp_is_tuple_of, sp_is_word_of])
local macro_rules | `(tactic| walk_at "st") => `(tactic| ((try dsimp only); (try refine i_seq ?_); (first | refine i_set ?_ | refine i_if ?_ | refine i_ret ?_ | refine i_asg ?_ | refine i_drop ?_ | refine i_par ?_ | refine i_par3 ?_ | refine i_next ?_); (walk_at "rd")))
def sp_has_too_many : ASp := fun avs C q _ => ∃ f, avs = [.d (encF f)] ∧ f ≠ [] ∧ f.length ≤ 2000 ∧ kidsOk f ∧ q (.d (.bool (tooMany f))) C
theorem ok_has_too_many (T : Txt P K mg) : FnOk P w K mg base CX0 1 T.d_has_too_many.f T.d_has_too_many.fd ["lines"] (gSp K sp_has_too_many) := by
  refine fok T.d_has_too_many.F sc_has_too_many (fun avs C q z h => ?_) (fun cdv A outer s H P' hr => ?_)
  · obtain ⟨f, rfl, _⟩ := h
    rfl
  · refine ⟨_, (apss_cons (aps_set 1 sc_has_too_many.nd (ape_lstC apa_nil))
        (apss_cons (aps_for (vs := [2]) PassesOwn.never rfl (awi_tup (apv 0)) (apg_n (i := 2) sc_has_too_many.nd) (apss_cons (aps_set 3 sc_has_too_many.nd api)
        (apss_cons (aps_for (vs := [4]) PassesOwn.never rfl (awi_tup (apx (apv 2) api)) (apg_n (i := 4) sc_has_too_many.nd) (apss_one (aps_aug 3 sc_has_too_many.nd ip_add (apx (apv 1) (apv 4)))))
        (apss_one (aps_expr (ap_app (apv 1) (ap_min rfl T.b_min (apa_cons (apv 3) (apa_cons (ap_add (apglob rfl T.c_MOST_MEMBERS (by exact ⟨_, rfl⟩)) api) apa_nil)))))))))
        (apss_one (aps_ret (ap_gt (apx (apv 1) (ap_neg api)) (apglob rfl T.c_MOST_MEMBERS (by exact ⟨_, rfl⟩))))))), fun avs C q h => ?_⟩
    obtain ⟨f, rfl, hne, hlen, hk, h⟩ := h
    walk_at "st"
    refine ⟨by simp, fun a ha => ?_⟩
    refine i_seq ?_
    refine i_for (fun q hq => hq) (fun i ρ' C' => ∃ y2 y3 y4, ρ' = [some (.d (encF f)), some (.r a), y2, y3, y4] ∧ C' = cup C a (.l ((rows gmin (f.take i)).map cI)))
      ⟨none, none, none, rfl, rfl⟩ (fun _ _ _ _ _ => trivial) ?_ ?_
    · rintro i x ρ' C' hx ⟨y2, y3, y4, rfl, rfl⟩
      obtain ⟨d, hd, rfl⟩ := map_get hx
      obtain ⟨l, hl, rfl⟩ := of_atD hd
      have hi : i < f.length := (List.getElem?_eq_some_iff.mp hl).1
      walk_at "rd"
      walk_at "st"
      refine i_seq ?_
      refine i_for (fun q hq => ⟨_, rfl, hq⟩) (fun j ρ' C' => ∃ y4, ρ' = [some (.d (encF f)), some (.r a), some (.d (encL l)), some (.d (.int (1 + gsum (rows gmin (f.take i)) (l.kids.take j) : Nat))), y4] ∧ C' = cup C a (.l ((rows gmin (f.take i)).map cI)))
        ⟨y4, rfl, rfl⟩ (fun _ _ _ _ _ => trivial) ?_ ?_
      · rintro j x ρ' C' hx ⟨y4, rfl, rfl⟩
        obtain ⟨d, hd, rfl⟩ := map_get hx
        obtain ⟨k, hkk, rfl⟩ := of_atD hd
        have hki : k < i := hk i l hl k (List.mem_of_getElem? hkk)
        have hlt : k < (rows gmin (f.take i)).length := by
          rw [rows_len, List.length_take]
          omega
        walk_at "rd"
        refine i_aug rfl ?_
        walk_at "rd"
        refine ix_c cup_same (at_map (List.getElem?_eq_getElem hlt)) ?_
        refine ⟨some (.d (.int (k : Nat))), ?_, rfl⟩
        have e : gsum (rows gmin (f.take i)) (l.kids.take (j + 1)) = gsum (rows gmin (f.take i)) (l.kids.take j) + (rows gmin (f.take i))[k] := by
          rw [take_snoc hkk, gsum_snoc, List.getD_eq_getElem?_getD, List.getElem?_eq_getElem hlt]
          rfl
        have e3 : ((1 + gsum (rows gmin (f.take i)) (l.kids.take (j + 1)) : Nat) : Int) = ((1 + gsum (rows gmin (f.take i)) (l.kids.take j) : Nat) : Int) + ((rows gmin (f.take i))[k] : Nat) := by
          rw [e]
          omega
        rw [e3]
      · rintro ρ' C' ⟨y4, rfl, rfl⟩
        walk_at "st"
        refine ⟨a, _, rfl, cup_same, ?_⟩
        walk_at "rd"
        refine ⟨_, cup_same, ?_, ?_⟩
        · rw [List.length_map, rows_len, List.length_take]
          omega
        refine ⟨_, _, _, rfl, ?_⟩
        rw [cup_cup, rows_take hl, List.map_append]
        have e : (l.kids.map encI).map AV.d = (l.kids.map encI).map AV.d := rfl
        rw [List.length_map, List.length_map, List.take_length]
        have e2 : (if ((10 : Int) ^ 60 + 1 < ((1 + gsum (rows gmin (f.take i)) l.kids : Nat) : Int)) then ((10 : Int) ^ 60 + 1) else ((1 + gsum (rows gmin (f.take i)) l.kids : Nat) : Int)) = ((gmin (rows gmin (f.take i)) l : Nat) : Int) := by
          unfold gmin
          split <;> omega
        dsimp only
        rw [e2]
        rfl
    · rintro ρ' C' ⟨y2, y3, y4, rfl, rfl⟩
      obtain ⟨l, hl⟩ : ∃ l, f.getLast? = some l := ⟨f.getLast hne, List.getLast?_eq_getLast hne⟩
      have hlast := rows_last (g := gmin) hl
      rw [List.length_map, List.length_map, List.take_length]
      walk_at "st"
      refine ix_c1 cup_same (u := cI (gmin (rows gmin f.dropLast) l)) ?_ ?_
      · rw [List.getLast?_map, hlast]
        rfl
      · unfold cI
        walk_at "rd"
        unfold tooMany at h
        rw [hlast] at h
        refine Ret.sub (Sub.cup ha) ?_
        have e : decide ((10 : Int) ^ 60 < ((gmin (rows gmin f.dropLast) l : Nat) : Int)) = decide (10 ^ 60 < gmin (rows gmin f.dropLast) l) := by
          by_cases c : 10 ^ 60 < gmin (rows gmin f.dropLast) l
          · rw [decide_eq_true c, decide_eq_true (by omega)]
          · rw [decide_eq_false c, decide_eq_false (by omega)]
        rw [e]
        exact h
end
end AB

set_option Elab.async false
set_option linter.all false
set_option maxRecDepth 100000
set_option maxHeartbeats 4000000
/-! Deals: their checks, the reading of a row, the closings. -/
namespace AB
open PySem PySem.Spec PyProof.Rows L2
inductive Tk where
  | lines | lost | self
  deriving DecidableEq
def sLines : Str := "lines"
def sLost : Str := "lost"
def sSelf : Str := "self"
def Tk.str : Tk → Str
  | .lines => sLines
  | .lost => sLost
  | .self => sSelf
theorem tk_lost (t : Tk) : decide (t.str = "lost") = decide (t = .lost) := by
  cases t <;> decide +kernel
theorem tk_self (t : Tk) : decide (t.str = "self") = decide (t = .self) := by
  cases t <;> decide +kernel
theorem tk_lines (t : Tk) : decide (t.str = "lines") = decide (t = .lines) := by
  cases t <;> decide +kernel
def encC (c : Nat × Tk) : PyData := .tuple [.int (c.1 : Nat), .str c.2.str]
def encCs (l : List (Nat × Tk)) : PyData := .tuple (l.map encC)
def encB (b : List (Nat × Tk) × List (Nat × Tk)) : PyData := .tuple [encCs b.1, encCs b.2]
def encR (r : List Nat) : PyData := .tuple (r.map encI)
structure Deal where
  marks : Nat
  ws : List Nat
  read : List (List Nat)
  close : List (List (Nat × Tk) × List (Nat × Tk))
def encD (d : Deal) : PyData := .tuple [.int (d.marks : Nat), encR d.ws, .tuple (d.read.map encR), .tuple (d.close.map encB)]
structure DealOk (d : Deal) : Prop where
  m1 : 1 ≤ d.marks
  m3 : d.marks ≤ 3
  w1 : 1 ≤ d.ws.length
  w8 : d.ws.length ≤ 8
  w99 : ∀ w ∈ d.ws, w ≤ 99
  r1 : 1 ≤ d.read.length
  r8 : d.read.length ≤ 8
  rl : ∀ r ∈ d.read, r.length = d.ws.length
  rs : ∀ r ∈ d.read, ∀ s ∈ r, s < d.read.length
  cl : d.close.length = d.marks
  c1 : ∀ b ∈ d.close, b.1.length = d.read.length
  c2 : ∀ b ∈ d.close, b.2.length = d.read.length
  k1 : ∀ b ∈ d.close, ∀ c ∈ b.1, c.1 < d.ws.length ∧ c.2 ≠ .self
  k2 : ∀ b ∈ d.close, ∀ c ∈ b.2, c.1 < d.ws.length
section
variable {P : Program} {w : World} {K : PySem.W.Frag} {mg : Str → Option Value} {base : Heap}
local macro_rules | `(tactic| walk_at "rd") => `(tactic| try simp only [astart, List.map_cons, List.map_nil, List.length_cons, List.length_nil, List.replicate_succ, List.replicate_zero, List.cons_append, List.nil_append, aVar, aC, aOp, arI, arI0, arB, onI2, onB, aTest, aChain, aAnd, aOr, aNot, aAndV, aOrV, aNotV, aIf, aNil, aCons, aIsi, aNext, aCB, acLen, aCall, g_n, g_tup2, g_tup3, g_tup4, g_tup13, aNeg, aTup, allD, arIx_t0, arIx_t1, arIx_t2, arIx_t3, List.getElem?_cons_zero, List.getElem?_cons_succ, List.set_cons_zero, List.set_cons_succ, if_true, if_false, Bool.false_eq_true, Bool.not_true, Bool.not_false, isInt_int, withinD_int, tupD_tup, encL, encI, sp_is_whole, sp_is_within, sp_is_truth, sp_is_tuple_of, sp_is_word_of])
local macro_rules | `(tactic| walk_at "st") => `(tactic| ((try dsimp only); (try refine i_seq ?_); (first | refine i_set ?_ | refine i_if ?_ | refine i_ret ?_ | refine i_asg ?_ | refine i_drop ?_ | refine i_par ?_ | refine i_par3 ?_ | refine i_next ?_); (walk_at "rd")))
def sp_are_weights : ASp := fun avs C q _ => ∃ ws, avs = [.d (encR ws)] ∧ 1 ≤ ws.length ∧ ws.length ≤ 8 ∧ (∀ w ∈ ws, w ≤ 99) ∧ q (.d (.bool true)) C
theorem ok_are_weights (T : Txt P K mg) : FnOk P w K mg base CX0 3 T.d_are_weights.f T.d_are_weights.fd ["value"] (gSp K sp_are_weights) := by
  refine fok T.d_are_weights.F sc_are_weights (fun avs C q z h => ?_) (fun cdv A outer s H P' hr => ?_)
  · obtain ⟨f, rfl, _⟩ := h
    rfl
  · refine ⟨_, (apss_cons (aps_if (apt_w (apw_or (apt_not (apt_val (ap_isi "tuple" (by decide) (isi_ok_tuple _) T.b_isinstance T.b_tuple (by decide +kernel) (apv 0)))) (apw_o1 (apt_not (at_lele api (ap_len T.b_len (apv 0)) (apglob rfl T.c_MOST_RANKS (by exact ⟨_, rfl⟩))))))) (apss_one (aps_ret apb)) apss_nil)
        (apss_cons (aps_for (vs := [1]) PassesOwn.never rfl (awi_tup (apv 0)) (apg_n (i := 1) sc_are_weights.nd) (apss_one (aps_if (apt_not (apt_val (ap_call (ok_is_within T) (hr.mono (by decide)) T.d_is_within.g T.d_is_within.F.kp T.d_is_within.b pass0 (apa_cons (apv 1) (apa_cons api (apa_cons (apglob rfl T.c_MOST_WEIGHT (by exact ⟨_, rfl⟩)) apa_nil)))))) (apss_one (aps_ret apb)) apss_nil)))
        (apss_one (aps_ret apb)))), fun avs C q h => ?_⟩
    obtain ⟨ws, rfl, h1, h8, h99, h⟩ := h
    unfold encR
    walk_at "st"
    refine iteN (by simp [isD, tyD]) (iteY (by rw [List.length_map, decide_eq_true_eq]; omega) (iteN ?_ ?_))
    · rw [List.length_map]
      simp
      omega
    refine i_seq ?_
    refine i_for (fun q hq => hq) (fun i ρ' C' => ∃ y, ρ' = [some (.d (encR ws)), y] ∧ C' = C) ⟨none, rfl, rfl⟩ (fun _ _ _ _ _ => trivial) ?_ ?_
    · rintro i x ρ' C' hx ⟨y, rfl, rfl⟩
      obtain ⟨d, hd, rfl⟩ := map_get hx
      obtain ⟨k, hk, rfl⟩ := of_atD hd
      have h9 := h99 k (List.mem_of_getElem? hk)
      walk_at "rd"
      walk_at "st"
      refine iteN ?_ ⟨_, rfl, by first | rfl | trivial⟩
      simp
      omega
    · rintro ρ' C' ⟨y, rfl, rfl⟩
      walk_at "st"
      exact Ret.of h
def sp_are_stand_rows : ASp := fun avs C q _ => ∃ (rs : List (List Nat)) (n : Nat), avs = [.d (.tuple (rs.map encR)), .d (.int (n : Nat))] ∧ 1 ≤ rs.length ∧ rs.length ≤ 8 ∧ (∀ r ∈ rs, r.length = n) ∧ (∀ r ∈ rs, ∀ s ∈ r, s < rs.length) ∧ q (.d (.bool true)) C
theorem ok_are_stand_rows (T : Txt P K mg) : FnOk P w K mg base CX0 3 T.d_are_stand_rows.f T.d_are_stand_rows.fd ["value", "ranks"] (gSp K sp_are_stand_rows) := by
  refine fok T.d_are_stand_rows.F sc_are_stand_rows (fun avs C q z h => ?_) (fun cdv A outer s H P' hr => ?_)
  · obtain ⟨f, n, rfl, _⟩ := h
    rfl
  · refine ⟨_, (apss_cons (aps_if (apt_w (apw_or (apt_not (apt_val (ap_isi "tuple" (by decide) (isi_ok_tuple _) T.b_isinstance T.b_tuple (by decide +kernel) (apv 0)))) (apw_o1 (apt_not (at_lele api (ap_len T.b_len (apv 0)) (apglob rfl T.c_MOST_STANDS (by exact ⟨_, rfl⟩))))))) (apss_one (aps_ret apb)) apss_nil)
        (apss_cons (aps_for (vs := [2]) PassesOwn.never rfl (awi_tup (apv 0)) (apg_n (i := 2) sc_are_stand_rows.nd) (apss_cons (aps_if (apt_not (apt_val (ap_call (ok_is_tuple_of T) (hr.mono (by decide)) T.d_is_tuple_of.g T.d_is_tuple_of.F.kp T.d_is_tuple_of.b pass0 (apa_cons (apv 2) (apa_cons (apv 1) apa_nil))))) (apss_one (aps_ret apb)) apss_nil)
        (apss_one (aps_for (vs := [3]) PassesOwn.never rfl (awi_tup (apv 2)) (apg_n (i := 3) sc_are_stand_rows.nd) (apss_one (aps_if (apt_not (apt_val (ap_call (ok_is_within T) (hr.mono (by decide)) T.d_is_within.g T.d_is_within.F.kp T.d_is_within.b pass0 (apa_cons (apv 3) (apa_cons api (apa_cons (ap_sub (ap_len T.b_len (apv 0)) api) apa_nil)))))) (apss_one (aps_ret apb)) apss_nil))))))
        (apss_one (aps_ret apb)))), fun avs C q h => ?_⟩
    obtain ⟨rs, n, rfl, h1, h8, hl, hs, h⟩ := h
    walk_at "st"
    refine iteN (by simp [isD, tyD]) (iteY (by rw [List.length_map, decide_eq_true_eq]; omega) (iteN ?_ ?_))
    · rw [List.length_map]
      simp
      omega
    refine i_seq ?_
    refine i_for (fun q hq => hq) (fun i ρ' C' => ∃ y z, ρ' = [some (.d (.tuple (rs.map encR))), some (.d (.int (n : Nat))), y, z] ∧ C' = C) ⟨none, none, rfl, rfl⟩ (fun _ _ _ _ _ => trivial) ?_ ?_
    · rintro i x ρ' C' hx ⟨y, z, rfl, rfl⟩
      obtain ⟨d, hd, rfl⟩ := map_get hx
      obtain ⟨r, hr1, rfl⟩ := of_atD hd
      have hm := List.mem_of_getElem? hr1
      have e := hl r hm
      unfold encR
      walk_at "rd"
      walk_at "st"
      refine iteN ?_ ?_
      · rw [List.length_map]
        simp
        omega
      refine i_for (fun q hq => hq) (fun j ρ2 C2 => ∃ z, ρ2 = [some (.d (.tuple (rs.map encR))), some (.d (.int (n : Nat))), some (.d (encR r)), z] ∧ C2 = C') ⟨z, rfl, rfl⟩ (fun _ _ _ _ _ => trivial) ?_ ?_
      · rintro j x ρ2 C2 hx ⟨z, rfl, rfl⟩
        obtain ⟨d, hd, rfl⟩ := map_get hx
        obtain ⟨s, hs1, rfl⟩ := of_atD hd
        have h9 := hs r hm s (List.mem_of_getElem? hs1)
        walk_at "rd"
        walk_at "st"
        refine iteN ?_ ⟨_, rfl, by first | rfl | trivial⟩
        simp
        omega
      · rintro ρ2 C2 ⟨z, rfl, rfl⟩
        exact ⟨_, _, rfl, rfl⟩
    · rintro ρ' C' ⟨y, z, rfl, rfl⟩
      walk_at "st"
      exact Ret.of h
def sp_are_takes : ASp := fun avs C q _ => ∃ (l : List (Nat × Tk)) (n m : Nat) (ss : List Str), avs = [.d (encCs l), .d (.int (n : Nat)), .d (.int (m : Nat)), .d (.tuple (ss.map .str))] ∧ l.length = n ∧ (∀ c ∈ l, c.1 < m ∧ c.2.str ∈ ss) ∧ q (.d (.bool true)) C
theorem ok_are_takes (T : Txt P K mg) : FnOk P w K mg base CX0 3 T.d_are_takes.f T.d_are_takes.fd ["value", "stands", "ranks", "takes"] (gSp K sp_are_takes) := by
  refine fok T.d_are_takes.F sc_are_takes (fun avs C q z h => ?_) (fun cdv A outer s H P' hr => ?_)
  · obtain ⟨f, n, m, ss, rfl, _⟩ := h
    rfl
  · refine ⟨_, (apss_cons (aps_if (apt_not (apt_val (ap_call (ok_is_tuple_of T) (hr.mono (by decide)) T.d_is_tuple_of.g T.d_is_tuple_of.F.kp T.d_is_tuple_of.b pass0 (apa_cons (apv 0) (apa_cons (apv 1) apa_nil))))) (apss_one (aps_ret apb)) apss_nil)
        (apss_cons (aps_for (vs := [4]) PassesOwn.never rfl (awi_tup (apv 0)) (apg_n (i := 4) sc_are_takes.nd) (apss_cons (aps_if (apt_w (apw_or (apt_not (apt_val (ap_call (ok_is_tuple_of T) (hr.mono (by decide)) T.d_is_tuple_of.g T.d_is_tuple_of.F.kp T.d_is_tuple_of.b pass0 (apa_cons (apv 4) (apa_cons api apa_nil))))) (apw_o1 (apt_not (apt_val (ap_call (ok_is_within T) (hr.mono (by decide)) T.d_is_within.g T.d_is_within.F.kp T.d_is_within.b pass0 (apa_cons (apx (apv 4) api) (apa_cons api (apa_cons (ap_sub (apv 2) api) apa_nil))))))))) (apss_one (aps_ret apb)) apss_nil)
        (apss_one (aps_if (apt_not (apt_val (ap_call (ok_is_word_of T) (hr.mono (by decide)) T.d_is_word_of.g T.d_is_word_of.F.kp T.d_is_word_of.b pass0 (apa_cons (apx (apv 4) api) (apa_cons (apv 3) apa_nil))))) (apss_one (aps_ret apb)) apss_nil))))
        (apss_one (aps_ret apb)))), fun avs C q h => ?_⟩
    obtain ⟨l, n, m, ss, rfl, hl, hc, h⟩ := h
    unfold encCs
    walk_at "st"
    refine iteN (by rw [List.length_map]; simp; omega) ?_
    refine i_seq ?_
    refine i_for (fun q hq => hq) (fun i ρ' C' => ∃ y, ρ' = [some (.d (encCs l)), some (.d (.int (n : Nat))), some (.d (.int (m : Nat))), some (.d (.tuple (ss.map .str))), y] ∧ C' = C) ⟨none, rfl, rfl⟩ (fun _ _ _ _ _ => trivial) ?_ ?_
    · rintro i x ρ' C' hx ⟨y, rfl, rfl⟩
      obtain ⟨d, hd, rfl⟩ := map_get hx
      obtain ⟨c, hc1, rfl⟩ := of_atD hd
      obtain ⟨h9, hss⟩ := hc c (List.mem_of_getElem? hc1)
      unfold encC
      walk_at "rd"
      walk_at "st"
      refine iteN (by simp) (iteN (by simp; omega) ?_)
      walk_at "st"
      refine ⟨c.2.str, ss, rfl, ?_⟩
      walk_at "rd"
      refine iteN (by simp [hss]) ⟨_, rfl, by first | rfl | trivial⟩
    · rintro ρ' C' ⟨y, rfl, rfl⟩
      walk_at "st"
      exact Ret.of h
def sp_are_closings : ASp := fun avs C q _ => ∃ (l : List (List (Nat × Tk) × List (Nat × Tk))) (k n m : Nat), avs = [.d (.tuple (l.map encB)), .d (.int (k : Nat)), .d (.int (n : Nat)), .d (.int (m : Nat))] ∧ l.length = k ∧
  (∀ b ∈ l, b.1.length = n) ∧ (∀ b ∈ l, b.2.length = n) ∧ (∀ b ∈ l, ∀ c ∈ b.1, c.1 < m ∧ c.2 ≠ .self) ∧ (∀ b ∈ l, ∀ c ∈ b.2, c.1 < m) ∧ q (.d (.bool true)) C
theorem tk_in2 {t : Tk} (h : t ≠ .self) : t.str ∈ [("lines" : Str), "lost"] := by
  cases t
  · exact List.mem_cons_self
  · exact List.mem_cons_of_mem _ List.mem_cons_self
  · exact absurd rfl h
theorem tk_in3 (t : Tk) : t.str ∈ [("lines" : Str), "lost", "self"] := by
  cases t
  · exact List.mem_cons_self
  · exact List.mem_cons_of_mem _ List.mem_cons_self
  · exact List.mem_cons_of_mem _ (List.mem_cons_of_mem _ List.mem_cons_self)
theorem ok_are_closings (T : Txt P K mg) : FnOk P w K mg base CX0 4 T.d_are_closings.f T.d_are_closings.fd ["value", "marks", "stands", "ranks"] (gSp K sp_are_closings) := by
  refine fok T.d_are_closings.F sc_are_closings (fun avs C q z h => ?_) (fun cdv A outer s H P' hr => ?_)
  · obtain ⟨f, k, n, m, rfl, _⟩ := h
    rfl
  · refine ⟨_, (apss_cons (aps_if (apt_not (apt_val (ap_call (ok_is_tuple_of T) (hr.mono (by decide)) T.d_is_tuple_of.g T.d_is_tuple_of.F.kp T.d_is_tuple_of.b pass0 (apa_cons (apv 0) (apa_cons (apv 1) apa_nil))))) (apss_one (aps_ret apb)) apss_nil)
        (apss_cons (aps_for (vs := [4]) PassesOwn.never rfl (awi_tup (apv 0)) (apg_n (i := 4) sc_are_closings.nd) (apss_cons (aps_if (apt_not (apt_val (ap_call (ok_is_tuple_of T) (hr.mono (by decide)) T.d_is_tuple_of.g T.d_is_tuple_of.F.kp T.d_is_tuple_of.b pass0 (apa_cons (apv 4) (apa_cons api apa_nil))))) (apss_one (aps_ret apb)) apss_nil)
        (apss_cons (aps_if (apt_not (apt_val (ap_call (ok_are_takes T) (hr.mono (by decide)) T.d_are_takes.g T.d_are_takes.F.kp T.d_are_takes.b pass0 (apa_cons (apx (apv 4) api) (apa_cons (apv 2) (apa_cons (apv 3) (apa_cons (ape_tup (apa_cons apstr (apa_cons apstr apa_nil))) apa_nil))))))) (apss_one (aps_ret apb)) apss_nil)
        (apss_one (aps_if (apt_not (apt_val (ap_call (ok_are_takes T) (hr.mono (by decide)) T.d_are_takes.g T.d_are_takes.F.kp T.d_are_takes.b pass0 (apa_cons (apx (apv 4) api) (apa_cons (apv 2) (apa_cons (apv 3) (apa_cons (ape_tup (apa_cons apstr (apa_cons apstr (apa_cons apstr apa_nil)))) apa_nil))))))) (apss_one (aps_ret apb)) apss_nil)))))
        (apss_one (aps_ret apb)))), fun avs C q h => ?_⟩
    obtain ⟨l, k, n, m, rfl, hl, h1, h2, h3, h4, h⟩ := h
    walk_at "st"
    refine iteN (by rw [List.length_map]; simp; omega) ?_
    refine i_seq ?_
    refine i_for (fun q hq => hq) (fun i ρ' C' => ∃ y, ρ' = [some (.d (.tuple (l.map encB))), some (.d (.int (k : Nat))), some (.d (.int (n : Nat))), some (.d (.int (m : Nat))), y] ∧ C' = C) ⟨none, rfl, rfl⟩ (fun _ _ _ _ _ => trivial) ?_ ?_
    · rintro i x ρ' C' hx ⟨y, rfl, rfl⟩
      obtain ⟨d, hd, rfl⟩ := map_get hx
      obtain ⟨b, hb, rfl⟩ := of_atD hd
      have hm := List.mem_of_getElem? hb
      unfold encB
      walk_at "rd"
      walk_at "st"
      refine iteN (by simp) ?_
      walk_at "st"
      refine ⟨by simp, b.1, n, m, [("lines" : Str), "lost"], rfl, h1 b hm, fun c hc => ⟨(h3 b hm c hc).1, tk_in2 (h3 b hm c hc).2⟩, ?_⟩
      walk_at "rd"
      walk_at "st"
      refine ⟨by simp, b.2, n, m, [("lines" : Str), "lost", "self"], rfl, h2 b hm, fun c hc => ⟨h4 b hm c hc, tk_in3 c.2⟩, ?_⟩
      walk_at "rd"
      exact ⟨_, rfl, by first | rfl | trivial⟩
    · rintro ρ' C' ⟨y, rfl, rfl⟩
      walk_at "st"
      exact Ret.of h
/-! ### the reading of a row -/
/-- the stand behind these ranks -/
def stand (d : Deal) (ranks : List Nat) : Nat := ranks.foldl (fun s r => (d.read.getD s []).getD r 0) 0
theorem stand_snoc (d : Deal) (rs : List Nat) (r : Nat) : stand d (rs ++ [r]) = (d.read.getD (stand d rs) []).getD r 0 := by
  unfold stand
  rw [List.foldl_append]
  rfl
theorem stand_lt {d : Deal} (ok : DealOk d) : ∀ rs : List Nat, (∀ r ∈ rs, r < d.ws.length) → stand d rs < d.read.length := by
  intro rs
  have z : ∀ (rs : List Nat) (s : Nat), s < d.read.length → (∀ r ∈ rs, r < d.ws.length) → rs.foldl (fun s r => (d.read.getD s []).getD r 0) s < d.read.length := by
    intro rs
    induction rs with
    | nil =>
      intro s h _
      exact h
    | cons r rs ih =>
      intro s h hr
      rw [List.foldl_cons]
      refine ih _ ?_ fun r2 h2 => hr r2 (List.mem_cons_of_mem _ h2)
      have h1 := hr r List.mem_cons_self
      have hm : d.read[s] ∈ d.read := List.getElem_mem h
      have hl := ok.rl _ hm
      have hlt : r < (d.read[s]).length := by omega
      have e : d.read.getD s [] = d.read[s] := by simp [List.getD_eq_getElem?_getD, h]
      have e2 : (d.read[s]).getD r 0 = (d.read[s])[r] := by simp [List.getD_eq_getElem?_getD, hlt]
      rw [e, e2]
      exact ok.rs _ hm _ (List.getElem_mem hlt)
  exact z rs 0 ok.r1
def sp_dealt_row : ASp := fun avs C q _ => ∃ (d : Deal) (rs : List Nat), avs = [.d (encD d), .d (.list (rs.map encI))] ∧ DealOk d ∧ (∀ r ∈ rs, r < d.ws.length) ∧ q (.d (.int (stand d rs : Nat))) C
theorem ok_dealt_row (T : Txt P K mg) : FnOk P w K mg base CX0 1 T.d_dealt_row.f T.d_dealt_row.fd ["deal", "ranks"] (gSp K sp_dealt_row) := by
  refine fok T.d_dealt_row.F sc_dealt_row (fun avs C q z h => ?_) (fun cdv A outer s H P' hr => ?_)
  · obtain ⟨d, rs, rfl, _⟩ := h
    rfl
  · refine ⟨_, (apss_cons (aps_set 2 sc_dealt_row.nd api)
        (apss_cons (aps_for (vs := [3]) PassesOwn.never rfl (awi_lst (apv 1)) (apg_n (i := 3) sc_dealt_row.nd) (apss_one (aps_set 2 sc_dealt_row.nd (apx (apx (apx (apv 0) api) (apv 2)) (apv 3)))))
        (apss_one (aps_ret (apv 2))))), fun avs C q h => ?_⟩
    obtain ⟨d, rs, rfl, ok, hrs, h⟩ := h
    walk_at "st"
    refine i_seq ?_
    refine i_for (fun q hq => hq) (fun i ρ' C' => ∃ y, ρ' = [some (.d (encD d)), some (.d (.list (rs.map encI))), some (.d (.int (stand d (rs.take i) : Nat))), y] ∧ C' = C) ⟨none, rfl, rfl⟩ (fun _ _ _ _ _ => trivial) ?_ ?_
    · rintro i x ρ' C' hx ⟨y, rfl, rfl⟩
      obtain ⟨x, hx2, rfl⟩ := map_get hx
      obtain ⟨r, hr1, rfl⟩ := of_atD hx2
      have h1 := stand_lt ok (rs.take i) fun r h => hrs r (List.mem_of_mem_take h)
      have h2 := hrs r (List.mem_of_getElem? hr1)
      have hm : d.read[stand d (rs.take i)] ∈ d.read := List.getElem_mem h1
      have hl := ok.rl _ hm
      have hlt : r < (d.read[stand d (rs.take i)]).length := by omega
      unfold encD
      walk_at "rd"
      walk_at "st"
      refine ix_t (atD_map (List.getElem?_eq_getElem h1)) ?_
      unfold encR
      refine ix_t (atD_map (List.getElem?_eq_getElem hlt)) ?_
      refine ⟨some (.d (.int (r : Nat))), ?_, rfl⟩
      rw [take_snoc hr1, stand_snoc]
      simp [List.getD_eq_getElem?_getD, h1, hlt, encI, encD, encR]
    · rintro ρ' C' ⟨y, rfl, rfl⟩
      rw [List.length_map, List.length_map, List.take_length]
      walk_at "st"
      exact Ret.of h
end
end AB

set_option Elab.async false
set_option linter.all false
set_option maxRecDepth 100000
set_option maxHeartbeats 4000000
/-! The walks: closings_of, reading_counts, row_weight, fraction. -/
namespace AB
open PySem PySem.Spec PyProof.Rows L2
structure FamOk (f : List Ln) (m : Nat) : Prop where
  kids : kidsOk f
  marks : ∀ l ∈ f, l.mark < m
  few : ∀ l ∈ f, l.kids.length ≤ 600
  ne : f ≠ []
  len : f.length ≤ 2000
def rk (acc : List (Nat × Tk)) (k : Nat) : Nat := (acc.getD k (0, .lost)).1
def tk (acc : List (Nat × Tk)) (k : Nat) : Tk := (acc.getD k (0, .lost)).2
def closeOf (d : Deal) (l : Ln) : List (Nat × Tk) := if l.live then (d.close.getD l.mark ([], [])).2 else (d.close.getD l.mark ([], [])).1
def gcl (d : Deal) (acc : List (Nat × Tk)) (l : Ln) : Nat × Tk := (closeOf d l).getD (stand d (l.kids.map (rk acc))) (0, .lost)
def clo (d : Deal) (f : List Ln) : List (Nat × Tk) := rows (gcl d) f
theorem getD_at {α : Type} {xs : List α} {k : Nat} {d : α} (h : k < xs.length) : xs[k]? = some (xs.getD k d) := by
  rw [List.getD_eq_getElem?_getD, List.getElem?_eq_getElem h]
  rfl
theorem close_len {d : Deal} (ok : DealOk d) {l : Ln} (h : l.mark < d.marks) : (closeOf d l).length = d.read.length := by
  have hl : l.mark < d.close.length := by
    rw [ok.cl]
    exact h
  have e : d.close.getD l.mark ([], []) = d.close[l.mark] := by
    rw [List.getD_eq_getElem?_getD, List.getElem?_eq_getElem hl]
    rfl
  have hm : d.close[l.mark] ∈ d.close := List.getElem_mem hl
  unfold closeOf
  rw [e]
  split
  · exact ok.c2 _ hm
  · exact ok.c1 _ hm
theorem close_rank {d : Deal} (ok : DealOk d) {l : Ln} (h : l.mark < d.marks) {c : Nat × Tk} (hc : c ∈ closeOf d l) : c.1 < d.ws.length := by
  have hl : l.mark < d.close.length := by
    rw [ok.cl]
    exact h
  have e : d.close.getD l.mark ([], []) = d.close[l.mark] := by
    rw [List.getD_eq_getElem?_getD, List.getElem?_eq_getElem hl]
    rfl
  have hm : d.close[l.mark] ∈ d.close := List.getElem_mem hl
  unfold closeOf at hc
  rw [e] at hc
  split at hc
  · exact ok.k2 _ hm _ hc
  · exact (ok.k1 _ hm _ hc).1
/-- all ranks of the closings are ranks -/
theorem clo_ranks {d : Deal} (ok : DealOk d) {f : List Ln} {m : Nat} (hm : m ≤ d.marks) (fo : kidsOk f) (fm : ∀ l ∈ f, l.mark < m) : ∀ (i k : Nat), k < i → i ≤ f.length → rk (clo d (f.take i)) k < d.ws.length := by
  intro i
  induction i with
  | zero =>
    intro k h
    omega
  | succ i ih =>
    intro k hk hi
    have hil : i < f.length := by omega
    have hl : f[i]? = some f[i] := List.getElem?_eq_getElem hil
    unfold clo at ih ⊢
    rw [rows_take hl]
    have hlen : (rows (gcl d) (f.take i)).length = i := by
      rw [rows_len, List.length_take]
      omega
    unfold rk
    rw [List.getD_eq_getElem?_getD]
    by_cases h : k < i
    · rw [List.getElem?_append_left (by omega), ← List.getD_eq_getElem?_getD]
      exact ih k h (by omega)
    · have e : k = i := by omega
      subst e
      rw [List.getElem?_append_right (by omega), hlen, Nat.sub_self]
      show (gcl d (rows (gcl d) (f.take k)) f[k]).1 < _
      show ((closeOf d f[k]).getD (stand d (f[k].kids.map (rk (rows (gcl d) (f.take k))))) (0, .lost)).1 < _
      have hmk : f[k].mark < d.marks := Nat.lt_of_lt_of_le (fm _ (List.getElem_mem hil)) hm
      have hs : stand d (f[k].kids.map (rk (rows (gcl d) (f.take k)))) < (closeOf d f[k]).length := by
        rw [close_len ok hmk]
        refine stand_lt ok _ fun r hr => ?_
        obtain ⟨c, hc, rfl⟩ := List.mem_map.mp hr
        exact ih c (fo k _ hl c hc) (by omega)
      rw [List.getD_eq_getElem?_getD, List.getElem?_eq_getElem hs]
      exact close_rank ok hmk (List.getElem_mem hs)
theorem clo_len {d : Deal} {f : List Ln} : (clo d f).length = f.length := rows_len f
theorem clo_take {d : Deal} {f : List Ln} {i : Nat} : clo d (f.take i) = (clo d f).take i := (take_rows f i).symm
def cC (c : Nat × Tk) : AV := .d (encC c)
section
variable {P : Program} {w : World} {K : PySem.W.Frag} {mg : Str → Option Value} {base : Heap}
local macro_rules | `(tactic| walk_at "rd") => `(tactic| try simp only [astart, List.map_cons, List.map_nil, List.length_cons, List.length_nil, List.replicate_succ, List.replicate_zero, List.cons_append, List.nil_append, aVar, aC, aOp, arI, arI0, arB, onI2, onB, aTest, aChain, aAnd, aOr, aNot, aAndV, aOrV, aNotV, aIf, aNil, aCons, aIsi, aNext, aCB, acLen, aCall, g_n, g_tup2, g_tup3, g_tup4, g_tup13, aNeg, aTup, allD, arIx_t0, arIx_t1, arIx_t2, arIx_t3, List.getElem?_cons_zero, List.getElem?_cons_succ, List.set_cons_zero, List.set_cons_succ, if_true, if_false, Bool.false_eq_true, Bool.not_true, Bool.not_false, isInt_int, withinD_int, tupD_tup, encL, encI, sp_is_whole, sp_is_within, sp_is_truth, sp_is_tuple_of, sp_is_word_of])
local macro_rules | `(tactic| walk_at "st") => `(tactic| ((try dsimp only); (try refine i_seq ?_); (first | refine i_set ?_ | refine i_if ?_ | refine i_ret ?_ | refine i_asg ?_ | refine i_drop ?_ | refine i_par ?_ | refine i_par3 ?_ | refine i_next ?_); (walk_at "rd")))
theorem map_encI (ks : List Nat) : ks.map encI = (ks.map fun (k : Nat) => (k : Int)).map PyData.int := by
  rw [List.map_map]
  rfl
theorem acSum_nat {ns : List Nat} {C : Cs} {q : AV → Cs → Prop} (h : q (.d (.int (ns.sum : Nat))) C) : acSum [.d (.list (ns.map encI))] C q := by
  have e : (ns.map fun (n : Nat) => (n : Int)).sum = (ns.sum : Nat) := by
    clear h
    induction ns with
    | nil => rfl
    | cons n r ih =>
      rw [List.map_cons, List.sum_cons, ih, List.sum_cons]
      omega
  refine ⟨ns.map fun (n : Nat) => (n : Int), by rw [map_encI], ?_⟩
  rw [e]
  exact h
def sp_closings_of : ASp := fun avs C q _ => ∃ (d : Deal) (f : List Ln), avs = [.d (encD d), .d (encF f)] ∧ DealOk d ∧ FamOk f d.marks ∧ q (.d (.list ((clo d f).map encC))) C
theorem map_cC (l : List (Nat × Tk)) : l.map cC = (l.map encC).map AV.d := by
  rw [List.map_map]
  rfl
theorem ok_closings_of (T : Txt P K mg) : FnOk P w K mg base CX0 2 T.d_closings_of.f T.d_closings_of.fd ["deal", "lines"] (gSp K sp_closings_of) := by
  refine fok T.d_closings_of.F sc_closings_of (fun avs C q z h => ?_) (fun cdv A outer s H P' hr => ?_)
  · obtain ⟨d, rs, rfl, _⟩ := h
    rfl
  · refine ⟨_, (apss_cons (aps_set 2 sc_closings_of.nd (ape_lstC apa_nil))
        (apss_cons (aps_for (vs := [3, 4, 5]) PassesOwn.never rfl (awi_tup (apv 1)) (apg_t (n := 3) rfl (apgs_cons (apg_n (i := 3) sc_closings_of.nd) (apgs_cons (apg_n (i := 4) sc_closings_of.nd) (apgs_cons (apg_n (i := 5) sc_closings_of.nd) apgs_nil)))) (apss_cons (aps_set 7 sc_closings_of.nd (ap_call (ok_dealt_row T) (hr.mono (by decide)) T.d_dealt_row.g T.d_dealt_row.F.kp T.d_dealt_row.b pass0 (apa_cons (apv 0) (apa_cons (ape_lc [("child", 6)] rfl sc_closings_of.nd (awi_tup (apv 5)) (blkOk_by (N := ["deal", "lines", "told_so", "mark", "is_alive", "children", "child", "stand"]) (sc := defScope s_closings_of) (by decide +kernel)) (fun _ _ _ _ _ => (apg_n (i := 6) sc_closings_of.nd)) (fun _ _ _ _ _ => apts_nil) (fun _ _ _ _ _ => (apx (apx (apv 2) (apv 6)) api))) apa_nil))))
        (apss_one (aps_expr (ap_app (apv 2) (apx (apx (apx (apx (apv 0) api) (apv 3)) (ape_if (apt_val (apv 4)) api api)) (apv 7)))))))
        (apss_one (aps_ret (apv 2))))), fun avs C q h => ?_⟩
    obtain ⟨d, f, rfl, ok, fo, h⟩ := h
    walk_at "st"
    refine ⟨by simp, fun a ha => ?_⟩
    refine i_seq ?_
    refine i_for (fun q hq => hq) (fun i ρ' C' => ∃ y3 y4 y5 y6 y7, ρ' = [some (.d (encD d)), some (.d (encF f)), some (.r a), y3, y4, y5, y6, y7] ∧ C' = cup C a (.l ((clo d (f.take i)).map cC)))
      ⟨none, none, none, none, none, rfl, rfl⟩ (fun _ _ _ _ _ => trivial) ?_ ?_
    · rintro i x ρ' C' hx ⟨y3, y4, y5, y6, y7, rfl, rfl⟩
      obtain ⟨x, hd, rfl⟩ := map_get hx
      obtain ⟨l, hl, rfl⟩ := of_atD hd
      have hi : i < f.length := (List.getElem?_eq_some_iff.mp hl).1
      have hm := List.mem_of_getElem? hl
      have hmk := fo.marks l hm
      have hlen : (clo d (f.take i)).length = i := by
        rw [clo_len, List.length_take]
        omega
      walk_at "rd"
      walk_at "st"
      refine i_lcM l.kids encI (fun k => encI (rk (clo d (f.take i)) k)) (fun q hq => hq) trivial (Nat.le_trans (fo.few l hm) (by decide)) (fun j k hk q hq => ?_) ?_
      · have hki := fo.kids i l hl k (List.mem_of_getElem? hk)
        simp only [ixs, awipe]
        walk_at "rd"
        refine ix_c cup_same (at_map (getD_at (d := (0, .lost)) (show k < (clo d (f.take i)).length by omega))) ?_
        unfold cC encC
        walk_at "rd"
        exact hq
      have hst : stand d (l.kids.map (rk (clo d (f.take i)))) < (closeOf d l).length := by
        rw [close_len ok hmk]
        refine stand_lt ok _ fun r hr => ?_
        obtain ⟨k, hk, rfl⟩ := List.mem_map.mp hr
        exact clo_ranks ok (Nat.le_refl _) fo.kids fo.marks i k (fo.kids i l hl k hk) (by omega)
      refine ⟨d, l.kids.map (rk (clo d (f.take i))), by rw [List.map_map]; rfl, ok, fun r hr => ?_, ?_⟩
      · obtain ⟨k, hk, rfl⟩ := List.mem_map.mp hr
        exact clo_ranks ok (Nat.le_refl _) fo.kids fo.marks i k (fo.kids i l hl k hk) (by omega)
      walk_at "rd"
      walk_at "st"
      refine ⟨a, _, rfl, cup_same, ?_⟩
      walk_at "rd"
      unfold encD
      walk_at "rd"
      refine ix_t (atD_map (getD_at (d := ([], [])) (show l.mark < d.close.length by rw [ok.cl]; exact hmk))) ?_
      have fin : ∀ (q : AV → Cs → Prop) (C : Cs), q (cC (gcl d (clo d (f.take i)) l)) C → arIx (.d (encCs (closeOf d l))) (.d (.int (stand d (l.kids.map (rk (clo d (f.take i)))) : Nat))) C q := fun q C hq => by
        unfold encCs
        exact ix_t (atD_map (getD_at (d := (0, .lost)) hst)) (show q (.d (encC ((closeOf d l).getD _ (0, Tk.lost)))) C from hq)
      have e : cup (cup C a (.l ((clo d (f.take i)).map cC))) a (.l ((clo d (f.take i)).map cC ++ [cC (gcl d (clo d (f.take i)) l)])) = cup C a (.l ((clo d (f.take (i + 1))).map cC)) := by
        rw [cup_cup]
        unfold clo
        rw [rows_take hl, List.map_append]
        rfl
      unfold closeOf at fin
      unfold encB
      cases hv : l.live with
      | true =>
        rw [hv] at fin
        walk_at "rd"
        refine fin _ _ ?_
        refine ⟨_, cup_same, ?_, ?_⟩
        · rw [List.length_map, hlen]
          exact Nat.lt_of_lt_of_le hi (Nat.le_trans fo.len (by decide))
        · rw [e]
          exact ⟨_, _, _, _, _, rfl, rfl⟩
      | false =>
        rw [hv] at fin
        walk_at "rd"
        refine fin _ _ ?_
        refine ⟨_, cup_same, ?_, ?_⟩
        · rw [List.length_map, hlen]
          exact Nat.lt_of_lt_of_le hi (Nat.le_trans fo.len (by decide))
        · rw [e]
          exact ⟨_, _, _, _, _, rfl, rfl⟩
    · rintro ρ' C' ⟨y3, y4, y5, y6, y7, rfl, rfl⟩
      rw [List.length_map, List.length_map, List.take_length]
      walk_at "st"
      exact Ret.frz (Sub.cup ha) (cup_same.trans (by rw [map_cC])) ha h
end
end AB

set_option Elab.async false
set_option linter.all false
set_option maxRecDepth 100000
set_option maxHeartbeats 4000000
/-! Fractions, rows of payments, bounds. -/
namespace AB
open PySem PySem.Spec PyProof.Rows L2
/-! ### readings of written things -/
section
variable {d : Deal} {C : Cs} {q : AV → Cs → Prop} {c : Nat × Tk} {i j : Int} {s t : Str} {neg : Bool} {cl : List (Nat × Tk)} {k : Nat}
theorem encD_0 : arIx (.d (encD d)) (.d (.int 0)) C q = q (.d (.int (d.marks : Nat))) C := arIx_t0
theorem encD_1 : arIx (.d (encD d)) (.d (.int 1)) C q = q (.d (encR d.ws)) C := arIx_t1
theorem encD_2 : arIx (.d (encD d)) (.d (.int 2)) C q = q (.d (.tuple (d.read.map encR))) C := arIx_t2
theorem encD_3 : arIx (.d (encD d)) (.d (.int 3)) C q = q (.d (.tuple (d.close.map encB))) C := arIx_t3
theorem encC_0 : arIx (.d (encC c)) (.d (.int 0)) C q = q (.d (.int (c.1 : Nat))) C := arIx_t0
theorem encC_1 : arIx (.d (encC c)) (.d (.int 1)) C q = q (.d (.str c.2.str)) C := arIx_t1
theorem arEq_i : arEq neg (.d (.int i)) (.d (.int j)) C q = q (.d (.bool (neg ^^ decide (i = j)))) C := rfl
theorem arEq_s : arEq neg (.d (.str s)) (.d (.str t)) C q = q (.d (.bool (neg ^^ decide (s = t)))) C := rfl
theorem ac2I_i {f : Int → Int → Int} : ac2I f [.d (.int i), .d (.int j)] C q = q (.d (.int (f i j))) C := rfl
theorem acInt_i : acInt [.d (.int i)] C q = q (.d (.int i)) C := rfl
/-- a fraction, written -/
def encQ (r : Rat) : PyData := .tuple [.int r.num, .int (r.den : Nat)]
theorem encQ_0 {r : Rat} : arIx (.d (encQ r)) (.d (.int 0)) C q = q (.d (.int r.num)) C := arIx_t0
theorem encQ_1 {r : Rat} : arIx (.d (encQ r)) (.d (.int 1)) C q = q (.d (.int (r.den : Nat))) C := arIx_t1
def wt (d : Deal) (cl : List (Nat × Tk)) (k : Nat) : Nat := d.ws.getD (rk cl k) 0
def whole (d : Deal) (cl : List (Nat × Tk)) (ks : List Nat) : Nat := (ks.map (wt d cl)).sum
theorem rd_wt (hk : k < cl.length) (hr : rk cl k < d.ws.length) (h : q (.d (.int (wt d cl k : Nat))) C) : arIx (.d (.list (cl.map encC))) (.d (.int (k : Nat))) C fun x C1 => arIx x (.d (.int 0)) C1 fun y C2 => arIx (.d (encR d.ws)) y C2 q := by
  refine ix_l (atD_map (getD_at (d := (0, .lost)) hk)) ?_
  rw [encC_0]
  unfold encR
  exact ix_t (atD_map (getD_at (d := 0) (show (cl.getD k (0, .lost)).1 < _ from hr))) h
theorem rd_tk (hk : k < cl.length) (h : q (.d (.str (tk cl k).str)) C) : arIx (.d (.list (cl.map encC))) (.d (.int (k : Nat))) C fun x C1 => arIx x (.d (.int 1)) C1 q := by
  refine ix_l (atD_map (getD_at (d := (0, .lost)) hk)) ?_
  rw [encC_1]
  exact h
end
/-! ### bounds -/
def Bd : Nat := 2 ^ 4000
theorem cmulN {a b : Nat} (ha : a < Bd) (hb : b < Bd) : CMulW (a : Int) (b : Int) := by
  unfold Bd at *
  exact wide_mul (a := 4000) (b := 4000) (by simpa using ha) (by simpa using hb) (by decide) (by decide) (by decide)
theorem cdivN {a b : Nat} (h : 0 < b) (hb : b < Bd) : CDivW (a : Int) (b : Int) := by
  unfold Bd at *
  exact wide_div (b := 4000) (by omega) (by simpa using hb) (by decide) (by decide)
/-! ### lowest terms -/
theorem rat_low (a b : Nat) (h : 0 < b) : ((a : Rat) / (b : Rat)).num = ((a / Nat.gcd a b : Nat) : Int) ∧ ((a : Rat) / (b : Rat)).den = b / Nat.gcd a b := by
  have e : ((a : Rat) / (b : Rat)) = mkRat (a : Int) b := by
    rw [Rat.mkRat_eq_div]
    rfl
  rw [e]
  have z : b ≠ 0 := by omega
  constructor
  · simp [Rat.num_mkRat, z, Nat.gcd_comm]
  · simp [Rat.den_mkRat, z, Nat.gcd_comm]
theorem encQ_low (a b : Nat) (h : 0 < b) : encQ ((a : Rat) / (b : Rat)) = .tuple [.int ((a / Nat.gcd a b : Nat) : Int), .int ((b / Nat.gcd a b : Nat) : Int)] := by
  unfold encQ
  rw [(rat_low a b h).1, (rat_low a b h).2]
end AB

set_option Elab.async false
set_option linter.all false
set_option maxRecDepth 100000
set_option maxHeartbeats 4000000
/-! The walks: fraction, need_short, row_weight; the law's low, sum, part, line_at, mixed. -/
namespace AB
open PySem PySem.Spec PyProof.Rows L2
section
variable {P : Program} {w : World} {K : PySem.W.Frag} {mg : Str → Option Value} {base : Heap}
local macro_rules | `(tactic| walk_at "rd") => `(tactic| try simp only [astart, List.map_cons, List.map_nil, List.length_cons, List.length_nil, List.replicate_succ, List.replicate_zero, List.cons_append, List.nil_append, aVar, aC, aOp, arI, arI0, arB, onI2, onB, aTest, aChain, aAnd, aOr, aNot, aAndV, aOrV, aNotV, aIf, aNil, aCons, aIsi, aNext, aCB, acLen, aCall, g_n, g_tup2, g_tup3, g_tup4, g_tup13, aNeg, aTup, allD, arIx_t0, arIx_t1, arIx_t2, arIx_t3, encD_0, encD_1, encD_2, encD_3, encC_0, encC_1, encQ_0, encQ_1, arEq_i, arEq_s, ac2I_i, acInt_i, List.getElem?_cons_zero, List.getElem?_cons_succ, List.set_cons_zero, List.set_cons_succ, if_true, if_false, Bool.false_eq_true, Bool.not_true, Bool.not_false, Bool.false_xor, isInt_int, withinD_int, tupD_tup, encL, encI, sp_is_whole, sp_is_within, sp_is_truth, sp_is_tuple_of, sp_is_word_of])
local macro_rules | `(tactic| walk_at "st") => `(tactic| ((try dsimp only); (try refine i_seq ?_); (first | refine i_set ?_ | refine i_if ?_ | refine i_ret ?_ | refine i_asg ?_ | refine i_drop ?_ | refine i_par ?_ | refine i_par3 ?_ | refine i_next ?_); (walk_at "rd")))
theorem gcd_lt {a b : Nat} (h : 0 < b) (hb : b < Bd) : 0 < Nat.gcd a b ∧ Nat.gcd a b < Bd :=
  ⟨Nat.gcd_pos_of_pos_right a h, Nat.lt_of_le_of_lt (Nat.gcd_le_right a h) hb⟩
def sp_fraction : ASp := fun avs C q _ => ∃ a b : Nat, avs = [.d (.int (a : Nat)), .d (.int (b : Nat))] ∧ 0 < b ∧ b < Bd ∧ q (.d (encQ ((a : Rat) / (b : Rat)))) C
theorem ok_fraction (T : Txt P K mg) : FnOk P w K mg base CX0 1 T.d_fraction.f T.d_fraction.fd ["above", "below"] (gSp K sp_fraction) := by
  refine fok T.d_fraction.F sc_fraction (fun avs C q z h => ?_) (fun cdv A outer s H P' hr => ?_)
  · obtain ⟨a, b, rfl, _⟩ := h
    rfl
  · refine ⟨_, (apss_cons (aps_set 2 sc_fraction.nd (ap_gcd T.b_gcd (apa_cons (apv 0) (apa_cons (apv 1) apa_nil))))
        (apss_one (aps_ret (ape_tup (apa_cons (ap_div (apv 0) (apv 2)) (apa_cons (ap_div (apv 1) (apv 2)) apa_nil)))))), fun avs C q h => ?_⟩
    obtain ⟨a, b, rfl, h0, hb, h⟩ := h
    obtain ⟨g0, gb⟩ := gcd_lt (a := a) h0 hb
    walk_at "st"
    simp only [Int.natAbs_natCast]
    walk_at "st"
    refine ⟨cdivN g0 gb, cdivN g0 gb, by decide, Ret.of ?_⟩
    rw [encQ_low a b h0] at h
    exact h
def sp_need_short : ASp := fun avs C q _ => ∃ r : Rat, avs = [.d (encQ r)] ∧ r.den < 2 ^ 1000 ∧ q (.d (encQ r)) C
theorem bd_short : 2 ^ 1000 ≤ 10 ^ 1000 := by decide +kernel
theorem ok_need_short (T : Txt P K mg) : FnOk P w K mg base CX0 1 T.d_need_short.f T.d_need_short.fd ["had"] (gSp K sp_need_short) := by
  refine fok T.d_need_short.F sc_need_short (fun avs C q z h => ?_) (fun cdv A outer s H P' hr => ?_)
  · obtain ⟨a, rfl, _⟩ := h
    rfl
  · refine ⟨_, (apss_cons (aps_if (at_ge (apx (apv 0) api) (apglob rfl T.c_FIRST_TOO_LONG (by exact ⟨_, rfl⟩))) (apss_one aps_never) apss_nil)
        (apss_one (aps_ret (apv 0)))), fun avs C q h => ?_⟩
    obtain ⟨r, rfl, hr2, h⟩ := h
    walk_at "st"
    refine iteN ?_ ?_
    · have z := Nat.lt_of_lt_of_le hr2 bd_short
      rw [decide_eq_true_eq]
      intro y
      have y2 : ((10 ^ 1000 : Nat) : Int) ≤ ((r.den : Nat) : Int) := by
        rw [Int.natCast_pow]
        exact y
      omega
    walk_at "st"
    exact Ret.of h
/-- a list of weights -/
theorem acSum_whole {d : Deal} {cl : List (Nat × Tk)} {ks : List Nat} {C : Cs} {q : AV → Cs → Prop} (h : q (.d (.int (whole d cl ks : Nat))) C) : acSum [.d (.list (ks.map fun k => encI (wt d cl k)))] C q := by
  have z := acSum_nat (ns := ks.map (wt d cl)) (C := C) (q := q) h
  rw [List.map_map] at z
  exact z
def ClOk (d : Deal) (cl : List (Nat × Tk)) : Prop := ∀ k, k < cl.length → rk cl k < d.ws.length
def sp_row_weight : ASp := fun avs C q _ => ∃ (d : Deal) (cl : List (Nat × Tk)) (ks : List Nat), avs = [.d (encD d), .d (.list (cl.map encC)), .d (.list (ks.map encI))] ∧ ks.length ≤ 1000 ∧ ClOk d cl ∧ (∀ k ∈ ks, k < cl.length) ∧ q (.d (.int (whole d cl ks : Nat))) C
theorem ok_row_weight (T : Txt P K mg) : FnOk P w K mg base CX0 1 T.d_row_weight.f T.d_row_weight.fd ["deal", "closings", "children"] (gSp K sp_row_weight) := by
  refine fok T.d_row_weight.F sc_row_weight (fun avs C q z h => ?_) (fun cdv A outer s H P' hr => ?_)
  · obtain ⟨d, cl, ks, rfl, _⟩ := h
    rfl
  · refine ⟨_, (apss_one (aps_ret (ap_sum rfl T.b_sum (ape_lc [("child", 3)] rfl sc_row_weight.nd (awi_lst (apv 2)) (blkOk_by (N := ["deal", "closings", "children", "child"]) (sc := defScope s_row_weight) (by decide +kernel)) (fun _ _ _ _ _ => (apg_n (i := 3) sc_row_weight.nd)) (fun _ _ _ _ _ => apts_nil) (fun _ _ _ _ _ => (apx (apx (apv 0) api) (apx (apx (apv 1) (apv 3)) api))))))), fun avs C q h => ?_⟩
    obtain ⟨d, cl, ks, rfl, hl, hc, hk, h⟩ := h
    walk_at "st"
    refine i_lcM ks encI (fun k => encI (wt d cl k)) (fun q hq => hq) trivial (Nat.le_trans hl (by decide)) (fun j k hkk q hq => ?_) ?_
    · have hlt := hk k (List.mem_of_getElem? hkk)
      simp only [ixs, awipe]
      walk_at "rd"
      exact rd_wt hlt (hc k hlt) hq
    exact acSum_whole (Ret.of h)
/-! ### the law's fractions -/
def sp__law_low : ASp := fun avs C q _ => ∃ a b : Nat, avs = [.d (.int (a : Nat)), .d (.int (b : Nat))] ∧ 0 < b ∧ b < Bd ∧ q (.d (encQ ((a : Rat) / (b : Rat)))) C
theorem ok__law_low (T : Txt P K mg) : FnOk P w K mg base CX0 1 T.d__law_low.f T.d__law_low.fd ["_law_above", "_law_below"] (gSp K sp__law_low) := by
  refine fok T.d__law_low.F sc__law_low (fun avs C q z h => ?_) (fun cdv A outer s H P' hr => ?_)
  · obtain ⟨a, b, rfl, _⟩ := h
    rfl
  · refine ⟨_, (apss_cons (aps_par 2 3 rfl sc__law_low.nd (apa_cons (apv 0) (apa_cons (apv 1) apa_nil)))
        (apss_cons (aps_while PassesOwn.never (at_ne (apv 3) api) (apss_one (aps_par 2 3 rfl sc__law_low.nd (apa_cons (apv 3) (apa_cons (ap_mod (ap_int T.b_int (apv 2)) (apv 3)) apa_nil)))))
        (apss_one (aps_ret (ape_tup (apa_cons (ap_div (apv 0) (apv 2)) (apa_cons (ap_div (apv 1) (apv 2)) apa_nil))))))), fun avs C q h => ?_⟩
    obtain ⟨a, b, rfl, h0, hb, h⟩ := h
    obtain ⟨g0, gb⟩ := gcd_lt (a := a) h0 hb
    walk_at "st"
    refine i_seq ?_
    refine ⟨fun m ρ' C' => ∃ x : Nat, ρ' = [some (.d (.int (a : Nat))), some (.d (.int (b : Nat))), some (.d (.int (x : Nat))), some (.d (.int (m : Nat)))] ∧ C' = C ∧ Nat.gcd x m = Nat.gcd a b, ⟨b, a, rfl, rfl, rfl⟩, ?_⟩
    rintro m ρ' C' ⟨x, rfl, rfl, hg⟩
    walk_at "rd"
    by_cases hm : m = 0
    · subst hm
      rw [Nat.gcd_zero_right] at hg
      subst hg
      refine iteN (by simp) ?_
      walk_at "st"
      refine ⟨cdivN g0 gb, cdivN g0 gb, by decide, Ret.of ?_⟩
      rw [encQ_low a b h0] at h
      exact h
    · refine iteY (by simp; omega) ?_
      walk_at "st"
      refine ⟨by omega, x % m, Nat.mod_lt _ (by omega), m, ?_, by first | rfl | trivial, ?_⟩
      · rw [Int.natCast_emod]
      · rw [← hg, Nat.gcd_comm, ← Nat.gcd_rec, Nat.gcd_comm]
theorem rat_pos {x : Rat} (h : 0 ≤ x) : ((x.num.toNat : Nat) : Int) = x.num := Int.toNat_of_nonneg (Rat.num_nonneg.mpr h)
def sp__law_sum : ASp := fun avs C q _ => ∃ x y : Rat, avs = [.d (encQ x), .d (encQ y)] ∧ 0 ≤ x ∧ 0 ≤ y ∧ x.num.toNat < 2 ^ 1000 ∧ y.num.toNat < 2 ^ 1000 ∧ x.den < 2 ^ 1000 ∧ y.den < 2 ^ 1000 ∧ q (.d (encQ (x + y))) C
theorem bd_sq {a b : Nat} (ha : a < 2 ^ 1000) (hb : b < 2 ^ 1000) : a * b < Bd := by
  refine Nat.lt_of_lt_of_le (Nat.mul_lt_mul'' ha hb) ?_
  decide +kernel
theorem bd_1 {a : Nat} (ha : a < 2 ^ 1000) : a < Bd := Nat.lt_of_lt_of_le ha (by decide +kernel)
theorem rat_sum {a b c e : Nat} (hb : 0 < b) (he : 0 < e) : (((a * e + c * b : Nat) : Rat) / ((b * e : Nat) : Rat)) = (a : Rat) / (b : Rat) + (c : Rat) / (e : Rat) := by
  have h1 : (b : Rat) ≠ 0 := by
    intro z
    have := Rat.natCast_eq_zero_iff.mp z
    omega
  have h2 : (e : Rat) ≠ 0 := by
    intro z
    have := Rat.natCast_eq_zero_iff.mp z
    omega
  rw [Rat.natCast_add, Rat.natCast_mul, Rat.natCast_mul, Rat.natCast_mul]
  grind
end
end AB

set_option Elab.async false
set_option linter.all false
set_option maxRecDepth 100000
set_option maxHeartbeats 4000000
/-! The walks: the law's sum, part, line_at, mixed, dealt; reading_counts. -/
namespace AB
open PySem PySem.Spec PyProof.Rows L2
section
variable {P : Program} {w : World} {K : PySem.W.Frag} {mg : Str → Option Value} {base : Heap}
local macro_rules | `(tactic| walk_at "rd") => `(tactic| try simp only [astart, List.map_cons, List.map_nil, List.length_cons, List.length_nil, List.replicate_succ, List.replicate_zero, List.cons_append, List.nil_append, aVar, aC, aOp, arI, arI0, arB, onI2, onB, aTest, aChain, aAnd, aOr, aNot, aAndV, aOrV, aNotV, aIf, aNil, aCons, aIsi, aNext, aCB, acLen, aCall, g_n, g_tup2, g_tup3, g_tup4, g_tup13, aNeg, aTup, allD, arIx_t0, arIx_t1, arIx_t2, arIx_t3, encD_0, encD_1, encD_2, encD_3, encC_0, encC_1, encQ_0, encQ_1, arEq_i, arEq_s, ac2I_i, acInt_i, List.getElem?_cons_zero, List.getElem?_cons_succ, List.set_cons_zero, List.set_cons_succ, if_true, if_false, Bool.false_eq_true, Bool.not_true, Bool.not_false, Bool.false_xor, isInt_int, withinD_int, tupD_tup, encL, encI, sp_is_whole, sp_is_within, sp_is_truth, sp_is_tuple_of, sp_is_word_of])
local macro_rules | `(tactic| walk_at "st") => `(tactic| ((try dsimp only); (try refine i_seq ?_); (first | refine i_set ?_ | refine i_if ?_ | refine i_ret ?_ | refine i_asg ?_ | refine i_drop ?_ | refine i_par ?_ | refine i_par3 ?_ | refine i_next ?_); (walk_at "rd")))
theorem rat_nd {x : Rat} (h : 0 ≤ x) : ∃ a : Nat, x.num = a ∧ x.num.toNat = a ∧ x = (a : Rat) / (x.den : Nat) := by
  refine ⟨x.num.toNat, (rat_pos h).symm, rfl, ?_⟩
  have e : ((x.num : Int) : Rat) / ((x.den : Nat) : Rat) = x := by
    rw [← Rat.intCast_natCast, ← Rat.divInt_eq_div, Rat.num_divInt_den]
  have e2 : ((x.num : Int) : Rat) = ((x.num.toNat : Nat) : Rat) := by
    rw [← Rat.intCast_natCast, rat_pos h]
  rw [e2] at e
  exact e.symm
theorem ok__law_sum (T : Txt P K mg) : FnOk P w K mg base CX0 2 T.d__law_sum.f T.d__law_sum.fd ["_law_one", "_law_other"] (gSp K sp__law_sum) := by
  refine fok T.d__law_sum.F sc__law_sum (fun avs C q z h => ?_) (fun cdv A outer s H P' hr => ?_)
  · obtain ⟨a, b, rfl, _⟩ := h
    rfl
  · refine ⟨_, (apss_one (aps_ret (ap_call (ok__law_low T) (hr.mono (by decide)) T.d__law_low.g T.d__law_low.F.kp T.d__law_low.b pass0 (apa_cons (ap_add (ap_mul (apx (apv 0) api) (apx (apv 1) api)) (ap_mul (apx (apv 1) api) (apx (apv 0) api))) (apa_cons (ap_mul (apx (apv 0) api) (apx (apv 1) api)) apa_nil))))), fun avs C q h => ?_⟩
    obtain ⟨x, y, rfl, hx, hy, n1, n2, d1, d2, h⟩ := h
    obtain ⟨a, ea, ea2, ex⟩ := rat_nd hx
    obtain ⟨c, ec, ec2, ey⟩ := rat_nd hy
    rw [ea2] at n1
    rw [ec2] at n2
    walk_at "st"
    rw [ea, ec]
    have zx := x.den_pos
    have zy := y.den_pos
    refine ⟨cmulN (bd_1 n1) (bd_1 d2), cmulN (bd_1 n2) (bd_1 d1), cmulN (bd_1 d1) (bd_1 d2), a * y.den + c * x.den, x.den * y.den, ?_, Nat.mul_pos zx zy, bd_sq d1 d2, ?_⟩
    · simp only [Int.natCast_add, Int.natCast_mul]
    · rw [rat_sum zx zy, ← ex, ← ey]
      exact Ret.of h
def sp__law_part : ASp := fun avs C q _ => ∃ (d : Deal) (cl : List (Nat × Tk)) (l : Ln) (n k : Nat), avs = [.d (encD d), .d (.list (cl.map encC)), .d (encL l), .d (.int (n : Nat))] ∧ l.kids.length ≤ 1000 ∧ ClOk d cl ∧ (∀ k ∈ l.kids, k < cl.length) ∧ l.kids[n]? = some k ∧
  (whole d cl l.kids = 0 → q (.d (.tuple [.int 0, .int 1])) C) ∧ (whole d cl l.kids ≠ 0 → q (.d (.tuple [.int (wt d cl k : Nat), .int (whole d cl l.kids : Nat)])) C)
theorem ok__law_part (T : Txt P K mg) : FnOk P w K mg base CX0 1 T.d__law_part.f T.d__law_part.fd ["_law_deal_here", "_law_told_here", "_law_line", "_law_n"] (gSp K sp__law_part) := by
  refine fok T.d__law_part.F sc__law_part (fun avs C q z h => ?_) (fun cdv A outer s H P' hr => ?_)
  · obtain ⟨d, cl, l, n, k, rfl, _⟩ := h
    rfl
  · refine ⟨_, (apss_cons (aps_set 5 sc__law_part.nd (ap_sum rfl T.b_sum (ape_lc [("_law_child", 4)] rfl sc__law_part.nd (awi_tup (apx (apv 2) api)) (blkOk_by (N := ["_law_deal_here", "_law_told_here", "_law_line", "_law_n", "_law_child", "_law_whole"]) (sc := defScope s__law_part) (by decide +kernel)) (fun _ _ _ _ _ => (apg_n (i := 4) sc__law_part.nd)) (fun _ _ _ _ _ => apts_nil) (fun _ _ _ _ _ => (apx (apx (apv 0) api) (apx (apx (apv 1) (apv 4)) api))))))
        (apss_cons (aps_if (at_eq (apv 5) api) (apss_one (aps_ret (ape_tup (apa_cons api (apa_cons api apa_nil))))) apss_nil)
        (apss_one (aps_ret (ape_tup (apa_cons (apx (apx (apv 0) api) (apx (apx (apv 1) (apx (apx (apv 2) api) (apv 3))) api)) (apa_cons (apv 5) apa_nil))))))), fun avs C q h => ?_⟩
    obtain ⟨d, cl, l, n, k, rfl, hl, hc, hk, hn, h0, h1⟩ := h
    walk_at "st"
    refine i_lcM l.kids encI (fun k => encI (wt d cl k)) (fun q hq => ⟨_, rfl, hq⟩) trivial (Nat.le_trans hl (by decide)) (fun j k hkk q hq => ?_) ?_
    · have hlt := hk k (List.mem_of_getElem? hkk)
      simp only [ixs, awipe]
      walk_at "rd"
      exact rd_wt hlt (hc k hlt) hq
    refine acSum_whole ?_
    walk_at "rd"
    walk_at "st"
    by_cases hz : whole d cl l.kids = 0
    · refine iteY (by simp [hz]) ⟨by decide, Ret.of (h0 hz)⟩
    · refine iteN (by simp; omega) ?_
      have hlt := hk k (List.mem_of_getElem? hn)
      walk_at "st"
      refine ix_t (atD_map hn) ?_
      refine rd_wt hlt (hc k hlt) ?_
      walk_at "rd"
      exact ⟨by decide, Ret.of (h1 hz)⟩
/-- the line at the end of a way -/
def lineAt (f : List Ln) (ks : List Nat) : Nat := ks.foldl (fun n j => ((f.getD n ⟨0, false, []⟩).kids).getD j 0) (f.length - 1)
theorem lineAt_snoc (f : List Ln) (ks : List Nat) (j : Nat) : lineAt f (ks ++ [j]) = ((f.getD (lineAt f ks) ⟨0, false, []⟩).kids).getD j 0 := by
  unfold lineAt
  rw [List.foldl_append]
  rfl
/-- a way that may be gone -/
def wayOk (f : List Ln) (ks : List Nat) : Prop := ∀ i j, ks[i]? = some j → j < ((f.getD (lineAt f (ks.take i)) ⟨0, false, []⟩).kids).length
theorem lineAt_lt {f : List Ln} (hk : kidsOk f) (h0 : f ≠ []) (ks : List Nat) (hw : wayOk f ks) : ∀ i, i ≤ ks.length → lineAt f (ks.take i) < f.length := by
  intro i
  induction i with
  | zero =>
    intro _
    have : 0 < f.length := List.length_pos_iff.mpr h0
    show f.length - 1 < _
    omega
  | succ i ih =>
    intro hi
    have h1 := ih (by omega)
    have hj : ks[i]? = some (ks[i]'(by omega)) := List.getElem?_eq_getElem (by omega)
    have hlt := hw i _ hj
    rw [take_snoc hj, lineAt_snoc]
    have e := getD_at (d := (⟨0, false, []⟩ : Ln)) h1
    have e2 := getD_at (d := 0) hlt
    have z := hk _ _ e _ (List.mem_of_getElem? e2)
    omega
def sp__law_line_at : ASp := fun avs C q _ => ∃ (f : List Ln) (ks : List Nat), avs = [.d (encF f), .d (.tuple (ks.map encI))] ∧ kidsOk f ∧ f ≠ [] ∧ wayOk f ks ∧ q (.d (.int (lineAt f ks : Nat))) C
theorem ok__law_line_at (T : Txt P K mg) : FnOk P w K mg base CX0 1 T.d__law_line_at.f T.d__law_line_at.fd ["_law_family_here", "_law_way"] (gSp K sp__law_line_at) := by
  refine fok T.d__law_line_at.F sc__law_line_at (fun avs C q z h => ?_) (fun cdv A outer s H P' hr => ?_)
  · obtain ⟨f, ks, rfl, _⟩ := h
    rfl
  · refine ⟨_, (apss_cons (aps_set 2 sc__law_line_at.nd (ap_sub (ap_len T.b_len (apv 0)) api))
        (apss_cons (aps_for (vs := [3]) PassesOwn.never rfl (awi_tup (apv 1)) (apg_n (i := 3) sc__law_line_at.nd) (apss_one (aps_set 2 sc__law_line_at.nd (apx (apx (apx (apv 0) (apv 2)) api) (apv 3)))))
        (apss_one (aps_ret (apv 2))))), fun avs C q h => ?_⟩
    obtain ⟨f, ks, rfl, hk, h0, hw, h⟩ := h
    have hp : 0 < f.length := List.length_pos_iff.mpr h0
    unfold encF
    walk_at "st"
    refine i_seq ?_
    refine i_for (fun q hq => hq) (fun i ρ' C' => ∃ y, ρ' = [some (.d (.tuple (f.map encL))), some (.d (.tuple (ks.map encI))), some (.d (.int (lineAt f (ks.take i) : Nat))), y] ∧ C' = C) ⟨none, ?_, rfl⟩ (fun _ _ _ _ _ => trivial) ?_ ?_
    · have e : (((f.map encL).length : Nat) : Int) - 1 = ((f.length - 1 : Nat) : Int) := by
        rw [List.length_map]
        omega
      rw [e]
      rfl
    · rintro i x ρ' C' hx ⟨y, rfl, rfl⟩
      obtain ⟨x, hx2, rfl⟩ := map_get hx
      obtain ⟨j, hj, rfl⟩ := of_atD hx2
      have hi := (List.getElem?_eq_some_iff.mp hj).1
      have h1 := lineAt_lt hk h0 ks hw i (by omega)
      have hlt := hw i j hj
      walk_at "rd"
      walk_at "st"
      refine ix_t (atD_map (getD_at (d := (⟨0, false, []⟩ : Ln)) h1)) ?_
      walk_at "rd"
      refine ix_t (atD_map (getD_at (d := 0) hlt)) ?_
      refine ⟨some (.d (.int (j : Nat))), ?_, rfl⟩
      rw [take_snoc hj, lineAt_snoc]
      exact rfl
    · rintro ρ' C' ⟨y, rfl, rfl⟩
      rw [List.length_map, List.length_map, List.take_length]
      walk_at "st"
      exact Ret.of h
def sp__law_mixed : ASp := fun avs C q _ => ∃ c n : Nat, avs = [.d (.int (c : Nat)), .d (.int (n : Nat))] ∧ c < 2 ^ 128 ∧ n < 2 ^ 64 ∧ ∀ r : Nat, r < 2 ^ 31 → q (.d (.int (r : Nat))) C
theorem ok__law_mixed (T : Txt P K mg) : FnOk P w K mg base CX0 1 T.d__law_mixed.f T.d__law_mixed.fd ["_law_cell", "_law_n"] (gSp K sp__law_mixed) := by
  refine fok T.d__law_mixed.F sc__law_mixed (fun avs C q z h => ?_) (fun cdv A outer s H P' hr => ?_)
  · obtain ⟨c, n, rfl, _⟩ := h
    rfl
  · refine ⟨_, (apss_cons (aps_set 2 sc__law_mixed.nd (ap_add (ap_add (ap_mod (ap_int T.b_int (ap_mul (ap_mul (apv 0) (ap_add api (ap_mul api (apv 1)))) api)) api) (ap_mul (ap_mul api (apv 1)) (apv 1))) (ap_mul api (apv 1))))
        (apss_one (aps_ret (ap_div (ap_mod (ap_int T.b_int (ap_mul (apv 2) api)) api) api)))), fun avs C q h => ?_⟩
    obtain ⟨c, n, rfl, hc, hn, h⟩ := h
    walk_at "st"
    have b0 : ∀ {a : Nat}, a < 2 ^ 256 → a < Bd := fun h => Nat.lt_of_lt_of_le h (by decide +kernel)
    have e1 : (1 + 2 * (n : Int)) = ((1 + 2 * n : Nat) : Int) := by omega
    have m1 : c * (1 + 2 * n) < 2 ^ 128 * 2 ^ 66 := Nat.mul_lt_mul'' hc (by omega)
    have m2 : n * n < 2 ^ 64 * 2 ^ 64 := Nat.mul_lt_mul'' hn hn
    rw [e1, ← Int.natCast_mul]
    refine ⟨cmulN (a := 2) (b0 (by decide)) (b0 (by omega)), cmulN (b0 (by omega)) (b0 (by omega)), cmulN (b := 48271) (b0 (by omega)) (b0 (by decide)), by decide, cmulN (a := 7919) (b0 (by decide)) (b0 (by omega)), ?_, cmulN (a := 104729) (b0 (by decide)) (b0 (by omega)), ?_⟩
    · exact cmulN (a := 7919 * n) (b0 (by omega)) (b0 (by omega))
    have e2 : ((c * (1 + 2 * n) : Nat) : Int) * 48271 % 2147483647 + 7919 * (n : Int) * n + 104729 * n = ((c * (1 + 2 * n) * 48271 % 2147483647 + 7919 * (n * n) + 104729 * n : Nat) : Int) := by
      simp only [Int.natCast_add, Int.natCast_mul, Int.natCast_emod, Int.mul_assoc]
      rfl
    rw [e2]
    walk_at "st"
    refine ⟨cmulN (b := 69621) (b0 (by omega)) (b0 (by decide)), by decide, cdivN (b := 7) (by decide) (b0 (by decide)), Ret.of ?_⟩
    refine h ((c * (1 + 2 * n) * 48271 % 2147483647 + 7919 * (n * n) + 104729 * n) * 69621 % 2147483629 / 7) (by omega)
end
end AB

set_option Elab.async false
set_option linter.all false
set_option maxRecDepth 100000
set_option maxHeartbeats 4000000
/-! The walks: the law's closings; reading_counts. -/
namespace AB
open PySem PySem.Spec PyProof.Rows L2
section
variable {P : Program} {w : World} {K : PySem.W.Frag} {mg : Str → Option Value} {base : Heap}
local macro_rules | `(tactic| walk_at "rd") => `(tactic| try simp only [astart, List.map_cons, List.map_nil, List.length_cons, List.length_nil, List.replicate_succ, List.replicate_zero, List.cons_append, List.nil_append, aVar, aC, aOp, arI, arI0, arB, onI2, onB, aTest, aChain, aAnd, aOr, aNot, aAndV, aOrV, aNotV, aIf, aNil, aCons, aIsi, aNext, aCB, acLen, aCall, g_n, g_tup2, g_tup3, g_tup4, g_tup13, aNeg, aTup, allD, arIx_t0, arIx_t1, arIx_t2, arIx_t3, encD_0, encD_1, encD_2, encD_3, encC_0, encC_1, encQ_0, encQ_1, arEq_i, arEq_s, ac2I_i, acInt_i, List.getElem?_cons_zero, List.getElem?_cons_succ, List.set_cons_zero, List.set_cons_succ, if_true, if_false, Bool.false_eq_true, Bool.not_true, Bool.not_false, Bool.false_xor, isInt_int, withinD_int, tupD_tup, encL, encI, sp_is_whole, sp_is_within, sp_is_truth, sp_is_tuple_of, sp_is_word_of])
local macro_rules | `(tactic| walk_at "st") => `(tactic| ((try dsimp only); (try refine i_seq ?_); (first | refine i_set ?_ | refine i_if ?_ | refine i_ret ?_ | refine i_asg ?_ | refine i_drop ?_ | refine i_par ?_ | refine i_par3 ?_ | refine i_next ?_); (walk_at "rd")))
theorem ok__law_dealt (T : Txt P K mg) : FnOk P w K mg base CX0 1 T.d__law_dealt.f T.d__law_dealt.fd ["_law_deal_here", "_law_family_here"] (gSp K sp_closings_of) := by
  refine fok T.d__law_dealt.F sc__law_dealt (fun avs C q z h => ?_) (fun cdv A outer s H P' hr => ?_)
  · obtain ⟨d, rs, rfl, _⟩ := h
    rfl
  · refine ⟨_, (apss_cons (aps_set 2 sc__law_dealt.nd (ape_lstC apa_nil))
        (apss_cons (aps_for (vs := [3]) PassesOwn.never rfl (awi_tup (apv 1)) (apg_n (i := 3) sc__law_dealt.nd) (apss_cons (aps_set 4 sc__law_dealt.nd api)
        (apss_cons (aps_for (vs := [5]) PassesOwn.never rfl (awi_tup (apx (apv 3) api)) (apg_n (i := 5) sc__law_dealt.nd) (apss_one (aps_set 4 sc__law_dealt.nd (apx (apx (apx (apv 0) api) (apv 4)) (apx (apx (apv 2) (apv 5)) api)))))
        (apss_one (aps_expr (ap_app (apv 2) (apx (apx (apx (apx (apv 0) api) (apx (apv 3) api)) (ape_if (apt_val (apx (apv 3) api)) api api)) (apv 4))))))))
        (apss_one (aps_ret (apv 2))))), fun avs C q h => ?_⟩
    obtain ⟨d, f, rfl, ok, fo, h⟩ := h
    walk_at "st"
    refine ⟨by simp, fun a ha => ?_⟩
    refine i_seq ?_
    refine i_for (fun q hq => hq) (fun i ρ' C' => ∃ y3 y4 y5, ρ' = [some (.d (encD d)), some (.d (encF f)), some (.r a), y3, y4, y5] ∧ C' = cup C a (.l ((clo d (f.take i)).map cC)))
      ⟨none, none, none, rfl, rfl⟩ (fun _ _ _ _ _ => trivial) ?_ ?_
    · rintro i x ρ' C' hx ⟨y3, y4, y5, rfl, rfl⟩
      obtain ⟨x, hd, rfl⟩ := map_get hx
      obtain ⟨l, hl, rfl⟩ := of_atD hd
      have hi : i < f.length := (List.getElem?_eq_some_iff.mp hl).1
      have hm := List.mem_of_getElem? hl
      have hmk := fo.marks l hm
      have hlen : (clo d (f.take i)).length = i := by
        rw [clo_len, List.length_take]
        omega
      have hst : ∀ j, stand d ((l.kids.take j).map (rk (clo d (f.take i)))) < d.read.length := fun j => by
        refine stand_lt ok _ fun r hr => ?_
        obtain ⟨k, hk, rfl⟩ := List.mem_map.mp hr
        exact clo_ranks ok (Nat.le_refl _) fo.kids fo.marks i k (fo.kids i l hl k (List.mem_of_mem_take hk)) (by omega)
      walk_at "rd"
      walk_at "st"
      refine i_seq ?_
      refine i_for (fun q hq => ⟨_, rfl, hq⟩) (fun j ρ' C2 => ∃ y5, ρ' = [some (.d (encD d)), some (.d (encF f)), some (.r a), some (.d (encL l)), some (.d (.int (stand d ((l.kids.take j).map (rk (clo d (f.take i)))) : Nat))), y5] ∧ C2 = cup C a (.l ((clo d (f.take i)).map cC)))
        ⟨y5, rfl, rfl⟩ (fun _ _ _ _ _ => trivial) ?_ ?_
      · rintro j x ρ' C2 hx ⟨y5, rfl, rfl⟩
        obtain ⟨x, hd, rfl⟩ := map_get hx
        obtain ⟨k, hk, rfl⟩ := of_atD hd
        have hki := fo.kids i l hl k (List.mem_of_getElem? hk)
        have hrk := clo_ranks ok (Nat.le_refl _) fo.kids fo.marks i k hki (by omega)
        have h1 := hst j
        have hm2 : d.read.getD (stand d ((l.kids.take j).map (rk (clo d (f.take i))))) [] ∈ d.read := List.mem_of_getElem? (getD_at h1)
        walk_at "rd"
        walk_at "st"
        refine ix_t (atD_map (getD_at (d := []) h1)) ?_
        refine ix_c cup_same (at_map (getD_at (d := (0, .lost)) (show k < (clo d (f.take i)).length by omega))) ?_
        unfold cC
        walk_at "rd"
        unfold encR
        refine ix_t (atD_map (getD_at (d := 0) (show ((clo d (f.take i)).getD k (0, .lost)).1 < _ by rw [ok.rl _ hm2]; exact hrk))) ?_
        refine ⟨some (.d (.int (k : Nat))), ?_, rfl⟩
        rw [take_snoc hk, List.map_append, List.map_cons, List.map_nil, stand_snoc]
        rfl
      · rintro ρ' C2 ⟨y5, rfl, rfl⟩
        rw [List.length_map, List.length_map, List.take_length]
        walk_at "st"
        refine ⟨a, _, rfl, cup_same, ?_⟩
        walk_at "rd"
        refine ix_t (atD_map (getD_at (d := ([], [])) (show l.mark < d.close.length by rw [ok.cl]; exact hmk))) ?_
        have hst2 : stand d (l.kids.map (rk (clo d (f.take i)))) < (closeOf d l).length := by
          rw [close_len ok hmk]
          have z := hst l.kids.length
          rw [List.take_length] at z
          exact z
        have fin : ∀ (q : AV → Cs → Prop) (C : Cs), q (cC (gcl d (clo d (f.take i)) l)) C → arIx (.d (encCs (closeOf d l))) (.d (.int (stand d (l.kids.map (rk (clo d (f.take i)))) : Nat))) C q := fun q C hq => by
          unfold encCs
          exact ix_t (atD_map (getD_at (d := (0, .lost)) hst2)) (show q (.d (encC ((closeOf d l).getD _ (0, Tk.lost)))) C from hq)
        have e : cup (cup C a (.l ((clo d (f.take i)).map cC))) a (.l ((clo d (f.take i)).map cC ++ [cC (gcl d (clo d (f.take i)) l)])) = cup C a (.l ((clo d (f.take (i + 1))).map cC)) := by
          rw [cup_cup]
          unfold clo
          rw [rows_take hl, List.map_append]
          rfl
        unfold closeOf at fin
        unfold encB
        cases hv : l.live with
        | true =>
          rw [hv] at fin
          walk_at "rd"
          refine fin _ _ ?_
          refine ⟨_, cup_same, ?_, ?_⟩
          · rw [List.length_map, hlen]
            exact Nat.lt_of_lt_of_le hi (Nat.le_trans fo.len (by decide))
          · rw [e]
            exact ⟨_, _, _, rfl, rfl⟩
        | false =>
          rw [hv] at fin
          walk_at "rd"
          refine fin _ _ ?_
          refine ⟨_, cup_same, ?_, ?_⟩
          · rw [List.length_map, hlen]
            exact Nat.lt_of_lt_of_le hi (Nat.le_trans fo.len (by decide))
          · rw [e]
            exact ⟨_, _, _, rfl, rfl⟩
    · rintro ρ' C' ⟨y3, y4, y5, rfl, rfl⟩
      rw [List.length_map, List.length_map, List.take_length]
      walk_at "st"
      exact Ret.frz (Sub.cup ha) (cup_same.trans (by rw [map_cC])) ha h
/-- counts that say who is read: the last, and whoever is a child of one who is read -/
structure NdOk (f : List Ln) (nd : List Nat) : Prop where
  len : nd.length = f.length
  last : 0 < nd.getD (f.length - 1) 0
  kids : ∀ (i : Nat) (l : Ln), f[i]? = some l → 0 < nd.getD i 0 → ∀ k ∈ l.kids, 0 < nd.getD k 0
def sp_reading_counts : ASp := fun avs C q _ => ∃ f : List Ln, avs = [.d (encF f)] ∧ kidsOk f ∧ f ≠ [] ∧ f.length ≤ 2000 ∧ ∀ nd, NdOk f nd → q (.d (.list (nd.map encI))) C
theorem getD_set {xs : List Nat} {k j v : Nat} (h : k < xs.length) : (xs.set k v).getD j 0 = if j = k then v else xs.getD j 0 := by
  rw [List.getD_eq_getElem?_getD, List.getElem?_set, List.getD_eq_getElem?_getD]
  by_cases e : k = j
  · subst e
    rw [if_pos rfl, if_pos h, if_pos rfl]
    rfl
  · rw [if_neg e, if_neg fun z => e z.symm]
theorem ixN_nat {n k : Nat} (h : k < n) : ixN n (k : Int) = some k := by
  unfold ixN
  simp
  omega
theorem ixN_neg1 {n : Nat} (h : 0 < n) : ixN n (-1) = some (n - 1) := by
  unfold ixN
  simp
  omega
theorem ok_reading_counts (T : Txt P K mg) : FnOk P w K mg base CX0 1 T.d_reading_counts.f T.d_reading_counts.fd ["lines"] (gSp K sp_reading_counts) := by
  refine fok T.d_reading_counts.F sc_reading_counts (fun avs C q z h => ?_) (fun cdv A outer s H P' hr => ?_)
  · obtain ⟨f, rfl, _⟩ := h
    rfl
  · refine ⟨_, (apss_cons (aps_lcC 2 [("line", 1)] rfl sc_reading_counts.nd (awi_tup (apv 0)) (blkOk_by (N := ["lines", "line", "found", "number", "child"]) (sc := defScope s_reading_counts) (by decide +kernel)) (fun _ _ _ _ _ => (apg_n (i := 1) sc_reading_counts.nd)) (fun _ _ _ _ _ => apts_nil) (fun _ _ _ _ _ => api) (sw_true rfl rfl rfl (by decide +kernel)))
        (apss_cons (aps_asg (vs := []) api (apg_s (apv 2) (ap_neg api)))
        (apss_cons (aps_for (vs := [3]) PassesOwn.never rfl (awi_rev T.b_reversed T.b_range (ap_len T.b_len (apv 0))) (apg_n (i := 3) sc_reading_counts.nd) (apss_one (aps_if (at_gt (apx (apv 2) (apv 3)) api) (apss_one (aps_for (vs := [4]) PassesOwn.never rfl (awi_tup (apx (apx (apv 0) (apv 3)) api)) (apg_n (i := 4) sc_reading_counts.nd) (apss_one (aps_augS (apv 2) (apv 4) (apx (apv 2) (apv 3)))))) apss_nil)))
        (apss_one (aps_ret (apv 2)))))), fun avs C q h => ?_⟩
    obtain ⟨f, rfl, hk, h0, hlen, h⟩ := h
    have hp : 0 < f.length := List.length_pos_iff.mpr h0
    unfold encF
    walk_at "st"
    refine i_lcC (fun _ => cI 0) (fun q hq => hq) trivial (by rw [List.length_map, List.length_map]; omega) (fun i x hx q hq => ?_) (fun a ha => ?_)
    · simp only [ixs, awipe]
      walk_at "rd"
      exact hq
    have e0 : (((f.map encL).map AV.d).map fun _ => cI 0) = (List.replicate f.length 0).map cI := by
      rw [List.map_replicate, List.map_map, List.map_map, List.eq_replicate_iff]
      refine ⟨by simp, fun b hb => ?_⟩
      obtain ⟨_, _, rfl⟩ := List.mem_map.mp hb
      rfl
    rw [e0]
    walk_at "st"
    refine ⟨a, _, -1, f.length - 1, rfl, rfl, cup_same, ?_, ?_⟩
    · rw [List.length_map, List.length_replicate]
      exact ixN_neg1 hp
    rw [cup_cup]
    refine i_seq ?_
    let Iv : Nat → List Nat → Prop := fun i nd => nd.length = f.length ∧ 0 < nd.getD (f.length - 1) 0 ∧ ∀ (n : Nat) (l : Ln), f[n]? = some l → f.length ≤ n + i → 0 < nd.getD n 0 → ∀ k ∈ l.kids, 0 < nd.getD k 0
    refine i_for (fun q hq => ⟨⟨by rw [List.length_map]; omega, by rw [List.length_map]; omega⟩, hq⟩) (fun i ρ' C' => ∃ y1 y3 y4 nd, ρ' = [some (.d (encF f)), y1, some (.r a), y3, y4] ∧ C' = cup C a (.l (nd.map cI)) ∧ Iv i nd)
      ⟨none, none, none, (List.replicate f.length 0).set (f.length - 1) 1, rfl, ?_, ?_⟩ (fun _ _ _ _ _ => trivial) ?_ ?_
    · rw [List.map_set]
      rfl
    · refine ⟨by simp, ?_, fun n l hl hn => ?_⟩
      · rw [getD_set (by simp; omega), if_pos rfl]
        decide
      · have := (List.getElem?_eq_some_iff.mp hl).1
        omega
    · rintro i x ρ' C' hx ⟨y1, y3, y4, nd, rfl, rfl, hl0, hl1, hkk⟩
      obtain ⟨hi, rfl⟩ := rng_get hx
      simp only [List.length_map, Int.toNat_natCast] at hi
      have en : ((f.map encL).length : Int) - 1 + i * -1 = ((f.length - 1 - i : Nat) : Int) := by
        simp only [List.length_map]
        omega
      rw [en]
      have hn : f.length - 1 - i < f.length := by omega
      obtain ⟨n, rfl⟩ : ∃ n, n = f.length - 1 - i := ⟨_, rfl⟩
      have hf := getD_at (d := (⟨0, false, []⟩ : Ln)) hn
      walk_at "rd"
      walk_at "st"
      refine ix_c cup_same (at_map (getD_at (d := 0) (show f.length - 1 - i < nd.length by omega))) ?_
      obtain ⟨n, en2⟩ : ∃ n, n = f.length - 1 - i := ⟨_, rfl⟩
      rw [← en2] at hf hn ⊢
      by_cases hz : 0 < nd.getD n 0
      · refine iteY (by rw [decide_eq_true_eq]; omega) ?_
        refine i_for (its := ((f.getD n ⟨0, false, []⟩).kids.map encI).map AV.d) (fun q hq => ?_) (fun j ρ2 C2 => ∃ y1 y4 nd2, ρ2 = [some (.d (encF f)), y1, some (.r a), some (.d (.int (n : Nat))), y4] ∧ C2 = cup C a (.l (nd2.map cI)) ∧
            nd2.length = f.length ∧ (∀ k, nd.getD k 0 ≤ nd2.getD k 0) ∧ (∀ k, n ≤ k → nd2.getD k 0 = nd.getD k 0) ∧ ∀ k ∈ ((f.getD n ⟨0, false, []⟩).kids).take j, 0 < nd2.getD k 0)
          ⟨y1, y4, nd, rfl, rfl, hl0, fun _ => Nat.le_refl _, fun _ _ => rfl, fun k hk2 => by simp at hk2⟩ (fun _ _ _ _ _ => trivial) ?_ ?_
        · unfold awD
          walk_at "rd"
          refine ix_t (atD_map hf) ?_
          walk_at "rd"
          exact hq
        · rintro j x ρ2 C2 hx ⟨y1, y4, nd2, rfl, rfl, g0, g1, g2, g3⟩
          obtain ⟨x, hd, rfl⟩ := map_get hx
          obtain ⟨k, hkj, rfl⟩ := of_atD hd
          have hkn := hk n _ hf k (List.mem_of_getElem? hkj)
          walk_at "rd"
          refine ⟨a, _, _, k, _, rfl, rfl, cup_same, by rw [List.length_map]; exact ixN_nat (by omega), at_map (getD_at (d := 0) (by omega)), ?_⟩
          walk_at "rd"
          refine ix_c cup_same (at_map (getD_at (d := 0) (show n < nd2.length by omega))) ?_
          refine ⟨cup_same, ?_⟩
          rw [cup_cup]
          refine ⟨y1, some (.d (.int (k : Nat))), nd2.set k (nd2.getD k 0 + nd2.getD n 0), rfl, ?_, by simpa using g0, fun m => ?_, fun m hm => ?_, fun m hm => ?_⟩
          · rw [List.map_set]
            unfold cI
            rw [Int.natCast_add]
          · rw [getD_set (by omega)]
            split
            · rename_i e
              subst e
              have := g1 m
              omega
            · exact g1 m
          · rw [getD_set (by omega), if_neg (by omega)]
            exact g2 m hm
          · rw [take_snoc hkj, List.mem_append, List.mem_singleton] at hm
            rw [getD_set (by omega)]
            split
            · have := g2 n (Nat.le_refl _)
              omega
            · rcases hm with hm | hm
              · exact g3 m hm
              · exact absurd hm (by assumption)
        · rintro ρ2 C2 ⟨y1, y4, nd2, rfl, rfl, g0, g1, g2, g3⟩
          refine ⟨y1, _, y4, nd2, rfl, rfl, g0, Nat.lt_of_lt_of_le hl1 (g1 _), fun m l hm hmi h5 k hk5 => ?_⟩
          have hmn : n ≤ m := by omega
          rw [g2 m hmn] at h5
          by_cases e : m = n
          · subst e
            rw [hf] at hm
            cases hm
            refine g3 k ?_
            rw [List.length_map, List.length_map, List.take_length]
            exact hk5
          · exact Nat.lt_of_lt_of_le (hkk m l hm (by omega) h5 k hk5) (g1 k)
      · refine iteN (by rw [decide_eq_true_eq]; omega) ?_
        refine ⟨y1, _, y4, nd, rfl, by first | rfl | trivial, hl0, hl1, fun m l hm hmi h5 => ?_⟩
        refine hkk m l hm ?_ h5
        have hmn : n ≠ m := fun e => hz (by rw [e]; exact h5)
        omega
    · rintro ρ' C' ⟨y1, y3, y4, nd, rfl, rfl, h1, h2, h3⟩
      walk_at "st"
      refine Ret.frz (Sub.cup ha) (cup_same.trans ?_) ha (h nd ⟨h1, h2, fun i l hl => h3 i l hl ?_⟩)
      · rw [List.map_map]
        rfl
      · simp [rng_len]
end
end AB

set_option Elab.async false
set_option linter.all false
set_option maxRecDepth 100000
set_option maxHeartbeats 4000000
/-! The walk of joined_parts. -/
namespace AB
open PySem PySem.Spec PyProof.Rows L2
abbrev Pr := List Nat × Nat
def encP (p : Pr) : PyData := .tuple [.list (p.1.map encI), .int (p.2 : Nat)]
theorem encP_0 {p : Pr} {C : Cs} {q : AV → Cs → Prop} : arIx (.d (encP p)) (.d (.int 0)) C q = q (.d (.list (p.1.map encI))) C := arIx_t0
theorem encP_1 {p : Pr} {C : Cs} {q : AV → Cs → Prop} : arIx (.d (encP p)) (.d (.int 1)) C q = q (.d (.int (p.2 : Nat))) C := arIx_t1
def jBelow (row : Nat → Pr) (ks : List Nat) : Nat := ks.foldl (fun b k => b * (row k).2 / Nat.gcd b (row k).2) 1
def jSums (m : Nat) (t : Nat → Nat) (row : Nat → Pr) (ks : List Nat) : List Nat := ks.foldl (fun s k => List.zipWith (fun a b => a + t k * b) s (row k).1) (List.replicate m 0)
def jGcd (c : Nat) (s : List Nat) : Nat := s.foldl Nat.gcd c
def jTimes (d : Deal) (cl : List (Nat × Tk)) (row : Nat → Pr) (b : Nat) (k : Nat) : Nat := wt d cl k * (b / (row k).2)
def joined (d : Deal) (cl : List (Nat × Tk)) (row : Nat → Pr) (ks : List Nat) : Pr :=
  let b := jBelow row ks
  let s := jSums d.marks (jTimes d cl row b) row ks
  let c := jGcd (b * whole d cl ks) s
  (s.map (· / c), b * whole d cl ks / c)
theorem jBelow_snoc (row : Nat → Pr) (ks : List Nat) (k : Nat) : jBelow row (ks ++ [k]) = jBelow row ks * (row k).2 / Nat.gcd (jBelow row ks) (row k).2 := by
  unfold jBelow
  rw [List.foldl_append]
  rfl
theorem jSums_snoc (m : Nat) (t : Nat → Nat) (row : Nat → Pr) (ks : List Nat) (k : Nat) : jSums m t row (ks ++ [k]) = List.zipWith (fun a b => a + t k * b) (jSums m t row ks) (row k).1 := by
  unfold jSums
  rw [List.foldl_append]
  rfl
theorem jGcd_snoc (c : Nat) (s : List Nat) (x : Nat) : jGcd c (s ++ [x]) = Nat.gcd (jGcd c s) x := by
  unfold jGcd
  rw [List.foldl_append]
  rfl
theorem jBelow_dvd {row : Nat → Pr} {N : Nat} : ∀ (ks : List Nat), (∀ k ∈ ks, (row k).2 ∣ N) → jBelow row ks ∣ N := by
  intro ks
  have z : ∀ (ks : List Nat) (b : Nat), b ∣ N → (∀ k ∈ ks, (row k).2 ∣ N) → ks.foldl (fun b k => b * (row k).2 / Nat.gcd b (row k).2) b ∣ N := by
    intro ks
    induction ks with
    | nil =>
      intro b hb _
      exact hb
    | cons k ks ih =>
      intro b hb h
      rw [List.foldl_cons]
      exact ih _ (Nat.lcm_dvd hb (h k List.mem_cons_self)) fun k2 h2 => h k2 (List.mem_cons_of_mem _ h2)
  exact z ks 1 (Nat.one_dvd N)
theorem jBelow_of {row : Nat → Pr} {ks : List Nat} : ∀ k ∈ ks, (row k).2 ∣ jBelow row ks := by
  have z : ∀ (ks : List Nat) (b : Nat), b ∣ ks.foldl (fun b k => b * (row k).2 / Nat.gcd b (row k).2) b ∧ ∀ k ∈ ks, (row k).2 ∣ ks.foldl (fun b k => b * (row k).2 / Nat.gcd b (row k).2) b := by
    intro ks
    induction ks with
    | nil =>
      intro b
      exact ⟨Nat.dvd_refl _, fun k hk => by cases hk⟩
    | cons k ks ih =>
      intro b
      rw [List.foldl_cons]
      obtain ⟨h1, h2⟩ := ih (b * (row k).2 / Nat.gcd b (row k).2)
      refine ⟨Nat.dvd_trans (Nat.dvd_lcm_left b (row k).2) h1, fun k2 hk => ?_⟩
      rcases List.mem_cons.mp hk with rfl | hk
      · exact Nat.dvd_trans (Nat.dvd_lcm_right b (row k2).2) h1
      · exact h2 k2 hk
  intro k hk
  exact (z ks 1).2 k hk
theorem jGcd_dvd (c : Nat) : ∀ s, jGcd c s ∣ c ∧ ∀ x ∈ s, jGcd c s ∣ x := by
  intro s
  induction s generalizing c with
  | nil => exact ⟨Nat.dvd_refl _, fun x hx => by cases hx⟩
  | cons x s ih =>
    obtain ⟨h1, h2⟩ := ih (Nat.gcd c x)
    have e : jGcd c (x :: s) = jGcd (Nat.gcd c x) s := rfl
    rw [e]
    refine ⟨Nat.dvd_trans h1 (Nat.gcd_dvd_left c x), fun y hy => ?_⟩
    rcases List.mem_cons.mp hy with rfl | hy
    · exact Nat.dvd_trans h1 (Nat.gcd_dvd_right c y)
    · exact h2 y hy
theorem jSums_len {m : Nat} {t : Nat → Nat} {row : Nat → Pr} {ks : List Nat} (h : ∀ k ∈ ks, (row k).1.length = m) : (jSums m t row ks).length = m := by
  have z : ∀ (ks : List Nat) (s : List Nat), s.length = m → (∀ k ∈ ks, (row k).1.length = m) → (ks.foldl (fun s k => List.zipWith (fun a b => a + t k * b) s (row k).1) s).length = m := by
    intro ks
    induction ks with
    | nil =>
      intro s hs _
      exact hs
    | cons k ks ih =>
      intro s hs h
      rw [List.foldl_cons]
      refine ih _ ?_ fun k2 h2 => h k2 (List.mem_cons_of_mem _ h2)
      rw [List.length_zipWith, hs, h k List.mem_cons_self, Nat.min_self]
  exact z ks _ List.length_replicate h
section
variable {P : Program} {w : World} {K : PySem.W.Frag} {mg : Str → Option Value} {base : Heap}
local macro_rules | `(tactic| walk_at "rd") => `(tactic| try simp only [astart, List.map_cons, List.map_nil, List.length_cons, List.length_nil, List.replicate_succ, List.replicate_zero, List.cons_append, List.nil_append, aVar, aC, aOp, arI, arI0, arB, onI2, onB, aTest, aChain, aAnd, aOr, aNot, aAndV, aOrV, aNotV, aIf, aNil, aCons, aIsi, aNext, aCB, acLen, aCall, g_n, g_tup2, g_tup3, g_tup4, g_tup13, aNeg, aTup, allD, arIx_t0, arIx_t1, arIx_t2, arIx_t3, encD_0, encD_1, encD_2, encD_3, encC_0, encC_1, encQ_0, encQ_1, arEq_i, arEq_s, ac2I_i, acInt_i, List.getElem?_cons_zero, List.getElem?_cons_succ, List.set_cons_zero, List.set_cons_succ, if_true, if_false, Bool.false_eq_true, Bool.not_true, Bool.not_false, Bool.false_xor, isInt_int, withinD_int, tupD_tup, encL, encI, sp_is_whole, sp_is_within, sp_is_truth, sp_is_tuple_of, sp_is_word_of])
local macro_rules | `(tactic| walk_at "st") => `(tactic| ((try dsimp only); (try refine i_seq ?_); (first | refine i_set ?_ | refine i_if ?_ | refine i_ret ?_ | refine i_asg ?_ | refine i_drop ?_ | refine i_par ?_ | refine i_par3 ?_ | refine i_next ?_); (walk_at "rd")))
structure JOk (d : Deal) (cl : List (Nat × Tk)) (ks : List Nat) (row : Nat → Pr) (N : Nat) : Prop where
  few : ks.length ≤ 1000
  marks : d.marks ≤ 3
  clk : ClOk d cl
  lt : ∀ k ∈ ks, k < cl.length
  n0 : 0 < N
  n1 : N < 2 ^ 1000
  w0 : 0 < whole d cl ks
  w1 : whole d cl ks < 2 ^ 20
  wk : ∀ k ∈ ks, wt d cl k < 2 ^ 20
  dv : ∀ k ∈ ks, (row k).2 ∣ N
  dp : ∀ k ∈ ks, 0 < (row k).2
  rl : ∀ k ∈ ks, (row k).1.length = d.marks
  le : ∀ k ∈ ks, ∀ x ∈ (row k).1, x ≤ (row k).2
def sp_joined_parts : ASp := fun avs C q _ => ∃ (d : Deal) (cl : List (Nat × Tk)) (ks : List Nat) (pa : Addr) (xs : List AV) (row : Nat → Pr) (N : Nat), avs = [.d (encD d), .d (.list (cl.map encC)), .d (.list (ks.map encI)), .r pa] ∧ C pa = some (.l xs) ∧
  (∀ k ∈ ks, xs[k]? = some (.d (encP (row k)))) ∧ JOk d cl ks row N ∧ q (.d (encP (joined d cl row ks))) C
theorem bd_20 {a b : Nat} (ha : a < 2 ^ 1000) (hb : b < 2 ^ 20) : a * b < 2 ^ 1020 := by
  rw [show (2 : Nat) ^ 1020 = 2 ^ 1000 * 2 ^ 20 from by rw [← Nat.pow_add]]
  exact Nat.mul_lt_mul'' ha hb
theorem bd_2 {a : Nat} (ha : a < 2 ^ 1020) : a < Bd := Nat.lt_of_lt_of_le ha (by decide +kernel)
theorem ok_joined_parts (T : Txt P K mg) : FnOk P w K mg base CX0 2 T.d_joined_parts.f T.d_joined_parts.fd ["deal", "closings", "children", "paid_by"] (gSp K sp_joined_parts) := by
  refine fok T.d_joined_parts.F sc_joined_parts (fun avs C q z h => ?_) (fun cdv A outer s H P' hr => ?_)
  · obtain ⟨d, cl, ks, pa, xs, row, N, rfl, _⟩ := h
    rfl
  · refine ⟨_, (apss_cons (aps_set 4 sc_joined_parts.nd (apx (apv 0) api))
        (apss_cons (aps_set 5 sc_joined_parts.nd (ap_call (ok_row_weight T) (hr.mono (by decide)) T.d_row_weight.g T.d_row_weight.F.kp T.d_row_weight.b pass0 (apa_cons (apv 0) (apa_cons (apv 1) (apa_cons (apv 2) apa_nil)))))
        (apss_cons (aps_set 6 sc_joined_parts.nd api)
        (apss_cons (aps_for (vs := [7]) PassesOwn.never rfl (awi_lst (apv 2)) (apg_n (i := 7) sc_joined_parts.nd) (apss_one (aps_set 6 sc_joined_parts.nd (ap_div (ap_mul (apv 6) (apx (apx (apv 3) (apv 7)) api)) (ap_gcd T.b_gcd (apa_cons (apv 6) (apa_cons (apx (apx (apv 3) (apv 7)) api) apa_nil)))))))
        (apss_cons (aps_lc 9 [("mark", 8)] rfl sc_joined_parts.nd (awi_r1 T.b_range (apv 4)) (blkOk_by (N := ["deal", "closings", "children", "paid_by", "marks", "whole", "below", "child", "mark", "sums", "times", "had", "more", "common", "thing"]) (sc := defScope s_joined_parts) (by decide +kernel)) (fun _ _ _ _ _ => (apg_n (i := 8) sc_joined_parts.nd)) (fun _ _ _ _ _ => apts_nil) (fun _ _ _ _ _ => api) (sw_true rfl rfl rfl (by decide +kernel)))
        (apss_cons (aps_for (vs := [7]) PassesOwn.never rfl (awi_lst (apv 2)) (apg_n (i := 7) sc_joined_parts.nd) (apss_cons (aps_set 10 sc_joined_parts.nd (ap_mul (apx (apx (apv 0) api) (apx (apx (apv 1) (apv 7)) api)) (ap_div (apv 6) (apx (apx (apv 3) (apv 7)) api))))
        (apss_one (aps_lc 9 [("had", 11), ("more", 12)] rfl sc_joined_parts.nd (aw_zip T.b_zip (apv 9) (apx (apx (apv 3) (apv 7)) api)) (blkOk_by (N := ["deal", "closings", "children", "paid_by", "marks", "whole", "below", "child", "mark", "sums", "times", "had", "more", "common", "thing"]) (sc := defScope s_joined_parts) (by decide +kernel)) (fun _ _ _ _ _ => (apg_t (n := 2) rfl (apgs_cons (apg_n (i := 11) sc_joined_parts.nd) (apgs_cons (apg_n (i := 12) sc_joined_parts.nd) apgs_nil)))) (fun _ _ _ _ _ => apts_nil) (fun _ _ _ _ _ => (ap_add (apv 11) (ap_mul (apv 10) (apv 12)))) (sw_true rfl rfl rfl (by decide +kernel))))))
        (apss_cons (aps_set 13 sc_joined_parts.nd (ap_mul (apv 6) (apv 5)))
        (apss_cons (aps_for (vs := [14]) PassesOwn.never rfl (awi_lst (apv 9)) (apg_n (i := 14) sc_joined_parts.nd) (apss_one (aps_set 13 sc_joined_parts.nd (ap_gcd T.b_gcd (apa_cons (apv 13) (apa_cons (apv 14) apa_nil))))))
        (apss_one (aps_ret (ape_tup (apa_cons (ape_lc [("thing", 14)] rfl sc_joined_parts.nd (awi_lst (apv 9)) (blkOk_by (N := ["deal", "closings", "children", "paid_by", "marks", "whole", "below", "child", "mark", "sums", "times", "had", "more", "common", "thing"]) (sc := defScope s_joined_parts) (by decide +kernel)) (fun _ _ _ _ _ => (apg_n (i := 14) sc_joined_parts.nd)) (fun _ _ _ _ _ => apts_nil) (fun _ _ _ _ _ => (ap_div (apv 14) (apv 13)))) (apa_cons (ap_div (ap_mul (apv 6) (apv 5)) (apv 13)) apa_nil))))))))))))), fun avs C q h => ?_⟩
    obtain ⟨d, cl, ks, pa, xs, row, N, rfl, hpa, hrow, J, h⟩ := h
    have b1 : ∀ i, jBelow row (ks.take i) ∣ N := fun i => jBelow_dvd _ fun k hk => J.dv k (List.mem_of_mem_take hk)
    have b2 : ∀ i, 0 < jBelow row (ks.take i) := fun i => Nat.pos_of_dvd_of_pos (b1 i) J.n0
    have b3 : ∀ i, jBelow row (ks.take i) < 2 ^ 1000 := fun i => Nat.lt_of_le_of_lt (Nat.le_of_dvd J.n0 (b1 i)) J.n1
    have bb2 : 0 < jBelow row ks := by have z := b2 ks.length; rwa [List.take_length] at z
    have bb3 : jBelow row ks < 2 ^ 1000 := by have z := b3 ks.length; rwa [List.take_length] at z
    have d3 : ∀ k ∈ ks, (row k).2 < 2 ^ 1000 := fun k hk => Nat.lt_of_le_of_lt (Nat.le_of_dvd J.n0 (J.dv k hk)) J.n1
    walk_at "st"
    walk_at "st"
    refine ⟨d, cl, ks, rfl, J.few, J.clk, J.lt, ?_⟩
    walk_at "st"
    refine i_seq ?_
    refine i_for (fun q hq => hq) (fun i ρ' C' => ∃ y, ρ' = [some (.d (encD d)), some (.d (.list (cl.map encC))), some (.d (.list (ks.map encI))), some (.r pa), some (.d (.int (d.marks : Nat))), some (.d (.int (whole d cl ks : Nat))), some (.d (.int (jBelow row (ks.take i) : Nat))), y, none, none, none, none, none, none, none] ∧ C' = C)
      ⟨none, rfl, rfl⟩ (fun _ _ _ _ _ => trivial) ?_ ?_
    · rintro i x ρ' C' hx ⟨y, rfl, rfl⟩
      obtain ⟨x, hd, rfl⟩ := map_get hx
      obtain ⟨k, hk, rfl⟩ := of_atD hd
      have hm := List.mem_of_getElem? hk
      walk_at "rd"
      walk_at "st"
      refine ix_c hpa (hrow k hm) ?_
      rw [encP_1]
      refine ⟨cmulN (bd_1 (b3 i)) (bd_1 (d3 k hm)), ?_⟩
      refine ix_c hpa (hrow k hm) ?_
      rw [encP_1]
      walk_at "rd"
      simp only [Int.natAbs_natCast]
      refine ⟨cdivN (Nat.gcd_pos_of_pos_left _ (b2 i)) (bd_1 (Nat.lt_of_le_of_lt (Nat.gcd_le_left _ (b2 i)) (b3 i))), some (.d (.int (k : Nat))), ?_, by first | rfl | trivial⟩
      rw [take_snoc hk, jBelow_snoc]
      rfl
    · rintro ρ' C' ⟨y, rfl, rfl⟩
      rw [List.length_map, List.length_map, List.take_length]
      walk_at "st"
      refine i_lcP ((List.replicate d.marks 0).map encI) (fun q hq => ⟨⟨by omega, by have := J.marks; omega⟩, hq⟩) trivial (by simp [rng_len]) (by rw [rng_len]; have := J.marks; omega) (fun i x y hx hy q hq => ?_) ?_
      · obtain ⟨y, hy2, rfl⟩ := of_atD hy
        have e0 : y = 0 := List.eq_of_mem_replicate (List.mem_of_getElem? hy2)
        subst e0
        simp only [ixs, awipe]
        walk_at "rd"
        exact hq
      let tt := jTimes d cl row (jBelow row ks)
      refine i_seq ?_
      refine i_for (fun q hq => hq) (fun i ρ' C2 => ∃ y7 y8 y10 y11 y12, ρ' = [some (.d (encD d)), some (.d (.list (cl.map encC))), some (.d (.list (ks.map encI))), some (.r pa), some (.d (.int (d.marks : Nat))), some (.d (.int (whole d cl ks : Nat))), some (.d (.int (jBelow row ks : Nat))), y7, y8, some (.d (.list ((jSums d.marks tt row (ks.take i)).map encI))), y10, y11, y12, none, none] ∧ C2 = C')
        ⟨y, none, none, none, none, rfl, rfl⟩ (fun _ _ _ _ _ => trivial) ?_ ?_
      · rintro i x ρ' C2 hx ⟨y7, y8, y10, y11, y12, rfl, rfl⟩
        obtain ⟨x, hd, rfl⟩ := map_get hx
        obtain ⟨k, hk, rfl⟩ := of_atD hd
        have hm := List.mem_of_getElem? hk
        have ht : tt k < 2 ^ 1020 := by
          show wt d cl k * (jBelow row ks / (row k).2) < _
          rw [Nat.mul_comm]
          exact bd_20 (Nat.lt_of_le_of_lt (Nat.div_le_self _ _) bb3) (J.wk k hm)
        walk_at "rd"
        walk_at "st"
        refine rd_wt (J.lt k hm) (J.clk k (J.lt k hm)) ?_
        refine ix_c hpa (hrow k hm) ?_
        rw [encP_1]
        refine ⟨cdivN (J.dp k hm) (bd_1 (d3 k hm)), cmulN (a := wt d cl k) (b := jBelow row ks / (row k).2) (bd_1 (Nat.lt_trans (J.wk k hm) (by decide +kernel))) (bd_1 (Nat.lt_of_le_of_lt (Nat.div_le_self _ _) bb3)), ?_⟩
        have et : ((wt d cl k : Nat) : Int) * (((jBelow row ks : Nat) : Int) / ((row k).2 : Nat)) = ((tt k : Nat) : Int) := by
          show _ = ((wt d cl k * (jBelow row ks / (row k).2) : Nat) : Int)
          rw [Int.natCast_mul, Int.natCast_ediv]
        rw [et]
        walk_at "st"
        have hS : (jSums d.marks tt row (ks.take i)).length = d.marks := jSums_len fun k hk => J.rl k (List.mem_of_mem_take hk)
        refine i_lcP ((jSums d.marks tt row (ks.take (i + 1))).map encI) (its := zipL ((jSums d.marks tt row (ks.take i)).map encI) ((row k).1.map encI)) (sb := fun _ => True) (C1 := C2) (fun q hq => ?_) trivial ?_ ?_ (fun j x y hx hy q hq => ?_) ?_
        · unfold awZ
          walk_at "rd"
          refine ix_c hpa (hrow k hm) ?_
          rw [encP_0]
          exact hq
        · rw [zip_len, List.length_map, List.length_map, List.length_map, hS, jSums_len fun k hk => J.rl k (List.mem_of_mem_take hk), J.rl k hm, Nat.min_self]
        · rw [zip_len, List.length_map, List.length_map, hS]
          have := J.marks
          omega
        · obtain ⟨a, b, ha, hb, rfl⟩ := zip_get hx
          obtain ⟨a, ha2, rfl⟩ := of_atD ha
          obtain ⟨b, hb2, rfl⟩ := of_atD hb
          obtain ⟨y, hy2, rfl⟩ := of_atD hy
          rw [take_snoc hk, jSums_snoc, List.getElem?_zipWith, ha2, hb2] at hy2
          cases hy2
          have hle := J.le k hm b (List.mem_of_getElem? hb2)
          simp only [ixs, awipe]
          walk_at "rd"
          refine ⟨cmulN (bd_2 ht) (bd_1 (Nat.lt_of_le_of_lt hle (d3 k hm))), ?_⟩
          unfold encI at hq
          rw [Int.natCast_add, Int.natCast_mul] at hq
          exact hq
        · exact ⟨some (.d (.int (k : Nat))), y8, some (.d (.int (tt k : Nat))), _, _, rfl, by first | rfl | trivial⟩
      · rintro ρ' C2 ⟨y7, y8, y10, y11, y12, rfl, rfl⟩
        rw [List.length_map, List.length_map, List.take_length]
        have hS : (jSums d.marks tt row ks).length = d.marks := jSums_len J.rl
        have cw : jBelow row ks * whole d cl ks < 2 ^ 1020 := bd_20 bb3 J.w1
        have c0 : 0 < jBelow row ks * whole d cl ks := Nat.mul_pos bb2 J.w0
        have g0 : ∀ s, 0 < jGcd (jBelow row ks * whole d cl ks) s ∧ jGcd (jBelow row ks * whole d cl ks) s < Bd := fun s =>
          ⟨Nat.pos_of_dvd_of_pos (jGcd_dvd _ s).1 c0, bd_2 (Nat.lt_of_le_of_lt (Nat.le_of_dvd c0 (jGcd_dvd _ s).1) cw)⟩
        have mm : CMulW ((jBelow row ks : Nat) : Int) ((whole d cl ks : Nat) : Int) := cmulN (bd_1 bb3) (bd_1 (Nat.lt_trans J.w1 (by decide +kernel)))
        walk_at "st"
        refine ⟨mm, ?_⟩
        rw [← Int.natCast_mul]
        refine i_seq ?_
        refine i_for (fun q hq => hq) (fun i ρ' C3 => ∃ y14, ρ' = [some (.d (encD d)), some (.d (.list (cl.map encC))), some (.d (.list (ks.map encI))), some (.r pa), some (.d (.int (d.marks : Nat))), some (.d (.int (whole d cl ks : Nat))), some (.d (.int (jBelow row ks : Nat))), y7, y8, some (.d (.list ((jSums d.marks tt row ks).map encI))), y10, y11, y12, some (.d (.int (jGcd (jBelow row ks * whole d cl ks) ((jSums d.marks tt row ks).take i) : Nat))), y14] ∧ C3 = C2)
          ⟨_, rfl, rfl⟩ (fun _ _ _ _ _ => trivial) ?_ ?_
        · rintro i x ρ' C3 hx ⟨y14, rfl, rfl⟩
          obtain ⟨x, hd, rfl⟩ := map_get hx
          obtain ⟨k, hk, rfl⟩ := of_atD hd
          walk_at "rd"
          walk_at "st"
          simp only [Int.natAbs_natCast]
          refine ⟨some (.d (.int (k : Nat))), ?_, by first | rfl | trivial⟩
          rw [take_snoc hk, jGcd_snoc]
        · rintro ρ' C3 ⟨y14, rfl, rfl⟩
          rw [List.length_map, List.length_map, List.take_length]
          obtain ⟨g1, g2⟩ := g0 (jSums d.marks tt row ks)
          walk_at "st"
          refine i_lcM (jSums d.marks tt row ks) encI (fun x => encI (x / jGcd (jBelow row ks * whole d cl ks) (jSums d.marks tt row ks))) (fun q hq => hq) trivial (by rw [hS]; have := J.marks; omega) (fun i x hx q hq => ?_) ?_
          · simp only [ixs, awipe]
            walk_at "rd"
            refine ⟨cdivN g1 g2, ?_⟩
            unfold encI at hq
            rw [Int.natCast_ediv] at hq
            exact hq
          refine ⟨mm, cdivN (a := jBelow row ks * whole d cl ks) g1 g2, ?_⟩
          walk_at "rd"
          refine ⟨by decide, Ret.of ?_⟩
          have e : encP (joined d cl row ks) = .tuple [.list ((jSums d.marks tt row ks).map fun x => encI (x / jGcd (jBelow row ks * whole d cl ks) (jSums d.marks tt row ks))), .int (((jBelow row ks : Nat) : Int) * ((whole d cl ks : Nat) : Int) / ((jGcd (jBelow row ks * whole d cl ks) (jSums d.marks tt row ks) : Nat) : Int))] := by
            unfold encP joined
            rw [List.map_map, ← Int.natCast_mul, ← Int.natCast_ediv]
            rfl
          rw [e] at h
          exact h
end
end AB

set_option Elab.async false
set_option linter.all false
set_option maxRecDepth 100000
set_option maxHeartbeats 4000000
/-! The walks that may raise: need_deal, need_lines, need_family. -/
namespace AB
open PySem PySem.Spec PyProof.Rows L2
section
variable {P : Program} {w : World} {K : PySem.W.Frag} {mg : Str → Option Value} {base : Heap}
local macro_rules | `(tactic| walk_at "rd") => `(tactic| try simp only [astart, List.map_cons, List.map_nil, List.length_cons, List.length_nil, List.replicate_succ, List.replicate_zero, List.cons_append, List.nil_append, aVar, aC, aOp, arI, arI0, arB, onI2, onB, aTest, aChain, aAnd, aOr, aNot, aAndV, aOrV, aNotV, aIf, aNil, aCons, aIsi, aNext, aCB, acLen, aCall, g_n, g_tup2, g_tup3, g_tup4, g_tup13, aNeg, aTup, allD, arIx_t0, arIx_t1, arIx_t2, arIx_t3, encD_0, encD_1, encD_2, encD_3, encC_0, encC_1, encQ_0, encQ_1, arEq_i, arEq_s, ac2I_i, acInt_i, List.getElem?_cons_zero, List.getElem?_cons_succ, List.set_cons_zero, List.set_cons_succ, if_true, if_false, Bool.false_eq_true, Bool.not_true, Bool.not_false, Bool.false_xor, isInt_int, withinD_int, tupD_tup, encL, encI, sp_is_whole, sp_is_within, sp_is_truth, sp_is_tuple_of, sp_is_word_of])
local macro_rules | `(tactic| walk_at "st") => `(tactic| ((try dsimp only); (try refine i_seq ?_); (first | refine i_set ?_ | refine i_if ?_ | refine i_ret ?_ | refine i_asg ?_ | refine i_drop ?_ | refine i_par ?_ | refine i_par3 ?_ | refine i_next ?_); (walk_at "rd")))
def sp_need_deal (cD : Addr) : ASp := fun avs C q xp => (∃ d, avs = [.d (encD d)] ∧ DealOk d ∧ q (.d (encD d)) C) ∨ (avs = [.d .none] ∧ xp ⟨cD, "word", .str "form"⟩ C)
theorem tupD_none {n : Int} : tupD .none n = false := rfl
theorem ok_need_deal (T : Txt P K mg) : FnOk P w K mg base (L2.CX P w) 5 T.d_need_deal.f T.d_need_deal.fd ["deal"] (gSp K (sp_need_deal T.C_BadDeal)) := by
  refine fokX T.d_need_deal.F sc_need_deal (fun avs C q z h => ?_) (fun cdv A outer s H P' hr => ?_)
  · rcases h with ⟨d, rfl, _⟩ | ⟨rfl, _⟩ <;> rfl
  · refine ⟨_, (apss_cons (aps_if (apt_w (apw_or (apt_not (apt_val (ap_call (ok_is_tuple_of T) (hr.mono (by decide)) T.d_is_tuple_of.g T.d_is_tuple_of.F.kp T.d_is_tuple_of.b pass0 (apa_cons (apv 0) (apa_cons api apa_nil))))) (apw_o1 (apt_not (apt_val (ap_call (ok_is_within T) (hr.mono (by decide)) T.d_is_within.g T.d_is_within.F.kp T.d_is_within.b pass0 (apa_cons (apx (apv 0) api) (apa_cons api (apa_cons api apa_nil))))))))) (apss_one (aps_raise T.x_BadDeal rfl (takes_of rfl rfl rfl rfl) (hr.mono (by decide)) apstr)) apss_nil)
        (apss_cons (aps_asg (vs := [1, 2, 3, 4]) (apv 0) (apg_t (n := 4) rfl (apgs_cons (apg_n (i := 1) sc_need_deal.nd) (apgs_cons (apg_n (i := 2) sc_need_deal.nd) (apgs_cons (apg_n (i := 3) sc_need_deal.nd) (apgs_cons (apg_n (i := 4) sc_need_deal.nd) apgs_nil))))))
        (apss_cons (aps_if (apt_not (apt_val (ap_call (ok_are_weights T) (hr.mono (by decide)) T.d_are_weights.g T.d_are_weights.F.kp T.d_are_weights.b pass0 (apa_cons (apv 2) apa_nil)))) (apss_one (aps_raise T.x_BadDeal rfl (takes_of rfl rfl rfl rfl) (hr.mono (by decide)) apstr)) apss_nil)
        (apss_cons (aps_if (apt_not (apt_val (ap_call (ok_are_stand_rows T) (hr.mono (by decide)) T.d_are_stand_rows.g T.d_are_stand_rows.F.kp T.d_are_stand_rows.b pass0 (apa_cons (apv 3) (apa_cons (ap_len T.b_len (apv 2)) apa_nil))))) (apss_one (aps_raise T.x_BadDeal rfl (takes_of rfl rfl rfl rfl) (hr.mono (by decide)) apstr)) apss_nil)
        (apss_cons (aps_if (apt_not (apt_val (ap_call (ok_are_closings T) (hr.mono (by decide)) T.d_are_closings.g T.d_are_closings.F.kp T.d_are_closings.b pass0 (apa_cons (apv 4) (apa_cons (apv 1) (apa_cons (ap_len T.b_len (apv 3)) (apa_cons (ap_len T.b_len (apv 2)) apa_nil))))))) (apss_one (aps_raise T.x_BadDeal rfl (takes_of rfl rfl rfl rfl) (hr.mono (by decide)) apstr)) apss_nil)
        (apss_one (aps_ret (apv 0)))))))), fun avs C q h => ?_⟩
    rcases h with ⟨d, rfl, ok, h⟩ | ⟨rfl, h⟩
    · have m1 := ok.m1
      have m3 := ok.m3
      unfold encD
      walk_at "st"
      refine iteN (by simp) (iteN (by simp; omega) ?_)
      walk_at "st"
      walk_at "st"
      refine ⟨d.ws, rfl, ok.w1, ok.w8, ok.w99, ?_⟩
      walk_at "rd"
      walk_at "st"
      unfold encR
      simp only [List.length_map]
      refine ⟨d.read, d.ws.length, rfl, ok.r1, ok.r8, ok.rl, ok.rs, ?_⟩
      walk_at "rd"
      walk_at "st"
      refine ⟨d.close, d.marks, d.read.length, d.ws.length, ?_, ok.cl, ok.c1, ok.c2, ok.k1, ok.k2, ?_⟩
      · simp only [List.length_map]
      walk_at "rd"
      walk_at "st"
      exact Ret.of h
    · walk_at "st"
      simp only [tupD_none]
      walk_at "rd"
      exact ⟨_, rfl, h⟩
def xBad (cF : Addr) (x : PyData) : Xn := ⟨cF, "place", x⟩
def badOne : List Ln := [⟨1, true, []⟩]
def sp_need_lines (cF : Addr) : ASp := fun avs C q xp => ∃ m : Nat, 1 ≤ m ∧ m ≤ 3 ∧ ((∃ f, avs = [.d (encF f), .d (.int (m : Nat))] ∧ FamOk f m ∧ q (.d (encF f)) C) ∨
  (avs = [.d (encF badOne), .d (.int (m : Nat))] ∧ m = 1 ∧ xp (xBad cF (.int 0)) C) ∨ (avs = [.d (.tuple []), .d (.int (m : Nat))] ∧ xp (xBad cF .none) C))
theorem fam_line {f : List Ln} {m i : Nat} {l : Ln} (fo : FamOk f m) (h : f[i]? = some l) : lnOk l i m = true := by
  unfold lnOk
  have hm := List.mem_of_getElem? h
  simp only [Bool.and_eq_true, decide_eq_true_eq, List.all_eq_true]
  exact ⟨⟨fo.marks l hm, fo.few l hm⟩, fun k hk => by simpa using fo.kids i l h k hk⟩
theorem ok_need_lines (T : Txt P K mg) : FnOk P w K mg base (L2.CX P w) 4 T.d_need_lines.f T.d_need_lines.fd ["family", "marks"] (gSp K (sp_need_lines T.C_BadFamily)) := by
  refine fokX T.d_need_lines.F sc_need_lines (fun avs C q z h => ?_) (fun cdv A outer s H P' hr => ?_)
  · obtain ⟨m, _, _, h⟩ := h
    rcases h with ⟨f, rfl, _⟩ | ⟨rfl, _⟩ | ⟨rfl, _⟩ <;> rfl
  · refine ⟨_, (apss_cons (aps_if (apt_not (apt_val (ap_call (ok_is_within T) (hr.mono (by decide)) T.d_is_within.g T.d_is_within.F.kp T.d_is_within.b pass0 (apa_cons (apv 1) (apa_cons api (apa_cons api apa_nil)))))) (apss_one aps_never) apss_nil)
        (apss_cons (aps_if (apt_w (apw_or (apt_not (apt_val (ap_isi "tuple" (by decide) (isi_ok_tuple _) T.b_isinstance T.b_tuple (by decide +kernel) (apv 0)))) (apw_o1 (apt_not (at_lele api (ap_len T.b_len (apv 0)) (apglob rfl T.c_MOST_LINES (by exact ⟨_, rfl⟩))))))) (apss_one (aps_raise T.x_BadFamily rfl (takes_of rfl rfl rfl rfl) (hr.mono (by decide)) apn)) apss_nil)
        (apss_cons (aps_for (vs := [2, 3]) (passes_of rfl) rfl (awi_enumT T.b_enumerate (apv 0)) (apg_t (n := 2) rfl (apgs_cons (apg_n (i := 2) sc_need_lines.nd) (apgs_cons (apg_n (i := 3) sc_need_lines.nd) apgs_nil))) (apss_one (aps_if (apt_not (apt_val (ap_call (ok_is_line T) (hr.mono (by decide)) T.d_is_line.g T.d_is_line.F.kp T.d_is_line.b pass0 (apa_cons (apv 3) (apa_cons (apv 2) (apa_cons (apv 1) apa_nil)))))) (apss_one (aps_raise T.x_BadFamily rfl (takes_of rfl rfl rfl rfl) (hr.mono (by decide)) (apv 2))) apss_nil)))
        (apss_one (aps_ret (apv 0)))))), fun avs C q h => ?_⟩
    obtain ⟨m, m1, m3, h⟩ := h
    rcases h with ⟨f, rfl, fo, h⟩ | ⟨rfl, rfl, h⟩ | ⟨rfl, h⟩
    · have hne := List.length_pos_iff.mpr fo.ne
      have hle := fo.len
      unfold encF
      walk_at "st"
      refine iteN (by simp; omega) ?_
      walk_at "st"
      refine iteN (by simp [isD, tyD]) (iteY (by rw [List.length_map, decide_eq_true_eq]; omega) (iteN (by rw [List.length_map]; simp; omega) ?_))
      refine i_seq ?_
      refine i_for (fun q hq => hq) (fun i ρ' C' => ∃ y2 y3, ρ' = [some (.d (.tuple (f.map encL))), some (.d (.int (m : Nat))), y2, y3] ∧ C' = C) ⟨none, none, rfl, rfl⟩ (fun _ _ _ _ _ => trivial) ?_ ?_
      · rintro i x ρ' C' hx ⟨y2, y3, rfl, rfl⟩
        obtain ⟨y, hy, rfl⟩ := enum_get hx
        obtain ⟨l, hl, rfl⟩ := of_atD hy
        walk_at "rd"
        walk_at "st"
        refine ⟨l, i, m, rfl, ?_⟩
        rw [fam_line fo hl]
        walk_at "rd"
        exact ⟨_, _, rfl, by first | rfl | trivial⟩
      · rintro ρ' C' ⟨y2, y3, rfl, rfl⟩
        walk_at "st"
        exact Ret.of h
    · unfold encF badOne
      walk_at "st"
      refine iteN (by simp) ?_
      walk_at "st"
      refine iteN (by simp [isD, tyD]) (iteY (by simp) (iteN (by simp) ?_))
      refine i_seq ?_
      refine i_for (fun q hq => hq) (fun i ρ' C' => i = 0 ∧ C' = C ∧ ∃ y2 y3, ρ' = [some (.d (encF badOne)), some (.d (.int ((1 : Nat) : Nat))), y2, y3]) ⟨rfl, rfl, none, none, rfl⟩ (fun _ _ _ _ _ => trivial) ?_ ?_
      · rintro i x ρ' C' hx ⟨rfl, rfl, y2, y3, rfl⟩
        obtain ⟨y, hy, rfl⟩ := enum_get hx
        have e : y = encL ⟨1, true, []⟩ := by
          simp only [List.getElem?_cons_zero, Option.some.injEq] at hy
          rw [← hy]
          rfl
        subst e
        walk_at "rd"
        walk_at "st"
        refine ⟨⟨1, true, []⟩, 0, 1, rfl, ?_⟩
        have e2 : lnOk ⟨1, true, []⟩ 0 1 = false := by decide
        rw [e2]
        walk_at "rd"
        exact ⟨_, rfl, h⟩
      · rintro ρ' C' ⟨h0, _⟩
        cases h0
    · walk_at "st"
      refine iteN (by simp; omega) ?_
      walk_at "st"
      refine iteN (by simp [isD, tyD]) (iteN (by simp) ?_)
      exact ⟨_, rfl, h⟩
def sp_need_family (cF : Addr) : ASp := fun avs C q xp => ∃ m : Nat, 1 ≤ m ∧ m ≤ 3 ∧ ((∃ f, avs = [.d (encF f), .d (.int (m : Nat))] ∧ FamOk f m ∧ tooMany f = false ∧ q (.d (encF f)) C) ∨
  (avs = [.d (encF badOne), .d (.int (m : Nat))] ∧ m = 1 ∧ xp (xBad cF (.int 0)) C) ∨ (avs = [.d (.tuple []), .d (.int (m : Nat))] ∧ xp (xBad cF .none) C))
theorem ok_need_family (T : Txt P K mg) : FnOk P w K mg base (L2.CX P w) 5 T.d_need_family.f T.d_need_family.fd ["family", "marks"] (gSp K (sp_need_family T.C_BadFamily)) := by
  refine fokX T.d_need_family.F sc_need_family (fun avs C q z h => ?_) (fun cdv A outer s H P' hr => ?_)
  · obtain ⟨m, _, _, h⟩ := h
    rcases h with ⟨f, rfl, _⟩ | ⟨rfl, _⟩ | ⟨rfl, _⟩ <;> rfl
  · refine ⟨_, (apss_cons (aps_if (apt_val (ap_call (ok_has_too_many T) (hr.mono (by decide)) T.d_has_too_many.g T.d_has_too_many.F.kp T.d_has_too_many.b pass0 (apa_cons (ap_callX (ok_need_lines T) (hr.mono (by decide)) T.d_need_lines.g T.d_need_lines.F.kp T.d_need_lines.b (passes_call (takes_of rfl rfl rfl rfl) fun _ _ _ _ h => h) (apa_cons (apv 0) (apa_cons (apv 1) apa_nil))) apa_nil))) (apss_one (aps_raise T.x_BadFamily rfl (takes_of rfl rfl rfl rfl) (hr.mono (by decide)) apn)) apss_nil)
        (apss_one (aps_ret (apv 0)))), fun avs C q h => ?_⟩
    obtain ⟨m, m1, m3, h⟩ := h
    rcases h with ⟨f, rfl, fo, tm, h⟩ | ⟨rfl, rfl, h⟩ | ⟨rfl, h⟩
    · walk_at "st"
      refine ⟨m, m1, m3, .inl ⟨f, rfl, fo, f, rfl, fo.ne, fo.len, fo.kids, ?_⟩⟩
      rw [tm]
      walk_at "rd"
      walk_at "st"
      exact Ret.of h
    · walk_at "st"
      exact ⟨1, m1, m3, .inr (.inl ⟨rfl, rfl, h⟩)⟩
    · walk_at "st"
      exact ⟨m, m1, m3, .inr (.inr ⟨rfl, h⟩)⟩
end
end AB

set_option Elab.async false
set_option linter.all false
set_option maxRecDepth 100000
set_option maxHeartbeats 4000000
/-! Payments line by line; counts of who receives; what joined_parts comes to. -/
namespace AB
open PySem PySem.Spec PyProof.Rows L2
def rsum : List Rat → Rat
  | [] => 0
  | x :: r => x + rsum r
theorem rsum_app (a b : List Rat) : rsum (a ++ b) = rsum a + rsum b := by
  induction a with
  | nil =>
    show rsum b = 0 + rsum b
    grind
  | cons x r ih =>
    show x + rsum (r ++ b) = x + rsum r + rsum b
    rw [ih]
    grind
theorem rsum_snoc (a : List Rat) (x : Rat) : rsum (a ++ [x]) = rsum a + x := by
  rw [rsum_app]
  show rsum a + (x + 0) = _
  grind
theorem rsum_mul {α : Type} (c : Rat) (f : α → Rat) (l : List α) : rsum (l.map fun x => c * f x) = c * rsum (l.map f) := by
  induction l with
  | nil =>
    show (0 : Rat) = c * 0
    grind
  | cons x r ih =>
    show c * f x + rsum (r.map fun x => c * f x) = c * (f x + rsum (r.map f))
    rw [ih]
    grind
theorem rsum_zero {α : Type} (l : List α) : rsum (l.map fun _ => (0 : Rat)) = 0 := by
  induction l with
  | nil => rfl
  | cons x r ih =>
    show (0 : Rat) + rsum (r.map fun _ => (0 : Rat)) = 0
    rw [ih]
    grind
theorem nat_ne {n : Nat} (h : 0 < n) : (n : Rat) ≠ 0 := fun z => by
  have := Rat.natCast_eq_zero_iff.mp z
  omega
/-- a sum of fractions over what is not nothing only -/
theorem rsum_filter {α : Type} (p : α → Bool) (f : α → Rat) (l : List α) (h : ∀ x ∈ l, p x = false → f x = 0) : rsum ((l.filter p).map f) = rsum (l.map f) := by
  induction l with
  | nil => rfl
  | cons x r ih =>
    have ih2 := ih fun y hy => h y (List.mem_cons_of_mem _ hy)
    cases e : p x with
    | true =>
      rw [List.filter_cons_of_pos e]
      show f x + rsum ((r.filter p).map f) = f x + rsum (r.map f)
      rw [ih2]
    | false =>
      rw [List.filter_cons_of_neg (by rw [e]; exact Bool.false_ne_true)]
      show rsum ((r.filter p).map f) = f x + rsum (r.map f)
      rw [ih2, h x List.mem_cons_self e]
      grind
theorem sum_filter {α : Type} (p : α → Bool) (f : α → Nat) (l : List α) (h : ∀ x ∈ l, p x = false → f x = 0) : ((l.filter p).map f).sum = (l.map f).sum := by
  induction l with
  | nil => rfl
  | cons x r ih =>
    have ih2 := ih fun y hy => h y (List.mem_cons_of_mem _ hy)
    cases e : p x with
    | true => rw [List.filter_cons_of_pos e, List.map_cons, List.sum_cons, ih2, List.map_cons, List.sum_cons]
    | false => rw [List.filter_cons_of_neg (by rw [e]; exact Bool.false_ne_true), ih2, List.map_cons, List.sum_cons, h x List.mem_cons_self e, Nat.zero_add]
/-! ### line by line -/
def rAt (acc : List (Nat → Rat)) (k : Nat) : Nat → Rat := acc.getD k fun _ => 0
def mix (d : Deal) (cl : List (Nat × Tk)) (acc : List (Nat → Rat)) (ks : List Nat) (m : Nat) : Rat := rsum (ks.map fun k => (wt d cl k : Rat) / ((whole d cl ks : Nat) : Rat) * rAt acc k m)
def gpay (d : Deal) (cl : List (Nat × Tk)) (acc : List (Nat → Rat)) (l : Ln) : Nat → Rat := match tk cl acc.length with
  | .self => fun m => if m = l.mark then 1 else 0
  | .lost => fun _ => 0
  | .lines => mix d cl acc l.kids
def pay (d : Deal) (cl : List (Nat × Tk)) (f : List Ln) : List (Nat → Rat) := rows (gpay d cl) f
def nsum (d : Deal) (cl : List (Nat × Tk)) (acc : List Nat) (ks : List Nat) : Nat := (ks.map fun k => if 0 < wt d cl k then acc.getD k 0 else 0).sum
def gcnt (d : Deal) (cl : List (Nat × Tk)) (acc : List Nat) (l : Ln) : Nat := match tk cl acc.length with
  | .self => 1
  | .lost => 0
  | .lines => nsum d cl acc l.kids
def cnt (d : Deal) (cl : List (Nat × Tk)) (f : List Ln) : List Nat := rows (gcnt d cl) f
/-- the product of the wholes -/
def dpr (d : Deal) (cl : List (Nat × Tk)) : List Ln → Nat
  | [] => 1
  | l :: r => max 1 (whole d cl l.kids) * dpr d cl r
theorem dpr_app (d : Deal) (cl : List (Nat × Tk)) (a b : List Ln) : dpr d cl (a ++ b) = dpr d cl a * dpr d cl b := by
  induction a with
  | nil =>
    show dpr d cl b = 1 * dpr d cl b
    rw [Nat.one_mul]
  | cons x r ih =>
    show max 1 (whole d cl x.kids) * dpr d cl (r ++ b) = max 1 (whole d cl x.kids) * dpr d cl r * dpr d cl b
    rw [ih, Nat.mul_assoc]
theorem dpr_take {d : Deal} {cl : List (Nat × Tk)} {f : List Ln} {i : Nat} {l : Ln} (h : f[i]? = some l) : dpr d cl (f.take (i + 1)) = dpr d cl (f.take i) * max 1 (whole d cl l.kids) := by
  rw [take_snoc h, dpr_app]
  show _ * (_ * 1) = _
  rw [Nat.mul_one]
theorem dpr_pos (d : Deal) (cl : List (Nat × Tk)) (f : List Ln) : 0 < dpr d cl f := by
  induction f with
  | nil => exact Nat.one_pos
  | cons x r ih => exact Nat.mul_pos (by omega) ih
structure FamB (f : List Ln) : Prop where
  len : f.length ≤ 40
  few : ∀ l ∈ f, l.kids.length ≤ 57
theorem wt_le {d : Deal} (ok : DealOk d) (cl : List (Nat × Tk)) (k : Nat) : wt d cl k ≤ 99 := by
  unfold wt
  rw [List.getD_eq_getElem?_getD]
  cases e : d.ws[rk cl k]? with
  | none => exact Nat.zero_le _
  | some x => exact ok.w99 x (List.mem_of_getElem? e)
theorem whole_le {d : Deal} (ok : DealOk d) (cl : List (Nat × Tk)) (ks : List Nat) : whole d cl ks ≤ 99 * ks.length := by
  unfold whole
  induction ks with
  | nil => exact Nat.zero_le _
  | cons k r ih =>
    rw [List.map_cons, List.sum_cons, List.length_cons]
    have := wt_le ok cl k
    omega
theorem whole_lt {d : Deal} (ok : DealOk d) (cl : List (Nat × Tk)) {f : List Ln} (fb : FamB f) {l : Ln} (hl : l ∈ f) : whole d cl l.kids < 2 ^ 13 := by
  have h1 := whole_le ok cl l.kids
  have h2 := fb.few l hl
  omega
theorem dpr_le {d : Deal} (ok : DealOk d) (cl : List (Nat × Tk)) : ∀ f : List Ln, (∀ l ∈ f, l.kids.length ≤ 57) → dpr d cl f ≤ (2 ^ 13) ^ f.length := by
  intro f
  induction f with
  | nil =>
    intro _
    exact Nat.le_refl _
  | cons x r ih =>
    intro h
    have h1 := whole_le ok cl x.kids
    have h2 := h x List.mem_cons_self
    have z := Nat.mul_le_mul (ih fun l hl => h l (List.mem_cons_of_mem _ hl)) (show max 1 (whole d cl x.kids) ≤ 2 ^ 13 by omega)
    show max 1 (whole d cl x.kids) * dpr d cl r ≤ _
    rw [List.length_cons, Nat.pow_succ, Nat.mul_comm (max 1 _)]
    exact z
theorem dpr_lt {d : Deal} (ok : DealOk d) (cl : List (Nat × Tk)) {f : List Ln} (fb : FamB f) (i : Nat) : dpr d cl (f.take i) < 2 ^ 1000 := by
  refine Nat.lt_of_le_of_lt (dpr_le ok cl (f.take i) fun l hl => fb.few l (List.mem_of_mem_take hl)) ?_
  refine Nat.lt_of_le_of_lt (Nat.pow_le_pow_right (by decide) (show (f.take i).length ≤ 40 from ?_)) (by decide +kernel)
  rw [List.length_take]
  have := fb.len
  omega
theorem dpr_dvd (d : Deal) (cl : List (Nat × Tk)) (f : List Ln) {i j : Nat} (h : i ≤ j) : dpr d cl (f.take i) ∣ dpr d cl (f.take j) := by
  have e : f.take j = f.take i ++ (f.take j).drop i := by
    have z := List.take_append_drop i (f.take j)
    rw [List.take_take, Nat.min_eq_left h] at z
    exact z.symm
  rw [e, dpr_app]
  exact Nat.dvd_mul_right _ _
/-! ### what joined_parts comes to -/
structure PrOk (p : Pr) (D m : Nat) (v : Nat → Rat) : Prop where
  len : p.1.length = m
  pos : 0 < p.2
  dv : p.2 ∣ D
  le : ∀ x ∈ p.1, x ≤ p.2
  val : ∀ i, i < m → ((p.1.getD i 0 : Nat) : Rat) / ((p.2 : Nat) : Rat) = v i
theorem jSums_get {m : Nat} {t : Nat → Nat} {row : Nat → Pr} {ks : List Nat} {i : Nat} (hi : i < m) (h : ∀ k ∈ ks, (row k).1.length = m) : (jSums m t row ks).getD i 0 = (ks.map fun k => t k * (row k).1.getD i 0).sum := by
  have z : ∀ (ks : List Nat) (s : List Nat), s.length = m → (∀ k ∈ ks, (row k).1.length = m) →
      (ks.foldl (fun s k => List.zipWith (fun a b => a + t k * b) s (row k).1) s).getD i 0 = s.getD i 0 + (ks.map fun k => t k * (row k).1.getD i 0).sum := by
    intro ks
    induction ks with
    | nil =>
      intro s _ _
      rfl
    | cons k ks ih =>
      intro s hs h
      have hk := h k List.mem_cons_self
      rw [List.foldl_cons, ih _ (by rw [List.length_zipWith, hs, hk, Nat.min_self]) fun k2 h2 => h k2 (List.mem_cons_of_mem _ h2), List.map_cons, List.sum_cons]
      have e : (List.zipWith (fun a b => a + t k * b) s (row k).1).getD i 0 = s.getD i 0 + t k * (row k).1.getD i 0 := by
        rw [List.getD_eq_getElem?_getD, List.getElem?_zipWith, getD_at (d := 0) (show i < s.length by omega), getD_at (d := 0) (show i < (row k).1.length by omega)]
        rfl
      rw [e, Nat.add_assoc]
  have e := z ks (List.replicate m 0) List.length_replicate h
  have e0 : (List.replicate m 0).getD i 0 = 0 := by
    rw [List.getD_eq_getElem?_getD, List.getElem?_replicate]
    split <;> rfl
  rw [e0, Nat.zero_add] at e
  exact e
theorem nat_div {a b : Nat} (h : b ∣ a) (hb : 0 < b) : ((a / b : Nat) : Rat) = (a : Rat) / (b : Rat) := by
  obtain ⟨c, rfl⟩ := h
  rw [Nat.mul_div_cancel_left c hb, Rat.natCast_mul]
  have := nat_ne hb
  grind
theorem nat_sum {α : Type} (f : α → Nat) (l : List α) : (((l.map f).sum : Nat) : Rat) = rsum (l.map fun x => (f x : Rat)) := by
  induction l with
  | nil => rfl
  | cons x r ih =>
    rw [List.map_cons, List.sum_cons, Rat.natCast_add, ih]
    rfl
theorem sum_le {α : Type} {f g : α → Nat} {l : List α} (h : ∀ x ∈ l, f x ≤ g x) : (l.map f).sum ≤ (l.map g).sum := by
  induction l with
  | nil => exact Nat.le_refl _
  | cons x r ih =>
    rw [List.map_cons, List.sum_cons, List.map_cons, List.sum_cons]
    exact Nat.add_le_add (h x List.mem_cons_self) (ih fun y hy => h y (List.mem_cons_of_mem _ hy))
theorem sum_mulr {α : Type} (f : α → Nat) (c : Nat) (l : List α) : (l.map fun x => f x * c).sum = (l.map f).sum * c := by
  induction l with
  | nil => rw [List.map_nil, List.map_nil, List.sum_nil, Nat.zero_mul]
  | cons x r ih => rw [List.map_cons, List.sum_cons, List.map_cons, List.sum_cons, ih, Nat.add_mul]
theorem rsum_congr {α : Type} {f g : α → Rat} {l : List α} (h : ∀ x ∈ l, f x = g x) : rsum (l.map f) = rsum (l.map g) := by
  rw [List.map_congr_left h]
theorem joined_ok {d : Deal} {cl : List (Nat × Tk)} {ks : List Nat} {row : Nat → Pr} {N : Nat} (J : JOk d cl ks row N) {v : Nat → Nat → Rat} (hv : ∀ k ∈ ks, PrOk (row k) N d.marks (v k)) :
    PrOk (joined d cl row ks) (N * whole d cl ks) d.marks fun m => rsum (ks.map fun k => (wt d cl k : Rat) / ((whole d cl ks : Nat) : Rat) * v k m) := by
  have bN : jBelow row ks ∣ N := jBelow_dvd ks J.dv
  have b0 : 0 < jBelow row ks := Nat.pos_of_dvd_of_pos bN J.n0
  have c0 : 0 < jBelow row ks * whole d cl ks := Nat.mul_pos b0 J.w0
  obtain ⟨s, hs⟩ : ∃ s, s = jSums d.marks (jTimes d cl row (jBelow row ks)) row ks := ⟨_, rfl⟩
  obtain ⟨c, hc⟩ : ∃ c, c = jGcd (jBelow row ks * whole d cl ks) s := ⟨_, rfl⟩
  obtain ⟨g1, g2⟩ := jGcd_dvd (jBelow row ks * whole d cl ks) s
  rw [← hc] at g1 g2
  have cp : 0 < c := Nat.pos_of_dvd_of_pos g1 c0
  have hl : s.length = d.marks := by
    rw [hs]
    exact jSums_len J.rl
  have e1 : joined d cl row ks = (s.map (· / c), jBelow row ks * whole d cl ks / c) := by
    rw [hc, hs]
    rfl
  have sv : ∀ i, i < d.marks → s.getD i 0 = (ks.map fun k => jTimes d cl row (jBelow row ks) k * (row k).1.getD i 0).sum := fun i hi => by
    rw [hs]
    exact jSums_get hi J.rl
  have sle : ∀ i, i < d.marks → s.getD i 0 ≤ jBelow row ks * whole d cl ks := fun i hi => by
    rw [sv i hi]
    have z : (ks.map fun k => jTimes d cl row (jBelow row ks) k * (row k).1.getD i 0).sum ≤ (ks.map fun k => wt d cl k * jBelow row ks).sum := by
      refine sum_le fun k hk => ?_
      unfold jTimes
      rw [Nat.mul_assoc]
      refine Nat.mul_le_mul_left _ ?_
      have h1 : (row k).1.getD i 0 ≤ (row k).2 := J.le k hk _ (List.mem_of_getElem? (getD_at (d := 0) (by rw [J.rl k hk]; exact hi)))
      exact Nat.le_trans (Nat.mul_le_mul_left _ h1) (Nat.div_mul_le_self _ _)
    rw [sum_mulr, Nat.mul_comm] at z
    exact z
  rw [e1]
  refine ⟨by rw [List.length_map]; exact hl, Nat.div_pos (Nat.le_of_dvd c0 g1) cp, ?_, fun x hx => ?_, fun i hi => ?_⟩
  · exact Nat.dvd_trans (Nat.div_dvd_of_dvd g1) (Nat.mul_dvd_mul_right bN _)
  · obtain ⟨y, hy, rfl⟩ := List.mem_map.mp hx
    obtain ⟨i, hi, rfl⟩ := List.getElem_of_mem hy
    have z := sle i (by omega)
    rw [List.getD_eq_getElem?_getD, List.getElem?_eq_getElem hi] at z
    exact Nat.div_le_div_right z
  · have hi2 : i < s.length := by omega
    have hd : c ∣ s.getD i 0 := g2 _ (List.mem_of_getElem? (getD_at (d := 0) hi2))
    have e3 : (s.map (· / c)).getD i 0 = s.getD i 0 / c := by
      rw [List.getD_eq_getElem?_getD, List.getElem?_map, getD_at (d := 0) hi2]
      rfl
    show (((s.map (· / c)).getD i 0 : Nat) : Rat) / _ = _
    rw [e3, nat_div hd cp, nat_div g1 cp, sv i hi, nat_sum, Rat.natCast_mul]
    have n1 := nat_ne cp
    have n2 := nat_ne b0
    have n3 := nat_ne J.w0
    have e4 : rsum (ks.map fun k => ((jTimes d cl row (jBelow row ks) k * (row k).1.getD i 0 : Nat) : Rat)) = (jBelow row ks : Rat) * (whole d cl ks : Rat) * rsum (ks.map fun k => (wt d cl k : Rat) / ((whole d cl ks : Nat) : Rat) * v k i) := by
      rw [← rsum_mul]
      refine rsum_congr fun k hk => ?_
      have p := hv k hk
      have n4 := nat_ne p.pos
      have q := p.val i hi
      unfold jTimes
      rw [Rat.natCast_mul, Rat.natCast_mul, nat_div (jBelow_of k hk) p.pos, ← q]
      grind
    rw [e4]
    grind
end AB

set_option Elab.async false
set_option linter.all false
set_option maxRecDepth 100000
set_option maxHeartbeats 4000000
/-! The walks: receivers, paid. -/
namespace AB
open PySem PySem.Spec PyProof.Rows L2
section
variable {P : Program} {w : World} {K : PySem.W.Frag} {mg : Str → Option Value} {base : Heap}
local macro_rules | `(tactic| walk_at "rd") => `(tactic| try simp only [astart, List.map_cons, List.map_nil, List.length_cons, List.length_nil, List.replicate_succ, List.replicate_zero, List.cons_append, List.nil_append, aVar, aC, aOp, arI, arI0, arB, onI2, onB, aTest, aChain, aAnd, aOr, aNot, aAndV, aOrV, aNotV, aIf, aNil, aCons, aIsi, aNext, aCB, acLen, aCall, g_n, g_tup2, g_tup3, g_tup4, g_tup13, aNeg, aTup, allD, arIx_t0, arIx_t1, arIx_t2, arIx_t3, encD_0, encD_1, encD_2, encD_3, encC_0, encC_1, encQ_0, encQ_1, arEq_i, arEq_s, ac2I_i, acInt_i, List.getElem?_cons_zero, List.getElem?_cons_succ, List.set_cons_zero, List.set_cons_succ, if_true, if_false, Bool.false_eq_true, Bool.not_true, Bool.not_false, Bool.false_xor, isInt_int, withinD_int, tupD_tup, encL, encI, sp_is_whole, sp_is_within, sp_is_truth, sp_is_tuple_of, sp_is_word_of])
local macro_rules | `(tactic| walk_at "st") => `(tactic| ((try dsimp only); (try refine i_seq ?_); (first | refine i_set ?_ | refine i_if ?_ | refine i_ret ?_ | refine i_asg ?_ | refine i_drop ?_ | refine i_par ?_ | refine i_par3 ?_ | refine i_next ?_); (walk_at "rd")))
def sp_out (cD cF : Addr) (out : Deal → List Ln → PyData) : ASp := fun avs C q xp =>
  (∃ d f, avs = [.d (encD d), .d (encF f)] ∧ DealOk d ∧ FamOk f d.marks ∧ tooMany f = false ∧ FamB f ∧ q (.d (out d f)) C) ∨
  (∃ x, avs = [.d .none, .d x] ∧ xp ⟨cD, "word", .str "form"⟩ C) ∨
  (∃ d, avs = [.d (encD d), .d (encF badOne)] ∧ DealOk d ∧ d.marks = 1 ∧ xp (xBad cF (.int 0)) C) ∨
  (∃ d, avs = [.d (encD d), .d (.tuple [])] ∧ DealOk d ∧ xp (xBad cF .none) C)
theorem sp_out_len {cD cF : Addr} {out : Deal → List Ln → PyData} {avs : List AV} {C : Cs} {q : AV → Cs → Prop} {z : Xn → Cs → Prop} (h : sp_out cD cF out avs C q z) : avs.length = 2 := by
  rcases h with ⟨d, f, rfl, _⟩ | ⟨x, rfl, _⟩ | ⟨d, rfl, _⟩ | ⟨d, rfl, _⟩ <;> rfl
theorem clo_ok {d : Deal} (ok : DealOk d) {f : List Ln} (fo : FamOk f d.marks) : ClOk d (clo d f) := fun k hk => by
  rw [clo_len] at hk
  have z := clo_ranks ok (Nat.le_refl _) fo.kids fo.marks f.length k hk (Nat.le_refl _)
  rw [List.take_length] at z
  exact z
theorem nsum_eq (d : Deal) (cl : List (Nat × Tk)) (acc : List Nat) (ks : List Nat) : ((ks.filter fun k => decide (0 < wt d cl k)).map fun k => acc.getD k 0).sum = nsum d cl acc ks := by
  unfold nsum
  rw [← sum_filter (fun k => decide (0 < wt d cl k)) (fun k => if 0 < wt d cl k then acc.getD k 0 else 0)]
  · refine congrArg List.sum (List.map_congr_left fun k hk => ?_)
    have z := (List.mem_filter.mp hk).2
    rw [if_pos (by simpa using z)]
  · intro k hk e
    rw [if_neg (by simpa using e)]
def outCnt (d : Deal) (f : List Ln) : PyData := .int (((cnt d (clo d f) f).getD (f.length - 1) 0 : Nat) : Int)
theorem getLast_at {α : Type} {xs : List α} {d : α} (h : 0 < xs.length) : xs.getLast? = some (xs.getD (xs.length - 1) d) := by
  rw [List.getLast?_eq_getElem?]
  exact getD_at (by omega)
theorem ok_receivers (T : Txt P K mg) : FnOk P w K mg base (L2.CX P w) 6 T.d_receivers.f T.d_receivers.fd ["deal", "family"] (gSp K (sp_out T.C_BadDeal T.C_BadFamily outCnt)) := by
  refine fokX T.d_receivers.F sc_receivers (fun avs C q z h => sp_out_len h) (fun cdv A outer s H P' hr => ?_)
  · refine ⟨_, (apss_cons (aps_expr (ap_callX (ok_need_deal T) (hr.mono (by decide)) T.d_need_deal.g T.d_need_deal.F.kp T.d_need_deal.b (passes_call (takes_of rfl rfl rfl rfl) fun _ _ _ _ h => h) (apa_cons (apv 0) apa_nil)))
        (apss_cons (aps_set 2 sc_receivers.nd (ap_callX (ok_need_family T) (hr.mono (by decide)) T.d_need_family.g T.d_need_family.F.kp T.d_need_family.b (passes_call (takes_of rfl rfl rfl rfl) fun _ _ _ _ h => h) (apa_cons (apv 1) (apa_cons (apx (apv 0) api) apa_nil))))
        (apss_cons (aps_set 3 sc_receivers.nd (ap_call (ok_closings_of T) (hr.mono (by decide)) T.d_closings_of.g T.d_closings_of.F.kp T.d_closings_of.b pass0 (apa_cons (apv 0) (apa_cons (apv 2) apa_nil))))
        (apss_cons (aps_set 4 sc_receivers.nd (ape_lstC apa_nil))
        (apss_cons (aps_for (vs := [5, 6]) (passes_of rfl) rfl (awi_enumT T.b_enumerate (apv 2)) (apg_t (n := 2) rfl (apgs_cons (apg_n (i := 5) sc_receivers.nd) (apgs_cons (apg_n (i := 6) sc_receivers.nd) apgs_nil))) (apss_one (aps_if (at_eq (apx (apx (apv 3) (apv 5)) api) apstr) (apss_one (aps_expr (ap_app (apv 4) api))) (apss_one (aps_if (at_eq (apx (apx (apv 3) (apv 5)) api) apstr) (apss_one (aps_expr (ap_app (apv 4) api))) (apss_one (aps_expr (ap_app (apv 4) (ap_sum rfl T.b_sum (ape_lc [("child", 7)] rfl sc_receivers.nd (awi_tup (apx (apv 6) api)) (blkOk_by (N := ["deal", "family", "lines", "closings", "having", "number", "line", "child"]) (sc := defScope s_receivers) (by decide +kernel)) (fun _ _ _ _ _ => (apg_n (i := 7) sc_receivers.nd)) (fun _ _ _ _ _ => (apts_one (at_gt (apx (apx (apv 0) api) (apx (apx (apv 3) (apv 7)) api)) api))) (fun _ _ _ _ _ => (apx (apv 4) (apv 7)))))))))))))
        (apss_one (aps_ret (apx (apv 4) (ap_neg api))))))))), fun avs C q h => ?_⟩
    rcases h with ⟨d, f, rfl, ok, fo, tm, fb, h⟩ | ⟨x, rfl, h⟩ | ⟨d, rfl, ok, hm1, h⟩ | ⟨d, rfl, ok, h⟩
    · have m1 := ok.m1
      have m3 := ok.m3
      have hpos : 0 < f.length := List.length_pos_iff.mpr fo.ne
      walk_at "st"
      refine .inl ⟨d, rfl, ok, ?_⟩
      walk_at "st"
      refine ⟨d.marks, m1, m3, .inl ⟨f, rfl, fo, tm, ?_⟩⟩
      walk_at "st"
      refine ⟨d, f, rfl, ok, fo, ?_⟩
      obtain ⟨cl, ecl⟩ : ∃ cl, cl = clo d f := ⟨_, rfl⟩
      have ck : ClOk d cl := by rw [ecl]; exact clo_ok ok fo
      have cln : cl.length = f.length := by rw [ecl]; exact clo_len
      unfold outCnt at h
      rw [← ecl] at h ⊢
      walk_at "st"
      refine ⟨by simp, fun a ha => ?_⟩
      refine i_seq ?_
      unfold encF
      refine i_for (fun q hq => hq) (fun i ρ' C' => ∃ y5 y6 y7, ρ' = [some (.d (encD d)), some (.d (.tuple (f.map encL))), some (.d (.tuple (f.map encL))), some (.d (.list (cl.map encC))), some (.r a), y5, y6, y7] ∧ C' = cup C a (.l ((cnt d cl (f.take i)).map cI)))
        ⟨none, none, none, rfl, rfl⟩ (fun _ _ _ _ _ => trivial) ?_ ?_
      · rintro i x ρ' C' hx ⟨y5, y6, y7, rfl, rfl⟩
        obtain ⟨y, hy, rfl⟩ := enum_get hx
        obtain ⟨l, hl, rfl⟩ := of_atD hy
        have hi : i < f.length := (List.getElem?_eq_some_iff.mp hl).1
        have hlen : (cnt d cl (f.take i)).length = i := by
          unfold cnt
          rw [rows_len, List.length_take]
          omega
        have hsz : ((cnt d cl (f.take i)).map cI).length < 100000 := by
          rw [List.length_map, hlen]
          have := fb.len
          omega
        have happ : ∀ n : Int, n = (gcnt d cl (cnt d cl (f.take i)) l : Nat) → cup (cup C a (.l ((cnt d cl (f.take i)).map cI))) a (.l ((cnt d cl (f.take i)).map cI ++ [.d (.int n)])) = cup C a (.l ((cnt d cl (f.take (i + 1))).map cI)) := fun n en => by
          rw [cup_cup]
          unfold cnt
          rw [rows_take hl, List.map_append, en]
          rfl
        have hik : i < cl.length := by omega
        have htk : tk cl (cnt d cl (f.take i)).length = tk cl i := by rw [hlen]
        walk_at "rd"
        walk_at "st"
        refine rd_tk hik ?_
        walk_at "rd"
        rw [tk_self]
        unfold gcnt at happ
        rw [htk] at happ
        by_cases hs : tk cl i = .self
        · refine iteY (by simpa using hs) ?_
          have h3 := happ 1 (by rw [hs]; rfl)
          walk_at "st"
          exact ⟨a, _, rfl, cup_same, _, cup_same, hsz, _, _, _, rfl, h3⟩
        · refine iteN (by simpa using hs) ?_
          walk_at "st"
          refine rd_tk hik ?_
          walk_at "rd"
          rw [tk_lost]
          by_cases ho : tk cl i = .lost
          · refine iteY (by simpa using ho) ?_
            have h3 := happ 0 (by rw [ho]; rfl)
            walk_at "st"
            exact ⟨a, _, rfl, cup_same, _, cup_same, hsz, _, _, _, rfl, h3⟩
          · refine iteN (by simpa using ho) ?_
            have hli : tk cl i = .lines := by
              cases e : tk cl i with
              | self => exact absurd e hs
              | lost => exact absurd e ho
              | lines => rfl
            have h3 := happ (nsum d cl (cnt d cl (f.take i)) l.kids : Nat) (by rw [hli])
            walk_at "st"
            refine ⟨a, _, rfl, cup_same, ?_⟩
            walk_at "rd"
            refine i_lcFM l.kids encI (fun k => encI ((cnt d cl (f.take i)).getD k 0)) (fun k => decide (0 < wt d cl k)) (sb := fun _ => True) (C1 := cup C a (.l ((cnt d cl (f.take i)).map cI))) (fun q hq => ?_) trivial ?_ (fun j k hk q z hp hn => ?_) ?_
            · unfold awD
              walk_at "rd"
              exact hq
            · have := fb.few l (List.mem_of_getElem? hl)
              omega
            · have hki := fo.kids i l hl k (List.mem_of_getElem? hk)
              simp only [ixs, awipe]
              walk_at "rd"
              refine rd_wt (by omega) (ck k (by omega)) ?_
              walk_at "rd"
              by_cases hw : 0 < wt d cl k
              · refine iteY (by simpa using hw) ?_
                refine ix_c cup_same (at_map (getD_at (d := 0) (by omega))) ?_
                exact hp (by simpa using hw)
              · exact iteN (by simpa using hw) (hn (by simpa using hw))
            · rw [show (fun k => encI ((cnt d cl (f.take i)).getD k 0)) = encI ∘ (fun k => (cnt d cl (f.take i)).getD k 0) from rfl, ← List.map_map]
              refine acSum_nat ?_
              rw [nsum_eq]
              exact ⟨_, cup_same, hsz, _, _, _, rfl, h3⟩
      · rintro ρ' C' ⟨y5, y6, y7, rfl, rfl⟩
        rw [enum_len, List.length_map, List.take_length]
        walk_at "st"
        have hlen : (cnt d cl f).length = f.length := rows_len f
        refine ix_c1 cup_same (getLast_at (d := cI 0) (by rw [List.length_map, hlen]; exact hpos)) ?_
        have e : ((cnt d cl f).map cI).getD (((cnt d cl f).map cI).length - 1) (cI 0) = cI ((cnt d cl f).getD (f.length - 1) 0) := by
          rw [List.length_map, hlen, List.getD_eq_getElem?_getD, at_map (getD_at (d := 0) (show f.length - 1 < (cnt d cl f).length by omega))]
          rfl
        rw [e]
        exact Ret.sub (Sub.cup ha) h
    · walk_at "st"
      exact .inr ⟨rfl, h⟩
    · walk_at "st"
      refine .inl ⟨d, rfl, ok, ?_⟩
      walk_at "st"
      exact ⟨d.marks, ok.m1, ok.m3, .inr (.inl ⟨rfl, hm1, h⟩)⟩
    · walk_at "st"
      refine .inl ⟨d, rfl, ok, ?_⟩
      walk_at "st"
      exact ⟨d.marks, ok.m1, ok.m3, .inr (.inr ⟨rfl, h⟩)⟩
end
end AB

set_option Elab.async false
set_option linter.all false
set_option maxRecDepth 100000
set_option maxHeartbeats 4000000
/-! The walk of paid. -/
namespace AB
open PySem PySem.Spec PyProof.Rows L2
theorem huE {A : Around} {k : Nat} (hr : Room k A) : A.units + 64 < cLine := by
  have := hr.un
  omega
theorem shp_ints (ks : List Nat) : SeqAt.shaped (.list (ks.map encI)) = true := by
  have h1 : PyData.canLayAll0 (ks.map encI) = true := by
    induction ks with
    | nil => rfl
    | cons k r ih => simp [PyData.canLayAll0, encI, PyData.canLay0, ih]
  have h2 : PyData.depthAll (ks.map encI) ≤ 1 := by
    induction ks with
    | nil => exact Nat.zero_le _
    | cons k r ih =>
      have := ih (by simpa [PyData.canLayAll0, encI, PyData.canLay0] using h1)
      simp [PyData.depthAll, PyData.depth, encI]
      omega
  unfold SeqAt.shaped
  simp [PyData.canLay0, PyData.depth, h1]
  omega
theorem eqv_nil (xs : List PyData) : PyData.eqv (.list xs) (.list []) = xs.isEmpty := by
  cases xs with
  | nil => simp [PyData.eqv, PyData.eqvAll]
  | cons x r => simp [PyData.eqv, PyData.eqvAll]
/-! ### the rows of payments -/
theorem pay_len (d : Deal) (cl : List (Nat × Tk)) (f : List Ln) : (pay d cl f).length = f.length := rows_len f
theorem pay_prev (d : Deal) (cl : List (Nat × Tk)) (f : List Ln) {i k : Nat} (h : k < i) : rAt (pay d cl (f.take i)) k = rAt (pay d cl f) k := by
  unfold rAt pay
  rw [List.getD_eq_getElem?_getD, rows_prev h, ← List.getD_eq_getElem?_getD]
theorem mix_congr {d : Deal} {cl : List (Nat × Tk)} {a b : List (Nat → Rat)} {ks : List Nat} (h : ∀ k ∈ ks, rAt a k = rAt b k) : mix d cl a ks = mix d cl b ks := by
  funext m
  unfold mix
  exact rsum_congr fun k hk => by rw [h k hk]
theorem pay_at {d : Deal} {cl : List (Nat × Tk)} {f : List Ln} {i : Nat} {l : Ln} (h : f[i]? = some l) (hk : ∀ k ∈ l.kids, k < i) : rAt (pay d cl f) i = match tk cl i with
    | .self => fun m => if m = l.mark then 1 else 0
    | .lost => fun _ => 0
    | .lines => mix d cl (pay d cl f) l.kids := by
  have hi : i < f.length := (List.getElem?_eq_some_iff.mp h).1
  have hl : (pay d cl (f.take i)).length = i := by
    rw [pay_len, List.length_take]
    omega
  have e : rAt (pay d cl f) i = gpay d cl (pay d cl (f.take i)) l := by
    unfold rAt
    rw [List.getD_eq_getElem?_getD]
    show ((rows (gpay d cl) f)[i]?).getD _ = _
    rw [rows_get h]
    rfl
  rw [e]
  unfold gpay
  rw [hl]
  cases tk cl i with
  | self => rfl
  | lost => rfl
  | lines => exact mix_congr fun k hk2 => pay_prev d cl f (hk k hk2)
def encPay (m : Nat) (v : Nat → Rat) : PyData := .tuple ((List.range m).map fun i => encQ (v i))
def outPay (d : Deal) (f : List Ln) : PyData := encPay d.marks (rAt (pay d (clo d f) f) (f.length - 1))
theorem PrOk.grow {p : Pr} {D D' m : Nat} {v : Nat → Rat} (h : PrOk p D m v) (hd : D ∣ D') : PrOk p D' m v := ⟨h.len, h.pos, Nat.dvd_trans h.dv hd, h.le, h.val⟩
theorem getD_rep {m i : Nat} : (List.replicate m 0).getD i 0 = 0 := by
  rw [List.getD_eq_getElem?_getD, List.getElem?_replicate]
  split <;> rfl
theorem pr_none {D m : Nat} {v : Nat → Rat} (h : ∀ i, i < m → v i = 0) : PrOk (List.replicate m 0, 1) D m v :=
  ⟨List.length_replicate, Nat.one_pos, Nat.one_dvd _, fun x hx => by rw [List.eq_of_mem_replicate hx]; exact Nat.zero_le _, fun i hi => by
    rw [h i hi]
    show (((List.replicate m 0).getD i 0 : Nat) : Rat) / _ = 0
    rw [getD_rep]
    show (0 : Rat) / _ = 0
    grind⟩
def oneAt (m k : Nat) : List Nat := (List.range m).map fun i => if i = k then 1 else 0
theorem pr_self {D m k : Nat} : PrOk (oneAt m k, 1) D m fun i => if i = k then 1 else 0 :=
  ⟨by unfold oneAt; rw [List.length_map, List.length_range], Nat.one_pos, Nat.one_dvd _, fun x hx => by
    obtain ⟨i, _, rfl⟩ := List.mem_map.mp hx
    show (if i = k then 1 else 0) ≤ 1
    split <;> omega, fun i hi => by
    have e : (oneAt m k).getD i 0 = if i = k then 1 else 0 := by
      unfold oneAt
      rw [List.getD_eq_getElem?_getD, List.getElem?_map, List.getElem?_range hi]
      rfl
    show (((oneAt m k).getD i 0 : Nat) : Rat) / ((1 : Nat) : Rat) = _
    rw [e]
    split
    · show (1 : Rat) / 1 = 1
      grind
    · show (0 : Rat) / 1 = 0
      grind⟩
structure PayI (d : Deal) (cl : List (Nat × Tk)) (f : List Ln) (nd : List Nat) (i : Nat) (ps : List Pr) : Prop where
  len : ps.length = i
  ok : ∀ k, k < i → 0 < nd.getD k 0 → PrOk (ps.getD k ([], 1)) (dpr d cl (f.take i)) d.marks (rAt (pay d cl f) k)
theorem PayI.step {d : Deal} {cl : List (Nat × Tk)} {f : List Ln} {nd : List Nat} {i : Nat} {ps : List Pr} (I : PayI d cl f nd i ps) {p : Pr} (h : 0 < nd.getD i 0 → PrOk p (dpr d cl (f.take (i + 1))) d.marks (rAt (pay d cl f) i)) : PayI d cl f nd (i + 1) (ps ++ [p]) := by
  refine ⟨by rw [List.length_append, I.len]; rfl, fun k hk hn => ?_⟩
  by_cases e : k < i
  · have z := (I.ok k e hn).grow (dpr_dvd d cl f (Nat.le_succ i))
    have e2 : (ps ++ [p]).getD k ([], 1) = ps.getD k ([], 1) := by
      rw [List.getD_eq_getElem?_getD, List.getElem?_append_left (by rw [I.len]; exact e), ← List.getD_eq_getElem?_getD]
    rw [e2]
    exact z
  · have e1 : k = i := by omega
    subst e1
    have e2 : (ps ++ [p]).getD k ([], 1) = p := by
      rw [List.getD_eq_getElem?_getD, List.getElem?_append_right (by rw [I.len]; exact Nat.le_refl _), I.len, Nat.sub_self]
      rfl
    rw [e2]
    exact h hn
/-- the weighed children -/
def wkids (d : Deal) (cl : List (Nat × Tk)) (ks : List Nat) : List Nat := ks.filter fun k => decide (0 < wt d cl k)
theorem wkids_whole (d : Deal) (cl : List (Nat × Tk)) (ks : List Nat) : whole d cl (wkids d cl ks) = whole d cl ks := by
  unfold whole wkids
  exact sum_filter _ _ _ fun k _ e => by simpa using e
theorem wkids_mix (d : Deal) (cl : List (Nat × Tk)) (acc : List (Nat → Rat)) (ks : List Nat) (m : Nat) : rsum ((wkids d cl ks).map fun k => (wt d cl k : Rat) / ((whole d cl (wkids d cl ks) : Nat) : Rat) * rAt acc k m) = mix d cl acc ks m := by
  rw [wkids_whole]
  unfold mix wkids
  refine rsum_filter _ _ _ fun k _ e => ?_
  have z : wt d cl k = 0 := by simpa using e
  rw [z]
  show (0 : Rat) / _ * _ = 0
  grind
theorem mix_none (d : Deal) (cl : List (Nat × Tk)) (acc : List (Nat → Rat)) (ks : List Nat) (m : Nat) (h : wkids d cl ks = []) : mix d cl acc ks m = 0 := by
  rw [← wkids_mix, h]
  rfl
theorem pay_join {d : Deal} (ok : DealOk d) {cl : List (Nat × Tk)} {f : List Ln} {nd : List Nat} {i : Nat} {ps : List Pr} {l : Ln} (I : PayI d cl f nd i ps) (ck : ClOk d cl) (cln : cl.length = f.length) (fk : kidsOk f) (fb : FamB f) (hn : NdOk f nd)
    (hl : f[i]? = some l) (h0 : 0 < nd.getD i 0) (hw : wkids d cl l.kids ≠ []) (ht : tk cl i = .lines) :
    JOk d cl (wkids d cl l.kids) (fun k => ps.getD k ([], 1)) (dpr d cl (f.take i)) ∧ PrOk (joined d cl (fun k => ps.getD k ([], 1)) (wkids d cl l.kids)) (dpr d cl (f.take (i + 1))) d.marks (rAt (pay d cl f) i) := by
  have hi : i < f.length := (List.getElem?_eq_some_iff.mp hl).1
  have hm := List.mem_of_getElem? hl
  have sub : ∀ k ∈ wkids d cl l.kids, k ∈ l.kids ∧ 0 < wt d cl k := fun k hk => by
    obtain ⟨h1, h2⟩ := List.mem_filter.mp hk
    exact ⟨h1, by simpa using h2⟩
  have kl : ∀ k ∈ wkids d cl l.kids, k < i := fun k hk => fk i l hl k (sub k hk).1
  have pk : ∀ k ∈ wkids d cl l.kids, PrOk (ps.getD k ([], 1)) (dpr d cl (f.take i)) d.marks (rAt (pay d cl f) k) := fun k hk => I.ok k (kl k hk) (hn.kids i l hl h0 k (sub k hk).1)
  have w0 : 0 < whole d cl (wkids d cl l.kids) := by
    obtain ⟨k, r, e⟩ := List.exists_cons_of_ne_nil hw
    have z := (sub k (by rw [e]; exact List.mem_cons_self)).2
    unfold whole
    rw [e, List.map_cons, List.sum_cons]
    omega
  have w1 : whole d cl (wkids d cl l.kids) < 2 ^ 20 := by
    rw [wkids_whole]
    exact Nat.lt_trans (whole_lt ok cl fb hm) (by decide)
  have J : JOk d cl (wkids d cl l.kids) (fun k => ps.getD k ([], 1)) (dpr d cl (f.take i)) :=
    { few := Nat.le_trans (List.length_filter_le _ _) (Nat.le_trans (fb.few l hm) (by decide)), marks := ok.m3, clk := ck, lt := fun k hk => by have := kl k hk; omega, n0 := dpr_pos _ _ _, n1 := dpr_lt ok cl fb i, w0 := w0, w1 := w1,
      wk := fun k _ => Nat.lt_of_le_of_lt (wt_le ok cl k) (by decide), dv := fun k hk => (pk k hk).dv, dp := fun k hk => (pk k hk).pos, rl := fun k hk => (pk k hk).len, le := fun k hk => (pk k hk).le }
  refine ⟨J, ?_⟩
  have z := joined_ok J pk
  have e1 : dpr d cl (f.take i) * whole d cl (wkids d cl l.kids) = dpr d cl (f.take (i + 1)) := by
    rw [dpr_take hl, wkids_whole, Nat.max_eq_right]
    rw [wkids_whole] at w0
    omega
  rw [e1] at z
  rw [pay_at hl fun k hk => fk i l hl k hk, ht]
  refine ⟨z.len, z.pos, z.dv, z.le, fun j hj => ?_⟩
  rw [z.val j hj, wkids_mix]
section
variable {P : Program} {w : World} {K : PySem.W.Frag} {mg : Str → Option Value} {base : Heap}
local macro_rules | `(tactic| walk_at "rd") => `(tactic| try simp only [astart, List.map_cons, List.map_nil, List.length_cons, List.length_nil, List.replicate_succ, List.replicate_zero, List.cons_append, List.nil_append, aVar, aC, aOp, arI, arI0, arB, onI2, onB, aTest, aChain, aAnd, aOr, aNot, aAndV, aOrV, aNotV, aIf, aNil, aCons, aIsi, aNext, aCB, acLen, aCall, g_n, g_tup2, g_tup3, g_tup4, g_tup13, aNeg, aTup, allD, arIx_t0, arIx_t1, arIx_t2, arIx_t3, encD_0, encD_1, encD_2, encD_3, encC_0, encC_1, encQ_0, encQ_1, arEq_i, arEq_s, ac2I_i, acInt_i, List.getElem?_cons_zero, List.getElem?_cons_succ, List.set_cons_zero, List.set_cons_succ, if_true, if_false, Bool.false_eq_true, Bool.not_true, Bool.not_false, Bool.false_xor, isInt_int, withinD_int, tupD_tup, encL, encI, sp_is_whole, sp_is_within, sp_is_truth, sp_is_tuple_of, sp_is_word_of])
local macro_rules | `(tactic| walk_at "st") => `(tactic| ((try dsimp only); (try refine i_seq ?_); (first | refine i_set ?_ | refine i_if ?_ | refine i_ret ?_ | refine i_asg ?_ | refine i_drop ?_ | refine i_par ?_ | refine i_par3 ?_ | refine i_next ?_); (walk_at "rd")))
theorem i_zeros {w : AW} {g : AG} {e : AE} {vs : List Nat} {ρ : Sl} {C : Cs} {q : AV → Cs → Prop} {its : List AV} {sb : Cs → Prop} (m : Nat) (hw : ∀ q : List AV → (Cs → Prop) → Cs → Prop, q its sb C → w ρ C q) (hsb : sb C) (hl : its.length = m) (hm : m ≤ 100000)
    (he : ∀ (i : Nat) x, its[i]? = some x → ∀ q : AV → Cs → Prop, q (.d (.int 0)) C → g x (awipe ρ vs) C fun ρ2 C2 => e ρ2 C2 q) (h : q (.d (.list ((List.replicate m 0).map encI))) C) : aLc w g atYes e vs ρ C q :=
  i_lcP ((List.replicate m 0).map encI) hw hsb (by rw [List.length_map, List.length_replicate, hl]) (by omega) (fun i x y hx hy q hq => by
    obtain ⟨y, hy2, rfl⟩ := of_atD hy
    have e0 : y = 0 := List.eq_of_mem_replicate (List.mem_of_getElem? hy2)
    subst e0
    exact he i x hx q hq) h
theorem ok_paid (T : Txt P K mg) : FnOk P w K mg base (L2.CX P w) 6 T.d_paid.f T.d_paid.fd ["deal", "family"] (gSp K (sp_out T.C_BadDeal T.C_BadFamily outPay)) := by
  refine fokX T.d_paid.F sc_paid (fun avs C q z h => sp_out_len h) (fun cdv A outer s H P' hr => ?_)
  · refine ⟨_, (apss_cons (aps_expr (ap_callX (ok_need_deal T) (hr.mono (by decide)) T.d_need_deal.g T.d_need_deal.F.kp T.d_need_deal.b (passes_call (takes_of rfl rfl rfl rfl) fun _ _ _ _ h => h) (apa_cons (apv 0) apa_nil)))
        (apss_cons (aps_set 2 sc_paid.nd (ap_callX (ok_need_family T) (hr.mono (by decide)) T.d_need_family.g T.d_need_family.F.kp T.d_need_family.b (passes_call (takes_of rfl rfl rfl rfl) fun _ _ _ _ h => h) (apa_cons (apv 1) (apa_cons (apx (apv 0) api) apa_nil))))
        (apss_cons (aps_set 3 sc_paid.nd (ap_call (ok_closings_of T) (hr.mono (by decide)) T.d_closings_of.g T.d_closings_of.F.kp T.d_closings_of.b pass0 (apa_cons (apv 0) (apa_cons (apv 2) apa_nil))))
        (apss_cons (aps_set 4 sc_paid.nd (ap_call (ok_reading_counts T) (hr.mono (by decide)) T.d_reading_counts.g T.d_reading_counts.F.kp T.d_reading_counts.b pass0 (apa_cons (apv 2) apa_nil)))
        (apss_cons (aps_set 5 sc_paid.nd (ape_lstC apa_nil))
        (apss_cons (aps_for (vs := [6, 7, 8, 9]) (passes_of rfl) rfl (awi_enumT T.b_enumerate (apv 2)) (apg_t (n := 2) rfl (apgs_cons (apg_n (i := 6) sc_paid.nd) (apgs_cons (apg_t (n := 3) rfl (apgs_cons (apg_n (i := 7) sc_paid.nd) (apgs_cons (apg_n (i := 8) sc_paid.nd) (apgs_cons (apg_n (i := 9) sc_paid.nd) apgs_nil)))) apgs_nil))) (apss_cons (aps_set 11 sc_paid.nd (ape_tup (apa_cons (ape_lc [("one", 10)] rfl sc_paid.nd (awi_r1 T.b_range (apx (apv 0) api)) (blkOk_by (N := ["deal", "family", "lines", "closings", "needed", "paid_by", "number", "mark", "is_alive", "children", "one", "nothing", "child", "weighed", "sums", "below", "thing"]) (sc := defScope s_paid) (by decide +kernel)) (fun _ _ _ _ _ => (apg_n (i := 10) sc_paid.nd)) (fun _ _ _ _ _ => apts_nil) (fun _ _ _ _ _ => api)) (apa_cons api apa_nil))))
        (apss_cons (aps_lc 13 [("child", 12)] rfl sc_paid.nd (awi_tup (apv 9)) (blkOk_by (N := ["deal", "family", "lines", "closings", "needed", "paid_by", "number", "mark", "is_alive", "children", "one", "nothing", "child", "weighed", "sums", "below", "thing"]) (sc := defScope s_paid) (by decide +kernel)) (fun _ _ _ _ _ => (apg_n (i := 12) sc_paid.nd)) (fun _ _ _ _ _ => (apts_one (at_gt (apx (apx (apv 0) api) (apx (apx (apv 3) (apv 12)) api)) api))) (fun _ _ _ _ _ => (apv 12)) (sw_true rfl rfl rfl (by decide +kernel)))
        (apss_one (aps_if (apt_w (apw_or (at_eq (apx (apv 4) (apv 6)) api) (apw_o1 (at_eq (apx (apx (apv 3) (apv 6)) api) apstr)))) (apss_one (aps_expr (ap_app (apv 5) (apv 11)))) (apss_one (aps_if (at_eq (apx (apx (apv 3) (apv 6)) api) apstr) (apss_one (aps_expr (ap_app (apv 5) (ape_tup (apa_cons (ape_lc [("one", 10)] rfl sc_paid.nd (awi_r1 T.b_range (apx (apv 0) api)) (blkOk_by (N := ["deal", "family", "lines", "closings", "needed", "paid_by", "number", "mark", "is_alive", "children", "one", "nothing", "child", "weighed", "sums", "below", "thing"]) (sc := defScope s_paid) (by decide +kernel)) (fun _ _ _ _ _ => (apg_n (i := 10) sc_paid.nd)) (fun _ _ _ _ _ => apts_nil) (fun _ _ _ _ _ => (ape_if (at_eq (apv 10) (apv 7)) api api))) (apa_cons api apa_nil)))))) (apss_one (aps_if (at_eqL (huE hr) (apv 13) (ape_lst apa_nil)) (apss_one (aps_expr (ap_app (apv 5) (apv 11)))) (apss_one (aps_expr (ap_app (apv 5) (ap_call (ok_joined_parts T) (hr.mono (by decide)) T.d_joined_parts.g T.d_joined_parts.F.kp T.d_joined_parts.b pass0 (apa_cons (apv 0) (apa_cons (apv 3) (apa_cons (apv 13) (apa_cons (apv 5) apa_nil)))))))))))))))))
        (apss_cons (aps_asg (vs := [14, 15]) (apx (apv 5) (ap_neg api)) (apg_t (n := 2) rfl (apgs_cons (apg_n (i := 14) sc_paid.nd) (apgs_cons (apg_n (i := 15) sc_paid.nd) apgs_nil))))
        (apss_one (aps_ret (ap_tuple T.b_tuple (ape_lc [("thing", 16)] rfl sc_paid.nd (awi_lst (apv 14)) (blkOk_by (N := ["deal", "family", "lines", "closings", "needed", "paid_by", "number", "mark", "is_alive", "children", "one", "nothing", "child", "weighed", "sums", "below", "thing"]) (sc := defScope s_paid) (by decide +kernel)) (fun _ _ _ _ _ => (apg_n (i := 16) sc_paid.nd)) (fun _ _ _ _ _ => apts_nil) (fun _ _ _ _ _ => (ap_call (ok_need_short T) (hr.mono (by decide)) T.d_need_short.g T.d_need_short.F.kp T.d_need_short.b pass0 (apa_cons (ap_call (ok_fraction T) (hr.mono (by decide)) T.d_fraction.g T.d_fraction.F.kp T.d_fraction.b pass0 (apa_cons (apv 16) (apa_cons (apv 15) apa_nil))) apa_nil)))))))))))))), fun avs C q h => ?_⟩
    rcases h with ⟨d, f, rfl, ok, fo, tm, fb, h⟩ | ⟨x, rfl, h⟩ | ⟨d, rfl, ok, hm1, h⟩ | ⟨d, rfl, ok, h⟩
    · have m1 := ok.m1
      have m3 := ok.m3
      have hpos : 0 < f.length := List.length_pos_iff.mpr fo.ne
      walk_at "st"
      refine .inl ⟨d, rfl, ok, ?_⟩
      walk_at "st"
      refine ⟨d.marks, m1, m3, .inl ⟨f, rfl, fo, tm, ?_⟩⟩
      walk_at "st"
      refine ⟨d, f, rfl, ok, fo, ?_⟩
      obtain ⟨cl, ecl⟩ : ∃ cl, cl = clo d f := ⟨_, rfl⟩
      have ck : ClOk d cl := by rw [ecl]; exact clo_ok ok fo
      have cln : cl.length = f.length := by rw [ecl]; exact clo_len
      unfold outPay at h
      rw [← ecl] at h ⊢
      walk_at "st"
      refine ⟨f, rfl, fo.kids, fo.ne, fo.len, fun nd hn => ?_⟩
      walk_at "st"
      refine ⟨by simp, fun a ha => ?_⟩
      refine i_seq ?_
      unfold encF
      refine i_for (fun q hq => hq) (fun i ρ' C' => ∃ y6 y7 y8 y9 y10 y11 y12 y13 ps, ρ' = [some (.d (encD d)), some (.d (.tuple (f.map encL))), some (.d (.tuple (f.map encL))), some (.d (.list (cl.map encC))), some (.d (.list (nd.map encI))), some (.r a), y6, y7, y8, y9, y10, y11, y12, y13, none, none, none] ∧ C' = cup C a (.l (ps.map fun p => AV.d (encP p))) ∧ PayI d cl f nd i ps)
        ⟨none, none, none, none, none, none, none, none, [], rfl, rfl, rfl, fun k hk => absurd hk (Nat.not_lt_zero k)⟩ (fun _ _ _ _ _ => trivial) ?_ ?_
      · rintro i x ρ' C' hx ⟨y6, y7, y8, y9, y10, y11, y12, y13, ps, rfl, rfl, I⟩
        obtain ⟨y, hy, rfl⟩ := enum_get hx
        obtain ⟨l, hl, rfl⟩ := of_atD hy
        have hi : i < f.length := (List.getElem?_eq_some_iff.mp hl).1
        have hlk := fo.kids i l hl
        walk_at "rd"
        walk_at "st"
        refine i_zeros (its := rngL 0 d.marks 1) (sb := fun _ => True) d.marks (fun q hq => ?_) trivial rng_len (by omega) (fun j x hj q hq => ?_) ?_
        · unfold awR1
          walk_at "rd"
          exact ⟨⟨by omega, by omega⟩, hq⟩
        · simp only [ixs, awipe]
          walk_at "rd"
          exact hq
        walk_at "rd"
        refine ⟨by decide, ?_⟩
        have e01 : PyData.tuple [.list ((List.replicate d.marks 0).map encI), .int 1] = encP (List.replicate d.marks 0, 1) := rfl
        rw [e01]
        walk_at "st"
        refine i_lcFM l.kids encI encI (fun k => decide (0 < wt d cl k)) (fun q hq => hq) trivial ?_ (fun j k hk q z hp hnn => ?_) ?_
        · have := fb.few l (List.mem_of_getElem? hl)
          omega
        · have hki := hlk k (List.mem_of_getElem? hk)
          simp only [ixs, awipe]
          walk_at "rd"
          refine rd_wt (by omega) (ck k (by omega)) ?_
          walk_at "rd"
          by_cases hw : 0 < wt d cl k
          · exact iteY (by simpa using hw) (hp (by simpa using hw))
          · exact iteN (by simpa using hw) (hnn (by simpa using hw))
        have hsz : (ps.map fun p => AV.d (encP p)).length < 100000 := by
          rw [List.length_map, I.len]
          have := fb.len
          omega
        have hik : i < cl.length := by omega
        have happ : ∀ p : Pr, cup (cup C a (.l (ps.map fun p => AV.d (encP p)))) a (.l ((ps.map fun p => AV.d (encP p)) ++ [.d (encP p)])) = cup C a (.l ((ps ++ [p]).map fun p => AV.d (encP p))) := fun p => by
          rw [cup_cup, List.map_append]
          rfl
        have hpa := pay_at (d := d) (cl := cl) hl hlk
        have hdv : dpr d cl (f.take i) ∣ dpr d cl (f.take (i + 1)) := dpr_dvd d cl f (Nat.le_succ i)
        walk_at "st"
        refine ix_l (atD_map (getD_at (d := 0) (show i < nd.length by rw [hn.len]; exact hi))) ?_
        walk_at "rd"
        by_cases h0 : nd.getD i 0 = 0
        · refine iteY (by rw [h0]; rfl) ?_
          walk_at "rd"
          walk_at "st"
          exact ⟨a, _, rfl, cup_same, _, cup_same, hsz, _, _, _, _, _, _, _, _, ps ++ [(List.replicate d.marks 0, 1)], rfl, happ _, I.step fun h1 => absurd h1 (by omega)⟩
        · refine iteN (by rw [decide_eq_true_eq]; omega) ?_
          refine rd_tk hik ?_
          walk_at "rd"
          rw [tk_lost]
          by_cases ho : tk cl i = .lost
          · rw [ho] at hpa
            refine iteY (by simpa using ho) ?_
            walk_at "st"
            exact ⟨a, _, rfl, cup_same, _, cup_same, hsz, _, _, _, _, _, _, _, _, ps ++ [(List.replicate d.marks 0, 1)], rfl, happ _, I.step fun h1 => pr_none fun j hj => by rw [hpa]⟩
          · refine iteN (by simpa using ho) ?_
            walk_at "st"
            refine rd_tk hik ?_
            walk_at "rd"
            rw [tk_self]
            by_cases hs : tk cl i = .self
            · rw [hs] at hpa
              refine iteY (by simpa using hs) ?_
              walk_at "st"
              refine ⟨a, _, rfl, cup_same, ?_⟩
              walk_at "rd"
              refine i_lcP ((oneAt d.marks l.mark).map encI) (its := rngL 0 d.marks 1) (sb := fun _ => True) (C1 := cup C a (.l (ps.map fun p => AV.d (encP p)))) (fun q hq => ?_) trivial ?_ ?_ (fun j x y hj hy q hq => ?_) ?_
              · unfold awR1
                walk_at "rd"
                exact ⟨⟨by omega, by omega⟩, hq⟩
              · rw [rng_len, List.length_map]
                unfold oneAt
                rw [List.length_map, List.length_range]
              · rw [rng_len]
                omega
              · obtain ⟨hj2, rfl⟩ := rng_get hj
                obtain ⟨y, hy2, rfl⟩ := of_atD hy
                unfold oneAt at hy2
                rw [List.getElem?_map, List.getElem?_range hj2] at hy2
                cases hy2
                simp only [ixs, awipe]
                walk_at "rd"
                by_cases hm : j = l.mark
                · refine iteY (by rw [decide_eq_true_eq]; omega) ?_
                  simp only [if_pos hm] at hq
                  exact hq
                · refine iteN (by rw [decide_eq_true_eq]; omega) ?_
                  simp only [if_neg hm] at hq
                  exact hq
              · walk_at "rd"
                refine ⟨by decide, _, cup_same, hsz, _, _, _, _, _, _, _, _, ps ++ [(oneAt d.marks l.mark, 1)], rfl, happ (oneAt d.marks l.mark, 1), I.step fun h1 => ?_⟩
                rw [hpa]
                exact pr_self
            · have hli : tk cl i = .lines := by
                cases e : tk cl i with
                | self => exact absurd e hs
                | lost => exact absurd e ho
                | lines => rfl
              refine iteN (by simpa using hs) ?_
              walk_at "st"
              unfold aLst
              walk_at "rd"
              refine ⟨by decide, _, _, rfl, rfl, shp_ints (wkids d cl l.kids), shp_ints [], ?_⟩
              rw [eqv_nil]
              walk_at "rd"
              by_cases hw : wkids d cl l.kids = []
              · refine iteY (by unfold wkids at hw; rw [hw]; rfl) ?_
                walk_at "st"
                rw [hli] at hpa
                refine ⟨a, _, rfl, cup_same, _, cup_same, hsz, _, _, _, _, _, _, _, _, ps ++ [(List.replicate d.marks 0, 1)], rfl, happ _, I.step fun h1 => pr_none fun j hj => ?_⟩
                rw [hpa]
                exact mix_none d cl _ _ _ hw
              · refine iteN (fun z => hw (by unfold wkids; simpa using z)) ?_
                obtain ⟨J, z⟩ := pay_join ok I ck cln fo.kids fb hn hl (by omega) hw hli
                walk_at "st"
                refine ⟨a, _, rfl, cup_same, d, cl, wkids d cl l.kids, a, _, fun k => ps.getD k ([], 1), _, rfl, cup_same, fun k hk => ?_, J, ?_⟩
                · have hki := hlk k ((List.mem_filter.mp hk).1)
                  exact at_map (getD_at (d := ([], 1)) (by rw [I.len]; exact hki))
                · exact ⟨_, cup_same, hsz, _, _, _, _, _, _, _, _, ps ++ [joined d cl (fun k => ps.getD k ([], 1)) (wkids d cl l.kids)], rfl, happ _, I.step fun _ => z⟩
      · rintro ρ' C' ⟨y6, y7, y8, y9, y10, y11, y12, y13, ps, rfl, rfl, I⟩
        rw [enum_len, List.length_map] at I
        have pk := I.ok (f.length - 1) (by omega) hn.last
        rw [List.take_length] at pk
        have hlast : (ps.map fun p => AV.d (encP p)).getLast? = some (.d (encP (ps.getD (f.length - 1) ([], 1)))) := by
          rw [List.getLast?_eq_getElem?, List.length_map, I.len]
          exact at_map (getD_at (d := ([], 1)) (by rw [I.len]; omega))
        obtain ⟨p, ep⟩ : ∃ p, p = ps.getD (f.length - 1) ([], 1) := ⟨_, rfl⟩
        rw [← ep] at pk hlast
        walk_at "st"
        refine ix_c1 cup_same hlast ?_
        unfold encP
        walk_at "rd"
        walk_at "st"
        have dl : dpr d cl f < 2 ^ 1000 := by
          have z := dpr_lt ok cl fb f.length
          rwa [List.take_length] at z
        have pd : p.2 < 2 ^ 1000 := Nat.lt_of_le_of_lt (Nat.le_of_dvd (dpr_pos d cl f) pk.dv) dl
        refine i_lcM p.1 encI (fun (n : Nat) => encQ ((n : Rat) / (p.2 : Rat))) (fun q hq => hq) trivial (by rw [pk.len]; omega) (fun j n hj q hq => ?_) ?_
        · simp only [ixs, awipe]
          walk_at "rd"
          refine ⟨n, p.2, rfl, pk.pos, bd_1 pd, _, rfl, ?_, hq⟩
          rw [(rat_low n p.2 pk.pos).2]
          exact Nat.lt_of_le_of_lt (Nat.div_le_self _ _) pd
        · refine ⟨_, _, rfl, rfl, Ret.sub (Sub.cup ha) ?_⟩
          have e : (p.1.map fun (n : Nat) => encQ ((n : Rat) / (p.2 : Rat))) = (List.range d.marks).map fun i => encQ (rAt (pay d cl f) (f.length - 1) i) := by
            apply List.ext_getElem?
            intro j
            by_cases hj : j < d.marks
            · rw [List.getElem?_map, List.getElem?_map, List.getElem?_range hj, getD_at (d := 0) (show j < p.1.length by rw [pk.len]; exact hj)]
              exact congrArg (fun r => some (encQ r)) (pk.val j hj)
            · rw [List.getElem?_eq_none (by rw [List.length_map, pk.len]; omega), List.getElem?_eq_none (by rw [List.length_map, List.length_range]; omega)]
          rw [e]
          exact h
    · walk_at "st"
      exact .inr ⟨rfl, h⟩
    · walk_at "st"
      refine .inl ⟨d, rfl, ok, ?_⟩
      walk_at "st"
      exact ⟨d.marks, ok.m1, ok.m3, .inr (.inl ⟨rfl, hm1, h⟩)⟩
    · walk_at "st"
      refine .inl ⟨d, rfl, ok, ?_⟩
      walk_at "st"
      exact ⟨d.marks, ok.m1, ok.m3, .inr (.inr ⟨rfl, h⟩)⟩
end
end AB

set_option Elab.async false
set_option linter.all false
set_option maxRecDepth 100000
set_option maxHeartbeats 4000000
/-! Layer A: a dict display of three. -/
namespace AB
open PySem PySem.Spec PyProof.Rows L2
def aDisp3 (x y z : Str) (a b c : AE) : AE := fun ρ C q => ∀ p, C p = none → a ρ (cup C p (.k [])) fun u C1 => b ρ C1 fun v C2 => c ρ C2 fun w C3 => C3 p = some (.k []) ∧ q (.r p) (cup C3 p (.k [(.inr x, u), (.inr y, v), (.inr z, w)]))
section
variable {X : Cx} {P : Par} {a b c : Expr} {aa ab ac : AE} {x y z : Str} {j1 j2 j3 : Nat} {p1 p2 p3 pos : Pos}
theorem ap_disp3 (ha : APE X P a aa) (hb : APE X P b ab) (hc : APE X P c ac) (n1 : x ≠ y) (n2 : x ≠ z) (n3 : y ≠ z) :
    APE X P (.Dict [some (.Constant (.str x) j1 p1), some (.Constant (.str y) j2 p2), some (.Constant (.str z) j3 p3)] [a, b, c] pos) (aDisp3 x y z aa ab ac) :=
  pe_mono (pe_disp (pps_cons pe_str ha (pps_cons pe_str hb (pps_cons pe_str hc pps_nil))) rfl rfl (by simp) (by simp)) fun σ H Q h => by
    obtain ⟨G, C, ρ, q, hA, hw, fin⟩ := h
    intro p np
    have s0 := Stp.cell (c := .k []) hA.rel np ⟨[], upd_same, .nil⟩
    have A1 := hA.step s0
    refine ⟨G, _, ρ, _, A1, hw p (hA.rel.none np).2, fun u au G1 C1 H1 s1 r1 h1 => ?_⟩
    refine ⟨G1, C1, ρ, _, A1.step s1, h1, fun v av G2 C2 H2 s2 r2 h2 => ?_⟩
    refine ⟨G2, C2, ρ, _, A1.step (s1.trans s2), h2, fun w aw G3 C3 H3 s3 r3 h3 => ?_⟩
    obtain ⟨e3, h3⟩ := h3
    obtain ⟨_, vs, f, rk⟩ := s3.rel.cell p _ e3
    cases rk
    refine ⟨f, [(.inr x, u), (.inr y, v), (.inr z, w)], rfl, by simp, ?_⟩
    have em : mergeK [] [(.inr x, u), (.inr y, v), (.inr z, w)] = [(.inr x, u), (.inr y, v), (.inr z, w)] := by
      simp [mergeK, putK, n1, n2, n3]
    rw [em]
    have s4 := Stp.put (c := .k [(.inr x, au), (.inr y, av), (.inr z, aw)]) (o := .dK [(.inr x, u), (.inr y, v), (.inr z, w)]) s3.rel e3 ⟨_, upd_same, .cons ⟨rfl, (r1.mono s2.ex).mono s3.ex⟩ (.cons ⟨rfl, r2.mono s3.ex⟩ (.cons ⟨rfl, r3⟩ .nil))⟩
    exact fin _ _ _ _ _ ((((s0.trans s1).trans s2).trans s3).trans s4) rv_r h3
end
end AB
namespace AB
open PySem PySem.Spec PyProof.Rows L2
section
variable {X : Cx} {P : Par} {ar : AA}
/-- x, y = a, b where a closure holds x or y: by way of a tuple -/
theorem aps_parT (i j : Nat) {x y : Str} {a b : Expr} {px py pt pos : Pos} {kt k2 pt2} (hc : X.calm = true) (hN : X.N.Nodup) (ha : APA X P [a, b] ar) (hi : X.N[i]? = some x := by rfl) (hj : X.N[j]? = some y := by rfl)
    (hx : Loc X.env.scope x := by first | exact Or.inl rfl | exact Or.inr rfl) (hy : Loc X.env.scope y := by first | exact Or.inl rfl | exact Or.inr rfl)
    (fx : X.fn x = true ∨ X.env.scope.names.lookup x = some .local := by first | exact .inl rfl | exact .inr rfl) (fy : X.fn y = true ∨ X.env.scope.names.lookup y = some .local := by first | exact .inl rfl | exact .inr rfl)
    (hw : swappedStores [.Tuple [.Name x px, .Name y py] kt pt] (.Tuple [a, b] k2 pt2) X.env = pure none := by rfl)
    (hs : swapsWithSole [.Tuple [.Name x px, .Name y py] kt pt] (.Tuple [a, b] k2 pt2) pos.line X.env = pure false := by rfl) :
    APS X P (.Assign [.Tuple [.Name x px, .Name y py] kt pt] (.Tuple [a, b] k2 pt2) pos) (aPar i j ar) :=
  aps_of (ps_asg (pe_tup ha) (pg_tup (n := 2) hc (pgs_cons (pg_name (i := i) hN hi hx fx) (pgs_cons (pg_name (i := j) hN hj hy fy) pgs_nil rfl) rfl) rfl rfl) hs hw rfl) fun G C H σ ρ k D hA hw en => ⟨G, C, ρ, _, hA, hw, fun vs avs G1 C1 H1 s1 r1 q1 => by
    split at q1
    · obtain ⟨u1, u2, rfl, r1, r2⟩ : ∃ u1 u2, vs = [u1, u2] ∧ Rv X.K G1 u1 _ ∧ Rv X.K G1 u2 _ := by
        cases r1 with
        | cons r1 r2 =>
          cases r2 with
          | cons r2 r3 =>
            cases r3
            exact ⟨_, _, rfl, r1, r2⟩
      refine ⟨by simp [sizeLine], fun p np => ?_⟩
      have s3 := Stp.data (o := .tup [u1, u2]) s1.rel np
      have s2 := s1.trans s3
      refine ⟨p, _, rfl, SqT.of upd_same, rfl, _, _, rfl, _, _, rfl, rfl, ?_⟩
      exact en.nx _ _ _ C1 _ s2 (((hA.rs.mono s2.ex).set (r1.mono s3.ex)).set (r2.mono s3.ex)) q1
    · exact q1.elim⟩
end
end AB

set_option Elab.async false
set_option linter.all false
set_option maxRecDepth 100000
set_option maxHeartbeats 4000000
/-! The walks: the law's draws. -/
namespace AB
open PySem PySem.Spec PyProof.Rows L2
abbrev kCells : Key := .inr "cells"
abbrev kGreat : Key := .inr "great"
abbrev kSpot : Key := .inr "spot"
def mKv (cs : List Nat) (ag : Addr) (s : Nat) : List (Key × AV) := [(kCells, .d (.list (cs.map encI))), (kGreat, .r ag), (kSpot, .d (.int (s : Nat)))]
theorem ne_cg : ¬ kCells = kGreat := by decide +kernel
theorem ne_cs : ¬ kCells = kSpot := by decide +kernel
theorem ne_gs : ¬ kGreat = kSpot := by decide +kernel
section
variable {x y z : AV}
theorem av_cells : aval [(kCells, x), (kGreat, y), (kSpot, z)] kCells = some x := by simp [aval]
theorem av_great : aval [(kCells, x), (kGreat, y), (kSpot, z)] kGreat = some y := by
  unfold aval
  rw [List.find?_cons_of_neg (by simpa using ne_cg), List.find?_cons_of_pos (by simp)]
  rfl
theorem av_spot : aval [(kCells, x), (kGreat, y), (kSpot, z)] kSpot = some z := by
  unfold aval
  rw [List.find?_cons_of_neg (by simpa using ne_cs), List.find?_cons_of_neg (by simpa using ne_gs), List.find?_cons_of_pos (by simp)]
  rfl
theorem put_spot {u : AV} : aput [(kCells, x), (kGreat, y), (kSpot, z)] kSpot u = [(kCells, x), (kGreat, y), (kSpot, u)] := by
  unfold aput
  rw [if_pos (by simp)]
  simp only [List.map_cons, List.map_nil, if_neg ne_cs, if_neg ne_gs, if_true]
theorem put_great {u : AV} : aput [(kCells, x), (kGreat, y), (kSpot, z)] kGreat u = [(kCells, x), (kGreat, u), (kSpot, z)] := by
  unfold aput
  rw [if_pos (by simp)]
  simp only [List.map_cons, List.map_nil, if_neg ne_cg, if_neg fun h => ne_gs (Eq.symm h), if_true]
end
/-- the draws' cells stand, at most n draws were made; all other cells are those of C0 -/
structure DS (C0 C : Cs) (am ag : Addr) (n : Nat) : Prop where
  ne : am ≠ ag
  ex : ∃ (cs gs : List Nat) (s : Nat), C am = some (.k (mKv cs ag s)) ∧ C ag = some (.l (gs.map cI)) ∧ cs.length = 64 ∧ (∀ c ∈ cs, c < 2 ^ 31) ∧ s ≤ n
  rest : ∀ b, b ≠ am → b ≠ ag → C b = C0 b
theorem DS.mono {C0 C : Cs} {am ag : Addr} {n m : Nat} (h : DS C0 C am ag n) (hm : n ≤ m) : DS C0 C am ag m := by
  obtain ⟨cs, gs, s, h1, h2, h3, h4, h5⟩ := h.ex
  exact ⟨h.ne, ⟨cs, gs, s, h1, h2, h3, h4, Nat.le_trans h5 hm⟩, h.rest⟩
theorem DS.am {C0 C : Cs} {am ag : Addr} {n : Nat} (h : DS C0 C am ag n) : C am ≠ none := by
  obtain ⟨cs, gs, s, h1, h2, h3, h4, h5⟩ := h.ex
  rw [h1]
  exact fun z => by cases z
theorem DS.ag {C0 C : Cs} {am ag : Addr} {n : Nat} (h : DS C0 C am ag n) : C ag ≠ none := by
  obtain ⟨cs, gs, s, h1, h2, h3, h4, h5⟩ := h.ex
  rw [h2]
  exact fun z => by cases z
/-- a further cell beside -/
theorem DS.cup {C0 C : Cs} {am ag p : Addr} {n : Nat} {c : Cell} (h : DS C0 C am ag n) (h1 : p ≠ am) (h2 : p ≠ ag) : DS (cup C0 p c) (cup C p c) am ag n := by
  obtain ⟨cs, gs, s, e1, e2, h3, h4, h5⟩ := h.ex
  refine ⟨h.ne, ⟨cs, gs, s, by rw [cup_ne (Ne.symm h1)]; exact e1, by rw [cup_ne (Ne.symm h2)]; exact e2, h3, h4, h5⟩, fun b b1 b2 => ?_⟩
  by_cases e : b = p
  · rw [e, cup_same, cup_same]
  · rw [cup_ne e, cup_ne e]
    exact h.rest b b1 b2
theorem DS.other {C0 C : Cs} {am ag : Addr} {n : Nat} (h : DS C0 C am ag n) {p : Addr} {c : Cell} (h1 : p ≠ am) (h2 : p ≠ ag) (h0 : C0 p = some c) : C p = some c := by
  rw [h.rest p h1 h2]
  exact h0
theorem DS.new {C0 C : Cs} {am ag p : Addr} {n : Nat} (h : DS C0 C am ag n) (hp : C p = none) : p ≠ am ∧ p ≠ ag := ⟨fun e => h.am (by rw [← e]; exact hp), fun e => h.ag (by rw [← e]; exact hp)⟩
theorem shp_intsI (ks : List Nat) : SeqAt.shaped (.list ((ks.map encI))) = true := shp_ints ks
theorem map_cI (l : List Nat) : l.map cI = (l.map encI).map AV.d := by
  rw [List.map_map]
  rfl
section
variable {P : Program} {w : World} {K : PySem.W.Frag} {mg : Str → Option Value} {base : Heap}
local macro_rules | `(tactic| walk_at "rd") => `(tactic| try simp only [astart, List.map_cons, List.map_nil, List.length_cons, List.length_nil, List.replicate_succ, List.replicate_zero, List.cons_append, List.nil_append, aVar, aC, aOp, arI, arI0, arB, onI2, onB, aTest, aChain, aAnd, aOr, aNot, aAndV, aOrV, aNotV, aIf, aNil, aCons, aIsi, aNext, aCB, acLen, aCall, g_n, g_tup2, g_tup3, g_tup4, g_tup13, aNeg, aTup, aLst, aDGet, aDPut, agSub, allD, arIx_t0, arIx_t1, arIx_t2, arIx_t3, encD_0, encD_1, encD_2, encD_3, encC_0, encC_1, encQ_0, encQ_1, arEq_i, arEq_s, ac2I_i, acInt_i, List.getElem?_cons_zero, List.getElem?_cons_succ, List.set_cons_zero, List.set_cons_succ, if_true, if_false, Bool.false_eq_true, Bool.not_true, Bool.not_false, Bool.false_xor, isInt_int, withinD_int, tupD_tup, encL, encI, sp_is_whole, sp_is_within, sp_is_truth, sp_is_tuple_of, sp_is_word_of])
local macro_rules | `(tactic| walk_at "st") => `(tactic| ((try dsimp only); (try refine i_seq ?_); (first | refine i_set ?_ | refine i_if ?_ | refine i_ret ?_ | refine i_asg ?_ | refine i_drop ?_ | refine i_par ?_ | refine i_par3 ?_ | refine i_next ?_); (walk_at "rd")))
def sp__law_draw : ASp := fun avs C q _ => ∃ (am ag : Addr) (lim n : Nat) (C0 : Cs), avs = [.r am, .d (.int (lim : Nat))] ∧ 0 < lim ∧ lim < 2 ^ 60 ∧ n < 2 ^ 60 ∧ DS C0 C am ag n ∧ ∀ (r : Nat) (C' : Cs), r < lim → DS C0 C' am ag (n + 1) → q (.d (.int (r : Nat))) C'
theorem ok__law_draw (T : Txt P K mg) : FnOk P w K mg base CX0 2 T.d__law_draw.f T.d__law_draw.fd ["_law_m", "_law_limit"] (gSp K sp__law_draw) := by
  refine fok T.d__law_draw.F sc__law_draw (fun avs C q z h => ?_) (fun cdv A outer s H P' hr => ?_)
  · obtain ⟨am, ag, lim, n, C0, rfl, _⟩ := h
    rfl
  · refine ⟨_, (apss_cons (aps_set 2 sc__law_draw.nd (ap_dget (hu_of hr) (apv 0) apstr))
        (apss_cons (aps_dput (hu_of hr) (apv 0) apstr (ap_add (apv 2) api))
        (apss_cons (aps_if (at_neL (huE hr) (ap_dget (hu_of hr) (apv 0) apstr) (ape_lst apa_nil)) (apss_cons (aps_set 3 sc__law_draw.nd (ap_dget (hu_of hr) (apv 0) apstr))
        (apss_cons (aps_set 4 sc__law_draw.nd (ap_mod (ap_int T.b_int (apv 2)) (ap_len T.b_len (apv 3))))
        (apss_cons (aps_set 5 sc__law_draw.nd (apx (apv 3) (apv 4)))
        (apss_one (aps_if (at_gt (apv 5) api) (apss_cons (aps_asg (vs := []) (ap_div (apv 5) (apv 1)) (apg_s (apv 3) (apv 4)))
        (apss_one (aps_ret (ap_mod (ap_int T.b_int (apv 5)) (apv 1))))) apss_nil))))) apss_nil)
        (apss_cons (aps_set 3 sc__law_draw.nd (ap_dget (hu_of hr) (apv 0) apstr))
        (apss_one (aps_ret (ap_mod (ap_int T.b_int (ap_call (ok__law_mixed T) (hr.mono (by decide)) T.d__law_mixed.g T.d__law_mixed.F.kp T.d__law_mixed.b pass0 (apa_cons (ap_call (ok__law_mixed T) (hr.mono (by decide)) T.d__law_mixed.g T.d__law_mixed.F.kp T.d__law_mixed.b pass0 (apa_cons (ap_add (apx (apv 3) (ap_mod (ap_int T.b_int (apv 2)) api)) (ap_mul api (ap_div (apv 2) api))) (apa_cons (apv 2) apa_nil))) (apa_cons (ap_add (apv 2) api) apa_nil)))) (apv 1)))))))), fun avs C q h => ?_⟩
    obtain ⟨am, ag, lim, n, C0, rfl, l0, l1, hn, D, h⟩ := h
    obtain ⟨cs, gs, s, h1, h2, h3, h4, h5⟩ := D.ex
    have s60 : s < 2 ^ 60 := Nat.lt_of_le_of_lt h5 hn
    have lB : lim < Bd := Nat.lt_of_lt_of_le l1 (by decide +kernel)
    have D1 : DS C0 (cup C am (.k (mKv cs ag (s + 1)))) am ag (n + 1) := ⟨D.ne, ⟨cs, gs, s + 1, cup_same, by rw [cup_ne (Ne.symm D.ne)]; exact h2, h3, h4, by omega⟩, fun b b1 b2 => by rw [cup_ne b1]; exact D.rest b b1 b2⟩
    have h2' : cup C am (.k (mKv cs ag (s + 1))) ag = some (.l (gs.map cI)) := by rw [cup_ne (Ne.symm D.ne)]; exact h2
    walk_at "st"
    refine ⟨am, _, _, _, rfl, rfl, .inl h1, av_spot, ?_⟩
    refine i_seq ?_
    walk_at "rd"
    refine ⟨am, _, kSpot, rfl, rfl, h1, by unfold mKv; simp, ?_⟩
    unfold mKv
    rw [put_spot]
    have e1 : ((s : Nat) : Int) + 1 = ((s + 1 : Nat) : Int) := by omega
    rw [e1]
    have D1' : DS C0 (cup C am (.k [(kCells, .d (.list (cs.map encI))), (kGreat, .r ag), (kSpot, .d (.int ((s + 1 : Nat) : Int)))])) am ag (n + 1) := D1
    obtain ⟨C1, eC⟩ : ∃ C1, C1 = cup C am (.k [(kCells, .d (.list (cs.map encI))), (kGreat, .r ag), (kSpot, .d (.int ((s + 1 : Nat) : Int)))]) := ⟨_, rfl⟩
    have k1 : C1 am = some (.k [(kCells, .d (.list (cs.map encI))), (kGreat, .r ag), (kSpot, .d (.int ((s + 1 : Nat) : Int)))]) := by rw [eC]; exact cup_same
    have k2 : C1 ag = some (.l (gs.map cI)) := by rw [eC]; exact h2'
    rw [← eC] at D1' ⊢
    have fin : ∀ ρ y3 y4 y5, ρ = [some (.r am), some (.d (.int (lim : Nat))), some (.d (.int (s : Nat))), y3, y4, y5] →
        aSeq (aSet 3 (aDGet (aVar 0) (aC (.str "cells")))) (aRet (aOp (arI (fun _ j => 0 < j) fun i j => i % j) (aCB acInt (aCons (aCall sp__law_mixed (fun _ _ => False) (aCons (aCall sp__law_mixed (fun _ _ => False)
          (aCons (aOp (arI0 fun i j => i + j) (aOp arIx (aVar 3) (aOp (arI (fun _ j => 0 < j) fun i j => i % j) (aCB acInt (aCons (aVar 2) aNil)) (aC (.int 64)))) (aOp (arI CMulW fun i j => i * j) (aC (.int 31)) (aOp (arI CDivW fun i j => i / j) (aVar 2) (aC (.int 64))))) (aCons (aVar 2) aNil)))
          (aCons (aOp (arI0 fun i j => i + j) (aVar 2) (aC (.int 7))) aNil))) aNil)) (aVar 1))) { nx := fun x C' => Ret q (.d .none) C', rt := Ret q } ρ C1 := by
      rintro ρ y3 y4 y5 rfl
      walk_at "st"
      refine ⟨am, _, _, _, rfl, rfl, .inl k1, av_cells, ?_⟩
      walk_at "st"
      have hm : s % 64 < cs.length := by omega
      refine ⟨by decide, ?_⟩
      refine ix_l (k := s % 64) (atD_map (getD_at (d := 0) hm)) ?_
      have hc : cs.getD (s % 64) 0 < 2 ^ 31 := h4 _ (List.mem_of_getElem? (getD_at (d := 0) hm))
      have b0 : ∀ {a : Nat}, a < 2 ^ 256 → a < Bd := fun h => Nat.lt_of_lt_of_le h (by decide +kernel)
      refine ⟨cdivN (b := 64) (by decide) (b0 (by decide)), cmulN (a := 31) (b := s / 64) (b0 (by decide)) (b0 (by omega)), ?_⟩
      refine ⟨cs.getD (s % 64) 0 + 31 * (s / 64), s, ?_, by omega, by omega, fun r hr2 => ?_⟩
      · have e : ((cs.getD (s % 64) 0 : Nat) : Int) + 31 * ((s : Nat) / 64 : Int) = ((cs.getD (s % 64) 0 + 31 * (s / 64) : Nat) : Int) := by omega
        rw [← e]
      walk_at "rd"
      refine ⟨r, s + 7, rfl, by omega, by omega, fun r2 hr3 => ?_⟩
      walk_at "rd"
      refine ⟨by omega, Ret.of ?_⟩
      rw [← Int.natCast_emod]
      exact h _ C1 (Nat.mod_lt _ l0) D1'
    walk_at "st"
    refine ⟨am, _, _, _, rfl, rfl, .inl k1, av_great, by decide, _, _, ⟨gs.map encI, by rw [k2, map_cI], rfl⟩, rfl, shp_ints gs, shp_ints [], ?_⟩
    rw [eqv_nil]
    walk_at "rd"
    cases gs with
    | nil =>
      refine iteN (by simp) ?_
      exact fin _ _ _ _ rfl
    | cons g0 gr =>
      refine iteY (by simp) ?_
      generalize hgs : g0 :: gr = gs at *
      have hg0 : 0 < gs.length := by rw [← hgs]; simp
      walk_at "st"
      refine ⟨am, _, _, _, rfl, rfl, .inl k1, av_great, ?_⟩
      walk_at "st"
      refine ⟨_, k2, by rw [List.length_map]; omega, ?_⟩
      rw [List.length_map, ← Int.natCast_emod]
      have hmod : s % gs.length < gs.length := Nat.mod_lt _ hg0
      walk_at "st"
      refine ix_c k2 (at_map (getD_at (d := 0) hmod)) ?_
      simp only [cI]
      walk_at "st"
      by_cases hz : 0 < gs.getD (s % gs.length) 0
      · refine iteY (by rw [decide_eq_true_eq]; omega) ?_
        walk_at "st"
        refine ⟨cdivN l0 lB, ag, _, _, s % gs.length, rfl, rfl, k2, by rw [List.length_map]; exact ixN_nat hmod, ?_⟩
        walk_at "st"
        refine ⟨by omega, Ret.of ?_⟩
        rw [← Int.natCast_emod, ← Int.natCast_ediv]
        refine h _ _ (Nat.mod_lt _ l0) ⟨D.ne, ⟨cs, gs.set (s % gs.length) (gs.getD (s % gs.length) 0 / lim), s + 1, ?_, ?_, h3, h4, by omega⟩, fun b b1 b2 => ?_⟩
        · rw [cup_ne D.ne]
          exact k1
        · rw [cup_same, List.map_set]
          rfl
        · rw [cup_ne b2]
          exact D1'.rest b b1 b2
      · refine iteN (by rw [decide_eq_true_eq]; omega) ?_
        exact fin _ _ _ _ rfl
end
end AB

set_option Elab.async false
set_option linter.all false
set_option maxRecDepth 100000
set_option maxHeartbeats 4000000
/-! The walks: the law's folded script, its beginning. -/
namespace AB
open PySem PySem.Spec PyProof.Rows L2
def CsOk (cs : List Nat) : Prop := cs.length = 64 ∧ ∀ c ∈ cs, c < 2 ^ 31
theorem CsOk.set {cs : List Nat} (h : CsOk cs) {i v : Nat} (hv : v < 2 ^ 31) : CsOk (cs.set i v) := by
  refine ⟨by rw [List.length_set]; exact h.1, fun c hc => ?_⟩
  rcases List.mem_or_eq_of_mem_set hc with z | z
  · exact h.2 c z
  · rw [z]
    exact hv
theorem CsOk.get {cs : List Nat} (h : CsOk cs) {i : Nat} (hi : i < 64) : cs.getD i 0 < 2 ^ 31 := h.2 _ (List.mem_of_getElem? (getD_at (d := 0) (by rw [h.1]; exact hi)))
theorem mod_nat {z : Int} : ∃ v : Nat, v < 2 ^ 31 ∧ z % 2147483647 = (v : Nat) := ⟨(z % 2147483647).toNat, by omega, by omega⟩
section
variable {P : Program} {w : World} {K : PySem.W.Frag} {mg : Str → Option Value} {base : Heap}
local macro_rules | `(tactic| walk_at "rd") => `(tactic| try simp only [astart, List.map_cons, List.map_nil, List.length_cons, List.length_nil, List.replicate_succ, List.replicate_zero, List.cons_append, List.nil_append, aVar, aC, aOp, arI, arI0, arB, onI2, onB, aTest, aChain, aAnd, aOr, aNot, aAndV, aOrV, aNotV, aIf, aNil, aCons, aIsi, aNext, aCB, acLen, aCall, g_n, g_tup2, g_tup3, g_tup4, g_tup13, aNeg, aTup, aLst, aDGet, aDPut, agSub, allD, arIx_t0, arIx_t1, arIx_t2, arIx_t3, encD_0, encD_1, encD_2, encD_3, encC_0, encC_1, encQ_0, encQ_1, arEq_i, arEq_s, ac2I_i, acInt_i, List.getElem?_cons_zero, List.getElem?_cons_succ, List.set_cons_zero, List.set_cons_succ, if_true, if_false, Bool.false_eq_true, Bool.not_true, Bool.not_false, Bool.false_xor, isInt_int, withinD_int, tupD_tup, encL, encI, sp_is_whole, sp_is_within, sp_is_truth, sp_is_tuple_of, sp_is_word_of])
local macro_rules | `(tactic| walk_at "st") => `(tactic| ((try dsimp only); (try refine i_seq ?_); (first | refine i_set ?_ | refine i_if ?_ | refine i_ret ?_ | refine i_asg ?_ | refine i_drop ?_ | refine i_par ?_ | refine i_par3 ?_ | refine i_next ?_); (walk_at "rd")))
def sp__law_folded : ASp := fun avs C q _ => ∃ ns : List Int, avs = [.d (.list (ns.map .int))] ∧ ∀ cs, CsOk cs → q (.d (.list (cs.map encI))) C
theorem ok__law_folded (T : Txt P K mg) : FnOk P w K mg base CX0 1 T.d__law_folded.f T.d__law_folded.fd ["_law_script"] (gSp K sp__law_folded) := by
  refine fok T.d__law_folded.F sc__law_folded (fun avs C q z h => ?_) (fun cdv A outer s H P' hr => ?_)
  · obtain ⟨ns, rfl, _⟩ := h
    rfl
  · refine ⟨_, (apss_cons (aps_lcC 2 [("_law_n", 1)] rfl sc__law_folded.nd (awi_r1 T.b_range api) (blkOk_by (N := ["_law_script", "_law_n", "_law_found", "_law_cell"]) (sc := defScope s__law_folded) (by decide +kernel)) (fun _ _ _ _ _ => (apg_n (i := 1) sc__law_folded.nd)) (fun _ _ _ _ _ => apts_nil) (fun _ _ _ _ _ => (ap_add api (apv 1))) (sw_true rfl rfl rfl (by decide +kernel)))
        (apss_cons (aps_for (vs := [1, 3]) PassesOwn.never rfl (awi_enumL T.b_enumerate (apv 0)) (apg_t (n := 2) rfl (apgs_cons (apg_n (i := 1) sc__law_folded.nd) (apgs_cons (apg_n (i := 3) sc__law_folded.nd) apgs_nil))) (apss_one (aps_asg (vs := []) (ap_mod (ap_int T.b_int (ap_add (ap_mul (apx (apv 2) (ap_mod (ap_int T.b_int (apv 1)) api)) api) (apv 3))) api) (apg_s (apv 2) (ap_mod (ap_int T.b_int (apv 1)) api)))))
        (apss_cons (aps_for (vs := [1]) PassesOwn.never rfl (awi_r2 T.b_range api api) (apg_n (i := 1) sc__law_folded.nd) (apss_one (aps_asg (vs := []) (ap_mod (ap_int T.b_int (ap_add (apx (apv 2) (apv 1)) (ap_mul (apx (apv 2) (ap_sub (apv 1) api)) api))) api) (apg_s (apv 2) (apv 1)))))
        (apss_one (aps_ret (apv 2)))))), fun avs C q h => ?_⟩
    obtain ⟨ns, rfl, h⟩ := h
    have b0 : ∀ {a : Nat}, a < 2 ^ 256 → a < Bd := fun h => Nat.lt_of_lt_of_le h (by decide +kernel)
    walk_at "st"
    refine i_lcPC (((List.range 64).map fun i => 17 + i).map cI) (its := rngL 0 64 1) (sb := fun _ => True) (C1 := C) (fun q hq => ?_) trivial (by rw [rng_len]; rfl) (by rw [rng_len]; decide) (fun i x y hx hy q hq => ?_) (fun a ha => ?_)
    · unfold awR1
      walk_at "rd"
      exact ⟨⟨by decide, by decide⟩, hq⟩
    · obtain ⟨hi, rfl⟩ := rng_get hx
      rw [List.getElem?_map, List.getElem?_map, List.getElem?_range hi] at hy
      cases hy
      simp only [ixs, awipe]
      walk_at "rd"
      have e : (17 : Int) + (0 + (i : Int) * 1) = ((17 + i : Nat) : Int) := by omega
      rw [e]
      exact hq
    refine i_seq ?_
    refine i_for (fun q hq => hq) (fun i ρ' C' => ∃ y1 y3 cs, ρ' = [some (.d (.list (ns.map .int))), y1, some (.r a), y3] ∧ C' = cup C a (.l (cs.map cI)) ∧ CsOk cs)
      ⟨none, none, (List.range 64).map fun i => 17 + i, rfl, rfl, by simp, fun c hc => ?_⟩ (fun _ _ _ _ _ => trivial) ?_ ?_
    · obtain ⟨i, hi, rfl⟩ := List.mem_map.mp hc
      have := List.mem_range.mp hi
      omega
    · rintro i x ρ' C' hx ⟨y1, y3, cs, rfl, rfl, hc⟩
      obtain ⟨y, hy, rfl⟩ := enum_get hx
      obtain ⟨n, hn, rfl⟩ := of_atD hy
      have hi : i % 64 < 64 := Nat.mod_lt _ (by decide)
      have hl : i % 64 < cs.length := by rw [hc.1]; exact hi
      walk_at "rd"
      walk_at "st"
      refine ⟨by decide, ?_⟩
      refine ix_c (k := i % 64) cup_same (at_map (getD_at (d := 0) hl)) ?_
      refine ⟨cmulN (a := cs.getD (i % 64) 0) (b := 48271) (b0 (Nat.lt_trans (hc.get hi) (by decide))) (b0 (by decide)), ?_⟩
      walk_at "rd"
      obtain ⟨v, hv, ev⟩ := mod_nat (z := (cs.getD (i % 64) 0 : Nat) * 48271 + n)
      refine ⟨by decide, by decide, a, _, _, i % 64, rfl, rfl, cup_same, by rw [List.length_map]; exact ixN_nat hl, _, _, cs.set (i % 64) v, rfl, ?_, hc.set hv⟩
      rw [cup_cup, ev, List.map_set]
      rfl
    · rintro ρ' C' ⟨y1, y3, cs, rfl, rfl, hc⟩
      dsimp only
      refine i_seq ?_
      refine i_for (its := rngL 1 63 1) (sb := fun _ => True) (fun q hq => ?_) (fun i ρ' C' => ∃ y1 y3 cs, ρ' = [some (.d (.list (ns.map .int))), y1, some (.r a), y3] ∧ C' = cup C a (.l (cs.map cI)) ∧ CsOk cs) ⟨y1, y3, cs, rfl, rfl, hc⟩ (fun _ _ _ _ _ => trivial) ?_ ?_
      · unfold awR2
        walk_at "rd"
        exact ⟨⟨by decide, by decide, by decide, by decide⟩, hq⟩
      · rintro i x ρ' C' hx ⟨y1, y3, cs, rfl, rfl, hc⟩
        obtain ⟨hi, rfl⟩ := rng_get hx
        have e : (1 : Int) + (i : Int) * 1 = ((i + 1 : Nat) : Int) := by omega
        have e2 : ((i + 1 : Nat) : Int) - 1 = ((i : Nat) : Int) := by omega
        have hl : i + 1 < cs.length := by rw [hc.1]; omega
        rw [e]
        walk_at "rd"
        walk_at "st"
        refine ix_c cup_same (at_map (getD_at (d := 0) hl)) ?_
        rw [e2]
        refine ix_c cup_same (at_map (getD_at (d := 0) (show i < cs.length by omega))) ?_
        simp only [cI]
        walk_at "rd"
        refine ⟨cmulN (a := cs.getD i 0) (b := 16807) (b0 (Nat.lt_trans (hc.get (by omega)) (by decide))) (b0 (by decide)), ?_⟩
        obtain ⟨v, hv, ev⟩ := mod_nat (z := (cs.getD (i + 1) 0 : Nat) + (cs.getD i 0 : Nat) * 16807)
        refine ⟨by decide, a, _, _, i + 1, rfl, rfl, cup_same, by rw [List.length_map]; exact ixN_nat hl, _, _, cs.set (i + 1) v, rfl, ?_, hc.set hv⟩
        rw [cup_cup, ev, List.map_set]
        rfl
      · rintro ρ' C' ⟨y1, y3, cs, rfl, rfl, hc⟩
        walk_at "st"
        exact Ret.frz (Sub.cup ha) (cup_same.trans (by rw [map_cI])) ha (h cs hc)
def sp__law_begun : ASp := fun avs C q _ => ∃ ns : List Int, avs = [.d (.list (ns.map .int))] ∧ ns.length ≤ 100000 ∧ ∀ am ag C', C am = none → C ag = none → DS C C' am ag 0 → q (.r am) C'
theorem ok__law_begun (T : Txt P K mg) : FnOk P w K mg base CX0 2 T.d__law_begun.f T.d__law_begun.fd ["_law_script"] (gSp K sp__law_begun) := by
  refine fok T.d__law_begun.F sc__law_begun (fun avs C q z h => ?_) (fun cdv A outer s H P' hr => ?_)
  · obtain ⟨ns, rfl, _⟩ := h
    rfl
  · refine ⟨_, (apss_cons (aps_set 1 sc__law_begun.nd (ap_disp3 (ap_call (ok__law_folded T) (hr.mono (by decide)) T.d__law_folded.g T.d__law_folded.F.kp T.d__law_folded.b pass0 (apa_cons (apv 0) apa_nil)) (ape_lst apa_nil) api (by decide) (by decide) (by decide)))
        (apss_cons (aps_dput (hu_of hr) (apv 1) apstr (ape_lcC [("_law_cell", 2)] rfl sc__law_begun.nd (awi_lst (apv 0)) (blkOk_by (N := ["_law_script", "_law_m", "_law_cell"]) (sc := defScope s__law_begun) (by decide +kernel)) (fun _ _ _ _ _ => (apg_n (i := 2) sc__law_begun.nd)) (fun _ _ _ _ _ => apts_nil) (fun _ _ _ _ _ => (ape_if (at_ge (apv 2) (ap_pow api api)) (apv 2) api))))
        (apss_one (aps_ret (apv 1))))), fun avs C q h => ?_⟩
    obtain ⟨ns, rfl, hl, h⟩ := h
    refine i_seq ?_
    refine i_set ?_
    intro p hp
    walk_at "rd"
    refine ⟨ns, rfl, fun cs hc => ?_⟩
    walk_at "rd"
    refine ⟨by decide, cup_same, ?_⟩
    rw [cup_cup]
    refine i_seq ?_
    walk_at "rd"
    let g : Int → Nat := fun n => if 10 ^ 18 ≤ n then n.toNat else 0
    refine i_lcPC ((ns.map g).map cI) (fun q hq => hq) trivial (by simp) (by rw [List.length_map, List.length_map]; exact hl) (fun i x y hx hy q hq => ?_) (fun a ha => ?_)
    · obtain ⟨x, hx2, rfl⟩ := map_get hx
      obtain ⟨n, hn, rfl⟩ := of_atD hx2
      rw [List.getElem?_map, List.getElem?_map, hn] at hy
      cases hy
      simp only [ixs, awipe]
      walk_at "rd"
      refine ⟨by unfold CPow; decide, ?_⟩
      have e18 : (10 : Int) ^ (18 : Int).toNat = 10 ^ 18 := rfl
      rw [e18]
      by_cases hz : (10 : Int) ^ 18 ≤ n
      · refine iteY (by rw [decide_eq_true_eq]; exact hz) ?_
        have eg : g n = n.toNat := if_pos hz
        have en : ((n.toNat : Nat) : Int) = n := by omega
        rw [eg] at hq
        unfold cI at hq
        rw [en] at hq
        exact hq
      · refine iteN (by rw [decide_eq_true_eq]; exact hz) ?_
        have eg : g n = 0 := if_neg hz
        rw [eg] at hq
        exact hq
    have hap : a ≠ p := fun e => by
      rw [e, cup_same] at ha
      cases ha
    have ha0 : C a = none := by rw [cup_ne hap] at ha; exact ha
    walk_at "rd"
    refine ⟨p, _, kGreat, rfl, rfl, by rw [cup_ne (Ne.symm hap)]; exact cup_same, by simp, ?_⟩
    rw [put_great]
    walk_at "st"
    refine Ret.of (h p a _ hp ha0 ⟨Ne.symm hap, ⟨cs, ns.map g, 0, cup_same, by rw [cup_ne hap]; exact cup_same, hc.1, hc.2, Nat.le_refl _⟩, fun b b1 b2 => ?_⟩)
    rw [cup_ne b1, cup_ne b2, cup_ne b1]
end
end AB

set_option Elab.async false
set_option linter.all false
set_option maxRecDepth 100000
set_option maxHeartbeats 4000000
/-! The walk: the law's planted lines. -/
namespace AB
open PySem PySem.Spec PyProof.Rows L2
/-- depths of a tree, in its order -/
structure RowOk (row : List Nat) : Prop where
  ne : 0 < row.length
  le : row.length ≤ 9
  r0 : row.getD 0 0 = 0
  sm : ∀ i, row.getD i 0 ≤ 9
  up : ∀ i, i + 1 < row.length → row.getD (i + 1) 0 ≤ row.getD i 0 + 1
structure PlI (C C' : Cs) (kc t : Addr) (ps : List Addr) (ch : Nat → List Nat) (tr : List Nat) : Prop where
  sub : Sub C C'
  ck : C' kc = some (.l (ps.map AV.r))
  cp : ∀ (i : Nat) (p : Addr), ps[i]? = some p → C' p = some (.l ((ch i).map cI))
  ct : C' t = some (.l (tr.map cI))
  nd : ∀ (i j : Nat) (p : Addr), ps[i]? = some p → ps[j]? = some p → i = j
  nk : kc ∉ ps
  nt : t ∉ ps
  old : ∀ p ∈ ps, C p = none
theorem PlI.fresh {C C' : Cs} {kc t l : Addr} {ps : List Addr} {ch : Nat → List Nat} {tr : List Nat} (I : PlI C C' kc t ps ch tr) (hl : C' l = none) (c : Cell) : PlI C (cup C' l c) kc t ps ch tr :=
  ⟨fun b o h => by rw [cup_ne fun e => by rw [e] at h; have := I.sub _ _ h; rw [hl] at this; cases this]; exact I.sub b o h, by rw [cup_ne (cne I.ck hl)]; exact I.ck, fun i p h => by rw [cup_ne (cne (I.cp i p h) hl)]; exact I.cp i p h,
    by rw [cup_ne (cne I.ct hl)]; exact I.ct, I.nd, I.nk, I.nt, I.old⟩
theorem PlI.trail {C C' : Cs} {kc t l : Addr} {ps : List Addr} {ch : Nat → List Nat} {tr tr2 : List Nat} (I : PlI C C' kc t ps ch tr) (hl : C' l = none) : PlI C (cup C' l (.l (tr2.map cI))) kc l ps ch tr2 := by
  have J := I.fresh hl (.l (tr2.map cI))
  refine ⟨J.sub, J.ck, J.cp, cup_same, J.nd, J.nk, fun hm => ?_, J.old⟩
  obtain ⟨i, hi⟩ := List.getElem?_of_mem hm
  have z := I.cp i l hi
  rw [hl] at z
  cases z
theorem PlI.put {C C' : Cs} {kc t p : Addr} {ps : List Addr} {ch : Nat → List Nat} {tr : List Nat} {i n : Nat} (I : PlI C C' kc t ps ch tr) (hp : ps[i]? = some p) : PlI C (cup C' p (.l ((ch i).map cI ++ [cI n]))) kc t ps (fun j => if j = i then ch i ++ [n] else ch j) tr := by
  have hm := List.mem_of_getElem? hp
  have h0 := I.old p hm
  refine ⟨fun b o h => ?_, ?_, fun j q hq => ?_, ?_, I.nd, I.nk, I.nt, I.old⟩
  · rw [cup_ne fun e => by rw [e, h0] at h; cases h]
    exact I.sub b o h
  · rw [cup_ne fun e => I.nk (by rw [e]; exact hm)]
    exact I.ck
  · by_cases e : j = i
    · subst e
      rw [hp] at hq
      cases hq
      rw [cup_same, if_pos rfl, List.map_append]
      rfl
    · rw [cup_ne fun z => e (I.nd j i q hq (by rw [z]; exact hp)), if_neg e]
      exact I.cp j q hq
  · rw [cup_ne fun e => I.nt (by rw [e]; exact hm)]
    exact I.ct
theorem inc_len {n : Nat} : ∀ {l : List Nat}, l.Pairwise (· < ·) → ∀ lo, lo ≤ n → (∀ x ∈ l, lo ≤ x) → (∀ x ∈ l, x < n) → l.length + lo ≤ n := by
  intro l
  induction l with
  | nil =>
    intro _ lo h _ _
    rw [List.length_nil]
    omega
  | cons a r ih =>
    intro hp lo h h1 h2
    have z := List.pairwise_cons.mp hp
    have ha := h2 a List.mem_cons_self
    have hlo := h1 a List.mem_cons_self
    have y := ih z.2 (a + 1) ha (fun x hx => z.1 x hx) fun x hx => h2 x (List.mem_cons_of_mem _ hx)
    rw [List.length_cons]
    omega
theorem dec_len : ∀ {l : List Nat} {n : Nat}, l.Pairwise (· > ·) → (∀ x ∈ l, x < n) → l.length ≤ n := by
  intro l
  induction l with
  | nil =>
    intro n _ _
    exact Nat.zero_le _
  | cons a r ih =>
    intro n hp h
    have z := List.pairwise_cons.mp hp
    have y := ih z.2 fun x hx => z.1 x hx
    have ha := h a List.mem_cons_self
    rw [List.length_cons]
    omega
/-- the trail and the children behind n lines -/
structure TrI (row : List Nat) (n : Nat) (ch : Nat → List Nat) (tr : List Nat) : Prop where
  len : tr.length = if n = 0 then 0 else row.getD (n - 1) 0 + 1
  lt : ∀ x ∈ tr, x < n
  up : ∀ i, ∀ k ∈ ch i, i < k ∧ k < n
  inc : ∀ i, (ch i).Pairwise (· < ·)
theorem TrI.fit {row : List Nat} {n : Nat} {ch : Nat → List Nat} {tr : List Nat} (ok : RowOk row) (I : TrI row n ch tr) (hn : n < row.length) : row.getD n 0 ≤ tr.length := by
  rw [I.len]
  by_cases e : n = 0
  · subst e
    rw [ok.r0]
    exact Nat.zero_le _
  · rw [if_neg e]
    have z := ok.up (n - 1) (by omega)
    rw [Nat.sub_add_cancel (by omega)] at z
    exact z
def trNew (row : List Nat) (n : Nat) (tr : List Nat) : List Nat := tr.take (row.getD n 0) ++ [n]
theorem trNew_len {row : List Nat} {n : Nat} {ch : Nat → List Nat} {tr : List Nat} (ok : RowOk row) (I : TrI row n ch tr) (hn : n < row.length) : (trNew row n tr).length = row.getD n 0 + 1 := by
  have z := I.fit ok hn
  unfold trNew
  rw [List.length_append, List.length_take, List.length_cons, List.length_nil]
  omega
theorem TrI.step0 {row : List Nat} {n : Nat} {ch : Nat → List Nat} {tr : List Nat} (ok : RowOk row) (I : TrI row n ch tr) (hn : n < row.length) : TrI row (n + 1) ch (trNew row n tr) := by
  refine ⟨?_, fun x hx => ?_, fun i k hk => ⟨(I.up i k hk).1, Nat.lt_succ_of_lt (I.up i k hk).2⟩, I.inc⟩
  · rw [trNew_len ok I hn, if_neg (by omega)]
    rfl
  · unfold trNew at hx
    rcases List.mem_append.mp hx with h | h
    · exact Nat.lt_succ_of_lt (I.lt x (List.mem_of_mem_take h))
    · rw [List.mem_singleton.mp h]
      exact Nat.lt_succ_self n
theorem tr_parent {row : List Nat} {n : Nat} {ch : Nat → List Nat} {tr : List Nat} (ok : RowOk row) (I : TrI row n ch tr) (hn : n < row.length) (h0 : 0 < row.getD n 0) : ∃ p, (trNew row n tr)[row.getD n 0 - 1]? = some p ∧ p < n := by
  have z := I.fit ok hn
  have hl : row.getD n 0 - 1 < (tr.take (row.getD n 0)).length := by
    rw [List.length_take]
    omega
  refine ⟨(tr.take (row.getD n 0))[row.getD n 0 - 1], ?_, I.lt _ (List.mem_of_mem_take (List.getElem_mem hl))⟩
  unfold trNew
  rw [List.getElem?_append_left hl, List.getElem?_eq_getElem hl]
theorem TrI.step1 {row : List Nat} {n p : Nat} {ch : Nat → List Nat} {tr : List Nat} (I : TrI row (n + 1) ch tr) (hp : p < n) (h : ∀ i, ∀ k ∈ ch i, k < n) : TrI row (n + 1) (fun j => if j = p then ch p ++ [n] else ch j) tr := by
  refine ⟨I.len, I.lt, fun i k hk => ?_, fun i => ?_⟩
  · split at hk
    · rename_i e
      subst e
      rcases List.mem_append.mp hk with z | z
      · exact I.up _ k z
      · rw [List.mem_singleton.mp z]
        exact ⟨hp, Nat.lt_succ_self n⟩
    · exact I.up i k hk
  · split
    · rename_i e
      subst e
      refine List.pairwise_append.mpr ⟨I.inc _, List.pairwise_singleton _ _, fun a ha b hb => ?_⟩
      rw [List.mem_singleton.mp hb]
      exact h _ a ha
    · exact I.inc i
abbrev Lk2 := Nat × Bool
def encK (x : Lk2) : PyData := .tuple [.int (x.1 : Nat), .bool x.2]
/-- a family as it is planted -/
structure Planted (f : List Ln) (m : Nat) : Prop where
  ne : f ≠ []
  le : f.length ≤ 9
  marks : ∀ l ∈ f, l.mark < m
  kids : ∀ (i : Nat) (l : Ln), f[i]? = some l → ∀ k ∈ l.kids, k < i
  dec : ∀ l ∈ f, l.kids.Pairwise (· > ·)
def plLine (c : Nat) (looks : List Lk2) (ch : Nat → List Nat) (i : Nat) : Ln := ⟨(looks.getD (c - 1 - i) (0, false)).1, (looks.getD (c - 1 - i) (0, false)).2, (ch (c - 1 - i)).map fun k => c - 1 - k⟩
def plF (c : Nat) (looks : List Lk2) (ch : Nat → List Nat) (n : Nat) : List Ln := (List.range n).map (plLine c looks ch)
theorem planted_ok {row : List Nat} {looks : List Lk2} {ch : Nat → List Nat} {tr : List Nat} {m : Nat} (ok : RowOk row) (I : TrI row row.length ch tr) (hl : looks.length = row.length) (hm : ∀ x ∈ looks, x.1 < m) : Planted (plF row.length looks ch row.length) m := by
  have hne := ok.ne
  have get : ∀ (i : Nat) (l : Ln), (plF row.length looks ch row.length)[i]? = some l → i < row.length ∧ l = plLine row.length looks ch i := fun i l h => by
    unfold plF at h
    by_cases hi : i < row.length
    · rw [List.getElem?_map, List.getElem?_range hi] at h
      exact ⟨hi, (Option.some.inj h).symm⟩
    · rw [List.getElem?_eq_none (by rw [List.length_map, List.length_range]; omega)] at h
      cases h
  refine ⟨fun e => ?_, by unfold plF; rw [List.length_map, List.length_range]; exact ok.le, fun l h => ?_, fun i l h k hk => ?_, fun l h => ?_⟩
  · have z := congrArg List.length e
    unfold plF at z
    rw [List.length_map, List.length_range, List.length_nil] at z
    omega
  · obtain ⟨i, hi⟩ := List.getElem?_of_mem h
    obtain ⟨h1, rfl⟩ := get i l hi
    exact hm _ (List.mem_of_getElem? (getD_at (d := (0, false)) (show row.length - 1 - i < looks.length by omega)))
  · obtain ⟨h1, rfl⟩ := get i l h
    obtain ⟨x, hx, rfl⟩ := List.mem_map.mp hk
    have z := I.up _ x hx
    omega
  · obtain ⟨i, hi⟩ := List.getElem?_of_mem h
    obtain ⟨h1, rfl⟩ := get i l hi
    show ((ch (row.length - 1 - i)).map fun k => row.length - 1 - k).Pairwise (· > ·)
    rw [List.pairwise_map]
    refine (I.inc _).imp_of_mem fun {a b} ha hb hab => ?_
    have z1 := I.up _ a ha
    have z2 := I.up _ b hb
    omega
section
variable {P : Program} {w : World} {K : PySem.W.Frag} {mg : Str → Option Value} {base : Heap}
local macro_rules | `(tactic| walk_at "rd") => `(tactic| try simp only [astart, List.map_cons, List.map_nil, List.length_cons, List.length_nil, List.replicate_succ, List.replicate_zero, List.cons_append, List.nil_append, aVar, aC, aOp, arI, arI0, arB, onI2, onB, aTest, aChain, aAnd, aOr, aNot, aAndV, aOrV, aNotV, aIf, aNil, aCons, aIsi, aNext, aCB, acLen, aCall, g_n, g_tup2, g_tup3, g_tup4, g_tup13, aNeg, aTup, aLst, aSl, arSlC, arCatC, aLstC, aApp, aDGet, aDPut, agSub, allD, arIx_t0, arIx_t1, arIx_t2, arIx_t3, encD_0, encD_1, encD_2, encD_3, encC_0, encC_1, encQ_0, encQ_1, arEq_i, arEq_s, ac2I_i, acInt_i, List.getElem?_cons_zero, List.getElem?_cons_succ, List.set_cons_zero, List.set_cons_succ, if_true, if_false, Bool.false_eq_true, Bool.not_true, Bool.not_false, Bool.false_xor, isInt_int, withinD_int, tupD_tup, encL, encI, sp_is_whole, sp_is_within, sp_is_truth, sp_is_tuple_of, sp_is_word_of])
local macro_rules | `(tactic| walk_at "st") => `(tactic| ((try dsimp only); (try refine i_seq ?_); (first | refine i_set ?_ | refine i_if ?_ | refine i_ret ?_ | refine i_asg ?_ | refine i_drop ?_ | refine i_par ?_ | refine i_par3 ?_ | refine i_next ?_); (walk_at "rd")))
def sp__law_planted : ASp := fun avs C q _ => ∃ (row : List Nat) (looks : List Lk2) (m : Nat), avs = [.d (.list (row.map encI)), .d (.list (looks.map encK))] ∧ RowOk row ∧ looks.length = row.length ∧ (∀ x ∈ looks, x.1 < m) ∧ ∀ f, Planted f m → q (.d (encF f)) C
theorem ok__law_planted (T : Txt P K mg) : FnOk P w K mg base CX0 1 T.d__law_planted.f T.d__law_planted.fd ["_law_row", "_law_looks"] (gSp K sp__law_planted) := by
  refine fok T.d__law_planted.F sc__law_planted (fun avs C q z h => ?_) (fun cdv A outer s H P' hr => ?_)
  · obtain ⟨row, looks, m, rfl, _⟩ := h
    rfl
  · refine ⟨_, (apss_cons (aps_parT 2 3 rfl sc__law_planted.nd (apa_cons (ap_len T.b_len (apv 0)) (apa_cons (ape_lstC apa_nil) apa_nil)))
        (apss_cons (aps_lcC 5 [("_law_n", 4)] rfl sc__law_planted.nd (awi_r1 T.b_range (apv 2)) (blkOk_by (N := ["_law_row", "_law_looks", "_law_count", "_law_trail", "_law_n", "_law_kids", "_law_lines", "_law_kid"]) (sc := defScope s__law_planted) (by decide +kernel)) (fun _ _ _ _ _ => (apg_n (i := 4) sc__law_planted.nd)) (fun _ _ _ _ _ => apts_nil) (fun _ _ _ _ _ => (ape_lstC apa_nil)) (sw_true rfl rfl rfl (by decide +kernel)))
        (apss_cons (aps_for (vs := [4]) PassesOwn.never rfl (awi_r1 T.b_range (apv 2)) (apg_n (i := 4) sc__law_planted.nd) (apss_cons (aps_set 3 sc__law_planted.nd (ap_catC (ap_slC (apv 3) (apx (apv 0) (apv 4))) (ape_lstC (apa_cons (apv 4) apa_nil))))
        (apss_one (aps_if (at_gt (apx (apv 0) (apv 4)) api) (apss_one (aps_expr (ap_app (apx (apv 5) (apx (apv 3) (ap_sub (apx (apv 0) (apv 4)) api))) (apv 4)))) apss_nil))))
        (apss_cons (aps_set 6 sc__law_planted.nd (ape_lstC apa_nil))
        (apss_cons (aps_for (vs := [4]) PassesOwn.never rfl (awi_r3 T.b_range (ap_sub (apv 2) api) (ap_neg api) (ap_neg api)) (apg_n (i := 4) sc__law_planted.nd) (apss_one (aps_expr (ap_app (apv 6) (ape_tup (apa_cons (apx (apx (apv 1) (apv 4)) api) (apa_cons (apx (apx (apv 1) (apv 4)) api) (apa_cons (ap_tuple T.b_tuple (ape_lc [("_law_kid", 7)] rfl sc__law_planted.nd (awi_cell (apx (apv 5) (apv 4))) (blkOk_by (N := ["_law_row", "_law_looks", "_law_count", "_law_trail", "_law_n", "_law_kids", "_law_lines", "_law_kid"]) (sc := defScope s__law_planted) (by decide +kernel)) (fun _ _ _ _ _ => (apg_n (i := 7) sc__law_planted.nd)) (fun _ _ _ _ _ => apts_nil) (fun _ _ _ _ _ => (ap_sub (ap_sub (apv 2) api) (apv 7))))) apa_nil))))))))
        (apss_one (aps_ret (ap_tuple T.b_tuple (apv 6))))))))), fun avs C q h => ?_⟩
    obtain ⟨row, looks, m, rfl, ok, hlk, hm, h⟩ := h
    have hle := ok.le
    have hne := ok.ne
    walk_at "st"
    refine ⟨by simp, fun t ht => ?_⟩
    rw [List.length_map]
    walk_at "st"
    refine ⟨?_, ?_⟩
    · exact ⟨by omega, by omega⟩
    have hC1 : Sub C (cup C t (.l [])) := Sub.cup ht
    refine ⟨fun i acc C2 => ∃ ps : List Addr, acc = ps.map AV.r ∧ ps.length = i ∧ Sub (cup C t (.l [])) C2 ∧ (∀ (i : Nat) (p : Addr), ps[i]? = some p → C2 p = some (.l [])) ∧ (∀ (i j : Nat) (p : Addr), ps[i]? = some p → ps[j]? = some p → i = j) ∧ ∀ p ∈ ps, (cup C t (.l [])) p = none,
      ⟨[], rfl, rfl, Sub.refl _, fun i p hp => by simp at hp, fun i j p hp => by simp at hp, fun p hp => by cases hp⟩, fun _ _ _ _ _ => trivial, ?_, ?_⟩
    · rintro i x acc C2 hx ⟨ps, rfl, hl, sb, hc, nd, ol⟩
      obtain ⟨hi, rfl⟩ := rng_get hx
      have hi2 : i < row.length := hi
      simp only [awipe]
      walk_at "rd"
      refine ⟨by decide, fun p hp => ⟨by rw [List.length_map]; omega, ps ++ [p], by rw [List.map_append]; rfl, by rw [List.length_append, hl]; rfl, sb.trans (Sub.cup hp), fun j r hr => ?_, fun j k r hj hk => ?_, fun r hr => ?_⟩⟩
      · by_cases e : r = p
        · rw [e, cup_same]
        · rw [cup_ne e]
          by_cases hj : j < ps.length
          · rw [List.getElem?_append_left hj] at hr
            exact hc j r hr
          · rw [List.getElem?_append_right (by omega)] at hr
            have z := List.mem_of_getElem? hr
            exact absurd (List.mem_singleton.mp z) e
      · have hnp : ∀ (j : Nat), ps[j]? = some r → r ≠ p := fun j h e => by
          have z := hc j r h
          rw [e, hp] at z
          cases z
        have side : ∀ (j : Nat), (ps ++ [p])[j]? = some r → (j < ps.length ∧ ps[j]? = some r) ∨ (j = ps.length ∧ r = p) := fun j h => by
          by_cases hj : j < ps.length
          · rw [List.getElem?_append_left hj] at h
            exact .inl ⟨hj, h⟩
          · have z := (List.getElem?_eq_some_iff.mp h).1
            rw [List.length_append, List.length_cons, List.length_nil] at z
            rw [List.getElem?_append_right (by omega)] at h
            exact .inr ⟨by omega, List.mem_singleton.mp (List.mem_of_getElem? h)⟩
        rcases side j hj with ⟨a1, a2⟩ | ⟨a1, a2⟩ <;> rcases side k hk with ⟨b1, b2⟩ | ⟨b1, b2⟩
        · exact nd j k r a2 b2
        · exact absurd b2 (hnp j a2)
        · exact absurd a2 (hnp k b2)
        · omega
      · rcases List.mem_append.mp hr with z | z
        · exact ol r z
        · rw [List.mem_singleton.mp z]
          cases e : (cup C t (.l [])) p with
          | none => rfl
          | some o =>
            have y := sb p o e
            rw [hp] at y
            cases y
    · rintro acc C2 ⟨ps, rfl, hl, sb, hc, nd, ol⟩
      have hl2 : ps.length = row.length := by rw [hl, rng_len]; rfl
      intro kc hkc
      have hnt : t ∉ ps := fun hm => by
        have z := ol t hm
        rw [cup_same] at z
        cases z
      have hct : C2 t = some (.l []) := sb t _ cup_same
      have I0 : PlI C (cup C2 kc (.l (ps.map AV.r))) kc t ps (fun _ => []) [] := by
        have hkp : ∀ (i : Nat) (p : Addr), ps[i]? = some p → p ≠ kc := fun i p hp e => by
          have z := hc i p hp
          rw [e, hkc] at z
          cases z
        refine ⟨fun b o hb => ?_, cup_same, fun i p hp => by rw [cup_ne (hkp i p hp)]; exact hc i p hp, by rw [cup_ne (cne hct hkc)]; exact hct, nd, fun hm => ?_, hnt, fun p hp => ?_⟩
        · have z := sb b o (hC1 b o hb)
          rw [cup_ne (cne z hkc)]
          exact z
        · obtain ⟨i, hi⟩ := List.getElem?_of_mem hm
          exact hkp i kc hi rfl
        · have z := ol p hp
          rw [cup_ne fun e => hnt (by rw [← e]; exact hp)] at z
          exact z
      have T0 : TrI row 0 (fun _ => []) [] := ⟨rfl, fun x hx => (by cases hx), fun i k hk => (by cases hk), fun i => List.Pairwise.nil⟩
      walk_at "rd"
      refine i_seq ?_
      refine i_for (its := rngL 0 row.length 1) (sb := fun _ => True) (fun q hq => ?_) (fun n ρ' C' => ∃ t y4 ch tr, ρ' = [some (.d (.list (row.map encI))), some (.d (.list (looks.map encK))), some (.d (.int (row.length : Nat))), some (.r t), y4, some (.r kc), none, none] ∧ PlI C C' kc t ps ch tr ∧ TrI row n ch tr)
        ⟨t, none, _, _, rfl, I0, T0⟩ (fun _ _ _ _ _ => trivial) ?_ ?_
      · unfold awR1
        walk_at "rd"
        exact ⟨⟨by omega, by omega⟩, hq⟩
      · rintro n x ρ' C' hx ⟨t, y4, ch, tr, rfl, I, TI⟩
        obtain ⟨hn, rfl⟩ := rng_get hx
        have e : (0 : Int) + (n : Int) * 1 = ((n : Nat) : Int) := by omega
        rw [e]
        have hrow := getD_at (d := 0) hn
        have hfit := TI.fit ok hn
        walk_at "rd"
        walk_at "st"
        have hsm := ok.sm n
        refine ix_l (atD_map hrow) ?_
        refine ⟨t, _, ((row.getD n 0 : Nat) : Int), rfl, rfl, I.ct, by omega, fun l1 hl1 => ⟨by decide, fun l2 hl2' => ⟨l1, l2, List.take ((row.getD n 0 : Nat) : Int).toNat (tr.map cI), _, rfl, rfl, ?_, cup_same, ?_, fun l3 hl3 => ?_⟩⟩⟩
        · rw [cup_ne (cne cup_same hl2')]
          exact cup_same
        · rw [List.length_take, List.length_cons, List.length_nil]
          omega
        have J := PlI.trail (tr2 := trNew row n tr) ((I.fresh hl1 _).fresh hl2' _) hl3
        have el : (List.take ((row.getD n 0 : Nat) : Int).toNat (tr.map cI) ++ [AV.d (.int (n : Nat))]) = (trNew row n tr).map cI := by
          unfold trNew
          rw [List.map_append, List.map_take]
          rfl
        rw [el]
        obtain ⟨C3, eC3⟩ : ∃ C3, C3 = cup (cup (cup C' l1 (.l (List.take ((row.getD n 0 : Nat) : Int).toNat (tr.map cI)))) l2 (.l [AV.d (.int (n : Nat))])) l3 (.l ((trNew row n tr).map cI)) := ⟨_, rfl⟩
        rw [← eC3] at J ⊢
        have TJ := TI.step0 ok hn
        walk_at "st"
        refine ix_l (atD_map hrow) ?_
        walk_at "rd"
        by_cases h0 : 0 < row.getD n 0
        · obtain ⟨par, hpar, hpn⟩ := tr_parent ok TI hn h0
          refine iteY (by rw [decide_eq_true_eq]; omega) ?_
          walk_at "st"
          refine ix_l (atD_map hrow) ?_
          walk_at "rd"
          have e1 : ((row.getD n 0 : Nat) : Int) - 1 = ((row.getD n 0 - 1 : Nat) : Int) := by omega
          rw [e1]
          refine ix_c J.ct (at_map hpar) ?_
          have hpp : ps[par]? = some (ps[par]'(by omega)) := List.getElem?_eq_getElem (by omega)
          refine ix_c J.ck (at_map hpp) ?_
          refine ⟨_, _, rfl, J.cp par _ hpp, _, J.cp par _ hpp, ?_, l3, _, _, _, rfl, J.put (n := n) hpp, TJ.step1 hpn fun i k hk => (TI.up i k hk).2⟩
          rw [List.length_map]
          have z : (ch par).length ≤ n := by
            have z := inc_len (TI.inc par) 0 (Nat.zero_le _) (fun k _ => Nat.zero_le _) fun k hk => (TI.up par k hk).2
            omega
          omega
        · refine iteN (by rw [decide_eq_true_eq]; omega) ?_
          exact ⟨l3, _, ch, _, rfl, J, TJ⟩
      · rintro ρ' C' ⟨t, y4, ch, tr, rfl, I, TI⟩
        rw [rng_len] at TI
        walk_at "st"
        refine ⟨by simp, fun lc hlc => ?_⟩
        have I2 := I.fresh hlc (.l [])
        obtain ⟨C3, eC3⟩ : ∃ C3, C3 = cup C' lc (.l []) := ⟨_, rfl⟩
        have sC3 : Sub C' C3 := by rw [eC3]; exact Sub.cup hlc
        refine i_seq ?_
        refine i_for (its := rngL (row.length - 1) row.length (-1)) (sb := fun _ => True) (fun q hq => ?_) (fun i ρ' C4 => ∃ y4 y7, ρ' = [some (.d (.list (row.map encI))), some (.d (.list (looks.map encK))), some (.d (.int (row.length : Nat))), some (.r t), y4, some (.r kc), some (.r lc), y7] ∧ C4 = cup C' lc (.l ((plF row.length looks ch i).map fun l => AV.d (encL l))))
          ⟨_, none, rfl, rfl⟩ (fun _ _ _ _ _ => trivial) ?_ ?_
        · unfold awR3
          walk_at "rd"
          have z := RgC.neg (i := (row.length : Nat) - 1) (j := -1) (by omega) (by omega) (by omega) (by omega)
          have ez : (((row.length : Nat) : Int) - 1 - -1).toNat = row.length := by omega
          rw [ez] at z
          exact ⟨_, z, hq⟩
        · rintro i x ρ' C4 hx ⟨y4, y7, rfl, rfl⟩
          obtain ⟨hi, rfl⟩ := rng_get hx
          have e : ((row.length : Nat) : Int) - 1 + (i : Int) * -1 = ((row.length - 1 - i : Nat) : Int) := by omega
          rw [e]
          obtain ⟨n, en⟩ : ∃ n, n = row.length - 1 - i := ⟨_, rfl⟩
          rw [← en]
          have hn : n < row.length := by omega
          have hlo := getD_at (d := ((0, false) : Lk2)) (show n < looks.length by omega)
          have hpp : ps[n]? = some (ps[n]'(by omega)) := List.getElem?_eq_getElem (by omega)
          have hcp := I.cp n _ hpp
          have hne2 : ps[n]'(by omega) ≠ lc := cne hcp hlc
          walk_at "rd"
          walk_at "st"
          refine ⟨lc, _, rfl, cup_same, ?_⟩
          refine ix_l (atD_map hlo) ?_
          unfold encK
          walk_at "rd"
          refine ix_l (atD_map hlo) ?_
          walk_at "rd"
          refine i_lcP (((ch n).map fun k => row.length - 1 - k).map encI) (its := (ch n).map cI) (sb := fun C => C (ps[n]'(by omega)) = some (.l ((ch n).map cI))) (C1 := cup C' lc (.l ((plF row.length looks ch i).map fun l => AV.d (encL l)))) (fun q hq => ?_) ?_ ?_ ?_ (fun j x y hj hy q hq => ?_) ?_
          · unfold awC
            walk_at "rd"
            refine ix_c (by rw [cup_ne (cne I.ck hlc)]; exact I.ck) (at_map hpp) ?_
            exact ⟨_, _, rfl, by rw [cup_ne hne2]; exact hcp, hq⟩
          · rw [cup_ne hne2]
            exact hcp
          · simp
          · rw [List.length_map]
            have z := inc_len (TI.inc n) 0 (Nat.zero_le _) (fun k _ => Nat.zero_le _) fun k hk => (TI.up n k hk).2
            omega
          · rw [List.getElem?_map] at hj
            rw [List.getElem?_map, List.getElem?_map] at hy
            cases ek : (ch n)[j]? with
            | none =>
              rw [ek] at hj
              cases hj
            | some k =>
              rw [ek] at hj hy
              cases hj
              cases hy
              have hk := TI.up n k (List.mem_of_getElem? ek)
              simp only [awipe, cI]
              walk_at "rd"
              have e3 : ((row.length : Nat) : Int) - 1 - (k : Nat) = ((row.length - 1 - k : Nat) : Int) := by omega
              rw [e3]
              exact hq
          · refine ⟨_, _, rfl, rfl, ?_⟩
            walk_at "rd"
            refine ⟨by decide, _, cup_same, ?_, _, _, rfl, ?_⟩
            · unfold plF
              rw [List.length_map, List.length_map, List.length_range]
              omega
            · rw [cup_cup]
              have e4 : plF row.length looks ch (i + 1) = plF row.length looks ch i ++ [plLine row.length looks ch i] := by
                unfold plF
                rw [List.range_succ, List.map_append]
                rfl
              rw [e4, List.map_append, List.map_cons, List.map_nil]
              unfold plLine
              rw [← en]
        · rintro ρ' C4 ⟨y4, y7, rfl, rfl⟩
          rw [rng_len]
          walk_at "st"
          refine ⟨_, (plF row.length looks ch row.length).map encL, rfl, ⟨_, by rw [cup_same, List.map_map]; rfl, rfl⟩, Ret.sub (I.sub.trans (Sub.cup hlc)) ?_⟩
          exact h _ (planted_ok ok TI hlk hm)
end
end AB

set_option Elab.async false
set_option linter.all false
set_option maxRecDepth 100000
set_option maxHeartbeats 4000000
/-! The walks: the law's families. -/
namespace AB
open PySem PySem.Spec PyProof.Rows L2
section
variable {C0 C : Cs} {am ag : Addr} {n : Nat}
theorem rd_draw {q : AV → Cs → Prop} {z : Xn → Cs → Prop} (lim : Nat) (D : DS C0 C am ag n) (h0 : 0 < lim) (h1 : lim < 2 ^ 60) (hn : n < 2 ^ 60) (h : ∀ (r : Nat) (C' : Cs), r < lim → DS C0 C' am ag (n + 1) → q (.d (.int (r : Nat))) C') : sp__law_draw [.r am, .d (.int (lim : Nat))] C q z :=
  ⟨am, ag, lim, n, C0, rfl, h0, h1, hn, D, h⟩
/-- a comprehension whose elements draw -/
theorem lc_dr {α : Type} (en : α → PyData) (ok : α → Prop) (s : Nat) {w : AW} {g : AG} {e : AE} {vs : List Nat} {ρ : Sl} {C' : Cs} {its : List AV} {done : List AV → Cs → Prop} (D : DS C0 C am ag n) (hw : ∀ q : List AV → (Cs → Prop) → Cs → Prop, q its (fun _ => True) C → w ρ C' q) (hl : its.length ≤ 1000)
    (he : ∀ (i : Nat) x C2 k, its[i]? = some x → DS C0 C2 am ag k → k ≤ n + s * its.length → ∀ q : AV → Cs → Prop, (∀ a C3, ok a → DS C0 C3 am ag (k + s) → q (.d (en a)) C3) → g x (awipe ρ vs) C2 fun ρ2 C3 => e ρ2 C3 q)
    (h : ∀ (xs : List α) C2, xs.length = its.length → (∀ a ∈ xs, ok a) → DS C0 C2 am ag (n + s * its.length) → done ((xs.map en).map AV.d) C2) : lcInv w g atYes e vs ρ C' done := by
  refine hw _ ⟨fun i acc C2 => ∃ xs : List α, acc = (xs.map en).map AV.d ∧ xs.length = i ∧ (∀ a ∈ xs, ok a) ∧ DS C0 C2 am ag (n + s * i), ⟨[], rfl, rfl, fun a ha => (by cases ha), D⟩, fun _ _ _ _ _ => trivial, ?_, ?_⟩
  · rintro i x acc C2 hx ⟨xs, rfl, hxl, hok, D2⟩
    have hi := (List.getElem?_eq_some_iff.mp hx).1
    refine he i x C2 _ hx D2 ?_ _ fun a C3 ha D3 => ?_
    · have := Nat.mul_le_mul_left s (Nat.le_of_lt hi)
      omega
    · refine ⟨by rw [List.length_map, List.length_map]; omega, ?_⟩
      refine ⟨xs ++ [a], by rw [List.map_append, List.map_append]; rfl, by rw [List.length_append, hxl]; rfl, fun b hb => ?_, ?_⟩
      · rcases List.mem_append.mp hb with z | z
        · exact hok b z
        · rw [List.mem_singleton.mp z]
          exact ha
      · rw [Nat.mul_add, Nat.mul_one, ← Nat.add_assoc]
        exact D3
  · rintro acc C2 ⟨xs, rfl, hxl, hok, D2⟩
    exact h xs C2 hxl hok D2
theorem i_lcDr {α : Type} (en : α → PyData) (ok : α → Prop) (s : Nat) {w : AW} {g : AG} {e : AE} {vs : List Nat} {ρ : Sl} {C' : Cs} {its : List AV} {q : AV → Cs → Prop} (D : DS C0 C am ag n) (hw : ∀ q : List AV → (Cs → Prop) → Cs → Prop, q its (fun _ => True) C → w ρ C' q) (hl : its.length ≤ 1000)
    (he : ∀ (i : Nat) x C2 k, its[i]? = some x → DS C0 C2 am ag k → k ≤ n + s * its.length → ∀ q : AV → Cs → Prop, (∀ a C3, ok a → DS C0 C3 am ag (k + s) → q (.d (en a)) C3) → g x (awipe ρ vs) C2 fun ρ2 C3 => e ρ2 C3 q)
    (h : ∀ (xs : List α) C2, xs.length = its.length → (∀ a ∈ xs, ok a) → DS C0 C2 am ag (n + s * its.length) → q (.d (.list (xs.map en))) C2) : aLc w g atYes e vs ρ C' q :=
  lc_dr en ok s D hw hl he fun xs C2 h1 h2 h3 => by
    rw [allD_of]
    exact h xs C2 h1 h2 h3
theorem i_lcDrC {α : Type} (en : α → PyData) (ok : α → Prop) (s : Nat) {w : AW} {g : AG} {e : AE} {vs : List Nat} {ρ : Sl} {C' : Cs} {its : List AV} {q : AV → Cs → Prop} (D : DS C0 C am ag n) (hw : ∀ q : List AV → (Cs → Prop) → Cs → Prop, q its (fun _ => True) C → w ρ C' q) (hl : its.length ≤ 1000)
    (he : ∀ (i : Nat) x C2 k, its[i]? = some x → DS C0 C2 am ag k → k ≤ n + s * its.length → ∀ q : AV → Cs → Prop, (∀ a C3, ok a → DS C0 C3 am ag (k + s) → q (.d (en a)) C3) → g x (awipe ρ vs) C2 fun ρ2 C3 => e ρ2 C3 q)
    (h : ∀ (xs : List α) C2, xs.length = its.length → (∀ a ∈ xs, ok a) → DS C0 C2 am ag (n + s * its.length) → ∀ p, C2 p = none → q (.r p) (cup C2 p (.l ((xs.map en).map AV.d)))) : aLcC w g atYes e vs ρ C' q :=
  lc_dr en ok s D hw hl he fun xs C2 h1 h2 h3 => h xs C2 h1 h2 h3
end
section
variable {P : Program} {w : World} {K : PySem.W.Frag} {mg : Str → Option Value} {base : Heap}
local macro_rules | `(tactic| walk_at "rd") => `(tactic| try simp only [astart, List.map_cons, List.map_nil, List.length_cons, List.length_nil, List.replicate_succ, List.replicate_zero, List.cons_append, List.nil_append, aVar, aC, aOp, arI, arI0, arB, onI2, onB, aTest, aChain, aAnd, aOr, aNot, aAndV, aOrV, aNotV, aIf, aNil, aCons, aIsi, aNext, aCB, acLen, aCall, g_n, g_tup2, g_tup3, g_tup4, g_tup13, aNeg, aTup, aLst, aSl, arSlC, arCatC, aLstC, aApp, aDGet, aDPut, agSub, allD, arIx_t0, arIx_t1, arIx_t2, arIx_t3, encD_0, encD_1, encD_2, encD_3, encC_0, encC_1, encQ_0, encQ_1, arEq_i, arEq_s, ac2I_i, acInt_i, List.getElem?_cons_zero, List.getElem?_cons_succ, List.set_cons_zero, List.set_cons_succ, if_true, if_false, Bool.false_eq_true, Bool.not_true, Bool.not_false, Bool.false_xor, isInt_int, withinD_int, tupD_tup, encL, encI, sp_is_whole, sp_is_within, sp_is_truth, sp_is_tuple_of, sp_is_word_of])
local macro_rules | `(tactic| walk_at "st") => `(tactic| ((try dsimp only); (try refine i_seq ?_); (first | refine i_set ?_ | refine i_if ?_ | refine i_ret ?_ | refine i_asg ?_ | refine i_drop ?_ | refine i_par ?_ | refine i_par3 ?_ | refine i_next ?_); (walk_at "rd")))
theorem row_app {row : List Nat} {x : Nat} (ok : RowOk row) (hl : row.length < 9) (hx : x ≤ row.getD (row.length - 1) 0 + 1) (h9 : x ≤ 9) : RowOk (row ++ [x]) := by
  have hne := ok.ne
  have lo : ∀ i, i < row.length → (row ++ [x]).getD i 0 = row.getD i 0 := fun i hi => by
    rw [List.getD_eq_getElem?_getD, List.getElem?_append_left hi, ← List.getD_eq_getElem?_getD]
  have hi0 : (row ++ [x]).getD row.length 0 = x := by
    rw [List.getD_eq_getElem?_getD, List.getElem?_append_right (Nat.le_refl _), Nat.sub_self]
    rfl
  refine ⟨by rw [List.length_append]; omega, by rw [List.length_append, List.length_cons, List.length_nil]; omega, by rw [lo 0 hne]; exact ok.r0, fun i => ?_, fun i h => ?_⟩
  · by_cases e : i < row.length
    · rw [lo i e]
      exact ok.sm i
    · by_cases e2 : i = row.length
      · rw [e2, hi0]
        exact h9
      · rw [List.getD_eq_getElem?_getD, List.getElem?_eq_none (by rw [List.length_append, List.length_cons, List.length_nil]; omega)]
        exact Nat.zero_le _
  · rw [List.length_append, List.length_cons, List.length_nil] at h
    by_cases e : i + 1 < row.length
    · rw [lo _ e, lo i (by omega)]
      exact ok.up i e
    · have e2 : i + 1 = row.length := by omega
      rw [e2, hi0, lo i (by omega)]
      have e3 : row.length - 1 = i := by omega
      rw [e3] at hx
      exact hx
def sp__law_family : ASp := fun avs C q _ => ∃ (am ag : Addr) (m n : Nat) (C0 : Cs), avs = [.r am, .d (.int (m : Nat)), .d (.int 9)] ∧ 1 ≤ m ∧ m ≤ 3 ∧ n < 2 ^ 50 ∧ DS C0 C am ag n ∧ ∀ f C', Planted f m → DS C0 C' am ag (n + 100) → q (.d (encF f)) C'
theorem ok__law_family (T : Txt P K mg) : FnOk P w K mg base CX0 3 T.d__law_family.f T.d__law_family.fd ["_law_m", "_law_marks", "_law_most"] (gSp K sp__law_family) := by
  refine fok T.d__law_family.F sc__law_family (fun avs C q z h => ?_) (fun cdv A outer s H P' hr => ?_)
  · obtain ⟨am, ag, m, n, C0, rfl, _⟩ := h
    rfl
  · refine ⟨_, (apss_cons (aps_set 3 sc__law_family.nd (ape_lstC (apa_cons api apa_nil)))
        (apss_cons (aps_for (vs := [4]) PassesOwn.never rfl (awi_r1 T.b_range (ap_call (ok__law_draw T) (hr.mono (by decide)) T.d__law_draw.g T.d__law_draw.F.kp T.d__law_draw.b pass0 (apa_cons (apv 0) (apa_cons (apv 2) apa_nil)))) (apg_n (i := 4) sc__law_family.nd) (apss_one (aps_expr (ap_app (apv 3) (ap_add api (ap_call (ok__law_draw T) (hr.mono (by decide)) T.d__law_draw.g T.d__law_draw.F.kp T.d__law_draw.b pass0 (apa_cons (apv 0) (apa_cons (ap_min rfl T.b_min (apa_cons (ap_add (apx (apv 3) (ap_neg api)) api) (apa_cons api apa_nil))) apa_nil))))))))
        (apss_vw (apss_one (aps_ret (ap_call (ok__law_planted T) (hr.mono (by decide)) T.d__law_planted.g T.d__law_planted.F.kp T.d__law_planted.b pass0 (apa_cons (apv 3) (apa_cons (ape_lc [("_law_n", 5)] rfl sc__law_family.nd (awi_r1 T.b_range (ap_len T.b_len (apv 3))) (blkOk_by (N := ["_law_m", "_law_marks", "_law_most", "_law_row", "_law_turn", "_law_n"]) (sc := defScope s__law_family) (by decide +kernel)) (fun _ _ _ _ _ => (apg_n (i := 5) sc__law_family.nd)) (fun _ _ _ _ _ => apts_nil) (fun _ _ _ _ _ => (ape_tup (apa_cons (ap_call (ok__law_draw T) (hr.mono (by decide)) T.d__law_draw.g T.d__law_draw.F.kp T.d__law_draw.b pass0 (apa_cons (apv 0) (apa_cons (apv 1) apa_nil))) (apa_cons (ap_gt (ap_call (ok__law_draw T) (hr.mono (by decide)) T.d__law_draw.g T.d__law_draw.F.kp T.d__law_draw.b pass0 (apa_cons (apv 0) (apa_cons api apa_nil))) api) apa_nil))))) apa_nil)))))))), fun avs C q h => ?_⟩
    obtain ⟨am, ag, m, n, C0, rfl, m1, m3, hn, D, h⟩ := h
    walk_at "st"
    refine ⟨by simp, fun r hr0 => ?_⟩
    obtain ⟨rm, rg⟩ := D.new hr0
    have hC0r : C0 r = none := by rw [← D.rest r rm rg]; exact hr0
    have D1 := D.cup (p := r) (c := .l [AV.d (.int 0)]) rm rg
    refine i_seq ?_
    have Rok0 : RowOk [0] := ⟨by decide, by decide, rfl, fun i => by cases i <;> simp, fun i h => by simp at h⟩
    walk_at "rd"
    unfold aFor
    simp only [awR1]
    walk_at "rd"
    refine rd_draw 9 D1 (by decide) (by decide) (by omega) fun k C2 hk D2 => ?_
    refine ⟨⟨by omega, by omega⟩, fun i ρ' C' => ∃ row y4, ρ' = [some (.r am), some (.d (.int (m : Nat))), some (.d (.int 9)), some (.r r), y4, none] ∧ RowOk row ∧ row.length = i + 1 ∧ DS (cup C0 r (.l (row.map cI))) C' am ag (n + 1 + i),
      ⟨[0], none, rfl, Rok0, rfl, D2⟩, fun _ _ _ _ _ => trivial, ?_, ?_⟩
    · rintro i x ρ' C' hx ⟨row, y4, rfl, Rok, hl, D3⟩
      obtain ⟨hi, rfl⟩ := rng_get hx
      have hi2 : i < k := hi
      have hrow : C' r = some (.l (row.map cI)) := D3.other rm rg cup_same
      have hlast : (row.map cI).getLast? = some (cI (row.getD (row.length - 1) 0)) := by
        rw [List.getLast?_eq_getElem?, List.length_map]
        exact at_map (getD_at (d := 0) (by have := Rok.ne; omega))
      refine i_drop ?_
      walk_at "rd"
      refine ⟨r, _, rfl, hrow, ?_⟩
      refine ix_c1 hrow hlast ?_
      simp only [cI]
      walk_at "rd"
      have hs := Rok.sm (row.length - 1)
      have em : (if (5 : Int) < ((row.getD (row.length - 1) 0 : Nat) : Int) + 1 then (5 : Int) else ((row.getD (row.length - 1) 0 : Nat) : Int) + 1) = ((min 5 (row.getD (row.length - 1) 0 + 1) : Nat) : Int) := by
        split <;> omega
      rw [em]
      refine rd_draw _ D3 (by omega) (by omega) (by omega) fun x C4 hx4 D4 => ?_
      walk_at "rd"
      have hrow4 : C4 r = some (.l (row.map cI)) := D4.other rm rg cup_same
      refine ⟨_, hrow4, by rw [List.length_map]; omega, row ++ [1 + x], _, rfl, row_app Rok (by omega) (by omega) (by omega), by rw [List.length_append, hl]; rfl, ?_⟩
      have D5 := D4.cup (p := r) (c := .l ((row ++ [1 + x]).map cI)) rm rg
      rw [cup_cup] at D5
      rw [List.map_append] at D5 ⊢
      have e1 : (1 : Int) + (x : Nat) = ((1 + x : Nat) : Int) := by omega
      rw [e1]
      exact D5
    · rintro ρ' C' ⟨row, y4, rfl, Rok, hl, D3⟩
      rw [rng_len] at hl D3
      have hk2 : ((k : Nat) : Int).toNat = k := rfl
      rw [hk2] at hl D3
      have hrow : C' r = some (.l ((row.map encI).map AV.d)) := by
        rw [← map_cI]
        exact D3.other rm rg cup_same
      refine i_vw (Vw.freeze 3 rfl hrow) ?_
      have D4 : DS C0 (cdel C' r) am ag (n + 1 + k) := by
        obtain ⟨cs, gs, s, h1, h2, h3, h4, h5⟩ := D3.ex
        refine ⟨D3.ne, ⟨cs, gs, s, by rw [cdel_ne (Ne.symm rm)]; exact h1, by rw [cdel_ne (Ne.symm rg)]; exact h2, h3, h4, h5⟩, fun b b1 b2 => ?_⟩
        by_cases e : b = r
        · rw [e, cdel_same, hC0r]
        · rw [cdel_ne e, D3.rest b b1 b2, cup_ne e]
      walk_at "st"
      refine i_lcDr encK (fun x => x.1 < m) 2 (its := rngL 0 row.length 1) D4 (fun q hq => ?_) (by rw [rng_len]; omega) (fun i x C2 k2 hx D5 hk5 q hq => ?_) fun looks C2 hll hok D5 => ?_
      · simp only [awR1]
        walk_at "rd"
        rw [List.length_map]
        exact ⟨⟨by omega, by omega⟩, hq⟩
      · rw [rng_len] at hk5
        simp only [ixs, awipe]
        walk_at "rd"
        refine rd_draw m D5 (by omega) (by omega) (by omega) fun a C3 ha D6 => ?_
        refine rd_draw 3 D6 (by omega) (by omega) (by omega) fun b C4 hb D7 => ?_
        walk_at "rd"
        exact ⟨by decide, hq (a, decide ((0 : Int) < ((b : Nat) : Int))) C4 ha D7⟩
      · rw [rng_len] at hll D5
        refine ⟨row, looks, m, rfl, Rok, hll, hok, fun f hf => Ret.of (h f C2 hf (D5.mono (by omega)))⟩
end
end AB

set_option Elab.async false
set_option linter.all false
set_option maxRecDepth 100000
set_option maxHeartbeats 4000000
/-! The walks: the law's deals. -/
namespace AB
open PySem PySem.Spec PyProof.Rows L2
section
variable {P : Program} {w : World} {K : PySem.W.Frag} {mg : Str → Option Value} {base : Heap}
local macro_rules | `(tactic| walk_at "rd") => `(tactic| try simp only [astart, List.map_cons, List.map_nil, List.length_cons, List.length_nil, List.replicate_succ, List.replicate_zero, List.cons_append, List.nil_append, aVar, aC, aOp, arI, arI0, arB, onI2, onB, aTest, aChain, aAnd, aOr, aNot, aAndV, aOrV, aNotV, aIf, aNil, aCons, aIsi, aNext, aCB, acLen, aCall, g_n, g_tup2, g_tup3, g_tup4, g_tup13, aNeg, aTup, aLst, aSl, arSlC, arCatC, aLstC, aApp, aDGet, aDPut, agSub, allD, arIx_t0, arIx_t1, arIx_t2, arIx_t3, encD_0, encD_1, encD_2, encD_3, encC_0, encC_1, encQ_0, encQ_1, arEq_i, arEq_s, ac2I_i, acInt_i, List.getElem?_cons_zero, List.getElem?_cons_succ, List.set_cons_zero, List.set_cons_succ, if_true, if_false, Bool.false_eq_true, Bool.not_true, Bool.not_false, Bool.false_xor, isInt_int, withinD_int, tupD_tup, encL, encI, sp_is_whole, sp_is_within, sp_is_truth, sp_is_tuple_of, sp_is_word_of])
local macro_rules | `(tactic| walk_at "st") => `(tactic| ((try dsimp only); (try refine i_seq ?_); (first | refine i_set ?_ | refine i_if ?_ | refine i_ret ?_ | refine i_asg ?_ | refine i_drop ?_ | refine i_par ?_ | refine i_par3 ?_ | refine i_next ?_); (walk_at "rd")))
abbrev scIn__law_deal : Scope := { kind := .function, names := [(".0", .local), ("_law_stand", .local), ("tuple", .globalImplicit), ("range", .globalImplicit), ("_law_m", .cell), ("_law_ranks_so", .cell), ("_law_stands_so", .cell)], isGenerator := false, isCoroutine := false }
def tkDead : List Tk := [.lines, .lost, .lines]
def tkLive : List Tk := [.self, .lines, .self, .lost]
theorem rd_tks {l : List Tk} {r : Nat} {C : Cs} {q : AV → Cs → Prop} (hr : r < l.length) (h : ∀ t ∈ l, q (.d (.str t.str)) C) : arIx (.d (.list (l.map fun t => PyData.str t.str))) (.d (.int (r : Nat))) C q :=
  ix_l (atD_map (getD_at (d := .lost) hr)) (h _ (List.mem_of_getElem? (getD_at (d := .lost) hr)))
theorem dead_ne {t : Tk} (h : t ∈ tkDead) : t ≠ .self := by
  unfold tkDead at h
  simp at h
  rcases h with h | h | h <;> rw [h] <;> exact fun z => by cases z
theorem DS.del {C0 C : Cs} {am ag p : Addr} {n : Nat} {c : Cell} (D : DS (AB.cup C0 p c) C am ag n) (pm : p ≠ am) (pg : p ≠ ag) (h0 : C0 p = none) : DS C0 (cdel C p) am ag n := by
  obtain ⟨cs, gs, s, h1, h2, h3, h4, h5⟩ := D.ex
  refine ⟨D.ne, ⟨cs, gs, s, by rw [cdel_ne (Ne.symm pm)]; exact h1, by rw [cdel_ne (Ne.symm pg)]; exact h2, h3, h4, h5⟩, fun b b1 b2 => ?_⟩
  by_cases e : b = p
  · rw [e, cdel_same, h0]
  · rw [cdel_ne e, D.rest b b1 b2, cup_ne e]
structure BothOk (R S : Nat) (b : List (Nat × Tk) × List (Nat × Tk)) : Prop where
  l1 : b.1.length = S
  l2 : b.2.length = S
  k1 : ∀ c ∈ b.1, c.1 < R ∧ c.2 ≠ .self
  k2 : ∀ c ∈ b.2, c.1 < R
def sp__law_deal : ASp := fun avs C q _ => ∃ (am ag : Addr) (m n : Nat) (C0 : Cs), avs = [.r am, .d (.int (m : Nat)), .d (.int 3)] ∧ 1 ≤ m ∧ m ≤ 3 ∧ n < 2 ^ 50 ∧ DS C0 C am ag n ∧ ∀ d C', DealOk d → d.marks = m → DS C0 C' am ag (n + 100) → q (.d (encD d)) C'
theorem ok__law_deal (T : Txt P K mg) : FnOk P w K mg base CX0 3 T.d__law_deal.f T.d__law_deal.fd ["_law_m", "_law_marks", "_law_wide"] (gSp K sp__law_deal) := by
  refine fok T.d__law_deal.F sc__law_deal (fun avs C q z h => ?_) (fun cdv A outer s H P' hr => ?_)
  · obtain ⟨am, ag, m, n, C0, rfl, _⟩ := h
    rfl
  · refine ⟨_, (apss_cons (aps_parT 3 4 rfl sc__law_deal.nd (apa_cons (ap_add api (ap_div (ap_call (ok__law_draw T) (hr.mono (by decide)) T.d__law_draw.g T.d__law_draw.F.kp T.d__law_draw.b pass0 (apa_cons (apv 0) (apa_cons api apa_nil))) api)) (apa_cons (ap_add api (ap_call (ok__law_draw T) (hr.mono (by decide)) T.d__law_draw.g T.d__law_draw.F.kp T.d__law_draw.b pass0 (apa_cons (apv 0) (apa_cons (apv 2) apa_nil)))) apa_nil)))
        (apss_cons (aps_lcC 6 [("_law_n", 5)] rfl sc__law_deal.nd (awi_r1 T.b_range (apv 3)) (blkOk_by (N := ["_law_m", "_law_marks", "_law_wide", "_law_ranks_so", "_law_stands_so", "_law_n", "_law_weights", "_law_stand", "_law_read_so", "_law_close_so", "_law_mark", "_law_dead", "_law_living"]) (sc := defScope s__law_deal) (by decide +kernel)) (fun _ _ _ _ _ => (apg_n (i := 5) sc__law_deal.nd)) (fun _ _ _ _ _ => apts_nil) (fun _ _ _ _ _ => (ap_call (ok__law_draw T) (hr.mono (by decide)) T.d__law_draw.g T.d__law_draw.F.kp T.d__law_draw.b pass0 (apa_cons (apv 0) (apa_cons api apa_nil)))) (sw_true rfl rfl rfl (by decide +kernel)))
        (apss_cons (aps_asg (vs := []) (ap_add api (ap_call (ok__law_draw T) (hr.mono (by decide)) T.d__law_draw.g T.d__law_draw.F.kp T.d__law_draw.b pass0 (apa_cons (apv 0) (apa_cons api apa_nil)))) (apg_s (apv 6) (ap_call (ok__law_draw T) (hr.mono (by decide)) T.d__law_draw.g T.d__law_draw.F.kp T.d__law_draw.b pass0 (apa_cons (apv 0) (apa_cons (apv 3) apa_nil)))))
        (apss_cons (aps_lc 8 [("_law_stand", 7)] rfl sc__law_deal.nd (awi_r1 T.b_range (apv 4)) (blkOk_by (N := ["_law_m", "_law_marks", "_law_wide", "_law_ranks_so", "_law_stands_so", "_law_n", "_law_weights", "_law_stand", "_law_read_so", "_law_close_so", "_law_mark", "_law_dead", "_law_living"]) (sc := defScope s__law_deal) (by decide +kernel)) (fun _ _ _ _ _ => (apg_n (i := 7) sc__law_deal.nd)) (fun _ _ _ _ _ => apts_nil) (fun _ _ _ _ _ => (ap_tuple T.b_tuple (ape_lc [("_law_n", 5)] rfl sc__law_deal.nd (awi_r1 T.b_range (apv 3)) (blkOk_by (N := ["_law_m", "_law_marks", "_law_wide", "_law_ranks_so", "_law_stands_so", "_law_n", "_law_weights", "_law_stand", "_law_read_so", "_law_close_so", "_law_mark", "_law_dead", "_law_living"]) (sc := scIn__law_deal) (by decide +kernel)) (fun _ _ _ _ _ => (apg_n (i := 5) sc__law_deal.nd)) (fun _ _ _ _ _ => apts_nil) (fun _ _ _ _ _ => (ap_call (ok__law_draw T) (hr.mono (by decide)) T.d__law_draw.g T.d__law_draw.F.kp T.d__law_draw.b pass0 (apa_cons (apv 0) (apa_cons (apv 4) apa_nil))))))) (sw_true rfl rfl rfl (by decide +kernel)))
        (apss_cons (aps_set 9 sc__law_deal.nd (ape_lstC apa_nil))
        (apss_cons (aps_for (vs := [10]) PassesOwn.never rfl (awi_r1 T.b_range (apv 1)) (apg_n (i := 10) sc__law_deal.nd) (apss_cons (aps_lc 11 [("_law_stand", 7)] rfl sc__law_deal.nd (awi_r1 T.b_range (apv 4)) (blkOk_by (N := ["_law_m", "_law_marks", "_law_wide", "_law_ranks_so", "_law_stands_so", "_law_n", "_law_weights", "_law_stand", "_law_read_so", "_law_close_so", "_law_mark", "_law_dead", "_law_living"]) (sc := defScope s__law_deal) (by decide +kernel)) (fun _ _ _ _ _ => (apg_n (i := 7) sc__law_deal.nd)) (fun _ _ _ _ _ => apts_nil) (fun _ _ _ _ _ => (ape_tup (apa_cons (ap_call (ok__law_draw T) (hr.mono (by decide)) T.d__law_draw.g T.d__law_draw.F.kp T.d__law_draw.b pass0 (apa_cons (apv 0) (apa_cons (apv 3) apa_nil))) (apa_cons (apx (ape_lst (apa_cons apstr (apa_cons apstr (apa_cons apstr apa_nil)))) (ap_call (ok__law_draw T) (hr.mono (by decide)) T.d__law_draw.g T.d__law_draw.F.kp T.d__law_draw.b pass0 (apa_cons (apv 0) (apa_cons api apa_nil)))) apa_nil)))) (sw_true rfl rfl rfl (by decide +kernel)))
        (apss_cons (aps_lc 12 [("_law_stand", 7)] rfl sc__law_deal.nd (awi_r1 T.b_range (apv 4)) (blkOk_by (N := ["_law_m", "_law_marks", "_law_wide", "_law_ranks_so", "_law_stands_so", "_law_n", "_law_weights", "_law_stand", "_law_read_so", "_law_close_so", "_law_mark", "_law_dead", "_law_living"]) (sc := defScope s__law_deal) (by decide +kernel)) (fun _ _ _ _ _ => (apg_n (i := 7) sc__law_deal.nd)) (fun _ _ _ _ _ => apts_nil) (fun _ _ _ _ _ => (ape_tup (apa_cons (ap_call (ok__law_draw T) (hr.mono (by decide)) T.d__law_draw.g T.d__law_draw.F.kp T.d__law_draw.b pass0 (apa_cons (apv 0) (apa_cons (apv 3) apa_nil))) (apa_cons (apx (ape_lst (apa_cons apstr (apa_cons apstr (apa_cons apstr (apa_cons apstr apa_nil))))) (ap_call (ok__law_draw T) (hr.mono (by decide)) T.d__law_draw.g T.d__law_draw.F.kp T.d__law_draw.b pass0 (apa_cons (apv 0) (apa_cons api apa_nil)))) apa_nil)))) (sw_true rfl rfl rfl (by decide +kernel)))
        (apss_one (aps_expr (ap_app (apv 9) (ape_tup (apa_cons (ap_tuple T.b_tuple (apv 11)) (apa_cons (ap_tuple T.b_tuple (apv 12)) apa_nil)))))))))
        (apss_one (aps_ret (ape_tup (apa_cons (apv 1) (apa_cons (ap_tuple T.b_tuple (apv 6)) (apa_cons (ap_tuple T.b_tuple (apv 8)) (apa_cons (ap_tuple T.b_tuple (apv 9)) apa_nil))))))))))))), fun avs C q h => ?_⟩
    obtain ⟨am, ag, m, n, C0, rfl, m1, m3, hn, D, h⟩ := h
    refine i_seq ?_
    refine i_par ?_
    walk_at "rd"
    refine rd_draw 4 D (by decide) (by decide) (by omega) fun a C1 ha D1 => ?_
    refine ⟨cdivN (b := 3) (by decide) (Nat.lt_of_lt_of_le (show 3 < 2 ^ 8 by decide) (by decide +kernel)), ?_⟩
    refine rd_draw 3 D1 (by decide) (by decide) (by omega) fun b C2 hb D2 => ?_
    obtain ⟨R, eR⟩ : ∃ R, R = 2 + a / 3 := ⟨_, rfl⟩
    obtain ⟨S, eS⟩ : ∃ S, S = 1 + b := ⟨_, rfl⟩
    have hR : R = 2 ∨ R = 3 := by omega
    have hS : 1 ≤ S ∧ S ≤ 3 := by omega
    have e1 : (2 : Int) + ((a : Nat) : Int) / 3 = ((R : Nat) : Int) := by omega
    have e2 : (1 : Int) + ((b : Nat) : Int) = ((S : Nat) : Int) := by omega
    walk_at "rd"
    rw [e1, e2]
    walk_at "st"
    refine i_lcDrC encI (fun w => w < 6) 1 (its := rngL 0 R 1) D2 (fun q hq => ?_) (by rw [rng_len]; omega) (fun i x C3 k hx D3 hk q hq => ?_) fun ws C3 hwl hws D3 p hp => ?_
    · simp only [awR1]
      walk_at "rd"
      exact ⟨⟨by omega, by omega⟩, hq⟩
    · rw [rng_len] at hk
      simp only [awipe]
      walk_at "rd"
      exact rd_draw 6 D3 (by decide) (by decide) (by omega) fun r C4 hr2 D4 => hq r C4 hr2 D4
    rw [rng_len] at hwl D3
    obtain ⟨pm, pg⟩ := D3.new hp
    have hC0p : C0 p = none := by rw [← D3.rest p pm pg]; exact hp
    have D4 := D3.cup (p := p) (c := .l ((ws.map encI).map AV.d)) pm pg
    refine i_seq ?_
    refine i_asg ?_
    walk_at "rd"
    refine rd_draw 4 D4 (by decide) (by decide) (by omega) fun v C5 hv D5 => ?_
    walk_at "rd"
    refine rd_draw R D5 (by omega) (by omega) (by omega) fun j C6 hj D6 => ?_
    have hp6 : C6 p = some (.l ((ws.map encI).map AV.d)) := D6.other pm pg cup_same
    refine ⟨p, _, _, j, rfl, rfl, hp6, by rw [List.length_map, List.length_map]; exact ixN_nat (by omega), ?_⟩
    obtain ⟨w2, ew2⟩ : ∃ w2, w2 = ws.set j (1 + v) := ⟨_, rfl⟩
    have ewl : ((ws.map encI).map AV.d).set j (.d (.int ((1 : Int) + (v : Nat)))) = (w2.map encI).map AV.d := by
      have e3 : (1 : Int) + ((v : Nat) : Int) = ((1 + v : Nat) : Int) := by omega
      rw [ew2, List.map_set, List.map_set, e3]
      rfl
    rw [ewl]
    have hw2l : w2.length = R := by rw [ew2, List.length_set]; exact hwl
    have hw2 : ∀ w ∈ w2, w ≤ 99 := fun w hw => by
      rw [ew2] at hw
      rcases List.mem_or_eq_of_mem_set hw with z | z
      · have := hws w z
        omega
      · omega
    have D7 := D6.cup (p := p) (c := .l ((w2.map encI).map AV.d)) pm pg
    rw [cup_cup] at D7
    obtain ⟨C7, eC7⟩ : ∃ C7, C7 = cup C6 p (.l ((w2.map encI).map AV.d)) := ⟨_, rfl⟩
    rw [← eC7] at D7 ⊢
    obtain ⟨B, eB⟩ : ∃ B, B = cup C0 p (.l ((w2.map encI).map AV.d)) := ⟨_, rfl⟩
    rw [← eB] at D7
    have hBp : B p = some (.l ((w2.map encI).map AV.d)) := by rw [eB]; exact cup_same
    clear ewl hp6 D4 D5 D6
    walk_at "st"
    refine i_lcDr encR (fun r => r.length = R ∧ ∀ s ∈ r, s < S) R (its := rngL 0 S 1) D7 (fun q hq => ?_) (by rw [rng_len]; omega) (fun i x C3 k hx D3 hk q hq => ?_) fun rs C8 hrl hrs D8 => ?_
    · simp only [awR1]
      walk_at "rd"
      exact ⟨⟨by omega, by omega⟩, hq⟩
    · rw [rng_len] at hk
      have hRS : R * S ≤ 9 := by
        rcases hR with e | e <;> subst e <;> omega
      simp only [ixs, awipe]
      walk_at "rd"
      refine i_lcDr encI (fun s => s < S) 1 (its := rngL 0 R 1) D3 (fun q hq => ?_) (by rw [rng_len]; omega) (fun i x C3 k2 hx D3 hk2 q hq => ?_) fun r C4 hrl hrs D4 => ?_
      · simp only [awR1]
        walk_at "rd"
        exact ⟨⟨by omega, by omega⟩, hq⟩
      · rw [rng_len] at hk2
        simp only [ixs, awipe]
        walk_at "rd"
        exact rd_draw S D3 (by omega) (by omega) (by omega) fun r C4 hr2 D4 => hq r C4 hr2 D4
      · rw [rng_len] at hrl D4
        rw [Nat.one_mul] at D4
        exact ⟨_, _, rfl, rfl, hq r C4 ⟨hrl, hrs⟩ D4⟩
    rw [rng_len] at hrl D8
    walk_at "st"
    refine ⟨by decide, fun c hc => ?_⟩
    obtain ⟨cm, cg⟩ := D8.new hc
    have hBc : B c = none := by rw [← D8.rest c cm cg]; exact hc
    have hcp : c ≠ p := fun e => by
      rw [e, hBp] at hBc
      cases hBc
    have D9 := D8.cup (p := c) (c := .l []) cm cg
    obtain ⟨N0, eN0⟩ : ∃ N0, N0 = n + 1 + 1 + 1 * R + 1 + 1 + R * S := ⟨_, rfl⟩
    rw [← eN0] at D9
    have hRS : R * S ≤ 9 := by
      rcases hR with e | e <;> subst e <;> omega
    refine i_seq ?_
    refine i_for (its := rngL 0 m 1) (sb := fun _ => True) (fun q hq => ?_) (fun i ρ' C' => ∃ y5 y7 y10 y11 y12 cs, ρ' = [some (.r am), some (.d (.int (m : Nat))), some (.d (.int 3)), some (.d (.int (R : Nat))), some (.d (.int (S : Nat))), y5, some (.r p), y7, some (.d (.list (rs.map encR))), some (.r c), y10, y11, y12] ∧
        cs.length = i ∧ (∀ b ∈ cs, BothOk R S b) ∧ DS (cup B c (.l ((cs.map encB).map AV.d))) C' am ag (N0 + (4 * S) * i))
      ⟨none, none, none, none, none, [], rfl, rfl, fun b hb => (by cases hb), D9⟩ (fun _ _ _ _ _ => trivial) ?_ ?_
    · simp only [awR1]
      walk_at "rd"
      exact ⟨⟨by omega, by omega⟩, hq⟩
    · rintro i x ρ' C' hx ⟨y5, y7, y10, y11, y12, cs, rfl, hcl, hok, D10⟩
      obtain ⟨hi, rfl⟩ := rng_get hx
      have hSi : (4 * S) * i ≤ 36 := by
        have := Nat.mul_le_mul (show 4 * S ≤ 12 by omega) (show i ≤ 3 by omega)
        omega
      walk_at "rd"
      walk_at "st"
      refine i_lcDr encC (fun c => c.1 < R ∧ c.2 ≠ .self) 2 (its := rngL 0 S 1) D10 (fun q hq => ?_) (by rw [rng_len]; omega) (fun i x C3 k hx D3 hk q hq => ?_) fun dd C11 hdl hdd D11 => ?_
      · simp only [awR1]
        walk_at "rd"
        exact ⟨⟨by omega, by omega⟩, hq⟩
      · rw [rng_len] at hk
        simp only [ixs, awipe]
        walk_at "rd"
        refine rd_draw R D3 (by omega) (by omega) (by omega) fun r C4 hr2 D4 => ?_
        walk_at "rd"
        refine ⟨by decide, rd_draw 3 D4 (by decide) (by decide) (by omega) fun t C5 ht D5 => ?_⟩
        refine rd_tks (l := tkDead) ht fun t2 ht2 => ?_
        walk_at "rd"
        exact ⟨by decide, hq (r, t2) C5 ⟨hr2, dead_ne ht2⟩ D5⟩
      rw [rng_len] at hdl D11
      walk_at "st"
      refine i_lcDr encC (fun c => c.1 < R) 2 (its := rngL 0 S 1) D11 (fun q hq => ?_) (by rw [rng_len]; omega) (fun i x C3 k hx D3 hk q hq => ?_) fun dl C12 hll hld D12 => ?_
      · simp only [awR1]
        walk_at "rd"
        exact ⟨⟨by omega, by omega⟩, hq⟩
      · rw [rng_len] at hk
        simp only [ixs, awipe]
        walk_at "rd"
        refine rd_draw R D3 (by omega) (by omega) (by omega) fun r C4 hr2 D4 => ?_
        walk_at "rd"
        refine ⟨by decide, rd_draw 4 D4 (by decide) (by decide) (by omega) fun t C5 ht D5 => ?_⟩
        refine rd_tks (l := tkLive) ht fun t2 ht2 => ?_
        walk_at "rd"
        exact ⟨by decide, hq (r, t2) C5 hr2 D5⟩
      rw [rng_len] at hll D12
      have hc12 : C12 c = some (.l ((cs.map encB).map AV.d)) := D12.other cm cg cup_same
      walk_at "st"
      refine ⟨c, _, rfl, hc12, _, _, rfl, rfl, _, _, rfl, rfl, ?_⟩
      walk_at "rd"
      refine ⟨by decide, _, hc12, by rw [List.length_map, List.length_map]; omega, _, _, _, _, _, cs ++ [(dd, dl)], rfl, by rw [List.length_append, hcl]; rfl, fun b hb => ?_, ?_⟩
      · rcases List.mem_append.mp hb with z | z
        · exact hok b z
        · rw [List.mem_singleton.mp z]
          exact ⟨hdl, hll, hdd, hld⟩
      · have D13 := D12.cup (p := c) (c := .l (((cs ++ [(dd, dl)]).map encB).map AV.d)) cm cg
        rw [cup_cup] at D13
        rw [List.map_append, List.map_append] at D13 ⊢
        have eN : N0 + 4 * S * i + 2 * S + 2 * S = N0 + 4 * S * (i + 1) := by
          rw [Nat.mul_add]
          omega
        rw [eN] at D13
        exact D13
    · rintro ρ' C' ⟨y5, y7, y10, y11, y12, cs, rfl, hcl, hok, D10⟩
      rw [rng_len] at hcl D10
      have hSi : (4 * S) * m ≤ 36 := by
        have := Nat.mul_le_mul (show 4 * S ≤ 12 by omega) m3
        omega
      have hp' : C' p = some (.l ((w2.map encI).map AV.d)) := D10.other pm pg (by rw [cup_ne (Ne.symm hcp)]; exact hBp)
      have hc' : C' c = some (.l ((cs.map encB).map AV.d)) := D10.other cm cg cup_same
      walk_at "st"
      refine ⟨_, _, rfl, ⟨_, hp', rfl⟩, _, _, rfl, rfl, _, _, rfl, ⟨_, hc', rfl⟩, ?_⟩
      walk_at "rd"
      have DE := (D10.del cm cg hBc)
      rw [eB] at DE
      have DF := DE.del pm pg hC0p
      refine ⟨by decide, Ret.sub (Sub.trans Sub.del Sub.del) (h ⟨m, w2, rs, cs⟩ _ ?_ rfl (DF.mono (by omega)))⟩
      exact { m1 := m1, m3 := m3, w1 := by show 1 ≤ w2.length; omega, w8 := by show w2.length ≤ 8; omega, w99 := hw2, r1 := by show 1 ≤ rs.length; omega, r8 := by show rs.length ≤ 8; omega,
              rl := fun r hr => by show r.length = w2.length; rw [hw2l]; exact (hrs r hr).1, rs := fun r hr s hs => by show s < rs.length; rw [hrl]; exact (hrs r hr).2 s hs, cl := hcl,
              c1 := fun b hb => by show b.1.length = rs.length; rw [hrl]; exact (hok b hb).l1, c2 := fun b hb => by show b.2.length = rs.length; rw [hrl]; exact (hok b hb).l2,
              k1 := fun b hb c hc => by show c.1 < w2.length ∧ _; rw [hw2l]; exact (hok b hb).k1 c hc, k2 := fun b hb c hc => by show c.1 < w2.length; rw [hw2l]; exact (hok b hb).k2 c hc }
end
end AB

set_option Elab.async false
set_option linter.all false
set_option maxRecDepth 100000
set_option maxHeartbeats 4000000
/-! The walks: the law's shared families. -/
namespace AB
open PySem PySem.Spec PyProof.Rows L2
/-- what was made beside is forgotten -/
theorem ds_base {C0 B C' : Cs} {am ag : Addr} {n : Nat} (D : DS B C' am ag n) (s : Sub C0 B) : ∃ C2, Sub C2 C' ∧ DS C0 C2 am ag n := by
  obtain ⟨cs, gs, k, h1, h2, h3, h4, h5⟩ := D.ex
  refine ⟨fun b => if b = am ∨ b = ag then C' b else C0 b, fun b c hb => ?_, D.ne, ⟨cs, gs, k, by rw [if_pos (Or.inl rfl)]; exact h1, by rw [if_pos (Or.inr rfl)]; exact h2, h3, h4, h5⟩, fun b b1 b2 => if_neg fun z => z.elim b1 b2⟩
  dsimp only at hb
  by_cases e : b = am ∨ b = ag
  · rw [if_pos e] at hb
    exact hb
  · rw [if_neg e] at hb
    rw [D.rest b (fun z => e (Or.inl z)) fun z => e (Or.inr z)]
    exact s b c hb
structure ShOk (f : List Ln) (m n : Nat) : Prop where
  len : f.length = n
  marks : ∀ l ∈ f, l.mark < m
  few : ∀ l ∈ f, l.kids.length ≤ 57
  kids : kidsOk f
theorem ShOk.snoc {f : List Ln} {m n : Nat} (I : ShOk f m n) {l : Ln} (h1 : l.mark < m) (h2 : l.kids.length ≤ 57) (h3 : ∀ k ∈ l.kids, k < n) : ShOk (f ++ [l]) m (n + 1) := by
  refine ⟨by rw [List.length_append, I.len]; rfl, fun x hx => ?_, fun x hx => ?_, fun i x hx k hk => ?_⟩
  · rcases List.mem_append.mp hx with z | z
    · exact I.marks x z
    · rw [List.mem_singleton.mp z]
      exact h1
  · rcases List.mem_append.mp hx with z | z
    · exact I.few x z
    · rw [List.mem_singleton.mp z]
      exact h2
  · by_cases hi : i < f.length
    · rw [List.getElem?_append_left hi] at hx
      exact I.kids i x hx k hk
    · have z := (List.getElem?_eq_some_iff.mp hx).1
      rw [List.length_append, List.length_cons, List.length_nil] at z
      rw [List.getElem?_append_right (by omega)] at hx
      have e := List.mem_singleton.mp (List.mem_of_getElem? hx)
      subst e
      have := h3 k hk
      have := I.len
      omega
/-- a comprehension over as many numbers as are drawn -/
theorem i_rd_lcC {C0 C : Cs} {am ag : Addr} {n v lim : Nat} {g : AG} {e : AE} {vs : List Nat} {ρ : Sl} {q : AV → Cs → Prop} {z : Xn → Cs → Prop} (hv : ρ[v]? = some (some (.r am))) (D : DS C0 C am ag n) (h0 : 0 < lim) (h1 : lim < 2 ^ 60) (hn : n < 2 ^ 60)
    (h : ∀ (s : Nat) C1, s < lim → DS C0 C1 am ag (n + 1) → aLcC (fun _ C q => q (rngL 0 s 1) (fun _ => True) C) g atYes e vs ρ C1 q) : aLcC (awR1 (aCons (aCall sp__law_draw z (aCons (aVar v) (aCons (aC (.int (lim : Nat))) aNil))) aNil)) g atYes e vs ρ C q := by
  unfold aLcC lcInv
  simp only [awR1, aCons, aCall, aVar, aC, aNil, hv]
  exact rd_draw lim D h0 h1 hn fun s C1 hs D1 => ⟨⟨by omega, by omega⟩, h s C1 hs D1⟩
theorem sh_fin {C0 B C : Cs} {am ag c : Addr} {f : List Ln} {m i k n mk : Nat} {ks : List Nat} {a0 a1 a2 y3 y4 y5 : Option AV} (D : DS B C am ag k) (sB : Sub C0 B) (h0 : C0 c = none) (cm : c ≠ am) (cg : c ≠ ag) (Sh : ShOk f m i) (hm : mk < m) (h57 : ks.length ≤ 57) (hlt : ∀ x ∈ ks, x < i) (hk : k ≤ n + 1 + 20 * (i + 1)) (b : Bool) :
    ∃ z3 z4 z5 B2 f2, ([a0, a1, a2, y3, y4, y5] : Sl) = [a0, a1, a2, z3, z4, z5] ∧ Sub C0 B2 ∧ B2 c = some (.l ((f2.map encL).map AV.d)) ∧ ShOk f2 m (i + 1) ∧ DS B2 (cup C c (.l ((f.map encL).map AV.d ++ [AV.d (encL ⟨mk, b, ks⟩)]))) am ag (n + 1 + 20 * (i + 1)) := by
  refine ⟨y3, y4, y5, cup B c (.l (((f ++ ([⟨mk, b, ks⟩] : List Ln)).map encL).map AV.d)), f ++ ([⟨mk, b, ks⟩] : List Ln), rfl, fun a o h => ?_, cup_same, Sh.snoc hm h57 hlt, ?_⟩
  · rw [cup_ne fun e => by rw [e, h0] at h; cases h]
    exact sB a o h
  · have D2 := (D.cup (p := c) (c := .l (((f ++ ([⟨mk, b, ks⟩] : List Ln)).map encL).map AV.d)) cm cg).mono hk
    rw [List.map_append, List.map_append] at D2 ⊢
    exact D2
section
variable {P : Program} {w : World} {K : PySem.W.Frag} {mg : Str → Option Value} {base : Heap}
local macro_rules | `(tactic| walk_at "rd") => `(tactic| try simp only [astart, List.map_cons, List.map_nil, List.length_cons, List.length_nil, List.replicate_succ, List.replicate_zero, List.cons_append, List.nil_append, aVar, aC, aOp, arI, arI0, arB, onI2, onB, aTest, aChain, aAnd, aOr, aNot, aAndV, aOrV, aNotV, aIf, aNil, aCons, aIsi, aNext, aCB, acLen, aCall, g_n, g_tup2, g_tup3, g_tup4, g_tup13, aNeg, aTup, aLst, aSl, arSlC, arCatC, aLstC, aApp, aDGet, aDPut, agSub, allD, arIx_t0, arIx_t1, arIx_t2, arIx_t3, encD_0, encD_1, encD_2, encD_3, encC_0, encC_1, encQ_0, encQ_1, arEq_i, arEq_s, ac2I_i, acInt_i, List.getElem?_cons_zero, List.getElem?_cons_succ, List.set_cons_zero, List.set_cons_succ, if_true, if_false, Bool.false_eq_true, Bool.not_true, Bool.not_false, Bool.false_xor, isInt_int, withinD_int, tupD_tup, encL, encI, sp_is_whole, sp_is_within, sp_is_truth, sp_is_tuple_of, sp_is_word_of])
local macro_rules | `(tactic| walk_at "st") => `(tactic| ((try dsimp only); (try refine i_seq ?_); (first | refine i_set ?_ | refine i_if ?_ | refine i_ret ?_ | refine i_asg ?_ | refine i_drop ?_ | refine i_par ?_ | refine i_par3 ?_ | refine i_next ?_); (walk_at "rd")))
def sp__law_shared : ASp := fun avs C q _ => ∃ (am ag : Addr) (m n : Nat) (C0 : Cs), avs = [.r am, .d (.int (m : Nat))] ∧ 1 ≤ m ∧ m ≤ 3 ∧ n < 2 ^ 50 ∧ DS C0 C am ag n ∧ ∀ f k C', 2 ≤ k → k ≤ 12 → ShOk f m k → DS C0 C' am ag (n + 300) → q (.d (encF f)) C'
theorem ok__law_shared (T : Txt P K mg) : FnOk P w K mg base CX0 3 T.d__law_shared.f T.d__law_shared.fd ["_law_m", "_law_marks"] (gSp K sp__law_shared) := by
  refine fok T.d__law_shared.F sc__law_shared (fun avs C q z h => ?_) (fun cdv A outer s H P' hr => ?_)
  · obtain ⟨am, ag, m, n, C0, rfl, _⟩ := h
    rfl
  · refine ⟨_, (apss_cons (aps_set 2 sc__law_shared.nd (ape_lstC apa_nil))
        (apss_cons (aps_for (vs := [3]) PassesOwn.never rfl (awi_r1 T.b_range (ap_add api (ap_call (ok__law_draw T) (hr.mono (by decide)) T.d__law_draw.g T.d__law_draw.F.kp T.d__law_draw.b pass0 (apa_cons (apv 0) (apa_cons api apa_nil))))) (apg_n (i := 3) sc__law_shared.nd) (apss_cons (aps_set 5 sc__law_shared.nd (ape_if (at_gt (apv 3) api) (ape_lcC [("_law_step", 4)] rfl sc__law_shared.nd (awi_r1 T.b_range (ap_call (ok__law_draw T) (hr.mono (by decide)) T.d__law_draw.g T.d__law_draw.F.kp T.d__law_draw.b pass0 (apa_cons (apv 0) (apa_cons api apa_nil)))) (blkOk_by (N := ["_law_m", "_law_marks", "_law_lines", "_law_n", "_law_step", "_law_kids"]) (sc := defScope s__law_shared) (by decide +kernel)) (fun _ _ _ _ _ => (apg_n (i := 4) sc__law_shared.nd)) (fun _ _ _ _ _ => apts_nil) (fun _ _ _ _ _ => (ap_call (ok__law_draw T) (hr.mono (by decide)) T.d__law_draw.g T.d__law_draw.F.kp T.d__law_draw.b pass0 (apa_cons (apv 0) (apa_cons (apv 3) apa_nil))))) (ape_lstC apa_nil)))
        (apss_cons (aps_if (apt_w (apw_and (at_gt (apv 3) api) (apw_1 (at_eq (ap_call (ok__law_draw T) (hr.mono (by decide)) T.d__law_draw.g T.d__law_draw.F.kp T.d__law_draw.b pass0 (apa_cons (apv 0) (apa_cons api apa_nil))) api)))) (apss_one (aps_set 5 sc__law_shared.nd (ap_catC (apv 5) (ap_repC (ape_lstC (apa_cons (ap_sub (apv 3) api) apa_nil)) (ap_add api (ap_call (ok__law_draw T) (hr.mono (by decide)) T.d__law_draw.g T.d__law_draw.F.kp T.d__law_draw.b pass0 (apa_cons (apv 0) (apa_cons api apa_nil)))))))) apss_nil)
        (apss_one (aps_expr (ap_app (apv 2) (ape_tup (apa_cons (ap_call (ok__law_draw T) (hr.mono (by decide)) T.d__law_draw.g T.d__law_draw.F.kp T.d__law_draw.b pass0 (apa_cons (apv 0) (apa_cons (apv 1) apa_nil))) (apa_cons (ape_and (ap_gt (ap_call (ok__law_draw T) (hr.mono (by decide)) T.d__law_draw.g T.d__law_draw.F.kp T.d__law_draw.b pass0 (apa_cons (apv 0) (apa_cons api apa_nil))) api) (ape_one (ap_lt (apv 3) api))) (apa_cons (ap_tuple T.b_tuple (apv 5)) apa_nil))))))))))
        (apss_one (aps_ret (ap_tuple T.b_tuple (apv 2)))))), fun avs C q h => ?_⟩
    obtain ⟨am, ag, m, n, C0, rfl, m1, m3, hn, D, h⟩ := h
    walk_at "st"
    refine ⟨by decide, fun c hc => ?_⟩
    obtain ⟨cm, cg⟩ := D.new hc
    have hC0c : C0 c = none := by rw [← D.rest c cm cg]; exact hc
    have D1 := D.cup (p := c) (c := .l []) cm cg
    refine i_seq ?_
    unfold aFor
    simp only [awR1]
    walk_at "rd"
    refine rd_draw 11 D1 (by decide) (by decide) (by omega) fun t C2 ht D2 => ?_
    walk_at "rd"
    have e1 : ((2 : Int) + ((t : Nat) : Int)).toNat = 2 + t := by omega
    rw [e1]
    refine ⟨⟨by omega, by omega⟩, fun i ρ' C' => ∃ y3 y4 y5 B f, ρ' = [some (.r am), some (.d (.int (m : Nat))), some (.r c), y3, y4, y5] ∧ Sub C0 B ∧ B c = some (.l ((f.map encL).map AV.d)) ∧ ShOk f m i ∧ DS B C' am ag (n + 1 + 20 * i),
      ⟨none, none, none, _, [], rfl, Sub.cup hC0c, cup_same, ⟨rfl, fun l hl => (by cases hl), fun l hl => (by cases hl), fun i l hl => by simp at hl⟩, D2⟩, fun _ _ _ _ _ => trivial, ?_, ?_⟩
    · rintro i x ρ' C' hx ⟨y3, y4, y5, B, f, rfl, sB, hBc, Sh, D3⟩
      obtain ⟨hi, rfl⟩ := rng_get hx
      have e2 : (0 : Int) + (i : Int) * 1 = ((i : Nat) : Int) := by omega
      rw [e2]
      walk_at "rd"
      walk_at "st"
      refine ite2 (fun hpos => ?_) (fun h0 => ?_)
      · have hi0 : 0 < i := by
          rw [decide_eq_true_eq] at hpos
          omega
        refine i_rd_lcC (lim := 9) rfl D3 (by decide) (by decide) (by omega) fun s C3 hs D4 => ?_
        refine i_lcDrC encI (fun x => x < i) 1 (its := rngL 0 s 1) D4 (fun q hq => hq) (by rw [rng_len]; omega) (fun j x C4 k hx D5 hk q hq => ?_) fun ks C4 hkl hks D5 kc hkc => ?_
        · rw [rng_len] at hk
          simp only [awipe]
          walk_at "rd"
          exact rd_draw i D5 hi0 (by omega) (by omega) fun r C6 hr2 D6 => hq r C6 hr2 D6
        rw [rng_len] at hkl D5
        obtain ⟨km, kg⟩ := D5.new hkc
        have hcc : c ≠ kc := cne (D5.other cm cg hBc) hkc
        have hBk : B kc = none := by rw [← D5.rest kc km kg]; exact hkc
        have DD := D5.cup (p := kc) (c := .l ((ks.map encI).map AV.d)) km kg
        have sub : Sub C0 (cup B kc (.l ((ks.map encI).map AV.d))) := sB.trans (Sub.cup hBk)
        have hB : cup B kc (.l ((ks.map encI).map AV.d)) c = some (.l ((f.map encL).map AV.d)) := by rw [cup_ne hcc]; exact hBc
        have hK : cup B kc (.l ((ks.map encI).map AV.d)) kc = some (.l ((ks.map encI).map AV.d)) := cup_same
        walk_at "rd"
        walk_at "st"
        refine ite2 (fun _ => ?_) (fun h0 => absurd hpos h0)
        refine rd_draw 3 DD (by decide) (by decide) (by omega) fun z C7 hz D7 => ?_
        walk_at "rd"
        refine ite2 (fun _ => ?_) (fun _ => ?_)
        · walk_at "st"
          refine ⟨by decide, fun l1 hl1 => ?_⟩
          obtain ⟨l1m, l1g⟩ := D7.new hl1
          have D8 := D7.cup (p := l1) (c := .l [AV.d (.int ((i : Nat) - 1))]) l1m l1g
          refine rd_draw 40 D8 (by decide) (by decide) (by omega) fun u C9 hu D9 => ?_
          walk_at "rd"
          have hl1' : C9 l1 = some (.l [AV.d (.int ((i : Nat) - 1))]) := D9.other l1m l1g cup_same
          refine ⟨l1, _, _, rfl, rfl, hl1', by omega, by omega, by simp, fun l2 hl2 => ?_⟩
          obtain ⟨l2m, l2g⟩ := D9.new hl2
          have hkl1 : kc ≠ l1 := cne (D7.other km kg hK) hl1
          have hkc9 : C9 kc = some (.l ((ks.map encI).map AV.d)) := D9.other km kg (by rw [cup_ne hkl1]; exact hK)
          have hkl2 : kc ≠ l2 := cne hkc9 hl2
          have erep : (List.replicate ((10 : Int) + (u : Nat)).toNat [AV.d (.int ((i : Nat) - 1))]).flatten = ((List.replicate (10 + u) (i - 1)).map encI).map AV.d := by
            have eu : ((10 : Int) + (u : Nat)).toNat = 10 + u := by omega
            have ei : ((i : Nat) : Int) - 1 = ((i - 1 : Nat) : Int) := by omega
            rw [eu, ei, List.map_replicate, List.map_replicate, List.flatten_replicate_singleton]
            rfl
          rw [erep]
          have D10 := D9.cup (p := l2) (c := .l (((List.replicate (10 + u) (i - 1)).map encI).map AV.d)) l2m l2g
          refine ⟨kc, l2, (ks.map encI).map AV.d, _, rfl, rfl, by rw [cup_ne hkl2]; exact hkc9, cup_same, by simp; omega, fun l3 hl3 => ?_⟩
          obtain ⟨l3m, l3g⟩ := D10.new hl3
          have eapp : (ks.map encI).map AV.d ++ ((List.replicate (10 + u) (i - 1)).map encI).map AV.d = ((ks ++ List.replicate (10 + u) (i - 1)).map encI).map AV.d := by
            rw [List.map_append, List.map_append]
          rw [eapp]
          have D11 := D10.cup (p := l3) (c := .l (((ks ++ List.replicate (10 + u) (i - 1)).map encI).map AV.d)) l3m l3g
          obtain ⟨ks2, eks2⟩ : ∃ ks2, ks2 = ks ++ List.replicate (10 + u) (i - 1) := ⟨_, rfl⟩
          rw [← eks2] at D11 ⊢
          have h57 : ks2.length ≤ 57 := by
            rw [eks2, List.length_append, List.length_replicate]
            omega
          have hlt : ∀ x ∈ ks2, x < i := fun x hx => by
            rw [eks2] at hx
            rcases List.mem_append.mp hx with z | z
            · exact hks x z
            · rw [List.eq_of_mem_replicate z]
              omega
          clear eapp erep
          have hn1 : cup B kc (.l ((ks.map encI).map AV.d)) l1 = none := by rw [← D7.rest l1 l1m l1g]; exact hl1
          have sub2 := sub.trans (Sub.cup (c := .l [AV.d (.int ((i : Nat) - 1))]) hn1)
          have hn2 : cup (cup B kc (.l ((ks.map encI).map AV.d))) l1 (.l [AV.d (.int ((i : Nat) - 1))]) l2 = none := by rw [← D9.rest l2 l2m l2g]; exact hl2
          have sub3 := sub2.trans (Sub.cup (c := .l (((List.replicate (10 + u) (i - 1)).map encI).map AV.d)) hn2)
          have hn3 := D10.rest l3 l3m l3g
          rw [hl3] at hn3
          have sub4 := sub3.trans (Sub.cup (c := .l ((ks2.map encI).map AV.d)) hn3.symm)
          obtain ⟨B4, eB4⟩ : ∃ B4, B4 = cup (cup (cup (cup B kc (.l ((ks.map encI).map AV.d))) l1 (.l [AV.d (.int ((i : Nat) - 1))])) l2 (.l (((List.replicate (10 + u) (i - 1)).map encI).map AV.d))) l3 (.l ((ks2.map encI).map AV.d)) := ⟨_, rfl⟩
          have hB4 : B4 c = some (.l ((f.map encL).map AV.d)) := by
            rw [eB4, cup_ne (cne (D10.other cm cg (by rw [cup_ne (cne (D9.other cm cg (by rw [cup_ne (cne (D7.other cm cg hB) hl1)]; exact hB)) hl2), cup_ne (cne (D7.other cm cg hB) hl1)]; exact hB)) hl3), cup_ne (cne (D9.other cm cg (by rw [cup_ne (cne (D7.other cm cg hB) hl1)]; exact hB)) hl2), cup_ne (cne (D7.other cm cg hB) hl1)]
            exact hB
          have hK4 : B4 l3 = some (.l ((ks2.map encI).map AV.d)) := by rw [eB4]; exact cup_same
          rw [← eB4] at D11 sub4
          walk_at "rd"
          refine i_drop ?_
          walk_at "rd"
          refine ⟨c, _, rfl, D11.other cm cg hB4, ?_⟩
          refine rd_draw m D11 (by omega) (by omega) (by omega) fun mk C5 hmk D5 => ?_
          walk_at "rd"
          refine rd_draw 3 D5 (by decide) (by decide) (by omega) fun lv C6 hlv D6 => ?_
          walk_at "rd"
          refine ite2 (fun _ => ?_) (fun _ => ?_)
          · walk_at "rd"
            refine ⟨_, _, rfl, ⟨_, D6.other l3m l3g hK4, rfl⟩, ?_⟩
            walk_at "rd"
            exact ⟨by decide, _, D6.other cm cg hB4, by rw [List.length_map, List.length_map, Sh.len]; omega, sh_fin (ks := ks2) D6 sub4 hC0c cm cg Sh hmk h57 hlt (by omega) _⟩
          · walk_at "rd"
            refine ⟨_, _, rfl, ⟨_, D6.other l3m l3g hK4, rfl⟩, ?_⟩
            walk_at "rd"
            exact ⟨by decide, _, D6.other cm cg hB4, by rw [List.length_map, List.length_map, Sh.len]; omega, sh_fin (ks := ks2) D6 sub4 hC0c cm cg Sh hmk h57 hlt (by omega) false⟩
        · have h57 : ks.length ≤ 57 := by omega
          have hlt : ∀ x ∈ ks, x < i := hks
          walk_at "rd"
          refine i_drop ?_
          walk_at "rd"
          refine ⟨c, _, rfl, D7.other cm cg hB, ?_⟩
          refine rd_draw m D7 (by omega) (by omega) (by omega) fun mk C5 hmk D5 => ?_
          walk_at "rd"
          refine rd_draw 3 D5 (by decide) (by decide) (by omega) fun lv C6 hlv D6 => ?_
          walk_at "rd"
          refine ite2 (fun _ => ?_) (fun _ => ?_)
          · walk_at "rd"
            refine ⟨_, _, rfl, ⟨_, D6.other km kg hK, rfl⟩, ?_⟩
            walk_at "rd"
            exact ⟨by decide, _, D6.other cm cg hB, by rw [List.length_map, List.length_map, Sh.len]; omega, sh_fin (ks := ks) D6 sub hC0c cm cg Sh hmk h57 hlt (by omega) _⟩
          · walk_at "rd"
            refine ⟨_, _, rfl, ⟨_, D6.other km kg hK, rfl⟩, ?_⟩
            walk_at "rd"
            exact ⟨by decide, _, D6.other cm cg hB, by rw [List.length_map, List.length_map, Sh.len]; omega, sh_fin (ks := ks) D6 sub hC0c cm cg Sh hmk h57 hlt (by omega) false⟩
      · have hi0 : i = 0 := by
          rw [decide_eq_true_eq] at h0
          omega
        refine ⟨by decide, fun kc hkc => ?_⟩
        obtain ⟨km, kg⟩ := D3.new hkc
        have hcc : c ≠ kc := cne (D3.other cm cg hBc) hkc
        have hBk : B kc = none := by rw [← D3.rest kc km kg]; exact hkc
        obtain ⟨ks, eks⟩ : ∃ ks : List Nat, ks = [] := ⟨[], rfl⟩
        have ecl : Cell.l [] = .l ((ks.map encI).map AV.d) := by rw [eks]; rfl
        rw [ecl]
        have DD := D3.cup (p := kc) (c := .l ((ks.map encI).map AV.d)) km kg
        have sub : Sub C0 (cup B kc (.l ((ks.map encI).map AV.d))) := sB.trans (Sub.cup hBk)
        have hB : cup B kc (.l ((ks.map encI).map AV.d)) c = some (.l ((f.map encL).map AV.d)) := by rw [cup_ne hcc]; exact hBc
        have hK : cup B kc (.l ((ks.map encI).map AV.d)) kc = some (.l ((ks.map encI).map AV.d)) := cup_same
        have h57 : ks.length ≤ 57 := by rw [eks]; decide
        have hlt : ∀ x ∈ ks, x < i := fun x hx => by rw [eks] at hx; cases hx
        walk_at "rd"
        walk_at "st"
        refine ite2 (fun h1 => absurd h1 h0) (fun _ => ?_)
        walk_at "rd"
        refine i_drop ?_
        walk_at "rd"
        refine ⟨c, _, rfl, DD.other cm cg hB, ?_⟩
        refine rd_draw m DD (by omega) (by omega) (by omega) fun mk C5 hmk D5 => ?_
        walk_at "rd"
        refine rd_draw 3 D5 (by decide) (by decide) (by omega) fun lv C6 hlv D6 => ?_
        walk_at "rd"
        refine ite2 (fun _ => ?_) (fun _ => ?_)
        · walk_at "rd"
          refine ⟨_, _, rfl, ⟨_, D6.other km kg hK, rfl⟩, ?_⟩
          walk_at "rd"
          exact ⟨by decide, _, D6.other cm cg hB, by rw [List.length_map, List.length_map, Sh.len]; omega, sh_fin (ks := ks) D6 sub hC0c cm cg Sh hmk h57 hlt (by omega) _⟩
        · walk_at "rd"
          refine ⟨_, _, rfl, ⟨_, D6.other km kg hK, rfl⟩, ?_⟩
          walk_at "rd"
          exact ⟨by decide, _, D6.other cm cg hB, by rw [List.length_map, List.length_map, Sh.len]; omega, sh_fin (ks := ks) D6 sub hC0c cm cg Sh hmk h57 hlt (by omega) false⟩
    · rintro ρ' C' ⟨y3, y4, y5, B, f, rfl, sB, hBc, Sh, D3⟩
      rw [rng_len] at Sh D3
      walk_at "st"
      obtain ⟨C9, sC9, D9⟩ := ds_base D3 sB
      refine ⟨_, _, rfl, ⟨_, D3.other cm cg hBc, rfl⟩, Ret.sub sC9 ?_⟩
      exact h f (2 + t) C9 (by omega) (by omega) Sh (D9.mono (by omega))
end
end AB

set_option Elab.async false
set_option linter.all false
set_option maxRecDepth 100000
set_option maxHeartbeats 4000000
/-! Counts by key; bounds of payments. -/
namespace AB
open PySem PySem.Spec PyProof.Rows L2
/-! ### counted keys -/
abbrev Kv := List (Nat × Nat)
def bump : Kv → Nat → Kv
  | [], k => [(k, 1)]
  | p :: r, k => if p.1 = k then (p.1, p.2 + 1) :: r else p :: bump r k
def cn : Kv → Nat → Nat
  | [], _ => 0
  | p :: r, k => if p.1 = k then p.2 else cn r k
def kvOf (ks : List Nat) : Kv := ks.foldl bump []
theorem kvOf_snoc (ks : List Nat) (k : Nat) : kvOf (ks ++ [k]) = bump (kvOf ks) k := by
  unfold kvOf
  rw [List.foldl_append]
  rfl
def encKv (kv : Kv) : List (Key × AV) := kv.map fun p => (.inl (p.1 : Int), .d (.int (p.2 : Nat)))
theorem key_eq {a b : Nat} : ((Sum.inl (a : Int) : Key) = Sum.inl (b : Int)) ↔ a = b := by
  constructor
  · intro h
    have := Sum.inl.inj h
    omega
  · intro h
    rw [h]
theorem aval_kv (kv : Kv) (k : Nat) : (aval (encKv kv) (.inl (k : Int))).getD (.d (.int 0)) = .d (.int (cn kv k : Nat)) := by
  induction kv with
  | nil => rfl
  | cons p r ih =>
    unfold encKv aval at ih ⊢
    rw [List.map_cons]
    by_cases e : p.1 = k
    · rw [List.find?_cons_of_pos (by simpa using key_eq.mpr e)]
      show AV.d (.int ((p.2 : Nat) : Int)) = _
      unfold cn
      rw [if_pos e]
    · rw [List.find?_cons_of_neg (by simpa using fun z => e (key_eq.mp z)), ih]
      show _ = AV.d (.int ((if p.1 = k then p.2 else cn r k : Nat) : Int))
      rw [if_neg e]
theorem aval_mem {kv : Kv} (nd : (kv.map (·.1)).Nodup) {i : Nat} {p : Nat × Nat} (h : kv[i]? = some p) : aval (encKv kv) (.inl (p.1 : Int)) = some (.d (.int (p.2 : Nat))) := by
  induction kv generalizing i with
  | nil => simp at h
  | cons a r ih =>
    rw [List.map_cons, List.nodup_cons] at nd
    unfold encKv aval at ih ⊢
    rw [List.map_cons]
    cases i with
    | zero =>
      rw [List.getElem?_cons_zero] at h
      cases h
      rw [List.find?_cons_of_pos (by simp)]
      rfl
    | succ i =>
      rw [List.getElem?_cons_succ] at h
      have hm := List.mem_of_getElem? h
      have e : ¬ a.1 = p.1 := fun z => nd.1 (List.mem_map.mpr ⟨p, hm, z.symm⟩)
      rw [List.find?_cons_of_neg (by simpa using fun z => e (key_eq.mp z))]
      exact ih nd.2 h
theorem mem_bump {kv : Kv} {k x : Nat} : x ∈ (bump kv k).map (·.1) ↔ x ∈ kv.map (·.1) ∨ x = k := by
  induction kv with
  | nil => simp [bump]
  | cons p r ih =>
    unfold bump
    split
    · rename_i e
      simp only [List.map_cons, List.mem_cons]
      constructor
      · exact fun h => .inl h
      · rintro (h | h)
        · exact h
        · exact .inl (by rw [h, e])
    · simp only [List.map_cons, List.mem_cons, ih]
      constructor
      · rintro (h | h | h)
        · exact .inl (.inl h)
        · exact .inl (.inr h)
        · exact .inr h
      · rintro ((h | h) | h)
        · exact .inl h
        · exact .inr (.inl h)
        · exact .inr (.inr h)
theorem nd_bump {kv : Kv} (h : (kv.map (·.1)).Nodup) (k : Nat) : ((bump kv k).map (·.1)).Nodup := by
  induction kv with
  | nil => simp [bump]
  | cons p r ih =>
    rw [List.map_cons, List.nodup_cons] at h
    unfold bump
    split
    · rw [List.map_cons, List.nodup_cons]
      exact h
    · rename_i e
      rw [List.map_cons, List.nodup_cons]
      exact ⟨fun z => (mem_bump.mp z).elim h.1 e, ih h.2⟩
theorem aput_kv {kv : Kv} (nd : (kv.map (·.1)).Nodup) (k : Nat) : aput (encKv kv) (.inl (k : Int)) (.d (.int ((cn kv k + 1 : Nat) : Int))) = encKv (bump kv k) := by
  induction kv with
  | nil => rfl
  | cons p r ih =>
    rw [List.map_cons, List.nodup_cons] at nd
    have ih2 := ih nd.2
    unfold bump cn
    by_cases e : p.1 = k
    · rw [if_pos e, if_pos e]
      unfold aput encKv
      rw [if_pos (by simp [key_eq.mpr e]), List.map_cons, List.map_cons, List.map_cons]
      have e2 : (r.map fun p => ((Sum.inl ((p.1 : Nat) : Int) : Key), AV.d (.int (p.2 : Nat)))).map (fun kv => if kv.1 = Sum.inl (k : Int) then (kv.1, AV.d (.int ((p.2 + 1 : Nat) : Int))) else kv) = r.map fun p => ((Sum.inl ((p.1 : Nat) : Int) : Key), AV.d (.int (p.2 : Nat))) := by
        rw [List.map_map]
        refine List.map_congr_left fun x hx => ?_
        exact if_neg fun z => nd.1 (List.mem_map.mpr ⟨x, hx, by rw [key_eq.mp z, e]⟩)
      rw [e2, if_pos (key_eq.mpr e)]
    · rw [if_neg e, if_neg e]
      unfold aput encKv at ih2 ⊢
      rw [List.map_cons, List.any_cons, decide_eq_false (fun z => e (key_eq.mp z)), Bool.false_or]
      split at ih2
      · rename_i h
        rw [if_pos h, List.map_cons, if_neg (fun z => e (key_eq.mp z)), ih2, List.map_cons]
      · rename_i h
        rw [if_neg h, List.cons_append, ih2, List.map_cons]
def sumN (g : Nat → Nat) (kv : Kv) : Nat := (kv.map fun p => p.2 * g p.1).sum
def sumR (g : Nat → Rat) (kv : Kv) : Rat := rsum (kv.map fun p => (p.2 : Rat) * g p.1)
theorem sumN_bump (g : Nat → Nat) (kv : Kv) (k : Nat) : sumN g (bump kv k) = sumN g kv + g k := by
  induction kv with
  | nil =>
    show 1 * g k + 0 = 0 + g k
    omega
  | cons p r ih =>
    unfold bump
    split
    · rename_i e
      show (p.2 + 1) * g p.1 + sumN g r = p.2 * g p.1 + sumN g r + g k
      rw [Nat.add_mul, Nat.one_mul, e]
      omega
    · show p.2 * g p.1 + sumN g (bump r k) = p.2 * g p.1 + sumN g r + g k
      rw [ih]
      omega
theorem sumR_bump (g : Nat → Rat) (kv : Kv) (k : Nat) : sumR g (bump kv k) = sumR g kv + g k := by
  induction kv with
  | nil =>
    show ((1 : Nat) : Rat) * g k + 0 = 0 + g k
    grind
  | cons p r ih =>
    unfold bump
    split
    · rename_i e
      show ((p.2 + 1 : Nat) : Rat) * g p.1 + sumR g r = (p.2 : Rat) * g p.1 + sumR g r + g k
      rw [Rat.natCast_add, e]
      grind
    · show (p.2 : Rat) * g p.1 + sumR g (bump r k) = (p.2 : Rat) * g p.1 + sumR g r + g k
      rw [ih]
      grind
theorem list_rev {α : Type} {p : List α → Prop} (h0 : p []) (h1 : ∀ l a, p l → p (l ++ [a])) (l : List α) : p l := by
  have z : ∀ l : List α, p l.reverse := by
    intro l
    induction l with
    | nil => exact h0
    | cons a r ih =>
      rw [List.reverse_cons]
      exact h1 _ _ ih
  have y := z l.reverse
  rwa [List.reverse_reverse] at y
theorem kv_sumN (g : Nat → Nat) (ks : List Nat) : sumN g (kvOf ks) = (ks.map g).sum := by
  refine list_rev (p := fun ks => sumN g (kvOf ks) = (ks.map g).sum) rfl (fun l a ih => ?_) ks
  rw [kvOf_snoc, sumN_bump, ih, List.map_append, List.sum_append]
  rfl
theorem kv_sumR (g : Nat → Rat) (ks : List Nat) : sumR g (kvOf ks) = rsum (ks.map g) := by
  refine list_rev (p := fun ks => sumR g (kvOf ks) = rsum (ks.map g)) rfl (fun l a ih => ?_) ks
  rw [kvOf_snoc, sumR_bump, ih, List.map_append]
  exact (rsum_snoc _ _).symm
theorem kv_nd (ks : List Nat) : ((kvOf ks).map (·.1)).Nodup := by
  refine list_rev (p := fun ks => ((kvOf ks).map (·.1)).Nodup) List.nodup_nil (fun l a ih => ?_) ks
  rw [kvOf_snoc]
  exact nd_bump ih a
theorem kv_mem {ks : List Nat} : ∀ p ∈ kvOf ks, p.1 ∈ ks := by
  have z : ∀ x, x ∈ (kvOf ks).map (·.1) → x ∈ ks := by
    refine list_rev (p := fun ks => ∀ x, x ∈ (kvOf ks).map (·.1) → x ∈ ks) (fun x h => by cases h) (fun l a ih => ?_) ks
    intro x h
    rw [kvOf_snoc] at h
    rcases mem_bump.mp h with h | h
    · exact List.mem_append_left _ (ih x h)
    · exact List.mem_append_right _ (List.mem_singleton.mpr h)
  exact fun p hp => z p.1 (List.mem_map.mpr ⟨p, hp, rfl⟩)
theorem kv_cnt {ks : List Nat} : ∀ p ∈ kvOf ks, p.2 ≤ ks.length := by
  intro p hp
  have z := kv_sumN (fun _ => 1) ks
  have e : (ks.map fun _ => 1).sum = ks.length := by
    clear z hp
    induction ks with
    | nil => rfl
    | cons a r ih =>
      rw [List.map_cons, List.sum_cons, ih, List.length_cons]
      omega
  rw [e] at z
  have y : ∀ kv : Kv, p ∈ kv → p.2 ≤ sumN (fun _ => 1) kv := by
    intro kv
    induction kv with
    | nil =>
      intro h
      cases h
    | cons a r ih =>
      intro h
      show p.2 ≤ a.2 * 1 + sumN (fun _ => 1) r
      rcases List.mem_cons.mp h with h | h
      · rw [h]
        omega
      · have := ih h
        omega
  have := y _ hp
  omega
theorem kvs_len (ks : List Nat) : (kvOf ks).length ≤ ks.length := by
  have z : ∀ (kv : Kv) (k : Nat), (bump kv k).length ≤ kv.length + 1 := by
    intro kv k
    induction kv with
    | nil => exact Nat.le_refl _
    | cons p r ih =>
      unfold bump
      split
      · rw [List.length_cons, List.length_cons]
        omega
      · rw [List.length_cons, List.length_cons]
        omega
  refine list_rev (p := fun ks => (kvOf ks).length ≤ ks.length) (Nat.le_refl _) (fun l a ih => ?_) ks
  rw [kvOf_snoc, List.length_append]
  have := z (kvOf l) a
  have e : [a].length = 1 := rfl
  omega
/-! ### bounds -/
/-- a fraction with this denominator, at most B over it -/
def Qb (N B : Nat) (x : Rat) : Prop := ∃ n : Nat, n ≤ B ∧ x = (n : Rat) / (N : Rat)
theorem Qb.add {N A B : Nat} {x y : Rat} (hN : 0 < N) (h : Qb N A x) (g : Qb N B y) : Qb N (A + B) (x + y) := by
  obtain ⟨a, ha, rfl⟩ := h
  obtain ⟨b, hb, rfl⟩ := g
  refine ⟨a + b, Nat.add_le_add ha hb, ?_⟩
  have := nat_ne hN
  rw [Rat.natCast_add]
  grind
theorem Qb.mono {N A B : Nat} {x : Rat} (h : Qb N A x) (hb : A ≤ B) : Qb N B x := by
  obtain ⟨a, ha, e⟩ := h
  exact ⟨a, Nat.le_trans ha hb, e⟩
theorem Qb.wide {N A c : Nat} {x : Rat} (hN : 0 < N) (hc : 0 < c) (h : Qb N A x) : Qb (N * c) (A * c) x := by
  obtain ⟨a, ha, rfl⟩ := h
  refine ⟨a * c, Nat.mul_le_mul_right c ha, ?_⟩
  have := nat_ne hN
  have := nat_ne hc
  rw [Rat.natCast_mul, Rat.natCast_mul]
  grind
theorem Qb.nn {N A : Nat} {x : Rat} (hN : 0 < N) (h : Qb N A x) : 0 ≤ x ∧ x.num.toNat ≤ A ∧ x.den ≤ N := by
  obtain ⟨a, ha, rfl⟩ := h
  obtain ⟨e1, e2⟩ := rat_low a N hN
  refine ⟨?_, ?_, ?_⟩
  · rw [← Rat.num_nonneg, e1]
    exact Int.natCast_nonneg _
  · rw [e1]
    have := Nat.div_le_self a (Nat.gcd a N)
    omega
  · rw [e2]
    exact Nat.div_le_self _ _
theorem Qb.zero {N : Nat} (B : Nat) : Qb N B 0 := ⟨0, Nat.zero_le _, by
  show (0 : Rat) = 0 / _
  grind⟩
theorem qb_sum {α : Type} {N : Nat} (hN : 0 < N) {f : α → Rat} {b : α → Nat} {l : List α} (h : ∀ x ∈ l, Qb N (b x) (f x)) : Qb N (l.map b).sum (rsum (l.map f)) := by
  induction l with
  | nil => exact Qb.zero _
  | cons x r ih =>
    rw [List.map_cons, List.sum_cons]
    exact Qb.add hN (h x List.mem_cons_self) (ih fun y hy => h y (List.mem_cons_of_mem _ hy))
/-- a weighed part of a payment -/
theorem qb_part {N W w : Nat} {x : Rat} (hN : 0 < N) (hW : 0 < W) (h : Qb N N x) : Qb (N * W) (w * N) ((w : Rat) / (W : Rat) * x) := by
  obtain ⟨a, ha, rfl⟩ := h
  refine ⟨w * a, Nat.mul_le_mul_left w ha, ?_⟩
  have := nat_ne hN
  have := nat_ne hW
  rw [Rat.natCast_mul, Rat.natCast_mul]
  grind
theorem pay_qb (d : Deal) (cl : List (Nat × Tk)) {f : List Ln} (fk : kidsOk f) (m : Nat) : ∀ (i : Nat), i ≤ f.length → ∀ k, k < i → Qb (dpr d cl (f.take i)) (dpr d cl (f.take i)) (rAt (pay d cl f) k m) := by
  intro i
  induction i with
  | zero =>
    intro _ k hk
    omega
  | succ i ih =>
    intro hi k hk
    have hl : f[i]? = some f[i] := List.getElem?_eq_getElem (by omega)
    rw [dpr_take hl]
    have dp := dpr_pos d cl (f.take i)
    by_cases e : k < i
    · exact (ih (by omega) k e).wide dp (by omega)
    · have e2 : k = i := by omega
      subst e2
      rw [pay_at hl fun x hx => fk k _ hl x hx]
      cases tk cl k with
      | lost => exact Qb.zero _
      | self =>
        dsimp only
        split
        · refine ⟨_, Nat.le_refl _, ?_⟩
          have := nat_ne (Nat.mul_pos dp (show 0 < max 1 (whole d cl f[k].kids) by omega))
          grind
        · exact Qb.zero _
      | lines =>
        dsimp only
        unfold mix
        by_cases hw : whole d cl f[k].kids = 0
        · rw [hw]
          have e3 : rsum (f[k].kids.map fun x => (wt d cl x : Rat) / ((0 : Nat) : Rat) * rAt (pay d cl f) x m) = 0 := by
            rw [rsum_congr (g := fun _ => (0 : Rat)) fun x _ => ?_]
            · exact rsum_zero _
            · show _ / (0 : Rat) * _ = 0
              grind
          have e4 : (fun m => rsum (List.map (fun x => (wt d cl x : Rat) / ((0 : Nat) : Rat) * rAt (pay d cl f) x m) f[k].kids)) m = 0 := e3
          rw [e4]
          exact Qb.zero _
        · rw [Nat.max_eq_right (by omega)]
          have z := qb_sum (Nat.mul_pos dp (show 0 < whole d cl f[k].kids by omega)) (l := f[k].kids) (b := fun x => wt d cl x * dpr d cl (f.take k)) (f := fun x => (wt d cl x : Rat) / ((whole d cl f[k].kids : Nat) : Rat) * rAt (pay d cl f) x m) fun x hx =>
            qb_part dp (by omega) (ih (by omega) x (fk k _ hl x hx))
          rw [sum_mulr] at z
          rw [Nat.mul_comm (dpr d cl (f.take k))] at z ⊢
          exact z
end AB

set_option Elab.async false
set_option linter.all false
set_option maxRecDepth 100000
set_option maxHeartbeats 4000000
/-! The walk: the law's payments of all lines. -/
namespace AB
open PySem PySem.Spec PyProof.Rows L2
theorem g_tup2s {o i : AE} {j : Nat} {x y : PyData} {ρ : Sl} {C : Cs} {q : Sl → Cs → Prop} : agTup 2 (agCons (agSub o i) (agCons (agN j) agNil)) (.d (.tuple [x, y])) ρ C q = agSub o i (.d x) ρ C (fun ρ2 C2 => q (ρ2.set j (some (.d y))) C2) :=
  propext ⟨fun h => h.2, fun h => ⟨rfl, h⟩⟩
theorem cnt_at {d : Deal} {cl : List (Nat × Tk)} {f : List Ln} {i : Nat} {l : Ln} (h : f[i]? = some l) (hk : ∀ k ∈ l.kids, k < i) : (cnt d cl f).getD i 0 = match tk cl i with
    | .self => 1
    | .lost => 0
    | .lines => nsum d cl (cnt d cl f) l.kids := by
  have hi : i < f.length := (List.getElem?_eq_some_iff.mp h).1
  have hl : (cnt d cl (f.take i)).length = i := by
    unfold cnt
    rw [rows_len, List.length_take]
    omega
  have e : (cnt d cl f).getD i 0 = gcnt d cl (cnt d cl (f.take i)) l := by
    rw [List.getD_eq_getElem?_getD]
    show ((rows (gcnt d cl) f)[i]?).getD _ = _
    rw [rows_get h]
    rfl
  rw [e]
  unfold gcnt
  rw [hl]
  cases tk cl i with
  | self => rfl
  | lost => rfl
  | lines =>
    unfold nsum
    refine congrArg List.sum (List.map_congr_left fun k hk2 => ?_)
    have e2 : (cnt d cl (f.take i)).getD k 0 = (cnt d cl f).getD k 0 := by
      unfold cnt
      rw [List.getD_eq_getElem?_getD, rows_prev (hk k hk2), ← List.getD_eq_getElem?_getD]
    rw [e2]
theorem cnt_lt (d : Deal) (cl : List (Nat × Tk)) {f : List Ln} (fk : kidsOk f) (fb : FamB f) : ∀ i, i < f.length → (cnt d cl f).getD i 0 ≤ 58 ^ i := by
  intro i
  induction i using Nat.strongRecOn with
  | ind i ih =>
    intro hi
    have hl : f[i]? = some f[i] := List.getElem?_eq_getElem hi
    rw [cnt_at hl fun k hk => fk i _ hl k hk]
    have p0 : 0 < 58 ^ i := Nat.pow_pos (by decide)
    cases tk cl i with
    | self => exact p0
    | lost => exact Nat.zero_le _
    | lines =>
      dsimp only
      cases i with
      | zero =>
        have e : f[0].kids = [] := by
          cases e : f[0].kids with
          | nil => rfl
          | cons a r =>
            have := fk 0 _ hl a (by rw [e]; exact List.mem_cons_self)
            omega
        unfold nsum
        rw [e]
        exact Nat.zero_le _
      | succ j =>
        have z : nsum d cl (cnt d cl f) f[j + 1].kids ≤ (f[j + 1].kids.map fun _ => 58 ^ j).sum := by
          unfold nsum
          refine sum_le fun k hk => ?_
          have hkj := fk _ _ hl k hk
          split
          · exact Nat.le_trans (ih k hkj (by omega)) (Nat.pow_le_pow_right (by decide) (by omega))
          · exact Nat.zero_le _
        have y : (f[j + 1].kids.map fun _ => 58 ^ j).sum = f[j + 1].kids.length * 58 ^ j := by
          clear z
          induction f[j + 1].kids with
          | nil => rw [List.map_nil, List.sum_nil, List.length_nil, Nat.zero_mul]
          | cons a r ih2 => rw [List.map_cons, List.sum_cons, ih2, List.length_cons, Nat.add_mul, Nat.one_mul, Nat.add_comm]
        rw [y] at z
        refine Nat.le_trans z ?_
        rw [Nat.pow_succ, Nat.mul_comm]
        exact Nat.mul_le_mul_left _ (Nat.le_trans (fb.few _ (List.getElem_mem hi)) (by decide))
theorem cnt_bd (d : Deal) (cl : List (Nat × Tk)) {f : List Ln} (fk : kidsOk f) (fb : FamB f) {i : Nat} (hi : i < f.length) : (cnt d cl f).getD i 0 < 2 ^ 1000 := by
  refine Nat.lt_of_le_of_lt (cnt_lt d cl fk fb i hi) (Nat.lt_of_le_of_lt (Nat.pow_le_pow_right (by decide) (show i ≤ 40 from ?_)) (by decide +kernel))
  have := fb.len
  omega
def encDue (d : Deal) (cl : List (Nat × Tk)) (f : List Ln) (i : Nat) : PyData := .tuple [.list ((List.range d.marks).map fun m => encQ (rAt (pay d cl f) i m)), .int (((cnt d cl f).getD i 0 : Nat) : Int)]
def vec (m : Nat) (v : Nat → Rat) : List PyData := (List.range m).map fun i => encQ (v i)
theorem vec_zero (m : Nat) : List.replicate m (encQ 0) = vec m fun _ => 0 := by
  symm
  unfold vec
  rw [List.eq_replicate_iff]
  refine ⟨by rw [List.length_map, List.length_range], fun b hb => ?_⟩
  obtain ⟨_, _, rfl⟩ := List.mem_map.mp hb
  rfl
theorem vec_set {m k : Nat} : (vec m fun _ => 0).set k (encQ 1) = vec m fun i => if i = k then 1 else 0 := by
  unfold vec
  apply List.ext_getElem?
  intro i
  rw [List.getElem?_set]
  by_cases hi : i < m
  · rw [List.getElem?_map, List.getElem?_map, List.getElem?_range hi]
    by_cases e : k = i
    · subst e
      rw [if_pos rfl, if_pos (by rw [List.length_map, List.length_range]; exact hi)]
      show _ = some (encQ (if k = k then 1 else 0))
      rw [if_pos rfl]
    · rw [if_neg e]
      show _ = some (encQ (if i = k then 1 else 0))
      rw [if_neg fun z => e z.symm]
      rfl
  · rw [List.getElem?_eq_none (by rw [List.length_map, List.length_range]; omega), List.getElem?_eq_none (by rw [List.length_map, List.length_range]; omega)]
    split
    · rw [if_neg (by rw [List.length_map, List.length_range]; omega)]
    · rfl
theorem vec_get {m i : Nat} {v : Nat → Rat} (h : i < m) : (vec m v)[i]? = some (encQ (v i)) := by
  unfold vec
  rw [List.getElem?_map, List.getElem?_range h]
  rfl
/-- what a weighed part is, by the law's low -/
theorem low_part {w W : Nat} {x : Rat} (hW : 0 < W) (hx : 0 ≤ x) : ((w * x.num.toNat : Nat) : Rat) / ((W * x.den : Nat) : Rat) = (w : Rat) / (W : Rat) * x := by
  obtain ⟨a, e1, e2, e3⟩ := rat_nd hx
  have n1 := nat_ne hW
  have n2 := nat_ne x.den_pos
  rw [e2, Rat.natCast_mul, Rat.natCast_mul]
  have e4 : (a : Rat) = x * (x.den : Rat) := by
    rw [e3]
    have := nat_ne x.den_pos
    grind
  rw [e4]
  grind
end AB
namespace AB
open PySem PySem.Spec PyProof.Rows L2
section
variable {d : Deal} {cl : List (Nat × Tk)} {f : List Ln}
theorem encDue_0 {i : Nat} {C : Cs} {q : AV → Cs → Prop} : arIx (.d (encDue d cl f i)) (.d (.int 0)) C q = q (.d (.list ((List.range d.marks).map fun m => encQ (rAt (pay d cl f) i m)))) C := arIx_t0
theorem encDue_1 {i : Nat} {C : Cs} {q : AV → Cs → Prop} : arIx (.d (encDue d cl f i)) (.d (.int 1)) C q = q (.d (.int (((cnt d cl f).getD i 0 : Nat) : Int))) C := arIx_t1
theorem dpr_lt2 (ok : DealOk d) (fb : FamB f) : dpr d cl f < 2 ^ 600 := by
  refine Nat.lt_of_le_of_lt (dpr_le ok cl f fb.few) ?_
  exact Nat.lt_of_le_of_lt (Nat.pow_le_pow_right (by decide) fb.len) (by decide +kernel)
theorem mem_le {α : Type} {g : α → Nat} {l : List α} {x : α} (h : x ∈ l) : g x ≤ (l.map g).sum := by
  induction l with
  | nil => cases h
  | cons a r ih =>
    rw [List.map_cons, List.sum_cons]
    rcases List.mem_cons.mp h with h | h
    · rw [h]
      omega
    · have := ih h
      omega
/-- the part that the first keys give -/
def vPart (d : Deal) (cl : List (Nat × Tk)) (f : List Ln) (ks : List Nat) (j m : Nat) : Rat := rsum (((kvOf ks).take j).map fun p => (p.2 : Rat) * ((wt d cl p.1 : Rat) / ((whole d cl ks : Nat) : Rat) * rAt (pay d cl f) p.1 m))
def nPart (d : Deal) (cl : List (Nat × Tk)) (f : List Ln) (ks : List Nat) (j : Nat) : Nat := (((kvOf ks).take j).map fun p => p.2 * (if 0 < wt d cl p.1 then (cnt d cl f).getD p.1 0 else 0)).sum
theorem vPart_snoc {ks : List Nat} {j : Nat} {p : Nat × Nat} (h : (kvOf ks)[j]? = some p) (m : Nat) : vPart d cl f ks (j + 1) m = vPart d cl f ks j m + (p.2 : Rat) * ((wt d cl p.1 : Rat) / ((whole d cl ks : Nat) : Rat) * rAt (pay d cl f) p.1 m) := by
  unfold vPart
  rw [take_snoc h, List.map_append]
  exact rsum_snoc _ _
theorem nPart_snoc {ks : List Nat} {j : Nat} {p : Nat × Nat} (h : (kvOf ks)[j]? = some p) : nPart d cl f ks (j + 1) = nPart d cl f ks j + p.2 * (if 0 < wt d cl p.1 then (cnt d cl f).getD p.1 0 else 0) := by
  unfold nPart
  rw [take_snoc h, List.map_append, List.sum_append]
  rfl
theorem vPart_all (ks : List Nat) (m : Nat) : vPart d cl f ks (kvOf ks).length m = mix d cl (pay d cl f) ks m := by
  unfold vPart
  rw [List.take_length]
  exact kv_sumR (fun k => (wt d cl k : Rat) / ((whole d cl ks : Nat) : Rat) * rAt (pay d cl f) k m) ks
theorem nPart_all (ks : List Nat) : nPart d cl f ks (kvOf ks).length = nsum d cl (cnt d cl f) ks := by
  unfold nPart
  rw [List.take_length]
  exact kv_sumN (fun k => if 0 < wt d cl k then (cnt d cl f).getD k 0 else 0) ks
theorem kv_whole (ks : List Nat) : ((kvOf ks).map fun p => wt d cl p.1 * p.2).sum = whole d cl ks := by
  have z := kv_sumN (wt d cl) ks
  unfold sumN at z
  unfold whole
  rw [← z]
  exact congrArg List.sum (List.map_congr_left fun p _ => Nat.mul_comm _ _)
theorem term_eq {w c W : Nat} (hW : 0 < W) (x : Rat) : ((w * c : Nat) : Rat) / (W : Rat) * x = (c : Rat) * ((w : Rat) / (W : Rat) * x) := by
  have := nat_ne hW
  rw [Rat.natCast_mul]
  grind
theorem pay_qf (d : Deal) (cl : List (Nat × Tk)) (fk : kidsOk f) (m : Nat) {k : Nat} (hk : k < f.length) : Qb (dpr d cl f) (dpr d cl f) (rAt (pay d cl f) k m) := by
  have z := pay_qb d cl fk m f.length (Nat.le_refl _) k hk
  rwa [List.take_length] at z
theorem vPart_qb (fk : kidsOk f) {ks : List Nat} (hW : 0 < whole d cl ks) (hk : ∀ k ∈ ks, k < f.length) (j m : Nat) : Qb (dpr d cl f * whole d cl ks) (dpr d cl f * whole d cl ks) (vPart d cl f ks j m) := by
  have dp := dpr_pos d cl f
  have z := qb_sum (Nat.mul_pos dp hW) (l := (kvOf ks).take j) (b := fun p => (wt d cl p.1 * p.2) * dpr d cl f) (f := fun p => (p.2 : Rat) * ((wt d cl p.1 : Rat) / ((whole d cl ks : Nat) : Rat) * rAt (pay d cl f) p.1 m)) fun p hp => by
    rw [← term_eq hW]
    exact qb_part dp hW (pay_qf d cl fk m (hk _ (kv_mem p (List.mem_of_mem_take hp))))
  refine z.mono ?_
  rw [sum_mulr, Nat.mul_comm]
  refine Nat.mul_le_mul_left _ ?_
  rw [← kv_whole ks]
  have e := congrArg (fun l : Kv => (l.map fun p => wt d cl p.1 * p.2).sum) (List.take_append_drop j (kvOf ks))
  have e2 : (((kvOf ks).take j ++ (kvOf ks).drop j).map fun p => wt d cl p.1 * p.2).sum = ((kvOf ks).map fun p => wt d cl p.1 * p.2).sum := e
  rw [List.map_append, List.sum_append] at e2
  omega
end
end AB

set_option Elab.async false
set_option linter.all false
set_option maxRecDepth 100000
set_option maxHeartbeats 4000000
/-! The walk: the law's payments of all lines. -/
namespace AB
open PySem PySem.Spec PyProof.Rows L2
section
variable {P : Program} {w : World} {K : PySem.W.Frag} {mg : Str → Option Value} {base : Heap}
local macro_rules | `(tactic| walk_at "rd") => `(tactic| try simp only [astart, List.map_cons, List.map_nil, List.length_cons, List.length_nil, List.replicate_succ, List.replicate_zero, List.cons_append, List.nil_append, aVar, aC, aOp, arI, arI0, arB, onI2, onB, aTest, aChain, aAnd, aOr, aNot, aAndV, aOrV, aNotV, aIf, aNil, aCons, aIsi, aNext, aCB, acLen, aCall, g_n, g_tup2, g_tup3, g_tup4, g_tup13, g_tup2s, aNeg, aTup, aLst, aSl, arSlC, arCatC, aLstC, aApp, aDGet2, aDGet, aDPut, agSub, allD, arIx_t0, arIx_t1, arIx_t2, arIx_t3, encD_0, encD_1, encD_2, encD_3, encC_0, encC_1, encQ_0, encQ_1, arEq_i, arEq_s, ac2I_i, acInt_i, List.getElem?_cons_zero, List.getElem?_cons_succ, List.set_cons_zero, List.set_cons_succ, if_true, if_false, Bool.false_eq_true, Bool.not_true, Bool.not_false, Bool.false_xor, isInt_int, withinD_int, tupD_tup, encL, encI, sp_is_whole, sp_is_within, sp_is_truth, sp_is_tuple_of, sp_is_word_of])
local macro_rules | `(tactic| walk_at "st") => `(tactic| ((try dsimp only); (try refine i_seq ?_); (first | refine i_set ?_ | refine i_if ?_ | refine i_ret ?_ | refine i_asg ?_ | refine i_drop ?_ | refine i_par ?_ | refine i_par3 ?_ | refine i_next ?_); (walk_at "rd")))
def sp__law_all_paid : ASp := fun avs C q _ => ∃ d f, avs = [.d (encD d), .d (encF f)] ∧ DealOk d ∧ FamOk f d.marks ∧ FamB f ∧ q (.d (.list ((List.range f.length).map (encDue d (clo d f) f)))) C
theorem sub_cup {C C' : Cs} {p : Addr} {c : Cell} (s : Sub C C') (h : C p = none) : Sub C (cup C' p c) := fun b o hb => by
  rw [cup_ne fun e => by rw [e, h] at hb; cases hb]
  exact s b o hb
theorem sub_del {C C' : Cs} {p : Addr} (s : Sub C C') (h : C p = none) : Sub C (cdel C' p) := fun b o hb => by
  rw [cdel_ne fun e => by rw [e, h] at hb; cases hb]
  exact s b o hb
theorem sub_none {C C' : Cs} {p : Addr} (s : Sub C C') (h : C' p = none) : C p = none := by
  cases e : C p with
  | none => rfl
  | some o =>
    rw [s p o e] at h
    cases h
theorem ok__law_all_paid (T : Txt P K mg) : FnOk P w K mg base CX0 3 T.d__law_all_paid.f T.d__law_all_paid.fd ["_law_deal_here", "_law_family_here"] (gSp K sp__law_all_paid) := by
  refine fok T.d__law_all_paid.F sc__law_all_paid (fun avs C q z h => ?_) (fun cdv A outer s H P' hr => ?_)
  · obtain ⟨d, f, rfl, _⟩ := h
    rfl
  · refine ⟨_, (apss_cons (aps_parT 2 3 rfl sc__law_all_paid.nd (apa_cons (ap_call (ok__law_dealt T) (hr.mono (by decide)) T.d__law_dealt.g T.d__law_dealt.F.kp T.d__law_dealt.b pass0 (apa_cons (apv 0) (apa_cons (apv 1) apa_nil))) (apa_cons (ape_lstC apa_nil) apa_nil)))
        (apss_cons (aps_for (vs := [4, 5]) PassesOwn.never rfl (awi_enumT T.b_enumerate (apv 1)) (apg_t (n := 2) rfl (apgs_cons (apg_n (i := 4) sc__law_all_paid.nd) (apgs_cons (apg_n (i := 5) sc__law_all_paid.nd) apgs_nil))) (apss_cons (aps_par 7 8 rfl sc__law_all_paid.nd (apa_cons (ape_lcC [("_law_mark", 6)] rfl sc__law_all_paid.nd (awi_r1 T.b_range (apx (apv 0) api)) (blkOk_by (N := ["_law_deal_here", "_law_family_here", "_law_told_here", "_law_found", "_law_n", "_law_line", "_law_mark", "_law_sums", "_law_many", "_law_rows", "_law_child", "_law_whole", "_law_weight", "_law_one", "_law_near", "_law_more"]) (sc := defScope s__law_all_paid) (by decide +kernel)) (fun _ _ _ _ _ => (apg_n (i := 6) sc__law_all_paid.nd)) (fun _ _ _ _ _ => apts_nil) (fun _ _ _ _ _ => (ape_tup (apa_cons api (apa_cons api apa_nil))))) (apa_cons api apa_nil)))
        (apss_cons (aps_if (at_eq (apx (apx (apv 2) (apv 4)) api) apstr) (apss_one (aps_asg (vs := [8]) (ape_tup (apa_cons (ape_tup (apa_cons api (apa_cons api apa_nil))) (apa_cons api apa_nil))) (apg_t (n := 2) rfl (apgs_cons (apg_s (apv 7) (apx (apv 5) api)) (apgs_cons (apg_n (i := 8) sc__law_all_paid.nd) apgs_nil))))) apss_nil)
        (apss_vw (apss_cons (aps_if (at_eq (apx (apx (apv 2) (apv 4)) api) apstr) (apss_cons (aps_set 9 sc__law_all_paid.nd ap_dnew)
        (apss_cons (aps_for (vs := [10]) PassesOwn.never rfl (awi_tup (apx (apv 5) api)) (apg_n (i := 10) sc__law_all_paid.nd) (apss_one (aps_dput (hu_of hr) (apv 9) (apv 10) (ap_add (ap_dget2 (hu_of hr) (apv 9) (apv 10) api ⟨rfl, rfl, rfl, rfl⟩) api))))
        (apss_cons (aps_set 11 sc__law_all_paid.nd (ap_sum rfl T.b_sum (ap_lock 9 (ape_lc [("_law_child", 10)] rfl sc__law_all_paid.nd (awi_keys (apv 9)) (blkOk_by (N := ["_law_deal_here", "_law_family_here", "_law_told_here", "_law_found", "_law_n", "_law_line", "_law_mark", "_law_sums", "_law_many", "_law_rows", "_law_child", "_law_whole", "_law_weight", "_law_one", "_law_near", "_law_more"]) (sc := defScope s__law_all_paid) (by decide +kernel)) (fun _ _ _ _ _ => (apg_n (i := 10) sc__law_all_paid.nd)) (fun _ _ _ _ _ => apts_nil) (fun _ _ _ _ _ => (ap_mul (apx (apx (apv 0) api) (apx (apx (apv 2) (apv 10)) api)) (ap_dget (hu_of hr) (apv 9) (apv 10))))))))
        (apss_one (aps_lock 9 (aps_for (vs := [10]) PassesOwn.never rfl (awi_keys (apv 9)) (apg_n (i := 10) sc__law_all_paid.nd) (apss_cons (aps_set 12 sc__law_all_paid.nd (ap_mul (apx (apx (apv 0) api) (apx (apx (apv 2) (apv 10)) api)) (ap_dget (hu_of hr) (apv 9) (apv 10))))
        (apss_one (aps_if (at_gt (apv 12) api) (apss_cons (aps_set 8 sc__law_all_paid.nd (ap_add (apv 8) (ap_mul (ap_dget (hu_of hr) (apv 9) (apv 10)) (apx (apx (apv 3) (apv 10)) api))))
        (apss_cons (aps_lc 14 [("_law_one", 13)] rfl sc__law_all_paid.nd (awi_lst (apx (apx (apv 3) (apv 10)) api)) (blkOk_by (N := ["_law_deal_here", "_law_family_here", "_law_told_here", "_law_found", "_law_n", "_law_line", "_law_mark", "_law_sums", "_law_many", "_law_rows", "_law_child", "_law_whole", "_law_weight", "_law_one", "_law_near", "_law_more"]) (sc := defScope s__law_all_paid) (by decide +kernel)) (fun _ _ _ _ _ => (apg_n (i := 13) sc__law_all_paid.nd)) (fun _ _ _ _ _ => apts_nil) (fun _ _ _ _ _ => (ap_call (ok__law_low T) (hr.mono (by decide)) T.d__law_low.g T.d__law_low.F.kp T.d__law_low.b pass0 (apa_cons (ap_mul (apv 12) (apx (apv 13) api)) (apa_cons (ap_mul (apv 11) (apx (apv 13) api)) apa_nil)))) (sw_true rfl rfl rfl (by decide +kernel)))
        (apss_one (aps_lc 7 [("_law_one", 13), ("_law_more", 15)] rfl sc__law_all_paid.nd (aw_zip T.b_zip (apv 7) (apv 14)) (blkOk_by (N := ["_law_deal_here", "_law_family_here", "_law_told_here", "_law_found", "_law_n", "_law_line", "_law_mark", "_law_sums", "_law_many", "_law_rows", "_law_child", "_law_whole", "_law_weight", "_law_one", "_law_near", "_law_more"]) (sc := defScope s__law_all_paid) (by decide +kernel)) (fun _ _ _ _ _ => (apg_t (n := 2) rfl (apgs_cons (apg_n (i := 13) sc__law_all_paid.nd) (apgs_cons (apg_n (i := 15) sc__law_all_paid.nd) apgs_nil)))) (fun _ _ _ _ _ => apts_nil) (fun _ _ _ _ _ => (ap_call (ok__law_sum T) (hr.mono (by decide)) T.d__law_sum.g T.d__law_sum.F.kp T.d__law_sum.b pass0 (apa_cons (apv 13) (apa_cons (apv 15) apa_nil)))) (sw_true rfl rfl rfl (by decide +kernel)))))) apss_nil))))))))) apss_nil)
        (apss_one (aps_expr (ap_app (apv 3) (ape_tup (apa_cons (apv 7) (apa_cons (apv 8) apa_nil)))))))))))
        (apss_one (aps_ret (apv 3))))), fun avs C q h => ?_⟩
    obtain ⟨d, f, rfl, ok, fo, fb, h⟩ := h
    have m1 := ok.m1
    have m3 := ok.m3
    walk_at "st"
    refine ⟨d, f, rfl, ok, fo, ?_⟩
    obtain ⟨cl, ecl⟩ : ∃ cl, cl = clo d f := ⟨_, rfl⟩
    have ck : ClOk d cl := by rw [ecl]; exact clo_ok ok fo
    have cln : cl.length = f.length := by rw [ecl]; exact clo_len
    rw [← ecl] at h ⊢
    walk_at "rd"
    refine ⟨by decide, fun fa hfa => ?_⟩
    walk_at "rd"
    refine i_seq ?_
    unfold encF
    let F : Nat → List AV := fun i => (List.range i).map fun k => AV.d (encDue d cl f k)
    refine i_for (fun q hq => hq) (fun i ρ' C' => ∃ y4 y5 y6 y7 y8 y9 y10 y11 y12 y13 y14 y15, ρ' = [some (.d (encD d)), some (.d (.tuple (f.map encL))), some (.d (.list (cl.map encC))), some (.r fa), y4, y5, y6, y7, y8, y9, y10, y11, y12, y13, y14, y15] ∧ Sub C C' ∧ C' fa = some (.l (F i)))
      ⟨none, none, none, none, none, none, none, none, none, none, none, none, rfl, Sub.cup hfa, cup_same⟩ (fun _ _ _ _ _ => trivial) ?_ ?_
    · rintro i x ρ' C' hx ⟨y4, y5, y6, y7, y8, y9, y10, y11, y12, y13, y14, y15, rfl, sC, hF⟩
      obtain ⟨y, hy, rfl⟩ := enum_get hx
      obtain ⟨l, hl, rfl⟩ := of_atD hy
      have hi : i < f.length := (List.getElem?_eq_some_iff.mp hl).1
      have hlk := fo.kids i l hl
      have hmk := fo.marks l (List.mem_of_getElem? hl)
      have hik : i < cl.length := by omega
      have hpa := pay_at (d := d) (cl := cl) hl hlk
      have hca := cnt_at (d := d) (cl := cl) hl hlk
      have hFl : (F i).length < 100000 := by
        show ((List.range i).map fun k => AV.d (encDue d cl f k)).length < _
        rw [List.length_map, List.length_range]
        have := fb.len
        omega
      have appF : F i ++ [AV.d (encDue d cl f i)] = F (i + 1) := by
        show _ = (List.range (i + 1)).map fun k => AV.d (encDue d cl f k)
        rw [List.range_succ, List.map_append]
        rfl
      walk_at "rd"
      refine i_seq ?_
      refine i_par ?_
      walk_at "rd"
      refine i_lcPC ((List.replicate d.marks (encQ 0)).map AV.d) (its := rngL 0 d.marks 1) (sb := fun _ => True) (C1 := C') (fun q hq => ?_) trivial (by rw [rng_len, List.length_map, List.length_replicate]) (by rw [rng_len]; omega) (fun j x y hj hy q hq => ?_) (fun sa hsa => ?_)
      · simp only [awR1]
        walk_at "rd"
        exact ⟨⟨by omega, by omega⟩, hq⟩
      · obtain ⟨y, hy2, rfl⟩ := map_get hy
        have e0 := List.eq_of_mem_replicate (List.mem_of_getElem? hy2)
        subst e0
        simp only [ixs, awipe]
        walk_at "rd"
        exact ⟨by decide, hq⟩
      rw [vec_zero]
      have hfs : fa ≠ sa := cne hF hsa
      have hsa0 : C sa = none := sub_none sC hsa
      walk_at "rd"
      walk_at "st"
      refine rd_tk hik ?_
      walk_at "rd"
      rw [tk_self]
      by_cases hs : tk cl i = .self
      · rw [hs] at hpa hca
        refine iteY (by simpa using hs) ?_
        have ed : encDue d cl f i = .tuple [.list (vec d.marks fun m => if m = l.mark then 1 else 0), .int 1] := by
          unfold encDue
          rw [hpa, hca]
          rfl
        rw [ed] at appF
        walk_at "st"
        refine ⟨by decide, by decide, sa, _, _, l.mark, rfl, rfl, cup_same, by rw [List.length_map]; unfold vec; rw [List.length_map, List.length_range]; exact ixN_nat hmk, ?_⟩
        have es : ((vec d.marks fun _ => 0).map AV.d).set l.mark (.d (.tuple [.int 1, .int 1])) = (vec d.marks fun m => if m = l.mark then 1 else 0).map AV.d := by
          rw [← vec_set, List.map_set]
          rfl
        rw [cup_cup, es]
        refine i_vw (Vw.freeze 7 rfl cup_same) ?_
        rw [cdel_cup hsa]
        walk_at "st"
        refine rd_tk hik ?_
        walk_at "rd"
        rw [tk_lines]
        refine iteN (by rw [hs]; decide) ?_
        walk_at "st"
        refine ⟨fa, _, rfl, hF, ?_⟩
        walk_at "rd"
        refine ⟨by decide, _, hF, hFl, _, _, _, _, _, _, _, _, _, _, _, _, rfl, sub_cup sC hfa, ?_⟩
        rw [cup_same, appF]
      · refine iteN (by simpa using hs) ?_
        refine i_vw (Vw.freeze 7 rfl cup_same) ?_
        rw [cdel_cup hsa]
        walk_at "st"
        refine rd_tk hik ?_
        walk_at "rd"
        rw [tk_lines]
        by_cases hli : tk cl i = .lines
        · rw [hli] at hpa hca
          refine iteY (by simpa using hli) ?_
          refine i_seq ?_
          refine i_set ?_
          intro p hp
          have hfp : fa ≠ p := cne hF hp
          have hp0 : C p = none := sub_none sC hp
          walk_at "rd"
          refine i_seq ?_
          have hkl : ∀ k ∈ l.kids, k < cl.length := fun k hk => by have := hlk k hk; omega
          have h57 := fb.few l (List.mem_of_getElem? hl)
          refine i_for (fun q hq => ⟨_, rfl, hq⟩) (fun j ρ2 C2 => ∃ y10, ρ2 = [some (.d (encD d)), some (.d (.tuple (f.map encL))), some (.d (.list (cl.map encC))), some (.r fa), some (.d (.int (i : Nat))), some (.d (encL l)), y6, some (.d (.list (vec d.marks fun _ => 0))), some (.d (.int 0)), some (.r p), y10, y11, y12, y13, y14, y15] ∧ C2 = cup C' p (.k (encKv (kvOf (l.kids.take j)))))
            ⟨y10, rfl, rfl⟩ (fun _ _ _ _ _ => trivial) ?_ ?_
          · rintro j x ρ2 C2 hx ⟨y10, rfl, rfl⟩
            obtain ⟨x, hx2, rfl⟩ := map_get hx
            obtain ⟨k, hk, rfl⟩ := of_atD hx2
            walk_at "rd"
            refine ⟨p, _, rfl, .inl cup_same, _, _, rfl, .inl cup_same, ?_⟩
            rw [aval_kv]
            walk_at "rd"
            have ec : ((cn (kvOf (l.kids.take j)) k : Nat) : Int) + 1 = ((cn (kvOf (l.kids.take j)) k + 1 : Nat) : Int) := by omega
            rw [ec]
            refine ⟨p, _, _, rfl, rfl, cup_same, ?_, ?_⟩
            · have z := kvs_len (l.kids.take j)
              unfold encKv
              rw [List.length_map]
              rw [List.length_take] at z
              omega
            · rw [aput_kv (kv_nd _), cup_cup, ← kvOf_snoc, ← take_snoc hk]
              exact ⟨_, rfl, rfl⟩
          · rintro ρ2 C2 ⟨y10, rfl, rfl⟩
            rw [List.length_map, List.length_map, List.take_length]
            obtain ⟨W, eW⟩ : ∃ W, W = whole d cl l.kids := ⟨_, rfl⟩
            have hkm : ∀ x ∈ kvOf l.kids, x.1 ∈ l.kids ∧ x.2 ≤ 57 := fun x hx => ⟨kv_mem x hx, Nat.le_trans (kv_cnt x hx) h57⟩
            have ekeys : (encKv (kvOf l.kids)).map (fun kv => AV.d (keyD kv.1)) = ((kvOf l.kids).map fun x => PyData.int (x.1 : Nat)).map AV.d := by
              unfold encKv
              rw [List.map_map, List.map_map]
              rfl
            have hkvl := kvs_len l.kids
            have b0 : ∀ {a : Nat}, a < 2 ^ 256 → a < Bd := fun h => Nat.lt_of_lt_of_le h (by decide +kernel)
            walk_at "st"
            refine ⟨p, _, rfl, cup_same, fun od vs => ?_⟩
            rw [cup_cup]
            refine i_lcM (kvOf l.kids) (fun x => .int (x.1 : Nat)) (fun x => encI (wt d cl x.1 * x.2)) (sb := fun C => C p = some (.f od vs (encKv (kvOf l.kids)))) (fun q hq => ⟨p, _, _, _, rfl, cup_same, by rw [ekeys]; exact hq⟩) cup_same (by omega) (fun j x hx q hq => ?_) ?_
            · obtain ⟨h1, h2⟩ := hkm x (List.mem_of_getElem? hx)
              have := wt_le ok cl x.1
              simp only [ixs, awipe]
              walk_at "rd"
              refine rd_wt (hkl _ h1) (ck _ (hkl _ h1)) ?_
              refine ⟨p, _, _, _, rfl, rfl, .inr ⟨_, _, cup_same⟩, aval_mem (kv_nd _) hx, ?_⟩
              walk_at "rd"
              refine ⟨cmulN (b0 (by omega)) (b0 (by omega)), ?_⟩
              unfold encI at hq
              rw [Int.natCast_mul] at hq
              exact hq
            refine ⟨cup_same, ?_⟩
            rw [cup_cup, show (fun x : Nat × Nat => encI (wt d cl x.1 * x.2)) = encI ∘ (fun x : Nat × Nat => wt d cl x.1 * x.2) from rfl, ← List.map_map]
            refine acSum_nat ?_
            rw [kv_whole, ← eW]
            walk_at "rd"
            refine ⟨p, _, rfl, cup_same, fun od vs => ?_⟩
            rw [cup_cup]
            refine i_for (its := ((kvOf l.kids).map fun x => PyData.int (x.1 : Nat)).map AV.d) (sb := fun C => C p = some (.f od vs (encKv (kvOf l.kids)))) (fun q hq => ⟨p, _, _, _, rfl, cup_same, by rw [ekeys]; exact hq⟩)
              (fun j ρ2 C2 => ∃ y10 y12 y13 y14 y15, ρ2 = [some (.d (encD d)), some (.d (.tuple (f.map encL))), some (.d (.list (cl.map encC))), some (.r fa), some (.d (.int (i : Nat))), some (.d (encL l)), y6, some (.d (.list (vec d.marks (vPart d cl f l.kids j)))), some (.d (.int (nPart d cl f l.kids j : Nat))), some (.r p), y10, some (.d (.int (W : Nat))), y12, y13, y14, y15] ∧ C2 = cup C' p (.f od vs (encKv (kvOf l.kids))))
              ⟨_, _, _, _, _, rfl, rfl⟩ (fun j ρ2 C2 _ ⟨_, _, _, _, _, _, e⟩ => by rw [e]; exact cup_same) ?_ ?_
            · rintro j x ρ2 C2 hx ⟨y10, y12, y13, y14, y15, rfl, rfl⟩
              obtain ⟨x, hx2, rfl⟩ := map_get hx
              obtain ⟨x, hxx, rfl⟩ := of_atD hx2
              obtain ⟨k, c⟩ := x
              obtain ⟨h1, h2⟩ := hkm _ (List.mem_of_getElem? hxx)
              have hw9 := wt_le ok cl k
              have hki : k < i := hlk k h1
              have hFk : (F i)[k]? = some (AV.d (encDue d cl f k)) := by
                show ((List.range i).map fun k => AV.d (encDue d cl f k))[k]? = _
                rw [List.getElem?_map, List.getElem?_range hki]
                rfl
              have hF3 : cup C' p (.f od vs (encKv (kvOf l.kids))) fa = some (.l (F i)) := by rw [cup_ne hfp]; exact hF
              have hwc : wt d cl k * c ≤ 99 * 57 := Nat.mul_le_mul hw9 h2
              walk_at "rd"
              walk_at "st"
              refine rd_wt (hkl _ h1) (ck _ (hkl _ h1)) ?_
              refine ⟨p, _, _, _, rfl, rfl, .inr ⟨_, _, cup_same⟩, aval_mem (kv_nd _) hxx, ?_⟩
              walk_at "rd"
              refine ⟨cmulN (b0 (by omega)) (b0 (by omega)), ?_⟩
              rw [← Int.natCast_mul]
              walk_at "st"
              have vs1 : vPart d cl f l.kids (j + 1) = fun m => vPart d cl f l.kids j m + (c : Rat) * ((wt d cl k : Rat) / ((whole d cl l.kids : Nat) : Rat) * rAt (pay d cl f) k m) := funext fun m => vPart_snoc hxx m
              have ns1 := nPart_snoc (d := d) (cl := cl) (f := f) hxx
              dsimp only at ns1
              by_cases hw0 : 0 < wt d cl k * c
              · refine iteY (by rw [decide_eq_true_eq]; omega) ?_
                have hwk : 0 < wt d cl k := Nat.pos_of_mul_pos_right hw0
                have hW0 : 0 < whole d cl l.kids := by
                  have : wt d cl k ≤ whole d cl l.kids := mem_le h1
                  omega
                have hWl : whole d cl l.kids < 2 ^ 13 := whole_lt ok cl fb (List.mem_of_getElem? hl)
                have hD := dpr_lt2 (cl := cl) ok fb
                have hDW : dpr d cl f * whole d cl l.kids < 2 ^ 1000 := Nat.lt_of_lt_of_le (Nat.mul_lt_mul'' hD hWl) (by decide +kernel)
                have hkf : k < f.length := by omega
                have hpq := fun m => pay_qf d cl fo.kids m hkf
                walk_at "st"
                refine ⟨p, _, _, _, rfl, rfl, .inr ⟨_, _, cup_same⟩, aval_mem (kv_nd _) hxx, ?_⟩
                refine ix_c hF3 hFk ?_
                rw [encDue_1]
                refine ⟨cmulN (b0 (by omega)) (bd_1 (cnt_bd d cl fo.kids fb hkf)), ?_⟩
                have em : ((nPart d cl f l.kids j : Nat) : Int) + (c : Nat) * (((cnt d cl f).getD k 0 : Nat) : Int) = ((nPart d cl f l.kids (j + 1) : Nat) : Int) := by
                  rw [ns1, if_pos hwk, Int.natCast_add, Int.natCast_mul]
                rw [em]
                walk_at "st"
                refine i_lcM (List.range d.marks) (fun m => encQ (rAt (pay d cl f) k m)) (fun m => encQ (((wt d cl k * c : Nat) : Rat) / (W : Rat) * rAt (pay d cl f) k m)) (sb := fun _ => True) (C1 := cup C' p (.f od vs (encKv (kvOf l.kids)))) (fun q hq => ?_) trivial (by rw [List.length_range]; omega) (fun u m hm q hq => ?_) ?_
                · unfold awL
                  walk_at "rd"
                  refine ix_c hF3 hFk ?_
                  rw [encDue_0]
                  exact hq
                · obtain ⟨p0, pn, pd⟩ := (hpq m).nn (dpr_pos d cl f)
                  obtain ⟨a, ea, ea2, ex⟩ := rat_nd p0
                  simp only [ixs, awipe]
                  walk_at "rd"
                  rw [ea]
                  refine ⟨cmulN (b0 (by omega)) (bd_1 (by rw [← ea2]; exact Nat.lt_of_le_of_lt pn (Nat.lt_trans hD (by decide +kernel)))), cmulN (b0 (by omega)) (bd_1 (Nat.lt_of_le_of_lt pd (Nat.lt_trans hD (by decide +kernel)))), wt d cl k * c * a, W * (rAt (pay d cl f) k m).den, ?_, Nat.mul_pos (by omega) (Rat.den_pos _), ?_, ?_⟩
                  · simp only [Int.natCast_mul]
                  · rw [eW]
                    refine Nat.lt_of_lt_of_le (Nat.mul_lt_mul'' hWl (Nat.lt_of_le_of_lt pd hD)) (by decide +kernel)
                  · have z := low_part (w := wt d cl k * c) (W := W) (by omega) p0
                    rw [ea2] at z
                    rw [z]
                    exact hq
                walk_at "st"
                refine i_lcP (vec d.marks (vPart d cl f l.kids (j + 1))) (its := zipL (vec d.marks (vPart d cl f l.kids j)) ((List.range d.marks).map fun m => encQ (((wt d cl k * c : Nat) : Rat) / (W : Rat) * rAt (pay d cl f) k m))) (sb := fun _ => True) (C1 := cup C' p (.f od vs (encKv (kvOf l.kids)))) (fun q hq => hq) trivial ?_ ?_ (fun u x y hx hy q hq => ?_) ?_
                · rw [zip_len]
                  unfold vec
                  simp
                · rw [zip_len]
                  unfold vec
                  simp
                  omega
                · obtain ⟨a, b, ha, hb, rfl⟩ := zip_get hx
                  have hu : u < d.marks := by
                    have z := (List.getElem?_eq_some_iff.mp ha).1
                    unfold vec at z
                    rw [List.length_map, List.length_range] at z
                    exact z
                  rw [vec_get hu] at ha hy
                  rw [List.getElem?_map, List.getElem?_range hu] at hb
                  cases ha
                  cases hy
                  cases hb
                  have q1 := vPart_qb fo.kids hW0 (fun k hk => by have := hlk k hk; omega) j u
                  have q2 := qb_part (w := wt d cl k * c) (dpr_pos d cl f) hW0 (hpq u)
                  have dw := Nat.mul_pos (dpr_pos d cl f) hW0
                  obtain ⟨a1, a2, a3⟩ := q1.nn dw
                  obtain ⟨b1, b2, b3⟩ := q2.nn dw
                  rw [eW]
                  simp only [ixs, awipe]
                  walk_at "rd"
                  refine ⟨_, _, rfl, a1, b1, Nat.lt_of_le_of_lt a2 hDW, Nat.lt_of_le_of_lt b2 ?_, Nat.lt_of_le_of_lt a3 hDW, Nat.lt_of_le_of_lt b3 hDW, ?_⟩
                  · exact Nat.lt_of_lt_of_le (Nat.mul_lt_mul'' (show wt d cl k * c < 2 ^ 13 by omega) hD) (by decide +kernel)
                  · rw [vs1] at hq
                    dsimp only at hq
                    rw [term_eq hW0]
                    exact hq
                · exact ⟨_, _, _, _, _, rfl, rfl⟩
              · refine iteN (by rw [decide_eq_true_eq]; omega) ?_
                have h0 : wt d cl k * c = 0 := by omega
                have ev : vPart d cl f l.kids (j + 1) = vPart d cl f l.kids j := by
                  rw [vs1]
                  funext m
                  rcases Nat.mul_eq_zero.mp h0 with z | z
                  · rw [z]
                    show _ + _ * ((0 : Rat) / _ * _) = _
                    grind
                  · rw [z]
                    show _ + (0 : Rat) * _ = _
                    grind
                have en : nPart d cl f l.kids (j + 1) = nPart d cl f l.kids j := by
                  rw [ns1]
                  rcases Nat.mul_eq_zero.mp h0 with z | z
                  · rw [z, if_neg (Nat.lt_irrefl 0), Nat.mul_zero, Nat.add_zero]
                  · rw [z, Nat.zero_mul, Nat.add_zero]
                rw [ev, en]
                exact ⟨_, _, _, _, _, rfl, by first | rfl | trivial⟩
            · rintro ρ2 C2 ⟨y10, y12, y13, y14, y15, rfl, rfl⟩
              rw [List.length_map, List.length_map]
              refine ⟨cup_same, ?_⟩
              rw [cup_cup, nPart_all, show vPart d cl f l.kids (kvOf l.kids).length = mix d cl (pay d cl f) l.kids from funext fun m => vPart_all l.kids m]
              have ed : encDue d cl f i = .tuple [.list (vec d.marks (mix d cl (pay d cl f) l.kids)), .int ((nsum d cl (cnt d cl f) l.kids : Nat) : Int)] := by
                unfold encDue
                rw [hpa, hca]
                rfl
              rw [ed] at appF
              have hF4 : cup C' p (.k (encKv (kvOf l.kids))) fa = some (.l (F i)) := by rw [cup_ne hfp]; exact hF
              walk_at "st"
              refine ⟨fa, _, rfl, hF4, ?_⟩
              walk_at "rd"
              refine ⟨by decide, _, hF4, hFl, _, _, _, _, _, _, _, _, _, _, _, _, rfl, sub_cup (sub_cup sC hp0) hfa, ?_⟩
              rw [cup_same, appF]
        · refine iteN (by simpa using hli) ?_
          have hlo : tk cl i = .lost := by
            cases e : tk cl i with
            | self => exact absurd e hs
            | lines => exact absurd e hli
            | lost => rfl
          rw [hlo] at hpa hca
          have ed : encDue d cl f i = .tuple [.list (vec d.marks fun _ => 0), .int 0] := by
            unfold encDue
            rw [hpa, hca]
            rfl
          rw [ed] at appF
          walk_at "st"
          refine ⟨fa, _, rfl, hF, ?_⟩
          walk_at "rd"
          refine ⟨by decide, _, hF, hFl, _, _, _, _, _, _, _, _, _, _, _, _, rfl, sub_cup sC hfa, ?_⟩
          rw [cup_same, appF]
    · rintro ρ' C' ⟨y4, y5, y6, y7, y8, y9, y10, y11, y12, y13, y14, y15, rfl, sC, hF⟩
      rw [enum_len, List.length_map] at hF
      walk_at "st"
      refine Ret.frz sC (xs := (List.range f.length).map (encDue d cl f)) (hF.trans ?_) hfa h
      rw [List.map_map]
      rfl
end
end AB

set_option Elab.async false
set_option linter.all false
set_option maxRecDepth 100000
set_option maxHeartbeats 4000000
/-! The paths from the last line down. -/
namespace AB
open PySem PySem.Spec PyProof.Rows L2
def gsz (acc : List Nat) (l : Ln) : Nat := 1 + (l.kids.map fun k => acc.getD k 0).sum
def szs (f : List Ln) : List Nat := rows gsz f
theorem sz_at {f : List Ln} {i : Nat} {l : Ln} (h : f[i]? = some l) (hk : ∀ k ∈ l.kids, k < i) : (szs f).getD i 0 = 1 + (l.kids.map fun k => (szs f).getD k 0).sum := by
  have e : (szs f).getD i 0 = gsz (szs (f.take i)) l := by
    rw [List.getD_eq_getElem?_getD]
    show ((rows gsz f)[i]?).getD _ = _
    rw [rows_get h]
    rfl
  rw [e]
  unfold gsz
  refine congrArg (fun x => 1 + List.sum x) (List.map_congr_left fun k hk2 => ?_)
  unfold szs
  rw [List.getD_eq_getElem?_getD, rows_prev (hk k hk2), ← List.getD_eq_getElem?_getD]
structure It where
  way : List Nat
  n : Nat
  a : Nat
  b : Nat
def ln0 : Ln := ⟨0, false, []⟩
structure ItOk (d : Deal) (cl : List (Nat × Tk)) (f : List Ln) (x : It) : Prop where
  lt : x.n < f.length
  way : wayOk f x.way
  line : lineAt f x.way = x.n
  b0 : 0 < x.b
  le : x.a ≤ x.b
  dv : x.b * dpr d cl (f.take (x.n + 1)) ∣ dpr d cl f
section
variable {d : Deal} {cl : List (Nat × Tk)} {f : List Ln}
theorem ItOk.bd {x : It} (I : ItOk d cl f x) : x.b ∣ dpr d cl f := Nat.dvd_trans (Nat.dvd_mul_right _ _) I.dv
theorem ItOk.qb {x : It} (I : ItOk d cl f x) : Qb (dpr d cl f) (dpr d cl f) ((x.a : Rat) / (x.b : Rat)) := by
  obtain ⟨c, hc⟩ := I.bd
  have hp := dpr_pos d cl f
  have c0 : 0 < c := Nat.pos_of_ne_zero fun e => by rw [e, Nat.mul_zero] at hc; omega
  refine ⟨x.a * c, by rw [hc]; exact Nat.mul_le_mul_right c I.le, ?_⟩
  have := nat_ne I.b0
  have := nat_ne c0
  rw [hc, Rat.natCast_mul, Rat.natCast_mul]
  grind
def kid (x : It) (l : Ln) (W : Nat) (w : Nat → Nat) (i : Nat) : It := ⟨x.way ++ [i], l.kids.getD i 0, x.a * w (l.kids.getD i 0), x.b * W⟩
def push (d : Deal) (cl : List (Nat × Tk)) (x : It) (l : Ln) (j : Nat) : List It := ((List.range j).filter fun i => decide (0 < wt d cl (l.kids.getD i 0))).map (kid x l (whole d cl l.kids) (wt d cl))
theorem push_snoc (x : It) (l : Ln) (j : Nat) : push d cl x l (j + 1) = push d cl x l j ++ (if 0 < wt d cl (l.kids.getD j 0) then [kid x l (whole d cl l.kids) (wt d cl) j] else []) := by
  unfold push
  rw [List.range_succ, List.filter_append, List.map_append]
  congr 1
  by_cases e : 0 < wt d cl (l.kids.getD j 0)
  · rw [if_pos e, List.filter_cons_of_pos (by simpa using e)]
    rfl
  · rw [if_neg e, List.filter_cons_of_neg (by simpa using e)]
    rfl
theorem kid_ok {x : It} {l : Ln} {i : Nat} (fk : kidsOk f) (I : ItOk d cl f x) (hl : f[x.n]? = some l) (hi : i < l.kids.length) (hw : 0 < wt d cl (l.kids.getD i 0)) : ItOk d cl f (kid x l (whole d cl l.kids) (wt d cl) i) := by
  have hg := getD_at (d := 0) hi
  have hm := List.mem_of_getElem? hg
  have hkn := fk x.n l hl _ hm
  have hlt := I.lt
  have hle : wt d cl (l.kids.getD i 0) ≤ whole d cl l.kids := mem_le hm
  have ed : f.getD (lineAt f x.way) ⟨0, false, []⟩ = l := by
    rw [I.line, List.getD_eq_getElem?_getD, hl]
    rfl
  refine ⟨by show l.kids.getD i 0 < _; omega, fun j c hj => ?_, ?_, Nat.mul_pos I.b0 (by omega), Nat.mul_le_mul I.le hle, ?_⟩
  · have hj2 : (x.way ++ [i])[j]? = some c := hj
    show c < (f.getD (lineAt f ((x.way ++ [i]).take j)) ⟨0, false, []⟩).kids.length
    by_cases hjl : j < x.way.length
    · rw [List.getElem?_append_left hjl] at hj2
      rw [List.take_append_of_le_length (by omega)]
      exact I.way j c hj2
    · have z := (List.getElem?_eq_some_iff.mp hj2).1
      rw [List.length_append, List.length_cons, List.length_nil] at z
      have ej : j = x.way.length := by omega
      subst ej
      rw [List.getElem?_append_right (Nat.le_refl _), Nat.sub_self] at hj2
      cases hj2
      rw [List.take_left' rfl, ed]
      exact hi
  · show lineAt f (x.way ++ [i]) = l.kids.getD i 0
    rw [lineAt_snoc, ed]
  · show x.b * whole d cl l.kids * dpr d cl (f.take (l.kids.getD i 0 + 1)) ∣ _
    refine Nat.dvd_trans ?_ I.dv
    rw [dpr_take hl, Nat.max_eq_right (by omega), Nat.mul_assoc, Nat.mul_comm (whole d cl l.kids)]
    refine Nat.mul_dvd_mul_left _ (Nat.mul_dvd_mul_right ?_ _)
    exact dpr_dvd d cl f (by omega)
def stR (d : Deal) (cl : List (Nat × Tk)) (f : List Ln) (st : List It) (m : Nat) : Rat := rsum (st.map fun x => (x.a : Rat) / (x.b : Rat) * rAt (pay d cl f) x.n m)
def stC (d : Deal) (cl : List (Nat × Tk)) (f : List Ln) (st : List It) : Nat := (st.map fun x => (cnt d cl f).getD x.n 0).sum
def stS (f : List Ln) (st : List It) : Nat := (st.map fun x => (szs f).getD x.n 0).sum
theorem map_getD {β : Type} (ks : List Nat) (g : Nat → β) : ((List.range ks.length).map fun i => g (ks.getD i 0)) = ks.map g := by
  apply List.ext_getElem?
  intro i
  by_cases hi : i < ks.length
  · rw [List.getElem?_map, List.getElem?_range hi, List.getElem?_map, getD_at (d := 0) hi]
    rfl
  · rw [List.getElem?_eq_none (by rw [List.length_map, List.length_range]; omega), List.getElem?_eq_none (by rw [List.length_map]; omega)]
theorem push_R (x : It) (l : Ln) (hb : 0 < x.b) (hW : 0 < whole d cl l.kids) (m : Nat) : stR d cl f (push d cl x l l.kids.length) m = (x.a : Rat) / (x.b : Rat) * mix d cl (pay d cl f) l.kids m := by
  have n1 := nat_ne hb
  have n2 := nat_ne hW
  unfold stR push
  rw [List.map_map, rsum_filter]
  · have e : (List.range l.kids.length).map ((fun y : It => (y.a : Rat) / (y.b : Rat) * rAt (pay d cl f) y.n m) ∘ kid x l (whole d cl l.kids) (wt d cl)) = (List.range l.kids.length).map fun i => (fun k => (x.a : Rat) / (x.b : Rat) * ((wt d cl k : Rat) / ((whole d cl l.kids : Nat) : Rat) * rAt (pay d cl f) k m)) (l.kids.getD i 0) := by
      refine List.map_congr_left fun i _ => ?_
      show ((x.a * wt d cl (l.kids.getD i 0) : Nat) : Rat) / ((x.b * whole d cl l.kids : Nat) : Rat) * _ = _
      rw [Rat.natCast_mul, Rat.natCast_mul]
      show _ * rAt (pay d cl f) (l.kids.getD i 0) m = _
      grind
    rw [e, map_getD l.kids (fun k => (x.a : Rat) / (x.b : Rat) * ((wt d cl k : Rat) / ((whole d cl l.kids : Nat) : Rat) * rAt (pay d cl f) k m)), rsum_mul]
    rfl
  · intro i _ hw
    have z : wt d cl (l.kids.getD i 0) = 0 := by simpa using hw
    show ((x.a * wt d cl (l.kids.getD i 0) : Nat) : Rat) / _ * _ = 0
    rw [z, Nat.mul_zero]
    show (0 : Rat) / _ * _ = 0
    grind
theorem push_C (x : It) (l : Ln) : stC d cl f (push d cl x l l.kids.length) = nsum d cl (cnt d cl f) l.kids := by
  unfold stC push nsum
  rw [List.map_map, ← map_getD l.kids fun k => if 0 < wt d cl k then (cnt d cl f).getD k 0 else 0]
  rw [← sum_filter (fun i => decide (0 < wt d cl (l.kids.getD i 0))) (fun i => if 0 < wt d cl (l.kids.getD i 0) then (cnt d cl f).getD (l.kids.getD i 0) 0 else 0)]
  · refine congrArg List.sum (List.map_congr_left fun i hi => ?_)
    have z := (List.mem_filter.mp hi).2
    rw [if_pos (by simpa using z)]
    rfl
  · intro i _ e
    exact if_neg (by simpa using e)
theorem filter_le {α : Type} (p : α → Bool) (g : α → Nat) (l : List α) : ((l.filter p).map g).sum ≤ (l.map g).sum := by
  induction l with
  | nil => exact Nat.le_refl _
  | cons a r ih =>
    rw [List.map_cons, List.sum_cons]
    cases e : p a with
    | true =>
      rw [List.filter_cons_of_pos e, List.map_cons, List.sum_cons]
      omega
    | false =>
      rw [List.filter_cons_of_neg (by rw [e]; exact Bool.false_ne_true)]
      omega
theorem push_S (x : It) (l : Ln) : stS f (push d cl x l l.kids.length) ≤ (l.kids.map fun k => (szs f).getD k 0).sum := by
  unfold stS push
  rw [List.map_map]
  refine Nat.le_trans (filter_le _ _ _) ?_
  rw [← map_getD l.kids fun k => (szs f).getD k 0]
  exact Nat.le_refl _
/-! ### what is found -/
abbrev Fd := List Nat × Rat
def mkOf (f : List Ln) (w : List Nat) : Nat := (f.getD (lineAt f w) ln0).mark
def fdR (f : List Ln) (fd : List Fd) (m : Nat) : Rat := rsum (fd.map fun e => if mkOf f e.1 = m then e.2 else 0)
structure FdOk (d : Deal) (cl : List (Nat × Tk)) (f : List Ln) (e : Fd) : Prop where
  way : wayOk f e.1
  lt : lineAt f e.1 < f.length
  qb : Qb (dpr d cl f) (dpr d cl f) e.2
/-- the search -/
structure Srch (d : Deal) (cl : List (Nat × Tk)) (f : List Ln) (st : List It) (fd : List Fd) : Prop where
  it : ∀ x ∈ st, ItOk d cl f x
  fo : ∀ e ∈ fd, FdOk d cl f e
  r : ∀ m, fdR f fd m + stR d cl f st m = rAt (pay d cl f) (f.length - 1) m
  c : fd.length + stC d cl f st = (cnt d cl f).getD (f.length - 1) 0
  s : fd.length + stS f st ≤ (szs f).getD (f.length - 1) 0
theorem stR_snoc (st : List It) (x : It) (m : Nat) : stR d cl f (st ++ [x]) m = stR d cl f st m + (x.a : Rat) / (x.b : Rat) * rAt (pay d cl f) x.n m := by
  unfold stR
  rw [List.map_append]
  exact rsum_snoc _ _
theorem stR_app (st su : List It) (m : Nat) : stR d cl f (st ++ su) m = stR d cl f st m + stR d cl f su m := by
  unfold stR
  rw [List.map_append, rsum_app]
theorem stC_app (st su : List It) : stC d cl f (st ++ su) = stC d cl f st + stC d cl f su := by
  unfold stC
  rw [List.map_append, List.sum_append]
theorem stS_app (st su : List It) : stS f (st ++ su) = stS f st + stS f su := by
  unfold stS
  rw [List.map_append, List.sum_append]
theorem srch_0 (hne : f ≠ []) : Srch d cl f [⟨[], f.length - 1, 1, 1⟩] [] := by
  have hp : 0 < f.length := List.length_pos_iff.mpr hne
  refine ⟨fun x hx => ?_, fun e he => (by cases he), fun m => ?_, ?_, ?_⟩
  · rw [List.mem_singleton.mp hx]
    refine ⟨by show f.length - 1 < _; omega, fun i j h => by simp at h, rfl, Nat.one_pos, Nat.le_refl _, ?_⟩
    show 1 * dpr d cl (f.take (f.length - 1 + 1)) ∣ _
    rw [Nat.one_mul, Nat.sub_add_cancel (by omega), List.take_length]
    exact Nat.dvd_refl _
  · show (0 : Rat) + (((1 : Nat) : Rat) / ((1 : Nat) : Rat) * rAt (pay d cl f) (f.length - 1) m + 0) = _
    show (0 : Rat) + ((1 : Rat) / 1 * rAt (pay d cl f) (f.length - 1) m + 0) = _
    grind
  · show 0 + ((cnt d cl f).getD (f.length - 1) 0 + 0) = _
    omega
  · show 0 + ((szs f).getD (f.length - 1) 0 + 0) ≤ _
    omega
/-- a turn's parts -/
theorem srch_pop {st : List It} {x : It} {fd : List Fd} {l : Ln} (S : Srch d cl f (st ++ [x]) fd) (fk : kidsOk f) (hl : f[x.n]? = some l) :
    (tk cl x.n = .self → Srch d cl f st (fd ++ [(x.way, (x.a : Rat) / (x.b : Rat))]) ∧ stS f st < stS f (st ++ [x])) ∧
    (tk cl x.n = .lost → Srch d cl f st fd ∧ stS f st < stS f (st ++ [x])) ∧
    (tk cl x.n = .lines → whole d cl l.kids = 0 → Srch d cl f st fd ∧ stS f st < stS f (st ++ [x])) ∧
    (tk cl x.n = .lines → 0 < whole d cl l.kids → Srch d cl f (st ++ push d cl x l l.kids.length) fd ∧ stS f (st ++ push d cl x l l.kids.length) < stS f (st ++ [x])) := by
  have Ix := S.it x (List.mem_append_right _ (List.mem_singleton.mpr rfl))
  have hpa := pay_at (d := d) (cl := cl) hl fun k hk => fk x.n l hl k hk
  have hca := cnt_at (d := d) (cl := cl) hl fun k hk => fk x.n l hl k hk
  have hsz := sz_at hl fun k hk => fk x.n l hl k hk
  have eS : stS f (st ++ [x]) = stS f st + (szs f).getD x.n 0 := by
    rw [stS_app]
    show _ + ((szs f).getD x.n 0 + 0) = _
    omega
  have eC : stC d cl f (st ++ [x]) = stC d cl f st + (cnt d cl f).getD x.n 0 := by
    rw [stC_app]
    show _ + ((cnt d cl f).getD x.n 0 + 0) = _
    omega
  have hit : ∀ y ∈ st, ItOk d cl f y := fun y hy => S.it y (List.mem_append_left _ hy)
  have hr := S.r
  have hc := S.c
  have hs := S.s
  rw [eS] at hs
  rw [eC] at hc
  refine ⟨fun t => ?_, fun t => ?_, fun t hw => ?_, fun t hw => ?_⟩
  · rw [t] at hpa hca
    dsimp only at hca
    refine ⟨⟨hit, fun e he => ?_, fun m => ?_, ?_, ?_⟩, by omega⟩
    · rcases List.mem_append.mp he with z | z
      · exact S.fo e z
      · rw [List.mem_singleton.mp z]
        exact ⟨Ix.way, by rw [Ix.line]; exact Ix.lt, Ix.qb⟩
    · have z := hr m
      rw [stR_snoc, hpa] at z
      rw [← z]
      unfold fdR
      rw [List.map_append, List.map_cons, List.map_nil, rsum_snoc]
      have em : mkOf f x.way = l.mark := by
        unfold mkOf
        rw [Ix.line, List.getD_eq_getElem?_getD, hl]
        rfl
      show _ + (if mkOf f x.way = m then (x.a : Rat) / (x.b : Rat) else 0) + _ = _ + (_ + _ * (if m = l.mark then 1 else 0))
      rw [em]
      by_cases e : l.mark = m
      · rw [if_pos e, if_pos e.symm]
        grind
      · rw [if_neg e, if_neg fun y => e y.symm]
        grind
    · rw [List.length_append, List.length_cons, List.length_nil]
      omega
    · rw [List.length_append, List.length_cons, List.length_nil]
      omega
  · rw [t] at hpa hca
    dsimp only at hca
    refine ⟨⟨hit, S.fo, fun m => ?_, by omega, by omega⟩, by omega⟩
    have z := hr m
    rw [stR_snoc, hpa] at z
    rw [← z]
    grind
  · rw [t] at hpa hca
    dsimp only at hca
    have e0 : ∀ k ∈ l.kids, wt d cl k = 0 := fun k hk => by
      have : wt d cl k ≤ whole d cl l.kids := mem_le hk
      omega
    have en : nsum d cl (cnt d cl f) l.kids = 0 := by
      unfold nsum
      have z : (l.kids.map fun k => if 0 < wt d cl k then (cnt d cl f).getD k 0 else 0).sum ≤ (l.kids.map fun _ => 0).sum := sum_le fun k hk => by
        rw [e0 k hk]
        exact Nat.le_refl _
      have y : (l.kids.map fun _ => 0).sum = 0 := by
        induction l.kids with
        | nil => rfl
        | cons a r ih => rw [List.map_cons, List.sum_cons, ih]
      omega
    rw [en] at hca
    refine ⟨⟨hit, S.fo, fun m => ?_, by omega, by omega⟩, by omega⟩
    have z := hr m
    rw [stR_snoc, hpa] at z
    rw [← z]
    have e1 : mix d cl (pay d cl f) l.kids m = 0 := by
      unfold mix
      rw [rsum_congr (g := fun _ => (0 : Rat)) fun k hk => ?_]
      · exact rsum_zero _
      · rw [e0 k hk]
        show (0 : Rat) / _ * _ = 0
        grind
    show _ = _ + (_ + _ * mix d cl (pay d cl f) l.kids m)
    rw [e1]
    grind
  · rw [t] at hpa hca
    dsimp only at hca
    have ps := push_S (d := d) (cl := cl) (f := f) x l
    have eS2 : stS f (st ++ push d cl x l l.kids.length) = stS f st + stS f (push d cl x l l.kids.length) := stS_app _ _
    have eC2 : stC d cl f (st ++ push d cl x l l.kids.length) = stC d cl f st + stC d cl f (push d cl x l l.kids.length) := stC_app _ _
    rw [push_C] at eC2
    refine ⟨⟨fun y hy => ?_, S.fo, fun m => ?_, by omega, by omega⟩, by omega⟩
    · rcases List.mem_append.mp hy with z | z
      · exact hit y z
      · unfold push at z
        obtain ⟨i, hi, rfl⟩ := List.mem_map.mp z
        obtain ⟨h1, h2⟩ := List.mem_filter.mp hi
        exact kid_ok fk Ix hl (List.mem_range.mp h1) (by simpa using h2)
    · have z := hr m
      rw [stR_snoc, hpa] at z
      rw [← z, stR_app, push_R x l Ix.b0 hw m]
theorem stS_len (fk : kidsOk f) {st : List It} (h : ∀ x ∈ st, ItOk d cl f x) : st.length ≤ stS f st := by
  induction st with
  | nil => exact Nat.zero_le _
  | cons x r ih =>
    have z := ih fun y hy => h y (List.mem_cons_of_mem _ hy)
    have Ix := h x List.mem_cons_self
    have hl : f[x.n]? = some (f[x.n]'Ix.lt) := List.getElem?_eq_getElem Ix.lt
    have hsz := sz_at hl fun k hk => fk x.n _ hl k hk
    show r.length + 1 ≤ (szs f).getD x.n 0 + stS f r
    omega
end
end AB

set_option Elab.async false
set_option linter.all false
set_option maxRecDepth 100000
set_option maxHeartbeats 4000000
/-! Layer A: sorted of data. -/
namespace AB
open PySem PySem.Spec PyProof.Rows L2
open PySem.W (AllAlike)
abbrev Zp := V × PyData
def rSortedD (K : PySem.W.Frag) : List V → Hp → VK → Prop := fun vs H Q => ∃ (a : Addr) (zs : List Zp), vs = [V.ref a] ∧ SqL K H a (zs.map (·.1)) ∧ (∀ z ∈ zs, Dp K H z.1 z.2) ∧ AllAlike (zs.map (·.2)) ∧ PySem.W.Sortable (zs.map (·.2)) ∧ (∀ z ∈ zs, z.2.depth ≤ 8) ∧ zs.length ≤ 1000 ∧
  ∀ (ys : List Zp) p, ys.Perm zs → H p = none → Q (.ref p) (upd H p (.lst (ys.map (·.1))))
theorem trip {zs : List Zp} : ∀ {us : List Value}, Vals (zs.map (·.1)) us → ∃ bs : List (Zp × Value), zs = bs.map (·.1) ∧ us = bs.map (·.2) ∧ ∀ b ∈ bs, RelV b.1.1 b.2 := by
  induction zs with
  | nil =>
    intro us h
    cases h
    exact ⟨[], rfl, rfl, fun b hb => by cases hb⟩
  | cons z r ih =>
    intro us h
    rw [List.map_cons] at h
    cases h with
    | cons h1 h2 =>
      obtain ⟨bs, e1, e2, e3⟩ := ih h2
      rename_i u us
      refine ⟨(z, u) :: bs, by rw [e1]; rfl, by rw [e2]; rfl, fun b hb => ?_⟩
      rcases List.mem_cons.mp hb with h | h
      · rw [h]
        exact h1
      · exact e3 b h
theorem each_map2 {α β γ : Type} {R : α → β → Prop} {f : γ → α} {g : γ → β} : ∀ {bs : List γ}, (∀ b ∈ bs, R (f b) (g b)) → PySem.W.EachIs R (bs.map f) (bs.map g)
  | [], _ => .nil
  | b :: bs, h => .cons (h b List.mem_cons_self) (each_map2 fun x hx => h x (List.mem_cons_of_mem _ hx))
theorem each_self {α γ : Type} {R : α → γ → Prop} {f : γ → α} {bs : List γ} (h : ∀ b ∈ bs, R (f b) b) : PySem.W.EachIs R (bs.map f) bs := by
  have z := each_map2 (R := R) (f := f) (g := id) (bs := bs) h
  rwa [List.map_id] at z
theorem each_eq {γ : Type} {f : γ → Value} : ∀ {out : List Value} {bs : List γ}, PySem.W.EachIs (fun v b => v = f b) out bs → out = bs.map f
  | _, _, .nil => rfl
  | _, _, .cons h t => by rw [h, each_eq t]; rfl
theorem vals_map {bs : List (Zp × Value)} (h : ∀ b ∈ bs, RelV b.1.1 b.2) : Vals ((bs.map (·.1)).map (·.1)) (bs.map (·.2)) := by
  induction bs with
  | nil => exact .nil
  | cons b r ih => exact .cons (h b List.mem_cons_self) (ih fun x hx => h x (List.mem_cons_of_mem _ hx))
section
variable {X : Cx}
theorem cr_sortedD (hu : X.A.units + 64 < cLine) : CallR X (.builtin "sorted") (rSortedD X.K) := by
  intro pins s σ H vs us Q I r h
  obtain ⟨a, zs, rfl, hs, hd, hal, hk, hdep, hlen, q⟩ := h
  obtain ⟨its, rv, hl, hz⟩ := I.list hs
  rw [Vals.ref1 r]
  obtain ⟨bs, e1, e2, e3⟩ := trip rv
  subst e2
  have edd : zs.map (·.2) = bs.map (fun b => b.1.2) := by
    rw [e1, List.map_map]
    rfl
  rw [edd] at hal hk
  refine PySem.W.sorted_data (enc := fun b : Zp × Value => b.1.2) (R := fun v b => v = b.2) (bs := bs) hl.isList (each_self fun b _ => rfl) (each_self fun b hb => ?_) hal hk ?_ (fun b hb => ?_) fun out ho eo => ?_
  · have hm : b.1 ∈ zs := by rw [e1]; exact List.mem_map.mpr ⟨b, hb, rfl⟩
    exact Dp.reads I b.1.2 b.1.1 b.2 (hd _ hm) (e3 b hb)
  · have : zs.length = bs.length := by rw [e1, List.length_map]
    exact Nat.le_trans (by omega) (sz1000 (Nat.le_refl 1000))
  · have hm : b.1 ∈ zs := by rw [e1]; exact List.mem_map.mpr ⟨b, hb, rfl⟩
    have := hdep _ hm
    show X.A.units + 2 + b.1.2.depth < cLine
    omega
  · have eo2 := each_eq eo
    have pm : (bs.mergeSort (PySem.W.dataLe false fun b : Zp × Value => b.1.2)).Perm bs := List.mergeSort_perm _ _
    obtain ⟨ss, ess⟩ : ∃ ss, ss = bs.mergeSort (PySem.W.dataLe false fun b : Zp × Value => b.1.2) := ⟨_, rfl⟩
    rw [← ess] at pm eo2
    have rl : ∀ b ∈ ss, RelV b.1.1 b.2 := fun b hb => e3 b (pm.mem_iff.mp hb)
    obtain ⟨ep, he'⟩ := PyProof.Rows.sortedAll_at s.heap (bs.map (·.2)) out.toArray
    have pz : (ss.map (·.1)).Perm zs := by
      rw [e1]
      exact pm.map _
    have hlen2 : ((ss.map (·.1)).map (·.1)).length ≤ sizeLine := by
      rw [List.length_map, pz.length_eq]
      exact sz1000 hlen
    refine ⟨.ref _, upd H (s.heap.objs.size + 1) (.lst ((ss.map (·.1)).map (·.1))), I.laid (t' := s.toks) (fun _ _ => PyProof.Rows.sortedAll_old) (Nat.le_succ _) ⟨hlen2, out, ep, ?_, he'⟩, rfl, q _ _ pz (I.hok.fresh (Nat.le_succ _))⟩
    rw [eo2]
    exact vals_map rl
end
def acSorted : ACR := fun avs C q => ∃ x ds, avs = [x] ∧ AsD C x (.list ds) ∧ AllAlike ds ∧ PySem.W.Sortable ds ∧ (∀ d ∈ ds, d.depth ≤ 8) ∧ ds.length ≤ 1000 ∧ ∀ ds' : List PyData, ds'.Perm ds → q (.d (.list ds')) C
theorem zip_fst {vs : List V} {ds : List PyData} (h : vs.length = ds.length) : (vs.zip ds).map (·.1) = vs ∧ (vs.zip ds).map (·.2) = ds := ⟨List.map_fst_zip (by omega), List.map_snd_zip (by omega)⟩
theorem dp_zip {K : PySem.W.Frag} {G : Hp} : ∀ {vs : List V} {ds : List PyData}, DpAll K G vs ds → ∀ z ∈ vs.zip ds, Dp K G z.1 z.2
  | _, _, .nil, z, hz => by cases hz
  | _, _, .cons h t, z, hz => by
    rw [List.zip_cons_cons] at hz
    rcases List.mem_cons.mp hz with e | e
    · rw [e]
      exact h
    · exact dp_zip t z e
theorem zip_dp {K : PySem.W.Frag} {G : Hp} : ∀ {ys : List Zp}, (∀ z ∈ ys, Dp K G z.1 z.2) → DpAll K G (ys.map (·.1)) (ys.map (·.2))
  | [], _ => .nil
  | y :: ys, h => .cons (h y List.mem_cons_self) (zip_dp fun z hz => h z (List.mem_cons_of_mem _ hz))
theorem snd_sorted {K : PySem.W.Frag} : SndC K (rSortedD K) acSorted := fun G C H vs avs q Q R rv h fin => by
  obtain ⟨x, ds, rfl, hx, hal, hk, hdep, hlen, h⟩ := h
  obtain ⟨v, rfl, r1⟩ : ∃ v, vs = [v] ∧ Rv K G v x := by
    cases rv with
    | cons r1 r2 =>
      cases r2
      exact ⟨_, rfl, r1⟩
  obtain ⟨a, ws, rfl, hs, hd⟩ : ∃ a ws, v = V.ref a ∧ SqL K H a ws ∧ DpAll K G ws ds := by
    cases x with
    | d x =>
      cases (show PyData.list ds = x from hx)
      cases (show Dp K G v (.list ds) from r1) with
      | lst s rs => exact ⟨_, _, rfl, Same.seq R.ex s, rs⟩
    | r p =>
      obtain ⟨xs, e, e2⟩ := hx
      cases e2
      obtain ⟨g, ws, eh, rs⟩ := R.cell p _ e
      cases r1
      exact ⟨p, ws, rfl, SqL.of eh, rs.dps⟩
  have hl := dps_len hd
  obtain ⟨z1, z2⟩ := zip_fst hl
  refine ⟨a, ws.zip ds, rfl, by rw [z1]; exact hs, fun z hz => dp_mono R.ex _ _ (dp_zip hd z hz), by rw [z2]; exact hal, by rw [z2]; exact hk, fun z hz => hdep _ (by rw [← z2]; exact List.mem_map.mpr ⟨z, hz, rfl⟩), ?_, fun ys p pm np => ?_⟩
  · rw [List.length_zip]
    omega
  · have hdy : DpAll K G (ys.map (·.1)) (ys.map (·.2)) := zip_dp fun z hz => dp_zip hd z (pm.mem_iff.mp hz)
    refine fin _ (.d (.list (ys.map (·.2)))) _ C _ (Stp.data R np) (rv_d (dp_newL (R.none np).1 hdy)) (h _ ?_)
    have := pm.map (fun z : Zp => z.2)
    rw [z2] at this
    exact this
section
variable {X : Cx} {P : Par} {e : Expr} {ae : AE} {p pos : Pos}
theorem ap_sorted (hu : X.A.units + 64 < cLine) (hm : X.mg "sorted" = none) (ha : APE X P e ae) (hg : Gl X "sorted" := by rfl) (he : starEach [e] X.env = (false, eval e X.env) :: starEach [] X.env := by rfl) (hpl : (backTo pos (starEach [] X.env)).any (·.1) = false := by rfl) :
    APE X P (.Call (.Name "sorted" p) [e] [] pos) (aCB acSorted (aCons ae aNil)) := ap_cb (cr_sortedD hu) snd_sorted hm (by decide +kernel) (apa_cons ha apa_nil he) hg (by decide) (by decide) he hpl
end
end AB

set_option Elab.async false
set_option linter.all false
set_option maxRecDepth 100000
set_option maxHeartbeats 4000000
/-! The walk: the law's shares of a small family. -/
namespace AB
open PySem PySem.Spec PyProof.Rows L2
def encIt (x : It) : PyData := .tuple [.tuple (x.way.map encI), .int (x.n : Nat), .int (x.a : Nat), .int (x.b : Nat)]
def encFd (e : Fd) : PyData := .tuple [.tuple (e.1.map encI), encQ e.2]
theorem lay_ints (ks : List Nat) : PyData.canLayAll0 (ks.map encI) = true ∧ PyData.depthAll (ks.map encI) = 0 := by
  induction ks with
  | nil => exact ⟨rfl, rfl⟩
  | cons k r ih => exact ⟨by simp [PyData.canLayAll0, encI, PyData.canLay0, ih.1], by simp [PyData.depthAll, PyData.depth, encI, ih.2]⟩
theorem shp_its (st : List It) : SeqAt.shaped (.list (st.map encIt)) = true := by
  have h1 : PyData.canLayAll0 (st.map encIt) = true := by
    induction st with
    | nil => rfl
    | cons k r ih => simp [PyData.canLayAll0, encIt, PyData.canLay0, ih, (lay_ints k.way).1]
  have h2 : PyData.depthAll (st.map encIt) ≤ 3 := by
    clear h1
    induction st with
    | nil => exact Nat.zero_le _
    | cons k r ih =>
      simp [PyData.depthAll, PyData.depth, encIt, (lay_ints k.way).2]
      omega
  unfold SeqAt.shaped
  simp [PyData.canLay0, PyData.depth, h1]
  omega
theorem alike_is (a b : List Nat) : PySem.W.alikeAll (a.map encI) (b.map encI) = true := by
  have z := PySem.W.alike_ints (a.map fun (n : Nat) => (n : Int)) (b.map fun (n : Nat) => (n : Int))
  rw [List.map_map, List.map_map] at z
  exact z
theorem fd_alike (x y : Fd) : PySem.W.alike (encFd x) (encFd y) = true := by
  simp [encFd, encQ, PySem.W.alike, PySem.W.alikeAll, alike_is]
theorem fd_depth (x : Fd) : (encFd x).depth ≤ 8 := by
  simp [encFd, encQ, PyData.depth, PyData.depthAll, (lay_ints x.1).2]
theorem perm_map {α β : Type} (f : α → β) {a b : List β} (h : a.Perm b) : ∀ l : List α, b = l.map f → ∃ l' : List α, a = l'.map f ∧ l'.Perm l := by
  induction h with
  | nil =>
    intro l e
    cases l with
    | nil => exact ⟨[], rfl, List.Perm.refl _⟩
    | cons x r => cases e
  | cons x h ih =>
    intro l e
    cases l with
    | nil => cases e
    | cons y r =>
      rw [List.map_cons] at e
      obtain ⟨e1, e2⟩ := List.cons.inj e
      obtain ⟨l', e3, p⟩ := ih r e2
      exact ⟨y :: l', by rw [e3, e1]; rfl, p.cons y⟩
  | swap x y l =>
    intro m e
    cases m with
    | nil => cases e
    | cons u r =>
      cases r with
      | nil => cases (List.cons.inj e).2
      | cons v r =>
        rw [List.map_cons, List.map_cons] at e
        obtain ⟨e1, e2⟩ := List.cons.inj e
        obtain ⟨e3, e4⟩ := List.cons.inj e2
        exact ⟨v :: u :: r, by rw [List.map_cons, List.map_cons, ← e1, ← e3, ← e4], List.Perm.swap u v r⟩
  | trans h1 h2 ih1 ih2 =>
    intro l e
    obtain ⟨l2, e2, p2⟩ := ih2 l e
    obtain ⟨l1, e1, p1⟩ := ih1 l2 e2
    exact ⟨l1, e1, p1.trans p2⟩
theorem rsum_perm {a b : List Rat} (h : a.Perm b) : rsum a = rsum b := by
  induction h with
  | nil => rfl
  | cons x h ih =>
    show x + _ = x + _
    rw [ih]
  | swap x y l =>
    show y + (x + rsum l) = x + (y + rsum l)
    grind
  | trans h1 h2 ih1 ih2 => exact ih1.trans ih2
theorem way_len {f : List Ln} (hk : kidsOk f) (h0 : f ≠ []) (ks : List Nat) (hw : wayOk f ks) : ∀ i, i ≤ ks.length → lineAt f (ks.take i) + i ≤ f.length - 1 := by
  intro i
  induction i with
  | zero =>
    intro _
    show f.length - 1 + 0 ≤ _
    omega
  | succ i ih =>
    intro hi
    have h1 := ih (by omega)
    have hj : ks[i]? = some (ks[i]'(by omega)) := List.getElem?_eq_getElem (by omega)
    have hlt := hw i _ hj
    rw [take_snoc hj, lineAt_snoc]
    have e := getD_at (d := (⟨0, false, []⟩ : Ln)) (lineAt_lt hk h0 ks hw i (by omega))
    have e2 := getD_at (d := 0) hlt
    have z := hk _ _ e _ (List.mem_of_getElem? e2)
    omega
theorem push_nil {d : Deal} {cl : List (Nat × Tk)} {x : It} {l : Ln} (h : whole d cl l.kids = 0) : ∀ j, j ≤ l.kids.length → push d cl x l j = [] := by
  intro j
  induction j with
  | zero =>
    intro _
    rfl
  | succ j ih =>
    intro hj
    rw [push_snoc, ih (by omega)]
    have hm := List.mem_of_getElem? (getD_at (d := 0) (show j < l.kids.length by omega))
    have : wt d cl (l.kids.getD j 0) ≤ whole d cl l.kids := mem_le hm
    rw [if_neg (by omega)]
    rfl
structure ShRes (d : Deal) (cl : List (Nat × Tk)) (f : List Ln) (fd : List Fd) : Prop where
  fo : ∀ e ∈ fd, FdOk d cl f e
  r : ∀ m, fdR f fd m = rAt (pay d cl f) (f.length - 1) m
  c : fd.length = (cnt d cl f).getD (f.length - 1) 0
  s : fd.length ≤ 1000
section
variable {P : Program} {w : World} {K : PySem.W.Frag} {mg : Str → Option Value} {base : Heap}
local macro_rules | `(tactic| walk_at "rd") => `(tactic| try simp only [astart, List.map_cons, List.map_nil, List.length_cons, List.length_nil, List.replicate_succ, List.replicate_zero, List.cons_append, List.nil_append, aVar, aC, aOp, arI, arI0, arB, onI2, onB, aTest, aChain, aAnd, aOr, aNot, aAndV, aOrV, aNotV, aIf, aNil, aCons, aIsi, aNext, aCB, acLen, aCall, g_n, g_tup2, g_tup3, g_tup4, g_tup13, g_tup2s, aNeg, aTup, aLst, aSl, arSlC, arCatC, aLstC, aApp, aDGet2, aPop, arCatT, aDGet, aDPut, agSub, allD, arIx_t0, arIx_t1, arIx_t2, arIx_t3, encD_0, encD_1, encD_2, encD_3, encC_0, encC_1, encQ_0, encQ_1, arEq_i, arEq_s, ac2I_i, acInt_i, List.getElem?_cons_zero, List.getElem?_cons_succ, List.set_cons_zero, List.set_cons_succ, if_true, if_false, Bool.false_eq_true, Bool.not_true, Bool.not_false, Bool.false_xor, isInt_int, withinD_int, tupD_tup, encL, encI, sp_is_whole, sp_is_within, sp_is_truth, sp_is_tuple_of, sp_is_word_of])
local macro_rules | `(tactic| walk_at "st") => `(tactic| ((try dsimp only); (try refine i_seq ?_); (first | refine i_set ?_ | refine i_if ?_ | refine i_ret ?_ | refine i_asg ?_ | refine i_drop ?_ | refine i_par ?_ | refine i_par3 ?_ | refine i_next ?_); (walk_at "rd")))
def sp__law_shares : ASp := fun avs C q _ => ∃ d f, avs = [.d (encD d), .d (encF f)] ∧ DealOk d ∧ FamOk f d.marks ∧ FamB f ∧ (szs f).getD (f.length - 1) 0 ≤ 1000 ∧ ∀ fd, ShRes d (clo d f) f fd → q (.d (.tuple (fd.map encFd))) C
theorem ok__law_shares (T : Txt P K mg) : FnOk P w K mg base CX0 3 T.d__law_shares.f T.d__law_shares.fd ["_law_deal_here", "_law_family_here"] (gSp K sp__law_shares) := by
  refine fok T.d__law_shares.F sc__law_shares (fun avs C q z h => ?_) (fun cdv A outer s H P' hr => ?_)
  · obtain ⟨d, f, rfl, _⟩ := h
    rfl
  · refine ⟨_, (apss_cons (aps_par3 2 3 4 rfl sc__law_shares.nd (apa_cons (ap_call (ok__law_dealt T) (hr.mono (by decide)) T.d__law_dealt.g T.d__law_dealt.F.kp T.d__law_dealt.b pass0 (apa_cons (apv 0) (apa_cons (apv 1) apa_nil))) (apa_cons (ape_lstC apa_nil) (apa_cons (ape_lstC (apa_cons (ape_tup (apa_cons (ape_tup apa_nil) (apa_cons (ap_sub (ap_len T.b_len (apv 1)) api) (apa_cons api (apa_cons api apa_nil))))) apa_nil)) apa_nil))))
        (apss_cons (aps_while PassesOwn.never (at_neL (huE hr) (apv 4) (ape_lst apa_nil)) (apss_cons (aps_asg (vs := [5, 6, 7, 8]) (ap_pop0 (apv 4)) (apg_t (n := 4) rfl (apgs_cons (apg_n (i := 5) sc__law_shares.nd) (apgs_cons (apg_n (i := 6) sc__law_shares.nd) (apgs_cons (apg_n (i := 7) sc__law_shares.nd) (apgs_cons (apg_n (i := 8) sc__law_shares.nd) apgs_nil))))))
        (apss_one (aps_if (at_eq (apx (apx (apv 2) (apv 6)) api) apstr) (apss_one (aps_expr (ap_app (apv 3) (ape_tup (apa_cons (apv 5) (apa_cons (ap_call (ok__law_low T) (hr.mono (by decide)) T.d__law_low.g T.d__law_low.F.kp T.d__law_low.b pass0 (apa_cons (apv 7) (apa_cons (apv 8) apa_nil))) apa_nil)))))) (apss_one (aps_if (at_eq (apx (apx (apv 2) (apv 6)) api) apstr) (apss_one (aps_for (vs := [9, 10]) PassesOwn.never rfl (awi_enumT T.b_enumerate (apx (apx (apv 1) (apv 6)) api)) (apg_t (n := 2) rfl (apgs_cons (apg_n (i := 9) sc__law_shares.nd) (apgs_cons (apg_n (i := 10) sc__law_shares.nd) apgs_nil))) (apss_cons (aps_set 11 sc__law_shares.nd (ap_call (ok__law_part T) (hr.mono (by decide)) T.d__law_part.g T.d__law_part.F.kp T.d__law_part.b pass0 (apa_cons (apv 0) (apa_cons (apv 2) (apa_cons (apx (apv 1) (apv 6)) (apa_cons (apv 9) apa_nil))))))
        (apss_one (aps_if (at_gt (apx (apv 11) api) api) (apss_one (aps_expr (ap_app (apv 4) (ape_tup (apa_cons (ap_catT (apv 5) (ape_tup (apa_cons (apv 9) apa_nil))) (apa_cons (apv 10) (apa_cons (ap_mul (apv 7) (apx (apv 11) api)) (apa_cons (ap_mul (apv 8) (apx (apv 11) api)) apa_nil)))))))) apss_nil))))) apss_nil))))))
        (apss_one (aps_ret (ap_tuple T.b_tuple (ap_sorted (huE hr) T.b_sorted (apv 3))))))), fun avs C q h => ?_⟩
    obtain ⟨d, f, rfl, ok, fo, fb, hs, h⟩ := h
    have hpos : 0 < f.length := List.length_pos_iff.mpr fo.ne
    refine i_seq ?_
    refine i_par3 ?_
    walk_at "rd"
    refine ⟨d, f, rfl, ok, fo, ?_⟩
    obtain ⟨cl, ecl⟩ : ∃ cl, cl = clo d f := ⟨_, rfl⟩
    have ck : ClOk d cl := by rw [ecl]; exact clo_ok ok fo
    have cln : cl.length = f.length := by rw [ecl]; exact clo_len
    rw [← ecl] at h ⊢
    walk_at "rd"
    refine ⟨by decide, fun fa hfa => ?_⟩
    unfold encF
    walk_at "rd"
    refine ⟨by decide, by decide, by decide, fun ea hea => ?_⟩
    have hfe : fa ≠ ea := cne cup_same hea
    have hea0 : C ea = none := by rw [cup_ne (Ne.symm hfe)] at hea; exact hea
    walk_at "rd"
    refine i_seq ?_
    have e0 : ((f.map encL).length : Int) - 1 = ((f.length - 1 : Nat) : Int) := by
      rw [List.length_map]
      omega
    rw [e0]
    refine ⟨fun m ρ' C' => ∃ y5 y6 y7 y8 y9 y10 y11 st fd, ρ' = [some (.d (encD d)), some (.d (.tuple (f.map encL))), some (.d (.list (cl.map encC))), some (.r fa), some (.r ea), y5, y6, y7, y8, y9, y10, y11] ∧ Sub C C' ∧ C' fa = some (.l ((fd.map encFd).map AV.d)) ∧ C' ea = some (.l ((st.map encIt).map AV.d)) ∧ Srch d cl f st fd ∧ m = stS f st,
      ⟨_, none, none, none, none, none, none, none, [⟨[], f.length - 1, 1, 1⟩], [], rfl, (Sub.cup hfa).trans (Sub.cup hea), ?_, cup_same, srch_0 fo.ne, rfl⟩, ?_⟩
    · rw [cup_ne hfe]
      exact cup_same
    rintro m ρ' C' ⟨y5, y6, y7, y8, y9, y10, y11, st, fd, rfl, sC, hF, hE, S, rfl⟩
    walk_at "rd"
    refine ⟨by decide, _, _, ⟨st.map encIt, hE, rfl⟩, rfl, shp_its st, shp_ints [], ?_⟩
    rw [eqv_nil]
    walk_at "rd"
    have hSl := stS_len fo.kids S.it
    have hSs := S.s
    rcases List.eq_nil_or_concat st with rfl | ⟨st, x, rfl⟩
    · refine iteN (by simp) ?_
      walk_at "st"
      refine ⟨_, fd.map encFd, rfl, ⟨_, hF, rfl⟩, PySem.W.AllAlike.of (fun x y => fd_alike x y), PySem.W.Sortable.tuples (fun x => ⟨_, _, rfl⟩), fun e he => ?_, by rw [List.length_map]; omega, fun ds' hp => ?_⟩
      · obtain ⟨x, _, rfl⟩ := List.mem_map.mp he
        exact fd_depth x
      · obtain ⟨fd', rfl, pf⟩ := perm_map encFd hp fd rfl
        refine ⟨_, _, rfl, rfl, Ret.sub sC (h fd' ⟨fun e he => S.fo e (pf.mem_iff.mp he), fun m => ?_, ?_, ?_⟩)⟩
        · have z := S.r m
          have y : fdR f fd' m = fdR f fd m := rsum_perm (pf.map _)
          rw [y, ← z]
          show _ = _ + (0 : Rat)
          grind
        · have z := S.c
          rw [pf.length_eq, ← z]
          rfl
        · rw [pf.length_eq]
          omega
    · refine iteY (by simp) ?_
      rw [List.concat_eq_append] at hE S hSl hSs
      rw [List.concat_eq_append]
      have Ix := S.it x (List.mem_append_right _ (List.mem_singleton.mpr rfl))
      have hxn := Ix.lt
      obtain ⟨l, hl⟩ : ∃ l, f[x.n]? = some l := ⟨_, List.getElem?_eq_getElem hxn⟩
      obtain ⟨p1, p2, p3, p4⟩ := srch_pop S fo.kids hl
      have hD := dpr_lt2 (cl := cl) ok fb
      have hxb : x.b < Bd := Nat.lt_of_le_of_lt (Nat.le_of_dvd (dpr_pos d cl f) Ix.bd) (Nat.lt_of_lt_of_le hD (by decide +kernel))
      have hxa : x.a < Bd := Nat.lt_of_le_of_lt Ix.le hxb
      have hwl := way_len fo.kids fo.ne x.way Ix.way x.way.length (Nat.le_refl _)
      have hfl := fb.len
      have hF1 : cup C' ea (.l ((st.map encIt).map AV.d)) fa = some (.l ((fd.map encFd).map AV.d)) := by rw [cup_ne hfe]; exact hF
      have sC1 : Sub C (cup C' ea (.l ((st.map encIt).map AV.d))) := sub_cup sC hea0
      refine i_seq ?_
      refine i_asg ?_
      walk_at "rd"
      refine ⟨ea, (st.map encIt).map AV.d, .d (encIt x), rfl, by rw [hE, List.map_append, List.map_append]; rfl, ?_⟩
      unfold encIt
      walk_at "rd"
      have hE1 : cup C' ea (.l ((st.map encIt).map AV.d)) ea = some (.l ((st.map encIt).map AV.d)) := cup_same
      change aIfS _ _ _ _ _ (cup C' ea (.l ((st.map encIt).map AV.d)))
      obtain ⟨C1, eC1⟩ : ∃ C1, C1 = cup C' ea (.l ((st.map encIt).map AV.d)) := ⟨_, rfl⟩
      rw [← eC1] at hF1 sC1 hE1 ⊢
      walk_at "st"
      refine rd_tk (by omega) ?_
      walk_at "rd"
      rw [tk_self]
      by_cases hs1 : tk cl x.n = .self
      · obtain ⟨S1, lt1⟩ := p1 hs1
        refine iteY (by simpa using hs1) ?_
        walk_at "st"
        refine ⟨fa, _, rfl, hF1, x.a, x.b, rfl, Ix.b0, hxb, ?_⟩
        walk_at "rd"
        refine ⟨by decide, _, hF1, by rw [List.length_map, List.length_map]; omega, _, lt1, _, _, _, _, _, _, _, st, fd ++ [(x.way, (x.a : Rat) / (x.b : Rat))], rfl, sub_cup sC1 hfa, ?_, ?_, S1, by first | rfl | trivial⟩
        · rw [cup_same, List.map_append, List.map_append]
          rfl
        · rw [cup_ne (Ne.symm hfe)]
          exact hE1
      · refine iteN (by simpa using hs1) ?_
        walk_at "st"
        refine rd_tk (by omega) ?_
        walk_at "rd"
        rw [tk_lines]
        by_cases hs2 : tk cl x.n = .lines
        · refine iteY (by simpa using hs2) ?_
          have h57 := fb.few l (List.mem_of_getElem? hl)
          have hlk := fo.kids x.n l hl
          refine i_for (its := enumL (l.kids.map encI)) (sb := fun _ => True) (C1 := C1) (fun q hq => ?_) (fun j ρ2 C2 => ∃ y9 y10 y11, ρ2 = [some (.d (encD d)), some (.d (.tuple (f.map encL))), some (.d (.list (cl.map encC))), some (.r fa), some (.r ea), some (.d (.tuple (x.way.map encI))), some (.d (.int (x.n : Nat))), some (.d (.int (x.a : Nat))), some (.d (.int (x.b : Nat))), y9, y10, y11] ∧
              Sub C C2 ∧ C2 fa = some (.l ((fd.map encFd).map AV.d)) ∧ C2 ea = some (.l (((st ++ push d cl x l j).map encIt).map AV.d)))
            ⟨_, _, _, rfl, sC1, hF1, ?_⟩ (fun _ _ _ _ _ => trivial) ?_ ?_
          · simp only [awET]
            walk_at "rd"
            refine ix_t (atD_map hl) ?_
            walk_at "rd"
            exact hq
          · show C1 ea = some (.l (((st ++ []).map encIt).map AV.d))
            rw [List.append_nil]
            exact hE1
          · rintro j y ρ2 C2 hx ⟨y9, y10, y11, rfl, sC2, hF2, hE2⟩
            obtain ⟨y, hy, rfl⟩ := enum_get hx
            obtain ⟨k, hk, rfl⟩ := of_atD hy
            have hkm := List.mem_of_getElem? hk
            have hki := hlk k hkm
            have ekj : l.kids.getD j 0 = k := by
              rw [List.getD_eq_getElem?_getD, hk]
              rfl
            have hpl : (push d cl x l j).length ≤ 57 := by
              unfold push
              rw [List.length_map]
              have z1 := List.length_filter_le (fun i => decide (0 < wt d cl (l.kids.getD i 0))) (List.range j)
              have z2 := (List.getElem?_eq_some_iff.mp hk).1
              rw [List.length_range] at z1
              omega
            walk_at "rd"
            walk_at "st"
            refine ix_t (atD_map hl) ?_
            refine ⟨d, cl, l, j, k, rfl, by omega, ck, fun k hk => by have := hlk k hk; omega, hk, fun hw => ?_, fun hw => ?_⟩
            · walk_at "st"
              have hwk : wt d cl k ≤ whole d cl l.kids := mem_le hkm
              refine ⟨_, _, _, rfl, sC2, hF2, ?_⟩
              rw [push_snoc, ekj, if_neg (by omega), List.append_nil]
              exact hE2
            · walk_at "st"
              by_cases hwk : 0 < wt d cl k
              · refine iteY (by rw [decide_eq_true_eq]; omega) ?_
                have hw9 := wt_le ok cl k
                have hWl := whole_lt ok cl fb (List.mem_of_getElem? hl)
                have b0 : ∀ {a : Nat}, a < 2 ^ 256 → a < Bd := fun h => Nat.lt_of_lt_of_le h (by decide +kernel)
                walk_at "st"
                refine ⟨ea, _, rfl, hE2, by decide, by rw [List.length_map]; omega, cmulN hxa (b0 (by omega)), cmulN hxb (b0 (by omega)), by decide, _, hE2, ?_, _, _, _, rfl, sub_cup sC2 hea0, ?_, ?_⟩
                · rw [List.length_map, List.length_map, List.length_append]
                  rw [List.length_append] at hSl
                  omega
                · rw [cup_ne hfe]
                  exact hF2
                · rw [cup_same, push_snoc, ekj, if_pos hwk, ← List.append_assoc, List.map_append, List.map_append, ← Int.natCast_mul, ← Int.natCast_mul]
                  unfold kid
                  rw [ekj]
                  simp only [List.map_append, List.map_cons, List.map_nil, encIt, encI]
              · refine iteN (by rw [decide_eq_true_eq]; omega) ?_
                refine ⟨_, _, _, rfl, sC2, hF2, ?_⟩
                rw [push_snoc, ekj, if_neg hwk, List.append_nil]
                exact hE2
          · rintro ρ2 C2 ⟨y9, y10, y11, rfl, sC2, hF2, hE2⟩
            rw [enum_len, List.length_map] at hE2
            by_cases hw : whole d cl l.kids = 0
            · obtain ⟨S3, lt3⟩ := p3 hs2 hw
              rw [push_nil hw _ (Nat.le_refl _), List.append_nil] at hE2
              exact ⟨_, lt3, _, _, _, _, _, _, _, st, fd, rfl, sC2, hF2, hE2, S3, rfl⟩
            · obtain ⟨S4, lt4⟩ := p4 hs2 (by omega)
              exact ⟨_, lt4, _, _, _, _, _, _, _, _, fd, rfl, sC2, hF2, hE2, S4, rfl⟩
        · refine iteN (by simpa using hs2) ?_
          have hlo : tk cl x.n = .lost := by
            cases e : tk cl x.n with
            | self => exact absurd e hs1
            | lines => exact absurd e hs2
            | lost => rfl
          obtain ⟨S2, lt2⟩ := p2 hlo
          exact ⟨_, lt2, _, _, _, _, _, _, _, st, fd, rfl, sC1, hF1, hE1, S2, by first | rfl | trivial⟩
end
end AB

set_option Elab.async false
set_option linter.all false
set_option maxRecDepth 100000
set_option maxHeartbeats 4000000
/-! The walk: the law's sums of a small family. -/
namespace AB
open PySem PySem.Spec PyProof.Rows L2
theorem fdR_snoc (f : List Ln) (fd : List Fd) (e : Fd) (m : Nat) : fdR f (fd ++ [e]) m = fdR f fd m + if mkOf f e.1 = m then e.2 else 0 := by
  unfold fdR
  rw [List.map_append]
  exact rsum_snoc _ _
theorem fdR_qb {d : Deal} {cl : List (Nat × Tk)} {f : List Ln} {fd : List Fd} (h : ∀ e ∈ fd, FdOk d cl f e) (m : Nat) : Qb (dpr d cl f) (fd.length * dpr d cl f) (fdR f fd m) := by
  have z := qb_sum (dpr_pos d cl f) (l := fd) (b := fun _ => 1 * dpr d cl f) (f := fun e => if mkOf f e.1 = m then e.2 else 0) fun e he => by
    rw [Nat.one_mul]
    split
    · exact (h e he).qb
    · exact Qb.zero _
  rw [sum_mulr] at z
  have e : (fd.map fun _ => 1).sum = fd.length := by
    clear z h
    induction fd with
    | nil => rfl
    | cons a r ih =>
      rw [List.map_cons, List.sum_cons, ih, List.length_cons]
      omega
  rw [e] at z
  exact z
theorem vec_put {m k : Nat} {v : Nat → Rat} {x : Rat} : (vec m v).set k (encQ x) = vec m fun i => if i = k then x else v i := by
  unfold vec
  apply List.ext_getElem?
  intro i
  rw [List.getElem?_set]
  by_cases hi : i < m
  · rw [List.getElem?_map, List.getElem?_map, List.getElem?_range hi]
    by_cases e : k = i
    · subst e
      rw [if_pos rfl, if_pos (by rw [List.length_map, List.length_range]; exact hi)]
      show _ = some (encQ (if k = k then x else v k))
      rw [if_pos rfl]
    · rw [if_neg e]
      show _ = some (encQ (if i = k then x else v i))
      rw [if_neg fun z => e z.symm]
      rfl
  · rw [List.getElem?_eq_none (by rw [List.length_map, List.length_range]; omega), List.getElem?_eq_none (by rw [List.length_map, List.length_range]; omega)]
    split
    · rw [if_neg (by rw [List.length_map, List.length_range]; omega)]
    · rfl
section
variable {P : Program} {w : World} {K : PySem.W.Frag} {mg : Str → Option Value} {base : Heap}
local macro_rules | `(tactic| walk_at "rd") => `(tactic| try simp only [astart, List.map_cons, List.map_nil, List.length_cons, List.length_nil, List.replicate_succ, List.replicate_zero, List.cons_append, List.nil_append, aVar, aC, aOp, arI, arI0, arB, onI2, onB, aTest, aChain, aAnd, aOr, aNot, aAndV, aOrV, aNotV, aIf, aNil, aCons, aIsi, aNext, aCB, acLen, aCall, g_n, g_tup2, g_tup3, g_tup4, g_tup13, g_tup2s, aNeg, aTup, aLst, aSl, arSlC, arCatC, aLstC, aApp, aDGet2, aPop, arCatT, aDGet, aDPut, agSub, allD, arIx_t0, arIx_t1, arIx_t2, arIx_t3, encD_0, encD_1, encD_2, encD_3, encC_0, encC_1, encQ_0, encQ_1, arEq_i, arEq_s, ac2I_i, acInt_i, List.getElem?_cons_zero, List.getElem?_cons_succ, List.set_cons_zero, List.set_cons_succ, if_true, if_false, Bool.false_eq_true, Bool.not_true, Bool.not_false, Bool.false_xor, isInt_int, withinD_int, tupD_tup, encL, encI, sp_is_whole, sp_is_within, sp_is_truth, sp_is_tuple_of, sp_is_word_of])
local macro_rules | `(tactic| walk_at "st") => `(tactic| ((try dsimp only); (try refine i_seq ?_); (first | refine i_set ?_ | refine i_if ?_ | refine i_ret ?_ | refine i_asg ?_ | refine i_drop ?_ | refine i_par ?_ | refine i_par3 ?_ | refine i_next ?_); (walk_at "rd")))
def sp__law_small_sums : ASp := fun avs C q _ => ∃ d f, avs = [.d (encD d), .d (encF f)] ∧ DealOk d ∧ FamOk f d.marks ∧ FamB f ∧ (szs f).getD (f.length - 1) 0 ≤ 1000 ∧ q (.d (encDue d (clo d f) f (f.length - 1))) C
theorem ok__law_small_sums (T : Txt P K mg) : FnOk P w K mg base CX0 4 T.d__law_small_sums.f T.d__law_small_sums.fd ["_law_deal_here", "_law_family_here"] (gSp K sp__law_small_sums) := by
  refine fok T.d__law_small_sums.F sc__law_small_sums (fun avs C q z h => ?_) (fun cdv A outer s H P' hr => ?_)
  · obtain ⟨d, f, rfl, _⟩ := h
    rfl
  · refine ⟨_, (apss_cons (aps_par 3 4 rfl sc__law_small_sums.nd (apa_cons (ape_lcC [("_law_mark", 2)] rfl sc__law_small_sums.nd (awi_r1 T.b_range (apx (apv 0) api)) (blkOk_by (N := ["_law_deal_here", "_law_family_here", "_law_mark", "_law_sums", "_law_rows", "_law_way", "_law_had"]) (sc := defScope s__law_small_sums) (by decide +kernel)) (fun _ _ _ _ _ => (apg_n (i := 2) sc__law_small_sums.nd)) (fun _ _ _ _ _ => apts_nil) (fun _ _ _ _ _ => (ape_tup (apa_cons api (apa_cons api apa_nil))))) (apa_cons (ap_call (ok__law_shares T) (hr.mono (by decide)) T.d__law_shares.g T.d__law_shares.F.kp T.d__law_shares.b pass0 (apa_cons (apv 0) (apa_cons (apv 1) apa_nil))) apa_nil)))
        (apss_cons (aps_for (vs := [5, 6]) PassesOwn.never rfl (awi_tup (apv 4)) (apg_t (n := 2) rfl (apgs_cons (apg_n (i := 5) sc__law_small_sums.nd) (apgs_cons (apg_n (i := 6) sc__law_small_sums.nd) apgs_nil))) (apss_cons (aps_set 2 sc__law_small_sums.nd (apx (apx (apv 1) (ap_call (ok__law_line_at T) (hr.mono (by decide)) T.d__law_line_at.g T.d__law_line_at.F.kp T.d__law_line_at.b pass0 (apa_cons (apv 1) (apa_cons (apv 5) apa_nil)))) api))
        (apss_one (aps_asg (vs := []) (ap_call (ok__law_sum T) (hr.mono (by decide)) T.d__law_sum.g T.d__law_sum.F.kp T.d__law_sum.b pass0 (apa_cons (apx (apv 3) (apv 2)) (apa_cons (apv 6) apa_nil))) (apg_s (apv 3) (apv 2))))))
        (apss_vw (apss_one (aps_ret (ape_tup (apa_cons (apv 3) (apa_cons (ap_len T.b_len (apv 4)) apa_nil)))))))), fun avs C q h => ?_⟩
    obtain ⟨d, f, rfl, ok, fo, fb, hs, h⟩ := h
    have m1 := ok.m1
    have m3 := ok.m3
    have hpos : 0 < f.length := List.length_pos_iff.mpr fo.ne
    refine i_seq ?_
    refine i_par ?_
    walk_at "rd"
    refine i_lcPC ((List.replicate d.marks (encQ 0)).map AV.d) (its := rngL 0 d.marks 1) (sb := fun _ => True) (C1 := C) (fun q hq => ?_) trivial (by rw [rng_len, List.length_map, List.length_replicate]) (by rw [rng_len]; omega) (fun j x y hj hy q hq => ?_) (fun sa hsa => ?_)
    · simp only [awR1]
      walk_at "rd"
      exact ⟨⟨by omega, by omega⟩, hq⟩
    · obtain ⟨y, hy2, rfl⟩ := map_get hy
      have e0 := List.eq_of_mem_replicate (List.mem_of_getElem? hy2)
      subst e0
      simp only [ixs, awipe]
      walk_at "rd"
      exact ⟨by decide, hq⟩
    rw [vec_zero]
    walk_at "rd"
    refine ⟨d, f, rfl, ok, fo, fb, hs, fun fd R => ?_⟩
    obtain ⟨cl, ecl⟩ : ∃ cl, cl = clo d f := ⟨_, rfl⟩
    rw [← ecl] at h R
    have hD := dpr_lt2 (cl := cl) ok fb
    have hR := R.s
    walk_at "rd"
    refine i_seq ?_
    refine i_for (fun q hq => hq) (fun j ρ' C' => ∃ y2 y5 y6, ρ' = [some (.d (encD d)), some (.d (encF f)), y2, some (.r sa), some (.d (.tuple (fd.map encFd))), y5, y6] ∧ C' = cup C sa (.l ((vec d.marks (fdR f (fd.take j))).map AV.d)))
      ⟨_, _, _, rfl, ?_⟩ (fun _ _ _ _ _ => trivial) ?_ ?_
    · rfl
    · rintro j x ρ' C' hx ⟨y2, y5, y6, rfl, rfl⟩
      obtain ⟨x, hx2, rfl⟩ := map_get hx
      obtain ⟨e, he, rfl⟩ := of_atD hx2
      obtain ⟨way, r⟩ := e
      have ho := R.fo _ (List.mem_of_getElem? he)
      have hlt : lineAt f way < f.length := ho.lt
      have hmk := fo.marks _ (List.mem_of_getElem? (getD_at (d := ln0) hlt))
      have hD0 := dpr_pos d cl f
      obtain ⟨r0, r1, r2⟩ := ho.qb.nn hD0
      have hj := (List.getElem?_eq_some_iff.mp he).1
      have hv := (fdR_qb (fd := fd.take j) (fun e h => R.fo e (List.mem_of_mem_take h)) (mkOf f way)).mono (show (fd.take j).length * dpr d cl f ≤ 1000 * dpr d cl f from Nat.mul_le_mul_right _ (by rw [List.length_take]; omega))
      obtain ⟨v0, v1, v2⟩ := hv.nn hD0
      have hbig : 1000 * dpr d cl f < 2 ^ 1000 := Nat.lt_of_lt_of_le (Nat.mul_lt_mul'' (show 1000 < 2 ^ 10 by decide) hD) (by decide +kernel)
      have hD1 : dpr d cl f < 2 ^ 1000 := Nat.lt_trans hD (by decide +kernel)
      unfold encFd
      walk_at "rd"
      walk_at "st"
      refine ⟨f, way, rfl, fo.kids, fo.ne, ho.way, ?_⟩
      unfold encF
      refine ix_t (atD_map (getD_at (d := ln0) hlt)) ?_
      walk_at "rd"
      walk_at "st"
      refine ix_c cup_same (at_map (vec_get (show mkOf f way < d.marks from hmk))) ?_
      refine ⟨_, r, rfl, v0, r0, Nat.lt_of_le_of_lt v1 hbig, Nat.lt_of_le_of_lt r1 hD1, Nat.lt_of_le_of_lt v2 hD1, Nat.lt_of_le_of_lt r2 hD1, ?_⟩
      walk_at "rd"
      refine ⟨sa, _, _, mkOf f way, rfl, rfl, cup_same, by rw [List.length_map]; unfold vec; rw [List.length_map, List.length_range]; exact ixN_nat hmk, _, _, _, rfl, ?_⟩
      rw [cup_cup, ← List.map_set, vec_put, take_snoc he]
      have e2 : (fun i => if i = mkOf f way then fdR f (fd.take j) (mkOf f way) + r else fdR f (fd.take j) i) = fdR f (fd.take j ++ [(way, r)]) := by
        funext i
        rw [fdR_snoc]
        by_cases e : i = mkOf f way
        · rw [if_pos e, e]
          show _ = _ + if mkOf f way = mkOf f way then r else 0
          rw [if_pos rfl]
        · rw [if_neg e]
          show _ = _ + if mkOf f way = i then r else 0
          rw [if_neg fun z => e z.symm]
          grind
      exact congrArg (fun v => cup C sa (Cell.l ((vec d.marks v).map AV.d))) e2
    · rintro ρ' C' ⟨y2, y5, y6, rfl, rfl⟩
      rw [List.length_map, List.length_map, List.take_length]
      refine i_vw (Vw.freeze 3 rfl cup_same) ?_
      rw [cdel_cup hsa]
      walk_at "st"
      have e : encDue d cl f (f.length - 1) = .tuple [.list (vec d.marks (fdR f fd)), .int ((fd.map encFd).length : Nat)] := by
        unfold encDue vec
        rw [List.length_map, R.c, show fdR f fd = rAt (pay d cl f) (f.length - 1) from funext R.r]
      rw [e] at h
      exact ⟨by decide, Ret.of h⟩
end
end AB

set_option Elab.async false
set_option linter.all false
set_option maxRecDepth 100000
set_option maxHeartbeats 4000000
/-! Layer A: defs that are called where no repr is under way; repr of data. -/
namespace AB
open PySem PySem.Spec PyProof.Rows L2
section
variable {P : Program} {w : World} {K : PySem.W.Frag} {mg : Str → Option Value} {base : Heap}
/-- a def's promise where no repr is under way; no error comes out -/
structure FnG (P : Program) (w : World) (K : PySem.W.Frag) (mg : Str → Option Value) (base : Heap) (k : Nat) (f : Addr) (fd : FuncData) (ps : List Str) (sp : Sp) : Prop where
  len : ∀ vs H Q E, sp vs H Q E → vs.length = ps.length
  run : ∀ (A : Around) (outer : List Env) (s : Shared) (H : Hp) (args : Args) (us : List Value) (vs : List V) (Q : VK) (E : XK), Room k A → A.guards = some [] → Env0 P w K mg base A outer s H → BindsTo s fd args (ps.zip us) → Vals vs us → sp vs H Q E →
    codeAny (model P w) A (.call (.ref f) args) (CR CX0 outer P w H s Q E) s
theorem gs_of {A : Around} {env : Env} (h : A.guards = some []) : (A.deeper env).guards = some [] := h
theorem fokG {x qual : Str} {st : Stmt} {f : Addr} {fd : FuncData} {N ps : List Str} {k : Nat} {asp : ASp} {dvs : List V} {kws : List (Str × V)} (F : FunD K x qual (defArgs st) (defBody st) (defScope st) dvs kws f fd) (S : FnScope N ps (defScope st)) (len : ∀ avs C q z, asp avs C q z → avs.length = ps.length)
    (hbody : ∀ (cdv : Value) (A : Around) (outer : List Env) (s : Shared) (H : Hp) (P' : Par), Room k (A.deeper (envOfC qual (defScope st) s.heap.objs.size f cdv)) → A.guards = some [] →
      ∃ as, APSs (cxOf CX0 P w K mg base N qual (defScope st) f cdv A outer s H P'.E).nox P' (defBody st) as ∧ ∀ avs C q, asp avs C q P'.X → as { nx := fun _ C' => Ret q (.d .none) C', rt := Ret q } (astart N avs) C) :
    FnG P w K mg base (k + 1) f fd ps (gSp K asp) := by
  have hlen : ∀ vs H Q E, gSp K asp vs H Q E → vs.length = ps.length := fun vs H Q E h => by
    obtain ⟨G, C, avs, q, z, R, rv, ha, _⟩ := h
    rw [rv.length]
    exact len _ _ _ _ ha
  refine ⟨hlen, fun A outer s H args us vs Q E hr hg e0 hb rv hsp => ?_⟩
  -- the one place of the call: its own promise, by the rule for all places, at a promise that tells this place
  obtain ⟨oc, od, dV, kV, doc, pm, an, cdv, ct, osl, rfl, lk, hcd, _, _⟩ := F.ex
  have hl := hlen _ _ _ _ hsp
  have kin : K.In s.heap := e0.mod.kin.keeps fun b o e => (e0.bs b o e).1
  have room : s.heap.NoLimit := e0.mod.nolimit.keeps fun b o e => (e0.bs b o e).1
  refine codeAny_call_function hr.depth (kin _ _ lk) rfl S.co S.gen rfl (PySem.W.codeRec_of kin hcd) (hb _ _ _ _ ?_)
  refine wpAny_newFunctionEnv_cells S.kind (fun ⟨n, v⟩ hy => ?_) fun env he s1 x => ?_
  · rcases S.par n (List.of_mem_zip hy).1 with q | q
    · exact .inl q
    · exact .inr ⟨q, PySem.W.cellsFrom_some _ _ _ (.inl q)⟩
  · subst he
    refine ⟨room.keeps x.toInCall.keep, codeAny_func ?_⟩
    obtain ⟨G, C, avs, q, z, R, rvs, ha, fin, lkk⟩ := hsp
    obtain ⟨as, hs, hr2⟩ := hbody cdv A outer s H ⟨E, z⟩ (hr.deeper _) hg
    have hs2 : PSs (cxOf CX0 P w K mg base N qual (defScope st) f cdv A outer s H E).nox (defBody st) _ := hs
    have I := inv_start (CX := CX0) (E := E) (cd := cdv) (f := f) (qual := qual) S hr.hd e0 hl rv x
    refine wpAny_mono (hs2.nox.run [] s1 (start N vs) H _ I (gs_start R rvs lkk fin (hr2 avs C q ha))) (fun fl s' h => ?_) fun e s' h => h
    cases fl with
    | ret u =>
      obtain ⟨v, σ', H', J, rv2, q2⟩ := h
      exact ⟨v, H', J.os, J.bare, J.base, J.hok, rv2, q2⟩
    | next =>
      obtain ⟨σ', H', J, q2⟩ := h
      exact ⟨V.non, H', J.os, J.bare, J.base, J.hok, rfl, q2⟩
    | brk =>
      obtain ⟨_, _, _, q2⟩ := h
      exact q2.elim
    | cont =>
      obtain ⟨_, _, _, q2⟩ := h
      exact q2.elim
end
section
variable {X : Cx} {P : Par} {k : Nat} {f : Addr} {fd : FuncData} {ps : List Str} {asp : ASp} {x : Str} {p pos : Pos} {e : Expr} {es : List Expr} {ar : AA}
theorem run_g {pins : List (Addr × Obj)} {σ : L2.St} {H : Hp} {s : Shared} {Q : VK} {us : List Value} {vs : List V} {sp : Sp} (F : FnG X.prog X.w X.K X.mg X.base k f fd ps sp) (hr : Room k X.A) (hg : X.A.guards = some []) (hb : Binds X.K fd ps [])
    (I : Inv X pins σ H s) (r : Vals vs us) (h : sp vs H Q E0) : wpAny (model X.prog X.w) X.A (call (.ref f) us) (EP X pins σ Q) X.xe s := by
  have hl : us.length = ps.length := by rw [← r.length]; exact F.len _ _ _ _ h
  have b := hb s us I.kIn (by rw [List.append_nil]; exact hl)
  rw [List.append_nil] at b
  refine wpAny_call (codeAny_mono (F.run X.A X.stack s H ⟨us, []⟩ us vs Q E0 hr hg I.env0 b r h) fun r s' hq => ?_)
  cases r with
  | error e => exact (show False from hq).elim
  | ok fl =>
    cases fl with
    | ret u => exact I.after hq
    | next => exact False.elim hq
    | brk => exact False.elim hq
    | cont => exact False.elim hq
theorem ap_callG (F : FnG X.prog X.w X.K X.mg X.base k f fd ps (gSp X.K asp)) (hr : Room k X.A) (hgs : X.A.guards = some []) (hm : X.mg x = some (.ref f)) (hk : PySem.W.keepIn X.K (.ref f) = true) (hb : Binds X.K fd ps [])
    (ha : APA X P (e :: es) ar) (hg : Gl X x := by rfl) (hdb : (x == ("__debug__" : Str)) = false := by decide) (he : starEach (e :: es) X.env = (false, eval e X.env) :: starEach es X.env := by rfl) (hpl : (backTo pos (starEach es X.env)).any (·.1) = false := by rfl) :
    APE X P (.Call (.Name x p) (e :: es) [] pos) (aCall asp (fun _ _ => False) ar) := by
  refine ⟨fun pins s σ H Q I h => ?_⟩
  obtain ⟨G, C, ρ, q, hA, hw, fin⟩ := h
  refine wpAny_Call_Name_kw (ld_glob I hg hm ?_ hdb)
  have hh : gA X.K P ar σ H fun vs H1 => gSp X.K asp vs H1 Q E0 := ⟨G, C, ρ, _, hA, hw, fun vs avs G1 C1 H1 s1 r1 h1 => ?_⟩
  · refine PySem.W.callWith_K (h₀ := X.base) I.ok.mod.kin hk (thn (ha.run pos pins s σ H _ I hh) fun us s1 hz => ?_) he hpl
    obtain ⟨vs, H1, I1, r, q1⟩ := hz
    exact ⟨I1.kIn, run_g F hr hgs hb I1 r q1⟩
  exact ⟨G1, C1, avs, q, fun _ _ => False, s1.rel, r1, h1, fun v av G2 C2 H2 s2 r2 h2 => fin v av G2 C2 H2 (s1.trans s2) r2 h2, fun _ _ _ _ _ _ _ _ _ _ _ z => z.elim⟩
/-- a def without parameters -/
theorem ap_callG0 (F : FnG X.prog X.w X.K X.mg X.base k f fd ps (gSp X.K asp)) (hr : Room k X.A) (hgs : X.A.guards = some []) (hm : X.mg x = some (.ref f)) (hk : PySem.W.keepIn X.K (.ref f) = true) (hb : Binds X.K fd ps [])
    (hg : Gl X x := by rfl) (hdb : (x == ("__debug__" : Str)) = false := by decide) : APE X P (.Call (.Name x p) [] [] pos) (aCall asp (fun _ _ => False) aNil) := by
  refine ⟨fun pins s σ H Q I h => ?_⟩
  obtain ⟨G, C, ρ, q, hA, hw, fin⟩ := h
  refine wpAny_Call_Name_kw (ld_glob I hg hm ?_ hdb)
  exact PySem.W.callWith_K0 I.kIn hk (run_g (us := []) (vs := []) F hr hgs hb I .nil ⟨G, C, [], q, fun _ _ => False, hA.rel, .nil, hw, fin, fun _ _ _ _ _ _ _ _ _ _ _ z => z.elim⟩)
/-! ### repr -/
structure Shw (d : PyData) : Prop where
  sh : d.showable = true
  nd : d.hasDict = false
  dp : d.depth ≤ 8
  sz : d.shown.length ≤ sizeLine
  rf : (∃ xs, d = .tuple xs) ∨ (∃ xs, d = .list xs) ∨ ∃ i, d = .int i
def acRepr : ACR := fun avs C q => ∃ d, avs = [.d d] ∧ Shw d ∧ q (.d (.str d.shown)) C
def rReprD (K : PySem.W.Frag) : List V → Hp → VK → Prop := fun vs H Q => (∃ i, vs = [V.int i] ∧ i.natAbs.log2 < 1920 ∧ Q (.str (toString i)) H) ∨ ∃ a d, vs = [V.ref a] ∧ Dp K H (.ref a) d ∧ Shw d ∧ Q (.str d.shown) H
theorem cr_repr (hgs : X.A.guards = some []) (hu : X.A.units + 64 < cLine) : CallR X (.builtin "repr") (rReprD X.K) := by
  intro pins s σ H vs us Q I r h
  rcases h with ⟨i, e, hi, q⟩ | ⟨a, d, rfl, hd, S, q⟩
  · exact SkE.call_repr_int pins s σ H vs us Q I r ⟨i, e, hi, q⟩
  obtain ⟨u, rfl, ru⟩ := vals1 r
  obtain rfl : u = Value.ref a := ru
  obtain ⟨as, rd⟩ := Dp.reads I d (.ref a) (.ref a) hd rfl
  have hdp := S.dp
  refine repr_of_reads' (h₀ := s.heap) rd S.sh (fun e => by rw [S.nd] at e; cases e) hgs (by omega) (fun b o e => e) (fun h' u tk hk => ⟨.str d.shown, H, I.kept hk, ⟨_, rfl⟩, q⟩) S.sz
theorem snd_repr {K : PySem.W.Frag} : SndC K (rReprD K) acRepr := fun G C H vs avs q Q R rv h fin => by
  obtain ⟨d, rfl, S, h⟩ := h
  obtain ⟨v, rfl, r1⟩ : ∃ v, vs = [v] ∧ Rv K G v (.d d) := by
    cases rv with
    | cons r1 r2 =>
      cases r2
      exact ⟨_, rfl, r1⟩
  rcases S.rf with ⟨xs, rfl⟩ | ⟨xs, rfl⟩ | ⟨i, rfl⟩
  · obtain ⟨a, rfl⟩ : ∃ a, v = V.ref a := by
      cases (show Dp K G v (.tuple xs) from r1)
      exact ⟨_, rfl⟩
    exact .inr ⟨a, _, rfl, dp_mono R.ex _ _ r1, S, fin _ _ G C H (Stp.refl R) rv_str h⟩
  · obtain ⟨a, rfl⟩ : ∃ a, v = V.ref a := by
      cases (show Dp K G v (.list xs) from r1)
      exact ⟨_, rfl⟩
    exact .inr ⟨a, _, rfl, dp_mono R.ex _ _ r1, S, fin _ _ G C H (Stp.refl R) rv_str h⟩
  · cases (show Dp K G v (.int i) from r1)
    have hs := S.sh
    simp only [PyData.showable, decide_eq_true_eq] at hs
    exact .inl ⟨i, rfl, hs, fin _ _ G C H (Stp.refl R) rv_str h⟩
variable {ae : AE}
theorem ap_repr (hgs : X.A.guards = some []) (hu : X.A.units + 64 < cLine) (hm : X.mg "repr" = none) (ha : APE X P e ae) (hg : Gl X "repr" := by rfl) (he : starEach [e] X.env = (false, eval e X.env) :: starEach [] X.env := by rfl) (hpl : (backTo pos (starEach [] X.env)).any (·.1) = false := by rfl) :
    APE X P (.Call (.Name "repr" p) [e] [] pos) (aCB acRepr (aCons ae aNil)) := ap_cb (cr_repr hgs hu) snd_repr hm (by decide +kernel) (apa_cons ha apa_nil he) hg (by decide) (by decide) he hpl
end
theorem shw_int {i : Int} (h : i.natAbs.log2 < 1920) : (PyData.int i).shown.length ≤ 1922 := Nat.le_trans (PyProof.Rows.int_text_len_1921 h) (by decide)
theorem shwQ {r : Rat} (h1 : r.num.natAbs.log2 < 1920) (h2 : r.den.log2 < 1920) : (PyData.tuple [.int r.num, .int (r.den : Nat)]).shown.length ≤ 3855 := by
  have a := shw_int h1
  have b := shw_int (i := ((r.den : Nat) : Int)) (by simpa using h2)
  have z := tupleText_len_le [(PyData.int r.num).shown, (PyData.int ((r.den : Nat) : Int)).shown]
  simp only [List.map_cons, List.map_nil, List.sum_cons, List.sum_nil, List.length_cons, List.length_nil] at z
  show (tupleText [(PyData.int r.num).shown, (PyData.int ((r.den : Nat) : Int)).shown]).length ≤ _
  omega
end AB

set_option Elab.async false
set_option linter.all false
set_option maxRecDepth 100000
set_option maxHeartbeats 4000000
/-! The walks: the law's like, told. -/
namespace AB
open PySem PySem.Spec PyProof.Rows L2
theorem acRepr_d {d : PyData} {C : Cs} {q : AV → Cs → Prop} (S : Shw d) (h : q (.d (.str d.shown)) C) : acRepr [.d d] C q := ⟨d, rfl, S, h⟩
section
variable {P : Program} {w : World} {K : PySem.W.Frag} {mg : Str → Option Value} {base : Heap}
local macro_rules | `(tactic| walk_at "rd") => `(tactic| try simp only [astart, List.map_cons, List.map_nil, List.length_cons, List.length_nil, List.replicate_succ, List.replicate_zero, List.cons_append, List.nil_append, aVar, aC, aOp, arI, arI0, arB, onI2, onB, aTest, aChain, aAnd, aOr, aNot, aAndV, aOrV, aNotV, aIf, aNil, aCons, aIsi, aNext, aCB, acLen, aCall, g_n, g_tup2, g_tup3, g_tup4, g_tup13, g_tup2s, aNeg, aTup, aLst, aSl, arSlC, arCatC, aLstC, aApp, aDGet2, aPop, arCatT, aDGet, aDPut, agSub, allD, arIx_t0, arIx_t1, arIx_t2, arIx_t3, encD_0, encD_1, encD_2, encD_3, encC_0, encC_1, encQ_0, encQ_1, arEq_i, arEq_s, ac2I_i, acInt_i, List.getElem?_cons_zero, List.getElem?_cons_succ, List.set_cons_zero, List.set_cons_succ, if_true, if_false, Bool.false_eq_true, Bool.not_true, Bool.not_false, Bool.false_xor, isInt_int, withinD_int, tupD_tup, encL, encI, sp_is_whole, sp_is_within, sp_is_truth, sp_is_tuple_of, sp_is_word_of])
local macro_rules | `(tactic| walk_at "st") => `(tactic| ((try dsimp only); (try refine i_seq ?_); (first | refine i_set ?_ | refine i_if ?_ | refine i_ret ?_ | refine i_asg ?_ | refine i_drop ?_ | refine i_par ?_ | refine i_par3 ?_ | refine i_next ?_); (walk_at "rd")))
def sp__law_like : ASp := fun avs C q _ => ∃ x, avs = [.d x, .d x] ∧ Shw x ∧ q (.d (.bool true)) C
theorem ok__law_like (T : Txt P K mg) : FnG P w K mg base 1 T.d__law_like.f T.d__law_like.fd ["_law_got", "_law_due"] (gSp K sp__law_like) := by
  refine fokG T.d__law_like.F sc__law_like (fun avs C q z h => ?_) (fun cdv A outer s H P' hr hg => ?_)
  · obtain ⟨x, rfl, _⟩ := h
    rfl
  · refine ⟨_, (apss_one (aps_ret (ap_eq (ap_repr hg (huE hr) T.b_repr (apv 0)) (ap_repr hg (huE hr) T.b_repr (apv 1))))), fun avs C q h => ?_⟩
    obtain ⟨x, rfl, S, h⟩ := h
    walk_at "st"
    refine acRepr_d S (acRepr_d S ?_)
    walk_at "rd"
    exact Ret.of (by simpa using h)
/-- a family that the program takes -/
structure Good (d : Deal) (f : List Ln) : Prop where
  ok : DealOk d
  fo : FamOk f d.marks
  fb : FamB f
  tm : tooMany f = false
theorem log_lt {n : Nat} (h : n < 2 ^ 1000) : n.log2 < 1920 := by
  by_cases e : n = 0
  · subst e
    decide
  · exact Nat.lt_trans ((Nat.log2_lt e).mpr h) (by decide)
theorem shw_pay {d : Deal} {f : List Ln} (g : Good d f) : Shw (outPay d f) := by
  have hpos : 0 < f.length := List.length_pos_iff.mpr g.fo.ne
  have hq : ∀ m, 0 ≤ rAt (pay d (clo d f) f) (f.length - 1) m ∧ _ := fun m => (pay_qf d (clo d f) g.fo.kids m (show f.length - 1 < f.length by omega)).nn (dpr_pos d (clo d f) f)
  have hD := dpr_lt2 (cl := clo d f) g.ok g.fb
  have hD1 : dpr d (clo d f) f < 2 ^ 1000 := Nat.lt_trans hD (by decide +kernel)
  have hl1 : ∀ m, (rAt (pay d (clo d f) f) (f.length - 1) m).num.natAbs.log2 < 1920 := fun m => by
    obtain ⟨h1, h2, h3⟩ := hq m
    have e : (rAt (pay d (clo d f) f) (f.length - 1) m).num.natAbs = (rAt (pay d (clo d f) f) (f.length - 1) m).num.toNat := by
      have := rat_pos h1
      omega
    rw [e]
    exact log_lt (Nat.lt_of_le_of_lt h2 hD1)
  have hl2 : ∀ m, (rAt (pay d (clo d f) f) (f.length - 1) m).den.log2 < 1920 := fun m => log_lt (Nat.lt_of_le_of_lt (hq m).2.2 hD1)
  have m3 := g.ok.m3
  have sa : ∀ l : List Nat, PyData.showableAll (l.map fun i => encQ (rAt (pay d (clo d f) f) (f.length - 1) i)) = true ∧ PyData.hasDictAll (l.map fun i => encQ (rAt (pay d (clo d f) f) (f.length - 1) i)) = false ∧
      PyData.depthAll (l.map fun i => encQ (rAt (pay d (clo d f) f) (f.length - 1) i)) ≤ 1 ∧ ((PyData.shownAll (l.map fun i => encQ (rAt (pay d (clo d f) f) (f.length - 1) i))).map (·.length)).sum ≤ 3855 * l.length ∧
      (PyData.shownAll (l.map fun i => encQ (rAt (pay d (clo d f) f) (f.length - 1) i))).length = l.length := by
    intro l
    induction l with
    | nil => exact ⟨rfl, rfl, Nat.zero_le _, Nat.le_refl _, rfl⟩
    | cons i r ih =>
      obtain ⟨i1, i2, i3, i4, i5⟩ := ih
      have z := shwQ (hl1 i) (hl2 i)
      refine ⟨?_, ?_, ?_, ?_, ?_⟩
      · simp [PyData.showableAll, PyData.showable, encQ, i1, hl1 i, hl2 i]
        exact i1
      · simp [PyData.hasDictAll, PyData.hasDict, encQ]
        exact i2
      · simp [PyData.depthAll, PyData.depth, encQ]
        exact Nat.max_le.mpr ⟨Nat.le_refl _, i3⟩
      · rw [List.map_cons, List.length_cons]
        simp only [PyData.shownAll, List.map_cons, List.sum_cons]
        have y : (encQ (rAt (pay d (clo d f) f) (f.length - 1) i)).shown.length ≤ 3855 := z
        omega
      · rw [List.map_cons]
        simp only [PyData.shownAll, List.length_cons, i5]
  obtain ⟨i1, i2, i3, i4, i5⟩ := sa (List.range d.marks)
  refine ⟨i1, i2, ?_, ?_, .inl ⟨_, rfl⟩⟩
  · unfold outPay encPay
    simp only [PyData.depth]
    omega
  · have z := tupleText_len_le (PyData.shownAll ((List.range d.marks).map fun i => encQ (rAt (pay d (clo d f) f) (f.length - 1) i)))
    rw [i5, List.length_range] at z
    rw [List.length_range] at i4
    have y : (outPay d f).shown.length ≤ 20000 := by
      show (tupleText (PyData.shownAll ((List.range d.marks).map fun i => encQ (rAt (pay d (clo d f) f) (f.length - 1) i)))).length ≤ _
      omega
    exact Nat.le_trans y (by decide)
theorem shw_cnt {d : Deal} {f : List Ln} (g : Good d f) : Shw (outCnt d f) := by
  have hpos : 0 < f.length := List.length_pos_iff.mpr g.fo.ne
  have h := log_lt (cnt_bd d (clo d f) g.fo.kids g.fb (show f.length - 1 < f.length by omega))
  have h2 : ((((cnt d (clo d f) f).getD (f.length - 1) 0 : Nat) : Int)).natAbs.log2 < 1920 := by
    rw [Int.natAbs_natCast]
    exact h
  refine ⟨?_, rfl, Nat.zero_le _, Nat.le_trans (shw_int h2) (by decide), .inr (.inr ⟨_, rfl⟩)⟩
  unfold outCnt
  simp only [PyData.showable, decide_eq_true_eq]
  exact h2
def sp__law_told : ASp := fun avs C q _ => ∃ d f, avs = [.d (encD d), .d (encF f), .d (encDue d (clo d f) f (f.length - 1))] ∧ Good d f ∧ q (.d (.bool true)) C
theorem ok__law_told (T : Txt P K mg) : FnG P w K mg base 7 T.d__law_told.f T.d__law_told.fd ["_law_deal_here", "_law_family_here", "_law_due"] (gSp K sp__law_told) := by
  refine fokG T.d__law_told.F sc__law_told (fun avs C q z h => ?_) (fun cdv A outer s H P' hr hg => ?_)
  · obtain ⟨d, f, rfl, _⟩ := h
    rfl
  · refine ⟨_, (apss_one (aps_ret (ape_and (ap_callG (ok__law_like T) (hr.mono (by decide)) hg T.d__law_like.g T.d__law_like.F.kp T.d__law_like.b (apa_cons (ap_call (ok_paid T) (hr.mono (by decide)) T.d_paid.g T.d_paid.F.kp T.d_paid.b passL (apa_cons (apv 0) (apa_cons (apv 1) apa_nil))) (apa_cons (ap_tuple T.b_tuple (apx (apv 2) api)) apa_nil))) (ape_one (ap_callG (ok__law_like T) (hr.mono (by decide)) hg T.d__law_like.g T.d__law_like.F.kp T.d__law_like.b (apa_cons (ap_call (ok_receivers T) (hr.mono (by decide)) T.d_receivers.g T.d_receivers.F.kp T.d_receivers.b passL (apa_cons (apv 0) (apa_cons (apv 1) apa_nil))) (apa_cons (apx (apv 2) api) apa_nil))))))), fun avs C q h => ?_⟩
    obtain ⟨d, f, rfl, g, h⟩ := h
    walk_at "st"
    refine .inl ⟨d, f, rfl, g.ok, g.fo, g.tm, g.fb, ?_⟩
    dsimp only
    rw [encDue_0]
    refine ⟨_, _, rfl, rfl, _, rfl, shw_pay g, ?_⟩
    walk_at "rd"
    refine .inl ⟨d, f, rfl, g.ok, g.fo, g.tm, g.fb, ?_⟩
    dsimp only
    rw [encDue_1]
    exact ⟨_, rfl, shw_cnt g, Ret.of h⟩
end
end AB

set_option Elab.async false
set_option linter.all false
set_option maxRecDepth 100000
set_option maxHeartbeats 4000000
/-! The families of the law are good; first lines of a family. -/
namespace AB
open PySem PySem.Spec PyProof.Rows L2
theorem many_le {c : Nat} {f : List Ln} (fk : kidsOk f) (fc : ∀ l ∈ f, l.kids.length ≤ c) : ∀ i, i < f.length → (rows gmin f).getD i 0 ≤ (c + 1) ^ i := by
  intro i
  induction i using Nat.strongRecOn with
  | ind i ih =>
    intro hi
    have hl : f[i]? = some f[i] := List.getElem?_eq_getElem hi
    have e : (rows gmin f).getD i 0 = gmin (rows gmin (f.take i)) f[i] := by
      rw [List.getD_eq_getElem?_getD, rows_get hl]
      rfl
    rw [e]
    refine Nat.le_trans (show _ ≤ 1 + gsum (rows gmin (f.take i)) f[i].kids from Nat.min_le_left _ _) ?_
    have eg : gsum (rows gmin (f.take i)) f[i].kids = (f[i].kids.map fun k => (rows gmin f).getD k 0).sum := by
      unfold gsum
      refine congrArg List.sum (List.map_congr_left fun k hk => ?_)
      rw [List.getD_eq_getElem?_getD, rows_prev (fk i _ hl k hk), ← List.getD_eq_getElem?_getD]
    rw [eg]
    cases i with
    | zero =>
      have e0 : f[0].kids = [] := by
        cases e0 : f[0].kids with
        | nil => rfl
        | cons a r =>
          have := fk 0 _ hl a (by rw [e0]; exact List.mem_cons_self)
          omega
      rw [e0]
      exact Nat.le_refl _
    | succ j =>
      have z : (f[j + 1].kids.map fun k => (rows gmin f).getD k 0).sum ≤ (f[j + 1].kids.map fun _ => 1 * (c + 1) ^ j).sum := sum_le fun k hk => by
        have hkj := fk _ _ hl k hk
        rw [Nat.one_mul]
        exact Nat.le_trans (ih k hkj (by omega)) (Nat.pow_le_pow_right (by omega) (by omega))
      rw [sum_mulr] at z
      have y : (f[j + 1].kids.map fun _ => 1).sum = f[j + 1].kids.length := by
        clear z eg
        induction f[j + 1].kids with
        | nil => rfl
        | cons a r ih2 =>
          rw [List.map_cons, List.sum_cons, ih2, List.length_cons]
          omega
      rw [y] at z
      have p0 : 0 < (c + 1) ^ j := Nat.pow_pos (by omega)
      have z2 : f[j + 1].kids.length * (c + 1) ^ j ≤ c * (c + 1) ^ j := Nat.mul_le_mul_right _ (fc _ (List.getElem_mem hi))
      rw [Nat.pow_succ, Nat.mul_add, Nat.mul_one, Nat.mul_comm ((c + 1) ^ j) c]
      omega
theorem tooMany_no {c : Nat} {f : List Ln} (fk : kidsOk f) (fc : ∀ l ∈ f, l.kids.length ≤ c) (hne : f ≠ []) (h : (c + 1) ^ (f.length - 1) ≤ 10 ^ 60) : tooMany f = false := by
  have hp : 0 < f.length := List.length_pos_iff.mpr hne
  have z := many_le fk fc (f.length - 1) (by omega)
  unfold tooMany
  have e : (rows gmin f).getLast? = some ((rows gmin f).getD (f.length - 1) 0) := by
    have y := getLast_at (d := 0) (xs := rows gmin f) (by rw [rows_len]; exact hp)
    rwa [rows_len] at y
  rw [e]
  exact decide_eq_false (by omega)
theorem pow_sum {n : Nat} : ∀ {l : List Nat}, l.Pairwise (· > ·) → (∀ x ∈ l, x < n) → (l.map fun k => 2 ^ k).sum + 1 ≤ 2 ^ n := by
  intro l
  induction l generalizing n with
  | nil =>
    intro _ _
    exact Nat.pow_pos (by decide)
  | cons a r ih =>
    intro hp h
    have z := List.pairwise_cons.mp hp
    have y := ih (n := a) z.2 fun x hx => z.1 x hx
    have ha := h a List.mem_cons_self
    have w : 2 ^ (a + 1) ≤ 2 ^ n := Nat.pow_le_pow_right (by decide) ha
    rw [Nat.pow_succ] at w
    rw [List.map_cons, List.sum_cons]
    omega
theorem planted_sz {f : List Ln} {m : Nat} (p : Planted f m) : ∀ i, i < f.length → (szs f).getD i 0 ≤ 2 ^ i := by
  intro i
  induction i using Nat.strongRecOn with
  | ind i ih =>
    intro hi
    have hl : f[i]? = some f[i] := List.getElem?_eq_getElem hi
    have hk := p.kids i _ hl
    rw [sz_at hl hk]
    have z : (f[i].kids.map fun k => (szs f).getD k 0).sum ≤ (f[i].kids.map fun k => 2 ^ k).sum := sum_le fun k h => ih k (hk k h) (by have := hk k h; omega)
    have y := pow_sum (p.dec _ (List.getElem_mem hi)) hk
    omega
theorem planted_few {f : List Ln} {m : Nat} (p : Planted f m) : ∀ l ∈ f, l.kids.length ≤ 9 := by
  intro l hl
  obtain ⟨i, hi⟩ := List.getElem?_of_mem hl
  have h1 := (List.getElem?_eq_some_iff.mp hi).1
  have := p.le
  have z := dec_len (p.dec l hl) (p.kids i l hi)
  omega
theorem planted_good {d : Deal} {f : List Ln} (ok : DealOk d) (p : Planted f d.marks) : Good d f ∧ (szs f).getD (f.length - 1) 0 ≤ 1000 := by
  have hp : 0 < f.length := List.length_pos_iff.mpr p.ne
  have hle := p.le
  have few := planted_few p
  refine ⟨⟨ok, ⟨p.kids, p.marks, fun l h => Nat.le_trans (few l h) (by decide), p.ne, by omega⟩, ⟨by omega, fun l h => Nat.le_trans (few l h) (by decide)⟩, tooMany_no p.kids few p.ne ?_⟩, ?_⟩
  · exact Nat.le_trans (Nat.pow_le_pow_right (by decide) (show f.length - 1 ≤ 8 by omega)) (by decide +kernel)
  · exact Nat.le_trans (planted_sz p (f.length - 1) (by omega)) (Nat.le_trans (Nat.pow_le_pow_right (by decide) (show f.length - 1 ≤ 8 by omega)) (by decide))
theorem shared_good {d : Deal} {f : List Ln} {k : Nat} (ok : DealOk d) (p : ShOk f d.marks k) (h2 : 2 ≤ k) (h12 : k ≤ 12) : Good d f := by
  have hl := p.len
  have hne : f ≠ [] := fun e => by
    rw [e] at hl
    rw [List.length_nil] at hl
    omega
  exact ⟨ok, ⟨p.kids, p.marks, fun l h => Nat.le_trans (p.few l h) (by decide), hne, by omega⟩, ⟨by omega, p.few⟩, tooMany_no p.kids p.few hne (Nat.le_trans (Nat.pow_le_pow_right (by decide) (show f.length - 1 ≤ 11 by omega)) (by decide +kernel))⟩
/-! ### the first lines -/
theorem take_get {f : List Ln} {n i : Nat} {l : Ln} (h : (f.take n)[i]? = some l) : i < n ∧ f[i]? = some l := by
  rw [List.getElem?_take] at h
  split at h
  · rename_i e
    exact ⟨e, h⟩
  · cases h
theorem good_take {d : Deal} {f : List Ln} (g : Good d f) {n : Nat} (hn : n < f.length) (h12 : f.length ≤ 12) : Good d (f.take (n + 1)) := by
  have hl : (f.take (n + 1)).length = n + 1 := by
    rw [List.length_take]
    omega
  have hne : f.take (n + 1) ≠ [] := fun e => by
    rw [e] at hl
    rw [List.length_nil] at hl
    omega
  have fk : kidsOk (f.take (n + 1)) := fun i l h k hk => g.fo.kids i l (take_get h).2 k hk
  have few : ∀ l ∈ f.take (n + 1), l.kids.length ≤ 57 := fun l h => g.fb.few l (List.mem_of_mem_take h)
  exact ⟨g.ok, ⟨fk, fun l h => g.fo.marks l (List.mem_of_mem_take h), fun l h => g.fo.few l (List.mem_of_mem_take h), hne, by omega⟩, ⟨by omega, few⟩,
    tooMany_no fk few hne (Nat.le_trans (Nat.pow_le_pow_right (by decide) (show (f.take (n + 1)).length - 1 ≤ 11 by omega)) (by decide +kernel))⟩
theorem clo_pre (d : Deal) (f : List Ln) {n k : Nat} (hk : k < n) (hn : n ≤ f.length) : (clo d (f.take n)).getD k (0, .lost) = (clo d f).getD k (0, .lost) := by
  unfold clo
  rw [List.getD_eq_getElem?_getD, rows_prev hk, ← List.getD_eq_getElem?_getD]
section
variable {d : Deal} {f : List Ln} {n : Nat}
theorem wt_pre {k : Nat} (hk : k < n) (hn : n ≤ f.length) : wt d (clo d (f.take n)) k = wt d (clo d f) k := by
  unfold wt rk
  rw [clo_pre d f hk hn]
theorem pay_pre (fk : kidsOk f) (hn : n ≤ f.length) : ∀ i, i < n → rAt (pay d (clo d (f.take n)) (f.take n)) i = rAt (pay d (clo d f) f) i := by
  intro i
  induction i using Nat.strongRecOn with
  | ind i ih =>
    intro hi
    have hl : f[i]? = some (f[i]'(by omega)) := List.getElem?_eq_getElem (by omega)
    have hl2 : (f.take n)[i]? = some (f[i]'(by omega)) := by
      rw [List.getElem?_take, if_pos hi]
      exact hl
    have hk := fk i _ hl
    rw [pay_at hl hk, pay_at hl2 hk]
    have et : tk (clo d (f.take n)) i = tk (clo d f) i := by
      unfold tk
      rw [clo_pre d f hi hn]
    rw [et]
    cases tk (clo d f) i with
    | self => rfl
    | lost => rfl
    | lines =>
      funext m
      show mix _ _ _ _ m = mix _ _ _ _ m
      unfold mix
      have ew : whole d (clo d (f.take n)) (f[i]'(by omega)).kids = whole d (clo d f) (f[i]'(by omega)).kids := by
        unfold whole
        refine congrArg List.sum (List.map_congr_left fun k h => ?_)
        exact wt_pre (by have := hk k h; omega) hn
      rw [ew]
      refine rsum_congr fun k h => ?_
      have hki := hk k h
      rw [wt_pre (by omega) hn, ih k hki (by omega)]
theorem cnt_pre (fk : kidsOk f) (hn : n ≤ f.length) : ∀ i, i < n → (cnt d (clo d (f.take n)) (f.take n)).getD i 0 = (cnt d (clo d f) f).getD i 0 := by
  intro i
  induction i using Nat.strongRecOn with
  | ind i ih =>
    intro hi
    have hl : f[i]? = some (f[i]'(by omega)) := List.getElem?_eq_getElem (by omega)
    have hl2 : (f.take n)[i]? = some (f[i]'(by omega)) := by
      rw [List.getElem?_take, if_pos hi]
      exact hl
    have hk := fk i _ hl
    rw [cnt_at hl hk, cnt_at hl2 hk]
    have et : tk (clo d (f.take n)) i = tk (clo d f) i := by
      unfold tk
      rw [clo_pre d f hi hn]
    rw [et]
    cases tk (clo d f) i with
    | self => rfl
    | lost => rfl
    | lines =>
      show nsum _ _ _ _ = nsum _ _ _ _
      unfold nsum
      refine congrArg List.sum (List.map_congr_left fun k h => ?_)
      have hki := hk k h
      rw [wt_pre (by omega) hn, ih k hki (by omega)]
theorem due_pre (fk : kidsOk f) (hn : n < f.length) : encDue d (clo d (f.take (n + 1))) (f.take (n + 1)) ((f.take (n + 1)).length - 1) = encDue d (clo d f) f n := by
  have hl : (f.take (n + 1)).length - 1 = n := by
    rw [List.length_take]
    omega
  rw [hl]
  unfold encDue
  rw [pay_pre fk (by omega) n (Nat.lt_succ_self n), cnt_pre fk (by omega) n (Nat.lt_succ_self n)]
theorem outPay_pre (fk : kidsOk f) (hn : n < f.length) : outPay d (f.take (n + 1)) = .tuple (vec d.marks (rAt (pay d (clo d f) f) n)) := by
  have hl : (f.take (n + 1)).length - 1 = n := by
    rw [List.length_take]
    omega
  unfold outPay encPay
  rw [hl, pay_pre fk (by omega) n (Nat.lt_succ_self n)]
  rfl
end
end AB

set_option Elab.async false
set_option linter.all false
set_option maxRecDepth 100000
set_option maxHeartbeats 4000000
/-! The great family of the law. -/
namespace AB
open PySem PySem.Spec PyProof.Rows L2
def dPlain : Deal := ⟨1, [1, 99], [[0, 0]], [([(0, .lines)], [(1, .self)])]⟩
def fGreat : List Ln := ⟨0, true, []⟩ :: (List.range 37).map fun n => ⟨0, false, List.replicate 40 n⟩
theorem plain_ok : DealOk dPlain := by
  refine { m1 := by decide, m3 := by decide, w1 := by decide, w8 := by decide, w99 := by decide, r1 := by decide, r8 := by decide, rl := by decide, rs := by decide, cl := by decide, c1 := by decide, c2 := by decide, k1 := by decide, k2 := by decide }
theorem great_len : fGreat.length = 38 := by decide +kernel
theorem great_0 : fGreat[0]? = some ⟨0, true, []⟩ := rfl
theorem great_at {i : Nat} (h : i < 37) : fGreat[i + 1]? = some ⟨0, false, List.replicate 40 i⟩ := by
  unfold fGreat
  rw [List.getElem?_cons_succ, List.getElem?_map, List.getElem?_range h]
  rfl
theorem great_cl : clo dPlain fGreat = (1, Tk.self) :: List.replicate 37 (0, Tk.lines) := by decide +kernel
theorem great_all {i : Nat} {l : Ln} (h : fGreat[i]? = some l) : l.mark = 0 ∧ l.kids.length ≤ 40 ∧ ∀ k ∈ l.kids, k < i := by
  cases i with
  | zero =>
    rw [great_0] at h
    cases h
    exact ⟨rfl, by decide, fun k hk => by cases hk⟩
  | succ i =>
    have hi := (List.getElem?_eq_some_iff.mp h).1
    rw [great_len] at hi
    rw [great_at (by omega)] at h
    cases h
    refine ⟨rfl, by simp, fun k hk => ?_⟩
    rw [List.eq_of_mem_replicate hk]
    omega
theorem great_good : Good dPlain fGreat := by
  have all : ∀ l ∈ fGreat, l.mark = 0 ∧ l.kids.length ≤ 40 := fun l hl => by
    obtain ⟨i, hi⟩ := List.getElem?_of_mem hl
    exact ⟨(great_all hi).1, (great_all hi).2.1⟩
  have fk : kidsOk fGreat := fun i l h => (great_all h).2.2
  have hne : fGreat ≠ [] := fun e => by cases e
  refine ⟨plain_ok, ⟨fk, fun l h => by rw [(all l h).1]; decide, fun l h => Nat.le_trans (all l h).2 (by decide), hne, by rw [great_len]; decide⟩, ⟨by rw [great_len]; decide, fun l h => Nat.le_trans (all l h).2 (by decide)⟩, tooMany_no fk (fun l h => (all l h).2) hne ?_⟩
  rw [great_len]
  decide +kernel
theorem rep_get {i : Nat} (h : i < 37) : (List.replicate 37 ((0 : Nat), Tk.lines)).getD i (0, .lost) = (0, .lines) := by
  rw [List.getD_eq_getElem?_getD, List.getElem?_replicate, if_pos h]
  rfl
def gw (i : Nat) : Nat := if i = 0 then 99 else 1
theorem great_wt {i : Nat} (h : i < 38) : wt dPlain (clo dPlain fGreat) i = gw i := by
  unfold wt rk
  rw [great_cl]
  cases i with
  | zero => rfl
  | succ i =>
    rw [List.getD_cons_succ, rep_get (by omega)]
    rfl
theorem great_tk {i : Nat} (h : i < 37) : tk (clo dPlain fGreat) (i + 1) = .lines := by
  unfold tk
  rw [great_cl, List.getD_cons_succ, rep_get h]
theorem great_whole {i : Nat} (h : i < 37) : whole dPlain (clo dPlain fGreat) (List.replicate 40 i) = 40 * gw i := by
  unfold whole
  rw [List.map_replicate, List.sum_replicate_nat, great_wt (by omega)]
theorem rsum_rep (n : Nat) (x : Rat) : rsum (List.replicate n x) = (n : Rat) * x := by
  induction n with
  | zero =>
    show (0 : Rat) = 0 * x
    grind
  | succ n ih =>
    rw [List.replicate_succ]
    show x + rsum _ = _
    rw [ih, Rat.natCast_add]
    show x + _ = (_ + 1) * x
    grind
theorem great_pay : ∀ i, i < 38 → rAt (pay dPlain (clo dPlain fGreat) fGreat) i 0 = 1 := by
  intro i
  induction i with
  | zero =>
    intro _
    rw [pay_at great_0 fun k hk => by cases hk]
    have e : tk (clo dPlain fGreat) 0 = .self := by
      unfold tk
      rw [great_cl]
      rfl
    rw [e]
    rfl
  | succ i ih =>
    intro h
    rw [pay_at (great_at (by omega)) fun k hk => by rw [List.eq_of_mem_replicate hk]; omega, great_tk (by omega)]
    show mix _ _ _ (List.replicate 40 i) 0 = 1
    unfold mix
    rw [List.map_replicate, rsum_rep, great_whole (by omega), great_wt (by omega), ih (by omega), Rat.natCast_mul]
    have n1 : 0 < gw i := by
      unfold gw
      split <;> decide
    have := nat_ne n1
    have n2 : ((40 : Nat) : Rat) ≠ 0 := nat_ne (by decide)
    grind
theorem great_cnt : ∀ i, i < 38 → (cnt dPlain (clo dPlain fGreat) fGreat).getD i 0 = 40 ^ i := by
  intro i
  induction i with
  | zero =>
    intro _
    rw [cnt_at great_0 fun k hk => by cases hk]
    have e : tk (clo dPlain fGreat) 0 = .self := by
      unfold tk
      rw [great_cl]
      rfl
    rw [e]
  | succ i ih =>
    intro h
    rw [cnt_at (great_at (by omega)) fun k hk => by rw [List.eq_of_mem_replicate hk]; omega, great_tk (by omega)]
    show nsum _ _ _ (List.replicate 40 i) = _
    unfold nsum
    have n1 : 0 < gw i := by
      unfold gw
      split <;> decide
    rw [List.map_replicate, List.sum_replicate_nat, great_wt (by omega), if_pos n1, ih (by omega), Nat.pow_succ, Nat.mul_comm]
theorem great_outC : outCnt dPlain fGreat = .int ((40 ^ 37 : Nat) : Int) := by
  unfold outCnt
  rw [great_len, great_cnt 37 (by decide)]
theorem great_outP : outPay dPlain fGreat = .tuple [.tuple [.int 1, .int 1]] := by
  unfold outPay encPay
  rw [great_len]
  show PyData.tuple [encQ (rAt (pay dPlain (clo dPlain fGreat) fGreat) 37 0)] = _
  rw [great_pay 37 (by decide)]
  rfl
end AB

set_option Elab.async false
set_option linter.all false
set_option maxRecDepth 100000
set_option maxHeartbeats 4000000
/-! Two except clauses that both name the error. -/
namespace AB
open PySem PySem.Spec PyProof.Rows L2
/-- behind a clause with a name the name's slot is empty -/
def offE (D : Ends) (i : Nat) : Ends := { nx := fun σ' H' => D.nx (σ'.set i none) H', rt := D.rt, bk := fun σ' H' => D.bk (σ'.set i none) H', ct := fun σ' H' => D.ct (σ'.set i none) H' }
section
variable {X : Cx} {pins : List (Addr × Obj)} {σ : L2.St} {H : Hp} {a : Addr} {cls : Value} {d : Option Addr} {s : Shared} {x n : Str} {c : Value} {i : Nat} {suite : List Stmt} {b₀ : Stmt} {np pos' : Pos} {hds : List ExceptHandler} {D : Ends} {nm : Option Str} {ts : Addr → Value → Option Addr → TS}
/-- an error lies in the frame's hand -/
structure Hand (X : Cx) (pins : List (Addr × Obj)) (σ : L2.St) (H : Hp) (a : Addr) (cls : Value) (d : Option Addr) (s : Shared) : Prop where
  fl : ∃ B, HandSPX.FlyingZ B (X.env :: X.outer) a (Zc cls d) s.heap ∧ ∀ h4, HandSPX.FlyingZ B (X.env :: X.outer) a (Zc cls d) h4 → s.heap.UpToSlots h4 → Inv X pins σ H { s with heap := h4 }
  na : H a = none
  nL : a ≠ X.env.locals
  nF : a ∉ X.fs
theorem Hand.inv (T : Hand X pins σ H a cls d s) : Inv X pins σ H s := by
  obtain ⟨B, f, k⟩ := T.fl
  exact k s.heap f (Heap.UpToSlots.refl _)
/-- the clause's class is read and asked -/
theorem hand_ask (T : Hand X pins σ H a cls d s) (ok : X.Ok) (hc : Names X x c) {b : Bool} (hb : PySem.W.exmOne X.K cls c = some b) {R : Result → Shared → Prop} (k : R (.ok (if b then .brk else .next)) s) :
    codeAny (model X.prog X.w) (X.A.mark (some (.ref a))) (.handlers (.ref a) [.ExceptHandler (some (.Name x np)) none [] pos'] X.env) R s := by
  have J := T.inv
  obtain ⟨B, f, _⟩ := T.fl
  obtain ⟨oe, vs, he, hz, hd⟩ := f.there
  have S := J.suite he hd T.na T.nL T.nF
  have LT : PySem.W.Looks (model X.prog X.w) s.heap (typeOf (.ref a)) cls := fun A Q E s2 k q => wpAny_typeOf_ref (k _ _ he) (by rw [hz.1]; exact q)
  have LM := PySem.W.exm_one (M := model X.prog X.w) J.kIn LT hb
  refine codeAny_handlers_test ?_
  have fin : wpAny (model X.prog X.w) (X.A.mark (some (.ref a))) (excMatches (.ref a) c) (fun b s₂ => R (.ok (if b then .brk else .next)) s₂) (notedBy (model X.prog X.w) (X.A.mark (some (.ref a))) X.env fun x s₂ => R (.error x) s₂) s := LM.here k
  obtain ⟨hg, hdbg, hm | ⟨hm, hv, hnn⟩⟩ := hc
  · exact ld_glob (X := X.suite a ((a, oe) :: (X.pn ++ pins))) S hg hm fin hdbg
  · exact ld_blt (X := X.suite a ((a, oe) :: (X.pn ++ pins))) S hg hm hv fin hnn hdbg
theorem hand_no (T : Hand X pins σ H a cls d s) (ok : X.Ok) (hc : Names X x c) (hb : PySem.W.exmOne X.K cls c = some false) (k : wpAny (model X.prog X.w) X.A (handleBy (.ref a) X.env hds) (SP X pins D) X.xe s) :
    wpAny (model X.prog X.w) X.A (handleBy (.ref a) X.env (.ExceptHandler (some (.Name x np)) nm (b₀ :: suite) pos' :: hds)) (SP X pins D) X.xe s :=
  wpAny_handleBy_cons (hand_ask T ok hc hb k) (by intro q; cases q)
theorem hand_yes (T : Hand X pins σ H a cls d s) (ok : X.Ok) (hN : X.N.Nodup) (hi : X.N[i]? = some n) (hln : X.env.kindOf n = some .local) (hc : Names X x c) (hb : PySem.W.exmOne X.K cls c = some true)
    (hsu : ∀ (oe : Obj) (pn : List (Addr × Obj)), Zc cls d oe → (∃ vs, oe.data = .fields vs) → PSs (X.suite a ((a, oe) :: pn)) (b₀ :: suite) (ts a cls d)) (w : ts a cls d (offE D i) (σ.set i (some (.ref a))) H) :
    wpAny (model X.prog X.w) X.A (handleBy (.ref a) X.env (.ExceptHandler (some (.Name x np)) (some n) (b₀ :: suite) pos' :: hds)) (SP X pins D) X.xe s := by
  refine wpAny_handleBy_cons (hand_ask T ok hc hb ?_) (by intro q; cases q)
  refine codeAny_handlers_suite_as ?_
  obtain ⟨B, f, k⟩ := T.fl
  refine HandSPX.lands_againZ f fun h4 fl4 up4 => ?_
  have J4 := k h4 fl4 up4
  obtain ⟨oe4, vs4, he4, hz4, hd4⟩ := fl4.there
  have S4 := J4.suite he4 hd4 T.na T.nL T.nF
  refine store_ok (X := X.suite a ((a, oe4) :: (X.pn ++ pins))) (v := .ref a) S4 hN hi (.inl hln) rfl (fun s5 S5 => ?_) (.inr hln)
  refine wpAny_mono ((hsu oe4 (X.pn ++ pins) hz4 ⟨_, hd4⟩).run [] s5 _ H _ S5 w) (fun fl s6 hsp => ?_) (fun _ _ z => False.elim z)
  have gone : ∀ {σ6 : L2.St} {H6 : Hp} {Q : Shared → Prop}, Inv (X.suite a ((a, oe4) :: (X.pn ++ pins))) [] σ6 H6 s6 → (∀ s7, Inv X pins (σ6.set i none) H6 s7 → Q s7) →
      wpAny (model X.prog X.w) X.A (do bindName X.env n .none; unbindBehindTheSuite X.env n pos') (fun _ s7 => Q s7) X.xe s6 := fun {σ6 H6 Q} S6 hq => gone_ok (S6.unsuite ok) hN hi hln hq
  cases fl with
  | next =>
    obtain ⟨σ6, H6, S6, q6⟩ := hsp
    exact gone S6 fun s7 J7 => ⟨_, _, J7, q6⟩
  | brk =>
    obtain ⟨σ6, H6, S6, q6⟩ := hsp
    exact gone S6 fun s7 J7 => ⟨_, _, J7, q6⟩
  | cont =>
    obtain ⟨σ6, H6, S6, q6⟩ := hsp
    exact gone S6 fun s7 J7 => ⟨_, _, J7, q6⟩
  | ret u =>
    obtain ⟨v6, σ6, H6, S6, r6, q6⟩ := hsp
    exact gone S6 fun s7 J7 => ⟨_, _, _, J7, r6, q6⟩
/-- what two such clauses take -/
def wAs2 (K : PySem.W.Frag) (c1 c2 : Value) (i : Nat) (t1 t2 : Addr → Value → Option Addr → TS) (D : Ends) : WX := fun cls d σ H =>
  (PySem.W.exmOne K cls c1 = some true ∧ ∀ a, H a = none → t1 a cls d (offE D i) (σ.set i (some (.ref a))) H) ∨
  (PySem.W.exmOne K cls c1 = some false ∧ PySem.W.exmOne K cls c2 = some true ∧ ∀ a, H a = none → t2 a cls d (offE D i) (σ.set i (some (.ref a))) H)
variable {x1 x2 : Str} {c1 c2 : Value} {body su1 su2 : List Stmt} {b1 b2 : Stmt} {n1 n2 p1 p2 pos : Pos} {tb : WX → TS} {t1 t2 : Addr → Value → Option Addr → TS}
theorem ps_try_as2 (hs : X.stack = X.env :: X.outer) (hf : X.env.frame = some X.env.locals) (hN : X.N.Nodup) (hi : X.N[i]? = some n) (hln : X.env.kindOf n = some .local) (hc1 : Names X x1 c1) (hc2 : Names X x2 c2)
    (hb : ∀ (W : WX) (pn : List (Addr × Obj)) (xe : Value → Shared → Prop), Takes (X.tr pn xe) W → PassesOwn (model X.prog X.w) X.A X.env xe → PSs (X.tr pn xe) body (tb W))
    (hs1 : ∀ (a : Addr) (cls : Value) (d : Option Addr) (oe : Obj) (pn : List (Addr × Obj)), Zc cls d oe → (∃ vs, oe.data = .fields vs) → PSs (X.suite a ((a, oe) :: pn)) (b1 :: su1) (t1 a cls d))
    (hs2 : ∀ (a : Addr) (cls : Value) (d : Option Addr) (oe : Obj) (pn : List (Addr × Obj)), Zc cls d oe → (∃ vs, oe.data = .fields vs) → PSs (X.suite a ((a, oe) :: pn)) (b2 :: su2) (t2 a cls d)) :
    PS X (.Try body [.ExceptHandler (some (.Name x1 n1)) (some n) (b1 :: su1) p1, .ExceptHandler (some (.Name x2 n2)) (some n) (b2 :: su2) p2] [] [] pos) (fun D σ H => tb (wAs2 X.K c1 c2 i t1 t2 D) D σ H) := by
  refine ⟨fun pins s σ H D I h => ?_⟩
  have ok := I.ok
  have hfr : X.A.frames = some (X.env :: X.outer) := by rw [ok.frames, hs]
  refine wpAny_Try_except ?_
  refine wpAny_mono ((hb (wAs2 X.K c1 c2 i t1 t2 D) (X.pn ++ pins) (fun e s₁ => wpAny (model X.prog X.w) X.A (noteFrame e X.env) (fun _ s₂ => wpAny (model X.prog X.w) X.A (setFlight e none) (fun _ s₃ =>
    wpAny (model X.prog X.w) X.A (handleBy e X.env [.ExceptHandler (some (.Name x1 n1)) (some n) (b1 :: su1) p1, .ExceptHandler (some (.Name x2 n2)) (some n) (b2 :: su2) p2]) (SP X pins D) X.xe s₃) X.xe s₂) X.xe s₁) (fun u s' xx => ?_) PassesOwn.looking).run [] s σ H D (I.toTry _) h) (fun f s1 hsp => ?_) (fun e s1 he => he)
  · obtain ⟨a, B, sI, pins', σ', H', cls, d, rfl, J', nb, up, sky, na, os, ag, w⟩ := xx
    have J : Inv X pins σ' H' sI := J'.ofTry ok
    have sky' : Sky B (X.env :: X.outer) a (Zc cls d) X.env.locals s'.heap := by rw [← hs]; exact sky
    show wpAny (model X.prog X.w) X.A (noteFrame (.ref a) X.env) _ _ _
    refine Sky.land Zc.steady hfr hf sky' fun h3 fl3 up3 => ?_
    obtain ⟨oe3, vs3, he3, hz3, hd3⟩ := fl3.there
    have nfr : a ∉ frs (X.env :: X.outer) := fun hm => by
      obtain ⟨_, o', e', hnf⟩ := fl3.2.2.1.mem hm
      rw [he3] at e'
      cases e'
      exact hnf _ hd3
    have T : Hand X pins σ' H' a cls d { s' with heap := h3 } := ⟨⟨B, fl3, fun h4 fl4 up4 => J.landed nb fl4.1 ((up.trans up3).trans up4) os ag⟩, na, fun z => nfr (List.mem_filterMap.mpr ⟨X.env, List.mem_cons_self, by rw [hf, z]⟩), fun hm => by
      obtain ⟨e, he, q⟩ := List.mem_filterMap.mp hm
      exact nfr (List.mem_filterMap.mpr ⟨e, List.mem_cons_of_mem _ he, q⟩)⟩
    rcases w with ⟨e1, k1⟩ | ⟨e1, e2, k2⟩
    · exact hand_yes (ts := t1) T ok hN hi hln hc1 e1 (fun oe pn => hs1 a cls d oe pn) (k1 a na)
    · exact hand_no T ok hc1 e1 (hand_yes (ts := t2) T ok hN hi hln hc2 e2 (fun oe pn => hs2 a cls d oe pn) (k2 a na))
  · cases f with
    | next =>
      obtain ⟨σ', H', J', q⟩ := hsp
      exact wpAny_execs_nil ⟨σ', H', J'.ofTry ok, q⟩
    | brk =>
      obtain ⟨σ', H', J', q⟩ := hsp
      exact ⟨σ', H', J'.ofTry ok, q⟩
    | cont =>
      obtain ⟨σ', H', J', q⟩ := hsp
      exact ⟨σ', H', J'.ofTry ok, q⟩
    | ret u =>
      obtain ⟨v, σ', H', J', r, q⟩ := hsp
      exact ⟨v, σ', H', J'.ofTry ok, r, q⟩
end
end AB

set_option Elab.async false
set_option linter.all false
set_option maxRecDepth 100000
set_option maxHeartbeats 4000000
/-! Layer A: a call between two clauses that say the error's field. -/
namespace AB
open PySem PySem.Spec PyProof.Rows L2
def aTryE (i j : Nat) (c1 c2 : Addr) (f1 f2 g1 g2 : Str) (t : AT) (asp1 asp2 : ASp) (r : AA) : AS := fun k ρ C => i < ρ.length ∧ t ρ C fun b Ca => r ρ Ca fun avs Cb => (if b = true then asp1 else asp2) avs Cb (fun _ Cc => k.nx ρ Cc)
  (fun xn Cc => (xn.c = c1 ∧ xn.f = f1 ∧ ∀ a, k.nx (((ρ.set i (some (.r a))).set j (some (.d (.tuple [.str g1, xn.x])))).set i none) Cc) ∨ (xn.c = c2 ∧ xn.f = f2 ∧ ∀ a, k.nx (((ρ.set i (some (.r a))).set j (some (.d (.tuple [.str g2, xn.x])))).set i none) Cc))
/-- y = (g, e.f) -/
def tSay (i j : Nat) (C : Addr) (f g : Str) : Addr → Value → Option Addr → TS := fun a cls d => tAsg (tTup (tCons (tC (.str g)) (tCons (tXf a cls d C f (tVar i)) tNil))) (gName j)
section
variable {X : Cx} {P : Par}
theorem say_ok {H G' : Hp} {Cc : Cs} {σ : L2.St} {ρ : Sl} {i j : Nat} {c d a : Addr} {f g : Str} {v : V} {x : PyData} {D : Ends} (hi : i < σ.length) (R : Rel X.K G' Cc H) (rs : RS X.K G' σ ρ) (hd : H d = some (.xd [(f, v)])) (hv : Dp X.K G' v x)
    (fin : ∀ σ2 ρ2 G2 H2, Stp X.K G' Cc H G2 Cc H2 → RS X.K G2 σ2 ρ2 → ρ2 = ((ρ.set i (some (.r a))).set j (some (.d (.tuple [.str g, x])))).set i none → D.nx σ2 H2) :
    tSay i j c f g a (.ref c) (some d) (offE D i) (σ.set i (some (.ref a))) H := by
  refine ⟨.ref a, by rw [List.getElem?_set_self hi], rfl, rfl, d, [(f, v)], v, rfl, hd, by simp [List.lookup], by simp [sizeLine], fun p np => ?_⟩
  have s1 := Stp.data (o := .tup [.str g, v]) R np
  have dv : Dp X.K (upd G' p (.tup [.str g, v])) (.ref p) (.tuple [.str g, x]) := dp_new (R.none np).1 (.cons (.str g) (.cons hv .nil))
  have r1 := (((rs.mono s1.ex).set (i := i) (v := .ref a) (av := .r a) rfl).set (i := j) (v := .ref p) (av := .d (.tuple [.str g, x])) dv).forget (i := i)
  exact fin _ _ _ _ s1 r1 rfl
variable {i j : Nat} {c1 c2 : Addr} {f1 f2 g1 g2 : Str} {t : AT} {asp1 asp2 : ASp} {r : AA}
theorem try_pure {C : Cs} {H : Hp} {G : Hp} {σ : L2.St} {ρ : Sl} {k : AEnds} {D : Ends} (hA : At X.K P G C H σ ρ) (hw : aTryE i j c1 c2 f1 f2 g1 g2 t asp1 asp2 r k ρ C) (en : EndsOk X.K G C H k D)
    (d1 : PySem.W.exmOne X.K (.ref c1) (.ref c1) = some true) (d2 : PySem.W.exmOne X.K (.ref c2) (.ref c1) = some false) (d3 : PySem.W.exmOne X.K (.ref c2) (.ref c2) = some true) :
    tIfS (gT X.K P t) (tDrop (tCallS (gSp X.K asp1) (WE (wAs2 X.K (.ref c1) (.ref c2) i (tSay i j c1 f1 g1) (tSay i j c2 f2 g2) D)) (gA X.K P r)))
      (tDrop (tCallS (gSp X.K asp2) (WE (wAs2 X.K (.ref c1) (.ref c2) i (tSay i j c1 f1 g1) (tSay i j c2 f2 g2) D)) (gA X.K P r))) D σ H := by
  obtain ⟨hi, hw⟩ := hw
  refine ⟨G, C, ρ, _, hA, hw, fun b Gb Cb Hb sb hb => ?_⟩
  have AB := hA.step sb
  have enb := en.step sb
  have core : ∀ asp : ASp, (r ρ Cb fun avs Cc => asp avs Cc (fun _ Cd => k.nx ρ Cd) fun xn Cc => (xn.c = c1 ∧ xn.f = f1 ∧ ∀ a, k.nx (((ρ.set i (some (.r a))).set j (some (.d (.tuple [.str g1, xn.x])))).set i none) Cc) ∨ (xn.c = c2 ∧ xn.f = f2 ∧ ∀ a, k.nx (((ρ.set i (some (.r a))).set j (some (.d (.tuple [.str g2, xn.x])))).set i none) Cc)) →
      tDrop (tCallS (gSp X.K asp) (WE (wAs2 X.K (.ref c1) (.ref c2) i (tSay i j c1 f1 g1) (tSay i j c2 f2 g2) D)) (gA X.K P r)) D σ Hb := fun asp h => by
    refine ⟨Gb, Cb, ρ, _, AB, h, fun vs avs G2 C2 H2 s2 r2 h2 => ?_⟩
    refine ⟨G2, C2, avs, _, _, s2.rel, r2, h2, fun v av G3 C3 H3 s3 r3 q3 => ?_, fun G3 C3 H3 c d f v x s3 hd hv hx => ?_⟩
    · have s4 := s2.trans s3
      exact enb.nx σ ρ G3 C3 H3 s4 (AB.rs.mono s4.ex) q3
    · have s4 := s2.trans s3
      have rs4 := AB.rs.mono s4.ex
      have hl : i < σ.length := by rw [rs4.len]; exact hi
      rcases hx with ⟨e1, e2, h3⟩ | ⟨e1, e2, h3⟩
      · cases e1
        cases e2
        exact .inl ⟨d1, fun a na => say_ok hl s4.rel rs4 hd hv fun σ5 ρ5 G5 H5 s5 r5 e5 => enb.nx σ5 ρ5 G5 C3 H5 (s4.trans s5) r5 (by rw [e5]; exact h3 a)⟩
      · cases e1
        cases e2
        exact .inr ⟨d2, d3, fun a na => say_ok hl s4.rel rs4 hd hv fun σ5 ρ5 G5 H5 s5 r5 e5 => enb.nx σ5 ρ5 G5 C3 H5 (s4.trans s5) r5 (by rw [e5]; exact h3 a)⟩
  cases b with
  | true =>
    exact iteT (core asp1 hb)
  | false =>
    exact iteF (core asp2 hb)
end
end AB

set_option Elab.async false
set_option linter.all false
set_option maxRecDepth 100000
set_option maxHeartbeats 4000000
/-! The walk: the law's errors. -/
namespace AB
open PySem PySem.Spec PyProof.Rows L2
section
variable {P : Program} {w : World} {K : PySem.W.Frag} {mg : Str → Option Value} {base : Heap}
local macro_rules | `(tactic| walk_at "rd") => `(tactic| try simp only [astart, List.map_cons, List.map_nil, List.length_cons, List.length_nil, List.replicate_succ, List.replicate_zero, List.cons_append, List.nil_append, aVar, aC, aOp, arI, arI0, arB, onI2, onB, aTest, aChain, aAnd, aOr, aNot, aAndV, aOrV, aNotV, aIf, aNil, aCons, aIsi, aNext, aCB, acLen, aCall, g_n, g_tup2, g_tup3, g_tup4, g_tup13, g_tup2s, aNeg, aTup, aLst, aSl, arSlC, arCatC, aLstC, aApp, aDGet2, arSlT, arRepT, aPop, arCatT, aDGet, aDPut, agSub, allD, arIx_t0, arIx_t1, arIx_t2, arIx_t3, encD_0, encD_1, encD_2, encD_3, encC_0, encC_1, encQ_0, encQ_1, arEq_i, arEq_s, ac2I_i, acInt_i, List.getElem?_cons_zero, List.getElem?_cons_succ, List.set_cons_zero, List.set_cons_succ, if_true, if_false, Bool.false_eq_true, Bool.not_true, Bool.not_false, Bool.false_xor, isInt_int, withinD_int, tupD_tup, encL, encI, sp_is_whole, sp_is_within, sp_is_truth, sp_is_tuple_of, sp_is_word_of])
local macro_rules | `(tactic| walk_at "st") => `(tactic| ((try dsimp only); (try refine i_seq ?_); (first | refine i_set ?_ | refine i_if ?_ | refine i_ret ?_ | refine i_asg ?_ | refine i_drop ?_ | refine i_par ?_ | refine i_par3 ?_ | refine i_next ?_); (walk_at "rd")))
def sp__law_error : ASp := fun avs C q _ => ∃ (a b : PyData) (p : Bool), avs = [.d a, .d b, .d (.bool p)] ∧
  ((a = .none ∧ q (.d (.tuple [.str "deal", .str "form"])) C) ∨
  ((∃ d, a = encD d ∧ DealOk d ∧ d.marks = 1) ∧ b = encF badOne ∧ q (.d (.tuple [.str "family", .int 0])) C) ∨
  ((∃ d, a = encD d ∧ DealOk d) ∧ b = .tuple [] ∧ q (.d (.tuple [.str "family", .none])) C))
theorem ok__law_error (T : Txt P K mg) : FnOk P w K mg base CX0 7 T.d__law_error.f T.d__law_error.fd ["_law_deal_here", "_law_family_here", "_law_is_paid"] (gSp K sp__law_error) := by
  refine fok T.d__law_error.F sc__law_error (fun avs C q z h => ?_) (fun cdv A outer s H P' hr => ?_)
  · obtain ⟨a, b, p, rfl, _⟩ := h
    rfl
  · refine ⟨_, apss_cons (aps_set 3 sc__law_error.nd apn) (apss_cons (aps_of (ps_try_as2 (i := 4) (c1 := .ref T.C_BadDeal) (c2 := .ref T.C_BadFamily) (t1 := tSay 4 3 T.C_BadDeal "word" "deal") (t2 := tSay 4 3 T.C_BadFamily "place" "family") rfl rfl sc__law_error.nd rfl rfl ⟨rfl, by decide, Or.inl T.g_BadDeal⟩ ⟨rfl, by decide, Or.inl T.g_BadFamily⟩
      (tb := fun W => tIfS (gT K P' (aTest (aVar 2))) (tDrop (tCallS (gSp K (sp_out T.C_BadDeal T.C_BadFamily outPay)) (WE W) (gA K P' (aCons (aVar 0) (aCons (aVar 1) aNil))))) (tDrop (tCallS (gSp K (sp_out T.C_BadDeal T.C_BadFamily outCnt)) (WE W) (gA K P' (aCons (aVar 0) (aCons (aVar 1) aNil))))))
      (fun W pn xe tk _ => pss_one (ps_if (apt_val (apv 2)) (pss_one (ps_expr (pe_callS (ok_paid T) (hr.mono (by decide)) rfl T.d_paid.g T.d_paid.F.kp T.d_paid.b (fun σ => passAt tk σ) (by exact (apa_cons (apv 0) (apa_cons (apv 1) apa_nil)))))) (pss_one (ps_expr (pe_callS (ok_receivers T) (hr.mono (by decide)) rfl T.d_receivers.g T.d_receivers.F.kp T.d_receivers.b (fun σ => passAt tk σ) (by exact (apa_cons (apv 0) (apa_cons (apv 1) apa_nil))))))))
      (fun a cls d oe pn hz hf => pss_one (ps_set (i := 3) sc__law_error.nd rfl (Or.inl rfl) (by exact (pe_tup (pa_cons pe_str (pa_cons (pe_xf T.f_BadDeal T.n_BadDeal hz hf (pv 4)) pa_nil))))))
      (fun a cls d oe pn hz hf => pss_one (ps_set (i := 3) sc__law_error.nd rfl (Or.inl rfl) (by exact (pe_tup (pa_cons pe_str (pa_cons (pe_xf T.f_BadFamily T.n_BadFamily hz hf (pv 4)) pa_nil)))))))
      (s1 := aTryE 4 3 T.C_BadDeal T.C_BadFamily "word" "place" "deal" "family" (aTest (aVar 2)) (sp_out T.C_BadDeal T.C_BadFamily outPay) (sp_out T.C_BadDeal T.C_BadFamily outCnt) (aCons (aVar 0) (aCons (aVar 1) aNil)))
      (fun G C H σ ρ k D hA hw en => try_pure hA hw en T.e_dd T.e_fd T.e_ff)) (apss_one (aps_ret (apv 3)))), fun avs C q h => ?_⟩
    obtain ⟨a, b, p, rfl, h⟩ := h
    walk_at "st"
    refine i_seq ?_
    refine ⟨by simp, ?_⟩
    walk_at "rd"
    have both : ∀ out, sp_out T.C_BadDeal T.C_BadFamily out [.d a, .d b] C (fun _ Cd => aRet (aVar 3) { nx := fun x C' => Ret q (.d .none) C', rt := Ret q } [some (.d a), some (.d b), some (.d (.bool p)), some (.d .none), none] Cd)
        (fun xn Cc => (xn.c = T.C_BadDeal ∧ xn.f = "word" ∧ ∀ a_1 : Addr, aRet (aVar 3) { nx := fun x C' => Ret q (.d .none) C', rt := Ret q } [some (.d a), some (.d b), some (.d (.bool p)), some (.d (.tuple [.str "deal", xn.x])), none] Cc) ∨
          (xn.c = T.C_BadFamily ∧ xn.f = "place" ∧ ∀ a_1 : Addr, aRet (aVar 3) { nx := fun x C' => Ret q (.d .none) C', rt := Ret q } [some (.d a), some (.d b), some (.d (.bool p)), some (.d (.tuple [.str "family", xn.x])), none] Cc)) := fun out => by
      rcases h with ⟨rfl, h⟩ | ⟨⟨d, rfl, ok, hm⟩, rfl, h⟩ | ⟨⟨d, rfl, ok⟩, rfl, h⟩
      · exact .inr (.inl ⟨b, rfl, .inl ⟨rfl, rfl, fun _ => Ret.of h⟩⟩)
      · exact .inr (.inr (.inl ⟨d, rfl, ok, hm, .inr ⟨rfl, rfl, fun _ => Ret.of h⟩⟩))
      · exact .inr (.inr (.inr ⟨d, rfl, ok, .inr ⟨rfl, rfl, fun _ => Ret.of h⟩⟩))
    cases p with
    | true => exact both outPay
    | false => exact both outCnt
end
end AB

set_option Elab.async false
set_option linter.all false
set_option maxRecDepth 100000
set_option maxHeartbeats 4000000
/-! The walk: what the law says by hand. -/
namespace AB
open PySem PySem.Spec PyProof.Rows L2
def dErrs : PyData := .list [.tuple [.str "deal", .str "form"], .tuple [.str "family", .int 0], .tuple [.str "family", .none]]
theorem shw_errs : Shw dErrs := ⟨by decide +kernel, by decide +kernel, by decide +kernel, Nat.le_trans (show dErrs.shown.length ≤ 1000 by decide +kernel) (by decide), .inr (.inl ⟨_, rfl⟩)⟩
def dHand : PyData := .list [.int ((40 ^ 37 : Nat) : Int), .tuple [.tuple [.int 1, .int 1]]]
theorem shw_hand : Shw dHand := ⟨by decide +kernel, by decide +kernel, by decide +kernel, Nat.le_trans (show dHand.shown.length ≤ 1000 by decide +kernel) (by decide), .inr (.inl ⟨_, rfl⟩)⟩
section
variable {P : Program} {w : World} {K : PySem.W.Frag} {mg : Str → Option Value} {base : Heap}
local macro_rules | `(tactic| walk_at "rd") => `(tactic| try simp only [astart, List.map_cons, List.map_nil, List.length_cons, List.length_nil, List.replicate_succ, List.replicate_zero, List.cons_append, List.nil_append, aVar, aC, aOp, arI, arI0, arB, onI2, onB, aTest, aChain, aAnd, aOr, aNot, aAndV, aOrV, aNotV, aIf, aNil, aCons, aIsi, aNext, aCB, acLen, aCall, g_n, g_tup2, g_tup3, g_tup4, g_tup13, g_tup2s, aNeg, aTup, aLst, aSl, arSlC, arCatC, aLstC, aApp, aDGet2, arSlT, arRepT, aPop, arCatT, aDGet, aDPut, agSub, allD, arIx_t0, arIx_t1, arIx_t2, arIx_t3, encD_0, encD_1, encD_2, encD_3, encC_0, encC_1, encQ_0, encQ_1, arEq_i, arEq_s, ac2I_i, acInt_i, List.getElem?_cons_zero, List.getElem?_cons_succ, List.set_cons_zero, List.set_cons_succ, if_true, if_false, Bool.false_eq_true, Bool.not_true, Bool.not_false, Bool.false_xor, isInt_int, withinD_int, tupD_tup, encL, encI, sp_is_whole, sp_is_within, sp_is_truth, sp_is_tuple_of, sp_is_word_of])
local macro_rules | `(tactic| walk_at "st") => `(tactic| ((try dsimp only); (try refine i_seq ?_); (first | refine i_set ?_ | refine i_if ?_ | refine i_ret ?_ | refine i_asg ?_ | refine i_drop ?_ | refine i_par ?_ | refine i_par3 ?_ | refine i_next ?_); (walk_at "rd")))
def sp__law_by_hand : ASp := fun avs C q _ => avs = [] ∧ q (.d (.bool true)) C
theorem ok__law_by_hand (T : Txt P K mg) : FnG P w K mg base 8 T.d__law_by_hand.f T.d__law_by_hand.fd [] (gSp K sp__law_by_hand) := by
  refine fokG T.d__law_by_hand.F sc__law_by_hand (fun avs C q z h => ?_) (fun cdv A outer s H P' hr hg => ?_)
  · obtain ⟨rfl, _⟩ := h
    rfl
  · refine ⟨_, (apss_cons (aps_set 0 sc__law_by_hand.nd (ape_tup (apa_cons api (apa_cons (ape_tup (apa_cons api (apa_cons api apa_nil))) (apa_cons (ape_tup (apa_cons (ape_tup (apa_cons api (apa_cons api apa_nil))) apa_nil)) (apa_cons (ape_tup (apa_cons (ape_tup (apa_cons (ape_tup (apa_cons (ape_tup (apa_cons api (apa_cons apstr apa_nil))) apa_nil)) (apa_cons (ape_tup (apa_cons (ape_tup (apa_cons api (apa_cons apstr apa_nil))) apa_nil)) apa_nil))) apa_nil)) apa_nil))))))
        (apss_cons (aps_set 2 sc__law_by_hand.nd (ap_catT (ape_tup (apa_cons (ape_tup (apa_cons api (apa_cons apb (apa_cons (ape_tup apa_nil) apa_nil)))) apa_nil)) (ap_tuple T.b_tuple (ape_lc [("_law_n", 1)] rfl sc__law_by_hand.nd (awi_r1 T.b_range api) (blkOk_by (N := ["_law_plain", "_law_n", "_law_great", "_law_is_paid", "_law_told_here"]) (sc := defScope s__law_by_hand) (by decide +kernel)) (fun _ _ _ _ _ => (apg_n (i := 1) sc__law_by_hand.nd)) (fun _ _ _ _ _ => apts_nil) (fun _ _ _ _ _ => (ape_tup (apa_cons api (apa_cons apb (apa_cons (ap_repT (ape_tup (apa_cons (apv 1) apa_nil)) api) apa_nil)))))))))
        (apss_cons (aps_if (apt_not (apt_val (ap_callG (ok__law_like T) (hr.mono (by decide)) hg T.d__law_like.g T.d__law_like.F.kp T.d__law_like.b (apa_cons (ape_lst (apa_cons (ap_call (ok_receivers T) (hr.mono (by decide)) T.d_receivers.g T.d_receivers.F.kp T.d_receivers.b passL (apa_cons (apv 0) (apa_cons (apv 2) apa_nil))) (apa_cons (ap_call (ok_paid T) (hr.mono (by decide)) T.d_paid.g T.d_paid.F.kp T.d_paid.b passL (apa_cons (apv 0) (apa_cons (apv 2) apa_nil))) apa_nil))) (apa_cons (ape_lst (apa_cons (ap_pow api api) (apa_cons (ape_tup (apa_cons (ape_tup (apa_cons api (apa_cons api apa_nil))) apa_nil)) apa_nil))) apa_nil))))) (apss_one (aps_ret apb)) apss_nil)
        (apss_cons (aps_for (vs := [3]) PassesOwn.never rfl (awi_tup (ape_tup (apa_cons apb (apa_cons apb apa_nil)))) (apg_n (i := 3) sc__law_by_hand.nd) (apss_cons (aps_set 4 sc__law_by_hand.nd (ape_lst (apa_cons (ap_call (ok__law_error T) (hr.mono (by decide)) T.d__law_error.g T.d__law_error.F.kp T.d__law_error.b pass0 (apa_cons apn (apa_cons apn (apa_cons (apv 3) apa_nil)))) (apa_cons (ap_call (ok__law_error T) (hr.mono (by decide)) T.d__law_error.g T.d__law_error.F.kp T.d__law_error.b pass0 (apa_cons (apv 0) (apa_cons (ape_tup (apa_cons (ape_tup (apa_cons api (apa_cons apb (apa_cons (ape_tup apa_nil) apa_nil)))) apa_nil)) (apa_cons (apv 3) apa_nil)))) (apa_cons (ap_call (ok__law_error T) (hr.mono (by decide)) T.d__law_error.g T.d__law_error.F.kp T.d__law_error.b pass0 (apa_cons (apv 0) (apa_cons (ape_tup apa_nil) (apa_cons (apv 3) apa_nil)))) apa_nil)))))
        (apss_one (aps_if (apt_not (apt_val (ap_callG (ok__law_like T) (hr.mono (by decide)) hg T.d__law_like.g T.d__law_like.F.kp T.d__law_like.b (apa_cons (apv 4) (apa_cons (ape_lst (apa_cons (ape_tup (apa_cons apstr (apa_cons apstr apa_nil))) (apa_cons (ape_tup (apa_cons apstr (apa_cons api apa_nil))) (apa_cons (ape_tup (apa_cons apstr (apa_cons apn apa_nil))) apa_nil)))) apa_nil))))) (apss_one (aps_ret apb)) apss_nil))))
        (apss_one (aps_ret apb)))))), fun avs C q h => ?_⟩
    obtain ⟨rfl, h⟩ := h
    walk_at "st"
    refine ⟨by decide, by decide, by decide, by decide, by decide, by decide, by decide, by decide, by decide, by decide, ?_⟩
    change aSeq _ _ _ [some (AV.d (encD dPlain)), none, none, none, none] C
    walk_at "st"
    refine ⟨by decide, by decide, by decide, ?_⟩
    refine i_lcP ((List.range 37).map fun n => encL ⟨0, false, List.replicate 40 n⟩) (its := rngL 0 37 1) (sb := fun _ => True) (C1 := C) (fun q hq => ?_) trivial (by rw [rng_len, List.length_map, List.length_range]) (by rw [rng_len]; decide) (fun j x y hj hy q hq => ?_) ?_
    · simp only [awR1]
      walk_at "rd"
      exact ⟨⟨by decide, by decide⟩, hq⟩
    · obtain ⟨hj2, rfl⟩ := rng_get hj
      rw [List.getElem?_map, List.getElem?_range hj2] at hy
      cases hy
      simp only [ixs, awipe]
      walk_at "rd"
      refine ⟨by decide, 40, _, rfl, rfl, by simp, by decide, by decide, by simp, by decide, ?_⟩
      have e : (List.replicate (40 : Int).toNat [PyData.int (0 + (j : Int) * 1)]).flatten = (List.replicate 40 j).map encI := by
        have ej : (0 : Int) + (j : Int) * 1 = ((j : Nat) : Int) := by omega
        rw [ej, List.flatten_replicate_singleton, List.map_replicate]
        rfl
      rw [e]
      exact hq
    refine ⟨_, _, rfl, rfl, ?_⟩
    walk_at "rd"
    refine ⟨by simp, ?_⟩
    have eG : PyData.tuple ([.tuple [.int 0, .bool true, .tuple []]] ++ (List.range 37).map fun n => encL ⟨0, false, List.replicate 40 n⟩) = encF fGreat := by
      unfold encF fGreat
      rw [List.map_cons, List.map_map]
      rfl
    have g := great_good
    change aSeq _ _ _ [some (AV.d (encD dPlain)), none, some (AV.d (.tuple ([.tuple [.int 0, .bool true, .tuple []]] ++ (List.range 37).map fun n => encL ⟨0, false, List.replicate 40 n⟩))), none, none] C
    rw [eG]
    walk_at "st"
    refine .inl ⟨dPlain, fGreat, rfl, g.ok, g.fo, g.tm, g.fb, .inl ⟨dPlain, fGreat, rfl, g.ok, g.fo, g.tm, g.fb, ?_⟩⟩
    rw [great_outC, great_outP]
    walk_at "rd"
    refine ⟨by decide, by unfold CPow; decide, by decide, by decide, by decide, dHand, ?_, shw_hand, ?_⟩
    · have e : (40 : Int) ^ (37 : Int).toNat = ((40 ^ 37 : Nat) : Int) := by decide +kernel
      rw [e]
      rfl
    walk_at "rd"
    refine i_seq ?_
    refine i_for (its := [AV.d (.bool true), AV.d (.bool false)]) (sb := fun _ => True) (C1 := C) (fun q hq => ?_) (fun i ρ' C' => ∃ y1 y3 y4, ρ' = [some (.d (encD dPlain)), y1, some (.d (encF fGreat)), y3, y4] ∧ C' = C) ⟨_, _, _, rfl, rfl⟩ (fun _ _ _ _ _ => trivial) ?_ ?_
    · unfold awD
      walk_at "rd"
      exact ⟨by decide, hq⟩
    · rintro i x ρ' C' hx ⟨y1, y3, y4, rfl, rfl⟩
      obtain ⟨p, rfl⟩ : ∃ p, x = AV.d (.bool p) := by
        rcases i with _ | _ | i
        · cases hx
          exact ⟨_, rfl⟩
        · cases hx
          exact ⟨_, rfl⟩
        · cases hx
      walk_at "rd"
      walk_at "st"
      refine ⟨_, _, p, rfl, .inl ⟨rfl, ?_⟩⟩
      refine ⟨by decide, by decide, by decide, _, _, p, rfl, .inr (.inl ⟨⟨dPlain, rfl, g.ok, rfl⟩, rfl, ?_⟩)⟩
      refine ⟨by decide, _, _, p, rfl, .inr (.inr ⟨⟨dPlain, rfl, g.ok⟩, rfl, ?_⟩)⟩
      walk_at "rd"
      refine ⟨by decide, ?_⟩
      walk_at "st"
      refine ⟨by decide, by decide, by decide, by decide, dErrs, rfl, shw_errs, ?_⟩
      walk_at "rd"
      exact ⟨_, _, _, rfl, by first | rfl | trivial⟩
    · rintro ρ' C' ⟨y1, y3, y4, rfl, rfl⟩
      walk_at "st"
      exact Ret.of h
end
end AB

set_option Elab.async false
set_option linter.all false
set_option maxRecDepth 100000
set_option maxHeartbeats 4000000
/-! The walk: the law. -/
namespace AB
open PySem PySem.Spec PyProof.Rows L2
theorem last_at {α : Type} {xs : List α} {f : α → PyData} {d : α} (h : 0 < xs.length) : (xs.map f).getLast? = some (f (xs.getD (xs.length - 1) d)) := by
  rw [List.getLast?_eq_getElem?, List.length_map]
  exact atD_map (getD_at (by omega))
def kPart (d : Deal) (cl : List (Nat × Tk)) (f : List Ln) (ks : List Nat) (j m : Nat) : Rat := rsum ((ks.take j).map fun k => (wt d cl k : Rat) / ((whole d cl ks : Nat) : Rat) * rAt (pay d cl f) k m)
theorem kPart_snoc {d : Deal} {cl : List (Nat × Tk)} {f : List Ln} {ks : List Nat} {j k : Nat} (h : ks[j]? = some k) (m : Nat) : kPart d cl f ks (j + 1) m = kPart d cl f ks j m + (wt d cl k : Rat) / ((whole d cl ks : Nat) : Rat) * rAt (pay d cl f) k m := by
  unfold kPart
  rw [take_snoc h, List.map_append]
  exact rsum_snoc _ _
theorem kPart_qb {d : Deal} {cl : List (Nat × Tk)} {f : List Ln} (fk : kidsOk f) {ks : List Nat} (hW : 0 < whole d cl ks) (hk : ∀ k ∈ ks, k < f.length) (j m : Nat) : Qb (dpr d cl f * whole d cl ks) (dpr d cl f * whole d cl ks) (kPart d cl f ks j m) := by
  have dp := dpr_pos d cl f
  have z := qb_sum (Nat.mul_pos dp hW) (l := ks.take j) (b := fun k => wt d cl k * dpr d cl f) (f := fun k => (wt d cl k : Rat) / ((whole d cl ks : Nat) : Rat) * rAt (pay d cl f) k m) fun k h => qb_part dp hW (pay_qf d cl fk m (hk k (List.mem_of_mem_take h)))
  refine z.mono ?_
  rw [sum_mulr, Nat.mul_comm]
  refine Nat.mul_le_mul_left _ ?_
  have e := congrArg (fun l : List Nat => (l.map fun k => wt d cl k).sum) (List.take_append_drop j ks)
  have e2 : ((ks.take j ++ ks.drop j).map fun k => wt d cl k).sum = (ks.map fun k => wt d cl k).sum := e
  rw [List.map_append, List.sum_append] at e2
  show ((ks.take j).map fun k => wt d cl k).sum ≤ (ks.map fun k => wt d cl k).sum
  omega
section
variable {P : Program} {w : World} {K : PySem.W.Frag} {mg : Str → Option Value} {base : Heap}
local macro_rules | `(tactic| walk_at "rd") => `(tactic| try simp only [astart, List.map_cons, List.map_nil, List.length_cons, List.length_nil, List.replicate_succ, List.replicate_zero, List.cons_append, List.nil_append, aVar, aC, aOp, arI, arI0, arB, onI2, onB, aTest, aChain, aAnd, aOr, aNot, aAndV, aOrV, aNotV, aIf, aNil, aCons, aIsi, aNext, aCB, acLen, aCall, g_n, g_tup2, g_tup3, g_tup4, g_tup13, g_tup2s, aNeg, aTup, aLst, aSl, arSlC, arCatC, aLstC, aApp, aDGet2, arSlT, aPop, arCatT, aDGet, aDPut, agSub, allD, arIx_t0, arIx_t1, arIx_t2, arIx_t3, encD_0, encD_1, encD_2, encD_3, encC_0, encC_1, encQ_0, encQ_1, arEq_i, arEq_s, ac2I_i, acInt_i, List.getElem?_cons_zero, List.getElem?_cons_succ, List.set_cons_zero, List.set_cons_succ, if_true, if_false, Bool.false_eq_true, Bool.not_true, Bool.not_false, Bool.false_xor, isInt_int, withinD_int, tupD_tup, encL, encI, sp_is_whole, sp_is_within, sp_is_truth, sp_is_tuple_of, sp_is_word_of])
local macro_rules | `(tactic| walk_at "st") => `(tactic| ((try dsimp only); (try refine i_seq ?_); (first | refine i_set ?_ | refine i_if ?_ | refine i_ret ?_ | refine i_asg ?_ | refine i_drop ?_ | refine i_par ?_ | refine i_par3 ?_ | refine i_next ?_); (walk_at "rd")))
def sp_law : ASp := fun avs C q _ => ∃ ns : List Int, avs = [.d (.list (ns.map .int))] ∧ ns.length ≤ 100000 ∧ ∀ C', q (.d (.bool true)) C'
theorem ok_law (T : Txt P K mg) : FnG P w K mg base 9 T.d_law.f T.d_law.fd ["_law_script"] (gSp K sp_law) := by
  refine fokG T.d_law.F sc_law (fun avs C q z h => ?_) (fun cdv A outer s H P' hr hg => ?_)
  · obtain ⟨ns, rfl, _⟩ := h
    rfl
  · refine ⟨_, (apss_cons (aps_set 1 sc_law.nd (ap_call (ok__law_begun T) (hr.mono (by decide)) T.d__law_begun.g T.d__law_begun.F.kp T.d__law_begun.b pass0 (apa_cons (apv 0) apa_nil)))
        (apss_cons (aps_if (apt_not (apt_val (ap_callG0 (ok__law_by_hand T) (hr.mono (by decide)) hg T.d__law_by_hand.g T.d__law_by_hand.F.kp T.d__law_by_hand.b))) (apss_one (aps_ret apb)) apss_nil)
        (apss_cons (aps_for (vs := [2]) PassesOwn.never rfl (awi_r1 T.b_range api) (apg_n (i := 2) sc_law.nd) (apss_cons (aps_set 3 sc_law.nd (ap_add api (ap_call (ok__law_draw T) (hr.mono (by decide)) T.d__law_draw.g T.d__law_draw.F.kp T.d__law_draw.b pass0 (apa_cons (apv 1) (apa_cons api apa_nil)))))
        (apss_cons (aps_set 4 sc_law.nd (ap_call (ok__law_deal T) (hr.mono (by decide)) T.d__law_deal.g T.d__law_deal.F.kp T.d__law_deal.b pass0 (apa_cons (apv 1) (apa_cons (apv 3) (apa_cons api apa_nil)))))
        (apss_cons (aps_set 5 sc_law.nd (ap_call (ok__law_family T) (hr.mono (by decide)) T.d__law_family.g T.d__law_family.F.kp T.d__law_family.b pass0 (apa_cons (apv 1) (apa_cons (apv 3) (apa_cons api apa_nil)))))
        (apss_cons (aps_if (apt_not (apt_val (ap_callG (ok__law_told T) (hr.mono (by decide)) hg T.d__law_told.g T.d__law_told.F.kp T.d__law_told.b (apa_cons (apv 4) (apa_cons (apv 5) (apa_cons (ap_call (ok__law_small_sums T) (hr.mono (by decide)) T.d__law_small_sums.g T.d__law_small_sums.F.kp T.d__law_small_sums.b pass0 (apa_cons (apv 4) (apa_cons (apv 5) apa_nil))) apa_nil)))))) (apss_one (aps_ret apb)) apss_nil)
        (apss_cons (aps_set 5 sc_law.nd (ap_call (ok__law_shared T) (hr.mono (by decide)) T.d__law_shared.g T.d__law_shared.F.kp T.d__law_shared.b pass0 (apa_cons (apv 1) (apa_cons (apv 3) apa_nil))))
        (apss_cons (aps_set 6 sc_law.nd (ap_call (ok__law_all_paid T) (hr.mono (by decide)) T.d__law_all_paid.g T.d__law_all_paid.F.kp T.d__law_all_paid.b pass0 (apa_cons (apv 4) (apa_cons (apv 5) apa_nil))))
        (apss_cons (aps_if (apt_not (apt_val (ap_callG (ok__law_told T) (hr.mono (by decide)) hg T.d__law_told.g T.d__law_told.F.kp T.d__law_told.b (apa_cons (apv 4) (apa_cons (apv 5) (apa_cons (apx (apv 6) (ap_neg api)) apa_nil)))))) (apss_one (aps_ret apb)) apss_nil)
        (apss_cons (aps_set 7 sc_law.nd (ap_call (ok__law_dealt T) (hr.mono (by decide)) T.d__law_dealt.g T.d__law_dealt.F.kp T.d__law_dealt.b pass0 (apa_cons (apv 4) (apa_cons (apv 5) apa_nil))))
        (apss_cons (aps_set 9 sc_law.nd (ap_sum rfl T.b_sum (ape_lc [("_law_child", 8)] rfl sc_law.nd (awi_tup (apx (apx (apv 5) (ap_neg api)) api)) (blkOk_by (N := ["_law_script", "_law_m", "_law_turn", "_law_marks", "_law_deal_here", "_law_family_here", "_law_due", "_law_told_here", "_law_child", "_law_whole", "_law_mark", "_law_sums", "_law_weight", "_law_one", "_law_near", "_law_more", "_law_n"]) (sc := defScope s_law) (by decide +kernel)) (fun _ _ _ _ _ => (apg_n (i := 8) sc_law.nd)) (fun _ _ _ _ _ => apts_nil) (fun _ _ _ _ _ => (apx (apx (apv 4) api) (apx (apx (apv 7) (apv 8)) api))))))
        (apss_cons (aps_if (apt_w (apw_and (at_eq (apx (apx (apv 7) (ap_neg api)) api) apstr) (apw_1 (at_gt (apv 9) api)))) (apss_cons (aps_lc 11 [("_law_mark", 10)] rfl sc_law.nd (awi_r1 T.b_range (apv 3)) (blkOk_by (N := ["_law_script", "_law_m", "_law_turn", "_law_marks", "_law_deal_here", "_law_family_here", "_law_due", "_law_told_here", "_law_child", "_law_whole", "_law_mark", "_law_sums", "_law_weight", "_law_one", "_law_near", "_law_more", "_law_n"]) (sc := defScope s_law) (by decide +kernel)) (fun _ _ _ _ _ => (apg_n (i := 10) sc_law.nd)) (fun _ _ _ _ _ => apts_nil) (fun _ _ _ _ _ => (ape_tup (apa_cons api (apa_cons api apa_nil)))) (sw_true rfl rfl rfl (by decide +kernel)))
        (apss_cons (aps_for (vs := [8]) PassesOwn.never rfl (awi_tup (ap_slT (apx (apx (apv 5) (ap_neg api)) api) api)) (apg_n (i := 8) sc_law.nd) (apss_cons (aps_set 12 sc_law.nd (apx (apx (apv 4) api) (apx (apx (apv 7) (apv 8)) api)))
        (apss_one (aps_if (at_gt (apv 12) api) (apss_cons (aps_lc 14 [("_law_one", 13)] rfl sc_law.nd (awi_tup (ap_call (ok_paid T) (hr.mono (by decide)) T.d_paid.g T.d_paid.F.kp T.d_paid.b passL (apa_cons (apv 4) (apa_cons (ap_slT (apv 5) (ap_add (apv 8) api)) apa_nil)))) (blkOk_by (N := ["_law_script", "_law_m", "_law_turn", "_law_marks", "_law_deal_here", "_law_family_here", "_law_due", "_law_told_here", "_law_child", "_law_whole", "_law_mark", "_law_sums", "_law_weight", "_law_one", "_law_near", "_law_more", "_law_n"]) (sc := defScope s_law) (by decide +kernel)) (fun _ _ _ _ _ => (apg_n (i := 13) sc_law.nd)) (fun _ _ _ _ _ => apts_nil) (fun _ _ _ _ _ => (ap_call (ok__law_low T) (hr.mono (by decide)) T.d__law_low.g T.d__law_low.F.kp T.d__law_low.b pass0 (apa_cons (ap_mul (apv 12) (apx (apv 13) api)) (apa_cons (ap_mul (apv 9) (apx (apv 13) api)) apa_nil)))) (sw_true rfl rfl rfl (by decide +kernel)))
        (apss_one (aps_lc 11 [("_law_one", 13), ("_law_more", 15)] rfl sc_law.nd (aw_zip T.b_zip (apv 11) (apv 14)) (blkOk_by (N := ["_law_script", "_law_m", "_law_turn", "_law_marks", "_law_deal_here", "_law_family_here", "_law_due", "_law_told_here", "_law_child", "_law_whole", "_law_mark", "_law_sums", "_law_weight", "_law_one", "_law_near", "_law_more", "_law_n"]) (sc := defScope s_law) (by decide +kernel)) (fun _ _ _ _ _ => (apg_t (n := 2) rfl (apgs_cons (apg_n (i := 13) sc_law.nd) (apgs_cons (apg_n (i := 15) sc_law.nd) apgs_nil)))) (fun _ _ _ _ _ => apts_nil) (fun _ _ _ _ _ => (ap_call (ok__law_sum T) (hr.mono (by decide)) T.d__law_sum.g T.d__law_sum.F.kp T.d__law_sum.b pass0 (apa_cons (apv 13) (apa_cons (apv 15) apa_nil)))) (sw_true rfl rfl rfl (by decide +kernel))))) apss_nil))))
        (apss_one (aps_if (apt_w (apw_and (at_le (ap_len T.b_len (apx (apx (apv 5) (ap_neg api)) api)) api) (apw_1 (apt_not (apt_val (ap_callG (ok__law_like T) (hr.mono (by decide)) hg T.d__law_like.g T.d__law_like.F.kp T.d__law_like.b (apa_cons (ap_call (ok_paid T) (hr.mono (by decide)) T.d_paid.g T.d_paid.F.kp T.d_paid.b passL (apa_cons (apv 4) (apa_cons (apv 5) apa_nil))) (apa_cons (ap_tuple T.b_tuple (apv 11)) apa_nil)))))))) (apss_one (aps_ret apb)) apss_nil)))) apss_nil)
        (apss_cons (aps_set 16 sc_law.nd (ap_call (ok__law_draw T) (hr.mono (by decide)) T.d__law_draw.g T.d__law_draw.F.kp T.d__law_draw.b pass0 (apa_cons (apv 1) (apa_cons (ap_len T.b_len (apv 5)) apa_nil))))
        (apss_one (aps_if (apt_not (apt_val (ap_callG (ok__law_told T) (hr.mono (by decide)) hg T.d__law_told.g T.d__law_told.F.kp T.d__law_told.b (apa_cons (apv 4) (apa_cons (ap_slT (apv 5) (ap_add (apv 16) api)) (apa_cons (apx (apv 6) (apv 16)) apa_nil)))))) (apss_one (aps_ret apb)) apss_nil))))))))))))))
        (apss_one (aps_ret apb))))), fun avs C q h => ?_⟩
    obtain ⟨ns, rfl, hns, h⟩ := h
    walk_at "st"
    refine ⟨ns, rfl, hns, fun am ag C1 _ _ D0 => ?_⟩
    walk_at "st"
    refine ⟨rfl, ?_⟩
    walk_at "rd"
    refine i_seq ?_
    refine i_for (its := rngL 0 2 1) (sb := fun _ => True) (C1 := C1) (fun q hq => ?_) (fun i ρ' C' => ∃ y2 y3 y4 y5 y6 y7 y8 y9 y10 y11 y12 y13 y14 y15 y16, ρ' = [some (.d (.list (ns.map .int))), some (.r am), y2, y3, y4, y5, y6, y7, y8, y9, y10, y11, y12, y13, y14, y15, y16] ∧ DS C C' am ag (1000 * i))
      ⟨_, _, _, _, _, _, _, _, _, _, _, _, _, _, _, rfl, D0⟩ (fun _ _ _ _ _ => trivial) ?_ ?_
    · simp only [awR1]
      walk_at "rd"
      exact ⟨⟨by decide, by decide⟩, hq⟩
    · rintro i x ρ' C' hx ⟨y2, y3, y4, y5, y6, y7, y8, y9, y10, y11, y12, y13, y14, y15, y16, rfl, D1⟩
      obtain ⟨hi, rfl⟩ := rng_get hx
      walk_at "rd"
      walk_at "st"
      refine rd_draw 3 D1 (by decide) (by decide) (by omega) fun r C2 hr3 D2 => ?_
      walk_at "rd"
      obtain ⟨m, em⟩ : ∃ m, m = 1 + r := ⟨_, rfl⟩
      have e1 : (1 : Int) + ((r : Nat) : Int) = ((m : Nat) : Int) := by omega
      rw [e1]
      walk_at "st"
      refine ⟨am, ag, m, _, C, rfl, by omega, by omega, by omega, D2, fun d C3 ok hm D3 => ?_⟩
      walk_at "st"
      refine ⟨am, ag, m, _, C, rfl, by omega, by omega, by omega, D3, fun f C4 pf D4 => ?_⟩
      rw [← hm] at pf
      obtain ⟨g, gsz⟩ := planted_good ok pf
      walk_at "st"
      refine ⟨d, f, rfl, ok, g.fo, g.fb, gsz, d, f, rfl, g, ?_⟩
      walk_at "rd"
      walk_at "st"
      refine ⟨am, ag, m, _, C, rfl, by omega, by omega, by omega, D4, fun f k C5 k2 k12 sf D5 => ?_⟩
      clear g gsz pf
      rw [← hm] at sf
      have g := shared_good ok sf k2 k12
      have fl := sf.len
      obtain ⟨cl, ecl⟩ : ∃ cl, cl = clo d f := ⟨_, rfl⟩
      have ck : ClOk d cl := by rw [ecl]; exact clo_ok ok g.fo
      have cln : cl.length = f.length := by rw [ecl]; exact clo_len
      walk_at "st"
      refine ⟨d, f, rfl, ok, g.fo, g.fb, ?_⟩
      walk_at "rd"
      walk_at "st"
      refine ix_l1 (last_at (d := 0) (by rw [List.length_range]; omega)) ?_
      have el : (List.range f.length).getD ((List.range f.length).length - 1) 0 = f.length - 1 := by
        rw [List.length_range, List.getD_eq_getElem?_getD, List.getElem?_range (by omega)]
        rfl
      rw [el]
      refine ⟨d, f, rfl, g, ?_⟩
      walk_at "rd"
      walk_at "st"
      refine ⟨d, f, rfl, ok, g.fo, ?_⟩
      rw [← ecl]
      have hlast : (f.map encL).getLast? = some (encL (f.getD (f.length - 1) ln0)) := last_at (by omega)
      obtain ⟨l, el2⟩ : ∃ l, l = f.getD (f.length - 1) ln0 := ⟨_, rfl⟩
      have hl : f[f.length - 1]? = some l := by rw [el2]; exact getD_at (by omega)
      rw [← el2] at hlast
      have hlk := g.fo.kids _ l hl
      have h57 := g.fb.few l (List.mem_of_getElem? hl)
      walk_at "st"
      refine i_lcM l.kids encI (fun k => encI (wt d cl k)) (sb := fun _ => True) (C1 := C5) (fun q hq => ?_) trivial (by omega) (fun j k hk q hq => ?_) ?_
      · unfold awD
        walk_at "rd"
        unfold encF
        refine ix_t1 hlast ?_
        walk_at "rd"
        exact hq
      · have hki := hlk k (List.mem_of_getElem? hk)
        simp only [ixs, awipe]
        walk_at "rd"
        exact rd_wt (by omega) (ck k (by omega)) hq
      refine acSum_whole ?_
      walk_at "rd"
      obtain ⟨W, eW⟩ : ∃ W, W = whole d cl l.kids := ⟨_, rfl⟩
      rw [← eW]
      have htl : (cl.map encC).getLast? = some (encC (cl.getD (f.length - 1) (0, .lost))) := by
        rw [List.getLast?_eq_getElem?, List.length_map, cln]
        exact atD_map (getD_at (by omega))
      walk_at "st"
      refine ix_l1 htl ?_
      walk_at "rd"
      have etk : (cl.getD (f.length - 1) (0, .lost)).2 = tk cl (f.length - 1) := rfl
      rw [tk_lines, etk]
      by_cases hc : tk cl (f.length - 1) = .lines ∧ 0 < W
      · obtain ⟨hc1, hW⟩ := hc
        refine iteY (by simpa using hc1) ?_
        walk_at "rd"
        refine iteY (by rw [decide_eq_true_eq]; omega) ?_
        have hW0 : 0 < whole d cl l.kids := by omega
        have hWl : whole d cl l.kids < 2 ^ 13 := whole_lt ok cl g.fb (List.mem_of_getElem? hl)
        have hD := dpr_lt2 (cl := cl) ok g.fb
        have hDW : dpr d cl f * whole d cl l.kids < 2 ^ 1000 := Nat.lt_of_lt_of_le (Nat.mul_lt_mul'' hD hWl) (by decide +kernel)
        have b0 : ∀ {a : Nat}, a < 2 ^ 256 → a < Bd := fun h => Nat.lt_of_lt_of_le h (by decide +kernel)
        walk_at "st"
        refine i_lcP ((List.replicate m (encQ 0))) (its := rngL 0 m 1) (sb := fun _ => True) (C1 := C5) (fun q hq => ?_) trivial (by rw [rng_len, List.length_replicate]) (by rw [rng_len]; omega) (fun j x y hj hy q hq => ?_) ?_
        · simp only [awR1]
          walk_at "rd"
          exact ⟨⟨by omega, by omega⟩, hq⟩
        · have e0 := List.eq_of_mem_replicate (List.mem_of_getElem? hy)
          subst e0
          simp only [ixs, awipe]
          walk_at "rd"
          exact ⟨by decide, hq⟩
        rw [vec_zero, ← hm]
        refine i_seq ?_
        refine i_for (its := (l.kids.map encI).map AV.d) (sb := fun _ => True) (C1 := C5) (fun q hq => ?_) (fun j ρ2 C2 => ∃ y2 y8 y12 y13 y14 y15, ρ2 = [some (.d (.list (ns.map .int))), some (.r am), y2, some (.d (.int (d.marks : Nat))), some (.d (encD d)), some (.d (encF f)), some (.d (.list ((List.range f.length).map (encDue d cl f)))), some (.d (.list (cl.map encC))), y8, some (.d (.int (W : Nat))), y10, some (.d (.list (vec d.marks (kPart d cl f l.kids j)))), y12, y13, y14, y15, y16] ∧ C2 = C5)
          ⟨_, _, _, _, _, _, rfl, rfl⟩ (fun _ _ _ _ _ => trivial) ?_ ?_
        · unfold awD
          walk_at "rd"
          unfold encF
          refine ix_t1 hlast ?_
          walk_at "rd"
          refine ⟨_, 60, rfl, rfl, by decide, ?_⟩
          rw [List.take_of_length_le (by rw [List.length_map]; show l.kids.length ≤ 60; omega)]
          exact hq
        · rintro j x ρ2 C2 hx ⟨y2, y8, y12, y13, y14, y15, rfl, rfl⟩
          obtain ⟨x, hx2, rfl⟩ := map_get hx
          obtain ⟨k, hk, rfl⟩ := of_atD hx2
          have hkm := List.mem_of_getElem? hk
          have hki := hlk k hkm
          have hkf : k < f.length := by omega
          have hw9 := wt_le ok cl k
          have hpq := fun m => pay_qf d cl g.fo.kids m hkf
          have ks1 : kPart d cl f l.kids (j + 1) = fun m => kPart d cl f l.kids j m + (wt d cl k : Rat) / ((whole d cl l.kids : Nat) : Rat) * rAt (pay d cl f) k m := funext fun m => kPart_snoc hk m
          walk_at "rd"
          walk_at "st"
          refine rd_wt (by omega) (ck k (by omega)) ?_
          walk_at "st"
          by_cases hw0 : 0 < wt d cl k
          · refine iteY (by rw [decide_eq_true_eq]; omega) ?_
            have gk := good_take g hkf (by omega)
            walk_at "st"
            refine i_lcM (List.range d.marks) (fun m => encQ (rAt (pay d cl f) k m)) (fun m => encQ ((wt d cl k : Rat) / (W : Rat) * rAt (pay d cl f) k m)) (sb := fun _ => True) (C1 := C2) (fun q hq => ?_) trivial (by rw [List.length_range]; omega) (fun u m hm q hq => ?_) ?_
            · unfold awD
              walk_at "rd"
              refine ⟨f.map encL, ((k : Nat) : Int) + 1, rfl, rfl, by omega, ?_⟩
              have et : (f.map encL).take (((k : Nat) : Int) + 1).toNat = (f.take (k + 1)).map encL := by
                rw [show (((k : Nat) : Int) + 1).toNat = k + 1 by omega, List.map_take]
              refine .inl ⟨d, f.take (k + 1), by rw [et]; rfl, gk.ok, gk.fo, gk.tm, gk.fb, ?_⟩
              rw [outPay_pre g.fo.kids hkf, ← ecl]
              exact hq
            · obtain ⟨p0, pn, pd⟩ := (hpq m).nn (dpr_pos d cl f)
              obtain ⟨a, ea, ea2, ex⟩ := rat_nd p0
              simp only [ixs, awipe]
              walk_at "rd"
              rw [ea]
              refine ⟨cmulN (b0 (by omega)) (bd_1 (by rw [← ea2]; exact Nat.lt_of_le_of_lt pn (Nat.lt_trans hD (by decide +kernel)))), cmulN (b0 (by omega)) (bd_1 (Nat.lt_of_le_of_lt pd (Nat.lt_trans hD (by decide +kernel)))), wt d cl k * a, W * (rAt (pay d cl f) k m).den, ?_, Nat.mul_pos (by omega) (Rat.den_pos _), ?_, ?_⟩
              · simp only [Int.natCast_mul]
              · rw [eW]
                refine Nat.lt_of_lt_of_le (Nat.mul_lt_mul'' hWl (Nat.lt_of_le_of_lt pd hD)) (by decide +kernel)
              · have z := low_part (w := wt d cl k) (W := W) (by omega) p0
                rw [ea2] at z
                rw [z]
                exact hq
            walk_at "st"
            refine i_lcP (vec d.marks (kPart d cl f l.kids (j + 1))) (its := zipL (vec d.marks (kPart d cl f l.kids j)) ((List.range d.marks).map fun m => encQ ((wt d cl k : Rat) / (W : Rat) * rAt (pay d cl f) k m))) (sb := fun _ => True) (C1 := C2) (fun q hq => hq) trivial ?_ ?_ (fun u x y hx hy q hq => ?_) ?_
            · rw [zip_len]
              unfold vec
              simp
            · rw [zip_len]
              unfold vec
              simp
              omega
            · obtain ⟨a, b, ha, hb, rfl⟩ := zip_get hx
              have hu : u < d.marks := by
                have z := (List.getElem?_eq_some_iff.mp ha).1
                unfold vec at z
                rw [List.length_map, List.length_range] at z
                exact z
              rw [vec_get hu] at ha hy
              rw [List.getElem?_map, List.getElem?_range hu] at hb
              cases ha
              cases hy
              cases hb
              have q1 := kPart_qb g.fo.kids hW0 (fun k hk => by have := hlk k hk; omega) j u
              have q2 := qb_part (w := wt d cl k) (dpr_pos d cl f) hW0 (hpq u)
              have dw := Nat.mul_pos (dpr_pos d cl f) hW0
              obtain ⟨a1, a2, a3⟩ := q1.nn dw
              obtain ⟨b1, b2, b3⟩ := q2.nn dw
              rw [eW]
              simp only [ixs, awipe]
              walk_at "rd"
              refine ⟨_, _, rfl, a1, b1, Nat.lt_of_le_of_lt a2 hDW, Nat.lt_of_le_of_lt b2 ?_, Nat.lt_of_le_of_lt a3 hDW, Nat.lt_of_le_of_lt b3 hDW, ?_⟩
              · exact Nat.lt_of_lt_of_le (Nat.mul_lt_mul'' (show wt d cl k < 2 ^ 13 by omega) hD) (by decide +kernel)
              · rw [ks1] at hq
                exact hq
            · exact ⟨_, _, _, _, _, _, rfl, by first | rfl | trivial⟩
          · refine iteN (by rw [decide_eq_true_eq]; omega) ?_
            have ev : kPart d cl f l.kids (j + 1) = kPart d cl f l.kids j := by
              rw [ks1]
              funext m
              rw [show wt d cl k = 0 by omega]
              show _ + ((0 : Rat) / _ * _) = _
              grind
            rw [ev]
            exact ⟨_, _, _, _, _, _, rfl, by first | rfl | trivial⟩
        · rintro ρ2 C2 ⟨y2, y8, y12, y13, y14, y15, rfl, rfl⟩
          rw [List.length_map, List.length_map]
          walk_at "st"
          unfold encF
          refine ix_t1 hlast ?_
          walk_at "rd"
          refine iteY (by rw [decide_eq_true_eq, List.length_map]; omega) ?_
          refine .inl ⟨d, f, rfl, ok, g.fo, g.tm, g.fb, ?_⟩
          refine ⟨_, _, rfl, rfl, outPay d f, ?_, shw_pay g, ?_⟩
          · have hpa := pay_at (d := d) (cl := cl) hl hlk
            rw [hc1] at hpa
            have ek : kPart d cl f l.kids l.kids.length = rAt (pay d cl f) (f.length - 1) := by
              rw [hpa]
              funext m
              unfold kPart
              rw [List.take_length]
              rfl
            have eo : outPay d f = .tuple (vec d.marks (kPart d cl f l.kids l.kids.length)) := by
              rw [ek, ecl]
              rfl
            rw [← eo]
          walk_at "rd"
          walk_at "st"
          try unfold encF
          walk_at "rd"
          rw [List.length_map]
          refine rd_draw f.length D5 (by omega) (by omega) (by omega) fun n C6 hn D6 => ?_
          walk_at "st"
          refine ⟨f.map encL, ((n : Nat) : Int) + 1, rfl, rfl, by omega, ?_⟩
          refine ix_l (k := n) (atD_map (List.getElem?_range hn)) ?_
          have et : (f.map encL).take (((n : Nat) : Int) + 1).toNat = (f.take (n + 1)).map encL := by
            rw [show (((n : Nat) : Int) + 1).toNat = n + 1 by omega, List.map_take]
          refine ⟨d, f.take (n + 1), ?_, good_take g hn (by omega), ?_⟩
          · rw [due_pre g.fo.kids hn, et, ecl]
            rfl
          walk_at "rd"
          exact ⟨_, _, _, _, _, _, _, _, _, _, _, _, _, _, _, rfl, D6.mono (by omega)⟩
      · refine ite2 (fun h1 => ?_) (fun h1 => ?_)
        · walk_at "rd"
          refine iteN (fun h2 => hc ⟨by simpa using h1, by rw [decide_eq_true_eq] at h2; omega⟩) ?_
          walk_at "st"
          try unfold encF
          walk_at "rd"
          rw [List.length_map]
          refine rd_draw f.length D5 (by omega) (by omega) (by omega) fun n C6 hn D6 => ?_
          walk_at "st"
          refine ⟨f.map encL, ((n : Nat) : Int) + 1, rfl, rfl, by omega, ?_⟩
          refine ix_l (k := n) (atD_map (List.getElem?_range hn)) ?_
          have et : (f.map encL).take (((n : Nat) : Int) + 1).toNat = (f.take (n + 1)).map encL := by
            rw [show (((n : Nat) : Int) + 1).toNat = n + 1 by omega, List.map_take]
          refine ⟨d, f.take (n + 1), ?_, good_take g hn (by omega), ?_⟩
          · rw [due_pre g.fo.kids hn, et, ecl]
            rfl
          walk_at "rd"
          exact ⟨_, _, _, _, _, _, _, _, _, _, _, _, _, _, _, rfl, D6.mono (by omega)⟩
        · skip
          walk_at "st"
          try unfold encF
          walk_at "rd"
          rw [List.length_map]
          refine rd_draw f.length D5 (by omega) (by omega) (by omega) fun n C6 hn D6 => ?_
          walk_at "st"
          refine ⟨f.map encL, ((n : Nat) : Int) + 1, rfl, rfl, by omega, ?_⟩
          refine ix_l (k := n) (atD_map (List.getElem?_range hn)) ?_
          have et : (f.map encL).take (((n : Nat) : Int) + 1).toNat = (f.take (n + 1)).map encL := by
            rw [show (((n : Nat) : Int) + 1).toNat = n + 1 by omega, List.map_take]
          refine ⟨d, f.take (n + 1), ?_, good_take g hn (by omega), ?_⟩
          · rw [due_pre g.fo.kids hn, et, ecl]
            rfl
          walk_at "rd"
          exact ⟨_, _, _, _, _, _, _, _, _, _, _, _, _, _, _, rfl, D6.mono (by omega)⟩
    · rintro ρ' C' ⟨y2, y3, y4, y5, y6, y7, y8, y9, y10, y11, y12, y13, y14, y15, y16, rfl, D1⟩
      walk_at "st"
      exact Ret.of (h _)
end
end AB

set_option Elab.async false
set_option linter.all false
set_option maxRecDepth 100000
set_option maxHeartbeats 4000000
/-! Own errors whose __init__ says super().__init__('..') first. -/
namespace AB
open PySem PySem.W PySem.Calls PyProof.Rows PySem.HandSPX
section
variable {prog : Program} {w : World} {A : Around} {E : Value → Shared → Prop} {h : Heap} {g : Array GenState} {d : Drawn} {t : Nat} {os : OsState}
variable {nm q : Str} {C N : Addr} {bs bm : List Value} {hdct : Bool} {sn : List Str} {sub : List Value} {ab : Bool} {col : Option Bool} {dd : Option Addr} {k0 k1 k2 k3 k5 : Option Value}
theorem sup_call {u e t0 : Addr} {rest : List Value} {Q : Value → Shared → Prop}
    (hC : h.get? C = some (excClassObj nm q C N bs bm hdct sn sub ab col dd k0 k1 k2 k3 k5 "ValueError.__new__")) (he : h.get? e = some (excO C t0)) (hu : h.get? u = some (kxs_mw "ValueError.__init__" e)) (hz : rest.length ≤ sizeLine)
    (hq : ∀ h' t1, (∀ b o, b ≠ e → h.get? b = some o → h'.get? b = some o) → h'.get? e = some (excO C t1) → Q .none ⟨h', g, d, t, os⟩) :
    wpAny (model prog w) A (call (.ref u) rest) Q E ⟨h, g, d, t, os⟩ := by
  have FB := F.excBase_ValueError
  refine wpAny_call (codeAny_of_tree ?_)
  show wpAny _ A.in1 (callAny (.ref u) ⟨rest, []⟩) _ _ _
  simp only [callAny]
  refine wpAny_bind (wpAny_load hu ?_)
  simp only [kxs_mw, show (Value.type "method-wrapper" == Value.type "method" || Value.type "method-wrapper" == Value.type "builtin_function_or_method" || Value.type "method-wrapper" == Value.type "method-wrapper") = true by decide, if_true]
  refine KFB.if_so (by decide) ?_
  refine wpAny_bind (check_bound_init FB.toExcCallFacts hC he rfl ?_)
  refine wpAny_bind (wpAny_pure (wpAny_pure ?_))
  refine ⟨plainId_quiet FB.init.plain _, codeAny_builtin FB.initEntry ?_⟩
  exact exc_init_tree (cls := .ref C) (t0 := t0) (dv := none) (c2 := .none) (c3 := .none) (b4 := .bool false) he hz fun h' k e' _ => hq h' _ k e'
end
/-! ### the text of such an __init__ -/
def siA (fld : Str) (p1 p2 : Pos) : Arguments := { posonlyargs := [], args := [{ arg := "self", annotation := none, pos := p1 }, { arg := fld, annotation := none, pos := p2 }], vararg := none, kwonlyargs := [], kw_defaults := [], kwarg := none, defaults := [] }
def siB (fld msg : Str) (q1 q2 q3 q4 q5 q6 q7 q8 q9 r1 : Pos) : List Stmt := [.Expr (.Call (.Attribute (.Call (.Name "super" q1) [] [] q2) "__init__" q3) [.Constant (.str msg) 0 q4] [] q5) q6, .Assign [.Attribute (.Name "self" q7) fld q8] (.Name fld q9) r1]
def siS (fld : Str) : Scope := { kind := .function, names := [(PySem.Str.ofString "self", .local), (fld, .local), (PySem.Str.ofString "__class__", .free), (PySem.Str.ofString "super", .globalImplicit)], isGenerator := false, isCoroutine := false, more := [] }
/-- what the written part says of the class x, at C, and of its __init__, at fI -/
structure SupTxt (P : Program) (K : Frag) (mg : Str → Option Value) (x fld msg qual : Str) (q3 q5 : Pos) (C fI : Addr) : Prop where
  gC : mg x = some (.ref C)
  cls : ∃ nm q N bs bm sn sub ab col dd k0 k1 k2 k3 k5, K.lookup C = some (excClassObj nm q C N bs bm true sn sub ab col dd k0 k1 k2 k3 k5 "ValueError.__new__") ∧ refsVE bm = true
  sa : findIn K (.ref C) "__setattr__" = some (some (.builtin "object.__setattr__"))
  noN : findIn K (.ref C) fld = some none
  iC : findIn K (.ref C) "__init__" = some (some (.ref fI))
  tC : typeIn K (.ref fI) = some (.type "function")
  kC : keepIn K (.ref C) = true
  exC : subIn K (.ref C) (.type "BaseException") = some true
  tyC : typeIn K (.ref C) = some (.type "type")
  su : ks_superIn K C C "__init__" = some (some (.builtin "ValueError.__init__"))
  sv : subIn K (.ref C) (.type "ValueError") = some true
  mC : mroIn K C (.ref C) = some true
  sg : mg "super" = none
  th : nsIn K cStatics "thirdparty.any" = some none
  pt : (P.main.scope.names.lookup ("super" : Str)).isSome = false
  fn : ∃ (oc : Value) (od : Option Addr) (doc pm : Value) (an : Option Addr) (cda : Addr) (ct : Value) (osl : Array (Option Value)) (cc : Addr) (p1 p2 q1 q2 q4 q6 q7 q8 q9 r1 : Pos)
    (ccl : Value) (cdd : Option Addr) (vs : Array Value) (ccs : Array (Option Value)) (file : Str) (tf : Tok) (cl : Value) (cld : Option Addr) (csl : Array (Option Value)),
    K.lookup fI = some ⟨oc, od, .func (ksFn "__init__" qual (siA fld p1 p2) (siB fld msg q1 q2 q3 q4 q5 q6 q7 q8 q9 r1) (siS fld) .none .none doc pm an (.ref cda) ct cc), osl⟩ ∧ codeIn K (.ref cda) qual = true ∧
    K.lookup cda = some ⟨ccl, cdd, .fields vs, ccs⟩ ∧ vs[2]? = some (.str file tf) ∧ ((P.main.file : Str) == file) = true ∧ K.lookup cc = some ⟨cl, cld, .cell (some (.ref C)), csl⟩
/-- what __init__ leaves of a fresh exception at x -/
structure SupEnd (h h' : Heap) (x C dx t1 : Addr) (fld : Str) (v : Value) : Prop where
  keep : ∀ b o, b ≠ x → h.get? b = some o → h'.get? b = some o
  obj : h'.get? x = some { cls := .ref C, dict := some dx, data := .fields #[.ref t1, .none, .none, .none, .bool false, .none] }
  dbig : h.objs.size ≤ dx
  dne : dx ≠ x
  ns : h'.Ns1 dx (fun y => if y = fld then some v else none)
/-- a made error -/
structure SupMade (h h' : Heap) (e C d : Addr) (fld : Str) (v : Value) : Prop where
  keep : ∀ b o, h.get? b = some o → h'.get? b = some o
  new : h.objs.size ≤ e
  obj : ∃ oe vs, h'.get? e = some oe ∧ oe.cls = .ref C ∧ oe.dict = some d ∧ oe.data = .fields vs ∧ vs[1]? = some .none
  dbig : h.objs.size ≤ d
  dne : d ≠ e
  ns : h'.Ns1 d (fun y => if y = fld then some v else none)
theorem sup_one (v : Value) : [v].length ≤ sizeLine := by
  rw [sizeLine_eq]
  exact (by decide : 1 ≤ 16777216)
section
variable {P : Program} {w : World} {A : Around} {R : Result → Shared → Prop} {s : Shared} {K : Frag} {mg : Str → Option Value} {base : Heap} {C fI : Addr}
theorem sup_init_BadDeal (T : SupTxt P K mg "BadDeal" "word" "a deal is wanted" "BadDeal.__init__" ⟨24, 8, 24, 24⟩ ⟨24, 8, 24, 44⟩ C fI) (Md : L2.Mod K mg base) (hbk : ∀ b o, base.get? b = some o → s.heap.get? b = some o) {x t0 : Addr} {v : Value} (hx : s.heap.get? x = some (excO C t0)) (xb : base.get? x = none) (hroom : A.depth < recursionLimit)
    (hq : ∀ h' tk dx t1, SupEnd s.heap h' x C dx t1 "word" v → R (.ok (.ret .none)) { s with heap := h', toks := tk }) :
    codeAny (model P w) A (.call (.ref fI) ⟨[.ref x, v], []⟩) R s := by
  obtain ⟨oc, od, doc, pm, an, cda, ct, osl, cc, p1, p2, q1, q2, q4, q6, q7, q8, q9, r1, ccl, cdd, vs, ccs, file, tf, cl, cld, csl, ho, hcd, hcode, hvs, hfile, hcell⟩ := T.fn
  obtain ⟨nm, q, N, bs, bm, sn, sub, ab, col, dd, k0, k1, k2, k3, k5, hC, hbm⟩ := T.cls
  have X : K.In s.heap := Md.kin.keeps hbk
  have hcl : clsIn K C = some { name := nm, bases := bs, mro := .ref C :: bm, ns := N, qualname := q, hasDict := true, slotNames := sn, subclasses := sub, abstract := ab, collection := col, hasDel := false } := by unfold clsIn; rw [hC] <;> rfl
  refine ks_codeAny_call_defAt (fd := ksFn "__init__" "BadDeal.__init__" (siA "word" p1 p2) (siB "word" "a deal is wanted" q1 q2 ⟨24, 8, 24, 24⟩ q4 ⟨24, 8, 24, 44⟩ q6 q7 q8 q9 r1) (siS "word") .none .none doc pm an (.ref cda) ct cc) (body := siB "word" "a deal is wanted" q1 q2 ⟨24, 8, 24, 24⟩ q4 ⟨24, 8, 24, 44⟩ q6 q7 q8 q9 r1)
    (binds := [("self", .ref x), ("word", v)]) hroom (X _ _ ho) rfl (Md.nolimit.keeps hbk) (codeRec_of X hcd) rfl (BindsTo.of_eq (by first | rfl | with_unfolding_all rfl)) (show ∀ y ∈ (siS "word").names, y.2 ≠ .cell from by decide) (locs rfl) (fun h₁ hns k => ?_) rfl rfl rfl
  have X₁ : K.In h₁ := X.keeps k
  have hx₁ := k _ _ hx
  have hD1 := X₁ _ _ hC
  have lt : s.heap.objs.size < h₁.objs.size := hns.lt
  obtain ⟨mb, hb, hmb⟩ := Md.blt
  obtain ⟨hp, g, d, t, os⟩ := s
  show _root_.PySem.wpAt (model P w) (A.deeper (ksEnv "BadDeal.__init__" (siS "word") hp.objs.size fI (.ref cda) cc)) (.func (siB "word" "a deal is wanted" q1 q2 ⟨24, 8, 24, 24⟩ q4 ⟨24, 8, 24, 44⟩ q6 q7 q8 q9 r1) (ksEnv "BadDeal.__init__" (siS "word") hp.objs.size fI (.ref cda) cc)) (execs (siB "word" "a deal is wanted" q1 q2 ⟨24, 8, 24, 24⟩ q4 ⟨24, 8, 24, 44⟩ q6 q7 q8 q9 r1) (ksEnv "BadDeal.__init__" (siS "word") hp.objs.size fI (.ref cda) cc)) _ _ _
  refine ks_wpAt_execs_cons ?_
  refine ks_wpAt_Expr_any ?_
  refine ks_wpAt_MethodCall (pl := _) ?_ (by first | rfl | with_unfolding_all rfl)
  refine ks_wpAt_super_base (env := ksEnv "BadDeal.__init__" (siS "word") hp.objs.size fI (.ref cda) cc) rfl rfl rfl rfl (X₁ _ _ ho) rfl rfl rfl (X₁ _ _ hcode) rfl hvs hfile T.pt ?_
  refine ks_loadName_global rfl rfl (loadGlobal_builtin (env := ksEnv "BadDeal.__init__" (siS "word") hp.objs.size fI (.ref cda) cc) (Md.glob.keeps fun b o e => k b o (hbk b o e)) T.sg (hb.keeps fun b o e => k b o (hbk b o e))
    ((hmb _ (by decide +kernel)).trans (by first | boot_by_name | rfl | kernel_rfl)) ⟨rfl, ?_⟩)
  refine wpAny_loadName_free rfl rfl rfl ⟨_, X₁ _ _ hcell, rfl⟩ ?_
  refine wpAny_loadName_local (v := .ref x) rfl rfl hns (by first | rfl | with_unfolding_all rfl | kernel_rfl) ?_
  refine ks_wpAny_isType_cls hD1 rfl ⟨rfl, ?_⟩
  refine ks_wpAny_call_super hD1 rfl hx₁ rfl (fun c e => by cases e) (looks_mroIn X₁ T.mC) (fun h₂ hso k₂ => ?_)
  have X₂ : K.In h₂ := X₁.keeps k₂
  have hxC : x ≠ C := fun z => by
    have e := hx₁
    rw [z, hD1] at e
    cases e
  have hin : Looks (model P w) h₂ (isInstance (.ref x) (.type "ValueError")) true := (InstAt.type (ox := excO C t0) (od := none) ⟨k₂ _ _ hx₁, rfl, rfl, trivial⟩).andThen (looks_subIn X₂ T.sv)
  have hal : alongIn K "__init__" (((Value.ref C :: bm).dropWhile (· != .ref C)).drop 1) = some (some (.builtin "ValueError.__init__")) := by
    have e := T.su
    unfold ks_superIn at e
    rw [hcl] at e
    exact e
  refine kxs_getMethod kxs_ValueError (l₀ := .ref C :: bm) hso (looks_opaque X₂ T.th) (fun A Q E s k q => wpAny_bind ((looks_clsIn X₂ hcl) A _ E s k (wpAny_pure q))) rfl X₂ hal hin hxC rfl ?_
  have k₃ : ∀ b o, h₂.get? b = some o → (h₂.push (kxs_mw "ValueError.__init__" x)).get? b = some o := fun b o e => Heap.get?_push_of_some _ e
  refine kxs_callWith (i := "ValueError.__init__") (x := x) rfl (Calls.evalArgs_plain (Calls.spliced_cons (wpAny_Constant_str (pos := q4) (k := 0) (Calls.spliced_nil ⟨Heap.get?_push_at rfl rfl, ?_⟩))))
  refine sup_call (X₂.keeps k₃ _ _ hC) (k₃ _ _ (k₂ _ _ hx₁)) (Heap.get?_push_at rfl rfl) (sup_one _) (fun h₄ t1 k₄ hx₄ => ?_)
  have kk : ∀ b o, b ≠ x → h₁.get? b = some o → h₄.get? b = some o := fun b o hbx e => k₄ b o hbx (k₃ b o (k₂ b o e))
  have X₄ : K.In h₄ := fun b o e => kk b o (fun z => by
    have e2 := Md.kin b o e
    rw [z, xb] at e2
    cases e2) (X₁ b o e)
  have hxL : hp.objs.size ≠ x := Nat.ne_of_gt (Heap.lt_size hx)
  have hn₄ : h₄.Ns hp.objs.size (fun y => [(("self" : Str), Value.ref x), (("word" : Str), v)].reverse.lookup y) := by
    obtain ⟨oL, es, ep, hL, r⟩ := hns
    exact ⟨oL, es, ep, kk _ _ hxL hL, r⟩
  refine ks_wpAt_execs_cons (wpAt_of_wpAny (plainObj_wpAny_Assign_Attribute ?_))
  refine wpAny_Name (wpAny_loadName_local (v := v) rfl rfl hn₄ (by first | rfl | with_unfolding_all rfl | kernel_rfl) (wpAny_Name (wpAny_loadName_local (v := .ref x) rfl rfl hn₄ (by first | rfl | with_unfolding_all rfl | kernel_rfl) ?_)))
  refine set_plain X₄ (ox := excO C t1) (od := none) ⟨hx₄, rfl, rfl, trivial⟩ T.sa ?_
  refine exc_osa X₄ hx₄ hcl (show refsVE (.ref C :: bm) = true from hbm) rfl T.noN (fun h₅ tk₅ dx k₅ dn dne hx₅ hn₅ => ?_)
  refine wpAt_of_wpAny (wpAny_execs_nil (hq h₅ tk₅ dx t1 ⟨fun b o hbx e => k₅ b o hbx (kk b o hbx (k b o e)), hx₅, ?_, dne, hn₅⟩))
  obtain ⟨oL, es, ep, hL, r⟩ := hn₄
  exact Nat.le_of_lt (Nat.lt_of_lt_of_le (Heap.lt_size hL) dn)
theorem sup_init_BadFamily (T : SupTxt P K mg "BadFamily" "place" "a family is wanted" "BadFamily.__init__" ⟨19, 8, 19, 24⟩ ⟨19, 8, 19, 46⟩ C fI) (Md : L2.Mod K mg base) (hbk : ∀ b o, base.get? b = some o → s.heap.get? b = some o) {x t0 : Addr} {v : Value} (hx : s.heap.get? x = some (excO C t0)) (xb : base.get? x = none) (hroom : A.depth < recursionLimit)
    (hq : ∀ h' tk dx t1, SupEnd s.heap h' x C dx t1 "place" v → R (.ok (.ret .none)) { s with heap := h', toks := tk }) :
    codeAny (model P w) A (.call (.ref fI) ⟨[.ref x, v], []⟩) R s := by
  obtain ⟨oc, od, doc, pm, an, cda, ct, osl, cc, p1, p2, q1, q2, q4, q6, q7, q8, q9, r1, ccl, cdd, vs, ccs, file, tf, cl, cld, csl, ho, hcd, hcode, hvs, hfile, hcell⟩ := T.fn
  obtain ⟨nm, q, N, bs, bm, sn, sub, ab, col, dd, k0, k1, k2, k3, k5, hC, hbm⟩ := T.cls
  have X : K.In s.heap := Md.kin.keeps hbk
  have hcl : clsIn K C = some { name := nm, bases := bs, mro := .ref C :: bm, ns := N, qualname := q, hasDict := true, slotNames := sn, subclasses := sub, abstract := ab, collection := col, hasDel := false } := by unfold clsIn; rw [hC] <;> rfl
  refine ks_codeAny_call_defAt (fd := ksFn "__init__" "BadFamily.__init__" (siA "place" p1 p2) (siB "place" "a family is wanted" q1 q2 ⟨19, 8, 19, 24⟩ q4 ⟨19, 8, 19, 46⟩ q6 q7 q8 q9 r1) (siS "place") .none .none doc pm an (.ref cda) ct cc) (body := siB "place" "a family is wanted" q1 q2 ⟨19, 8, 19, 24⟩ q4 ⟨19, 8, 19, 46⟩ q6 q7 q8 q9 r1)
    (binds := [("self", .ref x), ("place", v)]) hroom (X _ _ ho) rfl (Md.nolimit.keeps hbk) (codeRec_of X hcd) rfl (BindsTo.of_eq (by first | rfl | with_unfolding_all rfl)) (show ∀ y ∈ (siS "place").names, y.2 ≠ .cell from by decide) (locs rfl) (fun h₁ hns k => ?_) rfl rfl rfl
  have X₁ : K.In h₁ := X.keeps k
  have hx₁ := k _ _ hx
  have hD1 := X₁ _ _ hC
  have lt : s.heap.objs.size < h₁.objs.size := hns.lt
  obtain ⟨mb, hb, hmb⟩ := Md.blt
  obtain ⟨hp, g, d, t, os⟩ := s
  show _root_.PySem.wpAt (model P w) (A.deeper (ksEnv "BadFamily.__init__" (siS "place") hp.objs.size fI (.ref cda) cc)) (.func (siB "place" "a family is wanted" q1 q2 ⟨19, 8, 19, 24⟩ q4 ⟨19, 8, 19, 46⟩ q6 q7 q8 q9 r1) (ksEnv "BadFamily.__init__" (siS "place") hp.objs.size fI (.ref cda) cc)) (execs (siB "place" "a family is wanted" q1 q2 ⟨19, 8, 19, 24⟩ q4 ⟨19, 8, 19, 46⟩ q6 q7 q8 q9 r1) (ksEnv "BadFamily.__init__" (siS "place") hp.objs.size fI (.ref cda) cc)) _ _ _
  refine ks_wpAt_execs_cons ?_
  refine ks_wpAt_Expr_any ?_
  refine ks_wpAt_MethodCall (pl := _) ?_ (by first | rfl | with_unfolding_all rfl)
  refine ks_wpAt_super_base (env := ksEnv "BadFamily.__init__" (siS "place") hp.objs.size fI (.ref cda) cc) rfl rfl rfl rfl (X₁ _ _ ho) rfl rfl rfl (X₁ _ _ hcode) rfl hvs hfile T.pt ?_
  refine ks_loadName_global rfl rfl (loadGlobal_builtin (env := ksEnv "BadFamily.__init__" (siS "place") hp.objs.size fI (.ref cda) cc) (Md.glob.keeps fun b o e => k b o (hbk b o e)) T.sg (hb.keeps fun b o e => k b o (hbk b o e))
    ((hmb _ (by decide +kernel)).trans (by first | boot_by_name | rfl | kernel_rfl)) ⟨rfl, ?_⟩)
  refine wpAny_loadName_free rfl rfl rfl ⟨_, X₁ _ _ hcell, rfl⟩ ?_
  refine wpAny_loadName_local (v := .ref x) rfl rfl hns (by first | rfl | with_unfolding_all rfl | kernel_rfl) ?_
  refine ks_wpAny_isType_cls hD1 rfl ⟨rfl, ?_⟩
  refine ks_wpAny_call_super hD1 rfl hx₁ rfl (fun c e => by cases e) (looks_mroIn X₁ T.mC) (fun h₂ hso k₂ => ?_)
  have X₂ : K.In h₂ := X₁.keeps k₂
  have hxC : x ≠ C := fun z => by
    have e := hx₁
    rw [z, hD1] at e
    cases e
  have hin : Looks (model P w) h₂ (isInstance (.ref x) (.type "ValueError")) true := (InstAt.type (ox := excO C t0) (od := none) ⟨k₂ _ _ hx₁, rfl, rfl, trivial⟩).andThen (looks_subIn X₂ T.sv)
  have hal : alongIn K "__init__" (((Value.ref C :: bm).dropWhile (· != .ref C)).drop 1) = some (some (.builtin "ValueError.__init__")) := by
    have e := T.su
    unfold ks_superIn at e
    rw [hcl] at e
    exact e
  refine kxs_getMethod kxs_ValueError (l₀ := .ref C :: bm) hso (looks_opaque X₂ T.th) (fun A Q E s k q => wpAny_bind ((looks_clsIn X₂ hcl) A _ E s k (wpAny_pure q))) rfl X₂ hal hin hxC rfl ?_
  have k₃ : ∀ b o, h₂.get? b = some o → (h₂.push (kxs_mw "ValueError.__init__" x)).get? b = some o := fun b o e => Heap.get?_push_of_some _ e
  refine kxs_callWith (i := "ValueError.__init__") (x := x) rfl (Calls.evalArgs_plain (Calls.spliced_cons (wpAny_Constant_str (pos := q4) (k := 0) (Calls.spliced_nil ⟨Heap.get?_push_at rfl rfl, ?_⟩))))
  refine sup_call (X₂.keeps k₃ _ _ hC) (k₃ _ _ (k₂ _ _ hx₁)) (Heap.get?_push_at rfl rfl) (sup_one _) (fun h₄ t1 k₄ hx₄ => ?_)
  have kk : ∀ b o, b ≠ x → h₁.get? b = some o → h₄.get? b = some o := fun b o hbx e => k₄ b o hbx (k₃ b o (k₂ b o e))
  have X₄ : K.In h₄ := fun b o e => kk b o (fun z => by
    have e2 := Md.kin b o e
    rw [z, xb] at e2
    cases e2) (X₁ b o e)
  have hxL : hp.objs.size ≠ x := Nat.ne_of_gt (Heap.lt_size hx)
  have hn₄ : h₄.Ns hp.objs.size (fun y => [(("self" : Str), Value.ref x), (("place" : Str), v)].reverse.lookup y) := by
    obtain ⟨oL, es, ep, hL, r⟩ := hns
    exact ⟨oL, es, ep, kk _ _ hxL hL, r⟩
  refine ks_wpAt_execs_cons (wpAt_of_wpAny (plainObj_wpAny_Assign_Attribute ?_))
  refine wpAny_Name (wpAny_loadName_local (v := v) rfl rfl hn₄ (by first | rfl | with_unfolding_all rfl | kernel_rfl) (wpAny_Name (wpAny_loadName_local (v := .ref x) rfl rfl hn₄ (by first | rfl | with_unfolding_all rfl | kernel_rfl) ?_)))
  refine set_plain X₄ (ox := excO C t1) (od := none) ⟨hx₄, rfl, rfl, trivial⟩ T.sa ?_
  refine exc_osa X₄ hx₄ hcl (show refsVE (.ref C :: bm) = true from hbm) rfl T.noN (fun h₅ tk₅ dx k₅ dn dne hx₅ hn₅ => ?_)
  refine wpAt_of_wpAny (wpAny_execs_nil (hq h₅ tk₅ dx t1 ⟨fun b o hbx e => k₅ b o hbx (kk b o hbx (k b o e)), hx₅, ?_, dne, hn₅⟩))
  obtain ⟨oL, es, ep, hL, r⟩ := hn₄
  exact Nat.le_of_lt (Nat.lt_of_lt_of_le (Heap.lt_size hL) dn)
end
end AB

set_option Elab.async false
set_option linter.all false
set_option maxRecDepth 100000
set_option maxHeartbeats 4000000
/-! Own errors made: the rule MkRule. -/
namespace AB
open PySem PySem.W PySem.Calls PyProof.Rows PySem.HandSPX
theorem relO_sup {v : L2.V} {v' : Value} (r : L2.RelV v v') (k f : Str) : L2.RelO (List.lookup f [(k, v)]) (if f = k then some v' else none) := by
  by_cases hw : f = k
  · subst hw
    rw [if_pos rfl]
    have q : List.lookup f [(f, v)] = some v := by simp [List.lookup]
    rw [q]
    exact r
  · rw [if_neg hw]
    have qw : (f == k) = false := by simpa using hw
    have q2 : List.lookup f [(k, v)] = none := by simp [List.lookup, qw]
    rw [q2]
    trivial
section
variable {P : Program} {w : World} {A : Around} {R : Result → Shared → Prop} {s : Shared} {K : Frag} {mg : Str → Option Value} {base : Heap} {C fI : Addr}
theorem sup_made_BadDeal (T : SupTxt P K mg "BadDeal" "word" "a deal is wanted" "BadDeal.__init__" ⟨24, 8, 24, 24⟩ ⟨24, 8, 24, 44⟩ C fI) (Md : L2.Mod K mg base) (hbk : ∀ b o, base.get? b = some o → s.heap.get? b = some o) {v : Value} (hroom : A.depth + 1 < recursionLimit)
    (hq : ∀ h' tk e d, SupMade s.heap h' e C d "word" v → R (.ok (.ret (.ref e))) { s with heap := h', toks := tk }) :
    codeAny (model P w) A (.call (.ref C) ⟨[v], []⟩) R s := by
  obtain ⟨nm, q, N, bs, bm, sn, sub, ab, col, dd, k0, k1, k2, k3, k5, hC, hbm⟩ := T.cls
  obtain ⟨hp, g, dr, tk, os⟩ := s
  have X : K.In hp := Md.kin.keeps hbk
  have k : ∀ b o, hp.get? b = some o → ((hp.push (kdv_tup [v])).push (excO C hp.objs.size)).get? b = some o := fun b o e => Heap.get?_push_of_some _ (Heap.get?_push_of_some _ e)
  have hget : ((hp.push (kdv_tup [v])).push (excO C hp.objs.size)).get? (hp.objs.size + 1) = some (excO C hp.objs.size) := by heap_get
  have hnb : base.get? (hp.objs.size + 1) = none := by
    cases e : base.get? (hp.objs.size + 1) with
    | none => rfl
    | some o =>
      have z : hp.get? (hp.objs.size + 1) = some o := hbk _ _ e
      exact absurd (Nat.lt_of_succ_lt (Heap.lt_size z)) (Nat.lt_irrefl _)
  refine call_own F.excBase_ValueError (fun X => refsVE_contains X bm hbm) (X _ _ hC) (looks_findIn X T.iC) (fun self => bind_fn X self T.tC) (sup_one v) ?_
  refine sup_init_BadDeal (s := ⟨(hp.push (kdv_tup [v])).push (excO C hp.objs.size), g, dr, tk, os⟩) T Md (fun b o e => k b o (hbk b o e)) hget hnb ?_ fun h' tk' dx t1 ⟨k', hx, dn, dne, hns⟩ => ?_
  · show A.depth + 1 < recursionLimit
    exact hroom
  · have old : ∀ b o, hp.get? b = some o → h'.get? b = some o := fun b o e => k' b o (Nat.ne_of_lt (Nat.lt_succ_of_lt (Heap.lt_size e))) (k b o e)
    have z : hp.objs.size + 1 + 1 ≤ dx := by
      first
        | (simpa only [Heap.size_push] using dn)
        | exact dn
        | (have q := dn; rw [Heap.size_push, Heap.size_push] at q; exact q)
    exact ⟨rfl, hq h' tk' (hp.objs.size + 1) dx ⟨old, Nat.le_succ _, ⟨_, _, hx, rfl, rfl, rfl, rfl⟩, Nat.le_trans (Nat.le_trans (Nat.le_succ _) (Nat.le_succ _)) z, dne, hns⟩⟩
end
section
open PySem PySem.Spec PyProof.Rows L2
theorem mk_BadDeal {P : Program} {K : PySem.W.Frag} {mg : Str → Option Value} {C fI : Addr} (T : SupTxt P K mg "BadDeal" "word" "a deal is wanted" "BadDeal.__init__" ⟨24, 8, 24, 24⟩ ⟨24, 8, 24, 44⟩ C fI) : MkRule P K mg "BadDeal" "word" C := by
  intro X a ta p pos hP hK hM hr hg ha he hpl
  subst hP
  subst hK
  subst hM
  intro pins s σ H Q I h
  refine wpAny_Call_Name_kw (ld_glob I hg T.gC ?_)
  refine PySem.W.callWith_K (h₀ := X.base) I.ok.mod.kin T.kC (L2.thn (ha.run pos pins s σ H _ I h) fun us s1 hh => ?_) he hpl
  obtain ⟨vs, H1, I1, r1, v, ev, q1⟩ := hh
  subst ev
  refine ⟨I1.kIn, ?_⟩
  cases r1 with
  | cons rv rn =>
    rename_i v' us'
    cases rn
    show wpAny _ _ (call (.ref C) [v']) _ _ _
    have hbk := I1.bk
    obtain ⟨hp, g, dr, tk, os⟩ := s1
    refine wpAny_call (sup_made_BadDeal T I1.mod hbk (by have := hr.dp; omega) fun h' tk' e d M => ?_)
    show MkP X pins σ Q (.ref e) ⟨h', g, dr, tk', os⟩
    obtain ⟨oe, fv, hoe, hc, hd, hdat, h1⟩ := M.obj
    have hns := M.ns
    obtain ⟨G', g1, g2⟩ := restrict h' fun b => decide (b ≠ e)
    have gk : ∀ b, b ≠ e → G'.get? b = h'.get? b := fun b hb => g1 b (decide_eq_true hb)
    have ge : G'.get? e = none := g2 e (by simp)
    have old : ∀ b o, hp.get? b = some o → G'.get? b = some o := fun b o q => (gk b (Nat.ne_of_lt (Nat.lt_of_lt_of_le (Heap.lt_size q) M.new))).trans (M.keep b o q)
    have ob : ObjOk X.prog X.w (upd H1 d (.xd [(("word" : Str), v)])) G' d (.xd [(("word" : Str), v)]) :=
      ⟨_, hns.at (fun o q => (gk d M.dne).trans q), fun f => relO_sup rv _ f⟩
    have J : Inv X pins σ (upd H1 d (.xd [(("word" : Str), v)])) ⟨G', g, dr, tk', os⟩ := I1.laid (t' := tk') old M.dbig ob
    refine ⟨e, oe, fv, ⟨G', g, dr, tk', os⟩, _, .ref C, some d, rfl, J, fun b o q => ?_, ge, hoe, ⟨hc, hd⟩, hdat, h1, ?_, rfl, I1.bare, raises_own T.exC T.tyC, q1 d (I1.hok.fresh M.dbig)⟩
    · by_cases hb : b = e
      · have q' : G'.get? b = some o := q
        rw [hb, ge] at q'; cases q'
      · exact (gk b hb).symm.trans q
    · rw [upd_ne (Ne.symm M.dne)]
      exact I1.hok.fresh M.new
end
section
variable {P : Program} {w : World} {A : Around} {R : Result → Shared → Prop} {s : Shared} {K : Frag} {mg : Str → Option Value} {base : Heap} {C fI : Addr}
theorem sup_made_BadFamily (T : SupTxt P K mg "BadFamily" "place" "a family is wanted" "BadFamily.__init__" ⟨19, 8, 19, 24⟩ ⟨19, 8, 19, 46⟩ C fI) (Md : L2.Mod K mg base) (hbk : ∀ b o, base.get? b = some o → s.heap.get? b = some o) {v : Value} (hroom : A.depth + 1 < recursionLimit)
    (hq : ∀ h' tk e d, SupMade s.heap h' e C d "place" v → R (.ok (.ret (.ref e))) { s with heap := h', toks := tk }) :
    codeAny (model P w) A (.call (.ref C) ⟨[v], []⟩) R s := by
  obtain ⟨nm, q, N, bs, bm, sn, sub, ab, col, dd, k0, k1, k2, k3, k5, hC, hbm⟩ := T.cls
  obtain ⟨hp, g, dr, tk, os⟩ := s
  have X : K.In hp := Md.kin.keeps hbk
  have k : ∀ b o, hp.get? b = some o → ((hp.push (kdv_tup [v])).push (excO C hp.objs.size)).get? b = some o := fun b o e => Heap.get?_push_of_some _ (Heap.get?_push_of_some _ e)
  have hget : ((hp.push (kdv_tup [v])).push (excO C hp.objs.size)).get? (hp.objs.size + 1) = some (excO C hp.objs.size) := by heap_get
  have hnb : base.get? (hp.objs.size + 1) = none := by
    cases e : base.get? (hp.objs.size + 1) with
    | none => rfl
    | some o =>
      have z : hp.get? (hp.objs.size + 1) = some o := hbk _ _ e
      exact absurd (Nat.lt_of_succ_lt (Heap.lt_size z)) (Nat.lt_irrefl _)
  refine call_own F.excBase_ValueError (fun X => refsVE_contains X bm hbm) (X _ _ hC) (looks_findIn X T.iC) (fun self => bind_fn X self T.tC) (sup_one v) ?_
  refine sup_init_BadFamily (s := ⟨(hp.push (kdv_tup [v])).push (excO C hp.objs.size), g, dr, tk, os⟩) T Md (fun b o e => k b o (hbk b o e)) hget hnb ?_ fun h' tk' dx t1 ⟨k', hx, dn, dne, hns⟩ => ?_
  · show A.depth + 1 < recursionLimit
    exact hroom
  · have old : ∀ b o, hp.get? b = some o → h'.get? b = some o := fun b o e => k' b o (Nat.ne_of_lt (Nat.lt_succ_of_lt (Heap.lt_size e))) (k b o e)
    have z : hp.objs.size + 1 + 1 ≤ dx := by
      first
        | (simpa only [Heap.size_push] using dn)
        | exact dn
        | (have q := dn; rw [Heap.size_push, Heap.size_push] at q; exact q)
    exact ⟨rfl, hq h' tk' (hp.objs.size + 1) dx ⟨old, Nat.le_succ _, ⟨_, _, hx, rfl, rfl, rfl, rfl⟩, Nat.le_trans (Nat.le_trans (Nat.le_succ _) (Nat.le_succ _)) z, dne, hns⟩⟩
end
section
open PySem PySem.Spec PyProof.Rows L2
theorem mk_BadFamily {P : Program} {K : PySem.W.Frag} {mg : Str → Option Value} {C fI : Addr} (T : SupTxt P K mg "BadFamily" "place" "a family is wanted" "BadFamily.__init__" ⟨19, 8, 19, 24⟩ ⟨19, 8, 19, 46⟩ C fI) : MkRule P K mg "BadFamily" "place" C := by
  intro X a ta p pos hP hK hM hr hg ha he hpl
  subst hP
  subst hK
  subst hM
  intro pins s σ H Q I h
  refine wpAny_Call_Name_kw (ld_glob I hg T.gC ?_)
  refine PySem.W.callWith_K (h₀ := X.base) I.ok.mod.kin T.kC (L2.thn (ha.run pos pins s σ H _ I h) fun us s1 hh => ?_) he hpl
  obtain ⟨vs, H1, I1, r1, v, ev, q1⟩ := hh
  subst ev
  refine ⟨I1.kIn, ?_⟩
  cases r1 with
  | cons rv rn =>
    rename_i v' us'
    cases rn
    show wpAny _ _ (call (.ref C) [v']) _ _ _
    have hbk := I1.bk
    obtain ⟨hp, g, dr, tk, os⟩ := s1
    refine wpAny_call (sup_made_BadFamily T I1.mod hbk (by have := hr.dp; omega) fun h' tk' e d M => ?_)
    show MkP X pins σ Q (.ref e) ⟨h', g, dr, tk', os⟩
    obtain ⟨oe, fv, hoe, hc, hd, hdat, h1⟩ := M.obj
    have hns := M.ns
    obtain ⟨G', g1, g2⟩ := restrict h' fun b => decide (b ≠ e)
    have gk : ∀ b, b ≠ e → G'.get? b = h'.get? b := fun b hb => g1 b (decide_eq_true hb)
    have ge : G'.get? e = none := g2 e (by simp)
    have old : ∀ b o, hp.get? b = some o → G'.get? b = some o := fun b o q => (gk b (Nat.ne_of_lt (Nat.lt_of_lt_of_le (Heap.lt_size q) M.new))).trans (M.keep b o q)
    have ob : ObjOk X.prog X.w (upd H1 d (.xd [(("place" : Str), v)])) G' d (.xd [(("place" : Str), v)]) :=
      ⟨_, hns.at (fun o q => (gk d M.dne).trans q), fun f => relO_sup rv _ f⟩
    have J : Inv X pins σ (upd H1 d (.xd [(("place" : Str), v)])) ⟨G', g, dr, tk', os⟩ := I1.laid (t' := tk') old M.dbig ob
    refine ⟨e, oe, fv, ⟨G', g, dr, tk', os⟩, _, .ref C, some d, rfl, J, fun b o q => ?_, ge, hoe, ⟨hc, hd⟩, hdat, h1, ?_, rfl, I1.bare, raises_own T.exC T.tyC, q1 d (I1.hok.fresh M.dbig)⟩
    · by_cases hb : b = e
      · have q' : G'.get? b = some o := q
        rw [hb, ge] at q'; cases q'
      · exact (gk b hb).symm.trans q
    · rw [upd_ne (Ne.symm M.dne)]
      exact I1.hok.fresh M.new
end
end AB

set_option Elab.async false
set_option linter.all false
set_option maxRecDepth 100000
set_option maxHeartbeats 4000000
/-! The law's own call, from a promise of the kind FnG. -/
namespace AB
open PySem PySem.Spec PyProof.Rows L2
section
variable {P : Program} {w : World} {K : PySem.W.Frag} {mg mb : Str → Option Value} {k : Nat} {fa a : Addr} {fd : FuncData} {x : Str} {sp : Sp} {s₁ : Shared} {vs : List Value} {ns : List Int}
/-- what is tracked at the law's entry: the script, or nothing -/
structure Entry (K : PySem.W.Frag) (h : Heap) (a : Addr) (vs : List Value) (ns : List Int) (H : Hp) : Prop where
  only : Only H
  sq : SqL K H a (ns.map V.int)
  at_ : ∀ b u, H b = some u → b = a ∧ u = .frz { cls := .type "list", data := .seq vs.toArray } (.lst (ns.map V.int))
  out : ∀ u, H a = some u → K.lookup a = none
theorem entry_any (KX : K.In s₁.heap) (ha : s₁.heap.get? a = some { cls := .type "list", data := .seq vs.toArray }) (hi : IntsAre vs ns) (hl : ns.length ≤ sizeLine) : ∃ H, Entry K s₁.heap a vs ns H := by
  cases hk : K.lookup a with
  | some o =>
    have e := KX a o hk
    rw [ha] at e
    cases e
    exact ⟨fun _ => none, fun _ => .inl rfl, .inr ⟨_, vs.toArray, _, hk, rfl, rfl, rfl, by rw [List.size_toArray, hi.length]; exact hl, by simpa using vals_ints hi⟩, fun _ _ e => (nomatch e), fun _ e => (nomatch e)⟩
  | none =>
    refine ⟨fun b => if b = a then some (.frz { cls := .type "list", data := .seq vs.toArray } (.lst (ns.map V.int))) else none, fun b => ?_, .inl (.inr ⟨_, if_pos rfl⟩), fun b u e => ?_, fun _ _ => hk⟩
    · by_cases hb : b = a
      · exact .inr ⟨_, _, if_pos hb⟩
      · exact .inl (if_neg hb)
    · by_cases hb : b = a
      · rw [if_pos hb] at e
        exact ⟨hb, (Option.some.inj e).symm⟩
      · rw [if_neg hb] at e
        cases e
theorem entry_env {H : Hp} (J : Entry K s₁.heap a vs ns H) (KX : K.In s₁.heap) (hns : s₁.heap.Ns mainGlobals mg) (hb : s₁.heap.Ns builtinsNs mb) (hbb : ∀ x : Str, x ≠ "__name__" → mb x = bootBuiltins x) (hlim : s₁.heap.NoLimit) (hg : s₁.gens = #[])
    (ha : s₁.heap.get? a = some { cls := .type "list", data := .seq vs.toArray }) (hi : IntsAre vs ns) (hl : ns.length ≤ sizeLine) : Env0 P w K mg (hidT s₁.heap H) callerA [] s₁ H := by
  have old : ∀ {b : Addr} {o : Obj}, s₁.heap.get? b = some o → (∀ vs', o.data ≠ .seq vs') → (hidT s₁.heap H).get? b = some o := fun {b o} e n => hidT_get e (by
    cases q : H b with
    | none => rfl
    | some u =>
      obtain ⟨rfl, _⟩ := J.at_ b u q
      rw [ha] at e
      cases e
      exact absurd rfl (n _))
  have nsK : ∀ {b : Addr} {m : Str → Option Value}, s₁.heap.Ns b m → (hidT s₁.heap H).Ns b m := fun {b m} ⟨o, es, ep, e, d, r⟩ => ⟨o, es, ep, old e (fun vs' z => by rw [d] at z; cases z), d, r⟩
  have hK : K.In (hidT s₁.heap H) := fun b o e => hidT_get (KX b o e) (by
    cases q : H b with
    | none => rfl
    | some u =>
      obtain ⟨rfl, _⟩ := J.at_ b u q
      rw [J.out u q] at e
      cases e)
  have hok : HOk P w H s₁.heap := fun b u e => by
    obtain ⟨rfl, rfl⟩ := J.at_ b u e
    exact ⟨ha, by rw [List.length_map]; exact hl, vs, _, vals_ints hi, ha⟩
  exact ⟨rfl, ⟨hK, nsK hns, ⟨mb, nsK hb, hbb⟩, let ⟨mc, h1, h2⟩ := hlim; ⟨mc, nsK h1, h2⟩⟩, fun b o e => of_hidT e, Nat.le_of_eq (hidT_size _ _), trivial, fun b hb => absurd (show b ∈ ([] : List Addr) from hb) (by simp), hok, .of_eq hg⟩
theorem law_g (KX : K.In s₁.heap) (hns : s₁.heap.Ns mainGlobals mg) (hb : s₁.heap.Ns builtinsNs mb) (hbb : ∀ x : Str, x ≠ "__name__" → mb x = bootBuiltins x) (hlim : s₁.heap.NoLimit) (hg : s₁.gens = #[])
    (ha : s₁.heap.get? a = some { cls := .type "list", data := .seq vs.toArray }) (hi : IntsAre vs ns) (hl : ns.length ≤ sizeLine) (hr : Room k callerA)
    (F : ∀ base : Heap, K.In base → base.Ns mainGlobals mg → FnG P w K mg base k fa fd [x] sp) (hbind : ∀ (s : Shared) (u : Value), BindsTo s fd ⟨[u], []⟩ [(x, u)])
    (hsp : ∀ H : Hp, Only H → SqL K H a (ns.map V.int) → sp [.ref a] H (fun v _ => v = .bl true) E0) :
    codeAny (model P w) callerA (.call (.ref fa) ⟨[.ref a], []⟩) (fun r s' => r = .ok (.ret (.bool true)) ∧ OldK s₁.heap s'.heap ∧ s'.os = s₁.os ∧ AllBare s'.gens) s₁ := by
  obtain ⟨H, J⟩ := entry_any KX ha hi hl
  have e0 : Env0 P w K mg (hidT s₁.heap H) callerA [] s₁ H := entry_env J KX hns hb hbb hlim hg ha hi hl
  refine codeAny_mono ((F _ e0.mod.kin e0.mod.glob).run callerA [] s₁ H ⟨[.ref a], []⟩ [.ref a] [.ref a] _ _ hr rfl e0 (hbind s₁ (.ref a)) (.cons rfl .nil) (hsp H J.only J.sq)) fun r s' h => ?_
  cases r with
  | error e => exact False.elim h
  | ok fl =>
    cases fl with
    | next => exact False.elim h
    | brk => exact False.elim h
    | cont => exact False.elim h
    | ret u =>
      obtain ⟨v, H', os, bare, un, hok', r', q⟩ := h
      obtain rfl : v = .bl true := q
      obtain rfl : u = Value.bool true := r'
      refine ⟨rfl, OldK.of_keep fun b o e => ?_, os, bare⟩
      cases q : H b with
      | none => exact un.keep b o e q (by intro z; exact absurd (show b ∈ ([] : List Addr) from z) (by simp)) (by simp)
      | some u =>
        obtain ⟨rfl, rfl⟩ := J.at_ b u q
        rw [ha] at e
        cases e
        exact (hok' b _ (un.frzs b _ _ q)).1
end
end AB

set_option Elab.async false
set_option linter.all false
set_option maxRecDepth 100000
set_option maxHeartbeats 4000000
/-! The script, read off the entry. -/
namespace AB
open PySem PySem.Spec PyProof.Rows L2
theorem dps_of_ints {K : PySem.W.Frag} {G : Hp} : ∀ ns : List Int, DpAll K G (ns.map V.int) (ns.map PyData.int)
  | [] => .nil
  | i :: l => .cons (.int i) (dps_of_ints l)
theorem law_sp (K : PySem.W.Frag) (H : Hp) (a : Addr) (ns : List Int) (hl : ns.length ≤ 100000) (hS : SqL K H a (ns.map V.int)) : gSp K sp_law [.ref a] H (fun v _ => v = .bl true) E0 :=
  ⟨H, fun _ => none, [.d (.list (ns.map .int))], fun v _ => v = .d (.bool true), fun _ _ => False, ⟨Same.refl _, fun _ _ e => (nomatch e)⟩, .cons (.lst hS (dps_of_ints _)) .nil, ⟨ns, rfl, hl, fun _ => rfl⟩,
    fun v av G' C' H' _ r e => by
      subst e
      cases (show Dp K G' v (.bool true) from r)
      rfl, fun _ _ _ _ _ _ _ _ _ _ _ z => z.elim⟩
end AB

set_option Elab.async false
set_option linter.all false
set_option maxRecDepth 100000
set_option maxHeartbeats 4000000
/-! The head's data: the defs, the facts, an own Hook (the errors' __init__ beside). Printed by D4.py. -/
namespace AB
open PySem PySem.Spec PyProof.Rows L2
/-! ### own errors: what the heap says -/
abbrev InV : Type := Option (Str × Str × Arguments × FuncBody × Scope × Addr × List Str × Value × Value × Addr)
def inObs (K : PySem.W.Frag) (f : Addr) : InV := match K.lookup f with
  | some ⟨_, _, .func fd, _⟩ => some (fd.name, fd.qualname, fd.params, fd.body, fd.scope, fd.globals, fd.closure.map (·.1), fd.defaults, fd.kwdefaults, fd.builtins)
  | _ => none
def clsB (K : PySem.W.Frag) (C : Addr) : Bool := match K.lookup C with
  | some ⟨.type t, _, .cls cd, sl⟩ => decide (t = "type") && (match cd.mro, sl.toList with
    | .ref C' :: bm, [_, _, _, _, some (.builtin n), _] => decide (C' = C) && (decide (n = "ValueError.__new__") && (!cd.hasDel && (cd.hasDict && HandSPX.refsVE bm)))
    | _, _ => false)
  | _ => false
def codB (K : PySem.W.Frag) (cd : Value) (file qual : Str) : Bool := match cd with
  | .ref cda => PySem.W.codeIn K (.ref cda) qual && (match K.lookup cda with
    | some ⟨_, _, .fields vs, _⟩ => (match (vs[2]? : Option Value) with
      | some (Value.str y _) => decide (y = file)
      | _ => false)
    | _ => false)
  | _ => false
def celB (K : PySem.W.Frag) (cl : List (Str × Addr)) (C : Addr) : Bool := match cl with
  | [(_, cc)] => (match K.lookup cc with
    | some ⟨_, _, .cell (some (.ref c)), _⟩ => decide (c = C)
    | _ => false)
  | _ => false
def inB (K : PySem.W.Frag) (file qual : Str) (C f : Addr) : Bool := match K.lookup f with
  | some ⟨_, _, .func fd, _⟩ => codB K fd.code file qual && celB K fd.closure C
  | _ => false
def supB (K : PySem.W.Frag) (file fld qual : Str) (C f : Addr) : Bool :=
  clsB K C && (He.eqO (PySem.W.findIn K (.ref C) "__setattr__") (some (some (.builtin "object.__setattr__"))) && (He.eqO (PySem.W.findIn K (.ref C) fld) (some none) &&
  (He.eqO (PySem.W.findIn K (.ref C) "__init__") (some (some (.ref f))) && (decide (PySem.W.typeIn K (.ref f) = some (.type "function")) && (PySem.W.keepIn K (.ref C) &&
  (decide (PySem.W.subIn K (.ref C) (.type "BaseException") = some true) && (decide (PySem.W.typeIn K (.ref C) = some (.type "type")) && (He.eqO (PySem.W.ks_superIn K C C "__init__") (some (some (.builtin "ValueError.__init__"))) &&
  (decide (PySem.W.subIn K (.ref C) (.type "ValueError") = some true) && (decide (PySem.W.mroIn K C (.ref C) = some true) && inB K file qual C f))))))))))
open He (ba eqO_ok) in
theorem clsB_ok {K : PySem.W.Frag} {C : Addr} (h : clsB K C = true) : ∃ nm q N bs bm sn sub ab col dd k0 k1 k2 k3 k5, K.lookup C = some (excClassObj nm q C N bs bm true sn sub ab col dd k0 k1 k2 k3 k5 "ValueError.__new__") ∧ HandSPX.refsVE bm = true := by
  unfold clsB at h
  split at h
  · rename_i t dd cd sl ho
    obtain ⟨h1, j1⟩ := ba h
    clear h
    cases of_decide_eq_true h1
    split at j1
    · rename_i C' bm k0 k1 k2 k3 n k5 hm hs
      obtain ⟨h2, j2⟩ := ba j1
      obtain ⟨h3, j3⟩ := ba j2
      obtain ⟨h4, j4⟩ := ba j3
      obtain ⟨h5, h6⟩ := ba j4
      cases of_decide_eq_true h2
      cases of_decide_eq_true h3
      obtain ⟨nm, bs, mro, ns, qn, hd, sn, sub, ab, col, del⟩ := cd
      dsimp only at hm h4 h5
      have h4' : del = false := by simpa using h4
      subst hm h4' h5
      have hsl : sl = #[k0, k1, k2, k3, some (.builtin "ValueError.__new__"), k5] := by
        obtain ⟨l⟩ := sl
        simp only at hs
        rw [hs]
      subst hsl
      exact ⟨nm, qn, ns, bs, bm, sn, sub, ab, col, dd, k0, k1, k2, k3, k5, ho, h6⟩
    · cases j1
  · cases h
theorem codB_ok {K : PySem.W.Frag} {cd : Value} {file qual : Str} (h : codB K cd file qual = true) : ∃ cda ccl cdd vs ccs tf, cd = .ref cda ∧ PySem.W.codeIn K (.ref cda) qual = true ∧ K.lookup cda = some ⟨ccl, cdd, .fields vs, ccs⟩ ∧ vs[2]? = some (.str file tf) := by
  unfold codB at h
  split at h
  · rename_i cda
    obtain ⟨h1, j1⟩ := He.ba h
    clear h
    split at j1
    · rename_i ccl cdd vs ccs ho
      split at j1
      · rename_i y tf e
        cases of_decide_eq_true j1
        exact ⟨cda, ccl, cdd, vs, ccs, tf, rfl, h1, ho, e⟩
      · cases j1
    · cases j1
  · cases h
theorem celB_ok {K : PySem.W.Frag} {cl : List (Str × Addr)} {C : Addr} (h : celB K cl C = true) : ∃ y cc c1 c2 c3, cl = [(y, cc)] ∧ K.lookup cc = some ⟨c1, c2, .cell (some (.ref C)), c3⟩ := by
  unfold celB at h
  split at h
  · rename_i y cc
    split at h
    · rename_i c1 c2 c c3 ho
      cases of_decide_eq_true h
      exact ⟨y, cc, c1, c2, c3, rfl, ho⟩
    · cases h
  · cases h
/-- an own __init__ as the text has it -/
def inVal (qual : Str) (st : Stmt) : InV := some (("__init__" : Str), qual, defArgs st, FuncBody.stmts (defBody st), defScope st, mainGlobals, [("__class__" : Str)], Value.none, Value.none, builtinsNs)
theorem sup_of {P : Program} {K : PySem.W.Frag} {mg : Str → Option Value} {file x fld msg qual : Str} {q3 q5 : Pos} {C f : Addr} {st : Stmt} (h : supB K file fld qual C f = true) (e : inObs K f = inVal qual st)
    (hs : ∃ p1 p2 q1 q2 q4 q6 q7 q8 q9 r1, defArgs st = siA fld p1 p2 ∧ defBody st = siB fld msg q1 q2 q3 q4 q5 q6 q7 q8 q9 r1 ∧ defScope st = siS fld)
    (gC : mg x = some (.ref C)) (sg : mg "super" = none) (th : PySem.W.nsIn K cStatics "thirdparty.any" = some none) (pt : (P.main.scope.names.lookup ("super" : Str)).isSome = false) (hf : P.main.file = file) : SupTxt P K mg x fld msg qual q3 q5 C f := by
  unfold supB at h
  obtain ⟨h1, h⟩ := He.ba h
  obtain ⟨h2, h⟩ := He.ba h
  obtain ⟨h3, h⟩ := He.ba h
  obtain ⟨h4, h⟩ := He.ba h
  obtain ⟨h5, h⟩ := He.ba h
  obtain ⟨h6, h⟩ := He.ba h
  obtain ⟨h7, h⟩ := He.ba h
  obtain ⟨h8, h⟩ := He.ba h
  obtain ⟨h9, h⟩ := He.ba h
  obtain ⟨h10, h⟩ := He.ba h
  obtain ⟨h11, h12⟩ := He.ba h
  obtain ⟨p1, p2, q1, q2, q4, q6, q7, q8, q9, r1, e1, e2, e3⟩ := hs
  refine { gC := gC, cls := clsB_ok h1, sa := He.eqO_ok h2, noN := He.eqO_ok h3, iC := He.eqO_ok h4, tC := of_decide_eq_true h5, kC := h6, exC := of_decide_eq_true h7, tyC := of_decide_eq_true h8, su := He.eqO_ok h9, sv := of_decide_eq_true h10, mC := of_decide_eq_true h11, sg := sg, th := th, pt := pt, fn := ?_ }
  unfold inB at h12
  unfold inObs at e
  cases q : K.lookup f with
  | none =>
    rw [q] at h12
    cases h12
  | some o =>
    obtain ⟨oc, od, dt, osl⟩ := o
    rw [q] at h12 e
    cases dt with
    | func fd =>
      obtain ⟨n1, n2, n3, n4, n5, n6, n7, n8, n9, n10, n11, n12, n13, n14, n15⟩ := fd
      obtain ⟨c1, c2⟩ := He.ba (show (codB K n13 file qual && celB K n7 C) = true from h12)
      obtain ⟨cda, ccl, cdd, vs, ccs, tf, rfl, k1, k2, k3⟩ := codB_ok c1
      obtain ⟨y, cc, cl, cld, csl, rfl, k4⟩ := celB_ok c2
      have e' : (some (n1, n2, n3, n4, n5, n6, [y], n8, n9, n15) : InV) = some (("__init__" : Str), qual, defArgs st, FuncBody.stmts (defBody st), defScope st, mainGlobals, [("__class__" : Str)], Value.none, Value.none, builtinsNs) := e
      simp only [Option.some.injEq, Prod.mk.injEq, List.cons.injEq, and_true] at e'
      obtain ⟨z1, z2, z3, z4, z5, z6, z7, z8, z9, z10⟩ := e'
      rw [e1] at z3
      rw [e2] at z4
      rw [e3] at z5
      subst z1 z2 z3 z4 z5 z6 z7 z8 z9 z10
      exact ⟨oc, od, n10, n11, n12, cda, n14, osl, cc, p1, p2, q1, q2, q4, q6, q7, q8, q9, r1, ccl, cdd, vs, ccs, file, tf, cl, cld, csl, rfl, k1, k2, k3, by rw [hf]; exact beq_self_eq_true _, k4⟩
    | _ => cases h12

/-! ### the data -/
def dd_is_whole : He.DefD := ⟨("is_whole", none), "is_whole", "is_whole", defArgs s_is_whole, defBody s_is_whole, defScope s_is_whole, [], []⟩
def dd_is_within : He.DefD := ⟨("is_within", none), "is_within", "is_within", defArgs s_is_within, defBody s_is_within, defScope s_is_within, [], []⟩
def dd_is_truth : He.DefD := ⟨("is_truth", none), "is_truth", "is_truth", defArgs s_is_truth, defBody s_is_truth, defScope s_is_truth, [], []⟩
def dd_is_tuple_of : He.DefD := ⟨("is_tuple_of", none), "is_tuple_of", "is_tuple_of", defArgs s_is_tuple_of, defBody s_is_tuple_of, defScope s_is_tuple_of, [], []⟩
def dd_is_word_of : He.DefD := ⟨("is_word_of", none), "is_word_of", "is_word_of", defArgs s_is_word_of, defBody s_is_word_of, defScope s_is_word_of, [], []⟩
def dd_is_line : He.DefD := ⟨("is_line", none), "is_line", "is_line", defArgs s_is_line, defBody s_is_line, defScope s_is_line, [], []⟩
def dd_need_lines : He.DefD := ⟨("need_lines", none), "need_lines", "need_lines", defArgs s_need_lines, defBody s_need_lines, defScope s_need_lines, [.int 3], []⟩
def dd_need_family : He.DefD := ⟨("need_family", none), "need_family", "need_family", defArgs s_need_family, defBody s_need_family, defScope s_need_family, [.int 3], []⟩
def dd_has_too_many : He.DefD := ⟨("has_too_many", none), "has_too_many", "has_too_many", defArgs s_has_too_many, defBody s_has_too_many, defScope s_has_too_many, [], []⟩
def dd_reading_counts : He.DefD := ⟨("reading_counts", none), "reading_counts", "reading_counts", defArgs s_reading_counts, defBody s_reading_counts, defScope s_reading_counts, [], []⟩
def dd_are_weights : He.DefD := ⟨("are_weights", none), "are_weights", "are_weights", defArgs s_are_weights, defBody s_are_weights, defScope s_are_weights, [], []⟩
def dd_are_stand_rows : He.DefD := ⟨("are_stand_rows", none), "are_stand_rows", "are_stand_rows", defArgs s_are_stand_rows, defBody s_are_stand_rows, defScope s_are_stand_rows, [], []⟩
def dd_are_takes : He.DefD := ⟨("are_takes", none), "are_takes", "are_takes", defArgs s_are_takes, defBody s_are_takes, defScope s_are_takes, [], []⟩
def dd_are_closings : He.DefD := ⟨("are_closings", none), "are_closings", "are_closings", defArgs s_are_closings, defBody s_are_closings, defScope s_are_closings, [], []⟩
def dd_need_deal : He.DefD := ⟨("need_deal", none), "need_deal", "need_deal", defArgs s_need_deal, defBody s_need_deal, defScope s_need_deal, [], []⟩
def dd_dealt_row : He.DefD := ⟨("dealt_row", none), "dealt_row", "dealt_row", defArgs s_dealt_row, defBody s_dealt_row, defScope s_dealt_row, [], []⟩
def dd_closings_of : He.DefD := ⟨("closings_of", none), "closings_of", "closings_of", defArgs s_closings_of, defBody s_closings_of, defScope s_closings_of, [], []⟩
def dd_fraction : He.DefD := ⟨("fraction", none), "fraction", "fraction", defArgs s_fraction, defBody s_fraction, defScope s_fraction, [], []⟩
def dd_need_short : He.DefD := ⟨("need_short", none), "need_short", "need_short", defArgs s_need_short, defBody s_need_short, defScope s_need_short, [], []⟩
def dd_row_weight : He.DefD := ⟨("row_weight", none), "row_weight", "row_weight", defArgs s_row_weight, defBody s_row_weight, defScope s_row_weight, [], []⟩
def dd_joined_parts : He.DefD := ⟨("joined_parts", none), "joined_parts", "joined_parts", defArgs s_joined_parts, defBody s_joined_parts, defScope s_joined_parts, [], []⟩
def dd_paid : He.DefD := ⟨("paid", none), "paid", "paid", defArgs s_paid, defBody s_paid, defScope s_paid, [], []⟩
def dd_receivers : He.DefD := ⟨("receivers", none), "receivers", "receivers", defArgs s_receivers, defBody s_receivers, defScope s_receivers, [], []⟩
def dd__law_mixed : He.DefD := ⟨("_law_mixed", none), "_law_mixed", "_law_mixed", defArgs s__law_mixed, defBody s__law_mixed, defScope s__law_mixed, [], []⟩
def dd__law_folded : He.DefD := ⟨("_law_folded", none), "_law_folded", "_law_folded", defArgs s__law_folded, defBody s__law_folded, defScope s__law_folded, [], []⟩
def dd__law_draw : He.DefD := ⟨("_law_draw", none), "_law_draw", "_law_draw", defArgs s__law_draw, defBody s__law_draw, defScope s__law_draw, [], []⟩
def dd__law_begun : He.DefD := ⟨("_law_begun", none), "_law_begun", "_law_begun", defArgs s__law_begun, defBody s__law_begun, defScope s__law_begun, [], []⟩
def dd__law_like : He.DefD := ⟨("_law_like", none), "_law_like", "_law_like", defArgs s__law_like, defBody s__law_like, defScope s__law_like, [], []⟩
def dd__law_planted : He.DefD := ⟨("_law_planted", none), "_law_planted", "_law_planted", defArgs s__law_planted, defBody s__law_planted, defScope s__law_planted, [], []⟩
def dd__law_family : He.DefD := ⟨("_law_family", none), "_law_family", "_law_family", defArgs s__law_family, defBody s__law_family, defScope s__law_family, [], []⟩
def dd__law_line_at : He.DefD := ⟨("_law_line_at", none), "_law_line_at", "_law_line_at", defArgs s__law_line_at, defBody s__law_line_at, defScope s__law_line_at, [], []⟩
def dd__law_deal : He.DefD := ⟨("_law_deal", none), "_law_deal", "_law_deal", defArgs s__law_deal, defBody s__law_deal, defScope s__law_deal, [], []⟩
def dd__law_dealt : He.DefD := ⟨("_law_dealt", none), "_law_dealt", "_law_dealt", defArgs s__law_dealt, defBody s__law_dealt, defScope s__law_dealt, [], []⟩
def dd__law_low : He.DefD := ⟨("_law_low", none), "_law_low", "_law_low", defArgs s__law_low, defBody s__law_low, defScope s__law_low, [], []⟩
def dd__law_part : He.DefD := ⟨("_law_part", none), "_law_part", "_law_part", defArgs s__law_part, defBody s__law_part, defScope s__law_part, [], []⟩
def dd__law_shares : He.DefD := ⟨("_law_shares", none), "_law_shares", "_law_shares", defArgs s__law_shares, defBody s__law_shares, defScope s__law_shares, [], []⟩
def dd__law_shared : He.DefD := ⟨("_law_shared", none), "_law_shared", "_law_shared", defArgs s__law_shared, defBody s__law_shared, defScope s__law_shared, [], []⟩
def dd__law_sum : He.DefD := ⟨("_law_sum", none), "_law_sum", "_law_sum", defArgs s__law_sum, defBody s__law_sum, defScope s__law_sum, [], []⟩
def dd__law_all_paid : He.DefD := ⟨("_law_all_paid", none), "_law_all_paid", "_law_all_paid", defArgs s__law_all_paid, defBody s__law_all_paid, defScope s__law_all_paid, [], []⟩
def dd__law_small_sums : He.DefD := ⟨("_law_small_sums", none), "_law_small_sums", "_law_small_sums", defArgs s__law_small_sums, defBody s__law_small_sums, defScope s__law_small_sums, [], []⟩
def dd__law_told : He.DefD := ⟨("_law_told", none), "_law_told", "_law_told", defArgs s__law_told, defBody s__law_told, defScope s__law_told, [], []⟩
def dd__law_error : He.DefD := ⟨("_law_error", none), "_law_error", "_law_error", defArgs s__law_error, defBody s__law_error, defScope s__law_error, [], []⟩
def dd__law_by_hand : He.DefD := ⟨("_law_by_hand", none), "_law_by_hand", "_law_by_hand", defArgs s__law_by_hand, defBody s__law_by_hand, defScope s__law_by_hand, [], []⟩
def dd_law : He.DefD := ⟨("law", none), "law", "law", defArgs s_law, defBody s_law, defScope s_law, [], []⟩
def hFn0 : List He.DefD := [dd_is_whole, dd_is_within, dd_is_truth, dd_is_tuple_of, dd_is_word_of, dd_is_line, dd_need_lines, dd_need_family, dd_has_too_many, dd_reading_counts, dd_are_weights, dd_are_stand_rows, dd_are_takes, dd_are_closings, dd_need_deal, dd_dealt_row, dd_closings_of, dd_fraction, dd_need_short, dd_row_weight, dd_joined_parts, dd_paid, dd_receivers, dd__law_mixed, dd__law_folded, dd__law_draw, dd__law_begun, dd__law_like, dd__law_planted, dd__law_family]
def hFn1 : List He.DefD := [dd__law_line_at, dd__law_deal, dd__law_dealt, dd__law_low, dd__law_part, dd__law_shares, dd__law_shared, dd__law_sum, dd__law_all_paid, dd__law_small_sums, dd__law_told, dd__law_error, dd__law_by_hand, dd_law]
def hFn : List He.DefD := hFn0 ++ hFn1
def hFa0 : List He.Fa := [.glo "is_whole", .glo "is_within", .glo "is_truth", .glo "is_tuple_of", .glo "is_word_of", .glo "is_line", .glo "need_lines", .glo "need_family", .glo "has_too_many", .glo "reading_counts", .glo "are_weights", .glo "are_stand_rows", .glo "are_takes", .glo "are_closings", .glo "need_deal", .glo "dealt_row", .glo "closings_of", .glo "fraction", .glo "need_short", .glo "row_weight", .glo "joined_parts", .glo "paid", .glo "receivers", .glo "_law_mixed", .glo "_law_folded", .glo "_law_draw", .glo "_law_begun", .glo "_law_like", .glo "_law_planted", .glo "_law_family"]
def hFa1 : List He.Fa := [.glo "_law_line_at", .glo "_law_deal", .glo "_law_dealt", .glo "_law_low", .glo "_law_part", .glo "_law_shares", .glo "_law_shared", .glo "_law_sum", .glo "_law_all_paid", .glo "_law_small_sums", .glo "_law_told", .glo "_law_error", .glo "_law_by_hand", .glo "law", .free "bool", .free "enumerate", .free "int", .free "isinstance", .free "len", .free "min", .free "range", .free "repr", .free "reversed", .free "sorted", .free "str", .free "sum", .free "tuple", .free "zip", .free "super", .int "MOST_LINES" (2000)]
def hFa2 : List He.Fa := [.int "MOST_CHILDREN" (600), .int "MOST_MEMBERS" ((10 ^ 60)), .int "MOST_STANDS" (8), .int "MOST_RANKS" (8), .int "MOST_WEIGHT" (99), .int "MOST_DIGITS" (1000), .int "FIRST_TOO_LONG" ((10 ^ 1000)), .glo "BadDeal", .glo "BadFamily", .keep "BadDeal", .keep "BadFamily", .exm "BadDeal" "BadDeal" true, .exm "BadFamily" "BadDeal" false, .exm "BadFamily" "BadFamily" true]
def hFa : List He.Fa := hFa0 ++ hFa1 ++ hFa2
def hLoose0 : List Str := ["is_whole", "is_within", "is_truth", "is_tuple_of", "is_word_of", "HeirError", "BadFamily", "BadDeal", "BadNumber", "TooGreat", "MOST_LINES", "MOST_CHILDREN", "MOST_MEMBERS", "is_line", "need_lines", "need_family", "has_too_many", "reading_counts", "MOST_STANDS", "MOST_RANKS", "MOST_WEIGHT", "are_weights", "are_stand_rows", "are_takes", "are_closings", "need_deal", "dealt_row", "closings_of", "MOST_DIGITS", "FIRST_TOO_LONG"]
def hLoose1 : List Str := ["fraction", "need_short", "row_weight", "joined_parts", "paid", "receivers", "_law_mixed", "_law_folded", "_law_draw", "_law_begun", "_law_like", "_law_planted", "_law_family", "_law_line_at", "_law_deal", "_law_near_deal", "_law_dealt", "_law_low", "_law_part", "_law_shares", "_law_share", "_law_shared", "_law_sum", "_law_all_paid", "_law_small_sums", "_law_told", "_law_error", "_law_by_hand"]
def hLoose : List Str := hLoose0 ++ hLoose1
def inSt (st : Stmt) : Stmt := match st with
  | .ClassDef _ _ _ b _ _ _ _ _ _ _ => b.getD 0 (.Pass ⟨0, 0, 0, 0⟩)
  | st => st
abbrev s_inF : Stmt := inSt (topS 9)
abbrev s_inD : Stmt := inSt (topS 10)
def hFile : Str := "/claim/cut.py"
abbrev cD (K : PySem.W.Frag) : Addr := He.ga K "BadDeal"
abbrev cF (K : PySem.W.Frag) : Addr := He.ga K "BadFamily"
abbrev iD (K : PySem.W.Frag) : Addr := He.ma K (cD K) "__init__"
abbrev iF (K : PySem.W.Frag) : Addr := He.ma K (cF K) "__init__"
/-! ### the Hook -/
abbrev AlH : Type := (Bool × InV × InV) × He.AlD
def ownB (K : PySem.W.Frag) : Bool := supB K hFile "word" "BadDeal.__init__" (cD K) (iD K) && (supB K hFile "place" "BadFamily.__init__" (cF K) (iF K) && (xfB K (cD K) && (xfB K (cF K) &&
  (He.eqO (PySem.W.nsIn K cStatics "thirdparty.any") (some none) && He.eqO (PySem.W.nsIn K mainGlobals "gcd") (some (some (.builtin "math.gcd")))))))
def obsH (K : PySem.W.Frag) : AlH := ((ownB K, inObs K (iD K), inObs K (iF K)), He.obsD hFa hFn K)
def valH : AlH := ((true, inVal "BadDeal.__init__" s_inD, inVal "BadFamily.__init__" s_inF), He.valD hFn)
def SaysH (K : PySem.W.Frag) : Prop := obsH K = valH
def obsHG (n : Nat) (g : Addr → Option Obj) : AlH := obsH (He.frG g (cStatics :: He.asD g n))
def hookH (n : Nat) : PySem.W.Hook where
  α := AlH
  obs := fun s => obsHG n s.heap.get?
  val := fun _ => valH
  says := fun _ h => ∃ K : PySem.W.Frag, K.In h ∧ SaysH K
  of := fun _ _ e => ⟨_, He.frG_in, e⟩
  keeps := fun _ _ _ ⟨K, hK, c⟩ k => ⟨K, PySem.W.Frag.In.keeps hK k, c⟩
theorem obsHG_eq {n : Nat} {g : Addr → Option Obj} {s : Shared} (h : ∀ a, g a = s.heap.get? a) : obsHG n g = (hookH n).obs s := by
  have e : g = s.heap.get? := funext h
  rw [e] <;> rfl
abbrev hRow : PySem.W.OpenRow := PySem.W.OpenLaw.row PySem.Challenge.rw_heirlines_k60_whole_sums_line_by_line
abbrev hk : PySem.W.Hook := hookH 5
def hOb (s : PySem.W.SharedT) : AlH := obsHG 5 (HandSHeadRun.getT s)
theorem hOb_eq (s : PySem.W.SharedT) : hOb s = hk.obs s.abs := obsHG_eq (HandSHeadRun.getT_eq s)
end AB

set_option Elab.async false
set_option linter.all false
set_option maxRecDepth 100000
set_option maxHeartbeats 4000000
/-! The head's run. -/
namespace AB
open PySem PySem.Spec PyProof.Rows L2
theorem hRun (w : World) : HandSHeadRun.RunEqI hRow (PySem.W.view hRow.prog [0, 65]) hk hOb 4000 hLoose w := by
  unfold HandSHeadRun.RunEqI
  kernel_rfl
end AB

set_option Elab.async false
set_option linter.all false
set_option maxRecDepth 100000
set_option maxHeartbeats 4000000
/-! What the head says, turned to the layer's Txt. Printed by D5.py. -/
namespace AB
open PySem PySem.Spec PyProof.Rows L2
section
variable {K : PySem.W.Frag} {h : Heap} {mg : Str → Option Value}
theorem nd_is_whole (X : K.In h) (G : h.Ns mainGlobals mg) (c : He.SaysD hFa hFn K) : Nonempty (Dd K mg "is_whole" s_is_whole ["value"]) := by
  obtain ⟨fd, F⟩ := c.def_ 0 (d := dd_is_whole) rfl
  have g := He.glo_ok X G (c.fact 0 (f := .glo "is_whole") rfl)
  have F' : FunD K "is_whole" "is_whole" (defArgs s_is_whole) (defBody s_is_whole) (defScope s_is_whole) [] [] (He.fAd K ("is_whole", none)) fd := F
  exact ⟨⟨_, fd, _, F, g, FunD.bindsN F' fun _ _ _ _ _ _ us hl => match us, hl with | [_], _ => rfl⟩⟩
theorem nd_is_within (X : K.In h) (G : h.Ns mainGlobals mg) (c : He.SaysD hFa hFn K) : Nonempty (Dd K mg "is_within" s_is_within ["value", "least", "most"]) := by
  obtain ⟨fd, F⟩ := c.def_ 1 (d := dd_is_within) rfl
  have g := He.glo_ok X G (c.fact 1 (f := .glo "is_within") rfl)
  have F' : FunD K "is_within" "is_within" (defArgs s_is_within) (defBody s_is_within) (defScope s_is_within) [] [] (He.fAd K ("is_within", none)) fd := F
  exact ⟨⟨_, fd, _, F, g, FunD.bindsN F' fun _ _ _ _ _ _ us hl => match us, hl with | [_, _, _], _ => rfl⟩⟩
theorem nd_is_truth (X : K.In h) (G : h.Ns mainGlobals mg) (c : He.SaysD hFa hFn K) : Nonempty (Dd K mg "is_truth" s_is_truth ["value"]) := by
  obtain ⟨fd, F⟩ := c.def_ 2 (d := dd_is_truth) rfl
  have g := He.glo_ok X G (c.fact 2 (f := .glo "is_truth") rfl)
  have F' : FunD K "is_truth" "is_truth" (defArgs s_is_truth) (defBody s_is_truth) (defScope s_is_truth) [] [] (He.fAd K ("is_truth", none)) fd := F
  exact ⟨⟨_, fd, _, F, g, FunD.bindsN F' fun _ _ _ _ _ _ us hl => match us, hl with | [_], _ => rfl⟩⟩
theorem nd_is_tuple_of (X : K.In h) (G : h.Ns mainGlobals mg) (c : He.SaysD hFa hFn K) : Nonempty (Dd K mg "is_tuple_of" s_is_tuple_of ["value", "many"]) := by
  obtain ⟨fd, F⟩ := c.def_ 3 (d := dd_is_tuple_of) rfl
  have g := He.glo_ok X G (c.fact 3 (f := .glo "is_tuple_of") rfl)
  have F' : FunD K "is_tuple_of" "is_tuple_of" (defArgs s_is_tuple_of) (defBody s_is_tuple_of) (defScope s_is_tuple_of) [] [] (He.fAd K ("is_tuple_of", none)) fd := F
  exact ⟨⟨_, fd, _, F, g, FunD.bindsN F' fun _ _ _ _ _ _ us hl => match us, hl with | [_, _], _ => rfl⟩⟩
theorem nd_is_word_of (X : K.In h) (G : h.Ns mainGlobals mg) (c : He.SaysD hFa hFn K) : Nonempty (Dd K mg "is_word_of" s_is_word_of ["value", "choices"]) := by
  obtain ⟨fd, F⟩ := c.def_ 4 (d := dd_is_word_of) rfl
  have g := He.glo_ok X G (c.fact 4 (f := .glo "is_word_of") rfl)
  have F' : FunD K "is_word_of" "is_word_of" (defArgs s_is_word_of) (defBody s_is_word_of) (defScope s_is_word_of) [] [] (He.fAd K ("is_word_of", none)) fd := F
  exact ⟨⟨_, fd, _, F, g, FunD.bindsN F' fun _ _ _ _ _ _ us hl => match us, hl with | [_, _], _ => rfl⟩⟩
theorem nd_is_line (X : K.In h) (G : h.Ns mainGlobals mg) (c : He.SaysD hFa hFn K) : Nonempty (Dd K mg "is_line" s_is_line ["thing", "number", "marks"]) := by
  obtain ⟨fd, F⟩ := c.def_ 5 (d := dd_is_line) rfl
  have g := He.glo_ok X G (c.fact 5 (f := .glo "is_line") rfl)
  have F' : FunD K "is_line" "is_line" (defArgs s_is_line) (defBody s_is_line) (defScope s_is_line) [] [] (He.fAd K ("is_line", none)) fd := F
  exact ⟨⟨_, fd, _, F, g, FunD.bindsN F' fun _ _ _ _ _ _ us hl => match us, hl with | [_, _, _], _ => rfl⟩⟩
theorem nd_need_lines (X : K.In h) (G : h.Ns mainGlobals mg) (c : He.SaysD hFa hFn K) : Nonempty (Dd K mg "need_lines" s_need_lines ["family", "marks"]) := by
  obtain ⟨fd, F⟩ := c.def_ 6 (d := dd_need_lines) rfl
  have g := He.glo_ok X G (c.fact 6 (f := .glo "need_lines") rfl)
  have F' : FunD K "need_lines" "need_lines" (defArgs s_need_lines) (defBody s_need_lines) (defScope s_need_lines) [.int 3] [] (He.fAd K ("need_lines", none)) fd := F
  obtain ⟨ds, hv, hb⟩ := FunD.binds1 (ps := ["family", "marks"]) F' 2 1 (List.cons_ne_nil _ _) rfl fun T kV doc pm an cdv ct us its hu hi => match us, its, hu, hi with | [_, _], [_], _, _ => ⟨_, rfl, rfl⟩
  cases hv
  exact ⟨⟨_, fd, _, F, g, hb⟩⟩
theorem nd_need_family (X : K.In h) (G : h.Ns mainGlobals mg) (c : He.SaysD hFa hFn K) : Nonempty (Dd K mg "need_family" s_need_family ["family", "marks"]) := by
  obtain ⟨fd, F⟩ := c.def_ 7 (d := dd_need_family) rfl
  have g := He.glo_ok X G (c.fact 7 (f := .glo "need_family") rfl)
  have F' : FunD K "need_family" "need_family" (defArgs s_need_family) (defBody s_need_family) (defScope s_need_family) [.int 3] [] (He.fAd K ("need_family", none)) fd := F
  obtain ⟨ds, hv, hb⟩ := FunD.binds1 (ps := ["family", "marks"]) F' 2 1 (List.cons_ne_nil _ _) rfl fun T kV doc pm an cdv ct us its hu hi => match us, its, hu, hi with | [_, _], [_], _, _ => ⟨_, rfl, rfl⟩
  cases hv
  exact ⟨⟨_, fd, _, F, g, hb⟩⟩
theorem nd_has_too_many (X : K.In h) (G : h.Ns mainGlobals mg) (c : He.SaysD hFa hFn K) : Nonempty (Dd K mg "has_too_many" s_has_too_many ["lines"]) := by
  obtain ⟨fd, F⟩ := c.def_ 8 (d := dd_has_too_many) rfl
  have g := He.glo_ok X G (c.fact 8 (f := .glo "has_too_many") rfl)
  have F' : FunD K "has_too_many" "has_too_many" (defArgs s_has_too_many) (defBody s_has_too_many) (defScope s_has_too_many) [] [] (He.fAd K ("has_too_many", none)) fd := F
  exact ⟨⟨_, fd, _, F, g, FunD.bindsN F' fun _ _ _ _ _ _ us hl => match us, hl with | [_], _ => rfl⟩⟩
theorem nd_reading_counts (X : K.In h) (G : h.Ns mainGlobals mg) (c : He.SaysD hFa hFn K) : Nonempty (Dd K mg "reading_counts" s_reading_counts ["lines"]) := by
  obtain ⟨fd, F⟩ := c.def_ 9 (d := dd_reading_counts) rfl
  have g := He.glo_ok X G (c.fact 9 (f := .glo "reading_counts") rfl)
  have F' : FunD K "reading_counts" "reading_counts" (defArgs s_reading_counts) (defBody s_reading_counts) (defScope s_reading_counts) [] [] (He.fAd K ("reading_counts", none)) fd := F
  exact ⟨⟨_, fd, _, F, g, FunD.bindsN F' fun _ _ _ _ _ _ us hl => match us, hl with | [_], _ => rfl⟩⟩
theorem nd_are_weights (X : K.In h) (G : h.Ns mainGlobals mg) (c : He.SaysD hFa hFn K) : Nonempty (Dd K mg "are_weights" s_are_weights ["value"]) := by
  obtain ⟨fd, F⟩ := c.def_ 10 (d := dd_are_weights) rfl
  have g := He.glo_ok X G (c.fact 10 (f := .glo "are_weights") rfl)
  have F' : FunD K "are_weights" "are_weights" (defArgs s_are_weights) (defBody s_are_weights) (defScope s_are_weights) [] [] (He.fAd K ("are_weights", none)) fd := F
  exact ⟨⟨_, fd, _, F, g, FunD.bindsN F' fun _ _ _ _ _ _ us hl => match us, hl with | [_], _ => rfl⟩⟩
theorem nd_are_stand_rows (X : K.In h) (G : h.Ns mainGlobals mg) (c : He.SaysD hFa hFn K) : Nonempty (Dd K mg "are_stand_rows" s_are_stand_rows ["value", "ranks"]) := by
  obtain ⟨fd, F⟩ := c.def_ 11 (d := dd_are_stand_rows) rfl
  have g := He.glo_ok X G (c.fact 11 (f := .glo "are_stand_rows") rfl)
  have F' : FunD K "are_stand_rows" "are_stand_rows" (defArgs s_are_stand_rows) (defBody s_are_stand_rows) (defScope s_are_stand_rows) [] [] (He.fAd K ("are_stand_rows", none)) fd := F
  exact ⟨⟨_, fd, _, F, g, FunD.bindsN F' fun _ _ _ _ _ _ us hl => match us, hl with | [_, _], _ => rfl⟩⟩
theorem nd_are_takes (X : K.In h) (G : h.Ns mainGlobals mg) (c : He.SaysD hFa hFn K) : Nonempty (Dd K mg "are_takes" s_are_takes ["value", "stands", "ranks", "takes"]) := by
  obtain ⟨fd, F⟩ := c.def_ 12 (d := dd_are_takes) rfl
  have g := He.glo_ok X G (c.fact 12 (f := .glo "are_takes") rfl)
  have F' : FunD K "are_takes" "are_takes" (defArgs s_are_takes) (defBody s_are_takes) (defScope s_are_takes) [] [] (He.fAd K ("are_takes", none)) fd := F
  exact ⟨⟨_, fd, _, F, g, FunD.bindsN F' fun _ _ _ _ _ _ us hl => match us, hl with | [_, _, _, _], _ => rfl⟩⟩
theorem nd_are_closings (X : K.In h) (G : h.Ns mainGlobals mg) (c : He.SaysD hFa hFn K) : Nonempty (Dd K mg "are_closings" s_are_closings ["value", "marks", "stands", "ranks"]) := by
  obtain ⟨fd, F⟩ := c.def_ 13 (d := dd_are_closings) rfl
  have g := He.glo_ok X G (c.fact 13 (f := .glo "are_closings") rfl)
  have F' : FunD K "are_closings" "are_closings" (defArgs s_are_closings) (defBody s_are_closings) (defScope s_are_closings) [] [] (He.fAd K ("are_closings", none)) fd := F
  exact ⟨⟨_, fd, _, F, g, FunD.bindsN F' fun _ _ _ _ _ _ us hl => match us, hl with | [_, _, _, _], _ => rfl⟩⟩
theorem nd_need_deal (X : K.In h) (G : h.Ns mainGlobals mg) (c : He.SaysD hFa hFn K) : Nonempty (Dd K mg "need_deal" s_need_deal ["deal"]) := by
  obtain ⟨fd, F⟩ := c.def_ 14 (d := dd_need_deal) rfl
  have g := He.glo_ok X G (c.fact 14 (f := .glo "need_deal") rfl)
  have F' : FunD K "need_deal" "need_deal" (defArgs s_need_deal) (defBody s_need_deal) (defScope s_need_deal) [] [] (He.fAd K ("need_deal", none)) fd := F
  exact ⟨⟨_, fd, _, F, g, FunD.bindsN F' fun _ _ _ _ _ _ us hl => match us, hl with | [_], _ => rfl⟩⟩
theorem nd_dealt_row (X : K.In h) (G : h.Ns mainGlobals mg) (c : He.SaysD hFa hFn K) : Nonempty (Dd K mg "dealt_row" s_dealt_row ["deal", "ranks"]) := by
  obtain ⟨fd, F⟩ := c.def_ 15 (d := dd_dealt_row) rfl
  have g := He.glo_ok X G (c.fact 15 (f := .glo "dealt_row") rfl)
  have F' : FunD K "dealt_row" "dealt_row" (defArgs s_dealt_row) (defBody s_dealt_row) (defScope s_dealt_row) [] [] (He.fAd K ("dealt_row", none)) fd := F
  exact ⟨⟨_, fd, _, F, g, FunD.bindsN F' fun _ _ _ _ _ _ us hl => match us, hl with | [_, _], _ => rfl⟩⟩
theorem nd_closings_of (X : K.In h) (G : h.Ns mainGlobals mg) (c : He.SaysD hFa hFn K) : Nonempty (Dd K mg "closings_of" s_closings_of ["deal", "lines"]) := by
  obtain ⟨fd, F⟩ := c.def_ 16 (d := dd_closings_of) rfl
  have g := He.glo_ok X G (c.fact 16 (f := .glo "closings_of") rfl)
  have F' : FunD K "closings_of" "closings_of" (defArgs s_closings_of) (defBody s_closings_of) (defScope s_closings_of) [] [] (He.fAd K ("closings_of", none)) fd := F
  exact ⟨⟨_, fd, _, F, g, FunD.bindsN F' fun _ _ _ _ _ _ us hl => match us, hl with | [_, _], _ => rfl⟩⟩
theorem nd_fraction (X : K.In h) (G : h.Ns mainGlobals mg) (c : He.SaysD hFa hFn K) : Nonempty (Dd K mg "fraction" s_fraction ["above", "below"]) := by
  obtain ⟨fd, F⟩ := c.def_ 17 (d := dd_fraction) rfl
  have g := He.glo_ok X G (c.fact 17 (f := .glo "fraction") rfl)
  have F' : FunD K "fraction" "fraction" (defArgs s_fraction) (defBody s_fraction) (defScope s_fraction) [] [] (He.fAd K ("fraction", none)) fd := F
  exact ⟨⟨_, fd, _, F, g, FunD.bindsN F' fun _ _ _ _ _ _ us hl => match us, hl with | [_, _], _ => rfl⟩⟩
theorem nd_need_short (X : K.In h) (G : h.Ns mainGlobals mg) (c : He.SaysD hFa hFn K) : Nonempty (Dd K mg "need_short" s_need_short ["had"]) := by
  obtain ⟨fd, F⟩ := c.def_ 18 (d := dd_need_short) rfl
  have g := He.glo_ok X G (c.fact 18 (f := .glo "need_short") rfl)
  have F' : FunD K "need_short" "need_short" (defArgs s_need_short) (defBody s_need_short) (defScope s_need_short) [] [] (He.fAd K ("need_short", none)) fd := F
  exact ⟨⟨_, fd, _, F, g, FunD.bindsN F' fun _ _ _ _ _ _ us hl => match us, hl with | [_], _ => rfl⟩⟩
theorem nd_row_weight (X : K.In h) (G : h.Ns mainGlobals mg) (c : He.SaysD hFa hFn K) : Nonempty (Dd K mg "row_weight" s_row_weight ["deal", "closings", "children"]) := by
  obtain ⟨fd, F⟩ := c.def_ 19 (d := dd_row_weight) rfl
  have g := He.glo_ok X G (c.fact 19 (f := .glo "row_weight") rfl)
  have F' : FunD K "row_weight" "row_weight" (defArgs s_row_weight) (defBody s_row_weight) (defScope s_row_weight) [] [] (He.fAd K ("row_weight", none)) fd := F
  exact ⟨⟨_, fd, _, F, g, FunD.bindsN F' fun _ _ _ _ _ _ us hl => match us, hl with | [_, _, _], _ => rfl⟩⟩
theorem nd_joined_parts (X : K.In h) (G : h.Ns mainGlobals mg) (c : He.SaysD hFa hFn K) : Nonempty (Dd K mg "joined_parts" s_joined_parts ["deal", "closings", "children", "paid_by"]) := by
  obtain ⟨fd, F⟩ := c.def_ 20 (d := dd_joined_parts) rfl
  have g := He.glo_ok X G (c.fact 20 (f := .glo "joined_parts") rfl)
  have F' : FunD K "joined_parts" "joined_parts" (defArgs s_joined_parts) (defBody s_joined_parts) (defScope s_joined_parts) [] [] (He.fAd K ("joined_parts", none)) fd := F
  exact ⟨⟨_, fd, _, F, g, FunD.bindsN F' fun _ _ _ _ _ _ us hl => match us, hl with | [_, _, _, _], _ => rfl⟩⟩
theorem nd_paid (X : K.In h) (G : h.Ns mainGlobals mg) (c : He.SaysD hFa hFn K) : Nonempty (Dd K mg "paid" s_paid ["deal", "family"]) := by
  obtain ⟨fd, F⟩ := c.def_ 21 (d := dd_paid) rfl
  have g := He.glo_ok X G (c.fact 21 (f := .glo "paid") rfl)
  have F' : FunD K "paid" "paid" (defArgs s_paid) (defBody s_paid) (defScope s_paid) [] [] (He.fAd K ("paid", none)) fd := F
  exact ⟨⟨_, fd, _, F, g, FunD.bindsN F' fun _ _ _ _ _ _ us hl => match us, hl with | [_, _], _ => rfl⟩⟩
theorem nd_receivers (X : K.In h) (G : h.Ns mainGlobals mg) (c : He.SaysD hFa hFn K) : Nonempty (Dd K mg "receivers" s_receivers ["deal", "family"]) := by
  obtain ⟨fd, F⟩ := c.def_ 22 (d := dd_receivers) rfl
  have g := He.glo_ok X G (c.fact 22 (f := .glo "receivers") rfl)
  have F' : FunD K "receivers" "receivers" (defArgs s_receivers) (defBody s_receivers) (defScope s_receivers) [] [] (He.fAd K ("receivers", none)) fd := F
  exact ⟨⟨_, fd, _, F, g, FunD.bindsN F' fun _ _ _ _ _ _ us hl => match us, hl with | [_, _], _ => rfl⟩⟩
theorem nd__law_mixed (X : K.In h) (G : h.Ns mainGlobals mg) (c : He.SaysD hFa hFn K) : Nonempty (Dd K mg "_law_mixed" s__law_mixed ["_law_cell", "_law_n"]) := by
  obtain ⟨fd, F⟩ := c.def_ 23 (d := dd__law_mixed) rfl
  have g := He.glo_ok X G (c.fact 23 (f := .glo "_law_mixed") rfl)
  have F' : FunD K "_law_mixed" "_law_mixed" (defArgs s__law_mixed) (defBody s__law_mixed) (defScope s__law_mixed) [] [] (He.fAd K ("_law_mixed", none)) fd := F
  exact ⟨⟨_, fd, _, F, g, FunD.bindsN F' fun _ _ _ _ _ _ us hl => match us, hl with | [_, _], _ => rfl⟩⟩
theorem nd__law_folded (X : K.In h) (G : h.Ns mainGlobals mg) (c : He.SaysD hFa hFn K) : Nonempty (Dd K mg "_law_folded" s__law_folded ["_law_script"]) := by
  obtain ⟨fd, F⟩ := c.def_ 24 (d := dd__law_folded) rfl
  have g := He.glo_ok X G (c.fact 24 (f := .glo "_law_folded") rfl)
  have F' : FunD K "_law_folded" "_law_folded" (defArgs s__law_folded) (defBody s__law_folded) (defScope s__law_folded) [] [] (He.fAd K ("_law_folded", none)) fd := F
  exact ⟨⟨_, fd, _, F, g, FunD.bindsN F' fun _ _ _ _ _ _ us hl => match us, hl with | [_], _ => rfl⟩⟩
theorem nd__law_draw (X : K.In h) (G : h.Ns mainGlobals mg) (c : He.SaysD hFa hFn K) : Nonempty (Dd K mg "_law_draw" s__law_draw ["_law_m", "_law_limit"]) := by
  obtain ⟨fd, F⟩ := c.def_ 25 (d := dd__law_draw) rfl
  have g := He.glo_ok X G (c.fact 25 (f := .glo "_law_draw") rfl)
  have F' : FunD K "_law_draw" "_law_draw" (defArgs s__law_draw) (defBody s__law_draw) (defScope s__law_draw) [] [] (He.fAd K ("_law_draw", none)) fd := F
  exact ⟨⟨_, fd, _, F, g, FunD.bindsN F' fun _ _ _ _ _ _ us hl => match us, hl with | [_, _], _ => rfl⟩⟩
theorem nd__law_begun (X : K.In h) (G : h.Ns mainGlobals mg) (c : He.SaysD hFa hFn K) : Nonempty (Dd K mg "_law_begun" s__law_begun ["_law_script"]) := by
  obtain ⟨fd, F⟩ := c.def_ 26 (d := dd__law_begun) rfl
  have g := He.glo_ok X G (c.fact 26 (f := .glo "_law_begun") rfl)
  have F' : FunD K "_law_begun" "_law_begun" (defArgs s__law_begun) (defBody s__law_begun) (defScope s__law_begun) [] [] (He.fAd K ("_law_begun", none)) fd := F
  exact ⟨⟨_, fd, _, F, g, FunD.bindsN F' fun _ _ _ _ _ _ us hl => match us, hl with | [_], _ => rfl⟩⟩
theorem nd__law_like (X : K.In h) (G : h.Ns mainGlobals mg) (c : He.SaysD hFa hFn K) : Nonempty (Dd K mg "_law_like" s__law_like ["_law_got", "_law_due"]) := by
  obtain ⟨fd, F⟩ := c.def_ 27 (d := dd__law_like) rfl
  have g := He.glo_ok X G (c.fact 27 (f := .glo "_law_like") rfl)
  have F' : FunD K "_law_like" "_law_like" (defArgs s__law_like) (defBody s__law_like) (defScope s__law_like) [] [] (He.fAd K ("_law_like", none)) fd := F
  exact ⟨⟨_, fd, _, F, g, FunD.bindsN F' fun _ _ _ _ _ _ us hl => match us, hl with | [_, _], _ => rfl⟩⟩
theorem nd__law_planted (X : K.In h) (G : h.Ns mainGlobals mg) (c : He.SaysD hFa hFn K) : Nonempty (Dd K mg "_law_planted" s__law_planted ["_law_row", "_law_looks"]) := by
  obtain ⟨fd, F⟩ := c.def_ 28 (d := dd__law_planted) rfl
  have g := He.glo_ok X G (c.fact 28 (f := .glo "_law_planted") rfl)
  have F' : FunD K "_law_planted" "_law_planted" (defArgs s__law_planted) (defBody s__law_planted) (defScope s__law_planted) [] [] (He.fAd K ("_law_planted", none)) fd := F
  exact ⟨⟨_, fd, _, F, g, FunD.bindsN F' fun _ _ _ _ _ _ us hl => match us, hl with | [_, _], _ => rfl⟩⟩
theorem nd__law_family (X : K.In h) (G : h.Ns mainGlobals mg) (c : He.SaysD hFa hFn K) : Nonempty (Dd K mg "_law_family" s__law_family ["_law_m", "_law_marks", "_law_most"]) := by
  obtain ⟨fd, F⟩ := c.def_ 29 (d := dd__law_family) rfl
  have g := He.glo_ok X G (c.fact 29 (f := .glo "_law_family") rfl)
  have F' : FunD K "_law_family" "_law_family" (defArgs s__law_family) (defBody s__law_family) (defScope s__law_family) [] [] (He.fAd K ("_law_family", none)) fd := F
  exact ⟨⟨_, fd, _, F, g, FunD.bindsN F' fun _ _ _ _ _ _ us hl => match us, hl with | [_, _, _], _ => rfl⟩⟩
theorem nd__law_line_at (X : K.In h) (G : h.Ns mainGlobals mg) (c : He.SaysD hFa hFn K) : Nonempty (Dd K mg "_law_line_at" s__law_line_at ["_law_family_here", "_law_way"]) := by
  obtain ⟨fd, F⟩ := c.def_ 30 (d := dd__law_line_at) rfl
  have g := He.glo_ok X G (c.fact 30 (f := .glo "_law_line_at") rfl)
  have F' : FunD K "_law_line_at" "_law_line_at" (defArgs s__law_line_at) (defBody s__law_line_at) (defScope s__law_line_at) [] [] (He.fAd K ("_law_line_at", none)) fd := F
  exact ⟨⟨_, fd, _, F, g, FunD.bindsN F' fun _ _ _ _ _ _ us hl => match us, hl with | [_, _], _ => rfl⟩⟩
theorem nd__law_deal (X : K.In h) (G : h.Ns mainGlobals mg) (c : He.SaysD hFa hFn K) : Nonempty (Dd K mg "_law_deal" s__law_deal ["_law_m", "_law_marks", "_law_wide"]) := by
  obtain ⟨fd, F⟩ := c.def_ 31 (d := dd__law_deal) rfl
  have g := He.glo_ok X G (c.fact 31 (f := .glo "_law_deal") rfl)
  have F' : FunD K "_law_deal" "_law_deal" (defArgs s__law_deal) (defBody s__law_deal) (defScope s__law_deal) [] [] (He.fAd K ("_law_deal", none)) fd := F
  exact ⟨⟨_, fd, _, F, g, FunD.bindsN F' fun _ _ _ _ _ _ us hl => match us, hl with | [_, _, _], _ => rfl⟩⟩
theorem nd__law_dealt (X : K.In h) (G : h.Ns mainGlobals mg) (c : He.SaysD hFa hFn K) : Nonempty (Dd K mg "_law_dealt" s__law_dealt ["_law_deal_here", "_law_family_here"]) := by
  obtain ⟨fd, F⟩ := c.def_ 32 (d := dd__law_dealt) rfl
  have g := He.glo_ok X G (c.fact 32 (f := .glo "_law_dealt") rfl)
  have F' : FunD K "_law_dealt" "_law_dealt" (defArgs s__law_dealt) (defBody s__law_dealt) (defScope s__law_dealt) [] [] (He.fAd K ("_law_dealt", none)) fd := F
  exact ⟨⟨_, fd, _, F, g, FunD.bindsN F' fun _ _ _ _ _ _ us hl => match us, hl with | [_, _], _ => rfl⟩⟩
theorem nd__law_low (X : K.In h) (G : h.Ns mainGlobals mg) (c : He.SaysD hFa hFn K) : Nonempty (Dd K mg "_law_low" s__law_low ["_law_above", "_law_below"]) := by
  obtain ⟨fd, F⟩ := c.def_ 33 (d := dd__law_low) rfl
  have g := He.glo_ok X G (c.fact 33 (f := .glo "_law_low") rfl)
  have F' : FunD K "_law_low" "_law_low" (defArgs s__law_low) (defBody s__law_low) (defScope s__law_low) [] [] (He.fAd K ("_law_low", none)) fd := F
  exact ⟨⟨_, fd, _, F, g, FunD.bindsN F' fun _ _ _ _ _ _ us hl => match us, hl with | [_, _], _ => rfl⟩⟩
theorem nd__law_part (X : K.In h) (G : h.Ns mainGlobals mg) (c : He.SaysD hFa hFn K) : Nonempty (Dd K mg "_law_part" s__law_part ["_law_deal_here", "_law_told_here", "_law_line", "_law_n"]) := by
  obtain ⟨fd, F⟩ := c.def_ 34 (d := dd__law_part) rfl
  have g := He.glo_ok X G (c.fact 34 (f := .glo "_law_part") rfl)
  have F' : FunD K "_law_part" "_law_part" (defArgs s__law_part) (defBody s__law_part) (defScope s__law_part) [] [] (He.fAd K ("_law_part", none)) fd := F
  exact ⟨⟨_, fd, _, F, g, FunD.bindsN F' fun _ _ _ _ _ _ us hl => match us, hl with | [_, _, _, _], _ => rfl⟩⟩
theorem nd__law_shares (X : K.In h) (G : h.Ns mainGlobals mg) (c : He.SaysD hFa hFn K) : Nonempty (Dd K mg "_law_shares" s__law_shares ["_law_deal_here", "_law_family_here"]) := by
  obtain ⟨fd, F⟩ := c.def_ 35 (d := dd__law_shares) rfl
  have g := He.glo_ok X G (c.fact 35 (f := .glo "_law_shares") rfl)
  have F' : FunD K "_law_shares" "_law_shares" (defArgs s__law_shares) (defBody s__law_shares) (defScope s__law_shares) [] [] (He.fAd K ("_law_shares", none)) fd := F
  exact ⟨⟨_, fd, _, F, g, FunD.bindsN F' fun _ _ _ _ _ _ us hl => match us, hl with | [_, _], _ => rfl⟩⟩
theorem nd__law_shared (X : K.In h) (G : h.Ns mainGlobals mg) (c : He.SaysD hFa hFn K) : Nonempty (Dd K mg "_law_shared" s__law_shared ["_law_m", "_law_marks"]) := by
  obtain ⟨fd, F⟩ := c.def_ 36 (d := dd__law_shared) rfl
  have g := He.glo_ok X G (c.fact 36 (f := .glo "_law_shared") rfl)
  have F' : FunD K "_law_shared" "_law_shared" (defArgs s__law_shared) (defBody s__law_shared) (defScope s__law_shared) [] [] (He.fAd K ("_law_shared", none)) fd := F
  exact ⟨⟨_, fd, _, F, g, FunD.bindsN F' fun _ _ _ _ _ _ us hl => match us, hl with | [_, _], _ => rfl⟩⟩
theorem nd__law_sum (X : K.In h) (G : h.Ns mainGlobals mg) (c : He.SaysD hFa hFn K) : Nonempty (Dd K mg "_law_sum" s__law_sum ["_law_one", "_law_other"]) := by
  obtain ⟨fd, F⟩ := c.def_ 37 (d := dd__law_sum) rfl
  have g := He.glo_ok X G (c.fact 37 (f := .glo "_law_sum") rfl)
  have F' : FunD K "_law_sum" "_law_sum" (defArgs s__law_sum) (defBody s__law_sum) (defScope s__law_sum) [] [] (He.fAd K ("_law_sum", none)) fd := F
  exact ⟨⟨_, fd, _, F, g, FunD.bindsN F' fun _ _ _ _ _ _ us hl => match us, hl with | [_, _], _ => rfl⟩⟩
theorem nd__law_all_paid (X : K.In h) (G : h.Ns mainGlobals mg) (c : He.SaysD hFa hFn K) : Nonempty (Dd K mg "_law_all_paid" s__law_all_paid ["_law_deal_here", "_law_family_here"]) := by
  obtain ⟨fd, F⟩ := c.def_ 38 (d := dd__law_all_paid) rfl
  have g := He.glo_ok X G (c.fact 38 (f := .glo "_law_all_paid") rfl)
  have F' : FunD K "_law_all_paid" "_law_all_paid" (defArgs s__law_all_paid) (defBody s__law_all_paid) (defScope s__law_all_paid) [] [] (He.fAd K ("_law_all_paid", none)) fd := F
  exact ⟨⟨_, fd, _, F, g, FunD.bindsN F' fun _ _ _ _ _ _ us hl => match us, hl with | [_, _], _ => rfl⟩⟩
theorem nd__law_small_sums (X : K.In h) (G : h.Ns mainGlobals mg) (c : He.SaysD hFa hFn K) : Nonempty (Dd K mg "_law_small_sums" s__law_small_sums ["_law_deal_here", "_law_family_here"]) := by
  obtain ⟨fd, F⟩ := c.def_ 39 (d := dd__law_small_sums) rfl
  have g := He.glo_ok X G (c.fact 39 (f := .glo "_law_small_sums") rfl)
  have F' : FunD K "_law_small_sums" "_law_small_sums" (defArgs s__law_small_sums) (defBody s__law_small_sums) (defScope s__law_small_sums) [] [] (He.fAd K ("_law_small_sums", none)) fd := F
  exact ⟨⟨_, fd, _, F, g, FunD.bindsN F' fun _ _ _ _ _ _ us hl => match us, hl with | [_, _], _ => rfl⟩⟩
theorem nd__law_told (X : K.In h) (G : h.Ns mainGlobals mg) (c : He.SaysD hFa hFn K) : Nonempty (Dd K mg "_law_told" s__law_told ["_law_deal_here", "_law_family_here", "_law_due"]) := by
  obtain ⟨fd, F⟩ := c.def_ 40 (d := dd__law_told) rfl
  have g := He.glo_ok X G (c.fact 40 (f := .glo "_law_told") rfl)
  have F' : FunD K "_law_told" "_law_told" (defArgs s__law_told) (defBody s__law_told) (defScope s__law_told) [] [] (He.fAd K ("_law_told", none)) fd := F
  exact ⟨⟨_, fd, _, F, g, FunD.bindsN F' fun _ _ _ _ _ _ us hl => match us, hl with | [_, _, _], _ => rfl⟩⟩
theorem nd__law_error (X : K.In h) (G : h.Ns mainGlobals mg) (c : He.SaysD hFa hFn K) : Nonempty (Dd K mg "_law_error" s__law_error ["_law_deal_here", "_law_family_here", "_law_is_paid"]) := by
  obtain ⟨fd, F⟩ := c.def_ 41 (d := dd__law_error) rfl
  have g := He.glo_ok X G (c.fact 41 (f := .glo "_law_error") rfl)
  have F' : FunD K "_law_error" "_law_error" (defArgs s__law_error) (defBody s__law_error) (defScope s__law_error) [] [] (He.fAd K ("_law_error", none)) fd := F
  exact ⟨⟨_, fd, _, F, g, FunD.bindsN F' fun _ _ _ _ _ _ us hl => match us, hl with | [_, _, _], _ => rfl⟩⟩
theorem nd__law_by_hand (X : K.In h) (G : h.Ns mainGlobals mg) (c : He.SaysD hFa hFn K) : Nonempty (Dd K mg "_law_by_hand" s__law_by_hand []) := by
  obtain ⟨fd, F⟩ := c.def_ 42 (d := dd__law_by_hand) rfl
  have g := He.glo_ok X G (c.fact 42 (f := .glo "_law_by_hand") rfl)
  have F' : FunD K "_law_by_hand" "_law_by_hand" (defArgs s__law_by_hand) (defBody s__law_by_hand) (defScope s__law_by_hand) [] [] (He.fAd K ("_law_by_hand", none)) fd := F
  exact ⟨⟨_, fd, _, F, g, FunD.bindsN F' fun _ _ _ _ _ _ us hl => match us, hl with | [], _ => rfl⟩⟩
theorem nd_law (X : K.In h) (G : h.Ns mainGlobals mg) (c : He.SaysD hFa hFn K) : ∃ D : Dd K mg "law" s_law ["_law_script"], ∀ (s : Shared) (v : Value), BindsTo s D.fd ⟨[v], []⟩ [("_law_script", v)] := by
  obtain ⟨fd, F⟩ := c.def_ 43 (d := dd_law) rfl
  have g := He.glo_ok X G (c.fact 43 (f := .glo "law") rfl)
  have F' : FunD K "law" "law" (defArgs s_law) (defBody s_law) (defScope s_law) [] [] (He.fAd K ("law", none)) fd := F
  have b := FunD.bindsA (ps := ["_law_script"]) F' fun _ _ _ _ _ _ us hl => match us, hl with | [_], _ => rfl
  exact ⟨⟨_, fd, _, F, g, FunD.bindsN F' fun _ _ _ _ _ _ us hl => match us, hl with | [_], _ => rfl⟩, fun s v => b s [v] rfl⟩
theorem in_D : ∃ p1 p2 q1 q2 q4 q6 q7 q8 q9 r1, defArgs s_inD = siA "word" p1 p2 ∧ defBody s_inD = siB "word" "a deal is wanted" q1 q2 ⟨24, 8, 24, 24⟩ q4 ⟨24, 8, 24, 44⟩ q6 q7 q8 q9 r1 ∧ defScope s_inD = siS "word" := ⟨_, _, _, _, _, _, _, _, _, _, rfl, rfl, rfl⟩
theorem in_F : ∃ p1 p2 q1 q2 q4 q6 q7 q8 q9 r1, defArgs s_inF = siA "place" p1 p2 ∧ defBody s_inF = siB "place" "a family is wanted" q1 q2 ⟨19, 8, 19, 24⟩ q4 ⟨19, 8, 19, 46⟩ q6 q7 q8 q9 r1 ∧ defScope s_inF = siS "place" := ⟨_, _, _, _, _, _, _, _, _, _, rfl, rfl, rfl⟩
theorem pt_super : (hRow.prog.main.scope.names.lookup ("super" : Str)).isSome = false := by kernel_rfl
theorem pt_file : hRow.prog.main.file = hFile := by kernel_rfl
theorem txt_of (X : K.In h) (G : h.Ns mainGlobals mg) (cc : SaysH K) : ∃ T : Txt hRow.prog K mg, ∀ (s : Shared) (v : Value), BindsTo s T.d_law.fd ⟨[v], []⟩ [("_law_script", v)] := by
  have c : He.SaysD hFa hFn K := congrArg (fun z : AlH => z.2) cc
  have oD : inObs K (iD K) = inVal "BadDeal.__init__" s_inD := congrArg (fun z : AlH => z.1.2.1) cc
  have oF : inObs K (iF K) = inVal "BadFamily.__init__" s_inF := congrArg (fun z : AlH => z.1.2.2) cc
  have ow : ownB K = true := congrArg (fun z : AlH => z.1.1) cc
  unfold ownB at ow
  obtain ⟨w1, ow⟩ := He.ba ow
  obtain ⟨w2, ow⟩ := He.ba ow
  obtain ⟨w3, ow⟩ := He.ba ow
  obtain ⟨w4, ow⟩ := He.ba ow
  obtain ⟨w5, w6⟩ := He.ba ow
  have th := He.eqO_ok w5
  have gg : mg "gcd" = some (.builtin "math.gcd") := PySem.W.mg_of X G (He.eqO_ok w6)
  have sg : mg "super" = none := He.free_ok X G (c.fact 58 (f := .free "super") rfl)
  have gD : mg "BadDeal" = some (.ref (cD K)) := He.glo_ok X G (c.fact 67 (f := .glo "BadDeal") rfl)
  have gF : mg "BadFamily" = some (.ref (cF K)) := He.glo_ok X G (c.fact 68 (f := .glo "BadFamily") rfl)
  have sD := sup_of (P := hRow.prog) (mg := mg) (msg := "a deal is wanted") (q3 := ⟨24, 8, 24, 24⟩) (q5 := ⟨24, 8, 24, 44⟩) w1 oD in_D gD sg th pt_super pt_file
  have sF := sup_of (P := hRow.prog) (mg := mg) (msg := "a family is wanted") (q3 := ⟨19, 8, 19, 24⟩) (q5 := ⟨19, 8, 19, 46⟩) w2 oF in_F gF sg th pt_super pt_file
  obtain ⟨t_MOST_LINES, c_MOST_LINES⟩ := He.int_ok X G (c.fact 59 (f := .int "MOST_LINES" (2000)) rfl)
  obtain ⟨t_MOST_CHILDREN, c_MOST_CHILDREN⟩ := He.int_ok X G (c.fact 60 (f := .int "MOST_CHILDREN" (600)) rfl)
  obtain ⟨t_MOST_MEMBERS, c_MOST_MEMBERS⟩ := He.int_ok X G (c.fact 61 (f := .int "MOST_MEMBERS" ((10 ^ 60))) rfl)
  obtain ⟨t_MOST_STANDS, c_MOST_STANDS⟩ := He.int_ok X G (c.fact 62 (f := .int "MOST_STANDS" (8)) rfl)
  obtain ⟨t_MOST_RANKS, c_MOST_RANKS⟩ := He.int_ok X G (c.fact 63 (f := .int "MOST_RANKS" (8)) rfl)
  obtain ⟨t_MOST_WEIGHT, c_MOST_WEIGHT⟩ := He.int_ok X G (c.fact 64 (f := .int "MOST_WEIGHT" (99)) rfl)
  obtain ⟨t_MOST_DIGITS, c_MOST_DIGITS⟩ := He.int_ok X G (c.fact 65 (f := .int "MOST_DIGITS" (1000)) rfl)
  obtain ⟨t_FIRST_TOO_LONG, c_FIRST_TOO_LONG⟩ := He.int_ok X G (c.fact 66 (f := .int "FIRST_TOO_LONG" ((10 ^ 1000))) rfl)
  obtain ⟨d_is_whole⟩ := nd_is_whole X G c
  obtain ⟨d_is_within⟩ := nd_is_within X G c
  obtain ⟨d_is_truth⟩ := nd_is_truth X G c
  obtain ⟨d_is_tuple_of⟩ := nd_is_tuple_of X G c
  obtain ⟨d_is_word_of⟩ := nd_is_word_of X G c
  obtain ⟨d_is_line⟩ := nd_is_line X G c
  obtain ⟨d_need_lines⟩ := nd_need_lines X G c
  obtain ⟨d_need_family⟩ := nd_need_family X G c
  obtain ⟨d_has_too_many⟩ := nd_has_too_many X G c
  obtain ⟨d_reading_counts⟩ := nd_reading_counts X G c
  obtain ⟨d_are_weights⟩ := nd_are_weights X G c
  obtain ⟨d_are_stand_rows⟩ := nd_are_stand_rows X G c
  obtain ⟨d_are_takes⟩ := nd_are_takes X G c
  obtain ⟨d_are_closings⟩ := nd_are_closings X G c
  obtain ⟨d_need_deal⟩ := nd_need_deal X G c
  obtain ⟨d_dealt_row⟩ := nd_dealt_row X G c
  obtain ⟨d_closings_of⟩ := nd_closings_of X G c
  obtain ⟨d_fraction⟩ := nd_fraction X G c
  obtain ⟨d_need_short⟩ := nd_need_short X G c
  obtain ⟨d_row_weight⟩ := nd_row_weight X G c
  obtain ⟨d_joined_parts⟩ := nd_joined_parts X G c
  obtain ⟨d_paid⟩ := nd_paid X G c
  obtain ⟨d_receivers⟩ := nd_receivers X G c
  obtain ⟨d__law_mixed⟩ := nd__law_mixed X G c
  obtain ⟨d__law_folded⟩ := nd__law_folded X G c
  obtain ⟨d__law_draw⟩ := nd__law_draw X G c
  obtain ⟨d__law_begun⟩ := nd__law_begun X G c
  obtain ⟨d__law_like⟩ := nd__law_like X G c
  obtain ⟨d__law_planted⟩ := nd__law_planted X G c
  obtain ⟨d__law_family⟩ := nd__law_family X G c
  obtain ⟨d__law_line_at⟩ := nd__law_line_at X G c
  obtain ⟨d__law_deal⟩ := nd__law_deal X G c
  obtain ⟨d__law_dealt⟩ := nd__law_dealt X G c
  obtain ⟨d__law_low⟩ := nd__law_low X G c
  obtain ⟨d__law_part⟩ := nd__law_part X G c
  obtain ⟨d__law_shares⟩ := nd__law_shares X G c
  obtain ⟨d__law_shared⟩ := nd__law_shared X G c
  obtain ⟨d__law_sum⟩ := nd__law_sum X G c
  obtain ⟨d__law_all_paid⟩ := nd__law_all_paid X G c
  obtain ⟨d__law_small_sums⟩ := nd__law_small_sums X G c
  obtain ⟨d__law_told⟩ := nd__law_told X G c
  obtain ⟨d__law_error⟩ := nd__law_error X G c
  obtain ⟨d__law_by_hand⟩ := nd__law_by_hand X G c
  obtain ⟨d_law, hb⟩ := nd_law X G c
  exact ⟨{
    d_is_whole := d_is_whole,
    d_is_within := d_is_within,
    d_is_truth := d_is_truth,
    d_is_tuple_of := d_is_tuple_of,
    d_is_word_of := d_is_word_of,
    d_is_line := d_is_line,
    d_need_lines := d_need_lines,
    d_need_family := d_need_family,
    d_has_too_many := d_has_too_many,
    d_reading_counts := d_reading_counts,
    d_are_weights := d_are_weights,
    d_are_stand_rows := d_are_stand_rows,
    d_are_takes := d_are_takes,
    d_are_closings := d_are_closings,
    d_need_deal := d_need_deal,
    d_dealt_row := d_dealt_row,
    d_closings_of := d_closings_of,
    d_fraction := d_fraction,
    d_need_short := d_need_short,
    d_row_weight := d_row_weight,
    d_joined_parts := d_joined_parts,
    d_paid := d_paid,
    d_receivers := d_receivers,
    d__law_mixed := d__law_mixed,
    d__law_folded := d__law_folded,
    d__law_draw := d__law_draw,
    d__law_begun := d__law_begun,
    d__law_like := d__law_like,
    d__law_planted := d__law_planted,
    d__law_family := d__law_family,
    d__law_line_at := d__law_line_at,
    d__law_deal := d__law_deal,
    d__law_dealt := d__law_dealt,
    d__law_low := d__law_low,
    d__law_part := d__law_part,
    d__law_shares := d__law_shares,
    d__law_shared := d__law_shared,
    d__law_sum := d__law_sum,
    d__law_all_paid := d__law_all_paid,
    d__law_small_sums := d__law_small_sums,
    d__law_told := d__law_told,
    d__law_error := d__law_error,
    d__law_by_hand := d__law_by_hand,
    d_law := d_law,
    b_bool := He.free_ok X G (c.fact 44 (f := .free "bool") rfl),
    b_enumerate := He.free_ok X G (c.fact 45 (f := .free "enumerate") rfl),
    b_int := He.free_ok X G (c.fact 46 (f := .free "int") rfl),
    b_isinstance := He.free_ok X G (c.fact 47 (f := .free "isinstance") rfl),
    b_len := He.free_ok X G (c.fact 48 (f := .free "len") rfl),
    b_min := He.free_ok X G (c.fact 49 (f := .free "min") rfl),
    b_range := He.free_ok X G (c.fact 50 (f := .free "range") rfl),
    b_repr := He.free_ok X G (c.fact 51 (f := .free "repr") rfl),
    b_reversed := He.free_ok X G (c.fact 52 (f := .free "reversed") rfl),
    b_sorted := He.free_ok X G (c.fact 53 (f := .free "sorted") rfl),
    b_str := He.free_ok X G (c.fact 54 (f := .free "str") rfl),
    b_sum := He.free_ok X G (c.fact 55 (f := .free "sum") rfl),
    b_tuple := He.free_ok X G (c.fact 56 (f := .free "tuple") rfl),
    b_zip := He.free_ok X G (c.fact 57 (f := .free "zip") rfl),
    b_gcd := gg,
    C_BadDeal := cD K,
    g_BadDeal := gD,
    k_BadDeal := He.keep_ok (c.fact 69 (f := .keep "BadDeal") rfl),
    x_BadDeal := mk_BadDeal sD,
    f_BadDeal := xfB_ok w3,
    n_BadDeal := sD.noN,
    C_BadFamily := cF K,
    g_BadFamily := gF,
    k_BadFamily := He.keep_ok (c.fact 70 (f := .keep "BadFamily") rfl),
    x_BadFamily := mk_BadFamily sF,
    f_BadFamily := xfB_ok w4,
    n_BadFamily := sF.noN,
    e_dd := He.exm_ok (c.fact 71 (f := .exm "BadDeal" "BadDeal" true) rfl),
    e_fd := He.exm_ok (c.fact 72 (f := .exm "BadFamily" "BadDeal" false) rfl),
    e_ff := He.exm_ok (c.fact 73 (f := .exm "BadFamily" "BadFamily" true) rfl),
    t_MOST_LINES := t_MOST_LINES,
    c_MOST_LINES := c_MOST_LINES,
    t_MOST_CHILDREN := t_MOST_CHILDREN,
    c_MOST_CHILDREN := c_MOST_CHILDREN,
    t_MOST_MEMBERS := t_MOST_MEMBERS,
    c_MOST_MEMBERS := c_MOST_MEMBERS,
    t_MOST_STANDS := t_MOST_STANDS,
    c_MOST_STANDS := c_MOST_STANDS,
    t_MOST_RANKS := t_MOST_RANKS,
    c_MOST_RANKS := c_MOST_RANKS,
    t_MOST_WEIGHT := t_MOST_WEIGHT,
    c_MOST_WEIGHT := c_MOST_WEIGHT,
    t_MOST_DIGITS := t_MOST_DIGITS,
    c_MOST_DIGITS := c_MOST_DIGITS,
    t_FIRST_TOO_LONG := t_FIRST_TOO_LONG,
    c_FIRST_TOO_LONG := c_FIRST_TOO_LONG
  }, hb⟩
end
end AB

set_option Elab.async false
set_option linter.all false
set_option maxRecDepth 100000
set_option maxHeartbeats 4000000
/-! The walk that the head asks for, and the law. -/
namespace AB
open PySem PySem.Spec PyProof.Rows L2
theorem walk_gE {l : PySem.W.OpenLaw} {n k : Nat} {q : Program} {loose : List Str} {XP : (Str → Option Value) → Heap → Prop} {YP : World → Heap → Prop} {d : DefRec} {x : Str}
    (hn : l.most = some n) (hn2 : n ≤ sizeLine) (hdf : d.params.defaults = []) (hr : Room k callerA)
    (F : ∀ (w : World) (mg : Str → Option Value) (fa : Addr) (h : Heap), YP w h → h.Ns mainGlobals mg → mg d.name = some (.ref fa) →
      ∃ (K : PySem.W.Frag) (fd : FuncData) (sp : Sp), K.In h ∧ (∀ (s : Shared) (u : Value), BindsTo s fd ⟨[u], []⟩ [(x, u)]) ∧
        (∀ (H : Hp) (a : Addr) (ns : List Int), ns.length ≤ n → Only H → SqL K H a (ns.map V.int) → sp [.ref a] H (fun v _ => v = .bl true) E0) ∧
        ∀ base : Heap, K.In base → base.Ns mainGlobals mg → FnG l.prog w K mg base k fa fd [x] sp) :
    PySem.W.WalkO q loose XP YP l.row.toRowW d [] (fun f vs => PySem.call f vs) := by
  refine Att.attach_call hn hdf fun w s₀ s₁ mg mb fa o pm cd doc a vs ns G Y ho hd hcd hmg hobj hints hlen hg => ?_
  obtain ⟨K, fd, sp, KX, hb, hsp, hF⟩ := F w mg fa _ Y G.T.g hmg
  exact law_g KX G.T.g G.T.b G.T.builtins G.T.nolimit hg hobj hints (Nat.le_trans hlen hn2) hr hF hb fun H hO hS => hsp H a ns hlen hO hS
theorem law_name : (HandSHeadRun.topDef hRow.prog 65).name = ("law" : Str) := by kernel_rfl
theorem law_walk : PySem.W.WalkO (PySem.W.view hRow.prog [0, 65]) hLoose (PySem.W.XL (PySem.W.view hRow.prog [0, 65]) []) hk.says hRow.toRowW (HandSHeadRun.topDef hRow.prog 65) [] fun f vs => PySem.call f vs := by
  refine walk_gE (l := PySem.Challenge.rw_heirlines_k60_whole_sums_line_by_line) (n := 63) (k := 9) (x := "_law_script") rfl (by decide) (by kernel_rfl) ⟨rfl, by decide, by decide⟩ ?_
  intro w mg fa h Y G hmg0
  obtain ⟨K, KX, c⟩ := Y
  have hmg : mg ("law" : Str) = some (.ref fa) := by
    rw [← law_name]
    exact hmg0
  obtain ⟨T, hb⟩ := txt_of KX G c
  have e := hmg.symm.trans T.d_law.g
  cases e
  exact ⟨K, T.d_law.fd, gSp K sp_law, KX, hb, fun H a ns hl _ hS => law_sp K H a ns (Nat.le_trans hl (by decide)) hS, fun base _ _ => ok_law T⟩
end AB
open PySem PySem.W PySem.Calls PyProof.Rows
theorem PySem.Challenge.cw_heirlines_k60_whole_sums_line_by_line_holds : PySem.Challenge.rw_heirlines_k60_whole_sums_line_by_line.Holds := by
  w_on; o_law
  refine HandSHeadRun.head_imp (r := AB.hRow) (q := view AB.hRow.prog [0, 65]) (H := AB.hk) (ob := AB.hOb) (M := 4000) (loose := AB.hLoose) (d := HandSHeadRun.topDef AB.hRow.prog 65) (kwd := []) AB.hOb_eq AB.hRun
    (by kernel_rfl) (by kernel_rfl) (by kernel_rfl) (by rfl) (by first | assumption | decide +kernel) (by decide +kernel) ⟨rfl, rfl, rfl, rfl, rfl, by decide +kernel⟩ ?hw ?hc
  case hw => w_witness2
  case hc => exact AB.law_walk

