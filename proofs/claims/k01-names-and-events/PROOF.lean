import PyProof.Rows.All
import Wide.All
import OpenK.AllK
import Wide.FinOn
import HandS.ForMost
import HandS.ForExc
import HandS.Lambda
import HandS.IsInst
import HandS.Deep
import HandS.TupAny
import HandS.Wide
import HandS.StrMore
import HandS.Style
import HandS.ExcField
import HandS.ExcIs
import HandS.RaiseMore
import KE.KExcLine
import HandS.Defaults
import HandS.MakeKwOnly
import HandS.EndOwn
import PySem.Challenge.RW_letterrules_k01_names_and_events
set_option Elab.async false
set_option linter.all false
set_option maxRecDepth 100000
set_option autoImplicit false
namespace L2.PV
open PySem PySem.Spec PyProof.Rows

/-! ### pure values -/
inductive D where
  | non | bl (b : Bool) | int (i : Int) | str (s : Str)
  | tup (xs : List D) | lst (xs : List D)
  | dct (kvs : List (Key × D)) | obj (c : Str) (fs : List (Str × D)) | con (v : V)
  | xn (a : Addr) (d : Option Addr) (c : Str) (fs : List (Str × D))

abbrev MG := Str → Option Value
def WrT (K : PySem.W.Frag) (a : Addr) (xs : List V) : Prop :=
  ∃ (o : Obj) (its : Array Value) (n : Nat), K.lookup a = some o ∧ o.cls = .type "tuple" ∧ o.data = .seq its n ∧ its.size ≤ sizeLine ∧ Vals xs its.toList
def WrL (K : PySem.W.Frag) (a : Addr) (xs : List V) : Prop :=
  ∃ (o : Obj) (its : Array Value) (n : Nat), K.lookup a = some o ∧ o.cls = .type "list" ∧ o.dict = none ∧ o.data = .seq its n ∧ its.size ≤ sizeLine ∧ Vals xs its.toList
def AtT (K : PySem.W.Frag) (F : Hp) (a : Addr) (xs : List V) : Prop := F a = some (.tup xs) ∨ WrT K a xs
def AtL (K : PySem.W.Frag) (F : Hp) (a : Addr) (xs : List V) : Prop := F a = some (.lst xs)

/-- F is held by H -/
def Sub (F H : Hp) : Prop := ∀ a u, F a = some u → Rd H a u
def Le (F G : Hp) : Prop := ∀ a u, F a = some u → G a = some u
theorem Le.refl (F : Hp) : Le F F := fun _ _ h => h
theorem Le.trans {F G I : Hp} (a : Le F G) (b : Le G I) : Le F I := fun x u h => b x u (a x u h)
theorem Le.upd {F : Hp} {a : Addr} {o : HO} (h : F a = none) : Le F (upd F a o) := fun b u e => by rw [upd_ne (ne_of_none e h)]; exact e

theorem AtT.seq {K : PySem.W.Frag} {F H : Hp} {a : Addr} {xs : List V} (s : Sub F H) (h : AtT K F a xs) : SqT K H a xs := by
  rcases h with h | h
  · exact .inl (s _ _ h)
  · exact .inr h
theorem AtL.seq {K : PySem.W.Frag} {F H : Hp} {a : Addr} {xs : List V} (s : Sub F H) (h : AtL K F a xs) : SqL K H a xs := .inl (s _ _ h)
theorem AtL.rd {K : PySem.W.Frag} {F H : Hp} {a : Addr} {xs : List V} (s : Sub F H) (h : AtL K F a xs) : Rd H a (.lst xs) := s _ _ h
theorem AtT.mono {K : PySem.W.Frag} {F G : Hp} {a : Addr} {xs : List V} (s : Le F G) (h : AtT K F a xs) : AtT K G a xs := h.imp (s _ _) id
theorem AtL.mono {K : PySem.W.Frag} {F G : Hp} {a : Addr} {xs : List V} (s : Le F G) (h : AtL K F a xs) : AtL K G a xs := s _ _ h

mutual
inductive Den (K : PySem.W.Frag) (mg : MG) (F : Hp) : D → V → Prop
  | non : Den K mg F .non .non
  | bl (b : Bool) : Den K mg F (.bl b) (.bl b)
  | int (i : Int) : Den K mg F (.int i) (.int i)
  | str (s : Str) : Den K mg F (.str s) (.str s)
  | tup {xs : List D} {vs : List V} {a : Addr} (h : AtT K F a vs) (l : DenL K mg F xs vs) : Den K mg F (.tup xs) (.ref a)
  | lst {xs : List D} {vs : List V} {a : Addr} (h : AtL K F a vs) (l : DenL K mg F xs vs) : Den K mg F (.lst xs) (.ref a)
  | dct {xs : List (Key × D)} {vs : List (Key × V)} {a : Addr} (h : F a = some (.dK vs)) (l : DenK K mg F xs vs) : Den K mg F (.dct xs) (.ref a)
  | obj {c : Str} {C dx a : Addr} {fs : List (Str × D)} {gs : List (Str × V)} (m : mg c = some (.ref C)) (h : F a = some (.ins C dx gs)) (l : DenF K mg F fs gs) : Den K mg F (.obj c fs) (.ref a)
  | con (v : V) : Den K mg F (.con v) v
  | xn0 (a : Addr) (c : Str) : Den K mg F (.xn a none c []) (.ref a)
  | xn1 {a p : Addr} {c : Str} {fs : List (Str × D)} {gs : List (Str × V)} (h : F p = some (.xd gs)) (l : DenF K mg F fs gs) : Den K mg F (.xn a (some p) c fs) (.ref a)
inductive DenL (K : PySem.W.Frag) (mg : MG) (F : Hp) : List D → List V → Prop
  | nil : DenL K mg F [] []
  | cons {d : D} {v : V} {ds : List D} {vs : List V} (h : Den K mg F d v) (t : DenL K mg F ds vs) : DenL K mg F (d :: ds) (v :: vs)
inductive DenK (K : PySem.W.Frag) (mg : MG) (F : Hp) : List (Key × D) → List (Key × V) → Prop
  | nil : DenK K mg F [] []
  | cons {k : Key} {d : D} {v : V} {ds : List (Key × D)} {vs : List (Key × V)} (h : Den K mg F d v) (t : DenK K mg F ds vs) : DenK K mg F ((k, d) :: ds) ((k, v) :: vs)
inductive DenF (K : PySem.W.Frag) (mg : MG) (F : Hp) : List (Str × D) → List (Str × V) → Prop
  | nil : DenF K mg F [] []
  | cons {k : Str} {d : D} {v : V} {ds : List (Str × D)} {vs : List (Str × V)} (h : Den K mg F d v) (t : DenF K mg F ds vs) : DenF K mg F ((k, d) :: ds) ((k, v) :: vs)
end

section
variable {K : PySem.W.Frag} {mg : MG} {F G : Hp}
mutual
theorem Den.mono (s : Le F G) : ∀ {d : D} {v : V}, Den K mg F d v → Den K mg G d v
  | _, _, .non => .non
  | _, _, .bl b => .bl b
  | _, _, .int i => .int i
  | _, _, .str x => .str x
  | _, _, .tup h l => .tup (h.mono s) (DenL.mono s l)
  | _, _, .lst h l => .lst (h.mono s) (DenL.mono s l)
  | _, _, .dct h l => .dct (s _ _ h) (DenK.mono s l)
  | _, _, .obj m h l => .obj m (s _ _ h) (DenF.mono s l)
  | _, _, .con v => .con v
  | _, _, .xn0 a c => .xn0 a c
  | _, _, .xn1 h l => .xn1 (s _ _ h) (DenF.mono s l)
theorem DenL.mono (s : Le F G) : ∀ {d : List D} {v : List V}, DenL K mg F d v → DenL K mg G d v
  | _, _, .nil => .nil
  | _, _, .cons h t => .cons (Den.mono s h) (DenL.mono s t)
theorem DenK.mono (s : Le F G) : ∀ {d : List (Key × D)} {v : List (Key × V)}, DenK K mg F d v → DenK K mg G d v
  | _, _, .nil => .nil
  | _, _, .cons h t => .cons (Den.mono s h) (DenK.mono s t)
theorem DenF.mono (s : Le F G) : ∀ {d : List (Str × D)} {v : List (Str × V)}, DenF K mg F d v → DenF K mg G d v
  | _, _, .nil => .nil
  | _, _, .cons h t => .cons (Den.mono s h) (DenF.mono s t)
end
theorem DenL.length : ∀ {ds : List D} {vs : List V}, DenL K mg F ds vs → ds.length = vs.length
  | _, _, .nil => rfl
  | _, _, .cons _ t => by rw [List.length_cons, List.length_cons, t.length]
theorem DenL.get : ∀ {ds : List D} {vs : List V} {i : Nat} {d : D}, DenL K mg F ds vs → ds[i]? = some d → ∃ v, vs[i]? = some v ∧ Den K mg F d v
  | _, _, _, _, .nil, e => by simp at e
  | _, _, 0, _, .cons h _, e => by simp at e; subst e; exact ⟨_, rfl, h⟩
  | _, _, i + 1, d, .cons _ t, e => by
    obtain ⟨v, h1, h2⟩ := t.get (i := i) (d := d) (by simpa using e)
    exact ⟨v, by simpa using h1, h2⟩
theorem DenL.get' : ∀ {ds : List D} {vs : List V} {i : Nat} {v : V}, DenL K mg F ds vs → vs[i]? = some v → ∃ d, ds[i]? = some d ∧ Den K mg F d v
  | _, _, _, _, .nil, e => by simp at e
  | _, _, 0, _, .cons h _, e => by simp at e; subst e; exact ⟨_, rfl, h⟩
  | _, _, i + 1, d, .cons _ t, e => by
    obtain ⟨v, h1, h2⟩ := t.get' (i := i) (v := d) (by simpa using e)
    exact ⟨v, by simpa using h1, h2⟩
theorem DenL.append : ∀ {ds es : List D} {vs ws : List V}, DenL K mg F ds vs → DenL K mg F es ws → DenL K mg F (ds ++ es) (vs ++ ws)
  | _, _, _, _, .nil, s => s
  | _, _, _, _, .cons h t, s => .cons h (t.append s)
theorem DenL.set : ∀ {ds : List D} {vs : List V} {d : D} {v : V} (i : Nat), DenL K mg F ds vs → Den K mg F d v → DenL K mg F (ds.set i d) (vs.set i v)
  | _, _, _, _, _, .nil, _ => .nil
  | _, _, _, _, 0, .cons _ t, s => .cons s t
  | _, _, _, _, i + 1, .cons h t, s => .cons h (t.set i s)
theorem DenL.take : ∀ {ds : List D} {vs : List V} (i : Nat), DenL K mg F ds vs → DenL K mg F (ds.take i) (vs.take i)
  | _, _, 0, _ => .nil
  | _, _, _ + 1, .nil => .nil
  | _, _, i + 1, .cons h t => .cons h (t.take i)
theorem DenL.drop : ∀ {ds : List D} {vs : List V} (i : Nat), DenL K mg F ds vs → DenL K mg F (ds.drop i) (vs.drop i)
  | _, _, 0, h => h
  | _, _, _ + 1, .nil => .nil
  | _, _, i + 1, .cons h t => t.drop i
theorem DenL.eraseIdx : ∀ {ds : List D} {vs : List V} (i : Nat), DenL K mg F ds vs → DenL K mg F (ds.eraseIdx i) (vs.eraseIdx i)
  | _, _, _, .nil => .nil
  | _, _, 0, .cons _ t => t
  | _, _, i + 1, .cons h t => .cons h (t.eraseIdx i)
theorem DenL.reverse {ds : List D} {vs : List V} (h : DenL K mg F ds vs) : DenL K mg F ds.reverse vs.reverse := by
  induction ds generalizing vs with
  | nil => cases h; exact .nil
  | cons d ds ih =>
    cases h with
    | cons h t =>
      rw [List.reverse_cons, List.reverse_cons]
      exact (ih t).append (.cons h .nil)
theorem DenL.dropLast {ds : List D} {vs : List V} (h : DenL K mg F ds vs) : DenL K mg F ds.dropLast vs.dropLast := by
  rw [List.dropLast_eq_take, List.dropLast_eq_take, h.length]; exact h.take _
theorem DenL.ofMap {α : Type} {f : α → D} {g : α → V} (h : ∀ a, Den K mg F (f a) (g a)) : ∀ xs : List α, DenL K mg F (xs.map f) (xs.map g)
  | [] => .nil
  | x :: xs => .cons (h x) (DenL.ofMap h xs)
theorem DenK.length : ∀ {ds : List (Key × D)} {vs : List (Key × V)}, DenK K mg F ds vs → ds.length = vs.length
  | _, _, .nil => rfl
  | _, _, .cons _ t => by rw [List.length_cons, List.length_cons, t.length]
end

/-! ### slots -/
inductive Sl where | un | val (d : D) | own (d : D) | io (d : D)
abbrev En := List Sl
def Sl.hot : Sl → Bool | .own _ => true | .io _ => true | _ => false

/-- the entry: the heap, what was frozen then, the addresses that are handed in to be changed -/
abbrev Tb := List (Addr × Str)
structure Bs (T : Tb) where
  H0 : Hp
  F0 : Hp
  io : Nat → Option Addr
/-- a table of code objects -/
def isTbl : HO → Bool | .tbl _ => true | _ => false
def isExt : HO → Bool | .ext _ => true | _ => false
theorem tabS_keep {H H' : Hp} {P : Addr} {q : Str} (t : LamX.TabS H P q) (e : ∀ b o, H b = some o → isTbl o = true ∨ isExt o = true → H' b = some o) : LamX.TabS H' P q := by
  obtain ⟨ps, h1, h2, h3⟩ := t
  refine ⟨ps, e _ _ h1 (.inl rfl), h2, fun pos cv hc => ?_⟩
  obtain ⟨c, e1, e2⟩ := h3 pos cv hc
  exact ⟨c, e1, e _ _ e2 (.inr rfl)⟩
theorem tabs_keep {H H' : Hp} {T : List (Addr × Str)} (t : LamX.Tabs T H) (e : ∀ b o, H b = some o → isTbl o = true ∨ isExt o = true → H' b = some o) : LamX.Tabs T H' := fun p hp => tabS_keep (t p hp) e

section
variable (K : PySem.W.Frag) (mg : MG)
def Cont (F H : Hp) (a : Addr) : D → Prop
  | .lst ds => ∃ vs, H a = some (.lst vs) ∧ DenL K mg F ds vs
  | .dct kvs => ∃ ws, H a = some (.dK ws) ∧ DenK K mg F kvs ws
  | .obj c fs => ∃ C dx gs, mg c = some (.ref C) ∧ H a = some (.ins C dx gs) ∧ DenF K mg F fs gs
  | _ => False
def SlOk {T : Tb} (B : Bs T) (F H : Hp) (i : Nat) (v : Option (Option V)) : Sl → Prop
  | .un => True
  | .val d => ∃ x, v = some (some x) ∧ Den K mg F d x
  | .own d => ∃ a, v = some (some (.ref a)) ∧ F a = none ∧ B.H0 a = none ∧ Cont K mg F H a d
  | .io d => ∃ a, v = some (some (.ref a)) ∧ F a = none ∧ B.io i = some a ∧ Cont K mg F H a d
structure Rel {T : Tb} (B : Bs T) (F : Hp) (e : En) (σ : St) (H : Hp) : Prop where
  sub : Sub F H
  old : ∀ a o, B.H0 a = some o → isTbl o = false → (∀ i, B.io i ≠ some a) → H a = some o
  oldT : ∀ a o, B.H0 a = some o → isTbl o = true → a ∈ T.map (·.1)
  tabs : LamX.Tabs T H
  low : Le B.F0 F
  fr : ∀ a u, F a = some u → B.F0 a = some u ∨ B.H0 a = none
  len : e.length = σ.length
  at' : ∀ (i : Nat) (s : Sl), e[i]? = some s → SlOk K mg B F H i σ[i]? s
  ios : ∀ i a, B.io i = some a → ∃ d, e[i]? = some (.io d)
  apart : ∀ (i j : Nat) (a : Addr) (s t : Sl), e[i]? = some s → e[j]? = some t → s.hot = true → t.hot = true → σ[i]? = some (some (.ref a)) → σ[j]? = some (some (.ref a)) → i = j
  noT : ∀ a u, F a = some u → isTbl u = false
end

section
variable {K : PySem.W.Frag} {mg : MG} {T : Tb} {B : Bs T} {F H : Hp} {e : En} {σ : St} {p a : Addr} {o : HO} {i : Nat} {d : D}
theorem Cont.tracked' (h : Cont K mg F H a d) : ∃ o, H a = some o ∧ isTbl o = false ∧ isExt o = false := by
  cases d <;> first | exact h.elim | (obtain ⟨_, e, _⟩ := h; exact ⟨_, e, rfl, rfl⟩) | (obtain ⟨_, _, _, _, e, _⟩ := h; exact ⟨_, e, rfl, rfl⟩)
theorem Cont.tracked (h : Cont K mg F H a d) : ∃ o, H a = some o := let ⟨o, e, _⟩ := h.tracked'; ⟨o, e⟩
theorem Cont.mono {G : Hp} (s : Le F G) (h : Cont K mg F H a d) : Cont K mg G H a d := by
  cases d <;> first | exact h.elim | (obtain ⟨x, e, l⟩ := h; exact ⟨x, e, l.mono s⟩) | (obtain ⟨x, y, z, m, e, l⟩ := h; exact ⟨x, y, z, m, e, l.mono s⟩)
theorem Cont.heap {H' : Hp} (s : H' a = H a) (h : Cont K mg F H a d) : Cont K mg F H' a d := by
  cases d <;> first | exact h.elim | (obtain ⟨x, e, l⟩ := h; exact ⟨x, s.trans e, l⟩) | (obtain ⟨x, y, z, m, e, l⟩ := h; exact ⟨x, y, z, m, s.trans e, l⟩)
theorem Sub.free (s : Sub F H) (h : H p = none) : F p = none := by
  cases q : F p with
  | none => rfl
  | some u =>
    rcases s _ _ q with z | ⟨_, z⟩ <;> (rw [h] at z; cases z)
theorem Rel.hot (R : Rel K mg B F e σ H) {s : Sl} (h : e[i]? = some s) (t : s.hot = true) : ∃ a o, σ[i]? = some (some (.ref a)) ∧ F a = none ∧ H a = some o ∧ (B.H0 a = none ∨ B.io i = some a) ∧ isTbl o = false ∧ isExt o = false := by
  have z := R.at' i s h
  cases s with
  | un => cases t
  | val d => cases t
  | own d =>
    obtain ⟨a, e1, e2, e3, c⟩ := z
    obtain ⟨o, e4, e5, e6⟩ := c.tracked'
    exact ⟨a, o, e1, e2, e4, .inl e3, e5, e6⟩
  | io d =>
    obtain ⟨a, e1, e2, e3, c⟩ := z
    obtain ⟨o, e4, e5, e6⟩ := c.tracked'
    exact ⟨a, o, e1, e2, e4, .inr e3, e5, e6⟩
theorem tab_at {T : Tb} {H : Hp} (t : LamX.Tabs T H) (h : p ∈ T.map (·.1)) : ∃ ps, H p = some (.tbl ps) := by
  obtain ⟨x, h1, h2⟩ := List.mem_map.mp h
  obtain ⟨ps, h3, _⟩ := t x h1
  exact ⟨ps, by rw [← h2]; exact h3⟩
theorem Rel.tbl0 (R : Rel K mg B F e σ H) (h : B.H0 p = some o) (t : isTbl o = true) : ∃ ps, H p = some (.tbl ps) := tab_at R.tabs (R.oldT p o h t)
/-- what a callee is told of the heap: all but the tables that nobody knows -/
def kn (T : Tb) (H : Hp) : Hp := fun a => match H a with
  | some o => if isTbl o = true ∧ ¬ a ∈ T.map (·.1) then none else some o
  | none => none
theorem kn_of {T : Tb} {H : Hp} (h : H a = some o) (t : isTbl o = false) : kn T H a = some o := by
  unfold kn
  rw [h]
  show (if isTbl o = true ∧ ¬ a ∈ T.map (·.1) then none else some o) = some o
  rw [if_neg (fun z => by rw [t] at z; cases z.1)]
theorem kn_tb {T : Tb} {H : Hp} (h : a ∈ T.map (·.1)) : kn T H a = H a := by
  unfold kn
  cases q : H a with
  | none => rfl
  | some o =>
    show (if isTbl o = true ∧ ¬ a ∈ T.map (·.1) then none else some o) = some o
    rw [if_neg fun z => z.2 h]
theorem kn_sub {T : Tb} {H : Hp} (h : kn T H a = some o) : H a = some o ∧ (isTbl o = true → a ∈ T.map (·.1)) := by
  unfold kn at h
  cases q : H a with
  | none => rw [q] at h; cases h
  | some u =>
    rw [q] at h
    have h : (if isTbl u = true ∧ ¬ a ∈ T.map (·.1) then none else some u) = some o := h
    split at h
    · cases h
    · rename_i n
      cases h
      exact ⟨rfl, fun t => Decidable.byContradiction fun z => n ⟨t, z⟩⟩
theorem kn_none {T : Tb} {H : Hp} (h : H a = none) : kn T H a = none := by
  cases q : kn T H a with
  | none => rfl
  | some o => rw [(kn_sub q).1] at h; cases h
theorem Rel.none0 (R : Rel K mg B F e σ H) (h : H p = none) : B.H0 p = none := by
  cases q : B.H0 p with
  | none => rfl
  | some u =>
    by_cases hi : ∃ i, B.io i = some p
    · obtain ⟨i, hi⟩ := hi
      obtain ⟨d, hd⟩ := R.ios i p hi
      obtain ⟨a, _, _, e3, c⟩ := R.at' i _ hd
      rw [hi] at e3; cases e3
      obtain ⟨o, e4⟩ := c.tracked
      rw [h] at e4; cases e4
    · cases ht : isTbl u with
      | true =>
        obtain ⟨ps, z⟩ := R.tbl0 q ht
        rw [h] at z; cases z
      | false =>
        have z := R.old p u q ht fun i hi' => hi ⟨i, hi'⟩
        rw [h] at z; cases z
theorem Rel.none0k (R : Rel K mg B F e σ H) (h : kn T H p = none) : B.H0 p = none := by
  cases q : B.H0 p with
  | none => rfl
  | some u =>
    exfalso
    cases ht : isTbl u with
    | true =>
      obtain ⟨ps, z⟩ := R.tbl0 q ht
      rw [kn_tb (R.oldT p u q ht), z] at h; cases h
    | false =>
      by_cases hi : ∃ i, B.io i = some p
      · obtain ⟨i, hi⟩ := hi
        obtain ⟨d, hd⟩ := R.ios i p hi
        obtain ⟨a, _, _, e3, c⟩ := R.at' i _ hd
        rw [hi] at e3; cases e3
        obtain ⟨o, e4, e5, _⟩ := c.tracked'
        rw [kn_of e4 e5] at h; cases h
      · rw [kn_of (R.old p u q ht fun i hi' => hi ⟨i, hi'⟩) ht] at h; cases h
theorem Sub.upd (s : Sub F H) (h : F p = none) : Sub F (upd H p o) := fun b u q => by
  have hb := ne_of_none q h
  rcases s _ _ q with z | ⟨w, z⟩
  · exact .inl (by rw [upd_ne hb]; exact z)
  · exact .inr ⟨w, by rw [upd_ne hb]; exact z⟩
theorem Sub.updF (s : Sub F H) (h : F p = none) : Sub (L2.upd F p o) (L2.upd H p o) := fun b u q => by
  by_cases hb : b = p
  · subst hb; rw [upd_same] at q; cases q; exact .inl upd_same
  · rw [upd_ne hb] at q
    exact s.upd h b u q
/-- the heap grows by an object that nobody knows -/
theorem Rel.grow (R : Rel K mg B F e σ H) (h : H p = none) : Rel K mg B F e σ (upd H p o) := by
  have hF := R.sub.free h
  have hk : ∀ b u, H b = some u → upd H p o b = some u := fun b u z => by rw [upd_ne (ne_of_none z h)]; exact z
  refine ⟨R.sub.upd hF, fun a u q t n => hk _ _ (R.old a u q t n), R.oldT, R.tabs.ext hk, R.low, R.fr, R.len, fun i s hs => ?_, R.ios, R.apart, R.noT⟩
  · have z := R.at' i s hs
    cases s with
    | un => trivial
    | val d => exact z
    | own d =>
      obtain ⟨a, e1, e2, e3, c⟩ := z
      obtain ⟨o', e4⟩ := c.tracked
      exact ⟨a, e1, e2, e3, c.heap (upd_ne (ne_of_none e4 h))⟩
    | io d =>
      obtain ⟨a, e1, e2, e3, c⟩ := z
      obtain ⟨o', e4⟩ := c.tracked
      exact ⟨a, e1, e2, e3, c.heap (upd_ne (ne_of_none e4 h))⟩
/-- what nobody owns is frozen -/
theorem Rel.freezeAt (R : Rel K mg B F e σ H) (hH : H p = some o) (hF : F p = none) (h0 : B.H0 p = none) (hn : ∀ (i : Nat) (s : Sl), e[i]? = some s → s.hot = true → σ[i]? ≠ some (some (.ref p))) (ht : isTbl o = false) : Rel K mg B (upd F p o) e σ H := by
  refine ⟨fun b u q => ?_, R.old, R.oldT, R.tabs, R.low.trans (.upd hF), fun a u q => ?_, R.len, fun i s hs => ?_, R.ios, R.apart, fun a u q => ?_⟩
  · by_cases hb : b = p
    · subst hb; rw [upd_same] at q; cases q; exact .inl hH
    · rw [upd_ne hb] at q; exact R.sub b u q
  · by_cases hb : a = p
    · subst hb; exact .inr h0
    · rw [upd_ne hb] at q; exact R.fr a u q
  · have z := R.at' i s hs
    cases s with
    | un => trivial
    | val d => obtain ⟨x, e1, e2⟩ := z; exact ⟨x, e1, e2.mono (.upd hF)⟩
    | own d =>
      obtain ⟨a, e1, e2, e3, c⟩ := z
      have ha : a ≠ p := fun q => hn i _ hs rfl (q ▸ e1)
      exact ⟨a, e1, by rw [upd_ne ha]; exact e2, e3, c.mono (.upd hF)⟩
    | io d =>
      obtain ⟨a, e1, e2, e3, c⟩ := z
      have ha : a ≠ p := fun q => hn i _ hs rfl (q ▸ e1)
      exact ⟨a, e1, by rw [upd_ne ha]; exact e2, e3, c.mono (.upd hF)⟩
  · by_cases hb : a = p
    · subst hb; rw [upd_same] at q; cases q; exact ht
    · rw [upd_ne hb] at q; exact R.noT a u q
theorem Rel.new (R : Rel K mg B F e σ H) (h : H p = none) (ht : isTbl o = false) : Rel K mg B (upd F p o) e σ (upd H p o) :=
  (R.grow h).freezeAt upd_same (R.sub.free h) (R.none0 h) (fun i s hs ht q => by
    obtain ⟨a, u, e1, _, e3, _⟩ := R.hot hs ht
    rw [e1] at q; cases q
    rw [h] at e3; cases e3) ht
end
end L2.PV

set_option Elab.async false
set_option linter.all false
set_option maxRecDepth 100000
set_option autoImplicit false
namespace L2.PV
open PySem PySem.Spec PyProof.Rows

/-! ### more of Rel: stores -/
section
variable {K : PySem.W.Frag} {mg : MG} {T : Tb} {B : Bs T} {F H : Hp} {e : En} {σ : St} {p a : Addr} {o : HO} {i : Nat} {d : D} {v : V}
def Sl.isIo : Sl → Bool | .io _ => true | _ => false
/-- a slot gets another meaning at another value -/
theorem Rel.setSl {t s0 : Sl} {y : Option V} (R : Rel K mg B F e σ H) (h : e[i]? = some s0) (hio : s0.isIo = false) (hok : SlOk K mg B F H i (some y) t) (ht : t.isIo = false)
    (hap : t.hot = true → ∀ b, y = some (.ref b) → ∀ (j : Nat) (s : Sl), e[j]? = some s → s.hot = true → σ[j]? = some (some (.ref b)) → j = i) : Rel K mg B F (e.set i t) (σ.set i y) H := by
  have hi : i < e.length := (List.getElem?_eq_some_iff.mp h).1
  have hi' : i < σ.length := by rw [← R.len]; exact hi
  refine ⟨R.sub, R.old, R.oldT, R.tabs, R.low, R.fr, by rw [List.length_set, List.length_set]; exact R.len, fun j s hs => ?_, fun j b hb => ?_, fun j k b s u h1 h2 h3 h4 h5 h6 => ?_, R.noT⟩
  · by_cases hj : i = j
    · subst hj
      rw [List.getElem?_set_self hi] at hs
      cases hs
      rw [List.getElem?_set_self hi']
      exact hok
    · rw [List.getElem?_set_ne hj] at hs ⊢
      exact R.at' j s hs
  · obtain ⟨d, hd⟩ := R.ios j b hb
    by_cases hj : i = j
    · subst hj
      rw [h] at hd; cases hd; cases hio
    · exact ⟨d, by rw [List.getElem?_set_ne hj]; exact hd⟩
  · by_cases hj : i = j
    · by_cases hk : i = k
      · exact hj.symm.trans hk
      · subst hj
        rw [List.getElem?_set_self hi] at h1; cases h1
        rw [List.getElem?_set_self hi'] at h5; cases h5
        rw [List.getElem?_set_ne hk] at h2 h6
        exact (hap h3 _ rfl k _ h2 h4 h6).symm
    · rw [List.getElem?_set_ne hj] at h1 h5
      by_cases hk : i = k
      · subst hk
        rw [List.getElem?_set_self hi] at h2; cases h2
        rw [List.getElem?_set_self hi'] at h6; cases h6
        exact hap h4 _ rfl j _ h1 h3 h5
      · rw [List.getElem?_set_ne hk] at h2 h6
        exact R.apart j k b s u h1 h2 h3 h4 h5 h6
theorem Rel.setVal {s0 : Sl} (R : Rel K mg B F e σ H) (h : e[i]? = some s0) (hio : s0.isIo = false) (hd : Den K mg F d v) : Rel K mg B F (e.set i (.val d)) (σ.set i (some v)) H :=
  R.setSl h hio ⟨v, rfl, hd⟩ rfl fun q => by cases q
theorem Rel.setOwn {s0 : Sl} (R : Rel K mg B F e σ H) (h : e[i]? = some s0) (hio : s0.isIo = false) (hF : F a = none) (h0 : B.H0 a = none) (hc : Cont K mg F H a d)
    (hn : ∀ (j : Nat) (s : Sl), e[j]? = some s → s.hot = true → σ[j]? = some (some (.ref a)) → j = i) : Rel K mg B F (e.set i (.own d)) (σ.set i (some (.ref a))) H :=
  R.setSl h hio ⟨a, rfl, hF, h0, hc⟩ rfl fun _ b hb => by cases hb; exact hn
/-- forget what a slot means -/
theorem Rel.drop {s0 : Sl} (R : Rel K mg B F e σ H) (h : e[i]? = some s0) (hio : s0.isIo = false) : Rel K mg B F (e.set i .un) σ H := by
  have hi : i < e.length := (List.getElem?_eq_some_iff.mp h).1
  have hi' : i < σ.length := by rw [← R.len]; exact hi
  have z := R.setSl (t := .un) (y := σ[i]) h hio trivial rfl fun q => by cases q
  rwa [List.set_getElem_self] at z
theorem Rel.setUn {s0 : Sl} {y : Option V} (R : Rel K mg B F e σ H) (h : e[i]? = some s0) (hio : s0.isIo = false) : Rel K mg B F (e.set i .un) (σ.set i y) H :=
  R.setSl h hio trivial rfl fun q => by cases q
/-- the content of a hot slot is changed -/
theorem Rel.write {s t : Sl} {d' : D} (R : Rel K mg B F e σ H) (h : e[i]? = some s) (hst : (s = .own d ∧ t = .own d') ∨ (s = .io d ∧ t = .io d')) (ha : σ[i]? = some (some (.ref a))) (hc : Cont K mg F (upd H a o) a d') :
    Rel K mg B F (e.set i t) σ (upd H a o) := by
  have hi : i < e.length := (List.getElem?_eq_some_iff.mp h).1
  have hs : s.hot = true := by rcases hst with ⟨rfl, _⟩ | ⟨rfl, _⟩ <;> rfl
  have hth : t.hot = true := by rcases hst with ⟨_, rfl⟩ | ⟨_, rfl⟩ <;> rfl
  obtain ⟨a', o', e1, e2, e3, e4, e5, e6⟩ := R.hot h hs
  rw [ha] at e1; cases e1
  have hk : ∀ b u, H b = some u → isTbl u = true ∨ isExt u = true → upd H a o b = some u := fun b u z t => by
    have : b ≠ a := by
      rintro rfl
      rw [e3] at z; cases z
      rcases t with t | t
      · rw [e5] at t; cases t
      · rw [e6] at t; cases t
    rw [upd_ne this]; exact z
  refine ⟨R.sub.upd e2, fun b u q t n => ?_, R.oldT, tabs_keep R.tabs hk, R.low, R.fr, by rw [List.length_set]; exact R.len, fun j s' hs' => ?_, fun j b hb => ?_, fun j k b s1 s2 h1 h2 h3 h4 h5 h6 => ?_, R.noT⟩
  · have hb : b ≠ a := by
      rintro rfl
      rcases e4 with z | z
      · rw [z] at q; cases q
      · exact n i z
    rw [upd_ne hb]; exact R.old b u q t n
  · by_cases hj : i = j
    · subst hj
      rw [List.getElem?_set_self hi] at hs'; cases hs'
      have z := R.at' i s h
      rcases hst with ⟨rfl, rfl⟩ | ⟨rfl, rfl⟩
      · obtain ⟨b, f1, f2, f3, _⟩ := z
        rw [ha] at f1; cases f1
        exact ⟨a, ha, f2, f3, hc⟩
      · obtain ⟨b, f1, f2, f3, _⟩ := z
        rw [ha] at f1; cases f1
        exact ⟨a, ha, f2, f3, hc⟩
    · rw [List.getElem?_set_ne hj] at hs'
      have z := R.at' j s' hs'
      cases s' with
      | un => trivial
      | val d => exact z
      | own d =>
        obtain ⟨b, f1, f2, f3, c⟩ := z
        have hb : b ≠ a := by rintro rfl; exact hj (R.apart i j b s _ h hs' hs rfl ha f1)
        exact ⟨b, f1, f2, f3, c.heap (upd_ne hb)⟩
      | io d =>
        obtain ⟨b, f1, f2, f3, c⟩ := z
        have hb : b ≠ a := by rintro rfl; exact hj (R.apart i j b s _ h hs' hs rfl ha f1)
        exact ⟨b, f1, f2, f3, c.heap (upd_ne hb)⟩
  · obtain ⟨d1, hd⟩ := R.ios j b hb
    by_cases hj : i = j
    · subst hj
      rw [h] at hd; cases hd
      rcases hst with ⟨z, _⟩ | ⟨_, rfl⟩
      · cases z
      · exact ⟨d', by rw [List.getElem?_set_self hi]⟩
    · exact ⟨d1, by rw [List.getElem?_set_ne hj]; exact hd⟩
  · have pick : ∀ (j : Nat) (s1 : Sl), (e.set i t)[j]? = some s1 → s1.hot = true → ∃ s2, e[j]? = some s2 ∧ s2.hot = true := fun j s1 q1 q2 => by
      by_cases hj : i = j
      · subst hj; exact ⟨s, h, hs⟩
      · rw [List.getElem?_set_ne hj] at q1; exact ⟨s1, q1, q2⟩
    obtain ⟨s1', g1, g2⟩ := pick j s1 h1 h3
    obtain ⟨s2', g3, g4⟩ := pick k s2 h2 h4
    exact R.apart j k b s1' s2' g1 g3 g2 g4 h5 h6
/-- the content of an own slot as a value from now on -/
theorem Cont.den {c : D} (hc : Cont K mg F H a c) (hF : F a = none) : ∃ o, H a = some o ∧ Den K mg (upd F a o) c (.ref a) ∧ isTbl o = false := by
  cases c <;> first
    | exact hc.elim
    | (obtain ⟨vs, e1, l⟩ := hc; exact ⟨_, e1, .lst upd_same (l.mono (.upd hF)), rfl⟩)
    | (obtain ⟨vs, e1, l⟩ := hc; exact ⟨_, e1, .dct upd_same (l.mono (.upd hF)), rfl⟩)
    | (obtain ⟨C, dx, gs, m, e1, l⟩ := hc; exact ⟨_, e1, .obj m upd_same (l.mono (.upd hF)), rfl⟩)
theorem Rel.freeze (R : Rel K mg B F e σ H) (h : e[i]? = some (.own d)) : ∃ F', Le F F' ∧ Rel K mg B F' (e.set i (.val d)) σ H := by
  obtain ⟨a, e1, e2, e3, c⟩ := R.at' i _ h
  obtain ⟨o, e4, hd, htb⟩ := Cont.den c e2
  have hi : i < e.length := (List.getElem?_eq_some_iff.mp h).1
  have hi' : i < σ.length := by rw [← R.len]; exact hi
  have R1 := R.drop h rfl
  have R2 : Rel K mg B (upd F a o) (e.set i .un) σ H := R1.freezeAt e4 e2 e3 (fun j s hs ht q => by
    by_cases hj : i = j
    · subst hj
      rw [List.getElem?_set_self hi] at hs; cases hs; cases ht
    · rw [List.getElem?_set_ne hj] at hs
      exact hj (R.apart i j a _ _ h hs rfl ht e1 q)) htb
  have R3 := R2.setVal (i := i) (s0 := .un) (by rw [List.getElem?_set_self hi]) rfl hd
  refine ⟨L2.upd F a o, .upd e2, ?_⟩
  rw [List.set_set] at R3
  have : σ.set i (some (.ref a)) = σ := by
    have : σ[i] = some (.ref a) := by
      have z := List.getElem?_eq_getElem hi'
      rw [z] at e1; exact Option.some.inj e1
    rw [← this, List.set_getElem_self]
  rwa [this] at R3
end

/-! ### results -/
inductive ExC where | own (c : Str) | blt (c : String)
structure Ex where
  cls : ExC
  fs : Option (List (Str × D)) := none
inductive Res (α : Type) where | ok (a : α) (e : En) | exc (x : Ex) (e : En) | bad
def Res.bind {α β : Type} (r : Res α) (k : α → En → Res β) : Res β := match r with
  | .ok a e => k a e
  | .exc x e => .exc x e
  | .bad => .bad
def lift {α : Type} (o : Option α) (e : En) : Res α := match o with
  | some d => .ok d e
  | none => .bad
def DenX (K : PySem.W.Frag) (mg : MG) (F : Hp) (x : Ex) (c : Value) (dd : Option Addr) : Prop :=
  (match x.cls with
    | .own n => mg n = some c
    | .blt n => c = .type n) ∧
  match x.fs with
    | none => dd = none
    | some fs => ∃ d gs, dd = some d ∧ F d = some (.xd gs) ∧ DenF K mg F fs gs
section
variable (K : PySem.W.Frag) (mg : MG) (W : WX) {T : Tb} (B : Bs T) (σ : St)
def Post {α β : Type} (R : Hp → α → β → Prop) (F : Hp) (r : Res α) (Q : β → Hp → Prop) : Prop := match r with
  | .ok a e => ∀ F' b H', Le F F' → Rel K mg B F' e σ H' → R F' a b → Q b H'
  | .exc x e => ∀ F' c dd H', Le F F' → Rel K mg B F' e σ H' → DenX K mg F' x c dd → W c dd σ H'
  | .bad => False
end
section
variable {K : PySem.W.Frag} {mg : MG} {W : WX} {T : Tb} {B : Bs T} {σ : St} {α β γ δ : Type} {R : Hp → α → β → Prop} {R' : Hp → γ → δ → Prop} {F G H : Hp} {r : Res α} {Q : β → Hp → Prop} {e : En}
theorem Post.le (h : Post K mg W B σ R F r Q) (s : Le F G) : Post K mg W B σ R G r Q := by
  cases r with
  | ok a e => exact fun F' b H' l => h F' b H' (s.trans l)
  | exc x e => exact fun F' c dd H' l => h F' c dd H' (s.trans l)
  | bad => exact h
theorem Post.step {k : α → En → Res γ} {KK : β → Hp → Prop} {Q' : δ → Hp → Prop} (h : Post K mg W B σ R' F (r.bind k) Q')
    (f : ∀ F1 e1 a b H1, Le F F1 → Rel K mg B F1 e1 σ H1 → R F1 a b → Post K mg W B σ R' F1 (k a e1) Q' → KK b H1) : Post K mg W B σ R F r KK := by
  cases r with
  | ok a e => exact fun F' b H' l R1 hR => f F' e a b H' l R1 hR (Post.le h l)
  | exc x e => exact h
  | bad => exact h
theorem Post.lift {o : Option α} (h : Post K mg W B σ R F (lift o e) Q) : ∃ a, o = some a ∧ Post K mg W B σ R F (.ok a e) Q := by
  cases o with
  | none => exact h.elim
  | some a => exact ⟨a, rfl, h⟩
/-- the end: a value in hand -/
theorem Post.ret {a : α} {b : β} (h : Post K mg W B σ R F (.ok a e) Q) (hR : Rel K mg B F e σ H) (hd : R F a b) : Q b H := h F b H (Le.refl F) hR hd
/-- .. behind a new frozen object -/
theorem Post.new {a : α} {o : HO} (h : Post K mg W B σ R F (.ok a e) fun b H => Q b H) (hR : Rel K mg B F e σ H) (q : β) (p : Addr) (hp : H p = none) (hd : Le F (upd F p o) → R (upd F p o) a q) (ht : isTbl o = false := by rfl) : Q q (upd H p o) :=
  h _ q _ (.upd (hR.sub.free hp)) (hR.new hp ht) (hd (.upd (hR.sub.free hp)))
end

/-! ### readings -/
section
variable (K : PySem.W.Frag) (mg : MG) (T : Tb) (W : WX)
def tE (g : En → Res D) : TE := fun σ H Q => ∃ (B : Bs T) (F : Hp) (e : En), Rel K mg B F e σ H ∧ Post K mg W B σ (Den K mg) F (g e) Q
def tB (g : En → Res Bool) : TT := fun σ H Q => ∃ (B : Bs T) (F : Hp) (e : En), Rel K mg B F e σ H ∧ Post K mg W B σ (fun _ a b => b = a) F (g e) Q
/-- what is handed over: values, or the i-th slot's own object -/
inductive Ar where | v (d : D) | s (i : Nat)
def ArOk (σ : St) (F : Hp) : Ar → V → Prop
  | .v d, x => Den K mg F d x
  | .s i, x => σ[i]? = some (some x)
def ArsOk (σ : St) (F : Hp) : List Ar → List V → Prop
  | [], [] => True
  | a :: as, v :: vs => ArOk K mg σ F a v ∧ ArsOk σ F as vs
  | _, _ => False
def tA (g : En → Res (List Ar)) : TA := fun σ H Q => ∃ (B : Bs T) (F : Hp) (e : En), Rel K mg B F e σ H ∧ Post K mg W B σ (ArsOk K mg σ) F (g e) Q
end
theorem ArOk.mono {K : PySem.W.Frag} {mg : MG} {σ : St} {F G : Hp} (s : Le F G) {a : Ar} {v : V} (h : ArOk K mg σ F a v) : ArOk K mg σ G a v := by
  cases a with
  | v d => exact Den.mono s h
  | s i => exact h
theorem ArsOk.mono {K : PySem.W.Frag} {mg : MG} {σ : St} {F G : Hp} (s : Le F G) : ∀ {as : List Ar} {vs : List V}, ArsOk K mg σ F as vs → ArsOk K mg σ G as vs
  | [], [], _ => trivial
  | a :: as, v :: vs, ⟨h, t⟩ => ⟨ArOk.mono s h, ArsOk.mono s t⟩
  | [], _ :: _, h => h.elim
  | _ :: _, [], h => h.elim
theorem ArsOk.den {K : PySem.W.Frag} {mg : MG} {σ : St} {F : Hp} : ∀ {ds : List D} {vs : List V}, ArsOk K mg σ F (ds.map .v) vs → DenL K mg F ds vs
  | [], [], _ => .nil
  | d :: ds, v :: vs, ⟨h, t⟩ => .cons h (ArsOk.den t)
  | [], _ :: _, h => h.elim
  | _ :: _, [], h => h.elim

/-! ### names, constants, operators -/
def varG (i : Nat) : En → Res D := fun e => match e[i]? with
  | some (.val d) => .ok d e
  | _ => .bad
def constG (d : D) : En → Res D := fun e => .ok d e
def op2G (f : D → D → Option D) (ga gb : En → Res D) : En → Res D := fun e => (ga e).bind fun a e1 => (gb e1).bind fun b e2 => lift (f a b) e2
def op1G (f : D → Option D) (ga : En → Res D) : En → Res D := fun e => (ga e).bind fun a e1 => lift (f a) e1
/-- an operator's rule by pure values -/
def OpD (K : PySem.W.Frag) (mg : MG) (r : V → V → Hp → VK → Prop) (f : D → D → Option D) : Prop :=
  ∀ (T : Tb) (W : WX) (B : Bs T) (F : Hp) (e : En) (σ : St) (H : Hp) (a b : D) (x y : V) (Q : VK) (c : D), Rel K mg B F e σ H → Den K mg F a x → Den K mg F b y → f a b = some c → Post K mg W B σ (Den K mg) F (.ok c e) Q → r x y H Q
def UnD (K : PySem.W.Frag) (mg : MG) (r : V → Hp → VK → Prop) (f : D → Option D) : Prop :=
  ∀ (T : Tb) (W : WX) (B : Bs T) (F : Hp) (e : En) (σ : St) (H : Hp) (a : D) (x : V) (Q : VK) (c : D), Rel K mg B F e σ H → Den K mg F a x → f a = some c → Post K mg W B σ (Den K mg) F (.ok c e) Q → r x H Q
section
variable {X : Cx} {T : Tb} {W : WX} {a b c : Expr} {ga gb gc : En → Res D} {pos : Pos}
theorem conv {e : Expr} {t t' : TE} (h : PE X e t) (k : ∀ σ H Q, t' σ H Q → t σ H Q) : PE X e t' := ⟨fun pins s σ H Q I q => h.run pins s σ H Q I (k σ H Q q)⟩
theorem convT {e : Expr} {t t' : TT} (h : PT X e t) (k : ∀ σ H Q, t' σ H Q → t σ H Q) : PT X e t' := ⟨fun pins s σ H Q I q => h.run pins s σ H Q I (k σ H Q q)⟩
theorem convA {e : List Expr} {t t' : TA} (h : PA X e t) (k : ∀ σ H Q, t' σ H Q → t σ H Q) : PA X e t' := ⟨fun po pins s σ H Q I q => h.run po pins s σ H Q I (k σ H Q q)⟩
theorem convS {st : Stmt} {t t' : TS} (h : PS X st t) (k : ∀ D σ H, t' D σ H → t D σ H) : PS X st t' := ⟨fun pins s σ H D I q => h.run pins s σ H D I (k D σ H q)⟩
theorem ev {x : Str} (i : Nat) (hN : X.N[i]? = some x := by rfl) (hv : Vis X.env.scope x := by first | exact Or.inl rfl | exact Or.inr (Or.inl rfl) | exact Or.inr (Or.inr rfl)) (hd : (x == ("__debug__" : Str)) = false := by decide)
    (hcd : (x == ("__classdict__" : Str)) = false := by decide) : PE X (.Name x pos) (tE X.K X.mg T W (varG i)) := conv (pv i hN hv hd hcd) fun σ H Q ⟨B, F, e, R, h⟩ => by
  unfold varG at h
  split at h
  · rename_i d hd
    obtain ⟨v, hv, hD⟩ := R.at' i _ hd
    exact ⟨v, hv, h.ret R hD⟩
  · exact h.elim
theorem ecst {d : D} {v : V} {x : Expr} (h : PE X x (tC v)) (hd : ∀ F, Den X.K X.mg F d v) : PE X x (tE X.K X.mg T W (constG d)) := conv h fun σ H Q ⟨B, F, e, R, h⟩ => h.ret R (hd F)
theorem eint {i j} : PE X (.Constant (.int i) j pos) (tE X.K X.mg T W (constG (.int i))) := ecst pe_int fun _ => .int i
theorem ebl {i j} : PE X (.Constant (.bool i) j pos) (tE X.K X.mg T W (constG (.bl i))) := ecst pe_bl fun _ => .bl i
theorem enon {j} : PE X (.Constant .none j pos) (tE X.K X.mg T W (constG .non)) := ecst pe_non fun _ => .non
theorem estr {x j} : PE X (.Constant (.str x) j pos) (tE X.K X.mg T W (constG (.str x))) := ecst pe_str fun _ => .str x
theorem eop {op : Operator} {r : V → V → Hp → VK → Prop} {f : D → D → Option D} (ho : OpR X (binaryOp op) r) (hr : OpD X.K X.mg r f) (ha : PE X a (tE X.K X.mg T W ga)) (hb : PE X b (tE X.K X.mg T W gb)) :
    PE X (.BinOp a op b pos) (tE X.K X.mg T W (op2G f ga gb)) := conv (pe_op ho ha hb) fun σ H Q ⟨B, F, e, R, h⟩ =>
  ⟨B, F, e, R, h.step fun F1 e1 d x H1 l1 R1 D1 h1 => ⟨B, F1, e1, R1, h1.step fun F2 e2 d2 y H2 l2 R2 D2 h2 => by
    obtain ⟨c, hc, h3⟩ := h2.lift
    exact hr T W B F2 e2 σ H2 d d2 x y Q c R2 (D1.mono l2) D2 hc h3⟩⟩
theorem eun {op : UnaryOp} {r : V → Hp → VK → Prop} {f : D → Option D} (ho : UnR X (unaryOp op) r) (hr : UnD X.K X.mg r f) (ha : PE X a (tE X.K X.mg T W ga)) :
    PE X (.UnaryOp op a pos) (tE X.K X.mg T W (op1G f ga)) := conv (pe_un ho ha) fun σ H Q ⟨B, F, e, R, h⟩ =>
  ⟨B, F, e, R, h.step fun F1 e1 d x H1 l1 R1 D1 h1 => by
    obtain ⟨c, hc, h3⟩ := h1.lift
    exact hr T W B F1 e1 σ H1 d x Q c R1 D1 hc h3⟩
theorem ecmp {op : CmpOp} {r : V → V → Hp → VK → Prop} {f : D → D → Option D} (ho : OpR X (compareOp op) r) (hr : OpD X.K X.mg r f) (ha : PE X a (tE X.K X.mg T W ga)) (hb : PE X b (tE X.K X.mg T W gb)) (hm : behindInMarks op b = false) :
    PE X (.Compare a [op] [b] pos) (tE X.K X.mg T W (op2G f ga gb)) := conv (pe_cmpR ho ha hb hm) fun σ H Q ⟨B, F, e, R, h⟩ =>
  ⟨B, F, e, R, h.step fun F1 e1 d x H1 l1 R1 D1 h1 => ⟨B, F1, e1, R1, h1.step fun F2 e2 d2 y H2 l2 R2 D2 h2 => by
    obtain ⟨c, hc, h3⟩ := h2.lift
    exact hr T W B F2 e2 σ H2 d d2 x y Q c R2 (D1.mono l2) D2 hc h3⟩⟩
/-! ### tests -/
def truth : D → Option Bool
  | .non => some false
  | .bl b => some b
  | .int i => some (i != 0)
  | .str s => if s.length ≤ sizeLine then some (s.length != 0) else none
  | .lst xs => some (!xs.isEmpty)
  | .tup xs => some (!xs.isEmpty)
  | _ => none
def boolG (g : En → Res D) : En → Res Bool := fun e => (g e).bind fun a e1 => lift (match a with | .bl b => some b | _ => none) e1
def truthG (g : En → Res D) : En → Res Bool := fun e => (g e).bind fun a e1 => lift (truth a) e1
def notB (g : En → Res Bool) : En → Res Bool := fun e => (g e).bind fun a e1 => .ok (!a) e1
def andB (g h : En → Res Bool) : En → Res Bool := fun e => (g e).bind fun a e1 => if a = true then h e1 else .ok false e1
def orB (g h : En → Res Bool) : En → Res Bool := fun e => (g e).bind fun a e1 => if a = true then .ok true e1 else h e1
def ifG {α : Type} (c : En → Res Bool) (g h : En → Res α) : En → Res α := fun e => (c e).bind fun b e1 => if b = true then g e1 else h e1
/-- a test's truth as a value -/
def ofB (g : En → Res Bool) : En → Res D := fun e => (g e).bind fun b e1 => .ok (.bl b) e1
variable {hA hB : En → Res Bool} {rest : List Expr}
theorem tval (h : PE X a (tE X.K X.mg T W ga)) (he : ∀ whole, isTrue a X.env whole = (do let v ← whole; standAt a.pos; holding [v] (truthy v)) := by intro _; rfl) : PT X a (tB X.K X.mg T W (boolG ga)) := convT (pt_val h he) fun σ H Q ⟨B, F, e, R, h⟩ =>
  ⟨B, F, e, R, h.step fun F1 e1 d x H1 l1 R1 D1 h1 => by
    obtain ⟨c, hc, h3⟩ := h1.lift
    cases d <;> cases hc
    cases D1
    exact ⟨_, rfl, h3.ret R1 rfl⟩⟩
theorem tcmp {op : CmpOp} {r : V → V → Hp → VK → Prop} {f : D → D → Option D} (ho : OpR X (compareOp op) r) (hr : OpD X.K X.mg r f) (ha : PE X a (tE X.K X.mg T W ga)) (hb : PE X b (tE X.K X.mg T W gb)) (hm : behindInMarks op b = false) :
    PT X (.Compare a [op] [b] pos) (tB X.K X.mg T W (boolG (op2G f ga gb))) := convT (pt_cmpR ho ha hb hm) fun σ H Q ⟨B, F, e, R, h⟩ =>
  ⟨B, F, e, R, by
    unfold boolG op2G at h
    have h' : Post X.K X.mg W B σ (fun _ a b => b = a) F ((ga e).bind fun a e1 => ((gb e1).bind fun b e2 => lift (f a b) e2).bind fun a e1 => lift (match a with | .bl b => some b | _ => none) e1) Q := by
      cases hg : ga e <;> (rw [hg] at h; exact h)
    refine h'.step fun F1 e1 d x H1 l1 R1 D1 h1 => ⟨B, F1, e1, R1, ?_⟩
    have h1' : Post X.K X.mg W B σ (fun _ a b => b = a) F1 ((gb e1).bind fun b e2 => (lift (f d b) e2).bind fun a e1 => lift (match a with | .bl b => some b | _ => none) e1) Q := by
      cases hg : gb e1 <;> (rw [hg] at h1; exact h1)
    refine h1'.step fun F2 e2 d2 y H2 l2 R2 D2 h2 => ?_
    cases hf : f d d2 with
    | none => rw [hf] at h2; exact h2.elim
    | some c =>
      rw [hf] at h2
      obtain ⟨k, hk, h3⟩ := Post.lift (e := e2) h2
      cases c <;> cases hk
      exact hr T W B F2 e2 σ H2 d d2 x y _ _ R2 (D1.mono l2) D2 hf fun F' b H' l R' Db => by
        cases Db
        exact ⟨_, rfl, h3 F' _ H' l R' rfl⟩⟩
theorem tnot (h : PT X a (tB X.K X.mg T W hA)) : PT X (.UnaryOp .Not a pos) (tB X.K X.mg T W (notB hA)) := convT (pt_not h) fun σ H Q ⟨B, F, e, R, h⟩ =>
  ⟨B, F, e, R, h.step fun F1 e1 d x H1 l1 R1 D1 h1 => by subst D1; exact h1.ret R1 rfl⟩
end
section
variable {X : Cx} {T : Tb} {W : WX} {a b c : Expr} {ga gb gc : En → Res D} {hA hB : En → Res Bool} {pos : Pos} {rest : List Expr}
theorem convW {e : Expr} {t t' : TT} (h : PW X e t) (k : ∀ σ H Q, t' σ H Q → t σ H Q) : PW X e t' := ⟨fun wh pins s σ H Q I q => h.run wh pins s σ H Q I (k σ H Q q)⟩
theorem tand1 (h : PT X a (tB X.K X.mg T W hA)) : PW X (.BoolOp .And [a] pos) (tB X.K X.mg T W hA) := pw_and1 h
theorem tor1 (h : PT X a (tB X.K X.mg T W hA)) : PW X (.BoolOp .Or [a] pos) (tB X.K X.mg T W hA) := pw_or1 h
theorem tand (h : PT X a (tB X.K X.mg T W hA)) (k : PW X (.BoolOp .And (b :: rest) pos) (tB X.K X.mg T W hB)) : PW X (.BoolOp .And (a :: b :: rest) pos) (tB X.K X.mg T W (andB hA hB)) := convW (pw_and h k) fun σ H Q ⟨B, F, e, R, h⟩ =>
  ⟨B, F, e, R, h.step fun F1 e1 d x H1 l1 R1 D1 h1 => by
    subst D1
    cases x with
    | true => exact ⟨B, F1, e1, R1, h1⟩
    | false => exact h1.ret R1 rfl⟩
theorem tor (h : PT X a (tB X.K X.mg T W hA)) (k : PW X (.BoolOp .Or (b :: rest) pos) (tB X.K X.mg T W hB)) : PW X (.BoolOp .Or (a :: b :: rest) pos) (tB X.K X.mg T W (orB hA hB)) := convW (pw_or h k) fun σ H Q ⟨B, F, e, R, h⟩ =>
  ⟨B, F, e, R, h.step fun F1 e1 d x H1 l1 R1 D1 h1 => by
    subst D1
    cases x with
    | false => exact ⟨B, F1, e1, R1, h1⟩
    | true => exact h1.ret R1 rfl⟩
/-- .. as values: bools all but perhaps the last -/
def andG (g h : En → Res D) : En → Res D := fun e => (g e).bind fun a e1 => match a with | .bl true => h e1 | .bl false => .ok (.bl false) e1 | _ => .bad
def orG (g h : En → Res D) : En → Res D := fun e => (g e).bind fun a e1 => match a with | .bl false => h e1 | .bl true => .ok (.bl true) e1 | _ => .bad
def notG (g : En → Res D) : En → Res D := fun e => (g e).bind fun a e1 => match a with | .bl b => .ok (.bl (!b)) e1 | _ => .bad
theorem eone {op} (h : PE X a (tE X.K X.mg T W ga)) : PE X (.BoolOp op [a] pos) (tE X.K X.mg T W ga) := pe_one h
theorem eand (h : PE X a (tE X.K X.mg T W ga)) (k : PE X (.BoolOp .And (b :: rest) pos) (tE X.K X.mg T W gb)) : PE X (.BoolOp .And (a :: b :: rest) pos) (tE X.K X.mg T W (andG ga gb)) := conv (pe_and h k) fun σ H Q ⟨B, F, e, R, h⟩ =>
  ⟨B, F, e, R, h.step fun F1 e1 d x H1 l1 R1 D1 h1 => by
    cases d <;> first | exact h1.elim | skip
    cases D1
    rename_i k
    cases k with
    | true => exact ⟨_, rfl, ⟨B, F1, e1, R1, h1⟩⟩
    | false => exact ⟨_, rfl, h1.ret R1 (.bl _)⟩⟩
theorem eor (h : PE X a (tE X.K X.mg T W ga)) (k : PE X (.BoolOp .Or (b :: rest) pos) (tE X.K X.mg T W gb)) : PE X (.BoolOp .Or (a :: b :: rest) pos) (tE X.K X.mg T W (orG ga gb)) := conv (pe_or h k) fun σ H Q ⟨B, F, e, R, h⟩ =>
  ⟨B, F, e, R, h.step fun F1 e1 d x H1 l1 R1 D1 h1 => by
    cases d <;> first | exact h1.elim | skip
    cases D1
    rename_i k
    cases k with
    | false => exact ⟨_, rfl, ⟨B, F1, e1, R1, h1⟩⟩
    | true => exact ⟨_, rfl, h1.ret R1 (.bl _)⟩⟩
theorem enot (h : PE X a (tE X.K X.mg T W ga)) : PE X (.UnaryOp .Not a pos) (tE X.K X.mg T W (notG ga)) := conv (pe_not h) fun σ H Q ⟨B, F, e, R, h⟩ =>
  ⟨B, F, e, R, h.step fun F1 e1 d x H1 l1 R1 D1 h1 => by
    cases d <;> first | exact h1.elim | skip
    cases D1
    exact ⟨_, rfl, h1.ret R1 (.bl _)⟩⟩
theorem eif (hc : PT X c (tB X.K X.mg T W hA)) (ha : PE X a (tE X.K X.mg T W ga)) (hb : PE X b (tE X.K X.mg T W gb)) : PE X (.IfExp c a b pos) (tE X.K X.mg T W (ifG hA ga gb)) := conv (pe_ifExp hc ha hb) fun σ H Q ⟨B, F, e, R, h⟩ =>
  ⟨B, F, e, R, h.step fun F1 e1 d x H1 l1 R1 D1 h1 => by
    subst D1
    cases x with
    | true => exact ⟨B, F1, e1, R1, h1⟩
    | false => exact ⟨B, F1, e1, R1, h1⟩⟩
/-! ### argument lists -/
def nilA : En → Res (List Ar) := fun e => .ok [] e
def consA (g : En → Res D) (k : En → Res (List Ar)) : En → Res (List Ar) := fun e => (g e).bind fun d e1 => (k e1).bind fun ds e2 => .ok (.v d :: ds) e2
def slotA (i : Nat) (k : En → Res (List Ar)) : En → Res (List Ar) := fun e => match e[i]? with
  | some s => if s.hot then (k e).bind fun ds e2 => .ok (.s i :: ds) e2 else .bad
  | none => .bad
variable {es : List Expr} {k : En → Res (List Ar)} {e : Expr}
theorem anil : PA X [] (tA X.K X.mg T W nilA) := convA pa_nil fun σ H Q ⟨B, F, e, R, h⟩ => h.ret R trivial
theorem acons (ha : PE X e (tE X.K X.mg T W ga)) (hr : PA X es (tA X.K X.mg T W k)) (hs : starEach (e :: es) X.env = (false, eval e X.env) :: starEach es X.env := by rfl) : PA X (e :: es) (tA X.K X.mg T W (consA ga k)) := convA (pa_cons ha hr hs) fun σ H Q ⟨B, F, e, R, h⟩ =>
  ⟨B, F, e, R, h.step fun F1 e1 d x H1 l1 R1 D1 h1 => ⟨B, F1, e1, R1, h1.step fun F2 e2 ds xs H2 l2 R2 D2 h2 => h2.ret R2 ⟨D1.mono l2, D2⟩⟩⟩
theorem aslot {x : Str} (i : Nat) (hr : PA X es (tA X.K X.mg T W k)) (hN : X.N[i]? = some x := by rfl) (hv : Vis X.env.scope x := by first | exact Or.inl rfl | exact Or.inr (Or.inl rfl) | exact Or.inr (Or.inr rfl)) (hd : (x == ("__debug__" : Str)) = false := by decide)
    (hcd : (x == ("__classdict__" : Str)) = false := by decide) (hs : starEach (.Name x pos :: es) X.env = (false, eval (.Name x pos) X.env) :: starEach es X.env := by rfl) : PA X (.Name x pos :: es) (tA X.K X.mg T W (slotA i k)) := convA (pa_cons (pv i hN hv hd hcd) hr hs) fun σ H Q ⟨B, F, e, R, h⟩ => by
  unfold slotA at h
  split at h
  · rename_i s hs
    by_cases ht : s.hot = true
    · rw [if_pos ht] at h
      obtain ⟨a, o, e1, _⟩ := R.hot hs ht
      exact ⟨_, e1, B, F, e, R, h.step fun F2 e2 ds xs H2 l2 R2 D2 h2 => h2.ret R2 ⟨e1, D2⟩⟩
    · rw [if_neg ht] at h
      exact h.elim
  · exact h.elim
end
end L2.PV

set_option Elab.async false
set_option linter.all false
set_option maxRecDepth 100000
set_option autoImplicit false
/-! Defs that are called where no repr is under way: the promise of the hand layer's FnOk, with that one fact more. -/
namespace L2.PV
open PySem PySem.Spec PyProof.Rows LamX
structure FnG (P : Program) (w : World) (K : PySem.W.Frag) (mg : MG) (base : Heap) (CX : CXT) (k : Nat) (f : Addr) (fd : FuncData) (ps : List Str) (sp : Sp) : Prop where
  len : ∀ vs H Q E, sp vs H Q E → vs.length = ps.length
  run : ∀ (A : Around) (outer : List Env) (s : Shared) (H : Hp) (args : Args) (us : List Value) (vs : List V) (Q : VK) (E : XK), A.guards = some [] → Room k A → Env0 P w K mg base A outer s H → BindsTo s fd args (ps.zip us) → Vals vs us → sp vs H Q E →
    codeAny (model P w) A (.call (.ref f) args) (CR CX outer P w H s Q E) s
/-- one call of a def by its body, at one place -/
theorem run_at {CX : CXT} {P : Program} {w : World} {K : PySem.W.Frag} {mg : MG} {base : Heap} {k : Nat} {f : Addr} {name qual : Str} {params : Arguments} {body : List Stmt} {scope : Scope} {dV kV doc pm cdv ct oc : Value} {an od : Option Addr} {osl : Array (Option Value)} {N ps : List Str}
    {A : Around} {outer : List Env} {s : Shared} {H : Hp} {args : Args} {us : List Value} {vs : List V} {Q : VK} {E : XK}
    (lk : K.lookup f = some ⟨oc, od, .func (PySem.W.fnOf name qual params body scope dV kV doc pm an cdv ct), osl⟩) (hcd : PySem.W.codeIn K cdv qual = true) (S : FnScope N ps scope) (hr : Room (k + 1) A) (e0 : Env0 P w K mg base A outer s H)
    (hb : BindsTo s (PySem.W.fnOf name qual params body scope dV kV doc pm an cdv ct) args (ps.zip us)) (r : Vals vs us) (hl : vs.length = ps.length)
    (hbody : Room k (A.deeper (envOfC qual scope s.heap.objs.size f cdv)) → ∃ t, PSs (cxOf CX P w K mg base N qual scope f cdv A outer s H E) body t ∧ t { nx := fun _ H' => Q .non H', rt := Q } (L2.start N vs) H) :
    codeAny (model P w) A (.call (.ref f) args) (CR CX outer P w H s Q E) s := by
  have grown := fun (b : Addr) (o : Obj) e => (e0.bs b o e).1
  have KX : K.In s.heap := e0.mod.kin.keeps grown
  have kinds : ∀ y ∈ ps.zip us, scope.names.lookup y.1 = some .local ∨ (scope.names.lookup y.1 = some .cell ∧ ((cellsFrom (s.heap.objs.size + 1) scope.names []).lookup y.1).isSome = true) := by
    rintro ⟨n, v⟩ hy
    exact (S.par n (List.of_mem_zip hy).1).imp id fun q => ⟨q, PySem.W.cellsFrom_some _ _ _ (.inl q)⟩
  refine codeAny_call_function hr.depth (KX _ _ lk) rfl S.co S.gen rfl (PySem.W.codeRec_of KX hcd) (hb _ _ _ _ (wpAny_newFunctionEnv_cells S.kind kinds ?_))
  rintro env rfl s1 x
  refine ⟨(e0.mod.nolimit.keeps grown).keeps x.toInCall.keep, codeAny_func ?_⟩
  obtain ⟨t, ht, hq⟩ := hbody (hr.deeper _)
  refine wpAny_mono (ht.run [] s1 (L2.start N vs) H _ (inv_start S hr.hd e0 hl r x) hq) (fun fl s' hs => ?_) fun e s' hs => hs
  cases fl with
  | ret u => obtain ⟨v, σ', H', J, rv, q⟩ := hs; exact ⟨v, H', J.os, J.bare, J.base, J.hok, rv, q⟩
  | next => obtain ⟨σ', H', J, q⟩ := hs; exact ⟨.non, H', J.os, J.bare, J.base, J.hok, rfl, q⟩
  | brk => obtain ⟨_, _, _, q⟩ := hs; exact q.elim
  | cont => obtain ⟨_, _, _, q⟩ := hs; exact q.elim
theorem fnG_of {CX : CXT} {P : Program} {w : World} {K : PySem.W.Frag} {mg : MG} {base : Heap} {k : Nat} {f : Addr} {name qual : Str} {params : Arguments} {body : List Stmt} {scope : Scope} {dV kV doc pm cdv ct oc : Value} {an od : Option Addr} {osl : Array (Option Value)} {N ps : List Str} {sp : Sp}
    (lk : K.lookup f = some ⟨oc, od, .func (PySem.W.fnOf name qual params body scope dV kV doc pm an cdv ct), osl⟩) (hcd : PySem.W.codeIn K cdv qual = true) (S : FnScope N ps scope) (len : ∀ vs H Q E, sp vs H Q E → vs.length = ps.length)
    (hbody : ∀ (A : Around) (outer : List Env) (s : Shared) (H : Hp) (vs : List V) (Q : VK) (E : XK), A.guards = some [] → Room k (A.deeper (envOfC qual scope s.heap.objs.size f cdv)) → sp vs H Q E →
      ∃ t, PSs (cxOf CX P w K mg base N qual scope f cdv A outer s H E) body t ∧ t { nx := fun _ H' => Q .non H', rt := Q } (L2.start N vs) H) :
    FnG P w K mg base CX (k + 1) f (PySem.W.fnOf name qual params body scope dV kV doc pm an cdv ct) ps sp :=
  ⟨len, fun A outer s H args us vs Q E g hr e0 hb r h => run_at lk hcd S hr e0 hb r (len _ _ _ _ h) fun hr' => hbody A outer s H vs Q E g hr' h⟩
section
variable {X : Cx} {CX : CXT} {k : Nat} {f : Addr} {fd : FuncData} {ps : List Str} {sp : Sp} {E : L2.St → XK} {x : Str} {p pos : Pos} {e : Expr} {es : List Expr} {t : TA}
theorem FnG.call (F : FnG X.prog X.w X.K X.mg X.base CX k f fd ps sp) (g : X.A.guards = some []) (hr : Room k X.A) (hb : L2.Binds X.K fd ps []) {pins : List (Addr × Obj)} {σ : L2.St} {H : Hp} {s : Shared} {Q : VK} {us : List Value} {vs : List V} (hx : PassesAt CX X σ (E σ))
    (I : Inv X pins σ H s) (r : Vals vs us) (h : sp vs H Q (E σ)) : wpAny (model X.prog X.w) X.A (call (.ref f) us) (EP X pins σ Q) X.xe s := by
  have b := hb s us I.kIn (by rw [List.append_nil, ← r.length]; exact F.len _ _ _ _ h)
  rw [List.append_nil] at b
  refine wpAny_call (codeAny_mono (F.run X.A X.stack s H ⟨us, []⟩ us vs Q (E σ) g hr I.env0 b r h) fun r s' hq => ?_)
  match r, hq with
  | .error e, hq => exact hx pins H s e s' I hq
  | .ok (.ret u), hq => exact I.after hq
  | .ok .next, hq => exact hq.elim
  | .ok .brk, hq => exact hq.elim
  | .ok .cont, hq => exact hq.elim
theorem pe_callG (F : FnG X.prog X.w X.K X.mg X.base CX k f fd ps sp) (g : X.A.guards = some []) (hr : Room k X.A) (hg : Gl X x) (hm : X.mg x = some (.ref f)) (hk : PySem.W.keepIn X.K (.ref f) = true) (hb : L2.Binds X.K fd ps []) (hx : ∀ σ, PassesAt CX X σ (E σ))
    (ha : PA X (e :: es) t) (hdb : (x == ("__debug__" : Str)) = false := by decide) (he : starEach (e :: es) X.env = (false, eval e X.env) :: starEach es X.env := by rfl) (hpl : (backTo pos (starEach es X.env)).any (·.1) = false := by rfl) :
    PE X (.Call (.Name x p) (e :: es) [] pos) (tCallS sp E t) := ⟨fun pins s σ H Q I h =>
  wpAny_Call_Name_kw (ld_glob I hg hm (PySem.W.callWith_K (h₀ := X.base) I.ok.mod.kin hk (thn (ha.run pos pins s σ H _ I h) fun us s1 ⟨vs, H1, I1, r, q⟩ => ⟨I1.kIn, F.call g hr hb (hx σ) I1 r q⟩) he hpl) hdb)⟩
end
/-! ### lambdas there -/
section
variable {X : Cx} {pins : List (Addr × Obj)} {σ : L2.St} {H : Hp} {s : Shared}
theorem act_at {CXg : CXT} {Eg : XK} {Ng : List Str} {qg : Str} {sg : Scope} {g f c' : Addr} {cdg pm ctv : Value} {params : Arguments} {body : Expr} {scope : Scope} {k i : Nat} {a : Str} {pn : List (Addr × Obj)} {xe : Value → Shared → Prop} {W : WX} {E : XK} {tb : TE} {p1 p2 : Pos}
    (I : Inv X pins σ H s) (L : LamS X.env.scope scope) (hf : s.heap.get? f = some (PySem.W.kla_obj "<lambda>" (X.env.qual ++ "<lambda>") params body scope (cloFrom X.env.cells scope.names []) pm c' ctv)) (hfn : H f = none) (hfr : f ∉ frs X.stack)
    (hbind : bindArgs (PySem.W.kla_fn "<lambda>" (X.env.qual ++ "<lambda>") params body scope (cloFrom X.env.cells scope.names []) pm (.ref c') ctv) ⟨[], []⟩ = pure [])
    (tk : Takes ((cxOf CXg X.prog X.w X.K X.mg X.base Ng qg sg g cdg X.A X.stack s H Eg).tr pn xe) W) (hW : ∀ cls d σ' H', E cls d H' → W cls d σ' H') (hr : Room (k + 1) (X.A.deeper (envOfC qg sg s.heap.objs.size g cdg)))
    (hbody : ∀ (outer : List Env) (s1 : Shared) (H1 : Hp), Room k ((X.A.deeper (envOfC qg sg s.heap.objs.size g cdg)).deeper (lamEnv X scope s1.heap.objs.size f c')) → PE (lamCx X (X.A.deeper (envOfC qg sg s.heap.objs.size g cdg)) outer s1 H1 E scope f c') body tb)
    (hN : Ng[i]? = some a) (hv : Vis sg a) (hd : (a == ("__debug__" : Str)) = false) (hcd : (a == ("__classdict__" : Str)) = false) :
    PE ((cxOf CXg X.prog X.w X.K X.mg X.base Ng qg sg g cdg X.A X.stack s H Eg).tr pn xe) (.Call (.Name a p1) [] [] p2)
      (fun σZ HZ Q => σZ[i]? = some (some (.ref f)) ∧ HZ c' = some (CodeO c' (X.env.qual ++ "<lambda>")) ∧ tb σ HZ Q) := by
  refine ⟨fun pinsZ sZ σZ HZ Q IZ ⟨hs, hc, ht⟩ => wpAny_Call_Name_kw (thn ((pe_var (pos := p1) (i := i) hN hv hd hcd).run pinsZ sZ σZ HZ (fun v H1 => v = .ref f ∧ H1 = HZ) IZ ⟨.ref f, hs, rfl, rfl⟩) ?_)⟩
  rintro u s1 ⟨v, H1, I1, r1, rfl, rfl⟩
  obtain rfl : u = Value.ref f := r1
  have here := I1.base.keep f _ hf hfn hfr (fun z => nomatch (show f ∈ ([] : List Addr) from z))
  obtain ⟨⟨oc, vs, t, hoc, hdc, hvc⟩, _, _⟩ := I1.hok c' _ hc
  have hx : Passes (L2.CX X.prog X.w) ((cxOf CXg X.prog X.w X.K X.mg X.base Ng qg sg g cdg X.A X.stack s H Eg).tr pn xe) E := passes_call tk hW
  have ran : codeAny (model X.prog X.w) (X.A.deeper (envOfC qg sg s.heap.objs.size g cdg)) (.call (.ref f) ⟨[], []⟩) (CR (L2.CX X.prog X.w) (envOfC qg sg s.heap.objs.size g cdg :: X.stack) X.prog X.w H1 s1 Q E) s1 := by
    refine PySem.W.kla_callFunE hr.depth here rfl L.co L.gen rfl ⟨c', oc, vs, t, rfl, hoc, hdc, hvc⟩ ?_
    rw [hbind]
    refine wpAny_pure (wpAny_newFunctionEnv (fun y hy => (L.own y hy).2) (fun y hy => absurd hy (by simp)) (fun h₁ hns hsb => ⟨I1.nolimit.fresh _ hsb, ?_⟩) L.kind)
    show codeAny _ _ (.expr body (lamEnv X scope s1.heap.objs.size f c')) _ _
    have J : Inv (lamCx X (X.A.deeper (envOfC qg sg s.heap.objs.size g cdg)) (envOfC qg sg s.heap.objs.size g cdg :: X.stack) s1 H1 E scope f c') [] σ H1 { s1 with heap := h₁, toks := s1.toks + ([] : List (Str × Value)).length } :=
      lam_start2 I L I1.env0 hr.hd I1.base hns fun b o e => hsb.extBut b o (Nat.ne_of_lt (Heap.lt_size e)) (Heap.get?_push_of_some _ e)
    exact PySem.W.kla_codeExpr (wpAny_mono ((hbody _ s1 H1 (hr.deeper _)).run [] _ _ H1 Q J ht) (fun v s' ⟨w', H', J', rv, q⟩ => ⟨w', H', J'.os, J'.bare, J'.base, J'.hok, rv, q⟩) fun e s' hq => hq)
  refine PySem.W.callWith_F0 ⟨_, _, _, _, here⟩ (wpAny_call (codeAny_mono ran fun r s' hq => ?_))
  match r, hq with
  | .error e, hq => exact hx pinsZ σZ H1 s1 e s' I1 hq
  | .ok (.ret u), hq => exact I1.after hq
  | .ok .next, hq => exact hq.elim
  | .ok .brk, hq => exact hq.elim
  | .ok .cont, hq => exact hq.elim
end
section
variable {X : Cx}
/-- x(lambda: body), x's def calling what it gets -/
theorem pe_lamG {T : List (Addr × Str)} {TT : (XK → Hp → VK → Prop) → Hp → VK → Prop} {x a : Str} {g c P : Addr} {k : Nat} {pg : Arguments} {bg : List Stmt} {sg : Scope} {dV kV doc pm cdv ct oc : Value} {an od : Option Addr} {osl : Array (Option Value)} {Ng : List Str}
    {params : Arguments} {body : Expr} {scope : Scope} {t : XK → TE} {p lpos pos : Pos} (gd : X.A.guards = some []) (hg : Gl X x) (hm : X.mg x = some (.ref g)) (hk : PySem.W.keepIn X.K (.ref g) = true)
    (lk : X.K.lookup g = some ⟨oc, od, .func (PySem.W.fnOf x x pg bg sg dV kV doc pm an cdv ct), osl⟩) (hcg : PySem.W.codeIn X.K cdv x = true) (hb : L2.Binds X.K (PySem.W.fnOf x x pg bg sg dV kV doc pm an cdv ct) [a] []) (Sg : FnScope Ng [a] sg) (hNg : Ng[0]? = some a) (hva : Vis sg a)
    (hG : GivesTo X Ng x sg g cdv bg a (X.env.qual ++ "<lambda>") TT)
    (TB : TabB X.base X.mg c P) (hcode : X.env.code = .ref c) (hmT : (P, X.env.qual ++ "<lambda>") ∈ T) (hu : ∀ p ∈ T, p.1 = P → p.2 = X.env.qual ++ "<lambda>") (hr : Room (k + 2) X.A) (L : LamS X.env.scope scope) (hdef : defaultsOf params X.env = ([], []))
    (hbind : ∀ (q : Str) (cl : List (Str × Addr)) (pm cv ctv : Value), bindArgs (PySem.W.kla_fn "<lambda>" q params body scope cl pm cv ctv) ⟨[], []⟩ = pure [])
    (hbody : ∀ (A : Around) (outer : List Env) (s : Shared) (H : Hp) (E : XK) (f c' : Addr), A.guards = some [] → Room k (A.deeper (lamEnv X scope s.heap.objs.size f c')) → PE (lamCx X A outer s H E scope f c') body (t E))
    (hdb : (x == ("__debug__" : Str)) = false) (hd : (a == ("__debug__" : Str)) = false) (hcd : (a == ("__classdict__" : Str)) = false) :
    PE X (.Call (.Name x p) [.Lambda params body scope lpos] [] pos) (tLam T TT t) := by
  refine ⟨fun pins s σ H Q I ⟨hT, h⟩ => wpAny_Call_Name_kw (ld_glob I hg hm (PySem.W.callWith_K (h₀ := X.base) I.ok.mod.kin hk ?_ (by rfl) (by rfl)) hdb)⟩
  show wpAny _ _ (spliced ((false, eval (.Lambda params body scope lpos) X.env) :: backTo pos (starEach [] X.env))) _ _ s
  refine Calls.spliced_cons (lam_make2 I TB hcode hmT hu hT hdef (L.has I.ok) fun f c' pm' ctv H1 s' I1 eN T1 hf hfn hfr hco => Calls.spliced_nil ⟨I1.kIn, ?_⟩)
  refine wpAny_call (codeAny_mono (run_at (E := C8.E0) (Q := Q) (CX := C8.CX0) (N := Ng) (ps := [a]) (us := [.ref f]) (vs := [.ref f]) lk hcg Sg hr I1.env0 (hb s' [.ref f] I1.kIn rfl) (.cons rfl .nil) rfl fun hr' => ?_) fun r s2 hq => ?_)
  · obtain ⟨t', ht', hq'⟩ := hG f c' s' H1 Q (fun E H' Q' => t E σ H' Q') (fun W pn xe E p1 p2 tk hW => act_at (i := 0) I1 L hf hfn hfr (hbind _ _ _ _ _) tk hW hr' (fun outer s1 H2 hr2 => hbody _ outer s1 H2 E f c' gd hr2) hNg hva hd hcd) hco (h H1 eN T1)
    exact ⟨t', ht'.nox, hq'⟩
  · match r, hq with
    | .error e, hq => exact (show False from hq).elim
    | .ok (.ret u), hq => exact I1.after hq
    | .ok .next, hq => exact hq.elim
    | .ok .brk, hq => exact hq.elim
    | .ok .cont, hq => exact hq.elim
end
end L2.PV

set_option Elab.async false
set_option linter.all false
set_option maxRecDepth 100000
set_option autoImplicit false
namespace L2.PV
open PySem PySem.Spec PyProof.Rows

/-- where a term stands -/
structure Cc (X : Cx) (W : WX) (k : Nat) : Prop where
  calm : X.calm = true
  tk : Takes X W
  po : PassesOwn (model X.prog X.w) X.A X.env X.xe
  room : Room k X.A
  nd : X.N.Nodup
  gd : X.A.guards = some []

/-! ### a new object of one's own -/
section
variable (K : PySem.W.Frag) (mg : MG) (W : WX) {T : Tb} (B : Bs T) (σ : St)
def PostN (F : Hp) (r : Res D) (Q : VK) : Prop := match r with
  | .ok c e => ∀ F' a H', Le F F' → Rel K mg B F' e σ H' → F' a = none → B.H0 a = none → Cont K mg F' H' a c → (∀ (j : Nat) (s : Sl), e[j]? = some s → s.hot = true → σ[j]? ≠ some (some (.ref a))) → Q (.ref a) H'
  | .exc x e => ∀ F' c dd H', Le F F' → Rel K mg B F' e σ H' → DenX K mg F' x c dd → W c dd σ H'
  | .bad => False
end
section
variable (K : PySem.W.Frag) (mg : MG) (T : Tb) (W : WX)
def tN (g : En → Res D) : TE := fun σ H Q => ∃ (B : Bs T) (F : Hp) (e : En), Rel K mg B F e σ H ∧ PostN K mg W B σ F (g e) Q
end
section
variable {K : PySem.W.Frag} {mg : MG} {W : WX} {T : Tb} {B : Bs T} {σ : St} {F G H : Hp} {r : Res D} {Q : VK} {e : En}
theorem PostN.le (h : PostN K mg W B σ F r Q) (s : Le F G) : PostN K mg W B σ G r Q := by
  cases r with
  | ok a e => exact fun F' b H' l => h F' b H' (s.trans l)
  | exc x e => exact fun F' c dd H' l => h F' c dd H' (s.trans l)
  | bad => exact h
theorem Post.toN (h : Post K mg W B σ (Den K mg) F r Q) : PostN K mg W B σ F r Q := by
  cases r with
  | ok a e =>
    intro F' b H' l R n n0 c hn
    obtain ⟨o, e4, hd, ht⟩ := Cont.den c n
    exact h _ _ _ (l.trans (.upd n)) (R.freezeAt e4 n n0 hn ht) hd
  | exc x e => exact h
  | bad => exact h
theorem PostN.step {α β : Type} {R : Hp → α → β → Prop} {r : Res α} {k : α → En → Res D} {KK : β → Hp → Prop} {Q' : VK} (h : PostN K mg W B σ F (r.bind k) Q')
    (f : ∀ F1 e1 a b H1, Le F F1 → Rel K mg B F1 e1 σ H1 → R F1 a b → PostN K mg W B σ F1 (k a e1) Q' → KK b H1) : Post K mg W B σ R F r KK := by
  cases r with
  | ok a e => exact fun F' b H' l R1 hR => f F' e a b H' l R1 hR (PostN.le h l)
  | exc x e => exact h
  | bad => exact h
theorem PostN.lift {o : Option D} (h : PostN K mg W B σ F (lift o e) Q) : ∃ a, o = some a ∧ PostN K mg W B σ F (.ok a e) Q := by
  cases o with
  | none => exact h.elim
  | some a => exact ⟨a, rfl, h⟩
/-- the end: a list newly laid -/
theorem PostN.new {c : D} {o : HO} (h : PostN K mg W B σ F (.ok c e) Q) (hR : Rel K mg B F e σ H) (p : Addr) (hp : H p = none) (hc : Cont K mg F (upd H p o) p c) : Q (.ref p) (upd H p o) :=
  h F p _ (Le.refl F) (hR.grow hp) (hR.sub.free hp) (hR.none0 hp) hc fun j s h1 h2 h3 => by
    obtain ⟨a, u, e1, _, e3, _⟩ := hR.hot h1 h2
    rw [e1] at h3; cases h3
    rw [hp] at e3; cases e3
theorem PostN.newL {ds : List D} {vs : List V} (h : PostN K mg W B σ F (.ok (.lst ds) e) Q) (hR : Rel K mg B F e σ H) (hd : DenL K mg F ds vs) : ∀ p, H p = none → Q (.ref p) (upd H p (.lst vs)) :=
  fun p hp => h.new hR p hp ⟨vs, upd_same, hd⟩
theorem Post.newT {ds : List D} {vs : List V} (h : Post K mg W B σ (Den K mg) F (.ok (.tup ds) e) Q) (hR : Rel K mg B F e σ H) (hd : DenL K mg F ds vs) : ∀ p, H p = none → Q (.ref p) (upd H p (.tup vs)) :=
  fun p hp => h.new hR (.ref p) p hp fun l => .tup (.inl upd_same) (hd.mono l)
end
section
variable {X : Cx} {T : Tb} {W : WX} {a b c : Expr} {g ga gb gc : En → Res D} {hA hB : En → Res Bool} {pos : Pos} {es rest : List Expr} {k : En → Res (List Ar)} {n : Nat}
theorem nE {x : Expr} (h : PE X x (tN X.K X.mg T W g)) : PE X x (tE X.K X.mg T W g) := conv h fun σ H Q ⟨B, F, e, R, h⟩ => ⟨B, F, e, R, h.toN⟩
def valsOf : List Ar → Option (List D)
  | [] => some []
  | .v d :: r => (valsOf r).map (d :: ·)
  | .s _ :: _ => none
theorem valsOf_den {K : PySem.W.Frag} {mg : MG} {σ : St} {F : Hp} : ∀ {as : List Ar} {ds : List D} {vs : List V}, valsOf as = some ds → ArsOk K mg σ F as vs → DenL K mg F ds vs
  | [], _, [], h, _ => by cases h; exact .nil
  | .v d :: r, _, v :: vs, h, ⟨h1, h2⟩ => by
    unfold valsOf at h
    cases q : valsOf r with
    | none => rw [q] at h; cases h
    | some ds => rw [q] at h; cases h; exact .cons h1 (valsOf_den q h2)
  | .s _ :: _, _, _, h, _ => by cases h
  | [], _, _ :: _, _, h => h.elim
  | .v _ :: _, _, [], _, h => h.elim
def lstG (k : En → Res (List Ar)) : En → Res D := fun e => (k e).bind fun as e1 => lift ((valsOf as).bind fun ds => if ds.length ≤ sizeLine then some (.lst ds) else none) e1
def tupG (k : En → Res (List Ar)) : En → Res D := fun e => (k e).bind fun as e1 => lift ((valsOf as).bind fun ds => if ds.length ≤ sizeLine then some (.tup ds) else none) e1
theorem nlst (h : PA X es (tA X.K X.mg T W k)) : PE X (.List es pos) (tN X.K X.mg T W (lstG k)) := conv (pe_lst h) fun σ H Q ⟨B, F, e, R, h⟩ =>
  ⟨B, F, e, R, h.step fun F1 e1 as vs H1 l1 R1 D1 h1 => by
    obtain ⟨c, hc, h2⟩ := h1.lift
    cases q : valsOf as with
    | none => rw [q] at hc; cases hc
    | some ds =>
      rw [q] at hc
      have hd := valsOf_den q D1
      simp only [Option.bind_some] at hc
      split at hc
      · rename_i hl
        cases hc
        exact ⟨by rw [← hd.length]; exact hl, h2.newL R1 hd⟩
      · cases hc⟩
theorem elst (h : PA X es (tA X.K X.mg T W k)) : PE X (.List es pos) (tE X.K X.mg T W (lstG k)) := nE (nlst h)
theorem etup {x1} (h : PA X es (tA X.K X.mg T W k)) : PE X (.Tuple es x1 pos) (tE X.K X.mg T W (tupG k)) := conv (pe_tup h) fun σ H Q ⟨B, F, e, R, h⟩ =>
  ⟨B, F, e, R, h.step fun F1 e1 as vs H1 l1 R1 D1 h1 => by
    obtain ⟨c, hc, h2⟩ := h1.lift
    cases q : valsOf as with
    | none => rw [q] at hc; cases hc
    | some ds =>
      rw [q] at hc
      have hd := valsOf_den q D1
      simp only [Option.bind_some] at hc
      split at hc
      · rename_i hl
        cases hc
        exact ⟨by rw [← hd.length]; exact hl, h2.newT R1 hd⟩
      · cases hc⟩

/-! ### built-in functions -/
/-- a built-in's rule by pure values -/
def CaD (K : PySem.W.Frag) (mg : MG) (r : List V → Hp → VK → Prop) (f : List D → Option D) : Prop :=
  ∀ (T : Tb) (W : WX) (B : Bs T) (F : Hp) (e : En) (σ : St) (H : Hp) (as : List D) (xs : List V) (Q : VK) (c : D), Rel K mg B F e σ H → DenL K mg F as xs → f as = some c → Post K mg W B σ (Den K mg) F (.ok c e) Q → r xs H Q
def CaN (K : PySem.W.Frag) (mg : MG) (r : List V → Hp → VK → Prop) (f : List D → Option D) : Prop :=
  ∀ (T : Tb) (W : WX) (B : Bs T) (F : Hp) (e : En) (σ : St) (H : Hp) (as : List D) (xs : List V) (Q : VK) (c : D), Rel K mg B F e σ H → DenL K mg F as xs → f as = some c → PostN K mg W B σ F (.ok c e) Q → r xs H Q
def bltG (f : List D → Option D) (k : En → Res (List Ar)) : En → Res D := fun e => (k e).bind fun as e1 => lift ((valsOf as).bind f) e1
end
theorem bind_some' {α β : Type} {o : Option α} {f : α → Option β} {c : β} (h : o.bind f = some c) : ∃ a, o = some a ∧ f a = some c := by
  cases o with
  | none => cases h
  | some a => exact ⟨a, rfl, h⟩
section
variable {X : Cx} {T : Tb} {W : WX} {e : Expr} {es : List Expr} {k : En → Res (List Ar)} {r : List V → Hp → VK → Prop} {f : List D → Option D} {id Ty : String} {x : Str} {p pos : Pos}
theorem convCB {x : Expr} (h : PE X x (tCB r (tA X.K X.mg T W k))) (hr : CaD X.K X.mg r f) : PE X x (tE X.K X.mg T W (bltG f k)) := conv h fun σ H Q ⟨B, F, e, R, h⟩ =>
  ⟨B, F, e, R, h.step fun F1 e1 as vs H1 l1 R1 D1 h1 => by
    obtain ⟨c, hc, h2⟩ := h1.lift
    obtain ⟨ds, h3, h4⟩ := bind_some' hc
    exact hr T W B F1 e1 σ H1 ds vs Q c R1 (valsOf_den h3 D1) h4 h2⟩
theorem convCN {x : Expr} (h : PE X x (tCB r (tA X.K X.mg T W k))) (hr : CaN X.K X.mg r f) : PE X x (tN X.K X.mg T W (bltG f k)) := conv h fun σ H Q ⟨B, F, e, R, h⟩ =>
  ⟨B, F, e, R, h.step fun F1 e1 as vs H1 l1 R1 D1 h1 => by
    obtain ⟨c, hc, h2⟩ := h1.lift
    obtain ⟨ds, h3, h4⟩ := bind_some' hc
    exact hr T W B F1 e1 σ H1 ds vs Q c R1 (valsOf_den h3 D1) h4 h2⟩
theorem ecallB (hc : CallR X (.builtin id) r) (hr : CaD X.K X.mg r f) (hg : Gl X x) (hm : X.mg x = none) (ha : PA X (e :: es) (tA X.K X.mg T W k)) (hv : bootBuiltins x = some (.builtin id) := by decide +kernel) (hn : x ≠ "__name__" := by decide) (hdb : (x == ("__debug__" : Str)) = false := by decide)
    (he : starEach (e :: es) X.env = (false, eval e X.env) :: starEach es X.env := by rfl) (hpl : (backTo pos (starEach es X.env)).any (·.1) = false := by rfl) : PE X (.Call (.Name x p) (e :: es) [] pos) (tE X.K X.mg T W (bltG f k)) :=
  convCB (pe_callB hc hg hm hv ha hn hdb he hpl) hr
theorem ecallTy (hc : CallR X (.type Ty) r) (hr : CaD X.K X.mg r f) (hg : Gl X x) (hm : X.mg x = none) (ha : PA X (e :: es) (tA X.K X.mg T W k)) (hv : bootBuiltins x = some (.type Ty) := by decide +kernel) (hn : x ≠ "__name__" := by decide) (hdb : (x == ("__debug__" : Str)) = false := by decide)
    (he : starEach (e :: es) X.env = (false, eval e X.env) :: starEach es X.env := by rfl) (hpl : (backTo pos (starEach es X.env)).any (·.1) = false := by rfl) : PE X (.Call (.Name x p) (e :: es) [] pos) (tE X.K X.mg T W (bltG f k)) :=
  convCB (pe_callTy hc hg hm hv ha hn hdb he hpl) hr
theorem ncallB (hc : CallR X (.builtin id) r) (hr : CaN X.K X.mg r f) (hg : Gl X x) (hm : X.mg x = none) (ha : PA X (e :: es) (tA X.K X.mg T W k)) (hv : bootBuiltins x = some (.builtin id) := by decide +kernel) (hn : x ≠ "__name__" := by decide) (hdb : (x == ("__debug__" : Str)) = false := by decide)
    (he : starEach (e :: es) X.env = (false, eval e X.env) :: starEach es X.env := by rfl) (hpl : (backTo pos (starEach es X.env)).any (·.1) = false := by rfl) : PE X (.Call (.Name x p) (e :: es) [] pos) (tN X.K X.mg T W (bltG f k)) :=
  convCN (pe_callB hc hg hm hv ha hn hdb he hpl) hr
theorem ncallTy (hc : CallR X (.type Ty) r) (hr : CaN X.K X.mg r f) (hg : Gl X x) (hm : X.mg x = none) (ha : PA X (e :: es) (tA X.K X.mg T W k)) (hv : bootBuiltins x = some (.type Ty) := by decide +kernel) (hn : x ≠ "__name__" := by decide) (hdb : (x == ("__debug__" : Str)) = false := by decide)
    (he : starEach (e :: es) X.env = (false, eval e X.env) :: starEach es X.env := by rfl) (hpl : (backTo pos (starEach es X.env)).any (·.1) = false := by rfl) : PE X (.Call (.Name x p) (e :: es) [] pos) (tN X.K X.mg T W (bltG f k)) :=
  convCN (pe_callTy hc hg hm hv ha hn hdb he hpl) hr
end

/-! ### methods of values -/
def MeD (K : PySem.W.Frag) (mg : MG) (Ty : String) (r : V → List V → Hp → VK → Prop) (f : D → List D → Option D) : Prop :=
  ∀ (T : Tb) (W : WX) (B : Bs T) (F : Hp) (e : En) (σ : St) (H : Hp) (d : D) (x : V) (as : List D) (xs : List V) (Q : VK) (c : D), Rel K mg B F e σ H → Den K mg F d x → DenL K mg F as xs → f d as = some c → Post K mg W B σ (Den K mg) F (.ok c e) Q → r x xs H Q
def MeN (K : PySem.W.Frag) (mg : MG) (Ty : String) (r : V → List V → Hp → VK → Prop) (f : D → List D → Option D) : Prop :=
  ∀ (T : Tb) (W : WX) (B : Bs T) (F : Hp) (e : En) (σ : St) (H : Hp) (d : D) (x : V) (as : List D) (xs : List V) (Q : VK) (c : D), Rel K mg B F e σ H → Den K mg F d x → DenL K mg F as xs → f d as = some c → PostN K mg W B σ F (.ok c e) Q → r x xs H Q
/-- a value is of a built-in type -/
def tyD (Ty : String) : D → Bool
  | .str _ => Ty == "str"
  | .int _ => Ty == "int"
  | .lst _ => Ty == "list"
  | .dct _ => Ty == "dict"
  | _ => false
theorem tyD_ok {K : PySem.W.Frag} {mg : MG} {F H : Hp} {Ty : String} {d : D} {x : V} (s : Sub F H) (h : Den K mg F d x) (t : tyD Ty d = true) (nl : ∀ kvs, d ≠ .dct kvs) : tyV K Ty x H := by
  cases h with
  | str z => exact beq_iff_eq.mp t
  | int z => exact beq_iff_eq.mp t
  | lst h l => exact .inl ⟨beq_iff_eq.mp t, _, h.seq s⟩
  | dct h l => exact absurd rfl (nl _)
  | _ => cases t
def metG (Ty : String) (f : D → List D → Option D) (g : En → Res D) (k : En → Res (List Ar)) : En → Res D := fun e => (g e).bind fun d e1 => match d with
  | .dct _ => .bad
  | d => if tyD Ty d = true then (k e1).bind fun as e2 => lift ((valsOf as).bind (f d)) e2 else .bad
end L2.PV

set_option Elab.async false
set_option linter.all false
set_option maxRecDepth 100000
set_option autoImplicit false
namespace L2.PV
open PySem PySem.Spec PyProof.Rows

section
variable {X : Cx} {T : Tb} {W : WX} {o e : Expr} {es : List Expr} {g : En → Res D} {k : En → Res (List Ar)} {r : V → List V → Hp → VK → Prop} {f : D → List D → Option D} {id Ty : String} {name : Str} {apos cpos : Pos}
theorem emet (pa : PlainAttrs Ty) (slot : Slot Ty name id) (hty : typeOf (.builtin id) = pure (.type "method_descriptor")) (hm : MtR X id r) (hr : MeD X.K X.mg Ty r f) (ho : PE X o (tE X.K X.mg T W g)) (ha : PA X (e :: es) (tA X.K X.mg T W k))
    (hbase : attributeBase o name X.env (eval o X.env) = eval o X.env := by rfl)
    (hfew : ((backTo cpos (starEach (e :: es) X.env)).all (fun x => !x.1) && (backToKw cpos (keywordEach [] X.env)).all (fun x => x.1.isSome)
      && decide ((e :: es).length + ([] : List Keyword).length + (if ([] : List Keyword).isEmpty then 0 else 1) < 30)) = true := by rfl)
    (hline : (apos.endLine == cpos.line) = true := by rfl) (hs : starEach (e :: es) X.env = (false, eval e X.env) :: starEach es X.env := by rfl) (hplain : (backTo cpos (starEach es X.env)).any (·.1) = false := by rfl) :
    PE X (.Call (.Attribute o name apos) (e :: es) [] cpos) (tE X.K X.mg T W (metG Ty f g k)) := conv (pe_bm pa slot hty hm ho ha hbase hfew hline hs hplain) fun σ H Q ⟨B, F, e, R, h⟩ =>
  ⟨B, F, e, R, h.step fun F1 e1 d x H1 l1 R1 D1 h1 => by
    split at h1
    · exact h1.elim
    · rename_i nd
      by_cases ht : tyD Ty d = true
      · rw [if_pos ht] at h1
        refine ⟨tyD_ok R1.sub D1 ht fun kvs => nd kvs, B, F1, e1, R1, h1.step fun F2 e2 as vs H2 l2 R2 D2 h2 => ?_⟩
        obtain ⟨c, hc, h3⟩ := h2.lift
        obtain ⟨ds, h4, h5⟩ := bind_some' hc
        exact hr T W B F2 e2 σ H2 d x ds vs Q c R2 (D1.mono l2) (valsOf_den h4 D2) h5 h3
      · rw [if_neg ht] at h1
        exact h1.elim⟩
theorem nmet (pa : PlainAttrs Ty) (slot : Slot Ty name id) (hty : typeOf (.builtin id) = pure (.type "method_descriptor")) (hm : MtR X id r) (hr : MeN X.K X.mg Ty r f) (ho : PE X o (tE X.K X.mg T W g)) (ha : PA X (e :: es) (tA X.K X.mg T W k))
    (hbase : attributeBase o name X.env (eval o X.env) = eval o X.env := by rfl)
    (hfew : ((backTo cpos (starEach (e :: es) X.env)).all (fun x => !x.1) && (backToKw cpos (keywordEach [] X.env)).all (fun x => x.1.isSome)
      && decide ((e :: es).length + ([] : List Keyword).length + (if ([] : List Keyword).isEmpty then 0 else 1) < 30)) = true := by rfl)
    (hline : (apos.endLine == cpos.line) = true := by rfl) (hs : starEach (e :: es) X.env = (false, eval e X.env) :: starEach es X.env := by rfl) (hplain : (backTo cpos (starEach es X.env)).any (·.1) = false := by rfl) :
    PE X (.Call (.Attribute o name apos) (e :: es) [] cpos) (tN X.K X.mg T W (metG Ty f g k)) := conv (pe_bm pa slot hty hm ho ha hbase hfew hline hs hplain) fun σ H Q ⟨B, F, e, R, h⟩ =>
  ⟨B, F, e, R, h.step fun F1 e1 d x H1 l1 R1 D1 h1 => by
    split at h1
    · exact h1.elim
    · rename_i nd
      by_cases ht : tyD Ty d = true
      · rw [if_pos ht] at h1
        refine ⟨tyD_ok R1.sub D1 ht fun kvs => nd kvs, B, F1, e1, R1, h1.step fun F2 e2 as vs H2 l2 R2 D2 h2 => ?_⟩
        obtain ⟨c, hc, h3⟩ := h2.lift
        obtain ⟨ds, h4, h5⟩ := bind_some' hc
        exact hr T W B F2 e2 σ H2 d x ds vs Q c R2 (D1.mono l2) (valsOf_den h4 D2) h5 h3
      · rw [if_neg ht] at h1
        exact h1.elim⟩
def metG0 (Ty : String) (f : D → List D → Option D) (g : En → Res D) : En → Res D := fun e => (g e).bind fun d e1 => match d with
  | .dct _ => .bad
  | d => if tyD Ty d = true then lift (f d []) e1 else .bad
theorem emet0 (pa : PlainAttrs Ty) (slot : Slot Ty name id) (hty : typeOf (.builtin id) = pure (.type "method_descriptor")) (hm : MtR X id r) (hr : MeD X.K X.mg Ty r f) (ho : PE X o (tE X.K X.mg T W g))
    (hbase : attributeBase o name X.env (eval o X.env) = eval o X.env := by rfl) (hline : (apos.endLine == cpos.line) = true := by rfl) :
    PE X (.Call (.Attribute o name apos) [] [] cpos) (tE X.K X.mg T W (metG0 Ty f g)) := conv (pe_bm0 pa slot hty hm ho hbase hline) fun σ H Q ⟨B, F, e, R, h⟩ =>
  ⟨B, F, e, R, h.step fun F1 e1 d x H1 l1 R1 D1 h1 => by
    split at h1
    · exact h1.elim
    · rename_i nd
      by_cases ht : tyD Ty d = true
      · rw [if_pos ht] at h1
        obtain ⟨c, hc, h3⟩ := h1.lift
        exact ⟨tyD_ok R1.sub D1 ht fun kvs => nd kvs, hr T W B F1 e1 σ H1 d x [] [] Q c R1 D1 .nil hc h3⟩
      · rw [if_neg ht] at h1
        exact h1.elim⟩
end

/-! ### methods that change the object of a slot -/
/-- x.m(..) by contents: the new content, the value -/
def MuD (K : PySem.W.Frag) (mg : MG) (r : V → List V → Hp → VK → Prop) (f : D → List D → Option (D × D)) : Prop :=
  ∀ (F H : Hp) (a : Addr) (c : D) (as : List D) (xs : List V) (Q : VK) (c' v : D), Sub F H → Cont K mg F H a c → DenL K mg F as xs → f c as = some (c', v) →
    (∀ o x, Cont K mg F (upd H a o) a c' → Den K mg F v x → Q x (upd H a o)) → r (.ref a) xs H Q
def isLst : D → Bool | .lst _ => true | _ => false
def Sl.put : Sl → D → Sl
  | .own _, d => .own d
  | .io _, d => .io d
  | s, _ => s
def Sl.cont : Sl → Option D
  | .own d => some d
  | .io d => some d
  | _ => none
/-- a change of the i-th slot's object -/
def mutS (i : Nat) (f : D → Option (D × D)) : En → Res D := fun e => match e[i]? with
  | some s => match s.cont with
    | some c => match f c with
      | some (c', v) => .ok v (e.set i (s.put c'))
      | none => .bad
    | none => .bad
  | none => .bad
def mutG (i : Nat) (f : D → List D → Option (D × D)) (k : En → Res (List Ar)) : En → Res D := fun e => (k e).bind fun as e1 => match valsOf as with
  | some ds => mutS i (fun c => f c ds) e1
  | none => .bad
theorem hot_cont {s : Sl} {c : D} (h : s.cont = some c) : (s = .own c ∨ s = .io c) ∧ s.hot = true := by
  cases s <;> cases h
  · exact ⟨.inl rfl, rfl⟩
  · exact ⟨.inr rfl, rfl⟩
section
variable {K : PySem.W.Frag} {mg : MG} {W : WX} {T : Tb} {B : Bs T} {σ : St} {F H : Hp} {e : En} {Q : VK} {i : Nat}
theorem Rel.cont {s : Sl} {c : D} (R : Rel K mg B F e σ H) (h : e[i]? = some s) (hc : s.cont = some c) : ∃ a, σ[i]? = some (some (.ref a)) ∧ F a = none ∧ Cont K mg F H a c := by
  have z := R.at' i s h
  cases s <;> cases hc
  · obtain ⟨a, e1, e2, _, c⟩ := z; exact ⟨a, e1, e2, c⟩
  · obtain ⟨a, e1, e2, _, c⟩ := z; exact ⟨a, e1, e2, c⟩
theorem Rel.put {s : Sl} {c c' : D} {a : Addr} {o : HO} (R : Rel K mg B F e σ H) (h : e[i]? = some s) (hc : s.cont = some c) (ha : σ[i]? = some (some (.ref a))) (hk : Cont K mg F (upd H a o) a c') : Rel K mg B F (e.set i (s.put c')) σ (upd H a o) := by
  cases s <;> cases hc
  · exact R.write (d := c) (d' := c') h (.inl ⟨rfl, rfl⟩) ha hk
  · exact R.write (d := c) (d' := c') h (.inr ⟨rfl, rfl⟩) ha hk
theorem mut_ok {r : V → List V → Hp → VK → Prop} {f : D → List D → Option (D × D)} {as : List D} {xs : List V} {x : V} (hr : MuD K mg r f) (R : Rel K mg B F e σ H) (hx : σ[i]? = some (some x)) (hl : DenL K mg F as xs)
    (h : Post K mg W B σ (Den K mg) F (mutS i (fun c => f c as) e) Q) : r x xs H Q := by
  unfold mutS at h
  cases hs : e[i]? with
  | none => rw [hs] at h; exact h.elim
  | some s =>
    rw [hs] at h
    cases hc : s.cont with
    | none => simp only [hc] at h; exact h.elim
    | some c =>
      simp only [hc] at h
      obtain ⟨a, e1, e2, ck⟩ := R.cont hs hc
      rw [hx] at e1; cases e1
      cases hf : f c as with
      | none => rw [hf] at h; exact h.elim
      | some p =>
        obtain ⟨c', v⟩ := p
        rw [hf] at h
        exact hr F H a c as xs Q c' v R.sub ck hl hf fun o y ck' hd => h.ret (R.put hs hc hx ck') hd
end
section
variable {X : Cx} {T : Tb} {W : WX} {e : Expr} {es : List Expr} {k : En → Res (List Ar)} {r : V → List V → Hp → VK → Prop} {f : D → List D → Option (D × D)} {id : String} {name x : Str} {apos cpos p : Pos}
/-- the object in a slot is a list -/
theorem slot_list {T : Tb} {B : Bs T} {F H : Hp} {en : En} {σ : St} {i : Nat} {s : Sl} {ds : List D} (R : Rel X.K X.mg B F en σ H) (h : en[i]? = some s) (hc : s.cont = some (.lst ds)) : ∃ v, σ[i]? = some (some v) ∧ tyV X.K "list" v H := by
  obtain ⟨a, e1, _, vs, e3, _⟩ := R.cont h hc
  exact ⟨_, e1, .inl ⟨rfl, vs, SqL.of e3⟩⟩
/-- x.m(..), x the list in slot i -/
def lmutG (i : Nat) (f : D → List D → Option (D × D)) (k : En → Res (List Ar)) : En → Res D := fun e => match e[i]?.bind Sl.cont with
  | some (.lst _) => mutG i f k e
  | _ => .bad
theorem elmut (i : Nat) (slot : Slot "list" name id) (hty : typeOf (.builtin id) = pure (.type "method_descriptor")) (hm : MtR X id r) (hr : MuD X.K X.mg r f) (ha : PA X (e :: es) (tA X.K X.mg T W k))
    (hN : X.N[i]? = some x := by rfl) (hv : Vis X.env.scope x := by first | exact Or.inl rfl | exact Or.inr (Or.inl rfl) | exact Or.inr (Or.inr rfl)) (hd : (x == ("__debug__" : Str)) = false := by decide) (hcd : (x == ("__classdict__" : Str)) = false := by decide)
    (hbase : attributeBase (.Name x p) name X.env (eval (.Name x p) X.env) = eval (.Name x p) X.env := by rfl)
    (hfew : ((backTo cpos (starEach (e :: es) X.env)).all (fun x => !x.1) && (backToKw cpos (keywordEach [] X.env)).all (fun x => x.1.isSome)
      && decide ((e :: es).length + ([] : List Keyword).length + (if ([] : List Keyword).isEmpty then 0 else 1) < 30)) = true := by rfl)
    (hline : (apos.endLine == cpos.line) = true := by rfl) (hs : starEach (e :: es) X.env = (false, eval e X.env) :: starEach es X.env := by rfl) (hplain : (backTo cpos (starEach es X.env)).any (·.1) = false := by rfl) :
    PE X (.Call (.Attribute (.Name x p) name apos) (e :: es) [] cpos) (tE X.K X.mg T W (lmutG i f k)) := conv (pe_bm PySem.F.plainAttrs_list slot hty hm (pv i hN hv hd hcd) ha hbase hfew hline hs hplain) fun σ H Q ⟨B, F, en, R, h⟩ => by
  unfold lmutG at h
  split at h
  · rename_i hc
    obtain ⟨s, hs, hc⟩ := bind_some' hc
    obtain ⟨v, hv, ht⟩ := slot_list R hs hc
    refine ⟨v, hv, ht, B, F, en, R, ?_⟩
    unfold mutG at h
    refine h.step fun F1 e1 as vs H1 l1 R1 D1 h1 => ?_
    split at h1
    · rename_i ds hds
      exact mut_ok hr R1 hv (valsOf_den hds D1) h1
    · exact h1.elim
  · exact h.elim
def lmutG0 (i : Nat) (f : D → List D → Option (D × D)) : En → Res D := fun e => match e[i]?.bind Sl.cont with
  | some (.lst _) => mutS i (fun c => f c []) e
  | _ => .bad
theorem elmut0 (i : Nat) (slot : Slot "list" name id) (hty : typeOf (.builtin id) = pure (.type "method_descriptor")) (hm : MtR X id r) (hr : MuD X.K X.mg r f)
    (hN : X.N[i]? = some x := by rfl) (hv : Vis X.env.scope x := by first | exact Or.inl rfl | exact Or.inr (Or.inl rfl) | exact Or.inr (Or.inr rfl)) (hd : (x == ("__debug__" : Str)) = false := by decide) (hcd : (x == ("__classdict__" : Str)) = false := by decide)
    (hbase : attributeBase (.Name x p) name X.env (eval (.Name x p) X.env) = eval (.Name x p) X.env := by rfl) (hline : (apos.endLine == cpos.line) = true := by rfl) :
    PE X (.Call (.Attribute (.Name x p) name apos) [] [] cpos) (tE X.K X.mg T W (lmutG0 i f)) := conv (pe_bm0 PySem.F.plainAttrs_list slot hty hm (pv i hN hv hd hcd) hbase hline) fun σ H Q ⟨B, F, en, R, h⟩ => by
  unfold lmutG0 at h
  split at h
  · rename_i hc
    obtain ⟨s, hs, hc⟩ := bind_some' hc
    obtain ⟨v, hv, ht⟩ := slot_list R hs hc
    exact ⟨v, hv, ht, mut_ok hr R hv .nil h⟩
  · exact h.elim
end

/-! ### calls of own defs -/
section
variable (K : PySem.W.Frag) (mg : MG) (T : Tb)
/-- what a def promises: by pure values, and the objects that are handed in to be changed -/
def spV (n : Nat) (f : En → Res D) : Sp := fun vs H Q E => vs.length = n ∧ ∃ (B : Bs T) (F : Hp) (args : En), B.H0 = kn T H ∧ B.F0 = F ∧ Rel K mg B F args (vs.map some) H ∧ (∀ s ∈ args, (∃ d, s = .val d) ∨ ∃ d, s = .io d) ∧
  Post K mg (fun c dd _ H => E c dd H) B (vs.map some) (Den K mg) F (f args) Q
end
def slotsOf : List Ar → List Nat
  | [] => []
  | .v _ :: r => slotsOf r
  | .s i :: r => i :: slotsOf r
def mkArgs (e : En) : List Ar → Option En
  | [] => some []
  | .v d :: r => (mkArgs e r).map (.val d :: ·)
  | .s i :: r => ((e[i]?).bind Sl.cont).bind fun c => (mkArgs e r).map (.io c :: ·)
/-- the objects come back -/
def wb : List Ar → En → En → En
  | .s i :: as, .io d :: r, e => wb as r (match e[i]? with | some s => e.set i (s.put d) | none => e)
  | .v _ :: as, _ :: r, e => wb as r e
  | _, _, e => e
def callG (f : En → Res D) (k : En → Res (List Ar)) : En → Res D := fun e => (k e).bind fun as e1 => if (slotsOf as).Nodup then match mkArgs e1 as with
    | some args => match f args with
      | .ok d r => .ok d (wb as r e1)
      | .exc x r => .exc x (wb as r e1)
      | .bad => .bad
    | none => .bad
  else .bad
end L2.PV

set_option Elab.async false
set_option linter.all false
set_option maxRecDepth 100000
set_option autoImplicit false
namespace L2.PV
open PySem PySem.Spec PyProof.Rows

/-! ### a call's frame -/
def ioOf (σ : St) (as : List Ar) (j : Nat) : Option Addr := match as[j]? with
  | some (.s i) => match σ[i]? with
    | some (some (.ref a)) => some a
    | _ => none
  | _ => none
theorem ioOf_some {σ : St} {as : List Ar} {j : Nat} {a : Addr} (h : ioOf σ as j = some a) : ∃ i, as[j]? = some (.s i) ∧ σ[i]? = some (some (.ref a)) := by
  unfold ioOf at h
  split at h
  · rename_i i hi
    split at h
    · rename_i b hb; cases h; exact ⟨i, hi, hb⟩
    · cases h
  · cases h
theorem ioOf_of {σ : St} {as : List Ar} {j i : Nat} {a : Addr} (h : as[j]? = some (.s i)) (h' : σ[i]? = some (some (.ref a))) : ioOf σ as j = some a := by
  unfold ioOf
  rw [h]
  simp only [h']
theorem slots_mem : ∀ {as : List Ar} {j i : Nat}, as[j]? = some (.s i) → i ∈ slotsOf as
  | [], _, _, h => by simp at h
  | .v _ :: r, 0, _, h => by simp at h
  | .v _ :: r, j + 1, i, h => by unfold slotsOf; exact slots_mem (as := r) (j := j) (by simpa using h)
  | .s k :: r, 0, i, h => by simp at h; subst h; exact List.mem_cons_self
  | .s k :: r, j + 1, i, h => List.mem_cons_of_mem _ (slots_mem (as := r) (j := j) (by simpa using h))
theorem slots_inj : ∀ {as : List Ar} {j k i : Nat}, (slotsOf as).Nodup → as[j]? = some (.s i) → as[k]? = some (.s i) → j = k
  | [], _, _, _, _, h, _ => by simp at h
  | .v _ :: r, 0, _, _, _, h, _ => by simp at h
  | .v _ :: r, _ + 1, 0, _, _, _, h => by simp at h
  | .v _ :: r, j + 1, k + 1, i, nd, h1, h2 => by
    have := slots_inj (as := r) (j := j) (k := k) nd (by simpa using h1) (by simpa using h2)
    omega
  | .s l :: r, 0, 0, i, _, _, _ => rfl
  | .s l :: r, 0, k + 1, i, nd, h1, h2 => by
    simp at h1; subst h1
    exact absurd (slots_mem (as := r) (j := k) (by simpa using h2)) (List.nodup_cons.mp nd).1
  | .s l :: r, j + 1, 0, i, nd, h1, h2 => by
    simp at h2; subst h2
    exact absurd (slots_mem (as := r) (j := j) (by simpa using h1)) (List.nodup_cons.mp nd).1
  | .s l :: r, j + 1, k + 1, i, nd, h1, h2 => by
    have := slots_inj (as := r) (j := j) (k := k) (List.nodup_cons.mp nd).2 (by simpa using h1) (by simpa using h2)
    omega
section
variable {K : PySem.W.Frag} {mg : MG} {T : Tb} {B : Bs T} {F F' H H' : Hp} {e : En} {σ : St}
theorem args_get : ∀ {as : List Ar} {vs : List V} {j : Nat}, ArsOk K mg σ F as vs → (∀ a, as[j]? = some a → ∃ v, vs[j]? = some v ∧ ArOk K mg σ F a v) ∧ as.length = vs.length
  | [], [], _, _ => ⟨fun _ h => by simp at h, rfl⟩
  | a :: as, v :: vs, 0, ⟨h, t⟩ => ⟨fun _ q => by simp at q; subst q; exact ⟨v, rfl, h⟩, by rw [List.length_cons, List.length_cons, (args_get (j := 0) t).2]⟩
  | a :: as, v :: vs, j + 1, ⟨h, t⟩ => ⟨fun _ q => by
      obtain ⟨w, e1, e2⟩ := (args_get (j := j) t).1 _ (by simpa using q)
      exact ⟨w, by simpa using e1, e2⟩, by rw [List.length_cons, List.length_cons, (args_get (j := 0) t).2]⟩
  | [], _ :: _, _, h => h.elim
  | _ :: _, [], _, h => h.elim
theorem mk_get : ∀ {as : List Ar} {args : En} {j : Nat}, mkArgs e as = some args → args.length = as.length ∧ ∀ s, args[j]? = some s → (∃ d, as[j]? = some (.v d) ∧ s = .val d) ∨ ∃ i c s', as[j]? = some (.s i) ∧ e[i]? = some s' ∧ s'.cont = some c ∧ s = .io c
  | [], _, _, h => by cases h; exact ⟨rfl, fun _ q => by simp at q⟩
  | .v d :: r, args, j, h => by
    unfold mkArgs at h
    cases q : mkArgs e r with
    | none => rw [q] at h; cases h
    | some l =>
      rw [q] at h; cases h
      refine ⟨by rw [List.length_cons, List.length_cons, (mk_get (j := 0) q).1], ?_⟩
      cases j with
      | zero => intro s hs; simp at hs; exact .inl ⟨d, rfl, hs.symm⟩
      | succ j => intro s hs; simpa using (mk_get (j := j) q).2 s (by simpa using hs)
  | .s i :: r, args, j, h => by
    unfold mkArgs at h
    obtain ⟨c, h1, h⟩ := bind_some' h
    obtain ⟨s', h2, h3⟩ := bind_some' h1
    cases q : mkArgs e r with
    | none => rw [q] at h; cases h
    | some l =>
      rw [q] at h; cases h
      refine ⟨by rw [List.length_cons, List.length_cons, (mk_get (j := 0) q).1], ?_⟩
      cases j with
      | zero => intro s hs; simp at hs; exact .inr ⟨i, c, s', rfl, h2, h3, hs.symm⟩
      | succ j => intro s hs; simpa using (mk_get (j := j) q).2 s (by simpa using hs)
theorem mk_kinds {as : List Ar} {args : En} (h : mkArgs e as = some args) : ∀ s ∈ args, (∃ d, s = .val d) ∨ ∃ d, s = .io d := fun s hs => by
  obtain ⟨j, hj⟩ := List.getElem?_of_mem hs
  rcases (mk_get (j := j) h).2 s hj with ⟨d, _, e⟩ | ⟨i, c, s', _, _, _, e⟩
  · exact .inl ⟨d, e⟩
  · exact .inr ⟨c, e⟩
theorem Rel.args {as : List Ar} {args : En} {vs : List V} (R : Rel K mg B F e σ H) (A : ArsOk K mg σ F as vs) (nd : (slotsOf as).Nodup) (m : mkArgs e as = some args) :
    Rel K mg (⟨kn T H, F, ioOf σ as⟩ : Bs T) F args (vs.map some) H := by
  have slot : ∀ {j : Nat} {s : Sl}, args[j]? = some s → s.hot = true → ∃ i c s' a, as[j]? = some (.s i) ∧ e[i]? = some s' ∧ s'.cont = some c ∧ s = .io c ∧ vs[j]? = some (.ref a) ∧ σ[i]? = some (some (.ref a)) ∧ F a = none ∧ Cont K mg F H a c := by
    intro j s hs ht
    rcases (mk_get (j := j) m).2 s hs with ⟨d, h1, h2⟩ | ⟨i, c, s', h1, h2, h3, h4⟩
    · subst h2; cases ht
    · obtain ⟨v, g1, g2⟩ := (args_get (j := j) A).1 _ h1
      obtain ⟨a, k1, k2, k3⟩ := R.cont h2 h3
      have g2 : σ[i]? = some (some v) := g2
      rw [k1] at g2; cases g2
      exact ⟨i, c, s', a, h1, h2, h3, h4, g1, k1, k2, k3⟩
  refine ⟨R.sub, fun _ _ h _ _ => (kn_sub h).1, fun a o h t => (kn_sub h).2 t, R.tabs, Le.refl F, fun _ _ h => .inl h, by rw [List.length_map, (mk_get (j := 0) m).1, (args_get (j := 0) A).2], fun j s hs => ?_, fun j a ha => ?_, fun j k a s t h1 h2 h3 h4 h5 h6 => ?_, R.noT⟩
  · rcases (mk_get (j := j) m).2 s hs with ⟨d, h1, h2⟩ | ⟨i, c, s', h1, h2, h3, h4⟩
    · subst h2
      obtain ⟨v, g1, g2⟩ := (args_get (j := j) A).1 _ h1
      exact ⟨v, by rw [List.getElem?_map, g1]; rfl, g2⟩
    · obtain ⟨i', c', s'', a, _, _, _, e4, e5, e6, e7, e8⟩ := slot hs (by rw [h4]; rfl)
      subst h4
      cases e4
      exact ⟨a, by rw [List.getElem?_map, e5]; rfl, e7, ioOf_of (by assumption) e6, e8⟩
  · obtain ⟨i, h1, h2⟩ := ioOf_some ha
    have hj : j < args.length := by rw [(mk_get (j := 0) m).1]; exact (List.getElem?_eq_some_iff.mp h1).1
    rcases (mk_get (j := j) m).2 _ (List.getElem?_eq_getElem hj) with ⟨d, g1, _⟩ | ⟨i', c, s', _, _, _, g4⟩
    · rw [h1] at g1; cases g1
    · exact ⟨c, by rw [List.getElem?_eq_getElem hj, g4]⟩
  · obtain ⟨i1, c1, s1, a1, e1, e2, e3, _, e5, e6, _, _⟩ := slot h1 h3
    obtain ⟨i2, c2, s2, a2, f1, f2, f3, _, f5, f6, _, _⟩ := slot h2 h4
    rw [List.getElem?_map, e5] at h5
    rw [List.getElem?_map, f5] at h6
    cases h5; cases h6
    have hi : i1 = i2 := R.apart i1 i2 _ s1 s2 e2 f2 (hot_cont e3).2 (hot_cont f3).2 e6 f6
    subst hi
    exact slots_inj nd e1 f1
/-- what the slots are behind a call -/
theorem wb_len : ∀ {as : List Ar} {r e : En}, (wb as r e).length = e.length
  | .s i :: as, .io d :: r, e => by
    unfold wb
    rw [wb_len]
    split
    · rw [List.length_set]
    · rfl
  | .v _ :: as, _ :: r, e => by unfold wb; exact wb_len
  | [], _, e => by unfold wb; rfl
  | .v _ :: _, [], e => by unfold wb; rfl
  | .s _ :: _, [], e => by unfold wb; rfl
  | .s _ :: _, .un :: _, e => by unfold wb; rfl
  | .s _ :: _, .val _ :: _, e => by unfold wb; rfl
  | .s _ :: _, .own _ :: _, e => by unfold wb; rfl
theorem wb_other : ∀ {as : List Ar} {r e : En} {i : Nat}, i ∉ slotsOf as → (wb as r e)[i]? = e[i]?
  | .s j :: as, .io d :: r, e, i, h => by
    unfold wb
    have hij : j ≠ i := fun q => h (q ▸ List.mem_cons_self)
    rw [wb_other (fun q => h (List.mem_cons_of_mem _ q))]
    split
    · rw [List.getElem?_set_ne hij]
    · rfl
  | .v _ :: as, _ :: r, e, i, h => by unfold wb; exact wb_other h
  | [], _, e, _, _ => by unfold wb; rfl
  | .v _ :: _, [], e, _, _ => by unfold wb; rfl
  | .s _ :: _, [], e, _, _ => by unfold wb; rfl
  | .s _ :: _, .un :: _, e, _, _ => by unfold wb; rfl
  | .s _ :: _, .val _ :: _, e, _, _ => by unfold wb; rfl
  | .s _ :: _, .own _ :: _, e, _, _ => by unfold wb; rfl
theorem wb_at : ∀ {as : List Ar} {r e : En} {i j : Nat} {d : D} {s : Sl}, (slotsOf as).Nodup → (∀ (k l : Nat), as[k]? = some (.s l) → ∃ c, r[k]? = some (.io c)) → as.length = r.length → as[j]? = some (.s i) → r[j]? = some (.io d) → e[i]? = some s → (wb as r e)[i]? = some (s.put d)
  | [], _, _, _, _, _, _, _, _, _, h, _, _ => by simp at h
  | _ :: _, [], _, _, _, _, _, _, _, hl, _, _, _ => by simp at hl
  | .v _ :: as, _ :: r, e, i, 0, d, s, _, _, _, h, _, _ => by simp at h
  | .v _ :: as, x :: r, e, i, j + 1, d, s, nd, hk, hl, h1, h2, h3 => by
    unfold wb
    exact wb_at (j := j) nd (fun k l q => by simpa using hk (k + 1) l (by simpa using q)) (by simpa using hl) (by simpa using h1) (by simpa using h2) h3
  | .s l :: as, x :: r, e, i, j, d, s, nd, hk, hl, h1, h2, h3 => by
    obtain ⟨c, hc⟩ := hk 0 l rfl
    simp at hc
    subst hc
    unfold wb
    cases j with
    | zero =>
      simp at h1 h2
      subst h1 h2
      rw [wb_other (List.nodup_cons.mp nd).1]
      simp only [h3]
      rw [List.getElem?_set_self (List.getElem?_eq_some_iff.mp h3).1]
    | succ j =>
      have hm : i ∈ slotsOf as := slots_mem (j := j) (by simpa using h1)
      have hli : l ≠ i := fun q => (List.nodup_cons.mp nd).1 (q ▸ hm)
      refine wb_at (j := j) (List.nodup_cons.mp nd).2 (fun k l q => by simpa using hk (k + 1) l (by simpa using q)) (by simpa using hl) (by simpa using h1) (by simpa using h2) ?_
      split
      · rw [List.getElem?_set_ne hli]; exact h3
      · exact h3
theorem slots_ix {i : Nat} : ∀ {as : List Ar}, i ∈ slotsOf as → ∃ j : Nat, as[j]? = some (Ar.s i)
  | [], h => by cases h
  | .v _ :: as, h => let ⟨j, hj⟩ := slots_ix (as := as) h; ⟨j + 1, by simpa using hj⟩
  | .s k :: as, h => by
    rcases List.mem_cons.mp h with q | q
    · exact ⟨0, by rw [q]; rfl⟩
    · obtain ⟨j, hj⟩ := slots_ix (as := as) q; exact ⟨j + 1, by simpa using hj⟩
theorem Rel.back {as : List Ar} {args r : En} {vs : List V} (R : Rel K mg B F e σ H) (A : ArsOk K mg σ F as vs) (nd : (slotsOf as).Nodup) (m : mkArgs e as = some args) (le : Le F F')
    (C : Rel K mg (⟨kn T H, F, ioOf σ as⟩ : Bs T) F' r (vs.map some) H') : Rel K mg B F' (wb as r e) σ H' := by
  have hlen : as.length = r.length := by
    have := C.len
    rw [List.length_map, ← (args_get (j := 0) A).2] at this
    exact this.symm
  have hio : ∀ (k l : Nat), as[k]? = some (.s l) → ∃ c, r[k]? = some (.io c) := fun k l hk => by
    have hj : k < args.length := by rw [(mk_get (j := 0) m).1]; exact (List.getElem?_eq_some_iff.mp hk).1
    rcases (mk_get (j := k) m).2 _ (List.getElem?_eq_getElem hj) with ⟨d, g1, _⟩ | ⟨i', c, s', g1, g2, g3, _⟩
    · rw [hk] at g1; cases g1
    · rw [hk] at g1; cases g1
      obtain ⟨a, k1, _, _⟩ := R.cont g2 g3
      exact C.ios k a (ioOf_of hk k1)
  -- every slot, behind the call
  have slot : ∀ {i : Nat} {t : Sl}, (wb as r e)[i]? = some t → (e[i]? = some t ∧ (t.hot = true → ∀ a, σ[i]? = some (some (.ref a)) → H' a = H a ∧ F' a = none)) ∨
      ∃ s d, e[i]? = some s ∧ s.hot = true ∧ t = s.put d ∧ ∀ a, σ[i]? = some (some (.ref a)) → F' a = none ∧ Cont K mg F' H' a d := by
    intro i t ht
    by_cases hm : i ∈ slotsOf as
    · right
      obtain ⟨j, hj⟩ : ∃ j : Nat, as[j]? = some (Ar.s i) := by
        have : ∀ {as : List Ar}, i ∈ slotsOf as → ∃ j : Nat, as[j]? = some (Ar.s i) := by
          intro as
          induction as with
          | nil => intro h; cases h
          | cons a as ih =>
            cases a with
            | v d => intro h; obtain ⟨j, hj⟩ := ih h; exact ⟨j + 1, by simpa using hj⟩
            | s k =>
              intro h
              rcases List.mem_cons.mp h with q | q
              · exact ⟨0, by rw [q]; rfl⟩
              · obtain ⟨j, hj⟩ := ih q; exact ⟨j + 1, by simpa using hj⟩
        exact this hm
      obtain ⟨d, hd⟩ := hio j i hj
      have hj' : j < args.length := by rw [(mk_get (j := 0) m).1]; exact (List.getElem?_eq_some_iff.mp hj).1
      rcases (mk_get (j := j) m).2 _ (List.getElem?_eq_getElem hj') with ⟨_, g1, _⟩ | ⟨i', c, s', g1, g2, g3, _⟩
      · rw [hj] at g1; cases g1
      · rw [hj] at g1; cases g1
        rw [wb_at nd hio hlen hj hd g2] at ht
        refine ⟨s', d, g2, (hot_cont g3).2, (Option.some.inj ht).symm, fun a ha => ?_⟩
        obtain ⟨a', q1, q2, q3, q4⟩ := C.at' j _ hd
        have : ioOf σ as j = some a := ioOf_of hj ha
        have q3 : ioOf σ as j = some a' := q3
        rw [this] at q3; cases q3
        exact ⟨q2, q4⟩
    · left
      rw [wb_other hm] at ht
      refine ⟨ht, fun hh a ha => ?_⟩
      obtain ⟨a', o, e1, e2, e3, e4, e5, e6⟩ := R.hot ht hh
      rw [ha] at e1; cases e1
      refine ⟨(C.old a o (kn_of e3 e5) e5 fun j q => ?_).trans e3.symm, ?_⟩
      · obtain ⟨i', h1, h2⟩ := ioOf_some q
        have hj' : j < args.length := by rw [(mk_get (j := 0) m).1]; exact (List.getElem?_eq_some_iff.mp h1).1
        rcases (mk_get (j := j) m).2 _ (List.getElem?_eq_getElem hj') with ⟨_, g1, _⟩ | ⟨i'', c, s', g1, g2, g3, _⟩
        · rw [h1] at g1; cases g1
        · rw [h1] at g1; cases g1
          have := R.apart i i' a t s' ht g2 hh (hot_cont g3).2 ha h2
          subst this
          exact hm (slots_mem h1)
      · cases q : F' a with
        | none => rfl
        | some u =>
          rcases C.fr a u q with z | z
          · have z : F a = some u := z
            rw [e2] at z; cases z
          · have z : kn T H a = none := z
            rw [kn_of e3 e5] at z; cases z
  refine ⟨C.sub, fun a o h0 ht hn => ?_, R.oldT, C.tabs, R.low.trans le, fun a u hu => ?_, by rw [wb_len]; exact R.len, fun i t ht => ?_, fun i a ha => ?_, fun i j a s t h1 h2 h3 h4 h5 h6 => ?_, C.noT⟩
  · refine C.old a o (kn_of (R.old a o h0 ht hn) ht) ht fun j q => ?_
    obtain ⟨i, h1, h2⟩ := ioOf_some q
    have hj' : j < args.length := by rw [(mk_get (j := 0) m).1]; exact (List.getElem?_eq_some_iff.mp h1).1
    rcases (mk_get (j := j) m).2 _ (List.getElem?_eq_getElem hj') with ⟨_, g1, _⟩ | ⟨i'', c, s', g1, g2, g3, _⟩
    · rw [h1] at g1; cases g1
    · rw [h1] at g1; cases g1
      obtain ⟨a', o', e1, _, _, e4, _⟩ := R.hot g2 (hot_cont g3).2
      rw [h2] at e1; cases e1
      rcases e4 with z | z
      · rw [z] at h0; cases h0
      · exact hn i z
  · rcases C.fr a u hu with z | z
    · exact R.fr a u z
    · exact .inr (R.none0k z)
  · rcases slot ht with ⟨h1, h2⟩ | ⟨s, d, h1, h2, h3, h4⟩
    · have z := R.at' i t h1
      cases t with
      | un => trivial
      | val d => obtain ⟨x, e1, e2⟩ := z; exact ⟨x, e1, e2.mono le⟩
      | own d =>
        obtain ⟨a, e1, e2, e3, c⟩ := z
        obtain ⟨q1, q2⟩ := h2 rfl a e1
        exact ⟨a, e1, q2, e3, (c.mono le).heap q1⟩
      | io d =>
        obtain ⟨a, e1, e2, e3, c⟩ := z
        obtain ⟨q1, q2⟩ := h2 rfl a e1
        exact ⟨a, e1, q2, e3, (c.mono le).heap q1⟩
    · have z := R.at' i s h1
      cases s with
      | un => cases h2
      | val d => cases h2
      | own d' =>
        obtain ⟨a, e1, e2, e3, c⟩ := z
        obtain ⟨q1, q2⟩ := h4 a e1
        subst h3
        exact ⟨a, e1, q1, e3, q2⟩
      | io d' =>
        obtain ⟨a, e1, e2, e3, c⟩ := z
        obtain ⟨q1, q2⟩ := h4 a e1
        subst h3
        exact ⟨a, e1, q1, e3, q2⟩
  · obtain ⟨d, hd⟩ := R.ios i a ha
    have hi : i < (wb as r e).length := by rw [wb_len]; exact (List.getElem?_eq_some_iff.mp hd).1
    rcases slot (List.getElem?_eq_getElem hi) with ⟨h1, _⟩ | ⟨s, d', h1, _, h3, _⟩
    · rw [hd] at h1; exact ⟨d, by rw [List.getElem?_eq_getElem hi, ← Option.some.inj h1]⟩
    · rw [hd] at h1; cases h1
      exact ⟨d', by rw [List.getElem?_eq_getElem hi, h3]; rfl⟩
  · have pick : ∀ {i : Nat} {t : Sl}, (wb as r e)[i]? = some t → t.hot = true → ∃ s, e[i]? = some s ∧ s.hot = true := fun {i t} q1 q2 => by
      rcases slot q1 with ⟨g1, _⟩ | ⟨s, _, g1, g2, _, _⟩
      · exact ⟨t, g1, q2⟩
      · exact ⟨s, g1, g2⟩
    obtain ⟨s1, g1, g2⟩ := pick h1 h3
    obtain ⟨s2, g3, g4⟩ := pick h2 h4
    exact R.apart i j a s1 s2 g1 g3 g2 g4 h5 h6
end
section
variable {X : Cx} {T : Tb} {W : WX} {k j n : Nat} {fa : Addr} {fd : FuncData} {ps : List Str} {f : En → Res D} {x : Str} {p pos : Pos} {e : Expr} {es : List Expr} {g : En → Res (List Ar)}
theorem call_post {T : Tb} {B : Bs T} {F H : Hp} {en : En} {σ : St} {as : List Ar} {vs : List V} {args : En} {Q : VK} (hn : vs.length = n) (R : Rel X.K X.mg B F en σ H) (A : ArsOk X.K X.mg σ F as vs) (nd : (slotsOf as).Nodup) (m : mkArgs en as = some args)
    (h : Post X.K X.mg W B σ (Den X.K X.mg) F (match f args with | .ok d r => .ok d (wb as r en) | .exc x r => .exc x (wb as r en) | .bad => .bad) Q) : spV X.K X.mg T n f vs H Q (WE W σ) := by
  refine ⟨hn, (⟨kn T H, F, ioOf σ as⟩ : Bs T), F, args, rfl, rfl, R.args A nd m, mk_kinds m, ?_⟩
  cases q : f args with
  | ok d r =>
    rw [q] at h
    exact fun F' v H' le R' hd => h F' v H' le (R.back A nd m le R') hd
  | exc x r =>
    rw [q] at h
    exact fun F' c dd H' le R' hd => h F' c dd H' le (R.back A nd m le R') hd
  | bad => rw [q] at h; exact h
theorem ecall (c : Cc X W k) (Fn : FnG X.prog X.w X.K X.mg X.base (L2.CX X.prog X.w) j fa fd ps (spV X.K X.mg T n f)) (hj : j ≤ k) (hg : Gl X x) (hm : X.mg x = some (.ref fa)) (hk : PySem.W.keepIn X.K (.ref fa) = true) (hb : Binds X.K fd ps [])
    (ha : PA X (e :: es) (tA X.K X.mg T W g)) (hn : (e :: es).length = n := by rfl) (hdb : (x == ("__debug__" : Str)) = false := by decide) (he : starEach (e :: es) X.env = (false, eval e X.env) :: starEach es X.env := by rfl) (hpl : (backTo pos (starEach es X.env)).any (·.1) = false := by rfl)
    (hl : ∀ as en en', g en = .ok as en' → as.length = n) :
    PE X (.Call (.Name x p) (e :: es) [] pos) (tE X.K X.mg T W (callG f g)) := conv (pe_callG (E := WE W) Fn c.gd (c.room.mono hj) hg hm hk hb (passAt c.tk) ha hdb he hpl) fun σ H Q ⟨B, F, e, R, h⟩ =>
  ⟨B, F, e, R, by
    unfold callG at h
    cases hq : g e with
    | bad => rw [hq] at h; exact h
    | exc x e' => rw [hq] at h; exact h
    | ok as e' =>
      rw [hq] at h
      intro F1 vs H1 l1 R1 A1
      have h1 := Post.le h l1
      simp only [Res.bind] at h1
      split at h1
      · rename_i nd
        split at h1
        · rename_i args hm
          exact call_post (by rw [← (args_get (j := 0) A1).2]; exact hl as e e' hq) R1 A1 nd hm h1
        · exact h1.elim
      · exact h1.elim⟩
theorem nilA_len {as : List Ar} {en en' : En} (h : nilA en = .ok as en') : as.length = 0 := by cases h; rfl
theorem consA_len {m : Nat} {ge : En → Res D} {g : En → Res (List Ar)} (hl : ∀ as en en', g en = .ok as en' → as.length = m) : ∀ as en en', consA ge g en = .ok as en' → as.length = m + 1 := fun as en en' h => by
  unfold consA at h
  cases q : ge en with
  | ok d e1 =>
    rw [q] at h
    simp only [Res.bind] at h
    cases q2 : g e1 with
    | ok ds e2 => rw [q2] at h; simp only [Res.bind] at h; cases h; rw [List.length_cons, hl _ _ _ q2]
    | exc => rw [q2] at h; cases h
    | bad => rw [q2] at h; cases h
  | exc => rw [q] at h; cases h
  | bad => rw [q] at h; cases h
theorem slotA_len {m i : Nat} {g : En → Res (List Ar)} (hl : ∀ as en en', g en = .ok as en' → as.length = m) : ∀ as en en', slotA i g en = .ok as en' → as.length = m + 1 := fun as en en' h => by
  unfold slotA at h
  split at h
  · split at h
    · cases q2 : g en with
      | ok ds e2 => rw [q2] at h; simp only [Res.bind] at h; cases h; rw [List.length_cons, hl _ _ _ q2]
      | exc => rw [q2] at h; cases h
      | bad => rw [q2] at h; cases h
    · cases h
  · cases h
end
end L2.PV

set_option Elab.async false
set_option linter.all false
set_option maxRecDepth 100000
set_option autoImplicit false
namespace L2.PV
open PySem PySem.Spec PyProof.Rows

/-! ### statements -/
inductive Out where | nx (e : En) | ret (d : D) (e : En) | brk (e : En) | cnt (e : En) | exc (x : Ex) (e : En) | bad
section
variable (K : PySem.W.Frag) (mg : MG) (W : WX) {T : Tb} (B : Bs T)
def PostS (F : Hp) (r : Out) (N : Ends) : Prop := match r with
  | .nx e => ∀ F' σ' H', Le F F' → Rel K mg B F' e σ' H' → N.nx σ' H'
  | .brk e => ∀ F' σ' H', Le F F' → Rel K mg B F' e σ' H' → N.bk σ' H'
  | .cnt e => ∀ F' σ' H', Le F F' → Rel K mg B F' e σ' H' → N.ct σ' H'
  | .ret d e => ∀ F' v σ' H', Le F F' → Rel K mg B F' e σ' H' → Den K mg F' d v → N.rt v H'
  | .exc x e => ∀ F' c dd σ' H', Le F F' → Rel K mg B F' e σ' H' → DenX K mg F' x c dd → W c dd σ' H'
  | .bad => False
end
section
variable (K : PySem.W.Frag) (mg : MG) (T : Tb) (W : WX)
def tS (g : En → Out) : TS := fun N σ H => ∃ (B : Bs T) (F : Hp) (e : En), Rel K mg B F e σ H ∧ PostS K mg W B F (g e) N
end
/-- a result, then a statement -/
def Res.thn {α : Type} (r : Res α) (k : α → En → Out) : Out := match r with
  | .ok a e => k a e
  | .exc x e => .exc x e
  | .bad => .bad
section
variable {K : PySem.W.Frag} {mg : MG} {W : WX} {T : Tb} {B : Bs T} {σ : St} {F G H : Hp} {N : Ends} {e : En} {r : Out} {α β : Type}
theorem PostS.le (h : PostS K mg W B F r N) (s : Le F G) : PostS K mg W B G r N := by
  cases r with
  | nx e => exact fun F' σ' H' l => h F' σ' H' (s.trans l)
  | brk e => exact fun F' σ' H' l => h F' σ' H' (s.trans l)
  | cnt e => exact fun F' σ' H' l => h F' σ' H' (s.trans l)
  | ret d e => exact fun F' v σ' H' l => h F' v σ' H' (s.trans l)
  | exc x e => exact fun F' c dd σ' H' l => h F' c dd σ' H' (s.trans l)
  | bad => exact h
theorem PostS.step {R : Hp → α → β → Prop} {r : Res α} {k : α → En → Out} {KK : β → Hp → Prop} (h : PostS K mg W B F (r.thn k) N)
    (f : ∀ F1 e1 a b H1, Le F F1 → Rel K mg B F1 e1 σ H1 → R F1 a b → PostS K mg W B F1 (k a e1) N → KK b H1) : Post K mg W B σ R F r KK := by
  cases r with
  | ok a e => exact fun F' b H' l R1 hR => f F' e a b H' l R1 hR (PostS.le h l)
  | exc x e => exact fun F' c dd H' l R1 hx => h F' c dd σ H' l R1 hx
  | bad => exact h
theorem PostS.stepN {r : Res D} {k : D → En → Out} {KK : VK} (h : PostS K mg W B F (r.thn k) N)
    (f : ∀ F1 e1 c a H1, Le F F1 → Rel K mg B F1 e1 σ H1 → F1 a = none → B.H0 a = none → Cont K mg F1 H1 a c → (∀ (j : Nat) (s : Sl), e1[j]? = some s → s.hot = true → σ[j]? ≠ some (some (.ref a))) → PostS K mg W B F1 (k c e1) N → KK (.ref a) H1) : PostN K mg W B σ F r KK := by
  cases r with
  | ok c e => exact fun F' a H' l R1 n n0 ck hn => f F' e c a H' l R1 n n0 ck hn (PostS.le h l)
  | exc x e => exact fun F' c dd H' l R1 hx => h F' c dd σ H' l R1 hx
  | bad => exact h
end
def seqS (g h : En → Out) : En → Out := fun e => match g e with
  | .nx e1 => h e1
  | r => r
def nopS : En → Out := .nx
def exprS (g : En → Res D) : En → Out := fun e => (g e).thn fun _ e1 => .nx e1
def retS (g : En → Res D) : En → Out := fun e => (g e).thn fun d e1 => .ret d e1
def retNS : En → Out := fun e => .ret .non e
def brkS : En → Out := .brk
def cntS : En → Out := .cnt
def badS : En → Out := fun _ => .bad
def ifS (c : En → Res Bool) (g h : En → Out) : En → Out := fun e => (c e).thn fun b e1 => if b = true then g e1 else h e1
/-- name i is given a value -/
def putV (i : Nat) (d : D) (e : En) : Option En := match e[i]? with
  | some s => if s.isIo then none else some (e.set i (.val d))
  | none => none
def putO (i : Nat) (d : D) (e : En) : Option En := match e[i]? with
  | some s => if s.isIo then none else some (e.set i (.own d))
  | none => none
def nxO (o : Option En) : Out := match o with
  | some e => .nx e
  | none => .bad
def setS (i : Nat) (g : En → Res D) : En → Out := fun e => (g e).thn fun d e1 => nxO (putV i d e1)
def ownS (i : Nat) (g : En → Res D) : En → Out := fun e => (g e).thn fun d e1 => nxO (putO i d e1)
/-- from here on the object of slot i is a plain value -/
def frzS (i : Nat) (g : En → Out) : En → Out := fun e => match e[i]? with
  | some (.own d) => g (e.set i (.val d))
  | _ => g e
section
variable {X : Cx} {T : Tb} {W : WX} {st : Stmt} {rest : List Stmt} {g h : En → Out} {ge : En → Res D} {e : Expr} {pos : Pos} {c : En → Res Bool}
theorem convSs {st : List Stmt} {t t' : TS} (h : PSs X st t) (k : ∀ D σ H, t' D σ H → t D σ H) : PSs X st t' := ⟨fun pins s σ H D I q => h.run pins s σ H D I (k D σ H q)⟩
theorem snil : PSs X [] (tS X.K X.mg T W nopS) := convSs pss_nil fun N σ H ⟨B, F, e, R, q⟩ => q F σ H (Le.refl F) R
theorem scons (h1 : PS X st (tS X.K X.mg T W g)) (h2 : PSs X rest (tS X.K X.mg T W h)) : PSs X (st :: rest) (tS X.K X.mg T W (seqS g h)) := convSs (pss_cons h1 h2) fun N σ H ⟨B, F, e, R, q⟩ =>
  ⟨B, F, e, R, by
    unfold seqS at q
    cases hg : g e with
    | nx e1 => rw [hg] at q; exact fun F' σ' H' l R' => ⟨B, F', e1, R', q.le l⟩
    | ret d e1 => rw [hg] at q; exact q
    | brk e1 => rw [hg] at q; exact q
    | cnt e1 => rw [hg] at q; exact q
    | exc x e1 => rw [hg] at q; exact q
    | bad => rw [hg] at q; exact q⟩
theorem sone (h1 : PS X st (tS X.K X.mg T W g)) : PSs X [st] (tS X.K X.mg T W g) := pss_one h1
theorem sfrz {st : List Stmt} (i : Nat) (h1 : PSs X st (tS X.K X.mg T W g)) : PSs X st (tS X.K X.mg T W (frzS i g)) := convSs h1 fun N σ H ⟨B, F, e, R, q⟩ => by
  unfold frzS at q
  split at q
  · rename_i d hd
    obtain ⟨F', l, R'⟩ := R.freeze hd
    exact ⟨B, F', _, R', q.le l⟩
  · exact ⟨B, F, e, R, q⟩
theorem sfrz1 (i : Nat) (h1 : PS X st (tS X.K X.mg T W g)) : PS X st (tS X.K X.mg T W (frzS i g)) := convS h1 fun N σ H ⟨B, F, e, R, q⟩ => by
  unfold frzS at q
  split at q
  · rename_i d hd
    obtain ⟨F', l, R'⟩ := R.freeze hd
    exact ⟨B, F', _, R', q.le l⟩
  · exact ⟨B, F, e, R, q⟩
theorem spass : PS X (.Pass pos) (tS X.K X.mg T W nopS) := convS ps_pass fun N σ H ⟨B, F, e, R, q⟩ => q F σ H (Le.refl F) R
theorem sbrk : PS X (.Break pos) (tS X.K X.mg T W brkS) := convS ps_break fun N σ H ⟨B, F, e, R, q⟩ => q F σ H (Le.refl F) R
theorem scnt : PS X (.Continue pos) (tS X.K X.mg T W cntS) := convS ps_continue fun N σ H ⟨B, F, e, R, q⟩ => q F σ H (Le.refl F) R
theorem sdoc {x j pos pos'} : PS X (.Expr (.Constant (.str x) j pos) pos') (tS X.K X.mg T W nopS) := convS ps_doc fun N σ H ⟨B, F, e, R, q⟩ => q F σ H (Le.refl F) R
theorem snever : PS X st (tS X.K X.mg T W badS) := convS ps_never fun N σ H ⟨B, F, e, R, q⟩ => q.elim
theorem ssnever {st : List Stmt} : PSs X st (tS X.K X.mg T W badS) := convSs pss_never fun N σ H ⟨B, F, e, R, q⟩ => q.elim
theorem sexpr (he : PE X e (tE X.K X.mg T W ge)) (hs : swapsWith e none pos.line X.env = pure false := by rfl) : PS X (.Expr e pos) (tS X.K X.mg T W (exprS ge)) := convS (ps_expr he hs) fun N σ H ⟨B, F, e, R, q⟩ =>
  ⟨B, F, e, R, PostS.step (R := Den X.K X.mg) q fun F1 e1 a b H1 l R1 D1 q1 => q1 F1 σ H1 (Le.refl F1) R1⟩
theorem sret (he : PE X e (tE X.K X.mg T W ge)) : PS X (.Return (some e) pos) (tS X.K X.mg T W (retS ge)) := convS (ps_ret he) fun N σ H ⟨B, F, e, R, q⟩ =>
  ⟨B, F, e, R, PostS.step (R := Den X.K X.mg) q fun F1 e1 a b H1 l R1 D1 q1 => q1 F1 b σ H1 (Le.refl F1) R1 D1⟩
theorem sretN : PS X (.Return none pos) (tS X.K X.mg T W retNS) := convS ps_retN fun N σ H ⟨B, F, e, R, q⟩ => q F .non σ H (Le.refl F) R .non
theorem sif {ce : Expr} {a b : List Stmt} (hc : PT X ce (tB X.K X.mg T W c)) (ha : PSs X a (tS X.K X.mg T W g)) (hb : PSs X b (tS X.K X.mg T W h)) : PS X (.If ce a b pos) (tS X.K X.mg T W (ifS c g h)) := convS (ps_if hc ha hb) fun N σ H ⟨B, F, e, R, q⟩ =>
  ⟨B, F, e, R, PostS.step (R := fun _ a b => b = a) q fun F1 e1 a b H1 l R1 D1 q1 => by
    subst D1
    cases b with
    | true => exact ⟨B, F1, e1, R1, q1⟩
    | false => exact ⟨B, F1, e1, R1, q1⟩⟩
theorem putV_ok {K : PySem.W.Frag} {mg : MG} {T : Tb} {B : Bs T} {F H : Hp} {en en' : En} {σ : St} {i : Nat} {d : D} {v : V} (R : Rel K mg B F en σ H) (hd : Den K mg F d v) (h : putV i d en = some en') : Rel K mg B F en' (σ.set i (some v)) H := by
  unfold putV at h
  cases hs : en[i]? with
  | none => rw [hs] at h; cases h
  | some s =>
    rw [hs] at h
    cases ht : s.isIo with
    | true => simp only [ht] at h; cases h
    | false => simp only [ht] at h; cases h; exact R.setVal hs ht hd
theorem putO_ok {K : PySem.W.Frag} {mg : MG} {T : Tb} {B : Bs T} {F H : Hp} {en en' : En} {σ : St} {i : Nat} {d : D} {a : Addr} (R : Rel K mg B F en σ H) (n : F a = none) (n0 : B.H0 a = none) (ck : Cont K mg F H a d)
    (hn : ∀ (j : Nat) (s : Sl), en[j]? = some s → s.hot = true → σ[j]? ≠ some (some (.ref a))) (h : putO i d en = some en') : Rel K mg B F en' (σ.set i (some (.ref a))) H := by
  unfold putO at h
  cases hs : en[i]? with
  | none => rw [hs] at h; cases h
  | some s =>
    rw [hs] at h
    cases ht : s.isIo with
    | true => simp only [ht] at h; cases h
    | false => simp only [ht] at h; cases h; exact R.setOwn hs ht n n0 ck fun j s' h1 h2 h3 => absurd h3 (hn j s' h1 h2)
theorem sset {x : Str} {pos' : Pos} (i : Nat) (he : PE X e (tE X.K X.mg T W ge)) (hN : X.N.Nodup) (hi : X.N[i]? = some x := by rfl) (hx : Loc X.env.scope x := by first | exact .inl rfl | exact .inr rfl) (hs : swapsWith e (some (.Name x pos')) pos.line X.env = pure false := by rfl)
    (hf : X.fn x = true ∨ X.env.scope.names.lookup x = some .local := by first | exact .inl rfl | exact .inr rfl) : PS X (.Assign [.Name x pos'] e pos) (tS X.K X.mg T W (setS i ge)) := convS (ps_set hN hi hx he hs hf) fun N σ H ⟨B, F, e, R, q⟩ =>
  ⟨B, F, e, R, PostS.step (R := Den X.K X.mg) q fun F1 e1 a b H1 l R1 D1 q1 => by
    cases hp : putV i a e1 with
    | none => rw [hp] at q1; exact q1.elim
    | some e2 => rw [hp] at q1; exact q1 F1 _ H1 (Le.refl F1) (putV_ok R1 D1 hp)⟩
theorem sown {x : Str} {pos' : Pos} (i : Nat) (he : PE X e (tN X.K X.mg T W ge)) (hN : X.N.Nodup) (hi : X.N[i]? = some x := by rfl) (hx : Loc X.env.scope x := by first | exact .inl rfl | exact .inr rfl) (hs : swapsWith e (some (.Name x pos')) pos.line X.env = pure false := by rfl)
    (hf : X.fn x = true ∨ X.env.scope.names.lookup x = some .local := by first | exact .inl rfl | exact .inr rfl) : PS X (.Assign [.Name x pos'] e pos) (tS X.K X.mg T W (ownS i ge)) := convS (ps_set hN hi hx he hs hf) fun N σ H ⟨B, F, e, R, q⟩ =>
  ⟨B, F, e, R, PostS.stepN q fun F1 e1 c a H1 l R1 n n0 ck hn q1 => by
    cases hp : putO i c e1 with
    | none => rw [hp] at q1; exact q1.elim
    | some e2 => rw [hp] at q1; exact q1 F1 _ H1 (Le.refl F1) (putO_ok R1 n n0 ck hn hp)⟩
end

/-! ### what a for walks -/
/-- the walk J yields the values ds -/
structure Walk (K : PySem.W.Frag) (mg : MG) (F : Hp) (J : It) (ds : List D) : Prop where
  go : ∀ (F' H : Hp) (i : Nat) (d : D), Le F F' → Sub F' H → ds[i]? = some d → J.go i H ∧ ∀ x H', J.yld i H x H' → ∃ F'', Le F' F'' ∧ Den K mg F'' d x ∧ ∀ (T : Tb) (B : Bs T) (e : En) (σ : St), Rel K mg B F' e σ H → Rel K mg B F'' e σ H'
  stop : ∀ (F' H : Hp) (i : Nat), Le F F' → Sub F' H → ds.length ≤ i → J.stop i H
def tI (K : PySem.W.Frag) (mg : MG) (T : Tb) (W : WX) (g : En → Res (List D)) : TI := fun σ H R => ∃ (B : Bs T) (F : Hp) (e : En), Rel K mg B F e σ H ∧ Post K mg W B σ (fun F' ds J => Walk K mg F' J ds) F (g e) R
/-- what a target does: the slots that it stores, the meaning -/
structure Tg where
  slots : List Nat
  go : D → En → Option En
def tG (K : PySem.W.Frag) (mg : MG) (T : Tb) (t : Tg) : TG := fun v σ H Q => ∃ (B : Bs T) (F : Hp) (e : En) (d : D), Rel K mg B F e σ H ∧ Den K mg F d v ∧ ∃ e', t.go d e = some e' ∧ ∀ σ', (∀ j, j ∉ t.slots → σ'[j]? = σ[j]?) → σ'.length = σ.length → Rel K mg B F e' σ' H → Q σ' H
def tgN (i : Nat) : Tg := ⟨[i], putV i⟩
def goTs : List Tg → List D → En → Option En
  | [], [], e => some e
  | t :: ts, d :: ds, e => (t.go d e).bind fun e1 => goTs ts ds e1
  | _, _, _ => none
def tgT (ts : List Tg) : Tg := ⟨(ts.map (·.slots)).flatten, fun d e => match d with | .tup ds => goTs ts ds e | _ => none⟩
def tGs (K : PySem.W.Frag) (mg : MG) (T : Tb) (ts : List Tg) : TGs := fun vs σ H Q => ∃ (B : Bs T) (F : Hp) (e : En) (ds : List D), Rel K mg B F e σ H ∧ DenL K mg F ds vs ∧ ∃ e', goTs ts ds e = some e' ∧ ∀ σ', (∀ j, j ∉ (ts.map (·.slots)).flatten → σ'[j]? = σ[j]?) → σ'.length = σ.length → Rel K mg B F e' σ' H → Q σ' H
section
variable {X : Cx} {T : Tb} {W : WX} {pos : Pos} {tg : Expr} {t : Tg} {ts : List Tg} {es : List Expr}
theorem convG {e : Expr} {t t' : TG} (h : PG X e t) (k : ∀ v σ H Q, t' v σ H Q → t v σ H Q) : PG X e t' := ⟨fun pins s σ H v u Q I r q => h.run pins s σ H v u Q I r (k v σ H Q q)⟩
theorem convGs {e : List Expr} {t t' : TGs} (h : PGs X e t) (k : ∀ v σ H Q, t' v σ H Q → t v σ H Q) : PGs X e t' := ⟨fun pins s σ H v u Q I r q => h.run pins s σ H v u Q I r (k v σ H Q q)⟩
theorem gname {x : Str} (i : Nat) (hN : X.N.Nodup) (hi : X.N[i]? = some x := by rfl) (hx : Loc X.env.scope x := by first | exact .inl rfl | exact .inr rfl) (hf : X.fn x = true ∨ X.env.scope.names.lookup x = some .local := by first | exact .inl rfl | exact .inr rfl) :
    PG X (.Name x pos) (tG X.K X.mg T (tgN i)) := convG (pg_name hN hi hx hf) fun v σ H Q ⟨B, F, e, d, R, hd, e', h1, h2⟩ =>
  h2 _ (fun j hj => List.getElem?_set_ne fun q => hj (by rw [← q]; exact List.mem_cons_self)) (List.length_set ..) (putV_ok R hd h1)
theorem gnil : PGs X [] (tGs X.K X.mg T []) := convGs pgs_nil fun v σ H Q ⟨B, F, e, ds, R, hd, e', h1, h2⟩ => by
  cases hd with
  | nil => cases h1; exact ⟨rfl, h2 σ (fun _ _ => rfl) rfl R⟩
  | cons h t => cases h1
theorem gcons (h1 : PG X tg (tG X.K X.mg T t)) (h2 : PGs X es (tGs X.K X.mg T ts)) (hs : (assignEach (tg :: es) X.env).map (·.2) = assign tg X.env :: (assignEach es X.env).map (·.2) := by rfl) : PGs X (tg :: es) (tGs X.K X.mg T (t :: ts)) :=
  convGs (pgs_cons h1 h2 hs) fun v σ H Q ⟨B, F, e, ds, R, hd, e', h1, h2⟩ => by
    cases hd with
    | nil => cases h1
    | cons h t =>
      obtain ⟨e1, h3, h4⟩ := bind_some' h1
      refine ⟨_, _, rfl, B, F, e, _, R, h, e1, h3, fun σ1 k1 l1 R1 => ⟨B, F, e1, _, R1, t, e', h4, fun σ2 k2 l2 R2 => h2 σ2 (fun j hj => ?_) (l2.trans l1) R2⟩⟩
      rw [List.map_cons, List.flatten_cons, List.mem_append, not_or] at hj
      rw [k2 j hj.2, k1 j hj.1]
theorem gtup {k : Nat} {n : Nat} (hc : X.calm = true) (h : PGs X es (tGs X.K X.mg T ts)) (hl : ts.length = n := by rfl) (hn : (assignEach es X.env).length = n := by rfl) (hst : (assignEach es X.env).findIdx? (·.1) = none := by rfl) : PG X (.Tuple es k pos) (tG X.K X.mg T (tgT ts)) :=
  convG (pg_tup hc h hn hst) fun v σ H Q ⟨B, F, e, d, R, hd, e', h1, h2⟩ => by
    cases hd with
    | tup h l =>
      rename_i ds vs a _
      have h1 : goTs ts ds e = some e' := h1
      have hlen : ∀ {ts : List Tg} {ds : List D} {e : En}, goTs ts ds e = some e' → ds.length = ts.length := by
        intro ts
        induction ts with
        | nil => intro ds e h; cases ds with | nil => rfl | cons _ _ => cases h
        | cons t ts ih => intro ds e h; cases ds with | nil => cases h | cons d ds => obtain ⟨e1, _, h4⟩ := bind_some' h; rw [List.length_cons, List.length_cons, ih h4]
      exact ⟨a, vs, rfl, h.seq R.sub, by rw [← l.length, hlen h1, hl], B, F, e, ds, R, l, e', h1, h2⟩
    | _ => cases h1
end
def forL (t : Tg) (body : En → Out) : List D → En → Out
  | [], e => .nx e
  | d :: ds, e => match t.go d e with
    | none => .bad
    | some e1 => match body e1 with
      | .nx e2 => forL t body ds e2
      | .cnt e2 => forL t body ds e2
      | .brk e2 => .nx e2
      | r => r
def forS (gi : En → Res (List D)) (t : Tg) (body : En → Out) : En → Out := fun e => (gi e).thn fun ds e1 => forL t body ds e1
section
variable {X : Cx} {T : Tb} {W : WX} {pos : Pos} {tg iter : Expr} {body : List Stmt} {gi : En → Res (List D)} {t : Tg} {gb : En → Out} {k : Nat}
theorem sfor (c : Cc X W k) (hi : PI X tg iter (tI X.K X.mg T W gi)) (hg : PG X tg (tG X.K X.mg T t)) (hb : PSs X body (tS X.K X.mg T W gb)) (hs : ∀ x, foldedSetIterable iter X.env x = pure x := by intro _; rfl) :
    PS X (.For tg iter body [] pos) (tS X.K X.mg T W (forS gi t gb)) := convS (ps_for c.po c.calm hi hg hb hs) fun N σ H ⟨B, F, e, R, q⟩ =>
  ⟨B, F, e, R, PostS.step (R := fun F' ds J => Walk X.K X.mg F' J ds) q fun F1 e1 ds J H1 l1 R1 Wk q1 =>
    ⟨fun i m σ H => m = ds.length - i ∧ i ≤ ds.length ∧ ∃ F2 e2, Le F1 F2 ∧ Rel X.K X.mg B F2 e2 σ H ∧ PostS X.K X.mg W B F2 (forL t gb (ds.drop i) e2) N,
      ⟨ds.length, by simp, Nat.zero_le _, F1, e1, Le.refl F1, R1, by simpa using q1⟩, by
      rintro i m σ2 H2 ⟨rfl, hi, F2, e2, l2, R2, q2⟩
      by_cases hlt : i < ds.length
      · right
        obtain ⟨d, hd⟩ : ∃ d, ds[i]? = some d := ⟨ds[i], List.getElem?_eq_getElem hlt⟩
        obtain ⟨g1, g2⟩ := Wk.go F2 H2 i d l2 R2.sub hd
        refine ⟨g1, fun σ H => ∃ F3 e3, Le F1 F3 ∧ Rel X.K X.mg B F3 e3 σ H ∧ PostS X.K X.mg W B F3 (forL t gb (ds.drop (i + 1)) e3) N, fun σ' H' ⟨F3, e3, l3, R3, q3⟩ => ⟨ds.length - (i + 1), by omega, rfl, hlt, F3, e3, l3, R3, q3⟩, fun x H' hy => ?_⟩
        obtain ⟨F3, l3, hD, hR⟩ := g2 x H' hy
        have hdrop : ds.drop i = d :: ds.drop (i + 1) := by
          rw [List.drop_eq_getElem_cons hlt]
          rw [List.getElem?_eq_getElem hlt] at hd
          rw [Option.some.inj hd]
        rw [hdrop] at q2
        unfold forL at q2
        cases hgo : t.go d e2 with
        | none => simp only [hgo] at q2; exact q2.elim
        | some e3 =>
          simp only [hgo] at q2
          refine ⟨B, F3, e2, d, hR T B e2 σ2 R2, hD, e3, hgo, fun σ4 _ _ R4 => ⟨B, F3, e3, R4, ?_⟩⟩
          cases hbd : gb e3 with
          | nx e4 =>
            simp only [hbd] at q2
            exact fun F5 σ5 H5 l5 R5 => ⟨F5, e4, l2.trans (l3.trans l5), R5, PostS.le q2 (l3.trans l5)⟩
          | cnt e4 =>
            simp only [hbd] at q2
            exact fun F5 σ5 H5 l5 R5 => ⟨F5, e4, l2.trans (l3.trans l5), R5, PostS.le q2 (l3.trans l5)⟩
          | brk e4 =>
            simp only [hbd] at q2
            exact fun F5 σ5 H5 l5 R5 => q2 F5 σ5 H5 (l3.trans l5) R5
          | ret d' e4 =>
            simp only [hbd] at q2
            exact fun F5 v5 σ5 H5 l5 R5 => q2 F5 v5 σ5 H5 (l3.trans l5) R5
          | exc x' e4 =>
            simp only [hbd] at q2
            exact fun F5 c5 dd σ5 H5 l5 R5 => q2 F5 c5 dd σ5 H5 (l3.trans l5) R5
          | bad => simp only [hbd] at q2; exact q2
      · left
        have e : i = ds.length := by omega
        subst e
        refine ⟨Wk.stop F2 H2 _ l2 R2.sub (Nat.le_refl _), ?_⟩
        rw [List.drop_length] at q2
        exact q2 F2 σ2 H2 (Le.refl F2) R2⟩⟩
end
/-! ### while, with a bound on its turns -/
def whileL (c : En → Res Bool) (body : En → Out) : Nat → En → Out
  | 0, _ => .bad
  | n + 1, e => (c e).thn fun b e1 => if b = true then (match body e1 with
      | .nx e2 => whileL c body n e2
      | .cnt e2 => whileL c body n e2
      | .brk e2 => .nx e2
      | r => r) else .nx e1
def whileS (n : Nat) (c : En → Res Bool) (body : En → Out) : En → Out := whileL c body n
section
variable {X : Cx} {T : Tb} {W : WX} {pos : Pos} {ce : Expr} {body : List Stmt} {gc : En → Res Bool} {gb : En → Out} {k : Nat}
theorem swhile (n : Nat) (c : Cc X W k) (hc : PT X ce (tB X.K X.mg T W gc)) (hb : PSs X body (tS X.K X.mg T W gb)) : PS X (.While ce body [] pos) (tS X.K X.mg T W (whileS n gc gb)) := convS (ps_while c.po hc hb) fun N σ H ⟨B, F, e, R, q⟩ =>
  ⟨fun m σ H => ∃ F1 e1, Rel X.K X.mg B F1 e1 σ H ∧ PostS X.K X.mg W B F1 (whileL gc gb m e1) N, ⟨n, F, e, R, q⟩, by
    rintro m σ1 H1 ⟨F1, e1, R1, q1⟩
    cases m with
    | zero => exact q1.elim
    | succ m =>
      refine ⟨B, F1, e1, R1, PostS.step (R := fun _ a b => b = a) q1 fun F2 e2 a b H2 l2 R2 D2 q2 => ?_⟩
      subst D2
      cases b with
      | false =>
        rw [if_neg Bool.false_ne_true] at q2 ⊢
        exact q2 F2 σ1 H2 (Le.refl F2) R2
      | true =>
        rw [if_pos rfl] at q2 ⊢
        refine ⟨fun σ H => ∃ F3 e3, Rel X.K X.mg B F3 e3 σ H ∧ PostS X.K X.mg W B F3 (whileL gc gb m e3) N, fun σ' H' w => ⟨m, Nat.lt_succ_self m, w⟩, B, F2, e2, R2, ?_⟩
        cases hbd : gb e2 with
        | nx e4 => rw [hbd] at q2; exact fun F5 σ5 H5 l5 R5 => ⟨F5, e4, R5, PostS.le q2 l5⟩
        | cnt e4 => rw [hbd] at q2; exact fun F5 σ5 H5 l5 R5 => ⟨F5, e4, R5, PostS.le q2 l5⟩
        | brk e4 => rw [hbd] at q2; exact q2
        | ret d' e4 => rw [hbd] at q2; exact q2
        | exc x' e4 => rw [hbd] at q2; exact q2
        | bad => rw [hbd] at q2; exact q2⟩
end

/-! ### a def -/
def outArgs : En → En → En
  | .io d :: as, s :: e => (match s with | .io d' => .io d' | _ => .io d) :: outArgs as e
  | a :: as, _ :: e => a :: outArgs as e
  | as, [] => as
  | [], _ => []
def defV (N : Nat) (body : En → Out) : En → Res D := fun args => match body (args ++ List.replicate (N - args.length) .un) with
  | .ret d e => .ok d (outArgs args e)
  | .nx e => .ok .non (outArgs args e)
  | .exc x e => .exc x (outArgs args e)
  | _ => .bad
theorem outArgs_len : ∀ {as e : En}, (outArgs as e).length = as.length
  | [], [] => rfl
  | [], _ :: _ => rfl
  | a :: as, [] => by cases a <;> rfl
  | .io d :: as, s :: e => by unfold outArgs; rw [List.length_cons, List.length_cons, outArgs_len]
  | .un :: as, s :: e => by unfold outArgs; rw [List.length_cons, List.length_cons, outArgs_len]
  | .val d :: as, s :: e => by unfold outArgs; rw [List.length_cons, List.length_cons, outArgs_len]
  | .own d :: as, s :: e => by unfold outArgs; rw [List.length_cons, List.length_cons, outArgs_len]
theorem outArgs_val : ∀ {as e : En} {i : Nat} {d : D}, as[i]? = some (.val d) → (outArgs as e)[i]? = some (.val d)
  | [], _, _, _, h => by simp at h
  | a :: as, [], i, d, h => by cases a <;> exact h
  | .io _ :: as, s :: e, 0, d, h => by simp at h
  | .un :: as, s :: e, 0, d, h => by simp at h
  | .own _ :: as, s :: e, 0, d, h => by simp at h
  | .val _ :: as, s :: e, 0, d, h => by unfold outArgs; exact h
  | .io _ :: as, s :: e, i + 1, d, h => by unfold outArgs; simpa using outArgs_val (e := e) (by simpa using h)
  | .un :: as, s :: e, i + 1, d, h => by unfold outArgs; simpa using outArgs_val (e := e) (by simpa using h)
  | .own _ :: as, s :: e, i + 1, d, h => by unfold outArgs; simpa using outArgs_val (e := e) (by simpa using h)
  | .val _ :: as, s :: e, i + 1, d, h => by unfold outArgs; simpa using outArgs_val (e := e) (by simpa using h)
theorem outArgs_io : ∀ {as e : En} {i : Nat} {d d' : D}, as[i]? = some (.io d) → e[i]? = some (.io d') → (outArgs as e)[i]? = some (.io d')
  | [], _, _, _, _, h, _ => by simp at h
  | a :: as, [], i, d, _, h, h' => by simp at h'
  | .io _ :: as, s :: e, 0, d, d', h, h' => by simp at h'; subst h'; rfl
  | .un :: as, s :: e, 0, d, _, h, _ => by simp at h
  | .own _ :: as, s :: e, 0, d, _, h, _ => by simp at h
  | .val _ :: as, s :: e, 0, d, _, h, _ => by simp at h
  | .io _ :: as, s :: e, i + 1, d, _, h, h' => by unfold outArgs; simpa using outArgs_io (as := as) (e := e) (by simpa using h) (by simpa using h')
  | .un :: as, s :: e, i + 1, d, _, h, h' => by unfold outArgs; simpa using outArgs_io (as := as) (e := e) (by simpa using h) (by simpa using h')
  | .own _ :: as, s :: e, i + 1, d, _, h, h' => by unfold outArgs; simpa using outArgs_io (as := as) (e := e) (by simpa using h) (by simpa using h')
  | .val _ :: as, s :: e, i + 1, d, _, h, h' => by unfold outArgs; simpa using outArgs_io (as := as) (e := e) (by simpa using h) (by simpa using h')
section
variable {K : PySem.W.Frag} {mg : MG} {T : Tb} {B : Bs T} {F F' H H' : Hp} {args e : En} {σ σ' : St} {vs : List V} {n : Nat}
theorem Rel.begin (R : Rel K mg B F args (vs.map some) H) : Rel K mg B F (args ++ List.replicate n .un) (vs.map some ++ List.replicate n none) H := by
  have hl : args.length = (vs.map some).length := R.len
  have low : ∀ {i : Nat} {s : Sl}, (args ++ List.replicate n .un)[i]? = some s → (i < args.length ∧ args[i]? = some s ∧ (vs.map some ++ List.replicate n none)[i]? = (vs.map some)[i]?) ∨ s = .un := by
    intro i s h
    by_cases hi : i < args.length
    · rw [List.getElem?_append_left hi] at h
      exact .inl ⟨hi, h, by rw [List.getElem?_append_left (by omega)]⟩
    · rw [List.getElem?_append_right (by omega), List.getElem?_replicate] at h
      split at h
      · cases h; exact .inr rfl
      · cases h
  refine ⟨R.sub, R.old, R.oldT, R.tabs, R.low, R.fr, by rw [List.length_append, List.length_append, hl, List.length_replicate, List.length_replicate], fun i s h => ?_, fun i a h => ?_, fun i j a s t h1 h2 h3 h4 h5 h6 => ?_, R.noT⟩
  · rcases low h with ⟨_, h1, h2⟩ | h1
    · rw [h2]; exact R.at' i s h1
    · subst h1; trivial
  · obtain ⟨d, hd⟩ := R.ios i a h
    exact ⟨d, by rw [List.getElem?_append_left (List.getElem?_eq_some_iff.mp hd).1]; exact hd⟩
  · rcases low h1 with ⟨_, g1, g2⟩ | g1
    · rcases low h2 with ⟨_, k1, k2⟩ | k1
      · rw [g2] at h5; rw [k2] at h6
        exact R.apart i j a s t g1 k1 h3 h4 h5 h6
      · subst k1; cases h4
    · subst g1; cases h3
theorem Rel.finish (R : Rel K mg B F args (vs.map some) H) (kind : ∀ s ∈ args, (∃ d, s = .val d) ∨ ∃ d, s = .io d) (le : Le F F') (R' : Rel K mg B F' e σ' H') : Rel K mg B F' (outArgs args e) (vs.map some) H' := by
  have slot : ∀ {i : Nat} {s : Sl}, (outArgs args e)[i]? = some s → (∃ d, args[i]? = some (.val d) ∧ s = .val d) ∨ ∃ d d', args[i]? = some (.io d) ∧ e[i]? = some (.io d') ∧ s = .io d' := by
    intro i s h
    have hi : i < args.length := by rw [← outArgs_len (e := e)]; exact (List.getElem?_eq_some_iff.mp h).1
    obtain ⟨a, ha⟩ : ∃ a, args[i]? = some a := ⟨_, List.getElem?_eq_getElem hi⟩
    rcases kind a (List.mem_of_getElem? ha) with ⟨d, rfl⟩ | ⟨d, rfl⟩
    · rw [outArgs_val ha] at h; cases h
      exact .inl ⟨d, ha, rfl⟩
    · obtain ⟨b, _, _, e3, _⟩ := R.at' i _ ha
      obtain ⟨d', hd'⟩ := R'.ios i b e3
      rw [outArgs_io ha hd'] at h; cases h
      exact .inr ⟨d, d', ha, hd', rfl⟩
  refine ⟨R'.sub, R'.old, R'.oldT, R'.tabs, R'.low, R'.fr, by rw [outArgs_len]; exact R.len, fun i s h => ?_, fun i a h => ?_, fun i j a s t h1 h2 h3 h4 h5 h6 => ?_, R'.noT⟩
  · rcases slot h with ⟨d, h1, rfl⟩ | ⟨d, d', h1, h2, rfl⟩
    · obtain ⟨x, e1, e2⟩ := R.at' i _ h1
      exact ⟨x, e1, e2.mono le⟩
    · obtain ⟨b, g1, _, g3, _⟩ := R.at' i _ h1
      obtain ⟨b', _, k2, k3, k4⟩ := R'.at' i _ h2
      rw [g3] at k3; cases k3
      exact ⟨b, g1, k2, g3, k4⟩
  · obtain ⟨d, hd⟩ := R.ios i a h
    obtain ⟨d', hd'⟩ := R'.ios i a h
    exact ⟨d', outArgs_io hd hd'⟩
  · have pick : ∀ {i : Nat} {s : Sl}, (outArgs args e)[i]? = some s → s.hot = true → ∃ s', args[i]? = some s' ∧ s'.hot = true := fun {i s} q1 q2 => by
      rcases slot q1 with ⟨d, g1, rfl⟩ | ⟨d, d', g1, _, rfl⟩
      · cases q2
      · exact ⟨_, g1, rfl⟩
    obtain ⟨s', g1, g2⟩ := pick h1 h3
    obtain ⟨t', g3, g4⟩ := pick h2 h4
    exact R.apart i j a s' t' g1 g3 g2 g4 h5 h6
end
section
variable {P : Program} {w : World} {K : PySem.W.Frag} {mg : MG} {T : Tb} {base : Heap}
abbrev dX (P : Program) (w : World) (K : PySem.W.Frag) (mg : MG) (base : Heap) (N : List Str) (qual : Str) (st : Stmt) (f : Addr) (cdv : Value) (A : Around) (outer : List Env) (s : Shared) (H : Hp) (E : XK) : Cx :=
  cxOf (L2.CX P w) P w K mg base N qual (defScope st) f cdv A outer s H E
abbrev dW (E : XK) : WX := fun c dd _ H => E c dd H
theorem okV_core {qual : Str} {st : Stmt} {f : Addr} {N ps : List Str} {n : Nat} {body : En → Out} {cdv : Value} {A : Around} {outer : List Env} {s : Shared} {H : Hp} {vs : List V} {Q : VK} {E : XK}
    (hb : PSs (dX P w K mg base N qual st f cdv A outer s H E) (defBody st) (tS K mg T (dW E) body)) (h : spV K mg T n (defV N.length body) vs H Q E) :
    ∃ t, PSs (cxOf (L2.CX P w) P w K mg base N qual (defScope st) f cdv A outer s H E) (defBody st) t ∧ t { nx := fun _ H' => Q .non H', rt := Q } (start N vs) H := by
  refine ⟨_, hb, ?_⟩
  obtain ⟨hv, B, F, args, h0, hF, R, kind, h⟩ := h
  have hl : args.length = vs.length := by rw [R.len, List.length_map]
  have R0 := R.begin (n := N.length - args.length)
  rw [hl] at R0
  refine ⟨B, F, _, R0, ?_⟩
  unfold defV at h
  rw [hl] at h
  cases hbd : body (args ++ List.replicate (N.length - vs.length) .un) with
  | nx e => rw [hbd] at h; exact fun F' σ' H' l R' => h F' .non H' l (R.finish kind l R') .non
  | ret d e => rw [hbd] at h; exact fun F' v σ' H' l R' hd => h F' v H' l (R.finish kind l R') hd
  | exc x e => rw [hbd] at h; exact fun F' c dd σ' H' l R' hd => h F' c dd H' l (R.finish kind l R') hd
  | brk e => rw [hbd] at h; exact h.elim
  | cnt e => rw [hbd] at h; exact h.elim
  | bad => rw [hbd] at h; exact h
theorem okV {x qual : Str} {st : Stmt} {f : Addr} {fd : FuncData} {N ps : List Str} {k n : Nat} {body : En → Out} (Fn : Fun K x qual st f fd) (S : FnScope N ps (defScope st)) (hn : ps.length = n)
    (hb : ∀ (cdv : Value) (A : Around) (outer : List Env) (s : Shared) (H : Hp) (E : XK), Cc (dX P w K mg base N qual st f cdv A outer s H E) (dW E) k →
      PSs (dX P w K mg base N qual st f cdv A outer s H E) (defBody st) (tS K mg T (dW E) body)) : FnG P w K mg base (L2.CX P w) (k + 1) f fd ps (spV K mg T n (defV N.length body)) := by
  obtain ⟨oc, od, kV, doc, pm, an, cdv, ct, osl, rfl, lk, hcd⟩ := Fn.ex
  refine fnG_of lk hcd S (fun vs H Q E h => h.1.trans hn.symm) fun A outer s H vs Q E g hr h => ?_
  exact okV_core (ps := ps) (hb cdv A outer s H E ⟨rfl, takes_of rfl rfl rfl rfl, passes_of rfl, hr, S.nd, g⟩) h
/-- a def whose code object is known -/
structure Fc (K : PySem.W.Frag) (mg : MG) (x : Str) (st : Stmt) (c : Addr) : Prop where
  ex : ∃ (fa : Addr) (oc : Value) (od an : Option Addr) (kV doc pm ct : Value) (osl : Array (Option Value)), mg x = some (.ref fa) ∧
    K.lookup fa = some ⟨oc, od, .func (PySem.W.fnOf x x (defArgs st) (defBody st) (defScope st) .none kV doc pm an (.ref c) ct), osl⟩ ∧ PySem.W.codeIn K (.ref c) x = true ∧ PySem.W.keepIn K (.ref fa) = true
end
end L2.PV

set_option Elab.async false
set_option linter.all false
set_option maxRecDepth 100000
set_option autoImplicit false
namespace L2.PV
open PySem PySem.Spec PyProof.Rows

section
variable {X : Cx} {tg : Expr} {pins : List (Addr × Obj)} {σ : St} {H : Hp} {s : Shared} {R : It → Hp → Prop}
theorem piv_list {a : Addr} {xs : List V} (I : Inv X pins σ H s) (hq : SqL X.K H a xs) (q : R (Itl X.K a) H) : wpAny (model X.prog X.w) X.A (pyIter (.ref a)) (PIE X pins σ tg R) X.xe s := by
  obtain ⟨its, rv, p, hz⟩ := I.list hq
  refine wpAny_pyIter_list p.isList ?_
  refine ⟨s.heap.objs.size, [s.heap.objs.size], _, _, H, rfl, I.kept (t' := s.toks) fun b o e => Heap.get?_push_of_some _ e, turn_list a _, ⟨_, Heap.get?_push_size _ rfl, rfl, rfl⟩, fun b hb => ?_, q⟩
  have e : b = s.heap.objs.size := by simpa using hb
  subst e
  exact I.fpOk (Nat.le_refl _) (I.hok.fresh (Nat.le_refl _))
theorem piv_tup {a : Addr} {xs : List V} (I : Inv X pins σ H s) (hq : SqT X.K H a xs) (q : R (Itt X.K a) H) : wpAny (model X.prog X.w) X.A (pyIter (.ref a)) (PIE X pins σ tg R) X.xe s := by
  obtain ⟨its, rv, p, hz⟩ := I.tuple hq
  refine wpAny_pyIter_tuple (show s.heap.IsTuple a its.toArray from p) ?_
  refine ⟨s.heap.objs.size, [s.heap.objs.size], _, _, H, rfl, I.kept (t' := s.toks) fun b o e => Heap.get?_push_of_some _ e, turn_tuple a _, ⟨_, Heap.get?_push_size _ rfl, rfl, rfl⟩, fun b hb => ?_, q⟩
  have e : b = s.heap.objs.size := by simpa using hb
  subst e
  exact I.fpOk (Nat.le_refl _) (I.hok.fresh (Nat.le_refl _))
theorem piv_str {x : Str} {t : Tok} (I : Inv X pins σ H s) (q : R (Its x) H) : wpAny (model X.prog X.w) X.A (pyIter (.str x t)) (PIE X pins σ tg R) X.xe s := by
  cases ha : x.cps.all (· < 128)
  · exact wpAny_pyIter_wide ha (pi_one (tk := s.toks) I _ (turn_str _ x t "str_iterator" (.inr rfl)) ⟨_, Heap.get?_push_size _ rfl, rfl, rfl⟩ q)
  · exact wpAny_pyIter_ascii ha (pi_one (tk := s.toks) I _ (turn_str _ x t "str_ascii_iterator" (.inl rfl)) ⟨_, Heap.get?_push_size _ rfl, rfl, rfl⟩ q)
end
/-- one sign -/
def sgn (c : Nat) : Str := ⟨#[c]⟩
def iterD : D → Option (List D)
  | .lst ds => some ds
  | .tup ds => some ds
  | .str x => some (x.cps.toList.map fun c => .str (sgn c))
  | _ => none
section
variable {K : PySem.W.Frag} {mg : MG} {F H : Hp}
theorem walk_list {a : Addr} {ds : List D} {vs : List V} (h : AtL K F a vs) (l : DenL K mg F ds vs) : Walk K mg F (Itl K a) ds where
  go := fun F' H i d le s hd => by
    obtain ⟨v, h1, h2⟩ := l.get hd
    have hq := (h.mono le).seq s
    exact ⟨⟨vs, v, hq, h1⟩, fun x H' ⟨e, y⟩ => by subst e; have := y vs hq; rw [h1] at this; cases this; exact ⟨F', Le.refl F', h2.mono le, fun _ _ _ _ R => R⟩⟩
  stop := fun F' H i le s hi => ⟨vs, (h.mono le).seq s, by rw [← l.length]; exact hi⟩
theorem walk_tup {a : Addr} {ds : List D} {vs : List V} (h : AtT K F a vs) (l : DenL K mg F ds vs) : Walk K mg F (Itt K a) ds where
  go := fun F' H i d le s hd => by
    obtain ⟨v, h1, h2⟩ := l.get hd
    have hq := (h.mono le).seq s
    exact ⟨⟨vs, v, hq, h1⟩, fun x H' ⟨e, y⟩ => by subst e; have := y vs hq; rw [h1] at this; cases this; exact ⟨F', Le.refl F', h2.mono le, fun _ _ _ _ R => R⟩⟩
  stop := fun F' H i le s hi => ⟨vs, (h.mono le).seq s, by rw [← l.length]; exact hi⟩
theorem walk_str (x : Str) : Walk K mg F (Its x) (x.cps.toList.map fun c => .str (sgn c)) where
  go := fun F' H i d le s hd => by
    rw [List.getElem?_map] at hd
    cases q : x.cps.toList[i]? with
    | none => rw [q] at hd; cases hd
    | some c =>
      rw [q] at hd; cases hd
      have hc : x.cps[i]? = some c := by simpa using q
      exact ⟨(Array.getElem?_eq_some_iff.mp hc).1, fun y H' ⟨e, c', h1, h2⟩ => by subst e h2; rw [hc] at h1; cases h1; exact ⟨F', Le.refl F', .str _, fun _ _ _ _ R => R⟩⟩
  stop := fun F' H i le s hi => by
    have : x.cps.size ≤ i := by simpa using hi
    exact this
def intsD (lo : Int) (n : Nat) : List D := (List.range n).map fun i => .int (lo + (i : Nat))
theorem walk_range (lo : Int) (n : Nat) : Walk K mg F (Itr lo n) (intsD lo n) where
  go := fun F' H i d le s hd => by
    unfold intsD at hd
    rw [List.getElem?_map] at hd
    by_cases hi : i < n
    · rw [List.getElem?_range hi] at hd; cases hd
      exact ⟨hi, fun y H' ⟨e, h⟩ => by subst e h; exact ⟨F', Le.refl F', .int _, fun _ _ _ _ R => R⟩⟩
    · rw [List.getElem?_eq_none (by simpa using hi)] at hd; cases hd
  stop := fun F' H i le s hi => by
    have : n ≤ i := by simpa [intsD] using hi
    exact this
end
def iterG (g : En → Res D) : En → Res (List D) := fun e => (g e).bind fun d e1 => lift (iterD d) e1
def small62 (i : Int) : Bool := decide (-(2 ^ 62) ≤ i ∧ i < 2 ^ 62)
def rng1 : List Ar → Option (List D)
  | [.v (.int j)] => if small62 j = true then some (intsD 0 j.toNat) else none
  | _ => none
def rng2 : List Ar → Option (List D)
  | [.v (.int i), .v (.int j)] => if small62 i = true ∧ small62 j = true then some (intsD i (j - i).toNat) else none
  | _ => none
def rangeG (f : List Ar → Option (List D)) (k : En → Res (List Ar)) : En → Res (List D) := fun e => (k e).bind fun as e1 => lift (f as) e1
section
variable {X : Cx} {T : Tb} {W : WX} {tg l a b : Expr} {g : En → Res D} {k : En → Res (List Ar)} {p pos : Pos}
theorem iseq (hl : PE X l (tE X.K X.mg T W g)) : PI X tg l (tI X.K X.mg T W (iterG g)) := by
  refine ⟨fun pins s σ H R I ⟨B, F, e, Rl, h⟩ => ?_⟩
  refine thn (hl.run pins s σ H (fun x H1 => ∃ J : It, R J H1 ∧ ((∃ a xs, x = .ref a ∧ SqL X.K H1 a xs ∧ J = Itl X.K a) ∨ (∃ a xs, x = .ref a ∧ SqT X.K H1 a xs ∧ J = Itt X.K a) ∨ ∃ z, x = .str z ∧ J = Its z)) I ⟨B, F, e, Rl, ?_⟩) fun v s1 ⟨x, H1, I1, r1, J, q, h1⟩ => ?_
  · refine h.step fun F1 e1 d x H1 l1 R1 D1 h1 => ?_
    obtain ⟨ds, hd, h2⟩ := h1.lift
    cases D1 with
    | lst hq l => cases hd; exact ⟨_, h2.ret R1 (walk_list hq l), .inl ⟨_, _, rfl, hq.seq R1.sub, rfl⟩⟩
    | tup hq l => cases hd; exact ⟨_, h2.ret R1 (walk_tup hq l), .inr (.inl ⟨_, _, rfl, hq.seq R1.sub, rfl⟩)⟩
    | str z => cases hd; exact ⟨_, h2.ret R1 (walk_str z), .inr (.inr ⟨_, rfl, rfl⟩)⟩
    | _ => cases hd
  · rcases h1 with ⟨a, xs, e1, hq, rfl⟩ | ⟨a, xs, e1, hq, rfl⟩ | ⟨z, e1, rfl⟩
    · subst e1; cases r1; exact piv_list I1 hq q
    · subst e1; cases r1; exact piv_tup I1 hq q
    · subst e1; obtain ⟨t, rfl⟩ := r1; exact piv_str I1 q
theorem convI {t t' : TI} (h : PI X tg l t) (k : ∀ σ H R, t' σ H R → t σ H R) : PI X tg l t' := ⟨fun pins s σ H R I q => h.run pins s σ H R I (k σ H R q)⟩
theorem small62_of {i : Int} (h : small62 i = true) : -(2 ^ 62) ≤ i ∧ i < 2 ^ 62 := of_decide_eq_true h
theorem irange1 (hg : Gl X "range") (hm : X.mg "range" = none) (ha : PA X [a] (tA X.K X.mg T W k)) (hs : starEach [a] X.env = [(false, eval a X.env)] := by rfl) : PI X tg (.Call (.Name "range" p) [a] [] pos) (tI X.K X.mg T W (rangeG rng1 k)) := convI (pi_range1 hg hm ha hs) fun σ H R ⟨B, F, e, Rl, h⟩ =>
  ⟨B, F, e, Rl, h.step fun F1 e1 as vs H1 l1 R1 D1 h1 => by
    obtain ⟨ds, hd, h2⟩ := h1.lift
    unfold rng1 at hd
    split at hd
    · rename_i j
      split at hd
      · rename_i hj
        cases hd
        match vs, D1 with
        | [v], ⟨d1, _⟩ =>
          cases (show Den X.K X.mg F1 (.int j) v from d1)
          exact ⟨j, rfl, (small62_of hj).1, (small62_of hj).2, h2.ret R1 (walk_range 0 j.toNat)⟩
      · cases hd
    · cases hd⟩
theorem irange2 (hg : Gl X "range") (hm : X.mg "range" = none) (ha : PA X [a, b] (tA X.K X.mg T W k)) (hs : starEach [a, b] X.env = [(false, eval a X.env), (false, eval b X.env)] := by rfl) (hs2 : starEach [b] X.env = [(false, eval b X.env)] := by rfl) : PI X tg (.Call (.Name "range" p) [a, b] [] pos) (tI X.K X.mg T W (rangeG rng2 k)) := convI (pi_range2 hg hm ha hs hs2) fun σ H R ⟨B, F, e, Rl, h⟩ =>
  ⟨B, F, e, Rl, h.step fun F1 e1 as vs H1 l1 R1 D1 h1 => by
    obtain ⟨ds, hd, h2⟩ := h1.lift
    unfold rng2 at hd
    split at hd
    · rename_i i j
      split at hd
      · rename_i hj
        cases hd
        match vs, D1 with
        | [v, w], ⟨d1, d2, _⟩ =>
          cases (show Den X.K X.mg F1 (.int i) v from d1)
          cases (show Den X.K X.mg F1 (.int j) w from d2)
          exact ⟨i, j, rfl, ⟨(small62_of hj.1).1, (small62_of hj.1).2, (small62_of hj.2).1, (small62_of hj.2).2⟩, h2.ret R1 (walk_range i (j - i).toNat)⟩
      · cases hd
    · cases hd⟩
end

/-! ### an object that one is making stands among the old ones -/
def Bs.wth {T : Tb} (B : Bs T) (p : Addr) (o : HO) : Bs T := ⟨upd B.H0 p o, B.F0, B.io⟩
section
variable {K : PySem.W.Frag} {mg : MG} {T : Tb} {B : Bs T} {F H : Hp} {e : En} {σ : St} {p a : Addr} {o o' : HO} {i : Nat}
/-- nobody of the frame knows p -/
structure Bs.off (B : Bs T) (p : Addr) : Prop where
  h0 : B.H0 p = none
  f0 : B.F0 p = none
  io : ∀ i, B.io i ≠ some p
theorem Rel.offNew (R : Rel K mg B F e σ H) (h : H p = none) : B.off p where
  h0 := R.none0 h
  f0 := by
    cases q : B.F0 p with
    | none => rfl
    | some u => have := R.low _ _ q; rw [R.sub.free h] at this; cases this
  io := fun i hi => by
    obtain ⟨d, hd⟩ := R.ios i p hi
    obtain ⟨a, _, _, e3, c⟩ := R.at' i _ hd
    rw [hi] at e3; cases e3
    obtain ⟨o, e4⟩ := c.tracked
    rw [h] at e4; cases e4
theorem Rel.base (R : Rel K mg B F e σ H) (h : H p = none) (ht : isTbl o = false) : Rel K mg (B.wth p o) F e σ (upd H p o) := by
  have R1 := R.grow (o := o) h
  have off := R.offNew h
  refine ⟨R1.sub, fun a u q t n => ?_, fun a u q t => ?_, R1.tabs, R1.low, fun a u q => ?_, R1.len, fun i s hs => ?_, R1.ios, R1.apart, R1.noT⟩
  · have q : upd B.H0 p o a = some u := q
    by_cases ha : a = p
    · subst ha; rw [upd_same] at q ⊢; exact q
    · rw [upd_ne ha] at q; exact R1.old a u q t n
  · have q : upd B.H0 p o a = some u := q
    by_cases ha : a = p
    · subst ha; rw [upd_same] at q; cases q; rw [ht] at t; cases t
    · rw [upd_ne ha] at q; exact R1.oldT a u q t
  · rcases R.fr a u q with z | z
    · exact .inl z
    · right
      have ha : a ≠ p := ne_of_none q (R.sub.free h)
      show upd B.H0 p o a = none
      rw [upd_ne ha]; exact z
  · have z := R1.at' i s hs
    cases s with
    | un => trivial
    | val d => exact z
    | io d => exact z
    | own d =>
      obtain ⟨a, e1, e2, e3, c⟩ := R.at' i _ hs
      obtain ⟨o1, e4⟩ := c.tracked
      have ha : a ≠ p := ne_of_none e4 h
      refine ⟨a, e1, e2, ?_, c.heap (upd_ne ha)⟩
      show upd B.H0 p o a = none
      rw [upd_ne ha]; exact e3
theorem Rel.atBase (R : Rel K mg (B.wth p o) F e σ H) (off : B.off p) (ht : isTbl o = false) : H p = some o ∧ F p = none := by
  refine ⟨R.old p o (by show upd B.H0 p o p = some o; rw [upd_same]) ht off.io, ?_⟩
  cases q : F p with
  | none => rfl
  | some u =>
    rcases R.fr p u q with z | z
    · have z : B.F0 p = some u := z
      rw [off.f0] at z; cases z
    · have z : upd B.H0 p o p = none := z
      rw [upd_same] at z; cases z
theorem Rel.offHot (R : Rel K mg (B.wth p o) F e σ H) (off : B.off p) {s : Sl} (h : e[i]? = some s) (hs : s.hot = true) : σ[i]? ≠ some (some (.ref p)) := fun q => by
  have z := R.at' i s h
  cases s with
  | un => cases hs
  | val d => cases hs
  | own d =>
    obtain ⟨a, e1, e2, e3, c⟩ := z
    rw [q] at e1; cases e1
    have e3 : upd B.H0 p o p = none := e3
    rw [upd_same] at e3; cases e3
  | io d =>
    obtain ⟨a, e1, e2, e3, c⟩ := z
    rw [q] at e1; cases e1
    exact off.io i e3
theorem Rel.rebase (R : Rel K mg (B.wth p o) F e σ H) (off : B.off p) (ht : isTbl o = false) (hx : isExt o = false) (ht' : isTbl o' = false) : Rel K mg (B.wth p o') F e σ (upd H p o') := by
  obtain ⟨hH, hF⟩ := R.atBase off ht
  have hk : ∀ b u, H b = some u → isTbl u = true ∨ isExt u = true → upd H p o' b = some u := fun b u z t => by
    have : b ≠ p := by
      rintro rfl
      rw [hH] at z; cases z
      rcases t with t | t
      · rw [ht] at t; cases t
      · rw [hx] at t; cases t
    rw [upd_ne this]; exact z
  refine ⟨R.sub.upd hF, fun a u q t n => ?_, fun a u q t => ?_, tabs_keep R.tabs hk, R.low, fun a u q => ?_, R.len, fun i s hs => ?_, R.ios, R.apart, R.noT⟩
  · have q : upd B.H0 p o' a = some u := q
    by_cases ha : a = p
    · subst ha; rw [upd_same] at q ⊢; exact q
    · rw [upd_ne ha] at q ⊢
      exact R.old a u (by show upd B.H0 p o a = some u; rw [upd_ne ha]; exact q) t n
  · have q : upd B.H0 p o' a = some u := q
    by_cases ha : a = p
    · subst ha; rw [upd_same] at q; cases q; rw [ht'] at t; cases t
    · rw [upd_ne ha] at q
      exact R.oldT a u (by show upd B.H0 p o a = some u; rw [upd_ne ha]; exact q) t
  · rcases R.fr a u q with z | z
    · exact .inl z
    · right
      have z : upd B.H0 p o a = none := z
      have ha : a ≠ p := by rintro rfl; rw [upd_same] at z; cases z
      rw [upd_ne ha] at z
      show upd B.H0 p o' a = none
      rw [upd_ne ha]; exact z
  · have z := R.at' i s hs
    cases s with
    | un => trivial
    | val d => exact z
    | own d =>
      obtain ⟨a, e1, e2, e3, c⟩ := z
      have ha : a ≠ p := fun q => R.offHot off hs rfl (q ▸ e1)
      have e3 : upd B.H0 p o a = none := e3
      rw [upd_ne ha] at e3
      refine ⟨a, e1, e2, ?_, c.heap (upd_ne ha)⟩
      show upd B.H0 p o' a = none
      rw [upd_ne ha]; exact e3
    | io d =>
      obtain ⟨a, e1, e2, e3, c⟩ := z
      have ha : a ≠ p := fun q => R.offHot off hs rfl (q ▸ e1)
      exact ⟨a, e1, e2, e3, c.heap (upd_ne ha)⟩
theorem Rel.unbase (R : Rel K mg (B.wth p o) F e σ H) (off : B.off p) : Rel K mg B F e σ H := by
  refine ⟨R.sub, fun a u q t n => R.old a u ?_ t n, fun a u q t => R.oldT a u ?_ t, R.tabs, R.low, fun a u q => ?_, R.len, fun i s hs => ?_, R.ios, R.apart, R.noT⟩
  · show upd B.H0 p o a = some u
    rw [upd_ne (ne_of_none q off.h0)]; exact q
  · show upd B.H0 p o a = some u
    rw [upd_ne (ne_of_none q off.h0)]; exact q
  · rcases R.fr a u q with z | z
    · exact .inl z
    · right
      have z : upd B.H0 p o a = none := z
      have ha : a ≠ p := by rintro rfl; rw [upd_same] at z; cases z
      rw [upd_ne ha] at z; exact z
  · have z := R.at' i s hs
    cases s with
    | un => trivial
    | val d => exact z
    | io d => exact z
    | own d =>
      obtain ⟨a, e1, e2, e3, c⟩ := z
      have e3 : upd B.H0 p o a = none := e3
      have ha : a ≠ p := by rintro rfl; rw [upd_same] at e3; cases e3
      rw [upd_ne ha] at e3
      exact ⟨a, e1, e2, e3, c⟩
end
/-! ### the slots of a comprehension's own names -/
def wipeE (vs : List Nat) (e : En) : En := e.mapIdx fun i s => if i ∈ vs then .un else s
def backE (vs : List Nat) (e0 e : En) : En := e.mapIdx fun i s => if i ∈ vs then e0.getD i .un else s
def coolAt (vs : List Nat) (e : En) : Bool := vs.all fun i => match e[i]? with | some s => !s.hot | none => true
theorem wipe_get {σ : St} {i : Nat} : ∀ {vs : List Nat}, i ∉ vs → (wipe σ vs)[i]? = σ[i]?
  | [], _ => rfl
  | v :: vs, h => by
    unfold wipe
    rw [List.getElem?_set_ne fun q => h (by rw [q]; exact List.mem_cons_self)]
    exact wipe_get fun q => h (List.mem_cons_of_mem _ q)
section
variable {K : PySem.W.Frag} {mg : MG} {T : Tb} {B : Bs T} {F F' H H' : Hp} {e e' : En} {σ : St} {vs : List Nat}
theorem cool_of (h : coolAt vs e = true) {i : Nat} {s : Sl} (hi : i ∈ vs) (hs : e[i]? = some s) : s.hot = false := by
  have := List.all_eq_true.mp h i hi
  rw [hs] at this
  simpa using this
theorem wipeE_at {i : Nat} {s : Sl} (h : (wipeE vs e)[i]? = some s) : (i ∈ vs ∧ s = .un) ∨ (i ∉ vs ∧ e[i]? = some s) := by
  unfold wipeE at h
  rw [List.getElem?_mapIdx] at h
  cases q : e[i]? with
  | none => rw [q] at h; cases h
  | some t =>
    rw [q] at h
    by_cases hi : i ∈ vs
    · simp [hi] at h; exact .inl ⟨hi, h.symm⟩
    · simp [hi] at h; subst h; exact .inr ⟨hi, rfl⟩
theorem Rel.wipe (R : Rel K mg B F e σ H) (h : coolAt vs e = true) : Rel K mg B F (wipeE vs e) (L2.wipe σ vs) H := by
  refine ⟨R.sub, R.old, R.oldT, R.tabs, R.low, R.fr, by rw [wipe_length, wipeE, List.length_mapIdx]; exact R.len, fun i s hs => ?_, fun i a ha => ?_, fun i j a s t h1 h2 h3 h4 h5 h6 => ?_, R.noT⟩
  · rcases wipeE_at hs with ⟨_, rfl⟩ | ⟨hi, h1⟩
    · trivial
    · rw [wipe_get hi]; exact R.at' i s h1
  · obtain ⟨d, hd⟩ := R.ios i a ha
    have hi : i ∉ vs := fun q => by have := cool_of h q hd; cases this
    exact ⟨d, by unfold wipeE; rw [List.getElem?_mapIdx, hd]; simp [hi]⟩
  · rcases wipeE_at h1 with ⟨_, rfl⟩ | ⟨hi, g1⟩
    · cases h3
    · rcases wipeE_at h2 with ⟨_, rfl⟩ | ⟨hj, g2⟩
      · cases h4
      · rw [wipe_get hi] at h5; rw [wipe_get hj] at h6
        exact R.apart i j a s t g1 g2 h3 h4 h5 h6
theorem backE_at {i : Nat} {s : Sl} {e0 : En} (h : (backE vs e0 e)[i]? = some s) : (i ∈ vs ∧ s = e0.getD i .un) ∨ (i ∉ vs ∧ e[i]? = some s) := by
  unfold backE at h
  rw [List.getElem?_mapIdx] at h
  cases q : e[i]? with
  | none => rw [q] at h; cases h
  | some t =>
    rw [q] at h
    by_cases hi : i ∈ vs
    · simp [hi] at h; exact .inl ⟨hi, by rw [List.getD_eq_getElem?_getD]; exact h.symm⟩
    · simp [hi] at h; subst h; exact .inr ⟨hi, rfl⟩
/-- behind a comprehension: its own names stand for what they stood for -/
theorem Rel.unwipe {e0 : En} {H0 : Hp} (R0 : Rel K mg B F e0 σ H0) (hc : coolAt vs e0 = true) (le : Le F F') (R : Rel K mg B F' e (L2.wipe σ vs) H') : Rel K mg B F' (backE vs e0 e) σ H' := by
  have low : ∀ {i : Nat} {s : Sl}, i ∈ vs → s = e0.getD i .un → s.hot = false ∧ SlOk K mg B F' H' i σ[i]? s := by
    intro i s hi hs
    rw [List.getD_eq_getElem?_getD] at hs
    cases q : e0[i]? with
    | none => rw [q] at hs; subst hs; exact ⟨rfl, trivial⟩
    | some t =>
      rw [q] at hs
      have hs : s = t := hs
      subst hs
      have hh := cool_of hc hi q
      have z := R0.at' i s q
      cases s with
      | un => exact ⟨rfl, trivial⟩
      | val d => obtain ⟨x, e1, e2⟩ := z; exact ⟨rfl, x, e1, e2.mono le⟩
      | own d => cases hh
      | io d => cases hh
  refine ⟨R.sub, R.old, R.oldT, R.tabs, R.low, R.fr, by unfold backE; rw [List.length_mapIdx, R.len, wipe_length], fun i s hs => ?_, fun i a ha => ?_, fun i j a s t h1 h2 h3 h4 h5 h6 => ?_, R.noT⟩
  · rcases backE_at hs with ⟨hi, h1⟩ | ⟨hi, h1⟩
    · exact (low hi h1).2
    · have z := R.at' i s h1
      rw [wipe_get hi] at z; exact z
  · obtain ⟨d, hd⟩ := R.ios i a ha
    have hi : i ∉ vs := fun q => by
      obtain ⟨d0, hd0⟩ := R0.ios i a ha
      have := cool_of hc q hd0; cases this
    exact ⟨d, by unfold backE; rw [List.getElem?_mapIdx, hd]; simp [hi]⟩
  · rcases backE_at h1 with ⟨hi, g1⟩ | ⟨hi, g1⟩
    · rw [(low hi g1).1] at h3; cases h3
    · rcases backE_at h2 with ⟨hj, g2⟩ | ⟨hj, g2⟩
      · rw [(low hj g2).1] at h4; cases h4
      · exact R.apart i j a s t g1 g2 h3 h4 (by rw [wipe_get hi]; exact h5) (by rw [wipe_get hj]; exact h6)
end
theorem wipe_eq {σ σ' : St} {vs : List Nat} (h : ∀ j, j ∉ vs → σ'[j]? = σ[j]?) (hl : σ'.length = σ.length) : wipe σ' vs = wipe σ vs := by
  refine List.ext_getElem? fun i => ?_
  by_cases hi : i ∈ vs
  · have : ∀ (τ : St) {vs : List Nat}, i ∈ vs → (wipe τ vs)[i]? = if i < τ.length then some none else none := by
      intro τ vs
      induction vs with
      | nil => intro h; cases h
      | cons v vs ih =>
        intro h
        unfold wipe
        by_cases hv : v = i
        · subst hv
          by_cases hl : v < τ.length
          · rw [List.getElem?_set_self (by rw [wipe_length]; exact hl), if_pos hl]
          · rw [List.getElem?_eq_none (by rw [List.length_set, wipe_length]; omega), if_neg hl]
        · rw [List.getElem?_set_ne hv]
          rcases List.mem_cons.mp h with q | q
          · exact absurd q.symm hv
          · exact ih q
    rw [this σ' hi, this σ hi, hl]
  · rw [wipe_get hi, wipe_get hi, h i hi]
end L2.PV

set_option Elab.async false
set_option linter.all false
set_option maxRecDepth 100000
set_option autoImplicit false
namespace L2.PV
open PySem PySem.Spec PyProof.Rows

/-! ### comprehensions -/
abbrev W0 : WX := fun _ _ _ _ => False
def compL (t : Tg) (tt : En → Res Bool) (ge : En → Res D) (vs : List Nat) : List D → En → List D → Res (List D)
  | [], e, acc => .ok acc e
  | d :: ds, e, acc => match t.go d e with
    | none => .bad
    | some e1 => match tt e1 with
      | .ok b e2 => if b = true then match ge e2 with
          | .ok y e3 => if coolAt vs e3 = true ∧ acc.length < sizeLine then compL t tt ge vs ds (wipeE vs e3) (acc ++ [y]) else .bad
          | _ => .bad
        else if coolAt vs e2 = true then compL t tt ge vs ds (wipeE vs e2) acc else .bad
      | _ => .bad
def compG (gi : En → Res (List D)) (t : Tg) (tt : En → Res Bool) (ge : En → Res D) (vs : List Nat) : En → Res D := fun e => (gi e).bind fun ds e1 =>
  if coolAt vs e1 = true then match compL t tt ge vs ds (wipeE vs e1) [] with
    | .ok acc e2 => .ok (.lst acc) (backE vs e1 e2)
    | _ => .bad
  else .bad
def yesT : En → Res Bool := fun e => .ok true e
section
variable {X : Cx} {T : Tb} {W : WX} {k : Nat}
theorem tsnil : PTs X [] (tB X.K X.mg T W yesT) := ⟨fun pins s σ H Q I ⟨B, F, e, R, h⟩ => pts_nil.run pins s σ H Q I (h.ret R rfl)⟩
theorem tsone {c : Expr} {g : En → Res Bool} (h : PT X c (tB X.K X.mg T W g)) : PTs X [c] (tB X.K X.mg T W g) := pts_one h
theorem Cc.blk (c : Cc X W k) (s : Shared) (H : Hp) (scope : Scope) (cenv : Env) (fp : List Addr) : Cc (X.blk s H scope cenv fp) W0 k := ⟨c.calm, L2.takes0, PassesOwn.never, c.room, c.nd, c.gd⟩
theorem lc_read {K : PySem.W.Frag} {mg : MG} {gi : En → Res (List D)} {t : Tg} {tt : En → Res Bool} {ge : En → Res D} {vs : List Nat} {σ : St} {H : Hp} {Q : VK} (hts : ∀ j ∈ t.slots, j ∈ vs)
    (h : tN K mg T W (compG gi t tt ge vs) σ H Q) : tLc (tI K mg T W gi) (tG K mg T t) (tB K mg T W0 tt) (tE K mg T W0 ge) vs σ H Q := by
  obtain ⟨B, F, e, R, h⟩ := h
  refine ⟨B, F, e, R, PostN.step (R := fun F' ds J => Walk K mg F' J ds) h fun F1 e1 ds J H1 l1 R1 Wk h1 => ?_⟩
  by_cases hc : coolAt vs e1 = true
  · rw [if_pos hc] at h1
    intro p hp
    have off := R1.offNew hp
    -- what the rest of the walk is to give
    let CP : Hp → Res (List D) → Prop := fun F2 r => match r with
      | .ok acc e2 => PostN K mg W B σ F2 (.ok (.lst acc) (backE vs e1 e2)) Q
      | _ => False
    have CPle : ∀ {F2 F3 r}, Le F2 F3 → CP F2 r → CP F3 r := fun {F2 F3 r} l c => by
      cases r with
      | ok acc e2 => exact PostN.le c l
      | exc x e => exact c
      | bad => exact c
    have h2 : CP F1 (compL t tt ge vs ds (wipeE vs e1) []) := by
      cases q : compL t tt ge vs ds (wipeE vs e1) [] with
      | ok acc e2 => rw [q] at h1; exact h1
      | exc x e => rw [q] at h1; exact h1
      | bad => rw [q] at h1; exact h1
    let St2 : Nat → Hp → Prop := fun i H => ∃ F2 e2 acc vacc, Le F1 F2 ∧ Rel K mg (B.wth p (.lst vacc)) F2 e2 (wipe σ vs) H ∧ DenL K mg F2 acc vacc ∧ CP F2 (compL t tt ge vs (ds.drop i) e2 acc)
    refine ⟨fun i m H => m = ds.length - i ∧ i ≤ ds.length ∧ St2 i H, ⟨ds.length, by simp, Nat.zero_le _, F1, wipeE vs e1, [], [], Le.refl F1, (R1.base hp rfl).wipe hc, .nil, by simpa using h2⟩, ?_⟩
    rintro i m H2 ⟨rfl, hi, F2, e2, acc, vacc, l2, R2, dl, c2⟩
    by_cases hlt : i < ds.length
    · right
      obtain ⟨d, hd⟩ : ∃ d, ds[i]? = some d := ⟨ds[i], List.getElem?_eq_getElem hlt⟩
      obtain ⟨g1, g2⟩ := Wk.go F2 H2 i d l2 R2.sub hd
      refine ⟨g1, St2 (i + 1), fun H' s2 => ⟨ds.length - (i + 1), by omega, rfl, hlt, s2⟩, fun x H' hy => ?_⟩
      obtain ⟨F3, l3, hD, hR⟩ := g2 x H' hy
      have hdrop : ds.drop i = d :: ds.drop (i + 1) := by
        rw [List.drop_eq_getElem_cons hlt]
        rw [List.getElem?_eq_getElem hlt] at hd
        rw [Option.some.inj hd]
      rw [hdrop] at c2
      unfold compL at c2
      cases hgo : t.go d e2 with
      | none => simp only [hgo] at c2; exact c2.elim
      | some e3 =>
        simp only [hgo] at c2
        refine ⟨B.wth p (.lst vacc), F3, e2, d, hR T _ e2 _ R2, hD, e3, hgo, fun σ2 hj hl R4 => ?_⟩
        have hw : wipe σ2 vs = wipe σ vs := by
          rw [wipe_eq (fun j hjv => hj j fun q => hjv (hts j q)) hl]
          exact wipe_eq (fun j hjv => wipe_get hjv) (wipe_length σ vs)
        refine ⟨hw, B.wth p (.lst vacc), F3, e3, R4, ?_⟩
        cases htt : tt e3 with
        | bad => simp only [htt] at c2; exact c2.elim
        | exc x' e' => simp only [htt] at c2; exact c2.elim
        | ok b e4 =>
          simp only [htt] at c2
          intro F4 b' H4 l4 R5 hb
          subst hb
          cases b' with
          | false =>
            rw [if_neg Bool.false_ne_true] at c2 ⊢
            by_cases hc4 : coolAt vs e4 = true
            · rw [if_pos hc4] at c2
              exact ⟨F4, wipeE vs e4, acc, vacc, l2.trans (l3.trans l4), hw ▸ R5.wipe hc4, dl.mono (l3.trans l4), CPle (l3.trans l4) c2⟩
            · rw [if_neg hc4] at c2; exact c2.elim
          | true =>
            rw [if_pos rfl] at c2 ⊢
            refine ⟨B.wth p (.lst vacc), F4, e4, R5, ?_⟩
            cases hge : ge e4 with
            | bad => simp only [hge] at c2; exact c2.elim
            | exc x' e' => simp only [hge] at c2; exact c2.elim
            | ok y e5 =>
              simp only [hge] at c2
              by_cases hc5 : coolAt vs e5 = true ∧ acc.length < sizeLine
              · rw [if_pos hc5] at c2
                intro F6 yv H6 l6 R6 hy6
                refine ⟨vacc, (R6.atBase off rfl).1, by rw [← dl.length]; exact hc5.2, F6, wipeE vs e5, acc ++ [y], vacc ++ [yv], l2.trans (l3.trans (l4.trans l6)), hw ▸ (R6.rebase off rfl rfl rfl).wipe hc5.1, (dl.mono (l3.trans (l4.trans l6))).append (.cons hy6 .nil), CPle (l3.trans (l4.trans l6)) c2⟩
              · rw [if_neg hc5] at c2; exact c2.elim
    · left
      have ei : i = ds.length := by omega
      subst ei
      refine ⟨Wk.stop F2 H2 _ l2 R2.sub (Nat.le_refl _), ?_⟩
      rw [List.drop_length] at c2
      have c2 : PostN K mg W B σ F2 (.ok (.lst acc) (backE vs e1 e2)) Q := c2
      obtain ⟨hH, hF⟩ := R2.atBase off rfl
      refine c2 F2 p H2 (Le.refl F2) (R1.unwipe hc l2 (R2.unbase off)) hF off.h0 ⟨vacc, hH, dl⟩ fun j s hs ht => ?_
      rcases backE_at hs with ⟨hj, e1'⟩ | ⟨hj, e1'⟩
      · rw [List.getD_eq_getElem?_getD] at e1'
        cases q : e1[j]? with
        | none => rw [q] at e1'; subst e1'; cases ht
        | some s' =>
          rw [q] at e1'
          have e1' : s = s' := e1'
          subst e1'
          rw [cool_of hc hj q] at ht; cases ht
      · rw [← wipe_get hj]; exact R2.offHot off e1' ht
  · rw [if_neg hc] at h1; exact h1.elim
variable {elt tg iter : Expr} {ifs : List Expr} {scope : Scope} {own : List (Str × Nat)} {pos spos : Pos} {gi : En → Res (List D)} {t : Tg} {tt : En → Res Bool} {ge : En → Res D}
theorem nlc (c : Cc X W k) (hi : PI X tg iter (tI X.K X.mg T W gi)) (ok : BlkOk X.N X.env.scope scope own) (hts : ∀ j ∈ t.slots, j ∈ own.map (·.2))
    (hg : ∀ (s : Shared) (H : Hp) (C : Addr) (cl : List (Str × Addr)) (fp : List Addr), Cc (X.blk s H scope (compEnvC scope cl C X.env) fp) W0 k → PG (X.blk s H scope (compEnvC scope cl C X.env) fp) tg (tG X.K X.mg T t))
    (ht : ∀ (s : Shared) (H : Hp) (C : Addr) (cl : List (Str × Addr)) (fp : List Addr), Cc (X.blk s H scope (compEnvC scope cl C X.env) fp) W0 k → PTs (X.blk s H scope (compEnvC scope cl C X.env) fp) ifs (tB X.K X.mg T W0 tt))
    (he : ∀ (s : Shared) (H : Hp) (C : Addr) (cl : List (Str × Addr)) (fp : List Addr), Cc (X.blk s H scope (compEnvC scope cl C X.env) fp) W0 k → PE (X.blk s H scope (compEnvC scope cl C X.env) fp) elt (tE X.K X.mg T W0 ge))
    (hs : ∀ x, foldedSetIterable iter X.env x = pure x := by intro _; rfl) : PE X (.ListComp elt [⟨tg, iter, ifs, 0⟩] scope pos) (tN X.K X.mg T W (compG gi t tt ge (own.map (·.2)))) :=
  conv (pe_lc c.calm c.nd hi ok (fun s H C cl fp => hg s H C cl fp (c.blk ..)) (fun s H C cl fp => ht s H C cl fp (c.blk ..)) (fun s H C cl fp => he s H C cl fp (c.blk ..)) hs) fun σ H Q h => lc_read hts h
/-- y = [..] on one line, y a local -/
theorem sownLc {y : Str} {py : Pos} (i : Nat) (c : Cc X W k) (hsw : swapsWith (.ListComp elt [⟨tg, iter, ifs, 0⟩] scope pos) (some (.Name y py)) spos.line X.env = pure true) (hi : PI X tg iter (tI X.K X.mg T W gi)) (ok : BlkOk X.N X.env.scope scope own) (hts : ∀ j ∈ t.slots, j ∈ own.map (·.2))
    (hg : ∀ (s : Shared) (H : Hp) (C : Addr) (cl : List (Str × Addr)) (fp : List Addr), Cc (X.blk s H scope (compEnvC scope cl C X.env) fp) W0 k → PG (X.blk s H scope (compEnvC scope cl C X.env) fp) tg (tG X.K X.mg T t))
    (ht : ∀ (s : Shared) (H : Hp) (C : Addr) (cl : List (Str × Addr)) (fp : List Addr), Cc (X.blk s H scope (compEnvC scope cl C X.env) fp) W0 k → PTs (X.blk s H scope (compEnvC scope cl C X.env) fp) ifs (tB X.K X.mg T W0 tt))
    (he : ∀ (s : Shared) (H : Hp) (C : Addr) (cl : List (Str × Addr)) (fp : List Addr), Cc (X.blk s H scope (compEnvC scope cl C X.env) fp) W0 k → PE (X.blk s H scope (compEnvC scope cl C X.env) fp) elt (tE X.K X.mg T W0 ge))
    (hy : X.N[i]? = some y := by rfl) (hyl : X.env.scope.names.lookup y = some .local := by rfl) (hs : ∀ x, foldedSetIterable iter X.env x = pure x := by intro _; rfl) :
    PS X (.Assign [.Name y py] (.ListComp elt [⟨tg, iter, ifs, 0⟩] scope pos) spos) (tS X.K X.mg T W (ownS i (compG gi t tt ge (own.map (·.2))))) :=
  convS (ps_setLc c.calm c.nd hy hyl hsw hi ok (fun s H C cl fp => hg s H C cl fp (c.blk ..)) (fun s H C cl fp => ht s H C cl fp (c.blk ..)) (fun s H C cl fp => he s H C cl fp (c.blk ..)) hs) fun N σ H ⟨B, F, e, R, q⟩ => lc_read hts
    ⟨B, F, e, R, PostS.stepN q fun F1 e1 c a H1 l R1 n n0 ck hn q1 => by
      cases hp : putO i c e1 with
      | none => rw [hp] at q1; exact q1.elim
      | some e2 => rw [hp] at q1; exact q1 F1 _ H1 (Le.refl F1) (putO_ok R1 n n0 ck hn hp)⟩
end
/-- a name's own object, at once a plain value -/
theorem sownV {X : Cx} {T : Tb} {W : WX} {st : Stmt} {i : Nat} {g : En → Res D} (h : PS X st (tS X.K X.mg T W (ownS i g))) : PS X st (tS X.K X.mg T W (setS i g)) := convS h fun N σ H ⟨B, F, e, R, q⟩ => by
  refine ⟨B, F, e, R, ?_⟩
  unfold setS at q
  unfold ownS
  cases hg : g e with
  | bad => rw [hg] at q; exact q
  | exc x e1 => rw [hg] at q; exact q
  | ok d e1 =>
    rw [hg] at q
    have q : PostS X.K X.mg W B F (nxO (putV i d e1)) N := q
    show PostS X.K X.mg W B F (nxO (putO i d e1)) N
    unfold putV at q
    unfold putO
    cases hs : e1[i]? with
    | none => rw [hs] at q; exact q
    | some s =>
      rw [hs] at q
      cases ht : s.isIo with
      | true => simp only [ht] at q ⊢; exact q
      | false =>
        simp only [ht] at q ⊢
        intro F' σ' H' l R'
        have hi : i < e1.length := (List.getElem?_eq_some_iff.mp hs).1
        obtain ⟨F2, l2, R2⟩ := R'.freeze (i := i) (d := d) (by rw [List.getElem?_set_self hi])
        rw [List.set_set] at R2
        exact q F2 σ' H' (l.trans l2) R2
end L2.PV

set_option Elab.async false
set_option linter.all false
set_option maxRecDepth 100000
set_option autoImplicit false
namespace L2.PV
open PySem PySem.Spec PyProof.Rows

/-! ### data for == -/
mutual
def toPy : D → Option PyData
  | .non => some .none
  | .bl b => some (.bool b)
  | .int i => some (.int i)
  | .str x => some (.str x)
  | .lst xs => (toPys xs).map .list
  | .tup xs => (toPys xs).map .tuple
  | _ => none
def toPys : List D → Option (List PyData)
  | [] => some []
  | d :: ds => (toPy d).bind fun p => (toPys ds).map (p :: ·)
end
def eqB (a b : D) : Option Bool := (toPy a).bind fun p => (toPy b).bind fun q => if SeqAt.shaped p = true ∧ SeqAt.shaped q = true then some (PyData.eqv p q) else none
def eqD (a b : D) : Option D := (eqB a b).map .bl
def neD (a b : D) : Option D := (eqB a b).map fun k => .bl (!k)
section
variable {K : PySem.W.Frag} {mg : MG} {F H : Hp}
mutual
theorem Den.dp (s : Sub F H) : ∀ {d : D} {v : V}, Den K mg F d v → ∀ {p : PyData}, toPy d = some p → Dp K H v p
  | _, _, .non, _, h => by cases h; exact .non
  | _, _, .bl b, _, h => by cases h; exact .bl b
  | _, _, .int i, _, h => by cases h; exact .int i
  | _, _, .str x, _, h => by cases h; exact .str x
  | _, _, .tup h l, _, e => by
    unfold toPy at e
    obtain ⟨ps, h1, rfl⟩ := Option.map_eq_some_iff.mp e
    exact .tup (h.seq s) (DenL.dp s l h1)
  | _, _, .lst h l, _, e => by
    unfold toPy at e
    obtain ⟨ps, h1, rfl⟩ := Option.map_eq_some_iff.mp e
    exact .lst (h.seq s) (DenL.dp s l h1)
  | _, _, .dct h l, _, e => by cases e
  | _, _, .obj m h l, _, e => by cases e
  | _, _, .con v, _, e => by cases e
theorem DenL.dp (s : Sub F H) : ∀ {d : List D} {v : List V}, DenL K mg F d v → ∀ {p : List PyData}, toPys d = some p → DpAll K H v p
  | _, _, .nil, _, h => by cases h; exact .nil
  | _, _, .cons h t, _, e => by
    unfold toPys at e
    obtain ⟨p, h1, h2⟩ := bind_some' e
    obtain ⟨ps, h3, rfl⟩ := Option.map_eq_some_iff.mp h2
    exact .cons (Den.dp s h h1) (DenL.dp s t h3)
end
end
/-- a rule's conclusion by an or -/
theorem CallR.or {X : Cx} {f : Value} {r r' : List V → Hp → VK → Prop} (h : CallR X f r) (h' : CallR X f r') : CallR X f (fun xs H Q => r xs H Q ∨ r' xs H Q) := fun pins s σ H xs us Q I rv q => q.elim (h pins s σ H xs us Q I rv) (h' pins s σ H xs us Q I rv)
section
variable {X : Cx}
theorem rd_list {pins : List (Addr × Obj)} {σ : St} {H : Hp} {s : Shared} {l : Addr} {xs : List V} (I : Inv X pins σ H s) (hH : Rd H l (.lst xs)) : xs.length ≤ sizeLine ∧ ∃ (its : List Value) (n : Nat), Vals xs its ∧ xs.length = its.length ∧ s.heap.get? l = some { cls := .type "list", data := .seq its.toArray n } := by
  obtain ⟨z, its, n, r, e⟩ := hH.ok I.hok
  exact ⟨z, its, n, r, r.length, e⟩
def rCatR : R2 := fun x y H Q => ∃ l b xs zs, x = .ref l ∧ y = .ref b ∧ Rd H l (.lst xs) ∧ Rd H b (.lst zs) ∧ xs.length + zs.length ≤ sizeLine ∧ ∀ p, H p = none → Q (.ref p) (upd H p (.lst (xs ++ zs)))
theorem op_catR : OpR X (binaryOp .Add) rCatR := by
  intro pins s σ H x y v u Q I rx ry h
  obtain ⟨l, b, xs, zs, rfl, rfl, hH, hB, hz, q⟩ := h
  cases rx
  cases ry
  obtain ⟨z, its, n, r, hl, e⟩ := rd_list I hH
  obtain ⟨z2, its2, n2, r2, hl2, e2⟩ := rd_list I hB
  refine PySem.P.add_list e e2 ?_ (by rw [List.size_toArray, List.size_toArray]; omega)
  have ea : its.toArray ++ its2.toArray = (its ++ its2).toArray := by simp
  rw [ea]
  exact ⟨.ref _, _, I.lnew (t' := s.toks) (r.append r2) (by rw [List.length_append]; omega), rfl, q _ I.fresh⟩
def rRepR : R2 := fun x y H Q => ∃ l k xs, x = .ref l ∧ y = .int k ∧ Rd H l (.lst xs) ∧ -(2 ^ 63) ≤ k ∧ k < 2 ^ 63 ∧ xs.length * k.toNat ≤ sizeLine ∧
  ∀ p, H p = none → Q (.ref p) (upd H p (.lst (List.replicate k.toNat xs).flatten))
theorem op_repR : OpR X (binaryOp .Mult) rRepR := by
  intro pins s σ H x y v u Q I rx ry h
  obtain ⟨l, k, xs, rfl, rfl, hH, h1, h2, hz, q⟩ := h
  cases rx
  obtain ⟨t, rfl⟩ := ry
  obtain ⟨z, its, n, r, hl, e⟩ := rd_list I hH
  have hlen : its.toArray.size * k.toNat ≤ sizeLine := by rw [List.size_toArray, ← hl]; exact hz
  have hcap : ¬ its.toArray.size * k.toNat > (2 ^ 63 - 1) / 8 := by
    have : (sizeLine : Nat) ≤ (2 ^ 63 - 1) / 8 := by decide
    omega
  have hfit : ¬ (!Builtin.List.listFitsIndex k) = true := by
    rw [fitsIndex_both h1 h2]
    exact Bool.false_ne_true
  have hlong : ¬ Builtin.List.listTooLong (its.toArray.size * k.toNat) = true := by
    rw [notLongL hlen]
    exact Bool.false_ne_true
  have hnew : List.foldl (fun x1 x2 => x1 ++ x2) #[] (List.replicate (if its.toArray.isEmpty = true then 0 else k.toNat) its.toArray) = (List.replicate k.toNat its).flatten.toArray := by
    have f0 : ∀ m : Nat, List.foldl (fun x1 x2 => x1 ++ x2) #[] (List.replicate m its.toArray) = (List.replicate m its).flatten.toArray := fun m => by
      have := foldl_rep its m []
      rw [List.nil_append] at this
      exact this
    rw [f0]
    cases its with
    | nil => simp
    | cons a r' => rw [if_neg (by simp)]
  refine wpAny_binaryOp_repeat_ref (T := "list") (U := "int") (by decide) ⟨_, e, rfl⟩ (fun s' => typeIs_int s' k t) noFill_list_mul PySem.F.fills_int_mul PySem.F.slot_int_rmul repeat_list PySem.F.slot_int_index.lookup
    (call_meets PySem.F.slot_int_rmul (typeIs_int s k t) PySem.F.entry_int_rmul (PySem.F.args_int_rmul_2 _ _) (int___rmul___int_list k t l its.toArray n)
      ⟨e, rfl, ⟨_, e, rfl⟩, call_meets PySem.F.slot_list_mul ⟨_, e, rfl⟩ PySem.F.entry_list_mul (PySem.F.args_list_mul_2 _ _) (AutoListH.list___mul___list_int_3 l its.toArray n k t hfit hcap hlong) ⟨e, ?_⟩⟩)
  rw [hnew]
  exact ⟨.ref _, _, I.lnew (t' := s.toks) (r.rep k.toNat) (by rw [PyProof.Rows.lm_len_rep_flat, Nat.mul_comm]; exact hz), rfl, q _ I.fresh⟩
/-- b ** e of a base from 2 on -/
def CPowW (i j : Int) : Prop := 2 ≤ i ∧ 1 ≤ j ∧ ((i.natAbs.log2 + 1 : Nat) : Int) * j < 1000000
theorem op_powW : OpR X (binaryOp .Pow) (rI CPowW fun i j => .int (i ^ j.toNat)) := opI fun i j t u s Q E hc q => by
  obtain ⟨h1, h2, h3⟩ := hc
  refine PySem.AutoIntOps.pow_4 (by omega) (by simp; omega) (by simp; omega) (by simp; omega) ?_ q
  have hb : Builtin.Int.intBits i = i.natAbs.log2 + 1 := by
    unfold Builtin.Int.intBits
    rw [if_neg (by simp; omega)]
  rw [hb]
  unfold Builtin.Int.intTooBig
  rw [decide_eq_true_eq]
  have : (1000000 : Int) ≤ (bitsLine : Nat) := by decide
  omega
end

/-! ### + -/
def szOk (n : Nat) : Bool := decide (n ≤ sizeLine)
def addD : D → D → Option D
  | .int i, .int j => some (.int (i + j))
  | .str a, .str b => if szOk (a.length + b.length) = true then some (.str (a ++ b)) else none
  | .tup a, .tup b => if szOk (a.length + b.length) = true then some (.tup (a ++ b)) else none
  | _, _ => none
def catD : D → D → Option D
  | .lst a, .lst b => if szOk (a.length + b.length) = true then some (.lst (a ++ b)) else none
  | _, _ => none
def OpN (K : PySem.W.Frag) (mg : MG) (r : V → V → Hp → VK → Prop) (f : D → D → Option D) : Prop :=
  ∀ (T : Tb) (W : WX) (B : Bs T) (F : Hp) (e : En) (σ : St) (H : Hp) (a b : D) (x y : V) (Q : VK) (c : D), Rel K mg B F e σ H → Den K mg F a x → Den K mg F b y → f a b = some c → PostN K mg W B σ F (.ok c e) Q → r x y H Q
section
variable {X : Cx} {T : Tb} {W : WX} {a b : Expr} {ga gb : En → Res D} {pos : Pos} {K : PySem.W.Frag} {mg : MG}
theorem nop {op : Operator} {r : V → V → Hp → VK → Prop} {f : D → D → Option D} (ho : OpR X (binaryOp op) r) (hr : OpN X.K X.mg r f) (ha : PE X a (tE X.K X.mg T W ga)) (hb : PE X b (tE X.K X.mg T W gb)) :
    PE X (.BinOp a op b pos) (tN X.K X.mg T W (op2G f ga gb)) := conv (pe_op ho ha hb) fun σ H Q ⟨B, F, e, R, h⟩ =>
  ⟨B, F, e, R, h.step fun F1 e1 d x H1 l1 R1 D1 h1 => ⟨B, F1, e1, R1, h1.step fun F2 e2 d2 y H2 l2 R2 D2 h2 => by
    obtain ⟨c, hc, h3⟩ := h2.lift
    exact hr T W B F2 e2 σ H2 d d2 x y Q c R2 (D1.mono l2) D2 hc h3⟩⟩
theorem if_some {α : Type} {c : Prop} [Decidable c] {a b : α} (h : (if c then some a else none) = some b) : c ∧ a = b := by
  split at h
  · rename_i hc; exact ⟨hc, Option.some.inj h⟩
  · cases h
theorem szOk_of {n : Nat} (h : szOk n = true) : n ≤ sizeLine := of_decide_eq_true h
def rAddA (K : PySem.W.Frag) : R2 := fun x y H Q => rI0 (fun i j => .int (i + j)) x y H Q ∨ (∃ i j, x = .str i ∧ y = .str j ∧ i.length + j.length ≤ sizeLine ∧ Q (.str (i ++ j)) H) ∨ rCatA K x y H Q
theorem op_addA : OpR X (binaryOp .Add) (rAddA X.K) := op_add.or (op_add_str.or op_catA)
theorem addD_ok : OpD K mg (rAddA K) addD := by
  intro T W B F e σ H a b x y Q c R Da Db h P
  cases Da <;> cases Db <;> first
    | (cases h; done)
    | (rename_i i j; cases h; exact .inl ⟨i, j, rfl, rfl, P.ret R (.int _)⟩)
    | (rename_i i j; obtain ⟨h1, rfl⟩ := if_some h; exact .inr (.inl ⟨i, j, rfl, rfl, szOk_of h1, P.ret R (.str _)⟩))
    | (rename_i xs vs p h1 l1 ys ws q h2 l2
       obtain ⟨h3, rfl⟩ := if_some h
       refine .inr (.inr ⟨p, q, vs, ws, rfl, rfl, h1.seq R.sub, h2.seq R.sub, by rw [← l1.length, ← l2.length]; exact szOk_of h3, fun z => ?_, fun _ z => ?_, fun _ _ => P.newT R (l1.append l2)⟩)
       · subst z
         cases l1
         exact P.ret R (.tup h2 l2)
       · subst z
         cases l2
         rw [List.append_nil] at P
         exact P.ret R (.tup h1 l1))
theorem catD_ok : OpN K mg rCatR catD := by
  intro T W B F e σ H a b x y Q c R Da Db h P
  cases Da <;> cases Db <;> first
    | (cases h; done)
    | (rename_i xs vs p h1 l1 ys ws q h2 l2
       obtain ⟨h3, rfl⟩ := if_some h
       exact ⟨p, q, vs, ws, rfl, rfl, h1.rd R.sub, h2.rd R.sub, by rw [← l1.length, ← l2.length]; exact szOk_of h3, P.newL R (l1.append l2)⟩)
/-! ### numbers -/
def intD (f : Int → Int → Option Int) : D → D → Option D
  | .int i, .int j => (f i j).map .int
  | _, _ => none
def cmpD (f : Int → Int → Bool) : D → D → Option D
  | .int i, .int j => some (.bl (f i j))
  | _, _ => none
theorem intD_ok {C : Int → Int → Prop} {g : Int → Int → Int} {f : Int → Int → Option Int} (h : ∀ i j k, f i j = some k → C i j ∧ k = g i j) : OpD K mg (rI C fun i j => .int (g i j)) (intD f) := by
  intro T W B F e σ H a b x y Q c R Da Db hc P
  cases Da <;> cases Db <;> first
    | (cases hc; done)
    | (rename_i i j
       obtain ⟨k, h1, rfl⟩ := Option.map_eq_some_iff.mp hc
       obtain ⟨h2, rfl⟩ := h i j k h1
       exact ⟨i, j, rfl, rfl, h2, P.ret R (.int _)⟩)
theorem intD0_ok {g : Int → Int → Int} : OpD K mg (rI0 fun i j => .int (g i j)) (intD fun i j => some (g i j)) := by
  intro T W B F e σ H a b x y Q c R Da Db hc P
  cases Da <;> cases Db <;> first
    | (cases hc; done)
    | (rename_i i j; cases hc; exact ⟨i, j, rfl, rfl, P.ret R (.int _)⟩)
theorem cmpD_ok {f : Int → Int → Bool} : OpD K mg (rI0 fun i j => .bl (f i j)) (cmpD f) := by
  intro T W B F e σ H a b x y Q c R Da Db hc P
  cases Da <;> cases Db <;> first
    | (cases hc; done)
    | (rename_i i j; cases hc; exact ⟨i, j, rfl, rfl, P.ret R (.bl _)⟩)
def subI (i j : Int) : Option Int := some (i - j)
def mulI (i j : Int) : Option Int := if (-(2 ^ 64) < i ∧ i < 2 ^ 64) ∨ (-(2 ^ 64) < j ∧ j < 2 ^ 64) then some (i * j) else none
def fdivI (i j : Int) : Option Int := if 0 < j ∧ j < 1073741824 then some (i / j) else none
def modI (i j : Int) : Option Int := if 0 < j then some (i % j) else none
def powI (i j : Int) : Option Int := if 0 ≤ j ∧ j ≤ 1000000 ∧ i.natAbs < 2 ^ 64 then some (i ^ j.toNat) else if 2 ≤ i ∧ 1 ≤ j ∧ ((i.natAbs.log2 + 1 : Nat) : Int) * j < 1000000 then some (i ^ j.toNat) else none
def shlI (i j : Int) : Option Int := if 0 ≤ j ∧ j ≤ 1000000 ∧ i.natAbs < 2 ^ 64 then some (i * 2 ^ j.toNat) else none
def shrI (i j : Int) : Option Int := if 0 ≤ j then some (i / 2 ^ j.toNat) else none
theorem op_powA : OpR X (binaryOp .Pow) (fun x y H Q => rI CPow (fun i j => .int (i ^ j.toNat)) x y H Q ∨ rI CPowW (fun i j => .int (i ^ j.toNat)) x y H Q) := op_pow.or op_powW
theorem powD_ok : OpD K mg (fun x y H Q => rI CPow (fun i j => .int (i ^ j.toNat)) x y H Q ∨ rI CPowW (fun i j => .int (i ^ j.toNat)) x y H Q) (intD powI) := by
  intro T W B F e σ H a b x y Q c R Da Db hc P
  cases Da <;> cases Db <;> first
    | (cases hc; done)
    | (rename_i i j
       obtain ⟨k, h1, rfl⟩ := Option.map_eq_some_iff.mp hc
       unfold powI at h1
       split at h1
       · rename_i h2; cases h1; exact .inl ⟨i, j, rfl, rfl, h2, P.ret R (.int _)⟩
       · obtain ⟨h2, rfl⟩ := if_some h1; exact .inr ⟨i, j, rfl, rfl, h2, P.ret R (.int _)⟩)
theorem eadd (ha : PE X a (tE X.K X.mg T W ga)) (hb : PE X b (tE X.K X.mg T W gb)) : PE X (.BinOp a .Add b pos) (tE X.K X.mg T W (op2G addD ga gb)) := eop op_addA addD_ok ha hb
theorem ncat (ha : PE X a (tE X.K X.mg T W ga)) (hb : PE X b (tE X.K X.mg T W gb)) : PE X (.BinOp a .Add b pos) (tN X.K X.mg T W (op2G catD ga gb)) := nop op_catR catD_ok ha hb
theorem esub (ha : PE X a (tE X.K X.mg T W ga)) (hb : PE X b (tE X.K X.mg T W gb)) : PE X (.BinOp a .Sub b pos) (tE X.K X.mg T W (op2G (intD subI) ga gb)) := eop op_sub intD0_ok ha hb
theorem emul (ha : PE X a (tE X.K X.mg T W ga)) (hb : PE X b (tE X.K X.mg T W gb)) : PE X (.BinOp a .Mult b pos) (tE X.K X.mg T W (op2G (intD mulI) ga gb)) := eop op_mul (intD_ok fun i j k h => by obtain ⟨h1, h2⟩ := if_some h; exact ⟨h1, h2.symm⟩) ha hb
theorem efdiv (ha : PE X a (tE X.K X.mg T W ga)) (hb : PE X b (tE X.K X.mg T W gb)) : PE X (.BinOp a .FloorDiv b pos) (tE X.K X.mg T W (op2G (intD fdivI) ga gb)) := eop op_fdiv (intD_ok fun i j k h => by obtain ⟨h1, h2⟩ := if_some h; exact ⟨h1, h2.symm⟩) ha hb
theorem emod (ha : PE X a (tE X.K X.mg T W ga)) (hb : PE X b (tE X.K X.mg T W gb)) : PE X (.BinOp a .Mod b pos) (tE X.K X.mg T W (op2G (intD modI) ga gb)) := eop op_mod (intD_ok fun i j k h => by obtain ⟨h1, h2⟩ := if_some h; exact ⟨h1, h2.symm⟩) ha hb
theorem epow (ha : PE X a (tE X.K X.mg T W ga)) (hb : PE X b (tE X.K X.mg T W gb)) : PE X (.BinOp a .Pow b pos) (tE X.K X.mg T W (op2G (intD powI) ga gb)) := eop op_powA powD_ok ha hb
theorem eshl (ha : PE X a (tE X.K X.mg T W ga)) (hb : PE X b (tE X.K X.mg T W gb)) : PE X (.BinOp a .LShift b pos) (tE X.K X.mg T W (op2G (intD shlI) ga gb)) := eop op_shl (intD_ok fun i j k h => by obtain ⟨h1, h2⟩ := if_some h; exact ⟨h1, h2.symm⟩) ha hb
theorem eshr (ha : PE X a (tE X.K X.mg T W ga)) (hb : PE X b (tE X.K X.mg T W gb)) : PE X (.BinOp a .RShift b pos) (tE X.K X.mg T W (op2G (intD shrI) ga gb)) := eop op_shr (intD_ok fun i j k h => by obtain ⟨h1, h2⟩ := if_some h; exact ⟨h1, h2.symm⟩) ha hb
def andI (i j : Int) : Option Int := some (Builtin.bitAnd i j)
def orI (i j : Int) : Option Int := some (Builtin.bitOr i j)
theorem eband (ha : PE X a (tE X.K X.mg T W ga)) (hb : PE X b (tE X.K X.mg T W gb)) : PE X (.BinOp a .BitAnd b pos) (tE X.K X.mg T W (op2G (intD andI) ga gb)) := eop op_and intD0_ok ha hb
theorem ebor (ha : PE X a (tE X.K X.mg T W ga)) (hb : PE X b (tE X.K X.mg T W gb)) : PE X (.BinOp a .BitOr b pos) (tE X.K X.mg T W (op2G (intD orI) ga gb)) := eop op_or intD0_ok ha hb
def negD : D → Option D | .int i => some (.int (-i)) | _ => none
def invD : D → Option D | .int i => some (.int (Builtin.bitNot i)) | _ => none
theorem eneg (ha : PE X a (tE X.K X.mg T W ga)) : PE X (.UnaryOp .USub a pos) (tE X.K X.mg T W (op1G negD ga)) := eun un_neg (fun T W B F e σ H a x Q c R Da h P => by
  cases Da <;> first | (cases h; done) | (rename_i i; cases h; exact ⟨i, rfl, P.ret R (.int _)⟩)) ha
theorem einv (ha : PE X a (tE X.K X.mg T W ga)) : PE X (.UnaryOp .Invert a pos) (tE X.K X.mg T W (op1G invD ga)) := eun un_inv (fun T W B F e σ H a x Q c R Da h P => by
  cases Da <;> first | (cases h; done) | (rename_i i; cases h; exact ⟨i, rfl, P.ret R (.int _)⟩)) ha
/-- [..] * n -/
def repD : D → D → Option D
  | .lst a, .int k => if -(2 ^ 63) ≤ k ∧ k < 2 ^ 63 ∧ a.length * k.toNat ≤ sizeLine then some (.lst (List.replicate k.toNat a).flatten) else none
  | _, _ => none
theorem DenL.rep {F : Hp} {ds : List D} {vs : List V} (h : DenL K mg F ds vs) : ∀ n : Nat, DenL K mg F (List.replicate n ds).flatten (List.replicate n vs).flatten
  | 0 => .nil
  | n + 1 => by rw [List.replicate_succ, List.replicate_succ, List.flatten_cons, List.flatten_cons]; exact h.append (h.rep n)
theorem repD_ok : OpN K mg rRepR repD := by
  intro T W B F e σ H a b x y Q c R Da Db h P
  cases Da <;> cases Db <;> first
    | (cases h; done)
    | (rename_i xs vs p h1 l1 k
       obtain ⟨⟨h2, h3, h4⟩, rfl⟩ := if_some h
       exact ⟨p, k, vs, rfl, rfl, h1.rd R.sub, h2, h3, by rw [← l1.length]; exact h4, P.newL R (l1.rep _)⟩)
theorem nrep (ha : PE X a (tE X.K X.mg T W ga)) (hb : PE X b (tE X.K X.mg T W gb)) : PE X (.BinOp a .Mult b pos) (tN X.K X.mg T W (op2G repD ga gb)) := nop op_repR repD_ok ha hb
/-! ### comparisons -/
theorem eqD_ok : OpD K mg (rEqD K) eqD := by
  intro T W B F e σ H a b x y Q c R Da Db h P
  obtain ⟨k, h1, rfl⟩ := Option.map_eq_some_iff.mp h
  obtain ⟨p, h2, h3⟩ := bind_some' h1
  obtain ⟨q, h4, h5⟩ := bind_some' h3
  obtain ⟨⟨h6, h7⟩, rfl⟩ := if_some h5
  exact ⟨p, q, Da.dp R.sub h2, Db.dp R.sub h4, h6, h7, P.ret R (.bl _)⟩
theorem neD_ok : OpD K mg (rNeD K) neD := by
  intro T W B F e σ H a b x y Q c R Da Db h P
  obtain ⟨k, h1, rfl⟩ := Option.map_eq_some_iff.mp h
  obtain ⟨p, h2, h3⟩ := bind_some' h1
  obtain ⟨q, h4, h5⟩ := bind_some' h3
  obtain ⟨⟨h6, h7⟩, rfl⟩ := if_some h5
  exact ⟨p, q, Da.dp R.sub h2, Db.dp R.sub h4, h6, h7, P.ret R (.bl _)⟩
/-- x in a list or tuple (data), in a text -/
def rInT (K : PySem.W.Frag) : R2 := fun x y H Q => ∃ d ds, Dp K H x d ∧ Dp K H y (.tuple ds) ∧ SeqAt.shaped d = true ∧ SeqAt.shaped (.tuple ds) = true ∧ Q (.bl (ds.any fun z => PyData.eqv z d)) H
def rNotInT (K : PySem.W.Frag) : R2 := fun x y H Q => ∃ d ds, Dp K H x d ∧ Dp K H y (.tuple ds) ∧ SeqAt.shaped d = true ∧ SeqAt.shaped (.tuple ds) = true ∧ Q (.bl (!ds.any fun z => PyData.eqv z d)) H
theorem room_in_tup {A : Around} {d : PyData} {ds : List PyData} (h : SeqAt.shaped d = true) (hu : A.units + 65 < cLine) : A.units + 1 + min (PyData.depthAll ds) d.depth < cLine := by
  have h1 := SeqAt.depth_of_shaped h
  have h2 : min (PyData.depthAll ds) d.depth ≤ d.depth := Nat.min_le_right _ _
  omega
theorem op_inT (hu : X.A.units + 65 < cLine) : OpR X (compareOp .In) (rInT X.K) := by
  intro pins s σ H x y v u Q I rx ry h
  obtain ⟨d, ds, hd, he, sd, se, q⟩ := h
  obtain ⟨as, r1⟩ := Dp.reads I d x v hd rx
  obtain ⟨bs, r2⟩ := Dp.reads I (.tuple ds) y u he ry
  exact SeqAt.in_tuple_reads r2 r1 (SeqAt.canLay_of_shaped se) (SeqAt.canLay_of_shaped sd) (room_in_tup sd hu) ⟨.bl _, H, I, rfl, q⟩
theorem op_notInT (hu : X.A.units + 65 < cLine) : OpR X (compareOp .NotIn) (rNotInT X.K) := by
  intro pins s σ H x y v u Q I rx ry h
  obtain ⟨d, ds, hd, he, sd, se, q⟩ := h
  obtain ⟨as, r1⟩ := Dp.reads I d x v hd rx
  obtain ⟨bs, r2⟩ := Dp.reads I (.tuple ds) y u he ry
  exact SeqAt.notIn_tuple_reads r2 r1 (SeqAt.canLay_of_shaped se) (SeqAt.canLay_of_shaped sd) (room_in_tup sd hu) ⟨.bl _, H, I, rfl, q⟩
def memB (x : D) (ys : List D) (mk : List PyData → PyData) : Option Bool := (toPy x).bind fun d => (toPys ys).bind fun ds => if SeqAt.shaped d = true ∧ SeqAt.shaped (mk ds) = true then some (ds.any fun z => PyData.eqv z d) else none
def inS (b : Str) : D → Option Bool
  | .str a => if a.length = 1 then some (decide (a.cps.toList.getD 0 0 ∈ b.cps.toList)) else some (!(Builtin.Str.occurrences b a 0 b.length 1).isEmpty)
  | _ => none
def inB (x : D) : D → Option Bool
  | .str b => inS b x
  | .lst ys => memB x ys .list
  | .tup ys => memB x ys .tuple
  | _ => none
def inD (a b : D) : Option D := (inB a b).map .bl
def notInD (a b : D) : Option D := (inB a b).map fun k => .bl (!k)
def rSign : R2 := fun x y H Q => ∃ (c : Nat) (z : Str), x = .str ⟨#[c]⟩ ∧ y = .str z ∧ Q (.bl (decide (c ∈ z.cps.toList))) H
def rSignN : R2 := fun x y H Q => ∃ (c : Nat) (z : Str), x = .str ⟨#[c]⟩ ∧ y = .str z ∧ Q (.bl (!decide (c ∈ z.cps.toList))) H
def rInStr : R2 := fun x y H Q => ∃ i j, x = .str i ∧ y = .str j ∧ Q (.bl (!(Builtin.Str.occurrences j i 0 j.length 1).isEmpty)) H
def rInStrN : R2 := fun x y H Q => ∃ i j, x = .str i ∧ y = .str j ∧ Q (.bl (!(!(Builtin.Str.occurrences j i 0 j.length 1).isEmpty))) H
def rInA (K : PySem.W.Frag) : R2 := fun x y H Q => rSign x y H Q ∨ rInStr x y H Q ∨ rInD K x y H Q ∨ rInT K x y H Q
def rNotInA (K : PySem.W.Frag) : R2 := fun x y H Q => rSignN x y H Q ∨ rInStrN x y H Q ∨ rNotInD K x y H Q ∨ rNotInT K x y H Q
theorem op_inA (hu : X.A.units + 65 < cLine) : OpR X (compareOp .In) (rInA X.K) := OpR.or op_in_sign (OpR.or op_in_str (OpR.or (op_inD hu) (op_inT hu)))
theorem op_notInA (hu : X.A.units + 65 < cLine) : OpR X (compareOp .NotIn) (rNotInA X.K) := OpR.or op_notIn_sign (OpR.or op_notin_str (OpR.or (op_notInD hu) (op_notInT hu)))
theorem one_sign {a : Str} (h : a.length = 1) : a = ⟨#[a.cps.toList.getD 0 0]⟩ := by
  obtain ⟨⟨l⟩⟩ := a
  have h : l.length = 1 := h
  match l, h with
  | [c], _ => rfl
theorem inB_ok {F H : Hp} {a b : D} {x y : V} {k : Bool} (s : Sub F H) (Da : Den K mg F a x) (Db : Den K mg F b y) (h : inB a b = some k) : (∃ c z, x = .str ⟨#[c]⟩ ∧ y = .str z ∧ k = decide (c ∈ z.cps.toList)) ∨
    (∃ i j, x = .str i ∧ y = .str j ∧ k = !(Builtin.Str.occurrences j i 0 j.length 1).isEmpty) ∨ (∃ d ds, Dp K H x d ∧ Dp K H y (.list ds) ∧ SeqAt.shaped d = true ∧ SeqAt.shaped (.list ds) = true ∧ k = ds.any fun z => PyData.eqv z d) ∨
    ∃ d ds, Dp K H x d ∧ Dp K H y (.tuple ds) ∧ SeqAt.shaped d = true ∧ SeqAt.shaped (.tuple ds) = true ∧ k = ds.any fun z => PyData.eqv z d := by
  have seq : ∀ {ys : List D} {mk : List PyData → PyData}, memB a ys mk = some k → ∃ d ds, toPy a = some d ∧ toPys ys = some ds ∧ SeqAt.shaped d = true ∧ SeqAt.shaped (mk ds) = true ∧ k = ds.any fun z => PyData.eqv z d := fun {ys mk} h => by
    obtain ⟨d, h1, h2⟩ := bind_some' h
    obtain ⟨ds, h3, h4⟩ := bind_some' h2
    obtain ⟨⟨h5, h6⟩, h7⟩ := if_some h4
    exact ⟨d, ds, h1, h3, h5, h6, h7.symm⟩
  cases Db with
  | lst hb l =>
    obtain ⟨d, ds, h1, h2, h3, h4, h5⟩ := seq h
    exact .inr (.inr (.inl ⟨d, ds, Da.dp s h1, .lst (hb.seq s) (l.dp s h2), h3, h4, h5⟩))
  | tup hb l =>
    obtain ⟨d, ds, h1, h2, h3, h4, h5⟩ := seq h
    exact .inr (.inr (.inr ⟨d, ds, Da.dp s h1, .tup (hb.seq s) (l.dp s h2), h3, h4, h5⟩))
  | str z =>
    cases Da with
    | str w =>
      have h : (if w.length = 1 then some (decide (w.cps.toList.getD 0 0 ∈ z.cps.toList)) else some (!(Builtin.Str.occurrences z w 0 z.length 1).isEmpty)) = some k := h
      split at h
      · rename_i hl
        cases h
        exact .inl ⟨_, z, by rw [← one_sign hl], rfl, rfl⟩
      · cases h
        exact .inr (.inl ⟨w, z, rfl, rfl, rfl⟩)
    | _ => cases h
  | _ => cases h
theorem inD_ok : OpD K mg (rInA K) inD := by
  intro T W B F e σ H a b x y Q c R Da Db h P
  obtain ⟨k, h1, rfl⟩ := Option.map_eq_some_iff.mp h
  rcases inB_ok R.sub Da Db h1 with ⟨c, z, rfl, rfl, rfl⟩ | ⟨i, j, rfl, rfl, rfl⟩ | ⟨d, ds, g1, g2, g3, g4, rfl⟩ | ⟨d, ds, g1, g2, g3, g4, rfl⟩
  · exact .inl ⟨c, z, rfl, rfl, P.ret R (.bl _)⟩
  · exact .inr (.inl ⟨i, j, rfl, rfl, P.ret R (.bl _)⟩)
  · exact .inr (.inr (.inl ⟨d, ds, g1, g2, g3, g4, P.ret R (.bl _)⟩))
  · exact .inr (.inr (.inr ⟨d, ds, g1, g2, g3, g4, P.ret R (.bl _)⟩))
theorem notInD_ok : OpD K mg (rNotInA K) notInD := by
  intro T W B F e σ H a b x y Q c R Da Db h P
  obtain ⟨k, h1, rfl⟩ := Option.map_eq_some_iff.mp h
  rcases inB_ok R.sub Da Db h1 with ⟨c, z, rfl, rfl, rfl⟩ | ⟨i, j, rfl, rfl, rfl⟩ | ⟨d, ds, g1, g2, g3, g4, rfl⟩ | ⟨d, ds, g1, g2, g3, g4, rfl⟩
  · exact .inl ⟨c, z, rfl, rfl, P.ret R (.bl _)⟩
  · exact .inr (.inl ⟨i, j, rfl, rfl, P.ret R (.bl _)⟩)
  · exact .inr (.inr (.inl ⟨d, ds, g1, g2, g3, g4, P.ret R (.bl _)⟩))
  · exact .inr (.inr (.inr ⟨d, ds, g1, g2, g3, g4, P.ret R (.bl _)⟩))
def isNonD : D → D → Option D
  | .non, .non => some (.bl true)
  | .con _, _ => none
  | _, .non => some (.bl false)
  | _, _ => none
def notNonD (a b : D) : Option D := (isNonD a b).bind fun | .bl k => some (.bl (!k)) | _ => none
theorem isNonD_ok : OpD K mg (fun x y H Q => y = .non ∧ Q (.bl (decide (x = .non))) H) isNonD := by
  intro T W B F e σ H a b x y Q c R Da Db h P
  cases Db <;> cases Da <;> first | (cases h; done) | (cases h; exact ⟨rfl, P.ret R (.bl _)⟩)
theorem notNonD_ok : OpD K mg (fun x y H Q => y = .non ∧ Q (.bl (!decide (x = .non))) H) notNonD := by
  intro T W B F e σ H a b x y Q c R Da Db h P
  cases Db <;> cases Da <;> first | (cases h; done) | (cases h; exact ⟨rfl, P.ret R (.bl _)⟩)
end
end L2.PV

set_option Elab.async false
set_option linter.all false
set_option maxRecDepth 100000
set_option autoImplicit false
namespace L2.PV
open PySem PySem.Spec PyProof.Rows
section
variable {X : Cx} {T : Tb} {W : WX} {a b c : Expr} {g ga gb : En → Res D} {pos : Pos} {K : PySem.W.Frag} {mg : MG} {k : Nat}

/-! ### comparisons, short -/
def hu65 {k : Nat} (h : Room k X.A) : X.A.units + 65 < cLine := by have := h.un; omega
theorem eeq (c : Cc X W k) (ha : PE X a (tE X.K X.mg T W ga)) (hb : PE X b (tE X.K X.mg T W gb)) (hm : behindInMarks .Eq b = false := by first | exact nobehind _ (by decide) (by decide) | rfl) : PE X (.Compare a [.Eq] [b] pos) (tE X.K X.mg T W (op2G eqD ga gb)) := ecmp (op_eqD c.room.units) eqD_ok ha hb hm
theorem ene (c : Cc X W k) (ha : PE X a (tE X.K X.mg T W ga)) (hb : PE X b (tE X.K X.mg T W gb)) (hm : behindInMarks .NotEq b = false := by first | exact nobehind _ (by decide) (by decide) | rfl) : PE X (.Compare a [.NotEq] [b] pos) (tE X.K X.mg T W (op2G neD ga gb)) := ecmp (op_neD c.room.units) neD_ok ha hb hm
theorem ein (c : Cc X W k) (ha : PE X a (tE X.K X.mg T W ga)) (hb : PE X b (tE X.K X.mg T W gb)) (hm : behindInMarks .In b = false := by rfl) : PE X (.Compare a [.In] [b] pos) (tE X.K X.mg T W (op2G inD ga gb)) := ecmp (op_inA (hu65 c.room)) inD_ok ha hb hm
theorem enin (c : Cc X W k) (ha : PE X a (tE X.K X.mg T W ga)) (hb : PE X b (tE X.K X.mg T W gb)) (hm : behindInMarks .NotIn b = false := by rfl) : PE X (.Compare a [.NotIn] [b] pos) (tE X.K X.mg T W (op2G notInD ga gb)) := ecmp (op_notInA (hu65 c.room)) notInD_ok ha hb hm
theorem eisN (ha : PE X a (tE X.K X.mg T W ga)) (hb : PE X b (tE X.K X.mg T W gb)) (hm : behindInMarks .Is b = false := by first | exact nobehind _ (by decide) (by decide) | rfl) : PE X (.Compare a [.Is] [b] pos) (tE X.K X.mg T W (op2G isNonD ga gb)) := ecmp op_isN isNonD_ok ha hb hm
theorem enotN (ha : PE X a (tE X.K X.mg T W ga)) (hb : PE X b (tE X.K X.mg T W gb)) (hm : behindInMarks .IsNot b = false := by first | exact nobehind _ (by decide) (by decide) | rfl) : PE X (.Compare a [.IsNot] [b] pos) (tE X.K X.mg T W (op2G notNonD ga gb)) := ecmp op_notN notNonD_ok ha hb hm
theorem elt (ha : PE X a (tE X.K X.mg T W ga)) (hb : PE X b (tE X.K X.mg T W gb)) (hm : behindInMarks .Lt b = false := by first | exact nobehind _ (by decide) (by decide) | rfl) : PE X (.Compare a [.Lt] [b] pos) (tE X.K X.mg T W (op2G (cmpD fun i j => decide (i < j)) ga gb)) := ecmp op_lt cmpD_ok ha hb hm
theorem ele (ha : PE X a (tE X.K X.mg T W ga)) (hb : PE X b (tE X.K X.mg T W gb)) (hm : behindInMarks .LtE b = false := by first | exact nobehind _ (by decide) (by decide) | rfl) : PE X (.Compare a [.LtE] [b] pos) (tE X.K X.mg T W (op2G (cmpD fun i j => decide (i ≤ j)) ga gb)) := ecmp op_le cmpD_ok ha hb hm
theorem egt (ha : PE X a (tE X.K X.mg T W ga)) (hb : PE X b (tE X.K X.mg T W gb)) (hm : behindInMarks .Gt b = false := by first | exact nobehind _ (by decide) (by decide) | rfl) : PE X (.Compare a [.Gt] [b] pos) (tE X.K X.mg T W (op2G (cmpD fun i j => decide (j < i)) ga gb)) := ecmp op_gt cmpD_ok ha hb hm
theorem ege (ha : PE X a (tE X.K X.mg T W ga)) (hb : PE X b (tE X.K X.mg T W gb)) (hm : behindInMarks .GtE b = false := by first | exact nobehind _ (by decide) (by decide) | rfl) : PE X (.Compare a [.GtE] [b] pos) (tE X.K X.mg T W (op2G (cmpD fun i j => decide (j ≤ i)) ga gb)) := ecmp op_ge cmpD_ok ha hb hm
/-- a < b <= c of numbers -/
def chainG (f f' : Int → Int → Bool) (ga gb gc : En → Res D) : En → Res D := fun e => (ga e).bind fun x e1 => (gb e1).bind fun y e2 => match x, y with
  | .int i, .int j => if f i j = true then (gc e2).bind fun z e3 => match z with | .int l => .ok (.bl (f' j l)) e3 | _ => .bad else .ok (.bl false) e2
  | _, _ => .bad
theorem echain {gc : En → Res D} {op op' : CmpOp} {f f' : Int → Int → Bool} (ho : OpR X (compareOp op) (rI0 fun i j => .bl (f i j))) (ho' : OpR X (compareOp op') (rI0 fun i j => .bl (f' i j))) (ha : PE X a (tE X.K X.mg T W ga)) (hb : PE X b (tE X.K X.mg T W gb)) (hc : PE X c (tE X.K X.mg T W gc)) (hm : lastMarks [op, op'] [b, c] = false := by with_unfolding_all rfl) :
    PE X (.Compare a [op, op'] [b, c] pos) (tE X.K X.mg T W (chainG f f' ga gb gc)) := conv (pe_chain ho ho' ha hb hc hm) fun σ H Q ⟨B, F, e, R, h⟩ =>
  ⟨B, F, e, R, h.step fun F1 e1 d x H1 l1 R1 D1 h1 => ⟨B, F1, e1, R1, h1.step fun F2 e2 d2 y H2 l2 R2 D2 h2 => by
    split at h2
    · rename_i i j
      cases D1; cases D2
      refine ⟨i, j, rfl, rfl, f i j, rfl, ?_⟩
      cases hf : f i j with
      | true =>
        rw [if_pos hf] at h2; rw [if_pos rfl]
        exact ⟨B, F2, e2, R2, h2.step fun F3 e3 d3 z H3 l3 R3 D3 h3 => by
          split at h3
          · cases D3; exact ⟨_, _, rfl, rfl, h3.ret R3 (.bl _)⟩
          · exact h3.elim⟩
      | false =>
        rw [if_neg (by rw [hf]; exact Bool.false_ne_true)] at h2; rw [if_neg Bool.false_ne_true]
        exact h2.ret R2 (.bl _)
    · exact h2.elim⟩⟩
/-- a value's truth -/
theorem ttruth (h : PE X a (tE X.K X.mg T W ga)) (he : ∀ whole, isTrue a X.env whole = (do let v ← whole; standAt a.pos; holding [v] (truthy v)) := by intro _; rfl) : PT X a (tB X.K X.mg T W (truthG ga)) := convT (pt_truth h he) fun σ H Q ⟨B, F, e, R, h⟩ =>
  ⟨B, F, e, R, h.step fun F1 e1 d x H1 l1 R1 D1 h1 => by
    obtain ⟨c, hc, h3⟩ := h1.lift
    refine ⟨c, ?_, h3.ret R1 rfl⟩
    cases D1 with
    | non => cases hc; rfl
    | bl b => cases hc; rfl
    | int i => cases hc; rfl
    | str x =>
      have hc : (if x.length ≤ sizeLine then some (x.length != 0) else none) = some c := hc
      obtain ⟨h1, rfl⟩ := if_some hc
      refine ⟨h1, ?_⟩
      cases hx : x.length <;> simp
      omega
    | lst h l => cases hc; exact .inl ⟨_, h.seq R1.sub, by cases l <;> rfl⟩
    | tup h l => cases hc; exact .inr (.inl ⟨_, h.seq R1.sub, by cases l <;> rfl⟩)
    | _ => cases hc⟩

/-! ### subscripts -/
def keyD : D → Option Key
  | .int i => some (.inl i)
  | .str x => some (.inr x)
  | _ => none
def lookK (kvs : List (Key × D)) (k : Key) : Option D := (kvs.find? fun kv => decide (kv.1 = k)).map (·.2)
def ixD : D → D → Option D
  | .lst xs, .int i => atI xs i
  | .tup xs, .int i => atI xs i
  | .str z, .int i => if szOk z.length = true then (atI z.cps.toList i).map fun c => .str (sgn c) else none
  | .dct kvs, y => (keyD y).bind (lookK kvs)
  | _, _ => none
def rIxKey : R2 := fun x y H Q => ∃ a v, x = .ref a ∧ DGet H a y (some v) ∧ Q v H
theorem ix_key (hu : X.A.units + 1 < cLine) : IxR X rIxKey := by
  intro value slice pins s σ H x y v u Q I rx ry h hs
  obtain ⟨a, v', rfl, g, q⟩ := h
  cases rx
  exact tail_any (dict_typeIs I g) slot_dict_getitem.lookup (d_getItem hu I g ry fun w' s' I' r' => ⟨v', H, I', r', q⟩) hs
theorem DenK.find {F : Hp} {k : Key} : ∀ {ds : List (Key × D)} {vs : List (Key × V)} {d : D}, DenK K mg F ds vs → lookK ds k = some d → ∃ v, valV vs k = some v ∧ Den K mg F d v
  | _, _, _, .nil, h => by cases h
  | _, _, d, .cons (k := k') h t, e => by
    unfold lookK at e
    unfold valV
    by_cases hk : k' = k
    · subst hk
      simp at e
      subst e
      exact ⟨_, by simp, h⟩
    · simp [hk] at e
      obtain ⟨v, h1, h2⟩ := DenK.find (k := k) t (by unfold lookK; simpa using e)
      exact ⟨v, by unfold valV at h1; simp [hk]; simpa using h1, h2⟩
theorem DenK.find0 {F : Hp} {k : Key} : ∀ {ds : List (Key × D)} {vs : List (Key × V)}, DenK K mg F ds vs → lookK ds k = none → valV vs k = none
  | _, _, .nil, h => rfl
  | _, _, .cons (k := k') h t, e => by
    unfold lookK at e
    unfold valV
    by_cases hk : k' = k
    · subst hk
      simp at e
    · simp [hk] at e
      have h1 := DenK.find0 (k := k) t (by unfold lookK; simpa using e)
      unfold valV at h1
      simp [hk]
      simpa using h1
theorem atI_map {α β : Type} {xs : List α} {ys : List β} (hl : xs.length = ys.length) (hR : ∀ (j : Nat) (a : α), xs[j]? = some a → ∃ b, ys[j]? = some b) {i : Int} {a : α} (h : atI xs i = some a) : ∃ (j : Nat) (b : β), xs[j]? = some a ∧ ys[j]? = some b ∧ atI ys i = some b := by
  unfold atI at h ⊢
  obtain ⟨j, h1, h2⟩ := bind_some' h
  obtain ⟨b, hb⟩ := hR j a h2
  exact ⟨j, b, h2, hb, by rw [← hl, h1]; exact hb⟩
theorem DenL.atI {F : Hp} {ds : List D} {vs : List V} {i : Int} {d : D} (l : DenL K mg F ds vs) (h : L2.atI ds i = some d) : ∃ v, L2.atI vs i = some v ∧ Den K mg F d v := by
  obtain ⟨j, b, h1, h2, h3⟩ := atI_map l.length (fun j a ha => let ⟨v, e, _⟩ := l.get ha; ⟨v, e⟩) h
  obtain ⟨v, e1, e2⟩ := l.get h1
  rw [h2] at e1; cases e1
  exact ⟨b, h3, e2⟩
def rIxA (K : PySem.W.Frag) : R2 := fun x y H Q => rIxL K x y H Q ∨ rIxT K x y H Q ∨ rIxS x y H Q ∨ rIxKey x y H Q
theorem ix_all (hu : X.A.units + 1 < cLine) : IxR X (rIxA X.K) := IxR.or ix_list (IxR.or ix_tup (IxR.or ix_str (ix_key hu)))
theorem ixD_ok : OpD K mg (rIxA K) ixD := by
  intro T W B F e σ H a b x y Q c R Da Db h P
  cases Da with
  | lst h1 l =>
    cases Db with
    | int i => obtain ⟨v, h2, h3⟩ := l.atI h; exact .inl ⟨_, _, i, v, rfl, rfl, h1.seq R.sub, h2, P.ret R h3⟩
    | _ => cases h
  | tup h1 l =>
    cases Db with
    | int i => obtain ⟨v, h2, h3⟩ := l.atI h; exact .inr (.inl ⟨_, _, i, v, rfl, rfl, h1.seq R.sub, h2, P.ret R h3⟩)
    | _ => cases h
  | str z =>
    cases Db with
    | int i =>
      have h : (if szOk z.length = true then (atI z.cps.toList i).map fun c => D.str (sgn c) else none) = some c := h
      split at h
      · rename_i hz
        obtain ⟨s, h1, rfl⟩ := Option.map_eq_some_iff.mp h
        exact .inr (.inr (.inl ⟨z, i, s, rfl, rfl, szOk_of hz, h1, P.ret R (.str _)⟩))
      · cases h
    | _ => cases h
  | dct h1 l =>
    obtain ⟨k, h2, h3⟩ := bind_some' h
    obtain ⟨v, h4, h5⟩ := l.find h3
    have hy : y = kV k := by
      cases Db <;> cases h2 <;> rfl
    exact .inr (.inr (.inr ⟨_, v, rfl, .inl ⟨_, k, R.sub _ _ h1, hy, h4.symm⟩, P.ret R h5⟩))
  | _ => cases h
theorem eix (c : Cc X W k) (ha : PE X a (tE X.K X.mg T W ga)) (hb : PE X b (tE X.K X.mg T W gb)) (hs : PlainIx b := by intro _ _; rfl) : PE X (.Subscript a b pos) (tE X.K X.mg T W (op2G ixD ga gb)) := conv (pe_ix (ix_all (hu_of c.room)) ha hb hs) fun σ H Q ⟨B, F, e, R, h⟩ =>
  ⟨B, F, e, R, h.step fun F1 e1 d x H1 l1 R1 D1 h1 => ⟨B, F1, e1, R1, h1.step fun F2 e2 d2 y H2 l2 R2 D2 h2 => by
    obtain ⟨c, hc, h3⟩ := h2.lift
    exact ixD_ok T W B F2 e2 σ H2 d d2 x y Q c R2 (D1.mono l2) D2 hc h3⟩⟩
/-- slot i's own list, read at an index (it stays one's own) -/
def slotIxG (i : Nat) (g : En → Res D) : En → Res D := fun e => match e[i]?.bind Sl.cont with
  | some _ => (g e).bind fun d e1 => match e1[i]?.bind Sl.cont with
    | some c => lift (ixD c d) e1
    | none => .bad
  | none => .bad
theorem eslotIx {x : Str} {p : Pos} (i : Nat) (c : Cc X W k) (hb : PE X b (tE X.K X.mg T W g)) (hN : X.N[i]? = some x := by rfl) (hv : Vis X.env.scope x := by first | exact Or.inl rfl | exact Or.inr (Or.inl rfl) | exact Or.inr (Or.inr rfl)) (hd : (x == ("__debug__" : Str)) = false := by decide)
    (hcd : (x == ("__classdict__" : Str)) = false := by decide) (hs : PlainIx b := by intro _ _; rfl) : PE X (.Subscript (.Name x p) b pos) (tE X.K X.mg T W (slotIxG i g)) := conv (pe_ix (ix_all (hu_of c.room)) (pv i hN hv hd hcd) hb hs) fun σ H Q ⟨B, F, e, R, h⟩ => by
  unfold slotIxG at h
  split at h
  · rename_i c0 hc0
    obtain ⟨s, hs, hc⟩ := bind_some' hc0
    obtain ⟨a, e1, _, _⟩ := R.cont hs hc
    refine ⟨_, e1, B, F, e, R, h.step fun F1 e2 d y H1 l1 R1 D1 h1 => ?_⟩
    split at h1
    · rename_i c1 hc1
      obtain ⟨s1, hs1, hc1⟩ := bind_some' hc1
      obtain ⟨a1, k1, k2, ck⟩ := R1.cont hs1 hc1
      rw [e1] at k1; cases k1
      obtain ⟨r, hr, h2⟩ := h1.lift
      cases c1 with
      | lst ds =>
        obtain ⟨vs, e3, l⟩ := ck
        cases D1 with
        | int i => obtain ⟨v, h3, h4⟩ := l.atI hr; exact .inl ⟨_, _, i, v, rfl, rfl, SqL.of e3, h3, h2.ret R1 h4⟩
        | _ => cases hr
      | dct kvs =>
        obtain ⟨ws, e3, l⟩ := ck
        obtain ⟨k, h3, h4⟩ := bind_some' hr
        obtain ⟨v, h5, h6⟩ := l.find h4
        have hy : y = kV k := by cases D1 <;> cases h3 <;> rfl
        exact .inr (.inr (.inr ⟨_, v, rfl, .inl ⟨_, k, .inl e3, hy, h5.symm⟩, h2.ret R1 h6⟩))
      | obj _ _ => cases hr
      | _ => exact ck.elim
    · exact h1.elim
  · exact h.elim
/-! ### slices -/
def noP : En → Res (Option Int) := fun e => .ok none e
def someP (g : En → Res D) : En → Res (Option Int) := fun e => (g e).bind fun d e1 => match d with | .int i => .ok (some i) e1 | _ => .bad
def tP (K : PySem.W.Frag) (mg : MG) (T : Tb) (W : WX) (g : En → Res (Option Int)) : TO := fun σ H Q => ∃ (B : Bs T) (F : Hp) (e : En), Rel K mg B F e σ H ∧ Post K mg W B σ (fun _ a b => b = a) F (g e) Q
theorem pnone : PO X none (tP X.K X.mg T W noP) := ⟨fun pins s σ H Q I ⟨B, F, e, R, h⟩ => po_none.run pins s σ H Q I (h.ret R rfl)⟩
theorem psome (ha : PE X a (tE X.K X.mg T W ga)) : PO X (some a) (tP X.K X.mg T W (someP ga)) := ⟨fun pins s σ H Q I ⟨B, F, e, R, h⟩ => (po_some ha).run pins s σ H Q I ⟨B, F, e, R, h.step fun F1 e1 d x H1 l1 R1 D1 h1 => by
  split at h1
  · cases D1; exact ⟨_, rfl, h1.ret R1 rfl⟩
  · exact h1.elim⟩⟩
def cutD (xs : List D) (lo hi : Option Int) : List D := (xs.drop (HT.sIx xs.length 0 lo)).take (HT.sIx xs.length xs.length hi - HT.sIx xs.length 0 lo)
theorem DenL.cut {F : Hp} {ds : List D} {vs : List V} (l : DenL K mg F ds vs) (lo hi : Option Int) : DenL K mg F (cutD ds lo hi) (cutV vs lo hi) := by
  unfold cutD cutV
  rw [l.length]
  exact (l.drop _).take _
def slD : D → Option Int → Option Int → Option D
  | .tup xs, lo, hi => some (.tup (cutD xs lo hi))
  | .str z, lo, hi => if szOk z.length = true then some (.str (cutS z lo hi)) else none
  | _, _, _ => none
def slLD : D → Option Int → Option Int → Option D
  | .lst xs, lo, hi => some (.lst (cutD xs lo hi))
  | _, _, _ => none
def sliceG (f : D → Option Int → Option Int → Option D) (g : En → Res D) (l h : En → Res (Option Int)) : En → Res D := fun e => (g e).bind fun d e1 => (l e1).bind fun lo e2 => (h e2).bind fun hi e3 => lift (f d lo hi) e3
variable {lo hi : Option Expr} {gl gh : En → Res (Option Int)} {p2 : Pos}
theorem cut_whole {α : Type} {xs : List α} {lo hi : Option Int} (h1 : HT.sIx xs.length 0 lo = 0) (h2 : HT.sIx xs.length xs.length hi = xs.length) : (xs.drop (HT.sIx xs.length 0 lo)).take (HT.sIx xs.length xs.length hi - HT.sIx xs.length 0 lo) = xs := by
  rw [h1, h2]; simp
theorem eslice (ha : PE X a (tE X.K X.mg T W ga)) (hl : PO X lo (tP X.K X.mg T W gl)) (hh : PO X hi (tP X.K X.mg T W gh)) : PE X (.Subscript a (.Slice lo hi none p2) pos) (tE X.K X.mg T W (sliceG slD ga gl gh)) := conv (pe_slice (SlR.or sl_tupA sl_str) ha hl hh) fun σ H Q ⟨B, F, e, R, h⟩ =>
  ⟨B, F, e, R, h.step fun F1 e1 d x H1 l1 R1 D1 h1 => ⟨B, F1, e1, R1, h1.step fun F2 e2 lo lo' H2 l2 R2 e2' h2 => ⟨B, F2, e2, R2, h2.step fun F3 e3 hi hi' H3 l3 R3 e3' h3 => by
    subst e2' e3'
    obtain ⟨c, hc, h4⟩ := h3.lift
    have D3 := D1.mono (l2.trans l3)
    cases D3 with
    | tup hq l =>
      cases hc
      refine .inl ⟨_, _, rfl, hq.seq R3.sub, fun ⟨z1, z2⟩ => ?_, fun _ => h4.newT R3 (l.cut _ _)⟩
      unfold cutD at h4
      rw [cut_whole (by rw [l.length]; exact z1) (by rw [l.length]; exact z2)] at h4
      exact h4.ret R3 (.tup hq l)
    | str z => obtain ⟨hz, rfl⟩ := if_some hc; exact .inr ⟨z, rfl, szOk_of hz, h4.ret R3 (.str _)⟩
    | _ => cases hc⟩⟩⟩
theorem nslice (ha : PE X a (tE X.K X.mg T W ga)) (hl : PO X lo (tP X.K X.mg T W gl)) (hh : PO X hi (tP X.K X.mg T W gh)) : PE X (.Subscript a (.Slice lo hi none p2) pos) (tN X.K X.mg T W (sliceG slLD ga gl gh)) := conv (pe_slice sl_list ha hl hh) fun σ H Q ⟨B, F, e, R, h⟩ =>
  ⟨B, F, e, R, h.step fun F1 e1 d x H1 l1 R1 D1 h1 => ⟨B, F1, e1, R1, PostN.step (R := fun _ a b => b = a) h1 fun F2 e2 lo lo' H2 l2 R2 e2' h2 => ⟨B, F2, e2, R2, PostN.step (R := fun _ a b => b = a) h2 fun F3 e3 hi hi' H3 l3 R3 e3' h3 => by
    subst e2' e3'
    obtain ⟨c, hc, h4⟩ := h3.lift
    have D3 := D1.mono (l2.trans l3)
    cases D3 with
    | lst hq l => cases hc; exact ⟨_, _, rfl, hq.seq R3.sub, h4.newL R3 (l.cut _ _)⟩
    | _ => cases hc⟩⟩⟩

/-! ### built-in functions -/
def rLenA (K : PySem.W.Frag) : List V → Hp → VK → Prop := fun xs H Q => (∃ x n, xs = [x] ∧ LenV K x H n ∧ Q (.int n) H) ∨ ∃ a kvs, xs = [V.ref a] ∧ Rd H a (.dK kvs) ∧ Q (.int kvs.length) H
theorem call_lenA : CallR X (.builtin "len") (rLenA X.K) := CallR.or call_len fun pins s σ H xs us Q I r h => by
  obtain ⟨a, kvs, rfl, ha, q⟩ := h
  obtain ⟨u, rfl, ru⟩ := vals1 r
  cases ru
  exact d_len I ha fun t s' I' => ⟨.int kvs.length, H, I', ⟨t, rfl⟩, q⟩
def lenD : List D → Option D
  | [.str z] => if szOk z.length = true then some (.int z.length) else none
  | [.lst xs] => some (.int xs.length)
  | [.tup xs] => some (.int xs.length)
  | [.dct xs] => some (.int xs.length)
  | _ => none
theorem one_of {F : Hp} {as : List D} {xs : List V} (l : DenL K mg F as xs) {d : D} (h : as = [d]) : ∃ x, xs = [x] ∧ Den K mg F d x := by
  subst h
  cases l with
  | cons h t => cases t; exact ⟨_, rfl, h⟩
theorem two_of {F : Hp} {as : List D} {xs : List V} (l : DenL K mg F as xs) {d e : D} (h : as = [d, e]) : ∃ x y, xs = [x, y] ∧ Den K mg F d x ∧ Den K mg F e y := by
  subst h
  cases l with
  | cons h t =>
    obtain ⟨y, rfl, h2⟩ := one_of t rfl
    exact ⟨_, y, rfl, h, h2⟩
theorem lenD_ok : CaD K mg (rLenA K) lenD := by
  intro T W B F e σ H as xs Q c R Ds h P
  unfold lenD at h
  split at h
  · obtain ⟨hz, rfl⟩ := if_some h
    obtain ⟨x, rfl, d⟩ := one_of Ds rfl
    cases d
    exact .inl ⟨_, _, rfl, ⟨szOk_of hz, rfl⟩, P.ret R (.int _)⟩
  · cases h
    obtain ⟨x, rfl, d⟩ := one_of Ds rfl
    cases d with
    | lst hq l => exact .inl ⟨_, _, rfl, .inl ⟨_, hq.seq R.sub, rfl⟩, P.ret R (by rw [l.length]; exact .int _)⟩
  · cases h
    obtain ⟨x, rfl, d⟩ := one_of Ds rfl
    cases d with
    | tup hq l => exact .inl ⟨_, _, rfl, .inr ⟨_, hq.seq R.sub, rfl⟩, P.ret R (by rw [l.length]; exact .int _)⟩
  · cases h
    obtain ⟨x, rfl, d⟩ := one_of Ds rfl
    cases d with
    | dct hq l => exact .inr ⟨_, _, rfl, R.sub _ _ hq, P.ret R (by rw [l.length]; exact .int _)⟩
  · cases h
def absD : List D → Option D | [.int i] => some (.int (if i < 0 then -i else i)) | _ => none
theorem absD_ok : CaD K mg (fun xs H Q => ∃ i, xs = [.int i] ∧ Q (.int (if i < 0 then -i else i)) H) absD := by
  intro T W B F e σ H as xs Q c R Ds h P
  unfold absD at h
  split at h
  · cases h
    obtain ⟨x, rfl, d⟩ := one_of Ds rfl
    cases d
    exact ⟨_, rfl, P.ret R (.int _)⟩
  · cases h
def toInt : List D → Option D | [.int i] => some (.int i) | [.bl b] => some (.int (if b then 1 else 0)) | _ => none
theorem toInt_ok : CaD K mg (fun xs H Q => (∃ i, xs = [.int i] ∧ Q (.int i) H) ∨ ∃ k, xs = [.bl k] ∧ Q (.int (if k then 1 else 0)) H) toInt := by
  intro T W B F e σ H as xs Q c R Ds h P
  unfold toInt at h
  split at h
  · cases h
    obtain ⟨x, rfl, d⟩ := one_of Ds rfl
    cases d
    exact .inl ⟨_, rfl, P.ret R (.int _)⟩
  · cases h
    obtain ⟨x, rfl, d⟩ := one_of Ds rfl
    cases d
    exact .inr ⟨_, rfl, P.ret R (.int _)⟩
  · cases h
def int2 (f : Int → Int → Int) : List D → Option D | [.int i, .int j] => some (.int (f i j)) | _ => none
theorem int2_ok {f : Int → Int → Int} : CaD K mg (fun xs H Q => ∃ i j, xs = [.int i, .int j] ∧ Q (.int (f i j)) H) (int2 f) := by
  intro T W B F e σ H as xs Q c R Ds h P
  unfold int2 at h
  split at h
  · cases h
    obtain ⟨x, y, rfl, d, d'⟩ := two_of Ds rfl
    cases d; cases d'
    exact ⟨_, _, rfl, P.ret R (.int _)⟩
  · cases h
def maxI (i j : Int) : Int := if j > i then j else i
def minI (i j : Int) : Int := if j < i then j else i
def itemsD : D → Option (List D) | .lst xs => some xs | .tup xs => some xs | _ => none
def toLst : List D → Option D | [d] => (itemsD d).map .lst | _ => none
theorem toLst_ok : CaN K mg (fun xs H Q => ∃ p ys, xs = [.ref p] ∧ (SqL K H p ys ∨ SqT K H p ys) ∧ ∀ l, H l = none → Q (.ref l) (upd H l (.lst ys))) toLst := by
  intro T W B F e σ H as xs Q c R Ds h P
  unfold toLst at h
  split at h
  · obtain ⟨x, rfl, d⟩ := one_of Ds rfl
    obtain ⟨ds, h1, rfl⟩ := Option.map_eq_some_iff.mp h
    cases d with
    | lst hq l => cases h1; exact ⟨_, _, rfl, .inl (hq.seq R.sub), P.newL R l⟩
    | tup hq l => cases h1; exact ⟨_, _, rfl, .inr (hq.seq R.sub), P.newL R l⟩
    | _ => cases h1
  · cases h
def toTup : List D → Option D | [d] => (itemsD d).map .tup | _ => none
theorem toTup_ok : CaD K mg (fun xs H Q => ∃ p ys, xs = [.ref p] ∧ ((SqL K H p ys ∧ ∀ l, H l = none → Q (.ref l) (upd H l (.tup ys))) ∨ (SqT K H p ys ∧ Q (.ref p) H))) toTup := by
  intro T W B F e σ H as xs Q c R Ds h P
  unfold toTup at h
  split at h
  · obtain ⟨x, rfl, d⟩ := one_of Ds rfl
    obtain ⟨ds, h1, rfl⟩ := Option.map_eq_some_iff.mp h
    cases d with
    | lst hq l => cases h1; exact ⟨_, _, rfl, .inl ⟨hq.seq R.sub, P.newT R l⟩⟩
    | tup hq l => cases h1; exact ⟨_, _, rfl, .inr ⟨hq.seq R.sub, P.ret R (.tup hq l)⟩⟩
    | _ => cases h1
  · cases h
def bools : List D → Option (List Bool)
  | [] => some []
  | .bl b :: r => (bools r).map (b :: ·)
  | _ :: _ => none
theorem bools_vs {F : Hp} : ∀ {ds : List D} {vs : List V} {bs : List Bool}, DenL K mg F ds vs → bools ds = some bs → vs = bs.map V.bl
  | [], _, _, l, h => by cases h; cases l; rfl
  | .bl b :: r, _, _, l, h => by
    obtain ⟨bs, h1, rfl⟩ := Option.map_eq_some_iff.mp h
    cases l with
    | cons h t => cases h; rw [bools_vs t h1]; rfl
  | .non :: _, _, _, _, h => by cases h
  | .int _ :: _, _, _, _, h => by cases h
  | .str _ :: _, _, _, _, h => by cases h
  | .tup _ :: _, _, _, _, h => by cases h
  | .lst _ :: _, _, _, _, h => by cases h
  | .dct _ :: _, _, _, _, h => by cases h
  | .obj _ _ :: _, _, _, _, h => by cases h
  | .con _ :: _, _, _, _, h => by cases h
def allD : List D → Option D | [.lst ds] => (bools ds).map fun bs => .bl (bs.all id) | _ => none
def anyD : List D → Option D | [.lst ds] => (bools ds).map fun bs => .bl (bs.any id) | _ => none
theorem allD_ok : CaD K mg (rAll K) allD := by
  intro T W B F e σ H as xs Q c R Ds h P
  unfold allD at h
  split at h
  · obtain ⟨x, rfl, d⟩ := one_of Ds rfl
    obtain ⟨bs, h1, rfl⟩ := Option.map_eq_some_iff.mp h
    cases d with
    | lst hq l => exact ⟨_, bs, rfl, bools_vs l h1 ▸ hq.seq R.sub, P.ret R (.bl _)⟩
  · cases h
theorem anyD_ok : CaD K mg (rAny K) anyD := by
  intro T W B F e σ H as xs Q c R Ds h P
  unfold anyD at h
  split at h
  · obtain ⟨x, rfl, d⟩ := one_of Ds rfl
    obtain ⟨bs, h1, rfl⟩ := Option.map_eq_some_iff.mp h
    cases d with
    | lst hq l => exact ⟨_, bs, rfl, bools_vs l h1 ▸ hq.seq R.sub, P.ret R (.bl _)⟩
  · cases h
def divmodD : List D → Option D | [.int i, .int j] => if 0 < j ∧ j < 1073741824 then some (.tup [.int (i / j), .int (i % j)]) else none | _ => none
theorem divmodD_ok : CaD K mg (fun xs H Q => ∃ i j, xs = [.int i, .int j] ∧ CDiv i j ∧ ∀ p, H p = none → Q (.ref p) (upd H p (.tup [.int (i / j), .int (i % j)]))) divmodD := by
  intro T W B F e σ H as xs Q c R Ds h P
  unfold divmodD at h
  split at h
  · obtain ⟨h1, rfl⟩ := if_some h
    obtain ⟨x, y, rfl, d, d'⟩ := two_of Ds rfl
    cases d; cases d'
    exact ⟨_, _, rfl, h1, P.newT R (.cons (.int _) (.cons (.int _) .nil))⟩
  · cases h
/-! ### isinstance with a built-in type -/
def tyName : D → Option String
  | .non => some "NoneType"
  | .bl _ => some "bool"
  | .int _ => some "int"
  | .str _ => some "str"
  | .lst _ => some "list"
  | .tup _ => some "tuple"
  | .dct _ => some "dict"
  | _ => none
def isiT (n a : String) : Bool := a == n || (a == "bool" && n == "int")
def isiD (n : String) (d : D) : Option D := if ["int", "str", "bool", "tuple", "list", "dict"].contains n = true then (tyName d).map fun a => .bl (isiT n a) else none
theorem isiT_ok : ∀ n ∈ ["int", "str", "bool", "tuple", "list", "dict"], ∀ a ∈ ["NoneType", "bool", "int", "str", "list", "tuple", "dict"], kitB a n = some (isiT n a) := by decide +kernel
theorem tyName_mem {d : D} {a : String} (h : tyName d = some a) : a ∈ ["NoneType", "bool", "int", "str", "list", "tuple", "dict"] := by
  cases d <;> cases h <;> decide
theorem tyX_of {F H : Hp} {d : D} {v : V} {a : String} (s : Sub F H) (D0 : Den K mg F d v) (h : tyName d = some a) : TyX K H v (.type a) := by
  cases D0 with
  | non => cases h; exact .base .non
  | bl b => cases h; exact .base (.bl b)
  | int i => cases h; exact .base (.int i)
  | str x => cases h; exact .base (.str x)
  | lst hq l =>
    cases h
    rcases hq.rd s with z | ⟨o, z⟩
    · exact .base (.lst z)
    · exact .base (.frz z)
  | tup hq l =>
    cases h
    rcases hq with z | ⟨o, its, n, z, hc, _⟩
    · rcases s _ _ z with z | ⟨o, z⟩
      · exact .base (.tup z)
      · exact .fTuple z
    · exact .kTuple z hc
  | dct hq l =>
    cases h
    rcases s _ _ hq with z | ⟨o, z⟩
    · exact .base (.dK z)
    · exact .fDict z
  | _ => cases h
def isiG (n : String) (g : En → Res D) : En → Res D := fun e => (g e).bind fun d e1 => lift (isiD n d) e1
theorem eisi {t : Str} {n : String} {p1 p2 : Pos} (ha : PE X a (tE X.K X.mg T W ga)) (hg : Gl X "isinstance") (hm : X.mg "isinstance" = none) (hgt : Gl X t) (hmt : X.mg t = none) (hvt : bootBuiltins t = some (.type n) := by decide +kernel) (hnt : t ≠ "__name__" := by decide) (hdt : (t == ("__debug__" : Str)) = false := by decide)
    (he : starEach [a, .Name t p2] X.env = (false, eval a X.env) :: starEach [.Name t p2] X.env := by rfl) (hpl : (backTo pos (starEach [.Name t p2] X.env)).any (·.1) = false := by rfl) : PE X (.Call (.Name "isinstance" p1) [a, .Name t p2] [] pos) (tE X.K X.mg T W (isiG n ga)) :=
  conv (pe_callB call_isi hg hm (by decide +kernel) (pa_cons ha (pa_cons (pe_bltn (v := .ty n) hgt hmt hvt rfl hnt hdt) pa_nil) he) (by decide) (by decide) he hpl) fun σ H Q ⟨B, F, e, R, h⟩ =>
    ⟨B, F, e, R, h.step fun F1 e1 d x H1 l1 R1 D1 h1 => by
      obtain ⟨c, hc, h2⟩ := h1.lift
      unfold isiD at hc
      split at hc
      · rename_i hn
        obtain ⟨a, h3, rfl⟩ := Option.map_eq_some_iff.mp hc
        exact ⟨x, .ty n, .type a, .type n, _, rfl, .ty n, tyX_of R1.sub D1 h3, kit_ty (isiT_ok n (by simpa using hn) a (tyName_mem h3)), h2.ret R1 (.bl _)⟩
      · cases hc⟩
/-! ### lists changed in place -/
def appD : D → List D → Option (D × D)
  | .lst xs, [d] => if xs.length < sizeLine then some (.lst (xs ++ [d]), .non) else none
  | _, _ => none
theorem appD_ok : MuD K mg rAppend appD := by
  intro F H a c as xs Q c' v s ck l h P
  unfold appD at h
  split at h
  · obtain ⟨hz, h2⟩ := if_some h
    cases h2
    obtain ⟨vs, e1, l1⟩ := ck
    obtain ⟨x, rfl, d⟩ := one_of l rfl
    exact ⟨a, vs, x, rfl, rfl, e1, by rw [← l1.length]; exact hz, P _ _ ⟨_, upd_same, l1.append (.cons d .nil)⟩ .non⟩
  · cases h
def rExtR (K : PySem.W.Frag) : V → List V → Hp → VK → Prop := fun x vs H Q => ∃ l b xs zs, x = .ref l ∧ vs = [.ref b] ∧ H l = some (.lst xs) ∧ Rd H b (.lst zs) ∧ xs.length + zs.length ≤ sizeLine ∧ Q .non (upd H l (.lst (xs ++ zs)))
theorem mt_extR : MtM X "list.extend" (rExtR X.K) := by
  intro pins s σ H x vs v us Q I rx rv h
  obtain ⟨l, b, xs, zs, rfl, rfl, hH, hB, hz, q⟩ := h
  cases rx
  obtain ⟨u, rfl, ru⟩ := rv.one
  cases ru
  obtain ⟨z, its, n, r, hl, e⟩ := I.lstM hH
  obtain ⟨z2, its2, n2, r2, hl2, e2⟩ := rd_list I hB
  have hsz : its.toArray.size + its2.toArray.size ≤ sizeLine := by rw [List.size_toArray, List.size_toArray]; omega
  have hlong : ¬ (!its.toArray.isEmpty && Builtin.List.listTooLong (its.toArray.size + its2.toArray.size)) = true := by
    rw [notLongL hsz, Bool.and_false]
    exact Bool.false_ne_true
  refine call_meets PySem.F.slot_list_extend ⟨_, e, rfl⟩ PySem.F.entry_list_extend (PySem.F.args_list_extend_2 _ _)
    (AutoSeq1.list_extend_list_list_0 l its.toArray n b its2.toArray n2 hlong (by rw [List.size_toArray]; omega) (by omega)) ⟨e, e2, ?_⟩
  refine ⟨.non, _, I.lset (its' := its ++ its2) hH e (by simp) (r.append r2) ?_, rfl, q⟩
  rw [List.length_append]
  omega
def extD : D → List D → Option (D × D)
  | .lst xs, [.lst ys] => if szOk (xs.length + ys.length) = true then some (.lst (xs ++ ys), .non) else none
  | _, _ => none
theorem extD_ok : MuD K mg (rExtR K) extD := by
  intro F H a c as xs Q c' v s ck l h P
  unfold extD at h
  split at h
  · obtain ⟨hz, h2⟩ := if_some h
    cases h2
    obtain ⟨vs, e1, l1⟩ := ck
    obtain ⟨x, rfl, d⟩ := one_of l rfl
    cases d with
    | lst hq l2 => exact ⟨a, _, vs, _, rfl, rfl, e1, hq.rd s, by rw [← l1.length, ← l2.length]; exact szOk_of hz, P _ _ ⟨_, upd_same, l1.append l2⟩ .non⟩
  · cases h
def popD : D → List D → Option (D × D)
  | .lst xs, [] => (xs[xs.length - 1]?).map fun d => (.lst xs.dropLast, d)
  | _, _ => none
theorem popD_ok : MuD K mg rPop popD := by
  intro F H a c as xs Q c' v s ck l h P
  unfold popD at h
  split at h
  · obtain ⟨d, h1, h2⟩ := Option.map_eq_some_iff.mp h
    cases h2
    obtain ⟨vs, e1, l1⟩ := ck
    cases l
    obtain ⟨x, h3, h4⟩ := l1.get h1
    exact ⟨a, vs, x, rfl, rfl, e1, by rw [← l1.length]; exact h3, P _ _ ⟨_, upd_same, l1.dropLast⟩ h4⟩
  · cases h
def popAtD : D → List D → Option (D × D)
  | .lst xs, [.int i] => if 0 ≤ i ∧ i < 2 ^ 63 then (xs[i.toNat]?).map fun d => (.lst (xs.eraseIdx i.toNat), d) else none
  | _, _ => none
theorem popAtD_ok : MuD K mg rPopAt popAtD := by
  intro F H a c as xs Q c' v s ck l h P
  unfold popAtD at h
  split at h
  · split at h
    · rename_i hi
      obtain ⟨d, h1, h2⟩ := Option.map_eq_some_iff.mp h
      cases h2
      obtain ⟨vs, e1, l1⟩ := ck
      obtain ⟨y, rfl, d'⟩ := one_of l rfl
      cases d'
      obtain ⟨x, h3, h4⟩ := l1.get h1
      have hlt := (List.getElem?_eq_some_iff.mp h3).1
      exact ⟨a, vs, _, _, x, rfl, rfl, e1, by omega, hi.2, seqIndex_of hi.1 (by omega), h3, P _ _ ⟨_, upd_same, l1.eraseIdx _⟩ h4⟩
    · cases h
  · cases h
end
end L2.PV

set_option Elab.async false
set_option linter.all false
set_option maxRecDepth 100000
set_option autoImplicit false
namespace L2.PV
open PySem PySem.Spec PyProof.Rows
section
variable {X : Cx} {T : Tb} {W : WX} {a b c : Expr} {g ga gb gc : En → Res D} {pos : Pos} {K : PySem.W.Frag} {mg : MG} {k : Nat}
/-! ### + and * of any kind -/
def addV (a b : D) : Option D := match addD a b with | some d => some d | none => catD a b
theorem addV_ok : OpD K mg (fun x y H Q => rAddA K x y H Q ∨ rCatR x y H Q) addV := by
  intro T W B F e σ H a b x y Q c R Da Db h P
  unfold addV at h
  cases q : addD a b with
  | some d => rw [q] at h; cases h; exact .inl (addD_ok T W B F e σ H a b x y Q _ R Da Db q P)
  | none => rw [q] at h; exact .inr (catD_ok T W B F e σ H a b x y Q _ R Da Db h P.toN)
theorem eaddV (ha : PE X a (tE X.K X.mg T W ga)) (hb : PE X b (tE X.K X.mg T W gb)) : PE X (.BinOp a .Add b pos) (tE X.K X.mg T W (op2G addV ga gb)) := eop (OpR.or op_addA op_catR) addV_ok ha hb
/-- text * n -/
def repS (x : Str) (n : Nat) : Str := ⟨(List.replicate n x.cps.toList).flatten.toArray⟩
def CRepS (x : Str) (n : Int) : Prop := -(2 ^ 30) < n ∧ n < 2 ^ 30 ∧ x.length * n.toNat ≤ sizeLine
def rRepS : R2 := fun x y H Q => ∃ z n, x = .str z ∧ y = .int n ∧ CRepS z n ∧ Q (.str (repS z n.toNat)) H
theorem foldl_cps (c : Array Nat) : ∀ (n : Nat) (acc : List Nat), (List.replicate n c).foldl (fun x1 x2 => x1 ++ x2) acc.toArray = (acc ++ (List.replicate n c.toList).flatten).toArray
  | 0, acc => by simp
  | n + 1, acc => by
    rw [List.replicate_succ, List.foldl_cons, List.replicate_succ, List.flatten_cons]
    have : acc.toArray ++ c = (acc ++ c.toList).toArray := by
      apply Array.ext'; simp
    rw [this, foldl_cps c n, List.append_assoc]
theorem op_repS : OpR X (binaryOp .Mult) rRepS := by
  intro pins s σ H x y v u Q I rx ry h
  obtain ⟨z, n, rfl, rfl, ⟨h1, h2, h3⟩, q⟩ := h
  obtain ⟨t, rfl⟩ := rx
  obtain ⟨t', rfl⟩ := ry
  have hz : sizeLine = 16777216 := sizeLine_eq
  have e0 : (List.replicate n.toNat z.cps).foldl (fun x1 x2 => x1 ++ x2) #[] = (repS z n.toNat).cps := by
    have := foldl_cps z.cps n.toNat []
    simpa [repS] using this
  refine PySem.P.mul_str (by rw [decide_eq_false (by omega), decide_eq_false (by omega)]; rfl) (fun g1 g2 => ?_) (fun g1 g2 => ?_) ?_
  · intro hh
    have h5 : (2 : Int) ^ 63 - 1 = 9223372036854775807 := by decide
    rw [h5] at hh
    have h6 : (8589934591 : Int) ≤ 9223372036854775807 / n := by
      rw [Int.le_ediv_iff_mul_le (by omega)]; omega
    have hn1 : 1 ≤ n.toNat := by omega
    have h7 : z.length ≤ z.length * n.toNat := Nat.le_mul_of_pos_right _ hn1
    omega
  · unfold Builtin.Str.tooLong; rw [decide_eq_false]; omega
  · split
    · rename_i hn
      have : n.toNat = 0 := by omega
      have e1 : (Str.empty : Str) = repS z n.toNat := by rw [this]; rfl
      refine ⟨by decide, ?_⟩
      exact ⟨.str (repS z n.toNat), H, I.tok _, ⟨_, by rw [← e1]⟩, q⟩
    · split
      · rename_i hn hc
        have e1 : z = repS z n.toNat := by
          obtain ⟨⟨l⟩⟩ := z
          rcases Bool.or_eq_true_iff.mp hc with w | w
          · have : n = 1 := by simpa using w
            subst this
            simp [repS]
          · have w' : l.length = 0 := beq_iff_eq.mp w
            have : l = [] := List.length_eq_zero_iff.mp w'
            subst this
            simp [repS]
        exact ⟨.str (repS z n.toNat), H, I, ⟨t, by rw [← e1]⟩, q⟩
      · rw [e0]
        refine ⟨?_, ⟨.str (repS z n.toNat), H, I.tok _, ⟨_, rfl⟩, q⟩⟩
        show (repS z n.toNat).length ≤ sizeLine
        have : (repS z n.toNat).length = n.toNat * z.length := by
          show ((List.replicate n.toNat z.cps.toList).flatten.toArray).size = n.toNat * z.cps.size
          simp
        rw [this, Nat.mul_comm]; exact h3
instance {x : Str} {n : Int} : Decidable (CRepS x n) := by unfold CRepS; infer_instance
def mulV : D → D → Option D
  | .int i, .int j => (mulI i j).map .int
  | .str z, .int n => if CRepS z n then some (.str (repS z n.toNat)) else none
  | a, b => repD a b
theorem mulV_ok : OpD K mg (fun x y H Q => rI CMul (fun i j => .int (i * j)) x y H Q ∨ rRepS x y H Q ∨ rRepR x y H Q) mulV := by
  intro T W B F e σ H a b x y Q c R Da Db h P
  unfold mulV at h
  split at h
  · obtain ⟨k, h1, rfl⟩ := Option.map_eq_some_iff.mp h
    obtain ⟨h2, rfl⟩ := if_some h1
    cases Da; cases Db
    exact .inl ⟨_, _, rfl, rfl, h2, P.ret R (.int _)⟩
  · obtain ⟨h2, rfl⟩ := if_some h
    cases Da; cases Db
    exact .inr (.inl ⟨_, _, rfl, rfl, h2, P.ret R (.str _)⟩)
  · exact .inr (.inr (repD_ok T W B F e σ H a b x y Q _ R Da Db h P.toN))
theorem emulV (ha : PE X a (tE X.K X.mg T W ga)) (hb : PE X b (tE X.K X.mg T W gb)) : PE X (.BinOp a .Mult b pos) (tE X.K X.mg T W (op2G mulV ga gb)) := eop (OpR.or op_mul (OpR.or op_repS op_repR)) mulV_ok ha hb
/-- slices of any kind, as values -/
theorem esliceL {lo hi : Option Expr} {gl gh : En → Res (Option Int)} {p2 : Pos} (ha : PE X a (tE X.K X.mg T W ga)) (hl : PO X lo (tP X.K X.mg T W gl)) (hh : PO X hi (tP X.K X.mg T W gh)) :
    PE X (.Subscript a (.Slice lo hi none p2) pos) (tE X.K X.mg T W (sliceG (fun d l h => match slD d l h with | some r => some r | none => slLD d l h) ga gl gh)) := conv (pe_slice (SlR.or (SlR.or sl_tupA sl_str) sl_list) ha hl hh) fun σ H Q ⟨B, F, e, R, h⟩ =>
  ⟨B, F, e, R, h.step fun F1 e1 d x H1 l1 R1 D1 h1 => ⟨B, F1, e1, R1, h1.step fun F2 e2 lo lo' H2 l2 R2 e2' h2 => ⟨B, F2, e2, R2, h2.step fun F3 e3 hi hi' H3 l3 R3 e3' h3 => by
    subst e2' e3'
    obtain ⟨c, hc, h4⟩ := h3.lift
    have D3 := D1.mono (l2.trans l3)
    cases D3 with
    | tup hq l =>
      cases hc
      refine .inl (.inl ⟨_, _, rfl, hq.seq R3.sub, fun ⟨z1, z2⟩ => ?_, fun _ => h4.newT R3 (l.cut _ _)⟩)
      unfold cutD at h4
      rw [cut_whole (by rw [l.length]; exact z1) (by rw [l.length]; exact z2)] at h4
      exact h4.ret R3 (.tup hq l)
    | str z =>
      have hc : (match (if szOk z.length = true then some (D.str (cutS z lo' hi')) else none) with | some r => some r | none => none) = some c := hc
      split at hc
      · rename_i r hr
        obtain ⟨hz, rfl⟩ := if_some hr
        cases hc
        exact .inl (.inr ⟨z, rfl, szOk_of hz, h4.ret R3 (.str _)⟩)
      · cases hc
    | lst hq l => cases hc; exact .inr ⟨_, _, rfl, hq.seq R3.sub, h4.toN.newL R3 (l.cut _ _)⟩
    | _ => cases hc⟩⟩⟩

/-! ### several at once, values and new objects -/
/-- the items in hand: a value, or an object that nobody else knows -/
def HandOk (K : PySem.W.Frag) (mg : MG) {T : Tb} (B : Bs T) (σ : St) (F H : Hp) (e : En) : List (Bool × D) → List V → Prop
  | [], [] => True
  | (false, d) :: r, v :: vs => Den K mg F d v ∧ HandOk K mg B σ F H e r vs
  | (true, d) :: r, v :: vs => (∃ a, v = .ref a ∧ F a = none ∧ B.H0 a = none ∧ Cont K mg F H a d ∧ (∀ (j : Nat) (s : Sl), e[j]? = some s → s.hot = true → σ[j]? ≠ some (some (.ref a))) ∧
      ∀ (j : Nat) (d' : D), r[j]? = some (true, d') → vs[j]? ≠ some (.ref a)) ∧ HandOk K mg B σ F H e r vs
  | _, _ => False
def PostK (K : PySem.W.Frag) (mg : MG) (W : WX) {T : Tb} (B : Bs T) (σ : St) (F : Hp) (r : Res (List (Bool × D))) (Q : List V → Hp → Prop) : Prop := match r with
  | .ok is e => ∀ F' vs H', Le F F' → Rel K mg B F' e σ H' → HandOk K mg B σ F' H' e is vs → Q vs H'
  | .exc x e => ∀ F' c dd H', Le F F' → Rel K mg B F' e σ H' → DenX K mg F' x c dd → W c dd σ H'
  | .bad => False
def tK (K : PySem.W.Frag) (mg : MG) (T : Tb) (W : WX) (g : En → Res (List (Bool × D))) : TA := fun σ H Q => ∃ (B : Bs T) (F : Hp) (e : En), Rel K mg B F e σ H ∧ PostK K mg W B σ F (g e) Q
def nilK : En → Res (List (Bool × D)) := fun e => .ok [] e
def valK (g : En → Res D) (k : En → Res (List (Bool × D))) : En → Res (List (Bool × D)) := fun e => (g e).bind fun d e1 => (k e1).bind fun ds e2 => .ok ((false, d) :: ds) e2
def ownK (g : En → Res D) (k : En → Res (List (Bool × D))) : En → Res (List (Bool × D)) := fun e => (g e).bind fun d e1 => (k e1).bind fun ds e2 => .ok ((true, d) :: ds) e2
theorem PostK.le {T : Tb} {B : Bs T} {σ : St} {F G : Hp} {r : Res (List (Bool × D))} {Q : List V → Hp → Prop} (h : PostK K mg W B σ F r Q) (s : Le F G) : PostK K mg W B σ G r Q := by
  cases r with
  | ok a e => exact fun F' b H' l => h F' b H' (s.trans l)
  | exc x e => exact fun F' c dd H' l => h F' c dd H' (s.trans l)
  | bad => exact h
variable {e : Expr} {es : List Expr} {kk : En → Res (List (Bool × D))}
theorem knil : PA X [] (tK X.K X.mg T W nilK) := convA pa_nil fun σ H Q ⟨B, F, e, R, h⟩ => h F [] H (Le.refl F) R trivial
theorem kval (ha : PE X e (tE X.K X.mg T W g)) (hr : PA X es (tK X.K X.mg T W kk)) (hs : starEach (e :: es) X.env = (false, eval e X.env) :: starEach es X.env := by rfl) : PA X (e :: es) (tK X.K X.mg T W (valK g kk)) := convA (pa_cons ha hr hs) fun σ H Q ⟨B, F, e, R, h⟩ =>
  ⟨B, F, e, R, by
    unfold valK at h
    cases q : g e with
    | bad => rw [q] at h; exact h
    | exc x e1 => rw [q] at h; exact h
    | ok d e1 =>
      rw [q] at h
      intro F1 v H1 l1 R1 D1
      refine ⟨B, F1, e1, R1, ?_⟩
      have h := PostK.le h l1
      simp only [Res.bind] at h
      cases q2 : kk e1 with
      | bad => rw [q2] at h; exact h
      | exc x e2 => rw [q2] at h; exact h
      | ok ds e2 =>
        rw [q2] at h
        exact fun F2 vs H2 l2 R2 hk => h F2 (v :: vs) H2 l2 R2 ⟨D1.mono l2, hk⟩⟩
theorem kown (ha : PE X e (tN X.K X.mg T W g)) (hr : PA X es (tK X.K X.mg T W kk)) (hs : starEach (e :: es) X.env = (false, eval e X.env) :: starEach es X.env := by rfl) : PA X (e :: es) (tK X.K X.mg T W (ownK g kk)) := convA (pa_cons ha hr hs) fun σ H Q ⟨B, F, e, R, h⟩ =>
  ⟨B, F, e, R, by
    unfold ownK at h
    cases q : g e with
    | bad => rw [q] at h; exact h
    | exc x e1 => rw [q] at h; exact h
    | ok d e1 =>
      rw [q] at h
      intro F1 a H1 l1 R1 n n0 ck hn
      obtain ⟨o, ho, ht, hx⟩ := ck.tracked'
      have h := PostK.le h l1
      simp only [Res.bind] at h
      -- the object stands among the old ones
      have offF : B.F0 a = none := by
        cases z : B.F0 a with
        | none => rfl
        | some u =>
          have := R1.low _ _ z
          rw [n] at this; cases this
      have offA : B.off a := ⟨n0, offF, fun i hi => by
        obtain ⟨d', hd'⟩ := R1.ios i a hi
        obtain ⟨a', k1, k2, k3, _⟩ := R1.at' i _ hd'
        rw [hi] at k3; cases k3
        exact hn i _ hd' rfl k1⟩
      have RB : Rel X.K X.mg (B.wth a o) F1 e1 σ H1 := by
        refine ⟨R1.sub, fun b u q t io => ?_, fun b u q t => ?_, R1.tabs, R1.low, fun b u q => ?_, R1.len, fun i s hs => ?_, R1.ios, R1.apart, R1.noT⟩
        · have q : upd B.H0 a o b = some u := q
          by_cases hb : b = a
          · subst hb; rw [upd_same] at q; cases q; exact ho
          · rw [upd_ne hb] at q; exact R1.old b u q t io
        · have q : upd B.H0 a o b = some u := q
          by_cases hb : b = a
          · subst hb; rw [upd_same] at q; cases q; rw [ht] at t; cases t
          · rw [upd_ne hb] at q; exact R1.oldT b u q t
        · rcases R1.fr b u q with z | z
          · exact .inl z
          · right
            have hb : b ≠ a := ne_of_none q n
            show upd B.H0 a o b = none
            rw [upd_ne hb]; exact z
        · have z := R1.at' i s hs
          cases s with
          | un => trivial
          | val d => exact z
          | io d => exact z
          | own d =>
            obtain ⟨b, k1, k2, k3, k4⟩ := z
            have hb : b ≠ a := fun w => hn i _ hs rfl (w ▸ k1)
            refine ⟨b, k1, k2, ?_, k4⟩
            show upd B.H0 a o b = none
            rw [upd_ne hb]; exact k3
      refine ⟨B.wth a o, F1, e1, RB, ?_⟩
      cases q2 : kk e1 with
      | bad => rw [q2] at h; exact h
      | exc x e2 => rw [q2] at h; exact fun F2 c dd H2 l2 R2 hd => h F2 c dd H2 l2 (R2.unbase offA) hd
      | ok ds e2 =>
        rw [q2] at h
        intro F2 vs H2 l2 R2 hk
        obtain ⟨hH, hF⟩ := R2.atBase offA ht
        -- what the others are, by the frame itself
        have fix : ∀ {ds : List (Bool × D)} {vs : List V}, HandOk X.K X.mg (B.wth a o) σ F2 H2 e2 ds vs → HandOk X.K X.mg B σ F2 H2 e2 ds vs ∧ ∀ (j : Nat) (d' : D), ds[j]? = some (true, d') → vs[j]? ≠ some (.ref a) := by
          intro ds
          induction ds with
          | nil => intro vs h; cases vs with | nil => exact ⟨trivial, fun j d' h => by simp at h⟩ | cons _ _ => exact h.elim
          | cons p ds ih =>
            intro vs h
            obtain ⟨k, d0⟩ := p
            cases vs with
            | nil => cases k <;> exact h.elim
            | cons v vs =>
              cases k with
              | false =>
                obtain ⟨h1, h2⟩ := h
                obtain ⟨g1, g2⟩ := ih h2
                exact ⟨⟨h1, g1⟩, fun j d' hj => by cases j with | zero => simp at hj | succ j => simpa using g2 j d' (by simpa using hj)⟩
              | true =>
                obtain ⟨⟨b, w1, w2, w3, w4, w5, w6⟩, h2⟩ := h
                obtain ⟨g1, g2⟩ := ih h2
                have w3 : upd B.H0 a o b = none := w3
                have hb : b ≠ a := by rintro rfl; rw [upd_same] at w3; cases w3
                rw [upd_ne hb] at w3
                refine ⟨⟨⟨b, w1, w2, w3, w4, w5, w6⟩, g1⟩, fun j d' hj => ?_⟩
                cases j with
                | zero => intro hv; simp at hv; rw [w1] at hv; cases hv; exact hb rfl
                | succ j => simpa using g2 j d' (by simpa using hj)
        obtain ⟨k1, k2⟩ := fix hk
        exact h F2 (.ref a :: vs) H2 l2 (R2.unbase offA) ⟨⟨a, rfl, hF, n0, (ck.mono l2).heap (by rw [hH, ho]), fun j s hj ht' => R2.offHot offA hj ht', k2⟩, k1⟩⟩
/-- stores, from the left -/
def putPar : List Nat → List (Bool × D) → En → Option En
  | [], [], e => some e
  | i :: is, (false, d) :: r, e => (putV i d e).bind (putPar is r)
  | i :: is, (true, d) :: r, e => (putO i d e).bind (putPar is r)
  | _, _, _ => none
def setAll : List Nat → List V → St → St
  | i :: is, v :: vs, σ => setAll is vs (σ.set i (some v))
  | _, _, σ => σ
theorem putPar_ok {B : Bs T} {F H : Hp} : ∀ {is : List Nat} {ds : List (Bool × D)} {vs : List V} {e e' : En} {σ : St}, Rel K mg B F e σ H → HandOk K mg B σ F H e ds vs → putPar is ds e = some e' → Rel K mg B F e' (setAll is vs σ) H
  | [], [], [], _, _, _, R, _, h => by cases h; exact R
  | i :: is, (false, d) :: r, v :: vs, e, e', σ, R, ⟨h1, h2⟩, h => by
    obtain ⟨e1, h3, h4⟩ := bind_some' h
    have R1 := putV_ok R h1 h3
    have keep : ∀ {r : List (Bool × D)} {vs : List V}, HandOk K mg B σ F H e r vs → HandOk K mg B (σ.set i (some v)) F H e1 r vs := by
      intro r
      induction r with
      | nil => intro vs h; cases vs <;> exact h
      | cons p r ih =>
        intro vs h
        obtain ⟨k, d0⟩ := p
        cases vs with
        | nil => cases k <;> exact h.elim
        | cons w vs =>
          cases k with
          | false => exact ⟨h.1, ih h.2⟩
          | true =>
            obtain ⟨⟨b, w1, w2, w3, w4, w5, w6⟩, h2⟩ := h
            refine ⟨⟨b, w1, w2, w3, w4, fun j s hj ht => ?_, w6⟩, ih h2⟩
            unfold putV at h3
            split at h3
            · rename_i s0 hs0
              split at h3
              · cases h3
              · cases h3
                by_cases hij : i = j
                · subst hij
                  rw [List.getElem?_set_self (List.getElem?_eq_some_iff.mp hs0).1] at hj
                  cases hj; cases ht
                · rw [List.getElem?_set_ne hij] at hj
                  rw [List.getElem?_set_ne hij]
                  exact w5 j s hj ht
            · cases h3
    show Rel K mg B F e' (setAll is vs (σ.set i (some v))) H
    exact putPar_ok R1 (keep h2) h4
  | i :: is, (true, d) :: r, v :: vs, e, e', σ, R, ⟨⟨a, h1, n, n0, ck, hn, hd⟩, h2⟩, h => by
    obtain ⟨e1, h3, h4⟩ := bind_some' h
    subst h1
    have R1 := putO_ok R n n0 ck hn h3
    have keep : ∀ {r : List (Bool × D)} {vs : List V}, HandOk K mg B σ F H e r vs → (∀ (j : Nat) (d' : D), r[j]? = some (true, d') → vs[j]? ≠ some (.ref a)) → HandOk K mg B (σ.set i (some (.ref a))) F H e1 r vs := by
      intro r
      induction r with
      | nil => intro vs h _; cases vs <;> exact h
      | cons p r ih =>
        intro vs h hd
        obtain ⟨k, d0⟩ := p
        cases vs with
        | nil => cases k <;> exact h.elim
        | cons w vs =>
          have hd' : ∀ (j : Nat) (d' : D), r[j]? = some (true, d') → vs[j]? ≠ some (.ref a) := fun j d' q => by simpa using hd (j + 1) d' (by simpa using q)
          cases k with
          | false => exact ⟨h.1, ih h.2 hd'⟩
          | true =>
            obtain ⟨⟨b, w1, w2, w3, w4, w5, w6⟩, h2⟩ := h
            have hba : b ≠ a := by
              rintro rfl
              exact hd 0 d0 rfl (by rw [w1]; rfl)
            refine ⟨⟨b, w1, w2, w3, w4, fun j s hj ht => ?_, w6⟩, ih h2 hd'⟩
            unfold putO at h3
            split at h3
            · rename_i s0 hs0
              split at h3
              · cases h3
              · cases h3
                by_cases hij : i = j
                · subst hij
                  rw [List.getElem?_set_self (by rw [← R.len]; exact (List.getElem?_eq_some_iff.mp hs0).1)]
                  intro q; cases q; exact hba rfl
                · rw [List.getElem?_set_ne hij] at hj
                  rw [List.getElem?_set_ne hij]
                  exact w5 j s hj ht
            · cases h3
    show Rel K mg B F e' (setAll is vs (σ.set i (some (.ref a)))) H
    exact putPar_ok R1 (keep h2 hd) h4
  | [], _ :: _, _, _, _, _, _, _, h => by cases h
  | [], [], _ :: _, _, _, _, _, h, _ => h.elim
  | _ :: _, [], _, _, _, _, _, _, h => by cases h
  | _ :: _, (false, _) :: _, [], _, _, _, _, h, _ => h.elim
  | _ :: _, (true, _) :: _, [], _, _, _, _, h, _ => h.elim
def parS (is : List Nat) (k : En → Res (List (Bool × D))) : En → Out := fun e => (k e).thn fun ds e1 => nxO (putPar is ds e1)
theorem PostS.stepK {B : Bs T} {σ : St} {F : Hp} {N : Ends} {r : Res (List (Bool × D))} {k : List (Bool × D) → En → Out} {KK : List V → Hp → Prop} (h : PostS K mg W B F (r.thn k) N)
    (f : ∀ F1 e1 ds vs H1, Le F F1 → Rel K mg B F1 e1 σ H1 → HandOk K mg B σ F1 H1 e1 ds vs → PostS K mg W B F1 (k ds e1) N → KK vs H1) : PostK K mg W B σ F r KK := by
  cases r with
  | ok ds e => exact fun F' vs H' l R1 hk => f F' e ds vs H' l R1 hk (PostS.le h l)
  | exc x e => exact fun F' c dd H' l R1 hx => h F' c dd σ H' l R1 hx
  | bad => exact h
theorem hand_len {B : Bs T} {σ : St} {F H : Hp} {e : En} : ∀ {ds : List (Bool × D)} {vs : List V}, HandOk K mg B σ F H e ds vs → ds.length = vs.length
  | [], [], _ => rfl
  | (false, _) :: r, _ :: vs, ⟨_, h⟩ => by rw [List.length_cons, List.length_cons, hand_len h]
  | (true, _) :: r, _ :: vs, ⟨_, h⟩ => by rw [List.length_cons, List.length_cons, hand_len h]
  | [], _ :: _, h => h.elim
  | (false, _) :: _, [], h => h.elim
  | (true, _) :: _, [], h => h.elim
theorem putPar_len : ∀ {is : List Nat} {ds : List (Bool × D)} {e e' : En}, putPar is ds e = some e' → ds.length = is.length
  | [], [], _, _, _ => rfl
  | i :: is, (false, d) :: r, e, e', h => by obtain ⟨e1, _, h4⟩ := bind_some' h; rw [List.length_cons, List.length_cons, putPar_len h4]
  | i :: is, (true, d) :: r, e, e', h => by obtain ⟨e1, _, h4⟩ := bind_some' h; rw [List.length_cons, List.length_cons, putPar_len h4]
  | [], _ :: _, _, _, h => by cases h
  | _ :: _, [], _, _, h => by cases h
variable {x y z : Str} {px py pz pt : Pos} {kt k2 : Nat} {pt2 : Pos}
theorem spar (i j : Nat) (cc : Cc X W k) (ha : PA X [a, b] (tK X.K X.mg T W kk)) (hij : i ≠ j := by decide) (hi : X.N[i]? = some x := by rfl) (hj : X.N[j]? = some y := by rfl)
    (hx : X.env.scope.names.lookup x = some .local := by rfl) (hy : X.env.scope.names.lookup y = some .local := by rfl)
    (hw : swappedStores [.Tuple [.Name x px, .Name y py] kt pt] (.Tuple [a, b] k2 pt2) X.env = pure (some [x, y]) := by rfl)
    (hs : swapsWithSole [.Tuple [.Name x px, .Name y py] kt pt] (.Tuple [a, b] k2 pt2) pos.line X.env = pure false := by rfl) :
    PS X (.Assign [.Tuple [.Name x px, .Name y py] kt pt] (.Tuple [a, b] k2 pt2) pos) (tS X.K X.mg T W (parS [i, j] kk)) := convS (ps_par cc.calm cc.nd hi hj hij hx hy ha hw hs) fun N σ H ⟨B, F, e, R, q⟩ =>
  ⟨B, F, e, R, PostS.stepK q fun F1 e1 ds vs H1 l1 R1 hk q1 => by
    cases hp : putPar [i, j] ds e1 with
    | none => rw [hp] at q1; exact q1.elim
    | some e2 =>
      rw [hp] at q1
      have hl := (hand_len hk).symm.trans (putPar_len hp)
      match vs, hl, hk with
      | [v, w], _, hk => exact ⟨v, w, rfl, q1 F1 _ H1 (Le.refl F1) (putPar_ok R1 hk hp)⟩⟩
theorem spar3 (i j l : Nat) (cc : Cc X W k) (ha : PA X [a, b, c] (tK X.K X.mg T W kk)) (hij : i ≠ j := by decide) (hil : i ≠ l := by decide) (hjl : j ≠ l := by decide) (hi : X.N[i]? = some x := by rfl) (hj : X.N[j]? = some y := by rfl) (hl : X.N[l]? = some z := by rfl)
    (hx : X.env.scope.names.lookup x = some .local := by rfl) (hy : X.env.scope.names.lookup y = some .local := by rfl) (hz : X.env.scope.names.lookup z = some .local := by rfl)
    (hw : swappedStores [.Tuple [.Name x px, .Name y py, .Name z pz] kt pt] (.Tuple [a, b, c] k2 pt2) X.env = pure (some [x, y, z]) := by rfl)
    (hs : swapsWithSole [.Tuple [.Name x px, .Name y py, .Name z pz] kt pt] (.Tuple [a, b, c] k2 pt2) pos.line X.env = pure false := by rfl) :
    PS X (.Assign [.Tuple [.Name x px, .Name y py, .Name z pz] kt pt] (.Tuple [a, b, c] k2 pt2) pos) (tS X.K X.mg T W (parS [i, j, l] kk)) := convS (ps_par3 cc.calm cc.nd hi hj hl hij hil hjl hx hy hz ha hw hs) fun N σ H ⟨B, F, e, R, q⟩ =>
  ⟨B, F, e, R, PostS.stepK q fun F1 e1 ds vs H1 l1 R1 hk q1 => by
    cases hp : putPar [i, j, l] ds e1 with
    | none => rw [hp] at q1; exact q1.elim
    | some e2 =>
      rw [hp] at q1
      have hl := (hand_len hk).symm.trans (putPar_len hp)
      match vs, hl, hk with
      | [u, v, w], _, hk => exact ⟨u, v, w, rfl, q1 F1 _ H1 (Le.refl F1) (putPar_ok R1 hk hp)⟩⟩
/-- target = e, the target of any form -/
def asgS (g : En → Res D) (t : Tg) : En → Out := fun e => (g e).thn fun d e1 => nxO (t.go d e1)
theorem sasg {tg e : Expr} {t : Tg} (he : PE X e (tE X.K X.mg T W g)) (hg : PG X tg (tG X.K X.mg T t)) (hs : swapsWithSole [tg] e pos.line X.env = pure false := by rfl) (hw : swappedStores [tg] e X.env = pure none := by rfl)
    (h1 : (assignEach [tg] X.env).map (·.2) = [assign tg X.env] := by rfl) : PS X (.Assign [tg] e pos) (tS X.K X.mg T W (asgS g t)) := convS (ps_asg he hg hs hw h1) fun N σ H ⟨B, F, e, R, q⟩ =>
  ⟨B, F, e, R, PostS.step (R := Den X.K X.mg) q fun F1 e1 d v H1 l1 R1 D1 q1 => by
    cases hp : t.go d e1 with
    | none => rw [hp] at q1; exact q1.elim
    | some e2 => rw [hp] at q1; exact ⟨B, F1, e1, d, R1, D1, e2, hp, fun σ' _ _ R' => q1 F1 σ' H1 (Le.refl F1) R'⟩⟩
/-- len of slot i's own list -/
def slotLenG (i : Nat) : En → Res D := fun e => match e[i]?.bind Sl.cont with
  | some c => lift (lenD [c]) e
  | none => .bad
theorem eslotLen {f x : Str} {p p1 : Pos} (i : Nat) (hg : Gl X f) (hf : f = "len") (hm : X.mg f = none) (hN : X.N[i]? = some x := by rfl) (hv : Vis X.env.scope x := by first | exact Or.inl rfl | exact Or.inr (Or.inl rfl) | exact Or.inr (Or.inr rfl)) (hd : (x == ("__debug__" : Str)) = false := by decide)
    (hcd : (x == ("__classdict__" : Str)) = false := by decide) (he : starEach [.Name x p] X.env = (false, eval (.Name x p) X.env) :: starEach [] X.env := by rfl) : PE X (.Call (.Name f p1) [.Name x p] [] pos) (tE X.K X.mg T W (slotLenG i)) := by
  subst hf
  refine conv (pe_callB call_lenA hg hm (by decide +kernel) (pa_cons (pv i hN hv hd hcd) pa_nil he) (by decide) (by decide) he) fun σ H Q ⟨B, F, e, R, h⟩ => ?_
  unfold slotLenG at h
  split at h
  · rename_i c0 hc0
    obtain ⟨s, hs, hc⟩ := bind_some' hc0
    obtain ⟨a, e1, _, ck⟩ := R.cont hs hc
    obtain ⟨r, hr, h2⟩ := h.lift
    refine ⟨_, e1, ?_⟩
    cases c0 with
    | lst ds => cases hr; obtain ⟨vs, e3, l⟩ := ck; exact .inl ⟨_, _, rfl, .inl ⟨_, SqL.of e3, rfl⟩, h2.ret R (by rw [l.length]; exact .int _)⟩
    | dct ds => cases hr; obtain ⟨vs, e3, l⟩ := ck; exact .inr ⟨_, _, rfl, .inl e3, h2.ret R (by rw [l.length]; exact .int _)⟩
    | obj _ _ => cases hr
    | _ => exact ck.elim
  · exact h.elim
/-- a constant of the module -/
def GC (K : PySem.W.Frag) (mg : MG) (x : Str) (d : D) : Prop := ∃ u v, mg x = some u ∧ RelV v u ∧ ∀ F, Den K mg F d v
theorem egl {d : D} {p : Pos} (hg : Gl X x) (h : GC X.K X.mg x d) (hd : (x == ("__debug__" : Str)) = false := by decide) : PE X (.Name x p) (tE X.K X.mg T W (constG d)) := by
  obtain ⟨u, v, h1, h2, h3⟩ := h
  exact ecst (pe_glob hg h1 h2 hd) h3
end

/-! ### defs by name -/
structure Cl (P : Program) (w : World) (K : PySem.W.Frag) (mg : MG) (base : Heap) (T : Tb) (j : Nat) (x : Str) (n : Nat) (f : En → Res D) : Prop where
  ex : ∃ (fa : Addr) (fd : FuncData) (ps : List Str), FnG P w K mg base (L2.CX P w) j fa fd ps (spV K mg T n f) ∧ mg x = some (.ref fa) ∧ PySem.W.keepIn K (.ref fa) = true ∧ Binds K fd ps []
/-- the def st stands at x behind the top -/
structure Fd (K : PySem.W.Frag) (mg : MG) (x : Str) (st : Stmt) : Prop where
  ex : ∃ (fa : Addr) (fd : FuncData), Fun K x x st fa fd ∧ mg x = some (.ref fa)
section
variable {P : Program} {w : World} {K : PySem.W.Frag} {mg : MG} {base : Heap} {T : Tb} {x : Str} {st : Stmt} {N ps : List Str} {n k : Nat} {body : En → Out}
theorem clV (F : Fd K mg x st) (S : FnScope N ps (defScope st)) (hn : ps.length = n)
    (hbind : ∀ (kV doc pm : Value) (an : Option Addr) (cdv ct : Value) (us : List Value), us.length = ps.length → bindArgs (PySem.W.fnOf x x (defArgs st) (defBody st) (defScope st) .none kV doc pm an cdv ct) ⟨us, []⟩ = pure (ps.zip us))
    (hb : ∀ (f : Addr) (cdv : Value) (A : Around) (outer : List Env) (s : Shared) (H : Hp) (E : XK), Cc (dX P w K mg base N x st f cdv A outer s H E) (dW E) k →
      PSs (dX P w K mg base N x st f cdv A outer s H E) (defBody st) (tS K mg T (dW E) body)) : Cl P w K mg base T (k + 1) x n (defV N.length body) := by
  obtain ⟨fa, fd, F1, hm⟩ := F.ex
  exact ⟨fa, fd, ps, okV F1 S hn (hb fa), hm, F1.kp, F1.binds hbind⟩
end
section
variable {X : Cx} {T : Tb} {W : WX} {k j n : Nat} {f : En → Res D} {x : Str} {p pos : Pos} {e : Expr} {es : List Expr} {g : En → Res (List Ar)}
theorem ecl (c : Cc X W k) (C : Cl X.prog X.w X.K X.mg X.base T j x n f) (hj : j ≤ k) (hg : Gl X x) (ha : PA X (e :: es) (tA X.K X.mg T W g)) (hl : ∀ as en en', g en = .ok as en' → as.length = n) (hn : (e :: es).length = n := by rfl) (hdb : (x == ("__debug__" : Str)) = false := by decide)
    (he : starEach (e :: es) X.env = (false, eval e X.env) :: starEach es X.env := by rfl) (hpl : (backTo pos (starEach es X.env)).any (·.1) = false := by rfl) : PE X (.Call (.Name x p) (e :: es) [] pos) (tE X.K X.mg T W (callG f g)) := by
  obtain ⟨fa, fd, ps, F, hm, hk, hb⟩ := C.ex
  exact ecall c F hj hg hm hk hb ha hn hdb he hpl hl
end
end L2.PV

set_option Elab.async false
set_option linter.all false
set_option maxRecDepth 100000
set_option autoImplicit false
namespace L2.PV
open PySem PySem.Spec PyProof.Rows

/-! ### a def that hands back a new object -/
section
variable (K : PySem.W.Frag) (mg : MG) (T : Tb)
def spO (n : Nat) (f : En → Res D) : Sp := fun vs H Q E => vs.length = n ∧ ∃ (B : Bs T) (F : Hp) (args : En), B.H0 = kn T H ∧ B.F0 = F ∧ Rel K mg B F args (vs.map some) H ∧ (∀ s ∈ args, (∃ d, s = .val d) ∨ ∃ d, s = .io d) ∧
  PostN K mg (fun c dd _ H => E c dd H) B (vs.map some) F (f args) Q
/-- what a return statement hands back is an object that nobody else knows -/
def tSO (W : WX) (g : En → Out) : TS := fun N σ H => ∃ (B : Bs T) (F : Hp) (e : En), Rel K mg B F e σ H ∧ match g e with
  | .ret c e1 => ∀ F' a σ' H', Le F F' → Rel K mg B F' e1 σ' H' → F' a = none → B.H0 a = none → Cont K mg F' H' a c → N.rt (.ref a) H'
  | r => PostS K mg W B F r N
end
section
variable {X : Cx} {T : Tb} {W : WX} {st : Stmt} {rest : List Stmt} {g h : En → Out} {ge : En → Res D} {e : Expr} {pos : Pos} {c : En → Res Bool} {x : Str}
/-- without a return in it, a statement is the same either way -/
def noRet : Out → Prop | .ret _ _ => False | _ => True
theorem oS {st : Stmt} (h : PS X st (tS X.K X.mg T W g)) (hn : ∀ e, noRet (g e)) : PS X st (tSO X.K X.mg T W g) := convS h fun N σ H ⟨B, F, e, R, q⟩ => ⟨B, F, e, R, by
  have := hn e
  cases hg : g e with
  | ret d e1 => rw [hg] at this; exact this.elim
  | nx e1 => rw [hg] at q; exact q
  | brk e1 => rw [hg] at q; exact q
  | cnt e1 => rw [hg] at q; exact q
  | exc x e1 => rw [hg] at q; exact q
  | bad => rw [hg] at q; exact q⟩
theorem ocons (h1 : PS X st (tS X.K X.mg T W g)) (hn : ∀ e, noRet (g e)) (h2 : PSs X rest (tSO X.K X.mg T W h)) : PSs X (st :: rest) (tSO X.K X.mg T W (seqS g h)) := convSs (pss_cons h1 h2) fun N σ H ⟨B, F, e, R, q⟩ =>
  ⟨B, F, e, R, by
    have := hn e
    unfold seqS at q
    cases hg : g e with
    | ret d e1 => rw [hg] at this; exact this.elim
    | nx e1 =>
      simp only [hg] at q
      intro F' σ' H' l R'
      refine ⟨B, F', e1, R', ?_⟩
      cases hh : h e1 with
      | ret d e2 => rw [hh] at q; exact fun F2 a σ2 H2 l2 => q F2 a σ2 H2 (l.trans l2)
      | nx e2 => rw [hh] at q; exact PostS.le q l
      | brk e2 => rw [hh] at q; exact PostS.le q l
      | cnt e2 => rw [hh] at q; exact PostS.le q l
      | exc x e2 => rw [hh] at q; exact PostS.le q l
      | bad => rw [hh] at q; exact q
    | brk e1 => simp only [hg] at q; exact q
    | cnt e1 => simp only [hg] at q; exact q
    | exc x e1 => simp only [hg] at q; exact q
    | bad => simp only [hg] at q; exact q⟩
def noR (g : En → Out) : En → Out := fun e => match g e with | .ret _ _ => .bad | o => o
theorem oconsR (h1 : PS X st (tS X.K X.mg T W g)) (h2 : PSs X rest (tSO X.K X.mg T W h)) : PSs X (st :: rest) (tSO X.K X.mg T W (seqS (noR g) h)) :=
  ocons (g := noR g) (convS h1 fun N σ H ⟨B, F, e, R, q⟩ => ⟨B, F, e, R, by
    unfold noR at q
    cases hg : g e with
    | ret d e1 => rw [hg] at q; exact q.elim
    | _ => rw [hg] at q; exact q⟩) (fun e => by
    unfold noR
    cases g e <;> trivial) h2
theorem oone (h1 : PS X st (tSO X.K X.mg T W g)) : PSs X [st] (tSO X.K X.mg T W g) := pss_one h1
theorem oret (he : PE X e (tN X.K X.mg T W ge)) : PS X (.Return (some e) pos) (tSO X.K X.mg T W (retS ge)) := convS (ps_ret he) fun N σ H ⟨B, F, e, R, q⟩ =>
  ⟨B, F, e, R, by
    unfold retS at q
    cases hg : ge e with
    | ok d e1 => rw [hg] at q; exact fun F' a H' l R' n n0 ck _ => q F' a σ H' l R' n n0 ck
    | exc x e1 => rw [hg] at q; exact fun F' c dd H' l R' hx => q F' c dd σ H' l R' hx
    | bad => rw [hg] at q; exact q⟩
/-- return x, x a slot's own object -/
def retSlot (i : Nat) : En → Out := fun e => match e[i]? with
  | some (.own d) => .ret d (e.set i .un)
  | _ => .bad
theorem oretSlot {p : Pos} (i : Nat) (hN : X.N[i]? = some x := by rfl) (hv : Vis X.env.scope x := by first | exact Or.inl rfl | exact Or.inr (Or.inl rfl) | exact Or.inr (Or.inr rfl)) (hd : (x == ("__debug__" : Str)) = false := by decide)
    (hcd : (x == ("__classdict__" : Str)) = false := by decide) : PS X (.Return (some (.Name x p)) pos) (tSO X.K X.mg T W (retSlot i)) := convS (ps_ret (pv i hN hv hd hcd)) fun N σ H ⟨B, F, e, R, q⟩ => by
  unfold retSlot at q
  cases hs : e[i]? with
  | none => rw [hs] at q; exact q.elim
  | some s =>
    rw [hs] at q
    cases s with
    | own d =>
      obtain ⟨a, e1, e2, e3, ck⟩ := R.at' i _ hs
      exact ⟨_, e1, q F a σ H (Le.refl F) (R.drop hs rfl) e2 e3 ck⟩
    | un => exact q.elim
    | val d => exact q.elim
    | io d => exact q.elim
end
section
variable {P : Program} {w : World} {K : PySem.W.Frag} {mg : MG} {T : Tb} {base : Heap}
def defO (N : Nat) (body : En → Out) : En → Res D := fun args => match body (args ++ List.replicate (N - args.length) .un) with
  | .ret d e => .ok d (outArgs args e)
  | .exc x e => .exc x (outArgs args e)
  | _ => .bad
theorem okO {x qual : Str} {st : Stmt} {f : Addr} {fd : FuncData} {N ps : List Str} {k n : Nat} {body : En → Out} (Fn : Fun K x qual st f fd) (S : FnScope N ps (defScope st)) (hn : ps.length = n)
    (hb : ∀ (cdv : Value) (A : Around) (outer : List Env) (s : Shared) (H : Hp) (E : XK), Cc (dX P w K mg base N qual st f cdv A outer s H E) (dW E) k →
      PSs (dX P w K mg base N qual st f cdv A outer s H E) (defBody st) (tSO K mg T (dW E) body)) : FnG P w K mg base (L2.CX P w) (k + 1) f fd ps (spO K mg T n (defO N.length body)) := by
  obtain ⟨oc, od, kV, doc, pm, an, cdv, ct, osl, rfl, lk, hcd⟩ := Fn.ex
  refine fnG_of lk hcd S (fun vs H Q E h => h.1.trans hn.symm) fun A outer s H vs Q E g hr h => ?_
  refine ⟨_, hb cdv A outer s H E ⟨rfl, takes_of rfl rfl rfl rfl, passes_of rfl, hr, S.nd, g⟩, ?_⟩
  obtain ⟨hv, B, F, args, h0, hF, R, kind, h⟩ := h
  have hl : args.length = vs.length := by rw [R.len, List.length_map]
  have R0 := R.begin (n := N.length - args.length)
  rw [hl] at R0
  refine ⟨B, F, _, R0, ?_⟩
  unfold defO at h
  rw [hl] at h
  cases hbd : body (args ++ List.replicate (N.length - vs.length) .un) with
  | nx e => rw [hbd] at h; exact h.elim
  | ret d e =>
    rw [hbd] at h
    intro F' a σ' H' l R' n n0 ck
    refine h F' a H' l (R.finish kind l R') n n0 ck fun j s hj ht q => ?_
    have RF := R.finish kind l R'
    obtain ⟨b, o, k1, _, k3, k4, _⟩ := RF.hot hj ht
    rw [k1] at q; cases q
    have : kn T H a = none := by rw [← h0]; exact n0
    obtain ⟨s', hs'⟩ : ∃ s', args[j]? = some s' ∧ s'.hot = true := by
      rcases k4 with z | z
      · have hjl : j < args.length := by rw [← outArgs_len (e := e)]; exact (List.getElem?_eq_some_iff.mp hj).1
        rcases kind _ (List.mem_of_getElem? (List.getElem?_eq_getElem hjl)) with ⟨d', hd'⟩ | ⟨d', hd'⟩
        · rw [outArgs_val (by rw [List.getElem?_eq_getElem hjl, hd'])] at hj; cases hj; cases ht
        · exact ⟨_, List.getElem?_eq_getElem hjl, by rw [hd']; rfl⟩
      · obtain ⟨d', hd'⟩ := R.ios j a z
        exact ⟨_, hd', rfl⟩
    obtain ⟨b, o', w1, _, w3, _, w4, _⟩ := R.hot hs'.1 hs'.2
    rw [k1] at w1; cases w1
    rw [kn_of w3 w4] at this; cases this
  | exc x e => rw [hbd] at h; exact fun F' c dd σ' H' l R' hd => h F' c dd H' l (R.finish kind l R') hd
  | brk e => rw [hbd] at h; exact h.elim
  | cnt e => rw [hbd] at h; exact h.elim
  | bad => rw [hbd] at h; exact h
structure ClO (P : Program) (w : World) (K : PySem.W.Frag) (mg : MG) (base : Heap) (T : Tb) (j : Nat) (x : Str) (n : Nat) (f : En → Res D) : Prop where
  ex : ∃ (fa : Addr) (fd : FuncData) (ps : List Str), FnG P w K mg base (L2.CX P w) j fa fd ps (spO K mg T n f) ∧ mg x = some (.ref fa) ∧ PySem.W.keepIn K (.ref fa) = true ∧ Binds K fd ps []
theorem clO {x : Str} {st : Stmt} {N ps : List Str} {n k : Nat} {body : En → Out} (F : Fd K mg x st) (S : FnScope N ps (defScope st)) (hn : ps.length = n)
    (hbind : ∀ (kV doc pm : Value) (an : Option Addr) (cdv ct : Value) (us : List Value), us.length = ps.length → bindArgs (PySem.W.fnOf x x (defArgs st) (defBody st) (defScope st) .none kV doc pm an cdv ct) ⟨us, []⟩ = pure (ps.zip us))
    (hb : ∀ (f : Addr) (cdv : Value) (A : Around) (outer : List Env) (s : Shared) (H : Hp) (E : XK), Cc (dX P w K mg base N x st f cdv A outer s H E) (dW E) k →
      PSs (dX P w K mg base N x st f cdv A outer s H E) (defBody st) (tSO K mg T (dW E) body)) : ClO P w K mg base T (k + 1) x n (defO N.length body) := by
  obtain ⟨fa, fd, F1, hm⟩ := F.ex
  exact ⟨fa, fd, ps, okO F1 S hn (hb fa), hm, F1.kp, F1.binds hbind⟩
end
section
variable {X : Cx} {T : Tb} {W : WX} {k j n : Nat} {f : En → Res D} {x : Str} {p pos : Pos} {e : Expr} {es : List Expr} {g : En → Res (List Ar)}
theorem call_postN {B : Bs T} {F H : Hp} {en : En} {σ : St} {as : List Ar} {vs : List V} {args : En} {Q : VK} (hn : vs.length = n) (R : Rel X.K X.mg B F en σ H) (A : ArsOk X.K X.mg σ F as vs) (nd : (slotsOf as).Nodup) (m : mkArgs en as = some args)
    (h : PostN X.K X.mg W B σ F (match f args with | .ok d r => .ok d (wb as r en) | .exc x r => .exc x (wb as r en) | .bad => .bad) Q) : spO X.K X.mg T n f vs H Q (WE W σ) := by
  refine ⟨hn, (⟨kn T H, F, ioOf σ as⟩ : Bs T), F, args, rfl, rfl, R.args A nd m, mk_kinds m, ?_⟩
  cases q : f args with
  | ok d r =>
    rw [q] at h
    intro F' a H' le R' n n0 ck _
    have RB := R.back A nd m le R'
    have n0 : kn T H a = none := n0
    refine h F' a H' le RB n (R.none0k n0) ck fun j s hj ht z => ?_
    obtain ⟨b, o, e1, _, _, e4, _⟩ := RB.hot hj ht
    rw [e1] at z; cases z
    -- a hot slot's object stood there ahead of the call
    have hjl : j < en.length := by rw [← wb_len (as := as) (r := r)]; exact (List.getElem?_eq_some_iff.mp hj).1
    rcases e4 with w | w
    · have z := RB.at' j s hj
      have hh := R.at' j _ (List.getElem?_eq_getElem hjl)
      cases hen : en[j] with
      | own d' => rw [hen] at hh; obtain ⟨b, k1, _, _, k4⟩ := hh; rw [e1] at k1; cases k1; obtain ⟨o', ho, ht, _⟩ := k4.tracked'; rw [kn_of ho ht] at n0; cases n0
      | io d' => rw [hen] at hh; obtain ⟨b, k1, _, _, k4⟩ := hh; rw [e1] at k1; cases k1; obtain ⟨o', ho, ht, _⟩ := k4.tracked'; rw [kn_of ho ht] at n0; cases n0
      | un =>
        exfalso
        by_cases hm : j ∈ slotsOf as
        · obtain ⟨i, hi⟩ : ∃ i : Nat, as[i]? = some (Ar.s j) := slots_ix hm
          have hj' : i < args.length := by rw [(mk_get (j := 0) m).1]; exact (List.getElem?_eq_some_iff.mp hi).1
          rcases (mk_get (j := i) m).2 _ (List.getElem?_eq_getElem hj') with ⟨_, g1, _⟩ | ⟨i', c, s', g1, g2, g3, _⟩
          · rw [hi] at g1; cases g1
          · rw [hi] at g1; cases g1
            rw [List.getElem?_eq_getElem hjl, hen] at g2; cases g2; cases g3
        · rw [wb_other hm, List.getElem?_eq_getElem hjl, hen] at hj; cases hj; cases ht
      | val d' =>
        exfalso
        by_cases hm : j ∈ slotsOf as
        · obtain ⟨i, hi⟩ : ∃ i : Nat, as[i]? = some (Ar.s j) := slots_ix hm
          have hj' : i < args.length := by rw [(mk_get (j := 0) m).1]; exact (List.getElem?_eq_some_iff.mp hi).1
          rcases (mk_get (j := i) m).2 _ (List.getElem?_eq_getElem hj') with ⟨_, g1, _⟩ | ⟨i', c, s', g1, g2, g3, _⟩
          · rw [hi] at g1; cases g1
          · rw [hi] at g1; cases g1
            rw [List.getElem?_eq_getElem hjl, hen] at g2; cases g2; cases g3
        · rw [wb_other hm, List.getElem?_eq_getElem hjl, hen] at hj; cases hj; cases ht
    · obtain ⟨d', hd'⟩ := R.ios j a w
      obtain ⟨b, k1, _, _, k4⟩ := R.at' j _ hd'
      rw [e1] at k1; cases k1
      obtain ⟨o', ho, ht, _⟩ := k4.tracked'
      rw [kn_of ho ht] at n0; cases n0
  | exc x r =>
    rw [q] at h
    exact fun F' c dd H' le R' hd => h F' c dd H' le (R.back A nd m le R') hd
  | bad => rw [q] at h; exact h
theorem nclO (c : Cc X W k) (C : ClO X.prog X.w X.K X.mg X.base T j x n f) (hj : j ≤ k) (hg : Gl X x) (ha : PA X (e :: es) (tA X.K X.mg T W g)) (hl : ∀ as en en', g en = .ok as en' → as.length = n) (hn : (e :: es).length = n := by rfl) (hdb : (x == ("__debug__" : Str)) = false := by decide)
    (he : starEach (e :: es) X.env = (false, eval e X.env) :: starEach es X.env := by rfl) (hpl : (backTo pos (starEach es X.env)).any (·.1) = false := by rfl) : PE X (.Call (.Name x p) (e :: es) [] pos) (tN X.K X.mg T W (callG f g)) := by
  obtain ⟨fa, fd, ps, Fn, hm, hk, hb⟩ := C.ex
  exact conv (pe_callG (E := WE W) Fn c.gd (c.room.mono hj) hg hm hk hb (passAt c.tk) ha hdb he hpl) fun σ H Q ⟨B, F, e, R, h⟩ =>
    ⟨B, F, e, R, by
      unfold callG at h
      cases hq : g e with
      | bad => rw [hq] at h; exact h
      | exc x e' => rw [hq] at h; exact h
      | ok as e' =>
        rw [hq] at h
        intro F1 vs H1 l1 R1 A1
        have h1 := PostN.le h l1
        simp only [Res.bind] at h1
        split at h1
        · rename_i nd
          split at h1
          · rename_i args hm
            exact call_postN (by rw [← (args_get (j := 0) A1).2]; exact hl as e e' hq) R1 A1 nd hm h1
          · exact h1.elim
        · exact h1.elim⟩
end
/-! ### slot i's own list or dict, changed at an index -/
def putKD (kvs : List (Key × D)) (k : Key) (v : D) : List (Key × D) :=
  if (kvs.any fun kv => decide (kv.1 = k)) = true then kvs.map (fun kv => if kv.1 = k then (kv.1, v) else kv) else kvs ++ [(k, v)]
section
variable {K : PySem.W.Frag} {mg : MG} {F : Hp}
theorem DenK.any {k : Key} : ∀ {ds : List (Key × D)} {vs : List (Key × V)}, DenK K mg F ds vs → (ds.any fun kv => decide (kv.1 = k)) = vs.any fun kv => decide (kv.1 = k)
  | _, _, .nil => rfl
  | _, _, .cons h t => by rw [List.any_cons, List.any_cons, t.any]
theorem DenK.repl {k : Key} {d : D} {v : V} (hd : Den K mg F d v) : ∀ {ds : List (Key × D)} {vs : List (Key × V)}, DenK K mg F ds vs → DenK K mg F (ds.map fun kv => if kv.1 = k then (kv.1, d) else kv) (vs.map fun kv => if kv.1 = k then (kv.1, v) else kv)
  | _, _, .nil => .nil
  | _, _, .cons (k := k') h t => by
    rw [List.map_cons, List.map_cons]
    by_cases hk : k' = k
    · simp only [hk, if_true]; exact .cons hd (t.repl hd)
    · simp only [hk, if_false]; exact .cons h (t.repl hd)
theorem DenK.append : ∀ {ds es : List (Key × D)} {vs ws : List (Key × V)}, DenK K mg F ds vs → DenK K mg F es ws → DenK K mg F (ds ++ es) (vs ++ ws)
  | _, _, _, _, .nil, s => s
  | _, _, _, _, .cons h t, s => .cons h (t.append s)
theorem DenK.put {k : Key} {d : D} {v : V} {ds : List (Key × D)} {vs : List (Key × V)} (l : DenK K mg F ds vs) (hd : Den K mg F d v) : DenK K mg F (putKD ds k d) (putK vs k v) := by
  unfold putKD L2.putK
  rw [l.any]
  split
  · exact l.repl hd
  · exact l.append (.cons hd .nil)
end
def setIxD (c i v : D) : Option D := match c, i with
  | .lst xs, .int i => if 0 ≤ i ∧ i < xs.length then some (.lst (xs.set i.toNat v)) else none
  | .dct kvs, k => (keyD k).bind fun k => if kvs.length < sizeLine then some (.dct (putKD kvs k v)) else none
  | _, _ => none
def setIxS (i : Nat) (gi ge : En → Res D) : En → Out := fun e => (ge e).thn fun v e1 => match e1[i]?.bind Sl.cont with
  | some _ => (gi e1).thn fun k e2 => match e2[i]? with
    | some s => match s.cont with
      | some c => match setIxD c k v with
        | some c' => .nx (e2.set i (s.put c'))
        | none => .bad
      | none => .bad
    | none => .bad
  | none => .bad
def rSetA : V → V → V → Hp → (Hp → Prop) → Prop := fun o i v H Q => rSetL o i v H Q ∨ ∃ a H', o = .ref a ∧ DPut H a i v H' ∧ Q H'
section
variable {X : Cx} {T : Tb} {W : WX} {k : Nat} {gi ge : En → Res D} {x : Str} {p pos spos : Pos} {idx e : Expr}
theorem set_all (hu : X.A.units + 1 < cLine) : PSet X rSetA := by
  intro pins s σ H o i v ov iv u Q I ro ri rv h
  rcases h with h | ⟨a, H', rfl, g, q⟩
  · exact set_list pins s σ H o i v ov iv u Q I ro ri rv h
  · cases ro
    exact d_setItem hu I g ri rv fun s' I' => ⟨H', I', q⟩
theorem ssetIx (i : Nat) (c : Cc X W k) (hk : PE X idx (tE X.K X.mg T W gi)) (he : PE X e (tE X.K X.mg T W ge)) (hN : X.N[i]? = some x := by rfl) (hv : Vis X.env.scope x := by first | exact Or.inl rfl | exact Or.inr (Or.inl rfl) | exact Or.inr (Or.inr rfl)) (hd : (x == ("__debug__" : Str)) = false := by decide)
    (hcd : (x == ("__classdict__" : Str)) = false := by decide) (hsub : ∀ v, assign (.Subscript (.Name x p) idx spos) X.env v = (do
      let ov ← holding [v] (eval (.Name x p) X.env)
      let iv ← holding [v, ov] (eval idx X.env)
      standAt spos
      holding [v, ov, iv] (setItem ov iv v)
      release [v, ov, iv] []) := by intro _; rfl)
    (hs : swapsWithSole [.Subscript (.Name x p) idx spos] e pos.line X.env = pure false := by rfl) (hw : swappedStores [.Subscript (.Name x p) idx spos] e X.env = pure none := by rfl)
    (h1 : (assignEach [.Subscript (.Name x p) idx spos] X.env).map (·.2) = [assign (.Subscript (.Name x p) idx spos) X.env] := by rfl) :
    PS X (.Assign [.Subscript (.Name x p) idx spos] e pos) (tS X.K X.mg T W (setIxS i gi ge)) := convS (ps_asg he (pg_sub (pv i hN hv hd hcd) hk (set_all (hu_of c.room)) hsub) hs hw h1) fun N σ H ⟨B, F, e, R, q⟩ =>
  ⟨B, F, e, R, PostS.step (R := Den X.K X.mg) q fun F1 e1 d v H1 l1 R1 D1 q1 => by
    split at q1
    · rename_i c0 hc0
      obtain ⟨s, hs, hc⟩ := bind_some' hc0
      obtain ⟨a, k1, _, _⟩ := R1.cont hs hc
      refine ⟨_, k1, B, F1, e1, R1, PostS.step (R := Den X.K X.mg) q1 fun F2 e2 dk vk H2 l2 R2 D2 q2 => ?_⟩
      cases hs2 : e2[i]? with
      | none => simp only [hs2] at q2; exact q2.elim
      | some s2 =>
        simp only [hs2] at q2
        cases hc2 : s2.cont with
        | none => simp only [hc2] at q2; exact q2.elim
        | some c2 =>
          simp only [hc2] at q2
          obtain ⟨a2, w1, w2, ck⟩ := R2.cont hs2 hc2
          rw [k1] at w1; cases w1
          cases hx : setIxD c2 dk d with
          | none => simp only [hx] at q2; exact q2.elim
          | some c' =>
            simp only [hx] at q2
            have D1' := D1.mono l2
            cases c2 with
            | lst ds =>
              obtain ⟨vs, e3, l⟩ := ck
              cases D2 with
              | int j =>
                have hx : (if 0 ≤ j ∧ j < ds.length then some (D.lst (ds.set j.toNat d)) else none) = some c' := hx
                obtain ⟨⟨h1, h2⟩, rfl⟩ := if_some hx
                refine .inl ⟨a, vs, j, j.toNat, rfl, rfl, e3, ?_, ?_⟩
                · unfold ixN
                  rw [if_pos h1, if_pos (by rw [← l.length]; exact h2)]
                · exact q2 F2 σ _ (Le.refl F2) (R2.put hs2 hc2 k1 ⟨_, upd_same, l.set _ D1'⟩)
              | _ => cases hx
            | dct kvs =>
              obtain ⟨ws, e3, l⟩ := ck
              obtain ⟨key, h3, h4⟩ := bind_some' hx
              obtain ⟨h5, rfl⟩ := if_some h4
              have hy : vk = kV key := by cases D2 <;> cases h3 <;> rfl
              refine .inr ⟨a, _, rfl, .inl ⟨ws, key, e3, hy, by rw [← l.length]; exact h5, rfl⟩, ?_⟩
              exact q2 F2 σ _ (Le.refl F2) (R2.put hs2 hc2 k1 ⟨_, upd_same, l.put D1'⟩)
            | obj _ _ => cases hx
            | _ => exact ck.elim
    · exact q1.elim⟩
end
end L2.PV

set_option Elab.async false
set_option linter.all false
set_option maxRecDepth 100000
set_option autoImplicit false
namespace L2.PV
open PySem PySem.Spec PyProof.Rows
section
variable {X : Cx} {T : Tb} {W : WX} {a b c : Expr} {ga gb : En → Res D} {pos : Pos} {k : Nat}
/-! ### comparisons as tests -/
theorem teq (c : Cc X W k) (ha : PE X a (tE X.K X.mg T W ga)) (hb : PE X b (tE X.K X.mg T W gb)) (hm : behindInMarks .Eq b = false := by first | exact nobehind _ (by decide) (by decide) | rfl) : PT X (.Compare a [.Eq] [b] pos) (tB X.K X.mg T W (boolG (op2G eqD ga gb))) := tcmp (op_eqD c.room.units) eqD_ok ha hb hm
theorem tne (c : Cc X W k) (ha : PE X a (tE X.K X.mg T W ga)) (hb : PE X b (tE X.K X.mg T W gb)) (hm : behindInMarks .NotEq b = false := by first | exact nobehind _ (by decide) (by decide) | rfl) : PT X (.Compare a [.NotEq] [b] pos) (tB X.K X.mg T W (boolG (op2G neD ga gb))) := tcmp (op_neD c.room.units) neD_ok ha hb hm
theorem tin (c : Cc X W k) (ha : PE X a (tE X.K X.mg T W ga)) (hb : PE X b (tE X.K X.mg T W gb)) (hm : behindInMarks .In b = false := by rfl) : PT X (.Compare a [.In] [b] pos) (tB X.K X.mg T W (boolG (op2G inD ga gb))) := tcmp (op_inA (hu65 c.room)) inD_ok ha hb hm
theorem tnin (c : Cc X W k) (ha : PE X a (tE X.K X.mg T W ga)) (hb : PE X b (tE X.K X.mg T W gb)) (hm : behindInMarks .NotIn b = false := by rfl) : PT X (.Compare a [.NotIn] [b] pos) (tB X.K X.mg T W (boolG (op2G notInD ga gb))) := tcmp (op_notInA (hu65 c.room)) notInD_ok ha hb hm
theorem tisN (ha : PE X a (tE X.K X.mg T W ga)) (hb : PE X b (tE X.K X.mg T W gb)) (hm : behindInMarks .Is b = false := by first | exact nobehind _ (by decide) (by decide) | rfl) : PT X (.Compare a [.Is] [b] pos) (tB X.K X.mg T W (boolG (op2G isNonD ga gb))) := tcmp op_isN isNonD_ok ha hb hm
theorem tnotN (ha : PE X a (tE X.K X.mg T W ga)) (hb : PE X b (tE X.K X.mg T W gb)) (hm : behindInMarks .IsNot b = false := by first | exact nobehind _ (by decide) (by decide) | rfl) : PT X (.Compare a [.IsNot] [b] pos) (tB X.K X.mg T W (boolG (op2G notNonD ga gb))) := tcmp op_notN notNonD_ok ha hb hm
theorem tlt (ha : PE X a (tE X.K X.mg T W ga)) (hb : PE X b (tE X.K X.mg T W gb)) (hm : behindInMarks .Lt b = false := by first | exact nobehind _ (by decide) (by decide) | rfl) : PT X (.Compare a [.Lt] [b] pos) (tB X.K X.mg T W (boolG (op2G (cmpD fun i j => decide (i < j)) ga gb))) := tcmp op_lt cmpD_ok ha hb hm
theorem tle (ha : PE X a (tE X.K X.mg T W ga)) (hb : PE X b (tE X.K X.mg T W gb)) (hm : behindInMarks .LtE b = false := by first | exact nobehind _ (by decide) (by decide) | rfl) : PT X (.Compare a [.LtE] [b] pos) (tB X.K X.mg T W (boolG (op2G (cmpD fun i j => decide (i ≤ j)) ga gb))) := tcmp op_le cmpD_ok ha hb hm
theorem tgt (ha : PE X a (tE X.K X.mg T W ga)) (hb : PE X b (tE X.K X.mg T W gb)) (hm : behindInMarks .Gt b = false := by first | exact nobehind _ (by decide) (by decide) | rfl) : PT X (.Compare a [.Gt] [b] pos) (tB X.K X.mg T W (boolG (op2G (cmpD fun i j => decide (j < i)) ga gb))) := tcmp op_gt cmpD_ok ha hb hm
theorem tge (ha : PE X a (tE X.K X.mg T W ga)) (hb : PE X b (tE X.K X.mg T W gb)) (hm : behindInMarks .GtE b = false := by first | exact nobehind _ (by decide) (by decide) | rfl) : PT X (.Compare a [.GtE] [b] pos) (tB X.K X.mg T W (boolG (op2G (cmpD fun i j => decide (j ≤ i)) ga gb))) := tcmp op_ge cmpD_ok ha hb hm
theorem tchain {gc : En → Res D} {op op' : CmpOp} {f f' : Int → Int → Bool} (ho : OpR X (compareOp op) (rI0 fun i j => .bl (f i j))) (ho' : OpR X (compareOp op') (rI0 fun i j => .bl (f' i j))) (ha : PE X a (tE X.K X.mg T W ga)) (hb : PE X b (tE X.K X.mg T W gb)) (hc : PE X c (tE X.K X.mg T W gc)) (hm : lastMarks [op, op'] [b, c] = false := by with_unfolding_all rfl) :
    PT X (.Compare a [op, op'] [b, c] pos) (tB X.K X.mg T W (boolG (chainG f f' ga gb gc))) := convT (pt_chain ho ho' ha hb hc hm) fun σ H Q ⟨B, F, e, R, h⟩ => by
  have h1 : Post X.K X.mg W B σ (Den X.K X.mg) F (chainG f f' ga gb gc e) fun v H' => ∃ k, v = .bl k ∧ Q k H' := by
    unfold boolG at h
    have hb : ∀ d e1, chainG f f' ga gb gc e = .ok d e1 → ∃ k, d = .bl k := by
      intro d e1 q
      rw [q] at h
      cases d with
      | bl k => exact ⟨k, rfl⟩
      | _ => exact h.elim
    cases q : chainG f f' ga gb gc e with
    | bad => rw [q] at h; exact h
    | exc x e1 => rw [q] at h; exact h
    | ok d e1 =>
      obtain ⟨k, rfl⟩ := hb d e1 q
      rw [q] at h
      intro F' b H' l R' D
      cases D
      exact ⟨k, rfl, h F' k H' l R' rfl⟩
  refine ⟨B, F, e, R, h1.step fun F1 e1 d x H1 l1 R1 D1 h1 => ⟨B, F1, e1, R1, h1.step fun F2 e2 d2 y H2 l2 R2 D2 h2 => ?_⟩⟩
  split at h2
  · rename_i i j
    cases D1; cases D2
    refine ⟨i, j, rfl, rfl, f i j, rfl, ?_⟩
    cases hf : f i j with
    | true =>
      rw [if_pos hf] at h2; rw [if_pos rfl]
      exact ⟨B, F2, e2, R2, h2.step fun F3 e3 d3 z H3 l3 R3 D3 h3 => by
        split at h3
        · cases D3; exact ⟨_, _, rfl, rfl, h3.ret R3 (.bl _)⟩
        · exact h3.elim⟩
    | false =>
      rw [if_neg (by rw [hf]; exact Bool.false_ne_true)] at h2; rw [if_neg Bool.false_ne_true]
      exact h2.ret R2 (.bl _)
  · exact h2.elim
end
def slV (d : D) (l h : Option Int) : Option D := match slD d l h with | some r => some r | none => slLD d l h
end L2.PV

set_option Elab.async false
set_option linter.all false
set_option maxRecDepth 100000
set_option autoImplicit false
namespace L2.PV
open PySem PySem.Spec PyProof.Rows
/-! ### raise C("..") of an own class -/
structure XcV (K : PySem.W.Frag) (mg : MG) (x : Str) : Prop where
  ex : ∃ (C : Addr) (bmB : List Value) (B newId initId : String), ExcBaseFacts B newId initId bmB ∧ mg x = some (.ref C) ∧ PySem.W.excIn K C bmB newId = true ∧ PySem.W.keepIn K (.ref C) = true ∧ PySem.W.subIn K (.ref C) (.type "BaseException") = some true ∧ PySem.W.typeIn K (.ref C) = some (.type "type")
def raiseS (x : Str) : En → Out := fun e => .exc ⟨.own x, none⟩ e
section
variable {X : Cx} {T : Tb} {W : WX} {k : Nat} {x m : Str} {j : Nat} {p p2 pos pos' : Pos}
theorem sraise (c : Cc X W k) (h : XcV X.K X.mg x) (hg : Gl X x) (hdb : (x == ("__debug__" : Str)) = false := by decide) : PS X (.Raise (some (.Call (.Name x p) [.Constant (.str m) j p2] [] pos)) none pos') (tS X.K X.mg T W (raiseS x)) := by
  obtain ⟨C, bmB, B, newId, initId, F, gC, q, kC, sC, tC⟩ := h.ex
  exact convS (ps_raise c.calm c.tk (pmk_own F q gC kC (raises_own sC tC) hg hdb)) fun N σ H ⟨B, F, e, R, q⟩ => q F (.ref C) none σ H (Le.refl F) R ⟨gC, rfl⟩
end
/-! ### several except clauses, with names or without -/
abbrev SuX := Addr → Value → Option Addr → TS
/-- the ends of a clause whose name is slot i's -/
def goneE (i : Nat) (D : Ends) : Ends := { nx := fun σ H => D.nx (σ.set i none) H, rt := D.rt, bk := fun σ H => D.bk (σ.set i none) H, ct := fun σ H => D.ct (σ.set i none) H }
def wHd (oi : Option Nat) (ts : SuX) (D : Ends) (a : Addr) : WX := fun cls d σ H => match oi with
  | none => ts a cls d D σ H
  | some i => ts a cls d (goneE i D) (σ.set i (some (.ref a))) H
def wHds (K : PySem.W.Frag) (Wout : WX) (D : Ends) : List (Value × Option Nat × SuX) → WX
  | [] => Wout
  | (c, oi, ts) :: r => fun cls d σ H => ∃ b, PySem.W.exmOne K cls c = some b ∧ (b = true → ∀ a, H a = none → wHd oi ts D a cls d σ H) ∧ (b = false → wHds K Wout D r cls d σ H)
def suOk (X : Cx) (b : List Stmt) (ts : SuX) : Prop := ∀ (a : Addr) (oe : Obj) (cls : Value) (d : Option Addr) (pn : List (Addr × Obj)), Zc cls d oe → (∃ vs, oe.data = .fields vs) → PSs (X.suite a ((a, oe) :: pn)) b (ts a cls d)
inductive HdL (X : Cx) : List ExceptHandler → List (Value × Option Nat × SuX) → Prop
  | nil : HdL X [] []
  | plain {x : Str} {c : Value} {ts : SuX} {b₀ : Stmt} {su : List Stmt} {np p : Pos} {hds : List ExceptHandler} {l : List (Value × Option Nat × SuX)} (hc : Names X x c) (hs : suOk X (b₀ :: su) ts) (r : HdL X hds l) :
      HdL X (.ExceptHandler (some (.Name x np)) none (b₀ :: su) p :: hds) ((c, none, ts) :: l)
  | named {x n : Str} {c : Value} {ts : SuX} {b₀ : Stmt} {su : List Stmt} {np p : Pos} {hds : List ExceptHandler} {l : List (Value × Option Nat × SuX)} (i : Nat) (hN : X.N.Nodup) (hi : X.N[i]? = some n) (hk : X.env.kindOf n = some .local) (hc : Names X x c) (hs : suOk X (b₀ :: su) ts) (r : HdL X hds l) :
      HdL X (.ExceptHandler (some (.Name x np)) (some n) (b₀ :: su) p :: hds) ((c, some i, ts) :: l)
section
variable {X : Cx} {pins : List (Addr × Obj)} {D : Ends} {Wout : WX}
theorem sp_map {Y : Cx} {pY : List (Addr × Obj)} {D' : Ends} {fl : Flow} {s : Shared} (f : ∀ σ H, Inv Y pY σ H s → Inv X pins σ H s) (nx : ∀ σ H, D'.nx σ H → D.nx σ H) (rt : ∀ v H, D'.rt v H → D.rt v H) (bk : ∀ σ H, D'.bk σ H → D.bk σ H) (ct : ∀ σ H, D'.ct σ H → D.ct σ H)
    (h : SP Y pY D' fl s) : SP X pins D fl s := by
  cases fl with
  | next => obtain ⟨σ, H, I, q⟩ := h; exact ⟨σ, H, f σ H I, nx σ H q⟩
  | brk => obtain ⟨σ, H, I, q⟩ := h; exact ⟨σ, H, f σ H I, bk σ H q⟩
  | cont => obtain ⟨σ, H, I, q⟩ := h; exact ⟨σ, H, f σ H I, ct σ H q⟩
  | ret u => obtain ⟨v, σ, H, I, r, q⟩ := h; exact ⟨v, σ, H, f σ H I, r, rt v H q⟩
end
section
variable {X : Cx} {body : List Stmt} {h₀ : ExceptHandler} {hds : List ExceptHandler} {l : List (Value × Option Nat × SuX)} {pos : Pos} {tb : WX → TS} {Wout : WX}
theorem ps_tryL (hs : X.stack = X.env :: X.outer) (hf : X.env.frame = some X.env.locals) (tk : Takes X Wout)
    (hb : ∀ (W : WX) (pn : List (Addr × Obj)) (xe : Value → Shared → Prop), Takes (X.tr pn xe) W → PassesOwn (model X.prog X.w) X.A X.env xe → PSs (X.tr pn xe) body (tb W))
    (hh : HdL X (h₀ :: hds) l) : PS X (.Try body (h₀ :: hds) [] [] pos) (fun D σ H => tb (wHds X.K Wout D l) D σ H) := by
  refine ⟨fun pins s σ H D I start => ?_⟩
  have ok := I.ok
  have frm : X.A.frames = some (X.env :: X.outer) := ok.frames.trans (congrArg some hs)
  let M := model X.prog X.w
  let caught : Value → Shared → Prop := fun e s₁ => wpAny M X.A (noteFrame e X.env) (fun _ s₂ => wpAny M X.A (setFlight e none) (fun _ s₃ => wpAny M X.A (handleBy e X.env (h₀ :: hds)) (SP X pins D) X.xe s₃) X.xe s₂) X.xe s₁
  have takes : Takes (X.tr (X.pn ++ pins) caught) (wHds X.K Wout D l) := by
    intro u s' xx
    obtain ⟨a, B, sI, pins', σ', H', cls, d, rfl, J', nb, up, sky, na, os, ag, w⟩ := xx
    have J := J'.ofTry ok
    have sky : Sky B (X.env :: X.outer) a (Zc cls d) X.env.locals s'.heap := by rw [← hs]; exact sky
    show wpAny M X.A (noteFrame (.ref a) X.env) _ _ _
    refine Sky.land Zc.steady frm hf sky fun h3 fl3 up3 => ?_
    have J3 : Inv X pins σ' H' { s' with heap := h3 } := J.landed nb fl3.1 (up.trans up3) os ag
    obtain ⟨oe, vs, he, hz, hd⟩ := fl3.there
    have off : a ∉ frs (X.env :: X.outer) := fun hm => by
      obtain ⟨_, o', e', z⟩ := fl3.2.2.1.mem hm
      rw [he] at e'; cases e'
      exact z _ hd
    have nL : a ≠ X.env.locals := fun z => off (List.mem_filterMap.mpr ⟨X.env, List.mem_cons_self, hf.trans (congrArg some z.symm)⟩)
    have nF : a ∉ X.fs := fun hm => by
      obtain ⟨v, hv, q⟩ := List.mem_filterMap.mp hm
      exact off (List.mem_filterMap.mpr ⟨v, List.mem_cons_of_mem _ hv, q⟩)
    have S3 := J3.suite he hd na nL nF
    have typ : PySem.W.Looks M h3 (typeOf (.ref a)) cls := fun A Q E s k q => wpAny_typeOf_ref (k _ _ he) (by rw [hz.1]; exact q)
    -- a clause's test
    have ask : ∀ {x : Str} {c : Value} {np : Pos} {Q : Value → Shared → Prop} {E : Value → Shared → Prop}, Names X x c → Q c { s' with heap := h3 } → wpAny M (X.A.mark (some (.ref a))) (eval (.Name x np) X.env) Q E { s' with heap := h3 } := fun hc q => by
      rcases hc with ⟨hg, hdbg, hm | ⟨hm, hv, hnn⟩⟩
      · exact ld_glob (X := X.suite a ((a, oe) :: (X.pn ++ pins))) S3 hg hm q hdbg
      · exact ld_blt (X := X.suite a ((a, oe) :: (X.pn ++ pins))) S3 hg hm hv q hnn hdbg
    -- the object once more, ahead of a suite
    have again : ∀ {h4 : Heap}, HandSPX.FlyingZ B (X.env :: X.outer) a (Zc cls d) h4 → h3.UpToSlots h4 → ∃ oe4, Zc cls d oe4 ∧ (∃ vs, oe4.data = .fields vs) ∧ Inv (X.suite a ((a, oe4) :: (X.pn ++ pins))) [] σ' H' { s' with heap := h4 } := fun {h4} fl4 up4 => by
      obtain ⟨oe4, vs4, he4, hz4, hd4⟩ := fl4.there
      have J4 : Inv X pins σ' H' { s' with heap := h4 } := J.landed nb fl4.1 ((up.trans up3).trans up4) os ag
      exact ⟨oe4, hz4, ⟨vs4, hd4⟩, J4.suite he4 hd4 na nL nF⟩
    have go : ∀ {hds' : List ExceptHandler} {l' : List (Value × Option Nat × SuX)}, HdL X hds' l' → wHds X.K Wout D l' cls d σ' H' → wpAny M X.A (handleBy (.ref a) X.env hds') (SP X pins D) X.xe { s' with heap := h3 } := by
      intro hds' l' hk
      induction hk with
      | nil =>
        intro w
        refine wpAny_handleBy_nil ?_
        obtain ⟨k1, k2, k3, oe', vs', T, oT, ts', he', hz', hd', h1', hr'⟩ := id fl3
        have out : wpAny M X.A (setFlight (.ref a) X.env.frame) (fun _ s4 => wpAny M X.A (throw (.ref a) : Sem Flow) (SP X pins D) X.xe s4) X.xe { s' with heap := h3 } := by
          rw [hf]
          exact HandSPX.setFlight_upZ fl3 fun h4 hh4 up4 => wpAny_throw (tk _ _ ⟨a, B, sI, pins, σ', H', cls, d, rfl, J, nb, (up.trans up3).trans up4, .inr (.inr (by rw [hs]; exact hh4)), na, os, ag, w⟩)
        unfold PySem.passOn
        refine wpAny_bind (wpAny_field he' hd' h1' ?_)
        rw [if_neg (show ¬ ((Value.ref T == Value.none) = true) from by simp)]
        first
          | exact wpAny_bind out
          | exact wpAny_bind (wpAny_pure (wpAny_bind out))
      | plain hc hsu r ih =>
        intro ⟨b, hb1, hyes, hno⟩
        refine wpAny_handleBy_cons (codeAny_handlers_test (ask hc ((PySem.W.exm_one (M := M) J3.kIn typ hb1).here ?_))) (by intro q; cases q)
        cases b with
        | false => exact ih (hno rfl)
        | true =>
          refine codeAny_handlers_suite (HandSPX.lands_againZ fl3 fun h4 fl4 up4 => ?_)
          obtain ⟨oe4, hz4, hd4, S4⟩ := again fl4 up4
          exact wpAny_mono ((hsu a oe4 cls d (X.pn ++ pins) hz4 hd4).run [] _ _ H' _ S4 (hyes rfl a na)) (fun f s6 hsp => sp_map (fun σ H I => I.unsuite ok) (fun _ _ q => q) (fun _ _ q => q) (fun _ _ q => q) (fun _ _ q => q) hsp) fun _ _ z => z.elim
      | named i hN hi hk hc hsu r ih =>
        intro ⟨b, hb1, hyes, hno⟩
        refine wpAny_handleBy_cons (codeAny_handlers_test (ask hc ((PySem.W.exm_one (M := M) J3.kIn typ hb1).here ?_))) (by intro q; cases q)
        cases b with
        | false => exact ih (hno rfl)
        | true =>
          refine codeAny_handlers_suite_as (HandSPX.lands_againZ fl3 fun h4 fl4 up4 => ?_)
          obtain ⟨oe4, hz4, hd4, S4⟩ := again fl4 up4
          refine store_ok (X := X.suite a ((a, oe4) :: (X.pn ++ pins))) (v := .ref a) S4 hN hi (.inl hk) rfl (fun s5 S5 => ?_) (.inr hk)
          refine wpAny_mono ((hsu a oe4 cls d (X.pn ++ pins) hz4 hd4).run [] s5 _ H' _ S5 (hyes rfl a na)) (fun f s6 hsp => ?_) fun _ _ z => z.elim
          cases f with
          | next => obtain ⟨σ6, H6, S6, q6⟩ := hsp; exact gone_ok (S6.unsuite ok) hN hi hk fun s7 J7 => ⟨_, _, J7, q6⟩
          | brk => obtain ⟨σ6, H6, S6, q6⟩ := hsp; exact gone_ok (S6.unsuite ok) hN hi hk fun s7 J7 => ⟨_, _, J7, q6⟩
          | cont => obtain ⟨σ6, H6, S6, q6⟩ := hsp; exact gone_ok (S6.unsuite ok) hN hi hk fun s7 J7 => ⟨_, _, J7, q6⟩
          | ret u => obtain ⟨v6, σ6, H6, S6, r6, q6⟩ := hsp; exact gone_ok (S6.unsuite ok) hN hi hk fun s7 J7 => ⟨_, _, _, J7, r6, q6⟩
    exact go hh w
  refine wpAny_Try_except ?_
  refine wpAny_mono ((hb _ _ caught takes PassesOwn.looking).run [] s σ H D (I.toTry _) start) (fun f s1 hsp => ?_) fun e s1 he => he
  have back := sp_map (D := D) (fun σ H (J : Inv (X.tr (X.pn ++ pins) caught) [] σ H s1) => J.ofTry ok) (fun _ _ q => q) (fun _ _ q => q) (fun _ _ q => q) (fun _ _ q => q) hsp
  cases f with
  | next => exact wpAny_execs_nil back
  | _ => exact back
end
end L2.PV

set_option Elab.async false
set_option linter.all false
set_option maxRecDepth 100000
set_option autoImplicit false
namespace L2.PV
open PySem PySem.Spec PyProof.Rows
section
variable {K : PySem.W.Frag} {mg : MG} {T : Tb} {B : Bs T} {F F' H H1 H' : Hp} {e e' : En} {σ σ' : St}
/-- the tables are written, all else is kept -/
theorem Rel.extN (R : Rel K mg B F e σ H) (x : LamX.ExtN H H1) (t : LamX.Tabs T H1) : Rel K mg B F e σ H1 := by
  have hk : ∀ b u, H b = some u → isTbl u = false → H1 b = some u := fun b u z n => x b u z fun ps q => by subst q; cases n
  refine ⟨fun a u q => ?_, fun a u q t n => hk _ _ (R.old a u q t n) t, R.oldT, t, R.low, R.fr, R.len, fun i s hs => ?_, R.ios, R.apart, R.noT⟩
  · rcases R.sub a u q with z | ⟨w, z⟩
    · exact .inl (hk _ _ z (R.noT a u q))
    · exact .inr ⟨w, hk _ _ z rfl⟩
  · have z := R.at' i s hs
    cases s with
    | un => trivial
    | val d => exact z
    | own d =>
      obtain ⟨a, e1, e2, e3, c⟩ := z
      obtain ⟨o, e4, e5, _⟩ := c.tracked'
      exact ⟨a, e1, e2, e3, c.heap ((hk _ _ e4 e5).trans e4.symm)⟩
    | io d =>
      obtain ⟨a, e1, e2, e3, c⟩ := z
      obtain ⟨o, e4, e5, _⟩ := c.tracked'
      exact ⟨a, e1, e2, e3, c.heap ((hk _ _ e4 e5).trans e4.symm)⟩
/-- the base of a frame that is handed nothing to change -/
abbrev Bs.sub (T : Tb) (H F : Hp) : Bs T := ⟨kn T H, F, fun _ => none⟩
def une (n : Nat) : En := List.replicate n .un
theorem une_at {n i : Nat} {s : Sl} (h : (une n)[i]? = some s) : s = .un := by
  unfold une at h
  rw [List.getElem?_replicate] at h
  split at h <;> cases h
  rfl
theorem Rel.fresh (R : Rel K mg B F e σ H) {n : Nat} (hl : σ'.length = n) : Rel K mg (Bs.sub T H F) F (une n) σ' H := by
  refine ⟨R.sub, fun a o h _ _ => (kn_sub h).1, fun a o h t => (kn_sub h).2 t, R.tabs, Le.refl F, fun _ _ h => .inl h, by unfold une; rw [List.length_replicate, hl], fun i s h => ?_, fun i a h => (by cases h), fun i j a s t h1 _ h3 _ _ _ => ?_, R.noT⟩
  · rw [une_at h]; trivial
  · rw [une_at h1] at h3; cases h3
theorem Rel.after (R : Rel K mg B F e σ H) (C : Rel K mg (Bs.sub T H F) F' e' σ' H') (le : Le F F') : Rel K mg B F' e σ H' := by
  have hio : (fun _ => none : Nat → Option Addr) = ioOf σ [] := by
    funext j
    cases q : ioOf σ [] j with
    | none => rfl
    | some a => obtain ⟨i, h1, _⟩ := ioOf_some q; simp at h1
  have C' : Rel K mg (⟨kn T H, F, ioOf σ []⟩ : Bs T) F' [] (([] : List V).map some) H' := by
    rw [← hio]
    refine ⟨C.sub, C.old, C.oldT, C.tabs, C.low, C.fr, rfl, fun i s h => ?_, fun i a h => (by cases h), fun i j a s t h1 _ _ _ _ _ => ?_, C.noT⟩
    · simp at h
    · simp at h1
  have z := R.back (as := []) (args := []) (vs := []) trivial List.nodup_nil rfl le C'
  simpa [wb] using z
end

/-! ### what a handler knows of the exception -/
def clsOk (mg : MG) (x : Ex) (cls : Value) : Prop := match x.cls with
  | .own n => mg n = some cls
  | .blt n => cls = .type n
/-- the exception as the clause's name holds it -/
def xnD (a : Addr) (d : Option Addr) (x : Ex) : D := .xn a (match x.fs with | none => none | some _ => d) "" (x.fs.getD [])
theorem xnD_ok {K : PySem.W.Frag} {mg : MG} {F : Hp} {x : Ex} {cls : Value} {d : Option Addr} {a : Addr} (h : DenX K mg F x cls d) : Den K mg F (xnD a d x) (.ref a) := by
  obtain ⟨_, h2⟩ := h
  unfold xnD
  cases q : x.fs with
  | none => exact .xn0 a ""
  | some fs =>
    rw [q] at h2
    obtain ⟨p, gs, h3, h4, h5⟩ := h2
    subst h3
    exact .xn1 h4 h5
def isC (x : Ex) (C : Str) : Bool := match x.cls with | .own c => decide (c = C) | .blt _ => false
/-- e.f of the exception in slot i, which must be of the class C -/
def exfG (a : Addr) (d : Option Addr) (x : Ex) (C : Str) (i : Nat) (f : Str) : En → Res D := fun e => match e[i]? with
  | some (.val (.xn a' d' _ fs)) => if a' = a ∧ d' = d ∧ isC x C = true then lift (fs.lookup f) e else .bad
  | _ => .bad
structure XfT (K : PySem.W.Frag) (mg : MG) (C f : Str) : Prop where
  ex : ∃ A : Addr, mg C = some (.ref A) ∧ XfC K A ∧ PySem.W.findIn K (.ref A) f = some none
theorem DenF.look {K : PySem.W.Frag} {mg : MG} {F : Hp} {f : Str} {d : D} : ∀ {fs : List (Str × D)} {gs : List (Str × V)}, DenF K mg F fs gs → fs.lookup f = some d → ∃ v, gs.lookup f = some v ∧ Den K mg F d v
  | _, _, .nil, h => by cases h
  | _, _, .cons (k := k) h t, e => by
    by_cases q : (f == k) = true
    · simp only [List.lookup, q] at e ⊢
      cases e
      exact ⟨_, rfl, h⟩
    · have q : (f == k) = false := by simpa using q
      simp only [List.lookup, q] at e ⊢
      exact t.look e
section
variable {X : Cx} {T : Tb} {W : WX} {a : Addr} {oe : Obj} {cls : Value} {d : Option Addr} {pn : List (Addr × Obj)} {n f C : Str} {p pos : Pos} {x : Ex}
theorem eexf (i : Nat) (XT : XfT X.K X.mg C f) (hx : clsOk X.mg x cls) (hz : Zc cls d oe) (hf : ∃ vs, oe.data = .fields vs) (hN : X.N[i]? = some n := by rfl) (hv : Vis X.env.scope n := by first | exact Or.inl rfl | exact Or.inr (Or.inl rfl) | exact Or.inr (Or.inr rfl)) (hd : (n == ("__debug__" : Str)) = false := by decide)
    (hcd : (n == ("__classdict__" : Str)) = false := by decide) (hb : attributeBase (.Name n p) f X.env (eval (.Name n p) X.env) = eval (.Name n p) X.env := by rfl) :
    PE (X.suite a ((a, oe) :: pn)) (.Attribute (.Name n p) f pos) (tE X.K X.mg T W (exfG a d x C i f)) := ⟨fun pins s σ H Q I ⟨B, F, e, R, h⟩ => by
  unfold exfG at h
  split at h
  · rename_i a' d' c' fs hs
    split at h
    · rename_i cond
      obtain ⟨rfl, rfl, hc⟩ := cond
      obtain ⟨r, hr, h⟩ := h.lift
      obtain ⟨v, hv', hD⟩ := R.at' i _ hs
      obtain ⟨A, m1, T1, no⟩ := XT.ex
      have ec : cls = .ref A := by
        unfold clsOk at hx
        unfold isC at hc
        cases q : x.cls with
        | blt z => rw [q] at hc; cases hc
        | own z =>
          rw [q] at hc hx
          have : z = C := of_decide_eq_true hc
          subst this
          have hx : X.mg z = some cls := hx
          rw [m1] at hx
          exact (Option.some.inj hx).symm
      subst ec
      refine attr_of hb (thn ((pv (X := X.suite a' ((a', oe) :: pn)) i hN hv hd hcd).run pins s σ H (fun y H1 => y = v ∧ H1 = H) I ⟨v, hv', rfl, rfl⟩) fun u s1 hh => ?_)
      obtain ⟨y, H1, I1, rx, e1, e2⟩ := hh
      subst e1
      rw [e2] at I1
      cases hD with
      | xn0 => cases hr
      | @xn1 _ dd _ _ gs h4 h5 =>
        obtain rfl : u = Value.ref a' := rx
        obtain ⟨v', l', hD'⟩ := h5.look hr
        obtain ⟨ha, _⟩ := I1.pin (a', oe) (List.mem_append_left _ List.mem_cons_self)
        obtain ⟨vs, hdat⟩ := hf
        have hxd : ObjOk X.prog X.w H s1.heap dd (.xd gs) := (R.sub _ _ h4).ok I1.hok
        obtain ⟨mA, hns, hr'⟩ := hxd
        obtain ⟨od, ho, hl⟩ := lookIn_ns hns
        obtain ⟨u, hu, ru⟩ := RelO.some_of (v := v') (o := mA f) (by rw [← l']; exact hr' f)
        have J : PySem.W.InstAt s1.heap a' oe A (some od) := ⟨ha, hz.1, by unfold PySem.W.notCls; rw [hdat] <;> rfl, by rw [hz.2]; exact ho⟩
        exact HandSPX.exc_get I1.kIn J T1.ga T1.gg T1.exC (PySem.W.findObj_own T1.hdC no rfl (by rw [hl, hu])) (handed_of ru) ⟨v', H, I1.tok _, ru, h.ret R hD'⟩
    · exact h.elim
  · exact h.elim⟩
end
/-! ### the class tests -/
def SubOk (K : PySem.W.Frag) (mg : MG) (sub : Str → Str → Option Bool) : Prop := ∀ x c b A C, sub x c = some b → mg x = some (.ref A) → mg c = some (.ref C) → PySem.W.exmOne K (.ref A) (.ref C) = some b
structure HdF where
  cls : Str
  slot : Option Nat
  run : Addr → Option Addr → Ex → En → Out
def HdF.env (h : HdF) (n : Nat) (a : Addr) (d : Option Addr) (x : Ex) : En := match h.slot with
  | none => une n
  | some i => (une n).set i (.val (xnD a d x))
def hdOut (sub : Str → Str → Option Bool) (n : Nat) (a : Addr) (d : Option Addr) (x : Ex) : List HdF → Out
  | [] => .bad
  | h :: r => match x.cls with
    | .own c => match sub c h.cls with
      | some true => h.run a d x (h.env n a d x)
      | some false => hdOut sub n a d x r
      | none => .bad
    | .blt _ => .bad
def outD : Out → Option D
  | .ret d _ => some d
  | .nx _ => some .non
  | _ => none
/-- behind the clauses -/
def thenO (o : Out) (rest : En → Out) : Out := match o with
  | .nx e => rest e
  | o => o
end L2.PV

set_option Elab.async false
set_option linter.all false
set_option maxRecDepth 100000
set_option autoImplicit false
namespace L2.PV
open PySem PySem.Spec PyProof.Rows
section
variable {P : Program} {w : World} {K : PySem.W.Frag} {mg : MG} {base : Heap} {T : Tb} {x : Str} {st : Stmt} {N ps : List Str} {n k : Nat} {body : En → Out} {c0 : Addr}
/-- clV for a def whose code object is known (it makes lambdas) -/
theorem clVc (F : Fc K mg x st c0) (S : FnScope N ps (defScope st)) (hn : ps.length = n)
    (hbind : ∀ (kV doc pm : Value) (an : Option Addr) (cdv ct : Value) (us : List Value), us.length = ps.length → bindArgs (PySem.W.fnOf x x (defArgs st) (defBody st) (defScope st) .none kV doc pm an cdv ct) ⟨us, []⟩ = pure (ps.zip us))
    (hb : ∀ (f : Addr) (A : Around) (outer : List Env) (s : Shared) (H : Hp) (E : XK), Cc (dX P w K mg base N x st f (.ref c0) A outer s H E) (dW E) k →
      PSs (dX P w K mg base N x st f (.ref c0) A outer s H E) (defBody st) (tS K mg T (dW E) body)) : Cl P w K mg base T (k + 1) x n (defV N.length body) := by
  obtain ⟨fa, oc, od, an, kV, doc, pm, ct, osl, hm, lk, hcd, kp⟩ := F.ex
  refine ⟨fa, _, ps, fnG_of lk hcd S (fun vs H Q E h => h.1.trans hn.symm) fun A outer s H vs Q E g hr h => ?_, hm, kp, .all (hbind kV doc pm an (.ref c0) ct)⟩
  exact okV_core (ps := ps) (hb fa A outer s H E ⟨rfl, takes_of rfl rfl rfl rfl, passes_of rfl, hr, S.nd, g⟩) h
theorem Fc.fd (F : Fc K mg x st c0) : Fd K mg x st := by
  obtain ⟨fa, oc, od, an, kV, doc, pm, ct, osl, hm, lk, hcd, kp⟩ := F.ex
  exact ⟨fa, _, fun_mk lk hcd kp, hm⟩
end
/-! ### the clauses, by pure values -/
/-- a clause's result: its suite must not fall through where it bears a name -/
def hdRun (h : HdF) (n : Nat) (a : Addr) (d : Option Addr) (x : Ex) : Out := match h.slot with
  | none => h.run a d x (une n)
  | some i => match h.run a d x ((une n).set i (.val (xnD a d x))) with
    | .nx _ => .bad
    | o => o
def hdsOut (sub : Str → Str → Option Bool) (n : Nat) (a : Addr) (d : Option Addr) (x : Ex) : List HdF → Out
  | [] => .bad
  | h :: r => match x.cls with
    | .own c => match sub c h.cls with
      | some true => hdRun h n a d x
      | some false => hdsOut sub n a d x r
      | none => .bad
    | .blt _ => .bad
/-- the suite of a clause -/
def suP (X : Cx) (T : Tb) (b : List Stmt) (run : Addr → Option Addr → Ex → En → Out) : Prop := ∀ (a : Addr) (oe : Obj) (cls : Value) (d : Option Addr) (pn : List (Addr × Obj)) (x : Ex), clsOk X.mg x cls → Zc cls d oe → (∃ vs, oe.data = .fields vs) →
  PSs (X.suite a ((a, oe) :: pn)) b (tS X.K X.mg T W0 (run a d x))
inductive HdP (X : Cx) (T : Tb) : List ExceptHandler → List HdF → Prop
  | nil : HdP X T [] []
  | plain {x : Str} {run : Addr → Option Addr → Ex → En → Out} {b₀ : Stmt} {su : List Stmt} {np p : Pos} {hds : List ExceptHandler} {l : List HdF} (hg : Gl X x) (hd : (x == ("__debug__" : Str)) = false) (hm : ∃ C, X.mg x = some C) (hs : suP X T (b₀ :: su) run) (r : HdP X T hds l) :
      HdP X T (.ExceptHandler (some (.Name x np)) none (b₀ :: su) p :: hds) (⟨x, none, run⟩ :: l)
  | named {x n : Str} {run : Addr → Option Addr → Ex → En → Out} {b₀ : Stmt} {su : List Stmt} {np p : Pos} {hds : List ExceptHandler} {l : List HdF} (i : Nat) (hN : X.N.Nodup) (hi : X.N[i]? = some n) (hk : X.env.kindOf n = some .local) (hg : Gl X x) (hd : (x == ("__debug__" : Str)) = false) (hm : ∃ C, X.mg x = some C)
      (hs : suP X T (b₀ :: su) run) (r : HdP X T hds l) : HdP X T (.ExceptHandler (some (.Name x np)) (some n) (b₀ :: su) p :: hds) (⟨x, some i, run⟩ :: l)
def tHd (X : Cx) (T : Tb) (run : Addr → Option Addr → Ex → En → Out) : SuX := fun a cls d D σ H => ∃ x, clsOk X.mg x cls ∧ tS X.K X.mg T W0 (run a d x) D σ H
theorem suP.ok {X : Cx} {T : Tb} {b : List Stmt} {run : Addr → Option Addr → Ex → En → Out} (h : suP X T b run) : suOk X b (tHd X T run) := fun a oe cls d pn hz hf => ⟨fun pins s σ H D I ⟨x, hx, q⟩ => (h a oe cls d pn x hx hz hf).run pins s σ H D I q⟩
def SubT (K : PySem.W.Frag) (mg : MG) (sub : Str → Str → Option Bool) : Prop := ∀ x c b u v, sub x c = some b → mg x = some u → mg c = some v → PySem.W.exmOne K u v = some b
section
variable {X : Cx} {T : Tb} {hds : List ExceptHandler} {hs : List HdF} {sub : Str → Str → Option Bool} {rst : En → Out} {d' : D} {Q : VK}
/-- the ends of the whole: rst stands behind the clauses -/
def endR (X : Cx) (T : Tb) (rst : En → Out) (Q : VK) : Ends := { nx := fun σ H => tS X.K X.mg T W0 rst { nx := fun _ H' => Q .non H', rt := Q } σ H, rt := Q }
theorem out_end {B : Bs T} {F : Hp} {o : Out} (ho : outD o = some d') (fin : ∀ F' v σ' e' H', Le F F' → Rel X.K X.mg B F' e' σ' H' → Den X.K X.mg F' d' v → Q v H') : PostS X.K X.mg W0 B F o { nx := fun _ H' => Q .non H', rt := Q } := by
  cases o with
  | nx e => cases ho; exact fun F' σ' H' l R => fin F' .non σ' e H' l R .non
  | ret d e => cases ho; exact fun F' v σ' H' l R hd => fin F' v σ' e H' l R hd
  | _ => cases ho
theorem out_endR {B : Bs T} {F : Hp} {o : Out} (ho : outD (thenO o rst) = some d') (fin : ∀ F' v σ' e' H', Le F F' → Rel X.K X.mg B F' e' σ' H' → Den X.K X.mg F' d' v → Q v H') : PostS X.K X.mg W0 B F o (endR X T rst Q) := by
  cases o with
  | nx e => exact fun F' σ' H' l R => ⟨B, F', e, R, out_end ho fun F2 v σ2 e2 H2 l2 R2 => fin F2 v σ2 e2 H2 (l.trans l2) R2⟩
  | ret d e => cases ho; exact fun F' v σ' H' l R hd => fin F' v σ' e H' l R hd
  | _ => cases ho
theorem hds_wish (h : HdP X T hds hs) (hsub : SubT X.K X.mg sub) : ∃ l, HdL X hds l ∧ ∀ (rst : En → Out) (d' : D) (Q : VK) (n : Nat) (B : Bs T) (F H : Hp) (x : Ex) (cls : Value) (dd : Option Addr) (σ : St), n = σ.length → Rel X.K X.mg B F (une n) σ H → DenX X.K X.mg F x cls dd →
    (∀ a, outD (thenO (hdsOut sub n a dd x hs) rst) = some d') → (∀ F' v σ' e' H', Le F F' → Rel X.K X.mg B F' e' σ' H' → Den X.K X.mg F' d' v → Q v H') → wHds X.K (fun _ _ _ _ => False) (endR X T rst Q) l cls dd σ H := by
  induction h with
  | nil => exact ⟨[], .nil, fun rst d' Q n B F H x cls dd σ hn R hx ho fin => by have := ho 0; cases this⟩
  | @plain c run b₀ su np p hds l hg hd hm hs r ih =>
    obtain ⟨l', h1, h2⟩ := ih
    obtain ⟨C, hC⟩ := hm
    refine ⟨(C, none, tHd X T run) :: l', .plain ⟨hg, hd, .inl hC⟩ hs.ok h1, fun rst d' Q n B F H x cls dd σ hn R hx ho fin => ?_⟩
    have hk : clsOk X.mg x cls := hx.1
    cases q : x.cls with
    | blt z => have := ho 0; unfold hdsOut at this; rw [q] at this; cases this
    | own z =>
      have hz : X.mg z = some cls := by unfold clsOk at hk; rw [q] at hk; exact hk
      cases qb : sub z c with
      | none => have := ho 0; unfold hdsOut at this; simp only [q, qb] at this; cases this
      | some b =>
        refine ⟨b, hsub z c b cls C qb hz hC, fun hb a ha => ?_, fun hb => ?_⟩
        · subst hb
          have ho := ho a
          unfold hdsOut at ho
          simp only [q, qb] at ho
          exact ⟨x, hk, B, F, une n, R, out_endR ho fin⟩
        · subst hb
          refine h2 rst d' Q n B F H x cls dd σ hn R hx (fun a => ?_) fin
          have ho := ho a
          unfold hdsOut at ho
          simp only [q, qb] at ho
          exact ho
  | @named c nm run b₀ su np p hds l i hN hi hkd hg hd hm hs r ih =>
    obtain ⟨l', h1, h2⟩ := ih
    obtain ⟨C, hC⟩ := hm
    refine ⟨(C, some i, tHd X T run) :: l', .named i hN hi hkd ⟨hg, hd, .inl hC⟩ hs.ok h1, fun rst d' Q n B F H x cls dd σ hn R hx ho fin => ?_⟩
    have hk : clsOk X.mg x cls := hx.1
    cases q : x.cls with
    | blt z => have := ho 0; unfold hdsOut at this; rw [q] at this; cases this
    | own z =>
      have hz : X.mg z = some cls := by unfold clsOk at hk; rw [q] at hk; exact hk
      cases qb : sub z c with
      | none => have := ho 0; unfold hdsOut at this; simp only [q, qb] at this; cases this
      | some b =>
        refine ⟨b, hsub z c b cls C qb hz hC, fun hb a ha => ?_, fun hb => ?_⟩
        · subst hb
          have ho := ho a
          unfold hdsOut at ho
          simp only [q, qb, hdRun] at ho
          have R' : Rel X.K X.mg B F ((une n).set i (.val (xnD a dd x))) (σ.set i (some (.ref a))) H := by
            by_cases hin : i < n
            · exact R.setVal (s0 := .un) (by unfold une; rw [List.getElem?_replicate, if_pos hin]) rfl (xnD_ok hx)
            · have e1 : (une n).set i (.val (xnD a dd x)) = une n := List.set_eq_of_length_le (by unfold une; rw [List.length_replicate]; omega)
              have e2 : σ.set i (some (.ref a)) = σ := List.set_eq_of_length_le (by omega)
              rw [e1, e2]; exact R
          refine ⟨x, hk, B, F, _, R', ?_⟩
          cases qo : run a dd x ((une n).set i (.val (xnD a dd x))) with
          | ret d e => rw [qo] at ho; cases ho; exact fun F' v σ' H' l R hd => fin F' v σ' e H' l R hd
          | _ => rw [qo] at ho; cases ho
        · subst hb
          refine h2 rst d' Q n B F H x cls dd σ hn R hx (fun a => ?_) fin
          have ho := ho a
          unfold hdsOut at ho
          simp only [q, qb] at ho
          exact ho
end
/-! ### told: what it makes of what the lambda gives -/
def toldG (tf : D ⊕ Ex → Option D) (g : En → Res D) : En → Res D := fun e => match g e with
  | .ok d e1 => lift (tf (.inl d)) e1
  | .exc x e1 => lift (tf (.inr x)) e1
  | .bad => .bad
def TTd (K : PySem.W.Frag) (mg : MG) (T : Tb) (tf : D ⊕ Ex → Option D) : (XK → Hp → VK → Prop) → Hp → VK → Prop := fun tl H Q =>
  ∃ (Ech : XK) (QQ : VK), tl Ech H QQ ∧
    (∀ v H', QQ v H' → ∃ (B : Bs T) (F : Hp) (e : En) (σ : St) (d d' : D), Rel K mg B F e σ H' ∧ Den K mg F d v ∧ tf (.inl d) = some d' ∧ ∀ F' v' H'', Le F F' → Rel K mg B F' e σ H'' → Den K mg F' d' v' → Q v' H'') ∧
    (∀ cls dd H', Ech cls dd H' → ∃ (B : Bs T) (F : Hp) (e : En) (σ : St) (x : Ex) (d' : D), Rel K mg B F e σ H' ∧ DenX K mg F x cls dd ∧ tf (.inr x) = some d' ∧ ∀ F' v' H'', Le F F' → Rel K mg B F' e σ H'' → Den K mg F' d' v' → Q v' H'')
theorem tlam_of {K : PySem.W.Frag} {mg : MG} {T : Tb} {W : WX} {tf : D ⊕ Ex → Option D} {g : En → Res D} {σ : St} {H : Hp} {Q : VK} (h : tE K mg T W (toldG tf g) σ H Q) : LamX.tLam T (TTd K mg T tf) (fun E => tE K mg T (dW E) g) σ H Q := by
  obtain ⟨B, F, e, R, h⟩ := h
  refine ⟨R.tabs, fun H1 x t => ?_⟩
  have R1 := R.extN x t
  unfold toldG at h
  cases q : g e with
  | bad => rw [q] at h; exact h.elim
  | ok d e1 =>
    rw [q] at h
    obtain ⟨d', hd, h⟩ := h.lift
    refine ⟨fun _ _ _ => False, fun v H' => ∃ F', Le F F' ∧ Rel K mg B F' e1 σ H' ∧ Den K mg F' d v, ⟨B, F, e, R1, by rw [q]; exact fun F' v H' l R' D' => ⟨F', l, R', D'⟩⟩, ?_, fun _ _ _ z => z.elim⟩
    rintro v H' ⟨F', l, R', D'⟩
    exact ⟨B, F', e1, σ, d, d', R', D', hd, fun F2 v2 H2 l2 R2 D2 => h F2 v2 H2 (l.trans l2) R2 D2⟩
  | exc x e1 =>
    rw [q] at h
    obtain ⟨d', hd, h⟩ := h.lift
    refine ⟨fun cls dd H' => ∃ F', Le F F' ∧ Rel K mg B F' e1 σ H' ∧ DenX K mg F' x cls dd, fun _ _ => False, ⟨B, F, e, R1, by rw [q]; exact fun F' c dd H' l R' D' => ⟨F', l, R', D'⟩⟩, fun _ _ z => z.elim, ?_⟩
    rintro cls dd H' ⟨F', l, R', D'⟩
    exact ⟨B, F', e1, σ, x, d', R', D', hd, fun F2 v2 H2 l2 R2 D2 => h F2 v2 H2 (l.trans l2) R2 D2⟩
end L2.PV

set_option Elab.async false
set_option linter.all false
set_option maxRecDepth 100000
set_option autoImplicit false
namespace L2.PV
open PySem PySem.Spec PyProof.Rows LamX
section
theorem peW {X : Cx} {e : Expr} {t : TE} (h : PE X e t) : PE X e (fun σ H Q => ∃ QQ : VK, t σ H QQ ∧ ∀ v H', QQ v H' → Q v H') := ⟨fun pins s σ H Q I ⟨QQ, h1, h2⟩ =>
  wpAny_mono (h.run pins s σ H QQ I h1) (fun v s' ⟨y, H', I', r, q⟩ => ⟨y, H', I', r, h2 _ _ q⟩) fun _ _ z => z⟩
theorem takes_len {Y : Cx} {W : WX} (t : Takes Y W) : Takes Y (fun c d σ H => σ.length = Y.N.length → W c d σ H) := fun u s' ⟨a, B, sI, pins, σ, H, cls, d, e, I, nb, up, sky, na, os, ag, w⟩ =>
  t u s' ⟨a, B, sI, pins, σ, H, cls, d, e, I, nb, up, sky, na, os, ag, w I.len⟩
/-- the context of told's body -/
abbrev toldX (X : Cx) (Ng : List Str) (x : Str) (sg : Scope) (g : Addr) (cdg : Value) (A : Around) (outer : List Env) (s : Shared) (H : Hp) : Cx := (cxOf C8.CX0 X.prog X.w X.K X.mg X.base Ng x sg g cdg A outer s H C8.E0).nox
variable {X : Cx} {T : Tb} {Ng : List Str} {x a q : Str} {sg : Scope} {g : Addr} {cdg : Value} {h₀ : ExceptHandler} {hds : List ExceptHandler} {hs : List HdF} {rest : List Stmt} {rst : En → Out} {sub : Str → Str → Option Bool} {tf : D ⊕ Ex → Option D} {n : Nat} {p1 p2 p3 p8 : Pos}
theorem told_any {bst : Stmt} (ret : Bool) (hsub : SubT X.K X.mg sub) (hN : Ng.length = n) (h0 : ∀ f : Addr, (L2.start Ng [V.ref f])[0]? = some (some (V.ref f))) (hst : ∀ f : Addr, (L2.start Ng [V.ref f]).length = n)
    (hh : ∀ (s : Shared) (H : Hp), HdP (toldX X Ng x sg g cdg X.A X.stack s H) T (h₀ :: hds) hs)
    (hr : ∀ (s : Shared) (H : Hp), PSs (toldX X Ng x sg g cdg X.A X.stack s H) rest (tS X.K X.mg T W0 rst))
    (hb : ∀ (Y : Cx) (t : TE), PE Y (.Call (.Name a p1) [] [] p2) t → PS Y bst (if ret then tRet t else tDrop t))
    (hok : ∀ d d', tf (.inl d) = some d' → if ret then d' = d else outD (rst (une n)) = some d')
    (hex : ∀ y d', tf (.inr y) = some d' → ∀ ea dd, outD (thenO (hdsOut sub n ea dd y hs) rst) = some d') :
    GivesTo X Ng x sg g cdg (.Try [bst] (h₀ :: hds) [] [] p8 :: rest) a q (TTd X.K X.mg T tf) := by
  intro f c' s H Q tl act hc ⟨Ech, QQ, htl, ok, ex⟩
  obtain ⟨l, hl, wish⟩ := hds_wish (sub := sub) (hh s H) hsub
  refine ⟨_, pss_cons (ps_tryL (X := toldX X Ng x sg g cdg X.A X.stack s H) (l := l)
    (tb := fun W D σ H' => σ[0]? = some (some (.ref f)) ∧ H' c' = some (CodeO c' q) ∧ ∃ (E2 : XK) (Q2 : VK), (∀ cls d σ' H'', E2 cls d H'' → σ'.length = n → W cls d σ' H'') ∧ tl E2 H' Q2 ∧ ∀ v H'', Q2 v H'' → if ret then D.rt v H'' else D.nx σ H'')
    rfl rfl LamX.takes0 (fun W pn xe tk _ => ?_) hl) (hr s H), ?_⟩
  · refine ⟨fun pins s' σ H' D I ⟨k1, k2, E2, Q2, k3, k4, k5⟩ => ?_⟩
    have hp := peW (act _ pn xe E2 p1 p2 (takes_len tk) fun cls d σ' H'' z hl => k3 cls d σ' H'' z (hl.trans hN))
    have hq := pss_one (hb _ _ hp)
    refine hq.run pins s' σ H' D I ?_
    cases ret with
    | true => exact ⟨Q2, ⟨k1, k2, k4⟩, k5⟩
    | false => exact ⟨Q2, ⟨k1, k2, k4⟩, k5⟩
  · refine ⟨h0 f, hc, Ech, QQ, fun cls dd σ' H' z hl => ?_, htl, fun v H' z => ?_⟩
    · obtain ⟨B, F, e, σ, y, d', R, hx, ht, fin⟩ := ex cls dd H' z
      exact wish rst d' Q n (Bs.sub T H' F) F H' y cls dd σ' hl.symm (R.fresh hl) hx (fun ea => hex y d' ht ea dd) fun F' v σ2 e2 H2 l2 R2 D2 => fin F' v H2 l2 (R.after R2 l2) D2
    · obtain ⟨B, F, e, σ, d, d', R, hd, ht, fin⟩ := ok v H' z
      have hk := hok d d' ht
      cases ret with
      | true =>
        have hk : d' = d := hk
        subst hk
        exact fin F v H' (Le.refl F) R hd
      | false =>
        have hk : outD (rst (une n)) = some d' := hk
        exact ⟨Bs.sub T H' F, F, une n, R.fresh (hst f), out_end hk fun F' v σ2 e2 H2 l2 R2 D2 => fin F' v H2 l2 (R.after R2 l2) D2⟩
/-- the def st at x calls the one lambda that it gets and makes of its end what tf says -/
structure Told (X : Cx) (T : Tb) (x : Str) (st : Stmt) (tf : D ⊕ Ex → Option D) : Prop where
  gv : ∃ (Ng : List Str) (a : Str), FnScope Ng [a] (defScope st) ∧ Ng[0]? = some a ∧ Vis (defScope st) a ∧ (a == ("__debug__" : Str)) = false ∧ (a == ("__classdict__" : Str)) = false ∧
    (∀ (kV doc pm : Value) (an : Option Addr) (cdv ct : Value) (us : List Value), us.length = [a].length → bindArgs (PySem.W.fnOf x x (defArgs st) (defBody st) (defScope st) .none kV doc pm an cdv ct) ⟨us, []⟩ = pure ([a].zip us)) ∧
    ∀ (g : Addr) (cdg : Value) (q : Str), GivesTo X Ng x (defScope st) g cdg (defBody st) a q (TTd X.K X.mg T tf)
/-- the lambdas of a def with the code object c0 -/
structure LamF (base : Heap) (mg : MG) (T : Tb) (q : Str) (c0 : Addr) : Prop where
  ex : ∃ Pt : Addr, TabB base mg c0 Pt ∧ (Pt, q ++ "<lambda>") ∈ T ∧ ∀ p ∈ T, p.1 = Pt → p.2 = q ++ "<lambda>"
end
section
variable {X : Cx} {T : Tb} {W : WX} {x : Str} {st : Stmt} {tf : D ⊕ Ex → Option D} {k j : Nat} {c0 : Addr} {g : En → Res D} {params : Arguments} {body : Expr} {scope : Scope} {p lpos pos : Pos}
theorem elam (c : Cc X W k) (Td : Told X T x st tf) (F : Fd X.K X.mg x st) (LF : LamF X.base X.mg T X.env.qual c0) (hj : j + 2 ≤ k)
    (hbody : ∀ (A : Around) (outer : List Env) (s : Shared) (H : Hp) (E : XK) (f c' : Addr), Cc (lamCx X A outer s H E scope f c') (dW E) j → PE (lamCx X A outer s H E scope f c') body (tE X.K X.mg T (dW E) g))
    (hL : lamSB X.env.scope scope = true) (hg : Gl X x := by rfl) (hcode : X.env.code = .ref c0 := by rfl) (hdef : defaultsOf params X.env = ([], []) := by rfl)
    (hbind : ∀ (q : Str) (cl : List (Str × Addr)) (pm cv ctv : Value), bindArgs (PySem.W.kla_fn "<lambda>" q params body scope cl pm cv ctv) ⟨[], []⟩ = pure [] := by intros; rfl)
    (hdb : (x == ("__debug__" : Str)) = false := by decide) : PE X (.Call (.Name x p) [.Lambda params body scope lpos] [] pos) (tE X.K X.mg T W (toldG tf g)) := by
  obtain ⟨Ng, a, S, hN, hv, hd, hcd, hbi, gv⟩ := Td.gv
  obtain ⟨fa, fd, F1, hm⟩ := F.ex
  obtain ⟨oc, od, kV, doc, pm, an, cdv, ct, osl, rfl, lk, hcg⟩ := F1.ex
  obtain ⟨Pt, TB, hT, hu⟩ := LF.ex
  refine conv (pe_lamG (k := j) (t := fun E => tE X.K X.mg T (dW E) g) c.gd hg hm F1.kp lk hcg (.all (hbi kV doc pm an cdv ct)) S hN hv (gv fa cdv _) TB hcode hT hu (c.room.mono hj) (lamS_by hL) hdef hbind (fun A outer s H E f c' gd hr => ?_) hdb hd hcd) fun σ H Q h => tlam_of h
  exact hbody A outer s H E f c' ⟨rfl, takes_of rfl rfl rfl rfl, passes_of rfl, hr, c.nd, gd⟩
end
end L2.PV

set_option Elab.async false
set_option linter.all false
set_option maxRecDepth 100000
set_option autoImplicit false
namespace L2.PV
open PySem PySem.Spec PyProof.Rows
/-! ### methods of texts -/
def szLine (x : Str) : Bool := decide (x.length ≤ sizeLine)
def strStr (f : Str → Str → Option D) : D → List D → Option D := fun d as => match d, as with
  | .str a, [.str b] => f a b
  | _, _ => none
def stripD : D → List D → Option D := strStr fun a b => if a.length ≤ sizeLine then some (.str (Txt.stripChars a b)) else none
def splitD : D → List D → Option D := strStr fun a b => if (b.length == 0) = false ∧ a.length + 2 ≤ sizeLine then some (.lst ((Txt.split a b).map .str)) else none
def strsD : List D → Option (List Str)
  | [] => some []
  | .str x :: r => (strsD r).map (x :: ·)
  | _ :: _ => none
def joinD (d : D) (as : List D) : Option D := match d, as with
  | .str a, [.lst xs] => (strsD xs).bind fun ys => if (ys.map (·.length)).sum + ys.length * a.length ≤ 16777216 then some (.str (Txt.join a ys)) else none
  | .str a, [.tup xs] => (strsD xs).bind fun ys => if (ys.map (·.length)).sum + ys.length * a.length ≤ 16777216 then some (.str (Txt.join a ys)) else none
  | _, _ => none
section
variable {K : PySem.W.Frag} {mg : MG} {F : Hp}
theorem strsD_ok : ∀ {ds : List D} {vs : List V} {ys : List Str}, DenL K mg F ds vs → strsD ds = some ys → vs = ys.map V.str
  | [], _, _, .nil, h => by cases h; rfl
  | .str x :: r, _, _, .cons hd ht, h => by
    obtain ⟨zs, h1, rfl⟩ := Option.map_eq_some_iff.mp h
    cases hd
    rw [strsD_ok ht h1]; rfl
theorem den_strs : ∀ ys : List Str, DenL K mg F (ys.map .str) (ys.map V.str)
  | [] => .nil
  | y :: ys => .cons (.str y) (den_strs ys)
end
section
variable {X : Cx} {K : PySem.W.Frag} {mg : MG}
theorem stripD_ok : MeD K mg "str" (fun x xs H Q => ∃ a b, x = .str a ∧ xs = [.str b] ∧ a.length ≤ sizeLine ∧ Q (.str (Txt.stripChars a b)) H) stripD := by
  intro T W B F e σ H d x as xs Q c R Dd Da h P
  unfold stripD strStr at h
  split at h
  · obtain ⟨hz, rfl⟩ := if_some h
    cases Dd
    cases Da with | cons h1 h2 => cases h1; cases h2; exact ⟨_, _, rfl, rfl, hz, P.ret R (.str _)⟩
  · cases h
theorem splitD_ok : MeN K mg "str" (fun x xs H Q => ∃ a b, x = .str a ∧ xs = [.str b] ∧ (b.length == 0) = false ∧ a.length + 2 ≤ sizeLine ∧ rNewStrs (Txt.split a b) H Q) splitD := by
  intro T W B F e σ H d x as xs Q c R Dd Da h P
  unfold splitD strStr at h
  split at h
  · obtain ⟨⟨hz, hl⟩, rfl⟩ := if_some h
    cases Dd
    cases Da with | cons h1 h2 => cases h1; cases h2; exact ⟨_, _, rfl, rfl, hz, hl, P.newL R (den_strs _)⟩
  · cases h
theorem joinD_ok : MeD K mg "str" (fun x xs H Q => ∃ a p, ∃ ys : List Str, x = .str a ∧ xs = [.ref p] ∧ (SqL K H p (ys.map V.str) ∨ SqT K H p (ys.map V.str)) ∧ (ys.map (·.length)).sum + ys.length * a.length ≤ 16777216 ∧ Q (.str (Txt.join a ys)) H) joinD := by
  intro T W B F e σ H d x as xs Q c R Dd Da h P
  unfold joinD at h
  split at h
  · obtain ⟨ys, h1, h2⟩ := bind_some' h
    obtain ⟨h3, rfl⟩ := if_some h2
    cases Dd
    cases Da with
    | cons g1 g2 =>
      cases g2
      cases g1 with
      | lst hq l =>
        have := strsD_ok l h1
        subst this
        exact ⟨_, _, ys, rfl, rfl, .inl (hq.seq R.sub), h3, P.ret R (.str _)⟩
  · obtain ⟨ys, h1, h2⟩ := bind_some' h
    obtain ⟨h3, rfl⟩ := if_some h2
    cases Dd
    cases Da with
    | cons g1 g2 =>
      cases g2
      cases g1 with
      | tup hq l =>
        have := strsD_ok l h1
        subst this
        exact ⟨_, _, ys, rfl, rfl, .inr (hq.seq R.sub), h3, P.ret R (.str _)⟩
  · cases h
/-! ### repr -/
def shOk (p : PyData) : Bool := p.showable && !p.hasDict && decide (p.depth ≤ 60) && decide (p.shown.length ≤ sizeLine)
def reprD : List D → Option D
  | [d] => (toPy d).bind fun p => if shOk p = true then some (.str p.shown) else none
  | _ => none
def rReprA (K : PySem.W.Frag) : List V → Hp → VK → Prop := fun xs H Q => ∃ (v : V) (p : PyData), xs = [v] ∧ Dp K H v p ∧ shOk p = true ∧ Q (.str p.shown) H
theorem call_reprG (g : X.A.guards = some []) (hu : X.A.units + 64 < cLine) : CallR X (.builtin "repr") (rReprA X.K) := by
  intro pins s σ H xs us Q I r h
  obtain ⟨v, p, rfl, hd, hp, q⟩ := h
  unfold shOk at hp
  simp only [Bool.and_eq_true, decide_eq_true_eq, Bool.not_eq_true'] at hp
  obtain ⟨⟨⟨h1, h2⟩, h3⟩, h4⟩ := hp
  cases r with
  | @cons _ u _ us rx rn =>
    cases rn
    obtain ⟨as, hr⟩ := Dp.reads I p v u hd rx
    have tok : ∀ t', Inv X pins σ H { s with toks := t' } := fun t' => I.tok t'
    cases hr with
    | none => exact PySem.P.repr_of_none ⟨.str _, H, tok _, ⟨_, rfl⟩, by simpa [PyData.shown] using q⟩
    | bool b => exact PySem.P.repr_of_bool ⟨.str _, H, tok _, ⟨_, rfl⟩, by simpa [PyData.shown] using q⟩
    | int i t => exact PySem.P.repr_of_int (by simpa [PyData.showable] using h1) ⟨.str _, H, tok _, ⟨_, rfl⟩, by simpa [PyData.shown] using q⟩
    | str x t => exact PySem.P.repr_of_str ⟨.str _, H, tok _, ⟨_, rfl⟩, by simpa [PyData.shown] using q⟩ (by simpa [PyData.shown] using h4)
    | list e1 e2 e3 e4 => exact repr_of_reads' (.list e1 e2 e3 e4) h1 (PyData.noDict_hsm h2) g (by omega) (fun _ _ e => e) (fun h' u tk hk => ⟨.str _, H, I.kept hk, ⟨_, rfl⟩, q⟩) h4
    | tuple e1 e2 e3 e4 => exact repr_of_reads' (.tuple e1 e2 e3 e4) h1 (PyData.noDict_hsm h2) g (by omega) (fun _ _ e => e) (fun h' u tk hk => ⟨.str _, H, I.kept hk, ⟨_, rfl⟩, q⟩) h4
    | dict e1 e2 e3 e4 e5 => simp [PyData.hasDict] at h2
theorem reprD_ok : CaD K mg (rReprA K) reprD := by
  intro T W B F e σ H as xs Q c R Da h P
  unfold reprD at h
  split at h
  · obtain ⟨p, h1, h2⟩ := bind_some' h
    obtain ⟨h3, rfl⟩ := if_some h2
    cases Da with | cons g1 g2 => cases g2; exact ⟨_, p, rfl, Den.dp R.sub g1 h1, h3, P.ret R (.str _)⟩
  · cases h
/-! ### str of a number or a text -/
def strD : List D → Option D
  | [.str a] => some (.str a)
  | [.int i] => if i.natAbs.log2 < 1920 then some (.str (toString i)) else none
  | _ => none
theorem strD_ok : CaD K mg (fun xs H Q => (∃ a, xs = [V.str a] ∧ Q (.str a) H) ∨ ∃ i : Int, xs = [V.int i] ∧ i.natAbs.log2 < 1920 ∧ Q (.str (toString i)) H) strD := by
  intro T W B F e σ H as xs Q c R Da h P
  unfold strD at h
  split at h
  · cases h; cases Da with | cons g1 g2 => cases g1; cases g2; exact .inl ⟨_, rfl, P.ret R (.str _)⟩
  · obtain ⟨h3, rfl⟩ := if_some h
    cases Da with | cons g1 g2 => cases g1; cases g2; exact .inr ⟨_, rfl, h3, P.ret R (.str _)⟩
  · cases h
theorem call_strA : CallR X (.type "str") (fun xs H Q => (∃ a, xs = [V.str a] ∧ Q (.str a) H) ∨ ∃ i : Int, xs = [V.int i] ∧ i.natAbs.log2 < 1920 ∧ Q (.str (toString i)) H) := CallR.or SkE.call_str_str call_str_int
end
/-! ### dict displays -/
def mergeD (kvs more : List (Key × D)) : List (Key × D) := more.foldl (fun acc kv => putKD acc kv.1 kv.2) kvs
def pairsL : List ((En → Res D) × (En → Res D)) → En → Res (List (Key × D))
  | [], e => .ok [] e
  | (gk, gv) :: r, e => (gk e).bind fun k e1 => (gv e1).bind fun v e2 => (pairsL r e2).bind fun kvs e3 => match keyD k with
    | some key => .ok ((key, v) :: kvs) e3
    | none => .bad
def dispG (gs : List ((En → Res D) × (En → Res D))) : En → Res D := fun e => (pairsL gs e).bind fun kvs e1 => if kvs.length ≤ 15 then .ok (.dct (mergeD [] kvs)) e1 else .bad
section
variable {K : PySem.W.Frag} {mg : MG} {F : Hp}
theorem DenK.merge : ∀ {more : List (Key × D)} {ms : List (Key × V)} {kvs : List (Key × D)} {vs : List (Key × V)}, DenK K mg F more ms → DenK K mg F kvs vs → DenK K mg F (mergeD kvs more) (L2.mergeK vs ms)
  | _, _, _, _, .nil, h => h
  | _, _, kvs, ws, .cons (k := k) (d := d) (v := v) (ds := ds) (vs := vs) hd ht, h => by
    have z := DenK.merge (more := ds) (ms := vs) (kvs := putKD kvs k d) (vs := L2.putK ws k v) ht (h.put hd)
    exact z
end
section
variable {X : Cx} {T : Tb} {W : WX} {pos : Pos}
/-- the pairs of a display -/
inductive PDs (X : Cx) (T : Tb) (W : WX) (pos : Pos) : List (Option Expr) → List Expr → List ((En → Res D) × (En → Res D)) → Prop
  | nil : PDs X T W pos [] [] []
  | cons {k v : Expr} {ks : List (Option Expr)} {vs : List Expr} {gk gv : En → Res D} {gs : List ((En → Res D) × (En → Res D))} (hk : PE X k (tE X.K X.mg T W gk)) (hv : PE X v (tE X.K X.mg T W gv)) (r : PDs X T W pos ks vs gs) : PDs X T W pos (some k :: ks) (v :: vs) ((gk, gv) :: gs)
def trsOf (X : Cx) (T : Tb) (W : WX) (gs : List ((En → Res D) × (En → Res D))) : List (TE × TE) := gs.map fun p => (tE X.K X.mg T W p.1, tE X.K X.mg T W p.2)
theorem PDs.pps {ks : List (Option Expr)} {vs : List Expr} {gs : List ((En → Res D) × (En → Res D))} (h : PDs X T W pos ks vs gs) : PPs X pos ks vs (trsOf X T W gs) := by
  induction h with
  | nil => exact pps_nil
  | cons hk hv r ih => exact pps_cons hk hv ih
def PostP (K : PySem.W.Frag) (mg : MG) (W : WX) {T : Tb} (B : Bs T) (σ : St) (F : Hp) (r : Res (List (Key × D))) (Q : List (V × V) → Hp → Prop) : Prop := match r with
  | .ok kvs e => ∀ F' ws H', Le F F' → Rel K mg B F' e σ H' → DenK K mg F' kvs ws → Q (ws.map fun kv => (kV kv.1, kv.2)) H'
  | .exc x e => ∀ F' c dd H', Le F F' → Rel K mg B F' e σ H' → DenX K mg F' x c dd → W c dd σ H'
  | .bad => False
theorem PostP.le {K : PySem.W.Frag} {mg : MG} {B : Bs T} {σ : St} {F G : Hp} {r : Res (List (Key × D))} {Q : List (V × V) → Hp → Prop} (h : PostP K mg W B σ F r Q) (s : Le F G) : PostP K mg W B σ G r Q := by
  cases r with
  | ok a e => exact fun F' b H' l => h F' b H' (s.trans l)
  | exc x e => exact fun F' c dd H' l => h F' c dd H' (s.trans l)
  | bad => exact h
theorem PostP.step {K : PySem.W.Frag} {mg : MG} {B : Bs T} {σ : St} {F : Hp} {r : Res D} {k : D → En → Res (List (Key × D))} {KK : V → Hp → Prop} {Q : List (V × V) → Hp → Prop} (h : PostP K mg W B σ F (r.bind k) Q)
    (f : ∀ F1 e1 a b H1, Le F F1 → Rel K mg B F1 e1 σ H1 → Den K mg F1 a b → PostP K mg W B σ F1 (k a e1) Q → KK b H1) : Post K mg W B σ (Den K mg) F r KK := by
  cases r with
  | ok a e => exact fun F' b H' l R1 hR => f F' e a b H' l R1 hR (PostP.le h l)
  | exc x e => exact h
  | bad => exact h
theorem keyD_kV {K : PySem.W.Frag} {mg : MG} {F : Hp} {d : D} {v : V} {k : Key} (h : Den K mg F d v) (hk : keyD d = some k) : v = kV k := by
  cases h <;> cases hk <;> rfl
theorem pairs_run {B : Bs T} {σ : St} : ∀ (gs : List ((En → Res D) × (En → Res D))) {F H : Hp} {e : En} {Q : List (V × V) → Hp → Prop}, Rel X.K X.mg B F e σ H → PostP X.K X.mg W B σ F (pairsL gs e) Q → tPairs (trsOf X T W gs) σ H Q
  | [], F, H, e, Q, R, h => h F [] H (Le.refl F) R .nil
  | (gk, gv) :: gs, F, H, e, Q, R, h => by
    refine ⟨B, F, e, R, PostP.step (k := fun k e1 => (gv e1).bind fun v e2 => (pairsL gs e2).bind fun kvs e3 => match keyD k with | some key => .ok ((key, v) :: kvs) e3 | none => .bad) h fun F1 e1 dk x H1 l1 R1 D1 h1 => ⟨B, F1, e1, R1, PostP.step h1 fun F2 e2 dv y H2 l2 R2 D2 h2 => ?_⟩⟩
    refine pairs_run gs R2 ?_
    cases hq : pairsL gs e2 with
    | bad => rw [hq] at h2; exact h2
    | exc x' e3 => rw [hq] at h2; exact h2
    | ok kvs e3 =>
      rw [hq] at h2
      cases hk : keyD dk with
      | none => simp only [Res.bind, hk] at h2; exact h2.elim
      | some key =>
        simp only [Res.bind, hk] at h2
        have hx := keyD_kV D1 hk
        subst hx
        exact fun F3 ws H3 l3 R3 D3 => h2 F3 ((key, y) :: ws) H3 l3 R3 (.cons (D2.mono l3) D3)
theorem ndisp {ks : List (Option Expr)} {vs : List Expr} {gs : List ((En → Res D) × (En → Res D))} (h : PDs X T W pos ks vs gs) (hall : ks.all (·.isSome) = true := by rfl) (hl : ks.length = vs.length := by rfl) (h0 : ks ≠ [] := by intro z; cases z) (h15 : ks.length ≤ 15 := by decide) :
    PE X (.Dict ks vs pos) (tN X.K X.mg T W (dispG gs)) := conv (pe_disp h.pps hall hl h0 h15) fun σ H Q ⟨B, F, e, R, h⟩ p hp => by
  have off := R.offNew hp
  refine pairs_run gs (R.base (o := .dK []) hp rfl) ?_
  unfold dispG at h
  cases hq : pairsL gs e with
  | bad => rw [hq] at h; exact h
  | exc x e1 => rw [hq] at h; exact fun F' c dd H' l R' hx => h F' c dd H' l (R'.unbase off) hx
  | ok kvs e1 =>
    rw [hq] at h
    intro F' ws H' l R' D'
    simp only [Res.bind] at h
    split at h
    · rename_i hlen
      obtain ⟨hH, hF⟩ := R'.atBase off rfl
      refine ⟨hH, ws, rfl, by rw [← D'.length]; exact hlen, ?_⟩
      have R2 := (R'.rebase (o' := .dK (L2.mergeK [] ws)) off rfl rfl rfl).unbase off
      exact h F' p _ l R2 hF off.1 ⟨_, upd_same, DenK.merge D' .nil⟩ fun j s hj ht => R'.offHot off hj ht
    · exact h.elim
theorem ndict0 : PE X (.Dict [] [] pos) (tN X.K X.mg T W (constG (.dct []))) := conv pe_dnewK fun σ H Q ⟨B, F, e, R, h⟩ p hp => h.new R p hp ⟨[], upd_same, .nil⟩
end
end L2.PV

set_option Elab.async false
set_option linter.all false
set_option maxRecDepth 100000
set_option autoImplicit false
/-! raise C(v), C an own class whose __init__ says super().__init__(v) and keeps v. -/
namespace L2.PV
open PySem PySem.Spec PyProof.Rows PySem.W PySem.Calls
/-- what is asked of the class, of its __init__, of the top -/
structure SupC (prog : Program) (K : PySem.W.Frag) (mg : MG) (C fI : Addr) (B newId i : String) (bmB : List Value) (fld f : Str) (initSt : Stmt) : Prop where
  FB : ExcBaseFacts B newId i bmB
  KF : KxsFacts B i
  SF : StoreFacts B bmB "object.__setattr__" "object"
  q : excInitIn K C bmB newId = true
  over : excOver K C bmB = true
  iC : findIn K (.ref C) "__init__" = some (some (.ref fI))
  isf : isFn K (.ref fI) = true
  hm : ks_superIn K C C "__init__" = some (some (.builtin i))
  hB : subIn K (.ref C) (.type B) = some true
  hsub : mroIn K C (.ref C) = some true
  hsuper : nsIn K mainGlobals "super" = some none
  any : nsIn K cStatics "thirdparty.any" = some none
  sa : findIn K (.ref C) "__setattr__" = some (some (.builtin "object.__setattr__"))
  tk : takerIn K C fld = some none
  hh : hasDictIn K C = true
  exC : subIn K (.ref C) (.type "BaseException") = some true
  tyC : typeIn K (.ref C) = some (.type "type")
  keep : keepIn K (.ref C) = true
  init : ∃ (oc : Value) (od an : Option Addr) (osl : Array (Option Value)) (qual : Str) (kV doc pm ct : Value) (cda cc : Addr) (vs : Array Value) (file : Str) (tf : Tok) (ccl cl : Value) (cdd cld : Option Addr) (ccs csl : Array (Option Value)),
    K.lookup fI = some ⟨oc, od, .func (ksFn "__init__" qual (defArgs initSt) (defBody initSt) (defScope initSt) .none kV doc pm an (.ref cda) ct cc), osl⟩ ∧ codeIn K (.ref cda) qual = true ∧
    K.lookup cda = some ⟨ccl, cdd, .fields vs, ccs⟩ ∧ vs[2]? = some (.str file tf) ∧ ((prog.main.file : Str) == file) = true ∧ K.lookup cc = some ⟨cl, cld, .cell (some (.ref C)), csl⟩
abbrev supEnv (initSt : Stmt) (qual : Str) (kV doc pm ct cdv : Value) (an : Option Addr) (cc L fI : Addr) : Env :=
  callEnv (ksFn "__init__" qual (defArgs initSt) (defBody initSt) (defScope initSt) .none kV doc pm an cdv ct cc) L fI
/-- the text of such an __init__ -/
structure SupT (prog : Program) (fld f : Str) (initSt : Stmt) : Prop where
  body : ∃ p0 p1 p2 p3 p4 p5 p6 p7 p8 p9 : Pos, defBody initSt = [.Expr (.Call (.Attribute (.Call (.Name "super" p0) [] [] p1) "__init__" p2) [.Name f p3] [] p4) p5, .Assign [.Attribute (.Name "self" p6) fld p7] (.Name f p8) p9] ∧
    ∀ (qual : Str) (kV doc pm ct cdv : Value) (an : Option Addr) (cc L fI : Addr), interactive (supEnv initSt qual kV doc pm ct cdv an cc L fI) = false ∧
      swapsWith (.Call (.Attribute (.Call (.Name "super" p0) [] [] p1) "__init__" p2) [.Name f p3] [] p4) none p5.line (supEnv initSt qual kV doc pm ct cdv an cc L fI) = pure false ∧
      (∃ pl : Sem Bool, eval (.Call (.Attribute (.Call (.Name "super" p0) [] [] p1) "__init__" p2) [.Name f p3] [] p4) (supEnv initSt qual kV doc pm ct cdv an cc L fI) = (do
        let ov ← attributeBase (.Call (.Name "super" p0) [] [] p1) "__init__" (supEnv initSt qual kV doc pm ct cdv an cc L fI) (eval (.Call (.Name "super" p0) [] [] p1) (supEnv initSt qual kV doc pm ct cdv an cc L fI))
        standAt p2.atName
        let (f', first) ← holding [ov] (getMethod ov "__init__" pl)
        callWith p4 f' first (backTo p4 (starEach [.Name f p3] (supEnv initSt qual kV doc pm ct cdv an cc L fI))) [])) ∧
      swapsWith (.Name f p8) (some (.Attribute (.Name "self" p6) fld p7)) p9.line (supEnv initSt qual kV doc pm ct cdv an cc L fI) = pure false
  head : ∃ ar, ((defArgs initSt).posonlyargs ++ (defArgs initSt).args).head? = some ar ∧ ar.arg = "self"
  bind : ∀ (qual : Str) (kV doc pm ct cdv : Value) (an : Option Addr) (cc : Addr) (u v : Value), bindArgs (ksFn "__init__" qual (defArgs initSt) (defBody initSt) (defScope initSt) .none kV doc pm an cdv ct cc) ⟨[u, v], []⟩ = pure [(("self" : Str), u), (f, v)]
  kind : (defScope initSt).kind = .function
  co : (defScope initSt).isCoroutine = false
  gen : (defScope initSt).isGenerator = false
  cell : ∀ x ∈ (defScope initSt).names, x.2 ≠ .cell
  nS : (defScope initSt).names.lookup ("super" : Str) = some .globalImplicit
  nC : (defScope initSt).names.lookup ("__class__" : Str) = some .free
  nself : (defScope initSt).names.lookup ("self" : Str) = some .local
  nf : (defScope initSt).names.lookup f = some .local
  ne : f ≠ "self"
  dbg : (f == ("__debug__" : Str)) = false
  top : (prog.main.scope.names.lookup ("super" : Str)).isSome = false
section
variable {prog : Program} {w : World} {A : Around} {K : PySem.W.Frag} {mg : MG} {C fI : Addr} {B newId i : String} {bmB : List Value} {fld f : Str} {initSt : Stmt}
theorem init_run {s : Shared} {e t0 : Addr} {u : Value} {R : Result → Shared → Prop} (S : SupC prog K mg C fI B newId i bmB fld f initSt) (Tx : SupT prog fld f initSt) (M : L2.Mod K mg s.heap) (hdep : A.depth < recursionLimit)
    (he : s.heap.get? e = some (excObj C t0 none .none)) (hKe : K.lookup e = none)
    (hq : ∀ h' tk' dx t1, (∀ b o, b ≠ e → s.heap.get? b = some o → h'.get? b = some o) → s.heap.objs.size ≤ dx → h'.get? e = some (excObj C t1 (some dx) .none) → h'.Ns1 dx (fun y => if y = fld then some u else none) → R (.ok (.ret .none)) { s with heap := h', toks := tk' }) :
    codeAny (model prog w) A (.call (.ref fI) ⟨[.ref e, u], []⟩) R s := by
  obtain ⟨oc, od, an, osl, qual, kV, doc, pm, ct, cda, cc, vs, file, tf, ccl, cl, cdd, cld, ccs, csl, lk, hcd, hcode, hvs, hfile, hcell⟩ := S.init
  obtain ⟨p0, p1, p2, p3, p4, p5, p6, p7, p8, p9, hbody, heqs⟩ := Tx.body
  obtain ⟨ar, har, hself⟩ := Tx.head
  have X : K.In s.heap := M.kin
  refine ks_codeAny_call_defAt (fd := ksFn "__init__" qual (defArgs initSt) (defBody initSt) (defScope initSt) .none kV doc pm an (.ref cda) ct cc) (body := defBody initSt) (binds := [(("self" : Str), .ref e), (f, u)]) hdep (X _ _ lk) rfl M.nolimit (codeRec_of X hcd) rfl
    (.of_eq (Tx.bind qual kV doc pm ct (.ref cda) an cc (.ref e) u)) Tx.cell (fun x hx => ?_) (fun h1 hns k1 => ?_) Tx.co Tx.gen Tx.kind
  · rcases List.mem_cons.mp hx with rfl | hx
    · exact Tx.nself
    · rcases List.mem_cons.mp hx with rfl | hx
      · exact Tx.nf
      · cases hx
  have X1 : K.In h1 := X.keeps k1
  have he1 := k1 _ _ he
  obtain ⟨cd, hcl, hdict⟩ := any_some S.hh
  obtain ⟨oC, hC1, hC2⟩ : ∃ oC, h1.get? C = some oC ∧ oC.data = .cls cd := by
    unfold clsIn at hcl
    split at hcl
    · rename_i c d cd' sl ho
      cases hcl
      exact ⟨_, X1 _ _ ho, rfl⟩
    · cases hcl
  have eC : e ≠ C := by
    rintro rfl
    rw [he1] at hC1; cases hC1; cases hC2
  have mself : (fun y => ([(("self" : Str), Value.ref e), (f, u)] : List (Str × Value)).reverse.lookup y) ("self" : Str) = some (.ref e) := by
    show List.lookup ("self" : Str) [(f, u), (("self" : Str), Value.ref e)] = some (.ref e)
    simp only [List.lookup, beq_eq_false_iff_ne.mpr (Ne.symm Tx.ne), beq_self_eq_true]
  have mf : (fun y => ([(("self" : Str), Value.ref e), (f, u)] : List (Str × Value)).reverse.lookup y) f = some u := by
    show List.lookup f [(f, u), (("self" : Str), Value.ref e)] = some u
    simp only [List.lookup, beq_self_eq_true]
  have ldf : ∀ {M' : Model} {A' : Around} {Q : Value → Shared → Prop} {E : Value → Shared → Prop} {p : Pos} {h' : Heap} {g : Array GenState} {d : Drawn} {t : Nat} {os : OsState}, (∀ b o, h1.get? b = some o → h'.get? b = some o) → Q u ⟨h', g, d, t, os⟩ →
      wpAny M' A' (eval (.Name f p) (callEnv (ksFn "__init__" qual (defArgs initSt) (defBody initSt) (defScope initSt) .none kV doc pm an (.ref cda) ct cc) s.heap.objs.size fI)) Q E ⟨h', g, d, t, os⟩ := fun k q =>
    wpAny_Name (wpAny_loadName_local Tx.kind Tx.nf (hns.keeps k) mf q) Tx.dbg
  obtain ⟨hi, hsw, ⟨pl, hev⟩, hsw2⟩ := heqs qual kV doc pm ct (.ref cda) an cc s.heap.objs.size fI
  rw [show execs (defBody initSt) = _ from congrArg execs hbody]
  obtain ⟨hh, g, d, t, os⟩ := s
  refine ks_wpAt_execs_cons (ks_wpAt_Expr_any (ks_wpAt_MethodCall ?_ hev) hi hsw)
  refine ks_wpAt_super_base Tx.nS Tx.nC (by rfl) rfl (X1 _ _ lk) rfl har rfl (X1 _ _ hcode) rfl hvs hfile Tx.top ?_
  obtain ⟨mb, hb1, hb2⟩ := M.blt
  refine ks_loadName_global Tx.kind Tx.nS (loadGlobal_builtin (M.glob.keeps k1) (mg_none_of X1 (M.glob.keeps k1) S.hsuper) (hb1.keeps k1) ((hb2 _ (by decide +kernel)).trans (by decide +kernel)) ⟨rfl, ?_⟩)
  refine wpAny_loadName_free Tx.kind Tx.nC rfl ⟨_, X1 _ _ hcell, rfl⟩ ?_
  rw [hself]
  refine wpAny_loadName_local Tx.kind Tx.nself hns mself ?_
  refine ks_wpAny_isType_cls hC1 hC2 ⟨rfl, ?_⟩
  refine ks_wpAny_call_super hC1 hC2 he1 rfl (fun c z => by cases z) (looks_mroIn X1 S.hsub) (fun h2 hso k2 => ?_)
  have X2 : K.In h2 := X1.keeps k2
  have hI2 : Looks (model prog w) h2 (isInstance (.ref e) (.type B)) true := (show InstAt h2 e (excObj C t0 none .none) C none from ⟨k2 _ _ he1, rfl, rfl, trivial⟩).type.andThen (looks_subIn X2 S.hB)
  have hms := S.hm
  unfold ks_superIn at hms
  rw [hcl] at hms
  refine kxs_getMethod S.KF hso (looks_opaque X2 S.any) (l₀ := cd.mro) (fun A Q E s k q => wpAny_bind ((looks_clsIn X2 hcl) A _ E s k (wpAny_pure q))) rfl X2 hms hI2 eC (by decide) ?_
  have k3 : ∀ b o, h1.get? b = some o → (h2.push (kxs_mw i e)).get? b = some o := fun b o z => Heap.get?_push_of_some _ (k2 _ _ z)
  refine kxs_callWith (i := i) (x := e) (by rfl) ?_
  refine evalArgs_plain (x := eval (.Name f p3) _) (rest := []) (spliced_cons (ldf k3 (spliced_nil ⟨Heap.get?_push_size _ rfl, ?_⟩)))
  have hz : ([u] : List Value).length ≤ sizeLine := by show 1 ≤ sizeLine; rw [sizeLine_eq]; omega
  have X3 : K.In (h2.push (kxs_mw i e)) := X1.keeps k3
  obtain ⟨nm, N', qn, bs, bm, hdct, sn, sub, ab, col, dd, s0, s1, s2, s3, s5, hCC, hT⟩ := excInit_of X3 S.q
  refine wpAny_call (codeAny_of_tree ?_)
  show wpAny _ _ (callAny (.ref h2.objs.size) ⟨[u], []⟩) _ _ _
  simp only [callAny]
  refine wpAny_bind (wpAny_load (Heap.get?_push_size _ rfl) ?_)
  simp only [kxs_mw, show (Value.type "method-wrapper" == Value.type "method" || Value.type "method-wrapper" == Value.type "builtin_function_or_method" || Value.type "method-wrapper" == Value.type "method-wrapper") = true by decide, if_true]
  refine KFB.if_so (by decide) ?_
  refine wpAny_bind (check_bound_init S.FB.toExcCallFacts hCC (k3 _ _ he1) rfl ?_)
  refine wpAny_bind (wpAny_pure (wpAny_pure ?_))
  refine ⟨plainId_quiet S.FB.init.plain _, codeAny_builtin S.FB.initEntry ?_⟩
  refine exc_init_tree (cls := .ref C) (t0 := t0) (dv := none) (c2 := .none) (c3 := .none) (b4 := .bool false) (k3 _ _ he1) hz fun h4 k4 he4 ht4 => ?_
  -- self.f = v
  have k14 : ∀ b o, b ≠ e → h1.get? b = some o → h4.get? b = some o := fun b o hb z => k4 b o hb (k3 _ _ z)
  have X4 : K.In h4 := fun b o z => k14 b o (fun q => by rw [q, hKe] at z; cases z) (X1 b o z)
  have hL : hh.objs.size ≠ e := Nat.ne_of_gt (Heap.lt_size he)
  have hns4 : h4.Ns hh.objs.size _ := let ⟨oL, es, ep, z, r⟩ := hns; ⟨oL, es, ep, k14 _ _ hL z, r⟩
  have sz : hh.objs.size ≤ h4.objs.size := Nat.le_of_lt (let ⟨_, _, _, z, _⟩ := hns4; Heap.lt_size z)
  refine ks_wpAt_execs_cons (ks_wpAt_Assign_Attr (wpAt_of_wpAny (wpAny_Name (wpAny_loadName_local Tx.kind Tx.nf hns4 mf (wpAny_Name (wpAny_loadName_local Tx.kind Tx.nself hns4 mself ?_) (by decide))) Tx.dbg)) hsw2)
  have I4 : ∀ {h' : Heap}, (h'.get? e = h4.get? e) → InstAt h' e (excObj C (h2.push (kxs_mw i e)).objs.size none .none) C none := fun z => ⟨z.trans he4, rfl, rfl, trivial⟩
  refine set_plain X4 (I4 rfl) S.sa (osa_openX S.SF X4 (I4 rfl) S.over S.tk fun b => ?_)
  refine wpAny_bind (wpAny_pure (wpAny_bind (instanceDict_exc he4 (looks_clsIn X4 hcl) hdict ?_)))
  show wpAny _ _ (PySem.Builtin.ObjectAttr.storeInDict h4.objs.size _ fld u) _ _ _
  have e4 : e ≠ h4.objs.size := Nat.ne_of_lt (Heap.lt_size he4)
  have hpu : (h4.push (dictOf [] 0)).get? e = some (excObj C (h2.push (kxs_mw i e)).objs.size none .none) := Heap.get?_push_of_some _ he4
  refine HandSPX.store_in_new ⟨_, #[], _, (Heap.get?_update_ne _ _ _ _ e4.symm).trans (Heap.get?_push_at rfl rfl), rfl, fun e he => absurd he (by simp), fun _ => rfl⟩ fun h5 tk5 hn5 hs5 => ?_
  refine wpAt_of_wpAny (wpAny_execs_nil (hq h5 tk5 h4.objs.size _ (fun b o hb z => ?_) sz ((hs5.2 e e4).trans (Heap.get?_update_self _ hpu rfl)) hn5))
  have z4 : h4.get? b = some o := k14 b o hb (k1 _ _ z)
  exact (hs5.2 b (Nat.ne_of_lt (Heap.lt_size z4))).trans ((Heap.get?_update_ne _ _ _ _ hb).trans (Heap.get?_push_of_some _ z4))
end
section
open L2
variable {X : Cx} {K : PySem.W.Frag} {mg : MG} {C fI : Addr} {B newId i : String} {bmB : List Value} {fld f x : Str} {initSt : Stmt} {e : Expr} {te : TE} {p pos : Pos} {k : Nat}
theorem mod_here {pins : List (Addr × Obj)} {σ : L2.St} {H : Hp} {s : Shared} {h' : Heap} (I : Inv X pins σ H s) (kk : ∀ b o, s.heap.get? b = some o → h'.get? b = some o) : L2.Mod X.K X.mg h' := by
  have k : ∀ b o, X.base.get? b = some o → h'.get? b = some o := fun b o z => kk _ _ (I.bk b o z)
  obtain ⟨mb, h1, h2⟩ := I.ok.mod.blt
  exact ⟨I.ok.mod.kin.keeps k, I.ok.mod.glob.keeps k, ⟨mb, h1.keeps k, h2⟩, I.ok.mod.nolimit.keeps k⟩
theorem pmk_sup (S : SupC X.prog X.K X.mg C fI B newId i bmB fld f initSt) (Tx : SupT X.prog fld f initSt) (hr : Room (k + 1) X.A) (hg : Gl X x) (hm : X.mg x = some (.ref C)) (he : PE X e te)
    (hdb : (x == ("__debug__" : Str)) = false := by decide) (hs : starEach [e] X.env = (false, eval e X.env) :: starEach [] X.env := by rfl) :
    PMk X (.Call (.Name x p) [e] [] pos) (fun σ H Q => te σ H fun v H1 => ∀ d, H1 d = none → Q (.ref C) (some d) (upd H1 d (.xd [(fld, v)]))) := by
  intro pins s σ H Q I h
  refine wpAny_Call_Name_kw (ld_glob I hg hm (PySem.W.callWith_K (h₀ := X.base) I.ok.mod.kin S.keep ?_ hs (by rfl)) hdb)
  rw [hs]
  show wpAny _ _ (spliced ((false, eval e X.env) :: backTo pos (starEach [] X.env))) _ _ s
  refine Calls.spliced_cons (thn (he.run pins s σ H _ I h) fun u s1 ⟨v, H1, I1, r1, q1⟩ => Calls.spliced_nil ⟨I1.kIn, ?_⟩)
  show wpAny _ _ (call (.ref C) [u]) _ _ _
  obtain ⟨hp, g, dr, tk, os⟩ := s1
  obtain ⟨nm, N', qn, bs, bm, hdct, sn, sub, ab, col, dd, s0, s1, s2, s3, s5, hC, hT⟩ := excInit_of I1.kIn S.q
  obtain ⟨oI, hoI, hcI⟩ : ∃ oI, hp.get? fI = some oI ∧ oI.cls = .type "function" := by
    obtain ⟨o, ho, hc⟩ := Option.map_eq_some_iff.mp (show (X.K.lookup fI).map (·.cls) = some (.type "function") from beq_iff_eq.mp S.isf)
    exact ⟨o, I1.kIn _ _ ho, hc⟩
  have hz : ([u] : List Value).length ≤ sizeLine := by show 1 ≤ sizeLine; rw [sizeLine_eq]; omega
  have hn : H1 (hp.objs.size + 1) = none := I1.hok.fresh (Nat.le_succ _)
  have kk : ∀ b o, hp.get? b = some o → ((hp.push (PySem.W.kdv_tup [u])).push (PySem.HandSPX.excO C hp.objs.size)).get? b = some o := fun b o e => Heap.get?_push_of_some _ (Heap.get?_push_of_some _ e)
  have hget : ((hp.push (PySem.W.kdv_tup [u])).push (PySem.HandSPX.excO C hp.objs.size)).get? (hp.objs.size + 1) = some (excObj C hp.objs.size none .none) := by heap_get
  have hlt : ∀ {b : Addr} {o : Obj}, hp.get? b = some o → b ≠ hp.objs.size + 1 := fun z => Nat.ne_of_lt (Nat.lt_succ_of_lt (Heap.lt_size z))
  have hKe : X.K.lookup (hp.objs.size + 1) = none := by
    cases z : X.K.lookup (hp.objs.size + 1) with
    | none => rfl
    | some o => exact absurd rfl (hlt (I1.kIn _ _ z))
  refine wpAny_call (PySem.HandSPX.call_own S.FB hT hC (looks_findIn I1.kIn S.iC) (fun self => exc_bind hoI hcI self) hz (init_run (mg := X.mg) S Tx (mod_here I1 kk) (hr.make C [u] []).depth hget hKe fun h' tk' dx t1 k' hdx he' hn' => ⟨rfl, ?_⟩))
  have hdx' : hp.objs.size ≤ dx := Nat.le_trans (by rw [Heap.size_push, Heap.size_push]; omega) hdx
  have hdn : H1 dx = none := I1.hok.fresh hdx'
  have hde : dx ≠ hp.objs.size + 1 := fun z => by
    obtain ⟨o, es, ep, e1, e2, _⟩ := hn'
    rw [z, he'] at e1
    cases e1; cases e2
  have gk : ∀ b o, b ≠ hp.objs.size + 1 → h'.get? b = some o → (hideAll h' [hp.objs.size + 1]).get? b = some o := fun b o hb z => hideAll_get _ z (by simpa using hb)
  have J := I1.laid (t' := tk') (a := dx) (o := .xd [(fld, v)]) (h' := hideAll h' [hp.objs.size + 1]) (fun b o z => gk b o (hlt z) (k' b o (hlt z) (kk _ _ z))) hdx'
    ⟨_, hn'.at fun o y => gk dx o hde y, fun y => by
      by_cases hy : y = fld
      · subst hy; rw [if_pos rfl]; simp only [List.lookup, beq_self_eq_true]; exact r1
      · rw [if_neg hy]; simp only [List.lookup, beq_eq_false_iff_ne.mpr hy]; exact True.intro⟩
  exact ⟨hp.objs.size + 1, _, _, _, _, .ref C, some dx, rfl, J, fun b o z => of_hideAll _ z, hideAll_none _ (List.mem_singleton.mpr rfl), he', ⟨rfl, rfl⟩, rfl, rfl, by rw [upd_ne (Ne.symm hde)]; exact hn, rfl, I1.bare, raises_own S.exC S.tyC, q1 dx hdn⟩
end
/-- raise C(v) -/
structure XcS (prog : Program) (K : PySem.W.Frag) (mg : MG) (x fld : Str) : Prop where
  ex : ∃ (C fI : Addr) (B newId i : String) (bmB : List Value) (f : Str) (initSt : Stmt), SupC prog K mg C fI B newId i bmB fld f initSt ∧ SupT prog fld f initSt ∧ mg x = some (.ref C)
def raiseVS (x fld : Str) (g : En → Res D) : En → Out := fun e => (g e).thn fun v e1 => .exc ⟨.own x, some [(fld, v)]⟩ e1
section
variable {X : L2.Cx} {T : Tb} {W : L2.WX} {k : Nat} {x fld : Str} {p pos pos' : Pos} {e : Expr} {g : En → Res D}
theorem sraiseV (c : Cc X W (k + 1)) (h : XcS X.prog X.K X.mg x fld) (hg : L2.Gl X x) (he : L2.PE X e (tE X.K X.mg T W g)) (hdb : (x == ("__debug__" : Str)) = false := by decide)
    (hs : starEach [e] X.env = (false, eval e X.env) :: starEach [] X.env := by rfl) : L2.PS X (.Raise (some (.Call (.Name x p) [e] [] pos)) none pos') (tS X.K X.mg T W (raiseVS x fld g)) := by
  obtain ⟨C, fI, B, newId, i, bmB, f, initSt, S, Tx, gC⟩ := h.ex
  exact convS (L2.ps_raise c.calm c.tk (pmk_sup S Tx c.room hg gC he hdb hs)) fun N σ H ⟨B, F, e, R, q⟩ => ⟨B, F, e, R, PostS.step (R := Den X.K X.mg) q fun F1 e1 d v H1 l1 R1 D1 q1 a ha =>
    q1 _ (.ref C) (some a) σ _ (.upd (R1.sub.free ha)) (R1.new ha rfl) ⟨gC, a, _, rfl, L2.upd_same, .cons (D1.mono (.upd (R1.sub.free ha))) .nil⟩⟩
end
end L2.PV

set_option Elab.async false
set_option linter.all false
set_option maxRecDepth 100000
set_option autoImplicit false
/-! Keyword-only parameters with defaults. -/
namespace L2.PV
open PySem PySem.Spec PyProof.Rows
section
variable {X : Cx} {CX : CXT} {k n : Nat} {f : Addr} {fd : FuncData} {ps ks : List Str} {sp : Sp} {E : St → XK} {x : Str} {p pos : Pos} {e : Expr} {es : List Expr} {kws : List Keyword} {t tk : TA} {g : List Value → List Value → List Value} {gV : List V → List V → List V}
def tCallGN (n m : Nat) (sp : Sp) (gV : List V → List V → List V) (E : St → XK) (t tk : TA) : TE := fun σ H Q => t σ H fun vs H1 => tk σ H1 fun zs H2 => vs.length = n ∧ zs.length = m ∧ sp (gV vs zs) H2 Q (E σ)
theorem pe_callGN (F : FnG X.prog X.w X.K X.mg X.base CX k f fd ps sp) (gd : X.A.guards = some []) (hr : Room k X.A) (hg : Gl X x) (hm : X.mg x = some (.ref f)) (hk : PySem.W.keepIn X.K (.ref f) = true) (hb : KBn X.K fd ps n ks g gV) (hx : ∀ σ, PassesAt CX X σ (E σ))
    (ha : PA X (e :: es) t) (hkw : PK X kws tk) (hall : (backToKw pos (keywordEach kws X.env)).all (·.1.isSome) = true) (hks : (backToKw pos (keywordEach kws X.env)).filterMap (·.1) = ks)
    (hdb : (x == ("__debug__" : Str)) = false) (he : starEach (e :: es) X.env = (false, eval e X.env) :: starEach es X.env)
    (hpl : ((backTo pos (starEach (e :: es) X.env)).any (·.1) || (backToKw pos (keywordEach kws X.env)).any (·.1.isNone)) = false) :
    PE X (.Call (.Name x p) (e :: es) kws pos) (tCallGN n ks.length sp gV E t tk) := by
  refine ⟨fun pins s σ H Q I h => wpAny_Call_Name_kw (ld_glob I hg hm (PySem.W.callWith_KW (h₀ := X.base) I.ok.mod.kin hk hall (thn (ha.run pos pins s σ H _ I h) fun us s1 ⟨vs, H1, I1, r, q⟩ => ?_) hpl he) hdb)⟩
  refine thn (hkw.run pos pins s1 σ H1 _ I1 q) fun ws s2 ⟨zs, H2, I2, rz, l1, l2, q2⟩ => ⟨I2.kIn, ?_⟩
  rw [hks]
  refine wpAny_call (codeAny_mono (F.run X.A X.stack s2 H2 ⟨us, ks.zip ws⟩ (g us ws) (gV vs zs) Q (E σ) gd hr I2.env0 (hb.to s2 us ws I2.kIn (r.length.symm.trans l1) (rz.length.symm.trans l2)) (hb.rel r rz) q2) fun r s' hq => ?_)
  match r, hq with
  | .error e, hq => exact hx σ pins H2 s2 e s' I2 hq
  | .ok (.ret u), hq => exact I2.after hq
  | .ok .next, hq => exact hq.elim
  | .ok .brk, hq => exact hq.elim
  | .ok .cont, hq => exact hq.elim
end
/-! ### by pure values -/
section
variable {X : Cx} {T : Tb} {W : WX} {ga : En → Res D} {gk : En → Res (List Ar)} {kws : List Keyword} {e : Expr} {nm : Option Str} {kpos : Pos}
theorem convPK {t t' : TA} (h : PK X kws t) (k : ∀ σ H Q, t' σ H Q → t σ H Q) : PK X kws t' := ⟨fun po pins s σ H Q I q => h.run po pins s σ H Q I (k σ H Q q)⟩
theorem kwnil : PK X [] (tA X.K X.mg T W nilA) := convPK pk_nil fun σ H Q ⟨B, F, e, R, h⟩ => h.ret R trivial
theorem kwcons (ha : PE X e (tE X.K X.mg T W ga)) (hr : PK X kws (tA X.K X.mg T W gk)) : PK X (⟨nm, e, kpos⟩ :: kws) (tA X.K X.mg T W (consA ga gk)) := convPK (pk_cons ha hr) fun σ H Q ⟨B, F, e, R, h⟩ =>
  ⟨B, F, e, R, h.step fun F1 e1 d x H1 l1 R1 D1 h1 => ⟨B, F1, e1, R1, h1.step fun F2 e2 ds xs H2 l2 R2 D2 h2 => h2.ret R2 ⟨D1.mono l2, D2⟩⟩⟩
end
/-- the values in the parameters' order: m of the keyword-only defaults fill up -/
def catA (dfl : List D) (ga gk : En → Res (List Ar)) : En → Res (List Ar) := fun e => (ga e).bind fun as e1 => (gk e1).bind fun zs e2 => .ok (as ++ zs ++ dfl.map .v) e2
/-- a def of n positional parameters and keyword-only ones with the defaults kwsD -/
structure FdD (K : PySem.W.Frag) (mg : MG) (x : Str) (st : Stmt) (kwsD : List (Str × D)) : Prop where
  ex : ∃ (fa : Addr) (fd : FuncData) (kws : List (Str × V)), FunD K x x (defArgs st) (defBody st) (defScope st) [] kws fa fd ∧ mg x = some (.ref fa) ∧ kws.map (·.1) = kwsD.map (·.1) ∧ ∀ F, DenL K mg F (kwsD.map (·.2)) (kws.map (·.2))
structure ClD (P : Program) (w : World) (K : PySem.W.Frag) (mg : MG) (base : Heap) (T : Tb) (j : Nat) (x : Str) (st : Stmt) (ps : List Str) (kwsD : List (Str × D)) (f : En → Res D) : Prop where
  ex : ∃ (fa : Addr) (fd : FuncData) (kws : List (Str × V)), FnG P w K mg base (L2.CX P w) j fa fd ps (spV K mg T ps.length f) ∧ FunD K x x (defArgs st) (defBody st) (defScope st) [] kws fa fd ∧ mg x = some (.ref fa) ∧ kws.map (·.1) = kwsD.map (·.1) ∧ ∀ F, DenL K mg F (kwsD.map (·.2)) (kws.map (·.2))
theorem clD {P : Program} {w : World} {K : PySem.W.Frag} {mg : MG} {base : Heap} {T : Tb} {x : Str} {st : Stmt} {N ps : List Str} {k : Nat} {body : En → Out} {kwsD : List (Str × D)} (F : FdD K mg x st kwsD) (S : FnScope N ps (defScope st))
    (hb : ∀ (f : Addr) (cdv : Value) (A : Around) (outer : List Env) (s : Shared) (H : Hp) (E : XK), Cc (dX P w K mg base N x st f cdv A outer s H E) (dW E) k →
      PSs (dX P w K mg base N x st f cdv A outer s H E) (defBody st) (tS K mg T (dW E) body)) : ClD P w K mg base T (k + 1) x st ps kwsD (defV N.length body) := by
  obtain ⟨fa, fd, kws, F1, hm, h1, h2⟩ := F.ex
  obtain ⟨oc, od, dV, kV, doc, pm, an, cdv, ct, osl, rfl, lk, hcd, a1, a2⟩ := F1.ex
  refine ⟨fa, _, kws, fnG_of lk hcd S (fun vs H Q E h => h.1) fun A outer s H vs Q E g hr h => ?_, F1, hm, h1, h2⟩
  exact okV_core (ps := ps) (hb fa cdv A outer s H E ⟨rfl, takes_of rfl rfl rfl rfl, passes_of rfl, hr, S.nd, g⟩) h
theorem ArsOk.append {K : PySem.W.Frag} {mg : MG} {σ : St} {F : Hp} : ∀ {as zs : List Ar} {vs ws : List V}, ArsOk K mg σ F as vs → ArsOk K mg σ F zs ws → ArsOk K mg σ F (as ++ zs) (vs ++ ws)
  | [], _, [], _, _, h => h
  | _ :: as, _, _ :: vs, _, ⟨h1, h2⟩, h => ⟨h1, ArsOk.append h2 h⟩
  | [], _, _ :: _, _, h, _ => h.elim
  | _ :: _, _, [], _, h, _ => h.elim
theorem ArsOk.dens {K : PySem.W.Frag} {mg : MG} {σ : St} {F : Hp} : ∀ {ds : List D} {vs : List V}, DenL K mg F ds vs → ArsOk K mg σ F (ds.map .v) vs
  | [], [], .nil => trivial
  | _ :: _, _ :: _, .cons h t => ⟨h, ArsOk.dens t⟩
theorem vals_app {as bs : List V} {us ws : List Value} (h : Vals as us) (h' : Vals bs ws) : Vals (as ++ bs) (us ++ ws) := h.append h'
section
variable {X : Cx} {T : Tb} {W : WX} {k j n : Nat} {f : En → Res D} {x : Str} {st : Stmt} {ps ks : List Str} {kwsD : List (Str × D)} {p pos : Pos} {e : Expr} {es : List Expr} {kws : List Keyword} {ga gk : En → Res (List Ar)}
/-- the call, some way to bind given -/
theorem ecl_bind {fa : Addr} {fd : FuncData} (dfl : List D) (dvs : List V) {g : List Value → List Value → List Value} (c : Cc X W k) (Fn : FnG X.prog X.w X.K X.mg X.base (L2.CX X.prog X.w) j fa fd ps (spV X.K X.mg T ps.length f)) (hj : j ≤ k) (hg : Gl X x) (hm : X.mg x = some (.ref fa)) (hk : PySem.W.keepIn X.K (.ref fa) = true)
    (hb : KBn X.K fd ps n ks g (fun vs zs => vs ++ zs ++ dvs)) (hd : ∀ F, DenL X.K X.mg F dfl dvs) (ha : PA X (e :: es) (tA X.K X.mg T W ga)) (hkw : PK X kws (tA X.K X.mg T W gk))
    (hla : ∀ as en en', ga en = .ok as en' → as.length = n) (hlk : ∀ as en en', gk en = .ok as en' → as.length = ks.length) (hn : n + ks.length + dfl.length = ps.length)
    (hall : (backToKw pos (keywordEach kws X.env)).all (·.1.isSome) = true) (hks : (backToKw pos (keywordEach kws X.env)).filterMap (·.1) = ks)
    (hdb : (x == ("__debug__" : Str)) = false) (he : starEach (e :: es) X.env = (false, eval e X.env) :: starEach es X.env)
    (hpl : ((backTo pos (starEach (e :: es) X.env)).any (·.1) || (backToKw pos (keywordEach kws X.env)).any (·.1.isNone)) = false) :
    PE X (.Call (.Name x p) (e :: es) kws pos) (tE X.K X.mg T W (callG f (catA dfl ga gk))) := conv (pe_callGN (E := WE W) Fn c.gd (c.room.mono hj) hg hm hk hb (passAt c.tk) ha hkw hall hks hdb he hpl) fun σ H Q ⟨B, F, e, R, h⟩ => by
  refine ⟨B, F, e, R, ?_⟩
  unfold callG catA at h
  cases hq : ga e with
  | bad => rw [hq] at h; exact h
  | exc x e' => rw [hq] at h; exact h
  | ok as e' =>
    rw [hq] at h
    intro F1 vs H1 l1 R1 A1
    have h := Post.le h l1
    simp only [Res.bind] at h
    refine ⟨B, F1, e', R1, ?_⟩
    cases hq2 : gk e' with
    | bad => rw [hq2] at h; exact h
    | exc x e2 => rw [hq2] at h; exact h
    | ok zs e2 =>
      rw [hq2] at h
      intro F2 ws H2 l2 R2 A2
      have h := Post.le h l2
      simp only at h
      have AA : ArsOk X.K X.mg σ F2 (as ++ zs ++ dfl.map .v) (vs ++ ws ++ dvs) := ((A1.mono l2).append A2).append (ArsOk.dens (hd F2))
      have L1 : vs.length = n := by rw [← (args_get (j := 0) A1).2]; exact hla as e e' hq
      have L2 : ws.length = ks.length := by rw [← (args_get (j := 0) A2).2]; exact hlk zs e' e2 hq2
      have L3 : dvs.length = dfl.length := (hd F2).length.symm
      refine ⟨L1, L2, ?_⟩
      split at h
      · rename_i nd
        split at h
        · rename_i args hm
          exact call_post (by rw [List.length_append, List.length_append, L1, L2, L3]; exact hn) R2 AA nd hm h
        · exact h.elim
      · exact h.elim
/-- f(e, ..): every keyword-only default is taken -/
theorem eclD0 (c : Cc X W k) (C : ClD X.prog X.w X.K X.mg X.base T j x st ps kwsD f) (hj : j ≤ k) (hg : Gl X x) (ha : PA X (e :: es) (tA X.K X.mg T W ga)) (hla : ∀ as en en', ga en = .ok as en' → as.length = n) (hk0 : kwsD ≠ []) (hn : n + kwsD.length = ps.length)
    (hbi : ∀ (D : Addr) (doc pm : Value) (an : Option Addr) (cdv ct : Value) (us mv : List Value), us.length = n → mv.length = kwsD.length →
      KwChain D ((kwsD.map (·.1)).zip mv) (bindArgs (PySem.W.fnOf x x (defArgs st) (defBody st) (defScope st) .none (.ref D) doc pm an cdv ct) ⟨us, []⟩) (ps.zip (us ++ mv)))
    (hdb : (x == ("__debug__" : Str)) = false := by decide) (he : starEach (e :: es) X.env = (false, eval e X.env) :: starEach es X.env := by rfl)
    (hpl : ((backTo pos (starEach (e :: es) X.env)).any (·.1) || (backToKw pos (keywordEach [] X.env)).any (·.1.isNone)) = false := by rfl) :
    PE X (.Call (.Name x p) (e :: es) [] pos) (tE X.K X.mg T W (callG f (catA (kwsD.map (·.2)) ga nilA))) := by
  obtain ⟨fa, fd, kws, Fn, FD, hm, e1, e2⟩ := C.ex
  have hl : kws.length = kwsD.length := by rw [← List.length_map (f := (·.1)), e1, List.length_map]
  have hne : kws ≠ [] := fun z => hk0 (by rw [z] at hl; exact List.length_eq_zero_iff.mp hl.symm)
  obtain ⟨mv, hb⟩ := FD.kbinds0 (ps := ps) n [] kws (fun us mv ws => us ++ ws ++ mv) hne (fun q hq => hq) (fun r1 r2 r3 => (r1.append r3).append r2) fun D doc pm an cdv ct us mv ws l1 l2 l3 => by
    have : ws = [] := List.length_eq_zero_iff.mp l3
    subst this
    have := hbi D doc pm an cdv ct us mv l1 (l2.trans hl)
    rw [← e1] at this
    simpa using this
  exact ecl_bind (kwsD.map (·.2)) (kws.map (·.2)) c Fn hj hg hm FD.kp hb e2 ha kwnil hla (fun as en en' h => by cases h; rfl) (by rw [List.length_map]; exact hn) rfl rfl hdb he hpl
/-- f(e, .., k = v, ..): all the keyword-only ones are told, in their order -/
theorem eclDA (c : Cc X W k) (C : ClD X.prog X.w X.K X.mg X.base T j x st ps kwsD f) (hj : j ≤ k) (hg : Gl X x) (ha : PA X (e :: es) (tA X.K X.mg T W ga)) (hkw : PK X kws (tA X.K X.mg T W gk)) (hla : ∀ as en en', ga en = .ok as en' → as.length = n) (hlk : ∀ as en en', gk en = .ok as en' → as.length = ks.length)
    (hk0 : kwsD ≠ []) (hn : n + ks.length = ps.length)
    (hbi : ∀ (D : Addr) (doc pm : Value) (an : Option Addr) (cdv ct : Value) (us ws : List Value), us.length = n → ws.length = ks.length →
      bindArgs (PySem.W.fnOf x x (defArgs st) (defBody st) (defScope st) .none (.ref D) doc pm an cdv ct) ⟨us, ks.zip ws⟩ = pure (ps.zip (us ++ ws)))
    (hall : (backToKw pos (keywordEach kws X.env)).all (·.1.isSome) = true := by rfl) (hks : (backToKw pos (keywordEach kws X.env)).filterMap (·.1) = ks := by rfl)
    (hdb : (x == ("__debug__" : Str)) = false := by decide) (he : starEach (e :: es) X.env = (false, eval e X.env) :: starEach es X.env := by rfl)
    (hpl : ((backTo pos (starEach (e :: es) X.env)).any (·.1) || (backToKw pos (keywordEach kws X.env)).any (·.1.isNone)) = false := by rfl) :
    PE X (.Call (.Name x p) (e :: es) kws pos) (tE X.K X.mg T W (callG f (catA [] ga gk))) := by
  obtain ⟨fa, fd, kws0, Fn, FD, hm, e1, e2⟩ := C.ex
  have hl : kws0.length = kwsD.length := by rw [← List.length_map (f := (·.1)), e1, List.length_map]
  have hne : kws0 ≠ [] := fun z => hk0 (by rw [z] at hl; exact List.length_eq_zero_iff.mp hl.symm)
  obtain ⟨mv, hb⟩ := FD.kbinds0 (ps := ps) n ks [] (fun us mv ws => us ++ ws ++ mv) hne (fun q hq => by cases hq) (fun r1 r2 r3 => (r1.append r3).append r2) fun D doc pm an cdv ct us mv ws l1 l2 l3 => by
    have : mv = [] := List.length_eq_zero_iff.mp l2
    subst this
    show bindArgs _ _ = pure _
    rw [List.append_nil]
    exact hbi D doc pm an cdv ct us ws l1 l3
  exact ecl_bind [] [] c Fn hj hg hm FD.kp hb (fun _ => .nil) ha hkw hla hlk (by simpa using hn) hall hks hdb he hpl
end
end L2.PV

set_option Elab.async false
set_option linter.all false
set_option maxRecDepth 100000
set_option autoImplicit false
namespace L2.PV
open PySem PySem.Spec PyProof.Rows
theorem XcV.here {K : PySem.W.Frag} {mg : MG} {x : Str} (h : XcV K mg x) : ∃ C, mg x = some C := let ⟨C, _, _, _, _, _, m, _⟩ := h.ex; ⟨_, m⟩
theorem XcS.here {P : Program} {K : PySem.W.Frag} {mg : MG} {x f : Str} (h : XcS P K mg x f) : ∃ C, mg x = some C := let ⟨C, _, _, _, _, _, _, _, _, _, m⟩ := h.ex; ⟨_, m⟩
theorem hu64 {k : Nat} {A : Around} (r : Room k A) : A.units + 64 < cLine := r.units
theorem hu64d {A : Around} (r : Room 2 A) (env : Env) (h : Option Value) : ((A.deeper env).mark h).units + 64 < cLine := by have := r.un; show A.units + 3 + 64 < cLine; omega
/-! ### a clause's result does not hang on the error's address -/
def Cm (g : En → Res D) (e : En) (o : Option D) : Prop := g e = lift o e
theorem cm_const {d : D} {e : En} : Cm (constG d) e (some d) := rfl
theorem cm_op2 {f : D → D → Option D} {ga gb : En → Res D} {e : En} {a b : Option D} (ha : Cm ga e a) (hb : Cm gb e b) : Cm (op2G f ga gb) e (a.bind fun x => b.bind fun y => f x y) := by
  unfold Cm op2G
  rw [show ga e = lift a e from ha]
  cases a with
  | none => rfl
  | some x =>
    show (gb e).bind _ = _
    rw [show gb e = lift b e from hb]
    cases b <;> rfl
theorem cm_blt1 {f : List D → Option D} {ga : En → Res D} {e : En} {a : Option D} (ha : Cm ga e a) : Cm (bltG f (consA ga nilA)) e (a.bind fun x => f [x]) := by
  unfold Cm bltG consA
  rw [show ga e = lift a e from ha]
  cases a <;> rfl
theorem cm_exf {n i : Nat} {a : Addr} {d : Option Addr} {x : Ex} {C f : Str} (h : i < n) : Cm (exfG a d x C i f) ((une n).set i (.val (xnD a d x))) (if isC x C = true then x.fs.bind (List.lookup f) else none) := by
  unfold Cm exfG
  rw [List.getElem?_set_self (by unfold une; rw [List.length_replicate]; exact h)]
  unfold xnD
  cases q : x.fs with
  | none =>
    simp only []
    have : (if isC x C = true then (none : Option (List (Str × D))).bind (List.lookup f) else none) = none := by split <;> rfl
    rw [this]
    split <;> rfl
  | some fs =>
    simp only []
    by_cases hc : isC x C = true
    · rw [if_pos (by simp [hc]), if_pos hc]; rfl
    · rw [if_neg fun z => hc z.2.2, if_neg hc]; rfl
section
variable {sub : Str → Str → Option Bool} {n : Nat} {y : Ex} {rs : En → Out}
def Same (sub : Str → Str → Option Bool) (n : Nat) (y : Ex) (rs : En → Out) (hs : List HdF) : Prop := ∀ ea dd, outD (thenO (hdsOut sub n ea dd y hs) rs) = outD (thenO (hdsOut sub n 0 (some 0) y hs) rs)
def Same1 (n : Nat) (y : Ex) (rs : En → Out) (h : HdF) : Prop := ∀ ea dd, outD (thenO (hdRun h n ea dd y) rs) = outD (thenO (hdRun h n 0 (some 0) y) rs)
theorem same_nil : Same sub n y rs [] := fun _ _ => rfl
theorem same_cons {h : HdF} {hs : List HdF} (h1 : Same1 n y rs h) (h2 : Same sub n y rs hs) : Same sub n y rs (h :: hs) := fun ea dd => by
  unfold hdsOut
  cases y.cls with
  | blt z => rfl
  | own z =>
    simp only []
    cases sub z h.cls with
    | none => rfl
    | some b => cases b with
      | true => exact h1 ea dd
      | false => exact h2 ea dd
theorem same_ret {C : Str} {i : Nat} {run : Addr → Option Addr → Ex → En → Out} {o : Option D} (h : ∀ ea dd, ∃ g, run ea dd y = retS g ∧ Cm g ((une n).set i (.val (xnD ea dd y))) o) : Same1 n y rs ⟨C, some i, run⟩ := by
  have key : ∀ ea dd, outD (thenO (hdRun ⟨C, some i, run⟩ n ea dd y) rs) = o := fun ea dd => by
    obtain ⟨g, h1, h2⟩ := h ea dd
    unfold hdRun
    simp only [h1, retS]
    rw [show g _ = lift o _ from h2]
    cases o <;> rfl
  exact fun ea dd => (key ea dd).trans (key 0 (some 0)).symm
end
end L2.PV

set_option Elab.async false
set_option linter.all false
set_option maxRecDepth 100000
set_option autoImplicit false
/-! The end of a law: its def called once, by the caller whose every promise we know. -/
namespace L2.PV
open PySem PySem.Spec PyProof.Rows LamX
/-- what is tracked when the law's def is called: the script, the tables of code objects -/
def lawH (a : Addr) (ob : Obj) (xs : List V) (cs : List (Addr × Addr)) : Hp := fun b => if b = a then some (.frz ob (.lst xs)) else if b ∈ cs.map (·.2) then some (.tbl #[]) else none
theorem lawH_a {a : Addr} {ob : Obj} {xs : List V} {cs : List (Addr × Addr)} : lawH a ob xs cs a = some (.frz ob (.lst xs)) := if_pos rfl
theorem lawH_t {a b : Addr} {ob : Obj} {xs : List V} {cs : List (Addr × Addr)} (h : b ≠ a) (hb : b ∈ cs.map (·.2)) : lawH a ob xs cs b = some (.tbl #[]) := (if_neg h).trans (if_pos hb)
theorem lawH_n {a b : Addr} {ob : Obj} {xs : List V} {cs : List (Addr × Addr)} (h : b ≠ a) (hb : b ∉ cs.map (·.2)) : lawH a ob xs cs b = none := (if_neg h).trans (if_neg hb)
theorem lawH_cases {a b : Addr} {ob : Obj} {xs : List V} {cs : List (Addr × Addr)} {u : HO} (h : lawH a ob xs cs b = some u) : (b = a ∧ u = .frz ob (.lst xs)) ∨ (b ≠ a ∧ b ∈ cs.map (·.2) ∧ u = .tbl #[]) := by
  by_cases hb : b = a
  · subst hb; rw [lawH_a] at h; cases h; exact .inl ⟨rfl, rfl⟩
  · by_cases ht : b ∈ cs.map (·.2)
    · rw [lawH_t hb ht] at h; cases h; exact .inr ⟨hb, ht, rfl⟩
    · rw [lawH_n hb ht] at h; cases h
section
variable {P : Program} {w : World} {K : PySem.W.Frag} {mg mb : MG} {CX : CXT} {k : Nat} {fa a : Addr} {cs : List (Addr × Addr)} {fd : FuncData} {x : Str} {sp : Sp} {s₁ : Shared} {vs : List Value} {ns : List Int}
theorem law_callG (KX : K.In s₁.heap) (hns : s₁.heap.Ns mainGlobals mg) (hb : s₁.heap.Ns builtinsNs mb) (hbb : ∀ x : Str, x ≠ "__name__" → mb x = bootBuiltins x) (hlim : s₁.heap.NoLimit) (hg : s₁.gens = #[])
    (hT : ∀ p ∈ cs, s₁.heap.get? p.2 = some { cls := .none, data := .fields #[] }) (nT : ∀ p ∈ cs, K.lookup p.2 = none) (C : ∀ p ∈ cs, PySem.W.CodeHd s₁.heap p.1 p.2)
    (hbm : ∃ (bm : Addr) (ob : Obj), mg "__builtins__" = some (.ref bm) ∧ bm ≠ builtinsNs ∧ s₁.heap.get? bm = some ob ∧ ob.cls = .type "module" ∧ ob.dict = some builtinsNs ∧ ob.data = .plain)
    (ha : s₁.heap.get? a = some { cls := .type "list", data := .seq vs.toArray }) (hi : IntsAre vs ns) (hl : ns.length ≤ sizeLine) (nA : K.lookup a = none) (hr : Room k callerA)
    (F : ∀ base : Heap, K.In base → base.Ns mainGlobals mg → (∀ p ∈ cs, TabB base mg p.1 p.2) → FnG P w K mg base CX k fa fd [x] sp) (hbind : ∀ (s : Shared) (u : Value), BindsTo s fd ⟨[u], []⟩ [(x, u)])
    (hsp : sp [.ref a] (lawH a { cls := .type "list", data := .seq vs.toArray } (ns.map V.int) cs) (fun v _ => v = .bl true) fun _ _ _ => False)
    (hCX : ∀ H e s', CX [] H s₁ (fun _ _ _ => False) e s' → False) :
    codeAny (model P w) callerA (.call (.ref fa) ⟨[.ref a], []⟩) (fun r s' => r = .ok (.ret (.bool true)) ∧ OldK s₁.heap s'.heap ∧ s'.os = s₁.os ∧ AllBare s'.gens) s₁ := by
  have rv := vals_ints hi
  have lenV := hi.length
  let ob : Obj := { cls := .type "list", data := .seq vs.toArray }
  let H : Hp := lawH a ob (ns.map V.int) cs
  have isT : ∀ b, b ∈ cs.map (·.2) → s₁.heap.get? b = some { cls := .none, data := .fields #[] } := fun b hb => by
    obtain ⟨p, hp, e⟩ := List.mem_map.mp hb
    rw [← e]; exact hT p hp
  have aT : a ∉ cs.map (·.2) := fun z => by
    have q := isT a z
    rw [ha] at q; cases q
  -- nothing else is tracked
  have free : ∀ {b : Addr} {o : Obj}, s₁.heap.get? b = some o → (∀ vs n, o.data ≠ .seq vs n) → o.data ≠ .fields #[] → H b = none := fun {b o} e h1 h2 => by
    refine lawH_n (fun z => ?_) fun z => ?_
    · rw [z, ha] at e; cases e; exact h1 _ _ rfl
    · rw [isT b z] at e; cases e; exact h2 rfl
  have hok : HOk P w H s₁.heap := fun b u z => by
    rcases lawH_cases z with ⟨rfl, rfl⟩ | ⟨_, hb, rfl⟩
    · exact ⟨ha, by rw [List.length_map]; exact hl, vs, _, rv, ha⟩
    · exact isT b hb
  have keep : ∀ {b : Addr} {o : Obj}, s₁.heap.get? b = some o → H b = none → (hidT s₁.heap H).get? b = some o := fun e n => hidT_get e n
  have keepNs : ∀ {b : Addr} {m : MG}, s₁.heap.Ns b m → (hidT s₁.heap H).Ns b m := fun {b m} ⟨o, es, ep, e, d, r⟩ => ⟨o, es, ep, keep e (free e (fun _ _ z => by rw [d] at z; cases z) fun z => by rw [d] at z; cases z), d, r⟩
  have hK : K.In (hidT s₁.heap H) := fun b o e => keep (KX b o e) (lawH_n (fun z => by rw [z, nA] at e; cases e) fun z => by
    obtain ⟨p, hp, ep⟩ := List.mem_map.mp z
    rw [← ep, nT p hp] at e; cases e)
  have hM : L2.Mod K mg (hidT s₁.heap H) := ⟨hK, keepNs hns, ⟨mb, keepNs hb, hbb⟩, let ⟨mc, h1, h2⟩ := hlim; ⟨mc, keepNs h1, h2⟩⟩
  have TB : ∀ p ∈ cs, TabB (hidT s₁.heap H) mg p.1 p.2 := fun p hp => by
    refine ⟨?_, ?_, fun z => ?_⟩
    · obtain ⟨o, us, file, tf, flags, tg, inF, text, tt, e1, r1, r2, r3, r⟩ := C p hp
      exact ⟨o, us, file, tf, flags, tg, inF, text, tt, keep e1 (free e1 (fun _ _ z => by rw [r2] at z; cases z) fun z => by rw [r2] at z; cases z; simp at r3), r1, r2, r3, r⟩
    · obtain ⟨bm, om, b1, b2, b3, b4, b5, b6⟩ := hbm
      refine ⟨bm, om, b1, b2, fun q => ?_, fun q => ?_, keep b3 (free b3 (fun _ _ z => by rw [b6] at z; cases z) fun z => by rw [b6] at z; cases z), b4, b5, b6⟩
      · obtain ⟨o, es, ep, e, hd, _⟩ := hns
        rw [q, e] at b3; cases b3; rw [hd] at b6; cases b6
      · rw [q, hT p hp] at b3; cases b3; cases b6
    · obtain ⟨o, es, ep, e, hd, _⟩ := hns
      rw [z, hT p hp] at e; cases e; cases hd
  have e0 : Env0 P w K mg (hidT s₁.heap H) callerA [] s₁ H := ⟨rfl, hM, fun b o e => of_hidT e, Nat.le_of_eq (hidT_size _ _), trivial, fun b hb => absurd (show b ∈ ([] : List Addr) from hb) (by simp), hok, .of_eq hg⟩
  refine codeAny_mono ((F _ hK (keepNs hns) TB).run callerA [] s₁ H ⟨[.ref a], []⟩ [.ref a] [.ref a] _ _ rfl hr e0 (hbind s₁ (.ref a)) (.cons rfl .nil) hsp) fun r s' h => ?_
  match r, h with
  | .error e, h => exact (hCX H e s' h).elim
  | .ok .next, h => exact h.elim
  | .ok .brk, h => exact h.elim
  | .ok .cont, h => exact h.elim
  | .ok (.ret u), h =>
    obtain ⟨v, H', os, bare, un, hok', r', q⟩ := h
    have q : v = .bl true := q
    subst q
    obtain rfl : u = Value.bool true := r'
    have same : ∀ b o, b ∉ cs.map (·.2) → s₁.heap.get? b = some o → s'.heap.get? b = some o := fun b o nb e => by
      by_cases hba : b = a
      · subst hba
        rw [ha] at e; cases e
        exact (hok' b _ (un.frzs b ob _ lawH_a)).1
      · exact un.keep b o e (lawH_n hba nb) (by intro z; exact absurd (show b ∈ ([] : List Addr) from z) (by simp)) (by simp)
    have grown : ∀ b, b ∈ cs.map (·.2) → ∃ more : Array Value, s'.heap.get? b = some { cls := .none, data := .fields more } := fun b hb => by
      obtain ⟨more, z⟩ := un.tbls b #[] (lawH_t (fun z => aT (z ▸ hb)) hb)
      exact ⟨_, hok' b _ z⟩
    refine ⟨rfl, ⟨fun b o e => ?_, fun b o e => ?_⟩, os, bare⟩
    · by_cases hb : b ∈ cs.map (·.2)
      · obtain ⟨p, hp, ep⟩ := List.mem_map.mp hb
        obtain ⟨more, hm⟩ := grown b hb
        rw [isT b hb] at e
        cases e
        rw [← ep] at hm ⊢
        exact .inr (.inl ⟨((C p hp).tab (hT p hp)).isCodeTable, rfl, #[], more, rfl, by rw [Array.empty_append]; exact hm⟩)
      · exact .inl (same b o hb e)
    · by_cases hb : b ∈ cs.map (·.2)
      · obtain ⟨more, hm⟩ := grown b hb; exact ⟨_, hm⟩
      · exact ⟨o, same b o hb e⟩
end
/-- the law's def promises what its pure values say -/
theorem spV_law {K : PySem.W.Frag} {mg : MG} {cs : List (Addr × Addr)} {T : Tb} {f : En → Res D} {a : Addr} {vs : List Value} {ns : List Int} {e' : En} (hT : ∀ p ∈ T, p.1 ∈ cs.map (·.2)) (aT : a ∉ cs.map (·.2)) (hf : f [.val (.lst (ns.map .int))] = .ok (.bl true) e') :
    spV K mg T 1 f [.ref a] (lawH a { cls := .type "list", data := .seq vs.toArray } (ns.map V.int) cs) (fun v _ => v = .bl true) fun _ _ _ => False := by
  refine ⟨rfl, ⟨kn T (lawH a { cls := .type "list", data := .seq vs.toArray } (ns.map V.int) cs), fun b => if b = a then some (.lst (ns.map V.int)) else none, fun _ => none⟩, _, [.val (.lst (ns.map .int))], rfl, rfl, ?_, fun s hs => ?_, ?_⟩
  · refine ⟨fun b u q => ?_, fun b o q _ _ => (kn_sub q).1, fun b o q t => (kn_sub q).2 t, fun p hp => ?_, Le.refl _, fun _ _ h => .inl h, rfl, fun i s hs => ?_, fun i b hb => (by cases hb), fun i j b s t h1 h2 h3 _ _ _ => ?_, fun b u q => ?_⟩
    · by_cases hb : b = a
      · subst hb
        have q : (if b = b then some (HO.lst (ns.map V.int)) else none) = some u := q
        rw [if_pos rfl] at q; cases q
        exact .inr ⟨_, lawH_a⟩
      · have q : (if b = a then some (HO.lst (ns.map V.int)) else none) = some u := q
        rw [if_neg hb] at q; cases q
    · exact TabS.nil (lawH_t (fun z => aT (z ▸ hT p hp)) (hT p hp))
    · match i, hs with
      | 0, hs =>
        cases hs
        refine ⟨.ref a, rfl, .lst (vs := ns.map V.int) (by show (if a = a then _ else _) = _; rw [if_pos rfl]) ?_⟩
        exact DenL.ofMap (fun z => .int z) ns
    · match i, h1 with
      | 0, h1 => cases h1; cases h3
    · have q : (if b = a then some (HO.lst (ns.map V.int)) else none) = some u := q
      split at q
      · cases q; rfl
      · cases q
  · rcases List.mem_cons.mp hs with rfl | hs
    · exact .inl ⟨_, rfl⟩
    · cases hs
  · rw [hf]
    intro F' v H' _ _ hd
    cases hd; rfl
/-- no list of the module's own is written in K -/
def noLists (K : PySem.W.Frag) : Bool := K.all fun p => !(p.2.cls == .type "list")
theorem mem_lk {a : Addr} {o : Obj} : ∀ {K : List (Addr × Obj)}, K.lookup a = some o → (a, o) ∈ K
  | (b, u) :: r, e => by
    by_cases h : (a == b) = true
    · simp only [List.lookup, h] at e
      rw [beq_iff_eq.mp h, Option.some.inj e]
      exact List.mem_cons_self
    · have h : (a == b) = false := by simpa using h
      simp only [List.lookup, h] at e
      exact List.mem_cons_of_mem _ (mem_lk e)
theorem noLists_at {K : PySem.W.Frag} {a : Addr} {o : Obj} (h : noLists K = true) (e : K.lookup a = some o) : o.cls ≠ .type "list" := fun z => by
  have := List.all_eq_true.mp h (a, o) (mem_lk e)
  simp [z] at this
end L2.PV

set_option Elab.async false
set_option linter.all false
set_option maxRecDepth 100000
set_option autoImplicit false
namespace L2.PV
open PySem PySem.Spec PyProof.Rows LamX
theorem cx_no {P : Program} {w : World} {H : Hp} {s : Shared} {e : Value} {s' : Shared} (h : L2.CX P w [] H s (fun _ _ _ => False) e s') : False := by
  obtain ⟨_, _, _, _, _, _, _, _, _, _, _, _, z⟩ := h
  exact z
/-- what a law's text must show: its code objects, its def's promise, its answer -/
structure LawG (q : Program) (l : PySem.W.OpenLaw) (w : World) (K : PySem.W.Frag) (mg : MG) (n k : Nat) (x : Str) (fa : Addr) (cs : List (Addr × Addr)) (T : Tb) (f : En → Res D) : Prop where
  tabs : ∀ p ∈ cs, ∃ y d, (recsOf q).find? (fun e => e.name == y) = some d ∧ PySem.W.tabIn K y = some p
  nT : ∀ p ∈ cs, K.lookup p.2 = none
  nl : noLists K = true
  tT : ∀ p ∈ T, p.1 ∈ cs.map (·.2)
  bind : ∃ fd : FuncData, (∀ (s : Shared) (u : Value), BindsTo s fd ⟨[u], []⟩ [(x, u)]) ∧ ∀ base : Heap, K.In base → base.Ns mainGlobals mg → (∀ p ∈ cs, TabB base mg p.1 p.2) → FnG l.prog w K mg base (L2.CX l.prog w) k fa fd [x] (spV K mg T 1 f)
theorem walkG {l : PySem.W.OpenLaw} {n k : Nat} {q : Program} {loose : List Str} {XP : (Str → Option Value) → Heap → Prop} {YP : World → Heap → Prop} {d : DefRec} {K : Params → PySem.W.Frag} {x : Str}
    (hn : l.most = some n) (hn2 : n ≤ sizeLine) (hdf : d.params.defaults = []) (hr : Room k callerA) (hY : ∀ (w : World) (h : Heap), YP w h → (K w.params).In h) (f : En → Res D)
    (F : ∀ (w : World) (mg : MG) (fa : Addr) (h : Heap), YP w h → (K w.params).In h → h.Ns mainGlobals mg → mg d.name = some (.ref fa) → ∃ cs T, LawG q l w (K w.params) mg n k x fa cs T f)
    (hf : ∀ ns : List Int, ns.length ≤ n → (∀ z ∈ ns, Builtin.Int.intBits z ≤ 1048576) → ∃ e', f [.val (.lst (ns.map .int))] = .ok (.bl true) e') :
    PySem.W.WalkO q loose XP YP l.row.toRowW d [] (fun f vs => PySem.call f vs) := by
  refine Att.attach_callB hn hdf fun w s₀ s₁ mg mb fa o pm cd doc a vs ns G Y ho hd hcd hmg hobj hints hlen hbits hg => ?_
  have KX := hY w _ Y
  obtain ⟨cs, T, L⟩ := F w mg fa _ Y KX G.T.g hmg
  obtain ⟨fd, hb, hF⟩ := L.bind
  obtain ⟨e', he⟩ := hf ns hlen hbits
  have tab : ∀ p ∈ cs, PySem.W.CodeHd s₁.heap p.1 p.2 ∧ s₁.heap.get? p.2 = some (PySem.W.tabObj #[]) := fun p hp => by
    obtain ⟨y, d', h1, h2⟩ := L.tabs p hp
    exact PySem.W.tab_of G.T KX h1 h2
  have nA : (K w.params).lookup a = none := by
    cases z : (K w.params).lookup a with
    | none => rfl
    | some o =>
      have e := KX a o z
      rw [hobj] at e
      cases e
      exact absurd rfl (noLists_at L.nl z)
  have aT : a ∉ cs.map (·.2) := fun z => by
    obtain ⟨p, hp, ep⟩ := List.mem_map.mp z
    have e := (tab p hp).2
    rw [ep, hobj] at e; cases e
  exact law_callG (sp := spV (K w.params) mg T 1 f) KX G.T.g G.T.b G.T.builtins G.T.nolimit hg (fun p hp => (tab p hp).2) L.nT (fun p hp => (tab p hp).1) G.T.bmain hobj hints (Nat.le_trans hlen hn2) nA hr hF hb (spV_law L.tT aT he) fun H e s' h => cx_no h
end L2.PV
namespace L2.PV
open PySem
theorem taker_no {K : PySem.W.Frag} {C : Addr} {n : Str} (h : PySem.W.findIn K (.ref C) n = some none) : PySem.W.takerIn K C n = some none := by
  unfold PySem.W.takerIn
  rw [h]; rfl
end L2.PV
namespace L2.PV
open PySem
theorem tabIn_mk {K : PySem.W.Frag} {x : Str} {f c P : Addr} {oc e : Value} {od dd : Option Addr} {fd : FuncData} {sl s : Array (Option Value)} {vs : Array Value} (a : PySem.W.nsIn K mainGlobals x = some (some (.ref f))) (l : K.lookup f = some ⟨oc, od, .func fd, sl⟩)
    (hc : fd.code = .ref c) (lc : K.lookup c = some ⟨e, dd, .fields vs, s⟩) (lp : vs[11]? = some (.ref P)) : PySem.W.tabIn K x = some (c, P) := by
  unfold PySem.W.tabIn
  rw [a]
  simp only []
  rw [l]
  simp only [hc]
  rw [lc]
  simp only [lp]
end L2.PV

set_option Elab.async false
set_option linter.all false
set_option maxRecDepth 100000
set_option autoImplicit false
/-! What holds behind a value function: rules by the form of the term, no equation of the slots is typed. -/
namespace L2.PV
open PySem
/-- a wall: what stands behind it is not reckoned by chance -/
structure Wall (p : Prop) : Prop where
  out : p
def Res.wp {α : Type} (r : Res α) (P : α → En → Prop) (X : Ex → En → Prop) : Prop := Wall <| match r with
  | .ok a e => P a e
  | .exc x e => X x e
  | .bad => False
def Out.wp (o : Out) (N : En → Prop) (R : D → En → Prop) (X : Ex → En → Prop) (B C : En → Prop) : Prop := Wall <| match o with
  | .nx e => N e
  | .ret d e => R d e
  | .brk e => B e
  | .cnt e => C e
  | .exc x e => X x e
  | .bad => False
abbrev noX : Ex → En → Prop := fun _ _ => False
abbrev noE : En → Prop := fun _ => False
section
variable {α β : Type} {P : α → En → Prop} {X : Ex → En → Prop} {r : Res α} {a : α} {e e' : En} {o : Out} {N : En → Prop} {R : D → En → Prop} {B C : En → Prop}
theorem wp_ok (h : r = .ok a e) (p : P a e) : r.wp P X := by subst h; exact ⟨p⟩
theorem wp_exc {x : Ex} (h : r = .exc x e) (p : X x e) : r.wp P X := by subst h; exact ⟨p⟩
theorem Res.wp.eq (h : r.wp (fun b e1 => b = a ∧ e1 = e) noX) : r = .ok a e := by
  cases r with
  | ok b e1 => obtain ⟨rfl, rfl⟩ := h.out; rfl
  | exc => exact h.out.elim
  | bad => exact h.out.elim
theorem Res.wp.exq {x : Ex} (h : r.wp (fun _ _ => False) (fun y e1 => y = x ∧ e1 = e)) : r = .exc x e := by
  cases r with
  | ok b e1 => exact h.out.elim
  | exc => obtain ⟨rfl, rfl⟩ := h.out; rfl
  | bad => exact h.out.elim
theorem Res.wp.ex (h : r.wp P noX) : ∃ a e, r = .ok a e ∧ P a e := by
  cases r with
  | ok b e1 => exact ⟨b, e1, rfl, h.out⟩
  | exc => exact h.out.elim
  | bad => exact h.out.elim
theorem Res.wp.mono {P' : α → En → Prop} {X' : Ex → En → Prop} (h : r.wp P X) (f : ∀ a e, P a e → P' a e) (g : ∀ x e, X x e → X' x e) : r.wp P' X' := by
  cases r with
  | ok b e1 => exact ⟨f _ _ h.out⟩
  | exc x e => exact ⟨g _ _ h.out⟩
  | bad => exact h.out.elim
theorem Res.wp.m {P' : α → En → Prop} (h : r.wp P noX) (f : ∀ a e, P a e → P' a e) : r.wp P' X := h.mono f fun _ _ h => h.elim
theorem Out.wp.mono {N' : En → Prop} {R' : D → En → Prop} {X' : Ex → En → Prop} {B' C' : En → Prop} (h : o.wp N R X B C) (f1 : ∀ e, N e → N' e) (f2 : ∀ d e, R d e → R' d e) (f3 : ∀ x e, X x e → X' x e) (f4 : ∀ e, B e → B' e) (f5 : ∀ e, C e → C' e) : o.wp N' R' X' B' C' := by
  cases o with
  | nx e => exact ⟨f1 _ h.out⟩
  | ret d e => exact ⟨f2 _ _ h.out⟩
  | exc x e => exact ⟨f3 _ _ h.out⟩
  | brk e => exact ⟨f4 _ h.out⟩
  | cnt e => exact ⟨f5 _ h.out⟩
  | bad => exact h.out.elim
theorem wp_bind {r : Res β} {f : β → En → Res α} (h : r.wp (fun b e => (f b e).wp P X) X) : (r.bind f).wp P X := by cases r <;> first | exact h.out | exact ⟨h.out⟩ | exact h.out.elim
theorem wp_thn {r : Res β} {f : β → En → Out} (h : r.wp (fun b e => (f b e).wp N R X B C) X) : (r.thn f).wp N R X B C := by cases r <;> first | exact h.out | exact ⟨h.out⟩ | exact h.out.elim
theorem wp_lift {c : Option α} (h : c = some a) (p : P a e) : (lift c e).wp P X := by subst h; exact ⟨p⟩
theorem wp_ite {c : Prop} [Decidable c] {A B : Prop} (h : c → A) (h' : ¬ c → B) : if c then A else B := by split; exact h ‹_›; exact h' ‹_›
end
/-! ### slots -/
inductive GetAt : En → Nat → Sl → Prop
  | zero {s : Sl} {e : En} : GetAt (s :: e) 0 s
  | succ {s t : Sl} {e : En} {n : Nat} (h : GetAt e n t) : GetAt (s :: e) (n + 1) t
inductive SetAt : En → Nat → Sl → En → Prop
  | zero {s t : Sl} {e : En} : SetAt (s :: e) 0 t (t :: e)
  | succ {s t : Sl} {e e' : En} {n : Nat} (h : SetAt e n t e') : SetAt (s :: e) (n + 1) t (s :: e')
theorem GetAt.eq {e : En} {n : Nat} {s : Sl} (h : GetAt e n s) : e[n]? = some s := by
  induction h with
  | zero => rfl
  | succ h ih => simpa using ih
theorem SetAt.eq {e e' : En} {n : Nat} {s : Sl} (h : SetAt e n s e') : e.set n s = e' := by
  induction h with
  | zero => rfl
  | succ h ih => rw [List.set_cons_succ, ih]
inductive MkA (e : En) : List Ar → En → Prop
  | nil : MkA e [] []
  | v {d : D} {as : List Ar} {r : En} (h : MkA e as r) : MkA e (.v d :: as) (.val d :: r)
  | s {i : Nat} {s : Sl} {c : D} {as : List Ar} {r : En} (hs : GetAt e i s) (hc : s.cont = some c) (h : MkA e as r) : MkA e (.s i :: as) (.io c :: r)
theorem MkA.eq {e r : En} {as : List Ar} (h : MkA e as r) : mkArgs e as = some r := by
  induction h with
  | nil => rfl
  | v h ih => unfold mkArgs; rw [ih]; rfl
  | s hs hc h ih => unfold mkArgs; rw [hs.eq, ih]; simp [hc]
inductive WbA : List Ar → En → En → En → Prop
  | nil {r e : En} : WbA [] r e e
  | v {d : D} {as : List Ar} {s : Sl} {r e e' : En} (h : WbA as r e e') : WbA (.v d :: as) (s :: r) e e'
  | s {i : Nat} {as : List Ar} {d : D} {s : Sl} {r e e1 e' : En} (hs : GetAt e i s) (ht : SetAt e i (s.put d) e1) (h : WbA as r e1 e') : WbA (.s i :: as) (.io d :: r) e e'
theorem WbA.eq {as : List Ar} {r e e' : En} (h : WbA as r e e') : wb as r e = e' := by
  induction h with
  | nil => unfold wb; rfl
  | v h ih => unfold wb; exact ih
  | s hs ht h ih => unfold wb; rw [hs.eq]; simp only []; rw [ht.eq]; exact ih
inductive ValsA : List Ar → List D → Prop
  | nil : ValsA [] []
  | v {d : D} {as : List Ar} {ds : List D} (h : ValsA as ds) : ValsA (.v d :: as) (d :: ds)
theorem ValsA.eq {as : List Ar} {ds : List D} (h : ValsA as ds) : valsOf as = some ds := by
  induction h with
  | nil => rfl
  | v h ih => unfold valsOf; rw [ih]; rfl
inductive CatA : List Ar → List Ar → List D → List Ar → Prop
  | nil {dfl : List D} (h : dfl = []) : CatA [] [] dfl []
  | dfl {dfl r : List D} {d : D} {l : List Ar} (h : dfl = d :: r) (t : CatA [] [] r l) : CatA [] [] dfl (.v d :: l)
  | kw {a : Ar} {zs l : List Ar} {dfl : List D} (t : CatA [] zs dfl l) : CatA [] (a :: zs) dfl (a :: l)
  | arg {a : Ar} {as zs l : List Ar} {dfl : List D} (t : CatA as zs dfl l) : CatA (a :: as) zs dfl (a :: l)
theorem CatA.eq {as zs l : List Ar} {dfl : List D} (h : CatA as zs dfl l) : as ++ zs ++ dfl.map .v = l := by
  induction h with
  | nil h => subst h; rfl
  | dfl h t ih => subst h; rw [← ih]; rfl
  | kw t ih => rw [← ih]; rfl
  | arg t ih => rw [← ih]; rfl
inductive Pad : Nat → En → En → Prop
  | nil : Pad 0 [] []
  | un {n : Nat} {e : En} (h : Pad n [] e) : Pad (n + 1) [] (.un :: e)
  | cons {n : Nat} {s : Sl} {as e : En} (h : Pad n as e) : Pad (n + 1) (s :: as) (s :: e)
theorem Pad.eq {n : Nat} {as e : En} (h : Pad n as e) : as ++ List.replicate (n - as.length) .un = e := by
  induction h with
  | nil => rfl
  | un h ih => rw [← ih]; rfl
  | cons h ih => rw [← ih]; simp
inductive OutA : En → En → En → Prop
  | nil {e : En} : OutA [] e []
  | io {d d' : D} {as e r : En} (h : OutA as e r) : OutA (.io d :: as) (.io d' :: e) (.io d' :: r)
  | val {d : D} {s : Sl} {as e r : En} (h : OutA as e r) : OutA (.val d :: as) (s :: e) (.val d :: r)
theorem OutA.eq {as e r : En} (h : OutA as e r) : outArgs as e = r := by
  induction h with
  | nil => unfold outArgs; split <;> simp_all
  | io h ih => unfold outArgs; rw [ih]
  | val h ih => unfold outArgs; rw [ih]
inductive WipeA (vs : List Nat) : Nat → En → En → Prop
  | nil {n : Nat} : WipeA vs n [] []
  | hit {n : Nat} {s : Sl} {e e' : En} (hs : vs.elem n = true) (h : WipeA vs (n + 1) e e') : WipeA vs n (s :: e) (.un :: e')
  | miss {n : Nat} {s : Sl} {e e' : En} (hs : vs.elem n = false) (h : WipeA vs (n + 1) e e') : WipeA vs n (s :: e) (s :: e')
inductive BackA (vs : List Nat) : Nat → En → En → En → Prop
  | nil {n : Nat} {e0 : En} : BackA vs n e0 [] []
  | hit {n : Nat} {s s0 : Sl} {e0 e e' : En} (hs : vs.elem n = true) (h : BackA vs (n + 1) e0 e e') : BackA vs n (s0 :: e0) (s :: e) (s0 :: e')
  | miss {n : Nat} {s s0 : Sl} {e0 e e' : En} (hs : vs.elem n = false) (h : BackA vs (n + 1) e0 e e') : BackA vs n (s0 :: e0) (s :: e) (s :: e')
theorem WipeA.eq' {vs : List Nat} {n : Nat} {e e' : En} (h : WipeA vs n e e') : e.mapIdx (fun i s => if i + n ∈ vs then .un else s) = e' := by
  induction h with
  | nil => rfl
  | @hit n s e e' hs h ih =>
    rw [List.mapIdx_cons]
    have : n ∈ vs := by simpa using hs
    simp only [Nat.zero_add, if_pos this]
    congr 1
    rw [← ih]
    congr 1
    funext i s
    rw [show i + 1 + n = i + (n + 1) by omega]
  | @miss n s e e' hs h ih =>
    rw [List.mapIdx_cons]
    have : ¬ n ∈ vs := by simpa using hs
    simp only [Nat.zero_add, if_neg this]
    congr 1
    rw [← ih]
    congr 1
    funext i s
    rw [show i + 1 + n = i + (n + 1) by omega]
theorem WipeA.eq {vs : List Nat} {e e' : En} (h : WipeA vs 0 e e') : wipeE vs e = e' := by rw [← h.eq']; rfl
theorem BackA.eq' {vs : List Nat} {n : Nat} {e0 e e' : En} (h : BackA vs n e0 e e') : e.mapIdx (fun i s => if i + n ∈ vs then e0.getD i .un else s) = e' := by
  induction h with
  | nil => rfl
  | @hit n s s0 e0 e e' hs h ih =>
    rw [List.mapIdx_cons]
    have : n ∈ vs := by simpa using hs
    simp only [Nat.zero_add, if_pos this]
    congr 1
    rw [← ih]
    congr 1
    funext i s
    rw [show i + 1 + n = i + (n + 1) by omega]
    rfl
  | @miss n s s0 e0 e e' hs h ih =>
    rw [List.mapIdx_cons]
    have : ¬ n ∈ vs := by simpa using hs
    simp only [Nat.zero_add, if_neg this]
    congr 1
    rw [← ih]
    congr 1
    funext i s
    rw [show i + 1 + n = i + (n + 1) by omega]
    rfl
theorem BackA.eq {vs : List Nat} {e0 e e' : En} (h : BackA vs 0 e0 e e') : backE vs e0 e = e' := by rw [← h.eq']; rfl
/-! ### expressions -/
section
variable {P : D → En → Prop} {PB : Bool → En → Prop} {PA : List Ar → En → Prop} {X : Ex → En → Prop} {e e' : En} {i : Nat} {d : D} {ga gb gc : En → Res D} {f : D → D → Option D} {f1 : D → Option D} {h g : En → Res Bool} {ka kb : En → Res (List Ar)} {s t : Sl}
theorem wp_var (q : GetAt e i (.val d)) (p : P d e) : (varG i e).wp P X := by unfold varG; rw [q.eq]; exact ⟨p⟩
theorem wp_const (p : P d e) : (constG d e).wp P X := ⟨p⟩
theorem wp_op2 (p : (ga e).wp (fun a e1 => (gb e1).wp (fun b e2 => ∃ c, f a b = some c ∧ P c e2) X) X) : (op2G f ga gb e).wp P X :=
  wp_bind (p.mono (fun a e1 q => wp_bind (q.mono (fun b e2 ⟨c, h1, h2⟩ => wp_lift h1 h2) fun _ _ h => h)) fun _ _ h => h)
theorem wp_op1 (p : (ga e).wp (fun a e1 => ∃ c, f1 a = some c ∧ P c e1) X) : (op1G f1 ga e).wp P X :=
  wp_bind (p.mono (fun a e1 ⟨c, h1, h2⟩ => wp_lift h1 h2) fun _ _ h => h)
theorem wp_boolG (p : (ga e).wp (fun a e1 => ∃ b, a = .bl b ∧ PB b e1) X) : (boolG ga e).wp PB X :=
  wp_bind (p.mono (fun a e1 ⟨b, h1, h2⟩ => by subst h1; exact ⟨h2⟩) fun _ _ h => h)
theorem wp_truthG (p : (ga e).wp (fun a e1 => ∃ b, truth a = some b ∧ PB b e1) X) : (truthG ga e).wp PB X :=
  wp_bind (p.mono (fun a e1 ⟨b, h1, h2⟩ => wp_lift h1 h2) fun _ _ h => h)
theorem wp_notB (p : (h e).wp (fun b e1 => PB (!b) e1) X) : (notB h e).wp PB X := wp_bind (p.mono (fun _ _ q => ⟨q⟩) fun _ _ h => h)
theorem wp_andB (p : (h e).wp (fun b e1 => if b = true then (g e1).wp PB X else PB false e1) X) : (andB h g e).wp PB X :=
  wp_bind (p.mono (fun b e1 q => by cases b <;> first | exact q | exact ⟨q⟩) fun _ _ h => h)
theorem wp_orB (p : (h e).wp (fun b e1 => if b = true then PB true e1 else (g e1).wp PB X) X) : (orB h g e).wp PB X :=
  wp_bind (p.mono (fun b e1 q => by cases b <;> first | exact q | exact ⟨q⟩) fun _ _ h => h)
theorem wp_ifG {α : Type} {P : α → En → Prop} {ga gb : En → Res α} (p : (h e).wp (fun b e1 => if b = true then (ga e1).wp P X else (gb e1).wp P X) X) : (ifG h ga gb e).wp P X :=
  wp_bind (p.mono (fun b e1 q => by cases b <;> first | exact q | exact ⟨q⟩) fun _ _ h => h)
theorem wp_ofB (p : (h e).wp (fun b e1 => P (.bl b) e1) X) : (ofB h e).wp P X := wp_bind (p.mono (fun _ _ q => ⟨q⟩) fun _ _ h => h)
theorem wp_andG (p : (ga e).wp (fun a e1 => ∃ b, a = .bl b ∧ if b = true then (gb e1).wp P X else P (.bl false) e1) X) : (andG ga gb e).wp P X :=
  wp_bind (p.mono (fun a e1 ⟨b, h1, q⟩ => by subst h1; cases b <;> first | exact q | exact ⟨q⟩) fun _ _ h => h)
theorem wp_orG (p : (ga e).wp (fun a e1 => ∃ b, a = .bl b ∧ if b = true then P (.bl true) e1 else (gb e1).wp P X) X) : (orG ga gb e).wp P X :=
  wp_bind (p.mono (fun a e1 ⟨b, h1, q⟩ => by subst h1; cases b <;> first | exact q | exact ⟨q⟩) fun _ _ h => h)
theorem wp_notG (p : (ga e).wp (fun a e1 => ∃ b, a = .bl b ∧ P (.bl (!b)) e1) X) : (notG ga e).wp P X :=
  wp_bind (p.mono (fun a e1 ⟨b, h1, q⟩ => by subst h1; exact ⟨q⟩) fun _ _ h => h)
theorem wp_nilA (p : PA [] e) : (nilA e).wp PA X := ⟨p⟩
theorem wp_consA (p : (ga e).wp (fun d e1 => (ka e1).wp (fun as e2 => PA (.v d :: as) e2) X) X) : (consA ga ka e).wp PA X :=
  wp_bind (p.mono (fun a e1 q => wp_bind (q.mono (fun _ _ q => ⟨q⟩) fun _ _ h => h)) fun _ _ h => h)
theorem wp_slotA (q : GetAt e i s) (ht : s.hot = true) (p : (ka e).wp (fun as e2 => PA (.s i :: as) e2) X) : (slotA i ka e).wp PA X := by
  unfold slotA; rw [q.eq]; simp only [ht, if_true]; exact wp_bind (p.mono (fun _ _ q => ⟨q⟩) fun _ _ h => h)
theorem wp_catA {dfl : List D} (p : (ka e).wp (fun as e1 => (kb e1).wp (fun zs e2 => ∃ l, CatA as zs dfl l ∧ PA l e2) X) X) : (catA dfl ka kb e).wp PA X :=
  wp_bind (p.mono (fun a e1 q => wp_bind (q.mono (fun zs e2 ⟨l, h1, h2⟩ => by rw [← h1.eq] at h2; exact ⟨h2⟩) fun _ _ h => h)) fun _ _ h => h)
theorem wp_call {f : En → Res D} (p : (ka e).wp (fun as e1 => (slotsOf as).Nodup ∧ ∃ args, MkA e1 as args ∧ (f args).wp (fun d r => ∃ e2, WbA as r e1 e2 ∧ P d e2) (fun x r => ∃ e2, WbA as r e1 e2 ∧ X x e2)) X) : (callG f ka e).wp P X :=
  wp_bind (p.mono (fun as e1 ⟨nd, args, hm, q⟩ => by
    show Res.wp (if (slotsOf as).Nodup then _ else _) P X
    rw [if_pos nd, hm.eq]
    simp only []
    cases hf : f args with
    | ok d r => rw [hf] at q; obtain ⟨e2, h1, h2⟩ := q.out; refine ⟨?_⟩; show P d (wb as r e1); rw [h1.eq]; exact h2
    | exc x r => rw [hf] at q; obtain ⟨e2, h1, h2⟩ := q.out; refine ⟨?_⟩; show X x (wb as r e1); rw [h1.eq]; exact h2
    | bad => rw [hf] at q; exact q.out.elim) fun _ _ h => h)
theorem wp_lstG (p : (ka e).wp (fun as e1 => ∃ ds, ValsA as ds ∧ ds.length ≤ sizeLine ∧ P (.lst ds) e1) X) : (lstG ka e).wp P X :=
  wp_bind (p.mono (fun as e1 ⟨ds, h1, h2, h3⟩ => by rw [h1.eq]; refine wp_lift (a := .lst ds) ?_ h3; show (if _ then _ else _) = _; rw [if_pos h2]) fun _ _ h => h)
theorem wp_tupG (p : (ka e).wp (fun as e1 => ∃ ds, ValsA as ds ∧ ds.length ≤ sizeLine ∧ P (.tup ds) e1) X) : (tupG ka e).wp P X :=
  wp_bind (p.mono (fun as e1 ⟨ds, h1, h2, h3⟩ => by rw [h1.eq]; refine wp_lift (a := .tup ds) ?_ h3; show (if _ then _ else _) = _; rw [if_pos h2]) fun _ _ h => h)
theorem wp_bltG {f : List D → Option D} (p : (ka e).wp (fun as e1 => ∃ ds, ValsA as ds ∧ ∃ c, f ds = some c ∧ P c e1) X) : (bltG f ka e).wp P X :=
  wp_bind (p.mono (fun as e1 ⟨ds, h1, c, h2, h3⟩ => by rw [h1.eq]; exact wp_lift (show (some ds).bind f = some c from h2) h3) fun _ _ h => h)
theorem wp_metG {Ty : String} {f : D → List D → Option D} (p : (ga e).wp (fun d e1 => (∀ kvs, d ≠ .dct kvs) ∧ tyD Ty d = true ∧ (ka e1).wp (fun as e2 => ∃ ds, ValsA as ds ∧ ∃ c, f d ds = some c ∧ P c e2) X) X) : (metG Ty f ga ka e).wp P X :=
  wp_bind (p.mono (fun d e1 ⟨n, t, q⟩ => by
    cases d <;> first | exact absurd rfl (n _) | skip
    all_goals
      show Res.wp (if _ then _ else _) P X
      rw [if_pos t]
      exact wp_bind (q.mono (fun as e2 ⟨ds, h1, c, h2, h3⟩ => by rw [h1.eq]; exact wp_lift (show (some ds).bind _ = some c from h2) h3) fun _ _ h => h)) fun _ _ h => h)
theorem wp_metG0 {Ty : String} {f : D → List D → Option D} (p : (ga e).wp (fun d e1 => (∀ kvs, d ≠ .dct kvs) ∧ tyD Ty d = true ∧ ∃ c, f d [] = some c ∧ P c e1) X) : (metG0 Ty f ga e).wp P X :=
  wp_bind (p.mono (fun d e1 ⟨n, t, c, h2, h3⟩ => by
    cases d <;> first | exact absurd rfl (n _) | skip
    all_goals
      show Res.wp (if _ then _ else _) P X
      rw [if_pos t]
      exact wp_lift h2 h3) fun _ _ h => h)
theorem wp_isiG {n : String} (p : (ga e).wp (fun d e1 => ∃ c, isiD n d = some c ∧ P c e1) X) : (isiG n ga e).wp P X :=
  wp_bind (p.mono (fun d e1 ⟨c, h1, h2⟩ => wp_lift h1 h2) fun _ _ h => h)
theorem wp_chainG {f f' : Int → Int → Bool} (p : (ga e).wp (fun x e1 => (gb e1).wp (fun y e2 => ∃ i j, x = .int i ∧ y = .int j ∧ if f i j = true then (gc e2).wp (fun z e3 => ∃ l, z = .int l ∧ P (.bl (f' j l)) e3) X else P (.bl false) e2) X) X) : (chainG f f' ga gb gc e).wp P X :=
  wp_bind (p.mono (fun x e1 q => wp_bind (q.mono (fun y e2 ⟨i, j, h1, h2, q2⟩ => by
    subst h1 h2
    show Res.wp (if _ then _ else _) P X
    split
    · rename_i h; rw [if_pos h] at q2; exact wp_bind (q2.mono (fun z e3 ⟨l, h1, h2⟩ => by subst h1; exact ⟨h2⟩) fun _ _ h => h)
    · rename_i h; rw [if_neg h] at q2; exact ⟨q2⟩) fun _ _ h => h)) fun _ _ h => h)
theorem wp_slotIxG {c : D} (q : GetAt e i s) (hc : s.cont = some c) (p : (ga e).wp (fun d e1 => ∃ s1 c1, GetAt e1 i s1 ∧ s1.cont = some c1 ∧ ∃ y, ixD c1 d = some y ∧ P y e1) X) : (slotIxG i ga e).wp P X := by
  unfold slotIxG
  rw [q.eq]
  simp only [Option.bind, hc]
  exact wp_bind (p.mono (fun d e1 ⟨s1, c1, h1, h2, y, h3, h4⟩ => by rw [h1.eq]; simp only [Option.bind, h2]; exact wp_lift h3 h4) fun _ _ h => h)
theorem wp_slotLenG {c : D} (q : GetAt e i s) (hc : s.cont = some c) (p : ∃ y, lenD [c] = some y ∧ P y e) : (slotLenG i e).wp P X := by
  obtain ⟨y, h1, h2⟩ := p
  unfold slotLenG
  rw [q.eq]
  simp only [Option.bind, hc]
  exact wp_lift h1 h2
theorem wp_mutS {f : D → Option (D × D)} {c c' v : D} {t : Sl} (q : GetAt e i s) (hc : s.cont = some c) (hf : f c = some (c', v)) (hs : SetAt e i (s.put c') e') (p : P v e') : (mutS i f e).wp P X := by
  unfold mutS
  rw [q.eq]
  simp only [hc, hf, hs.eq]
  exact ⟨p⟩
theorem wp_lmutG {f : D → List D → Option (D × D)} {xs : List D} (q : GetAt e i s) (hc : s.cont = some (.lst xs)) (p : (ka e).wp (fun as e1 => ∃ ds s1 c c' v e2, ValsA as ds ∧ GetAt e1 i s1 ∧ s1.cont = some c ∧ f c ds = some (c', v) ∧ SetAt e1 i (s1.put c') e2 ∧ P v e2) X) : (lmutG i f ka e).wp P X := by
  unfold lmutG
  rw [q.eq]
  simp only [Option.bind, hc]
  exact wp_bind (p.mono (fun as e1 ⟨ds, s1, c, c', v, e2, h1, h2, h3, h4, h5, h6⟩ => by rw [h1.eq]; exact wp_mutS (t := s1) h2 h3 h4 h5 h6) fun _ _ h => h)
theorem wp_lmutG0 {f : D → List D → Option (D × D)} {xs : List D} {c' v : D} (q : GetAt e i s) (hc : s.cont = some (.lst xs)) (h4 : f (.lst xs) [] = some (c', v)) (h5 : SetAt e i (s.put c') e') (p : P v e') : (lmutG0 i f e).wp P X := by
  unfold lmutG0
  rw [q.eq]
  simp only [Option.bind, hc]
  exact wp_mutS (t := s) q hc h4 h5 p
theorem wp_toldG {tf : D ⊕ Ex → Option D} (p : (ga e).wp (fun d e1 => ∃ c, tf (.inl d) = some c ∧ P c e1) (fun x e1 => ∃ c, tf (.inr x) = some c ∧ P c e1)) : (toldG tf ga e).wp P X := by
  unfold toldG
  cases hg : ga e with
  | ok d e1 => rw [hg] at p; obtain ⟨c, h1, h2⟩ := p.out; exact wp_lift h1 h2
  | exc x e1 => rw [hg] at p; obtain ⟨c, h1, h2⟩ := p.out; exact wp_lift h1 h2
  | bad => rw [hg] at p; exact p.out.elim
def PairsW : List ((En → Res D) × (En → Res D)) → En → (List (Key × D) → En → Prop) → (Ex → En → Prop) → Prop
  | [], e, Q, X => Q [] e
  | (gk, gv) :: r, e, Q, X => (gk e).wp (fun k e1 => (gv e1).wp (fun v e2 => ∃ key, keyD k = some key ∧ PairsW r e2 (fun kvs e3 => Q ((key, v) :: kvs) e3) X) X) X
theorem PairsW.ok : ∀ {gs : List ((En → Res D) × (En → Res D))} {e : En} {Q : List (Key × D) → En → Prop} {X : Ex → En → Prop}, PairsW gs e Q X → (pairsL gs e).wp Q X
  | [], e, Q, X, p => ⟨p⟩
  | (gk, gv) :: r, e, Q, X, p => by
    unfold pairsL
    unfold PairsW at p
    exact wp_bind (p.mono (fun k e1 q => wp_bind (q.mono (fun v e2 ⟨key, h1, q⟩ => wp_bind (q.ok.mono (fun kvs e3 h => by simp only [h1]; exact ⟨h⟩) fun _ _ h => h)) fun _ _ h => h)) fun _ _ h => h)
theorem pairs_nil {Q : List (Key × D) → En → Prop} (p : Q [] e) : PairsW [] e Q X := p
theorem pairs_cons {gk gv : En → Res D} {r : List ((En → Res D) × (En → Res D))} {Q : List (Key × D) → En → Prop} (p : (gk e).wp (fun k e1 => (gv e1).wp (fun v e2 => ∃ key, keyD k = some key ∧ PairsW r e2 (fun kvs e3 => Q ((key, v) :: kvs) e3) X) X) X) : PairsW ((gk, gv) :: r) e Q X := p
theorem wp_dispG {gs : List ((En → Res D) × (En → Res D))} (p : PairsW gs e (fun kvs e1 => kvs.length ≤ 15 ∧ P (.dct (mergeD [] kvs)) e1) X) : (dispG gs e).wp P X :=
  wp_bind (p.ok.mono (fun kvs e1 ⟨h1, h2⟩ => by show Res.wp (if _ then _ else _) P X; rw [if_pos h1]; exact ⟨h2⟩) fun _ _ h => h)
theorem wp_noP {PO : Option Int → En → Prop} (p : PO none e) : (noP e).wp PO X := ⟨p⟩
theorem wp_someP {PO : Option Int → En → Prop} (p : (ga e).wp (fun d e1 => ∃ i, d = .int i ∧ PO (some i) e1) X) : (someP ga e).wp PO X :=
  wp_bind (p.mono (fun a e1 ⟨b, h1, q⟩ => by subst h1; exact ⟨q⟩) fun _ _ h => h)
theorem wp_sliceG {f : D → Option Int → Option Int → Option D} {gl gh : En → Res (Option Int)} (p : (ga e).wp (fun d e1 => (gl e1).wp (fun lo e2 => (gh e2).wp (fun hi e3 => ∃ c, f d lo hi = some c ∧ P c e3) X) X) X) : (sliceG f ga gl gh e).wp P X :=
  wp_bind (p.mono (fun a e1 q => wp_bind (q.mono (fun b e2 q => wp_bind (q.mono (fun b e2 ⟨c, h1, h2⟩ => wp_lift h1 h2) fun _ _ h => h)) fun _ _ h => h)) fun _ _ h => h)
/-! ### iterables, comprehensions -/
variable {PL : List D → En → Prop} {ds ys : List D}
theorem wp_iterG (p : (ga e).wp (fun d e1 => ∃ ds, iterD d = some ds ∧ PL ds e1) X) : (iterG ga e).wp PL X :=
  wp_bind (p.mono (fun d e1 ⟨c, h1, h2⟩ => wp_lift h1 h2) fun _ _ h => h)
theorem wp_rangeG {f : List Ar → Option (List D)} (p : (ka e).wp (fun as e1 => ∃ ds, f as = some ds ∧ PL ds e1) X) : (rangeG f ka e).wp PL X :=
  wp_bind (p.mono (fun d e1 ⟨c, h1, h2⟩ => wp_lift h1 h2) fun _ _ h => h)
theorem wp_compG {gi : En → Res (List D)} {tg : Tg} {tt : En → Res Bool} {vs : List Nat} (p : (gi e).wp (fun ds e1 => coolAt vs e1 = true ∧ ∃ e0, WipeA vs 0 e1 e0 ∧ (compL tg tt ga vs ds e0 []).wp (fun ys e2 => ∃ e3, BackA vs 0 e1 e2 e3 ∧ P (.lst ys) e3) noX) X) : (compG gi tg tt ga vs e).wp P X :=
  wp_bind (p.mono (fun ds e1 ⟨h1, e0, hw, q⟩ => by
    have hw := hw.eq
    subst hw
    rw [if_pos h1]
    cases hc : compL tg tt ga vs ds (wipeE vs e1) [] with
    | ok ys e2 => rw [hc] at q; obtain ⟨e3, h3, q⟩ := q.out; refine ⟨?_⟩; show P (.lst ys) (backE vs e1 e2); rw [h3.eq]; exact q
    | exc x e2 => rw [hc] at q; exact q.out.elim
    | bad => rw [hc] at q; exact q.out.elim) fun _ _ h => h)
theorem wp_yesT {PB : Bool → En → Prop} (p : PB true e) : (yesT e).wp PB X := ⟨p⟩
/-- a comprehension by an invariant: items taken, items made, slots -/
theorem compL_wp {tg : Tg} {tt : En → Res Bool} {vs : List Nat} {Q : List D → En → Prop} (I : List D → List D → En → Prop)
    (step : ∀ (pre : List D) (d : D) (ys : List D) (e : En), (∃ post, ds = pre ++ d :: post) → I pre ys e → ∃ e1, tg.go d e = some e1 ∧ (tt e1).wp (fun b e2 => if b = true then (ga e2).wp (fun y e3 => coolAt vs e3 = true ∧ ∃ e4, WipeA vs 0 e3 e4 ∧ I (pre ++ [d]) (ys ++ [y]) e4) noX else coolAt vs e2 = true ∧ ∃ e4, WipeA vs 0 e2 e4 ∧ I (pre ++ [d]) ys e4) noX)
    (hl : ds.length < 16777216) (h0 : I [] [] e) (hk : ∀ ys e, I ds ys e → Q ys e) : (compL tg tt ga vs ds e []).wp Q noX := by
  have key : ∀ (post pre ys : List D) (e : En), ds = pre ++ post → ys.length ≤ pre.length → I pre ys e → (compL tg tt ga vs post e ys).wp Q noX := by
    intro post
    induction post with
    | nil => intro pre ys e h1 _ h2; rw [List.append_nil] at h1; subst h1; exact ⟨hk _ _ h2⟩
    | cons d post ih =>
      intro pre ys e h1 hle h2
      obtain ⟨e1, g1, g2⟩ := step pre d ys e ⟨post, h1⟩ h2
      have hsz : ys.length < sizeLine := by rw [sizeLine_eq]; have := congrArg List.length h1; simp at this; omega
      unfold compL
      simp only [g1]
      cases ht : tt e1 with
      | ok b e2 =>
        rw [ht] at g2
        have g2 : if b = true then (ga e2).wp (fun y e3 => coolAt vs e3 = true ∧ ∃ e4, WipeA vs 0 e3 e4 ∧ I (pre ++ [d]) (ys ++ [y]) e4) noX else coolAt vs e2 = true ∧ ∃ e4, WipeA vs 0 e2 e4 ∧ I (pre ++ [d]) ys e4 := g2.out
        simp only []
        cases b with
        | true =>
          rw [if_pos rfl] at g2 ⊢
          cases hg : ga e2 with
          | ok y e3 =>
            rw [hg] at g2
            obtain ⟨c1, e4, hw, c2⟩ := g2.out
            have hw := hw.eq
            subst hw
            simp only []
            rw [if_pos ⟨c1, hsz⟩]
            exact ih _ _ _ (by simp [h1]) (by simp; omega) c2
          | exc x e3 => rw [hg] at g2; exact g2.out.elim
          | bad => rw [hg] at g2; exact g2.out.elim
        | false =>
          rw [if_neg (by decide)] at g2 ⊢
          obtain ⟨c1, e4, hw, c2⟩ := g2
          have hw := hw.eq
          subst hw
          rw [if_pos c1]
          exact ih _ _ _ (by simp [h1]) (by simp; omega) c2
      | exc x e2 => rw [ht] at g2; exact g2.out.elim
      | bad => rw [ht] at g2; exact g2.out.elim
  exact key ds [] [] e rfl (Nat.le_refl _) h0
end
/-- a comprehension whose items hang on the walked item alone -/
theorem comp_pure {t : Tg} {ga : En → Res D} {vs : List Nat} {e : En} {ds : List D} {Q : List D → En → Prop} (f : D → D) (hl : ds.length < 16777216)
    (step : ∀ d ∈ ds, ∃ e1, t.go d e = some e1 ∧ (ga e1).wp (fun y e3 => y = f d ∧ coolAt vs e3 = true ∧ WipeA vs 0 e3 e) noX) (hk : Q (ds.map f) e) : (compL t yesT ga vs ds e []).wp Q noX := by
  refine compL_wp (fun pre ys e' => e' = e ∧ ys = pre.map f) ?_ hl ⟨rfl, rfl⟩ (fun ys e' ⟨h1, h2⟩ => by subst h1 h2; exact hk)
  rintro pre d ys e' ⟨post, hp⟩ ⟨rfl, rfl⟩
  obtain ⟨e1, h1, h2⟩ := step d (by rw [hp]; simp)
  refine ⟨e1, h1, wp_yesT ?_⟩
  rw [if_pos rfl]
  refine h2.m ?_
  rintro y e3 ⟨rfl, h3, h4⟩
  exact ⟨h3, _, h4, rfl, by simp⟩
/-- .. with a test -/
theorem comp_filter {t : Tg} {tt : En → Res Bool} {ga : En → Res D} {vs : List Nat} {e : En} {ds : List D} {Q : List D → En → Prop} (q : D → Bool) (f : D → D) (hl : ds.length < 16777216)
    (step : ∀ d ∈ ds, ∃ e1, t.go d e = some e1 ∧ (tt e1).wp (fun b e2 => b = q d ∧ if b = true then (ga e2).wp (fun y e3 => y = f d ∧ coolAt vs e3 = true ∧ WipeA vs 0 e3 e) noX else coolAt vs e2 = true ∧ WipeA vs 0 e2 e) noX) (hk : Q ((ds.filter q).map f) e) : (compL t tt ga vs ds e []).wp Q noX := by
  refine compL_wp (fun pre ys e' => e' = e ∧ ys = (pre.filter q).map f) ?_ hl ⟨rfl, rfl⟩ (fun ys e' ⟨h1, h2⟩ => by subst h1 h2; exact hk)
  rintro pre d ys e' ⟨post, hp⟩ ⟨rfl, rfl⟩
  obtain ⟨e1, h1, h2⟩ := step d (by rw [hp]; simp)
  refine ⟨e1, h1, h2.m ?_⟩
  rintro b e2 ⟨hq, h3⟩
  cases b with
  | true =>
    rw [if_pos rfl] at h3 ⊢
    refine h3.m ?_
    rintro y e3 ⟨rfl, h3, h4⟩
    exact ⟨h3, _, h4, rfl, by simp [← hq]⟩
  | false =>
    rw [if_neg (by decide)] at h3 ⊢
    exact ⟨h3.1, _, h3.2, rfl, by simp [← hq]⟩
/-! ### statements -/
section
variable {PL : List D → En → Prop} {e e' : En} {N : En → Prop} {R : D → En → Prop} {X : Ex → En → Prop} {B C : En → Prop} {i : Nat} {d : D} {ga gb : En → Res D} {s t : Sl} {g h : En → Out} {c : En → Res Bool} {ka : En → Res (List Ar)} {ds : List D}
theorem wp_seqS (p : (g e).wp (fun e1 => (h e1).wp N R X B C) R X B C) : (seqS g h e).wp N R X B C := by
  unfold seqS
  cases hg : g e <;> (rw [hg] at p; first | exact p.out | exact ⟨p.out⟩ | exact p.out.elim)
theorem wp_seqM (M : En → Prop) (p : (g e).wp M R X B C) (q : ∀ e1, M e1 → (h e1).wp N R X B C) : (seqS g h e).wp N R X B C := wp_seqS (p.mono q (fun _ _ h => h) (fun _ _ h => h) (fun _ h => h) fun _ h => h)
theorem wp_nopS (p : N e) : (nopS e).wp N R X B C := ⟨p⟩
theorem wp_exprS (p : (ga e).wp (fun _ e1 => N e1) X) : (exprS ga e).wp N R X B C := wp_thn (p.mono (fun _ _ q => ⟨q⟩) fun _ _ h => h)
theorem wp_retS (p : (ga e).wp (fun d e1 => R d e1) X) : (retS ga e).wp N R X B C := wp_thn (p.mono (fun _ _ q => ⟨q⟩) fun _ _ h => h)
theorem wp_retNS (p : R .non e) : (retNS e).wp N R X B C := ⟨p⟩
theorem wp_brkS (p : B e) : (brkS e).wp N R X B C := ⟨p⟩
theorem wp_cntS (p : C e) : (cntS e).wp N R X B C := ⟨p⟩
theorem wp_ifS (p : (c e).wp (fun b e1 => if b = true then (g e1).wp N R X B C else (h e1).wp N R X B C) X) : (ifS c g h e).wp N R X B C :=
  wp_thn (p.mono (fun b e1 q => by cases b <;> first | exact q | exact ⟨q⟩) fun _ _ h => h)
/-- name i is given a value there -/
def PutV (i : Nat) (d : D) (e : En) (P : En → Prop) : Prop := ∃ s e1, GetAt e i s ∧ s.isIo = false ∧ SetAt e i (.val d) e1 ∧ P e1
def PutO (i : Nat) (d : D) (e : En) (P : En → Prop) : Prop := ∃ s e1, GetAt e i s ∧ s.isIo = false ∧ SetAt e i (.own d) e1 ∧ P e1
theorem putV_eq {P : En → Prop} (p : PutV i d e P) : ∃ e1, putV i d e = some e1 ∧ P e1 := by
  obtain ⟨s, e1, h1, h2, h3, h4⟩ := p
  refine ⟨e1, ?_, h4⟩
  unfold putV
  rw [h1.eq]
  simp [h2, h3.eq]
theorem putO_eq {P : En → Prop} (p : PutO i d e P) : ∃ e1, putO i d e = some e1 ∧ P e1 := by
  obtain ⟨s, e1, h1, h2, h3, h4⟩ := p
  refine ⟨e1, ?_, h4⟩
  unfold putO
  rw [h1.eq]
  simp [h2, h3.eq]
theorem wp_nxO {o : Option En} (p : ∃ e1, o = some e1 ∧ N e1) : (nxO o).wp N R X B C := by obtain ⟨e1, h1, h2⟩ := p; subst h1; exact ⟨h2⟩
theorem wp_setS (p : (ga e).wp (fun d e1 => PutV i d e1 N) X) : (setS i ga e).wp N R X B C := wp_thn (p.mono (fun d e1 q => wp_nxO (putV_eq q)) fun _ _ h => h)
theorem wp_ownS (p : (ga e).wp (fun d e1 => PutO i d e1 N) X) : (ownS i ga e).wp N R X B C := wp_thn (p.mono (fun d e1 q => wp_nxO (putO_eq q)) fun _ _ h => h)
theorem wp_frzO (q : GetAt e i (.own d)) (hs : SetAt e i (.val d) e') (p : (g e').wp N R X B C) : (frzS i g e).wp N R X B C := by unfold frzS; rw [q.eq]; simp only []; rw [hs.eq]; exact p
theorem wp_frzV (q : GetAt e i (.val d)) (p : (g e).wp N R X B C) : (frzS i g e).wp N R X B C := by unfold frzS; rw [q.eq]; exact p
theorem wp_noR (p : (g e).wp N (fun _ _ => False) X B C) : (noR g e).wp N R X B C := by
  unfold noR
  cases hg : g e <;> (rw [hg] at p; first | exact p | exact p.out.elim | exact ⟨p.out⟩)
theorem wp_retSlot (q : GetAt e i (.own d)) (hs : SetAt e i .un e') (p : R d e') : (retSlot i e).wp N R X B C := by unfold retSlot; rw [q.eq]; simp only []; rw [hs.eq]; exact ⟨p⟩
theorem wp_raiseS {x : Str} (p : X ⟨.own x, none⟩ e) : (raiseS x e).wp N R X B C := ⟨p⟩
theorem wp_raiseVS {x fld : Str} (p : (ga e).wp (fun v e1 => X ⟨.own x, some [(fld, v)]⟩ e1) X) : (raiseVS x fld ga e).wp N R X B C := wp_thn (p.mono (fun _ _ q => ⟨q⟩) fun _ _ h => h)
theorem wp_setIxS {gi ge : En → Res D} (p : (ge e).wp (fun v e1 => ∃ s0 c0, GetAt e1 i s0 ∧ s0.cont = some c0 ∧ (gi e1).wp (fun y e2 => ∃ s1 c1 c2 e3, GetAt e2 i s1 ∧ s1.cont = some c1 ∧ setIxD c1 y v = some c2 ∧ SetAt e2 i (s1.put c2) e3 ∧ N e3) X) X) : (setIxS i gi ge e).wp N R X B C :=
  wp_thn (p.mono (fun v e1 ⟨s0, c0, h1, h2, q⟩ => by
    rw [h1.eq]
    simp only [Option.bind, h2]
    exact wp_thn (q.mono (fun y e2 ⟨s1, c1, c2, e3, g1, g2, g3, g4, g5⟩ => by rw [g1.eq]; simp only [g2, g3, g4.eq]; exact ⟨g5⟩) fun _ _ h => h)) fun _ _ h => h)
theorem wp_nilK {PK : List (Bool × D) → En → Prop} (p : PK [] e) : (nilK e).wp PK X := ⟨p⟩
theorem wp_valK {PK : List (Bool × D) → En → Prop} {kk : En → Res (List (Bool × D))} (p : (ga e).wp (fun d e1 => (kk e1).wp (fun ds e2 => PK ((false, d) :: ds) e2) X) X) : (valK ga kk e).wp PK X :=
  wp_bind (p.mono (fun d e1 q => wp_bind (q.mono (fun _ _ q => ⟨q⟩) fun _ _ h => h)) fun _ _ h => h)
theorem wp_ownK {PK : List (Bool × D) → En → Prop} {kk : En → Res (List (Bool × D))} (p : (ga e).wp (fun d e1 => (kk e1).wp (fun ds e2 => PK ((true, d) :: ds) e2) X) X) : (ownK ga kk e).wp PK X :=
  wp_bind (p.mono (fun d e1 q => wp_bind (q.mono (fun _ _ q => ⟨q⟩) fun _ _ h => h)) fun _ _ h => h)
def PutPar : List Nat → List (Bool × D) → En → (En → Prop) → Prop
  | [], [], e, P => P e
  | i :: is, (false, d) :: r, e, P => PutV i d e fun e1 => PutPar is r e1 P
  | i :: is, (true, d) :: r, e, P => PutO i d e fun e1 => PutPar is r e1 P
  | _, _, _, _ => False
theorem putPar_eq : ∀ {is : List Nat} {r : List (Bool × D)} {e : En} {P : En → Prop}, PutPar is r e P → ∃ e1, putPar is r e = some e1 ∧ P e1
  | [], [], e, P, p => ⟨e, rfl, p⟩
  | i :: is, (false, d) :: r, e, P, p => by
    obtain ⟨e1, h1, h2⟩ := putV_eq p
    obtain ⟨e2, h3, h4⟩ := putPar_eq h2
    exact ⟨e2, by unfold putPar; rw [h1]; exact h3, h4⟩
  | i :: is, (true, d) :: r, e, P, p => by
    obtain ⟨e1, h1, h2⟩ := putO_eq p
    obtain ⟨e2, h3, h4⟩ := putPar_eq h2
    exact ⟨e2, by unfold putPar; rw [h1]; exact h3, h4⟩
  | [], _ :: _, _, _, p => p.elim
  | _ :: _, [], _, _, p => p.elim
theorem wp_parS {is : List Nat} {kk : En → Res (List (Bool × D))} (p : (kk e).wp (fun ds e1 => PutPar is ds e1 N) X) : (parS is kk e).wp N R X B C := wp_thn (p.mono (fun d e1 q => wp_nxO (putPar_eq q)) fun _ _ h => h)
theorem putPar_nil {P : En → Prop} (p : P e) : PutPar [] [] e P := p
theorem putPar_val {is : List Nat} {r : List (Bool × D)} {P : En → Prop} (p : PutV i d e fun e1 => PutPar is r e1 P) : PutPar (i :: is) ((false, d) :: r) e P := p
theorem putPar_own {is : List Nat} {r : List (Bool × D)} {P : En → Prop} (p : PutO i d e fun e1 => PutPar is r e1 P) : PutPar (i :: is) ((true, d) :: r) e P := p
/-- a target takes a value -/
def GoT (t : Tg) (d : D) (e : En) (P : En → Prop) : Prop := ∃ e1, t.go d e = some e1 ∧ P e1
theorem goT_n {P : En → Prop} (p : PutV i d e P) : GoT (tgN i) d e P := putV_eq p
def GoTs : List Tg → List D → En → (En → Prop) → Prop
  | [], [], e, P => P e
  | t :: ts, d :: ds, e, P => GoT t d e fun e1 => GoTs ts ds e1 P
  | _, _, _, _ => False
theorem goTs_eq : ∀ {ts : List Tg} {ds : List D} {e : En} {P : En → Prop}, GoTs ts ds e P → ∃ e1, goTs ts ds e = some e1 ∧ P e1
  | [], [], e, P, p => ⟨e, rfl, p⟩
  | t :: ts, d :: ds, e, P, ⟨e1, h1, h2⟩ => by
    obtain ⟨e2, h3, h4⟩ := goTs_eq h2
    exact ⟨e2, by unfold goTs; rw [h1]; exact h3, h4⟩
  | [], _ :: _, _, _, p => p.elim
  | _ :: _, [], _, _, p => p.elim
theorem goT_t {ts : List Tg} {P : En → Prop} (p : ∃ xs, d = .tup xs ∧ GoTs ts xs e P) : GoT (tgT ts) d e P := by
  obtain ⟨xs, h, p⟩ := p
  subst h
  exact goTs_eq p
theorem goTs_nil {P : En → Prop} (p : P e) : GoTs [] [] e P := p
theorem goTs_cons {t : Tg} {ts : List Tg} {xs : List D} {P : En → Prop} (p : GoT t d e fun e1 => GoTs ts xs e1 P) : GoTs (t :: ts) (d :: xs) e P := p
theorem goT_of {t : Tg} {P : En → Prop} (p : GoT t d e P) : ∃ e1, t.go d e = some e1 ∧ P e1 := p
theorem wp_asgS {t : Tg} (p : (ga e).wp (fun d e1 => GoT t d e1 N) X) : (asgS ga t e).wp N R X B C := wp_thn (p.mono (fun d e1 q => wp_nxO q) fun _ _ h => h)
theorem wp_forS {gi : En → Res (List D)} {t : Tg} (p : (gi e).wp (fun ds e1 => (forL t g ds e1).wp N R X B C) X) : (forS gi t g e).wp N R X B C := wp_thn p
theorem wp_forL {t : Tg} (I : List D → En → Prop) (step : ∀ (pre : List D) (d : D) (e : En), (∃ post, ds = pre ++ d :: post) → I pre e → GoT t d e fun e1 => (g e1).wp (I (pre ++ [d])) R X N (I (pre ++ [d])))
    (h0 : I [] e) (hk : ∀ e, I ds e → N e) : (forL t g ds e).wp N R X B C := by
  have key : ∀ (post pre : List D) (e : En), ds = pre ++ post → I pre e → (forL t g post e).wp N R X B C := by
    intro post
    induction post with
    | nil => intro pre e h1 h2; rw [List.append_nil] at h1; subst h1; exact ⟨hk _ h2⟩
    | cons d post ih =>
      intro pre e h1 h2
      obtain ⟨e1, g1, g2⟩ := step pre d e ⟨post, h1⟩ h2
      unfold forL
      simp only [g1]
      cases hg : g e1 with
      | nx e2 => rw [hg] at g2; exact ih (pre ++ [d]) e2 (by simp [h1]) g2.out
      | cnt e2 => rw [hg] at g2; exact ih (pre ++ [d]) e2 (by simp [h1]) g2.out
      | brk e2 => rw [hg] at g2; exact ⟨g2.out⟩
      | ret d e2 => rw [hg] at g2; exact ⟨g2.out⟩
      | exc x e2 => rw [hg] at g2; exact ⟨g2.out⟩
      | bad => rw [hg] at g2; exact g2.out.elim
  exact key ds [] e rfl h0
theorem wp_whileS {n : Nat} (m : En → Nat) (I : En → Prop) (step : ∀ e, I e → (c e).wp (fun b e1 => if b = true then (g e1).wp (fun e2 => I e2 ∧ m e2 < m e) R X N (fun e2 => I e2 ∧ m e2 < m e) else N e1) X)
    (h0 : I e) (hn : m e < n) : (whileS n c g e).wp N R X B C := by
  unfold whileS
  induction n generalizing e with
  | zero => omega
  | succ n ih =>
    unfold whileL
    refine wp_thn ((step e h0).mono (fun b e1 q => ?_) fun _ _ h => h)
    cases b with
    | false => exact ⟨q⟩
    | true =>
      rw [if_pos rfl] at q ⊢
      cases hg : g e1 with
      | nx e2 => rw [hg] at q; exact ih q.out.1 (by have := q.out.2; omega)
      | cnt e2 => rw [hg] at q; exact ih q.out.1 (by have := q.out.2; omega)
      | brk e2 => rw [hg] at q; exact ⟨q.out⟩
      | ret d e2 => rw [hg] at q; exact ⟨q.out⟩
      | exc x e2 => rw [hg] at q; exact ⟨q.out⟩
      | bad => rw [hg] at q; exact q.out.elim
end
theorem wp_whileU {N : En → Prop} {R : D → En → Prop} {X : Ex → En → Prop} {B C : En → Prop} {e : En} {c : En → Res Bool} {g : En → Out} {n : Nat} (p : (c e).wp (fun b e1 => if b = true then (g e1).wp (fun e2 => (whileS n c g e2).wp N R X B C) R X N (fun e2 => (whileS n c g e2).wp N R X B C) else N e1) X) : (whileS (n + 1) c g e).wp N R X B C := by
  unfold whileS whileL
  refine wp_thn (p.mono (fun b e1 q => ?_) fun _ _ h => h)
  cases b with
  | false => exact ⟨q⟩
  | true =>
    rw [if_pos rfl] at q ⊢
    cases hg : g e1 <;> (rw [hg] at q; first | exact q.out | exact ⟨q.out⟩ | exact q.out.elim)
theorem wp_whileN {N : En → Prop} {R : D → En → Prop} {X : Ex → En → Prop} {B C : En → Prop} {e : En} {c : En → Res Bool} {g : En → Out} {n : Nat} (I : Nat → En → Prop)
    (step : ∀ k e, I k e → (c e).wp (fun b e1 => if b = true then (g e1).wp (fun e2 => ∃ k', k' < k ∧ I k' e2) R X N (fun e2 => ∃ k', k' < k ∧ I k' e2) else N e1) X) (k : Nat) (h0 : I k e) (hn : k < n) : (whileS n c g e).wp N R X B C := by
  induction n generalizing e k with
  | zero => omega
  | succ n ih =>
    refine wp_whileU ((step k e h0).mono (fun b e1 q => ?_) fun _ _ h => h)
    cases b with
    | false => exact q
    | true =>
      rw [if_pos rfl] at q ⊢
      exact q.mono (fun e2 ⟨k', h1, h2⟩ => ih k' h2 (by omega)) (fun _ _ h => h) (fun _ _ h => h) (fun _ h => h) (fun e2 ⟨k', h1, h2⟩ => ih k' h2 (by omega))
/-! ### defs -/
section
variable {N : Nat} {b : En → Out} {as e : En} {P : D → En → Prop} {X : Ex → En → Prop}
theorem wp_defV (hs : Pad N as e) (p : (b e).wp (fun e => ∃ r, OutA as e r ∧ P .non r) (fun d e => ∃ r, OutA as e r ∧ P d r) (fun x e => ∃ r, OutA as e r ∧ X x r) noE noE) : (defV N b as).wp P X := by
  unfold defV
  rw [hs.eq]
  cases hb : b e <;> (rw [hb] at p; first | exact p.out.elim | (obtain ⟨r, h1, h2⟩ := p.out; simp only [h1.eq]; exact ⟨h2⟩))
theorem wp_defO (hs : Pad N as e) (p : (b e).wp noE (fun d e => ∃ r, OutA as e r ∧ P d r) (fun x e => ∃ r, OutA as e r ∧ X x r) noE noE) : (defO N b as).wp P X := by
  unfold defO
  rw [hs.eq]
  cases hb : b e <;> (rw [hb] at p; first | exact p.out.elim | (obtain ⟨r, h1, h2⟩ := p.out; simp only [h1.eq]; exact ⟨h2⟩))
end
/-! ### operators -/
theorem add_int (i j : Int) : addV (.int i) (.int j) = some (.int (i + j)) := rfl
theorem int_f {f : Int → Int → Option Int} {i j l : Int} (h : f i j = some l) : intD f (.int i) (.int j) = some (.int l) := by show (f i j).map D.int = _; rw [h]; rfl
theorem mul_int {i j l : Int} (h : mulI i j = some l) : mulV (.int i) (.int j) = some (.int l) := by show (mulI i j).map D.int = _; rw [h]; rfl
theorem mod_pos {i j : Int} (h : 0 < j) : modI i j = some (i % j) := if_pos h
theorem fdiv_pos {i j : Int} (h : 0 < j ∧ j < 1073741824) : fdivI i j = some (i / j) := if_pos h
theorem mul_l {i j : Int} (h : -18446744073709551616 < i ∧ i < 18446744073709551616) : mulI i j = some (i * j) := if_pos (.inl (by simpa using h))
theorem mul_r {i j : Int} (h : -18446744073709551616 < j ∧ j < 18446744073709551616) : mulI i j = some (i * j) := if_pos (.inr (by simpa using h))
theorem sub_ok (i j : Int) : subI i j = some (i - j) := rfl
theorem divmod_ok {i j : Int} (h : 0 < j ∧ j < 1073741824) : divmodD [.int i, .int j] = some (.tup [.int (i / j), .int (i % j)]) := if_pos h
theorem add_lst {a b : List D} (h : a.length + b.length ≤ 16777216) : addV (.lst a) (.lst b) = some (.lst (a ++ b)) := by
  show (if szOk _ = true then _ else _) = _
  rw [if_pos (by unfold szOk; rw [sizeLine_eq]; simpa using h)]
theorem add_tup {a b : List D} (h : a.length + b.length ≤ 16777216) : addV (.tup a) (.tup b) = some (.tup (a ++ b)) := by
  have : addD (.tup a) (.tup b) = some (.tup (a ++ b)) := by
    show (if szOk (a.length + b.length) = true then _ else _) = _
    rw [if_pos (by unfold szOk; rw [sizeLine_eq]; simpa using h)]
  unfold addV; rw [this]
theorem add_str {a b : Str} (h : a.length + b.length ≤ 16777216) : addV (.str a) (.str b) = some (.str (a ++ b)) := by
  have : addD (.str a) (.str b) = some (.str (a ++ b)) := by
    show (if szOk (a.length + b.length) = true then _ else _) = _
    rw [if_pos (by unfold szOk; rw [sizeLine_eq]; simpa using h)]
  unfold addV; rw [this]
theorem len_str {a : Str} (h : a.length ≤ 16777216) : lenD [.str a] = some (.int a.length) := by
  show (if szOk a.length = true then _ else _) = _
  rw [if_pos (by unfold szOk; rw [sizeLine_eq]; simpa using h)]
theorem opApp {xs : List D} {d : D} (h : xs.length < 16777216) : appD (.lst xs) [d] = some (.lst (xs ++ [d]), .non) := by
  show (if xs.length < sizeLine then _ else _) = _
  rw [if_pos (by rw [sizeLine_eq]; exact h)]
theorem ext_ok {xs ys : List D} (h : xs.length + ys.length ≤ 16777216) : extD (.lst xs) [.lst ys] = some (.lst (xs ++ ys), .non) := by
  show (if szOk (xs.length + ys.length) = true then _ else _) = _
  rw [if_pos (by unfold szOk; rw [sizeLine_eq]; simpa using h)]
theorem sz_ok {n : Nat} (h : n ≤ 16777216) : n ≤ sizeLine := by rw [sizeLine_eq]; exact h
theorem rng1_ok {n : Nat} (h : n < 1000000) : rng1 [.v (.int n)] = some (intsD 0 n) := by
  show (if small62 (n : Int) = true then some (intsD 0 (n : Int).toNat) else none) = _
  rw [if_pos]; rfl
  unfold small62
  have h1 : (2 : Int) ^ 62 = 4611686018427387904 := by decide
  exact decide_eq_true ⟨by rw [h1]; omega, by rw [h1]; omega⟩
theorem rng2_ok {a b : Nat} (h : a < 1000000) (h' : b < 1000000) : rng2 [.v (.int a), .v (.int b)] = some (intsD a (b - a)) := by
  have h1 : (2 : Int) ^ 62 = 4611686018427387904 := by decide
  show (if small62 (a : Int) = true ∧ small62 (b : Int) = true then some (intsD a ((b : Int) - a).toNat) else none) = _
  rw [if_pos]
  · congr 2; omega
  · unfold small62
    exact ⟨decide_eq_true ⟨by rw [h1]; omega, by rw [h1]; omega⟩, decide_eq_true ⟨by rw [h1]; omega, by rw [h1]; omega⟩⟩
theorem ints_len (lo : Int) (n : Nat) : (intsD lo n).length = n := by unfold intsD; simp
/-! ### ends of steps -/
section
variable {α : Type} {P : D → Prop} {e e1 e2 e' : En} {i : Nat} {d c c' v : D} {ds xs : List D} {as : List Ar} {r : En}
theorem wp_mstr {x : Str} {A : Prop} (p : A) : (∀ kvs, D.str x ≠ .dct kvs) ∧ tyD "str" (.str x) = true ∧ A := ⟨fun _ h => (by cases h), rfl, p⟩
theorem wp_mint {x : Int} {A : Prop} (p : A) : (∀ kvs, D.int x ≠ .dct kvs) ∧ tyD "int" (.int x) = true ∧ A := ⟨fun _ h => (by cases h), rfl, p⟩
theorem wp_mlst {x : List D} {A : Prop} (p : A) : (∀ kvs, D.lst x ≠ .dct kvs) ∧ tyD "list" (.lst x) = true ∧ A := ⟨fun _ h => (by cases h), rfl, p⟩
theorem wp_le15 {n : Nat} {A : Prop} (h : Nat.ble n 15 = true) (p : A) : n ≤ 15 ∧ A := ⟨Nat.le_of_ble_eq_true h, p⟩
theorem ndp1 {i : Nat} : List.Nodup [i] := by simp
theorem wp_some {o : Option α} {Q : α → Prop} {a : α} (h : o = some a) (p : Q a) : ∃ c, o = some c ∧ Q c := ⟨a, h, p⟩
theorem wp_bl {b : Bool} {Q : Bool → Prop} (p : Q b) : ∃ c, D.bl b = .bl c ∧ Q c := ⟨b, rfl, p⟩
theorem wp_i1 {i : Int} {Q : Int → Prop} (p : Q i) : ∃ c, D.int i = .int c ∧ Q c := ⟨i, rfl, p⟩
theorem wp_i2 {i j : Int} {Q : Int → Int → Prop} (p : Q i j) : ∃ c b, D.int i = .int c ∧ D.int j = .int b ∧ Q c b := ⟨i, j, rfl, rfl, p⟩
theorem wp_tp {xs : List D} {Q : List D → Prop} (p : Q xs) : ∃ ys, D.tup xs = .tup ys ∧ Q ys := ⟨xs, rfl, p⟩
theorem wp_vals {Q : List D → Prop} (h : ValsA as ds) (p : Q ds) : ∃ ds, ValsA as ds ∧ Q ds := ⟨ds, h, p⟩
theorem wp_sz {n : Nat} {A : Prop} (h : n ≤ 16777216) (p : A) : n ≤ sizeLine ∧ A := ⟨sz_ok h, p⟩
theorem wp_args {Q : En → Prop} (nd : (slotsOf as).Nodup) (h : MkA e as r) (p : Q r) : (slotsOf as).Nodup ∧ ∃ r, MkA e as r ∧ Q r := ⟨nd, r, h, p⟩
theorem wp_cat {zs l : List Ar} {dfl : List D} {Q : List Ar → Prop} (h : CatA as zs dfl l) (p : Q l) : ∃ l, CatA as zs dfl l ∧ Q l := ⟨l, h, p⟩
theorem wp_wb {Q : En → Prop} (h : WbA as r e e') (p : Q e') : ∃ e', WbA as r e e' ∧ Q e' := ⟨e', h, p⟩
theorem wba_io (hs : GetAt e i (.io c)) (ht : SetAt e i (.io d) e1) (h : WbA as r e1 e') : WbA (.s i :: as) (.io d :: r) e e' := .s hs ht h
theorem wba_own (hs : GetAt e i (.own c)) (ht : SetAt e i (.own d) e1) (h : WbA as r e1 e') : WbA (.s i :: as) (.io d :: r) e e' := .s hs ht h
theorem put_v {s : Sl} {Q : En → Prop} (h1 : GetAt e i s) (h2 : s.isIo = false) (h3 : SetAt e i (.val d) e1) (p : Q e1) : PutV i d e Q := ⟨s, e1, h1, h2, h3, p⟩
theorem put_o {s : Sl} {Q : En → Prop} (h1 : GetAt e i s) (h2 : s.isIo = false) (h3 : SetAt e i (.own d) e1) (p : Q e1) : PutO i d e Q := ⟨s, e1, h1, h2, h3, p⟩
theorem wp_out {as e : En} {Q : En → Prop} (h : OutA as e r) (p : Q r) : ∃ r, OutA as e r ∧ Q r := ⟨r, h, p⟩
theorem lm_io {f : D → List D → Option (D × D)} {Q : D → En → Prop} (h1 : ValsA as ds) (h2 : GetAt e i (.io c)) (h3 : f c ds = some (c', v)) (h4 : SetAt e i (.io c') e2) (p : Q v e2) : ∃ ds s1 c c' v e2, ValsA as ds ∧ GetAt e i s1 ∧ s1.cont = some c ∧ f c ds = some (c', v) ∧ SetAt e i (s1.put c') e2 ∧ Q v e2 := ⟨ds, _, c, c', v, e2, h1, h2, rfl, h3, h4, p⟩
theorem lm_own {f : D → List D → Option (D × D)} {Q : D → En → Prop} (h1 : ValsA as ds) (h2 : GetAt e i (.own c)) (h3 : f c ds = some (c', v)) (h4 : SetAt e i (.own c') e2) (p : Q v e2) : ∃ ds s1 c c' v e2, ValsA as ds ∧ GetAt e i s1 ∧ s1.cont = some c ∧ f c ds = some (c', v) ∧ SetAt e i (s1.put c') e2 ∧ Q v e2 := ⟨ds, _, c, c', v, e2, h1, h2, rfl, h3, h4, p⟩
theorem six_any {s : Sl} {Q : D → Prop} (h1 : GetAt e i s) (h2 : s.cont = some c) (p : ∃ y, ixD c d = some y ∧ Q y) : ∃ s1 c1, GetAt e i s1 ∧ s1.cont = some c1 ∧ ∃ y, ixD c1 d = some y ∧ Q y := ⟨s, c, h1, h2, p⟩
theorem sst_any {s : Sl} {Q : Prop} (h1 : GetAt e i s) (h2 : s.cont = some c) (p : Q) : ∃ s1 c1, GetAt e i s1 ∧ s1.cont = some c1 ∧ Q := ⟨s, c, h1, h2, p⟩
theorem st_io {y : D} {Q : En → Prop} (h2 : GetAt e i (.io c)) (h3 : setIxD c y v = some c') (h4 : SetAt e i (.io c') e2) (p : Q e2) : ∃ s1 c c' e2, GetAt e i s1 ∧ s1.cont = some c ∧ setIxD c y v = some c' ∧ SetAt e i (s1.put c') e2 ∧ Q e2 := ⟨_, c, c', e2, h2, rfl, h3, h4, p⟩
theorem st_own {y : D} {Q : En → Prop} (h2 : GetAt e i (.own c)) (h3 : setIxD c y v = some c') (h4 : SetAt e i (.own c') e2) (p : Q e2) : ∃ s1 c c' e2, GetAt e i s1 ∧ s1.cont = some c ∧ setIxD c y v = some c' ∧ SetAt e i (s1.put c') e2 ∧ Q e2 := ⟨_, c, c', e2, h2, rfl, h3, h4, p⟩
theorem wp_wipe {vs : List Nat} {Q : En → Prop} (hc : coolAt vs e = true) (h : WipeA vs 0 e e') (p : Q e') : coolAt vs e = true ∧ ∃ e0, WipeA vs 0 e e0 ∧ Q e0 := ⟨hc, e', h, p⟩
theorem wp_back {vs : List Nat} {Q : En → Prop} (h : BackA vs 0 e e1 e') (p : Q e') : ∃ e0, BackA vs 0 e e1 e0 ∧ Q e0 := ⟨e', h, p⟩
theorem if_t {A B : Prop} (p : A) : if true = true then A else B := by rw [if_pos rfl]; exact p
theorem if_f {A B : Prop} (p : B) : if false = true then A else B := by rw [if_neg (by decide)]; exact p
theorem if_rt {b : Bool} {A B : Prop} (h : b = true) (p : A) : if b = true then A else B := by rw [if_pos h]; exact p
theorem if_rf {b : Bool} {A B : Prop} (h : b = false) (p : B) : if b = true then A else B := by rw [if_neg (by rw [h]; decide)]; exact p
theorem if_dec {c : Prop} [Decidable c] {A B : Prop} (h : c → A) (h' : ¬ c → B) : if decide c = true then A else B := by
  by_cases q : c
  · rw [if_pos (decide_eq_true q)]; exact h q
  · rw [if_neg (by rw [decide_eq_false q]; decide)]; exact h' q
theorem if_yes {c : Prop} [Decidable c] {A B : Prop} (q : c) (h : A) : if decide c = true then A else B := if_dec (fun _ => h) fun n => absurd q n
theorem if_no {c : Prop} [Decidable c] {A B : Prop} (q : ¬ c) (h : B) : if decide c = true then A else B := if_dec (fun n => absurd n q) fun _ => h
theorem if_not {b : Bool} {A B : Prop} (h : if b = true then B else A) : if (!b) = true then A else B := by cases b <;> exact h
theorem if_b {b : Bool} {A B : Prop} (h : b = true → A) (h' : b = false → B) : if b = true then A else B := by cases b; exact h' rfl; exact h rfl
theorem if_ne0 {i : Int} {A B : Prop} (h : i ≠ 0 → A) (h' : i = 0 → B) : if (i != 0) = true then A else B := by
  by_cases q : i = 0
  · subst q; exact h' rfl
  · rw [if_pos (by simpa using q)]; exact h q
end
end L2.PV

set_option linter.all false
set_option maxRecDepth 100000
set_option maxHeartbeats 4000000
set_option autoImplicit false
namespace L2.PV
open PySem
/-! ### texts, equality -/
theorem str_ext {x y : Str} (h : x.cps.toList = y.cps.toList) : x = y := by cases x; cases y; congr 1; exact Array.ext' h
theorem cps_len (x : Str) : x.cps.toList.length = x.length := by simp [Str.length]
theorem all_or_split (g : Nat → Bool) : ∀ l : List Nat, l.all g = true ∨ ∃ a c b, l = a ++ c :: b ∧ (∀ x ∈ a, g x = true) ∧ g c = false
  | [] => .inl rfl
  | x :: l => by
    cases hx : g x with
    | false => exact .inr ⟨[], x, l, rfl, by simp, hx⟩
    | true =>
      rcases all_or_split g l with h | ⟨a, c, b, rfl, h1, h2⟩
      · exact .inl (by simp [hx] at h ⊢; exact h)
      · exact .inr ⟨x :: a, c, b, rfl, by intro z hz; rcases List.mem_cons.mp hz with rfl | hz; exact hx; exact h1 z hz, h2⟩
theorem tw_pre (g : Nat → Bool) : ∀ (a b : List Nat), (∀ x ∈ a, g x = true) → (a ++ b).takeWhile g = a ++ b.takeWhile g
  | [], _, _ => rfl
  | x :: a, b, h => by
    rw [List.cons_append, List.takeWhile_cons_of_pos (h x List.mem_cons_self), tw_pre g a b fun z hz => h z (List.mem_cons_of_mem _ hz), List.cons_append]
theorem tw_end (g : Nat → Bool) (c : Nat) (hc : g c = false) : ∀ l : List Nat, ((l ++ [c]).takeWhile g).length ≤ l.length
  | [] => by simp [List.takeWhile, hc]
  | x :: l => by
    rw [List.cons_append]
    cases hx : g x with
    | false => rw [List.takeWhile_cons_of_neg (by simp [hx])]; simp
    | true => rw [List.takeWhile_cons_of_pos hx]; have := tw_end g c hc l; simp; omega
theorem strip_empty (x y : Str) : Txt.stripChars x y = "" ↔ x.cps.toList.all y.cps.contains = true := by
  have hl := cps_len x
  have emp : ∀ z : Str, z = "" ↔ z.length = 0 := fun z => ⟨fun h => by subst h; rfl, fun h => str_ext (by have := cps_len z; rw [h] at this; exact List.eq_nil_of_length_eq_zero this)⟩
  rw [emp]
  let g := y.cps.contains
  have hlo : PySem.stripLo g true x = (x.cps.toList.takeWhile g).length := rfl
  have hhi : ∀ lo, PySem.stripHi g true x lo = x.length - ((x.cps.toList.drop lo).reverse.takeWhile g).length := fun _ => rfl
  have hun : Txt.stripChars x y = if PySem.stripSame g true true x = true then x else PySem.stripped g true true x := rfl
  have hsm : PySem.stripSame g true true x = (PySem.stripLo g true x == 0 && PySem.stripHi g true x (PySem.stripLo g true x) == x.length) := rfl
  have hst : (PySem.stripped g true true x).length = min (PySem.stripHi g true x (PySem.stripLo g true x)) x.length - PySem.stripLo g true x := by
    show (x.cps.extract _ _).size = _
    rw [Array.size_extract]; rfl
  constructor
  · intro h
    rcases all_or_split g x.cps.toList with hall | ⟨a, c, b, hx, h1, h2⟩
    · exact hall
    · have hlo2 : PySem.stripLo g true x = a.length := by
        rw [hlo, hx, tw_pre g _ _ h1, List.takeWhile_cons_of_neg (by simp [h2]), List.append_nil]
      have hhi2 := hhi a.length
      rw [hx, List.drop_left' rfl, List.reverse_cons] at hhi2
      have h3 := tw_end g c h2 b.reverse
      rw [List.length_reverse] at h3
      have h4 : x.length = a.length + (b.length + 1) := by rw [← hl, hx]; simp
      rw [hun] at h
      split at h
      · omega
      · rw [hst, hlo2, hhi2] at h
        omega
  · intro h
    have hall : ∀ c ∈ x.cps.toList, g c = true := List.all_eq_true.mp h
    have htw : x.cps.toList.takeWhile g = x.cps.toList := by
      have := tw_pre g x.cps.toList [] hall
      simpa using this
    rw [htw, hl] at hlo
    rw [hun]
    split
    · rename_i hs
      rw [hsm, hlo] at hs
      simp at hs
      exact hs.1
    · rw [hst, hlo]; omega
/-! ### equality of plain values -/
theorem py_str (x : Str) : toPy (.str x) = some (.str x) := rfl
def strF (x : Str) : Bool := PySem.PyData.strOk x
theorem shaped_str {x : Str} (h : strF x = true) : SeqAt.shaped (.str x) = true := by
  show (PySem.PyData.strOk x && decide (0 ≤ 64)) = true
  have : PySem.PyData.strOk x = true := h
  rw [this]; rfl
theorem eq_strs {x y : Str} (hx : strF x = true) (hy : strF y = true) : eqD (.str x) (.str y) = some (.bl (decide (x = y))) := by
  show (if SeqAt.shaped (.str x) = true ∧ SeqAt.shaped (.str y) = true then some (PyData.eqv (.str x) (.str y)) else none).map D.bl = _
  rw [if_pos ⟨shaped_str hx, shaped_str hy⟩]
  show some (D.bl (PyData.eqv (.str x) (.str y))) = _
  rw [show PyData.eqv (.str x) (.str y) = (x == y) from by unfold PyData.eqv; rfl]
  congr 2
theorem ne_of_eq {a b : D} {k : Bool} (h : eqD a b = some (.bl k)) : neD a b = some (.bl (!k)) := by
  unfold eqD at h
  unfold neD
  cases q : eqB a b with
  | none => rw [q] at h; cases h
  | some j => rw [q] at h; cases h; rfl
theorem ne_strs {x y : Str} (hx : strF x = true) (hy : strF y = true) : neD (.str x) (.str y) = some (.bl (!decide (x = y))) := ne_of_eq (eq_strs hx hy)
theorem eq_ints (i j : Int) : eqD (.int i) (.int j) = some (.bl (decide (i = j))) := by
  show (if SeqAt.shaped (.int i) = true ∧ SeqAt.shaped (.int j) = true then some (PyData.eqv (.int i) (.int j)) else none).map D.bl = _
  rw [if_pos ⟨rfl, rfl⟩]
  show some (D.bl (PyData.eqv (.int i) (.int j))) = _
  rw [show PyData.eqv (.int i) (.int j) = (i == j) from by unfold PyData.eqv; rfl]
  congr 2
theorem ne_ints (i j : Int) : neD (.int i) (.int j) = some (.bl (!decide (i = j))) := ne_of_eq (eq_ints i j)
def memS (ws : List Str) : D → Bool
  | .str x => decide (x ∈ ws)
  | _ => false
/-- any value against texts -/
theorem mem_strs_any {d : D} {p : PyData} {ws : List Str} (mk : List PyData → PyData) (hm : ∀ ds, SeqAt.shaped (mk ds) = SeqAt.shaped (.list ds)) (h1 : toPy d = some p) (h2 : SeqAt.shaped p = true) (hw : ∀ w ∈ ws, strF w = true) :
    memB d (ws.map .str) mk = some (memS ws d) := by
  have hp : ∀ ws : List Str, toPys (ws.map .str) = some (ws.map .str) := by
    intro ws
    induction ws with
    | nil => rfl
    | cons w ws ih => show (toPy (.str w)).bind _ = _; rw [List.map_cons, ih]; rfl
  have hs : SeqAt.shaped (mk (ws.map .str)) = true := by
    rw [hm]
    have ha : ∀ ws : List Str, (∀ w ∈ ws, strF w = true) → PyData.canLayAll0 (ws.map .str) = true ∧ PyData.depthAll (ws.map .str) = 0 := by
      intro ws
      induction ws with
      | nil => intro _; exact ⟨rfl, rfl⟩
      | cons w ws ih =>
        intro h
        obtain ⟨a1, a2⟩ := ih fun z hz => h z (List.mem_cons_of_mem _ hz)
        constructor
        · show (PySem.PyData.strOk w && PyData.canLayAll0 (ws.map .str)) = true
          rw [a1, show PySem.PyData.strOk w = true from h w List.mem_cons_self]; rfl
        · show max 0 (PyData.depthAll (ws.map .str)) = 0
          rw [a2]; rfl
    obtain ⟨a1, a2⟩ := ha ws hw
    show (PyData.canLayAll0 (ws.map .str) && decide (PyData.depthAll (ws.map .str) + 1 ≤ 64)) = true
    rw [a1, a2]; rfl
  show ((toPy d).bind fun d => (toPys (ws.map .str)).bind fun ds => if SeqAt.shaped d = true ∧ SeqAt.shaped (mk ds) = true then some (ds.any fun z => PyData.eqv z d) else none) = _
  rw [h1, hp]
  show (if SeqAt.shaped p = true ∧ SeqAt.shaped (mk (ws.map .str)) = true then some ((ws.map PyData.str).any fun z => PyData.eqv z p) else none) = _
  rw [if_pos ⟨h2, hs⟩]
  congr 1
  have no : (∀ w : Str, PyData.eqv (.str w) p = false) → (ws.map PyData.str).any (fun z => PyData.eqv z p) = false := by
    intro h
    rw [List.any_map, List.any_eq_false]
    intro w _
    show ¬ PyData.eqv (.str w) p = true
    rw [h]; decide
  cases d with
  | str x =>
    cases h1
    show _ = decide (x ∈ ws)
    have he : ∀ w : Str, PyData.eqv (.str w) (.str x) = (w == x) := fun w => by unfold PyData.eqv; rfl
    rw [List.any_map, Bool.eq_iff_iff, List.any_eq_true, decide_eq_true_iff]
    constructor
    · rintro ⟨w, hw, h⟩
      have h : PyData.eqv (.str w) (.str x) = true := h
      rw [he] at h
      rw [← eq_of_beq h]; exact hw
    · exact fun h => ⟨x, h, by show PyData.eqv (.str x) (.str x) = true; rw [he]; exact beq_self_eq_true x⟩
  | non => cases h1; exact no fun w => by unfold PyData.eqv; rfl
  | bl b => cases h1; exact no fun w => by unfold PyData.eqv; rfl
  | int b => cases h1; exact no fun w => by unfold PyData.eqv; rfl
  | tup xs =>
    obtain ⟨q, hq, rfl⟩ := Option.map_eq_some_iff.mp h1
    exact no fun w => by unfold PyData.eqv; rfl
  | lst xs =>
    obtain ⟨q, hq, rfl⟩ := Option.map_eq_some_iff.mp h1
    exact no fun w => by unfold PyData.eqv; rfl
  | _ => cases h1
theorem in_lst_any {d : D} {p : PyData} {ws : List Str} (h1 : toPy d = some p) (h2 : SeqAt.shaped p = true) (hw : ∀ w ∈ ws, strF w = true) : inD d (.lst (ws.map .str)) = some (.bl (memS ws d)) := by
  show (memB d (ws.map .str) .list).map D.bl = _
  rw [mem_strs_any _ (fun _ => rfl) h1 h2 hw]; rfl
theorem in_tup_any {d : D} {p : PyData} {ws : List Str} (h1 : toPy d = some p) (h2 : SeqAt.shaped p = true) (hw : ∀ w ∈ ws, strF w = true) : inD d (.tup (ws.map .str)) = some (.bl (memS ws d)) := by
  show (memB d (ws.map .str) .tuple).map D.bl = _
  rw [mem_strs_any .tuple (fun _ => rfl) h1 h2 hw]; rfl
theorem nin_tup_any {d : D} {p : PyData} {ws : List Str} (h1 : toPy d = some p) (h2 : SeqAt.shaped p = true) (hw : ∀ w ∈ ws, strF w = true) : notInD d (.tup (ws.map .str)) = some (.bl (!memS ws d)) := by
  show (memB d (ws.map .str) .tuple).map (fun k => D.bl (!k)) = _
  rw [mem_strs_any .tuple (fun _ => rfl) h1 h2 hw]; rfl
theorem in_lst_strs {x : Str} {ws : List Str} (hx : strF x = true) (hw : ∀ w ∈ ws, strF w = true) : inD (.str x) (.lst (ws.map .str)) = some (.bl (decide (x ∈ ws))) := by
  exact in_lst_any rfl (shaped_str hx) hw
theorem in_tup_strs {x : Str} {ws : List Str} (hx : strF x = true) (hw : ∀ w ∈ ws, strF w = true) : inD (.str x) (.tup (ws.map .str)) = some (.bl (decide (x ∈ ws))) := by
  exact in_tup_any rfl (shaped_str hx) hw
theorem nin_tup_strs {x : Str} {ws : List Str} (hx : strF x = true) (hw : ∀ w ∈ ws, strF w = true) : notInD (.str x) (.tup (ws.map .str)) = some (.bl (!decide (x ∈ ws))) := by
  exact nin_tup_any rfl (shaped_str hx) hw
theorem bools_map : ∀ bs : List Bool, bools (bs.map .bl) = some bs
  | [] => rfl
  | b :: bs => by show (bools (bs.map .bl)).map (b :: ·) = _; rw [bools_map bs]; rfl
theorem all_map (bs : List Bool) : allD [.lst (bs.map .bl)] = some (.bl (bs.all id)) := by
  show ((bools _).map fun bs => D.bl (bs.all id)) = _
  rw [bools_map]; rfl
theorem any_map (bs : List Bool) : anyD [.lst (bs.map .bl)] = some (.bl (bs.any id)) := by
  show ((bools _).map fun bs => D.bl (bs.any id)) = _
  rw [bools_map]; rfl
theorem all_mapf {α : Type} (f : α → Bool) (xs : List α) : allD [.lst (xs.map fun x => .bl (f x))] = some (.bl (xs.all f)) := by
  have := all_map (xs.map f)
  rw [List.map_map] at this
  rw [show (fun x => D.bl (f x)) = D.bl ∘ f from rfl, this, List.all_map]; rfl
theorem any_mapf {α : Type} (f : α → Bool) (xs : List α) : anyD [.lst (xs.map fun x => .bl (f x))] = some (.bl (xs.any f)) := by
  have := any_map (xs.map f)
  rw [List.map_map] at this
  rw [show (fun x => D.bl (f x)) = D.bl ∘ f from rfl, this, List.any_map]; rfl
theorem strF_of {x : Str} (h : ∀ c ∈ x.cps.toList, c < 1114112) : strF x = true := by
  unfold strF PySem.PyData.strOk
  rw [Array.all_eq_true']
  intro c hc
  exact decide_eq_true (h c (by simpa using hc))
theorem strF_mem {x : Str} (h : strF x = true) {c : Nat} (hc : c ∈ x.cps.toList) : c < 1114112 := by
  unfold strF PySem.PyData.strOk at h
  rw [Array.all_eq_true'] at h
  exact of_decide_eq_true (h c (by simpa using hc))
theorem strip_F {x y : Str} (h : strF x = true) : strF (Txt.stripChars x y) = true := by
  refine strF_of fun c hc => strF_mem h ?_
  have hun : Txt.stripChars x y = if PySem.stripSame y.cps.contains true true x = true then x else ⟨x.cps.extract (PySem.stripLo y.cps.contains true x) (PySem.stripHi y.cps.contains true x (PySem.stripLo y.cps.contains true x))⟩ := rfl
  rw [hun] at hc
  split at hc
  · exact hc
  · have := (by simpa [Array.toList_extract, List.extract_eq_drop_take] using hc : c ∈ List.take _ (List.drop (PySem.stripLo y.cps.contains true x) x.cps.toList))
    exact List.mem_of_mem_drop (List.mem_of_mem_take this)
/-! ### plain values: texts, numbers, nested lists and tuples -/
def Pl (n : Nat) (d : D) : Prop := ∃ p, toPy d = some p ∧ p.canLay0 = true ∧ p.depth ≤ n
theorem Pl.shaped {n : Nat} {d : D} (h : Pl n d) (hn : n ≤ 64) : ∃ p, toPy d = some p ∧ SeqAt.shaped p = true := by
  obtain ⟨p, h1, h2, h3⟩ := h
  refine ⟨p, h1, ?_⟩
  show (p.canLay0 && decide (p.depth ≤ 64)) = true
  rw [h2, decide_eq_true (Nat.le_trans h3 hn)]; rfl
theorem Pl.mono {n m : Nat} {d : D} (h : Pl n d) (hn : n ≤ m) : Pl m d := let ⟨p, h1, h2, h3⟩ := h; ⟨p, h1, h2, Nat.le_trans h3 hn⟩
theorem pl_str {n : Nat} {x : Str} (h : strF x = true) : Pl n (.str x) := ⟨.str x, rfl, h, Nat.zero_le _⟩
theorem pl_int {n : Nat} {i : Int} : Pl n (.int i) := ⟨.int i, rfl, rfl, Nat.zero_le _⟩
theorem pl_non {n : Nat} : Pl n .non := ⟨.none, rfl, rfl, Nat.zero_le _⟩
theorem pl_bl {n : Nat} {b : Bool} : Pl n (.bl b) := ⟨.bool b, rfl, rfl, Nat.zero_le _⟩
theorem pls {n : Nat} : ∀ {ys : List D}, (∀ y ∈ ys, Pl n y) → ∃ ps, toPys ys = some ps ∧ PyData.canLayAll0 ps = true ∧ PyData.depthAll ps ≤ n ∧ ps.length = ys.length
  | [], _ => ⟨[], rfl, rfl, Nat.zero_le _, rfl⟩
  | y :: ys, h => by
    obtain ⟨p, h1, h2, h3⟩ := h y List.mem_cons_self
    obtain ⟨ps, g1, g2, g3, g4⟩ := pls (ys := ys) fun z hz => h z (List.mem_cons_of_mem _ hz)
    refine ⟨p :: ps, ?_, ?_, ?_, by simp [g4]⟩
    · show (toPy y).bind _ = _; rw [h1]; show (toPys ys).map (p :: ·) = _; rw [g1]; rfl
    · show (p.canLay0 && PyData.canLayAll0 ps) = true; rw [h2, g2]; rfl
    · show max p.depth (PyData.depthAll ps) ≤ n; omega
theorem pl_lst {n : Nat} {ys : List D} (h : ∀ y ∈ ys, Pl n y) : Pl (n + 1) (.lst ys) := by
  obtain ⟨ps, g1, g2, g3, g4⟩ := pls h
  refine ⟨.list ps, ?_, g2, ?_⟩
  · show (toPys ys).map _ = _; rw [g1]; rfl
  · show PyData.depthAll ps + 1 ≤ n + 1; omega
theorem pl_tup {n : Nat} {ys : List D} (h : ∀ y ∈ ys, Pl n y) : Pl (n + 1) (.tup ys) := by
  obtain ⟨ps, g1, g2, g3, g4⟩ := pls h
  refine ⟨.tuple ps, ?_, g2, ?_⟩
  · show (toPys ys).map _ = _; rw [g1]; rfl
  · show PyData.depthAll ps + 1 ≤ n + 1; omega
theorem eq_of_py {a b : D} {p q : PyData} (ha : toPy a = some p) (hb : toPy b = some q) (sa : SeqAt.shaped p = true) (sb : SeqAt.shaped q = true) : eqD a b = some (.bl (PyData.eqv p q)) := by
  show ((toPy a).bind fun p => (toPy b).bind fun q => if SeqAt.shaped p = true ∧ SeqAt.shaped q = true then some (PyData.eqv p q) else none).map D.bl = _
  rw [ha, hb]
  show (if SeqAt.shaped p = true ∧ SeqAt.shaped q = true then some (PyData.eqv p q) else none).map D.bl = _
  rw [if_pos ⟨sa, sb⟩]; rfl
theorem eq_nil_lst {n : Nat} {ys : List D} (h : ∀ y ∈ ys, Pl n y) (hn : n ≤ 63) : eqD (.lst ys) (.lst []) = some (.bl ys.isEmpty) := by
  obtain ⟨ps, g1, g2, g3, g4⟩ := pls h
  have h1 : toPy (.lst ys) = some (.list ps) := by show (toPys ys).map _ = _; rw [g1]; rfl
  rw [eq_of_py h1 (show toPy (.lst []) = some (.list []) from rfl) ?_ rfl]
  · congr 2
    cases ps with
    | nil => cases ys with
      | nil => unfold PyData.eqv PyData.eqvAll; rfl
      | cons y ys => cases g4
    | cons p ps => cases ys with
      | nil => cases g4
      | cons y ys => unfold PyData.eqv PyData.eqvAll; rfl
  · show (PyData.canLayAll0 ps && decide (PyData.depthAll ps + 1 ≤ 64)) = true
    rw [g2, decide_eq_true (by omega)]; rfl
theorem ne_nil_lst {n : Nat} {ys : List D} (h : ∀ y ∈ ys, Pl n y) (hn : n ≤ 63) : neD (.lst ys) (.lst []) = some (.bl (!ys.isEmpty)) := ne_of_eq (eq_nil_lst h hn)
theorem filter_not_empty {α : Type} (p : α → Bool) : ∀ l : List α, (l.filter fun d => !p d).isEmpty = l.all p
  | [] => rfl
  | x :: l => by
    rw [List.filter_cons, List.all_cons]
    cases h : p x with
    | true => simp only [Bool.not_true, Bool.false_eq_true, if_false, Bool.true_and]; exact filter_not_empty p l
    | false => rfl
theorem eq_self {n : Nat} {d : D} (h : Pl n d) (hn : n ≤ 64) : eqD d d = some (.bl true) := by
  obtain ⟨p, h1, h2, h3⟩ := h
  have hs : SeqAt.shaped p = true := by
    show (p.canLay0 && decide (p.depth ≤ 64)) = true
    rw [h2, decide_eq_true (Nat.le_trans h3 hn)]; rfl
  rw [eq_of_py h1 h1 hs hs, SeqAt.eqv_refl p h2]
theorem ne_self {n : Nat} {d : D} (h : Pl n d) (hn : n ≤ 64) : neD d d = some (.bl false) := ne_of_eq (eq_self h hn)
theorem pl_2 {n : Nat} {a b : D} (ha : Pl n a) (hb : Pl n b) : Pl (n + 1) (.tup [a, b]) := pl_tup (by
  intro y hy
  simp only [List.mem_cons, List.not_mem_nil, or_false] at hy
  rcases hy with rfl | rfl; exact ha; exact hb)
end L2.PV

set_option Elab.async false
set_option linter.all false
set_option maxRecDepth 100000
set_option maxHeartbeats 4000000
set_option autoImplicit false
namespace LR
open PySem PySem.Spec PyProof.Rows L2 L2.PV
def top (i : Nat) : Stmt := PySem.Challenge.pw_letterrules_k01_names_and_events.main.body.getD i (.Pass ⟨0, 0, 0, 0⟩)
structure Bl (mg : MG) : Prop where
  abs : mg "abs" = none
  all : mg "all" = none
  bool : mg "bool" = none
  divmod : mg "divmod" = none
  int : mg "int" = none
  isinstance : mg "isinstance" = none
  len : mg "len" = none
  max : mg "max" = none
  min : mg "min" = none
  range : mg "range" = none
  repr : mg "repr" = none
  str : mg "str" = none
  tuple : mg "tuple" = none
def d_ALPHABET : D := (.str "abcdefghijklmnopqrstuvwxyz")
def d_MAX_LENGTH : D := (.int 8)
def d_MAX_NAMES : D := (.int 500)
def d_SEND : D := (.str "send")
def d_READ : D := (.str "read")
structure Gc (K : PySem.W.Frag) (mg : MG) : Prop where
  ALPHABET : GC K mg "ALPHABET" d_ALPHABET
  MAX_LENGTH : GC K mg "MAX_LENGTH" d_MAX_LENGTH
  MAX_NAMES : GC K mg "MAX_NAMES" d_MAX_NAMES
  SEND : GC K mg "SEND" d_SEND
  READ : GC K mg "READ" d_READ
/-- is the first class a subclass of the second -/
def subC (x c : Str) : Option Bool :=
  if x = "InvalidName" ∧ c = "InvalidName" then some true else
  if x = "InvalidName" ∧ c = "InvalidNumber" then some false else
  if x = "InvalidNumber" ∧ c = "InvalidName" then some false else
  if x = "InvalidNumber" ∧ c = "InvalidNumber" then some true else
  none
structure Exs (P : Program) (K : PySem.W.Frag) (mg : MG) : Prop where
  v_InvalidName : XcV K mg "InvalidName"
  s_InvalidNumber : XcS P K mg "InvalidNumber" "value"
  x_InvalidNumber : XfT K mg "InvalidNumber" "value"
  sub : SubT K mg subC
section
variable {P : Program} {w : World} {K : PySem.W.Frag} {mg : MG} {base : Heap} {T : Tb}
/-! ### _law_dice -/
abbrev s_L_dice : Stmt := top 21
abbrev N_L_dice : List Str := ["_law_script", "_law_at", "_law_cell", "_law_great", "_law_mixed_here"]
theorem sc_L_dice : FnScope N_L_dice ["_law_script", "_law_at"] (defScope s_L_dice) := ⟨rfl, rfl, rfl, by decide +kernel, rfl, by decide +kernel, by decide +kernel⟩
def b_L_dice : En → Out := (seqS (noR (setS 2 (op2G addV (op2G mulV (constG (.int 19)) (varG 1)) (constG (.int 6)))))
    (seqS (noR (ifS (boolG (op2G (cmpD fun i j => decide (i < j)) (varG 1) (bltG lenD (consA (varG 0) nilA)))) (setS 2 (op2G ixD (varG 0) (varG 1))) nopS))
    (seqS (noR (setS 3 (op2G (intD modI) (bltG toInt (consA (bltG absD (consA (varG 2) nilA)) nilA)) (op2G (intD powI) (op2G (intD powI) (constG (.int 10)) (constG (.int 60))) (constG (.int 12))))))
    (seqS (noR (setS 4 (op2G addV (op2G addV (op2G addV (op2G mulV (op2G (intD modI) (bltG toInt (consA (varG 3) nilA)) (constG (.int 2147483543))) (constG (.int 46021))) (op2G mulV (constG (.int 1021)) (varG 1))) (op2G mulV (constG (.int 11)) (bltG toInt (consA (op2G (cmpD fun i j => decide (i < j)) (varG 2) (constG (.int 0))) nilA)))) (constG (.int 43)))))
    (retS (lstG (consA (bltG (int2 maxI) (consA (constG (.int 0)) (consA (op2G (intD subI) (varG 3) (op2G (intD powI) (constG (.int 10)) (constG (.int 18)))) nilA))) (consA (op2G (intD modI) (bltG toInt (consA (varG 4) nilA)) (constG (.int 2147483489))) (consA (constG (.int 0)) nilA)))))))))
def f_L_dice : En → Res D := defO 5 b_L_dice
theorem cl_L_dice (bl : Bl mg) (gc : Gc K mg) (ex : Exs P K mg) (F : Fd K mg "_law_dice" s_L_dice)  : ClO P w K mg base T 1 "_law_dice" 2 f_L_dice :=
  clO (k := 0) F sc_L_dice rfl (fun _ _ _ _ _ _ us hl => match us, hl with | [_, _], _ => rfl) fun f cdv A outer s H E c =>
    (oconsR (sset 2 (eaddV (emulV eint (ev 1)) eint) c.nd)
    (oconsR (sif (tlt (ev 1) (ecallB call_lenA lenD_ok (by rfl) bl.len (acons (ev 0) anil))) (sone (sset 2 (eix c (ev 0) (ev 1)) c.nd)) snil)
    (oconsR (sset 3 (emod (ecallTy call_int1 toInt_ok (by rfl) bl.int (acons (ecallB call_abs absD_ok (by rfl) bl.abs (acons (ev 2) anil)) anil)) (epow (epow eint eint) eint)) c.nd)
    (oconsR (sset 4 (eaddV (eaddV (eaddV (emulV (emod (ecallTy call_int1 toInt_ok (by rfl) bl.int (acons (ev 3) anil)) eint) eint) (emulV eint (ev 1))) (emulV eint (ecallTy call_int1 toInt_ok (by rfl) bl.int (acons (elt (ev 2) eint) anil)))) eint) c.nd)
    (oone (oret (nlst (acons (ecallB (call_max2 c.calm) (int2_ok (f := maxI)) (by rfl) bl.max (acons eint (acons (esub (ev 3) (epow eint eint)) anil))) (acons (emod (ecallTy call_int1 toInt_ok (by rfl) bl.int (acons (ev 4) anil)) eint) (acons eint anil))))))))))
/-! ### is_integer -/
abbrev s_is_integer : Stmt := top 10
abbrev N_is_integer : List Str := ["value"]
theorem sc_is_integer : FnScope N_is_integer ["value"] (defScope s_is_integer) := ⟨rfl, rfl, rfl, by decide +kernel, rfl, by decide +kernel, by decide +kernel⟩
def b_is_integer : En → Out := (retS (andG (isiG "int" (varG 0)) (notG (isiG "bool" (varG 0)))))
def f_is_integer : En → Res D := defV 1 b_is_integer
theorem cl_is_integer (bl : Bl mg) (gc : Gc K mg) (ex : Exs P K mg) (F : Fd K mg "is_integer" s_is_integer)  : Cl P w K mg base T 1 "is_integer" 1 f_is_integer :=
  clV (k := 0) F sc_is_integer rfl (fun _ _ _ _ _ _ us hl => match us, hl with | [_], _ => rfl) fun f cdv A outer s H E c =>
    (sone (sret (eand (eisi (ev 0) (by rfl) bl.isinstance (by rfl) bl.int) (eone (enot (eisi (ev 0) (by rfl) bl.isinstance (by rfl) bl.bool))))))
/-! ### is_between -/
abbrev s_is_between : Stmt := top 11
abbrev N_is_between : List Str := ["value", "least", "most"]
theorem sc_is_between : FnScope N_is_between ["value", "least", "most"] (defScope s_is_between) := ⟨rfl, rfl, rfl, by decide +kernel, rfl, by decide +kernel, by decide +kernel⟩
def b_is_between : En → Out := (retS (andG (callG f_is_integer (consA (varG 0) nilA)) (chainG (fun i j => decide (i ≤ j)) (fun i j => decide (i ≤ j)) (varG 1) (varG 0) (varG 2))))
def f_is_between : En → Res D := defV 3 b_is_between
theorem cl_is_between (bl : Bl mg) (gc : Gc K mg) (ex : Exs P K mg) (F : Fd K mg "is_between" s_is_between) (h_is_integer : Cl P w K mg base T 1 "is_integer" 1 f_is_integer) : Cl P w K mg base T 2 "is_between" 3 f_is_between :=
  clV (k := 1) F sc_is_between rfl (fun _ _ _ _ _ _ us hl => match us, hl with | [_, _, _], _ => rfl) fun f cdv A outer s H E c =>
    (sone (sret (eand (ecl c h_is_integer (by decide) (by rfl) (acons (ev 0) anil) (consA_len (fun _ _ _ h => nilA_len h))) (eone (echain op_le op_le (ev 1) (ev 0) (ev 2))))))
/-! ### name_number -/
abbrev s_name_number : Stmt := top 17
abbrev N_name_number : List Str := ["number", "found", "left", "sign"]
theorem sc_name_number : FnScope N_name_number ["number"] (defScope s_name_number) := ⟨rfl, rfl, rfl, by decide +kernel, rfl, by decide +kernel, by decide +kernel⟩
def b_name_number : En → Out := (seqS (parS [1, 2] (valK (constG (.str "")) (valK (op2G addV (varG 0) (constG (.int 1))) nilK)))
    (seqS (whileS 1000 (boolG (op2G (cmpD fun i j => decide (j < i)) (varG 2) (constG (.int 0)))) (seqS (asgS (bltG divmodD (consA (op2G (intD subI) (varG 2) (constG (.int 1))) (consA (bltG lenD (consA (constG d_ALPHABET) nilA)) nilA))) (tgT [(tgN 2), (tgN 3)]))
    (setS 1 (op2G addV (op2G ixD (constG d_ALPHABET) (varG 3)) (varG 1)))))
    (retS (varG 1))))
def f_name_number : En → Res D := defV 4 b_name_number
theorem cl_name_number (bl : Bl mg) (gc : Gc K mg) (ex : Exs P K mg) (F : Fd K mg "name_number" s_name_number)  : Cl P w K mg base T 1 "name_number" 1 f_name_number :=
  clV (k := 0) F sc_name_number rfl (fun _ _ _ _ _ _ us hl => match us, hl with | [_], _ => rfl) fun f cdv A outer s H E c =>
    (scons (spar 1 2 c (kval estr (kval (eaddV (ev 0) eint) knil)))
    (scons (swhile 1000 c (tgt (ev 2) eint) (scons (sasg (ecallB call_divmod divmodD_ok (by rfl) bl.divmod (acons (esub (ev 2) eint) (acons (ecallB call_lenA lenD_ok (by rfl) bl.len (acons (egl (by rfl) gc.ALPHABET) anil)) anil))) (gtup c.calm (gcons (gname 2 c.nd) (gcons (gname 3 c.nd) gnil))))
    (sone (sset 1 (eaddV (eix c (egl (by rfl) gc.ALPHABET) (ev 3)) (ev 1)) c.nd))))
    (sone (sret (ev 1)))))
/-! ### free_names -/
abbrev s_free_names : Stmt := top 18
abbrev N_free_names : List Str := ["many", "without", "found", "number", "name"]
theorem sc_free_names : FnScope N_free_names ["many", "without"] (defScope s_free_names) := ⟨rfl, rfl, rfl, by decide +kernel, rfl, by decide +kernel, by decide +kernel⟩
def b_free_names : En → Out := (seqS (parS [2, 3] (ownK (lstG nilA) (valK (constG (.int 0)) nilK)))
    (seqS (whileS 1000 (boolG (op2G (cmpD fun i j => decide (i < j)) (slotLenG 2) (varG 0))) (seqS (setS 4 (callG f_name_number (consA (varG 3) nilA)))
    (seqS (setS 3 (op2G addV (varG 3) (constG (.int 1))))
    (ifS (boolG (op2G notInD (varG 4) (varG 1))) (exprS (lmutG 2 appD (consA (varG 4) nilA))) nopS))))
    (frzS 2 (retS (varG 2)))))
def f_free_names : En → Res D := defV 5 b_free_names
theorem cl_free_names (bl : Bl mg) (gc : Gc K mg) (ex : Exs P K mg) (F : Fd K mg "free_names" s_free_names) (h_name_number : Cl P w K mg base T 1 "name_number" 1 f_name_number) : Cl P w K mg base T 2 "free_names" 2 f_free_names :=
  clV (k := 1) F sc_free_names rfl (fun _ _ _ _ _ _ us hl => match us, hl with | [_, _], _ => rfl) fun f cdv A outer s H E c =>
    (scons (spar 2 3 c (kown (nlst anil) (kval eint knil)))
    (scons (swhile 1000 c (tlt (eslotLen 2 (by rfl) rfl bl.len) (ev 0)) (scons (sset 4 (ecl c h_name_number (by decide) (by rfl) (acons (ev 3) anil) (consA_len (fun _ _ _ h => nilA_len h))) c.nd)
    (scons (sset 3 (eaddV (ev 3) eint) c.nd)
    (sone (sif (tnin c (ev 4) (ev 1)) (sone (sexpr (elmut 2 PySem.F.slot_list_append PySem.F.type_list_append mt_append appD_ok (acons (ev 4) anil)))) snil)))))
    (sone (sfrz1 2 (sret (ev 2))))))
/-! ### is_name -/
abbrev s_is_name : Stmt := top 12
abbrev N_is_name : List Str := ["value", "sign"]
theorem sc_is_name : FnScope N_is_name ["value"] (defScope s_is_name) := ⟨rfl, rfl, rfl, by decide +kernel, rfl, by decide +kernel, by decide +kernel⟩
def b_is_name : En → Out := (retS (andG (isiG "str" (varG 0)) (andG (chainG (fun i j => decide (i < j)) (fun i j => decide (i ≤ j)) (constG (.int 0)) (bltG lenD (consA (varG 0) nilA)) (constG d_MAX_LENGTH)) (bltG allD (consA (compG (iterG (varG 0)) (tgN 1) yesT (op2G inD (varG 1) (constG d_ALPHABET)) [1]) nilA)))))
def f_is_name : En → Res D := defV 2 b_is_name
theorem cl_is_name (bl : Bl mg) (gc : Gc K mg) (ex : Exs P K mg) (F : Fd K mg "is_name" s_is_name)  : Cl P w K mg base T 1 "is_name" 1 f_is_name :=
  clV (k := 0) F sc_is_name rfl (fun _ _ _ _ _ _ us hl => match us, hl with | [_], _ => rfl) fun f cdv A outer s H E c =>
    (sone (sret (eand (eisi (ev 0) (by rfl) bl.isinstance (by rfl) bl.str) (eand (echain op_lt op_le eint (ecallB call_lenA lenD_ok (by rfl) bl.len (acons (ev 0) anil)) (egl (by rfl) gc.MAX_LENGTH)) (eone (ecallB (cr_all c.calm) allD_ok (by rfl) bl.all (acons (nE (nlc c (iseq (ev 0)) (blkOk_by (N := N_is_name) (sc := defScope s_is_name) (own := [("sign", 1)]) (by decide +kernel)) (by decide) (fun _ _ _ _ _ c1 => (gname 1 c1.nd)) (fun _ _ _ _ _ c1 => tsnil) (fun _ _ _ _ _ c1 => (ein c1 (ev 1) (egl (by rfl) gc.ALPHABET))))) anil)))))))
/-! ### new_names -/
abbrev s_new_names : Stmt := top 19
abbrev N_new_names : List Str := ["many", "without", "name"]
theorem sc_new_names : FnScope N_new_names ["many", "without"] (defScope s_new_names) := ⟨rfl, rfl, rfl, by decide +kernel, rfl, by decide +kernel, by decide +kernel⟩
def b_new_names : En → Out := (seqS (ifS (notB (truthG (callG f_is_between (consA (varG 0) (consA (constG (.int 0)) (consA (constG d_MAX_NAMES) nilA)))))) (raiseVS "InvalidNumber" "value" (varG 0)) nopS)
    (seqS (ifS (orB (notB (truthG (isiG "tuple" (varG 1)))) (notB (truthG (bltG allD (consA (compG (iterG (varG 1)) (tgN 2) yesT (callG f_is_name (consA (varG 2) nilA)) [2]) nilA))))) (raiseS "InvalidName") nopS)
    (retS (bltG toTup (consA (callG f_free_names (consA (varG 0) (consA (varG 1) nilA))) nilA)))))
def f_new_names : En → Res D := defV 3 b_new_names
def kw_new_names : List (Str × D) := [("without", (.tup []))]
theorem cl_new_names (bl : Bl mg) (gc : Gc K mg) (ex : Exs P K mg) (F : FdD K mg "new_names" s_new_names kw_new_names) (h_free_names : Cl P w K mg base T 2 "free_names" 2 f_free_names) (h_is_between : Cl P w K mg base T 2 "is_between" 3 f_is_between) (h_is_name : Cl P w K mg base T 1 "is_name" 1 f_is_name) : ClD P w K mg base T 3 "new_names" s_new_names ["many", "without"] kw_new_names f_new_names :=
  clD (k := 2) F sc_new_names fun f cdv A outer s H E c =>
    (scons (sif (tnot (ttruth (ecl c h_is_between (by decide) (by rfl) (acons (ev 0) (acons eint (acons (egl (by rfl) gc.MAX_NAMES) anil))) (consA_len (consA_len (consA_len (fun _ _ _ h => nilA_len h))))))) (sone (sraiseV c ex.s_InvalidNumber (by rfl) (ev 0))) snil)
    (scons (sif (PW.pt (tor (tnot (ttruth (eisi (ev 1) (by rfl) bl.isinstance (by rfl) bl.tuple))) (tor1 (tnot (ttruth (ecallB (cr_all c.calm) allD_ok (by rfl) bl.all (acons (nE (nlc c (iseq (ev 1)) (blkOk_by (N := N_new_names) (sc := defScope s_new_names) (own := [("name", 2)]) (by decide +kernel)) (by decide) (fun _ _ _ _ _ c1 => (gname 2 c1.nd)) (fun _ _ _ _ _ c1 => tsnil) (fun _ _ _ _ _ c1 => (ecl c1 h_is_name (by decide) (by rfl) (acons (ev 2) anil) (consA_len (fun _ _ _ h => nilA_len h)))))) anil))))))) (sone (sraise c ex.v_InvalidName (by rfl))) snil)
    (sone (sret (ecallTy call_tuple_of toTup_ok (by rfl) bl.tuple (acons (ecl c h_free_names (by decide) (by rfl) (acons (ev 0) (acons (ev 1) anil)) (consA_len (consA_len (fun _ _ _ h => nilA_len h)))) anil))))))
/-! ### _law_pull -/
abbrev s_L_pull : Stmt := top 22
abbrev N_L_pull : List Str := ["_law_dice_here", "_law_total", "_law_found", "_law_one", "_law_two"]
theorem sc_L_pull : FnScope N_L_pull ["_law_dice_here", "_law_total"] (defScope s_L_pull) := ⟨rfl, rfl, rfl, by decide +kernel, rfl, by decide +kernel, by decide +kernel⟩
def b_L_pull : En → Out := (seqS (ifS (boolG (op2G (cmpD fun i j => decide (j < i)) (slotIxG 0 (constG (.int 0))) (constG (.int 0)))) (seqS (setS 2 (op2G (intD modI) (bltG toInt (consA (slotIxG 0 (constG (.int 0))) nilA)) (varG 1)))
    (seqS (setIxS 0 (constG (.int 0)) (op2G (intD fdivI) (slotIxG 0 (constG (.int 0))) (varG 1)))
    (retS (varG 2)))) nopS)
    (seqS (setIxS 0 (constG (.int 2)) (op2G addV (slotIxG 0 (constG (.int 2))) (constG (.int 1))))
    (seqS (setS 3 (op2G (intD modI) (bltG toInt (consA (op2G addV (slotIxG 0 (constG (.int 1))) (op2G mulV (constG (.int 1000159)) (slotIxG 0 (constG (.int 2))))) nilA)) (constG (.int 2305843009213693951))))
    (seqS (setS 4 (op2G mulV (op2G (intD modI) (bltG toInt (consA (op2G mulV (varG 3) (varG 3)) nilA)) (constG (.int 2305843009213693907))) (varG 3)))
    (retS (op2G (intD modI) (bltG toInt (consA (op2G (intD fdivI) (op2G (intD modI) (bltG toInt (consA (op2G addV (varG 4) (op2G mulV (constG (.int 7121)) (slotIxG 0 (constG (.int 2))))) nilA)) (constG (.int 2305843009213693921))) (constG (.int 8192))) nilA)) (varG 1)))))))
def f_L_pull : En → Res D := defV 5 b_L_pull
theorem cl_L_pull (bl : Bl mg) (gc : Gc K mg) (ex : Exs P K mg) (F : Fd K mg "_law_pull" s_L_pull)  : Cl P w K mg base T 1 "_law_pull" 2 f_L_pull :=
  clV (k := 0) F sc_L_pull rfl (fun _ _ _ _ _ _ us hl => match us, hl with | [_, _], _ => rfl) fun f cdv A outer s H E c =>
    (scons (sif (tgt (eslotIx 0 c eint) eint) (scons (sset 2 (emod (ecallTy call_int1 toInt_ok (by rfl) bl.int (acons (eslotIx 0 c eint) anil)) (ev 1)) c.nd)
    (scons (ssetIx 0 c eint (efdiv (eslotIx 0 c eint) (ev 1)))
    (sone (sret (ev 2))))) snil)
    (scons (ssetIx 0 c eint (eaddV (eslotIx 0 c eint) eint))
    (scons (sset 3 (emod (ecallTy call_int1 toInt_ok (by rfl) bl.int (acons (eaddV (eslotIx 0 c eint) (emulV eint (eslotIx 0 c eint))) anil)) eint) c.nd)
    (scons (sset 4 (emulV (emod (ecallTy call_int1 toInt_ok (by rfl) bl.int (acons (emulV (ev 3) (ev 3)) anil)) eint) (ev 3)) c.nd)
    (sone (sret (emod (ecallTy call_int1 toInt_ok (by rfl) bl.int (acons (efdiv (emod (ecallTy call_int1 toInt_ok (by rfl) bl.int (acons (eaddV (ev 4) (emulV eint (eslotIx 0 c eint))) anil)) eint) eint) anil)) (ev 1))))))))
/-! ### _law_pick -/
abbrev s_L_pick : Stmt := top 23
abbrev N_L_pick : List Str := ["_law_dice_here", "_law_items"]
theorem sc_L_pick : FnScope N_L_pick ["_law_dice_here", "_law_items"] (defScope s_L_pick) := ⟨rfl, rfl, rfl, by decide +kernel, rfl, by decide +kernel, by decide +kernel⟩
def b_L_pick : En → Out := (retS (op2G ixD (varG 1) (callG f_L_pull (slotA 0 (consA (bltG lenD (consA (varG 1) nilA)) nilA)))))
def f_L_pick : En → Res D := defV 2 b_L_pick
theorem cl_L_pick (bl : Bl mg) (gc : Gc K mg) (ex : Exs P K mg) (F : Fd K mg "_law_pick" s_L_pick) (h_L_pull : Cl P w K mg base T 1 "_law_pull" 2 f_L_pull) : Cl P w K mg base T 2 "_law_pick" 2 f_L_pick :=
  clV (k := 1) F sc_L_pick rfl (fun _ _ _ _ _ _ us hl => match us, hl with | [_, _], _ => rfl) fun f cdv A outer s H E c =>
    (sone (sret (eix c (ev 1) (ecl c h_L_pull (by decide) (by rfl) (aslot 0 (acons (ecallB call_lenA lenD_ok (by rfl) bl.len (acons (ev 1) anil)) anil)) (slotA_len (consA_len (fun _ _ _ h => nilA_len h)))))))
/-! ### _law_word -/
abbrev s_L_word : Stmt := top 25
abbrev N_L_word : List Str := ["_law_dice_here", "_law_signs", "_law_turn"]
theorem sc_L_word : FnScope N_L_word ["_law_dice_here"] (defScope s_L_word) := ⟨rfl, rfl, rfl, by decide +kernel, rfl, by decide +kernel, by decide +kernel⟩
def b_L_word : En → Out := (seqS (setS 1 (ifG (boolG (op2G (cmpD fun i j => decide (j < i)) (callG f_L_pull (slotA 0 (consA (constG (.int 3)) nilA))) (constG (.int 0)))) (constG (.str "abz")) (constG (.str "abzA1 _."))))
    (retS (metG "str" joinD (constG (.str "")) (consA (compG (rangeG rng1 (consA (callG f_L_pick (slotA 0 (consA (lstG (consA (constG (.int 0)) (consA (constG (.int 1)) (consA (constG (.int 1)) (consA (constG (.int 2)) (consA (constG (.int 3)) (consA (constG (.int 8)) (consA (constG (.int 9)) (consA (constG (.int 10)) nilA))))))))) nilA))) nilA)) (tgN 2) yesT (callG f_L_pick (slotA 0 (consA (varG 1) nilA))) [2]) nilA))))
def f_L_word : En → Res D := defV 3 b_L_word
theorem cl_L_word (bl : Bl mg) (gc : Gc K mg) (ex : Exs P K mg) (F : Fd K mg "_law_word" s_L_word) (h_L_pick : Cl P w K mg base T 2 "_law_pick" 2 f_L_pick) (h_L_pull : Cl P w K mg base T 1 "_law_pull" 2 f_L_pull) : Cl P w K mg base T 3 "_law_word" 1 f_L_word :=
  clV (k := 2) F sc_L_word rfl (fun _ _ _ _ _ _ us hl => match us, hl with | [_], _ => rfl) fun f cdv A outer s H E c =>
    (scons (sset 1 (eif (tgt (ecl c h_L_pull (by decide) (by rfl) (aslot 0 (acons eint anil)) (slotA_len (consA_len (fun _ _ _ h => nilA_len h)))) eint) estr estr) c.nd)
    (sone (sret (emet PySem.F.plainAttrs_str PySem.F.slot_str_join PySem.F.type_str_join mt_join joinD_ok estr (acons (nE (nlc c (irange1 (by rfl) bl.range (acons (ecl c h_L_pick (by decide) (by rfl) (aslot 0 (acons (nE (nlst (acons eint (acons eint (acons eint (acons eint (acons eint (acons eint (acons eint (acons eint anil)))))))))) anil)) (slotA_len (consA_len (fun _ _ _ h => nilA_len h)))) anil)) (blkOk_by (N := N_L_word) (sc := defScope s_L_word) (own := [("_law_turn", 2)]) (by decide +kernel)) (by decide) (fun _ _ _ _ _ c1 => (gname 2 c1.nd)) (fun _ _ _ _ _ c1 => tsnil) (fun _ _ _ _ _ c1 => (ecl c1 h_L_pick (by decide) (by rfl) (aslot 0 (acons (ev 1) anil)) (slotA_len (consA_len (fun _ _ _ h => nilA_len h))))))) anil)))))
/-! ### _law_values -/
abbrev s_L_values : Stmt := top 29
abbrev N_L_values : List Str := ["_law_dice_here", "_law_one", "_law_other", "_law_more", "_law_some"]
theorem sc_L_values : FnScope N_L_values ["_law_dice_here"] (defScope s_L_values) := ⟨rfl, rfl, rfl, by decide +kernel, rfl, by decide +kernel, by decide +kernel⟩
def b_L_values : En → Out := (seqS (parS [1, 2, 3] (valK (callG f_L_word (slotA 0 nilA)) (valK (callG f_L_word (slotA 0 nilA)) (valK (callG f_L_word (slotA 0 nilA)) nilK))))
    (seqS (setS 4 (lstG (consA (varG 1) (consA (tupG (consA (varG 1) nilA)) (consA (tupG (consA (constG (.str "send")) (consA (varG 1) nilA))) (consA (tupG (consA (constG (.str "read")) (consA (varG 2) nilA))) (consA (lstG (consA (constG (.str "send")) (consA (varG 1) nilA))) (consA (tupG (consA (constG (.str "send")) (consA (varG 1) (consA (varG 2) nilA)))) (consA (tupG (consA (varG 1) (consA (constG (.str "send")) nilA))) (consA (constG .non) (consA (constG (.bl true)) nilA)))))))))))
    (seqS (setS 4 (op2G addV (varG 4) (lstG (consA (tupG (consA (varG 1) (consA (varG 2) (consA (varG 3) nilA)))) (consA (tupG (consA (varG 1) (consA (varG 2) (consA (varG 2) nilA)))) (consA (lstG (consA (varG 1) (consA (varG 2) (consA (varG 3) nilA)))) (consA (tupG (consA (varG 1) (consA (varG 2) nilA))) (consA (tupG (consA (constG (.str "Send")) (consA (varG 1) nilA))) (consA (constG (.int 7)) (consA (tupG nilA) (consA (constG (.dct [])) nilA)))))))))))
    (seqS (setS 4 (op2G addV (varG 4) (lstG (consA (tupG (consA (constG (.str "read")) (consA (constG .non) nilA))) (consA (tupG (consA (constG .non) (consA (varG 1) nilA))) (consA (tupG (consA (constG (.str "send")) (consA (tupG (consA (constG (.str "a")) nilA)) nilA))) (consA (tupG (consA (tupG (consA (constG (.str "send")) nilA)) (consA (varG 1) nilA))) (consA (tupG (consA (constG (.str "sent")) (consA (varG 1) nilA))) nilA))))))))
    (seqS (setS 4 (op2G addV (varG 4) (lstG (consA (tupG (consA (lstG nilA) (consA (varG 1) nilA))) (consA (tupG (consA (varG 1) (consA (constG (.int 3)) (consA (constG (.str "b")) nilA)))) nilA)))))
    (seqS (setS 4 (op2G addV (varG 4) (lstG (consA (tupG (consA (constG (.str "other")) (consA (varG 1) (consA (varG 2) nilA)))) (consA (tupG (consA (constG (.str "send")) (consA (constG (.str "send")) nilA))) (consA (tupG (consA (constG (.str "read")) (consA (op2G mulV (constG (.str "a")) (constG (.int 9))) nilA))) nilA))))))
    (retS (op2G addV (varG 4) (lstG (consA (tupG (consA (constG (.str "order")) (consA (constG (.str "p")) (consA (constG (.str "q")) nilA)))) (consA (tupG (consA (constG (.str "")) (consA (constG (.str "p")) (consA (constG (.str "q")) nilA)))) nilA)))))))))))
def f_L_values : En → Res D := defV 5 b_L_values
theorem cl_L_values (bl : Bl mg) (gc : Gc K mg) (ex : Exs P K mg) (F : Fd K mg "_law_values" s_L_values) (h_L_word : Cl P w K mg base T 3 "_law_word" 1 f_L_word) : Cl P w K mg base T 4 "_law_values" 1 f_L_values :=
  clV (k := 3) F sc_L_values rfl (fun _ _ _ _ _ _ us hl => match us, hl with | [_], _ => rfl) fun f cdv A outer s H E c =>
    (scons (spar3 1 2 3 c (kval (ecl c h_L_word (by decide) (by rfl) (aslot 0 anil) (slotA_len (fun _ _ _ h => nilA_len h))) (kval (ecl c h_L_word (by decide) (by rfl) (aslot 0 anil) (slotA_len (fun _ _ _ h => nilA_len h))) (kval (ecl c h_L_word (by decide) (by rfl) (aslot 0 anil) (slotA_len (fun _ _ _ h => nilA_len h))) knil))))
    (scons (sset 4 (nE (nlst (acons (ev 1) (acons (etup (acons (ev 1) anil)) (acons (etup (acons estr (acons (ev 1) anil))) (acons (etup (acons estr (acons (ev 2) anil))) (acons (nE (nlst (acons estr (acons (ev 1) anil)))) (acons (etup (acons estr (acons (ev 1) (acons (ev 2) anil)))) (acons (etup (acons (ev 1) (acons estr anil))) (acons enon (acons ebl anil))))))))))) c.nd)
    (scons (sset 4 (eaddV (ev 4) (nE (nlst (acons (etup (acons (ev 1) (acons (ev 2) (acons (ev 3) anil)))) (acons (etup (acons (ev 1) (acons (ev 2) (acons (ev 2) anil)))) (acons (nE (nlst (acons (ev 1) (acons (ev 2) (acons (ev 3) anil))))) (acons (etup (acons (ev 1) (acons (ev 2) anil))) (acons (etup (acons estr (acons (ev 1) anil))) (acons eint (acons (etup anil) (acons (nE ndict0) anil))))))))))) c.nd)
    (scons (sset 4 (eaddV (ev 4) (nE (nlst (acons (etup (acons estr (acons enon anil))) (acons (etup (acons enon (acons (ev 1) anil))) (acons (etup (acons estr (acons (etup (acons estr anil)) anil))) (acons (etup (acons (etup (acons estr anil)) (acons (ev 1) anil))) (acons (etup (acons estr (acons (ev 1) anil))) anil)))))))) c.nd)
    (scons (sset 4 (eaddV (ev 4) (nE (nlst (acons (etup (acons (nE (nlst anil)) (acons (ev 1) anil))) (acons (etup (acons (ev 1) (acons eint (acons estr anil)))) anil))))) c.nd)
    (scons (sset 4 (eaddV (ev 4) (nE (nlst (acons (etup (acons estr (acons (ev 1) (acons (ev 2) anil)))) (acons (etup (acons estr (acons estr anil))) (acons (etup (acons estr (acons (emulV estr eint) anil))) anil)))))) c.nd)
    (sone (sret (eaddV (ev 4) (nE (nlst (acons (etup (acons estr (acons estr (acons estr anil)))) (acons (etup (acons estr (acons estr (acons estr anil)))) anil)))))))))))))
/-! ### _law_is_name -/
abbrev s_L_is_name : Stmt := top 26
abbrev N_L_is_name : List Str := ["_law_value"]
theorem sc_L_is_name : FnScope N_L_is_name ["_law_value"] (defScope s_L_is_name) := ⟨rfl, rfl, rfl, by decide +kernel, rfl, by decide +kernel, by decide +kernel⟩
def b_L_is_name : En → Out := (retS (andG (isiG "str" (varG 0)) (andG (chainG (fun i j => decide (i < j)) (fun i j => decide (i < j)) (constG (.int 0)) (bltG lenD (consA (varG 0) nilA)) (constG (.int 9))) (op2G eqD (metG "str" stripD (varG 0) (consA (constG (.str "abcdefghijklmnopqrstuvwxyz")) nilA)) (constG (.str ""))))))
def f_L_is_name : En → Res D := defV 1 b_L_is_name
theorem cl_L_is_name (bl : Bl mg) (gc : Gc K mg) (ex : Exs P K mg) (F : Fd K mg "_law_is_name" s_L_is_name)  : Cl P w K mg base T 1 "_law_is_name" 1 f_L_is_name :=
  clV (k := 0) F sc_L_is_name rfl (fun _ _ _ _ _ _ us hl => match us, hl with | [_], _ => rfl) fun f cdv A outer s H E c =>
    (sone (sret (eand (eisi (ev 0) (by rfl) bl.isinstance (by rfl) bl.str) (eand (echain op_lt op_lt eint (ecallB call_lenA lenD_ok (by rfl) bl.len (acons (ev 0) anil)) eint) (eone (eeq c (emet PySem.F.plainAttrs_str PySem.F.slot_str_strip PySem.F.type_str_strip mt_stripChars stripD_ok (ev 0) (acons estr anil)) estr))))))
/-! ### _law_is_event -/
abbrev s_L_is_event : Stmt := top 27
abbrev N_L_is_event : List Str := ["_law_value"]
theorem sc_L_is_event : FnScope N_L_is_event ["_law_value"] (defScope s_L_is_event) := ⟨rfl, rfl, rfl, by decide +kernel, rfl, by decide +kernel, by decide +kernel⟩
def b_L_is_event : En → Out := (retS (andG (isiG "tuple" (varG 0)) (andG (op2G eqD (bltG lenD (consA (varG 0) nilA)) (constG (.int 2))) (andG (op2G inD (op2G ixD (varG 0) (constG (.int 0))) (lstG (consA (constG (.str "send")) (consA (constG (.str "read")) nilA)))) (callG f_L_is_name (consA (op2G ixD (varG 0) (constG (.int 1))) nilA))))))
def f_L_is_event : En → Res D := defV 1 b_L_is_event
theorem cl_L_is_event (bl : Bl mg) (gc : Gc K mg) (ex : Exs P K mg) (F : Fd K mg "_law_is_event" s_L_is_event) (h_L_is_name : Cl P w K mg base T 1 "_law_is_name" 1 f_L_is_name) : Cl P w K mg base T 2 "_law_is_event" 1 f_L_is_event :=
  clV (k := 1) F sc_L_is_event rfl (fun _ _ _ _ _ _ us hl => match us, hl with | [_], _ => rfl) fun f cdv A outer s H E c =>
    (sone (sret (eand (eisi (ev 0) (by rfl) bl.isinstance (by rfl) bl.tuple) (eand (eeq c (ecallB call_lenA lenD_ok (by rfl) bl.len (acons (ev 0) anil)) eint) (eand (ein c (eix c (ev 0) eint) (nE (nlst (acons estr (acons estr anil))))) (eone (ecl c h_L_is_name (by decide) (by rfl) (acons (eix c (ev 0) eint) anil) (consA_len (fun _ _ _ h => nilA_len h)))))))))
/-! ### _law_longer -/
abbrev s_L_longer : Stmt := top 31
abbrev N_L_longer : List Str := ["_law_lines", "_law_letters", "_law_found", "_law_line", "_law_sign"]
theorem sc_L_longer : FnScope N_L_longer ["_law_lines", "_law_letters"] (defScope s_L_longer) := ⟨rfl, rfl, rfl, by decide +kernel, rfl, by decide +kernel, by decide +kernel⟩
def b_L_longer : En → Out := (seqS (ownS 2 (lstG nilA))
    (seqS (forS (iterG (varG 0)) (tgN 3) (exprS (lmutG 2 extD (consA (compG (iterG (varG 1)) (tgN 4) yesT (op2G addV (varG 3) (varG 4)) [4]) nilA))))
    (frzS 2 (retS (varG 2)))))
def f_L_longer : En → Res D := defV 5 b_L_longer
theorem cl_L_longer (bl : Bl mg) (gc : Gc K mg) (ex : Exs P K mg) (F : Fd K mg "_law_longer" s_L_longer)  : Cl P w K mg base T 1 "_law_longer" 2 f_L_longer :=
  clV (k := 0) F sc_L_longer rfl (fun _ _ _ _ _ _ us hl => match us, hl with | [_, _], _ => rfl) fun f cdv A outer s H E c =>
    (scons (sown 2 (nlst anil) c.nd)
    (scons (sfor c (iseq (ev 0)) (gname 3 c.nd) (sone (sexpr (elmut 2 PySem.F.slot_list_extend PySem.F.type_list_extend mt_extR extD_ok (acons (nE (nlc c (iseq (ev 1)) (blkOk_by (N := N_L_longer) (sc := defScope s_L_longer) (own := [("_law_sign", 4)]) (by decide +kernel)) (by decide) (fun _ _ _ _ _ c1 => (gname 4 c1.nd)) (fun _ _ _ _ _ c1 => tsnil) (fun _ _ _ _ _ c1 => (eaddV (ev 3) (ev 4))))) anil)))))
    (sone (sfrz1 2 (sret (ev 2))))))
/-! ### _law_first_names -/
abbrev s_L_first_names : Stmt := top 30
abbrev N_L_first_names : List Str := ["_law_total", "_law_barred", "_law_letters", "_law_lines", "_law_found", "_law_line"]
theorem sc_L_first_names : FnScope N_L_first_names ["_law_total", "_law_barred"] (defScope s_L_first_names) := ⟨rfl, rfl, rfl, by decide +kernel, rfl, by decide +kernel, by decide +kernel⟩
def b_L_first_names : En → Out := (seqS (parS [2, 3, 4] (valK (constG (.str "abcdefghijklmnopqrstuvwxyz")) (valK (lstG (consA (constG (.str "")) nilA)) (valK (lstG nilA) nilK))))
    (seqS (whileS 1000 (boolG (op2G (cmpD fun i j => decide (i < j)) (bltG lenD (consA (varG 4) nilA)) (varG 0))) (seqS (setS 3 (callG f_L_longer (consA (varG 3) (consA (varG 2) nilA))))
    (setS 4 (op2G addV (varG 4) (compG (iterG (varG 3)) (tgN 5) (boolG (op2G notInD (varG 5) (varG 1))) (varG 5) [5])))))
    (retS (bltG toTup (consA (sliceG slV (varG 4) noP (someP (varG 0))) nilA)))))
def f_L_first_names : En → Res D := defV 6 b_L_first_names
theorem cl_L_first_names (bl : Bl mg) (gc : Gc K mg) (ex : Exs P K mg) (F : Fd K mg "_law_first_names" s_L_first_names) (h_L_longer : Cl P w K mg base T 1 "_law_longer" 2 f_L_longer) : Cl P w K mg base T 2 "_law_first_names" 2 f_L_first_names :=
  clV (k := 1) F sc_L_first_names rfl (fun _ _ _ _ _ _ us hl => match us, hl with | [_, _], _ => rfl) fun f cdv A outer s H E c =>
    (scons (spar3 2 3 4 c (kval estr (kval (nE (nlst (acons estr anil))) (kval (nE (nlst anil)) knil))))
    (scons (swhile 1000 c (tlt (ecallB call_lenA lenD_ok (by rfl) bl.len (acons (ev 4) anil)) (ev 0)) (scons (sset 3 (ecl c h_L_longer (by decide) (by rfl) (acons (ev 3) (acons (ev 2) anil)) (consA_len (consA_len (fun _ _ _ h => nilA_len h)))) c.nd)
    (sone (sset 4 (eaddV (ev 4) (nE (nlc c (iseq (ev 3)) (blkOk_by (N := N_L_first_names) (sc := defScope s_L_first_names) (own := [("_law_line", 5)]) (by decide +kernel)) (by decide) (fun _ _ _ _ _ c1 => (gname 5 c1.nd)) (fun _ _ _ _ _ c1 => (tsone (tnin c1 (ev 5) (ev 1)))) (fun _ _ _ _ _ c1 => (ev 5))))) c.nd))))
    (sone (sret (ecallTy call_tuple_of toTup_ok (by rfl) bl.tuple (acons (esliceL (ev 4) pnone (psome (ev 0))) anil))))))
/-! ### _law_told -/
abbrev s_L_told : Stmt := top 32
abbrev N_L_told : List Str := ["_law_call", "e"]
theorem sc_L_told : FnScope N_L_told ["_law_call"] (defScope s_L_told) := ⟨rfl, rfl, rfl, by decide +kernel, rfl, by decide +kernel, by decide +kernel⟩
def hs_L_told : List HdF := [⟨"InvalidName", none, fun ea dd y => (retS (constG (.str "name")))⟩,
  ⟨"InvalidNumber", some 1, fun ea dd y => (retS (op2G addV (constG (.str "number ")) (bltG reprD (consA (exfG ea dd y "InvalidNumber" 1 "value") nilA))))⟩]
def rs_L_told : En → Out := nopS
def tf_L_told : D ⊕ Ex → Option D
  | .inl d => some d
  | .inr y => outD (thenO (hdsOut subC 2 0 (some 0) y hs_L_told) rs_L_told)
theorem ti_L_told : ∀ y d', tf_L_told (.inr y) = some d' → ∀ ea dd, outD (thenO (hdsOut subC 2 ea dd y hs_L_told) rs_L_told) = some d' := by
  intro y d' h ea dd
  rw [← h]
  show _ = outD (thenO (hdsOut subC 2 0 (some 0) y hs_L_told) rs_L_told)
  exact (same_cons (fun _ _ => rfl) (same_cons (same_ret fun ea dd => ⟨_, rfl, (cm_op2 cm_const (cm_blt1 (cm_exf (by decide))))⟩) same_nil)) ea dd
theorem td_L_told {X : L2.Cx} {T : Tb} (gd : X.A.guards = some []) (rm : Room 2 X.A) (bl : Bl X.mg) (ex : Exs X.prog X.K X.mg) : Told X T "_law_told" s_L_told tf_L_told :=
  ⟨N_L_told, "_law_call", sc_L_told, rfl, Or.inl rfl, by decide, by decide, fun _ _ _ _ _ _ us hl => match us, hl with | [_], _ => rfl, fun g cdg q => told_any (n := 2) (hs := hs_L_told) (rst := rs_L_told) true ex.sub rfl (fun _ => rfl) (fun _ => rfl)
    (fun _ _ => (.plain (by rfl) (by decide) ex.v_InvalidName.here (fun ea oe cls dd pn y hx hz hf => (sone (sret estr))) (.named 1 sc_L_told.nd (by rfl) (by rfl) (by rfl) (by decide) ex.s_InvalidNumber.here (fun ea oe cls dd pn y hx hz hf => (sone (sret (eaddV estr (ecallB (call_reprG gd (hu64d rm _ _)) reprD_ok (by rfl) bl.repr (acons (eexf 1 ex.x_InvalidNumber hx hz hf) anil)))))) .nil))) (fun _ _ => snil)
    (fun Y t h => ps_ret h) (fun d d' h => (Option.some.inj h).symm) ti_L_told⟩
/-! ### is_event -/
abbrev s_is_event : Stmt := top 13
abbrev N_is_event : List Str := ["value"]
theorem sc_is_event : FnScope N_is_event ["value"] (defScope s_is_event) := ⟨rfl, rfl, rfl, by decide +kernel, rfl, by decide +kernel, by decide +kernel⟩
def b_is_event : En → Out := (seqS (ifS (orB (notB (truthG (isiG "tuple" (varG 0)))) (orB (boolG (op2G neD (bltG lenD (consA (varG 0) nilA)) (constG (.int 2)))) (notB (truthG (isiG "str" (op2G ixD (varG 0) (constG (.int 0)))))))) (retS (constG (.bl false))) nopS)
    (retS (andG (op2G inD (op2G ixD (varG 0) (constG (.int 0))) (tupG (consA (constG d_SEND) (consA (constG d_READ) nilA)))) (callG f_is_name (consA (op2G ixD (varG 0) (constG (.int 1))) nilA)))))
def f_is_event : En → Res D := defV 1 b_is_event
theorem cl_is_event (bl : Bl mg) (gc : Gc K mg) (ex : Exs P K mg) (F : Fd K mg "is_event" s_is_event) (h_is_name : Cl P w K mg base T 1 "is_name" 1 f_is_name) : Cl P w K mg base T 2 "is_event" 1 f_is_event :=
  clV (k := 1) F sc_is_event rfl (fun _ _ _ _ _ _ us hl => match us, hl with | [_], _ => rfl) fun f cdv A outer s H E c =>
    (scons (sif (PW.pt (tor (tnot (ttruth (eisi (ev 0) (by rfl) bl.isinstance (by rfl) bl.tuple))) (tor (tne c (ecallB call_lenA lenD_ok (by rfl) bl.len (acons (ev 0) anil)) eint) (tor1 (tnot (ttruth (eisi (eix c (ev 0) eint) (by rfl) bl.isinstance (by rfl) bl.str))))))) (sone (sret ebl)) snil)
    (sone (sret (eand (ein c (eix c (ev 0) eint) (etup (acons (egl (by rfl) gc.SEND) (acons (egl (by rfl) gc.READ) anil)))) (eone (ecl c h_is_name (by decide) (by rfl) (acons (eix c (ev 0) eint) anil) (consA_len (fun _ _ _ h => nilA_len h))))))))
/-! ### is_letter -/
abbrev s_is_letter : Stmt := top 14
abbrev N_is_letter : List Str := ["value", "part"]
theorem sc_is_letter : FnScope N_is_letter ["value"] (defScope s_is_letter) := ⟨rfl, rfl, rfl, by decide +kernel, rfl, by decide +kernel, by decide +kernel⟩
def b_is_letter : En → Out := (seqS (ifS (orB (notB (truthG (isiG "tuple" (varG 0)))) (orB (boolG (op2G neD (bltG lenD (consA (varG 0) nilA)) (constG (.int 3)))) (notB (truthG (bltG allD (consA (compG (iterG (varG 0)) (tgN 1) yesT (callG f_is_name (consA (varG 1) nilA)) [1]) nilA)))))) (retS (constG (.bl false))) nopS)
    (retS (op2G neD (op2G ixD (varG 0) (constG (.int 1))) (op2G ixD (varG 0) (constG (.int 2))))))
def f_is_letter : En → Res D := defV 2 b_is_letter
theorem cl_is_letter (bl : Bl mg) (gc : Gc K mg) (ex : Exs P K mg) (F : Fd K mg "is_letter" s_is_letter) (h_is_name : Cl P w K mg base T 1 "is_name" 1 f_is_name) : Cl P w K mg base T 2 "is_letter" 1 f_is_letter :=
  clV (k := 1) F sc_is_letter rfl (fun _ _ _ _ _ _ us hl => match us, hl with | [_], _ => rfl) fun f cdv A outer s H E c =>
    (scons (sif (PW.pt (tor (tnot (ttruth (eisi (ev 0) (by rfl) bl.isinstance (by rfl) bl.tuple))) (tor (tne c (ecallB call_lenA lenD_ok (by rfl) bl.len (acons (ev 0) anil)) eint) (tor1 (tnot (ttruth (ecallB (cr_all c.calm) allD_ok (by rfl) bl.all (acons (nE (nlc c (iseq (ev 0)) (blkOk_by (N := N_is_letter) (sc := defScope s_is_letter) (own := [("part", 1)]) (by decide +kernel)) (by decide) (fun _ _ _ _ _ c1 => (gname 1 c1.nd)) (fun _ _ _ _ _ c1 => tsnil) (fun _ _ _ _ _ c1 => (ecl c1 h_is_name (by decide) (by rfl) (acons (ev 1) anil) (consA_len (fun _ _ _ h => nilA_len h)))))) anil)))))))) (sone (sret ebl)) snil)
    (sone (sret (ene c (eix c (ev 0) eint) (eix c (ev 0) eint)))))
/-! ### _law_is_letter -/
abbrev s_L_is_letter : Stmt := top 28
abbrev N_L_is_letter : List Str := ["_law_value", "_law_one"]
theorem sc_L_is_letter : FnScope N_L_is_letter ["_law_value"] (defScope s_L_is_letter) := ⟨rfl, rfl, rfl, by decide +kernel, rfl, by decide +kernel, by decide +kernel⟩
def b_L_is_letter : En → Out := (seqS (ifS (orB (notB (truthG (isiG "tuple" (varG 0)))) (orB (boolG (op2G neD (bltG lenD (consA (varG 0) nilA)) (constG (.int 3)))) (boolG (op2G neD (compG (iterG (varG 0)) (tgN 1) (notB (truthG (callG f_L_is_name (consA (varG 1) nilA)))) (varG 1) [1]) (lstG nilA))))) (retS (constG (.bl false))) nopS)
    (retS (op2G neD (op2G ixD (varG 0) (constG (.int 1))) (op2G ixD (varG 0) (constG (.int 2))))))
def f_L_is_letter : En → Res D := defV 2 b_L_is_letter
theorem cl_L_is_letter (bl : Bl mg) (gc : Gc K mg) (ex : Exs P K mg) (F : Fd K mg "_law_is_letter" s_L_is_letter) (h_L_is_name : Cl P w K mg base T 1 "_law_is_name" 1 f_L_is_name) : Cl P w K mg base T 2 "_law_is_letter" 1 f_L_is_letter :=
  clV (k := 1) F sc_L_is_letter rfl (fun _ _ _ _ _ _ us hl => match us, hl with | [_], _ => rfl) fun f cdv A outer s H E c =>
    (scons (sif (PW.pt (tor (tnot (ttruth (eisi (ev 0) (by rfl) bl.isinstance (by rfl) bl.tuple))) (tor (tne c (ecallB call_lenA lenD_ok (by rfl) bl.len (acons (ev 0) anil)) eint) (tor1 (tne c (nE (nlc c (iseq (ev 0)) (blkOk_by (N := N_L_is_letter) (sc := defScope s_L_is_letter) (own := [("_law_one", 1)]) (by decide +kernel)) (by decide) (fun _ _ _ _ _ c1 => (gname 1 c1.nd)) (fun _ _ _ _ _ c1 => (tsone (tnot (ttruth (ecl c1 h_L_is_name (by decide) (by rfl) (acons (ev 1) anil) (consA_len (fun _ _ _ h => nilA_len h))))))) (fun _ _ _ _ _ c1 => (ev 1)))) (nE (nlst anil))))))) (sone (sret ebl)) snil)
    (sone (sret (ene c (eix c (ev 0) eint) (eix c (ev 0) eint)))))
/-! ### other_in -/
abbrev s_other_in : Stmt := top 15
abbrev N_other_in : List Str := ["event"]
theorem sc_other_in : FnScope N_other_in ["event"] (defScope s_other_in) := ⟨rfl, rfl, rfl, by decide +kernel, rfl, by decide +kernel, by decide +kernel⟩
def b_other_in : En → Out := (retS (tupG (consA (ifG (boolG (op2G eqD (op2G ixD (varG 0) (constG (.int 0))) (constG d_SEND))) (constG d_READ) (constG d_SEND)) (consA (op2G ixD (varG 0) (constG (.int 1))) nilA))))
def f_other_in : En → Res D := defV 1 b_other_in
theorem cl_other_in (bl : Bl mg) (gc : Gc K mg) (ex : Exs P K mg) (F : Fd K mg "other_in" s_other_in)  : Cl P w K mg base T 1 "other_in" 1 f_other_in :=
  clV (k := 0) F sc_other_in rfl (fun _ _ _ _ _ _ us hl => match us, hl with | [_], _ => rfl) fun f cdv A outer s H E c =>
    (sone (sret (etup (acons (eif (teq c (eix c (ev 0) eint) (egl (by rfl) gc.SEND)) (egl (by rfl) gc.READ) (egl (by rfl) gc.SEND)) (acons (eix c (ev 0) eint) anil)))))
/-! ### other_event -/
abbrev s_other_event : Stmt := top 16
abbrev N_other_event : List Str := ["event"]
theorem sc_other_event : FnScope N_other_event ["event"] (defScope s_other_event) := ⟨rfl, rfl, rfl, by decide +kernel, rfl, by decide +kernel, by decide +kernel⟩
def b_other_event : En → Out := (seqS (ifS (notB (truthG (callG f_is_event (consA (varG 0) nilA)))) (raiseS "InvalidName") nopS)
    (retS (callG f_other_in (consA (varG 0) nilA))))
def f_other_event : En → Res D := defV 1 b_other_event
theorem cl_other_event (bl : Bl mg) (gc : Gc K mg) (ex : Exs P K mg) (F : Fd K mg "other_event" s_other_event) (h_is_event : Cl P w K mg base T 2 "is_event" 1 f_is_event) (h_other_in : Cl P w K mg base T 1 "other_in" 1 f_other_in) : Cl P w K mg base T 3 "other_event" 1 f_other_event :=
  clV (k := 2) F sc_other_event rfl (fun _ _ _ _ _ _ us hl => match us, hl with | [_], _ => rfl) fun f cdv A outer s H E c =>
    (scons (sif (tnot (ttruth (ecl c h_is_event (by decide) (by rfl) (acons (ev 0) anil) (consA_len (fun _ _ _ h => nilA_len h))))) (sone (sraise c ex.v_InvalidName (by rfl))) snil)
    (sone (sret (ecl c h_other_in (by decide) (by rfl) (acons (ev 0) anil) (consA_len (fun _ _ _ h => nilA_len h))))))
/-! ### _law_right -/
abbrev s_L_right : Stmt := top 33
abbrev N_L_right : List Str := ["_law_dice_here", "_law_value", "_law_told_here", "_law_due", "_law_barred", "_law_more", "_law_total", "_law_some", "_law_odd", "_law_bad", "_law_turn"]
theorem sc_L_right : FnScope N_L_right ["_law_dice_here"] (defScope s_L_right) := ⟨rfl, rfl, rfl, by decide +kernel, rfl, by decide +kernel, by decide +kernel⟩
def b_L_right : En → Out := (seqS (forS (iterG (callG f_L_values (slotA 0 nilA))) (tgN 1) (seqS (ownS 2 (lstG (consA (callG f_is_name (consA (varG 1) nilA)) (consA (callG f_is_event (consA (varG 1) nilA)) (consA (callG f_is_letter (consA (varG 1) nilA)) nilA)))))
    (seqS (frzS 2 (ifS (boolG (op2G neD (bltG reprD (consA (varG 2) nilA)) (bltG reprD (consA (lstG (consA (callG f_L_is_name (consA (varG 1) nilA)) (consA (callG f_L_is_event (consA (varG 1) nilA)) (consA (callG f_L_is_letter (consA (varG 1) nilA)) nilA)))) nilA)))) (retS (constG (.bl false))) nopS))
    (seqS (setS 3 (constG (.str "name")))
    (seqS (ifS (truthG (callG f_L_is_event (consA (varG 1) nilA))) (setS 3 (tupG (consA (op2G ixD (dispG [((constG (.str "send")), (constG (.str "read"))), ((constG (.str "read")), (constG (.str "send")))]) (op2G ixD (varG 1) (constG (.int 0)))) (consA (op2G ixD (varG 1) (constG (.int 1))) nilA)))) nopS)
    (ifS (boolG (op2G neD (toldG tf_L_told (callG f_other_event (consA (varG 1) nilA))) (varG 3))) (retS (constG (.bl false))) nopS))))))
    (seqS (setS 4 (compG (rangeG rng1 (consA (callG f_L_pull (slotA 0 (consA (constG (.int 9)) nilA))) nilA)) (tgN 10) yesT (callG f_L_pick (slotA 0 (consA (constG (.str "abcdefghijklmnopqrstuvwxyz")) nilA))) [10]))
    (seqS (setS 5 (compG (rangeG rng1 (consA (callG f_L_pull (slotA 0 (consA (constG (.int 3)) nilA))) nilA)) (tgN 10) yesT (callG f_L_pick (slotA 0 (consA (lstG (consA (constG (.str "aa")) (consA (constG (.str "ab")) (consA (constG (.str "az")) (consA (constG (.str "zz")) (consA (constG (.str "ba")) (consA (constG (.str "aaa")) nilA))))))) nilA))) [10]))
    (seqS (parS [6, 7] (valK (callG f_L_pick (slotA 0 (consA (lstG (consA (constG (.int 0)) (consA (constG (.int 1)) (consA (constG (.int 5)) (consA (constG (.int 26)) (consA (constG (.int 40)) (consA (constG (.int 500)) (consA (callG f_L_pull (slotA 0 (consA (constG (.int 90)) nilA))) nilA)))))))) nilA))) (valK (bltG toTup (consA (op2G addV (varG 4) (varG 5)) nilA)) nilK)))
    (seqS (ifS (boolG (op2G neD (callG f_new_names (catA [] (consA (varG 6) nilA) (consA (varG 7) nilA))) (callG f_L_first_names (consA (varG 6) (consA (varG 7) nilA))))) (retS (constG (.bl false))) nopS)
    (seqS (setS 8 (callG f_L_pick (slotA 0 (consA (lstG (consA (op1G negD (constG (.int 1))) (consA (constG (.int 501)) (consA (constG .non) (consA (constG (.bl true)) (consA (constG (.str "3")) (consA (op2G (intD powI) (constG (.int 10)) (constG (.int 39))) (consA (tupG nilA) nilA)))))))) nilA))))
    (seqS (setS 9 (callG f_L_pick (slotA 0 (consA (lstG (consA (constG .non) (consA (constG (.str "a")) (consA (lstG (consA (constG (.str "a")) nilA)) (consA (tupG (consA (constG (.str "A")) nilA)) (consA (tupG (consA (constG (.str "a")) (consA (constG .non) nilA))) (consA (tupG (consA (constG (.str "a")) (consA (constG (.str "")) nilA))) (consA (constG (.dct [])) (consA (constG (.int 0)) (consA (tupG (consA (constG (.str "a")) (consA (lstG nilA) nilA))) (consA (tupG (consA (constG (.dct [])) (consA (constG (.str "a")) nilA))) nilA))))))))))) nilA))))
    (seqS (ownS 2 (lstG (consA (toldG tf_L_told (callG f_new_names (catA (kw_new_names.map (·.2)) (consA (varG 8) nilA) nilA))) nilA)))
    (seqS (exprS (lmutG 2 appD (consA (toldG tf_L_told (callG f_new_names (catA [] (consA (varG 8) nilA) (consA (varG 9) nilA)))) nilA)))
    (seqS (exprS (lmutG 2 appD (consA (toldG tf_L_told (callG f_new_names (catA [] (consA (constG (.int 3)) nilA) (consA (varG 9) nilA)))) nilA)))
    (frzS 2 (retS (op2G eqD (varG 2) (op2G addV (op2G mulV (lstG (consA (op2G addV (constG (.str "number ")) (bltG reprD (consA (varG 8) nilA))) nilA)) (constG (.int 2))) (lstG (consA (constG (.str "name")) nilA))))))))))))))))
def f_L_right : En → Res D := defV 11 b_L_right
theorem cl_L_right {c0 : Addr} (bl : Bl mg) (gc : Gc K mg) (ex : Exs P K mg) (F : Fc K mg "_law_right" s_L_right c0) (LF : LamF base mg T ("_law_right" ++ ".<locals>.") c0) (h_L_first_names : Cl P w K mg base T 2 "_law_first_names" 2 f_L_first_names) (h_L_is_event : Cl P w K mg base T 2 "_law_is_event" 1 f_L_is_event) (h_L_is_letter : Cl P w K mg base T 2 "_law_is_letter" 1 f_L_is_letter) (h_L_is_name : Cl P w K mg base T 1 "_law_is_name" 1 f_L_is_name) (h_L_pick : Cl P w K mg base T 2 "_law_pick" 2 f_L_pick) (h_L_pull : Cl P w K mg base T 1 "_law_pull" 2 f_L_pull) (h_L_values : Cl P w K mg base T 4 "_law_values" 1 f_L_values) (h_is_event : Cl P w K mg base T 2 "is_event" 1 f_is_event) (h_is_letter : Cl P w K mg base T 2 "is_letter" 1 f_is_letter) (h_is_name : Cl P w K mg base T 1 "is_name" 1 f_is_name) (h_new_names : ClD P w K mg base T 3 "new_names" s_new_names ["many", "without"] kw_new_names f_new_names) (h_other_event : Cl P w K mg base T 3 "other_event" 1 f_other_event) (h_L_told : Fd K mg "_law_told" s_L_told) : Cl P w K mg base T 6 "_law_right" 1 f_L_right :=
  clVc (k := 5) F sc_L_right rfl (fun _ _ _ _ _ _ us hl => match us, hl with | [_], _ => rfl) fun f A outer s H E c =>
    (scons (sfor c (iseq (ecl c h_L_values (by decide) (by rfl) (aslot 0 anil) (slotA_len (fun _ _ _ h => nilA_len h)))) (gname 1 c.nd) (scons (sown 2 (nlst (acons (ecl c h_is_name (by decide) (by rfl) (acons (ev 1) anil) (consA_len (fun _ _ _ h => nilA_len h))) (acons (ecl c h_is_event (by decide) (by rfl) (acons (ev 1) anil) (consA_len (fun _ _ _ h => nilA_len h))) (acons (ecl c h_is_letter (by decide) (by rfl) (acons (ev 1) anil) (consA_len (fun _ _ _ h => nilA_len h))) anil)))) c.nd)
    (scons (sfrz1 2 (sif (tne c (ecallB (call_reprG c.gd (hu64 c.room)) reprD_ok (by rfl) bl.repr (acons (ev 2) anil)) (ecallB (call_reprG c.gd (hu64 c.room)) reprD_ok (by rfl) bl.repr (acons (nE (nlst (acons (ecl c h_L_is_name (by decide) (by rfl) (acons (ev 1) anil) (consA_len (fun _ _ _ h => nilA_len h))) (acons (ecl c h_L_is_event (by decide) (by rfl) (acons (ev 1) anil) (consA_len (fun _ _ _ h => nilA_len h))) (acons (ecl c h_L_is_letter (by decide) (by rfl) (acons (ev 1) anil) (consA_len (fun _ _ _ h => nilA_len h))) anil))))) anil))) (sone (sret ebl)) snil))
    (scons (sset 3 estr c.nd)
    (scons (sif (ttruth (ecl c h_L_is_event (by decide) (by rfl) (acons (ev 1) anil) (consA_len (fun _ _ _ h => nilA_len h)))) (sone (sset 3 (etup (acons (eix c (nE (ndisp (.cons estr estr (.cons estr estr .nil)))) (eix c (ev 1) eint)) (acons (eix c (ev 1) eint) anil))) c.nd)) snil)
    (sone (sif (tne c (elam (j := 3) c (td_L_told c.gd (c.room.mono (by decide)) bl ex) h_L_told LF (by decide) (fun _ _ _ _ _ _ _ c1 => (ecl c1 h_other_event (by decide) (by rfl) (acons (ev 1) anil) (consA_len (fun _ _ _ h => nilA_len h)))) (show LamX.lamSB (defScope s_L_right) _ = true by decide +kernel)) (ev 3)) (sone (sret ebl)) snil)))))))
    (scons (sownV (sownLc 4 c (sw_true rfl rfl rfl (by decide +kernel)) (irange1 (by rfl) bl.range (acons (ecl c h_L_pull (by decide) (by rfl) (aslot 0 (acons eint anil)) (slotA_len (consA_len (fun _ _ _ h => nilA_len h)))) anil)) (blkOk_by (N := N_L_right) (sc := defScope s_L_right) (own := [("_law_turn", 10)]) (by decide +kernel)) (by decide) (fun _ _ _ _ _ c1 => (gname 10 c1.nd)) (fun _ _ _ _ _ c1 => tsnil) (fun _ _ _ _ _ c1 => (ecl c1 h_L_pick (by decide) (by rfl) (aslot 0 (acons estr anil)) (slotA_len (consA_len (fun _ _ _ h => nilA_len h)))))))
    (scons (sownV (sownLc 5 c (sw_true rfl rfl rfl (by decide +kernel)) (irange1 (by rfl) bl.range (acons (ecl c h_L_pull (by decide) (by rfl) (aslot 0 (acons eint anil)) (slotA_len (consA_len (fun _ _ _ h => nilA_len h)))) anil)) (blkOk_by (N := N_L_right) (sc := defScope s_L_right) (own := [("_law_turn", 10)]) (by decide +kernel)) (by decide) (fun _ _ _ _ _ c1 => (gname 10 c1.nd)) (fun _ _ _ _ _ c1 => tsnil) (fun _ _ _ _ _ c1 => (ecl c1 h_L_pick (by decide) (by rfl) (aslot 0 (acons (nE (nlst (acons estr (acons estr (acons estr (acons estr (acons estr (acons estr anil)))))))) anil)) (slotA_len (consA_len (fun _ _ _ h => nilA_len h)))))))
    (scons (spar 6 7 c (kval (ecl c h_L_pick (by decide) (by rfl) (aslot 0 (acons (nE (nlst (acons eint (acons eint (acons eint (acons eint (acons eint (acons eint (acons (ecl c h_L_pull (by decide) (by rfl) (aslot 0 (acons eint anil)) (slotA_len (consA_len (fun _ _ _ h => nilA_len h)))) anil))))))))) anil)) (slotA_len (consA_len (fun _ _ _ h => nilA_len h)))) (kval (ecallTy call_tuple_of toTup_ok (by rfl) bl.tuple (acons (eaddV (ev 4) (ev 5)) anil)) knil)))
    (scons (sif (tne c (eclDA (n := 1) (ks := ["without"]) c h_new_names (by decide) (by rfl) (acons (ev 6) anil) (kwcons (ev 7) kwnil) (consA_len (fun _ _ _ h => nilA_len h)) (consA_len (fun _ _ _ h => nilA_len h)) (by intro z; cases z) (by rfl) (fun _ _ _ _ _ _ us ws h1 h2 => match us, ws, h1, h2 with | [_], [_], _, _ => rfl)) (ecl c h_L_first_names (by decide) (by rfl) (acons (ev 6) (acons (ev 7) anil)) (consA_len (consA_len (fun _ _ _ h => nilA_len h))))) (sone (sret ebl)) snil)
    (scons (sset 8 (ecl c h_L_pick (by decide) (by rfl) (aslot 0 (acons (nE (nlst (acons (eneg eint) (acons eint (acons enon (acons ebl (acons estr (acons (epow eint eint) (acons (etup anil) anil))))))))) anil)) (slotA_len (consA_len (fun _ _ _ h => nilA_len h)))) c.nd)
    (scons (sset 9 (ecl c h_L_pick (by decide) (by rfl) (aslot 0 (acons (nE (nlst (acons enon (acons estr (acons (nE (nlst (acons estr anil))) (acons (etup (acons estr anil)) (acons (etup (acons estr (acons enon anil))) (acons (etup (acons estr (acons estr anil))) (acons (nE ndict0) (acons eint (acons (etup (acons estr (acons (nE (nlst anil)) anil))) (acons (etup (acons (nE ndict0) (acons estr anil))) anil)))))))))))) anil)) (slotA_len (consA_len (fun _ _ _ h => nilA_len h)))) c.nd)
    (scons (sown 2 (nlst (acons (elam (j := 3) c (td_L_told c.gd (c.room.mono (by decide)) bl ex) h_L_told LF (by decide) (fun _ _ _ _ _ _ _ c1 => (eclD0 (n := 1) c1 h_new_names (by decide) (by rfl) (acons (ev 8) anil) (consA_len (fun _ _ _ h => nilA_len h)) (by intro z; cases z) (by rfl) (fun _ _ _ _ _ _ us mv h1 h2 => match us, mv, h1, h2 with | [_], [_], _, _ => ⟨_, _, _, _, _, _, rfl, rfl, rfl⟩))) (show LamX.lamSB (defScope s_L_right) _ = true by decide +kernel)) anil)) c.nd)
    (scons (sexpr (elmut 2 PySem.F.slot_list_append PySem.F.type_list_append mt_append appD_ok (acons (elam (j := 3) c (td_L_told c.gd (c.room.mono (by decide)) bl ex) h_L_told LF (by decide) (fun _ _ _ _ _ _ _ c1 => (eclDA (n := 1) (ks := ["without"]) c1 h_new_names (by decide) (by rfl) (acons (ev 8) anil) (kwcons (ev 9) kwnil) (consA_len (fun _ _ _ h => nilA_len h)) (consA_len (fun _ _ _ h => nilA_len h)) (by intro z; cases z) (by rfl) (fun _ _ _ _ _ _ us ws h1 h2 => match us, ws, h1, h2 with | [_], [_], _, _ => rfl))) (show LamX.lamSB (defScope s_L_right) _ = true by decide +kernel)) anil)))
    (scons (sexpr (elmut 2 PySem.F.slot_list_append PySem.F.type_list_append mt_append appD_ok (acons (elam (j := 3) c (td_L_told c.gd (c.room.mono (by decide)) bl ex) h_L_told LF (by decide) (fun _ _ _ _ _ _ _ c1 => (eclDA (n := 1) (ks := ["without"]) c1 h_new_names (by decide) (by rfl) (acons eint anil) (kwcons (ev 9) kwnil) (consA_len (fun _ _ _ h => nilA_len h)) (consA_len (fun _ _ _ h => nilA_len h)) (by intro z; cases z) (by rfl) (fun _ _ _ _ _ _ us ws h1 h2 => match us, ws, h1, h2 with | [_], [_], _, _ => rfl))) (show LamX.lamSB (defScope s_L_right) _ = true by decide +kernel)) anil)))
    (sone (sfrz1 2 (sret (eeq c (ev 2) (eaddV (emulV (nE (nlst (acons (eaddV estr (ecallB (call_reprG c.gd (hu64 c.room)) reprD_ok (by rfl) bl.repr (acons (ev 8) anil))) anil))) eint) (nE (nlst (acons estr anil))))))))))))))))))
/-! ### law -/
abbrev s_law : Stmt := top 34
abbrev N_law : List Str := ["_law_script", "_law_at", "_law_dice_here", "_law_turn"]
theorem sc_law : FnScope N_law ["_law_script"] (defScope s_law) := ⟨rfl, rfl, rfl, by decide +kernel, rfl, by decide +kernel, by decide +kernel⟩
def b_law : En → Out := (seqS (forS (rangeG rng1 (consA (bltG (int2 maxI) (consA (constG (.int 1)) (consA (bltG (int2 minI) (consA (constG (.int 8)) (consA (bltG lenD (consA (varG 0) nilA)) nilA))) nilA))) nilA)) (tgN 1) (seqS (ownS 2 (callG f_L_dice (consA (varG 0) (consA (varG 1) nilA))))
    (forS (rangeG rng1 (consA (constG (.int 2)) nilA)) (tgN 3) (ifS (notB (truthG (callG f_L_right (slotA 2 nilA)))) (retS (constG (.bl false))) nopS))))
    (seqS (ifS (orB (boolG (op2G neD (callG f_new_names (catA (kw_new_names.map (·.2)) (consA (constG (.int 0)) nilA) nilA)) (tupG nilA))) (boolG (op2G neD (callG f_new_names (catA [] (consA (constG (.int 2)) nilA) (consA (tupG (consA (constG (.str "a")) (consA (constG (.str "c")) nilA))) nilA))) (tupG (consA (constG (.str "b")) (consA (constG (.str "d")) nilA)))))) (retS (constG (.bl false))) nopS)
    (retS (op2G eqD (sliceG slV (callG f_new_names (catA (kw_new_names.map (·.2)) (consA (constG (.int 28)) nilA) nilA)) (someP (constG (.int 25))) noP) (tupG (consA (constG (.str "z")) (consA (constG (.str "aa")) (consA (constG (.str "ab")) nilA))))))))
def f_law : En → Res D := defV 4 b_law
theorem ok_law {fa : Addr} {fd : FuncData} (bl : Bl mg) (gc : Gc K mg) (ex : Exs P K mg) (F : L2.Fun K "law" "law" s_law fa fd) (h_L_dice : ClO P w K mg base T 1 "_law_dice" 2 f_L_dice) (h_L_right : Cl P w K mg base T 6 "_law_right" 1 f_L_right) (h_new_names : ClD P w K mg base T 3 "new_names" s_new_names ["many", "without"] kw_new_names f_new_names) : FnG P w K mg base (L2.CX P w) 7 fa fd ["_law_script"] (spV K mg T 1 f_law) :=
  okV (k := 6) F sc_law rfl fun cdv A outer s H E c =>
    (scons (sfor c (irange1 (by rfl) bl.range (acons (ecallB (call_max2 c.calm) (int2_ok (f := maxI)) (by rfl) bl.max (acons eint (acons (ecallB (call_min2 c.calm) (int2_ok (f := minI)) (by rfl) bl.min (acons eint (acons (ecallB call_lenA lenD_ok (by rfl) bl.len (acons (ev 0) anil)) anil))) anil))) anil)) (gname 1 c.nd) (scons (sown 2 (nclO c h_L_dice (by decide) (by rfl) (acons (ev 0) (acons (ev 1) anil)) (consA_len (consA_len (fun _ _ _ h => nilA_len h)))) c.nd)
    (sone (sfor c (irange1 (by rfl) bl.range (acons eint anil)) (gname 3 c.nd) (sone (sif (tnot (ttruth (ecl c h_L_right (by decide) (by rfl) (aslot 2 anil) (slotA_len (fun _ _ _ h => nilA_len h))))) (sone (sret ebl)) snil))))))
    (scons (sif (PW.pt (tor (tne c (eclD0 (n := 1) c h_new_names (by decide) (by rfl) (acons eint anil) (consA_len (fun _ _ _ h => nilA_len h)) (by intro z; cases z) (by rfl) (fun _ _ _ _ _ _ us mv h1 h2 => match us, mv, h1, h2 with | [_], [_], _, _ => ⟨_, _, _, _, _, _, rfl, rfl, rfl⟩)) (etup anil)) (tor1 (tne c (eclDA (n := 1) (ks := ["without"]) c h_new_names (by decide) (by rfl) (acons eint anil) (kwcons (etup (acons estr (acons estr anil))) kwnil) (consA_len (fun _ _ _ h => nilA_len h)) (consA_len (fun _ _ _ h => nilA_len h)) (by intro z; cases z) (by rfl) (fun _ _ _ _ _ _ us ws h1 h2 => match us, ws, h1, h2 with | [_], [_], _, _ => rfl)) (etup (acons estr (acons estr anil))))))) (sone (sret ebl)) snil)
    (sone (sret (eeq c (esliceL (eclD0 (n := 1) c h_new_names (by decide) (by rfl) (acons eint anil) (consA_len (fun _ _ _ h => nilA_len h)) (by intro z; cases z) (by rfl) (fun _ _ _ _ _ _ us mv h1 h2 => match us, mv, h1, h2 with | [_], [_], _, _ => ⟨_, _, _, _, _, _, rfl, rfl, rfl⟩)) (psome eint) pnone) (etup (acons estr (acons estr (acons estr anil)))))))))
end
end LR

set_option linter.all false
set_option maxRecDepth 100000
set_option maxHeartbeats 4000000
set_option autoImplicit false
namespace LR
open PySem L2 L2.PV
/-! ### the dice -/
abbrev dz (a b c : Int) : D := .lst [.int a, .int b, .int c]
theorem at0 {x y z : D} : atI [x, y, z] 0 = some x := rfl
theorem at1 {x y z : D} : atI [x, y, z] 1 = some y := rfl
theorem at2 {x y z : D} : atI [x, y, z] 2 = some z := rfl
theorem modI_pos {i j : Int} (h : 0 < j) : modI i j = some (i % j) := if_pos h
theorem fdivI_pos {i j : Int} (h : 0 < j) (h' : j < 1073741824) : fdivI i j = some (i / j) := if_pos ⟨h, h'⟩
theorem mulI_l {i j : Int} (h : -(2 ^ 64) < i) (h' : i < 2 ^ 64) : mulI i j = some (i * j) := if_pos (.inl ⟨h, h'⟩)
theorem mulI_r {i j : Int} (h : -(2 ^ 64) < j) (h' : j < 2 ^ 64) : mulI i j = some (i * j) := if_pos (.inr ⟨h, h'⟩)
theorem pull_ok (a b c t : Int) (h0 : 0 < t) (h1 : t < 1073741824) : ∃ r a' c', 0 ≤ r ∧ r < t ∧ f_L_pull [.io (dz a b c), .val (.int t)] = .ok (.int r) [.io (dz a' b c'), .val (.int t)] := by
  by_cases ha : 0 < a
  · refine ⟨a % t, a / t, c, Int.emod_nonneg _ (by omega), Int.emod_lt_of_pos _ h0, ?_⟩
    simp [defV, defO, seqS, noR, ifS, boolG, truthG, notB, op2G, slotIxG, constG, varG, setS, ownS, retS, retSlot, nopS, bltG, consA, slotA, nilA, Res.bind, Res.thn, lift, Sl.cont, Sl.hot, ixD, at0, at1, at2, cmpD, toInt, valsOf, intD, modI_pos, fdivI_pos, setIxS, setIxD, Sl.put, outArgs, putV, putO, nxO, Sl.isIo, addV, addD, mulV, callG, slotsOf, mkArgs, wb, sizeLine_eq, f_L_pull, b_L_pull, ha, h0, h1]
  · have e1 : ∀ x : Int, mulI 1000159 x = some (1000159 * x) := fun x => mulI_l (by decide) (by decide)
    have e2 : ∀ x : Int, mulI 7121 x = some (7121 * x) := fun x => mulI_l (by decide) (by decide)
    let one := (b + 1000159 * (c + 1)) % 2305843009213693951
    have o0 : 0 ≤ one := Int.emod_nonneg _ (by decide)
    have o1 : one < 2305843009213693951 := Int.emod_lt_of_pos _ (by decide)
    have e3 : ∀ x : Int, mulI x one = some (x * one) := fun x => mulI_r (by omega) (by omega)
    refine ⟨((one * one % 2305843009213693907 * one + 7121 * (c + 1)) % 2305843009213693921 / 8192) % t, a, c + 1, Int.emod_nonneg _ (by omega), Int.emod_lt_of_pos _ h0, ?_⟩
    simp [defV, defO, seqS, noR, ifS, boolG, truthG, notB, op2G, slotIxG, constG, varG, setS, ownS, retS, retSlot, nopS, bltG, consA, slotA, nilA, Res.bind, Res.thn, lift, Sl.cont, Sl.hot, ixD, at0, at1, at2, cmpD, toInt, valsOf, intD, modI_pos, fdivI_pos, setIxS, setIxD, Sl.put, outArgs, putV, putO, nxO, Sl.isIo, addV, addD, mulV, callG, slotsOf, mkArgs, wb, sizeLine_eq, f_L_pull, b_L_pull, ha, h0, h1, e1, e2]
    rw [show (b + 1000159 * (c + 1)) % 2305843009213693951 = one from rfl]
    simp [defV, defO, seqS, noR, ifS, boolG, truthG, notB, op2G, slotIxG, constG, varG, setS, ownS, retS, retSlot, nopS, bltG, consA, slotA, nilA, Res.bind, Res.thn, lift, Sl.cont, Sl.hot, ixD, at0, at1, at2, cmpD, toInt, valsOf, intD, modI_pos, fdivI_pos, setIxS, setIxD, Sl.put, outArgs, putV, putO, nxO, Sl.isIo, addV, addD, mulV, callG, slotsOf, mkArgs, wb, sizeLine_eq, e3, e2, h0]
def T60 : Int := 10 ^ 60
def T720 : Int := T60 ^ 12
def T18 : Int := 10 ^ 18
theorem pow60 : powI 10 60 = some T60 := by decide +kernel
theorem pow720 : powI T60 12 = some T720 := by decide +kernel
theorem pow18 : powI 10 18 = some T18 := by decide +kernel
theorem T720_pos : 0 < T720 := by decide +kernel
theorem exT : ∃ t60 t720 t18, powI 10 60 = some t60 ∧ powI t60 12 = some t720 ∧ 0 < t720 ∧ powI 10 18 = some t18 := ⟨T60, T720, T18, pow60, pow720, T720_pos, pow18⟩
theorem seq_nx {g h : En → Out} {e e1 : En} (h1 : g e = .nx e1) : seqS g h e = h e1 := by unfold seqS; rw [h1]
theorem defO_ret {N : Nat} {b : En → Out} {as e : En} {d : D} (h : b (as ++ List.replicate (N - as.length) .un) = .ret d e) : defO N b as = .ok d (outArgs as e) := by unfold defO; rw [h]
theorem defV_ret {N : Nat} {b : En → Out} {as e : En} {d : D} (h : b (as ++ List.replicate (N - as.length) .un) = .ret d e) : defV N b as = .ok d (outArgs as e) := by unfold defV; rw [h]
theorem atI_nat {α : Type} {xs : List α} {n : Nat} {x : α} (h : xs[n]? = some x) : atI xs (n : Int) = some x := by
  have hn : n < xs.length := (List.getElem?_eq_some_iff.mp h).1
  unfold atI ixN
  rw [if_pos (by omega), if_pos (by omega)]
  simpa using h
def absI (i : Int) : Int := if i < 0 then -i else i
def mixI (g cell : Int) (n : Nat) : Int := g % 2147483543 * 46021 + 1021 * n + 11 * (if cell < 0 then 1 else 0) + 43
theorem dice_ok (ns : List Int) (n : Nat) : ∃ a b, f_L_dice [.val (.lst (ns.map .int)), .val (.int n)] = .ok (dz a b 0) [.val (.lst (ns.map .int)), .val (.int n)] := by
  have m1 : ∀ x : Int, mulI 19 x = some (19 * x) := fun x => mulI_l (by decide) (by decide)
  have m2 : ∀ x : Int, mulI 1021 x = some (1021 * x) := fun x => mulI_l (by decide) (by decide)
  have m3 : ∀ x : Int, mulI 11 x = some (11 * x) := fun x => mulI_l (by decide) (by decide)
  have m4 : ∀ x : Int, mulI x 46021 = some (x * 46021) := fun x => mulI_r (by decide) (by decide)
  obtain ⟨t60, t720, t18, h60, h720, hp, h18⟩ := exT
  have e10 : ∀ x : Int, modI x t720 = some (x % t720) := fun x => modI_pos hp
  have fin : ∀ cell : Int, ∃ a b e', (seqS (noR (ifS (boolG (op2G (cmpD fun i j => decide (i < j)) (varG 1) (bltG lenD (consA (varG 0) nilA)))) (setS 2 (op2G ixD (varG 0) (varG 1))) nopS)) fun e => .nx e) [.val (.lst (ns.map .int)), .val (.int n), .val (.int (19 * n + 6)), .un, .un] = .nx [.val (.lst (ns.map .int)), .val (.int n), .val (.int cell), .un, .un] →
      b_L_dice [.val (.lst (ns.map .int)), .val (.int n), .un, .un, .un] = .ret (dz a b 0) e' ∧ outArgs [.val (.lst (ns.map .int)), .val (.int n)] e' = [.val (.lst (ns.map .int)), .val (.int n)] := fun cell => by
    refine ⟨maxI 0 (absI cell % t720 - t18), mixI (absI cell % t720) cell n % 2147483489, [.val (.lst (ns.map .int)), .val (.int n), .val (.int cell), .val (.int (absI cell % t720)), .val (.int (mixI (absI cell % t720) cell n))], fun hc => ⟨?_, rfl⟩⟩
    unfold b_L_dice
    rw [seq_nx (e1 := [.val (.lst (ns.map .int)), .val (.int n), .val (.int (19 * n + 6)), .un, .un]) (by simp [defV, defO, seqS, noR, ifS, boolG, truthG, notB, op2G, slotIxG, constG, varG, setS, ownS, retS, retSlot, nopS, bltG, consA, slotA, nilA, Res.bind, Res.thn, lift, Sl.cont, Sl.hot, ixD, at0, at1, at2, cmpD, toInt, valsOf, intD, modI_pos, fdivI_pos, setIxS, setIxD, Sl.put, outArgs, putV, putO, nxO, Sl.isIo, addV, addD, mulV, callG, slotsOf, mkArgs, wb, sizeLine_eq, m1])]
    rw [seq_nx (e1 := [.val (.lst (ns.map .int)), .val (.int n), .val (.int cell), .un, .un])]
    · rw [seq_nx (e1 := [.val (.lst (ns.map .int)), .val (.int n), .val (.int cell), .val (.int (absI cell % t720)), .un]) (by simp [defV, defO, seqS, noR, ifS, boolG, truthG, notB, op2G, slotIxG, constG, varG, setS, ownS, retS, retSlot, nopS, bltG, consA, slotA, nilA, Res.bind, Res.thn, lift, Sl.cont, Sl.hot, ixD, at0, at1, at2, cmpD, toInt, valsOf, intD, modI_pos, fdivI_pos, setIxS, setIxD, Sl.put, outArgs, putV, putO, nxO, Sl.isIo, addV, addD, mulV, callG, slotsOf, mkArgs, wb, sizeLine_eq, h60, h720, e10, absD, absI])]
      rw [seq_nx (e1 := [.val (.lst (ns.map .int)), .val (.int n), .val (.int cell), .val (.int (absI cell % t720)), .val (.int (mixI (absI cell % t720) cell n))]) (by simp [defV, defO, seqS, noR, ifS, boolG, truthG, notB, op2G, slotIxG, constG, varG, setS, ownS, retS, retSlot, nopS, bltG, consA, slotA, nilA, Res.bind, Res.thn, lift, Sl.cont, Sl.hot, ixD, at0, at1, at2, cmpD, toInt, valsOf, intD, modI_pos, fdivI_pos, setIxS, setIxD, Sl.put, outArgs, putV, putO, nxO, Sl.isIo, addV, addD, mulV, callG, slotsOf, mkArgs, wb, sizeLine_eq, m1, m2, m3, m4, mixI])]
      simp [defV, defO, seqS, noR, ifS, boolG, truthG, notB, op2G, slotIxG, constG, varG, setS, ownS, retS, retSlot, nopS, bltG, consA, slotA, nilA, Res.bind, Res.thn, lift, Sl.cont, Sl.hot, ixD, at0, at1, at2, cmpD, toInt, valsOf, intD, modI_pos, fdivI_pos, setIxS, setIxD, Sl.put, outArgs, putV, putO, nxO, Sl.isIo, addV, addD, mulV, callG, slotsOf, mkArgs, wb, sizeLine_eq, h18, lstG, int2, subI]
    · unfold seqS at hc
      split at hc
      · rename_i e1 he; cases hc; exact he
      · rename_i r hr; exact (hr _ hc).elim
  by_cases h : n < ns.length
  · have hx : (ns.map D.int)[n]? = some (.int ns[n]) := by rw [List.getElem?_map, List.getElem?_eq_getElem h]; rfl
    have hi := atI_nat hx
    obtain ⟨a, b, e', hf⟩ := fin ns[n]
    obtain ⟨h1, h2⟩ := hf (by simp [defV, defO, seqS, noR, ifS, boolG, truthG, notB, op2G, slotIxG, constG, varG, setS, ownS, retS, retSlot, nopS, bltG, consA, slotA, nilA, Res.bind, Res.thn, lift, Sl.cont, Sl.hot, ixD, at0, at1, at2, cmpD, toInt, valsOf, intD, modI_pos, fdivI_pos, setIxS, setIxD, Sl.put, outArgs, putV, putO, nxO, Sl.isIo, addV, addD, mulV, callG, slotsOf, mkArgs, wb, sizeLine_eq, lenD, h, hi])
    exact ⟨a, b, (defO_ret (as := [.val (.lst (ns.map .int)), .val (.int n)]) h1).trans (by rw [h2])⟩
  · obtain ⟨a, b, e', hf⟩ := fin (19 * n + 6)
    obtain ⟨h1, h2⟩ := hf (by simp [defV, defO, seqS, noR, ifS, boolG, truthG, notB, op2G, slotIxG, constG, varG, setS, ownS, retS, retSlot, nopS, bltG, consA, slotA, nilA, Res.bind, Res.thn, lift, Sl.cont, Sl.hot, ixD, at0, at1, at2, cmpD, toInt, valsOf, intD, modI_pos, fdivI_pos, setIxS, setIxD, Sl.put, outArgs, putV, putO, nxO, Sl.isIo, addV, addD, mulV, callG, slotsOf, mkArgs, wb, sizeLine_eq, lenD, h])
    exact ⟨a, b, (defO_ret (as := [.val (.lst (ns.map .int)), .val (.int n)]) h1).trans (by rw [h2])⟩
theorem pick_lst (a b c : Int) (xs : List D) (h0 : 0 < xs.length) (h1 : xs.length < 1073741824) : ∃ x a' c', x ∈ xs ∧ f_L_pick [.io (dz a b c), .val (.lst xs)] = .ok x [.io (dz a' b c'), .val (.lst xs)] := by
  obtain ⟨r, a', c', r0, r1, hp⟩ := pull_ok a b c xs.length (by omega) (by omega)
  obtain ⟨k, rfl⟩ := Int.eq_ofNat_of_zero_le r0
  have hk : k < xs.length := by omega
  refine ⟨xs[k], a', c', List.getElem_mem hk, ?_⟩
  have hx := atI_nat (List.getElem?_eq_getElem hk)
  have h2 : b_L_pick [.io (dz a b c), .val (.lst xs)] = .ret xs[k] [.io (dz a' b c'), .val (.lst xs)] := by
    simp [defV, defO, seqS, noR, ifS, boolG, truthG, notB, op2G, slotIxG, constG, varG, setS, ownS, retS, retSlot, nopS, bltG, consA, slotA, nilA, Res.bind, Res.thn, lift, Sl.cont, Sl.hot, ixD, at0, at1, at2, cmpD, toInt, valsOf, intD, modI_pos, fdivI_pos, setIxS, setIxD, Sl.put, outArgs, putV, putO, nxO, Sl.isIo, addV, addD, mulV, callG, slotsOf, mkArgs, wb, sizeLine_eq, b_L_pick, lenD, hp, hx]
  exact (defV_ret (N := 2) (as := [.io (dz a b c), .val (.lst xs)]) h2)
theorem pick_str (a b c : Int) (z : Str) (h0 : 0 < z.length) (h1 : z.length ≤ 1000) : ∃ k a' c', k ∈ z.cps.toList ∧ f_L_pick [.io (dz a b c), .val (.str z)] = .ok (.str (sgn k)) [.io (dz a' b c'), .val (.str z)] := by
  obtain ⟨r, a', c', r0, r1, hp⟩ := pull_ok a b c z.length (by omega) (by omega)
  obtain ⟨k, rfl⟩ := Int.eq_ofNat_of_zero_le r0
  have hk : k < z.cps.toList.length := by have : z.cps.toList.length = z.length := by simp [Str.length]
                                          omega
  refine ⟨z.cps.toList[k], a', c', List.getElem_mem hk, ?_⟩
  have hx := atI_nat (List.getElem?_eq_getElem hk)
  have hz : szOk z.length = true := by unfold szOk; simp [sizeLine_eq]; omega
  have h2 : b_L_pick [.io (dz a b c), .val (.str z)] = .ret (.str (sgn z.cps.toList[k])) [.io (dz a' b c'), .val (.str z)] := by
    simp [defV, defO, seqS, noR, ifS, boolG, truthG, notB, op2G, slotIxG, constG, varG, setS, ownS, retS, retSlot, nopS, bltG, consA, slotA, nilA, Res.bind, Res.thn, lift, Sl.cont, Sl.hot, ixD, at0, at1, at2, cmpD, toInt, valsOf, intD, modI_pos, fdivI_pos, setIxS, setIxD, Sl.put, outArgs, putV, putO, nxO, Sl.isIo, addV, addD, mulV, callG, slotsOf, mkArgs, wb, sizeLine_eq, b_L_pick, lenD, hp, hx, hz]
  exact (defV_ret (N := 2) (as := [.io (dz a b c), .val (.str z)]) h2)
end LR

set_option linter.all false
set_option autoImplicit false
namespace LR
open PySem L2 L2.PV
theorem glue_fold : ∀ (l : List Nat) (a : Array Nat), (l.map sgn).foldl (fun acc p => acc ++ ("" : Str).cps ++ p.cps) a = a ++ l.toArray
  | [], a => by simp
  | k :: l, a => by
    rw [List.map_cons, List.foldl_cons, glue_fold l]
    apply Array.ext'
    show ((a ++ ("" : Str).cps ++ #[k]) ++ l.toArray).toList = _
    have : (("" : Str).cps).toList = [] := rfl
    simp [this]
theorem join_sgn (cs : List Nat) : Txt.join "" (cs.map sgn) = ⟨cs.toArray⟩ := by
  cases cs with
  | nil => rfl
  | cons k l =>
    show (⟨(l.map sgn).foldl (fun acc p => acc ++ ("" : Str).cps ++ p.cps) (sgn k).cps⟩ : Str) = _
    rw [glue_fold]
    congr 1
    apply Array.ext'
    show ((#[k] : Array Nat) ++ l.toArray).toList = _
    simp
end LR

set_option linter.all false
set_option maxRecDepth 100000
set_option maxHeartbeats 4000000
set_option autoImplicit false
namespace LR
open PySem L2 L2.PV
local macro_rules | `(tactic| walk_at "ga") => `(tactic| ((repeat (with_reducible apply GetAt.succ)); with_reducible exact GetAt.zero))
local macro_rules | `(tactic| walk_at "sa") => `(tactic| ((repeat (with_reducible apply SetAt.succ)); with_reducible exact SetAt.zero))
local macro_rules | `(tactic| walk_at "va") => `(tactic| ((repeat (with_reducible apply ValsA.v)); with_reducible exact ValsA.nil))
local macro_rules | `(tactic| walk_at "mk") => `(tactic| ((repeat (first | (with_reducible apply MkA.v) | ((with_reducible apply MkA.s); (walk_at "ga"); (exact rfl)))); with_reducible exact MkA.nil))
local macro_rules | `(tactic| walk_at "wb") => `(tactic| ((repeat (first | (with_reducible apply WbA.v) | ((with_reducible apply wba_io); (walk_at "ga"); (walk_at "sa")) | ((with_reducible apply wba_own); (walk_at "ga"); (walk_at "sa")))); with_reducible exact WbA.nil))
local macro_rules | `(tactic| walk_at "cat") => `(tactic| ((repeat (first | (with_reducible apply CatA.arg) | (with_reducible apply CatA.kw) | ((with_reducible apply CatA.dfl); (exact rfl)))); ((with_reducible apply CatA.nil); (exact rfl))))
local macro_rules | `(tactic| walk_at "pad") => `(tactic| ((repeat (first | (with_reducible apply Pad.cons) | (with_reducible apply Pad.un))); with_reducible exact Pad.nil))
local macro_rules | `(tactic| walk_at "out") => `(tactic| ((repeat (first | (with_reducible apply OutA.io) | (with_reducible apply OutA.val))); with_reducible exact OutA.nil))
local macro_rules | `(tactic| walk_at "wip") => `(tactic| ((repeat (first | ((with_reducible apply WipeA.hit); (exact rfl)) | ((with_reducible apply WipeA.miss); (exact rfl)))); with_reducible exact WipeA.nil))
local macro_rules | `(tactic| walk_at "bck") => `(tactic| ((repeat (first | ((with_reducible apply BackA.hit); (exact rfl)) | ((with_reducible apply BackA.miss); (exact rfl)))); with_reducible exact BackA.nil))
local macro_rules | `(tactic| walk_at "ndp") => `(tactic| first | exact List.nodup_nil | exact ndp1 | (focus (simp [slotsOf]; done)))
local macro_rules | `(tactic| walk_at "sz") => `(tactic| first | ((with_reducible show List.length (_ :: _) ≤ _); (exact Nat.le_of_ble_eq_true rfl)) | ((with_reducible show List.length [] ≤ _); (exact Nat.zero_le _)) | assumption | omega | (focus (simp; done)) | (focus (simp; omega)))
local macro_rules | `(tactic| walk_at "op") => `(tactic| first
  | with_reducible exact add_int _ _
  | with_reducible exact eq_ints _ _
  | with_reducible exact ne_ints _ _
  | with_reducible exact int_f (sub_ok _ _)
  | ((with_reducible apply int_f (mod_pos _)); first | decide | assumption | omega)
  | ((with_reducible refine' int_f (fdiv_pos ?_)); first | decide | assumption | omega)
  | ((with_reducible refine' mul_int (mul_l ?_)); first | decide | assumption | omega)
  | ((with_reducible refine' mul_int (mul_r ?_)); first | decide | assumption | omega)
  | ((with_reducible apply divmod_ok); first | decide | assumption | omega)
  | ((with_reducible apply add_lst); (walk_at "sz"))
  | ((with_reducible apply add_tup); (walk_at "sz"))
  | ((with_reducible apply add_str); (walk_at "sz"))
  | ((with_reducible apply len_str); (walk_at "sz"))
  | ((with_reducible apply opApp); (walk_at "sz"))
  | ((with_reducible apply ext_ok); (walk_at "sz"))
  | with_reducible assumption
  | ((with_reducible apply rng1_ok); (walk_at "sz"))
  | exact rfl)
local macro_rules | `(tactic| walk_at "w1") => `(tactic| first
  | ((with_reducible apply wp_var); (walk_at "ga"))
  | with_reducible apply wp_const
  | with_reducible apply wp_seqS
  | with_reducible apply wp_setS
  | with_reducible apply wp_ownS
  | with_reducible apply wp_retS
  | with_reducible apply wp_ifS
  | with_reducible apply wp_nopS
  | with_reducible apply wp_exprS
  | with_reducible apply wp_noR
  | ((with_reducible apply put_v); (walk_at "ga"); (first | exact rfl | assumption); (walk_at "sa"))
  | ((with_reducible apply put_o); (walk_at "ga"); (first | exact rfl | assumption); (walk_at "sa"))
  | with_reducible apply wp_op2
  | with_reducible apply wp_op1
  | with_reducible apply wp_consA
  | with_reducible apply wp_nilA
  | with_reducible apply wp_yesT
  | ((with_reducible apply wp_slotA); (walk_at "ga"); (exact rfl))
  | with_reducible apply wp_boolG
  | with_reducible apply wp_truthG
  | with_reducible apply wp_notB
  | with_reducible apply wp_andB
  | with_reducible apply wp_orB
  | with_reducible apply wp_ifG
  | with_reducible apply wp_ofB
  | with_reducible apply wp_andG
  | with_reducible apply wp_orG
  | with_reducible apply wp_notG
  | with_reducible apply wp_call
  | ((with_reducible apply wp_args); (walk_at "ndp"); (walk_at "mk"))
  | ((with_reducible apply wp_wb); (walk_at "wb"))
  | with_reducible apply wp_bl
  | with_reducible apply wp_i1
  | with_reducible apply wp_i2
  | with_reducible apply wp_tp
  | ((with_reducible apply wp_vals); (walk_at "va"))
  | ((with_reducible apply wp_sz); (walk_at "sz"))
  | with_reducible apply wp_lstG
  | with_reducible apply wp_tupG
  | with_reducible apply wp_bltG
  | with_reducible apply wp_isiG
  | with_reducible apply wp_chainG
  | with_reducible apply wp_metG
  | with_reducible apply wp_metG0
  | with_reducible apply wp_mstr
  | with_reducible apply wp_mint
  | with_reducible apply wp_mlst
  | ((with_reducible apply wp_slotIxG); (walk_at "ga"); (exact rfl))
  | ((with_reducible apply six_any); (walk_at "ga"); (exact rfl))
  | ((with_reducible apply sst_any); (walk_at "ga"); (exact rfl))
  | ((with_reducible apply wp_slotLenG); (walk_at "ga"); (exact rfl))
  | ((with_reducible apply wp_lmutG); (walk_at "ga"); (exact rfl))
  | ((with_reducible apply lm_io); (walk_at "va"); (walk_at "ga"); (walk_at "op"); (walk_at "sa"))
  | ((with_reducible apply lm_own); (walk_at "va"); (walk_at "ga"); (walk_at "op"); (walk_at "sa"))
  | with_reducible apply wp_setIxS
  | ((with_reducible apply st_io); (walk_at "ga"); (walk_at "op"); (walk_at "sa"))
  | ((with_reducible apply st_own); (walk_at "ga"); (walk_at "op"); (walk_at "sa"))
  | with_reducible apply wp_catA
  | ((with_reducible apply wp_cat); (walk_at "cat"))
  | with_reducible apply wp_toldG
  | with_reducible apply wp_dispG
  | with_reducible apply pairs_cons
  | with_reducible apply pairs_nil
  | ((with_reducible apply wp_le15); (exact rfl))
  | with_reducible apply wp_iterG
  | with_reducible apply wp_rangeG
  | with_reducible apply wp_forS
  | with_reducible apply wp_asgS
  | with_reducible apply wp_parS
  | with_reducible apply wp_valK
  | with_reducible apply wp_ownK
  | with_reducible apply wp_nilK
  | with_reducible apply putPar_nil
  | with_reducible apply putPar_val
  | with_reducible apply putPar_own
  | with_reducible apply goT_n
  | with_reducible apply goT_t
  | with_reducible apply goT_of
  | with_reducible apply goTs_nil
  | with_reducible apply goTs_cons
  | ((with_reducible apply wp_frzO); (walk_at "ga"); (walk_at "sa"))
  | ((with_reducible apply wp_frzV); (walk_at "ga"))
  | ((with_reducible apply wp_retSlot); (walk_at "ga"); (walk_at "sa"))
  | with_reducible apply wp_retNS
  | with_reducible apply wp_brkS
  | with_reducible apply wp_cntS
  | with_reducible apply wp_raiseS
  | with_reducible apply wp_raiseVS
  | with_reducible apply wp_noP
  | with_reducible apply wp_someP
  | with_reducible apply wp_sliceG
  | with_reducible apply if_t
  | with_reducible apply if_f
  | with_reducible apply if_not
  | ((with_reducible apply if_rt); (exact rfl))
  | ((with_reducible apply if_rf); (exact rfl))
  | with_reducible apply wp_compG
  | ((with_reducible apply wp_wipe); (exact rfl); (walk_at "wip"))
  | ((with_reducible apply wp_back); (walk_at "bck"))
  | ((with_reducible apply wp_out); (walk_at "out"))
  | ((with_reducible apply wp_defV); (walk_at "pad"))
  | ((with_reducible apply wp_defO); (walk_at "pad"))
  | ((with_reducible apply wp_some); (walk_at "op")))
local macro_rules | `(tactic| walk_at "w") => `(tactic| repeat (walk_at "w1"))
/-! ### names -/
abbrev alpha : Str := "abcdefghijklmnopqrstuvwxyz"
def isLow (c : Nat) : Bool := decide (c ∈ alpha.cps.toList)
def nmS (x : Str) : Bool := decide (0 < x.length) && decide (x.length ≤ 8) && x.cps.toList.all isLow
def isNm : D → Bool
  | .str x => nmS x
  | _ => false
/-- values that may be asked whether they are names -/
def S0 (d : D) : Prop := (∃ a, tyName d = some a) ∧ ∀ x, d = .str x → x.length ≤ 1000 ∧ strF x = true
def S1 (d : D) : Prop := S0 d ∧ ∀ xs, d = .tup xs → xs.length ≤ 1000 ∧ ∀ y ∈ xs, S0 y ∧ Pl 8 y
theorem isi_of {n a : String} {d : D} (hn : ["int", "str", "bool", "tuple", "list", "dict"].contains n = true) (h : tyName d = some a) : isiD n d = some (.bl (isiT n a)) := by
  unfold isiD
  rw [if_pos hn, h]; rfl
theorem nm_low {x : Str} (h : nmS x = true) : strF x = true := by
  unfold nmS at h
  rw [Bool.and_eq_true] at h
  have h2 := List.all_eq_true.mp h.2
  unfold strF PySem.PyData.strOk
  rw [Array.all_eq_true']
  intro c hc
  have : isLow c = true := h2 c (by simpa using hc)
  have hm : c ∈ alpha.cps.toList := of_decide_eq_true this
  have ha : ∀ c ∈ alpha.cps.toList, decide (c < 1114112) = true := by decide +kernel
  exact ha c hm
theorem is_name_str (x : Str) (hx : x.length ≤ 1000) : f_is_name [.val (.str x)] = .ok (.bl (nmS x)) [.val (.str x)] := by
  apply Res.wp.eq
  unfold f_is_name
  walk_at "w"
  unfold b_is_name
  walk_at "w"
  unfold d_MAX_LENGTH
  walk_at "w"
  refine if_dec (fun h1 => ?_) (fun h1 => ?_) <;> walk_at "w"
  · refine if_dec (fun h2 => ?_) (fun h2 => ?_) <;> walk_at "w"
    · refine comp_pure (fun d => .bl (match d with | .str y => isLow (y.cps.toList.getD 0 0) | _ => false)) ?_ ?_ ?_
      · rw [List.length_map, cps_len]; omega
      · intro d hd
        obtain ⟨c, hc, rfl⟩ := List.mem_map.mp hd
        walk_at "w"
        exact ⟨rfl, rfl, by walk_at "wip"⟩
      · walk_at "w"
        refine wp_some (a := .bl (x.cps.toList.all isLow)) ?_ ?_
        · rw [List.map_map]
          exact all_mapf (fun c => isLow c) x.cps.toList
        · walk_at "w"
          refine ⟨?_, rfl⟩
          unfold nmS
          rw [decide_eq_true (by omega : 0 < x.length), decide_eq_true (by omega : x.length ≤ 8)]; rfl
    · refine ⟨?_, rfl⟩
      unfold nmS
      rw [decide_eq_false (by omega : ¬ x.length ≤ 8), Bool.and_false]; rfl
  · refine ⟨?_, rfl⟩
    unfold nmS
    rw [decide_eq_false (by omega : ¬ 0 < x.length)]; rfl
theorem is_name_eq {d : D} (h : S0 d) : f_is_name [.val d] = .ok (.bl (isNm d)) [.val d] := by
  obtain ⟨⟨a, ha⟩, hs⟩ := h
  cases d with
  | str x => exact is_name_str x (hs x rfl).1
  | obj => cases ha
  | con => cases ha
  | xn => cases ha
  | _ =>
    apply Res.wp.eq
    unfold f_is_name
    walk_at "w"
    unfold b_is_name
    walk_at "w"
    exact ⟨rfl, rfl⟩
theorem L_is_name_eq {d : D} (h : S0 d) : f_L_is_name [.val d] = .ok (.bl (isNm d)) [.val d] := by
  obtain ⟨⟨a, ha⟩, hs⟩ := h
  cases d with
  | str x =>
    obtain ⟨hx, hf⟩ := hs x rfl
    apply Res.wp.eq
    unfold f_L_is_name
    walk_at "w"
    unfold b_L_is_name
    walk_at "w"
    refine if_dec (fun h1 => ?_) (fun h1 => ?_) <;> walk_at "w"
    · refine if_dec (fun h2 => ?_) (fun h2 => ?_) <;> walk_at "w"
      · refine wp_some (a := .str (Txt.stripChars x alpha)) ?_ ?_
        · show (if x.length ≤ sizeLine then _ else _) = _
          rw [if_pos (sz_ok (by omega))]
        walk_at "w"
        refine wp_some (eq_strs (strip_F hf) (by decide +kernel)) ?_
        walk_at "w"
        refine ⟨?_, rfl⟩
        show _ = D.bl (nmS x)
        unfold nmS
        rw [decide_eq_true (by omega : 0 < x.length), decide_eq_true (by omega : x.length ≤ 8)]
        congr 1
        rw [Bool.eq_iff_iff, decide_eq_true_iff, strip_empty]
        have : ∀ c, alpha.cps.contains c = isLow c := fun c => by
          unfold isLow
          rw [Bool.eq_iff_iff, decide_eq_true_iff]
          simp
        rw [show alpha.cps.contains = isLow from funext this]
        rfl
      · refine ⟨?_, rfl⟩
        show D.bl false = D.bl (nmS x)
        unfold nmS
        rw [decide_eq_false (by omega : ¬ x.length ≤ 8), Bool.and_false]; rfl
    · refine ⟨?_, rfl⟩
      show D.bl false = D.bl (nmS x)
      unfold nmS
      rw [decide_eq_false (by omega : ¬ 0 < x.length)]; rfl
  | obj => cases ha
  | con => cases ha
  | xn => cases ha
  | _ =>
    apply Res.wp.eq
    unfold f_L_is_name
    walk_at "w"
    unfold b_L_is_name
    walk_at "w"
    exact ⟨rfl, rfl⟩
/-! ### events and letters -/
abbrev sr : List Str := ["send", "read"]
def isEv : D → Bool
  | .tup [x, y] => memS sr x && isNm y
  | _ => false
theorem is_event_eq {d : D} (h : S1 d) : f_is_event [.val d] = .ok (.bl (isEv d)) [.val d] := by
  obtain ⟨⟨⟨a, ha⟩, hs⟩, ht⟩ := h
  have fin : ∀ e : D, tyName e = some a → isiT "tuple" a = false → isEv e = false → f_is_event [.val e] = .ok (.bl (isEv e)) [.val e] := by
    intro e h1 h2 h3
    apply Res.wp.eq
    unfold f_is_event
    walk_at "w"
    unfold b_is_event
    walk_at "w"
    refine wp_some (isi_of rfl h1) ?_
    rw [h2]
    walk_at "w"
    exact ⟨by rw [h3], rfl⟩
  cases d with
  | obj => cases ha
  | con => cases ha
  | xn => cases ha
  | tup xs =>
    obtain ⟨hl, hx⟩ := ht xs rfl
    apply Res.wp.eq
    unfold f_is_event
    walk_at "w"
    unfold b_is_event
    walk_at "w"
    refine if_dec (fun h1 => ?_) (fun h1 => ?_) <;> walk_at "w"
    · match xs, h1 with
      | [y, z], _ =>
      obtain ⟨hy, hpl⟩ := hx y (by simp)
      obtain ⟨p, hp, hsp⟩ := hpl.shaped (by decide)
      obtain ⟨hz, _⟩ := hx z (by simp)
      walk_at "w"
      obtain ⟨⟨b, hb⟩, hys⟩ := hy
      refine wp_some (isi_of rfl hb) ?_
      have hm : memS sr y = true → isiT "str" b = true := by
        intro h
        cases y with
        | str x => cases hb; rfl
        | _ => cases h
      walk_at "w"
      refine if_b (fun h2 => ?_) (fun h2 => ?_) <;> walk_at "w"
      · unfold d_SEND d_READ
        refine wp_some (in_tup_any (ws := sr) hp hsp (by decide +kernel)) ?_
        walk_at "w"
        refine if_b (fun h3 => ?_) (fun h3 => ?_) <;> walk_at "w"
        · refine wp_ok (is_name_eq hz) ?_
          walk_at "w"
          refine ⟨?_, rfl⟩
          show _ = D.bl (memS sr y && isNm z)
          rw [h3]; rfl
        · refine ⟨?_, rfl⟩
          show _ = D.bl (memS sr y && isNm z)
          rw [h3]; rfl
      · refine ⟨?_, rfl⟩
        show _ = D.bl (memS sr y && isNm z)
        cases h4 : memS sr y with
        | true => rw [hm h4] at h2; cases h2
        | false => rfl
    · refine ⟨?_, rfl⟩
      match xs, h1 with
      | [], _ => rfl
      | [_], _ => rfl
      | [_, _], h1 => exact absurd rfl h1
      | _ :: _ :: _ :: _, _ => rfl
  | _ => exact fin _ ha (by cases ha; rfl) rfl
theorem L_is_event_eq {d : D} (h : S1 d) : f_L_is_event [.val d] = .ok (.bl (isEv d)) [.val d] := by
  obtain ⟨⟨⟨a, ha⟩, hs⟩, ht⟩ := h
  have fin : ∀ e : D, tyName e = some a → isiT "tuple" a = false → isEv e = false → f_L_is_event [.val e] = .ok (.bl (isEv e)) [.val e] := by
    intro e h1 h2 h3
    apply Res.wp.eq
    unfold f_L_is_event
    walk_at "w"
    unfold b_L_is_event
    walk_at "w"
    refine wp_some (isi_of rfl h1) ?_
    rw [h2]
    walk_at "w"
    exact ⟨by rw [h3], rfl⟩
  cases d with
  | obj => cases ha
  | con => cases ha
  | xn => cases ha
  | tup xs =>
    obtain ⟨hl, hx⟩ := ht xs rfl
    apply Res.wp.eq
    unfold f_L_is_event
    walk_at "w"
    unfold b_L_is_event
    walk_at "w"
    refine if_dec (fun h1 => ?_) (fun h1 => ?_) <;> walk_at "w"
    · match xs, h1 with
      | [y, z], _ =>
      obtain ⟨hy, hpl⟩ := hx y (by simp)
      obtain ⟨p, hp, hsp⟩ := hpl.shaped (by decide)
      obtain ⟨hz, _⟩ := hx z (by simp)
      walk_at "w"
      refine wp_some (in_lst_any (ws := sr) hp hsp (by decide +kernel)) ?_
      walk_at "w"
      refine if_b (fun h3 => ?_) (fun h3 => ?_) <;> walk_at "w"
      · refine wp_ok (L_is_name_eq hz) ?_
        walk_at "w"
        refine ⟨?_, rfl⟩
        show _ = D.bl (memS sr y && isNm z)
        rw [h3]; rfl
      · refine ⟨?_, rfl⟩
        show _ = D.bl (memS sr y && isNm z)
        rw [h3]; rfl
    · refine ⟨?_, rfl⟩
      match xs, h1 with
      | [], _ => rfl
      | [_], _ => rfl
      | [_, _], h1 => exact absurd rfl h1
      | _ :: _ :: _ :: _, _ => rfl
  | _ => exact fin _ ha (by cases ha; rfl) rfl
/-- the texts of two values are different -/
def difS : D → D → Bool
  | .str x, .str y => !decide (x = y)
  | _, _ => false
def isLt : D → Bool
  | .tup [x, y, z] => ([x, y, z].all isNm) && difS y z
  | _ => false
theorem nm_str {d : D} (h : isNm d = true) : ∃ x, d = .str x ∧ strF x = true := by
  cases d with
  | str x => exact ⟨x, rfl, nm_low h⟩
  | _ => cases h
theorem is_letter_eq {d : D} (h : S1 d) : f_is_letter [.val d] = .ok (.bl (isLt d)) [.val d] := by
  obtain ⟨⟨⟨a, ha⟩, hs⟩, ht⟩ := h
  have fin : ∀ e : D, tyName e = some a → isiT "tuple" a = false → isLt e = false → f_is_letter [.val e] = .ok (.bl (isLt e)) [.val e] := by
    intro e h1 h2 h3
    apply Res.wp.eq
    unfold f_is_letter
    walk_at "w"
    unfold b_is_letter
    walk_at "w"
    refine wp_some (isi_of rfl h1) ?_
    rw [h2]
    walk_at "w"
    exact ⟨by rw [h3], rfl⟩
  cases d with
  | obj => cases ha
  | con => cases ha
  | xn => cases ha
  | tup xs =>
    obtain ⟨hl, hx⟩ := ht xs rfl
    apply Res.wp.eq
    unfold f_is_letter
    walk_at "w"
    unfold b_is_letter
    walk_at "w"
    refine if_dec (fun h1 => ?_) (fun h1 => ?_) <;> walk_at "w"
    · match xs, h1 with
      | [y, z, t], _ =>
      walk_at "w"
      refine comp_pure (fun d => .bl (isNm d)) (by simp) ?_ ?_
      · intro d hd
        walk_at "w"
        refine wp_ok (is_name_eq (hx d hd).1) ?_
        walk_at "w"
        exact ⟨rfl, rfl, by walk_at "wip"⟩
      · walk_at "w"
        rw [show ((fun x => isNm y :: x) ((fun x => isNm z :: x) ((fun x => isNm t :: x) []))).all id = [y, z, t].all isNm from rfl]
        refine if_b (fun h3 => ?_) (fun h3 => ?_) <;> walk_at "w"
        · have h4 := List.all_eq_true.mp h3
          obtain ⟨u, rfl, hu⟩ := nm_str (h4 z (by simp))
          obtain ⟨v, rfl, hv⟩ := nm_str (h4 t (by simp))
          refine wp_some (ne_strs hu hv) ?_
          walk_at "w"
          refine ⟨?_, rfl⟩
          show _ = D.bl (([y, .str u, .str v].all isNm) && _)
          rw [h3]; rfl
        · refine ⟨?_, rfl⟩
          show _ = D.bl (([y, z, t].all isNm) && _)
          rw [h3]; rfl
    · refine ⟨?_, rfl⟩
      match xs, h1 with
      | [], _ => rfl
      | [_], _ => rfl
      | [_, _], _ => rfl
      | [_, _, _], h1 => exact absurd rfl h1
      | _ :: _ :: _ :: _ :: _, _ => rfl
  | _ => exact fin _ ha (by cases ha; rfl) rfl
theorem L_is_letter_eq {d : D} (h : S1 d) : f_L_is_letter [.val d] = .ok (.bl (isLt d)) [.val d] := by
  obtain ⟨⟨⟨a, ha⟩, hs⟩, ht⟩ := h
  have fin : ∀ e : D, tyName e = some a → isiT "tuple" a = false → isLt e = false → f_L_is_letter [.val e] = .ok (.bl (isLt e)) [.val e] := by
    intro e h1 h2 h3
    apply Res.wp.eq
    unfold f_L_is_letter
    walk_at "w"
    unfold b_L_is_letter
    walk_at "w"
    refine wp_some (isi_of rfl h1) ?_
    rw [h2]
    walk_at "w"
    exact ⟨by rw [h3], rfl⟩
  cases d with
  | obj => cases ha
  | con => cases ha
  | xn => cases ha
  | tup xs =>
    obtain ⟨hl, hx⟩ := ht xs rfl
    apply Res.wp.eq
    unfold f_L_is_letter
    walk_at "w"
    unfold b_L_is_letter
    walk_at "w"
    refine if_dec (fun h1 => ?_) (fun h1 => ?_) <;> walk_at "w"
    · match xs, h1 with
      | [y, z, t], _ =>
      walk_at "w"
      refine comp_filter (fun d => !isNm d) (fun d => d) (by simp) ?_ ?_
      · intro d hd
        walk_at "w"
        refine wp_ok (L_is_name_eq (hx d hd).1) ?_
        walk_at "w"
        refine ⟨rfl, ?_⟩
        walk_at "w"
        refine if_b (fun h3 => ?_) (fun h3 => ?_) <;> walk_at "w"
        · exact ⟨rfl, by walk_at "wip"⟩
        · exact ⟨rfl, rfl, by walk_at "wip"⟩
      · walk_at "w"
        refine wp_some (ne_nil_lst (n := 8) ?_ (by decide)) ?_
        · intro u hu
          rw [List.map_id'] at hu
          exact (hx u (List.mem_filter.mp hu).1).2
        walk_at "w"
        rw [List.map_id']
        rw [filter_not_empty]
        refine if_b (fun h3 => ?_) (fun h3 => ?_) <;> walk_at "w"
        · have h4 := List.all_eq_true.mp h3
          obtain ⟨u, rfl, hu⟩ := nm_str (h4 z (by simp))
          obtain ⟨v, rfl, hv⟩ := nm_str (h4 t (by simp))
          refine wp_some (ne_strs hu hv) ?_
          walk_at "w"
          refine ⟨?_, rfl⟩
          show _ = D.bl (([y, .str u, .str v].all isNm) && _)
          rw [h3]; rfl
        · refine ⟨?_, rfl⟩
          show _ = D.bl (([y, z, t].all isNm) && _)
          rw [h3]; rfl
    · refine ⟨?_, rfl⟩
      match xs, h1 with
      | [], _ => rfl
      | [_], _ => rfl
      | [_, _], _ => rfl
      | [_, _, _], h1 => exact absurd rfl h1
      | _ :: _ :: _ :: _ :: _, _ => rfl
  | _ => exact fin _ ha (by cases ha; rfl) rfl
end LR

set_option linter.all false
set_option maxRecDepth 100000
set_option maxHeartbeats 4000000
set_option autoImplicit false
namespace LR
open PySem L2 L2.PV
local macro_rules | `(tactic| walk_at "ga") => `(tactic| ((repeat (with_reducible apply GetAt.succ)); with_reducible exact GetAt.zero))
local macro_rules | `(tactic| walk_at "sa") => `(tactic| ((repeat (with_reducible apply SetAt.succ)); with_reducible exact SetAt.zero))
local macro_rules | `(tactic| walk_at "va") => `(tactic| ((repeat (with_reducible apply ValsA.v)); with_reducible exact ValsA.nil))
local macro_rules | `(tactic| walk_at "mk") => `(tactic| ((repeat (first | (with_reducible apply MkA.v) | ((with_reducible apply MkA.s); (walk_at "ga"); (exact rfl)))); with_reducible exact MkA.nil))
local macro_rules | `(tactic| walk_at "wb") => `(tactic| ((repeat (first | (with_reducible apply WbA.v) | ((with_reducible apply wba_io); (walk_at "ga"); (walk_at "sa")) | ((with_reducible apply wba_own); (walk_at "ga"); (walk_at "sa")))); with_reducible exact WbA.nil))
local macro_rules | `(tactic| walk_at "cat") => `(tactic| ((repeat (first | (with_reducible apply CatA.arg) | (with_reducible apply CatA.kw) | ((with_reducible apply CatA.dfl); (exact rfl)))); ((with_reducible apply CatA.nil); (exact rfl))))
local macro_rules | `(tactic| walk_at "pad") => `(tactic| ((repeat (first | (with_reducible apply Pad.cons) | (with_reducible apply Pad.un))); with_reducible exact Pad.nil))
local macro_rules | `(tactic| walk_at "out") => `(tactic| ((repeat (first | (with_reducible apply OutA.io) | (with_reducible apply OutA.val))); with_reducible exact OutA.nil))
local macro_rules | `(tactic| walk_at "wip") => `(tactic| ((repeat (first | ((with_reducible apply WipeA.hit); (exact rfl)) | ((with_reducible apply WipeA.miss); (exact rfl)))); with_reducible exact WipeA.nil))
local macro_rules | `(tactic| walk_at "bck") => `(tactic| ((repeat (first | ((with_reducible apply BackA.hit); (exact rfl)) | ((with_reducible apply BackA.miss); (exact rfl)))); with_reducible exact BackA.nil))
local macro_rules | `(tactic| walk_at "ndp") => `(tactic| first | exact List.nodup_nil | exact ndp1 | (focus (simp [slotsOf]; done)))
local macro_rules | `(tactic| walk_at "sz") => `(tactic| first | ((with_reducible show List.length (_ :: _) ≤ _); (exact Nat.le_of_ble_eq_true rfl)) | ((with_reducible show List.length [] ≤ _); (exact Nat.zero_le _)) | assumption | omega | (focus (simp; done)) | (focus (simp; omega)))
local macro_rules | `(tactic| walk_at "op") => `(tactic| first
  | with_reducible exact add_int _ _
  | with_reducible exact eq_ints _ _
  | with_reducible exact ne_ints _ _
  | with_reducible exact int_f (sub_ok _ _)
  | ((with_reducible apply int_f (mod_pos _)); first | decide | assumption | omega)
  | ((with_reducible refine' int_f (fdiv_pos ?_)); first | decide | assumption | omega)
  | ((with_reducible refine' mul_int (mul_l ?_)); first | decide | assumption | omega)
  | ((with_reducible refine' mul_int (mul_r ?_)); first | decide | assumption | omega)
  | ((with_reducible apply divmod_ok); first | decide | assumption | omega)
  | ((with_reducible apply add_lst); (walk_at "sz"))
  | ((with_reducible apply add_tup); (walk_at "sz"))
  | ((with_reducible apply add_str); (walk_at "sz"))
  | ((with_reducible apply len_str); (walk_at "sz"))
  | ((with_reducible apply opApp); (walk_at "sz"))
  | ((with_reducible apply ext_ok); (walk_at "sz"))
  | with_reducible assumption
  | ((with_reducible apply rng1_ok); (walk_at "sz"))
  | exact rfl)
local macro_rules | `(tactic| walk_at "w1") => `(tactic| first
  | ((with_reducible apply wp_var); (walk_at "ga"))
  | with_reducible apply wp_const
  | with_reducible apply wp_seqS
  | with_reducible apply wp_setS
  | with_reducible apply wp_ownS
  | with_reducible apply wp_retS
  | with_reducible apply wp_ifS
  | with_reducible apply wp_nopS
  | with_reducible apply wp_exprS
  | with_reducible apply wp_noR
  | ((with_reducible apply put_v); (walk_at "ga"); (first | exact rfl | assumption); (walk_at "sa"))
  | ((with_reducible apply put_o); (walk_at "ga"); (first | exact rfl | assumption); (walk_at "sa"))
  | with_reducible apply wp_op2
  | with_reducible apply wp_op1
  | with_reducible apply wp_consA
  | with_reducible apply wp_nilA
  | with_reducible apply wp_yesT
  | ((with_reducible apply wp_slotA); (walk_at "ga"); (exact rfl))
  | with_reducible apply wp_boolG
  | with_reducible apply wp_truthG
  | with_reducible apply wp_notB
  | with_reducible apply wp_andB
  | with_reducible apply wp_orB
  | with_reducible apply wp_ifG
  | with_reducible apply wp_ofB
  | with_reducible apply wp_andG
  | with_reducible apply wp_orG
  | with_reducible apply wp_notG
  | with_reducible apply wp_call
  | ((with_reducible apply wp_args); (walk_at "ndp"); (walk_at "mk"))
  | ((with_reducible apply wp_wb); (walk_at "wb"))
  | with_reducible apply wp_bl
  | with_reducible apply wp_i1
  | with_reducible apply wp_i2
  | with_reducible apply wp_tp
  | ((with_reducible apply wp_vals); (walk_at "va"))
  | ((with_reducible apply wp_sz); (walk_at "sz"))
  | with_reducible apply wp_lstG
  | with_reducible apply wp_tupG
  | with_reducible apply wp_bltG
  | with_reducible apply wp_isiG
  | with_reducible apply wp_chainG
  | with_reducible apply wp_metG
  | with_reducible apply wp_metG0
  | with_reducible apply wp_mstr
  | with_reducible apply wp_mint
  | with_reducible apply wp_mlst
  | ((with_reducible apply wp_slotIxG); (walk_at "ga"); (exact rfl))
  | ((with_reducible apply six_any); (walk_at "ga"); (exact rfl))
  | ((with_reducible apply sst_any); (walk_at "ga"); (exact rfl))
  | ((with_reducible apply wp_slotLenG); (walk_at "ga"); (exact rfl))
  | ((with_reducible apply wp_lmutG); (walk_at "ga"); (exact rfl))
  | ((with_reducible apply lm_io); (walk_at "va"); (walk_at "ga"); (walk_at "op"); (walk_at "sa"))
  | ((with_reducible apply lm_own); (walk_at "va"); (walk_at "ga"); (walk_at "op"); (walk_at "sa"))
  | with_reducible apply wp_setIxS
  | ((with_reducible apply st_io); (walk_at "ga"); (walk_at "op"); (walk_at "sa"))
  | ((with_reducible apply st_own); (walk_at "ga"); (walk_at "op"); (walk_at "sa"))
  | with_reducible apply wp_catA
  | ((with_reducible apply wp_cat); (walk_at "cat"))
  | with_reducible apply wp_toldG
  | with_reducible apply wp_dispG
  | with_reducible apply pairs_cons
  | with_reducible apply pairs_nil
  | ((with_reducible apply wp_le15); (exact rfl))
  | with_reducible apply wp_iterG
  | with_reducible apply wp_rangeG
  | with_reducible apply wp_forS
  | with_reducible apply wp_asgS
  | with_reducible apply wp_parS
  | with_reducible apply wp_valK
  | with_reducible apply wp_ownK
  | with_reducible apply wp_nilK
  | with_reducible apply putPar_nil
  | with_reducible apply putPar_val
  | with_reducible apply putPar_own
  | with_reducible apply goT_n
  | with_reducible apply goT_t
  | with_reducible apply goT_of
  | with_reducible apply goTs_nil
  | with_reducible apply goTs_cons
  | ((with_reducible apply wp_frzO); (walk_at "ga"); (walk_at "sa"))
  | ((with_reducible apply wp_frzV); (walk_at "ga"))
  | ((with_reducible apply wp_retSlot); (walk_at "ga"); (walk_at "sa"))
  | with_reducible apply wp_retNS
  | with_reducible apply wp_brkS
  | with_reducible apply wp_cntS
  | with_reducible apply wp_raiseS
  | with_reducible apply wp_raiseVS
  | with_reducible apply wp_noP
  | with_reducible apply wp_someP
  | with_reducible apply wp_sliceG
  | with_reducible apply if_t
  | with_reducible apply if_f
  | with_reducible apply if_not
  | ((with_reducible apply if_rt); (exact rfl))
  | ((with_reducible apply if_rf); (exact rfl))
  | with_reducible apply wp_compG
  | ((with_reducible apply wp_wipe); (exact rfl); (walk_at "wip"))
  | ((with_reducible apply wp_back); (walk_at "bck"))
  | ((with_reducible apply wp_out); (walk_at "out"))
  | ((with_reducible apply wp_defV); (walk_at "pad"))
  | ((with_reducible apply wp_defO); (walk_at "pad"))
  | ((with_reducible apply wp_some); (walk_at "op")))
local macro_rules | `(tactic| walk_at "w") => `(tactic| repeat (walk_at "w1"))
/-! ### words -/
abbrev lens : List D := [.int 0, .int 1, .int 1, .int 2, .int 3, .int 8, .int 9, .int 10]
def signs (z : Str) : Prop := z = "abz" ∨ z = "abzA1 _."
theorem signs_len {z : Str} (h : signs z) : 0 < z.length ∧ z.length ≤ 1000 := by rcases h with rfl | rfl <;> decide
theorem signs_lt {z : Str} (h : signs z) : ∀ k ∈ z.cps.toList, k < 128 := by rcases h with rfl | rfl <;> decide +kernel
def Wd (x : Str) : Prop := x.length ≤ 10 ∧ ∀ c ∈ x.cps.toList, c < 128
theorem strs_map : ∀ cs : List Nat, strsD (cs.map fun c => D.str (sgn c)) = some (cs.map sgn)
  | [] => rfl
  | c :: cs => by show (strsD (cs.map _)).map _ = _; rw [strs_map cs]; rfl
theorem join_ok (cs : List Nat) (h : cs.length ≤ 1000000) : joinD (.str "") [.lst (cs.map fun c => D.str (sgn c))] = some (.str ⟨cs.toArray⟩) := by
  show ((strsD _).bind fun ys => if (ys.map (·.length)).sum + ys.length * ("" : Str).length ≤ 16777216 then some (D.str (Txt.join "" ys)) else none) = _
  rw [strs_map]
  show (if ((cs.map sgn).map (·.length)).sum + (cs.map sgn).length * 0 ≤ 16777216 then some (D.str (Txt.join "" (cs.map sgn))) else none) = _
  rw [if_pos, join_sgn]
  have : ∀ l : List Nat, ((l.map sgn).map (·.length)).sum = l.length := by
    intro l
    induction l with
    | nil => rfl
    | cons k l ih => simp only [List.map_cons, List.sum_cons, ih, List.length_cons]; show 1 + l.length = _; omega
  rw [this]; omega
theorem word_ok (a b c : Int) : ∃ x a' c', Wd x ∧ f_L_word [.io (dz a b c)] = .ok (.str x) [.io (dz a' b c')] := by
  have key : (f_L_word [.io (dz a b c)]).wp (fun d e => ∃ x a' c', Wd x ∧ d = .str x ∧ e = [.io (dz a' b c')]) noX := by
    unfold f_L_word
    walk_at "w"
    unfold b_L_word
    refine wp_seqM (fun e => ∃ z a c, signs z ∧ e = [.io (dz a b c), .val (.str z), .un]) ?_ ?_
    · walk_at "w"
      obtain ⟨r, a1, c1, r0, r1, hp⟩ := pull_ok a b c 3 (by decide) (by decide)
      refine wp_ok hp ?_
      walk_at "w"
      refine if_dec (fun h => ?_) (fun h => ?_) <;> walk_at "w"
      · exact ⟨_, _, _, .inl rfl, rfl⟩
      · exact ⟨_, _, _, .inr rfl, rfl⟩
    rintro e ⟨z, a1, c1, hz, rfl⟩
    walk_at "w"
    obtain ⟨x, a2, c2, hx, hp2⟩ := pick_lst a1 b c1 lens (by decide) (by decide)
    obtain ⟨n, hn, rfl⟩ : ∃ n : Nat, n ≤ 10 ∧ x = .int n := by
      simp only [lens, List.mem_cons, List.not_mem_nil, or_false] at hx
      rcases hx with rfl | rfl | rfl | rfl | rfl | rfl | rfl | rfl
      · exact ⟨0, by decide, rfl⟩
      · exact ⟨1, by decide, rfl⟩
      · exact ⟨1, by decide, rfl⟩
      · exact ⟨2, by decide, rfl⟩
      · exact ⟨3, by decide, rfl⟩
      · exact ⟨8, by decide, rfl⟩
      · exact ⟨9, by decide, rfl⟩
      · exact ⟨10, by decide, rfl⟩
    refine wp_ok hp2 ?_
    walk_at "w"
    refine compL_wp (fun pre ys e => ∃ a c, ∃ cs : List Nat, ys = cs.map (fun c => .str (sgn c)) ∧ cs.length = pre.length ∧ (∀ k ∈ cs, k < 128) ∧ e = [.io (dz a b c), .val (.str z), .un]) ?_ (by rw [ints_len]; omega) ⟨a2, c2, [], rfl, rfl, by simp, rfl⟩ ?_
    · rintro pre d ys e ⟨post, hpre⟩ ⟨a3, c3, cs, rfl, hcl, hc, rfl⟩
      walk_at "w"
      obtain ⟨k, a4, c4, hk, hp4⟩ := pick_str a3 b c3 z (signs_len hz).1 (signs_len hz).2
      refine wp_ok hp4 ?_
      walk_at "w"
      refine ⟨a4, c4, cs ++ [k], by simp, by simp [hcl], ?_, rfl⟩
      intro k' hk'
      rcases List.mem_append.mp hk' with h | h
      · exact hc _ h
      · rw [List.mem_singleton.mp h]; exact signs_lt hz _ hk
    · rintro ys e ⟨a3, c3, cs, rfl, hcl, hc, rfl⟩
      rw [ints_len] at hcl
      walk_at "w"
      refine wp_some (join_ok cs (by omega)) ?_
      walk_at "w"
      exact ⟨_, _, _, ⟨by show cs.toArray.size ≤ 10; simp; omega, by simpa using hc⟩, rfl, rfl⟩
  obtain ⟨d, e, h, x, a', c', h1, rfl, rfl⟩ := key.ex
  exact ⟨x, a', c', h1, h⟩
end LR

set_option linter.all false
set_option maxRecDepth 100000
set_option maxHeartbeats 4000000
set_option autoImplicit false
namespace LR
open PySem L2 L2.PV
local macro_rules | `(tactic| walk_at "ga") => `(tactic| ((repeat (with_reducible apply GetAt.succ)); with_reducible exact GetAt.zero))
local macro_rules | `(tactic| walk_at "sa") => `(tactic| ((repeat (with_reducible apply SetAt.succ)); with_reducible exact SetAt.zero))
local macro_rules | `(tactic| walk_at "va") => `(tactic| ((repeat (with_reducible apply ValsA.v)); with_reducible exact ValsA.nil))
local macro_rules | `(tactic| walk_at "mk") => `(tactic| ((repeat (first | (with_reducible apply MkA.v) | ((with_reducible apply MkA.s); (walk_at "ga"); (exact rfl)))); with_reducible exact MkA.nil))
local macro_rules | `(tactic| walk_at "wb") => `(tactic| ((repeat (first | (with_reducible apply WbA.v) | ((with_reducible apply wba_io); (walk_at "ga"); (walk_at "sa")) | ((with_reducible apply wba_own); (walk_at "ga"); (walk_at "sa")))); with_reducible exact WbA.nil))
local macro_rules | `(tactic| walk_at "cat") => `(tactic| ((repeat (first | (with_reducible apply CatA.arg) | (with_reducible apply CatA.kw) | ((with_reducible apply CatA.dfl); (exact rfl)))); ((with_reducible apply CatA.nil); (exact rfl))))
local macro_rules | `(tactic| walk_at "pad") => `(tactic| ((repeat (first | (with_reducible apply Pad.cons) | (with_reducible apply Pad.un))); with_reducible exact Pad.nil))
local macro_rules | `(tactic| walk_at "out") => `(tactic| ((repeat (first | (with_reducible apply OutA.io) | (with_reducible apply OutA.val))); with_reducible exact OutA.nil))
local macro_rules | `(tactic| walk_at "wip") => `(tactic| ((repeat (first | ((with_reducible apply WipeA.hit); (exact rfl)) | ((with_reducible apply WipeA.miss); (exact rfl)))); with_reducible exact WipeA.nil))
local macro_rules | `(tactic| walk_at "bck") => `(tactic| ((repeat (first | ((with_reducible apply BackA.hit); (exact rfl)) | ((with_reducible apply BackA.miss); (exact rfl)))); with_reducible exact BackA.nil))
local macro_rules | `(tactic| walk_at "ndp") => `(tactic| first | exact List.nodup_nil | exact ndp1 | (focus (simp [slotsOf]; done)))
local macro_rules | `(tactic| walk_at "sz") => `(tactic| first | ((with_reducible show List.length (_ :: _) ≤ _); (exact Nat.le_of_ble_eq_true rfl)) | ((with_reducible show List.length [] ≤ _); (exact Nat.zero_le _)) | assumption | omega | (focus (simp; done)) | (focus (simp; omega)))
local macro_rules | `(tactic| walk_at "op") => `(tactic| first
  | with_reducible exact add_int _ _
  | with_reducible exact eq_ints _ _
  | with_reducible exact ne_ints _ _
  | with_reducible exact int_f (sub_ok _ _)
  | ((with_reducible apply int_f (mod_pos _)); first | decide | assumption | omega)
  | ((with_reducible refine' int_f (fdiv_pos ?_)); first | decide | assumption | omega)
  | ((with_reducible refine' mul_int (mul_l ?_)); first | decide | assumption | omega)
  | ((with_reducible refine' mul_int (mul_r ?_)); first | decide | assumption | omega)
  | ((with_reducible apply divmod_ok); first | decide | assumption | omega)
  | ((with_reducible apply add_lst); (walk_at "sz"))
  | ((with_reducible apply add_tup); (walk_at "sz"))
  | ((with_reducible apply add_str); (walk_at "sz"))
  | ((with_reducible apply len_str); (walk_at "sz"))
  | ((with_reducible apply opApp); (walk_at "sz"))
  | ((with_reducible apply ext_ok); (walk_at "sz"))
  | with_reducible assumption
  | ((with_reducible apply rng1_ok); (walk_at "sz"))
  | exact rfl)
local macro_rules | `(tactic| walk_at "w1") => `(tactic| first
  | ((with_reducible apply wp_var); (walk_at "ga"))
  | with_reducible apply wp_const
  | with_reducible apply wp_seqS
  | with_reducible apply wp_setS
  | with_reducible apply wp_ownS
  | with_reducible apply wp_retS
  | with_reducible apply wp_ifS
  | with_reducible apply wp_nopS
  | with_reducible apply wp_exprS
  | with_reducible apply wp_noR
  | ((with_reducible apply put_v); (walk_at "ga"); (first | exact rfl | assumption); (walk_at "sa"))
  | ((with_reducible apply put_o); (walk_at "ga"); (first | exact rfl | assumption); (walk_at "sa"))
  | with_reducible apply wp_op2
  | with_reducible apply wp_op1
  | with_reducible apply wp_consA
  | with_reducible apply wp_nilA
  | with_reducible apply wp_yesT
  | ((with_reducible apply wp_slotA); (walk_at "ga"); (exact rfl))
  | with_reducible apply wp_boolG
  | with_reducible apply wp_truthG
  | with_reducible apply wp_notB
  | with_reducible apply wp_andB
  | with_reducible apply wp_orB
  | with_reducible apply wp_ifG
  | with_reducible apply wp_ofB
  | with_reducible apply wp_andG
  | with_reducible apply wp_orG
  | with_reducible apply wp_notG
  | with_reducible apply wp_call
  | ((with_reducible apply wp_args); (walk_at "ndp"); (walk_at "mk"))
  | ((with_reducible apply wp_wb); (walk_at "wb"))
  | with_reducible apply wp_bl
  | with_reducible apply wp_i1
  | with_reducible apply wp_i2
  | with_reducible apply wp_tp
  | ((with_reducible apply wp_vals); (walk_at "va"))
  | ((with_reducible apply wp_sz); (walk_at "sz"))
  | with_reducible apply wp_lstG
  | with_reducible apply wp_tupG
  | with_reducible apply wp_bltG
  | with_reducible apply wp_isiG
  | with_reducible apply wp_chainG
  | with_reducible apply wp_metG
  | with_reducible apply wp_metG0
  | with_reducible apply wp_mstr
  | with_reducible apply wp_mint
  | with_reducible apply wp_mlst
  | ((with_reducible apply wp_slotIxG); (walk_at "ga"); (exact rfl))
  | ((with_reducible apply six_any); (walk_at "ga"); (exact rfl))
  | ((with_reducible apply sst_any); (walk_at "ga"); (exact rfl))
  | ((with_reducible apply wp_slotLenG); (walk_at "ga"); (exact rfl))
  | ((with_reducible apply wp_lmutG); (walk_at "ga"); (exact rfl))
  | ((with_reducible apply lm_io); (walk_at "va"); (walk_at "ga"); (walk_at "op"); (walk_at "sa"))
  | ((with_reducible apply lm_own); (walk_at "va"); (walk_at "ga"); (walk_at "op"); (walk_at "sa"))
  | with_reducible apply wp_setIxS
  | ((with_reducible apply st_io); (walk_at "ga"); (walk_at "op"); (walk_at "sa"))
  | ((with_reducible apply st_own); (walk_at "ga"); (walk_at "op"); (walk_at "sa"))
  | with_reducible apply wp_catA
  | ((with_reducible apply wp_cat); (walk_at "cat"))
  | with_reducible apply wp_toldG
  | with_reducible apply wp_dispG
  | with_reducible apply pairs_cons
  | with_reducible apply pairs_nil
  | ((with_reducible apply wp_le15); (exact rfl))
  | with_reducible apply wp_iterG
  | with_reducible apply wp_rangeG
  | with_reducible apply wp_forS
  | with_reducible apply wp_asgS
  | with_reducible apply wp_parS
  | with_reducible apply wp_valK
  | with_reducible apply wp_ownK
  | with_reducible apply wp_nilK
  | with_reducible apply putPar_nil
  | with_reducible apply putPar_val
  | with_reducible apply putPar_own
  | with_reducible apply goT_n
  | with_reducible apply goT_t
  | with_reducible apply goT_of
  | with_reducible apply goTs_nil
  | with_reducible apply goTs_cons
  | ((with_reducible apply wp_frzO); (walk_at "ga"); (walk_at "sa"))
  | ((with_reducible apply wp_frzV); (walk_at "ga"))
  | ((with_reducible apply wp_retSlot); (walk_at "ga"); (walk_at "sa"))
  | with_reducible apply wp_retNS
  | with_reducible apply wp_brkS
  | with_reducible apply wp_cntS
  | with_reducible apply wp_raiseS
  | with_reducible apply wp_raiseVS
  | with_reducible apply wp_noP
  | with_reducible apply wp_someP
  | with_reducible apply wp_sliceG
  | with_reducible apply if_t
  | with_reducible apply if_f
  | with_reducible apply if_not
  | ((with_reducible apply if_rt); (exact rfl))
  | ((with_reducible apply if_rf); (exact rfl))
  | with_reducible apply wp_compG
  | ((with_reducible apply wp_wipe); (exact rfl); (walk_at "wip"))
  | ((with_reducible apply wp_back); (walk_at "bck"))
  | ((with_reducible apply wp_out); (walk_at "out"))
  | ((with_reducible apply wp_defV); (walk_at "pad"))
  | ((with_reducible apply wp_defO); (walk_at "pad"))
  | ((with_reducible apply wp_some); (walk_at "op")))
local macro_rules | `(tactic| walk_at "w") => `(tactic| repeat (walk_at "w1"))
theorem s0_str {x : Str} (h : x.length ≤ 1000) (hf : strF x = true) : S0 (.str x) := ⟨⟨_, rfl⟩, fun y hy => by cases hy; exact ⟨h, hf⟩⟩
theorem wd_F {x : Str} (h : Wd x) : strF x = true := strF_of fun c hc => by have := h.2 c hc; omega
theorem s0_wd {x : Str} (h : Wd x) : S0 (.str x) := s0_str (by have := h.1; omega) (wd_F h)
theorem s0_non : S0 .non := ⟨⟨_, rfl⟩, fun y hy => by cases hy⟩
theorem s0_int (i : Int) : S0 (.int i) := ⟨⟨_, rfl⟩, fun y hy => by cases hy⟩
theorem s0_bl (i : Bool) : S0 (.bl i) := ⟨⟨_, rfl⟩, fun y hy => by cases hy⟩
theorem s0_lst (xs : List D) : S0 (.lst xs) := ⟨⟨_, rfl⟩, fun y hy => by cases hy⟩
theorem s0_dct (xs : List (Key × D)) : S0 (.dct xs) := ⟨⟨_, rfl⟩, fun y hy => by cases hy⟩
theorem s0_tup (xs : List D) : S0 (.tup xs) := ⟨⟨_, rfl⟩, fun y hy => by cases hy⟩
theorem s1_0 {d : D} (h : S0 d) (n : ∀ xs, d ≠ .tup xs) : S1 d := ⟨h, fun xs hx => absurd hx (n xs)⟩
theorem s1_tup {xs : List D} (hl : xs.length ≤ 1000) (h : ∀ y ∈ xs, S0 y ∧ Pl 8 y) : S1 (.tup xs) := ⟨s0_tup _, fun ys hy => by cases hy; exact ⟨hl, h⟩⟩
/-- items that may stand in tuples -/
def SP (d : D) : Prop := S0 d ∧ Pl 8 d
theorem sp_wd {x : Str} (h : Wd x) : SP (.str x) := ⟨s0_wd h, pl_str (wd_F h)⟩
theorem sp_str {x : Str} (h : x.length ≤ 1000) (hf : strF x = true) : SP (.str x) := ⟨s0_str h hf, pl_str hf⟩
theorem s1_1 {a : D} (ha : SP a) : S1 (.tup [a]) := s1_tup (by simp) (by intro y hy; rcases List.mem_singleton.mp hy with rfl; exact ha)
theorem s1_2 {a b : D} (ha : SP a) (hb : SP b) : S1 (.tup [a, b]) := s1_tup (by simp) (by
  intro y hy
  simp only [List.mem_cons, List.not_mem_nil, or_false] at hy
  rcases hy with rfl | rfl; exact ha; exact hb)
theorem s1_3 {a b c : D} (ha : SP a) (hb : SP b) (hc : SP c) : S1 (.tup [a, b, c]) := s1_tup (by simp) (by
  intro y hy
  simp only [List.mem_cons, List.not_mem_nil, or_false] at hy
  rcases hy with rfl | rfl | rfl; exact ha; exact hb; exact hc)
theorem F_send : strF "send" = true := by decide +kernel
theorem F_read : strF "read" = true := by decide +kernel
theorem F_a : strF "a" = true := by decide +kernel
theorem F_b : strF "b" = true := by decide +kernel
theorem F_Send : strF "Send" = true := by decide +kernel
theorem F_sent : strF "sent" = true := by decide +kernel
theorem F_other : strF "other" = true := by decide +kernel
theorem F_order : strF "order" = true := by decide +kernel
theorem F_p : strF "p" = true := by decide +kernel
theorem F_q : strF "q" = true := by decide +kernel
theorem F_0 : strF "" = true := by decide +kernel
theorem F_name : strF "name" = true := by decide +kernel
theorem sp_send : SP (.str "send") := sp_str (by decide) F_send
theorem sp_read : SP (.str "read") := sp_str (by decide) F_read
theorem sp_p : SP (.str "p") := sp_str (by decide) F_p
theorem sp_q : SP (.str "q") := sp_str (by decide) F_q
theorem sp_nine : SP (.str (repS "a" (Int.toNat 9))) := sp_str (by decide +kernel) (by decide +kernel)
theorem all_nil {P : D → Prop} : ∀ d ∈ ([] : List D), P d := by simp
theorem all_cons {P : D → Prop} {x : D} {xs : List D} (h : P x) (t : ∀ d ∈ xs, P d) : ∀ d ∈ x :: xs, P d := by
  intro d hd
  rcases List.mem_cons.mp hd with rfl | hd
  · exact h
  · exact t d hd
theorem all_app {P : D → Prop} {xs ys : List D} (h : ∀ d ∈ xs, P d) (t : ∀ d ∈ ys, P d) : ∀ d ∈ xs ++ ys, P d := by
  intro d hd
  rcases List.mem_append.mp hd with hd | hd
  · exact h d hd
  · exact t d hd
theorem sp_non : SP .non := ⟨s0_non, pl_non⟩
theorem sp_int (i : Int) : SP (.int i) := ⟨s0_int i, pl_int⟩
theorem sp_t1 {x : Str} (hf : strF x = true) : SP (.tup [.str x]) := ⟨s0_tup _, (pl_tup (n := 0) (by intro y hy; rcases List.mem_singleton.mp hy with rfl; exact pl_str hf)).mono (by decide)⟩
theorem sp_l0 : SP (.lst []) := ⟨s0_lst _, (pl_lst (n := 0) (by simp)).mono (by decide)⟩
local macro_rules | `(tactic| walk_at "sp") => `(tactic| first
  | exact sp_wd ‹_› | exact sp_send | exact sp_read | exact sp_p | exact sp_q | exact sp_non | exact sp_int _ | exact sp_nine | exact sp_l0
  | exact sp_t1 F_send | exact sp_t1 F_a | exact sp_str (by decide) F_b | exact sp_str (by decide) F_Send | exact sp_str (by decide) F_sent | exact sp_str (by decide) F_other | exact sp_str (by decide) F_order | exact sp_str (by decide) F_0)
local macro_rules | `(tactic| walk_at "s1") => `(tactic| first
  | exact s1_0 (s0_wd ‹_›) (by intro _ h; cases h)
  | exact s1_0 s0_non (by intro _ h; cases h)
  | exact s1_0 (s0_bl _) (by intro _ h; cases h)
  | exact s1_0 (s0_int _) (by intro _ h; cases h)
  | exact s1_0 (s0_lst _) (by intro _ h; cases h)
  | exact s1_0 (s0_dct _) (by intro _ h; cases h)
  | exact s1_tup (by decide) all_nil
  | exact s1_1 (by walk_at "sp")
  | exact s1_2 (by walk_at "sp") (by walk_at "sp")
  | exact s1_3 (by walk_at "sp") (by walk_at "sp") (by walk_at "sp"))
theorem values_ok (a b c : Int) : ∃ vs a' c', (∀ d ∈ vs, S1 d) ∧ f_L_values [.io (dz a b c)] = .ok (.lst vs) [.io (dz a' b c')] := by
  have key : (f_L_values [.io (dz a b c)]).wp (fun d e => ∃ vs a' c', (∀ d ∈ vs, S1 d) ∧ d = .lst vs ∧ e = [.io (dz a' b c')]) noX := by
    unfold f_L_values
    walk_at "w"
    unfold b_L_values
    walk_at "w"
    obtain ⟨x, a1, c1, hx, h1⟩ := word_ok a b c
    refine wp_ok h1 ?_
    walk_at "w"
    obtain ⟨y, a2, c2, hy, h2⟩ := word_ok a1 b c1
    refine wp_ok h2 ?_
    walk_at "w"
    obtain ⟨z, a3, c3, hz, h3⟩ := word_ok a2 b c2
    refine wp_ok h3 ?_
    walk_at "w"
    refine ⟨_, a3, c3, ?_, rfl, rfl⟩
    repeat (first | (with_reducible apply all_app) | (with_reducible exact all_nil) | ((with_reducible apply all_cons); (walk_at "s1")))
  obtain ⟨d, e, h, x, a', c', h1, rfl, rfl⟩ := key.ex
  exact ⟨x, a', c', h1, h⟩
end LR

set_option linter.all false
set_option maxRecDepth 100000
set_option maxHeartbeats 4000000
set_option autoImplicit false
namespace LR
open PySem L2 L2.PV
local macro_rules | `(tactic| walk_at "ga") => `(tactic| ((repeat (with_reducible apply GetAt.succ)); with_reducible exact GetAt.zero))
local macro_rules | `(tactic| walk_at "sa") => `(tactic| ((repeat (with_reducible apply SetAt.succ)); with_reducible exact SetAt.zero))
local macro_rules | `(tactic| walk_at "va") => `(tactic| ((repeat (with_reducible apply ValsA.v)); with_reducible exact ValsA.nil))
local macro_rules | `(tactic| walk_at "mk") => `(tactic| ((repeat (first | (with_reducible apply MkA.v) | ((with_reducible apply MkA.s); (walk_at "ga"); (exact rfl)))); with_reducible exact MkA.nil))
local macro_rules | `(tactic| walk_at "wb") => `(tactic| ((repeat (first | (with_reducible apply WbA.v) | ((with_reducible apply wba_io); (walk_at "ga"); (walk_at "sa")) | ((with_reducible apply wba_own); (walk_at "ga"); (walk_at "sa")))); with_reducible exact WbA.nil))
local macro_rules | `(tactic| walk_at "cat") => `(tactic| ((repeat (first | (with_reducible apply CatA.arg) | (with_reducible apply CatA.kw) | ((with_reducible apply CatA.dfl); (exact rfl)))); ((with_reducible apply CatA.nil); (exact rfl))))
local macro_rules | `(tactic| walk_at "pad") => `(tactic| ((repeat (first | (with_reducible apply Pad.cons) | (with_reducible apply Pad.un))); with_reducible exact Pad.nil))
local macro_rules | `(tactic| walk_at "out") => `(tactic| ((repeat (first | (with_reducible apply OutA.io) | (with_reducible apply OutA.val))); with_reducible exact OutA.nil))
local macro_rules | `(tactic| walk_at "wip") => `(tactic| ((repeat (first | ((with_reducible apply WipeA.hit); (exact rfl)) | ((with_reducible apply WipeA.miss); (exact rfl)))); with_reducible exact WipeA.nil))
local macro_rules | `(tactic| walk_at "bck") => `(tactic| ((repeat (first | ((with_reducible apply BackA.hit); (exact rfl)) | ((with_reducible apply BackA.miss); (exact rfl)))); with_reducible exact BackA.nil))
local macro_rules | `(tactic| walk_at "ndp") => `(tactic| first | exact List.nodup_nil | exact ndp1 | (focus (simp [slotsOf]; done)))
local macro_rules | `(tactic| walk_at "sz") => `(tactic| first | ((with_reducible show List.length (_ :: _) ≤ _); (exact Nat.le_of_ble_eq_true rfl)) | ((with_reducible show List.length [] ≤ _); (exact Nat.zero_le _)) | assumption | omega | (focus (simp; done)) | (focus (simp; omega)))
local macro_rules | `(tactic| walk_at "op") => `(tactic| first
  | with_reducible exact add_int _ _
  | with_reducible exact eq_ints _ _
  | with_reducible exact ne_ints _ _
  | with_reducible exact int_f (sub_ok _ _)
  | ((with_reducible apply int_f (mod_pos _)); first | decide | assumption | omega)
  | ((with_reducible refine' int_f (fdiv_pos ?_)); first | decide | assumption | omega)
  | ((with_reducible refine' mul_int (mul_l ?_)); first | decide | assumption | omega)
  | ((with_reducible refine' mul_int (mul_r ?_)); first | decide | assumption | omega)
  | ((with_reducible apply divmod_ok); first | decide | assumption | omega)
  | ((with_reducible apply add_lst); (walk_at "sz"))
  | ((with_reducible apply add_tup); (walk_at "sz"))
  | ((with_reducible apply add_str); (walk_at "sz"))
  | ((with_reducible apply len_str); (walk_at "sz"))
  | ((with_reducible apply opApp); (walk_at "sz"))
  | ((with_reducible apply ext_ok); (walk_at "sz"))
  | with_reducible assumption
  | ((with_reducible apply rng1_ok); (walk_at "sz"))
  | exact rfl)
local macro_rules | `(tactic| walk_at "w1") => `(tactic| first
  | ((with_reducible apply wp_var); (walk_at "ga"))
  | with_reducible apply wp_const
  | with_reducible apply wp_seqS
  | with_reducible apply wp_setS
  | with_reducible apply wp_ownS
  | with_reducible apply wp_retS
  | with_reducible apply wp_ifS
  | with_reducible apply wp_nopS
  | with_reducible apply wp_exprS
  | with_reducible apply wp_noR
  | ((with_reducible apply put_v); (walk_at "ga"); (first | exact rfl | assumption); (walk_at "sa"))
  | ((with_reducible apply put_o); (walk_at "ga"); (first | exact rfl | assumption); (walk_at "sa"))
  | with_reducible apply wp_op2
  | with_reducible apply wp_op1
  | with_reducible apply wp_consA
  | with_reducible apply wp_nilA
  | with_reducible apply wp_yesT
  | ((with_reducible apply wp_slotA); (walk_at "ga"); (exact rfl))
  | with_reducible apply wp_boolG
  | with_reducible apply wp_truthG
  | with_reducible apply wp_notB
  | with_reducible apply wp_andB
  | with_reducible apply wp_orB
  | with_reducible apply wp_ifG
  | with_reducible apply wp_ofB
  | with_reducible apply wp_andG
  | with_reducible apply wp_orG
  | with_reducible apply wp_notG
  | with_reducible apply wp_call
  | ((with_reducible apply wp_args); (walk_at "ndp"); (walk_at "mk"))
  | ((with_reducible apply wp_wb); (walk_at "wb"))
  | with_reducible apply wp_bl
  | with_reducible apply wp_i1
  | with_reducible apply wp_i2
  | with_reducible apply wp_tp
  | ((with_reducible apply wp_vals); (walk_at "va"))
  | ((with_reducible apply wp_sz); (walk_at "sz"))
  | with_reducible apply wp_lstG
  | with_reducible apply wp_tupG
  | with_reducible apply wp_bltG
  | with_reducible apply wp_isiG
  | with_reducible apply wp_chainG
  | with_reducible apply wp_metG
  | with_reducible apply wp_metG0
  | with_reducible apply wp_mstr
  | with_reducible apply wp_mint
  | with_reducible apply wp_mlst
  | ((with_reducible apply wp_slotIxG); (walk_at "ga"); (exact rfl))
  | ((with_reducible apply six_any); (walk_at "ga"); (exact rfl))
  | ((with_reducible apply sst_any); (walk_at "ga"); (exact rfl))
  | ((with_reducible apply wp_slotLenG); (walk_at "ga"); (exact rfl))
  | ((with_reducible apply wp_lmutG); (walk_at "ga"); (exact rfl))
  | ((with_reducible apply lm_io); (walk_at "va"); (walk_at "ga"); (walk_at "op"); (walk_at "sa"))
  | ((with_reducible apply lm_own); (walk_at "va"); (walk_at "ga"); (walk_at "op"); (walk_at "sa"))
  | with_reducible apply wp_setIxS
  | ((with_reducible apply st_io); (walk_at "ga"); (walk_at "op"); (walk_at "sa"))
  | ((with_reducible apply st_own); (walk_at "ga"); (walk_at "op"); (walk_at "sa"))
  | with_reducible apply wp_catA
  | ((with_reducible apply wp_cat); (walk_at "cat"))
  | with_reducible apply wp_toldG
  | with_reducible apply wp_dispG
  | with_reducible apply pairs_cons
  | with_reducible apply pairs_nil
  | ((with_reducible apply wp_le15); (exact rfl))
  | with_reducible apply wp_iterG
  | with_reducible apply wp_rangeG
  | with_reducible apply wp_forS
  | with_reducible apply wp_asgS
  | with_reducible apply wp_parS
  | with_reducible apply wp_valK
  | with_reducible apply wp_ownK
  | with_reducible apply wp_nilK
  | with_reducible apply putPar_nil
  | with_reducible apply putPar_val
  | with_reducible apply putPar_own
  | with_reducible apply goT_n
  | with_reducible apply goT_t
  | with_reducible apply goT_of
  | with_reducible apply goTs_nil
  | with_reducible apply goTs_cons
  | ((with_reducible apply wp_frzO); (walk_at "ga"); (walk_at "sa"))
  | ((with_reducible apply wp_frzV); (walk_at "ga"))
  | ((with_reducible apply wp_retSlot); (walk_at "ga"); (walk_at "sa"))
  | with_reducible apply wp_retNS
  | with_reducible apply wp_brkS
  | with_reducible apply wp_cntS
  | with_reducible apply wp_raiseS
  | with_reducible apply wp_raiseVS
  | with_reducible apply wp_noP
  | with_reducible apply wp_someP
  | with_reducible apply wp_sliceG
  | with_reducible apply if_t
  | with_reducible apply if_f
  | with_reducible apply if_not
  | ((with_reducible apply if_rt); (exact rfl))
  | ((with_reducible apply if_rf); (exact rfl))
  | with_reducible apply wp_compG
  | ((with_reducible apply wp_wipe); (exact rfl); (walk_at "wip"))
  | ((with_reducible apply wp_back); (walk_at "bck"))
  | ((with_reducible apply wp_out); (walk_at "out"))
  | ((with_reducible apply wp_defV); (walk_at "pad"))
  | ((with_reducible apply wp_defO); (walk_at "pad"))
  | ((with_reducible apply wp_some); (walk_at "op")))
local macro_rules | `(tactic| walk_at "w") => `(tactic| repeat (walk_at "w1"))
theorem told_name : tf_L_told (.inr ⟨.own "InvalidName", none⟩) = some (.str "name") := by rfl
def swapS (x : Str) : Str := if x = "send" then "read" else "send"
theorem ev_form {d : D} (h : isEv d = true) : ∃ x y, d = .tup [.str x, .str y] ∧ (x = "send" ∨ x = "read") ∧ nmS y = true := by
  cases d with
  | tup xs =>
    match xs, h with
    | [a, b], h =>
      have h : (memS sr a && isNm b) = true := h
      rw [Bool.and_eq_true] at h
      cases a with
      | str x =>
        cases b with
        | str y =>
          have hm : x ∈ sr := of_decide_eq_true h.1
          simp only [sr, List.mem_cons, List.not_mem_nil, or_false] at hm
          exact ⟨x, y, rfl, hm, h.2⟩
        | _ => cases h.2
      | _ => cases h.1
    | [], h => cases h
    | [_], h => cases h
    | _ :: _ :: _ :: _, h => cases h
  | _ => cases h
theorem other_in_eq {x y : Str} (hx : x = "send" ∨ x = "read") : f_other_in [.val (.tup [.str x, .str y])] = .ok (.tup [.str (swapS x), .str y]) [.val (.tup [.str x, .str y])] := by
  apply Res.wp.eq
  unfold f_other_in
  walk_at "w"
  unfold b_other_in
  walk_at "w"
  unfold d_SEND
  walk_at "w"
  refine wp_some (eq_strs ?_ F_send) ?_
  · rcases hx with rfl | rfl; exact F_send; exact F_read
  walk_at "w"
  unfold d_READ
  refine if_dec (fun h => ?_) (fun h => ?_) <;> walk_at "w"
  · subst h; exact ⟨rfl, rfl⟩
  · refine ⟨?_, rfl⟩
    unfold swapS
    rw [if_neg h]
theorem other_event_ev {x y : Str} (h : S1 (.tup [.str x, .str y])) (hx : x = "send" ∨ x = "read") (hn : nmS y = true) : f_other_event [.val (.tup [.str x, .str y])] = .ok (.tup [.str (swapS x), .str y]) [.val (.tup [.str x, .str y])] := by
  apply Res.wp.eq
  unfold f_other_event
  walk_at "w"
  unfold b_other_event
  walk_at "w"
  refine wp_ok (is_event_eq h) ?_
  walk_at "w"
  refine if_rt ?_ ?_
  · show (decide (x ∈ sr) && nmS y) = true
    rw [hn, decide_eq_true (by simpa [sr] using hx)]; rfl
  walk_at "w"
  refine wp_ok (other_in_eq hx) ?_
  walk_at "w"
  exact ⟨rfl, rfl⟩
theorem other_event_no {d : D} (h : S1 d) (hx : isEv d = false) : f_other_event [.val d] = .exc ⟨.own "InvalidName", none⟩ [.val d] := by
  have key : (f_other_event [.val d]).wp (fun _ _ => False) (fun x e => x = ⟨.own "InvalidName", none⟩ ∧ e = [.val d]) := by
    unfold f_other_event
    walk_at "w"
    unfold b_other_event
    walk_at "w"
    refine wp_ok (is_event_eq h) ?_
    walk_at "w"
    refine if_rf hx ?_
    walk_at "w"
    exact ⟨rfl, rfl⟩
  exact key.exq
theorem repr3 (b1 b2 b3 : Bool) : ∃ s, reprD [.lst [.bl b1, .bl b2, .bl b3]] = some (.str s) ∧ strF s = true := by
  cases b1 <;> cases b2 <;> cases b3 <;> exact ⟨_, rfl, by decide +kernel⟩
theorem right_for (a b c : Int) (R : D → En → Prop) (X : Ex → En → Prop) (B C N : En → Prop) (hN : ∀ a c s1 s2 s3, s1.isIo = false → s2.isIo = false → s3.isIo = false → N [.io (dz a b c), s1, s2, s3, .un, .un, .un, .un, .un, .un, .un]) :
    ((forS (iterG (callG f_L_values (slotA 0 nilA))) (tgN 1) (seqS (ownS 2 (lstG (consA (callG f_is_name (consA (varG 1) nilA)) (consA (callG f_is_event (consA (varG 1) nilA)) (consA (callG f_is_letter (consA (varG 1) nilA)) nilA)))))
    (seqS (frzS 2 (ifS (boolG (op2G neD (bltG reprD (consA (varG 2) nilA)) (bltG reprD (consA (lstG (consA (callG f_L_is_name (consA (varG 1) nilA)) (consA (callG f_L_is_event (consA (varG 1) nilA)) (consA (callG f_L_is_letter (consA (varG 1) nilA)) nilA)))) nilA)))) (retS (constG (.bl false))) nopS))
    (seqS (setS 3 (constG (.str "name")))
    (seqS (ifS (truthG (callG f_L_is_event (consA (varG 1) nilA))) (setS 3 (tupG (consA (op2G ixD (dispG [((constG (.str "send")), (constG (.str "read"))), ((constG (.str "read")), (constG (.str "send")))]) (op2G ixD (varG 1) (constG (.int 0)))) (consA (op2G ixD (varG 1) (constG (.int 1))) nilA)))) nopS)
    (ifS (boolG (op2G neD (toldG tf_L_told (callG f_other_event (consA (varG 1) nilA))) (varG 3))) (retS (constG (.bl false))) nopS)))))) [.io (dz a b c), .un, .un, .un, .un, .un, .un, .un, .un, .un, .un]).wp N R X B C := by
  walk_at "w"
  obtain ⟨vs, a1, c1, hv, h1⟩ := values_ok a b c
  refine wp_ok h1 ?_
  walk_at "w"
  refine wp_forL (fun pre e => ∃ a c s1 s2 s3, s1.isIo = false ∧ s2.isIo = false ∧ s3.isIo = false ∧ e = [.io (dz a b c), s1, s2, s3, .un, .un, .un, .un, .un, .un, .un]) ?_ ⟨_, _, _, _, _, rfl, rfl, rfl, rfl⟩ ?_
  · rintro pre d e ⟨post, hp⟩ ⟨a, c, s1, s2, s3, g1, g2, g3, rfl⟩
    have hd : S1 d := hv d (by rw [hp]; simp)
    walk_at "w"
    refine wp_ok (is_name_eq hd.1) ?_
    walk_at "w"
    refine wp_ok (is_event_eq hd) ?_
    walk_at "w"
    refine wp_ok (is_letter_eq hd) ?_
    walk_at "w"
    obtain ⟨s, hs1, hs2⟩ := repr3 (isNm d) (isEv d) (isLt d)
    refine wp_some hs1 ?_
    walk_at "w"
    refine wp_ok (L_is_name_eq hd.1) ?_
    walk_at "w"
    refine wp_ok (L_is_event_eq hd) ?_
    walk_at "w"
    refine wp_ok (L_is_letter_eq hd) ?_
    walk_at "w"
    refine wp_some (ne_strs hs2 hs2) ?_
    walk_at "w"
    refine if_yes rfl ?_
    walk_at "w"
    refine wp_ok (L_is_event_eq hd) ?_
    walk_at "w"
    cases hev : isEv d with
    | true =>
      walk_at "w"
      obtain ⟨x, y, rfl, hx, hn⟩ := ev_form hev
      walk_at "w"
      refine wp_some (a := .str (swapS x)) (by rcases hx with rfl | rfl <;> rfl) ?_
      walk_at "w"
      refine wp_ok (other_event_ev hd hx hn) ?_
      walk_at "w"
      have hsw : strF (swapS x) = true := by
        rcases hx with rfl | rfl
        · exact F_read
        · exact F_send
      refine wp_some (ne_self (pl_2 (n := 0) (pl_str hsw) (pl_str (nm_low hn))) (by decide)) ?_
      walk_at "w"
      exact ⟨_, _, _, _, _, rfl, rfl, rfl, rfl⟩
    | false =>
      walk_at "w"
      refine wp_exc (other_event_no hd hev) ?_
      walk_at "w"
      refine wp_some (ne_strs F_name F_name) ?_
      walk_at "w"
      exact ⟨_, _, _, _, _, rfl, rfl, rfl, rfl⟩
  · rintro e ⟨a, c, s1, s2, s3, g1, g2, g3, rfl⟩
    exact hN _ _ _ _ _ g1 g2 g3
end LR

set_option linter.all false
set_option maxRecDepth 100000
set_option maxHeartbeats 4000000
set_option autoImplicit false
namespace LR
open PySem L2 L2.PV
local macro_rules | `(tactic| walk_at "ga") => `(tactic| ((repeat (with_reducible apply GetAt.succ)); with_reducible exact GetAt.zero))
local macro_rules | `(tactic| walk_at "sa") => `(tactic| ((repeat (with_reducible apply SetAt.succ)); with_reducible exact SetAt.zero))
local macro_rules | `(tactic| walk_at "va") => `(tactic| ((repeat (with_reducible apply ValsA.v)); with_reducible exact ValsA.nil))
local macro_rules | `(tactic| walk_at "mk") => `(tactic| ((repeat (first | (with_reducible apply MkA.v) | ((with_reducible apply MkA.s); (walk_at "ga"); (exact rfl)))); with_reducible exact MkA.nil))
local macro_rules | `(tactic| walk_at "wb") => `(tactic| ((repeat (first | (with_reducible apply WbA.v) | ((with_reducible apply wba_io); (walk_at "ga"); (walk_at "sa")) | ((with_reducible apply wba_own); (walk_at "ga"); (walk_at "sa")))); with_reducible exact WbA.nil))
local macro_rules | `(tactic| walk_at "cat") => `(tactic| ((repeat (first | (with_reducible apply CatA.arg) | (with_reducible apply CatA.kw) | ((with_reducible apply CatA.dfl); (exact rfl)))); ((with_reducible apply CatA.nil); (exact rfl))))
local macro_rules | `(tactic| walk_at "pad") => `(tactic| ((repeat (first | (with_reducible apply Pad.cons) | (with_reducible apply Pad.un))); with_reducible exact Pad.nil))
local macro_rules | `(tactic| walk_at "out") => `(tactic| ((repeat (first | (with_reducible apply OutA.io) | (with_reducible apply OutA.val))); with_reducible exact OutA.nil))
local macro_rules | `(tactic| walk_at "wip") => `(tactic| ((repeat (first | ((with_reducible apply WipeA.hit); (exact rfl)) | ((with_reducible apply WipeA.miss); (exact rfl)))); with_reducible exact WipeA.nil))
local macro_rules | `(tactic| walk_at "bck") => `(tactic| ((repeat (first | ((with_reducible apply BackA.hit); (exact rfl)) | ((with_reducible apply BackA.miss); (exact rfl)))); with_reducible exact BackA.nil))
local macro_rules | `(tactic| walk_at "ndp") => `(tactic| first | exact List.nodup_nil | exact ndp1 | (focus (simp [slotsOf]; done)))
local macro_rules | `(tactic| walk_at "sz") => `(tactic| first | ((with_reducible show List.length (_ :: _) ≤ _); (exact Nat.le_of_ble_eq_true rfl)) | ((with_reducible show List.length [] ≤ _); (exact Nat.zero_le _)) | assumption | omega | (focus (simp; done)) | (focus (simp; omega)))
local macro_rules | `(tactic| walk_at "op") => `(tactic| first
  | with_reducible exact add_int _ _
  | with_reducible exact eq_ints _ _
  | with_reducible exact ne_ints _ _
  | with_reducible exact int_f (sub_ok _ _)
  | ((with_reducible apply int_f (mod_pos _)); first | decide | assumption | omega)
  | ((with_reducible refine' int_f (fdiv_pos ?_)); first | decide | assumption | omega)
  | ((with_reducible refine' mul_int (mul_l ?_)); first | decide | assumption | omega)
  | ((with_reducible refine' mul_int (mul_r ?_)); first | decide | assumption | omega)
  | ((with_reducible apply divmod_ok); first | decide | assumption | omega)
  | ((with_reducible apply add_lst); (walk_at "sz"))
  | ((with_reducible apply add_tup); (walk_at "sz"))
  | ((with_reducible apply add_str); (walk_at "sz"))
  | ((with_reducible apply len_str); (walk_at "sz"))
  | ((with_reducible apply opApp); (walk_at "sz"))
  | ((with_reducible apply ext_ok); (walk_at "sz"))
  | with_reducible assumption
  | ((with_reducible apply rng1_ok); (walk_at "sz"))
  | exact rfl)
local macro_rules | `(tactic| walk_at "w1") => `(tactic| first
  | ((with_reducible apply wp_var); (walk_at "ga"))
  | with_reducible apply wp_const
  | with_reducible apply wp_seqS
  | with_reducible apply wp_setS
  | with_reducible apply wp_ownS
  | with_reducible apply wp_retS
  | with_reducible apply wp_ifS
  | with_reducible apply wp_nopS
  | with_reducible apply wp_exprS
  | with_reducible apply wp_noR
  | ((with_reducible apply put_v); (walk_at "ga"); (first | exact rfl | assumption); (walk_at "sa"))
  | ((with_reducible apply put_o); (walk_at "ga"); (first | exact rfl | assumption); (walk_at "sa"))
  | with_reducible apply wp_op2
  | with_reducible apply wp_op1
  | with_reducible apply wp_consA
  | with_reducible apply wp_nilA
  | with_reducible apply wp_yesT
  | ((with_reducible apply wp_slotA); (walk_at "ga"); (exact rfl))
  | with_reducible apply wp_boolG
  | with_reducible apply wp_truthG
  | with_reducible apply wp_notB
  | with_reducible apply wp_andB
  | with_reducible apply wp_orB
  | with_reducible apply wp_ifG
  | with_reducible apply wp_ofB
  | with_reducible apply wp_andG
  | with_reducible apply wp_orG
  | with_reducible apply wp_notG
  | with_reducible apply wp_call
  | ((with_reducible apply wp_args); (walk_at "ndp"); (walk_at "mk"))
  | ((with_reducible apply wp_wb); (walk_at "wb"))
  | with_reducible apply wp_bl
  | with_reducible apply wp_i1
  | with_reducible apply wp_i2
  | with_reducible apply wp_tp
  | ((with_reducible apply wp_vals); (walk_at "va"))
  | ((with_reducible apply wp_sz); (walk_at "sz"))
  | with_reducible apply wp_lstG
  | with_reducible apply wp_tupG
  | with_reducible apply wp_bltG
  | with_reducible apply wp_isiG
  | with_reducible apply wp_chainG
  | with_reducible apply wp_metG
  | with_reducible apply wp_metG0
  | with_reducible apply wp_mstr
  | with_reducible apply wp_mint
  | with_reducible apply wp_mlst
  | ((with_reducible apply wp_slotIxG); (walk_at "ga"); (exact rfl))
  | ((with_reducible apply six_any); (walk_at "ga"); (exact rfl))
  | ((with_reducible apply sst_any); (walk_at "ga"); (exact rfl))
  | ((with_reducible apply wp_slotLenG); (walk_at "ga"); (exact rfl))
  | ((with_reducible apply wp_lmutG); (walk_at "ga"); (exact rfl))
  | ((with_reducible apply lm_io); (walk_at "va"); (walk_at "ga"); (walk_at "op"); (walk_at "sa"))
  | ((with_reducible apply lm_own); (walk_at "va"); (walk_at "ga"); (walk_at "op"); (walk_at "sa"))
  | with_reducible apply wp_setIxS
  | ((with_reducible apply st_io); (walk_at "ga"); (walk_at "op"); (walk_at "sa"))
  | ((with_reducible apply st_own); (walk_at "ga"); (walk_at "op"); (walk_at "sa"))
  | with_reducible apply wp_catA
  | ((with_reducible apply wp_cat); (walk_at "cat"))
  | with_reducible apply wp_toldG
  | with_reducible apply wp_dispG
  | with_reducible apply pairs_cons
  | with_reducible apply pairs_nil
  | ((with_reducible apply wp_le15); (exact rfl))
  | with_reducible apply wp_iterG
  | with_reducible apply wp_rangeG
  | with_reducible apply wp_forS
  | with_reducible apply wp_asgS
  | with_reducible apply wp_parS
  | with_reducible apply wp_valK
  | with_reducible apply wp_ownK
  | with_reducible apply wp_nilK
  | with_reducible apply putPar_nil
  | with_reducible apply putPar_val
  | with_reducible apply putPar_own
  | with_reducible apply goT_n
  | with_reducible apply goT_t
  | with_reducible apply goT_of
  | with_reducible apply goTs_nil
  | with_reducible apply goTs_cons
  | ((with_reducible apply wp_frzO); (walk_at "ga"); (walk_at "sa"))
  | ((with_reducible apply wp_frzV); (walk_at "ga"))
  | ((with_reducible apply wp_retSlot); (walk_at "ga"); (walk_at "sa"))
  | with_reducible apply wp_retNS
  | with_reducible apply wp_brkS
  | with_reducible apply wp_cntS
  | with_reducible apply wp_raiseS
  | with_reducible apply wp_raiseVS
  | with_reducible apply wp_noP
  | with_reducible apply wp_someP
  | with_reducible apply wp_sliceG
  | with_reducible apply if_t
  | with_reducible apply if_f
  | with_reducible apply if_not
  | ((with_reducible apply if_rt); (exact rfl))
  | ((with_reducible apply if_rf); (exact rfl))
  | with_reducible apply wp_compG
  | ((with_reducible apply wp_wipe); (exact rfl); (walk_at "wip"))
  | ((with_reducible apply wp_back); (walk_at "bck"))
  | ((with_reducible apply wp_out); (walk_at "out"))
  | ((with_reducible apply wp_defV); (walk_at "pad"))
  | ((with_reducible apply wp_defO); (walk_at "pad"))
  | ((with_reducible apply wp_some); (walk_at "op")))
local macro_rules | `(tactic| walk_at "w") => `(tactic| repeat (walk_at "w1"))
theorem alpha_list : alpha.cps.toList = List.range' 97 26 := by decide +kernel
theorem alpha_len : lenD [.str alpha] = some (.int 26) := by rfl
theorem alpha_ix {k : Nat} (hk : k < 26) : ixD (.str alpha) (.int k) = some (.str (sgn (97 + k))) := by
  have hz : szOk alpha.length = true := by unfold szOk; exact decide_eq_true (sz_ok (by decide +kernel))
  show (if szOk alpha.length = true then (atI alpha.cps.toList k).map fun c => D.str (sgn c) else none) = _
  rw [if_pos hz, alpha_list, atI_nat (x := 97 + k)]; rfl
  rw [List.getElem?_range'] <;> simp [hk]
/-- the names by their numbers, of one sign and of two -/
def nmN (n : Nat) : Str := if n < 26 then sgn (97 + n) else ⟨#[97 + (n / 26 - 1), 97 + n % 26]⟩
theorem al_len : ((alpha.length : Nat) : Int) = 26 := by decide +kernel
theorem one_len (k : Nat) : (sgn k).length = 1 := rfl
theorem add_sgn (k : Nat) {x : Str} (h : x.length ≤ 100) : addV (.str (sgn k)) (.str x) = some (.str (sgn k ++ x)) := add_str (by rw [one_len]; omega)
theorem name_number_eq {n : Nat} (h : n < 702) : f_name_number [.val (.int n)] = .ok (.str (nmN n)) [.val (.int n)] := by
  apply Res.wp.eq
  unfold f_name_number
  walk_at "w"
  unfold b_name_number
  walk_at "w"
  unfold d_ALPHABET
  refine wp_whileU ?_
  walk_at "w"
  refine if_yes (by omega) ?_
  walk_at "w"
  rw [al_len]
  rw [show ((n : Int) + 1 - 1) % 26 = ((n % 26 : Nat) : Int) by omega, show ((n : Int) + 1 - 1) / 26 = ((n / 26 : Nat) : Int) by omega]
  refine wp_some (alpha_ix (Nat.mod_lt _ (by decide))) ?_
  walk_at "w"
  refine wp_whileU ?_
  walk_at "w"
  refine if_dec (fun h1 => ?_) (fun h1 => ?_) <;> walk_at "w"
  · rw [al_len]
    rw [show ((n / 26 : Nat) - 1 : Int) % 26 = ((n / 26 - 1 : Nat) : Int) by omega, show ((n / 26 : Nat) - 1 : Int) / 26 = 0 by omega]
    refine wp_some (alpha_ix (k := n / 26 - 1) (by omega)) ?_
    walk_at "w"
    refine wp_whileU ?_
    walk_at "w"
    refine ⟨?_, rfl⟩
    unfold nmN
    rw [if_neg (by omega)]
    rfl
  · refine ⟨?_, rfl⟩
    unfold nmN
    rw [if_pos (by omega), Nat.mod_eq_of_lt (by omega)]
    rfl
end LR

set_option linter.all false
set_option maxRecDepth 100000
set_option maxHeartbeats 4000000
set_option autoImplicit false
namespace LR
open PySem L2 L2.PV
local macro_rules | `(tactic| walk_at "ga") => `(tactic| ((repeat (with_reducible apply GetAt.succ)); with_reducible exact GetAt.zero))
local macro_rules | `(tactic| walk_at "sa") => `(tactic| ((repeat (with_reducible apply SetAt.succ)); with_reducible exact SetAt.zero))
local macro_rules | `(tactic| walk_at "va") => `(tactic| ((repeat (with_reducible apply ValsA.v)); with_reducible exact ValsA.nil))
local macro_rules | `(tactic| walk_at "mk") => `(tactic| ((repeat (first | (with_reducible apply MkA.v) | ((with_reducible apply MkA.s); (walk_at "ga"); (exact rfl)))); with_reducible exact MkA.nil))
local macro_rules | `(tactic| walk_at "wb") => `(tactic| ((repeat (first | (with_reducible apply WbA.v) | ((with_reducible apply wba_io); (walk_at "ga"); (walk_at "sa")) | ((with_reducible apply wba_own); (walk_at "ga"); (walk_at "sa")))); with_reducible exact WbA.nil))
local macro_rules | `(tactic| walk_at "cat") => `(tactic| ((repeat (first | (with_reducible apply CatA.arg) | (with_reducible apply CatA.kw) | ((with_reducible apply CatA.dfl); (exact rfl)))); ((with_reducible apply CatA.nil); (exact rfl))))
local macro_rules | `(tactic| walk_at "pad") => `(tactic| ((repeat (first | (with_reducible apply Pad.cons) | (with_reducible apply Pad.un))); with_reducible exact Pad.nil))
local macro_rules | `(tactic| walk_at "out") => `(tactic| ((repeat (first | (with_reducible apply OutA.io) | (with_reducible apply OutA.val))); with_reducible exact OutA.nil))
local macro_rules | `(tactic| walk_at "wip") => `(tactic| ((repeat (first | ((with_reducible apply WipeA.hit); (exact rfl)) | ((with_reducible apply WipeA.miss); (exact rfl)))); with_reducible exact WipeA.nil))
local macro_rules | `(tactic| walk_at "bck") => `(tactic| ((repeat (first | ((with_reducible apply BackA.hit); (exact rfl)) | ((with_reducible apply BackA.miss); (exact rfl)))); with_reducible exact BackA.nil))
local macro_rules | `(tactic| walk_at "ndp") => `(tactic| first | exact List.nodup_nil | exact ndp1 | (focus (simp [slotsOf]; done)))
local macro_rules | `(tactic| walk_at "sz") => `(tactic| first | ((with_reducible show List.length (_ :: _) ≤ _); (exact Nat.le_of_ble_eq_true rfl)) | ((with_reducible show List.length [] ≤ _); (exact Nat.zero_le _)) | assumption | omega | (focus (simp; done)) | (focus (simp; omega)))
local macro_rules | `(tactic| walk_at "op") => `(tactic| first
  | with_reducible exact add_int _ _
  | with_reducible exact eq_ints _ _
  | with_reducible exact ne_ints _ _
  | with_reducible exact int_f (sub_ok _ _)
  | ((with_reducible apply int_f (mod_pos _)); first | decide | assumption | omega)
  | ((with_reducible refine' int_f (fdiv_pos ?_)); first | decide | assumption | omega)
  | ((with_reducible refine' mul_int (mul_l ?_)); first | decide | assumption | omega)
  | ((with_reducible refine' mul_int (mul_r ?_)); first | decide | assumption | omega)
  | ((with_reducible apply divmod_ok); first | decide | assumption | omega)
  | ((with_reducible apply add_lst); (walk_at "sz"))
  | ((with_reducible apply add_tup); (walk_at "sz"))
  | ((with_reducible apply add_str); (walk_at "sz"))
  | ((with_reducible apply len_str); (walk_at "sz"))
  | ((with_reducible apply opApp); (walk_at "sz"))
  | ((with_reducible apply ext_ok); (walk_at "sz"))
  | with_reducible assumption
  | ((with_reducible apply rng1_ok); (walk_at "sz"))
  | exact rfl)
local macro_rules | `(tactic| walk_at "w1") => `(tactic| first
  | ((with_reducible apply wp_var); (walk_at "ga"))
  | with_reducible apply wp_const
  | with_reducible apply wp_seqS
  | with_reducible apply wp_setS
  | with_reducible apply wp_ownS
  | with_reducible apply wp_retS
  | with_reducible apply wp_ifS
  | with_reducible apply wp_nopS
  | with_reducible apply wp_exprS
  | with_reducible apply wp_noR
  | ((with_reducible apply put_v); (walk_at "ga"); (first | exact rfl | assumption); (walk_at "sa"))
  | ((with_reducible apply put_o); (walk_at "ga"); (first | exact rfl | assumption); (walk_at "sa"))
  | with_reducible apply wp_op2
  | with_reducible apply wp_op1
  | with_reducible apply wp_consA
  | with_reducible apply wp_nilA
  | with_reducible apply wp_yesT
  | ((with_reducible apply wp_slotA); (walk_at "ga"); (exact rfl))
  | with_reducible apply wp_boolG
  | with_reducible apply wp_truthG
  | with_reducible apply wp_notB
  | with_reducible apply wp_andB
  | with_reducible apply wp_orB
  | with_reducible apply wp_ifG
  | with_reducible apply wp_ofB
  | with_reducible apply wp_andG
  | with_reducible apply wp_orG
  | with_reducible apply wp_notG
  | with_reducible apply wp_call
  | ((with_reducible apply wp_args); (walk_at "ndp"); (walk_at "mk"))
  | ((with_reducible apply wp_wb); (walk_at "wb"))
  | with_reducible apply wp_bl
  | with_reducible apply wp_i1
  | with_reducible apply wp_i2
  | with_reducible apply wp_tp
  | ((with_reducible apply wp_vals); (walk_at "va"))
  | ((with_reducible apply wp_sz); (walk_at "sz"))
  | with_reducible apply wp_lstG
  | with_reducible apply wp_tupG
  | with_reducible apply wp_bltG
  | with_reducible apply wp_isiG
  | with_reducible apply wp_chainG
  | with_reducible apply wp_metG
  | with_reducible apply wp_metG0
  | with_reducible apply wp_mstr
  | with_reducible apply wp_mint
  | with_reducible apply wp_mlst
  | ((with_reducible apply wp_slotIxG); (walk_at "ga"); (exact rfl))
  | ((with_reducible apply six_any); (walk_at "ga"); (exact rfl))
  | ((with_reducible apply sst_any); (walk_at "ga"); (exact rfl))
  | ((with_reducible apply wp_slotLenG); (walk_at "ga"); (exact rfl))
  | ((with_reducible apply wp_lmutG); (walk_at "ga"); (exact rfl))
  | ((with_reducible apply lm_io); (walk_at "va"); (walk_at "ga"); (walk_at "op"); (walk_at "sa"))
  | ((with_reducible apply lm_own); (walk_at "va"); (walk_at "ga"); (walk_at "op"); (walk_at "sa"))
  | with_reducible apply wp_setIxS
  | ((with_reducible apply st_io); (walk_at "ga"); (walk_at "op"); (walk_at "sa"))
  | ((with_reducible apply st_own); (walk_at "ga"); (walk_at "op"); (walk_at "sa"))
  | with_reducible apply wp_catA
  | ((with_reducible apply wp_cat); (walk_at "cat"))
  | with_reducible apply wp_toldG
  | with_reducible apply wp_dispG
  | with_reducible apply pairs_cons
  | with_reducible apply pairs_nil
  | ((with_reducible apply wp_le15); (exact rfl))
  | with_reducible apply wp_iterG
  | with_reducible apply wp_rangeG
  | with_reducible apply wp_forS
  | with_reducible apply wp_asgS
  | with_reducible apply wp_parS
  | with_reducible apply wp_valK
  | with_reducible apply wp_ownK
  | with_reducible apply wp_nilK
  | with_reducible apply putPar_nil
  | with_reducible apply putPar_val
  | with_reducible apply putPar_own
  | with_reducible apply goT_n
  | with_reducible apply goT_t
  | with_reducible apply goT_of
  | with_reducible apply goTs_nil
  | with_reducible apply goTs_cons
  | ((with_reducible apply wp_frzO); (walk_at "ga"); (walk_at "sa"))
  | ((with_reducible apply wp_frzV); (walk_at "ga"))
  | ((with_reducible apply wp_retSlot); (walk_at "ga"); (walk_at "sa"))
  | with_reducible apply wp_retNS
  | with_reducible apply wp_brkS
  | with_reducible apply wp_cntS
  | with_reducible apply wp_raiseS
  | with_reducible apply wp_raiseVS
  | with_reducible apply wp_noP
  | with_reducible apply wp_someP
  | with_reducible apply wp_sliceG
  | with_reducible apply if_t
  | with_reducible apply if_f
  | with_reducible apply if_not
  | ((with_reducible apply if_rt); (exact rfl))
  | ((with_reducible apply if_rf); (exact rfl))
  | with_reducible apply wp_compG
  | ((with_reducible apply wp_wipe); (exact rfl); (walk_at "wip"))
  | ((with_reducible apply wp_back); (walk_at "bck"))
  | ((with_reducible apply wp_out); (walk_at "out"))
  | ((with_reducible apply wp_defV); (walk_at "pad"))
  | ((with_reducible apply wp_defO); (walk_at "pad"))
  | ((with_reducible apply wp_some); (walk_at "op")))
local macro_rules | `(tactic| walk_at "w") => `(tactic| repeat (walk_at "w1"))
theorem nmN_inj {n m : Nat} (hn : n < 702) (hm : m < 702) (h : nmN n = nmN m) : n = m := by
  have hl : ∀ a b : Nat, (sgn a).cps.toList = (sgn b).cps.toList → a = b := fun a b h => by
    have : [a] = [b] := h
    exact List.head_eq_of_cons_eq this
  unfold nmN at h
  split at h <;> split at h
  · have := hl _ _ (congrArg (fun x : Str => x.cps.toList) h); omega
  · have := congrArg (fun x : Str => x.cps.toList.length) h
    have h3 : 1 = 2 := this
    cases h3
  · have := congrArg (fun x : Str => x.cps.toList.length) h
    have h3 : 2 = 1 := this
    cases h3
  · have h2 : [97 + (n / 26 - 1), 97 + n % 26] = [97 + (m / 26 - 1), 97 + m % 26] := congrArg (fun x : Str => x.cps.toList) h
    injection h2 with a b
    injection b with b _
    omega
theorem sub_len {α : Type} [DecidableEq α] : ∀ (l ws : List α), l.Nodup → (∀ x ∈ l, x ∈ ws) → l.length ≤ ws.length
  | [], _, _, _ => Nat.zero_le _
  | x :: l, ws, nd, h => by
    rw [List.nodup_cons] at nd
    have hx := h x List.mem_cons_self
    have := sub_len l (ws.erase x) nd.2 fun y hy => (List.mem_erase_of_ne (by rintro rfl; exact nd.1 hy)).mpr (h y (List.mem_cons_of_mem _ hy))
    rw [List.length_erase_of_mem hx] at this
    have hp := List.length_pos_of_mem hx
    rw [List.length_cons]; omega
def names (k : Nat) : List Str := (List.range k).map nmN
def free (ws : List Str) (k : Nat) : List Str := (names k).filter fun x => !decide (x ∈ ws)
theorem free_succ (ws : List Str) (k : Nat) : free ws (k + 1) = if nmN k ∈ ws then free ws k else free ws k ++ [nmN k] := by
  unfold free names
  rw [List.range_succ, List.map_append, List.filter_append]
  by_cases h : nmN k ∈ ws
  · rw [if_pos h]; simp [h]
  · rw [if_neg h]; simp [h]
theorem free_many (ws : List Str) {k : Nat} (hk : k ≤ 702) : k ≤ (free ws k).length + ws.length := by
  have h1 : ((names k).filter fun x => decide (x ∈ ws)).length ≤ ws.length := by
    refine sub_len _ _ ?_ fun x hx => by simpa using (List.mem_filter.mp hx).2
    refine List.Pairwise.filter _ ?_
    unfold names
    rw [List.pairwise_map]
    refine List.Pairwise.imp_of_mem ?_ (List.nodup_range (n := k))
    intro a b ha hb hne heq
    exact hne (nmN_inj (by have := List.mem_range.mp ha; omega) (by have := List.mem_range.mp hb; omega) heq)
  have h2 : ∀ l : List Str, (l.filter fun x => !decide (x ∈ ws)).length + (l.filter fun x => decide (x ∈ ws)).length = l.length := by
    intro l
    induction l with
    | nil => rfl
    | cons x l ih => by_cases h : x ∈ ws <;> simp [h] <;> omega
  have h3 := h2 (names k)
  have h4 : (names k).length = k := by unfold names; simp
  unfold free
  omega
theorem free_pre (ws : List Str) {k : Nat} (hk : k ≤ 702) : ∃ r, free ws 702 = free ws k ++ r := by
  obtain ⟨j, hj⟩ : ∃ j, 702 = k + j := ⟨702 - k, by omega⟩
  rw [hj]
  unfold free names
  rw [List.range_add, List.map_append, List.filter_append]
  exact ⟨_, rfl⟩
theorem nmN_F {n : Nat} (h : n < 702) : strF (nmN n) = true := by
  refine strF_of fun c hc => ?_
  unfold nmN at hc
  split at hc
  · have : c ∈ [97 + n] := hc
    rw [List.mem_singleton] at this; omega
  · have : c ∈ [97 + (n / 26 - 1), 97 + n % 26] := hc
    simp only [List.mem_cons, List.not_mem_nil, or_false] at this
    rcases this with rfl | rfl <;> omega
theorem free_names_eq {many : Nat} {ws : List Str} (hm : many ≤ 500) (hw : ws.length ≤ 12) (hF : ∀ w ∈ ws, strF w = true) :
    f_free_names [.val (.int many), .val (.tup (ws.map .str))] = .ok (.lst (((free ws 702).take many).map .str)) [.val (.int many), .val (.tup (ws.map .str))] := by
  apply Res.wp.eq
  unfold f_free_names
  walk_at "w"
  unfold b_free_names
  walk_at "w"
  refine wp_whileN (fun j e => ∃ k s4, s4.isIo = false ∧ k + j = 520 ∧ k ≤ many + ws.length ∧ (free ws k).length ≤ many ∧ e = [.val (.int many), .val (.tup (ws.map .str)), .own (.lst ((free ws k).map .str)), .val (.int k), s4]) ?_ 520 ⟨0, _, rfl, rfl, Nat.zero_le _, Nat.zero_le _, rfl⟩ (by decide)
  rintro j e ⟨k, s4, h4, hj, hk, hl, rfl⟩
  have hfm := free_many ws (show k ≤ 702 by omega)
  have hsz : ((free ws k).map D.str).length < 16777216 := by rw [List.length_map]; omega
  walk_at "w"
  rw [List.length_map]
  refine if_dec (fun h1 => ?_) (fun h1 => ?_) <;> walk_at "w"
  · refine wp_ok (name_number_eq (show k < 702 by omega)) ?_
    walk_at "w"
    refine wp_some (nin_tup_strs (nmN_F (by omega)) hF) ?_
    walk_at "w"
    refine if_dec (fun h2 => ?_) (fun h2 => ?_) <;> walk_at "w"
    · refine ⟨j - 1, by omega, k + 1, .val (.str (nmN k)), rfl, by omega, by omega, ?_, ?_⟩
      · rw [free_succ, if_pos h2]; omega
      · rw [free_succ, if_pos h2]; rfl
    · refine ⟨j - 1, by omega, k + 1, .val (.str (nmN k)), rfl, by omega, by omega, ?_, ?_⟩
      · rw [free_succ, if_neg h2]; simp; omega
      · rw [free_succ, if_neg h2]; simp
  · obtain ⟨r, hr⟩ := free_pre ws (show k ≤ 702 by omega)
    refine ⟨?_, rfl⟩
    rw [hr, List.take_left' (by omega)]
end LR

set_option linter.all false
set_option maxRecDepth 100000
set_option maxHeartbeats 1000000
set_option autoImplicit false
namespace LR
open PySem L2 L2.PV
local macro_rules | `(tactic| walk_at "ga") => `(tactic| ((repeat (with_reducible apply GetAt.succ)); with_reducible exact GetAt.zero))
local macro_rules | `(tactic| walk_at "sa") => `(tactic| ((repeat (with_reducible apply SetAt.succ)); with_reducible exact SetAt.zero))
local macro_rules | `(tactic| walk_at "va") => `(tactic| ((repeat (with_reducible apply ValsA.v)); with_reducible exact ValsA.nil))
local macro_rules | `(tactic| walk_at "mk") => `(tactic| ((repeat (first | (with_reducible apply MkA.v) | ((with_reducible apply MkA.s); (walk_at "ga"); (exact rfl)))); with_reducible exact MkA.nil))
local macro_rules | `(tactic| walk_at "wb") => `(tactic| ((repeat (first | (with_reducible apply WbA.v) | ((with_reducible apply wba_io); (walk_at "ga"); (walk_at "sa")) | ((with_reducible apply wba_own); (walk_at "ga"); (walk_at "sa")))); with_reducible exact WbA.nil))
local macro_rules | `(tactic| walk_at "cat") => `(tactic| ((repeat (first | (with_reducible apply CatA.arg) | (with_reducible apply CatA.kw) | ((with_reducible apply CatA.dfl); (exact rfl)))); ((with_reducible apply CatA.nil); (exact rfl))))
local macro_rules | `(tactic| walk_at "pad") => `(tactic| ((repeat (first | (with_reducible apply Pad.cons) | (with_reducible apply Pad.un))); with_reducible exact Pad.nil))
local macro_rules | `(tactic| walk_at "out") => `(tactic| ((repeat (first | (with_reducible apply OutA.io) | (with_reducible apply OutA.val))); with_reducible exact OutA.nil))
local macro_rules | `(tactic| walk_at "wip") => `(tactic| ((repeat (first | ((with_reducible apply WipeA.hit); (exact rfl)) | ((with_reducible apply WipeA.miss); (exact rfl)))); with_reducible exact WipeA.nil))
local macro_rules | `(tactic| walk_at "bck") => `(tactic| ((repeat (first | ((with_reducible apply BackA.hit); (exact rfl)) | ((with_reducible apply BackA.miss); (exact rfl)))); with_reducible exact BackA.nil))
local macro_rules | `(tactic| walk_at "ndp") => `(tactic| first | exact List.nodup_nil | exact ndp1 | (focus (simp [slotsOf]; done)))
local macro_rules | `(tactic| walk_at "sz") => `(tactic| first | ((with_reducible show List.length (_ :: _) ≤ _); (exact Nat.le_of_ble_eq_true rfl)) | ((with_reducible show List.length [] ≤ _); (exact Nat.zero_le _)) | assumption | omega | (focus (simp; done)) | (focus (simp; omega)))
local macro_rules | `(tactic| walk_at "op") => `(tactic| first
  | with_reducible exact add_int _ _
  | with_reducible exact eq_ints _ _
  | with_reducible exact ne_ints _ _
  | with_reducible exact int_f (sub_ok _ _)
  | ((with_reducible apply int_f (mod_pos _)); first | decide | assumption | omega)
  | ((with_reducible refine' int_f (fdiv_pos ?_)); first | decide | assumption | omega)
  | ((with_reducible refine' mul_int (mul_l ?_)); first | decide | assumption | omega)
  | ((with_reducible refine' mul_int (mul_r ?_)); first | decide | assumption | omega)
  | ((with_reducible apply divmod_ok); first | decide | assumption | omega)
  | ((with_reducible apply add_lst); (walk_at "sz"))
  | ((with_reducible apply add_tup); (walk_at "sz"))
  | ((with_reducible apply add_str); (walk_at "sz"))
  | ((with_reducible apply len_str); (walk_at "sz"))
  | ((with_reducible apply opApp); (walk_at "sz"))
  | ((with_reducible apply ext_ok); (walk_at "sz"))
  | with_reducible assumption
  | ((with_reducible apply rng1_ok); (walk_at "sz"))
  | exact rfl)
local macro_rules | `(tactic| walk_at "w1") => `(tactic| first
  | ((with_reducible apply wp_var); (walk_at "ga"))
  | with_reducible apply wp_const
  | with_reducible apply wp_seqS
  | with_reducible apply wp_setS
  | with_reducible apply wp_ownS
  | with_reducible apply wp_retS
  | with_reducible apply wp_ifS
  | with_reducible apply wp_nopS
  | with_reducible apply wp_exprS
  | with_reducible apply wp_noR
  | ((with_reducible apply put_v); (walk_at "ga"); (first | exact rfl | assumption); (walk_at "sa"))
  | ((with_reducible apply put_o); (walk_at "ga"); (first | exact rfl | assumption); (walk_at "sa"))
  | with_reducible apply wp_op2
  | with_reducible apply wp_op1
  | with_reducible apply wp_consA
  | with_reducible apply wp_nilA
  | with_reducible apply wp_yesT
  | ((with_reducible apply wp_slotA); (walk_at "ga"); (exact rfl))
  | with_reducible apply wp_boolG
  | with_reducible apply wp_truthG
  | with_reducible apply wp_notB
  | with_reducible apply wp_andB
  | with_reducible apply wp_orB
  | with_reducible apply wp_ifG
  | with_reducible apply wp_ofB
  | with_reducible apply wp_andG
  | with_reducible apply wp_orG
  | with_reducible apply wp_notG
  | with_reducible apply wp_call
  | ((with_reducible apply wp_args); (walk_at "ndp"); (walk_at "mk"))
  | ((with_reducible apply wp_wb); (walk_at "wb"))
  | with_reducible apply wp_bl
  | with_reducible apply wp_i1
  | with_reducible apply wp_i2
  | with_reducible apply wp_tp
  | ((with_reducible apply wp_vals); (walk_at "va"))
  | ((with_reducible apply wp_sz); (walk_at "sz"))
  | with_reducible apply wp_lstG
  | with_reducible apply wp_tupG
  | with_reducible apply wp_bltG
  | with_reducible apply wp_isiG
  | with_reducible apply wp_chainG
  | with_reducible apply wp_metG
  | with_reducible apply wp_metG0
  | with_reducible apply wp_mstr
  | with_reducible apply wp_mint
  | with_reducible apply wp_mlst
  | ((with_reducible apply wp_slotIxG); (walk_at "ga"); (exact rfl))
  | ((with_reducible apply six_any); (walk_at "ga"); (exact rfl))
  | ((with_reducible apply sst_any); (walk_at "ga"); (exact rfl))
  | ((with_reducible apply wp_slotLenG); (walk_at "ga"); (exact rfl))
  | ((with_reducible apply wp_lmutG); (walk_at "ga"); (exact rfl))
  | ((with_reducible apply lm_io); (walk_at "va"); (walk_at "ga"); (walk_at "op"); (walk_at "sa"))
  | ((with_reducible apply lm_own); (walk_at "va"); (walk_at "ga"); (walk_at "op"); (walk_at "sa"))
  | with_reducible apply wp_setIxS
  | ((with_reducible apply st_io); (walk_at "ga"); (walk_at "op"); (walk_at "sa"))
  | ((with_reducible apply st_own); (walk_at "ga"); (walk_at "op"); (walk_at "sa"))
  | with_reducible apply wp_catA
  | ((with_reducible apply wp_cat); (walk_at "cat"))
  | with_reducible apply wp_toldG
  | with_reducible apply wp_dispG
  | with_reducible apply pairs_cons
  | with_reducible apply pairs_nil
  | ((with_reducible apply wp_le15); (exact rfl))
  | with_reducible apply wp_iterG
  | with_reducible apply wp_rangeG
  | with_reducible apply wp_forS
  | with_reducible apply wp_asgS
  | with_reducible apply wp_parS
  | with_reducible apply wp_valK
  | with_reducible apply wp_ownK
  | with_reducible apply wp_nilK
  | with_reducible apply putPar_nil
  | with_reducible apply putPar_val
  | with_reducible apply putPar_own
  | with_reducible apply goT_n
  | with_reducible apply goT_t
  | with_reducible apply goT_of
  | with_reducible apply goTs_nil
  | with_reducible apply goTs_cons
  | ((with_reducible apply wp_frzO); (walk_at "ga"); (walk_at "sa"))
  | ((with_reducible apply wp_frzV); (walk_at "ga"))
  | ((with_reducible apply wp_retSlot); (walk_at "ga"); (walk_at "sa"))
  | with_reducible apply wp_retNS
  | with_reducible apply wp_brkS
  | with_reducible apply wp_cntS
  | with_reducible apply wp_raiseS
  | with_reducible apply wp_raiseVS
  | with_reducible apply wp_noP
  | with_reducible apply wp_someP
  | with_reducible apply wp_sliceG
  | with_reducible apply if_t
  | with_reducible apply if_f
  | with_reducible apply if_not
  | ((with_reducible apply if_rt); (exact rfl))
  | ((with_reducible apply if_rf); (exact rfl))
  | with_reducible apply wp_compG
  | ((with_reducible apply wp_wipe); (exact rfl); (walk_at "wip"))
  | ((with_reducible apply wp_back); (walk_at "bck"))
  | ((with_reducible apply wp_out); (walk_at "out"))
  | ((with_reducible apply wp_defV); (walk_at "pad"))
  | ((with_reducible apply wp_defO); (walk_at "pad"))
  | ((with_reducible apply wp_some); (walk_at "op")))
local macro_rules | `(tactic| walk_at "w") => `(tactic| repeat (walk_at "w1"))
def lng (ls : List Str) : List Str := ls.flatMap fun l => (List.range' 97 26).map fun c => l ++ sgn c
theorem lng_two : lng [""] ++ lng (lng [""]) = names 702 := by decide +kernel
theorem lng1_len : (lng [""]).length = 26 := by decide +kernel
theorem lng2_len : (lng (lng [""])).length = 676 := by decide +kernel
theorem longer_eq {ls : List Str} (hl : ls.length ≤ 26) (hs : ∀ l ∈ ls, l.length ≤ 1) : f_L_longer [.val (.lst (ls.map .str)), .val (.str alpha)] = .ok (.lst ((lng ls).map .str)) [.val (.lst (ls.map .str)), .val (.str alpha)] := by
  have hlen : ∀ ms : List Str, (lng ms).length = 26 * ms.length := by
    intro ms
    unfold lng
    induction ms with
    | nil => rfl
    | cons m ms ih => rw [List.flatMap_cons, List.length_append, ih]; simp; omega
  apply Res.wp.eq
  unfold f_L_longer
  walk_at "w"
  unfold b_L_longer
  walk_at "w"
  refine wp_forL (fun pre e => ∃ ps s3, pre = ps.map .str ∧ s3.isIo = false ∧ e = [.val (.lst (ls.map .str)), .val (.str alpha), .own (.lst ((lng ps).map .str)), s3, .un]) ?_ ⟨[], _, rfl, rfl, rfl⟩ ?_
  · rintro pre d e ⟨post, hp⟩ ⟨ps, s3, rfl, h3, rfl⟩
    obtain ⟨l, hlm, rfl⟩ : ∃ l, l ∈ ls ∧ d = .str l := by
      have : d ∈ ls.map D.str := by rw [hp]; simp
      obtain ⟨l, h1, h2⟩ := List.mem_map.mp this
      exact ⟨l, h1, h2.symm⟩
    have hpl : ps.length < ls.length := by have := congrArg List.length hp; simp at this; omega
    have hl2 := hlen ps
    walk_at "w"
    refine comp_pure (fun d => match d with | .str y => .str (l ++ y) | _ => .non) ?_ ?_ ?_
    · rw [List.length_map, alpha_list]; decide
    · intro d hd
      obtain ⟨c, hc, rfl⟩ := List.mem_map.mp hd
      have := hs l hlm
      walk_at "w"
      refine wp_some (add_str (by rw [one_len]; omega)) ?_
      exact ⟨rfl, rfl, by walk_at "wip"⟩
    · walk_at "w"
      rw [List.map_map, alpha_list]
      have hm : List.map ((fun d => match d with | D.str y => D.str (l ++ y) | _ => D.non) ∘ fun c => D.str (sgn c)) (List.range' 97 26) = ((List.range' 97 26).map fun c => l ++ sgn c).map D.str := by
        rw [List.map_map]; rfl
      rw [hm]
      with_reducible apply lm_own
      · walk_at "va"
      · walk_at "ga"
      · exact ext_ok (by simp [hl2]; omega)
      · walk_at "sa"
      · refine ⟨ps ++ [l], .val (.str l), by simp, rfl, ?_⟩
        unfold lng
        rw [List.flatMap_append]
        simp
  · rintro e ⟨ps, s3, hp, h3, rfl⟩
    have : ls = ps := by
      have h := congrArg (List.map fun d : D => match d with | .str x => x | _ => "") hp
      rw [List.map_map, List.map_map] at h
      have hid : ((fun d : D => match d with | .str x => x | _ => "") ∘ D.str) = id := rfl
      rw [hid, List.map_id, List.map_id] at h
      exact h
    subst this
    walk_at "w"
    exact ⟨rfl, rfl⟩
theorem strs_filter (ls ws : List Str) : ((ls.map D.str).filter fun d => !memS ws d).map (fun d => d) = (ls.filter fun x => !decide (x ∈ ws)).map D.str := by
  rw [List.map_id', List.filter_map]; rfl
theorem F_lng : ∀ x ∈ names 702, strF x = true := by
  intro x hx
  obtain ⟨n, hn, rfl⟩ := List.mem_map.mp hx
  exact nmN_F (List.mem_range.mp hn)
theorem cut_ok (total : Nat) (xs : List D) : cutD xs none (some (total : Int)) = xs.take total := by
  show (xs.drop 0).take (HT.sIx xs.length xs.length (some (total : Int)) - 0) = _
  rw [HT.sIx_nat, List.drop_zero, Nat.sub_zero]
  by_cases h : total ≤ xs.length
  · rw [Nat.min_eq_left h]
  · rw [Nat.min_eq_right (by omega), List.take_of_length_le (Nat.le_refl _), List.take_of_length_le (by omega)]
theorem first_gen {L1 L2 F1 F2 : List Str} {total : Nat} {ws : List Str} (hm : total ≤ 500) (hF : ∀ w ∈ ws, strF w = true)
    (e1 : F1 = L1.filter fun x => !decide (x ∈ ws)) (e2 : F2 = L2.filter fun x => !decide (x ∈ ws)) (h26 : L1.length ≤ 26) (h676 : L2.length ≤ 676) (hlen : 500 ≤ F1.length + F2.length)
    (hF1 : ∀ x ∈ L1, strF x = true) (hF2 : ∀ x ∈ L2, strF x = true)
    (g1 : f_L_longer [.val (.lst [.str ""]), .val (.str alpha)] = .ok (.lst (L1.map .str)) [.val (.lst [.str ""]), .val (.str alpha)])
    (g2 : f_L_longer [.val (.lst (L1.map .str)), .val (.str alpha)] = .ok (.lst (L2.map .str)) [.val (.lst (L1.map .str)), .val (.str alpha)]) :
    f_L_first_names [.val (.int total), .val (.tup (ws.map .str))] = .ok (.tup (((F1 ++ F2).take total).map .str)) [.val (.int total), .val (.tup (ws.map .str))] := by
  have hle1 : F1.length ≤ 26 := by rw [e1]; exact Nat.le_trans (List.length_filter_le _ _) h26
  have hle2 : F2.length ≤ 676 := by rw [e2]; exact Nat.le_trans (List.length_filter_le _ _) h676
  have hcomp : ∀ (ls fs : List Str) (Q : List D → En → Prop) (s4 : D), fs = ls.filter (fun x => !decide (x ∈ ws)) → (∀ x ∈ ls, strF x = true) → ls.length ≤ 676 → Q (fs.map D.str) [.val (.int total), .val (.tup (ws.map .str)), .val (.str alpha), .val (.lst (ls.map .str)), .val s4, .un] →
      (compL (tgN 5) (boolG (op2G notInD (varG 5) (varG 1))) (varG 5) [5] (ls.map D.str) [.val (.int total), .val (.tup (ws.map .str)), .val (.str alpha), .val (.lst (ls.map .str)), .val s4, .un] []).wp Q noX := by
    intro ls fs Q s4 h0 h1 h2 hq
    subst h0
    refine comp_filter (fun d => !memS ws d) (fun d => d) (by rw [List.length_map]; omega) ?_ (by rw [strs_filter]; exact hq)
    intro d hd
    obtain ⟨x, hx, rfl⟩ := List.mem_map.mp hd
    walk_at "w"
    refine wp_some (nin_tup_strs (h1 x hx) hF) ?_
    walk_at "w"
    refine ⟨rfl, ?_⟩
    walk_at "w"
    refine if_dec (fun h3 => ?_) (fun h3 => ?_) <;> walk_at "w"
    · exact ⟨rfl, by walk_at "wip"⟩
    · exact ⟨rfl, rfl, by walk_at "wip"⟩
  apply Res.wp.eq
  unfold f_L_first_names
  walk_at "w"
  unfold b_L_first_names
  walk_at "w"
  refine wp_whileU ?_
  walk_at "w"
  refine if_dec (fun h1 => ?_) (fun h1 => ?_) <;> walk_at "w"
  · refine wp_ok g1 ?_
    walk_at "w"
    refine hcomp _ _ _ _ e1 hF1 (by omega) ?_
    walk_at "w"
    refine wp_whileU ?_
    walk_at "w"
    rw [List.nil_append, List.length_map]
    refine if_dec (fun h2 => ?_) (fun h2 => ?_) <;> walk_at "w"
    · refine wp_ok g2 ?_
      walk_at "w"
      refine hcomp _ _ _ _ e2 hF2 (by omega) ?_
      walk_at "w"
      refine wp_whileU ?_
      walk_at "w"
      rw [List.length_append, List.length_map, List.length_map]
      refine if_no (by omega) ?_
      walk_at "w"
      refine ⟨?_, rfl⟩
      rw [cut_ok, ← List.map_append, List.map_take]
    · refine ⟨?_, rfl⟩
      rw [cut_ok, List.take_append_of_le_length (by omega), List.map_take]
  · refine ⟨?_, rfl⟩
    have : total = 0 := by simpa using h1
    subst this
    rfl
theorem first_names_eq {total : Nat} {ws : List Str} (hm : total ≤ 500) (hw : ws.length ≤ 12) (hF : ∀ w ∈ ws, strF w = true) :
    f_L_first_names [.val (.int total), .val (.tup (ws.map .str))] = .ok (.tup (((free ws 702).take total).map .str)) [.val (.int total), .val (.tup (ws.map .str))] := by
  have hfree : free ws 702 = ((lng [""]).filter fun x => !decide (x ∈ ws)) ++ ((lng (lng [""])).filter fun x => !decide (x ∈ ws)) := by
    unfold free; rw [← lng_two, List.filter_append]
  have hlen : 702 ≤ (free ws 702).length + ws.length := free_many ws (Nat.le_refl _)
  have hF1 : ∀ x ∈ lng [""], strF x = true := fun x hx => F_lng x (by rw [← lng_two]; exact List.mem_append_left _ hx)
  have hF2 : ∀ x ∈ lng (lng [""]), strF x = true := fun x hx => F_lng x (by rw [← lng_two]; exact List.mem_append_right _ hx)
  have hs1 : ∀ x ∈ lng [""], x.length ≤ 1 := by decide +kernel
  rw [hfree] at hlen ⊢
  rw [List.length_append] at hlen
  exact first_gen hm hF rfl rfl (Nat.le_of_eq lng1_len) (Nat.le_of_eq lng2_len) (by omega) hF1 hF2 (longer_eq (ls := [""]) (by decide) (by decide)) (longer_eq (ls := lng [""]) (Nat.le_of_eq lng1_len) hs1)
end LR

set_option linter.all false
set_option maxRecDepth 100000
set_option maxHeartbeats 1000000
set_option autoImplicit false
namespace LR
open PySem L2 L2.PV
local macro_rules | `(tactic| walk_at "ga") => `(tactic| ((repeat (with_reducible apply GetAt.succ)); with_reducible exact GetAt.zero))
local macro_rules | `(tactic| walk_at "sa") => `(tactic| ((repeat (with_reducible apply SetAt.succ)); with_reducible exact SetAt.zero))
local macro_rules | `(tactic| walk_at "va") => `(tactic| ((repeat (with_reducible apply ValsA.v)); with_reducible exact ValsA.nil))
local macro_rules | `(tactic| walk_at "mk") => `(tactic| ((repeat (first | (with_reducible apply MkA.v) | ((with_reducible apply MkA.s); (walk_at "ga"); (exact rfl)))); with_reducible exact MkA.nil))
local macro_rules | `(tactic| walk_at "wb") => `(tactic| ((repeat (first | (with_reducible apply WbA.v) | ((with_reducible apply wba_io); (walk_at "ga"); (walk_at "sa")) | ((with_reducible apply wba_own); (walk_at "ga"); (walk_at "sa")))); with_reducible exact WbA.nil))
local macro_rules | `(tactic| walk_at "cat") => `(tactic| ((repeat (first | (with_reducible apply CatA.arg) | (with_reducible apply CatA.kw) | ((with_reducible apply CatA.dfl); (exact rfl)))); ((with_reducible apply CatA.nil); (exact rfl))))
local macro_rules | `(tactic| walk_at "pad") => `(tactic| ((repeat (first | (with_reducible apply Pad.cons) | (with_reducible apply Pad.un))); with_reducible exact Pad.nil))
local macro_rules | `(tactic| walk_at "out") => `(tactic| ((repeat (first | (with_reducible apply OutA.io) | (with_reducible apply OutA.val))); with_reducible exact OutA.nil))
local macro_rules | `(tactic| walk_at "wip") => `(tactic| ((repeat (first | ((with_reducible apply WipeA.hit); (exact rfl)) | ((with_reducible apply WipeA.miss); (exact rfl)))); with_reducible exact WipeA.nil))
local macro_rules | `(tactic| walk_at "bck") => `(tactic| ((repeat (first | ((with_reducible apply BackA.hit); (exact rfl)) | ((with_reducible apply BackA.miss); (exact rfl)))); with_reducible exact BackA.nil))
local macro_rules | `(tactic| walk_at "ndp") => `(tactic| first | exact List.nodup_nil | exact ndp1 | (focus (simp [slotsOf]; done)))
local macro_rules | `(tactic| walk_at "sz") => `(tactic| first | ((with_reducible show List.length (_ :: _) ≤ _); (exact Nat.le_of_ble_eq_true rfl)) | ((with_reducible show List.length [] ≤ _); (exact Nat.zero_le _)) | assumption | omega | (focus (simp; done)) | (focus (simp; omega)))
local macro_rules | `(tactic| walk_at "op") => `(tactic| first
  | with_reducible exact add_int _ _
  | with_reducible exact eq_ints _ _
  | with_reducible exact ne_ints _ _
  | with_reducible exact int_f (sub_ok _ _)
  | ((with_reducible apply int_f (mod_pos _)); first | decide | assumption | omega)
  | ((with_reducible refine' int_f (fdiv_pos ?_)); first | decide | assumption | omega)
  | ((with_reducible refine' mul_int (mul_l ?_)); first | decide | assumption | omega)
  | ((with_reducible refine' mul_int (mul_r ?_)); first | decide | assumption | omega)
  | ((with_reducible apply divmod_ok); first | decide | assumption | omega)
  | ((with_reducible apply add_lst); (walk_at "sz"))
  | ((with_reducible apply add_tup); (walk_at "sz"))
  | ((with_reducible apply add_str); (walk_at "sz"))
  | ((with_reducible apply len_str); (walk_at "sz"))
  | ((with_reducible apply opApp); (walk_at "sz"))
  | ((with_reducible apply ext_ok); (walk_at "sz"))
  | with_reducible assumption
  | ((with_reducible apply rng1_ok); (walk_at "sz"))
  | exact rfl)
local macro_rules | `(tactic| walk_at "w1") => `(tactic| first
  | ((with_reducible apply wp_var); (walk_at "ga"))
  | with_reducible apply wp_const
  | with_reducible apply wp_seqS
  | with_reducible apply wp_setS
  | with_reducible apply wp_ownS
  | with_reducible apply wp_retS
  | with_reducible apply wp_ifS
  | with_reducible apply wp_nopS
  | with_reducible apply wp_exprS
  | with_reducible apply wp_noR
  | ((with_reducible apply put_v); (walk_at "ga"); (first | exact rfl | assumption); (walk_at "sa"))
  | ((with_reducible apply put_o); (walk_at "ga"); (first | exact rfl | assumption); (walk_at "sa"))
  | with_reducible apply wp_op2
  | with_reducible apply wp_op1
  | with_reducible apply wp_consA
  | with_reducible apply wp_nilA
  | with_reducible apply wp_yesT
  | ((with_reducible apply wp_slotA); (walk_at "ga"); (exact rfl))
  | with_reducible apply wp_boolG
  | with_reducible apply wp_truthG
  | with_reducible apply wp_notB
  | with_reducible apply wp_andB
  | with_reducible apply wp_orB
  | with_reducible apply wp_ifG
  | with_reducible apply wp_ofB
  | with_reducible apply wp_andG
  | with_reducible apply wp_orG
  | with_reducible apply wp_notG
  | with_reducible apply wp_call
  | ((with_reducible apply wp_args); (walk_at "ndp"); (walk_at "mk"))
  | ((with_reducible apply wp_wb); (walk_at "wb"))
  | with_reducible apply wp_bl
  | with_reducible apply wp_i1
  | with_reducible apply wp_i2
  | with_reducible apply wp_tp
  | ((with_reducible apply wp_vals); (walk_at "va"))
  | ((with_reducible apply wp_sz); (walk_at "sz"))
  | with_reducible apply wp_lstG
  | with_reducible apply wp_tupG
  | with_reducible apply wp_bltG
  | with_reducible apply wp_isiG
  | with_reducible apply wp_chainG
  | with_reducible apply wp_metG
  | with_reducible apply wp_metG0
  | with_reducible apply wp_mstr
  | with_reducible apply wp_mint
  | with_reducible apply wp_mlst
  | ((with_reducible apply wp_slotIxG); (walk_at "ga"); (exact rfl))
  | ((with_reducible apply six_any); (walk_at "ga"); (exact rfl))
  | ((with_reducible apply sst_any); (walk_at "ga"); (exact rfl))
  | ((with_reducible apply wp_slotLenG); (walk_at "ga"); (exact rfl))
  | ((with_reducible apply wp_lmutG); (walk_at "ga"); (exact rfl))
  | ((with_reducible apply lm_io); (walk_at "va"); (walk_at "ga"); (walk_at "op"); (walk_at "sa"))
  | ((with_reducible apply lm_own); (walk_at "va"); (walk_at "ga"); (walk_at "op"); (walk_at "sa"))
  | with_reducible apply wp_setIxS
  | ((with_reducible apply st_io); (walk_at "ga"); (walk_at "op"); (walk_at "sa"))
  | ((with_reducible apply st_own); (walk_at "ga"); (walk_at "op"); (walk_at "sa"))
  | with_reducible apply wp_catA
  | ((with_reducible apply wp_cat); (walk_at "cat"))
  | with_reducible apply wp_toldG
  | with_reducible apply wp_dispG
  | with_reducible apply pairs_cons
  | with_reducible apply pairs_nil
  | ((with_reducible apply wp_le15); (exact rfl))
  | with_reducible apply wp_iterG
  | with_reducible apply wp_rangeG
  | with_reducible apply wp_forS
  | with_reducible apply wp_asgS
  | with_reducible apply wp_parS
  | with_reducible apply wp_valK
  | with_reducible apply wp_ownK
  | with_reducible apply wp_nilK
  | with_reducible apply putPar_nil
  | with_reducible apply putPar_val
  | with_reducible apply putPar_own
  | with_reducible apply goT_n
  | with_reducible apply goT_t
  | with_reducible apply goT_of
  | with_reducible apply goTs_nil
  | with_reducible apply goTs_cons
  | ((with_reducible apply wp_frzO); (walk_at "ga"); (walk_at "sa"))
  | ((with_reducible apply wp_frzV); (walk_at "ga"))
  | ((with_reducible apply wp_retSlot); (walk_at "ga"); (walk_at "sa"))
  | with_reducible apply wp_retNS
  | with_reducible apply wp_brkS
  | with_reducible apply wp_cntS
  | with_reducible apply wp_raiseS
  | with_reducible apply wp_raiseVS
  | with_reducible apply wp_noP
  | with_reducible apply wp_someP
  | with_reducible apply wp_sliceG
  | with_reducible apply if_t
  | with_reducible apply if_f
  | with_reducible apply if_not
  | ((with_reducible apply if_rt); (exact rfl))
  | ((with_reducible apply if_rf); (exact rfl))
  | with_reducible apply wp_compG
  | ((with_reducible apply wp_wipe); (exact rfl); (walk_at "wip"))
  | ((with_reducible apply wp_back); (walk_at "bck"))
  | ((with_reducible apply wp_out); (walk_at "out"))
  | ((with_reducible apply wp_defV); (walk_at "pad"))
  | ((with_reducible apply wp_defO); (walk_at "pad"))
  | ((with_reducible apply wp_some); (walk_at "op")))
local macro_rules | `(tactic| walk_at "w") => `(tactic| repeat (walk_at "w1"))
def isInt : D → Bool
  | .int _ => true
  | _ => false
theorem is_integer_eq {d : D} {a : String} (h : tyName d = some a) : f_is_integer [.val d] = .ok (.bl (isInt d)) [.val d] := by
  cases d with
  | obj => cases h
  | con => cases h
  | xn => cases h
  | _ =>
    apply Res.wp.eq
    unfold f_is_integer
    walk_at "w"
    unfold b_is_integer
    walk_at "w"
    exact ⟨rfl, rfl⟩
theorem is_between_int (i : Int) : f_is_between [.val (.int i), .val (.int 0), .val (.int 500)] = .ok (.bl (decide (0 ≤ i ∧ i ≤ 500))) [.val (.int i), .val (.int 0), .val (.int 500)] := by
  apply Res.wp.eq
  unfold f_is_between
  walk_at "w"
  unfold b_is_between
  walk_at "w"
  refine wp_ok (is_integer_eq (d := .int i) rfl) ?_
  walk_at "w"
  refine if_dec (fun h => ?_) (fun h => ?_) <;> walk_at "w"
  · refine ⟨?_, rfl⟩
    congr 1
    exact decide_eq_decide.mpr ⟨fun h2 => ⟨h, h2⟩, fun h2 => h2.2⟩
  · refine ⟨?_, rfl⟩
    rw [decide_eq_false (fun h2 => h h2.1)]
theorem is_between_no {d : D} {a : String} (h : tyName d = some a) (hi : isInt d = false) : f_is_between [.val d, .val (.int 0), .val (.int 500)] = .ok (.bl false) [.val d, .val (.int 0), .val (.int 500)] := by
  apply Res.wp.eq
  unfold f_is_between
  walk_at "w"
  unfold b_is_between
  walk_at "w"
  refine wp_ok (is_integer_eq h) ?_
  walk_at "w"
  refine if_rf hi ?_
  exact wp_out (by walk_at "out") ⟨rfl, rfl⟩
theorem new_names_eq {many : Nat} {ws : List Str} (hm : many ≤ 500) (hw : ws.length ≤ 12) (hn : ∀ w ∈ ws, nmS w = true) (hl : ∀ w ∈ ws, w.length ≤ 1000) :
    f_new_names [.val (.int many), .val (.tup (ws.map .str))] = .ok (.tup (((free ws 702).take many).map .str)) [.val (.int many), .val (.tup (ws.map .str))] := by
  have hF : ∀ w ∈ ws, strF w = true := fun w hw => nm_low (hn w hw)
  apply Res.wp.eq
  unfold f_new_names
  walk_at "w"
  unfold b_new_names
  walk_at "w"
  unfold d_MAX_NAMES
  walk_at "w"
  refine wp_ok (is_between_int many) ?_
  walk_at "w"
  refine if_yes (by omega) ?_
  walk_at "w"
  refine comp_pure (fun d => .bl (isNm d)) (by rw [List.length_map]; omega) ?_ ?_
  · intro d hd
    obtain ⟨w, hw2, rfl⟩ := List.mem_map.mp hd
    walk_at "w"
    refine wp_ok (is_name_eq (d := .str w) ⟨⟨_, rfl⟩, fun x hx => by cases hx; exact ⟨hl w hw2, hF w hw2⟩⟩) ?_
    walk_at "w"
    exact ⟨rfl, rfl, by walk_at "wip"⟩
  · walk_at "w"
    refine wp_some (all_mapf isNm _) ?_
    walk_at "w"
    refine if_rt ?_ ?_
    · rw [List.all_map, List.all_eq_true]
      exact fun w hw2 => hn w hw2
    walk_at "w"
    refine wp_ok (free_names_eq hm hw hF) ?_
    walk_at "w"
    exact ⟨rfl, rfl⟩
theorem new_names_num {d w : D} {a : String} (h : tyName d = some a) (hi : ∀ i, d = .int i → ¬ (0 ≤ i ∧ i ≤ 500)) :
    f_new_names [.val d, .val w] = .exc ⟨.own "InvalidNumber", some [("value", d)]⟩ [.val d, .val w] := by
  apply Res.wp.exq
  unfold f_new_names
  walk_at "w"
  unfold b_new_names
  walk_at "w"
  unfold d_MAX_NAMES
  walk_at "w"
  have hb : ∃ b, f_is_between [.val d, .val (.int 0), .val (.int 500)] = .ok (.bl b) [.val d, .val (.int 0), .val (.int 500)] ∧ b = false := by
    cases hd : isInt d with
    | false => exact ⟨_, is_between_no h hd, rfl⟩
    | true =>
      cases d with
      | int i => exact ⟨_, is_between_int i, decide_eq_false (hi i rfl)⟩
      | _ => cases hd
  obtain ⟨b, hb, rfl⟩ := hb
  refine wp_ok hb ?_
  walk_at "w"
  exact ⟨rfl, rfl⟩
theorem new_names_name {many : Nat} {d : D} {a : String} (hm : many ≤ 500) (h : tyName d = some a) (ht : ∀ xs, d = .tup xs → xs.length ≤ 1000 ∧ (∀ y ∈ xs, S0 y) ∧ xs.all isNm = false) :
    f_new_names [.val (.int many), .val d] = .exc ⟨.own "InvalidName", none⟩ [.val (.int many), .val d] := by
  apply Res.wp.exq
  unfold f_new_names
  walk_at "w"
  unfold b_new_names
  walk_at "w"
  unfold d_MAX_NAMES
  walk_at "w"
  refine wp_ok (is_between_int many) ?_
  walk_at "w"
  refine if_yes (by omega) ?_
  walk_at "w"
  cases d with
  | obj => cases h
  | con => cases h
  | xn => cases h
  | tup xs =>
    obtain ⟨h1, h2, h3⟩ := ht xs rfl
    walk_at "w"
    refine comp_pure (fun d => .bl (isNm d)) (by omega) ?_ ?_
    · intro y hy
      walk_at "w"
      refine wp_ok (is_name_eq (h2 y hy)) ?_
      walk_at "w"
      exact ⟨rfl, rfl, by walk_at "wip"⟩
    · walk_at "w"
      refine wp_some (all_mapf isNm _) ?_
      walk_at "w"
      refine if_rf h3 ?_
      walk_at "w"
      exact ⟨rfl, rfl⟩
  | _ =>
    walk_at "w"
    exact ⟨rfl, rfl⟩
end LR

set_option linter.all false
set_option maxRecDepth 100000
set_option maxHeartbeats 4000000
set_option autoImplicit false
namespace LR
open PySem L2 L2.PV
local macro_rules | `(tactic| walk_at "ga") => `(tactic| ((repeat (with_reducible apply GetAt.succ)); with_reducible exact GetAt.zero))
local macro_rules | `(tactic| walk_at "sa") => `(tactic| ((repeat (with_reducible apply SetAt.succ)); with_reducible exact SetAt.zero))
local macro_rules | `(tactic| walk_at "va") => `(tactic| ((repeat (with_reducible apply ValsA.v)); with_reducible exact ValsA.nil))
local macro_rules | `(tactic| walk_at "mk") => `(tactic| ((repeat (first | (with_reducible apply MkA.v) | ((with_reducible apply MkA.s); (walk_at "ga"); (exact rfl)))); with_reducible exact MkA.nil))
local macro_rules | `(tactic| walk_at "wb") => `(tactic| ((repeat (first | (with_reducible apply WbA.v) | ((with_reducible apply wba_io); (walk_at "ga"); (walk_at "sa")) | ((with_reducible apply wba_own); (walk_at "ga"); (walk_at "sa")))); with_reducible exact WbA.nil))
local macro_rules | `(tactic| walk_at "cat") => `(tactic| ((repeat (first | (with_reducible apply CatA.arg) | (with_reducible apply CatA.kw) | ((with_reducible apply CatA.dfl); (exact rfl)))); ((with_reducible apply CatA.nil); (exact rfl))))
local macro_rules | `(tactic| walk_at "pad") => `(tactic| ((repeat (first | (with_reducible apply Pad.cons) | (with_reducible apply Pad.un))); with_reducible exact Pad.nil))
local macro_rules | `(tactic| walk_at "out") => `(tactic| ((repeat (first | (with_reducible apply OutA.io) | (with_reducible apply OutA.val))); with_reducible exact OutA.nil))
local macro_rules | `(tactic| walk_at "wip") => `(tactic| ((repeat (first | ((with_reducible apply WipeA.hit); (exact rfl)) | ((with_reducible apply WipeA.miss); (exact rfl)))); with_reducible exact WipeA.nil))
local macro_rules | `(tactic| walk_at "bck") => `(tactic| ((repeat (first | ((with_reducible apply BackA.hit); (exact rfl)) | ((with_reducible apply BackA.miss); (exact rfl)))); with_reducible exact BackA.nil))
local macro_rules | `(tactic| walk_at "ndp") => `(tactic| first | exact List.nodup_nil | exact ndp1 | (focus (simp [slotsOf]; done)))
local macro_rules | `(tactic| walk_at "sz") => `(tactic| first | ((with_reducible show List.length (_ :: _) ≤ _); (exact Nat.le_of_ble_eq_true rfl)) | ((with_reducible show List.length [] ≤ _); (exact Nat.zero_le _)) | assumption | omega | (focus (simp; done)) | (focus (simp; omega)))
local macro_rules | `(tactic| walk_at "op") => `(tactic| first
  | with_reducible exact add_int _ _
  | with_reducible exact eq_ints _ _
  | with_reducible exact ne_ints _ _
  | with_reducible exact int_f (sub_ok _ _)
  | ((with_reducible apply int_f (mod_pos _)); first | decide | assumption | omega)
  | ((with_reducible refine' int_f (fdiv_pos ?_)); first | decide | assumption | omega)
  | ((with_reducible refine' mul_int (mul_l ?_)); first | decide | assumption | omega)
  | ((with_reducible refine' mul_int (mul_r ?_)); first | decide | assumption | omega)
  | ((with_reducible apply divmod_ok); first | decide | assumption | omega)
  | ((with_reducible apply add_lst); (walk_at "sz"))
  | ((with_reducible apply add_tup); (walk_at "sz"))
  | ((with_reducible apply add_str); (walk_at "sz"))
  | ((with_reducible apply len_str); (walk_at "sz"))
  | ((with_reducible apply opApp); (walk_at "sz"))
  | ((with_reducible apply ext_ok); (walk_at "sz"))
  | with_reducible assumption
  | ((with_reducible apply rng1_ok); (walk_at "sz"))
  | exact rfl)
local macro_rules | `(tactic| walk_at "w1") => `(tactic| first
  | ((with_reducible apply wp_var); (walk_at "ga"))
  | with_reducible apply wp_const
  | with_reducible apply wp_seqS
  | with_reducible apply wp_setS
  | with_reducible apply wp_ownS
  | with_reducible apply wp_retS
  | with_reducible apply wp_ifS
  | with_reducible apply wp_nopS
  | with_reducible apply wp_exprS
  | with_reducible apply wp_noR
  | ((with_reducible apply put_v); (walk_at "ga"); (first | exact rfl | assumption); (walk_at "sa"))
  | ((with_reducible apply put_o); (walk_at "ga"); (first | exact rfl | assumption); (walk_at "sa"))
  | with_reducible apply wp_op2
  | with_reducible apply wp_op1
  | with_reducible apply wp_consA
  | with_reducible apply wp_nilA
  | with_reducible apply wp_yesT
  | ((with_reducible apply wp_slotA); (walk_at "ga"); (exact rfl))
  | with_reducible apply wp_boolG
  | with_reducible apply wp_truthG
  | with_reducible apply wp_notB
  | with_reducible apply wp_andB
  | with_reducible apply wp_orB
  | with_reducible apply wp_ifG
  | with_reducible apply wp_ofB
  | with_reducible apply wp_andG
  | with_reducible apply wp_orG
  | with_reducible apply wp_notG
  | with_reducible apply wp_call
  | ((with_reducible apply wp_args); (walk_at "ndp"); (walk_at "mk"))
  | ((with_reducible apply wp_wb); (walk_at "wb"))
  | with_reducible apply wp_bl
  | with_reducible apply wp_i1
  | with_reducible apply wp_i2
  | with_reducible apply wp_tp
  | ((with_reducible apply wp_vals); (walk_at "va"))
  | ((with_reducible apply wp_sz); (walk_at "sz"))
  | with_reducible apply wp_lstG
  | with_reducible apply wp_tupG
  | with_reducible apply wp_bltG
  | with_reducible apply wp_isiG
  | with_reducible apply wp_chainG
  | with_reducible apply wp_metG
  | with_reducible apply wp_metG0
  | with_reducible apply wp_mstr
  | with_reducible apply wp_mint
  | with_reducible apply wp_mlst
  | ((with_reducible apply wp_slotIxG); (walk_at "ga"); (exact rfl))
  | ((with_reducible apply six_any); (walk_at "ga"); (exact rfl))
  | ((with_reducible apply sst_any); (walk_at "ga"); (exact rfl))
  | ((with_reducible apply wp_slotLenG); (walk_at "ga"); (exact rfl))
  | ((with_reducible apply wp_lmutG); (walk_at "ga"); (exact rfl))
  | ((with_reducible apply lm_io); (walk_at "va"); (walk_at "ga"); (walk_at "op"); (walk_at "sa"))
  | ((with_reducible apply lm_own); (walk_at "va"); (walk_at "ga"); (walk_at "op"); (walk_at "sa"))
  | with_reducible apply wp_setIxS
  | ((with_reducible apply st_io); (walk_at "ga"); (walk_at "op"); (walk_at "sa"))
  | ((with_reducible apply st_own); (walk_at "ga"); (walk_at "op"); (walk_at "sa"))
  | with_reducible apply wp_catA
  | ((with_reducible apply wp_cat); (walk_at "cat"))
  | with_reducible apply wp_toldG
  | with_reducible apply wp_dispG
  | with_reducible apply pairs_cons
  | with_reducible apply pairs_nil
  | ((with_reducible apply wp_le15); (exact rfl))
  | with_reducible apply wp_iterG
  | with_reducible apply wp_rangeG
  | with_reducible apply wp_forS
  | with_reducible apply wp_asgS
  | with_reducible apply wp_parS
  | with_reducible apply wp_valK
  | with_reducible apply wp_ownK
  | with_reducible apply wp_nilK
  | with_reducible apply putPar_nil
  | with_reducible apply putPar_val
  | with_reducible apply putPar_own
  | with_reducible apply goT_n
  | with_reducible apply goT_t
  | with_reducible apply goT_of
  | with_reducible apply goTs_nil
  | with_reducible apply goTs_cons
  | ((with_reducible apply wp_frzO); (walk_at "ga"); (walk_at "sa"))
  | ((with_reducible apply wp_frzV); (walk_at "ga"))
  | ((with_reducible apply wp_retSlot); (walk_at "ga"); (walk_at "sa"))
  | with_reducible apply wp_retNS
  | with_reducible apply wp_brkS
  | with_reducible apply wp_cntS
  | with_reducible apply wp_raiseS
  | with_reducible apply wp_raiseVS
  | with_reducible apply wp_noP
  | with_reducible apply wp_someP
  | with_reducible apply wp_sliceG
  | with_reducible apply if_t
  | with_reducible apply if_f
  | with_reducible apply if_not
  | ((with_reducible apply if_rt); (exact rfl))
  | ((with_reducible apply if_rf); (exact rfl))
  | with_reducible apply wp_compG
  | ((with_reducible apply wp_wipe); (exact rfl); (walk_at "wip"))
  | ((with_reducible apply wp_back); (walk_at "bck"))
  | ((with_reducible apply wp_out); (walk_at "out"))
  | ((with_reducible apply wp_defV); (walk_at "pad"))
  | ((with_reducible apply wp_defO); (walk_at "pad"))
  | ((with_reducible apply wp_some); (walk_at "op")))
local macro_rules | `(tactic| walk_at "w") => `(tactic| repeat (walk_at "w1"))
theorem told_num {d : D} {s : Str} (h : reprD [d] = some (.str s)) (hs : s.length ≤ 1000) : tf_L_told (.inr ⟨.own "InvalidNumber", some [("value", d)]⟩) = some (.str ("number " ++ s)) := by
  show outD (thenO (hdsOut subC 2 0 (some 0) ⟨.own "InvalidNumber", some [("value", d)]⟩ hs_L_told) rs_L_told) = _
  obtain ⟨e, hx⟩ : ∃ e, hdsOut subC 2 0 (some 0) ⟨.own "InvalidNumber", some [("value", d)]⟩ hs_L_told = .ret (.str ("number " ++ s)) e := by
    refine ⟨(une 2).set 1 (.val (xnD 0 (some 0) ⟨.own "InvalidNumber", some [("value", d)]⟩)), ?_⟩
    show hdRun ⟨"InvalidNumber", some 1, fun ea dd y => (retS (op2G addV (constG (.str "number ")) (bltG reprD (consA (exfG ea dd y "InvalidNumber" 1 "value") nilA))))⟩ 2 0 (some 0) ⟨.own "InvalidNumber", some [("value", d)]⟩ = _
    unfold hdRun
    have hf : exfG 0 (some 0) ⟨.own "InvalidNumber", some [("value", d)]⟩ "InvalidNumber" 1 "value" ((une 2).set 1 (.val (xnD 0 (some 0) ⟨.own "InvalidNumber", some [("value", d)]⟩))) = .ok d ((une 2).set 1 (.val (xnD 0 (some 0) ⟨.own "InvalidNumber", some [("value", d)]⟩))) := rfl
    have ha : addV (.str "number ") (.str s) = some (.str ("number " ++ s)) := add_str (by show 7 + _ ≤ _; omega)
    simp only [retS, op2G, bltG, consA, nilA, constG, hf, Res.bind, valsOf, Option.map, Option.bind, h, lift, ha, Res.thn]
  rw [hx]; rfl
/-- an odd count -/
def Odd (d : D) : Prop := (∃ a, tyName d = some a) ∧ (∀ i, d = .int i → ¬ (0 ≤ i ∧ i ≤ 500)) ∧ ∃ s, reprD [d] = some (.str s) ∧ s.length ≤ 1000 ∧ strF s = true
def BadW (d : D) : Prop := (∃ a, tyName d = some a) ∧ ∀ xs, d = .tup xs → xs.length ≤ 1000 ∧ (∀ y ∈ xs, S0 y) ∧ xs.all isNm = false
theorem all_mem {P : D → Prop} {xs : List D} (h : ∀ d ∈ xs, P d) {d : D} (hd : d ∈ xs) : P d := h d hd
theorem odd_1 : Odd (.int (-1)) := ⟨⟨_, rfl⟩, (by intro i h; cases h; omega), _, rfl, by decide +kernel, by decide +kernel⟩
theorem odd_2 : Odd (.int 501) := ⟨⟨_, rfl⟩, (by intro i h; cases h; omega), _, rfl, by decide +kernel, by decide +kernel⟩
theorem odd_3 : Odd .non := ⟨⟨_, rfl⟩, (by intro i h; cases h), _, rfl, by decide +kernel, by decide +kernel⟩
theorem odd_4 : Odd (.bl true) := ⟨⟨_, rfl⟩, (by intro i h; cases h), _, rfl, by decide +kernel, by decide +kernel⟩
theorem odd_5 : Odd (.str "3") := ⟨⟨_, rfl⟩, (by intro i h; cases h), (PyData.str "3").shown, by
  show (if shOk (.str "3") = true then some (D.str (PyData.shown (.str "3"))) else none) = _
  rw [if_pos (by decide +kernel)], by decide +kernel, by decide +kernel⟩
theorem odd_6 : Odd (.int 1000000000000000000000000000000000000000) := ⟨⟨_, rfl⟩, (by intro i h; cases h; omega), _, rfl, by decide +kernel, by decide +kernel⟩
theorem odd_7 : Odd (.tup []) := ⟨⟨_, rfl⟩, (by intro i h; cases h), _, rfl, by decide +kernel, by decide +kernel⟩
theorem bad_no {d : D} {a : String} (h : tyName d = some a) (n : ∀ xs, d ≠ .tup xs) : BadW d := ⟨⟨a, h⟩, fun xs hx => absurd hx (n xs)⟩
theorem bad_tup {xs : List D} (h1 : xs.length ≤ 1000) (h2 : ∀ y ∈ xs, S0 y) (h3 : xs.all isNm = false) : BadW (.tup xs) := ⟨⟨_, rfl⟩, fun ys hy => by cases hy; exact ⟨h1, h2, h3⟩⟩
theorem F_A : strF "A" = true := by decide +kernel
theorem F_3 : strF "3" = true := by decide +kernel
theorem s0_1 {x : D} (h : S0 x) : ∀ y ∈ [x], S0 y := all_cons h all_nil
theorem s0_2 {x y : D} (h : S0 x) (h' : S0 y) : ∀ z ∈ [x, y], S0 z := all_cons h (s0_1 h')
theorem s0_a : S0 (.str "a") := s0_str (by decide) F_a
theorem bads : ∀ d ∈ [.non, .str "a", .lst [.str "a"], .tup [.str "A"], .tup [.str "a", .non], .tup [.str "a", .str ""], .dct [], .int 0, .tup [.str "a", .lst []], .tup [.dct [], .str "a"]], BadW d :=
  all_cons (bad_no rfl (by intro _ h; cases h)) (all_cons (bad_no rfl (by intro _ h; cases h)) (all_cons (bad_no rfl (by intro _ h; cases h))
    (all_cons (bad_tup (by decide) (s0_1 (s0_str (by decide) F_A)) (by decide +kernel)) (all_cons (bad_tup (by decide) (s0_2 s0_a s0_non) (by decide +kernel)) (all_cons (bad_tup (by decide) (s0_2 s0_a (s0_str (by decide) F_0)) (by decide +kernel))
    (all_cons (bad_no rfl (by intro _ h; cases h)) (all_cons (bad_no rfl (by intro _ h; cases h)) (all_cons (bad_tup (by decide) (s0_2 s0_a (s0_lst _)) (by decide +kernel)) (all_cons (bad_tup (by decide) (s0_2 (s0_dct _) s0_a) (by decide +kernel)) all_nil)))))))))
end LR

set_option linter.all false
set_option maxRecDepth 100000
set_option maxHeartbeats 4000000
set_option autoImplicit false
namespace LR
open PySem L2 L2.PV
local macro_rules | `(tactic| walk_at "ga") => `(tactic| ((repeat (with_reducible apply GetAt.succ)); with_reducible exact GetAt.zero))
local macro_rules | `(tactic| walk_at "sa") => `(tactic| ((repeat (with_reducible apply SetAt.succ)); with_reducible exact SetAt.zero))
local macro_rules | `(tactic| walk_at "va") => `(tactic| ((repeat (with_reducible apply ValsA.v)); with_reducible exact ValsA.nil))
local macro_rules | `(tactic| walk_at "mk") => `(tactic| ((repeat (first | (with_reducible apply MkA.v) | ((with_reducible apply MkA.s); (walk_at "ga"); (exact rfl)))); with_reducible exact MkA.nil))
local macro_rules | `(tactic| walk_at "wb") => `(tactic| ((repeat (first | (with_reducible apply WbA.v) | ((with_reducible apply wba_io); (walk_at "ga"); (walk_at "sa")) | ((with_reducible apply wba_own); (walk_at "ga"); (walk_at "sa")))); with_reducible exact WbA.nil))
local macro_rules | `(tactic| walk_at "cat") => `(tactic| ((repeat (first | (with_reducible apply CatA.arg) | (with_reducible apply CatA.kw) | ((with_reducible apply CatA.dfl); (exact rfl)))); ((with_reducible apply CatA.nil); (exact rfl))))
local macro_rules | `(tactic| walk_at "pad") => `(tactic| ((repeat (first | (with_reducible apply Pad.cons) | (with_reducible apply Pad.un))); with_reducible exact Pad.nil))
local macro_rules | `(tactic| walk_at "out") => `(tactic| ((repeat (first | (with_reducible apply OutA.io) | (with_reducible apply OutA.val))); with_reducible exact OutA.nil))
local macro_rules | `(tactic| walk_at "wip") => `(tactic| ((repeat (first | ((with_reducible apply WipeA.hit); (exact rfl)) | ((with_reducible apply WipeA.miss); (exact rfl)))); with_reducible exact WipeA.nil))
local macro_rules | `(tactic| walk_at "bck") => `(tactic| ((repeat (first | ((with_reducible apply BackA.hit); (exact rfl)) | ((with_reducible apply BackA.miss); (exact rfl)))); with_reducible exact BackA.nil))
local macro_rules | `(tactic| walk_at "ndp") => `(tactic| first | exact List.nodup_nil | exact ndp1 | (focus (simp [slotsOf]; done)))
local macro_rules | `(tactic| walk_at "sz") => `(tactic| first | ((with_reducible show List.length (_ :: _) ≤ _); (exact Nat.le_of_ble_eq_true rfl)) | ((with_reducible show List.length [] ≤ _); (exact Nat.zero_le _)) | assumption | omega | (focus (simp; done)) | (focus (simp; omega)))
local macro_rules | `(tactic| walk_at "op") => `(tactic| first
  | with_reducible exact add_int _ _
  | with_reducible exact eq_ints _ _
  | with_reducible exact ne_ints _ _
  | with_reducible exact int_f (sub_ok _ _)
  | ((with_reducible apply int_f (mod_pos _)); first | decide | assumption | omega)
  | ((with_reducible refine' int_f (fdiv_pos ?_)); first | decide | assumption | omega)
  | ((with_reducible refine' mul_int (mul_l ?_)); first | decide | assumption | omega)
  | ((with_reducible refine' mul_int (mul_r ?_)); first | decide | assumption | omega)
  | ((with_reducible apply divmod_ok); first | decide | assumption | omega)
  | ((with_reducible apply add_lst); (walk_at "sz"))
  | ((with_reducible apply add_tup); (walk_at "sz"))
  | ((with_reducible apply add_str); (walk_at "sz"))
  | ((with_reducible apply len_str); (walk_at "sz"))
  | ((with_reducible apply opApp); (walk_at "sz"))
  | ((with_reducible apply ext_ok); (walk_at "sz"))
  | with_reducible assumption
  | ((with_reducible apply rng1_ok); (walk_at "sz"))
  | exact rfl)
local macro_rules | `(tactic| walk_at "w1") => `(tactic| first
  | ((with_reducible apply wp_var); (walk_at "ga"))
  | with_reducible apply wp_const
  | with_reducible apply wp_seqS
  | with_reducible apply wp_setS
  | with_reducible apply wp_ownS
  | with_reducible apply wp_retS
  | with_reducible apply wp_ifS
  | with_reducible apply wp_nopS
  | with_reducible apply wp_exprS
  | with_reducible apply wp_noR
  | ((with_reducible apply put_v); (walk_at "ga"); (first | exact rfl | assumption); (walk_at "sa"))
  | ((with_reducible apply put_o); (walk_at "ga"); (first | exact rfl | assumption); (walk_at "sa"))
  | with_reducible apply wp_op2
  | with_reducible apply wp_op1
  | with_reducible apply wp_consA
  | with_reducible apply wp_nilA
  | with_reducible apply wp_yesT
  | ((with_reducible apply wp_slotA); (walk_at "ga"); (exact rfl))
  | with_reducible apply wp_boolG
  | with_reducible apply wp_truthG
  | with_reducible apply wp_notB
  | with_reducible apply wp_andB
  | with_reducible apply wp_orB
  | with_reducible apply wp_ifG
  | with_reducible apply wp_ofB
  | with_reducible apply wp_andG
  | with_reducible apply wp_orG
  | with_reducible apply wp_notG
  | with_reducible apply wp_call
  | ((with_reducible apply wp_args); (walk_at "ndp"); (walk_at "mk"))
  | ((with_reducible apply wp_wb); (walk_at "wb"))
  | with_reducible apply wp_bl
  | with_reducible apply wp_i1
  | with_reducible apply wp_i2
  | with_reducible apply wp_tp
  | ((with_reducible apply wp_vals); (walk_at "va"))
  | ((with_reducible apply wp_sz); (walk_at "sz"))
  | with_reducible apply wp_lstG
  | with_reducible apply wp_tupG
  | with_reducible apply wp_bltG
  | with_reducible apply wp_isiG
  | with_reducible apply wp_chainG
  | with_reducible apply wp_metG
  | with_reducible apply wp_metG0
  | with_reducible apply wp_mstr
  | with_reducible apply wp_mint
  | with_reducible apply wp_mlst
  | ((with_reducible apply wp_slotIxG); (walk_at "ga"); (exact rfl))
  | ((with_reducible apply six_any); (walk_at "ga"); (exact rfl))
  | ((with_reducible apply sst_any); (walk_at "ga"); (exact rfl))
  | ((with_reducible apply wp_slotLenG); (walk_at "ga"); (exact rfl))
  | ((with_reducible apply wp_lmutG); (walk_at "ga"); (exact rfl))
  | ((with_reducible apply lm_io); (walk_at "va"); (walk_at "ga"); (walk_at "op"); (walk_at "sa"))
  | ((with_reducible apply lm_own); (walk_at "va"); (walk_at "ga"); (walk_at "op"); (walk_at "sa"))
  | with_reducible apply wp_setIxS
  | ((with_reducible apply st_io); (walk_at "ga"); (walk_at "op"); (walk_at "sa"))
  | ((with_reducible apply st_own); (walk_at "ga"); (walk_at "op"); (walk_at "sa"))
  | with_reducible apply wp_catA
  | ((with_reducible apply wp_cat); (walk_at "cat"))
  | with_reducible apply wp_toldG
  | with_reducible apply wp_dispG
  | with_reducible apply pairs_cons
  | with_reducible apply pairs_nil
  | ((with_reducible apply wp_le15); (exact rfl))
  | with_reducible apply wp_iterG
  | with_reducible apply wp_rangeG
  | with_reducible apply wp_forS
  | with_reducible apply wp_asgS
  | with_reducible apply wp_parS
  | with_reducible apply wp_valK
  | with_reducible apply wp_ownK
  | with_reducible apply wp_nilK
  | with_reducible apply putPar_nil
  | with_reducible apply putPar_val
  | with_reducible apply putPar_own
  | with_reducible apply goT_n
  | with_reducible apply goT_t
  | with_reducible apply goT_of
  | with_reducible apply goTs_nil
  | with_reducible apply goTs_cons
  | ((with_reducible apply wp_frzO); (walk_at "ga"); (walk_at "sa"))
  | ((with_reducible apply wp_frzV); (walk_at "ga"))
  | ((with_reducible apply wp_retSlot); (walk_at "ga"); (walk_at "sa"))
  | with_reducible apply wp_retNS
  | with_reducible apply wp_brkS
  | with_reducible apply wp_cntS
  | with_reducible apply wp_raiseS
  | with_reducible apply wp_raiseVS
  | with_reducible apply wp_noP
  | with_reducible apply wp_someP
  | with_reducible apply wp_sliceG
  | with_reducible apply if_t
  | with_reducible apply if_f
  | with_reducible apply if_not
  | ((with_reducible apply if_rt); (exact rfl))
  | ((with_reducible apply if_rf); (exact rfl))
  | with_reducible apply wp_compG
  | ((with_reducible apply wp_wipe); (exact rfl); (walk_at "wip"))
  | ((with_reducible apply wp_back); (walk_at "bck"))
  | ((with_reducible apply wp_out); (walk_at "out"))
  | ((with_reducible apply wp_defV); (walk_at "pad"))
  | ((with_reducible apply wp_defO); (walk_at "pad"))
  | ((with_reducible apply wp_some); (walk_at "op")))
local macro_rules | `(tactic| walk_at "w") => `(tactic| repeat (walk_at "w1"))
theorem pick_strs (a b c : Int) (ws : List Str) (z : List D) (hz : z = ws.map .str) (h0 : 0 < ws.length) (h1 : ws.length < 1000) : ∃ w a' c', w ∈ ws ∧ f_L_pick [.io (dz a b c), .val (.lst z)] = .ok (.str w) [.io (dz a' b c'), .val (.lst z)] := by
  subst hz
  obtain ⟨x, a', c', hx, hp⟩ := pick_lst a b c (ws.map .str) (by rw [List.length_map]; exact h0) (by rw [List.length_map]; omega)
  obtain ⟨w, hw, rfl⟩ := List.mem_map.mp hx
  exact ⟨w, a', c', hw, hp⟩
/-- drawn names -/
theorem comp_names {b a0 c0 : Int} {s1 s2 s3 s4 s5 : Sl} {ga : En → Res D} {k : Nat} {Q : List D → En → Prop} (hk : k ≤ 20) (Z : Str → Prop)
    (step : ∀ a c d, (ga [.io (dz a b c), s1, s2, s3, s4, s5, .un, .un, .un, .un, .val d]).wp (fun y e => ∃ w a' c', Z w ∧ y = .str w ∧ e = [.io (dz a' b c'), s1, s2, s3, s4, s5, .un, .un, .un, .un, .val d]) noX)
    (hq : ∀ (ws : List Str) (a c : Int), ws.length = k → (∀ w ∈ ws, Z w) → Q (ws.map .str) [.io (dz a b c), s1, s2, s3, s4, s5, .un, .un, .un, .un, .un]) :
    (compL (tgN 10) yesT ga [10] (intsD 0 k) [.io (dz a0 b c0), s1, s2, s3, s4, s5, .un, .un, .un, .un, .un] []).wp Q noX := by
  refine compL_wp (fun pre ys e => ∃ ws a c, ys = ws.map D.str ∧ ws.length = pre.length ∧ (∀ w ∈ ws, Z w) ∧ e = [.io (dz a b c), s1, s2, s3, s4, s5, .un, .un, .un, .un, .un]) ?_ (by rw [ints_len]; omega) ⟨[], a0, c0, rfl, rfl, by simp, rfl⟩ ?_
  · rintro pre d ys e ⟨post, hp⟩ ⟨ws, a, c, rfl, hl, hz, rfl⟩
    walk_at "w"
    refine (step a c d).m ?_
    rintro y e ⟨w, a', c', hw, rfl, rfl⟩
    refine ⟨rfl, _, by walk_at "wip", ws ++ [w], a', c', by simp, by simp [hl], ?_, rfl⟩
    intro x hx
    rcases List.mem_append.mp hx with h | h
    · exact hz x h
    · rw [List.mem_singleton.mp h]; exact hw
  · rintro ys e ⟨ws, a, c, rfl, hl, hz, rfl⟩
    rw [ints_len] at hl
    exact hq ws a c hl hz
theorem nm_sgn {c : Nat} (h : c ∈ alpha.cps.toList) : nmS (sgn c) = true := by
  show (decide (0 < 1) && decide (1 ≤ 8) && [c].all isLow) = true
  have : isLow c = true := decide_eq_true h
  simp [this]
abbrev mores : List Str := ["aa", "ab", "az", "zz", "ba", "aaa"]
theorem nm_mores : ∀ w ∈ mores, nmS w = true := by decide +kernel
theorem nm_len {w : Str} (h : nmS w = true) : w.length ≤ 1000 := by
  unfold nmS at h
  rw [Bool.and_eq_true, Bool.and_eq_true] at h
  have := of_decide_eq_true h.1.2
  omega
theorem pl_names {n : Nat} {ws : List Str} (h : ∀ w ∈ ws, strF w = true) : Pl (n + 1) (.tup (ws.map .str)) := pl_tup (by
  intro y hy
  obtain ⟨w, hw, rfl⟩ := List.mem_map.mp hy
  exact pl_str (h w hw))
theorem odds : ∀ d ∈ [.int (-1), .int 501, .non, .bl true, .str "3", .int 1000000000000000000000000000000000000000, .tup []], Odd d :=
  all_cons odd_1 (all_cons odd_2 (all_cons odd_3 (all_cons odd_4 (all_cons odd_5 (all_cons odd_6 (all_cons odd_7 all_nil))))))
theorem right_ok (a b c : Int) : ∃ a' c', f_L_right [.io (dz a b c)] = .ok (.bl true) [.io (dz a' b c')] := by
  have key : (f_L_right [.io (dz a b c)]).wp (fun d e => ∃ a' c', d = .bl true ∧ e = [.io (dz a' b c')]) noX := by
    unfold f_L_right
    walk_at "w1"
    unfold b_L_right
    walk_at "w1"
    refine right_for a b c _ _ _ _ _ ?_
    intro a c s1 s2 s3 g1 g2 g3
    walk_at "w"
    obtain ⟨r, a1, c1, r0, r1, hp⟩ := pull_ok a b c 9 (by decide) (by decide)
    obtain ⟨k, rfl⟩ := Int.eq_ofNat_of_zero_le r0
    refine wp_ok hp ?_
    walk_at "w"
    refine comp_names (by omega) (fun w => nmS w = true) ?_ ?_
    · intro a c d
      walk_at "w"
      obtain ⟨ch, a2, c2, hch, hp2⟩ := pick_str a b c alpha (by decide) (by decide)
      refine wp_ok hp2 ?_
      walk_at "w"
      exact ⟨_, _, _, nm_sgn hch, rfl, rfl⟩
    intro ws1 a c hl1 hn1
    walk_at "w"
    obtain ⟨r, a1, c1, r0, r1, hp⟩ := pull_ok a b c 3 (by decide) (by decide)
    obtain ⟨k2, rfl⟩ := Int.eq_ofNat_of_zero_le r0
    refine wp_ok hp ?_
    walk_at "w"
    refine comp_names (by omega) (fun w => nmS w = true) ?_ ?_
    · intro a c d
      walk_at "w"
      obtain ⟨w, a2, c2, hch, hp2⟩ := pick_strs a b c mores _ rfl (by decide) (by decide)
      refine wp_ok hp2 ?_
      walk_at "w"
      exact ⟨_, _, _, nm_mores _ hch, rfl, rfl⟩
    intro ws2 a c hl2 hn2
    walk_at "w"
    obtain ⟨r, a1, c1, r0, r1, hp⟩ := pull_ok a b c 90 (by decide) (by decide)
    obtain ⟨k3, rfl⟩ := Int.eq_ofNat_of_zero_le r0
    refine wp_ok hp ?_
    walk_at "w"
    obtain ⟨x, a2, c2, hx, hp2⟩ := pick_lst a1 b c1 [.int 0, .int 1, .int 5, .int 26, .int 40, .int 500, .int k3] (by simp) (by simp)
    obtain ⟨n, hn, rfl⟩ : ∃ n : Nat, n ≤ 500 ∧ x = .int n := by
      simp only [List.mem_cons, List.not_mem_nil, or_false] at hx
      rcases hx with rfl | rfl | rfl | rfl | rfl | rfl | rfl
      · exact ⟨0, by decide, rfl⟩
      · exact ⟨1, by decide, rfl⟩
      · exact ⟨5, by decide, rfl⟩
      · exact ⟨26, by decide, rfl⟩
      · exact ⟨40, by decide, rfl⟩
      · exact ⟨500, by decide, rfl⟩
      · exact ⟨k3, by omega, rfl⟩
    refine wp_ok hp2 ?_
    have hnw : ∀ w ∈ ws1 ++ ws2, nmS w = true := by
      intro w hw
      rcases List.mem_append.mp hw with h | h
      · exact hn1 w h
      · exact hn2 w h
    have hlw : (ws1 ++ ws2).length ≤ 12 := by rw [List.length_append]; omega
    have hpow : intD powI (.int 10) (.int 39) = some (.int 1000000000000000000000000000000000000000) := by rfl
    walk_at "w"
    rw [← List.map_append]
    refine wp_ok (new_names_eq hn hlw hnw fun w hw => nm_len (hnw w hw)) ?_
    walk_at "w"
    refine wp_ok (first_names_eq hn hlw fun w hw => nm_low (hnw w hw)) ?_
    walk_at "w"
    refine wp_some (ne_self (pl_names (n := 1) ?_) (by decide)) ?_
    · intro w hw
      exact F_lng w (List.mem_filter.mp (List.mem_of_mem_take hw)).1
    walk_at "w"
    obtain ⟨odd, a3, c3, ho, hp3⟩ := pick_lst a2 b c2 [.int (-1), .int 501, .non, .bl true, .str "3", .int 1000000000000000000000000000000000000000, .tup []] (by decide) (by decide)
    refine wp_ok hp3 ?_
    walk_at "w"
    obtain ⟨bad, a4, c4, hb, hp4⟩ := pick_lst a3 b c3 [.non, .str "a", .lst [.str "a"], .tup [.str "A"], .tup [.str "a", .non], .tup [.str "a", .str ""], .dct [], .int 0, .tup [.str "a", .lst []], .tup [.dct [], .str "a"]] (by decide) (by decide)
    refine wp_ok hp4 ?_
    walk_at "w"
    obtain ⟨⟨ao, hao⟩, hoi, so, hso, hsl, hsF⟩ := odds odd ho
    obtain ⟨⟨ab, hab⟩, hbt⟩ := bads bad hb
    have htn := told_num hso hsl
    have hadd : addV (.str "number ") (.str so) = some (.str ("number " ++ so)) := add_str (by show 7 + _ ≤ _; omega)
    refine wp_exc (new_names_num hao hoi) ?_
    walk_at "w"
    refine wp_exc (new_names_num hao hoi) ?_
    walk_at "w"
    refine wp_exc (new_names_name (many := 3) (by decide) hab hbt) ?_
    walk_at "w"
    refine wp_some (a := .bl true) ?_ ?_
    · have hnF : strF ("number " ++ so) = true := by
        refine strF_of fun c hc => ?_
        have : c ∈ ("number " : Str).cps.toList ++ so.cps.toList := by
          have h2 : ("number " ++ so : Str).cps.toList = ("number " : Str).cps.toList ++ so.cps.toList := by
            show (("number " : Str).cps ++ so.cps).toList = _
            rw [Array.toList_append]
          rw [← h2]; exact hc
        rcases List.mem_append.mp this with h | h
        · have ha : ∀ c ∈ ("number " : Str).cps.toList, c < 1114112 := by decide +kernel
          exact ha c h
        · exact strF_mem hsF h
      refine eq_self (n := 1) (d := .lst [.str ("number " ++ so), .str ("number " ++ so), .str "name"]) (pl_lst ?_) (by decide)
      exact all_cons (pl_str hnF) (all_cons (pl_str hnF) (all_cons (pl_str F_name) all_nil))
    · walk_at "w"
      exact ⟨_, _, rfl, rfl⟩
  obtain ⟨d, e, h, a', c', rfl, rfl⟩ := key.ex
  exact ⟨a', c', h⟩
theorem mem_ints {n : Nat} {d : D} (h : d ∈ intsD 0 n) : ∃ i : Nat, i < n ∧ d = .int i := by
  unfold intsD at h
  obtain ⟨i, hi, rfl⟩ := List.mem_map.mp h
  exact ⟨i, List.mem_range.mp hi, by simp⟩
theorem law_right (ns : List Int) (hn : ns.length ≤ 63) (_ : ∀ z ∈ ns, Builtin.Int.intBits z ≤ 1048576) : ∃ e', f_law [.val (.lst (ns.map .int))] = .ok (.bl true) e' := by
  have key : (f_law [.val (.lst (ns.map .int))]).wp (fun d _ => d = .bl true) noX := by
    obtain ⟨k, hk, he⟩ : ∃ k : Nat, k ≤ 8 ∧ maxI 1 (minI 8 ((ns.map D.int).length : Nat)) = k := by
      refine ⟨(maxI 1 (minI 8 ((ns.map D.int).length : Nat))).toNat, ?_, ?_⟩ <;> (unfold maxI minI; split <;> split <;> omega)
    unfold f_law
    walk_at "w1"
    unfold b_law
    walk_at "w"
    rw [he]
    refine wp_some (rng1_ok (by omega)) ?_
    refine wp_forL (fun pre e => ∃ s1 s2 s3, s1.isIo = false ∧ s2.isIo = false ∧ s3.isIo = false ∧ e = [.val (.lst (ns.map .int)), s1, s2, s3]) ?_ ⟨_, _, _, rfl, rfl, rfl, rfl⟩ ?_
    · rintro pre d e ⟨post, hp⟩ ⟨s1, s2, s3, g1, g2, g3, rfl⟩
      obtain ⟨i, hi, rfl⟩ := mem_ints (n := k) (d := d) (by rw [hp]; simp)
      walk_at "w"
      obtain ⟨a, b, hd⟩ := dice_ok ns i
      refine wp_ok hd ?_
      walk_at "w"
      refine wp_forL (fun pre e => ∃ a b c s3, s3.isIo = false ∧ e = [.val (.lst (ns.map .int)), .val (.int i), .own (dz a b c), s3]) ?_ ⟨_, _, _, _, g3, rfl⟩ ?_
      · rintro pre d e ⟨post, hp⟩ ⟨a, b, c, s3, g3, rfl⟩
        walk_at "w"
        obtain ⟨a', c', hr⟩ := right_ok a b c
        refine wp_ok hr ?_
        walk_at "w"
        exact ⟨_, _, _, _, rfl, rfl⟩
      · rintro e ⟨a, b, c, s3, g3, rfl⟩
        exact ⟨_, _, _, rfl, rfl, g3, rfl⟩
    · rintro e ⟨s1, s2, s3, g1, g2, g3, rfl⟩
      walk_at "w"
      refine wp_ok (new_names_eq (many := 0) (ws := []) (by decide) (by decide) (by simp) (by simp)) ?_
      walk_at "w"
      refine wp_ok (new_names_eq (many := 2) (ws := ["a", "c"]) (by decide) (by decide) (by decide +kernel) (by decide +kernel)) ?_
      rw [show (free ["a", "c"] 702).take 2 = (["b", "d"] : List Str) by decide +kernel]
      walk_at "w"
      refine wp_some (a := .bl false) (ne_self (n := 1) (d := .tup [.str "b", .str "d"]) (pl_names (ws := ["b", "d"]) (by decide +kernel)) (by decide)) ?_
      walk_at "w"
      refine wp_ok (new_names_eq (many := 28) (ws := []) (by decide) (by decide) (by simp) (by simp)) ?_
      walk_at "w"
      have hz : cutD (((free [] 702).take 28).map D.str) (some 25) none = (["z", "aa", "ab"] : List Str).map D.str := by
        show (((((free [] 702).take 28).map D.str).drop (HT.sIx (((free [] 702).take 28).map D.str).length 0 (some (25 : Nat))))).take ((((free [] 702).take 28).map D.str).length - HT.sIx (((free [] 702).take 28).map D.str).length 0 (some (25 : Nat))) = _
        have hl : ((free [] 702).take 28).length = 28 := by decide +kernel
        rw [HT.sIx_nat, List.length_map, hl, ← List.map_drop, ← List.map_take]
        have : (((free [] 702).take 28).drop (min 25 28)).take (28 - min 25 28) = (["z", "aa", "ab"] : List Str) := by decide +kernel
        rw [this]
      rw [hz]
      refine wp_some (a := .bl true) (eq_self (n := 1) (pl_names (ws := ["z", "aa", "ab"]) (by decide +kernel)) (by decide)) ?_
      walk_at "w"
      rfl
  obtain ⟨d, e, h, rfl⟩ := key.ex
  exact ⟨e, h⟩
end LR

set_option Elab.async false
set_option linter.all false
set_option maxRecDepth 100000
set_option maxHeartbeats 4000000
set_option autoImplicit false
namespace LR
open PySem PySem.Spec PyProof.Rows L2 L2.PV
abbrev si_InvalidNumber : Stmt := inClass (top 3) 0
theorem st_InvalidNumber : SupT PySem.Challenge.pw_letterrules_k01_names_and_events "value" "value" si_InvalidNumber where
  body := ⟨_, _, _, _, _, _, _, _, _, _, rfl, fun _ _ _ _ _ _ _ _ _ _ => ⟨rfl, rfl, ⟨_, rfl⟩, rfl⟩⟩
  head := ⟨_, rfl, rfl⟩
  bind := fun _ _ _ _ _ _ _ _ _ _ => rfl
  kind := rfl
  co := rfl
  gen := rfl
  cell := by decide +kernel
  nS := rfl
  nC := rfl
  nself := rfl
  nf := rfl
  ne := by decide
  dbg := by decide
  top := by rfl
theorem mk_law {q : Program} {l : PySem.W.OpenLaw} (hl : l.prog = PySem.Challenge.pw_letterrules_k01_names_and_events) {w : World} {K : PySem.W.Frag} {h : Heap} {mg : MG} {fa : Addr} {tg_ALPHABET : Tok} {tg_MAX_LENGTH : Tok} {tg_MAX_NAMES : Tok} {tg_SEND : Tok} {tg_READ : Tok} {C_InvalidName : Addr} {C_InvalidNumber : Addr} {I_InvalidNumber ca_InvalidNumber cc_InvalidNumber : Addr} {oI_InvalidNumber kI_InvalidNumber dI_InvalidNumber mI_InvalidNumber tI_InvalidNumber lI_InvalidNumber nI_InvalidNumber : Value} {pI_InvalidNumber qI_InvalidNumber rI_InvalidNumber sI_InvalidNumber : Option Addr} {uI_InvalidNumber vI_InvalidNumber wI_InvalidNumber : Array (Option Value)} {us_InvalidNumber : Array Value} {fl_InvalidNumber : Str} {ft_InvalidNumber : Tok} {F_L_dice : Addr} {oF_L_dice dF_L_dice mF_L_dice tF_L_dice : Value} {pF_L_dice qF_L_dice : Option Addr} {uF_L_dice : Array (Option Value)} {cF_L_dice kF_L_dice : Value} {F_is_integer : Addr} {oF_is_integer dF_is_integer mF_is_integer tF_is_integer : Value} {pF_is_integer qF_is_integer : Option Addr} {uF_is_integer : Array (Option Value)} {cF_is_integer kF_is_integer : Value} {F_is_between : Addr} {oF_is_between dF_is_between mF_is_between tF_is_between : Value} {pF_is_between qF_is_between : Option Addr} {uF_is_between : Array (Option Value)} {cF_is_between kF_is_between : Value} {F_name_number : Addr} {oF_name_number dF_name_number mF_name_number tF_name_number : Value} {pF_name_number qF_name_number : Option Addr} {uF_name_number : Array (Option Value)} {cF_name_number kF_name_number : Value} {F_free_names : Addr} {oF_free_names dF_free_names mF_free_names tF_free_names : Value} {pF_free_names qF_free_names : Option Addr} {uF_free_names : Array (Option Value)} {cF_free_names kF_free_names : Value} {F_is_name : Addr} {oF_is_name dF_is_name mF_is_name tF_is_name : Value} {pF_is_name qF_is_name : Option Addr} {uF_is_name : Array (Option Value)} {cF_is_name kF_is_name : Value} {F_new_names : Addr} {oF_new_names dF_new_names mF_new_names tF_new_names : Value} {pF_new_names qF_new_names : Option Addr} {uF_new_names : Array (Option Value)} {cF_new_names : Value} {K_new_names : Addr} {T_new_names_without : Addr} {oT_new_names_without : Option Addr} {nT_new_names_without : Nat} {uT_new_names_without : Array (Option Value)} {F_L_pull : Addr} {oF_L_pull dF_L_pull mF_L_pull tF_L_pull : Value} {pF_L_pull qF_L_pull : Option Addr} {uF_L_pull : Array (Option Value)} {cF_L_pull kF_L_pull : Value} {F_L_pick : Addr} {oF_L_pick dF_L_pick mF_L_pick tF_L_pick : Value} {pF_L_pick qF_L_pick : Option Addr} {uF_L_pick : Array (Option Value)} {cF_L_pick kF_L_pick : Value} {F_L_word : Addr} {oF_L_word dF_L_word mF_L_word tF_L_word : Value} {pF_L_word qF_L_word : Option Addr} {uF_L_word : Array (Option Value)} {cF_L_word kF_L_word : Value} {F_L_values : Addr} {oF_L_values dF_L_values mF_L_values tF_L_values : Value} {pF_L_values qF_L_values : Option Addr} {uF_L_values : Array (Option Value)} {cF_L_values kF_L_values : Value} {F_L_is_name : Addr} {oF_L_is_name dF_L_is_name mF_L_is_name tF_L_is_name : Value} {pF_L_is_name qF_L_is_name : Option Addr} {uF_L_is_name : Array (Option Value)} {cF_L_is_name kF_L_is_name : Value} {F_L_is_event : Addr} {oF_L_is_event dF_L_is_event mF_L_is_event tF_L_is_event : Value} {pF_L_is_event qF_L_is_event : Option Addr} {uF_L_is_event : Array (Option Value)} {cF_L_is_event kF_L_is_event : Value} {F_L_longer : Addr} {oF_L_longer dF_L_longer mF_L_longer tF_L_longer : Value} {pF_L_longer qF_L_longer : Option Addr} {uF_L_longer : Array (Option Value)} {cF_L_longer kF_L_longer : Value} {F_L_first_names : Addr} {oF_L_first_names dF_L_first_names mF_L_first_names tF_L_first_names : Value} {pF_L_first_names qF_L_first_names : Option Addr} {uF_L_first_names : Array (Option Value)} {cF_L_first_names kF_L_first_names : Value} {F_L_told : Addr} {oF_L_told dF_L_told mF_L_told tF_L_told : Value} {pF_L_told qF_L_told : Option Addr} {uF_L_told : Array (Option Value)} {cF_L_told kF_L_told : Value} {F_is_event : Addr} {oF_is_event dF_is_event mF_is_event tF_is_event : Value} {pF_is_event qF_is_event : Option Addr} {uF_is_event : Array (Option Value)} {cF_is_event kF_is_event : Value} {F_is_letter : Addr} {oF_is_letter dF_is_letter mF_is_letter tF_is_letter : Value} {pF_is_letter qF_is_letter : Option Addr} {uF_is_letter : Array (Option Value)} {cF_is_letter kF_is_letter : Value} {F_L_is_letter : Addr} {oF_L_is_letter dF_L_is_letter mF_L_is_letter tF_L_is_letter : Value} {pF_L_is_letter qF_L_is_letter : Option Addr} {uF_L_is_letter : Array (Option Value)} {cF_L_is_letter kF_L_is_letter : Value} {F_other_in : Addr} {oF_other_in dF_other_in mF_other_in tF_other_in : Value} {pF_other_in qF_other_in : Option Addr} {uF_other_in : Array (Option Value)} {cF_other_in kF_other_in : Value} {F_other_event : Addr} {oF_other_event dF_other_event mF_other_event tF_other_event : Value} {pF_other_event qF_other_event : Option Addr} {uF_other_event : Array (Option Value)} {cF_other_event kF_other_event : Value} {F_L_right : Addr} {oF_L_right dF_L_right mF_L_right tF_L_right : Value} {pF_L_right qF_L_right : Option Addr} {uF_L_right : Array (Option Value)} {ca_L_right P_L_right : Addr} {kF_L_right : Value} {lX_L_right : Value} {rX_L_right : Option Addr} {us_L_right : Array Value} {vX_L_right : Array (Option Value)} {F_law : Addr} {oF_law dF_law mF_law tF_law : Value} {pF_law qF_law : Option Addr} {uF_law : Array (Option Value)} {cF_law kF_law : Value}
    (KX : K.In h) (G : h.Ns mainGlobals mg) (hfa : mg "law" = some (.ref fa))
    (z_abs : PySem.W.nsIn K mainGlobals "abs" = some none)
    (z_all : PySem.W.nsIn K mainGlobals "all" = some none)
    (z_bool : PySem.W.nsIn K mainGlobals "bool" = some none)
    (z_divmod : PySem.W.nsIn K mainGlobals "divmod" = some none)
    (z_int : PySem.W.nsIn K mainGlobals "int" = some none)
    (z_isinstance : PySem.W.nsIn K mainGlobals "isinstance" = some none)
    (z_len : PySem.W.nsIn K mainGlobals "len" = some none)
    (z_max : PySem.W.nsIn K mainGlobals "max" = some none)
    (z_min : PySem.W.nsIn K mainGlobals "min" = some none)
    (z_range : PySem.W.nsIn K mainGlobals "range" = some none)
    (z_repr : PySem.W.nsIn K mainGlobals "repr" = some none)
    (z_str : PySem.W.nsIn K mainGlobals "str" = some none)
    (z_tuple : PySem.W.nsIn K mainGlobals "tuple" = some none)
    (g_ALPHABET : PySem.W.nsIn K mainGlobals "ALPHABET" = some (some (.str "abcdefghijklmnopqrstuvwxyz" tg_ALPHABET)))
    (g_MAX_LENGTH : PySem.W.nsIn K mainGlobals "MAX_LENGTH" = some (some (.int 8 tg_MAX_LENGTH)))
    (g_MAX_NAMES : PySem.W.nsIn K mainGlobals "MAX_NAMES" = some (some (.int 500 tg_MAX_NAMES)))
    (g_SEND : PySem.W.nsIn K mainGlobals "SEND" = some (some (.str "send" tg_SEND)))
    (g_READ : PySem.W.nsIn K mainGlobals "READ" = some (some (.str "read" tg_READ)))
    (a_InvalidName : PySem.W.nsIn K mainGlobals "InvalidName" = some (some (.ref C_InvalidName)))
    (e_InvalidName : PySem.W.subIn K (.ref C_InvalidName) (.type "BaseException") = some true)
    (y_InvalidName : PySem.W.typeIn K (.ref C_InvalidName) = some (.type "type"))
    (d_h_InvalidName : PySem.W.hasDictIn K C_InvalidName = true)
    (k_InvalidName : PySem.W.keepIn K (.ref C_InvalidName) = true)
    (a_InvalidNumber : PySem.W.nsIn K mainGlobals "InvalidNumber" = some (some (.ref C_InvalidNumber)))
    (e_InvalidNumber : PySem.W.subIn K (.ref C_InvalidNumber) (.type "BaseException") = some true)
    (y_InvalidNumber : PySem.W.typeIn K (.ref C_InvalidNumber) = some (.type "type"))
    (d_h_InvalidNumber : PySem.W.hasDictIn K C_InvalidNumber = true)
    (k_InvalidNumber : PySem.W.keepIn K (.ref C_InvalidNumber) = true)
    (x_InvalidName : PySem.W.excIn K C_InvalidName [.type "ValueError", .type "Exception", .type "BaseException", .type "object"] "ValueError.__new__" = true)
    (q_InvalidNumber : PySem.W.excInitIn K C_InvalidNumber [.type "IndexError", .type "LookupError", .type "Exception", .type "BaseException", .type "object"] "IndexError.__new__" = true)
    (o_InvalidNumber : PySem.W.excOver K C_InvalidNumber [.type "IndexError", .type "LookupError", .type "Exception", .type "BaseException", .type "object"] = true)
    (i_InvalidNumber : PySem.W.findIn K (.ref C_InvalidNumber) "__init__" = some (some (.ref I_InvalidNumber)))
    (f_InvalidNumber_ : PySem.W.isFn K (.ref I_InvalidNumber) = true)
    (m_InvalidNumber : PySem.W.ks_superIn K C_InvalidNumber C_InvalidNumber "__init__" = some (some (.builtin "IndexError.__init__")))
    (b_InvalidNumber_ : PySem.W.subIn K (.ref C_InvalidNumber) (.type "IndexError") = some true)
    (s_InvalidNumber_ : PySem.W.mroIn K C_InvalidNumber (.ref C_InvalidNumber) = some true)
    (w_InvalidNumber : PySem.W.findIn K (.ref C_InvalidNumber) "__setattr__" = some (some (.builtin "object.__setattr__")))
    (t_InvalidNumber : PySem.W.findIn K (.ref C_InvalidNumber) "value" = some none)
    (l_InvalidNumber : K.lookup I_InvalidNumber = some ⟨oI_InvalidNumber, pI_InvalidNumber, .func (PySem.W.ksFn "__init__" "InvalidNumber.__init__" (defArgs si_InvalidNumber) (defBody si_InvalidNumber) (defScope si_InvalidNumber) .none kI_InvalidNumber dI_InvalidNumber mI_InvalidNumber qI_InvalidNumber (.ref ca_InvalidNumber) tI_InvalidNumber cc_InvalidNumber), uI_InvalidNumber⟩)
    (c_InvalidNumber_ : PySem.W.codeIn K (.ref ca_InvalidNumber) "InvalidNumber.__init__" = true)
    (lc_InvalidNumber : K.lookup ca_InvalidNumber = some ⟨lI_InvalidNumber, rI_InvalidNumber, .fields us_InvalidNumber, vI_InvalidNumber⟩)
    (lf_InvalidNumber : us_InvalidNumber[2]? = some (.str fl_InvalidNumber ft_InvalidNumber))
    (le_InvalidNumber : ((PySem.Challenge.pw_letterrules_k01_names_and_events.main.file : Str) == fl_InvalidNumber) = true)
    (ll_InvalidNumber : K.lookup cc_InvalidNumber = some ⟨nI_InvalidNumber, sI_InvalidNumber, .cell (some (.ref C_InvalidNumber)), wI_InvalidNumber⟩)
    (su : PySem.W.nsIn K mainGlobals "super" = some none)
    (tp : PySem.W.nsIn K cStatics "thirdparty.any" = some none)
    (ga_InvalidNumber : PySem.W.findIn K (.ref C_InvalidNumber) "__getattribute__" = some (some (.builtin "BaseException.__getattribute__")))
    (gg_InvalidNumber : PySem.W.findIn K (.ref C_InvalidNumber) "__getattr__" = some none)
    (p_InvalidName_InvalidName : PySem.W.subIn K (.ref C_InvalidName) (.ref C_InvalidName) = some true)
    (p_InvalidName_InvalidNumber : PySem.W.subIn K (.ref C_InvalidName) (.ref C_InvalidNumber) = some false)
    (p_InvalidNumber_InvalidName : PySem.W.subIn K (.ref C_InvalidNumber) (.ref C_InvalidName) = some false)
    (p_InvalidNumber_InvalidNumber : PySem.W.subIn K (.ref C_InvalidNumber) (.ref C_InvalidNumber) = some true)
    (a_L_dice : PySem.W.nsIn K mainGlobals "_law_dice" = some (some (.ref F_L_dice)))
    (l_L_dice : K.lookup F_L_dice = some ⟨oF_L_dice, pF_L_dice, .func (PySem.W.fnOf "_law_dice" "_law_dice" (defArgs s_L_dice) (defBody s_L_dice) (defScope s_L_dice) .none kF_L_dice dF_L_dice mF_L_dice qF_L_dice cF_L_dice tF_L_dice), uF_L_dice⟩)
    (c_L_dice : PySem.W.codeIn K cF_L_dice "_law_dice" = true)
    (k_L_dice : PySem.W.keepIn K (.ref F_L_dice) = true)
    (a_is_integer : PySem.W.nsIn K mainGlobals "is_integer" = some (some (.ref F_is_integer)))
    (l_is_integer : K.lookup F_is_integer = some ⟨oF_is_integer, pF_is_integer, .func (PySem.W.fnOf "is_integer" "is_integer" (defArgs s_is_integer) (defBody s_is_integer) (defScope s_is_integer) .none kF_is_integer dF_is_integer mF_is_integer qF_is_integer cF_is_integer tF_is_integer), uF_is_integer⟩)
    (c_is_integer : PySem.W.codeIn K cF_is_integer "is_integer" = true)
    (k_is_integer : PySem.W.keepIn K (.ref F_is_integer) = true)
    (a_is_between : PySem.W.nsIn K mainGlobals "is_between" = some (some (.ref F_is_between)))
    (l_is_between : K.lookup F_is_between = some ⟨oF_is_between, pF_is_between, .func (PySem.W.fnOf "is_between" "is_between" (defArgs s_is_between) (defBody s_is_between) (defScope s_is_between) .none kF_is_between dF_is_between mF_is_between qF_is_between cF_is_between tF_is_between), uF_is_between⟩)
    (c_is_between : PySem.W.codeIn K cF_is_between "is_between" = true)
    (k_is_between : PySem.W.keepIn K (.ref F_is_between) = true)
    (a_name_number : PySem.W.nsIn K mainGlobals "name_number" = some (some (.ref F_name_number)))
    (l_name_number : K.lookup F_name_number = some ⟨oF_name_number, pF_name_number, .func (PySem.W.fnOf "name_number" "name_number" (defArgs s_name_number) (defBody s_name_number) (defScope s_name_number) .none kF_name_number dF_name_number mF_name_number qF_name_number cF_name_number tF_name_number), uF_name_number⟩)
    (c_name_number : PySem.W.codeIn K cF_name_number "name_number" = true)
    (k_name_number : PySem.W.keepIn K (.ref F_name_number) = true)
    (a_free_names : PySem.W.nsIn K mainGlobals "free_names" = some (some (.ref F_free_names)))
    (l_free_names : K.lookup F_free_names = some ⟨oF_free_names, pF_free_names, .func (PySem.W.fnOf "free_names" "free_names" (defArgs s_free_names) (defBody s_free_names) (defScope s_free_names) .none kF_free_names dF_free_names mF_free_names qF_free_names cF_free_names tF_free_names), uF_free_names⟩)
    (c_free_names : PySem.W.codeIn K cF_free_names "free_names" = true)
    (k_free_names : PySem.W.keepIn K (.ref F_free_names) = true)
    (a_is_name : PySem.W.nsIn K mainGlobals "is_name" = some (some (.ref F_is_name)))
    (l_is_name : K.lookup F_is_name = some ⟨oF_is_name, pF_is_name, .func (PySem.W.fnOf "is_name" "is_name" (defArgs s_is_name) (defBody s_is_name) (defScope s_is_name) .none kF_is_name dF_is_name mF_is_name qF_is_name cF_is_name tF_is_name), uF_is_name⟩)
    (c_is_name : PySem.W.codeIn K cF_is_name "is_name" = true)
    (k_is_name : PySem.W.keepIn K (.ref F_is_name) = true)
    (a_new_names : PySem.W.nsIn K mainGlobals "new_names" = some (some (.ref F_new_names)))
    (l_new_names : K.lookup F_new_names = some ⟨oF_new_names, pF_new_names, .func (PySem.W.fnOf "new_names" "new_names" (defArgs s_new_names) (defBody s_new_names) (defScope s_new_names) .none (.ref K_new_names) dF_new_names mF_new_names qF_new_names cF_new_names tF_new_names), uF_new_names⟩)
    (c_new_names : PySem.W.codeIn K cF_new_names "new_names" = true)
    (k_new_names : PySem.W.keepIn K (.ref F_new_names) = true)
    (v_new_names_without : PySem.W.nsIn K K_new_names "without" = some (some (.ref T_new_names_without)))
    (w_new_names_without : K.lookup T_new_names_without = some ⟨.type "tuple", oT_new_names_without, .seq #[] nT_new_names_without, uT_new_names_without⟩)
    (a_L_pull : PySem.W.nsIn K mainGlobals "_law_pull" = some (some (.ref F_L_pull)))
    (l_L_pull : K.lookup F_L_pull = some ⟨oF_L_pull, pF_L_pull, .func (PySem.W.fnOf "_law_pull" "_law_pull" (defArgs s_L_pull) (defBody s_L_pull) (defScope s_L_pull) .none kF_L_pull dF_L_pull mF_L_pull qF_L_pull cF_L_pull tF_L_pull), uF_L_pull⟩)
    (c_L_pull : PySem.W.codeIn K cF_L_pull "_law_pull" = true)
    (k_L_pull : PySem.W.keepIn K (.ref F_L_pull) = true)
    (a_L_pick : PySem.W.nsIn K mainGlobals "_law_pick" = some (some (.ref F_L_pick)))
    (l_L_pick : K.lookup F_L_pick = some ⟨oF_L_pick, pF_L_pick, .func (PySem.W.fnOf "_law_pick" "_law_pick" (defArgs s_L_pick) (defBody s_L_pick) (defScope s_L_pick) .none kF_L_pick dF_L_pick mF_L_pick qF_L_pick cF_L_pick tF_L_pick), uF_L_pick⟩)
    (c_L_pick : PySem.W.codeIn K cF_L_pick "_law_pick" = true)
    (k_L_pick : PySem.W.keepIn K (.ref F_L_pick) = true)
    (a_L_word : PySem.W.nsIn K mainGlobals "_law_word" = some (some (.ref F_L_word)))
    (l_L_word : K.lookup F_L_word = some ⟨oF_L_word, pF_L_word, .func (PySem.W.fnOf "_law_word" "_law_word" (defArgs s_L_word) (defBody s_L_word) (defScope s_L_word) .none kF_L_word dF_L_word mF_L_word qF_L_word cF_L_word tF_L_word), uF_L_word⟩)
    (c_L_word : PySem.W.codeIn K cF_L_word "_law_word" = true)
    (k_L_word : PySem.W.keepIn K (.ref F_L_word) = true)
    (a_L_values : PySem.W.nsIn K mainGlobals "_law_values" = some (some (.ref F_L_values)))
    (l_L_values : K.lookup F_L_values = some ⟨oF_L_values, pF_L_values, .func (PySem.W.fnOf "_law_values" "_law_values" (defArgs s_L_values) (defBody s_L_values) (defScope s_L_values) .none kF_L_values dF_L_values mF_L_values qF_L_values cF_L_values tF_L_values), uF_L_values⟩)
    (c_L_values : PySem.W.codeIn K cF_L_values "_law_values" = true)
    (k_L_values : PySem.W.keepIn K (.ref F_L_values) = true)
    (a_L_is_name : PySem.W.nsIn K mainGlobals "_law_is_name" = some (some (.ref F_L_is_name)))
    (l_L_is_name : K.lookup F_L_is_name = some ⟨oF_L_is_name, pF_L_is_name, .func (PySem.W.fnOf "_law_is_name" "_law_is_name" (defArgs s_L_is_name) (defBody s_L_is_name) (defScope s_L_is_name) .none kF_L_is_name dF_L_is_name mF_L_is_name qF_L_is_name cF_L_is_name tF_L_is_name), uF_L_is_name⟩)
    (c_L_is_name : PySem.W.codeIn K cF_L_is_name "_law_is_name" = true)
    (k_L_is_name : PySem.W.keepIn K (.ref F_L_is_name) = true)
    (a_L_is_event : PySem.W.nsIn K mainGlobals "_law_is_event" = some (some (.ref F_L_is_event)))
    (l_L_is_event : K.lookup F_L_is_event = some ⟨oF_L_is_event, pF_L_is_event, .func (PySem.W.fnOf "_law_is_event" "_law_is_event" (defArgs s_L_is_event) (defBody s_L_is_event) (defScope s_L_is_event) .none kF_L_is_event dF_L_is_event mF_L_is_event qF_L_is_event cF_L_is_event tF_L_is_event), uF_L_is_event⟩)
    (c_L_is_event : PySem.W.codeIn K cF_L_is_event "_law_is_event" = true)
    (k_L_is_event : PySem.W.keepIn K (.ref F_L_is_event) = true)
    (a_L_longer : PySem.W.nsIn K mainGlobals "_law_longer" = some (some (.ref F_L_longer)))
    (l_L_longer : K.lookup F_L_longer = some ⟨oF_L_longer, pF_L_longer, .func (PySem.W.fnOf "_law_longer" "_law_longer" (defArgs s_L_longer) (defBody s_L_longer) (defScope s_L_longer) .none kF_L_longer dF_L_longer mF_L_longer qF_L_longer cF_L_longer tF_L_longer), uF_L_longer⟩)
    (c_L_longer : PySem.W.codeIn K cF_L_longer "_law_longer" = true)
    (k_L_longer : PySem.W.keepIn K (.ref F_L_longer) = true)
    (a_L_first_names : PySem.W.nsIn K mainGlobals "_law_first_names" = some (some (.ref F_L_first_names)))
    (l_L_first_names : K.lookup F_L_first_names = some ⟨oF_L_first_names, pF_L_first_names, .func (PySem.W.fnOf "_law_first_names" "_law_first_names" (defArgs s_L_first_names) (defBody s_L_first_names) (defScope s_L_first_names) .none kF_L_first_names dF_L_first_names mF_L_first_names qF_L_first_names cF_L_first_names tF_L_first_names), uF_L_first_names⟩)
    (c_L_first_names : PySem.W.codeIn K cF_L_first_names "_law_first_names" = true)
    (k_L_first_names : PySem.W.keepIn K (.ref F_L_first_names) = true)
    (a_L_told : PySem.W.nsIn K mainGlobals "_law_told" = some (some (.ref F_L_told)))
    (l_L_told : K.lookup F_L_told = some ⟨oF_L_told, pF_L_told, .func (PySem.W.fnOf "_law_told" "_law_told" (defArgs s_L_told) (defBody s_L_told) (defScope s_L_told) .none kF_L_told dF_L_told mF_L_told qF_L_told cF_L_told tF_L_told), uF_L_told⟩)
    (c_L_told : PySem.W.codeIn K cF_L_told "_law_told" = true)
    (k_L_told : PySem.W.keepIn K (.ref F_L_told) = true)
    (a_is_event : PySem.W.nsIn K mainGlobals "is_event" = some (some (.ref F_is_event)))
    (l_is_event : K.lookup F_is_event = some ⟨oF_is_event, pF_is_event, .func (PySem.W.fnOf "is_event" "is_event" (defArgs s_is_event) (defBody s_is_event) (defScope s_is_event) .none kF_is_event dF_is_event mF_is_event qF_is_event cF_is_event tF_is_event), uF_is_event⟩)
    (c_is_event : PySem.W.codeIn K cF_is_event "is_event" = true)
    (k_is_event : PySem.W.keepIn K (.ref F_is_event) = true)
    (a_is_letter : PySem.W.nsIn K mainGlobals "is_letter" = some (some (.ref F_is_letter)))
    (l_is_letter : K.lookup F_is_letter = some ⟨oF_is_letter, pF_is_letter, .func (PySem.W.fnOf "is_letter" "is_letter" (defArgs s_is_letter) (defBody s_is_letter) (defScope s_is_letter) .none kF_is_letter dF_is_letter mF_is_letter qF_is_letter cF_is_letter tF_is_letter), uF_is_letter⟩)
    (c_is_letter : PySem.W.codeIn K cF_is_letter "is_letter" = true)
    (k_is_letter : PySem.W.keepIn K (.ref F_is_letter) = true)
    (a_L_is_letter : PySem.W.nsIn K mainGlobals "_law_is_letter" = some (some (.ref F_L_is_letter)))
    (l_L_is_letter : K.lookup F_L_is_letter = some ⟨oF_L_is_letter, pF_L_is_letter, .func (PySem.W.fnOf "_law_is_letter" "_law_is_letter" (defArgs s_L_is_letter) (defBody s_L_is_letter) (defScope s_L_is_letter) .none kF_L_is_letter dF_L_is_letter mF_L_is_letter qF_L_is_letter cF_L_is_letter tF_L_is_letter), uF_L_is_letter⟩)
    (c_L_is_letter : PySem.W.codeIn K cF_L_is_letter "_law_is_letter" = true)
    (k_L_is_letter : PySem.W.keepIn K (.ref F_L_is_letter) = true)
    (a_other_in : PySem.W.nsIn K mainGlobals "other_in" = some (some (.ref F_other_in)))
    (l_other_in : K.lookup F_other_in = some ⟨oF_other_in, pF_other_in, .func (PySem.W.fnOf "other_in" "other_in" (defArgs s_other_in) (defBody s_other_in) (defScope s_other_in) .none kF_other_in dF_other_in mF_other_in qF_other_in cF_other_in tF_other_in), uF_other_in⟩)
    (c_other_in : PySem.W.codeIn K cF_other_in "other_in" = true)
    (k_other_in : PySem.W.keepIn K (.ref F_other_in) = true)
    (a_other_event : PySem.W.nsIn K mainGlobals "other_event" = some (some (.ref F_other_event)))
    (l_other_event : K.lookup F_other_event = some ⟨oF_other_event, pF_other_event, .func (PySem.W.fnOf "other_event" "other_event" (defArgs s_other_event) (defBody s_other_event) (defScope s_other_event) .none kF_other_event dF_other_event mF_other_event qF_other_event cF_other_event tF_other_event), uF_other_event⟩)
    (c_other_event : PySem.W.codeIn K cF_other_event "other_event" = true)
    (k_other_event : PySem.W.keepIn K (.ref F_other_event) = true)
    (a_L_right : PySem.W.nsIn K mainGlobals "_law_right" = some (some (.ref F_L_right)))
    (l_L_right : K.lookup F_L_right = some ⟨oF_L_right, pF_L_right, .func (PySem.W.fnOf "_law_right" "_law_right" (defArgs s_L_right) (defBody s_L_right) (defScope s_L_right) .none kF_L_right dF_L_right mF_L_right qF_L_right (.ref ca_L_right) tF_L_right), uF_L_right⟩)
    (c_L_right : PySem.W.codeIn K (.ref ca_L_right) "_law_right" = true)
    (k_L_right : PySem.W.keepIn K (.ref F_L_right) = true)
    (lc_L_right : K.lookup ca_L_right = some ⟨lX_L_right, rX_L_right, .fields us_L_right, vX_L_right⟩)
    (lp_L_right : us_L_right[11]? = some (.ref P_L_right))
    (n_L_right : K.lookup P_L_right = none)
    (r_L_right : ∃ d, (recsOf q).find? (fun e : DefRec => e.name == ("_law_right" : Str)) = some d)
    (a_law : PySem.W.nsIn K mainGlobals "law" = some (some (.ref F_law)))
    (l_law : K.lookup F_law = some ⟨oF_law, pF_law, .func (PySem.W.fnOf "law" "law" (defArgs s_law) (defBody s_law) (defScope s_law) .none kF_law dF_law mF_law qF_law cF_law tF_law), uF_law⟩)
    (c_law : PySem.W.codeIn K cF_law "law" = true)
    (k_law : PySem.W.keepIn K (.ref F_law) = true)
    (nl : noLists K = true) :
    ∃ cs T, LawG q l w K mg 63 7 "_law_script" fa cs T f_law := by
  have e := hfa.symm.trans (PySem.W.mg_of KX G a_law)
  cases e
  have bl : Bl mg := ⟨PySem.W.mg_none_of KX G z_abs, PySem.W.mg_none_of KX G z_all, PySem.W.mg_none_of KX G z_bool, PySem.W.mg_none_of KX G z_divmod, PySem.W.mg_none_of KX G z_int, PySem.W.mg_none_of KX G z_isinstance, PySem.W.mg_none_of KX G z_len, PySem.W.mg_none_of KX G z_max, PySem.W.mg_none_of KX G z_min, PySem.W.mg_none_of KX G z_range, PySem.W.mg_none_of KX G z_repr, PySem.W.mg_none_of KX G z_str, PySem.W.mg_none_of KX G z_tuple⟩
  have gc : Gc K mg := ⟨⟨_, .str "abcdefghijklmnopqrstuvwxyz", PySem.W.mg_of KX G g_ALPHABET, ⟨_, rfl⟩, fun F => .str _⟩, ⟨_, .int 8, PySem.W.mg_of KX G g_MAX_LENGTH, ⟨_, rfl⟩, fun F => .int _⟩, ⟨_, .int 500, PySem.W.mg_of KX G g_MAX_NAMES, ⟨_, rfl⟩, fun F => .int _⟩, ⟨_, .str "send", PySem.W.mg_of KX G g_SEND, ⟨_, rfl⟩, fun F => .str _⟩, ⟨_, .str "read", PySem.W.mg_of KX G g_READ, ⟨_, rfl⟩, fun F => .str _⟩⟩
  have sub : SubT K mg subC := by
    intro x c b u v hs hu hv
    unfold subC at hs
    split at hs
    · rename_i hc
      obtain ⟨rfl, rfl⟩ := hc
      cases hs
      rw [PySem.W.mg_of KX G a_InvalidName] at hu; rw [PySem.W.mg_of KX G a_InvalidName] at hv; cases hu; cases hv
      exact PySem.W.exm_ref e_InvalidName d_h_InvalidName y_InvalidName p_InvalidName_InvalidName
    split at hs
    · rename_i hc
      obtain ⟨rfl, rfl⟩ := hc
      cases hs
      rw [PySem.W.mg_of KX G a_InvalidName] at hu; rw [PySem.W.mg_of KX G a_InvalidNumber] at hv; cases hu; cases hv
      exact PySem.W.exm_ref e_InvalidNumber d_h_InvalidNumber y_InvalidNumber p_InvalidName_InvalidNumber
    split at hs
    · rename_i hc
      obtain ⟨rfl, rfl⟩ := hc
      cases hs
      rw [PySem.W.mg_of KX G a_InvalidNumber] at hu; rw [PySem.W.mg_of KX G a_InvalidName] at hv; cases hu; cases hv
      exact PySem.W.exm_ref e_InvalidName d_h_InvalidName y_InvalidName p_InvalidNumber_InvalidName
    split at hs
    · rename_i hc
      obtain ⟨rfl, rfl⟩ := hc
      cases hs
      rw [PySem.W.mg_of KX G a_InvalidNumber] at hu; rw [PySem.W.mg_of KX G a_InvalidNumber] at hv; cases hu; cases hv
      exact PySem.W.exm_ref e_InvalidNumber d_h_InvalidNumber y_InvalidNumber p_InvalidNumber_InvalidNumber
    cases hs
  have ex : Exs l.prog K mg := ⟨⟨C_InvalidName, _, "ValueError", "ValueError.__new__", "ValueError.__init__", PySem.F.excBase_ValueError, PySem.W.mg_of KX G a_InvalidName, x_InvalidName, k_InvalidName, e_InvalidName, y_InvalidName⟩, ⟨C_InvalidNumber, I_InvalidNumber, "IndexError", "IndexError.__new__", "IndexError.__init__", _, "value", si_InvalidNumber, ⟨PySem.F.excBase_IndexError, PySem.W.kxs_IndexError, PySem.F.store_IndexError, q_InvalidNumber, o_InvalidNumber, i_InvalidNumber, f_InvalidNumber_, m_InvalidNumber, b_InvalidNumber_, s_InvalidNumber_, su, tp, w_InvalidNumber, taker_no t_InvalidNumber, d_h_InvalidNumber, e_InvalidNumber, y_InvalidNumber, k_InvalidNumber, ⟨_, _, _, _, _, _, _, _, _, _, _, _, _, _, _, _, _, _, _, _, l_InvalidNumber, c_InvalidNumber_, lc_InvalidNumber, lf_InvalidNumber, hl ▸ le_InvalidNumber, ll_InvalidNumber⟩⟩, hl ▸ st_InvalidNumber, PySem.W.mg_of KX G a_InvalidNumber⟩, ⟨C_InvalidNumber, PySem.W.mg_of KX G a_InvalidNumber, ⟨ga_InvalidNumber, gg_InvalidNumber, e_InvalidNumber, d_h_InvalidNumber⟩, t_InvalidNumber⟩, sub⟩
  refine ⟨[(ca_L_right, P_L_right)], [(P_L_right, "_law_right" ++ ".<locals>." ++ "<lambda>")], ⟨by intro p hp; simp only [List.mem_cons, List.not_mem_nil, or_false] at hp; subst hp; (obtain ⟨d, hd⟩ := r_L_right; exact ⟨"_law_right", d, hd, tabIn_mk a_L_right l_L_right rfl lc_L_right lp_L_right⟩), by intro p hp; simp only [List.mem_cons, List.not_mem_nil, or_false] at hp; subst hp; exact n_L_right, nl, by simp, ⟨PySem.W.fnOf "law" "law" (defArgs s_law) (defBody s_law) (defScope s_law) .none kF_law dF_law mF_law qF_law cF_law tF_law, fun s v => .of_eq rfl, fun base KB GB TB => ?_⟩⟩⟩
  have LF_L_right : LamF base mg [(P_L_right, "_law_right" ++ ".<locals>." ++ "<lambda>")] ("_law_right" ++ ".<locals>.") ca_L_right := ⟨P_L_right, TB (ca_L_right, P_L_right) (by simp), by simp, by intro p hp e; simp only [List.mem_cons, List.not_mem_nil, or_false] at hp; subst hp; rfl⟩
  have h_L_dice := cl_L_dice (base := base) (w := w) (T := [(P_L_right, "_law_right" ++ ".<locals>." ++ "<lambda>")]) bl gc ex ⟨_, _, L2.fun_mk l_L_dice c_L_dice k_L_dice, PySem.W.mg_of KX G a_L_dice⟩ 
  have h_is_integer := cl_is_integer (base := base) (w := w) (T := [(P_L_right, "_law_right" ++ ".<locals>." ++ "<lambda>")]) bl gc ex ⟨_, _, L2.fun_mk l_is_integer c_is_integer k_is_integer, PySem.W.mg_of KX G a_is_integer⟩ 
  have h_is_between := cl_is_between (base := base) (w := w) (T := [(P_L_right, "_law_right" ++ ".<locals>." ++ "<lambda>")]) bl gc ex ⟨_, _, L2.fun_mk l_is_between c_is_between k_is_between, PySem.W.mg_of KX G a_is_between⟩ h_is_integer
  have h_name_number := cl_name_number (base := base) (w := w) (T := [(P_L_right, "_law_right" ++ ".<locals>." ++ "<lambda>")]) bl gc ex ⟨_, _, L2.fun_mk l_name_number c_name_number k_name_number, PySem.W.mg_of KX G a_name_number⟩ 
  have h_free_names := cl_free_names (base := base) (w := w) (T := [(P_L_right, "_law_right" ++ ".<locals>." ++ "<lambda>")]) bl gc ex ⟨_, _, L2.fun_mk l_free_names c_free_names k_free_names, PySem.W.mg_of KX G a_free_names⟩ h_name_number
  have h_is_name := cl_is_name (base := base) (w := w) (T := [(P_L_right, "_law_right" ++ ".<locals>." ++ "<lambda>")]) bl gc ex ⟨_, _, L2.fun_mk l_is_name c_is_name k_is_name, PySem.W.mg_of KX G a_is_name⟩ 
  have h_new_names := cl_new_names (base := base) (w := w) (T := [(P_L_right, "_law_right" ++ ".<locals>." ++ "<lambda>")]) bl gc ex ⟨_, _, [("without", .ref T_new_names_without)], ⟨⟨_, _, _, _, _, _, _, _, _, _, rfl, l_new_names, c_new_names, .inl ⟨rfl, rfl⟩, .inr ⟨_, rfl, fun p hp => by simp only [List.mem_cons, List.not_mem_nil, or_false] at hp; subst hp; exact ⟨_, v_new_names_without, rfl⟩⟩⟩, k_new_names⟩, PySem.W.mg_of KX G a_new_names, rfl, fun F => .cons (.tup (.inr ⟨_, _, _, w_new_names_without, rfl, rfl, by decide, .nil⟩) .nil) (.nil)⟩ h_free_names h_is_between h_is_name
  have h_L_pull := cl_L_pull (base := base) (w := w) (T := [(P_L_right, "_law_right" ++ ".<locals>." ++ "<lambda>")]) bl gc ex ⟨_, _, L2.fun_mk l_L_pull c_L_pull k_L_pull, PySem.W.mg_of KX G a_L_pull⟩ 
  have h_L_pick := cl_L_pick (base := base) (w := w) (T := [(P_L_right, "_law_right" ++ ".<locals>." ++ "<lambda>")]) bl gc ex ⟨_, _, L2.fun_mk l_L_pick c_L_pick k_L_pick, PySem.W.mg_of KX G a_L_pick⟩ h_L_pull
  have h_L_word := cl_L_word (base := base) (w := w) (T := [(P_L_right, "_law_right" ++ ".<locals>." ++ "<lambda>")]) bl gc ex ⟨_, _, L2.fun_mk l_L_word c_L_word k_L_word, PySem.W.mg_of KX G a_L_word⟩ h_L_pick h_L_pull
  have h_L_values := cl_L_values (base := base) (w := w) (T := [(P_L_right, "_law_right" ++ ".<locals>." ++ "<lambda>")]) bl gc ex ⟨_, _, L2.fun_mk l_L_values c_L_values k_L_values, PySem.W.mg_of KX G a_L_values⟩ h_L_word
  have h_L_is_name := cl_L_is_name (base := base) (w := w) (T := [(P_L_right, "_law_right" ++ ".<locals>." ++ "<lambda>")]) bl gc ex ⟨_, _, L2.fun_mk l_L_is_name c_L_is_name k_L_is_name, PySem.W.mg_of KX G a_L_is_name⟩ 
  have h_L_is_event := cl_L_is_event (base := base) (w := w) (T := [(P_L_right, "_law_right" ++ ".<locals>." ++ "<lambda>")]) bl gc ex ⟨_, _, L2.fun_mk l_L_is_event c_L_is_event k_L_is_event, PySem.W.mg_of KX G a_L_is_event⟩ h_L_is_name
  have h_L_longer := cl_L_longer (base := base) (w := w) (T := [(P_L_right, "_law_right" ++ ".<locals>." ++ "<lambda>")]) bl gc ex ⟨_, _, L2.fun_mk l_L_longer c_L_longer k_L_longer, PySem.W.mg_of KX G a_L_longer⟩ 
  have h_L_first_names := cl_L_first_names (base := base) (w := w) (T := [(P_L_right, "_law_right" ++ ".<locals>." ++ "<lambda>")]) bl gc ex ⟨_, _, L2.fun_mk l_L_first_names c_L_first_names k_L_first_names, PySem.W.mg_of KX G a_L_first_names⟩ h_L_longer
  have h_L_told : Fd K mg "_law_told" s_L_told := ⟨_, _, L2.fun_mk l_L_told c_L_told k_L_told, PySem.W.mg_of KX G a_L_told⟩
  have h_is_event := cl_is_event (base := base) (w := w) (T := [(P_L_right, "_law_right" ++ ".<locals>." ++ "<lambda>")]) bl gc ex ⟨_, _, L2.fun_mk l_is_event c_is_event k_is_event, PySem.W.mg_of KX G a_is_event⟩ h_is_name
  have h_is_letter := cl_is_letter (base := base) (w := w) (T := [(P_L_right, "_law_right" ++ ".<locals>." ++ "<lambda>")]) bl gc ex ⟨_, _, L2.fun_mk l_is_letter c_is_letter k_is_letter, PySem.W.mg_of KX G a_is_letter⟩ h_is_name
  have h_L_is_letter := cl_L_is_letter (base := base) (w := w) (T := [(P_L_right, "_law_right" ++ ".<locals>." ++ "<lambda>")]) bl gc ex ⟨_, _, L2.fun_mk l_L_is_letter c_L_is_letter k_L_is_letter, PySem.W.mg_of KX G a_L_is_letter⟩ h_L_is_name
  have h_other_in := cl_other_in (base := base) (w := w) (T := [(P_L_right, "_law_right" ++ ".<locals>." ++ "<lambda>")]) bl gc ex ⟨_, _, L2.fun_mk l_other_in c_other_in k_other_in, PySem.W.mg_of KX G a_other_in⟩ 
  have h_other_event := cl_other_event (base := base) (w := w) (T := [(P_L_right, "_law_right" ++ ".<locals>." ++ "<lambda>")]) bl gc ex ⟨_, _, L2.fun_mk l_other_event c_other_event k_other_event, PySem.W.mg_of KX G a_other_event⟩ h_is_event h_other_in
  have h_L_right := cl_L_right (base := base) (w := w) (T := [(P_L_right, "_law_right" ++ ".<locals>." ++ "<lambda>")]) bl gc ex ⟨_, _, _, _, _, _, _, _, _, PySem.W.mg_of KX G a_L_right, l_L_right, c_L_right, k_L_right⟩ LF_L_right h_L_first_names h_L_is_event h_L_is_letter h_L_is_name h_L_pick h_L_pull h_L_values h_is_event h_is_letter h_is_name h_new_names h_other_event h_L_told
  exact ok_law bl gc ex (L2.fun_mk l_law c_law k_law) h_L_dice h_L_right h_new_names
end LR
open PySem PySem.W PyProof.Rows
set_option maxRecDepth 100000 in
set_option maxHeartbeats 0 in
theorem PySem.Challenge.cw_letterrules_k01_names_and_events_holds : PySem.Challenge.rw_letterrules_k01_names_and_events.Holds := by
  w_on; o_law; k_head; (case hw => w_witness2)
  k_fill
  first
    | refine L2.PV.walkG (l := PySem.Challenge.rw_letterrules_k01_names_and_events) (n := 63) (k := 7) (x := "_law_script") rfl (by decide) rfl ⟨rfl, by decide, by decide⟩ (fun w h Y => PySem.W.kIn_of Y) LR.f_law ?F LR.law_right
    | refine L2.PV.walkG (l := PySem.Challenge.rw_letterrules_k01_names_and_events) (n := 63) (k := 7) (x := "_law_script") rfl (by decide) rfl ⟨rfl, by decide, by decide⟩ (fun w h Y => PySem.W.km_in_of Y) LR.f_law ?F LR.law_right
  case F =>
    intro w mg fa h Y KX G hmg
    refine' LR.mk_law rfl KX G hmg ?z_abs ?z_all ?z_bool ?z_divmod ?z_int ?z_isinstance ?z_len ?z_max ?z_min ?z_range ?z_repr ?z_str ?z_tuple ?g_ALPHABET ?g_MAX_LENGTH ?g_MAX_NAMES ?g_SEND ?g_READ ?a_InvalidName ?e_InvalidName ?y_InvalidName ?d_h_InvalidName ?k_InvalidName ?a_InvalidNumber ?e_InvalidNumber ?y_InvalidNumber ?d_h_InvalidNumber ?k_InvalidNumber ?x_InvalidName ?q_InvalidNumber ?o_InvalidNumber ?i_InvalidNumber ?f_InvalidNumber_ ?m_InvalidNumber ?b_InvalidNumber_ ?s_InvalidNumber_ ?w_InvalidNumber ?t_InvalidNumber ?l_InvalidNumber ?c_InvalidNumber_ ?lc_InvalidNumber ?lf_InvalidNumber ?le_InvalidNumber ?ll_InvalidNumber ?su ?tp ?ga_InvalidNumber ?gg_InvalidNumber ?p_InvalidName_InvalidName ?p_InvalidName_InvalidNumber ?p_InvalidNumber_InvalidName ?p_InvalidNumber_InvalidNumber ?a_L_dice ?l_L_dice ?c_L_dice ?k_L_dice ?a_is_integer ?l_is_integer ?c_is_integer ?k_is_integer ?a_is_between ?l_is_between ?c_is_between ?k_is_between ?a_name_number ?l_name_number ?c_name_number ?k_name_number ?a_free_names ?l_free_names ?c_free_names ?k_free_names ?a_is_name ?l_is_name ?c_is_name ?k_is_name ?a_new_names ?l_new_names ?c_new_names ?k_new_names ?v_new_names_without ?w_new_names_without ?a_L_pull ?l_L_pull ?c_L_pull ?k_L_pull ?a_L_pick ?l_L_pick ?c_L_pick ?k_L_pick ?a_L_word ?l_L_word ?c_L_word ?k_L_word ?a_L_values ?l_L_values ?c_L_values ?k_L_values ?a_L_is_name ?l_L_is_name ?c_L_is_name ?k_L_is_name ?a_L_is_event ?l_L_is_event ?c_L_is_event ?k_L_is_event ?a_L_longer ?l_L_longer ?c_L_longer ?k_L_longer ?a_L_first_names ?l_L_first_names ?c_L_first_names ?k_L_first_names ?a_L_told ?l_L_told ?c_L_told ?k_L_told ?a_is_event ?l_is_event ?c_is_event ?k_is_event ?a_is_letter ?l_is_letter ?c_is_letter ?k_is_letter ?a_L_is_letter ?l_L_is_letter ?c_L_is_letter ?k_L_is_letter ?a_other_in ?l_other_in ?c_other_in ?k_other_in ?a_other_event ?l_other_event ?c_other_event ?k_other_event ?a_L_right ?l_L_right ?c_L_right ?k_L_right ?lc_L_right ?lp_L_right ?n_L_right ?r_L_right ?a_law ?l_law ?c_law ?k_law ?nl
    (case z_abs => k_is)
    (case z_all => k_is)
    (case z_bool => k_is)
    (case z_divmod => k_is)
    (case z_int => k_is)
    (case z_isinstance => k_is)
    (case z_len => k_is)
    (case z_max => k_is)
    (case z_min => k_is)
    (case z_range => k_is)
    (case z_repr => k_is)
    (case z_str => k_is)
    (case z_tuple => k_is)
    (case g_ALPHABET => k_is)
    (case g_MAX_LENGTH => k_is)
    (case g_MAX_NAMES => k_is)
    (case g_SEND => k_is)
    (case g_READ => k_is)
    (case a_InvalidName => k_is)
    (case e_InvalidName => k_is)
    (case y_InvalidName => k_is)
    (case d_h_InvalidName => k_is)
    (case k_InvalidName => k_is)
    (case a_InvalidNumber => k_is)
    (case e_InvalidNumber => k_is)
    (case y_InvalidNumber => k_is)
    (case d_h_InvalidNumber => k_is)
    (case k_InvalidNumber => k_is)
    (case x_InvalidName => k_exc)
    (case q_InvalidNumber => kx_is)
    (case o_InvalidNumber => kx_is)
    (case i_InvalidNumber => k_is)
    (case f_InvalidNumber_ => k_is)
    (case m_InvalidNumber => ks_is)
    (case b_InvalidNumber_ => k_is)
    (case s_InvalidNumber_ => k_is)
    (case w_InvalidNumber => k_is)
    (case t_InvalidNumber => k_is)
    (case l_InvalidNumber => k_is)
    (case c_InvalidNumber_ => k_is)
    (case lc_InvalidNumber => k_is)
    (case lf_InvalidNumber => rfl)
    (case le_InvalidNumber => first | rfl | decide +kernel)
    (case ll_InvalidNumber => k_is)
    (case su => k_is)
    (case tp => k_is)
    (case ga_InvalidNumber => k_is)
    (case gg_InvalidNumber => k_is)
    (case p_InvalidName_InvalidName => k_is)
    (case p_InvalidName_InvalidNumber => k_is)
    (case p_InvalidNumber_InvalidName => k_is)
    (case p_InvalidNumber_InvalidNumber => k_is)
    (case a_L_dice => k_is)
    (case l_L_dice => k_is)
    (case c_L_dice => k_is)
    (case k_L_dice => k_is)
    (case a_is_integer => k_is)
    (case l_is_integer => k_is)
    (case c_is_integer => k_is)
    (case k_is_integer => k_is)
    (case a_is_between => k_is)
    (case l_is_between => k_is)
    (case c_is_between => k_is)
    (case k_is_between => k_is)
    (case a_name_number => k_is)
    (case l_name_number => k_is)
    (case c_name_number => k_is)
    (case k_name_number => k_is)
    (case a_free_names => k_is)
    (case l_free_names => k_is)
    (case c_free_names => k_is)
    (case k_free_names => k_is)
    (case a_is_name => k_is)
    (case l_is_name => k_is)
    (case c_is_name => k_is)
    (case k_is_name => k_is)
    (case a_new_names => k_is)
    (case l_new_names => k_is)
    (case c_new_names => k_is)
    (case k_new_names => k_is)
    (case v_new_names_without => k_is)
    (case w_new_names_without => k_is)
    (case a_L_pull => k_is)
    (case l_L_pull => k_is)
    (case c_L_pull => k_is)
    (case k_L_pull => k_is)
    (case a_L_pick => k_is)
    (case l_L_pick => k_is)
    (case c_L_pick => k_is)
    (case k_L_pick => k_is)
    (case a_L_word => k_is)
    (case l_L_word => k_is)
    (case c_L_word => k_is)
    (case k_L_word => k_is)
    (case a_L_values => k_is)
    (case l_L_values => k_is)
    (case c_L_values => k_is)
    (case k_L_values => k_is)
    (case a_L_is_name => k_is)
    (case l_L_is_name => k_is)
    (case c_L_is_name => k_is)
    (case k_L_is_name => k_is)
    (case a_L_is_event => k_is)
    (case l_L_is_event => k_is)
    (case c_L_is_event => k_is)
    (case k_L_is_event => k_is)
    (case a_L_longer => k_is)
    (case l_L_longer => k_is)
    (case c_L_longer => k_is)
    (case k_L_longer => k_is)
    (case a_L_first_names => k_is)
    (case l_L_first_names => k_is)
    (case c_L_first_names => k_is)
    (case k_L_first_names => k_is)
    (case a_L_told => k_is)
    (case l_L_told => k_is)
    (case c_L_told => k_is)
    (case k_L_told => k_is)
    (case a_is_event => k_is)
    (case l_is_event => k_is)
    (case c_is_event => k_is)
    (case k_is_event => k_is)
    (case a_is_letter => k_is)
    (case l_is_letter => k_is)
    (case c_is_letter => k_is)
    (case k_is_letter => k_is)
    (case a_L_is_letter => k_is)
    (case l_L_is_letter => k_is)
    (case c_L_is_letter => k_is)
    (case k_L_is_letter => k_is)
    (case a_other_in => k_is)
    (case l_other_in => k_is)
    (case c_other_in => k_is)
    (case k_other_in => k_is)
    (case a_other_event => k_is)
    (case l_other_event => k_is)
    (case c_other_event => k_is)
    (case k_other_event => k_is)
    (case a_L_right => k_is)
    (case l_L_right => k_is)
    (case c_L_right => k_is)
    (case k_L_right => k_is)
    (case lc_L_right => k_is)
    (case lp_L_right => exact rfl)
    (case n_L_right => first | kernel_rfl | rfl | decide +kernel)
    (case r_L_right => exact Option.isSome_iff_exists.mp (by first | rfl | decide +kernel))
    (case a_law => k_is)
    (case l_law => k_is)
    (case c_law => k_is)
    (case k_law => k_is)
    (case nl => first | rfl | kernel_rfl | decide +kernel)
#print axioms PySem.Challenge.cw_letterrules_k01_names_and_events_holds

