import PyProof.Rows.All
import Wide.All
import OpenK.AllK
import Wide.FinOn
import HandS.ForMost
import HandS.Wide
import HandS.TupAny
import HandS.TryMany
import HandS.Lambda
import HandS.WordsExc
import HandS.CallSlots
import HandS.TupMul
import HandS.Style
import HandS.Conv
import HandS.IsInst
import HandS.Flow
import HandS.SortInts
import HandS.ExcIs
import HandS.ExcField
import HandS.EndTab
import HandS.HeadWalk
import KE.KNestM
import KE.KTupSum
import PySem.Challenge.RW_nextterms_k47_whole_beats_by_floor_sums
set_option Elab.async false
set_option linter.all false
set_option maxRecDepth 100000
set_option maxHeartbeats 4000000
/-! L3: values by content over HandS -/
namespace L3
open PySem PySem.Spec L2
open PyProof.Rows hiding St

/-- a value by content: tuples by value, mutable things by address -/
inductive PV where
  | non | bl (b : Bool) | int (i : Int) | str (x : Str) | tup (xs : List PV) | ref (a : Addr) | ty (n : String)

/-- what a tracked address holds, by content -/
inductive MO where
  | lst (xs : List PV)
  | rol (xs : List PV)
  | hand
  | priv
  | dct (kvs : List (Key × PV))

abbrev Sto := Addr → Option MO
abbrev PEnv := List (Option PV)
def supd (S : Sto) (a : Addr) (o : MO) : Sto := fun b => if b = a then some o else S b
theorem supd_same {S : Sto} {a : Addr} {o : MO} : supd S a o a = some o := by unfold supd; rw [if_pos rfl]
theorem supd_ne {S : Sto} {a b : Addr} {o : MO} (h : b ≠ a) : supd S a o b = S b := by unfold supd; rw [if_neg h]
theorem supd_supd {S : Sto} {a : Addr} {o u : MO} : supd (supd S a o) a u = supd S a u := by
  funext b; unfold supd; split <;> rfl

structure Gd where
  K : PySem.W.Frag
  T : List (Addr × Str)
  ec : Str → Option Addr
  /-- things that stand, not in any view -/
  fx : List (Addr × (Heap → Prop)) := []
  /-- captured slots -/
  cps : List (PEnv × L2.St) := []

mutual
def Rep (K : PySem.W.Frag) (H : Hp) : PV → V → Prop
  | .non, v => v = .non
  | .bl b, v => v = .bl b
  | .int i, v => v = .int i
  | .str x, v => v = .str x
  | .ref a, v => v = .ref a
  | .ty n, v => v = .ty n
  | .tup xs, v => ∃ a vs, v = .ref a ∧ SqT K H a vs ∧ Reps K H xs vs
def Reps (K : PySem.W.Frag) (H : Hp) : List PV → List V → Prop
  | [], vs => vs = []
  | x :: xs, vs => ∃ v ws, vs = v :: ws ∧ Rep K H x v ∧ Reps K H xs ws
end

/-- tuples stay -/
def Stay (H H' : Hp) : Prop := ∀ a xs, Rd H a (.tup xs) → Rd H' a (.tup xs)
theorem Stay.refl (H : Hp) : Stay H H := fun _ _ h => h
theorem Stay.trans {H H1 H2 : Hp} (a : Stay H H1) (b : Stay H1 H2) : Stay H H2 := fun c xs h => b c xs (a c xs h)
theorem Stay.of {H H' : Hp} (h : Same H H') : Stay H H' := fun a xs r => by
  rcases r with r | ⟨o, r⟩
  · exact .inl (h _ _ r)
  · exact .inr ⟨o, h _ _ r⟩
theorem Stay.sq {K : PySem.W.Frag} {H H' : Hp} {a : Addr} {xs : List V} (s : Stay H H') (h : SqT K H a xs) : SqT K H' a xs := h.imp (s a xs) id
mutual
theorem rep_stay {K : PySem.W.Frag} {H H' : Hp} (s : Stay H H') : ∀ (x : PV) (v : V), Rep K H x v → Rep K H' x v
  | .non, _, h => h
  | .bl _, _, h => h
  | .int _, _, h => h
  | .str _, _, h => h
  | .ref _, _, h => h
  | .ty _, _, h => h
  | .tup xs, _, h => by
    obtain ⟨a, vs, e, q, r⟩ := h
    exact ⟨a, vs, e, s.sq q, reps_stay s xs vs r⟩
theorem reps_stay {K : PySem.W.Frag} {H H' : Hp} (s : Stay H H') : ∀ (xs : List PV) (vs : List V), Reps K H xs vs → Reps K H' xs vs
  | [], _, h => h
  | x :: xs, _, h => by
    obtain ⟨v, ws, e, r, rs⟩ := h
    exact ⟨v, ws, e, rep_stay s x v r, reps_stay s xs ws rs⟩
end
section
variable {K : PySem.W.Frag} {H : Hp}
theorem reps_length : ∀ {xs : List PV} {vs : List V}, Reps K H xs vs → xs.length = vs.length
  | [], _, h => by cases h; rfl
  | x :: xs, _, h => by
    obtain ⟨v, ws, rfl, _, rs⟩ := h
    simp [reps_length rs]
theorem reps_append : ∀ {xs : List PV} {vs : List V} {ys : List PV} {ws : List V}, Reps K H xs vs → Reps K H ys ws → Reps K H (xs ++ ys) (vs ++ ws)
  | [], _, _, _, h, k => by cases h; exact k
  | x :: xs, _, _, _, h, k => by
    obtain ⟨v, ws, rfl, r, rs⟩ := h
    exact ⟨v, _, rfl, r, reps_append rs k⟩
theorem reps_get : ∀ {xs : List PV} {vs : List V} {i : Nat} {x : PV}, Reps K H xs vs → xs[i]? = some x → ∃ v, vs[i]? = some v ∧ Rep K H x v
  | [], _, _, _, h, e => by simp at e
  | y :: xs, _, 0, x, h, e => by
    obtain ⟨v, ws, rfl, r, rs⟩ := h
    simp at e; subst e
    exact ⟨v, rfl, r⟩
  | y :: xs, _, i + 1, x, h, e => by
    obtain ⟨v, ws, rfl, r, rs⟩ := h
    simpa using reps_get (i := i) rs (by simpa using e)
theorem reps_set {x : PV} {v : V} (r : Rep K H x v) : ∀ {xs : List PV} {vs : List V} (i : Nat), Reps K H xs vs → Reps K H (xs.set i x) (vs.set i v)
  | [], _, i, h => by cases h; exact rfl
  | y :: xs, _, 0, h => by
    obtain ⟨w, ws, rfl, _, rs⟩ := h
    exact ⟨v, ws, rfl, r, rs⟩
  | y :: xs, _, i + 1, h => by
    obtain ⟨w, ws, rfl, q, rs⟩ := h
    exact ⟨w, _, rfl, q, reps_set r i rs⟩
theorem reps_take : ∀ {xs : List PV} {vs : List V} (n : Nat), Reps K H xs vs → Reps K H (xs.take n) (vs.take n)
  | _, _, 0, _ => by simp [Reps]
  | [], _, n + 1, h => by cases h; simp [Reps]
  | x :: xs, _, n + 1, h => by
    obtain ⟨v, ws, rfl, r, rs⟩ := h
    exact ⟨v, _, rfl, r, reps_take n rs⟩
theorem reps_drop : ∀ {xs : List PV} {vs : List V} (n : Nat), Reps K H xs vs → Reps K H (xs.drop n) (vs.drop n)
  | _, _, 0, h => by simpa using h
  | [], _, n + 1, h => by cases h; simp [Reps]
  | x :: xs, _, n + 1, h => by
    obtain ⟨v, ws, rfl, r, rs⟩ := h
    simpa using reps_drop n rs
theorem reps_dropLast : ∀ {xs : List PV} {vs : List V}, Reps K H xs vs → Reps K H xs.dropLast vs.dropLast := fun {xs vs} h => by
  rw [List.dropLast_eq_take, List.dropLast_eq_take, reps_length h]
  exact reps_take _ h
theorem reps_ints : ∀ {ns : List Int} {vs : List V}, Reps K H (ns.map PV.int) vs ↔ vs = ns.map V.int
  | [], vs => by simp [Reps]
  | n :: ns, vs => by
    constructor
    · rintro ⟨v, ws, rfl, r, rs⟩
      obtain rfl : v = .int n := r
      rw [reps_ints.mp rs]; rfl
    · rintro rfl
      exact ⟨_, _, rfl, rfl, reps_ints.mpr rfl⟩
theorem reps_bls : ∀ {ns : List Bool} {vs : List V}, Reps K H (ns.map PV.bl) vs ↔ vs = ns.map V.bl
  | [], vs => by simp [Reps]
  | n :: ns, vs => by
    constructor
    · rintro ⟨v, ws, rfl, r, rs⟩
      obtain rfl : v = .bl n := r
      rw [reps_bls.mp rs]; rfl
    · rintro rfl
      exact ⟨_, _, rfl, rfl, reps_bls.mpr rfl⟩
theorem reps_strs : ∀ {ns : List Str} {vs : List V}, Reps K H (ns.map PV.str) vs ↔ vs = ns.map V.str
  | [], vs => by simp [Reps]
  | n :: ns, vs => by
    constructor
    · rintro ⟨v, ws, rfl, r, rs⟩
      obtain rfl : v = .str n := r
      rw [reps_strs.mp rs]; rfl
    · rintro rfl
      exact ⟨_, _, rfl, rfl, reps_strs.mpr rfl⟩
end

/-! ### the slots -/
def Renv (K : PySem.W.Frag) (H : Hp) (ε : PEnv) (σ : St) : Prop := ε.length = σ.length ∧ ∀ (i : Nat) (x : PV), ε[i]? = some (some x) → ∃ v, σ[i]? = some (some v) ∧ Rep K H x v
theorem Renv.stay {K : PySem.W.Frag} {H H' : Hp} {ε : PEnv} {σ : St} (s : Stay H H') (h : Renv K H ε σ) : Renv K H' ε σ := ⟨h.1, fun i x e => by
  obtain ⟨v, e1, r⟩ := h.2 i x e
  exact ⟨v, e1, rep_stay s x v r⟩⟩
theorem Renv.set {K : PySem.W.Frag} {H : Hp} {ε : PEnv} {σ : St} {x : PV} {v : V} (h : Renv K H ε σ) (i : Nat) (r : Rep K H x v) : Renv K H (ε.set i (some x)) (σ.set i (some v)) := by
  refine ⟨by simp [h.1], fun j y e => ?_⟩
  by_cases hj : j = i
  · subst hj
    by_cases hl : j < ε.length
    · rw [List.getElem?_set_self hl] at e
      cases e
      exact ⟨v, by rw [List.getElem?_set_self (by rw [← h.1]; exact hl)], r⟩
    · rw [List.getElem?_eq_none (by simpa using hl)] at e; cases e
  · rw [List.getElem?_set_ne (Ne.symm hj)] at e ⊢
    exact h.2 j y e
theorem Renv.unset {K : PySem.W.Frag} {H : Hp} {ε : PEnv} {σ : St} {o : Option V} (h : Renv K H ε σ) (i : Nat) : Renv K H (ε.set i none) (σ.set i o) := by
  refine ⟨by simp [h.1], fun j y e => ?_⟩
  by_cases hj : j = i
  · subst hj
    by_cases hl : j < ε.length
    · rw [List.getElem?_set_self hl] at e; cases e
    · rw [List.getElem?_eq_none (by simpa using hl)] at e; cases e
  · rw [List.getElem?_set_ne (Ne.symm hj)] at e ⊢
    exact h.2 j y e
def RepKV (K : PySem.W.Frag) (H : Hp) : List (Key × PV) → List (Key × V) → Prop
  | [], es => es = []
  | (k, x) :: kvs, es => ∃ v ws, es = (k, v) :: ws ∧ Rep K H x v ∧ RepKV K H kvs ws
theorem repKV_stay {K : PySem.W.Frag} {H H' : Hp} (s : Stay H H') : ∀ (xs : List (Key × PV)) (vs : List (Key × V)), RepKV K H xs vs → RepKV K H' xs vs
  | [], _, h => h
  | (k, x) :: xs, _, h => by
    obtain ⟨v, ws, e, r, rs⟩ := h
    exact ⟨v, ws, e, rep_stay s x v r, repKV_stay s xs ws rs⟩

/-- the hand: the cells at c -/
def HandOk (H : Hp) (h c : Addr) : Prop := ∃ (cells : List Int) (p l m k : Int), H h = some (.lst [.ref c, .int p, .int l, .int m, .int k]) ∧ H c = some (.lst (cells.map V.int)) ∧
  (∀ x ∈ cells, 0 ≤ x) ∧ 0 ≤ p ∧ 0 ≤ l ∧ 0 ≤ m ∧ 0 ≤ k ∧ cells.length ≤ 63

def MOk (G : Gd) (H : Hp) (S : Sto) (a : Addr) : MO → Prop
  | .lst xs => ∃ vs, H a = some (.lst vs) ∧ Reps G.K H xs vs
  | .rol xs => ∃ vs, Rd H a (.lst vs) ∧ Reps G.K H xs vs
  | .hand => ∃ c, S c = some .priv ∧ HandOk H a c
  | .priv => ∃ vs, H a = some (.lst vs)
  | .dct kvs => ∃ es, H a = some (.dK es) ∧ RepKV G.K H kvs es

structure SR (G : Gd) (H : Hp) (S : Sto) : Prop where
  ok : ∀ a o, S a = some o → MOk G H S a o
  tb : LamX.Tabs G.T H
  fx : ∀ p ∈ G.fx, H p.1 = some (.ext p.2) ∧ S p.1 = none
  cp : ∀ p ∈ G.cps, Renv G.K H p.1 p.2

section
variable {G : Gd} {H H' : Hp} {S S' : Sto} {a p : Addr} {o : MO}
theorem MOk.there (h : MOk G H S a o) : ∃ u, H a = some u := by
  cases o with
  | lst xs => obtain ⟨vs, e, _⟩ := h; exact ⟨_, e⟩
  | rol xs =>
    obtain ⟨vs, e, _⟩ := h
    rcases e with e | ⟨o, e⟩
    · exact ⟨_, e⟩
    · exact ⟨_, e⟩
  | hand => obtain ⟨c, _, cells, p, l, m, k, e, _⟩ := h; exact ⟨_, e⟩
  | priv => obtain ⟨vs, e⟩ := h; exact ⟨_, e⟩
  | dct kvs => obtain ⟨es, e, _⟩ := h; exact ⟨_, e⟩
theorem SR.free (h : SR G H S) (e : H p = none) : S p = none := by
  cases q : S p with
  | none => rfl
  | some o =>
    obtain ⟨u, hu⟩ := (h.ok p o q).there
    rw [e] at hu; cases hu
theorem MOk.keep (h : MOk G H S a o) (st : Stay H H') (ka : ∀ u, H a = some u → H' a = some u) (kc : ∀ c, S c = some .priv → S' c = some .priv ∧ ∀ u, H c = some u → H' c = some u) : MOk G H' S' a o := by
  cases o with
  | lst xs => obtain ⟨vs, e, r⟩ := h; exact ⟨vs, ka _ e, reps_stay st _ _ r⟩
  | rol xs =>
    obtain ⟨vs, e, r⟩ := h
    rcases e with e | ⟨o, e⟩
    · exact ⟨vs, .inl (ka _ e), reps_stay st _ _ r⟩
    · exact ⟨vs, .inr ⟨o, ka _ e⟩, reps_stay st _ _ r⟩
  | hand =>
    obtain ⟨c, sc, cells, p, l, m, k, e, ec, r⟩ := h
    exact ⟨c, (kc c sc).1, cells, p, l, m, k, ka _ e, (kc c sc).2 _ ec, r⟩
  | priv => obtain ⟨u, e⟩ := h; exact ⟨u, ka _ e⟩
  | dct kvs => obtain ⟨es, e, r⟩ := h; exact ⟨es, ka _ e, repKV_stay st _ _ r⟩
theorem same_upd {o : HO} (h : H p = none) : Same H (upd H p o) := fun b x e => by
  rw [upd_ne (ne_of_none e h)]
  exact e
/-- nothing tracked has changed -/
theorem SR.same (h : SR G H S) (s : Same H H') : SR G H' S :=
  ⟨fun a o e => (h.ok a o e).keep (.of s) (fun u q => s a u q) fun c ec => ⟨ec, fun u q => s c u q⟩, h.tb.ext s, fun p hp => ⟨s _ _ (h.fx p hp).1, (h.fx p hp).2⟩, fun q hq => (h.cp q hq).stay (.of s)⟩
/-- a new thing, tracked -/
theorem SR.new {u : HO} (h : SR G H S) (e : H p = none) (new : MOk G (upd H p u) (supd S p o) p o) : SR G (upd H p u) (supd S p o) := by
  have s : Same H (upd H p u) := same_upd e
  have np := h.free e
  refine ⟨fun b w q => ?_, h.tb.ext s, fun q hq => ⟨s _ _ (h.fx q hq).1, ?_⟩, fun q hq => (h.cp q hq).stay (.of s)⟩
  rotate_left
  · rw [supd_ne (ne_of_none (h.fx q hq).1 e)]
    exact (h.fx q hq).2
  by_cases hb : b = p
  · subst hb; rw [supd_same] at q; cases q; exact new
  · rw [supd_ne hb] at q
    refine (h.ok b w q).keep (.of s) (fun u q => s b u q) fun c ec => ⟨?_, fun u q => s c u q⟩
    rw [supd_ne (fun z => by rw [z, np] at ec; cases ec)]
    exact ec
/-- a tracked thing is written -/
theorem SR.wr {u w : HO} {ob : MO} (h : SR G H S) (e : S a = some ob) (hu : H a = some u) (n1 : ∀ xs, u ≠ .tup xs) (n2 : ∀ v z, u ≠ .frz v z) (n3 : ∀ ps, u ≠ .tbl ps) (n4 : ∀ φ, u ≠ .ext φ) (nob : ob ≠ .priv)
    (st : Stay H (upd H a w) → MOk G (upd H a w) (supd S a o) a o) : SR G (upd H a w) (supd S a o) := by
  have stay : Stay H (upd H a w) := fun b xs r => by
    have nb : b ≠ a := fun z => by
      rcases r with r | ⟨v, r⟩
      · rw [z, hu] at r; exact n1 xs (Option.some.inj r)
      · rw [z, hu] at r; exact n2 v _ (Option.some.inj r)
    rcases r with r | ⟨v, r⟩
    · exact .inl (by rw [upd_ne nb]; exact r)
    · exact .inr ⟨v, by rw [upd_ne nb]; exact r⟩
  refine ⟨fun b z q => ?_, fun q hq => ?_, fun q hq => ?_, fun q hq => (h.cp q hq).stay stay⟩
  rotate_right
  · have nb : q.1 ≠ a := fun z => by have r := (h.fx q hq).2; rw [z, e] at r; cases r
    exact ⟨by rw [upd_ne nb]; exact (h.fx q hq).1, by rw [supd_ne nb]; exact (h.fx q hq).2⟩
  · by_cases hb : b = a
    · subst hb; rw [supd_same] at q; cases q; exact st stay
    · rw [supd_ne hb] at q
      refine (h.ok b z q).keep stay (fun u q => by rw [upd_ne hb]; exact q) fun c ec => ?_
      have nc : c ≠ a := fun z => by rw [z, e] at ec; exact nob (Option.some.inj ec)
      exact ⟨by rw [supd_ne nc]; exact ec, fun u q => by rw [upd_ne nc]; exact q⟩
  · obtain ⟨ps, e1, e2, e3⟩ := h.tb q hq
    have nb : q.1 ≠ a := fun z => by rw [z, hu] at e1; exact n3 _ (Option.some.inj e1)
    refine ⟨ps, by rw [upd_ne nb]; exact e1, e2, fun pos cv hc => ?_⟩
    obtain ⟨c, f1, f2⟩ := e3 pos cv hc
    have nc : c ≠ a := fun z => by rw [z, hu] at f2; exact n4 _ (Option.some.inj f2)
    exact ⟨c, f1, by rw [upd_ne nc]; exact f2⟩
end
/-- a smaller view -/
structure Sub (S' S : Sto) : Prop where
  le : ∀ a o, S' a = some o → S a = some o
  pr : ∀ a, S' a = some .hand → ∀ c, S c = some .priv → S' c = some .priv
theorem Sub.refl (S : Sto) : Sub S S := ⟨fun _ _ h => h, fun _ _ _ h => h⟩
theorem Sub.trans {S S1 S2 : Sto} (a : Sub S S1) (b : Sub S1 S2) : Sub S S2 := ⟨fun c o h => b.le c o (a.le c o h), fun c h d hd => a.pr c h d (b.pr c (a.le c _ h) d hd)⟩
theorem Sub.new {S : Sto} {p : Addr} {o : MO} (h : S p = none) (n : o ≠ .priv) : Sub S (supd S p o) :=
  ⟨fun a u e => by rw [supd_ne (fun z => by rw [z, h] at e; cases e)]; exact e, fun a _ c e => by
    by_cases hc : c = p
    · rw [hc, supd_same] at e; exact absurd (Option.some.inj e) n
    · rw [supd_ne hc] at e; exact e⟩
theorem SR.sub {G : Gd} {H : Hp} {S S' : Sto} (h : SR G H S) (s : Sub S' S) : SR G H S' := by
  refine ⟨fun a o e => ?_, h.tb, fun p hp => ⟨(h.fx p hp).1, ?_⟩, h.cp⟩
  rotate_left
  · cases q : S' p.1 with
    | none => rfl
    | some o => have r := (h.fx p hp).2; rw [s.le _ _ q] at r; cases r
  have q := h.ok a o (s.le a o e)
  cases o with
  | lst xs => exact q
  | rol xs => exact q
  | hand => obtain ⟨c, sc, r⟩ := q; exact ⟨c, s.pr a e c sc, r⟩
  | priv => exact q
  | dct kvs => exact q

/-- less is known of the slots -/
inductive Le : PEnv → PEnv → Prop
  | nil : Le [] []
  | keep {x : Option PV} {a b : PEnv} : Le a b → Le (x :: a) (x :: b)
  | drop {x : Option PV} {a b : PEnv} : Le a b → Le (none :: a) (x :: b)
theorem Le.refl : ∀ a : PEnv, Le a a
  | [] => .nil
  | _ :: a => .keep (Le.refl a)
theorem Le.length {a b : PEnv} (h : Le a b) : a.length = b.length := by
  induction h with
  | nil => rfl
  | keep _ ih => simp [ih]
  | drop _ ih => simp [ih]
theorem Le.get {a b : PEnv} (h : Le a b) : ∀ (i : Nat) (x : PV), a[i]? = some (some x) → b[i]? = some (some x) := by
  induction h with
  | nil => intro i x e; exact e
  | keep _ ih => intro i x e; cases i with
    | zero => exact e
    | succ i => simpa using ih i x (by simpa using e)
  | drop _ ih => intro i x e; cases i with
    | zero => simp at e
    | succ i => simpa using ih i x (by simpa using e)
theorem Renv.le {K : PySem.W.Frag} {H : Hp} {ε ε' : PEnv} {σ : St} (h : Renv K H ε σ) (l : Le ε' ε) : Renv K H ε' σ := ⟨l.length.trans h.1, fun i x e => h.2 i x (l.get i x e)⟩

/-! ### what is wanted -/
/-- an exception: its class's name, its one field -/
structure PX where
  name : Str
  arg : Option (Str × PV) := none
def RepX (G : Gd) (H : Hp) (cls : Value) (d : Option Addr) (n : PX) : Prop := ∃ C, G.ec n.name = some C ∧ cls = .ref C ∧
  match n.arg with
  | none => d = none
  | some (f, x) => ∃ dd v, d = some dd ∧ H dd = some (.xd [(f, v)]) ∧ Rep G.K H x v
abbrev KE := PV → Sto → Prop
abbrev KX := PX → Sto → Prop
abbrev WE := PEnv → Sto → KE → KX → Prop
abbrev WT := PEnv → Sto → (Bool → Sto → Prop) → KX → Prop
abbrev WA := PEnv → Sto → (List PV → Sto → Prop) → KX → Prop
structure PD where
  nx : PEnv → Sto → Prop
  rt : KE
  bk : PEnv → Sto → Prop
  ct : PEnv → Sto → Prop
  ex : PX → PEnv → Sto → Prop
abbrev WS := PD → PEnv → Sto → Prop

/-- a step: tuples stay; what is not in the view stays, and stays out of it -/
structure Stp (S : Sto) (H : Hp) (S' : Sto) (H' : Hp) : Prop where
  st : Stay H H'
  fr : ∀ a o, S a = none → H a = some o → (∀ ps, o ≠ .tbl ps) → H' a = some o ∧ S' a = none
theorem Stp.refl (S : Sto) (H : Hp) : Stp S H S H := ⟨.refl _, fun _ _ n e _ => ⟨e, n⟩⟩
theorem Stp.trans {S S1 S2 : Sto} {H H1 H2 : Hp} (a : Stp S H S1 H1) (b : Stp S1 H1 S2 H2) : Stp S H S2 H2 :=
  ⟨a.st.trans b.st, fun c o n e t => let ⟨e1, n1⟩ := a.fr c o n e t; b.fr c o n1 e1 t⟩
theorem Stp.same {S : Sto} {H H' : Hp} (s : Same H H') : Stp S H S H' := ⟨.of s, fun a o n e _ => ⟨s a o e, n⟩⟩
theorem Stp.new {S : Sto} {H : Hp} {p : Addr} {o : MO} {u : HO} (e : H p = none) : Stp S H (supd S p o) (upd H p u) :=
  ⟨.of (same_upd e), fun a w n h _ => ⟨same_upd e a w h, by rw [supd_ne (ne_of_none h e)]; exact n⟩⟩
theorem Stp.sub {S S' S'' : Sto} {H H' : Hp} (h : Stp S H S' H') (s : Sub S'' S') : Stp S H S'' H' := ⟨h.st, fun a o n e t => by
  obtain ⟨e1, n1⟩ := h.fr a o n e t
  refine ⟨e1, ?_⟩
  cases q : S'' a with
  | none => rfl
  | some w => rw [s.le a w q] at n1; cases n1⟩
theorem Stp.pre {S S0 S' : Sto} {H H' : Hp} (h : Stp S0 H S' H') (s : Sub S0 S) : Stp S H S' H' := ⟨h.st, fun a o n e t => by
  refine h.fr a o ?_ e t
  cases q : S0 a with
  | none => rfl
  | some w => rw [s.le a w q] at n; cases n⟩
def QL (G : Gd) (S : Sto) (H : Hp) (Q : KE) : VK := fun v H' => ∃ x S', Stp S H S' H' ∧ SR G H' S' ∧ Rep G.K H' x v ∧ Q x S'
def QT (G : Gd) (S : Sto) (H : Hp) (Q : Bool → Sto → Prop) : Bool → Hp → Prop := fun b H' => ∃ S', Stp S H S' H' ∧ SR G H' S' ∧ Q b S'
def QA (G : Gd) (S : Sto) (H : Hp) (Q : List PV → Sto → Prop) : List V → Hp → Prop := fun vs H' => ∃ xs S', Stp S H S' H' ∧ SR G H' S' ∧ Reps G.K H' xs vs ∧ Q xs S'
def QS (G : Gd) (S : Sto) (H : Hp) (Q : PEnv → Sto → Prop) : L2.St → Hp → Prop := fun σ' H' => ∃ ε' S', Stp S H S' H' ∧ SR G H' S' ∧ Renv G.K H' ε' σ' ∧ Q ε' S'
def ExL (G : Gd) (S : Sto) (H : Hp) (σ : L2.St) (E : KX) (Wx : WX) : Prop := ∀ n S' cls d H', Stp S H S' H' → SR G H' S' → RepX G H' cls d n → E n S' → Wx cls d σ H'
def ExS (G : Gd) (S : Sto) (H : Hp) (E : PX → PEnv → Sto → Prop) (Wx : WX) : Prop := ∀ n ε' S' cls d σ' H', Stp S H S' H' → SR G H' S' → Renv G.K H' ε' σ' → RepX G H' cls d n → E n ε' S' → Wx cls d σ' H'
section
variable {G : Gd} {S S1 : Sto} {H H1 : Hp}
theorem QL.mono {Q : KE} (s : Stp S H S1 H1) {v : V} {H' : Hp} (h : QL G S1 H1 Q v H') : QL G S H Q v H' := let ⟨x, S', a, b⟩ := h; ⟨x, S', s.trans a, b⟩
theorem QT.mono {Q : Bool → Sto → Prop} (s : Stp S H S1 H1) {v : Bool} {H' : Hp} (h : QT G S1 H1 Q v H') : QT G S H Q v H' := let ⟨S', a, b⟩ := h; ⟨S', s.trans a, b⟩
theorem QA.mono {Q : List PV → Sto → Prop} (s : Stp S H S1 H1) {v : List V} {H' : Hp} (h : QA G S1 H1 Q v H') : QA G S H Q v H' := let ⟨x, S', a, b⟩ := h; ⟨x, S', s.trans a, b⟩
theorem QS.mono {Q : PEnv → Sto → Prop} (s : Stp S H S1 H1) {v : L2.St} {H' : Hp} (h : QS G S1 H1 Q v H') : QS G S H Q v H' := let ⟨x, S', a, b⟩ := h; ⟨x, S', s.trans a, b⟩
theorem ExL.mono {σ : L2.St} {E : KX} {Wx : WX} (s : Stp S H S1 H1) (h : ExL G S H σ E Wx) : ExL G S1 H1 σ E Wx := fun n S' cls d H' q => h n S' cls d H' (s.trans q)
theorem ExS.mono {E : PX → PEnv → Sto → Prop} {Wx : WX} (s : Stp S H S1 H1) (h : ExS G S H E Wx) : ExS G S1 H1 E Wx := fun n ε' S' cls d σ' H' q => h n ε' S' cls d σ' H' (s.trans q)
theorem ExS.ofL {σ : L2.St} {ε : PEnv} {E : PX → PEnv → Sto → Prop} {Wx : WX} (h : ExS G S H E Wx) (r : Renv G.K H ε σ) : ExL G S H σ (fun n S' => E n ε S') Wx := fun n S' cls d H' q sr rx e => h n ε S' cls d σ H' q sr (r.stay q.st) rx e
end
theorem Stp.wr {S : Sto} {H : Hp} {a : Addr} {u w : HO} {ob o : MO} (e : S a = some ob) (hu : H a = some u) (n1 : ∀ xs, u ≠ .tup xs) (n2 : ∀ v z, u ≠ .frz v z) : Stp S H (supd S a o) (upd H a w) := by
  refine ⟨fun b xs r => ?_, fun b v n h _ => ?_⟩
  · have nb : b ≠ a := fun z => by
      rcases r with r | ⟨v, r⟩
      · rw [z, hu] at r; exact n1 xs (Option.some.inj r)
      · rw [z, hu] at r; exact n2 v _ (Option.some.inj r)
    rcases r with r | ⟨v, r⟩
    · exact .inl (by rw [upd_ne nb]; exact r)
    · exact .inr ⟨v, by rw [upd_ne nb]; exact r⟩
  · have nb : b ≠ a := fun z => by rw [z, e] at n; cases n
    exact ⟨by rw [upd_ne nb]; exact h, by rw [supd_ne nb]; exact n⟩

/-! ### the judgements -/
def sE (X : Cx) (e : Expr) : TE := fun σ H Q => ∀ pins s, Inv X pins σ H s → wpAny (model X.prog X.w) X.A (eval e X.env) (EP X pins σ Q) X.xe s
def sT (X : Cx) (e : Expr) : TT := fun σ H Q => ∀ pins s, Inv X pins σ H s → wpAny (model X.prog X.w) X.A (isTrue e X.env (eval e X.env)) (TP X pins σ Q) X.xe s
def sW (X : Cx) (e : Expr) : TT := fun σ H Q => ∀ whole pins s, Inv X pins σ H s → wpAny (model X.prog X.w) X.A (isTrue e X.env whole) (TP X pins σ Q) X.xe s
def sA (X : Cx) (es : List Expr) : TA := fun σ H Q => ∀ (pos : Pos) pins s, Inv X pins σ H s → wpAny (model X.prog X.w) X.A (spliced (backTo pos (starEach es X.env))) (AP X pins σ Q) X.xe s
def sS (X : Cx) (st : Stmt) : TS := fun D σ H => ∀ pins s, Inv X pins σ H s → wpAny (model X.prog X.w) X.A (exec st X.env) (SP X pins D) X.xe s
def sSs (X : Cx) (st : List Stmt) : TS := fun D σ H => ∀ pins s, Inv X pins σ H s → wpAny (model X.prog X.w) X.A (execs st X.env) (SP X pins D) X.xe s
section
variable {X : Cx} {e : Expr} {es : List Expr} {st : Stmt} {sts : List Stmt} {σ : St} {H : Hp}
theorem pe_sE : PE X e (sE X e) := ⟨fun pins s _ _ _ I h => h pins s I⟩
theorem pt_sT : PT X e (sT X e) := ⟨fun pins s _ _ _ I h => h pins s I⟩
theorem pw_sW : PW X e (sW X e) := ⟨fun wh pins s _ _ _ I h => h wh pins s I⟩
theorem pa_sA : PA X es (sA X es) := ⟨fun pos pins s _ _ _ I h => h pos pins s I⟩
theorem ps_sS : PS X st (sS X st) := ⟨fun pins s _ _ _ I h => h pins s I⟩
theorem pss_sSs : PSs X sts (sSs X sts) := ⟨fun pins s _ _ _ I h => h pins s I⟩
theorem sE_of {t : TE} {Q : VK} (h : PE X e t) (q : t σ H Q) : sE X e σ H Q := fun pins s I => h.run pins s σ H Q I q
theorem sT_of {t : TT} {Q : Bool → Hp → Prop} (h : PT X e t) (q : t σ H Q) : sT X e σ H Q := fun pins s I => h.run pins s σ H Q I q
theorem sW_of {t : TT} {Q : Bool → Hp → Prop} (h : PW X e t) (q : t σ H Q) : sW X e σ H Q := fun wh pins s I => h.run wh pins s σ H Q I q
theorem sA_of {t : TA} {Q : List V → Hp → Prop} (h : PA X es t) (q : t σ H Q) : sA X es σ H Q := fun pos pins s I => h.run pos pins s σ H Q I q
theorem sS_of {t : TS} {D : Ends} (h : PS X st t) (q : t D σ H) : sS X st D σ H := fun pins s I => h.run pins s σ H D I q
theorem sSs_of {t : TS} {D : Ends} (h : PSs X sts t) (q : t D σ H) : sSs X sts D σ H := fun pins s I => h.run pins s σ H D I q
theorem sE_mono {Q Q' : VK} (h : sE X e σ H Q) (k : ∀ v H', Q v H' → Q' v H') : sE X e σ H Q' := fun pins s I => thn (h pins s I) fun u s' ⟨v, H', I', r, q⟩ => ⟨v, H', I', r, k v H' q⟩
theorem sT_mono {Q Q' : Bool → Hp → Prop} (h : sT X e σ H Q) (k : ∀ v H', Q v H' → Q' v H') : sT X e σ H Q' := fun pins s I => thn (h pins s I) fun u s' ⟨H', I', q⟩ => ⟨H', I', k u H' q⟩
theorem sW_mono {Q Q' : Bool → Hp → Prop} (h : sW X e σ H Q) (k : ∀ v H', Q v H' → Q' v H') : sW X e σ H Q' := fun wh pins s I => thn (h wh pins s I) fun u s' ⟨H', I', q⟩ => ⟨H', I', k u H' q⟩
theorem sA_mono {Q Q' : List V → Hp → Prop} (h : sA X es σ H Q) (k : ∀ v H', Q v H' → Q' v H') : sA X es σ H Q' := fun pos pins s I => thn (h pos pins s I) fun u s' ⟨v, H', I', r, q⟩ => ⟨v, H', I', r, k v H' q⟩
structure EndsLe (D D' : Ends) : Prop where
  nx : ∀ σ H, D.nx σ H → D'.nx σ H
  rt : ∀ v H, D.rt v H → D'.rt v H
  bk : ∀ σ H, D.bk σ H → D'.bk σ H
  ct : ∀ σ H, D.ct σ H → D'.ct σ H
theorem SP_mono {pins : List (Addr × Obj)} {D D' : Ends} (k : EndsLe D D') {f : Flow} {s' : Shared} (h : SP X pins D f s') : SP X pins D' f s' := by
  cases f with
  | next => obtain ⟨σ', H', I, q⟩ := h; exact ⟨σ', H', I, k.nx _ _ q⟩
  | brk => obtain ⟨σ', H', I, q⟩ := h; exact ⟨σ', H', I, k.bk _ _ q⟩
  | cont => obtain ⟨σ', H', I, q⟩ := h; exact ⟨σ', H', I, k.ct _ _ q⟩
  | ret u => obtain ⟨v, σ', H', I, r, q⟩ := h; exact ⟨v, σ', H', I, r, k.rt _ _ q⟩
theorem sS_mono {D D' : Ends} (h : sS X st D σ H) (k : EndsLe D D') : sS X st D' σ H := fun pins s I => thn (h pins s I) fun f s' q => SP_mono k q
theorem sSs_mono {D D' : Ends} (h : sSs X sts D σ H) (k : EndsLe D D') : sSs X sts D' σ H := fun pins s I => thn (h pins s I) fun f s' q => SP_mono k q
end
/-- an expression, by content -/
structure JE (G : Gd) (X : Cx) (e : Expr) (W : WE) : Prop where
  run : ∀ ε S (Q : KE) (E : KX), W ε S Q E → ∀ σ H, Renv G.K H ε σ → SR G H S → ∀ Wx : WX, Takes X Wx → ExL G S H σ E Wx → sE X e σ H (QL G S H Q)
structure JT (G : Gd) (X : Cx) (e : Expr) (W : WT) : Prop where
  run : ∀ ε S (Q : Bool → Sto → Prop) (E : KX), W ε S Q E → ∀ σ H, Renv G.K H ε σ → SR G H S → ∀ Wx : WX, Takes X Wx → ExL G S H σ E Wx → sT X e σ H (QT G S H Q)
structure JW (G : Gd) (X : Cx) (e : Expr) (W : WT) : Prop where
  run : ∀ ε S (Q : Bool → Sto → Prop) (E : KX), W ε S Q E → ∀ σ H, Renv G.K H ε σ → SR G H S → ∀ Wx : WX, Takes X Wx → ExL G S H σ E Wx → sW X e σ H (QT G S H Q)
structure JA (G : Gd) (X : Cx) (es : List Expr) (W : WA) : Prop where
  run : ∀ ε S (Q : List PV → Sto → Prop) (E : KX), W ε S Q E → ∀ σ H, Renv G.K H ε σ → SR G H S → ∀ Wx : WX, Takes X Wx → ExL G S H σ E Wx → sA X es σ H (QA G S H Q)
def EndsL (G : Gd) (S : Sto) (H : Hp) (D : PD) : Ends := { nx := QS G S H D.nx, rt := QL G S H D.rt, bk := QS G S H D.bk, ct := QS G S H D.ct }
structure JS (G : Gd) (X : Cx) (st : Stmt) (W : WS) : Prop where
  run : ∀ (D : PD) ε S, W D ε S → ∀ σ H, Renv G.K H ε σ → SR G H S → ∀ Wx : WX, Takes X Wx → ExS G S H D.ex Wx → sS X st (EndsL G S H D) σ H
structure JSs (G : Gd) (X : Cx) (sts : List Stmt) (W : WS) : Prop where
  run : ∀ (D : PD) ε S, W D ε S → ∀ σ H, Renv G.K H ε σ → SR G H S → ∀ Wx : WX, Takes X Wx → ExS G S H D.ex Wx → sSs X sts (EndsL G S H D) σ H
theorem EndsL.mono {G : Gd} {S S1 : Sto} {H H1 : Hp} (s : Stp S H S1 H1) (D : PD) : EndsLe (EndsL G S1 H1 D) (EndsL G S H D) :=
  ⟨fun _ _ q => QS.mono s q, fun _ _ q => QL.mono s q, fun _ _ q => QS.mono s q, fun _ _ q => QS.mono s q⟩
end L3

set_option Elab.async false
set_option linter.all false
set_option maxRecDepth 100000
set_option maxHeartbeats 4000000
namespace L3
open PySem PySem.Spec L2
open PyProof.Rows hiding St

section
variable {G : Gd} {X : Cx} {H H1 : Hp} {S S1 : Sto} {σ : L2.St} {ε : PEnv}
/-! ### ends -/
theorem ql_pure {Q : KE} {x : PV} {v : V} (sr : SR G H S) (r : Rep G.K H x v) (q : Q x S) : QL G S H Q v H := ⟨x, S, .refl _ _, sr, r, q⟩
theorem ql_int {Q : KE} {i : Int} (sr : SR G H S) (q : Q (.int i) S) : QL G S H Q (.int i) H := ⟨.int i, S, .refl _ _, sr, rfl, q⟩
theorem ql_bl {Q : KE} {i : Bool} (sr : SR G H S) (q : Q (.bl i) S) : QL G S H Q (.bl i) H := ⟨.bl i, S, .refl _ _, sr, rfl, q⟩
theorem ql_str {Q : KE} {i : Str} (sr : SR G H S) (q : Q (.str i) S) : QL G S H Q (.str i) H := ⟨.str i, S, .refl _ _, sr, rfl, q⟩
theorem ql_non {Q : KE} (sr : SR G H S) (q : Q .non S) : QL G S H Q .non H := ⟨.non, S, .refl _ _, sr, rfl, q⟩
theorem ql_ref {Q : KE} {a : Addr} (sr : SR G H S) (q : Q (.ref a) S) : QL G S H Q (.ref a) H := ⟨.ref a, S, .refl _ _, sr, rfl, q⟩
theorem ql_tup {Q : KE} {xs : List PV} {vs : List V} {p : Addr} (sr : SR G H S) (hp : H p = none) (r : Reps G.K H xs vs) (q : Q (.tup xs) S) : QL G S H Q (.ref p) (upd H p (.tup vs)) := by
  have s := same_upd (o := .tup vs) hp
  exact ⟨.tup xs, S, .same s, sr.same s, ⟨p, vs, rfl, .inl (.inl upd_same), reps_stay (.of s) _ _ r⟩, q⟩
theorem ql_lst {Q : KE} {xs : List PV} {vs : List V} {p : Addr} (sr : SR G H S) (hp : H p = none) (r : Reps G.K H xs vs) (q : ∀ p, S p = none → Q (.ref p) (supd S p (.lst xs))) : QL G S H Q (.ref p) (upd H p (.lst vs)) := by
  have s := same_upd (o := .lst vs) hp
  exact ⟨.ref p, _, .new hp, sr.new (o := .lst xs) hp ⟨vs, upd_same, reps_stay (.of s) _ _ r⟩, rfl, q p (sr.free hp)⟩
theorem sr_setl {xs ys : List PV} {vs ws : List V} {a : Addr} (sr : SR G H S) (e : S a = some (.lst xs)) (hv : H a = some (.lst vs)) (r : Reps G.K H ys ws) : SR G (upd H a (.lst ws)) (supd S a (.lst ys)) :=
  sr.wr e hv (fun _ z => by cases z) (fun _ _ z => by cases z) (fun _ z => by cases z) (fun _ z => by cases z) (fun z => by cases z) fun st => ⟨ws, upd_same, reps_stay st _ _ r⟩
theorem stp_setl {xs ys : List PV} {vs ws : List V} {a : Addr} (e : S a = some (.lst xs)) (hv : H a = some (.lst vs)) : Stp S H (supd S a (.lst ys)) (upd H a (.lst ws)) :=
  .wr e hv (fun _ z => by cases z) (fun _ _ z => by cases z)
theorem lst_at {xs : List PV} {a : Addr} (sr : SR G H S) (e : S a = some (.lst xs)) : ∃ vs, H a = some (.lst vs) ∧ Reps G.K H xs vs := sr.ok a _ e
/-- a list that is read -/
def RdL (S : Sto) (a : Addr) (xs : List PV) : Prop := S a = some (.lst xs) ∨ S a = some (.rol xs)
theorem rdl_at {xs : List PV} {a : Addr} (sr : SR G H S) (e : RdL S a xs) : ∃ vs, SqL G.K H a vs ∧ Reps G.K H xs vs := by
  rcases e with e | e
  · obtain ⟨vs, h, r⟩ := sr.ok a _ e
    exact ⟨vs, .inl (.inl h), r⟩
  · obtain ⟨vs, h, r⟩ := sr.ok a _ e
    exact ⟨vs, .inl h, r⟩

/-! ### names, constants -/
def wV (i : Nat) : WE := fun ε S Q _ => match ε[i]? with
  | some (some x) => Q x S
  | _ => False
def wC (x : PV) : WE := fun _ S Q _ => Q x S
theorem je_v {i : Nat} {e : Expr} (h : PE X e (tVar i)) : JE G X e (wV i) := ⟨fun ε S Q E w σ H re sr Wx tk ex => sE_of h (by
  unfold wV at w
  split at w
  · rename_i x hx
    obtain ⟨v, hv, r⟩ := re.2 i x hx
    exact ⟨v, hv, ql_pure sr r w⟩
  · exact w.elim)⟩
theorem je_c {e : Expr} {x : PV} {v : V} (h : PE X e (tC v)) (r : ∀ H, Rep G.K H x v) : JE G X e (wC x) := ⟨fun ε S Q E w σ H re sr Wx tk ex => sE_of h (ql_pure sr (r H) w)⟩
theorem je_int {i j pos} : JE G X (.Constant (.int i) j pos) (wC (.int i)) := je_c pe_int fun _ => rfl
theorem je_bl {b j pos} : JE G X (.Constant (.bool b) j pos) (wC (.bl b)) := je_c pe_bl fun _ => rfl
theorem je_non {j pos} : JE G X (.Constant .none j pos) (wC .non) := je_c pe_non fun _ => rfl
theorem je_str {x j pos} : JE G X (.Constant (.str x) j pos) (wC (.str x)) := je_c pe_str fun _ => rfl
theorem je_pv (i : Nat) {x : Str} {pos : Pos} (hN : X.N[i]? = some x := by rfl) (hv : Vis X.env.scope x := by first | exact Or.inl rfl | exact Or.inr (Or.inl rfl) | exact Or.inr (Or.inr rfl)) (hd : (x == ("__debug__" : Str)) = false := by decide)
    (hcd : (x == ("__classdict__" : Str)) = false := by decide) : JE G X (.Name x pos) (wV i) := je_v (pe_var hN hv hd hcd)
/-- a module's constant -/
theorem je_glob {x : Str} {v : V} {y : PV} {u : Value} {pos : Pos} (hg : Gl X x) (hm : X.mg x = some u) (r : RelV v u) (ry : ∀ H, Rep G.K H y v) (hd : (x == ("__debug__" : Str)) = false := by decide) : JE G X (.Name x pos) (wC y) := je_c (pe_glob hg hm r hd) ry

/-! ### operators -/
abbrev O2 := PV → PV → Sto → KE → Prop
/-- what a rule r asks is given by o; K: what is wanted in the end -/
def OpL (G : Gd) (r : R2) (o : O2) : Prop := ∀ H S x y v u Q (K : VK), SR G H S → Rep G.K H x v → Rep G.K H y u → (∀ v H', QL G S H Q v H' → K v H') → o x y S Q → r v u H K
def wOp (o : O2) (wa wb : WE) : WE := fun ε S Q E => wa ε S (fun x S1 => wb ε S1 (fun y S2 => o x y S2 Q) E) E
theorem two {a b : Expr} {wa wb : WE} {r : R2} {o : O2} (L : OpL G r o) (ha : JE G X a wa) (hb : JE G X b wb) {Q : KE} {E : KX} (w : wOp o wa wb ε S Q E) (re : Renv G.K H ε σ) (sr : SR G H S) {Wx : WX} (tk : Takes X Wx) (ex : ExL G S H σ E Wx) :
    sE X a σ H fun x H1 => sE X b σ H1 fun y H2 => r x y H2 (QL G S H Q) := by
  refine sE_mono (ha.run ε S _ E w σ H re sr Wx tk ex) fun v H1 ⟨x, S1, s1, sr1, r1, w1⟩ => ?_
  refine sE_mono (hb.run ε S1 _ E w1 σ H1 (re.stay s1.st) sr1 Wx tk (ex.mono s1)) fun u H2 ⟨y, S2, s2, sr2, r2, w2⟩ => ?_
  exact L H2 S2 x y v u Q _ sr2 (rep_stay s2.st _ _ r1) r2 (fun v H' q => q.mono (s1.trans s2)) w2
theorem je_op {a b : Expr} {wa wb : WE} {op : Operator} {r : R2} {o : O2} {pos : Pos} (ho : OpR X (binaryOp op) r) (L : OpL G r o) (ha : JE G X a wa) (hb : JE G X b wb) : JE G X (.BinOp a op b pos) (wOp o wa wb) :=
  ⟨fun ε S Q E w σ H re sr Wx tk ex => sE_of (pe_op ho pe_sE pe_sE) (two L ha hb w re sr tk ex)⟩
theorem je_cmp {a b : Expr} {wa wb : WE} {op : CmpOp} {r : R2} {o : O2} {pos : Pos} (ho : OpR X (compareOp op) r) (L : OpL G r o) (ha : JE G X a wa) (hb : JE G X b wb) (hm : behindInMarks op b = false) : JE G X (.Compare a [op] [b] pos) (wOp o wa wb) :=
  ⟨fun ε S Q E w σ H re sr Wx tk ex => sE_of (pe_cmpR ho pe_sE pe_sE hm) (two L ha hb w re sr tk ex)⟩
theorem OpL.or {r r' : R2} {o o' : O2} (h : OpL G r o) (h' : OpL G r' o') : OpL G (fun x y H Q => r x y H Q ∨ r' x y H Q) (fun x y S Q => o x y S Q ∨ o' x y S Q) := fun H S x y v u Q K sr rx ry k q =>
  q.imp (h H S x y v u Q K sr rx ry k) (h' H S x y v u Q K sr rx ry k)
theorem OpL.imp {r : R2} {o o' : O2} (h : OpL G r o) (k : ∀ x y S Q, o' x y S Q → o x y S Q) : OpL G r o' := fun H S x y v u Q K sr rx ry kk q => h H S x y v u Q K sr rx ry kk (k x y S Q q)
/-- two ints -/
def oI (C : Int → Int → Prop) (g : Int → Int → PV) : O2 := fun x y S Q => match x, y with
  | .int i, .int j => C i j ∧ Q (g i j) S
  | _, _ => False
theorem rep_int {i : Int} {v : V} {K : PySem.W.Frag} (h : Rep K H (.int i) v) : v = .int i := h
theorem opl_I {C : Int → Int → Prop} {g : Int → Int → PV} {g' : Int → Int → V} (hg : ∀ K H i j, Rep K H (g i j) (g' i j)) : OpL G (rI C g') (oI C g) := fun H S x y v u Q K sr rx ry k q => by
  unfold oI at q
  split at q
  · rename_i i j
    exact ⟨i, j, rx, ry, q.1, k _ _ (ql_pure sr (hg _ _ i j) q.2)⟩
  · exact q.elim
theorem opl_I0 {g : Int → Int → PV} {g' : Int → Int → V} (hg : ∀ K H i j, Rep K H (g i j) (g' i j)) : OpL G (rI0 g') (oI (fun _ _ => True) g) := fun H S x y v u Q K sr rx ry k q => by
  unfold oI at q
  split at q
  · rename_i i j
    exact ⟨i, j, rx, ry, k _ _ (ql_pure sr (hg _ _ i j) q.2)⟩
  · exact q.elim

/-- + -/
def oAdd : O2 := fun x y S Q => match x, y with
  | .int i, .int j => Q (.int (i + j)) S
  | .str i, .str j => i.length + j.length ≤ sizeLine ∧ Q (.str (i ++ j)) S
  | .tup xs, .tup ys => xs.length + ys.length ≤ sizeLine ∧ Q (.tup (xs ++ ys)) S
  | .ref a, .ref b => ∃ xs ys, S a = some (.lst xs) ∧ S b = some (.lst ys) ∧ xs.length + ys.length ≤ sizeLine ∧ ∀ p, S p = none → Q (.ref p) (supd S p (.lst (xs ++ ys)))
  | _, _ => False
abbrev rAddAll (K : PySem.W.Frag) : R2 := fun x y H Q => rI0 (fun i j => .int (i + j)) x y H Q ∨ (fun x y H Q => (fun x y H Q => ∃ i j, x = V.str i ∧ y = .str j ∧ i.length + j.length ≤ sizeLine ∧ Q (.str (i ++ j)) H) x y H Q ∨ (fun x y H Q => rCatA K x y H Q ∨ rCat x y H Q) x y H Q) x y H Q
theorem op_addAll (hK : X.K = G.K) : OpR X (binaryOp .Add) (rAddAll G.K) := op_add.or (op_add_str.or ((hK ▸ op_catA).or op_cat))
theorem opl_add : OpL G (rAddAll G.K) oAdd := fun H S x y v u Q K sr rx ry k q => by
  unfold oAdd at q
  split at q
  · rename_i i j
    exact .inl ⟨i, j, rx, ry, k _ _ (ql_int sr q)⟩
  · rename_i i j
    exact .inr (.inl ⟨i, j, rx, ry, q.1, k _ _ (ql_str sr q.2)⟩)
  · rename_i xs ys
    obtain ⟨a, vs, rfl, ha, ra⟩ := rx
    obtain ⟨b, ws, rfl, hb, rb⟩ := ry
    have la := reps_length ra
    have lb := reps_length rb
    refine .inr (.inr (.inl ⟨a, b, vs, ws, rfl, rfl, ha, hb, by omega, fun e => ?_, fun _ e => ?_, fun _ _ p hp => ?_⟩))
    · subst e
      have : xs = [] := List.eq_nil_of_length_eq_zero (by simpa using la)
      subst this
      exact k _ _ (ql_pure (x := .tup ys) sr ⟨b, ws, rfl, hb, rb⟩ q.2)
    · subst e
      have : ys = [] := List.eq_nil_of_length_eq_zero (by simpa using lb)
      subst this
      exact k _ _ (ql_pure (x := .tup xs) sr ⟨a, vs, rfl, ha, ra⟩ (by simpa using q.2))
    · exact k _ _ (ql_tup sr hp (reps_append ra rb) q.2)
  · rename_i a b
    obtain ⟨xs, ys, ea, eb, hz, q⟩ := q
    obtain ⟨vs, ha, ra⟩ := lst_at sr ea
    obtain ⟨ws, hb, rb⟩ := lst_at sr eb
    have la := reps_length ra
    have lb := reps_length rb
    exact .inr (.inr (.inr ⟨a, b, vs, ws, rx, ry, ha, hb, by omega, fun p hp => k _ _ (ql_lst sr hp (reps_append ra rb) q)⟩))
  · exact q.elim
theorem je_add {a b : Expr} {wa wb : WE} {pos : Pos} (ha : JE G X a wa) (hb : JE G X b wb) (hK : X.K = G.K := by rfl) : JE G X (.BinOp a .Add b pos) (wOp oAdd wa wb) := je_op (op_addAll hK) opl_add ha hb

abbrev oSub : O2 := oI (fun _ _ => True) fun i j => .int (i - j)
theorem je_sub {a b : Expr} {wa wb : WE} {pos : Pos} (ha : JE G X a wa) (hb : JE G X b wb) : JE G X (.BinOp a .Sub b pos) (wOp oSub wa wb) := je_op op_sub (opl_I0 fun _ _ _ _ => rfl) ha hb
/-- together below a million bits, or one below 2^64 -/
def CM (i j : Int) : Prop := CMul i j ∨ CMulW i j
/-- * -/
def oMul : O2 := fun x y S Q => match x, y with
  | .int i, .int j => CM i j ∧ Q (.int (i * j)) S
  | .ref a, .int k => ∃ xs, S a = some (.lst xs) ∧ -(2 ^ 63) ≤ k ∧ k < 2 ^ 63 ∧ xs.length * k.toNat ≤ sizeLine ∧ ∀ p, S p = none → Q (.ref p) (supd S p (.lst (List.replicate k.toNat xs).flatten))
  | .tup xs, .int k => xs ≠ [] ∧ 2 ≤ k ∧ k ≤ 1000 ∧ xs.length ≤ 1000 ∧ Q (.tup (List.replicate k.toNat xs).flatten) S
  | _, _ => False
theorem reps_rep {K : PySem.W.Frag} {xs : List PV} {vs : List V} (r : Reps K H xs vs) : ∀ n : Nat, Reps K H (List.replicate n xs).flatten (List.replicate n vs).flatten
  | 0 => by simp [Reps]
  | n + 1 => by
    rw [List.replicate_succ, List.replicate_succ, List.flatten_cons, List.flatten_cons]
    exact reps_append r (reps_rep r n)
abbrev rMulAll (K : PySem.W.Frag) : R2 := fun x y H Q => rI CMul (fun i j => .int (i * j)) x y H Q ∨ (fun x y H Q => rI CMulW (fun i j => .int (i * j)) x y H Q ∨ (fun x y H Q => rRep x y H Q ∨ rRepT K x y H Q) x y H Q) x y H Q
theorem op_mulAll (hK : X.K = G.K) : OpR X (binaryOp .Mult) (rMulAll G.K) := op_mul.or (op_mulW.or (op_rep.or (hK ▸ op_repT)))
theorem opl_mul : OpL G (rMulAll G.K) oMul := fun H S x y v u Q K sr rx ry k q => by
  unfold oMul at q
  split at q
  · rename_i i j
    rcases q.1 with c | c
    · exact .inl ⟨i, j, rx, ry, c, k _ _ (ql_int sr q.2)⟩
    · exact .inr (.inl ⟨i, j, rx, ry, c, k _ _ (ql_int sr q.2)⟩)
  · rename_i a n
    obtain ⟨xs, ea, h1, h2, hz, q⟩ := q
    obtain ⟨vs, ha, ra⟩ := lst_at sr ea
    have la := reps_length ra
    exact .inr (.inr (.inl ⟨a, n, vs, rx, ry, ha, h1, h2, by rw [← la]; exact hz, fun p hp => k _ _ (ql_lst sr hp (reps_rep ra _) q)⟩))
  · rename_i xs n
    obtain ⟨h0, h1, h2, hz, q⟩ := q
    obtain ⟨a, vs, rfl, ha, ra⟩ := rx
    have la := reps_length ra
    refine .inr (.inr (.inr ⟨a, n, vs, rfl, ry, ha, fun e => h0 ?_, h1, h2, by omega, fun p hp => k _ _ (ql_tup sr hp (reps_rep ra _) q)⟩))
    subst e
    exact List.eq_nil_of_length_eq_zero (by simpa using la)
  · exact q.elim
theorem je_mul {a b : Expr} {wa wb : WE} {pos : Pos} (ha : JE G X a wa) (hb : JE G X b wb) (hK : X.K = G.K := by rfl) : JE G X (.BinOp a .Mult b pos) (wOp oMul wa wb) := je_op (op_mulAll hK) opl_mul ha hb
abbrev oFdiv : O2 := oI CDivW fun i j => .int (i / j)
theorem je_fdiv {a b : Expr} {wa wb : WE} {pos : Pos} (ha : JE G X a wa) (hb : JE G X b wb) : JE G X (.BinOp a .FloorDiv b pos) (wOp oFdiv wa wb) := je_op op_fdivW (opl_I fun _ _ _ _ => rfl) ha hb
abbrev oMod : O2 := oI (fun _ j => 0 < j) fun i j => .int (i % j)
theorem je_mod {a b : Expr} {wa wb : WE} {pos : Pos} (ha : JE G X a wa) (hb : JE G X b wb) : JE G X (.BinOp a .Mod b pos) (wOp oMod wa wb) := je_op op_mod (opl_I fun _ _ _ _ => rfl) ha hb
abbrev oPow : O2 := oI CPow fun i j => .int (i ^ j.toNat)
theorem je_pow {a b : Expr} {wa wb : WE} {pos : Pos} (ha : JE G X a wa) (hb : JE G X b wb) : JE G X (.BinOp a .Pow b pos) (wOp oPow wa wb) := je_op op_pow (opl_I fun _ _ _ _ => rfl) ha hb
abbrev oShl : O2 := oI CPow fun i j => .int (i * 2 ^ j.toNat)
theorem je_shl {a b : Expr} {wa wb : WE} {pos : Pos} (ha : JE G X a wa) (hb : JE G X b wb) : JE G X (.BinOp a .LShift b pos) (wOp oShl wa wb) := je_op op_shl (opl_I fun _ _ _ _ => rfl) ha hb
abbrev oShr : O2 := oI (fun _ j => 0 ≤ j) fun i j => .int (i / 2 ^ j.toNat)
theorem je_shr {a b : Expr} {wa wb : WE} {pos : Pos} (ha : JE G X a wa) (hb : JE G X b wb) : JE G X (.BinOp a .RShift b pos) (wOp oShr wa wb) := je_op op_shr (opl_I fun _ _ _ _ => rfl) ha hb
def oNeg : PV → Sto → KE → Prop := fun x S Q => match x with
  | .int i => Q (.int (-i)) S
  | _ => False
def wUn (o : PV → Sto → KE → Prop) (wa : WE) : WE := fun ε S Q E => wa ε S (fun x S1 => o x S1 Q) E
theorem je_neg {a : Expr} {wa : WE} {pos : Pos} (ha : JE G X a wa) : JE G X (.UnaryOp .USub a pos) (wUn oNeg wa) := ⟨fun ε S Q E w σ H re sr Wx tk ex => sE_of (pe_un un_neg pe_sE) (by
  refine sE_mono (ha.run ε S _ E w σ H re sr Wx tk ex) fun v H1 ⟨x, S1, s1, sr1, r1, w1⟩ => ?_
  dsimp only [oNeg] at w1
  split at w1
  · rename_i i
    exact ⟨i, r1, (ql_int sr1 w1).mono s1⟩
  · exact w1.elim)⟩

/-! ### comparisons -/
def oLt : O2 := fun x y S Q => match x, y with
  | .int i, .int j => Q (.bl (decide (i < j))) S
  | .str i, .str j => Q (.bl (decide (i.cps.toList < j.cps.toList))) S
  | .tup xs, .tup ys => ∃ ns ms : List Int, xs = ns.map PV.int ∧ ys = ms.map PV.int ∧ Q (.bl (HT.lexLt ns ms)) S
  | _, _ => False
abbrev rLtAll (K : PySem.W.Frag) : R2 := fun x y H Q => rI0 (fun i j => .bl (decide (i < j))) x y H Q ∨ (fun x y H Q => (fun x y H Q => ∃ i j, x = V.str i ∧ y = .str j ∧ Q (.bl (decide (i.cps.toList < j.cps.toList))) H) x y H Q ∨ rLtT K x y H Q) x y H Q
theorem op_ltAll (hK : X.K = G.K) (hu : X.A.units + 64 < cLine) : OpR X (compareOp .Lt) (rLtAll G.K) := op_lt.or (op_lt_str.or (hK ▸ op_ltT (Nat.lt_of_le_of_lt (Nat.le_add_right _ _) hu)))
theorem opl_lt : OpL G (rLtAll G.K) oLt := fun H S x y v u Q K sr rx ry k q => by
  unfold oLt at q
  split at q
  · rename_i i j
    exact .inl ⟨i, j, rx, ry, k _ _ (ql_bl sr q)⟩
  · rename_i i j
    exact .inr (.inl ⟨i, j, rx, ry, k _ _ (ql_bl sr q)⟩)
  · obtain ⟨ns, ms, rfl, rfl, q⟩ := q
    obtain ⟨a, vs, rfl, ha, ra⟩ := rx
    obtain ⟨b, ws, rfl, hb, rb⟩ := ry
    rw [reps_ints] at ra rb
    subst ra rb
    exact .inr (.inr ⟨a, b, ns, ms, rfl, rfl, ha, hb, k _ _ (ql_bl sr q)⟩)
  · exact q.elim
theorem je_lt {a b : Expr} {wa wb : WE} {pos : Pos} (hu : X.A.units + 64 < cLine) (ha : JE G X a wa) (hb : JE G X b wb) (hK : X.K = G.K := by rfl) : JE G X (.Compare a [.Lt] [b] pos) (wOp oLt wa wb) := je_cmp (op_ltAll hK hu) opl_lt ha hb (nomark _)
abbrev oLe : O2 := oI (fun _ _ => True) fun i j => .bl (decide (i ≤ j))
abbrev oGt : O2 := oI (fun _ _ => True) fun i j => .bl (decide (j < i))
abbrev oGe : O2 := oI (fun _ _ => True) fun i j => .bl (decide (j ≤ i))
theorem je_le {a b : Expr} {wa wb : WE} {pos : Pos} (ha : JE G X a wa) (hb : JE G X b wb) : JE G X (.Compare a [.LtE] [b] pos) (wOp oLe wa wb) := je_cmp op_le (opl_I0 fun _ _ _ _ => rfl) ha hb (nomark _)
theorem je_gt {a b : Expr} {wa wb : WE} {pos : Pos} (ha : JE G X a wa) (hb : JE G X b wb) : JE G X (.Compare a [.Gt] [b] pos) (wOp oGt wa wb) := je_cmp op_gt (opl_I0 fun _ _ _ _ => rfl) ha hb (nomark _)
theorem je_ge {a b : Expr} {wa wb : WE} {pos : Pos} (ha : JE G X a wa) (hb : JE G X b wb) : JE G X (.Compare a [.GtE] [b] pos) (wOp oGe wa wb) := je_cmp op_ge (opl_I0 fun _ _ _ _ => rfl) ha hb (nomark _)

/-! ### == -/
mutual
inductive Dat (S : Sto) : PV → PyData → Prop
  | non : Dat S .non .none
  | bl (b : Bool) : Dat S (.bl b) (.bool b)
  | int (i : Int) : Dat S (.int i) (.int i)
  | str (x : Str) : Dat S (.str x) (.str x)
  | tup {xs : List PV} {ds : List PyData} : Dats S xs ds → Dat S (.tup xs) (.tuple ds)
  | lst {a : Addr} {xs : List PV} {ds : List PyData} : RdL S a xs → Dats S xs ds → Dat S (.ref a) (.list ds)
inductive Dats (S : Sto) : List PV → List PyData → Prop
  | nil : Dats S [] []
  | cons {x : PV} {xs : List PV} {d : PyData} {ds : List PyData} : Dat S x d → Dats S xs ds → Dats S (x :: xs) (d :: ds)
end
mutual
theorem Dat.dp (sr : SR G H S) : ∀ (d : PyData) (x : PV) (v : V), Dat S x d → Rep G.K H x v → Dp G.K H v d
  | .none, _, _, h, r => by cases h; cases r; exact .non
  | .bool b, _, _, h, r => by cases h; cases r; exact .bl b
  | .int i, _, _, h, r => by cases h; cases r; exact .int i
  | .str x, _, _, h, r => by cases h; cases r; exact .str x
  | .tuple ds, _, _, h, r => by
    cases h with
    | tup hs =>
      obtain ⟨a, vs, rfl, ha, ra⟩ := r
      exact .tup ha (Dats.dp sr ds _ _ hs ra)
  | .list ds, _, _, h, r => by
    cases h with
    | lst he hs =>
      cases r
      obtain ⟨vs, ha, ra⟩ := rdl_at sr he
      exact .lst ha (Dats.dp sr ds _ _ hs ra)
  | .dict _, _, _, h, _ => by cases h
theorem Dats.dp (sr : SR G H S) : ∀ (ds : List PyData) (xs : List PV) (vs : List V), Dats S xs ds → Reps G.K H xs vs → DpAll G.K H vs ds
  | [], _, _, h, r => by cases h; cases r; exact .nil
  | d :: ds, _, _, h, r => by
    cases h with
    | cons h1 h2 =>
      obtain ⟨v, ws, rfl, r1, r2⟩ := r
      exact .cons (Dat.dp sr d _ _ h1 r1) (Dats.dp sr ds _ _ h2 r2)
end
/-- x == y, or its contrary -/
def oEqN (neg : Bool) : O2 := fun x y S Q => match x, y with
  | .int i, .int j => Q (.bl (neg ^^ decide (i = j))) S
  | .str i, .str j => Q (.bl (neg ^^ decide (i = j))) S
  | .bl i, .bl j => Q (.bl (neg ^^ decide (i = j))) S
  | x, y => ∃ d e, Dat S x d ∧ Dat S y e ∧ SeqAt.shaped d = true ∧ SeqAt.shaped e = true ∧ Q (.bl (neg ^^ PyData.eqv d e)) S
abbrev oEq : O2 := oEqN false
abbrev oNe : O2 := oEqN true
abbrev rEqAll (K : PySem.W.Frag) : R2 := fun x y H Q => rEq x y H Q ∨ rEqD K x y H Q
abbrev rNeAll (K : PySem.W.Frag) : R2 := fun x y H Q => rNe x y H Q ∨ rNeD K x y H Q
theorem opl_eq : OpL G (rEqAll G.K) oEq := fun H S x y v u Q K sr rx ry k q => by
  unfold oEq oEqN at q
  split at q
  · rename_i i j
    cases rx; cases ry
    exact .inl ⟨rfl, k _ _ (ql_bl sr (by rw [dec_int]; rw [Bool.beq_eq_decide_eq]; simpa using q))⟩
  · rename_i i j
    cases rx; cases ry
    exact .inl ⟨rfl, k _ _ (ql_bl sr (by rw [dec_str]; rw [Bool.beq_eq_decide_eq]; simpa using q))⟩
  · rename_i i j
    cases rx; cases ry
    exact .inl ⟨rfl, k _ _ (ql_bl sr (by rw [dec_bl]; rw [Bool.beq_eq_decide_eq]; simpa using q))⟩
  · obtain ⟨d, e, hd, he, sd, se, q⟩ := q
    exact .inr ⟨d, e, Dat.dp sr d _ _ hd rx, Dat.dp sr e _ _ he ry, sd, se, k _ _ (ql_bl sr (by simpa using q))⟩
theorem opl_ne : OpL G (rNeAll G.K) oNe := fun H S x y v u Q K sr rx ry k q => by
  unfold oNe oEqN at q
  split at q
  · rename_i i j
    cases rx; cases ry
    exact .inl ⟨rfl, k _ _ (ql_bl sr (by rw [dec_int]; rw [Bool.beq_eq_decide_eq]; simpa using q))⟩
  · rename_i i j
    cases rx; cases ry
    exact .inl ⟨rfl, k _ _ (ql_bl sr (by rw [dec_str]; rw [Bool.beq_eq_decide_eq]; simpa using q))⟩
  · rename_i i j
    cases rx; cases ry
    exact .inl ⟨rfl, k _ _ (ql_bl sr (by rw [dec_bl]; rw [Bool.beq_eq_decide_eq]; simpa using q))⟩
  · obtain ⟨d, e, hd, he, sd, se, q⟩ := q
    exact .inr ⟨d, e, Dat.dp sr d _ _ hd rx, Dat.dp sr e _ _ he ry, sd, se, k _ _ (ql_bl sr (by simpa using q))⟩
theorem je_eq {a b : Expr} {wa wb : WE} {pos : Pos} (hu : X.A.units + 64 < cLine) (ha : JE G X a wa) (hb : JE G X b wb) (hK : X.K = G.K := by rfl) : JE G X (.Compare a [.Eq] [b] pos) (wOp oEq wa wb) := je_cmp (op_eq.or (hK ▸ op_eqD hu)) opl_eq ha hb (nomark _)
theorem je_ne {a b : Expr} {wa wb : WE} {pos : Pos} (hu : X.A.units + 64 < cLine) (ha : JE G X a wa) (hb : JE G X b wb) (hK : X.K = G.K := by rfl) : JE G X (.Compare a [.NotEq] [b] pos) (wOp oNe wa wb) := je_cmp (op_ne.or (hK ▸ op_neD hu)) opl_ne ha hb (nomark _)
/-- is, is not: of None, of bools -/
def isNon : PV → Bool
  | .non => true
  | _ => false
theorem isNon_eq {K : PySem.W.Frag} {x : PV} {v : V} (r : Rep K H x v) : decide (v = .non) = isNon x := by
  cases x with
  | non => cases r; rfl
  | bl _ => cases r; rfl
  | int _ => cases r; rfl
  | str _ => cases r; rfl
  | ref _ => cases r; rfl
  | ty _ => cases r; rfl
  | tup _ => obtain ⟨a, vs, rfl, _⟩ := r; rfl
def oIsN (neg : Bool) : O2 := fun x y S Q => match y with
  | .non => Q (.bl (neg ^^ isNon x)) S
  | .bl b => ∃ a, x = .bl a ∧ Q (.bl (neg ^^ decide (a = b))) S
  | _ => False
abbrev oIs : O2 := oIsN false
abbrev oIsNot : O2 := oIsN true
theorem opl_is : OpL G (fun x y H Q => (y = .non ∧ Q (.bl (decide (x = .non))) H) ∨ rIsB x y H Q) oIs := fun H S x y v u Q K sr rx ry k q => by
  unfold oIs oIsN at q
  split at q
  · cases ry
    exact .inl ⟨rfl, k _ _ (ql_bl sr (by rw [isNon_eq rx]; simpa using q))⟩
  · rename_i b
    obtain ⟨a, rfl, q⟩ := q
    cases rx; cases ry
    exact .inr ⟨a, b, rfl, rfl, k _ _ (ql_bl sr (by simpa using q))⟩
  · exact q.elim
theorem opl_isnot : OpL G (fun x y H Q => (y = .non ∧ Q (.bl (!decide (x = .non))) H) ∨ rNotB x y H Q) oIsNot := fun H S x y v u Q K sr rx ry k q => by
  unfold oIsNot oIsN at q
  split at q
  · cases ry
    exact .inl ⟨rfl, k _ _ (ql_bl sr (by rw [isNon_eq rx]; simpa using q))⟩
  · rename_i b
    obtain ⟨a, rfl, q⟩ := q
    cases rx; cases ry
    exact .inr ⟨a, b, rfl, rfl, k _ _ (ql_bl sr (by simpa using q))⟩
  · exact q.elim
theorem je_is {a b : Expr} {wa wb : WE} {pos : Pos} (ha : JE G X a wa) (hb : JE G X b wb) : JE G X (.Compare a [.Is] [b] pos) (wOp oIs wa wb) := je_cmp (op_isN.or op_isBl) opl_is ha hb (nomark _)
theorem je_isnot {a b : Expr} {wa wb : WE} {pos : Pos} (ha : JE G X a wa) (hb : JE G X b wb) : JE G X (.Compare a [.IsNot] [b] pos) (wOp oIsNot wa wb) := je_cmp (op_notN.or op_notBl) opl_isnot ha hb (nomark _)
end
end L3

set_option Elab.async false
set_option linter.all false
set_option maxRecDepth 100000
set_option maxHeartbeats 4000000
namespace L3
open PySem PySem.Spec L2
open PyProof.Rows hiding St
section
variable {G : Gd} {X : Cx} {H H1 : Hp} {S S1 : Sto} {σ : L2.St} {ε : PEnv}
theorem JE.dn {e : Expr} {w : WE} (h : JE G X e w) {Q : KE} {E : KX} {K : VK} (q : w ε S Q E) (re : Renv G.K H ε σ) (sr : SR G H S) {Wx : WX} (tk : Takes X Wx) (ex : ExL G S H σ E Wx) (k : ∀ v H', QL G S H Q v H' → K v H') : sE X e σ H K :=
  sE_mono (h.run ε S Q E q σ H re sr Wx tk ex) k
theorem JT.dn {e : Expr} {w : WT} (h : JT G X e w) {Q : Bool → Sto → Prop} {E : KX} {K : Bool → Hp → Prop} (q : w ε S Q E) (re : Renv G.K H ε σ) (sr : SR G H S) {Wx : WX} (tk : Takes X Wx) (ex : ExL G S H σ E Wx) (k : ∀ v H', QT G S H Q v H' → K v H') : sT X e σ H K :=
  sT_mono (h.run ε S Q E q σ H re sr Wx tk ex) k
theorem JW.dn {e : Expr} {w : WT} (h : JW G X e w) {Q : Bool → Sto → Prop} {E : KX} {K : Bool → Hp → Prop} (q : w ε S Q E) (re : Renv G.K H ε σ) (sr : SR G H S) {Wx : WX} (tk : Takes X Wx) (ex : ExL G S H σ E Wx) (k : ∀ v H', QT G S H Q v H' → K v H') : sW X e σ H K :=
  sW_mono (h.run ε S Q E q σ H re sr Wx tk ex) k
theorem JA.dn {e : List Expr} {w : WA} (h : JA G X e w) {Q : List PV → Sto → Prop} {E : KX} {K : List V → Hp → Prop} (q : w ε S Q E) (re : Renv G.K H ε σ) (sr : SR G H S) {Wx : WX} (tk : Takes X Wx) (ex : ExL G S H σ E Wx) (k : ∀ v H', QA G S H Q v H' → K v H') : sA X e σ H K :=
  sA_mono (h.run ε S Q E q σ H re sr Wx tk ex) k
/-- drop what is no longer needed -/
def wD (w : WE) : WE := fun ε S Q E => w ε S (fun x S1 => ∃ S2, Sub S2 S1 ∧ Q x S2) E
theorem je_d {e : Expr} {w : WE} (h : JE G X e w) : JE G X e (wD w) := ⟨fun ε S Q E q σ H re sr Wx tk ex => h.dn q re sr tk ex fun v H' ⟨x, S1, s1, sr1, r, S2, sb, q2⟩ => ⟨x, S2, s1.sub sb, sr1.sub sb, r, q2⟩⟩

/-! ### tests -/
/-- a comparison's answer as a test -/
def wTest (w : WE) : WT := fun ε S Q E => w ε S (fun x S1 => match x with
  | .bl b => Q b S1
  | _ => False) E
theorem test_end {Q : Bool → Sto → Prop} {v : V} {H' : Hp} (q : QL G S H (fun x S1 => match x with
  | .bl b => Q b S1
  | _ => False) v H') : ∃ k, v = .bl k ∧ QT G S H Q k H' := by
  obtain ⟨x, S1, s1, sr1, r, q⟩ := q
  split at q
  · exact ⟨_, r, S1, s1, sr1, q⟩
  · exact q.elim
theorem jt_cmp {a b : Expr} {wa wb : WE} {op : CmpOp} {r : R2} {o : O2} {pos : Pos} (ho : OpR X (compareOp op) r) (L : OpL G r o) (ha : JE G X a wa) (hb : JE G X b wb) (hm : behindInMarks op b = false) : JT G X (.Compare a [op] [b] pos) (wTest (wOp o wa wb)) :=
  ⟨fun ε S Q E w σ H re sr Wx tk ex => sT_of (pt_cmpR ho pe_sE pe_sE hm) (by
    refine ha.dn w re sr tk ex fun v H1 ⟨x, S1, s1, sr1, r1, w1⟩ => ?_
    refine hb.dn w1 (re.stay s1.st) sr1 tk (ex.mono s1) fun u H2 ⟨y, S2, s2, sr2, r2, w2⟩ => ?_
    exact L H2 S2 x y v u _ _ sr2 (rep_stay s2.st _ _ r1) r2 (fun v H' q => test_end (q.mono (s1.trans s2))) w2)⟩
theorem jt_lt {a b : Expr} {wa wb : WE} {pos : Pos} (hu : X.A.units + 64 < cLine) (ha : JE G X a wa) (hb : JE G X b wb) (hK : X.K = G.K := by rfl) : JT G X (.Compare a [.Lt] [b] pos) (wTest (wOp oLt wa wb)) := jt_cmp (op_ltAll hK hu) opl_lt ha hb (nomark _)
theorem jt_le {a b : Expr} {wa wb : WE} {pos : Pos} (ha : JE G X a wa) (hb : JE G X b wb) : JT G X (.Compare a [.LtE] [b] pos) (wTest (wOp oLe wa wb)) := jt_cmp op_le (opl_I0 fun _ _ _ _ => rfl) ha hb (nomark _)
theorem jt_gt {a b : Expr} {wa wb : WE} {pos : Pos} (ha : JE G X a wa) (hb : JE G X b wb) : JT G X (.Compare a [.Gt] [b] pos) (wTest (wOp oGt wa wb)) := jt_cmp op_gt (opl_I0 fun _ _ _ _ => rfl) ha hb (nomark _)
theorem jt_ge {a b : Expr} {wa wb : WE} {pos : Pos} (ha : JE G X a wa) (hb : JE G X b wb) : JT G X (.Compare a [.GtE] [b] pos) (wTest (wOp oGe wa wb)) := jt_cmp op_ge (opl_I0 fun _ _ _ _ => rfl) ha hb (nomark _)
theorem jt_eq {a b : Expr} {wa wb : WE} {pos : Pos} (hu : X.A.units + 64 < cLine) (ha : JE G X a wa) (hb : JE G X b wb) (hK : X.K = G.K := by rfl) : JT G X (.Compare a [.Eq] [b] pos) (wTest (wOp oEq wa wb)) := jt_cmp (op_eq.or (hK ▸ op_eqD hu)) opl_eq ha hb (nomark _)
theorem jt_ne {a b : Expr} {wa wb : WE} {pos : Pos} (hu : X.A.units + 64 < cLine) (ha : JE G X a wa) (hb : JE G X b wb) (hK : X.K = G.K := by rfl) : JT G X (.Compare a [.NotEq] [b] pos) (wTest (wOp oNe wa wb)) := jt_cmp (op_ne.or (hK ▸ op_neD hu)) opl_ne ha hb (nomark _)
theorem jt_is {a b : Expr} {wa wb : WE} {pos : Pos} (ha : JE G X a wa) (hb : JE G X b wb) : JT G X (.Compare a [.Is] [b] pos) (wTest (wOp oIs wa wb)) := jt_cmp (op_isN.or op_isBl) opl_is ha hb (nomark _)
theorem jt_isnot {a b : Expr} {wa wb : WE} {pos : Pos} (ha : JE G X a wa) (hb : JE G X b wb) : JT G X (.Compare a [.IsNot] [b] pos) (wTest (wOp oIsNot wa wb)) := jt_cmp (op_notN.or op_notBl) opl_isnot ha hb (nomark _)
/-- a < b < c -/
def wChain (o o' : O2) (wa wb wc : WE) : WE := fun ε S Q E => wa ε S (fun x S1 => wb ε S1 (fun y S2 => o x y S2 (fun z S3 => match z with
  | .bl true => wc ε S3 (fun u S4 => o' y u S4 Q) E
  | .bl false => Q (.bl false) S3
  | _ => False)) E) E
theorem chain_dn {a b c : Expr} {wa wb wc : WE} {r r' : R2} {o o' : O2} (L : OpL G r o) (L' : OpL G r' o') (ha : JE G X a wa) (hb : JE G X b wb) (hc : JE G X c wc) {Q : KE} {E : KX} {K : VK} (w : wChain o o' wa wb wc ε S Q E) (re : Renv G.K H ε σ) (sr : SR G H S)
    {Wx : WX} (tk : Takes X Wx) (ex : ExL G S H σ E Wx) (k : ∀ v H', QL G S H Q v H' → K v H') : tChain r r' (sE X a) (sE X b) (sE X c) σ H K := by
  refine ha.dn w re sr tk ex fun v H1 ⟨x, S1, s1, sr1, r1, w1⟩ => ?_
  refine hb.dn w1 (re.stay s1.st) sr1 tk (ex.mono s1) fun u H2 ⟨y, S2, s2, sr2, r2, w2⟩ => ?_
  refine L H2 S2 x y v u _ _ sr2 (rep_stay s2.st _ _ r1) r2 (fun z H3 ⟨zz, S3, s3, sr3, r3, w3⟩ => ?_) w2
  dsimp only at w3
  split at w3
  · refine ⟨true, r3, ?_⟩
    rw [if_pos rfl]
    have s12 := (s1.trans s2).trans s3
    refine hc.dn w3 (re.stay s12.st) sr3 tk (ex.mono s12) fun t H4 ⟨q, S4, s4, sr4, r4, w4⟩ => ?_
    exact L' H4 S4 y q u t _ _ sr4 (rep_stay (s3.trans s4).st _ _ r2) r4 (fun v H' q => k _ _ (q.mono (s12.trans s4))) w4
  · refine ⟨false, r3, ?_⟩
    rw [if_neg Bool.false_ne_true]
    exact k _ _ ((ql_bl sr3 w3).mono ((s1.trans s2).trans s3))
  · exact w3.elim
theorem je_chain {a b c : Expr} {wa wb wc : WE} {op op' : CmpOp} {r r' : R2} {o o' : O2} {pos : Pos} (ho : OpR X (compareOp op) r) (ho' : OpR X (compareOp op') r') (L : OpL G r o) (L' : OpL G r' o') (ha : JE G X a wa) (hb : JE G X b wb) (hc : JE G X c wc)
    (hm : lastMarks [op, op'] [b, c] = false := by with_unfolding_all rfl) : JE G X (.Compare a [op, op'] [b, c] pos) (wChain o o' wa wb wc) :=
  ⟨fun ε S Q E w σ H re sr Wx tk ex => sE_of (pe_chain ho ho' pe_sE pe_sE pe_sE hm) (chain_dn L L' ha hb hc w re sr tk ex fun _ _ q => q)⟩
theorem jt_chain {a b c : Expr} {wa wb wc : WE} {op op' : CmpOp} {r r' : R2} {o o' : O2} {pos : Pos} (ho : OpR X (compareOp op) r) (ho' : OpR X (compareOp op') r') (L : OpL G r o) (L' : OpL G r' o') (ha : JE G X a wa) (hb : JE G X b wb) (hc : JE G X c wc)
    (hm : lastMarks [op, op'] [b, c] = false := by with_unfolding_all rfl) : JT G X (.Compare a [op, op'] [b, c] pos) (wTest (wChain o o' wa wb wc)) :=
  ⟨fun ε S Q E w σ H re sr Wx tk ex => sT_of (pt_chain ho ho' pe_sE pe_sE pe_sE hm) (chain_dn L L' ha hb hc w re sr tk ex fun _ _ q => test_end q)⟩
theorem je_lele {a b c : Expr} {wa wb wc : WE} {pos : Pos} (ha : JE G X a wa) (hb : JE G X b wb) (hc : JE G X c wc) (hm : lastMarks [CmpOp.LtE, CmpOp.LtE] [b, c] = false := by with_unfolding_all rfl) : JE G X (.Compare a [.LtE, .LtE] [b, c] pos) (wChain oLe oLe wa wb wc) :=
  je_chain op_le op_le (opl_I0 fun _ _ _ _ => rfl) (opl_I0 fun _ _ _ _ => rfl) ha hb hc hm
theorem jt_lele {a b c : Expr} {wa wb wc : WE} {pos : Pos} (ha : JE G X a wa) (hb : JE G X b wb) (hc : JE G X c wc) (hm : lastMarks [CmpOp.LtE, CmpOp.LtE] [b, c] = false := by with_unfolding_all rfl) : JT G X (.Compare a [.LtE, .LtE] [b, c] pos) (wTest (wChain oLe oLe wa wb wc)) :=
  jt_chain op_le op_le (opl_I0 fun _ _ _ _ => rfl) (opl_I0 fun _ _ _ _ => rfl) ha hb hc hm
theorem je_lelt {a b c : Expr} {wa wb wc : WE} {pos : Pos} (hu : X.A.units + 64 < cLine) (ha : JE G X a wa) (hb : JE G X b wb) (hc : JE G X c wc) (hm : lastMarks [CmpOp.LtE, CmpOp.Lt] [b, c] = false := by with_unfolding_all rfl) (hK : X.K = G.K := by rfl) : JE G X (.Compare a [.LtE, .Lt] [b, c] pos) (wChain oLe oLt wa wb wc) :=
  je_chain op_le (op_ltAll hK hu) (opl_I0 fun _ _ _ _ => rfl) opl_lt ha hb hc hm
theorem jt_lelt {a b c : Expr} {wa wb wc : WE} {pos : Pos} (hu : X.A.units + 64 < cLine) (ha : JE G X a wa) (hb : JE G X b wb) (hc : JE G X c wc) (hm : lastMarks [CmpOp.LtE, CmpOp.Lt] [b, c] = false := by with_unfolding_all rfl) (hK : X.K = G.K := by rfl) : JT G X (.Compare a [.LtE, .Lt] [b, c] pos) (wTest (wChain oLe oLt wa wb wc)) :=
  jt_chain op_le (op_ltAll hK hu) (opl_I0 fun _ _ _ _ => rfl) opl_lt ha hb hc hm
theorem je_ltle {a b c : Expr} {wa wb wc : WE} {pos : Pos} (hu : X.A.units + 64 < cLine) (ha : JE G X a wa) (hb : JE G X b wb) (hc : JE G X c wc) (hm : lastMarks [CmpOp.Lt, CmpOp.LtE] [b, c] = false := by with_unfolding_all rfl) (hK : X.K = G.K := by rfl) : JE G X (.Compare a [.Lt, .LtE] [b, c] pos) (wChain oLt oLe wa wb wc) :=
  je_chain (op_ltAll hK hu) op_le opl_lt (opl_I0 fun _ _ _ _ => rfl) ha hb hc hm
theorem jt_ltle {a b c : Expr} {wa wb wc : WE} {pos : Pos} (hu : X.A.units + 64 < cLine) (ha : JE G X a wa) (hb : JE G X b wb) (hc : JE G X c wc) (hm : lastMarks [CmpOp.Lt, CmpOp.LtE] [b, c] = false := by with_unfolding_all rfl) (hK : X.K = G.K := by rfl) : JT G X (.Compare a [.Lt, .LtE] [b, c] pos) (wTest (wChain oLt oLe wa wb wc)) :=
  jt_chain (op_ltAll hK hu) op_le opl_lt (opl_I0 fun _ _ _ _ => rfl) ha hb hc hm
/-- truth -/
def oTru : PV → Sto → (Bool → Sto → Prop) → Prop := fun x S Q => match x with
  | .non => Q false S
  | .bl b => Q b S
  | .int i => Q (i != 0) S
  | .str y => y.length ≤ sizeLine ∧ Q ((y.length : Int) != 0) S
  | .tup xs => Q (!xs.isEmpty) S
  | .ref a => (∃ xs, RdL S a xs ∧ Q (!xs.isEmpty) S) ∨ ∃ kvs, S a = some (.dct kvs) ∧ Q (!kvs.isEmpty) S
  | _ => False
theorem isEmpty_reps {K : PySem.W.Frag} {xs : List PV} {vs : List V} (r : Reps K H xs vs) : xs.isEmpty = vs.isEmpty := by
  have h := reps_length r
  cases xs <;> cases vs <;> simp_all
theorem isEmpty_repKV {K : PySem.W.Frag} : ∀ {xs : List (Key × PV)} {vs : List (Key × V)}, RepKV K H xs vs → xs.isEmpty = vs.isEmpty
  | [], _, h => by cases h; rfl
  | (k, x) :: xs, _, h => by obtain ⟨v, ws, rfl, _, _⟩ := h; rfl
theorem tru_dn {x : PV} {v : V} {Q : Bool → Sto → Prop} (sr : SR G H S) (r : Rep G.K H x v) (q : oTru x S Q) : ∃ k, TruV G.K v H k ∧ QT G S H Q k H := by
  unfold oTru at q
  split at q
  · cases r; exact ⟨false, rfl, S, .refl _ _, sr, q⟩
  · rename_i b; cases r; exact ⟨b, rfl, S, .refl _ _, sr, q⟩
  · rename_i i; cases r; exact ⟨_, rfl, S, .refl _ _, sr, q⟩
  · rename_i y; cases r; exact ⟨_, ⟨q.1, rfl⟩, S, .refl _ _, sr, q.2⟩
  · rename_i xs
    obtain ⟨a, vs, rfl, ha, ra⟩ := r
    exact ⟨_, .inr (.inl ⟨vs, ha, rfl⟩), S, .refl _ _, sr, by rw [← isEmpty_reps ra]; exact q⟩
  · rename_i a
    cases r
    rcases q with ⟨xs, e, q⟩ | ⟨kvs, e, q⟩
    · obtain ⟨vs, ha, ra⟩ := rdl_at sr e
      exact ⟨_, .inl ⟨vs, ha, rfl⟩, S, .refl _ _, sr, by rw [← isEmpty_reps ra]; exact q⟩
    · obtain ⟨es, ha, ra⟩ := sr.ok a _ e
      exact ⟨_, .inr (.inr ⟨es, ha, rfl⟩), S, .refl _ _, sr, by rw [← isEmpty_repKV ra]; exact q⟩
  · exact q.elim
def wTru (w : WE) : WT := fun ε S Q E => w ε S (fun x S1 => oTru x S1 Q) E
theorem jt_tru {a : Expr} {wa : WE} (ha : JE G X a wa) (he : ∀ whole, isTrue a X.env whole = (do let v ← whole; standAt a.pos; holding [v] (truthy v)) := by intro _; rfl) (hK : X.K = G.K := by rfl) : JT G X a (wTru wa) :=
  ⟨fun ε S Q E w σ H re sr Wx tk ex => sT_of (pt_truth pe_sE he) (by
    refine ha.dn w re sr tk ex fun v H1 ⟨x, S1, s1, sr1, r1, w1⟩ => ?_
    obtain ⟨k, h1, h2⟩ := tru_dn sr1 r1 w1
    exact ⟨k, hK ▸ h1, h2.mono s1⟩)⟩
def wNot (w : WT) : WT := fun ε S Q E => w ε S (fun b S1 => Q (!b) S1) E
theorem jt_not {a : Expr} {wa : WT} {pos : Pos} (ha : JT G X a wa) : JT G X (.UnaryOp .Not a pos) (wNot wa) :=
  ⟨fun ε S Q E w σ H re sr Wx tk ex => sT_of (pt_not pt_sT) (ha.dn w re sr tk ex fun _ _ ⟨S1, s1, sr1, q⟩ => ⟨S1, s1, sr1, q⟩)⟩
def wAnd (wa wb : WT) : WT := fun ε S Q E => wa ε S (fun b S1 => if b = true then wb ε S1 Q E else Q false S1) E
def wOr (wa wb : WT) : WT := fun ε S Q E => wa ε S (fun b S1 => if b = true then Q true S1 else wb ε S1 Q E) E
theorem jw_and1 {a : Expr} {wa : WT} {pos : Pos} (ha : JT G X a wa) : JW G X (.BoolOp .And [a] pos) wa := ⟨fun ε S Q E w σ H re sr Wx tk ex => sW_of (pw_and1 pt_sT) (ha.run ε S Q E w σ H re sr Wx tk ex)⟩
theorem jw_or1 {a : Expr} {wa : WT} {pos : Pos} (ha : JT G X a wa) : JW G X (.BoolOp .Or [a] pos) wa := ⟨fun ε S Q E w σ H re sr Wx tk ex => sW_of (pw_or1 pt_sT) (ha.run ε S Q E w σ H re sr Wx tk ex)⟩
theorem jw_and {a b : Expr} {rest : List Expr} {wa wb : WT} {pos : Pos} (ha : JT G X a wa) (hb : JW G X (.BoolOp .And (b :: rest) pos) wb) : JW G X (.BoolOp .And (a :: b :: rest) pos) (wAnd wa wb) :=
  ⟨fun ε S Q E w σ H re sr Wx tk ex => sW_of (pw_and pt_sT pw_sW) (by
    refine ha.dn w re sr tk ex fun b H1 ⟨S1, s1, sr1, q⟩ => ?_
    cases b with
    | true => exact hb.dn q (re.stay s1.st) sr1 tk (ex.mono s1) fun _ _ q => q.mono s1
    | false => exact ⟨S1, s1, sr1, q⟩)⟩
theorem jw_or {a b : Expr} {rest : List Expr} {wa wb : WT} {pos : Pos} (ha : JT G X a wa) (hb : JW G X (.BoolOp .Or (b :: rest) pos) wb) : JW G X (.BoolOp .Or (a :: b :: rest) pos) (wOr wa wb) :=
  ⟨fun ε S Q E w σ H re sr Wx tk ex => sW_of (pw_or pt_sT pw_sW) (by
    refine ha.dn w re sr tk ex fun b H1 ⟨S1, s1, sr1, q⟩ => ?_
    cases b with
    | false => exact hb.dn q (re.stay s1.st) sr1 tk (ex.mono s1) fun _ _ q => q.mono s1
    | true => exact ⟨S1, s1, sr1, q⟩)⟩
theorem jt_w {a : Expr} {wa : WT} (ha : JW G X a wa) : JT G X a wa := ⟨fun ε S Q E w σ H re sr Wx tk ex => fun pins s I => ha.run ε S Q E w σ H re sr Wx tk ex _ pins s I⟩
/-- and, or, not as values -/
def wAndV (wa wb : WE) : WE := fun ε S Q E => wa ε S (fun x S1 => oTru x S1 fun b S2 => if b = true then wb ε S2 Q E else Q x S2) E
def wOrV (wa wb : WE) : WE := fun ε S Q E => wa ε S (fun x S1 => oTru x S1 fun b S2 => if b = true then Q x S2 else wb ε S2 Q E) E
def wNotV (wa : WE) : WE := fun ε S Q E => wa ε S (fun x S1 => oTru x S1 fun b S2 => Q (.bl (!b)) S2) E
theorem je_one {op : BoolOp} {a : Expr} {wa : WE} {pos : Pos} (ha : JE G X a wa) : JE G X (.BoolOp op [a] pos) wa := ⟨fun ε S Q E w σ H re sr Wx tk ex => sE_of (pe_one pe_sE) (ha.run ε S Q E w σ H re sr Wx tk ex)⟩
theorem je_and {a b : Expr} {rest : List Expr} {wa wb : WE} {pos : Pos} (ha : JE G X a wa) (hb : JE G X (.BoolOp .And (b :: rest) pos) wb) (hK : X.K = G.K := by rfl) : JE G X (.BoolOp .And (a :: b :: rest) pos) (wAndV wa wb) :=
  ⟨fun ε S Q E w σ H re sr Wx tk ex => sE_of (pe_andT pe_sE pe_sE) (by
    refine ha.dn w re sr tk ex fun v H1 ⟨x, S1, s1, sr1, r1, w1⟩ => ?_
    obtain ⟨k, h1, S2, s2, sr2, q⟩ := tru_dn sr1 r1 w1
    refine ⟨k, hK ▸ h1, ?_⟩
    cases k with
    | true => exact hb.dn q (re.stay (s1.trans s2).st) sr2 tk (ex.mono (s1.trans s2)) fun _ _ q => q.mono (s1.trans s2)
    | false => exact ⟨x, S2, s1.trans s2, sr2, r1, q⟩)⟩
theorem je_or {a b : Expr} {rest : List Expr} {wa wb : WE} {pos : Pos} (ha : JE G X a wa) (hb : JE G X (.BoolOp .Or (b :: rest) pos) wb) (hK : X.K = G.K := by rfl) : JE G X (.BoolOp .Or (a :: b :: rest) pos) (wOrV wa wb) :=
  ⟨fun ε S Q E w σ H re sr Wx tk ex => sE_of (pe_orT pe_sE pe_sE) (by
    refine ha.dn w re sr tk ex fun v H1 ⟨x, S1, s1, sr1, r1, w1⟩ => ?_
    obtain ⟨k, h1, S2, s2, sr2, q⟩ := tru_dn sr1 r1 w1
    refine ⟨k, hK ▸ h1, ?_⟩
    cases k with
    | false => exact hb.dn q (re.stay (s1.trans s2).st) sr2 tk (ex.mono (s1.trans s2)) fun _ _ q => q.mono (s1.trans s2)
    | true => exact ⟨x, S2, s1.trans s2, sr2, r1, q⟩)⟩
theorem je_not {a : Expr} {wa : WE} {pos : Pos} (ha : JE G X a wa) (hK : X.K = G.K := by rfl) : JE G X (.UnaryOp .Not a pos) (wNotV wa) :=
  ⟨fun ε S Q E w σ H re sr Wx tk ex => sE_of (pe_notT pe_sE) (by
    refine ha.dn w re sr tk ex fun v H1 ⟨x, S1, s1, sr1, r1, w1⟩ => ?_
    obtain ⟨k, h1, S2, s2, sr2, q⟩ := tru_dn sr1 r1 w1
    exact ⟨k, hK ▸ h1, (ql_bl (Q := Q) sr2 q).mono (s1.trans s2)⟩)⟩
def wIfE (wt : WT) (wa wb : WE) : WE := fun ε S Q E => wt ε S (fun b S1 => if b = true then wa ε S1 Q E else wb ε S1 Q E) E
theorem je_if {t a b : Expr} {wt : WT} {wa wb : WE} {pos : Pos} (ht : JT G X t wt) (ha : JE G X a wa) (hb : JE G X b wb) : JE G X (.IfExp t a b pos) (wIfE wt wa wb) :=
  ⟨fun ε S Q E w σ H re sr Wx tk ex => sE_of (pe_ifExp pt_sT pe_sE pe_sE) (by
    refine ht.dn w re sr tk ex fun b H1 ⟨S1, s1, sr1, q⟩ => ?_
    cases b with
    | true => exact ha.dn q (re.stay s1.st) sr1 tk (ex.mono s1) fun _ _ q => q.mono s1
    | false => exact hb.dn q (re.stay s1.st) sr1 tk (ex.mono s1) fun _ _ q => q.mono s1)⟩

/-! ### displays, arguments -/
def wNil : WA := fun _ S Q _ => Q [] S
def wCons (wa : WE) (wr : WA) : WA := fun ε S Q E => wa ε S (fun x S1 => wr ε S1 (fun xs S2 => Q (x :: xs) S2) E) E
theorem ja_nil : JA G X [] wNil := ⟨fun ε S Q E w σ H re sr Wx tk ex => sA_of pa_nil ⟨[], S, .refl _ _, sr, rfl, w⟩⟩
theorem ja_cons {e : Expr} {es : List Expr} {wa : WE} {wr : WA} (ha : JE G X e wa) (hr : JA G X es wr) (hs : starEach (e :: es) X.env = (false, eval e X.env) :: starEach es X.env := by rfl) : JA G X (e :: es) (wCons wa wr) :=
  ⟨fun ε S Q E w σ H re sr Wx tk ex => sA_of (pa_cons pe_sE pa_sA hs) (by
    refine ha.dn w re sr tk ex fun v H1 ⟨x, S1, s1, sr1, r1, w1⟩ => ?_
    refine hr.dn w1 (re.stay s1.st) sr1 tk (ex.mono s1) fun vs H2 ⟨xs, S2, s2, sr2, r2, w2⟩ => ?_
    exact ⟨x :: xs, S2, s1.trans s2, sr2, ⟨v, vs, rfl, rep_stay s2.st _ _ r1, r2⟩, w2⟩)⟩
def wTup (w : WA) : WE := fun ε S Q E => w ε S (fun xs S1 => xs.length ≤ sizeLine ∧ Q (.tup xs) S1) E
def wLst (w : WA) : WE := fun ε S Q E => w ε S (fun xs S1 => xs.length ≤ sizeLine ∧ ∀ p, S1 p = none → Q (.ref p) (supd S1 p (.lst xs))) E
theorem je_tup {es : List Expr} {w : WA} {k : Nat} {pos : Pos} (h : JA G X es w) : JE G X (.Tuple es k pos) (wTup w) :=
  ⟨fun ε S Q E w σ H re sr Wx tk ex => sE_of (pe_tup pa_sA) (by
    refine h.dn w re sr tk ex fun vs H1 ⟨xs, S1, s1, sr1, r1, z, w1⟩ => ?_
    exact ⟨by rw [← reps_length r1]; exact z, fun p hp => (ql_tup sr1 hp r1 w1).mono s1⟩)⟩
theorem je_lst {es : List Expr} {w : WA} {pos : Pos} (h : JA G X es w) : JE G X (.List es pos) (wLst w) :=
  ⟨fun ε S Q E w σ H re sr Wx tk ex => sE_of (pe_lst pa_sA) (by
    refine h.dn w re sr tk ex fun vs H1 ⟨xs, S1, s1, sr1, r1, z, w1⟩ => ?_
    exact ⟨by rw [← reps_length r1]; exact z, fun p hp => (ql_lst sr1 hp r1 w1).mono s1⟩)⟩

/-! ### calls of built-ins -/
abbrev OC := List PV → Sto → KE → Prop
def CallL (G : Gd) (r : List V → Hp → VK → Prop) (o : OC) : Prop := ∀ H S xs vs Q (K : VK), SR G H S → Reps G.K H xs vs → (∀ v H', QL G S H Q v H' → K v H') → o xs S Q → r vs H K
def wCB (o : OC) (w : WA) : WE := fun ε S Q E => w ε S (fun xs S1 => o xs S1 Q) E
section
variable {x : Str} {p pos : Pos} {e : Expr} {es : List Expr} {w : WA} {id T : String} {r : List V → Hp → VK → Prop} {o : OC}
theorem je_callB (hc : CallR X (.builtin id) r) (L : CallL G r o) (hg : Gl X x) (hm : X.mg x = none) (hv : bootBuiltins x = some (.builtin id)) (ha : JA G X (e :: es) w) (hn : x ≠ "__name__" := by decide) (hdb : (x == ("__debug__" : Str)) = false := by decide)
    (he : starEach (e :: es) X.env = (false, eval e X.env) :: starEach es X.env := by rfl) (hpl : (backTo pos (starEach es X.env)).any (·.1) = false := by rfl) : JE G X (.Call (.Name x p) (e :: es) [] pos) (wCB o w) :=
  ⟨fun ε S Q E w σ H re sr Wx tk ex => sE_of (pe_callB hc hg hm hv pa_sA hn hdb he hpl) (by
    refine ha.dn w re sr tk ex fun vs H1 ⟨xs, S1, s1, sr1, r1, w1⟩ => ?_
    exact L H1 S1 xs vs Q _ sr1 r1 (fun _ _ q => q.mono s1) w1)⟩
theorem je_callTy (hc : CallR X (.type T) r) (L : CallL G r o) (hg : Gl X x) (hm : X.mg x = none) (hv : bootBuiltins x = some (.type T)) (ha : JA G X (e :: es) w) (hn : x ≠ "__name__" := by decide) (hdb : (x == ("__debug__" : Str)) = false := by decide)
    (he : starEach (e :: es) X.env = (false, eval e X.env) :: starEach es X.env := by rfl) (hpl : (backTo pos (starEach es X.env)).any (·.1) = false := by rfl) : JE G X (.Call (.Name x p) (e :: es) [] pos) (wCB o w) :=
  ⟨fun ε S Q E w σ H re sr Wx tk ex => sE_of (pe_callTy hc hg hm hv pa_sA hn hdb he hpl) (by
    refine ha.dn w re sr tk ex fun vs H1 ⟨xs, S1, s1, sr1, r1, w1⟩ => ?_
    exact L H1 S1 xs vs Q _ sr1 r1 (fun _ _ q => q.mono s1) w1)⟩
end
end
end L3

set_option Elab.async false
set_option linter.all false
set_option maxRecDepth 100000
set_option maxHeartbeats 4000000
namespace L3
open PySem PySem.Spec L2
open PyProof.Rows hiding St
section
variable {G : Gd} {X : Cx} {H H1 : Hp} {S S1 : Sto} {σ : L2.St} {ε : PEnv}
theorem reps1 {K : PySem.W.Frag} {x : PV} {vs : List V} (r : Reps K H [x] vs) : ∃ v, vs = [v] ∧ Rep K H x v := by
  obtain ⟨v, ws, rfl, r, rs⟩ := r
  cases rs
  exact ⟨v, rfl, r⟩
theorem reps2 {K : PySem.W.Frag} {x y : PV} {vs : List V} (r : Reps K H [x, y] vs) : ∃ v u, vs = [v, u] ∧ Rep K H x v ∧ Rep K H y u := by
  obtain ⟨v, ws, rfl, r, rs⟩ := r
  obtain ⟨u, rfl, r2⟩ := reps1 rs
  exact ⟨v, u, rfl, r, r2⟩
/-! ### built-ins -/
def cLen : OC := fun xs S Q => match xs with
  | [.str y] => y.length ≤ sizeLine ∧ Q (.int y.length) S
  | [.tup ys] => Q (.int ys.length) S
  | [.ref a] => ∃ ys, RdL S a ys ∧ Q (.int ys.length) S
  | _ => False
theorem cl_len : CallL G (fun xs H Q => ∃ x n, xs = [x] ∧ LenV G.K x H n ∧ Q (.int n) H) cLen := fun H S xs vs Q K sr r k q => by
  unfold cLen at q
  split at q
  · obtain ⟨v, rfl, rv⟩ := reps1 r
    cases rv
    exact ⟨_, _, rfl, ⟨q.1, rfl⟩, k _ _ (ql_int sr q.2)⟩
  · obtain ⟨v, rfl, a, ws, rfl, ha, ra⟩ := reps1 r
    exact ⟨_, ws.length, rfl, .inr ⟨ws, ha, rfl⟩, k _ _ (ql_int sr (by rw [← reps_length ra]; exact q))⟩
  · obtain ⟨v, rfl, rv⟩ := reps1 r
    cases rv
    obtain ⟨ys, e, q⟩ := q
    obtain ⟨ws, ha, ra⟩ := rdl_at sr e
    exact ⟨_, ws.length, rfl, .inl ⟨ws, ha, rfl⟩, k _ _ (ql_int sr (by rw [← reps_length ra]; exact q))⟩
  · exact q.elim
def cInt : OC := fun xs S Q => match xs with
  | [.int i] => Q (.int i) S
  | [.bl b] => Q (.int (if b then 1 else 0)) S
  | _ => False
theorem cl_int : CallL G (fun xs H Q => (∃ i, xs = [.int i] ∧ Q (.int i) H) ∨ ∃ k, xs = [.bl k] ∧ Q (.int (if k then 1 else 0)) H) cInt := fun H S xs vs Q K sr r k q => by
  unfold cInt at q
  split at q
  · obtain ⟨v, rfl, rv⟩ := reps1 r
    cases rv
    exact .inl ⟨_, rfl, k _ _ (ql_int sr q)⟩
  · obtain ⟨v, rfl, rv⟩ := reps1 r
    cases rv
    exact .inr ⟨_, rfl, k _ _ (ql_int sr q)⟩
  · exact q.elim
def cAbs : OC := fun xs S Q => match xs with
  | [.int i] => Q (.int (i.natAbs : Int)) S
  | _ => False
theorem cl_abs : CallL G (fun xs H Q => ∃ i, xs = [.int i] ∧ Q (.int (if i < 0 then -i else i)) H) cAbs := fun H S xs vs Q K sr r k q => by
  unfold cAbs at q
  split at q
  · rename_i i
    obtain ⟨v, rfl, rv⟩ := reps1 r
    cases rv
    refine ⟨_, rfl, k _ _ (ql_int sr ?_)⟩
    have : (if i < 0 then -i else i) = (i.natAbs : Int) := by split <;> omega
    rw [this]
    exact q
  · exact q.elim
def cMax2 : OC := fun xs S Q => match xs with
  | [.int i, .int j] => Q (.int (max i j)) S
  | _ => False
def cMin2 : OC := fun xs S Q => match xs with
  | [.int i, .int j] => Q (.int (min i j)) S
  | _ => False
theorem cl_max2 : CallL G (fun xs H Q => ∃ i j, xs = [.int i, .int j] ∧ Q (.int (if j > i then j else i)) H) cMax2 := fun H S xs vs Q K sr r k q => by
  unfold cMax2 at q
  split at q
  · rename_i i j
    obtain ⟨v, u, rfl, rv, ru⟩ := reps2 r
    cases rv; cases ru
    refine ⟨_, _, rfl, k _ _ (ql_int sr ?_)⟩
    have : (if j > i then j else i) = max i j := by split <;> omega
    rw [this]
    exact q
  · exact q.elim
theorem cl_min2 : CallL G (fun xs H Q => ∃ i j, xs = [.int i, .int j] ∧ Q (.int (if j < i then j else i)) H) cMin2 := fun H S xs vs Q K sr r k q => by
  unfold cMin2 at q
  split at q
  · rename_i i j
    obtain ⟨v, u, rfl, rv, ru⟩ := reps2 r
    cases rv; cases ru
    refine ⟨_, _, rfl, k _ _ (ql_int sr ?_)⟩
    have : (if j < i then j else i) = min i j := by split <;> omega
    rw [this]
    exact q
  · exact q.elim
/-- a list of ints that is read -/
def IntsAt (S : Sto) (a : Addr) (ns : List Int) : Prop := RdL S a (ns.map PV.int)
def cSum : OC := fun xs S Q => match xs with
  | [.ref a] => ∃ ns : List Int, IntsAt S a ns ∧ Q (.int ns.sum) S
  | _ => False
theorem ints_at {a : Addr} {ns : List Int} (sr : SR G H S) (e : IntsAt S a ns) : SqL G.K H a (ns.map V.int) := by
  obtain ⟨vs, h, r⟩ := rdl_at sr e
  rw [reps_ints] at r
  rw [← r]; exact h
theorem cl_sum : CallL G (rSum G.K) cSum := fun H S xs vs Q K sr r k q => by
  unfold cSum at q
  split at q
  · obtain ⟨v, rfl, rv⟩ := reps1 r
    cases rv
    obtain ⟨ns, e, q⟩ := q
    exact ⟨_, ns, rfl, ints_at sr e, k _ _ (ql_int sr q)⟩
  · exact q.elim
def cMaxL : OC := fun xs S Q => match xs with
  | [.ref a] => ∃ ns : List Int, IntsAt S a ns ∧ 0 < ns.length ∧ ∀ m, m ∈ ns → (∀ y, y ∈ ns → y ≤ m) → Q (.int m) S
  | _ => False
def cMinL : OC := fun xs S Q => match xs with
  | [.ref a] => ∃ ns : List Int, IntsAt S a ns ∧ 0 < ns.length ∧ ∀ m, m ∈ ns → (∀ y, y ∈ ns → m ≤ y) → Q (.int m) S
  | _ => False
theorem cl_maxL : CallL G (rMax G.K) cMaxL := fun H S xs vs Q K sr r k q => by
  unfold cMaxL at q
  split at q
  · obtain ⟨v, rfl, rv⟩ := reps1 r
    cases rv
    obtain ⟨ns, e, h0, q⟩ := q
    exact ⟨_, ns, rfl, ints_at sr e, h0, fun m h1 h2 => k _ _ (ql_int sr (q m h1 h2))⟩
  · exact q.elim
theorem cl_minL : CallL G (rMin G.K) cMinL := fun H S xs vs Q K sr r k q => by
  unfold cMinL at q
  split at q
  · obtain ⟨v, rfl, rv⟩ := reps1 r
    cases rv
    obtain ⟨ns, e, h0, q⟩ := q
    exact ⟨_, ns, rfl, ints_at sr e, h0, fun m h1 h2 => k _ _ (ql_int sr (q m h1 h2))⟩
  · exact q.elim
def cAll : OC := fun xs S Q => match xs with
  | [.ref a] => ∃ bs : List Bool, RdL S a (bs.map PV.bl) ∧ Q (.bl (bs.all id)) S
  | _ => False
def cAny : OC := fun xs S Q => match xs with
  | [.ref a] => ∃ bs : List Bool, RdL S a (bs.map PV.bl) ∧ Q (.bl (bs.any id)) S
  | _ => False
theorem bls_at {a : Addr} {ns : List Bool} (sr : SR G H S) (e : RdL S a (ns.map PV.bl)) : SqL G.K H a (ns.map V.bl) := by
  obtain ⟨vs, h, r⟩ := rdl_at sr e
  rw [reps_bls] at r
  rw [← r]; exact h
theorem cl_all : CallL G (rAll G.K) cAll := fun H S xs vs Q K sr r k q => by
  unfold cAll at q
  split at q
  · obtain ⟨v, rfl, rv⟩ := reps1 r
    cases rv
    obtain ⟨ns, e, q⟩ := q
    exact ⟨_, ns, rfl, bls_at sr e, k _ _ (ql_bl sr q)⟩
  · exact q.elim
theorem cl_any : CallL G (rAny G.K) cAny := fun H S xs vs Q K sr r k q => by
  unfold cAny at q
  split at q
  · obtain ⟨v, rfl, rv⟩ := reps1 r
    cases rv
    obtain ⟨ns, e, q⟩ := q
    exact ⟨_, ns, rfl, bls_at sr e, k _ _ (ql_bl sr q)⟩
  · exact q.elim
/-- list(x), tuple(x) -/
def cList : OC := fun xs S Q => match xs with
  | [.tup ys] => ∀ p, S p = none → Q (.ref p) (supd S p (.lst ys))
  | [.ref a] => ∃ ys, RdL S a ys ∧ ∀ p, S p = none → Q (.ref p) (supd S p (.lst ys))
  | _ => False
theorem cl_list : CallL G (fun xs H Q => ∃ p ys, xs = [.ref p] ∧ (SqL G.K H p ys ∨ SqT G.K H p ys) ∧ ∀ l, H l = none → Q (.ref l) (upd H l (.lst ys))) cList := fun H S xs vs Q K sr r k q => by
  unfold cList at q
  split at q
  · obtain ⟨v, rfl, a, ws, rfl, ha, ra⟩ := reps1 r
    exact ⟨_, ws, rfl, .inr ha, fun l hl => k _ _ (ql_lst sr hl ra q)⟩
  · obtain ⟨v, rfl, rv⟩ := reps1 r
    cases rv
    obtain ⟨ys, e, q⟩ := q
    obtain ⟨ws, ha, ra⟩ := rdl_at sr e
    exact ⟨_, ws, rfl, .inl ha, fun l hl => k _ _ (ql_lst sr hl ra q)⟩
  · exact q.elim
def cTuple : OC := fun xs S Q => match xs with
  | [.tup ys] => Q (.tup ys) S
  | [.ref a] => ∃ ys, RdL S a ys ∧ Q (.tup ys) S
  | _ => False
theorem cl_tuple : CallL G (fun xs H Q => ∃ p ys, xs = [.ref p] ∧ ((SqL G.K H p ys ∧ ∀ l, H l = none → Q (.ref l) (upd H l (.tup ys))) ∨ (SqT G.K H p ys ∧ Q (.ref p) H))) cTuple := fun H S xs vs Q K sr r k q => by
  unfold cTuple at q
  split at q
  · rename_i ys
    obtain ⟨v, rfl, a, ws, rfl, ha, ra⟩ := reps1 r
    exact ⟨_, ws, rfl, .inr ⟨ha, k _ _ (ql_pure (x := .tup ys) sr ⟨a, ws, rfl, ha, ra⟩ q)⟩⟩
  · obtain ⟨v, rfl, rv⟩ := reps1 r
    cases rv
    obtain ⟨ys, e, q⟩ := q
    obtain ⟨ws, ha, ra⟩ := rdl_at sr e
    exact ⟨_, ws, rfl, .inl ⟨ha, fun l hl => k _ _ (ql_tup sr hl ra q)⟩⟩
  · exact q.elim
/-- str(n) -/
def cStr : OC := fun xs S Q => match xs with
  | [.int i] => i.natAbs.log2 < 1920 ∧ Q (.str (toString i)) S
  | _ => False
theorem cl_str : CallL G (fun xs H Q => ∃ i, xs = [.int i] ∧ i.natAbs.log2 < 1920 ∧ Q (.str (toString i)) H) cStr := fun H S xs vs Q K sr r k q => by
  unfold cStr at q
  split at q
  · obtain ⟨v, rfl, rv⟩ := reps1 r
    cases rv
    exact ⟨_, rfl, q.1, k _ _ (ql_str sr q.2)⟩
  · exact q.elim
/-- isinstance(x, c) for one built-in class: what the type of x is -/
def tyN : PV → Sto → String → Prop := fun x S n => match x with
  | .non => n = "NoneType"
  | .bl _ => n = "bool"
  | .int _ => n = "int"
  | .str _ => n = "str"
  | .tup _ => n = "tuple"
  | .ref a => (∃ ys, RdL S a ys) ∧ n = "list" ∨ (∃ kvs, S a = some (.dct kvs)) ∧ n = "dict"
  | _ => False
theorem tyN_dn {x : PV} {v : V} {n : String} (sr : SR G H S) (r : Rep G.K H x v) (h : tyN x S n) : TyX G.K H v (.type n) := by
  cases x with
  | non => cases r; obtain rfl : n = "NoneType" := h; exact .base .non
  | bl b => cases r; obtain rfl : n = "bool" := h; exact .base (.bl b)
  | int i => cases r; obtain rfl : n = "int" := h; exact .base (.int i)
  | str y => cases r; obtain rfl : n = "str" := h; exact .base (.str y)
  | tup xs =>
    obtain ⟨a, vs, rfl, ha, ra⟩ := r
    obtain rfl : n = "tuple" := h
    rcases ha with (ha | ⟨o, ha⟩) | ⟨o, its, nn, hk, hc, _⟩
    · exact .base (.tup ha)
    · exact .fTuple ha
    · exact .kTuple hk hc
  | ref a =>
    cases r
    rcases h with ⟨⟨ys, e | e⟩, rfl⟩ | ⟨⟨kvs, e⟩, rfl⟩
    · obtain ⟨vs, ha, _⟩ := sr.ok a _ e
      exact .base (.lst ha)
    · obtain ⟨vs, ha, _⟩ := sr.ok a _ e
      rcases ha with ha | ⟨o, ha⟩
      · exact .base (.lst ha)
      · exact .base (.frz ha)
    · obtain ⟨es, ha, _⟩ := sr.ok a _ e
      exact .base (.dK ha)
  | ty n => exact (show False from h).elim
def cIsi : OC := fun xs S Q => match xs with
  | [x, .ty c] => ∃ n b, tyN x S n ∧ kitB n c = some b ∧ Q (.bl b) S
  | _ => False
theorem cl_isi : CallL G (rIsi G.K) cIsi := fun H S xs vs Q K sr r k q => by
  unfold cIsi at q
  split at q
  · rename_i x c
    obtain ⟨v, u, rfl, rv, ru⟩ := reps2 r
    cases ru
    obtain ⟨n, b, h1, h2, q⟩ := q
    exact ⟨_, _, _, _, b, rfl, .ty c, tyN_dn sr rv h1, kit_ty h2, k _ _ (ql_bl sr q)⟩
  · exact q.elim
/-- sorted(x), ints -/
def cSorted : OC := fun xs S Q => match xs with
  | [.ref a] => ∃ ns : List Int, IntsAt S a ns ∧ ∀ ns' : List Int, ns'.Perm ns → ns'.Pairwise (· ≤ ·) → ∀ p, S p = none → Q (.ref p) (supd S p (.lst (ns'.map PV.int)))
  | _ => False

/-! ### subscripts -/
theorem atI_reps {K : PySem.W.Frag} {xs : List PV} {vs : List V} {i : Int} {x : PV} (r : Reps K H xs vs) (h : atI xs i = some x) : ∃ v, atI vs i = some v ∧ Rep K H x v := by
  unfold atI at h ⊢
  rw [← reps_length r]
  cases e : ixN xs.length i with
  | none => rw [e] at h; cases h
  | some j =>
    rw [e] at h
    exact reps_get r h
def oIx : O2 := fun x y S Q => match x, y with
  | .tup xs, .int i => ∃ v, atI xs i = some v ∧ Q v S
  | .ref a, .int i => ∃ xs v, RdL S a xs ∧ atI xs i = some v ∧ Q v S
  | .str z, .int i => ∃ c, z.length ≤ sizeLine ∧ atI z.cps.toList i = some c ∧ Q (.str ⟨#[c]⟩) S
  | _, _ => False
theorem opl_ix : OpL G (rIx G.K) oIx := fun H S x y v u Q K sr rx ry k q => by
  unfold oIx at q
  split at q
  · rename_i xs i
    obtain ⟨a, vs, rfl, ha, ra⟩ := rx
    cases ry
    obtain ⟨z, e, q⟩ := q
    obtain ⟨w, e2, rw⟩ := atI_reps ra e
    exact .inr (.inl ⟨a, vs, i, w, rfl, rfl, ha, e2, k _ _ (ql_pure sr rw q)⟩)
  · rename_i a i
    cases rx; cases ry
    obtain ⟨xs, z, ea, e, q⟩ := q
    obtain ⟨vs, ha, ra⟩ := rdl_at sr ea
    obtain ⟨w, e2, rw⟩ := atI_reps ra e
    exact .inl ⟨a, vs, i, w, rfl, rfl, ha, e2, k _ _ (ql_pure sr rw q)⟩
  · rename_i z i
    cases rx; cases ry
    obtain ⟨c, hz, e, q⟩ := q
    exact .inr (.inr ⟨z, i, c, rfl, rfl, hz, e, k _ _ (ql_str sr q)⟩)
  · exact q.elim
theorem je_ix {a b : Expr} {wa wb : WE} {pos : Pos} (ha : JE G X a wa) (hb : JE G X b wb) (hs : PlainIx b := by exact fun _ _ => rfl) (hK : X.K = G.K := by rfl) : JE G X (.Subscript a b pos) (wOp oIx wa wb) :=
  ⟨fun ε S Q E w σ H re sr Wx tk ex => sE_of (pe_ix (r := rIx G.K) (hK ▸ ix_seq) pe_sE pe_sE hs) (two opl_ix ha hb w re sr tk ex)⟩
/-! ### slices -/
def cutP (xs : List PV) (lo hi : Option Int) : List PV := (xs.drop (HT.sIx xs.length 0 lo)).take (HT.sIx xs.length xs.length hi - HT.sIx xs.length 0 lo)
theorem reps_cut {K : PySem.W.Frag} {xs : List PV} {vs : List V} (r : Reps K H xs vs) (lo hi : Option Int) : Reps K H (cutP xs lo hi) (cutV vs lo hi) := by
  unfold cutP cutV
  rw [reps_length r]
  exact reps_take _ (reps_drop _ r)
abbrev WO := PEnv → Sto → (Option Int → Sto → Prop) → KX → Prop
def sO (X : Cx) (e : Option Expr) : TO := fun σ H Q => ∀ pins s, Inv X pins σ H s → wpAny (model X.prog X.w) X.A (evalPart e X.env) (fun v s' => ∃ o H', Inv X pins σ H' s' ∧ IsPart v o ∧ Q o H') X.xe s
theorem sIx_all (n : Nat) : ∀ o : Option Int, HT.sIx n n o ≤ n := fun o => HT.sIx_le n n (Nat.le_refl _) o
def wNoP : WO := fun _ S Q _ => Q none S
def wPart (w : WE) : WO := fun ε S Q E => w ε S (fun x S1 => match x with
  | .int i => Q (some i) S1
  | _ => False) E
/-- a part of a slice: none, or an expression -/
inductive JO (G : Gd) (X : Cx) : Option Expr → WO → Prop
  | no : JO G X none wNoP
  | some {e : Expr} {w : WE} (h : JE G X e w) : JO G X (some e) (wPart w)
def oSl : PV → Option Int → Option Int → Sto → KE → Prop := fun x lo hi S Q => match x with
  | .tup xs => Q (.tup (cutP xs lo hi)) S
  | .ref a => ∃ xs, RdL S a xs ∧ ∀ p, S p = none → Q (.ref p) (supd S p (.lst (cutP xs lo hi)))
  | _ => False
abbrev rSlAll (K : PySem.W.Frag) : V → Option Int → Option Int → Hp → VK → Prop := fun x lo hi H Q => rSlA K x lo hi H Q ∨ rSlL K x lo hi H Q
theorem sl_dn {x : PV} {v : V} {lo hi : Option Int} {Q : KE} {K : VK} (sr : SR G H S) (r : Rep G.K H x v) (k : ∀ v H', QL G S H Q v H' → K v H') (q : oSl x lo hi S Q) : rSlAll G.K v lo hi H K := by
  unfold oSl at q
  split at q
  · rename_i xs
    obtain ⟨a, vs, rfl, ha, ra⟩ := r
    refine .inl ⟨a, vs, rfl, ha, fun h => ?_, fun h p hp => k _ _ (ql_tup sr hp (reps_cut ra lo hi) q)⟩
    have e : cutP xs lo hi = xs := by
      unfold cutP
      rw [reps_length ra, h.1, h.2]
      simp [← reps_length ra]
    rw [e] at q
    exact k _ _ (ql_pure (x := .tup xs) sr ⟨a, vs, rfl, ha, ra⟩ q)
  · rename_i a
    cases r
    obtain ⟨xs, e, q⟩ := q
    obtain ⟨vs, ha, ra⟩ := rdl_at sr e
    exact .inr ⟨a, vs, rfl, ha, fun p hp => k _ _ (ql_lst sr hp (reps_cut ra lo hi) q)⟩
  · exact q.elim
def wSl (wa : WE) (wl wh : WO) : WE := fun ε S Q E => wa ε S (fun x S1 => wl ε S1 (fun lo S2 => wh ε S2 (fun hi S3 => oSl x lo hi S3 Q) E) E) E
theorem je_sl {e : Expr} {lo hi : Option Expr} {wa : WE} {wl wh : WO} {p2 pos : Pos} (ha : JE G X e wa) (hl : JO G X lo wl) (hh : JO G X hi wh) (hK : X.K = G.K := by rfl) : JE G X (.Subscript e (.Slice lo hi none p2) pos) (wSl wa wl wh) := by
  have end_ : ∀ {ε S Q E}, wSl wa wl wh ε S Q E → ∀ σ H, Renv G.K H ε σ → SR G H S → ∀ Wx : WX, Takes X Wx → ExL G S H σ E Wx → ∃ tl th, PO X lo tl ∧ PO X hi th ∧ tSl (rSlAll G.K) (sE X e) tl th σ H (QL G S H Q) := by
    intro ε S Q E w σ H re sr Wx tk ex
    cases hl with
    | no =>
      cases hh with
      | no =>
        refine ⟨_, _, po_none, po_none, ha.dn w re sr tk ex fun v H1 ⟨x, S1, s1, sr1, r1, w1⟩ => ?_⟩
        exact sl_dn sr1 r1 (fun _ _ q => q.mono s1) w1
      | some hh =>
        refine ⟨_, _, po_none, po_some pe_sE, ha.dn w re sr tk ex fun v H1 ⟨x, S1, s1, sr1, r1, w1⟩ => ?_⟩
        refine hh.dn w1 (re.stay s1.st) sr1 tk (ex.mono s1) fun u H2 ⟨y, S2, s2, sr2, r2, w2⟩ => ?_
        dsimp only at w2
        split at w2
        · exact ⟨_, r2, sl_dn sr2 (rep_stay s2.st _ _ r1) (fun _ _ q => q.mono (s1.trans s2)) w2⟩
        · exact w2.elim
    | some hl =>
      cases hh with
      | no =>
        refine ⟨_, _, po_some pe_sE, po_none, ha.dn w re sr tk ex fun v H1 ⟨x, S1, s1, sr1, r1, w1⟩ => ?_⟩
        refine hl.dn w1 (re.stay s1.st) sr1 tk (ex.mono s1) fun u H2 ⟨y, S2, s2, sr2, r2, w2⟩ => ?_
        dsimp only at w2
        split at w2
        · exact ⟨_, r2, sl_dn sr2 (rep_stay s2.st _ _ r1) (fun _ _ q => q.mono (s1.trans s2)) w2⟩
        · exact w2.elim
      | some hh =>
        refine ⟨_, _, po_some pe_sE, po_some pe_sE, ha.dn w re sr tk ex fun v H1 ⟨x, S1, s1, sr1, r1, w1⟩ => ?_⟩
        refine hl.dn w1 (re.stay s1.st) sr1 tk (ex.mono s1) fun u H2 ⟨y, S2, s2, sr2, r2, w2⟩ => ?_
        dsimp only at w2
        split at w2
        · refine ⟨_, r2, ?_⟩
          have s12 := s1.trans s2
          refine hh.dn w2 (re.stay s12.st) sr2 tk (ex.mono s12) fun u H3 ⟨y, S3, s3, sr3, r3, w3⟩ => ?_
          dsimp only at w3
          split at w3
          · exact ⟨_, r3, sl_dn sr3 (rep_stay (s2.trans s3).st _ _ r1) (fun _ _ q => q.mono (s12.trans s3)) w3⟩
          · exact w3.elim
        · exact w2.elim
  exact ⟨fun ε S Q E w σ H re sr Wx tk ex => by
    obtain ⟨tl, th, h1, h2, q⟩ := end_ w σ H re sr Wx tk ex
    exact sE_of (pe_slice (hK ▸ (sl_tupA.or sl_list)) pe_sE h1 h2) q⟩
/-- xs[::-1], a list -/
def oRevL : PV → Sto → KE → Prop := fun x S Q => match x with
  | .ref a => ∃ xs, RdL S a xs ∧ ∀ p, S p = none → Q (.ref p) (supd S p (.lst xs.reverse))
  | _ => False
theorem reps_reverse {K : PySem.W.Frag} : ∀ {xs : List PV} {vs : List V}, Reps K H xs vs → Reps K H xs.reverse vs.reverse
  | [], _, h => by cases h; exact rfl
  | x :: xs, _, h => by
    obtain ⟨v, ws, rfl, r, rs⟩ := h
    rw [List.reverse_cons, List.reverse_cons]
    exact reps_append (reps_reverse rs) ⟨v, [], rfl, r, rfl⟩
theorem je_revL {e : Expr} {wa : WE} {k : Nat} {p1 p2 p3 pos : Pos} (ha : JE G X e wa) (hK : X.K = G.K := by rfl) : JE G X (.Subscript e (.Slice none none (some (.UnaryOp .USub (.Constant (.int 1) k p1) p2)) p3) pos) (wUn oRevL wa) :=
  ⟨fun ε S Q E w σ H re sr Wx tk ex => sE_of (pe_revL pe_sE) (by
    refine ha.dn w re sr tk ex fun v H1 ⟨x, S1, s1, sr1, r1, w1⟩ => ?_
    dsimp only [oRevL] at w1
    split at w1
    · rename_i a
      cases r1
      obtain ⟨xs, e, q⟩ := w1
      obtain ⟨vs, ha, ra⟩ := rdl_at sr1 e
      exact ⟨a, vs, rfl, hK ▸ ha, fun p hp => (ql_lst sr1 hp (reps_reverse ra) q).mono s1⟩
    · exact w1.elim)⟩
end
end L3

set_option Elab.async false
set_option linter.all false
set_option maxRecDepth 100000
set_option maxHeartbeats 4000000
namespace L3
open PySem PySem.Spec L2
open PyProof.Rows hiding St
section
variable {G : Gd} {X : Cx} {H H1 : Hp} {S S1 : Sto} {σ : L2.St} {ε : PEnv}
/-! ### targets -/
def sG (X : Cx) (tg : Expr) : TG := fun v σ H Q => ∀ pins s u, Inv X pins σ H s → RelV v u → wpAny (model X.prog X.w) X.A (assign tg X.env u) (fun _ s' => ∃ σ' H', Inv X pins σ' H' s' ∧ Q σ' H') X.xe s
theorem pg_sG {tg : Expr} : PG X tg (sG X tg) := ⟨fun pins s σ H v u Q I r h => h pins s u I r⟩
theorem sG_of {tg : Expr} {t : TG} {v : V} {Q : L2.St → Hp → Prop} (h : PG X tg t) (q : t v σ H Q) : sG X tg v σ H Q := fun pins s u I r => h.run pins s σ H v u Q I r q
theorem sG_mono {tg : Expr} {v : V} {Q Q' : L2.St → Hp → Prop} (h : sG X tg v σ H Q) (k : ∀ σ' H', Q σ' H' → Q' σ' H') : sG X tg v σ H Q' := fun pins s u I r => thn (h pins s u I r) fun _ s' ⟨σ', H', I', q⟩ => ⟨σ', H', I', k σ' H' q⟩
/-- only the slots vs are set -/
def Only (vs : List Nat) (σ σ' : L2.St) : Prop := σ'.length = σ.length ∧ ∀ k, k ∉ vs → σ'[k]? = σ[k]?
theorem Only.refl (vs : List Nat) (σ : L2.St) : Only vs σ σ := ⟨rfl, fun _ _ => rfl⟩
theorem Only.trans {vs : List Nat} {σ σ1 σ2 : L2.St} (a : Only vs σ σ1) (b : Only vs σ1 σ2) : Only vs σ σ2 := ⟨b.1.trans a.1, fun k h => (b.2 k h).trans (a.2 k h)⟩
theorem Only.wider {vs ws : List Nat} {σ σ1 : L2.St} (a : Only vs σ σ1) (h : ∀ k ∈ vs, k ∈ ws) : Only ws σ σ1 := ⟨a.1, fun k hk => a.2 k fun z => hk (h k z)⟩
theorem wipe_in {σ : L2.St} {i : Nat} : ∀ {vs : List Nat}, i ∈ vs → (wipe σ vs)[i]? = if i < σ.length then some none else none
  | v :: vs, h => by
    unfold wipe
    by_cases e : v = i
    · subst e
      by_cases hl : v < σ.length
      · rw [if_pos hl, List.getElem?_set_self (by rw [wipe_length]; exact hl)]
      · rw [if_neg hl, List.getElem?_eq_none (by rw [List.length_set, wipe_length]; omega)]
    · rw [List.getElem?_set_ne e]
      exact wipe_in (by simpa [Ne.symm e] using h)
theorem Only.wipe {vs : List Nat} {σ σ' : L2.St} (h : Only vs σ σ') : L2.wipe σ' vs = L2.wipe σ vs := by
  refine List.ext_getElem? fun i => ?_
  by_cases hi : i ∈ vs
  · rw [wipe_in hi, wipe_in hi, h.1]
  · rw [wipe_out hi, wipe_out hi, h.2 i hi]
abbrev WG := PV → PEnv → Sto → (PEnv → Sto → Prop) → Prop
structure JG (G : Gd) (X : Cx) (tg : Expr) (vs : List Nat) (g : WG) : Prop where
  run : ∀ x ε S Q, g x ε S Q → ∀ v σ H, Renv G.K H ε σ → SR G H S → Rep G.K H x v → sG X tg v σ H (fun σ' H' => Only vs σ σ' ∧ QS G S H Q σ' H')
def gN (i : Nat) : WG := fun x ε S Q => Q (ε.set i (some x)) S
theorem only_set (i : Nat) (v : Option V) (σ : L2.St) : Only [i] σ (σ.set i v) := ⟨by simp, fun k hk => by
  rw [List.getElem?_set_ne]
  simpa using fun e => hk (by simp [e])⟩
theorem jg_name {i : Nat} {x : Str} {pos : Pos} (hN : X.N.Nodup) (hi : X.N[i]? = some x) (hx : Loc X.env.scope x) (hf : X.fn x = true ∨ X.env.scope.names.lookup x = some .local := by first | exact .inl rfl | exact .inr rfl | assumption) : JG G X (.Name x pos) [i] (gN i) :=
  ⟨fun x ε S Q q v σ H re sr r => sG_of (pg_name hN hi hx hf) ⟨only_set _ _ _, _, S, .refl _ _, sr, re.set _ r, q⟩⟩
/-- several targets -/
abbrev WGs := List PV → PEnv → Sto → (PEnv → Sto → Prop) → Prop
def sGs (X : Cx) (tgs : List Expr) : TGs := fun vs σ H Q => ∀ pins s us, Inv X pins σ H s → Vals vs us → wpAny (model X.prog X.w) X.A (assignInOrder ((assignEach tgs X.env).map (·.2)) us) (fun _ s' => ∃ σ' H', Inv X pins σ' H' s' ∧ Q σ' H') X.xe s
theorem pgs_sGs {tgs : List Expr} : PGs X tgs (sGs X tgs) := ⟨fun pins s σ H vs us Q I r h => h pins s us I r⟩
theorem sGs_of {tgs : List Expr} {t : TGs} {vs : List V} {Q : L2.St → Hp → Prop} (h : PGs X tgs t) (q : t vs σ H Q) : sGs X tgs vs σ H Q := fun pins s us I r => h.run pins s σ H vs us Q I r q
structure JGs (G : Gd) (X : Cx) (tgs : List Expr) (vs : List Nat) (g : WGs) : Prop where
  run : ∀ xs ε S Q, g xs ε S Q → ∀ ws σ H, Renv G.K H ε σ → SR G H S → Reps G.K H xs ws → sGs X tgs ws σ H (fun σ' H' => Only vs σ σ' ∧ QS G S H Q σ' H')
theorem sGs_mono {tg : List Expr} {v : List V} {Q Q' : L2.St → Hp → Prop} (h : sGs X tg v σ H Q) (k : ∀ σ' H', Q σ' H' → Q' σ' H') : sGs X tg v σ H Q' := fun pins s u I r => thn (h pins s u I r) fun _ s' ⟨σ', H', I', q⟩ => ⟨σ', H', I', k σ' H' q⟩
def gNil' : WGs := fun xs ε S Q => match xs with
  | [] => Q ε S
  | _ => False
def gCons' (g : WG) (gs : WGs) : WGs := fun xs ε S Q => match xs with
  | x :: xs => g x ε S (fun ε1 S1 => gs xs ε1 S1 Q)
  | [] => False
theorem jgs_nil : JGs G X [] [] gNil' := ⟨fun xs ε S Q q ws σ H re sr r => sGs_of pgs_nil (by
  cases xs with
  | nil => cases r; exact ⟨rfl, .refl _ _, ε, S, .refl _ _, sr, re, q⟩
  | cons x xs => exact (show False from q).elim)⟩
theorem jgs_cons {e : Expr} {es : List Expr} {vs ws : List Nat} {g : WG} {gs : WGs} (h1 : JG G X e vs g) (h2 : JGs G X es ws gs) (hs : (assignEach (e :: es) X.env).map (·.2) = assign e X.env :: (assignEach es X.env).map (·.2) := by rfl) : JGs G X (e :: es) (vs ++ ws) (gCons' g gs) :=
  ⟨fun xs ε S Q q us σ H re sr r => sGs_of (pgs_cons pg_sG pgs_sGs hs) (by
    cases xs with
    | nil => exact (show False from q).elim
    | cons x xs =>
      obtain ⟨v, vr, rfl, r1, r2⟩ := r
      refine ⟨v, vr, rfl, sG_mono (h1.run x ε S _ q v σ H re sr r1) fun σ1 H1 ⟨o1, ε1, S1, s1, sr1, re1, q1⟩ => ?_⟩
      refine sGs_mono (h2.run xs ε1 S1 Q q1 vr σ1 H1 re1 sr1 (reps_stay s1.st _ _ r2)) fun σ2 H2 ⟨o2, q2⟩ => ?_
      exact ⟨(o1.wider (by simp +contextual)).trans (o2.wider (by simp +contextual)), q2.mono s1⟩)⟩
def gTup' (n : Nat) (gs : WGs) : WG := fun x ε S Q => match x with
  | .tup xs => xs.length = n ∧ gs xs ε S Q
  | _ => False
theorem jg_tup {es : List Expr} {k n : Nat} {vs : List Nat} {gs : WGs} {pos : Pos} (hc : X.calm = true) (h : JGs G X es vs gs) (hn : (assignEach es X.env).length = n := by rfl) (hst : (assignEach es X.env).findIdx? (·.1) = none := by rfl) (hK : X.K = G.K := by rfl) : JG G X (.Tuple es k pos) vs (gTup' n gs) :=
  ⟨fun x ε S Q q v σ H re sr r => sG_of (pg_tup hc pgs_sGs hn hst) (by
    unfold gTup' at q
    split at q
    · obtain ⟨a, ws, rfl, ha, ra⟩ := r
      exact ⟨a, ws, rfl, hK ▸ ha, by rw [← reps_length ra]; exact q.1, h.run _ ε S Q q.2 ws σ H re sr ra⟩
    · exact q.elim)⟩
/-- o[i] = v -/
def oSet : PV → PV → PV → Sto → (Sto → Prop) → Prop := fun o i v S Q => match o, i with
  | .ref a, .int k => ∃ xs j, S a = some (.lst xs) ∧ ixN xs.length k = some j ∧ Q (supd S a (.lst (xs.set j v)))
  | _, _ => False
def gSub' (wo wi : WE) : WG := fun x ε S Q => wo ε S (fun o S1 => wi ε S1 (fun i S2 => oSet o i x S2 (fun S3 => Q ε S3)) fun _ _ => False) fun _ _ => False
theorem exl_no {Wx : WX} : ExL G S H σ (fun _ _ => False) Wx := fun _ _ _ _ _ _ _ _ z => z.elim
theorem jg_sub {o i : Expr} {wo wi : WE} {pos : Pos} (ho : JE G X o wo) (hi : JE G X i wi)
    (ha : ∀ v, assign (.Subscript o i pos) X.env v = (do
      let ov ← holding [v] (eval o X.env)
      let iv ← holding [v, ov] (eval i X.env)
      standAt pos
      holding [v, ov, iv] (setItem ov iv v)
      release [v, ov, iv] []) := by intro _; rfl) : JG G X (.Subscript o i pos) [] (gSub' wo wi) :=
  ⟨fun x ε S Q q v σ H re sr r => sG_of (pg_sub pe_sE pe_sE set_list ha) (by
    refine ho.dn q re sr takes0 exl_no fun ov H1 ⟨ox, S1, s1, sr1, r1, w1⟩ => ?_
    refine hi.dn w1 (re.stay s1.st) sr1 takes0 exl_no fun iv H2 ⟨ix, S2, s2, sr2, r2, w2⟩ => ?_
    dsimp only [oSet] at w2
    split at w2
    · obtain ⟨xs, j, e, hj, q2⟩ := w2
      cases r1; cases r2
      obtain ⟨vs, ha, ra⟩ := lst_at sr2 e
      have s12 := s1.trans s2
      refine ⟨_, vs, _, j, rfl, rfl, ha, by rw [← reps_length ra]; exact hj, .refl _ _, ε, _, s12.trans (stp_setl e ha), sr_setl sr2 e ha (reps_set (rep_stay s12.st _ _ r) j ra), re.stay (s12.trans (stp_setl (ys := xs) (ws := vs.set j v) e ha)).st, q2⟩
    · exact w2.elim)⟩

/-! ### what is walked -/
structure Src where
  items : List PV
  keep : Sto → Prop
structure Walks (G : Gd) (S1 : Sto) (H1 : Hp) (J : It) (src : Src) : Prop where
  stop : ∀ H S, Stp S1 H1 S H → SR G H S → src.keep S → J.stop src.items.length H
  go : ∀ i x H S, Stp S1 H1 S H → SR G H S → src.keep S → src.items[i]? = some x → J.go i H ∧ ∀ v H', J.yld i H v H' → Same H H' ∧ Rep G.K H' x v
def sI (X : Cx) (tg iter : Expr) : TI := fun σ H R => ∀ pins s, Inv X pins σ H s → wpAny (model X.prog X.w) X.A (eval iter X.env) (fun v s1 => wpAny (model X.prog X.w) X.A (pyIter v) (PIE X pins σ tg R) X.xe s1) X.xe s
theorem pi_sI {tg iter : Expr} : PI X tg iter (sI X tg iter) := ⟨fun pins s σ H R I h => h pins s I⟩
theorem sI_of {tg iter : Expr} {wi : TI} {R : It → Hp → Prop} (h : PI X tg iter wi) (q : wi σ H R) : sI X tg iter σ H R := fun pins s I => h.run pins s σ H R I q
theorem sI_mono {tg iter : Expr} {R R' : It → Hp → Prop} (h : sI X tg iter σ H R) (k : ∀ J H', R J H' → R' J H') : sI X tg iter σ H R' := fun pins s I => thn (h pins s I) fun v s1 h1 => thn h1 fun itv s2 h2 => by
  obtain ⟨it, fp, tn, J, H', e, I', T, t0, f, r⟩ := h2
  exact ⟨it, fp, tn, J, H', e, I', T, t0, f, k J H' r⟩
abbrev WI := PEnv → Sto → (Src → Sto → Prop) → KX → Prop
structure JI (G : Gd) (X : Cx) (tg iter : Expr) (w : WI) : Prop where
  run : ∀ ε S (R : Src → Sto → Prop) (E : KX), w ε S R E → ∀ σ H, Renv G.K H ε σ → SR G H S → ∀ Wx : WX, Takes X Wx → ExL G S H σ E Wx → sI X tg iter σ H (fun J H1 => ∃ src S1, Stp S H S1 H1 ∧ SR G H1 S1 ∧ Walks G S1 H1 J src ∧ R src S1)
/-- a list, a tuple, a text -/
def rSeq (K : PySem.W.Frag) (tl : TE) : TI := fun σ H R => tl σ H fun x H1 => (∃ a, x = .ref a ∧ (∃ xs, SqL K H1 a xs) ∧ R (Itl K a) H1) ∨ (∃ a, x = .ref a ∧ (∃ xs, SqT K H1 a xs) ∧ R (Itt K a) H1) ∨ ∃ z, x = .str z ∧ R (Its z) H1
theorem pi_seq {tg l : Expr} {tl : TE} (hl : PE X l tl) : PI X tg l (rSeq X.K tl) := by
  refine ⟨fun pins s σ H R I h => ?_⟩
  refine thn (hl.run pins s σ H _ I h) fun v s1 ⟨x, H1, I1, r1, q1⟩ => ?_
  rcases q1 with ⟨a, e, ⟨xs, hq⟩, q⟩ | ⟨a, e, ⟨xs, hq⟩, q⟩ | ⟨z, e, q⟩
  · subst e
    cases r1
    obtain ⟨its, rv, p, hz⟩ := I1.list hq
    refine wpAny_pyIter_list p.isList ?_
    refine ⟨s1.heap.objs.size, [s1.heap.objs.size], _, _, H1, rfl, I1.kept (t' := s1.toks) fun b o e => Heap.get?_push_of_some _ e, turn_list a _, ⟨_, Heap.get?_push_size _ rfl, rfl, rfl⟩, fun b hb => ?_, q⟩
    have e : b = s1.heap.objs.size := by simpa using hb
    subst e
    exact I1.fpOk (Nat.le_refl _) (I1.hok.fresh (Nat.le_refl _))
  · subst e
    cases r1
    obtain ⟨its, rv, p, hz⟩ := I1.tuple hq
    refine wpAny_pyIter_tuple (show s1.heap.IsTuple a its.toArray from p) ?_
    refine ⟨s1.heap.objs.size, [s1.heap.objs.size], _, _, H1, rfl, I1.kept (t' := s1.toks) fun b o e => Heap.get?_push_of_some _ e, turn_tuple a _, ⟨_, Heap.get?_push_size _ rfl, rfl, rfl⟩, fun b hb => ?_, q⟩
    have e : b = s1.heap.objs.size := by simpa using hb
    subst e
    exact I1.fpOk (Nat.le_refl _) (I1.hok.fresh (Nat.le_refl _))
  · subst e
    obtain ⟨t, rfl⟩ := r1
    cases ha : z.cps.all (· < 128)
    · exact wpAny_pyIter_wide ha (pi_one (tk := s1.toks) I1 _ (turn_str _ z t "str_iterator" (.inr rfl)) ⟨_, Heap.get?_push_size _ rfl, rfl, rfl⟩ q)
    · exact wpAny_pyIter_ascii ha (pi_one (tk := s1.toks) I1 _ (turn_str _ z t "str_ascii_iterator" (.inl rfl)) ⟨_, Heap.get?_push_size _ rfl, rfl, rfl⟩ q)

def signs (z : Str) : List PV := z.cps.toList.map fun c => .str ⟨#[c]⟩
def oIter : PV → Sto → (Src → Sto → Prop) → Prop := fun x S R => match x with
  | .tup xs => R ⟨xs, fun _ => True⟩ S
  | .ref a => ∃ xs, RdL S a xs ∧ R ⟨xs, fun S => RdL S a xs⟩ S
  | .str z => R ⟨signs z, fun _ => True⟩ S
  | _ => False
def iSeq (w : WE) : WI := fun ε S R E => w ε S (fun x S1 => oIter x S1 R) E
theorem ji_seq {tg e : Expr} {w : WE} (h : JE G X e w) (hK : X.K = G.K := by rfl) : JI G X tg e (iSeq w) :=
  ⟨fun ε S R E q σ H re sr Wx tk ex => sI_of (pi_seq pe_sE) (by
    refine h.dn q re sr tk ex fun v H1 ⟨x, S1, s1, sr1, r1, w1⟩ => ?_
    dsimp only [oIter] at w1
    split at w1
    · rename_i xs
      obtain ⟨a, vs, rfl, ha, ra⟩ := r1
      refine .inr (.inl ⟨a, rfl, ⟨vs, hK ▸ ha⟩, _, S1, s1, sr1, ⟨fun H S st _ _ => ⟨vs, hK ▸ st.st.sq ha, by rw [← reps_length ra]; exact Nat.le_refl _⟩, fun i x H S st _ _ hx => ?_⟩, w1⟩)
      obtain ⟨v, hv, rv⟩ := reps_get ra hx
      refine ⟨⟨vs, v, hK ▸ st.st.sq ha, hv⟩, fun u H' ⟨e, y⟩ => ?_⟩
      subst e
      have := y vs (hK ▸ st.st.sq ha)
      rw [hv] at this
      cases this
      exact ⟨.refl _, rep_stay st.st _ _ rv⟩
    · rename_i a
      cases r1
      obtain ⟨xs, e, w1⟩ := w1
      obtain ⟨vs, ha, ra⟩ := rdl_at sr1 e
      refine .inl ⟨a, rfl, ⟨vs, hK ▸ ha⟩, _, S1, s1, sr1, ⟨fun H S st sr kp => ?_, fun i x H S st sr kp hx => ?_⟩, w1⟩
      · obtain ⟨vs, ha, ra⟩ := rdl_at sr kp
        exact ⟨vs, hK ▸ ha, by rw [← reps_length ra]; exact Nat.le_refl _⟩
      · obtain ⟨vs, ha, ra⟩ := rdl_at sr kp
        obtain ⟨v, hv, rv⟩ := reps_get ra hx
        refine ⟨⟨vs, v, hK ▸ ha, hv⟩, fun u H' ⟨e, y⟩ => ?_⟩
        subst e
        have := y vs (hK ▸ ha)
        rw [hv] at this
        cases this
        exact ⟨.refl _, rv⟩
    · rename_i z
      cases r1
      refine .inr (.inr ⟨z, rfl, _, S1, s1, sr1, ⟨fun H S st sr kp => ?_, fun i x H S st sr kp hx => ?_⟩, w1⟩)
      · show z.cps.size ≤ (signs z).length
        simp [signs]
      · have hx : (signs z)[i]? = some x := hx
        unfold signs at hx
        rw [List.getElem?_map] at hx
        cases hc : z.cps.toList[i]? with
        | none => rw [hc] at hx; cases hx
        | some c =>
          rw [hc] at hx
          have ex : PV.str ⟨#[c]⟩ = x := Option.some.inj hx
          subst ex
          have hi : i < z.cps.size := by
            have := (List.getElem?_eq_some_iff.mp hc).1
            simpa using this
          refine ⟨hi, fun u H' ⟨e, c', hc', eu⟩ => ?_⟩
          subst e
          refine ⟨.refl _, ?_⟩
          rw [eu]
          have : z.cps[i]? = some c := by rw [← Array.getElem?_toList]; exact hc
          rw [this] at hc'
          cases hc'
          rfl
    · exact w1.elim)⟩
/-- range(n), range(a, b) -/
def rangeP (lo : Int) (n : Nat) : List PV := (List.range n).map fun i => .int (lo + (i : Nat))
theorem walks_range {lo : Int} {n : Nat} : Walks G S1 H1 (Itr lo n) ⟨rangeP lo n, fun _ => True⟩ :=
  ⟨fun H S _ _ _ => by show n ≤ (rangeP lo n).length; simp [rangeP], fun i x H S _ _ _ hx => by
    have hx : (rangeP lo n)[i]? = some x := hx
    unfold rangeP at hx
    rw [List.getElem?_map] at hx
    by_cases hi : i < n
    · rw [List.getElem?_range hi] at hx
      have e : PV.int (lo + (i : Nat)) = x := Option.some.inj hx
      subst e
      exact ⟨hi, fun v H' ⟨e, ev⟩ => ⟨e ▸ .refl _, ev⟩⟩
    · rw [List.getElem?_eq_none (by simpa using hi)] at hx
      cases hx⟩
def iRange1 (w : WE) : WI := fun ε S R E => w ε S (fun x S1 => match x with
  | .int j => -(2 ^ 62) ≤ j ∧ j < 2 ^ 62 ∧ R ⟨rangeP 0 j.toNat, fun _ => True⟩ S1
  | _ => False) E
theorem ji_range1 {tg a : Expr} {w : WE} {p pos : Pos} (hg : Gl X "range") (hm : X.mg "range" = none) (h : JE G X a w) (hs : starEach [a] X.env = [(false, eval a X.env)] := by rfl) (hs2 : starEach [a] X.env = (false, eval a X.env) :: starEach [] X.env := by rfl) : JI G X tg (.Call (.Name "range" p) [a] [] pos) (iRange1 w) :=
  ⟨fun ε S R E q σ H re sr Wx tk ex => sI_of (pi_range1 hg hm (pa_cons pe_sE pa_nil hs2) hs) (by
    refine h.dn q re sr tk ex fun v H1 ⟨x, S1, s1, sr1, r1, w1⟩ => ?_
    dsimp only at w1
    split at w1
    · rename_i j
      cases r1
      exact ⟨j, rfl, w1.1, w1.2.1, _, S1, s1, sr1, walks_range, w1.2.2⟩
    · exact w1.elim)⟩
def iRange2 (wa wb : WE) : WI := fun ε S R E => wa ε S (fun x S1 => wb ε S1 (fun y S2 => match x, y with
  | .int i, .int j => (-(2 ^ 62) ≤ i ∧ i < 2 ^ 62 ∧ -(2 ^ 62) ≤ j ∧ j < 2 ^ 62) ∧ R ⟨rangeP i (j - i).toNat, fun _ => True⟩ S2
  | _, _ => False) E) E
theorem ji_range2 {tg a b : Expr} {wa wb : WE} {p pos : Pos} (hg : Gl X "range") (hm : X.mg "range" = none) (ha : JE G X a wa) (hb : JE G X b wb) (hs : starEach [a, b] X.env = [(false, eval a X.env), (false, eval b X.env)] := by rfl) (hs2 : starEach [b] X.env = [(false, eval b X.env)] := by rfl)
    (hs3 : starEach [a, b] X.env = (false, eval a X.env) :: starEach [b] X.env := by rfl) (hs4 : starEach [b] X.env = (false, eval b X.env) :: starEach [] X.env := by rfl) : JI G X tg (.Call (.Name "range" p) [a, b] [] pos) (iRange2 wa wb) :=
  ⟨fun ε S R E q σ H re sr Wx tk ex => sI_of (pi_range2 hg hm (pa_cons pe_sE (pa_cons pe_sE pa_nil hs4) hs3) hs hs2) (by
    refine ha.dn q re sr tk ex fun v H1 ⟨x, S1, s1, sr1, r1, w1⟩ => ?_
    refine hb.dn w1 (re.stay s1.st) sr1 tk (ex.mono s1) fun u H2 ⟨y, S2, s2, sr2, r2, w2⟩ => ?_
    dsimp only at w2
    split at w2
    · cases r1; cases r2
      exact ⟨_, _, rfl, w2.1, _, S2, s1.trans s2, sr2, walks_range, w2.2⟩
    · exact w2.elim)⟩
def rangeC (lo c : Int) (n : Nat) : List PV := (List.range n).map fun i => .int (lo + (i : Nat) * c)
theorem walks_rangeC {lo c : Int} {n : Nat} : Walks G S1 H1 (Itc lo c n) ⟨rangeC lo c n, fun _ => True⟩ :=
  ⟨fun H S _ _ _ => by show n ≤ (rangeC lo c n).length; simp [rangeC], fun i x H S _ _ _ hx => by
    have hx : (rangeC lo c n)[i]? = some x := hx
    unfold rangeC at hx
    rw [List.getElem?_map] at hx
    by_cases hi : i < n
    · rw [List.getElem?_range hi] at hx
      have e : PV.int (lo + (i : Nat) * c) = x := Option.some.inj hx
      subst e
      exact ⟨hi, fun v H' ⟨e, ev⟩ => ⟨e ▸ .refl _, ev⟩⟩
    · rw [List.getElem?_eq_none (by simpa using hi)] at hx
      cases hx⟩
def iRange3 (wa wb wc : WE) : WI := fun ε S R E => wa ε S (fun x S1 => wb ε S1 (fun y S2 => wc ε S2 (fun z S3 => match x, y, z with
  | .int i, .int j, .int c => ∃ n, RgC i j c n ∧ R ⟨rangeC i c n, fun _ => True⟩ S3
  | _, _, _ => False) E) E) E
end
/-! ### comprehensions -/
section
variable {G : Gd} {X : Cx} {H H1 : Hp} {S S1 : Sto} {σ : L2.St} {ε : PEnv}
def wipeP (ε : PEnv) : List Nat → PEnv
  | [] => ε
  | v :: vs => (wipeP ε vs).set v none
theorem Renv.wipe {K : PySem.W.Frag} (h : Renv K H ε σ) : ∀ vs : List Nat, Renv K H (wipeP ε vs) (L2.wipe σ vs)
  | [] => h
  | v :: vs => (Renv.wipe h vs).unset v
/-- an untracked list is written -/
theorem SR.hid {D : Addr} {vs ws : List V} (h : SR G H S) (n : S D = none) (e : H D = some (.lst vs)) : SR G (upd H D (.lst ws)) S ∧ Stay H (upd H D (.lst ws)) := by
  have stay : Stay H (upd H D (.lst ws)) := fun b xs r => by
    have nb : b ≠ D := fun z => by
      rcases r with r | ⟨v, r⟩
      · rw [z, e] at r; cases r
      · rw [z, e] at r; cases r
    rcases r with r | ⟨v, r⟩
    · exact .inl (by rw [upd_ne nb]; exact r)
    · exact .inr ⟨v, by rw [upd_ne nb]; exact r⟩
  refine ⟨⟨fun b o q => ?_, fun q hq => ?_, fun q hq => ?_, fun q hq => (h.cp q hq).stay stay⟩, stay⟩
  rotate_right
  · exact ⟨by rw [upd_ne (fun z => by have r := (h.fx q hq).1; rw [z, e] at r; cases r)]; exact (h.fx q hq).1, (h.fx q hq).2⟩
  · have nb : b ≠ D := fun z => by rw [z, n] at q; cases q
    refine (h.ok b o q).keep stay (fun u r => by rw [upd_ne nb]; exact r) fun c ec => ⟨ec, fun u r => ?_⟩
    rw [upd_ne (fun z => by rw [z, n] at ec; cases ec)]
    exact r
  · obtain ⟨ps, e1, e2, e3⟩ := h.tb q hq
    refine ⟨ps, by rw [upd_ne (fun z => by rw [z, e] at e1; cases e1)]; exact e1, e2, fun pos cv hc => ?_⟩
    obtain ⟨c, f1, f2⟩ := e3 pos cv hc
    exact ⟨c, f1, by rw [upd_ne (fun z => by rw [z, e] at f2; cases f2)]; exact f2⟩
/-- it is tracked from now on -/
theorem SR.track {D : Addr} {xs : List PV} {vs : List V} (h : SR G H S) (n : S D = none) (e : H D = some (.lst vs)) (r : Reps G.K H xs vs) : SR G H (supd S D (.lst xs)) := by
  refine ⟨fun b o q => ?_, h.tb, fun q hq => ⟨(h.fx q hq).1, by rw [supd_ne (fun z => by have r := (h.fx q hq).1; rw [z, e] at r; cases r)]; exact (h.fx q hq).2⟩, h.cp⟩
  by_cases hb : b = D
  · subst hb; rw [supd_same] at q; cases q; exact ⟨vs, e, r⟩
  · rw [supd_ne hb] at q
    refine (h.ok b o q).keep (.refl _) (fun u r => r) fun c ec => ⟨?_, fun u r => r⟩
    rw [supd_ne (fun z => by rw [z, n] at ec; cases ec)]
    exact ec
def wYes : WT := fun _ S Q _ => Q true S
/-- the turns of a comprehension: the items, the list so far -/
def lcW (keep : Sto → Prop) (g : WG) (wt : WT) (we : WE) (ε : PEnv) (K : List PV → Sto → Prop) : List PV → List PV → Sto → Prop
  | [], acc, S => keep S ∧ K acc S
  | x :: xs, acc, S => keep S ∧ g x ε S fun ε2 S2 => wt ε2 S2 (fun b S3 => if b = true then we ε2 S3 (fun y S4 => acc.length < sizeLine ∧ lcW keep g wt we ε K xs (acc ++ [y]) S4) (fun _ _ => False) else lcW keep g wt we ε K xs acc S3) fun _ _ => False
def wLc (wi : WI) (g : WG) (wt : WT) (we : WE) (vs : List Nat) : WE := fun ε S Q E => wi ε S (fun src S1 => lcW src.keep g wt we (wipeP ε vs) (fun acc S2 => ∀ D, S2 D = none → Q (.ref D) (supd S2 D (.lst acc))) src.items [] S1) E
theorem lcW_keep {keep : Sto → Prop} {g : WG} {wt : WT} {we : WE} {K : List PV → Sto → Prop} {xs acc : List PV} (h : lcW keep g wt we ε K xs acc S) : keep S := by
  cases xs with
  | nil => exact h.1
  | cons x xs => exact h.1
/-- the block's contexts -/
abbrev Blk (X : Cx) (scope : Scope) (P : Cx → Prop) : Prop := ∀ (s : Shared) (H : Hp) (C : Addr) (cl : List (Str × Addr)) (fp : List Addr), P (X.blk s H scope (compEnvC scope cl C X.env) fp)
theorem lc_dn {elt tg iter : Expr} {scope : Scope} {vs : List Nat} {wi : WI} {g : WG} {wt : WT} {we : WE} {tt : TT} (hi : JI G X tg iter wi) (hg : Blk X scope fun Y => JG G Y tg vs g)
    (ht : ∀ σ H ε S (Q : Bool → Sto → Prop) (K : Bool → Hp → Prop), Renv G.K H ε σ → SR G H S → wt ε S Q (fun _ _ => False) → (∀ b H', QT G S H Q b H' → K b H') → tt σ H K)
    (he : Blk X scope fun Y => JE G Y elt we) {Q : KE} {E : KX} {K : VK} (w : wLc wi g wt we vs ε S Q E) (re : Renv G.K H ε σ) (sr : SR G H S) {Wx : WX} (tk : Takes X Wx) (ex : ExL G S H σ E Wx) (k : ∀ v H', QL G S H Q v H' → K v H') :
    tLc (sI X tg iter) (fun v σ H Q => Blk X scope fun Y => sG Y tg v σ H Q) tt (fun σ H Q => Blk X scope fun Y => sE Y elt σ H Q) vs σ H K := by
  refine sI_mono (hi.run ε S _ E w σ H re sr Wx tk ex) fun J H1 ⟨src, S1, s1, sr1, wk, w1⟩ => ?_
  intro D hD
  have rw1 := (re.wipe vs).stay s1.st
  refine ⟨fun i m H' => m = src.items.length - i ∧ i ≤ src.items.length ∧ ∃ S' acc av, Stp S1 H1 S' H' ∧ SR G H' S' ∧ S' D = none ∧ H' D = some (.lst av) ∧ Reps G.K H' acc av ∧
      lcW src.keep g wt we (wipeP ε vs) (fun acc S2 => ∀ D, S2 D = none → Q (.ref D) (supd S2 D (.lst acc))) (src.items.drop i) acc S', ⟨_, rfl, Nat.zero_le _, S1, [], [], .same (same_upd hD), sr1.same (same_upd hD), sr1.free hD, upd_same, rfl, by simpa using w1⟩, ?_⟩
  rintro i m H' ⟨rfl, hi, S', acc, av, st, sr', nD, eD, ra, w'⟩
  have kp := lcW_keep w'
  by_cases hlt : i < src.items.length
  · right
    have hx : src.items[i]? = some src.items[i] := List.getElem?_eq_getElem hlt
    obtain ⟨go, yl⟩ := wk.go i _ H' S' st sr' kp hx
    rw [List.drop_eq_getElem_cons hlt] at w'
    refine ⟨go, _, fun H2 p => ⟨_, by omega, rfl, hlt, p⟩, fun v H2 y => ?_⟩
    obtain ⟨sm, rv⟩ := yl v H2 y
    have st2 := st.trans (Stp.same sm)
    have sr2 := sr'.same sm
    have eD2 := sm _ _ eD
    have ra2 := reps_stay (.of sm) _ _ ra
    intro s0 H0 C cl fp
    refine sG_mono ((hg s0 H0 C cl fp).run _ _ S' _ w'.2 v _ H2 (rw1.stay st2.st) sr2 rv) fun σ3 H3 ⟨on, ε3, S3, s3, sr3, re3, w3⟩ => ⟨on.wipe.trans (by
      rw [show L2.wipe (L2.wipe σ vs) vs = L2.wipe σ vs from (Only.wipe (vs := vs) (σ := σ) (σ' := L2.wipe σ vs) ⟨wipe_length _ _, fun k hk => wipe_out hk⟩)]), ?_⟩
    refine ht σ3 H3 ε3 S3 _ _ re3 sr3 w3 fun b H4 ⟨S4, s4, sr4, w4⟩ => ?_
    have eD4 := (s3.trans s4).fr D _ nD eD2 (fun _ z => by cases z)
    have ra4 := reps_stay (s3.trans s4).st _ _ ra2
    have st4 := st2.trans (s3.trans s4)
    cases b with
    | false =>
      rw [if_neg Bool.false_ne_true] at w4 ⊢
      exact ⟨S4, acc, av, st4, sr4, eD4.2, eD4.1, ra4, w4⟩
    | true =>
      rw [if_pos rfl] at w4 ⊢
      intro s0 H0 C cl fp
      refine (he s0 H0 C cl fp).dn w4 (re3.stay s4.st) sr4 takes0 exl_no fun y H5 ⟨y', S5, s5, sr5, r5, hz, w5⟩ => ?_
      have eD5 := s5.fr D _ eD4.2 eD4.1 (fun _ z => by cases z)
      have ra5 := reps_stay s5.st _ _ ra4
      obtain ⟨srh, sth⟩ := sr5.hid (ws := av ++ [y]) eD5.2 eD5.1
      have hD1 : H1 D = none := hD
      refine ⟨av, eD5.1, by rw [← reps_length ra5]; exact hz, S5, acc ++ [y'], av ++ [y], ?_, srh, eD5.2, upd_same, reps_append (reps_stay sth _ _ ra5) ⟨y, [], rfl, rep_stay sth _ _ r5, rfl⟩, w5⟩
      have st5 := st4.trans s5
      exact ⟨st5.st.trans sth, fun a o n e tt => by
        obtain ⟨e1, n1⟩ := st5.fr a o n e tt
        exact ⟨by rw [upd_ne (ne_of_none e hD1)]; exact e1, n1⟩⟩
  · left
    have e : i = src.items.length := by omega
    subst e
    refine ⟨wk.stop H' S' st sr' kp, ?_⟩
    rw [List.drop_eq_nil_of_le (Nat.le_refl _)] at w'
    have fin := w'.2 D nD
    refine k _ _ ⟨.ref D, _, s1.trans ⟨st.st, fun a o n e tt => ?_⟩, sr'.track nD eD ra, rfl, fin⟩
    obtain ⟨e1, n1⟩ := st.fr a o n e tt
    exact ⟨e1, by rw [supd_ne (ne_of_none e hD)]; exact n1⟩
theorem je_lc0 {elt tg iter : Expr} {scope : Scope} {own : List (Str × Nat)} {pos : Pos} {wi : WI} {g : WG} {we : WE} (hc : X.calm = true) (hN : X.N.Nodup) (hi : JI G X tg iter wi) (ok : BlkOk X.N X.env.scope scope own) (hg : Blk X scope fun Y => JG G Y tg (own.map (·.2)) g)
    (he : Blk X scope fun Y => JE G Y elt we) (hs : ∀ x, foldedSetIterable iter X.env x = pure x := by intro _; rfl) : JE G X (.ListComp elt [⟨tg, iter, [], 0⟩] scope pos) (wLc wi g wYes we (own.map (·.2))) :=
  ⟨fun ε S Q E w σ H re sr Wx tk ex => sE_of (pe_lc hc hN pi_sI ok (fun s H C cl fp => ⟨fun pins s' σ H v u Q I r h => h s _ C cl fp pins s' u I r⟩) (fun _ _ _ _ _ => pts_nil) (fun s H C cl fp => ⟨fun pins s' σ H Q I h => h s _ C cl fp pins s' I⟩) hs)
    (lc_dn hi hg (fun σ H ε S Q K re sr w k => k _ _ ⟨S, .refl _ _, sr, w⟩) he w re sr tk ex fun _ _ q => q)⟩
theorem je_lc1 {elt tg iter c : Expr} {scope : Scope} {own : List (Str × Nat)} {pos : Pos} {wi : WI} {g : WG} {wt : WT} {we : WE} (hc : X.calm = true) (hN : X.N.Nodup) (hi : JI G X tg iter wi) (ok : BlkOk X.N X.env.scope scope own) (hg : Blk X scope fun Y => JG G Y tg (own.map (·.2)) g)
    (ht : Blk X scope fun Y => JT G Y c wt) (he : Blk X scope fun Y => JE G Y elt we) (hs : ∀ x, foldedSetIterable iter X.env x = pure x := by intro _; rfl) : JE G X (.ListComp elt [⟨tg, iter, [c], 0⟩] scope pos) (wLc wi g wt we (own.map (·.2))) :=
  ⟨fun ε S Q E w σ H re sr Wx tk ex => sE_of (pe_lc hc hN pi_sI ok (fun s H C cl fp => ⟨fun pins s' σ H v u Q I r h => h s _ C cl fp pins s' u I r⟩) (fun s H C cl fp => pts_one (t := fun σ H Q => Blk X scope fun Y => sT Y c σ H Q) ⟨fun pins s' σ H Q I h => h s _ C cl fp pins s' I⟩) (fun s H C cl fp => ⟨fun pins s' σ H Q I h => h s _ C cl fp pins s' I⟩) hs)
    (lc_dn hi hg (fun σ H ε S Q K re sr w k s0 H0 C cl fp => (ht s0 H0 C cl fp).dn w re sr takes0 exl_no k) he w re sr tk ex fun _ _ q => q)⟩
end
end L3

set_option Elab.async false
set_option linter.all false
set_option maxRecDepth 100000
set_option maxHeartbeats 4000000
namespace L3
open PySem PySem.Spec L2
open PyProof.Rows hiding St
section
variable {G : Gd} {X : Cx} {H H1 : Hp} {S S1 : Sto} {σ : L2.St} {ε : PEnv}
theorem JS.dn {st : Stmt} {w : WS} (h : JS G X st w) {D : PD} {K : Ends} (q : w D ε S) (re : Renv G.K H ε σ) (sr : SR G H S) {Wx : WX} (tk : Takes X Wx) (ex : ExS G S H D.ex Wx) (k : EndsLe (EndsL G S H D) K) : sS X st K σ H := sS_mono (h.run D ε S q σ H re sr Wx tk ex) k
theorem JSs.dn {st : List Stmt} {w : WS} (h : JSs G X st w) {D : PD} {K : Ends} (q : w D ε S) (re : Renv G.K H ε σ) (sr : SR G H S) {Wx : WX} (tk : Takes X Wx) (ex : ExS G S H D.ex Wx) (k : EndsLe (EndsL G S H D) K) : sSs X st K σ H := sSs_mono (h.run D ε S q σ H re sr Wx tk ex) k
/-! ### blocks -/
def wNext : WS := fun D ε S => D.nx ε S
def wSeq (a b : WS) : WS := fun D ε S => a { D with nx := b D } ε S
/-- less is known -/
def wSub (w : WS) : WS := fun D ε S => ∃ ε' S', Le ε' ε ∧ Sub S' S ∧ w D ε' S'
theorem jss_nil : JSs G X [] wNext := ⟨fun D ε S q σ H re sr Wx tk ex => sSs_of pss_nil ⟨ε, S, .refl _ _, sr, re, q⟩⟩
theorem jss_one {st : Stmt} {w : WS} (h : JS G X st w) : JSs G X [st] w := ⟨fun D ε S q σ H re sr Wx tk ex => sSs_of (pss_one ps_sS) (h.run D ε S q σ H re sr Wx tk ex)⟩
theorem jss_cons {st : Stmt} {rest : List Stmt} {a b : WS} (ha : JS G X st a) (hb : JSs G X rest b) : JSs G X (st :: rest) (wSeq a b) :=
  ⟨fun D ε S q σ H re sr Wx tk ex => sSs_of (pss_cons ps_sS pss_sSs) (by
    refine ha.dn (D := { D with nx := b D }) q re sr tk ex ⟨fun σ1 H1 ⟨ε1, S1, s1, sr1, re1, q1⟩ => ?_, fun _ _ q => q, fun _ _ q => q, fun _ _ q => q⟩
    exact hb.dn q1 re1 sr1 tk (ex.mono s1) (EndsL.mono s1 D))⟩
theorem jss_sub {sts : List Stmt} {w : WS} (h : JSs G X sts w) : JSs G X sts (wSub w) := ⟨fun D ε S ⟨ε', S', l, sb, q⟩ σ H re sr Wx tk ex => by
  have pre : ∀ {S2 : Sto} {H2 : Hp}, Stp S' H S2 H2 → Stp S H S2 H2 := fun st => st.pre sb
  refine h.dn q (re.le l) (sr.sub sb) tk (fun n ε2 S2 cls d σ2 H2 st => ex n ε2 S2 cls d σ2 H2 (pre st)) ⟨?_, ?_, ?_, ?_⟩
  · exact fun _ _ ⟨e, s, st, r⟩ => ⟨e, s, pre st, r⟩
  · exact fun _ _ ⟨e, s, st, r⟩ => ⟨e, s, pre st, r⟩
  · exact fun _ _ ⟨e, s, st, r⟩ => ⟨e, s, pre st, r⟩
  · exact fun _ _ ⟨e, s, st, r⟩ => ⟨e, s, pre st, r⟩⟩
/-! ### small statements -/
def wBreak : WS := fun D ε S => D.bk ε S
def wCont : WS := fun D ε S => D.ct ε S
theorem js_pass {pos : Pos} : JS G X (.Pass pos) wNext := ⟨fun D ε S q σ H re sr Wx tk ex => sS_of ps_pass ⟨ε, S, .refl _ _, sr, re, q⟩⟩
theorem js_break {pos : Pos} : JS G X (.Break pos) wBreak := ⟨fun D ε S q σ H re sr Wx tk ex => sS_of ps_break ⟨ε, S, .refl _ _, sr, re, q⟩⟩
theorem js_continue {pos : Pos} : JS G X (.Continue pos) wCont := ⟨fun D ε S q σ H re sr Wx tk ex => sS_of ps_continue ⟨ε, S, .refl _ _, sr, re, q⟩⟩
def wAsg (w : WE) (g : WG) : WS := fun D ε S => w ε S (fun x S1 => g x ε S1 D.nx) (fun n S1 => D.ex n ε S1)
abbrev wSet (i : Nat) (w : WE) : WS := wAsg w (gN i)
theorem asg_end {tg : Expr} {vs : List Nat} {g : WG} {D : PD} {x : PV} {v : V} (hg : JG G X tg vs g) (s1 : Stp S H S1 H1) (re : Renv G.K H ε σ) (sr : SR G H1 S1) (r : Rep G.K H1 x v) (q : g x ε S1 D.nx) : sG X tg v σ H1 (EndsL G S H D).nx :=
  sG_mono (hg.run x ε S1 D.nx q v σ H1 (re.stay s1.st) sr r) fun _ _ ⟨_, q⟩ => q.mono s1
theorem js_asg {tg e : Expr} {vs : List Nat} {w : WE} {g : WG} {pos : Pos} (he : JE G X e w) (hg : JG G X tg vs g) (hs : swapsWithSole [tg] e pos.line X.env = pure false := by rfl) (hw : swappedStores [tg] e X.env = pure none := by rfl)
    (h1 : (assignEach [tg] X.env).map (·.2) = [assign tg X.env] := by rfl) : JS G X (.Assign [tg] e pos) (wAsg w g) :=
  ⟨fun D ε S q σ H re sr Wx tk ex => sS_of (ps_asg pe_sE pg_sG hs hw h1) (he.dn q re sr tk (ex.ofL re) fun v H1 ⟨x, S1, s1, sr1, r1, q1⟩ => asg_end hg s1 re sr1 r1 q1)⟩
theorem js_set {i : Nat} {x : Str} {e : Expr} {w : WE} {pos pos' : Pos} (hN : X.N.Nodup) (hi : X.N[i]? = some x) (hx : Loc X.env.scope x) (he : JE G X e w) (hs : swapsWith e (some (.Name x pos')) pos.line X.env = pure false := by rfl) (hf : X.fn x = true ∨ X.env.scope.names.lookup x = some .local := by first | exact .inl rfl | exact .inr rfl | assumption) :
    JS G X (.Assign [.Name x pos'] e pos) (wSet i w) :=
  ⟨fun D ε S q σ H re sr Wx tk ex => sS_of (ps_set hN hi hx pe_sE hs hf) (he.dn q re sr tk (ex.ofL re) fun v H1 ⟨y, S1, s1, sr1, r1, q1⟩ => ⟨_, S1, s1, sr1, (re.stay s1.st).set i r1, q1⟩)⟩
theorem js_setLc0 {i : Nat} {y : Str} {py : Pos} {elt tg iter : Expr} {scope : Scope} {own : List (Str × Nat)} {pos spos : Pos} {wi : WI} {g : WG} {we : WE} (hc : X.calm = true) (hN : X.N.Nodup) (hy : X.N[i]? = some y) (hyl : X.env.scope.names.lookup y = some .local)
    (hsw : swapsWith (.ListComp elt [⟨tg, iter, [], 0⟩] scope pos) (some (.Name y py)) spos.line X.env = pure true) (hi : JI G X tg iter wi) (ok : BlkOk X.N X.env.scope scope own) (hg : Blk X scope fun Y => JG G Y tg (own.map (·.2)) g) (he : Blk X scope fun Y => JE G Y elt we)
    (hs : ∀ x, foldedSetIterable iter X.env x = pure x := by intro _; rfl) : JS G X (.Assign [.Name y py] (.ListComp elt [⟨tg, iter, [], 0⟩] scope pos) spos) (wSet i (wLc wi g wYes we (own.map (·.2)))) :=
  ⟨fun D ε S w σ H re sr Wx tk ex => sS_of (ps_setLc hc hN hy hyl hsw pi_sI ok (fun s H C cl fp => ⟨fun pins s' σ H v u Q I r h => h s _ C cl fp pins s' u I r⟩) (fun _ _ _ _ _ => pts_nil) (fun s H C cl fp => ⟨fun pins s' σ H Q I h => h s _ C cl fp pins s' I⟩) hs)
    (lc_dn hi hg (fun σ H ε S Q K re sr w k => k _ _ ⟨S, .refl _ _, sr, w⟩) he w re sr tk (ex.ofL re) fun v H1 ⟨x, S1, s1, sr1, r1, q1⟩ => ⟨_, S1, s1, sr1, (re.stay s1.st).set i r1, q1⟩)⟩
theorem js_setLc1 {i : Nat} {y : Str} {py : Pos} {elt tg iter c : Expr} {scope : Scope} {own : List (Str × Nat)} {pos spos : Pos} {wi : WI} {g : WG} {wt : WT} {we : WE} (hc : X.calm = true) (hN : X.N.Nodup) (hy : X.N[i]? = some y) (hyl : X.env.scope.names.lookup y = some .local)
    (hsw : swapsWith (.ListComp elt [⟨tg, iter, [c], 0⟩] scope pos) (some (.Name y py)) spos.line X.env = pure true) (hi : JI G X tg iter wi) (ok : BlkOk X.N X.env.scope scope own) (hg : Blk X scope fun Y => JG G Y tg (own.map (·.2)) g) (ht : Blk X scope fun Y => JT G Y c wt) (he : Blk X scope fun Y => JE G Y elt we)
    (hs : ∀ x, foldedSetIterable iter X.env x = pure x := by intro _; rfl) : JS G X (.Assign [.Name y py] (.ListComp elt [⟨tg, iter, [c], 0⟩] scope pos) spos) (wSet i (wLc wi g wt we (own.map (·.2)))) :=
  ⟨fun D ε S w σ H re sr Wx tk ex => sS_of (ps_setLc hc hN hy hyl hsw pi_sI ok (fun s H C cl fp => ⟨fun pins s' σ H v u Q I r h => h s _ C cl fp pins s' u I r⟩) (fun s H C cl fp => pts_one (t := fun σ H Q => Blk X scope fun Y => sT Y c σ H Q) ⟨fun pins s' σ H Q I h => h s _ C cl fp pins s' I⟩) (fun s H C cl fp => ⟨fun pins s' σ H Q I h => h s _ C cl fp pins s' I⟩) hs)
    (lc_dn hi hg (fun σ H ε S Q K re sr w k s0 H0 C cl fp => (ht s0 H0 C cl fp).dn w re sr takes0 exl_no k) he w re sr tk (ex.ofL re) fun v H1 ⟨x, S1, s1, sr1, r1, q1⟩ => ⟨_, S1, s1, sr1, (re.stay s1.st).set i r1, q1⟩)⟩
/-- a, b = x, y -/
def wPar (i j : Nat) (w : WA) : WS := fun D ε S => w ε S (fun xs S1 => match xs with
  | [x, y] => D.nx ((ε.set i (some x)).set j (some y)) S1
  | _ => False) (fun n S1 => D.ex n ε S1)
theorem js_par {i j : Nat} {x y : Str} {a b : Expr} {w : WA} {px py pt pos : Pos} {kt k2 pt2} (hc : X.calm = true) (hN : X.N.Nodup) (hi : X.N[i]? = some x) (hj : X.N[j]? = some y) (hij : i ≠ j)
    (hx : X.env.scope.names.lookup x = some .local) (hy : X.env.scope.names.lookup y = some .local) (ha : JA G X [a, b] w)
    (hw : swappedStores [.Tuple [.Name x px, .Name y py] kt pt] (.Tuple [a, b] k2 pt2) X.env = pure (some [x, y]))
    (hs : swapsWithSole [.Tuple [.Name x px, .Name y py] kt pt] (.Tuple [a, b] k2 pt2) pos.line X.env = pure false := by rfl) :
    JS G X (.Assign [.Tuple [.Name x px, .Name y py] kt pt] (.Tuple [a, b] k2 pt2) pos) (wPar i j w) :=
  ⟨fun D ε S q σ H re sr Wx tk ex => sS_of (ps_par hc hN hi hj hij hx hy pa_sA hw hs) (by
    refine ha.dn q re sr tk (ex.ofL re) fun vs H1 ⟨xs, S1, s1, sr1, r1, q1⟩ => ?_
    dsimp only at q1
    split at q1
    · obtain ⟨v, u, rfl, rv, ru⟩ := reps2 r1
      exact ⟨v, u, rfl, _, S1, s1, sr1, ((re.stay s1.st).set i rv).set j ru, q1⟩
    · exact q1.elim)⟩
def wPar3 (i j l : Nat) (w : WA) : WS := fun D ε S => w ε S (fun xs S1 => match xs with
  | [x, y, z] => D.nx (((ε.set i (some x)).set j (some y)).set l (some z)) S1
  | _ => False) (fun n S1 => D.ex n ε S1)
theorem js_par3 {i j l : Nat} {x y z : Str} {a b c : Expr} {w : WA} {px py pz pt pos : Pos} {kt k2 pt2} (hc : X.calm = true) (hN : X.N.Nodup) (hi : X.N[i]? = some x) (hj : X.N[j]? = some y) (hl : X.N[l]? = some z) (hij : i ≠ j) (hil : i ≠ l) (hjl : j ≠ l)
    (hx : X.env.scope.names.lookup x = some .local) (hy : X.env.scope.names.lookup y = some .local) (hz : X.env.scope.names.lookup z = some .local) (ha : JA G X [a, b, c] w)
    (hw : swappedStores [.Tuple [.Name x px, .Name y py, .Name z pz] kt pt] (.Tuple [a, b, c] k2 pt2) X.env = pure (some [x, y, z]))
    (hs : swapsWithSole [.Tuple [.Name x px, .Name y py, .Name z pz] kt pt] (.Tuple [a, b, c] k2 pt2) pos.line X.env = pure false := by rfl) :
    JS G X (.Assign [.Tuple [.Name x px, .Name y py, .Name z pz] kt pt] (.Tuple [a, b, c] k2 pt2) pos) (wPar3 i j l w) :=
  ⟨fun D ε S q σ H re sr Wx tk ex => sS_of (ps_par3 hc hN hi hj hl hij hil hjl hx hy hz pa_sA hw hs) (by
    refine ha.dn q re sr tk (ex.ofL re) fun vs H1 ⟨xs, S1, s1, sr1, r1, q1⟩ => ?_
    dsimp only at q1
    split at q1
    · obtain ⟨v, ws, rfl, rv, rs⟩ := r1
      obtain ⟨u, t, rfl, ru, rt⟩ := reps2 rs
      exact ⟨v, u, t, rfl, _, S1, s1, sr1, (((re.stay s1.st).set i rv).set j ru).set l rt, q1⟩
    · exact q1.elim)⟩
def wExpr (w : WE) : WS := fun D ε S => w ε S (fun _ S1 => D.nx ε S1) (fun n S1 => D.ex n ε S1)
theorem js_expr {e : Expr} {w : WE} {pos : Pos} (he : JE G X e w) (hs : swapsWith e none pos.line X.env = pure false := by rfl) : JS G X (.Expr e pos) (wExpr w) :=
  ⟨fun D ε S q σ H re sr Wx tk ex => sS_of (ps_expr pe_sE hs) (he.dn q re sr tk (ex.ofL re) fun v H1 ⟨x, S1, s1, sr1, r1, q1⟩ => ⟨ε, S1, s1, sr1, re.stay s1.st, q1⟩)⟩
def wRet (w : WE) : WS := fun D ε S => w ε S D.rt (fun n S1 => D.ex n ε S1)
theorem js_ret {e : Expr} {w : WE} {pos : Pos} (he : JE G X e w) : JS G X (.Return (some e) pos) (wRet w) :=
  ⟨fun D ε S q σ H re sr Wx tk ex => sS_of (ps_ret pe_sE) (he.dn q re sr tk (ex.ofL re) fun _ _ q => q)⟩
def wRetN : WS := fun D _ S => D.rt .non S
theorem js_retN {pos : Pos} : JS G X (.Return none pos) wRetN := ⟨fun D ε S q σ H re sr Wx tk ex => sS_of ps_retN (ql_non sr q)⟩
def wIf (t : WT) (a b : WS) : WS := fun D ε S => t ε S (fun c S1 => if c = true then a D ε S1 else b D ε S1) (fun n S1 => D.ex n ε S1)
theorem js_if {c : Expr} {as bs : List Stmt} {t : WT} {a b : WS} {pos : Pos} (hc : JT G X c t) (ha : JSs G X as a) (hb : JSs G X bs b) : JS G X (.If c as bs pos) (wIf t a b) :=
  ⟨fun D ε S q σ H re sr Wx tk ex => sS_of (ps_if pt_sT pss_sSs pss_sSs) (by
    refine hc.dn q re sr tk (ex.ofL re) fun d H1 ⟨S1, s1, sr1, q1⟩ => ?_
    cases d with
    | true => exact ha.dn q1 (re.stay s1.st) sr1 tk (ex.mono s1) (EndsL.mono s1 D)
    | false => exact hb.dn q1 (re.stay s1.st) sr1 tk (ex.mono s1) (EndsL.mono s1 D))⟩
def wNever : WS := fun _ _ _ => False
theorem js_never {st : Stmt} : JS G X st wNever := ⟨fun _ _ _ q => q.elim⟩
theorem jss_never {st : List Stmt} : JSs G X st wNever := ⟨fun _ _ _ q => q.elim⟩

/-! ### loops -/
/-- the turns of a for: the items that are left -/
def forW (keep : Sto → Prop) (g : WG) (body : WS) (D : PD) : List PV → PEnv → Sto → Prop
  | [], ε, S => keep S ∧ D.nx ε S
  | x :: xs, ε, S => keep S ∧ g x ε S fun ε1 S1 => body { nx := fun ε2 S2 => ∃ ε3 S3, Le ε3 ε2 ∧ Sub S3 S2 ∧ forW keep g body D xs ε3 S3, rt := D.rt, bk := D.nx, ct := fun ε2 S2 => ∃ ε3 S3, Le ε3 ε2 ∧ Sub S3 S2 ∧ forW keep g body D xs ε3 S3, ex := D.ex } ε1 S1
def wFor (wi : WI) (g : WG) (body : WS) : WS := fun D ε S => wi ε S (fun src S1 => forW src.keep g body D src.items ε S1) (fun n S1 => D.ex n ε S1)
theorem forW_keep {keep : Sto → Prop} {g : WG} {body : WS} {D : PD} {xs : List PV} (h : forW keep g body D xs ε S) : keep S := by
  cases xs with
  | nil => exact h.1
  | cons x xs => exact h.1
theorem js_for {tg iter : Expr} {body : List Stmt} {vs : List Nat} {wi : WI} {g : WG} {wb : WS} {pos : Pos} (hp : PassesOwn (model X.prog X.w) X.A X.env X.xe) (hc : X.calm = true) (hi : JI G X tg iter wi) (hg : JG G X tg vs g) (hb : JSs G X body wb)
    (hs : ∀ x, foldedSetIterable iter X.env x = pure x := by intro _; rfl) : JS G X (.For tg iter body [] pos) (wFor wi g wb) :=
  ⟨fun D ε S q σ H re sr Wx tk ex => sS_of (ps_for hp hc pi_sI pg_sG pss_sSs hs) (by
    refine sI_mono (hi.run ε S _ _ q σ H re sr Wx tk (ex.ofL re)) fun J H1 ⟨src, S1, s1, sr1, wk, w1⟩ => ?_
    refine ⟨fun i m σ' H' => m = src.items.length - i ∧ i ≤ src.items.length ∧ ∃ ε' S', Stp S1 H1 S' H' ∧ SR G H' S' ∧ Renv G.K H' ε' σ' ∧ forW src.keep g wb D (src.items.drop i) ε' S',
      ⟨_, rfl, Nat.zero_le _, ε, S1, .refl _ _, sr1, re.stay s1.st, by simpa using w1⟩, ?_⟩
    rintro i m σ' H' ⟨rfl, hle, ε', S', st, sr', re', w'⟩
    have kp := forW_keep w'
    have sx := s1.trans st
    by_cases hlt : i < src.items.length
    · right
      have hx : src.items[i]? = some src.items[i] := List.getElem?_eq_getElem hlt
      obtain ⟨go, yl⟩ := wk.go i _ H' S' st sr' kp hx
      rw [List.drop_eq_getElem_cons hlt] at w'
      refine ⟨go, _, fun σ2 H2 p => ⟨_, by omega, rfl, hlt, p⟩, fun v H2 y => ?_⟩
      obtain ⟨sm, rv⟩ := yl v H2 y
      have st2 := st.trans (Stp.same sm)
      refine sG_mono (hg.run _ ε' S' _ w'.2 v σ' H2 (re'.stay (.of sm)) (sr'.same sm) rv) fun σ3 H3 ⟨on, ε3, S3, s3, sr3, re3, w3⟩ => ?_
      have st3 := st2.trans s3
      have sx3 := s1.trans st3
      have again : ∀ {σ4 : L2.St} {H4 : Hp}, QS G S3 H3 (fun ε2 S2 => ∃ ε3 S3, Le ε3 ε2 ∧ Sub S3 S2 ∧ forW src.keep g wb D (src.items.drop (i + 1)) ε3 S3) σ4 H4 →
          ∃ ε' S', Stp S1 H1 S' H4 ∧ SR G H4 S' ∧ Renv G.K H4 ε' σ4 ∧ forW src.keep g wb D (src.items.drop (i + 1)) ε' S' := fun {σ4 H4} ⟨ε4, S4, s4, sr4, re4, ε5, S5, le, sb, w5⟩ =>
        ⟨ε5, S5, (st3.trans s4).sub sb, sr4.sub sb, re4.le le, w5⟩
      exact hb.dn w3 re3 sr3 tk (ex.mono sx3) ⟨fun _ _ q => again q, fun _ _ q => q.mono sx3, fun _ _ q => q.mono sx3, fun _ _ q => again q⟩
    · left
      have e : i = src.items.length := by omega
      subst e
      refine ⟨wk.stop H' S' st sr' kp, ?_⟩
      rw [List.drop_eq_nil_of_le (Nat.le_refl _)] at w'
      exact ⟨ε', S', sx, sr', re', w'.2⟩)⟩
def wWhile (c : WT) (body : WS) : WS := fun D ε S => ∃ P : Nat → PEnv → Sto → Prop, (∃ m, P m ε S) ∧ ∀ m ε S, P m ε S →
  c ε S (fun b S1 => if b = true then body { nx := fun ε2 S2 => ∃ m' ε3 S3, m' < m ∧ Le ε3 ε2 ∧ Sub S3 S2 ∧ P m' ε3 S3, rt := D.rt, bk := D.nx, ct := fun ε2 S2 => ∃ m' ε3 S3, m' < m ∧ Le ε3 ε2 ∧ Sub S3 S2 ∧ P m' ε3 S3, ex := D.ex } ε S1 else D.nx ε S1) (fun n S1 => D.ex n ε S1)
theorem js_while {c : Expr} {body : List Stmt} {wc : WT} {wb : WS} {pos : Pos} (hp : PassesOwn (model X.prog X.w) X.A X.env X.xe) (hc : JT G X c wc) (hb : JSs G X body wb) : JS G X (.While c body [] pos) (wWhile wc wb) :=
  ⟨fun D ε S ⟨P, ⟨m0, p0⟩, turn⟩ σ H re sr Wx tk ex => sS_of (ps_while hp pt_sT pss_sSs) (by
    refine ⟨fun m σ' H' => ∃ ε' S', Stp S H S' H' ∧ SR G H' S' ∧ Renv G.K H' ε' σ' ∧ P m ε' S', ⟨m0, ε, S, .refl _ _, sr, re, p0⟩, ?_⟩
    rintro m σ' H' ⟨ε', S', st, sr', re', p⟩
    refine hc.dn (turn m ε' S' p) re' sr' tk ((ex.mono st).ofL re') fun b H2 ⟨S2, s2, sr2, w2⟩ => ?_
    have st2 := st.trans s2
    cases b with
    | true =>
      rw [if_pos rfl] at w2 ⊢
      refine ⟨fun σ4 H4 => ∃ m', m' < m ∧ ∃ ε' S', Stp S H S' H4 ∧ SR G H4 S' ∧ Renv G.K H4 ε' σ4 ∧ P m' ε' S', fun σ4 H4 ⟨m', lt, q⟩ => ⟨m', lt, q⟩, ?_⟩
      have again : ∀ {σ4 : L2.St} {H4 : Hp}, QS G S2 H2 (fun ε2 S2 => ∃ m' ε3 S3, m' < m ∧ Le ε3 ε2 ∧ Sub S3 S2 ∧ P m' ε3 S3) σ4 H4 → ∃ m', m' < m ∧ ∃ ε' S', Stp S H S' H4 ∧ SR G H4 S' ∧ Renv G.K H4 ε' σ4 ∧ P m' ε' S' :=
        fun {σ4 H4} ⟨ε4, S4, s4, sr4, re4, m', ε5, S5, lt, le, sb, w5⟩ => ⟨m', lt, ε5, S5, (st2.trans s4).sub sb, sr4.sub sb, re4.le le, w5⟩
      exact hb.dn w2 (re'.stay s2.st) sr2 tk (ex.mono st2) ⟨fun _ _ q => again q, fun _ _ q => q.mono st2, fun _ _ q => q.mono st2, fun _ _ q => again q⟩
    | false =>
      rw [if_neg Bool.false_ne_true] at w2 ⊢
      exact ⟨ε', S2, st2, sr2, re'.stay s2.st, w2⟩)⟩
/-! ### raise -/
section
variable {C : Addr} {bmB : List Value} {B newId initId : String}
theorem pmk_own0 {x : Str} {p pos : Pos} (F : ExcBaseFacts B newId initId bmB) (q : PySem.W.excIn X.K C bmB newId = true) (gC : X.mg x = some (.ref C)) (kC : PySem.W.keepIn X.K (.ref C) = true) (r : Raises X (.ref C)) (hg : Gl X x)
    (hdb : (x == ("__debug__" : Str)) = false := by decide) : PMk X (.Call (.Name x p) [] [] pos) (fun _ H Q => Q (.ref C) none H) := by
  intro pins s σ H Q I h
  refine wpAny_Call_Name_kw (ld_glob I hg gC ?_ hdb)
  refine PySem.W.callWith_K0 I.kIn kC ?_
  show wpAny _ _ (call (.ref C) []) _ _ _
  obtain ⟨bm, N, nm, qn, bs, hdct, sn, sub, ab, col, dd, k0, k1, k2, k3, k5, mN, hC, hN, hni, T⟩ := exc_obj I.kIn q
  refine wpAny_call_exc_subT F T hC hN hni (fun h' e hm => ?_) (by show 0 ≤ sizeLine; exact Nat.zero_le _)
  exact mk_of I hm r h (I.hok.gone hm.new)
end
/-- an own class of error: at C -/
structure ExcT (G : Gd) (mg : Str → Option Value) (x : Str) (C : Addr) : Prop where
  ec : G.ec x = some C
  ei : PySem.W.excIn G.K C [.type "ValueError", .type "Exception", .type "BaseException", .type "object"] "ValueError.__new__" = true
  mg : mg x = some (.ref C)
  kp : PySem.W.keepIn G.K (.ref C) = true
  sb : PySem.W.subIn G.K (.ref C) (.type "BaseException") = some true
  ty : PySem.W.typeIn G.K (.ref C) = some (.type "type")
def wRaise (x : Str) : WS := fun D ε S => D.ex ⟨x, none⟩ ε S
theorem js_raise {x : Str} {C : Addr} {p pos pos' : Pos} (hc : X.calm = true) (T : ExcT G X.mg x C) (hg : Gl X x) (hdb : (x == ("__debug__" : Str)) = false := by decide) (hK : X.K = G.K := by rfl) : JS G X (.Raise (some (.Call (.Name x p) [] [] pos)) none pos') (wRaise x) :=
  ⟨fun D ε S q σ H re sr Wx tk ex => sS_of (ps_raise hc tk (pmk_own0 PySem.F.excBase_ValueError (hK ▸ T.ei) T.mg (hK ▸ T.kp) (raises_own (hK ▸ T.sb) (hK ▸ T.ty)) hg hdb)) (ex ⟨x, none⟩ ε S _ _ σ H (.refl _ _) sr re ⟨C, T.ec, rfl, rfl⟩ q)⟩
end
end L3

set_option Elab.async false
set_option linter.all false
set_option maxRecDepth 100000
set_option maxHeartbeats 4000000
namespace L3
open PySem PySem.Spec L2
open PyProof.Rows hiding St
section
variable {G : Gd} {X : Cx} {H H1 : Hp} {S S1 : Sto} {σ : L2.St} {ε : PEnv}
/-! ### methods of built-in types -/
def tyP (x : PV) (S : Sto) (T : String) : Prop := match x with
  | .str _ => T = "str"
  | .ref a => T = "list" ∧ ∃ xs, RdL S a xs
  | _ => False
theorem tyP_dn {x : PV} {v : V} {T : String} (sr : SR G H S) (r : Rep G.K H x v) (h : tyP x S T) : tyV G.K T v H := by
  cases x with
  | str y => cases r; exact h
  | ref a =>
    cases r
    obtain ⟨e, xs, h⟩ := h
    obtain ⟨vs, ha, _⟩ := rdl_at sr h
    exact .inl ⟨e, vs, ha⟩
  | _ => exact (show False from h).elim
abbrev OM := PV → List PV → Sto → KE → Prop
def MtL (G : Gd) (r : V → List V → Hp → VK → Prop) (o : OM) : Prop := ∀ H S x xs v vs Q (K : VK), SR G H S → Rep G.K H x v → Reps G.K H xs vs → (∀ v H', QL G S H Q v H' → K v H') → o x xs S Q → r v vs H K
def wBM0 (T : String) (o : OM) (wo : WE) : WE := fun ε S Q E => wo ε S (fun x S1 => tyP x S1 T ∧ o x [] S1 Q) E
def wBM (T : String) (o : OM) (wo : WE) (wa : WA) : WE := fun ε S Q E => wo ε S (fun x S1 => tyP x S1 T ∧ wa ε S1 (fun xs S2 => o x xs S2 Q) E) E
section
variable {o e : Expr} {es : List Expr} {wo : WE} {wa : WA} {name : Str} {apos cpos : Pos} {T id : String} {r : V → List V → Hp → VK → Prop} {om : OM}
theorem je_bm0 (pa : PlainAttrs T) (slot : Slot T name id) (hty : typeOf (.builtin id) = pure (.type "method_descriptor")) (hm : MtR X id r) (L : MtL G r om) (ho : JE G X o wo)
    (hbase : attributeBase o name X.env (eval o X.env) = eval o X.env := by rfl) (hline : (apos.endLine == cpos.line) = true := by rfl) (hK : X.K = G.K := by rfl) : JE G X (.Call (.Attribute o name apos) [] [] cpos) (wBM0 T om wo) :=
  ⟨fun ε S Q E w σ H re sr Wx tk ex => sE_of (pe_bm0 pa slot hty hm pe_sE hbase hline) (by
    refine ho.dn w re sr tk ex fun v H1 ⟨x, S1, s1, sr1, r1, ty, w1⟩ => ?_
    exact ⟨hK ▸ tyP_dn sr1 r1 ty, L H1 S1 x [] v [] Q _ sr1 r1 rfl (fun _ _ q => q.mono s1) w1⟩)⟩
theorem je_bm (pa : PlainAttrs T) (slot : Slot T name id) (hty : typeOf (.builtin id) = pure (.type "method_descriptor")) (hm : MtR X id r) (L : MtL G r om) (ho : JE G X o wo) (ha : JA G X (e :: es) wa)
    (hbase : attributeBase o name X.env (eval o X.env) = eval o X.env := by rfl)
    (hfew : ((backTo cpos (starEach (e :: es) X.env)).all (fun x => !x.1) && (backToKw cpos (keywordEach [] X.env)).all (fun x => x.1.isSome)
      && decide ((e :: es).length + ([] : List Keyword).length + (if ([] : List Keyword).isEmpty then 0 else 1) < 30)) = true := by rfl)
    (hline : (apos.endLine == cpos.line) = true := by rfl) (hs : starEach (e :: es) X.env = (false, eval e X.env) :: starEach es X.env := by rfl) (hplain : (backTo cpos (starEach es X.env)).any (·.1) = false := by rfl) (hK : X.K = G.K := by rfl) :
    JE G X (.Call (.Attribute o name apos) (e :: es) [] cpos) (wBM T om wo wa) :=
  ⟨fun ε S Q E w σ H re sr Wx tk ex => sE_of (pe_bm pa slot hty hm pe_sE pa_sA hbase hfew hline hs hplain) (by
    refine ho.dn w re sr tk ex fun v H1 ⟨x, S1, s1, sr1, r1, ty, w1⟩ => ?_
    refine ⟨hK ▸ tyP_dn sr1 r1 ty, ?_⟩
    refine ha.dn w1 (re.stay s1.st) sr1 tk (ex.mono s1) fun vs H2 ⟨xs, S2, s2, sr2, r2, w2⟩ => ?_
    exact L H2 S2 x xs v vs Q _ sr2 (rep_stay s2.st _ _ r1) r2 (fun _ _ q => q.mono (s1.trans s2)) w2)⟩
end
theorem reps_one {K : PySem.W.Frag} {x : PV} {v : V} (r : Rep K H x v) : Reps K H [x] [v] := ⟨v, [], rfl, r, rfl⟩
/-- a list is written by its method; the answer x -/
theorem ql_set {Q : KE} {xs ys : List PV} {vs ws : List V} {a : Addr} {x : PV} {v : V} (sr : SR G H S) (e : S a = some (.lst xs)) (hv : H a = some (.lst vs)) (r : Reps G.K H ys ws) (rx : Rep G.K H x v) (q : Q x (supd S a (.lst ys))) : QL G S H Q v (upd H a (.lst ws)) :=
  ⟨x, _, stp_setl e hv, sr_setl sr e hv r, rep_stay (stp_setl (ys := ys) (ws := ws) e hv).st _ _ rx, q⟩
def mAppend : OM := fun x xs S Q => match x, xs with
  | .ref a, [y] => ∃ ys, S a = some (.lst ys) ∧ ys.length < sizeLine ∧ Q .non (supd S a (.lst (ys ++ [y])))
  | _, _ => False
theorem ml_append : MtL G rAppend mAppend := fun H S x xs v vs Q K sr rx r k q => by
  unfold mAppend at q
  split at q
  · obtain ⟨w, rfl, rw⟩ := reps1 r
    cases rx
    obtain ⟨ys, e, hz, q⟩ := q
    obtain ⟨us, hu, ru⟩ := lst_at sr e
    exact ⟨_, us, w, rfl, rfl, hu, by rw [← reps_length ru]; exact hz, k _ _ (ql_set (x := .non) sr e hu (reps_append ru (reps_one rw)) rfl q)⟩
  · exact q.elim
theorem je_append {o e : Expr} {wo : WE} {wa : WA} {apos cpos : Pos} (ho : JE G X o wo) (ha : JA G X [e] wa) (hbase : attributeBase o "append" X.env (eval o X.env) = eval o X.env := by rfl)
    (hfew : ((backTo cpos (starEach [e] X.env)).all (fun x => !x.1) && (backToKw cpos (keywordEach [] X.env)).all (fun x => x.1.isSome)
      && decide ([e].length + ([] : List Keyword).length + (if ([] : List Keyword).isEmpty then 0 else 1) < 30)) = true := by rfl)
    (hline : (apos.endLine == cpos.line) = true := by rfl) (hs : starEach [e] X.env = (false, eval e X.env) :: starEach [] X.env := by rfl) (hplain : (backTo cpos (starEach [] X.env)).any (·.1) = false := by rfl) (hK : X.K = G.K := by rfl) :
    JE G X (.Call (.Attribute o "append" apos) [e] [] cpos) (wBM "list" mAppend wo wa) := je_bm PySem.F.plainAttrs_list PySem.F.slot_list_append PySem.F.type_list_append mt_append ml_append ho ha hbase hfew hline hs hplain hK
def mExtend : OM := fun x xs S Q => match x, xs with
  | .ref a, [.ref b] => ∃ ys zs, S a = some (.lst ys) ∧ S b = some (.lst zs) ∧ ys.length + zs.length ≤ sizeLine ∧ Q .non (supd S a (.lst (ys ++ zs)))
  | _, _ => False
theorem ml_extend : MtL G rExtend mExtend := fun H S x xs v vs Q K sr rx r k q => by
  unfold mExtend at q
  split at q
  · obtain ⟨w, rfl, rw⟩ := reps1 r
    cases rx; cases rw
    obtain ⟨ys, zs, e, e2, hz, q⟩ := q
    obtain ⟨us, hu, ru⟩ := lst_at sr e
    obtain ⟨ws, hw, rw⟩ := lst_at sr e2
    exact ⟨_, _, us, ws, rfl, rfl, hu, hw, by rw [← reps_length ru, ← reps_length rw]; exact hz, k _ _ (ql_set (x := .non) sr e hu (reps_append ru rw) rfl q)⟩
  · exact q.elim
def mPop : OM := fun x xs S Q => match x, xs with
  | .ref a, [] => ∃ ys y, S a = some (.lst ys) ∧ ys[ys.length - 1]? = some y ∧ Q y (supd S a (.lst ys.dropLast))
  | _, _ => False
theorem ml_pop : MtL G rPop mPop := fun H S x xs v vs Q K sr rx r k q => by
  unfold mPop at q
  split at q
  · cases rx; cases r
    obtain ⟨ys, y, e, ey, q⟩ := q
    obtain ⟨us, hu, ru⟩ := lst_at sr e
    obtain ⟨w, hw, rw⟩ := reps_get ru ey
    exact ⟨_, us, w, rfl, rfl, hu, by rw [← reps_length ru]; exact hw, k _ _ (ql_set sr e hu (reps_dropLast ru) rw q)⟩
  · exact q.elim
/-- flat values -/
def flatP : PV → Bool
  | .non => true
  | .bl _ => true
  | .int _ => true
  | .str _ => true
  | _ => false
def toV : PV → V
  | .non => .non
  | .bl b => .bl b
  | .int i => .int i
  | .str x => .str x
  | .ref a => .ref a
  | .ty n => .ty n
  | .tup _ => .non
def eqP (x y : PV) : Bool := eqV (toV x) (toV y)
theorem flat_rep {K : PySem.W.Frag} {x : PV} {v : V} (f : flatP x = true) (r : Rep K H x v) : v = toV x ∧ flatV v = true := by
  cases x with
  | non => cases r; exact ⟨rfl, rfl⟩
  | bl _ => cases r; exact ⟨rfl, rfl⟩
  | int _ => cases r; exact ⟨rfl, rfl⟩
  | str _ => cases r; exact ⟨rfl, rfl⟩
  | _ => cases f
theorem flat_reps {K : PySem.W.Frag} : ∀ {xs : List PV} {vs : List V}, xs.all flatP = true → Reps K H xs vs → vs = xs.map toV ∧ vs.all flatV = true
  | [], _, _, r => by cases r; exact ⟨rfl, rfl⟩
  | x :: xs, _, f, r => by
    obtain ⟨v, ws, rfl, r1, r2⟩ := r
    rw [List.all_cons, Bool.and_eq_true] at f
    obtain ⟨e1, f1⟩ := flat_rep f.1 r1
    obtain ⟨e2, f2⟩ := flat_reps f.2 r2
    exact ⟨by rw [e1, e2]; rfl, by rw [List.all_cons, f1, f2]; rfl⟩
/-- x in xs, not in -/
def oInN (neg : Bool) : O2 := fun x y S Q => match x, y with
  | .str i, .str j => Q (.bl (neg ^^ !(Builtin.Str.occurrences j i 0 j.length 1).isEmpty)) S
  | x, .tup xs => flatP x = true ∧ xs.all flatP = true ∧ Q (.bl (neg ^^ xs.any fun y => eqP y x)) S
  | x, .ref a => ∃ xs, RdL S a xs ∧ flatP x = true ∧ xs.all flatP = true ∧ Q (.bl (neg ^^ xs.any fun y => eqP y x)) S
  | _, _ => False
theorem inV_map {x : PV} {xs : List PV} : inV (toV x) (xs.map toV) = xs.any fun y => eqP y x := by
  unfold inV eqP
  rw [List.any_map]; rfl
abbrev rInAll (K : PySem.W.Frag) : R2 := fun x y H Q => (∃ i j, x = V.str i ∧ y = .str j ∧ Q (.bl (!(Builtin.Str.occurrences j i 0 j.length 1).isEmpty)) H) ∨ rIn K false x y H Q
abbrev rNinAll (K : PySem.W.Frag) : R2 := fun x y H Q => (∃ i j, x = V.str i ∧ y = .str j ∧ Q (.bl (!(!(Builtin.Str.occurrences j i 0 j.length 1).isEmpty))) H) ∨ rIn K true x y H Q
theorem in_seq {neg : Bool} {x : PV} {v u : V} {xs : List PV} {vs : List V} {a : Addr} {Q : KE} {K : VK} (sr : SR G H S) (rx : Rep G.K H x v) (hu : u = .ref a) (hs : SqL G.K H a vs ∨ SqT G.K H a vs) (rv : Reps G.K H xs vs) (k : ∀ v H', QL G S H Q v H' → K v H') (fx : flatP x = true) (fs : xs.all flatP = true)
    (q : Q (.bl (neg ^^ xs.any fun y => eqP y x)) S) : rIn G.K neg v u H K := by
  obtain ⟨e1, f1⟩ := flat_rep fx rx
  obtain ⟨e2, f2⟩ := flat_reps fs rv
  refine ⟨a, vs, hu, hs, f1, f2, k _ _ (ql_bl sr ?_)⟩
  rw [e1, e2, inV_map]
  cases neg <;> simpa using q
theorem opl_in : OpL G (rInAll G.K) (oInN false) := fun H S x y v u Q K sr rx ry k q => by
  unfold oInN at q
  split at q
  · cases rx; cases ry
    exact .inl ⟨_, _, rfl, rfl, k _ _ (ql_bl sr (by simpa using q))⟩
  · obtain ⟨a, vs, rfl, ha, ra⟩ := ry
    exact .inr (in_seq sr rx rfl (.inr ha) ra k q.1 q.2.1 q.2.2)
  · cases ry
    obtain ⟨xs, e, h1, h2, q⟩ := q
    obtain ⟨vs, ha, ra⟩ := rdl_at sr e
    exact .inr (in_seq sr rx rfl (.inl ha) ra k h1 h2 q)
  · exact q.elim
theorem opl_nin : OpL G (rNinAll G.K) (oInN true) := fun H S x y v u Q K sr rx ry k q => by
  unfold oInN at q
  split at q
  · cases rx; cases ry
    exact .inl ⟨_, _, rfl, rfl, k _ _ (ql_bl sr (by simpa using q))⟩
  · obtain ⟨a, vs, rfl, ha, ra⟩ := ry
    exact .inr (in_seq sr rx rfl (.inr ha) ra k q.1 q.2.1 q.2.2)
  · cases ry
    obtain ⟨xs, e, h1, h2, q⟩ := q
    obtain ⟨vs, ha, ra⟩ := rdl_at sr e
    exact .inr (in_seq sr rx rfl (.inl ha) ra k h1 h2 q)
  · exact q.elim
theorem je_in {a b : Expr} {wa wb : WE} {pos : Pos} (ha : JE G X a wa) (hb : JE G X b wb) (hm : behindInMarks .In b = false := by rfl) (hK : X.K = G.K := by rfl) : JE G X (.Compare a [.In] [b] pos) (wOp (oInN false) wa wb) := je_cmp (op_in_str.or (hK ▸ op_in_seq)) opl_in ha hb hm
theorem je_nin {a b : Expr} {wa wb : WE} {pos : Pos} (ha : JE G X a wa) (hb : JE G X b wb) (hm : behindInMarks .NotIn b = false := by rfl) (hK : X.K = G.K := by rfl) : JE G X (.Compare a [.NotIn] [b] pos) (wOp (oInN true) wa wb) := je_cmp (op_notin_str.or (hK ▸ op_notIn_seq)) opl_nin ha hb hm
theorem jt_in {a b : Expr} {wa wb : WE} {pos : Pos} (ha : JE G X a wa) (hb : JE G X b wb) (hm : behindInMarks .In b = false := by rfl) (hK : X.K = G.K := by rfl) : JT G X (.Compare a [.In] [b] pos) (wTest (wOp (oInN false) wa wb)) := jt_cmp (op_in_str.or (hK ▸ op_in_seq)) opl_in ha hb hm
theorem jt_nin {a b : Expr} {wa wb : WE} {pos : Pos} (ha : JE G X a wa) (hb : JE G X b wb) (hm : behindInMarks .NotIn b = false := by rfl) (hK : X.K = G.K := by rfl) : JT G X (.Compare a [.NotIn] [b] pos) (wTest (wOp (oInN true) wa wb)) := jt_cmp (op_notin_str.or (hK ▸ op_notIn_seq)) opl_nin ha hb hm
/-- list.count of flat things -/
def rCntF (K : PySem.W.Frag) : V → List V → Hp → VK → Prop := fun x xs H Q => ∃ (p : Addr) (ys : List V) (y : V), x = .ref p ∧ xs = [y] ∧ SqL K H p ys ∧ flatV y = true ∧ ys.all flatV = true ∧ Q (.int ((ys.countP fun z => eqV z y) : Nat)) H
theorem countP_eqU {x : V} : ∀ {xs : List V} {us : List Value}, Vals xs us → xs.all flatV = true → us.countP (eqU x) = xs.countP fun y => eqV y x
  | _, _, .nil, _ => rfl
  | y :: xs, u :: us, .cons r t, f => by
    rw [List.all_cons, Bool.and_eq_true] at f
    rw [List.countP_cons, List.countP_cons, eqU_of r f.1, countP_eqU t f.2]
theorem mt_countF : MtR X "list.count" (rCntF X.K) := by
  intro pins s σ H x xs v us Q I rx rxs h
  obtain ⟨p, ys, y, rfl, rfl, hs, fy, fs, q⟩ := h
  cases rx
  obtain ⟨u, rfl, ru⟩ := rxs.one
  obtain ⟨its, rv, ⟨⟨cls, dd, data, sl⟩, n, ho, hc, hdn, hd⟩, hlen⟩ := I.list hs
  simp only at hc hd
  subst hc hd
  refine call_meets PySem.F.slot_list_count ⟨_, ho, rfl⟩ PySem.F.entry_list_count (PySem.F.args_list_count_2 _ _)
    (SeqAt.list_countAt p its.toArray n dd sl u (eqU y)) ⟨ho, fun w hw => mem_eqAt ru fy rv fs w (by simpa using hw), ?_⟩
  have ec : its.toArray.toList.countP (eqU y) = ys.countP fun z => eqV z y := countP_eqU rv fs
  refine ⟨.int ((ys.countP fun z => eqV z y) : Nat), H, I.tok _, ⟨s.toks, ?_⟩, q⟩
  rw [ec]
def mCount : OM := fun x xs S Q => match x, xs with
  | .ref a, [y] => ∃ ys, RdL S a ys ∧ flatP y = true ∧ ys.all flatP = true ∧ Q (.int ((ys.countP fun z => eqP z y) : Nat)) S
  | _, _ => False
theorem ml_count : MtL G (rCntF G.K) mCount := fun H S x xs v vs Q K sr rx r k q => by
  unfold mCount at q
  split at q
  · rename_i a y
    obtain ⟨w, rfl, rw⟩ := reps1 r
    cases rx
    obtain ⟨ys, e, fy, fs, q⟩ := q
    obtain ⟨us, hu, ru⟩ := rdl_at sr e
    obtain ⟨e1, f1⟩ := flat_rep fy rw
    obtain ⟨e2, f2⟩ := flat_reps fs ru
    refine ⟨a, us, w, rfl, rfl, hu, f1, f2, k _ _ (ql_int sr ?_)⟩
    rw [e1, e2, List.countP_map]
    exact q
  · exact q.elim
def mIndex : OM := fun x xs S Q => match x, xs with
  | .ref a, [y] => ∃ (ys : List PV) (j : Nat) (z : PV), RdL S a ys ∧ flatP y = true ∧ ys.all flatP = true ∧ ys[j]? = some z ∧ eqP z y = true ∧ (∀ (m : Nat) (z' : PV), m < j → ys[m]? = some z' → eqP z' y = false) ∧ Q (.int (j : Nat)) S
  | _, _ => False
theorem ml_index : MtL G (rIndex G.K) mIndex := fun H S x xs v vs Q K sr rx r k q => by
  unfold mIndex at q
  split at q
  · rename_i a y
    obtain ⟨w, rfl, rw⟩ := reps1 r
    cases rx
    obtain ⟨ys, j, z, e, fy, fs, hz, ez, no, q⟩ := q
    obtain ⟨us, hu, ru⟩ := rdl_at sr e
    obtain ⟨e1, f1⟩ := flat_rep fy rw
    obtain ⟨e2, f2⟩ := flat_reps fs ru
    subst e1 e2
    refine ⟨a, _, _, j, toV z, rfl, rfl, hu, f1, f2, by rw [List.getElem?_map, hz]; rfl, ez, fun m z' hm e => ?_, k _ _ (ql_int sr q)⟩
    rw [List.getElem?_map] at e
    cases hy : ys[m]? with
    | none => rw [hy] at e; cases e
    | some t =>
      rw [hy] at e
      cases e
      exact no m t hm hy
  · exact q.elim

/-! ### calls of defs -/
abbrev PSp := List PV → Sto → KE → KX → Prop
/-- a promise by content -/
def liftSp (G : Gd) (sp : PSp) : Sp := fun vs H Q E => ∃ (xs : List PV) (S : Sto) (Q' : KE) (E' : KX), Reps G.K H xs vs ∧ SR G H S ∧ sp xs S Q' E' ∧ (∀ v H', QL G S H Q' v H' → Q v H') ∧ ∀ n S' cls d H', Stp S H S' H' → SR G H' S' → RepX G H' cls d n → E' n S' → E cls d H'
def wCall (sp : PSp) (w : WA) : WE := fun ε S Q E => w ε S (fun xs S1 => sp xs S1 Q E) E
/-- the def at f keeps the promise sp -/
abbrev FnP (G : Gd) (P : Program) (w : World) (mg : Str → Option Value) (base : Heap) (k : Nat) (f : Addr) (fd : FuncData) (ps : List Str) (sp : PSp) : Prop := FnOk P w G.K mg base (L2.CX P w) k f fd ps (liftSp G sp)
theorem je_call {x : Str} {p pos : Pos} {f : Addr} {fd : FuncData} {k : Nat} {ps : List Str} {sp : PSp} {e : Expr} {es : List Expr} {wa : WA} (F : FnOk X.prog X.w X.K X.mg X.base (L2.CX X.prog X.w) k f fd ps (liftSp G sp)) (hr : Room k X.A) (hg : Gl X x) (hm : X.mg x = some (.ref f)) (hk : PySem.W.keepIn X.K (.ref f) = true)
    (hb : Binds X.K fd ps []) (ha : JA G X (e :: es) wa) (hdb : (x == ("__debug__" : Str)) = false := by decide) (he : starEach (e :: es) X.env = (false, eval e X.env) :: starEach es X.env := by rfl) (hpl : (backTo pos (starEach es X.env)).any (·.1) = false := by rfl) : JE G X (.Call (.Name x p) (e :: es) [] pos) (wCall sp wa) :=
  ⟨fun ε S Q E w σ H re sr Wx tk ex => sE_of (pe_callS F hr hg hm hk hb (fun σ => passAt tk σ) pa_sA hdb he hpl) (by
    refine ha.dn w re sr tk ex fun vs H1 ⟨xs, S1, s1, sr1, r1, w1⟩ => ?_
    exact ⟨xs, S1, Q, E, r1, sr1, w1, fun _ _ q => q.mono s1, fun n S' cls d H' st => ex n S' cls d H' (s1.trans st)⟩)⟩
def startP (N : List Str) (xs : List PV) : PEnv := xs.map some ++ List.replicate (N.length - xs.length) none
theorem renv_start {K : PySem.W.Frag} {N : List Str} {xs : List PV} {vs : List V} (r : Reps K H xs vs) : Renv K H (startP N xs) (L2.start N vs) := by
  have hl := reps_length r
  refine ⟨by simp [startP, L2.start, hl], fun i x e => ?_⟩
  unfold startP at e
  by_cases hi : i < xs.length
  · rw [List.getElem?_append_left (by simpa using hi), List.getElem?_map] at e
    cases hx : xs[i]? with
    | none => rw [hx] at e; cases e
    | some y =>
      rw [hx] at e
      cases e
      obtain ⟨v, hv, rv⟩ := reps_get r hx
      refine ⟨v, ?_, rv⟩
      unfold L2.start
      rw [List.getElem?_append_left (by rw [List.length_map, ← hl]; exact hi), List.getElem?_map, hv]
      rfl
  · rw [List.getElem?_append_right (by simpa using hi)] at e
    have := List.mem_of_getElem? e
    rw [List.mem_replicate] at this
    cases this.2
/-- what a body is wanted for -/
def PD.fn (Q : KE) (E : KX) : PD := { nx := fun _ S => Q .non S, rt := Q, bk := fun _ _ => False, ct := fun _ _ => False, ex := fun n _ S => E n S }
section
variable {P : Program} {w : World} {mg : Str → Option Value} {base : Heap}
theorem fn_ok {x qual : Str} {st : Stmt} {f : Addr} {fd : FuncData} {N ps : List Str} {k : Nat} {sp : PSp} {W : WS} (F : Fun G.K x qual st f fd) (Sc : FnScope N ps (defScope st)) (len : ∀ xs S Q E, sp xs S Q E → xs.length = ps.length)
    (hbody : ∀ (cdv : Value) (A : Around) (outer : List Env) (s : Shared) (H : Hp) (E : XK), Room k (A.deeper (envOfC qual (defScope st) s.heap.objs.size f cdv)) → JSs G (cxOf (L2.CX P w) P w G.K mg base N qual (defScope st) f cdv A outer s H E) (defBody st) W)
    (hW : ∀ xs S Q E, sp xs S Q E → W (PD.fn Q E) (startP N xs) S) : FnP G P w mg base (k + 1) f fd ps sp := by
  refine F.okX Sc (fun vs H Q E ⟨xs, S, Q', E', r, _, h, _⟩ => by rw [← reps_length r]; exact len _ _ _ _ h) fun cdv A outer s H vs Q E hr ⟨xs, S, Q', E', r, sr, h, k1, k2⟩ => ?_
  refine ⟨_, pss_sSs, (hbody cdv A outer s H E hr).dn (hW xs S Q' E' h) (renv_start r) sr (takes_of rfl rfl rfl rfl) (fun n ε' S' cls d σ' H' st sr' _ rx e => k2 n S' cls d H' st sr' rx e) ⟨?_, fun v H' q => k1 v H' q, ?_, ?_⟩⟩
  · exact fun σ' H' ⟨ε', S', st, sr', re', q⟩ => k1 _ _ ⟨.non, S', st, sr', rfl, q⟩
  · exact fun σ' H' ⟨ε', S', st, sr', re', q⟩ => q.elim
  · exact fun σ' H' ⟨ε', S', st, sr', re', q⟩ => q.elim
/-- another promise that follows -/
theorem FnP.imp {k : Nat} {f : Addr} {fd : FuncData} {ps : List Str} {sp sp' : PSp} (F : FnP G P w mg base k f fd ps sp) (h : ∀ xs S Q E, sp' xs S Q E → sp xs S Q E) : FnP G P w mg base k f fd ps sp' :=
  FnOk.imp F fun vs H Q E ⟨xs, S, Q', E', r, sr, q, k⟩ => ⟨xs, S, Q', E', r, sr, h _ _ _ _ q, k⟩
end
end
end L3

set_option Elab.async false
set_option linter.all false
set_option maxRecDepth 100000
set_option maxHeartbeats 4000000
namespace L3
open PySem PySem.Spec L2
open PyProof.Rows hiding St
/-! ### try with clauses that may bear a name -/
abbrev ClT := Value × Option Nat × (Addr → Value → Option Addr → TS)
def endsOf (D : Ends) : Option Nat → Ends
  | none => D
  | some i => { nx := fun σ' H' => D.nx (σ'.set i none) H', rt := D.rt, bk := fun σ' H' => D.bk (σ'.set i none) H', ct := fun σ' H' => D.ct (σ'.set i none) H' }
def slotOf (σ : L2.St) (a : Addr) : Option Nat → L2.St
  | none => σ
  | some i => σ.set i (some (.ref a))
def wMix (K : PySem.W.Frag) (Wout : WX) (D : Ends) : List ClT → WX
  | [] => Wout
  | (c, oi, ts) :: r => fun cls d σ H => ∃ b, PySem.W.exmOne K cls c = some b ∧ (b = true → ∀ a, H a = none → ts a cls d (endsOf D oi) (slotOf σ a oi) H) ∧ (b = false → wMix K Wout D r cls d σ H)
inductive HdsX (X : Cx) : List ExceptHandler → List ClT → Prop
  | nil : HdsX X [] []
  | plain {x : Str} {c : Value} {ts : Addr → Value → Option Addr → TS} {b₀ : Stmt} {suite : List Stmt} {np pos' : Pos} {hds : List ExceptHandler} {l : List ClT} (hc : Names X x c)
      (hsu : ∀ (a : Addr) (oe : Obj) (cls : Value) (d : Option Addr) (pn : List (Addr × Obj)), Zc cls d oe → (∃ vs, oe.data = .fields vs) → PSs (X.suite a ((a, oe) :: pn)) (b₀ :: suite) (ts a cls d)) (r : HdsX X hds l) :
      HdsX X (.ExceptHandler (some (.Name x np)) none (b₀ :: suite) pos' :: hds) ((c, none, ts) :: l)
  | named {x n : Str} {i : Nat} {c : Value} {ts : Addr → Value → Option Addr → TS} {b₀ : Stmt} {suite : List Stmt} {np pos' : Pos} {hds : List ExceptHandler} {l : List ClT} (hi : X.N[i]? = some n) (hln : X.env.kindOf n = some .local) (hc : Names X x c)
      (hsu : ∀ (a : Addr) (oe : Obj) (cls : Value) (d : Option Addr) (pn : List (Addr × Obj)), Zc cls d oe → (∃ vs, oe.data = .fields vs) → PSs (X.suite a ((a, oe) :: pn)) (b₀ :: suite) (ts a cls d)) (r : HdsX X hds l) :
      HdsX X (.ExceptHandler (some (.Name x np)) (some n) (b₀ :: suite) pos' :: hds) ((c, some i, ts) :: l)
section
variable {X : Cx} {body : List Stmt} {h₀ : ExceptHandler} {hds : List ExceptHandler} {l : List ClT} {pos : Pos} {tb : WX → TS} {Wout : WX}
theorem ps_try_mix (hs : X.stack = X.env :: X.outer) (hf : X.env.frame = some X.env.locals) (hN : X.N.Nodup) (tk : Takes X Wout)
    (hb : ∀ (W : WX) (pn : List (Addr × Obj)) (xe : Value → Shared → Prop), Takes (X.tr pn xe) W → PassesOwn (model X.prog X.w) X.A X.env xe → PSs (X.tr pn xe) body (tb W))
    (hh : HdsX X (h₀ :: hds) l) : PS X (.Try body (h₀ :: hds) [] [] pos) (fun D σ H => tb (wMix X.K Wout D l) D σ H) := by
  refine ⟨fun pins s σ H D I h => ?_⟩
  have ok := I.ok
  have frm : X.A.frames = some (X.env :: X.outer) := by rw [ok.frames, hs]
  refine wpAny_Try_except ?_
  refine wpAny_mono ((hb (wMix X.K Wout D l) (X.pn ++ pins) (fun e s₁ => wpAny (model X.prog X.w) X.A (noteFrame e X.env) (fun _ s₂ => wpAny (model X.prog X.w) X.A (setFlight e none) (fun _ s₃ =>
    wpAny (model X.prog X.w) X.A (handleBy e X.env (h₀ :: hds)) (SP X pins D) X.xe s₃) X.xe s₂) X.xe s₁) (fun u s' air => ?_) PassesOwn.looking).run [] s σ H D (I.toTry _) h) (fun f s1 sp => ?_) (fun e s1 q => q)
  · obtain ⟨a, B, sI, pins', σ', H', cls, d, rfl, J', nb, up, sky, na, os, ag, w⟩ := air
    have J : Inv X pins σ' H' sI := J'.ofTry ok
    have sky2 : Sky B (X.env :: X.outer) a (Zc cls d) X.env.locals s'.heap := by rw [← hs]; exact sky
    show wpAny (model X.prog X.w) X.A (noteFrame (.ref a) X.env) _ _ _
    refine Sky.land Zc.steady frm hf sky2 fun h3 fl3 up3 => ?_
    have J3 : Inv X pins σ' H' { s' with heap := h3 } := J.landed nb fl3.1 (up.trans up3) os ag
    obtain ⟨oe3, vs3, he3, hz3, hd3⟩ := fl3.there
    have nfr : a ∉ frs (X.env :: X.outer) := fun hm => by
      obtain ⟨_, o', e', hnf⟩ := fl3.2.2.1.mem hm
      rw [he3] at e'; cases e'
      exact hnf _ hd3
    have nL : a ≠ X.env.locals := fun z => nfr (List.mem_filterMap.mpr ⟨X.env, List.mem_cons_self, by rw [hf, z]⟩)
    have nF : a ∉ X.fs := fun hm => by
      obtain ⟨e, he, q⟩ := List.mem_filterMap.mp hm
      exact nfr (List.mem_filterMap.mpr ⟨e, List.mem_cons_of_mem _ he, q⟩)
    have S3 := J3.suite he3 hd3 na nL nF
    have go : ∀ {hs' : List ExceptHandler} {l' : List ClT}, HdsX X hs' l' → wMix X.K Wout D l' cls d σ' H' → wpAny (model X.prog X.w) X.A (handleBy (.ref a) X.env hs') (SP X pins D) X.xe { s' with heap := h3 } := by
      intro hs' l' hk
      have ask : ∀ {x : Str} {c : Value} {np : Pos} {Q : Value → Shared → Prop} {E : Value → Shared → Prop}, Names X x c → Q c { s' with heap := h3 } → wpAny (model X.prog X.w) (X.A.mark (some (.ref a))) (eval (.Name x np) X.env) Q E { s' with heap := h3 } := fun {x c np Q E} nm q => by
        obtain ⟨hg, hdbg, hm | ⟨hm, hv, hnn⟩⟩ := nm
        · exact ld_glob (X := X.suite a ((a, oe3) :: (X.pn ++ pins))) S3 hg hm q hdbg
        · exact ld_blt (X := X.suite a ((a, oe3) :: (X.pn ++ pins))) S3 hg hm hv q hnn hdbg
      have tys : PySem.W.Looks (model X.prog X.w) h3 (typeOf (.ref a)) cls := fun A Q E s k q => wpAny_typeOf_ref (k _ _ he3) (by rw [hz3.1]; exact q)
      induction hk with
      | nil =>
        intro w
        refine wpAny_handleBy_nil ?_
        obtain ⟨k1, k2, k3, oe, vs, T, oT, ts', he, hz, hd, h1, hr⟩ := id fl3
        unfold PySem.passOn
        refine wpAny_bind (wpAny_field he hd h1 ?_)
        rw [if_neg (show ¬ ((Value.ref T == Value.none) = true) from by simp)]
        have fin : wpAny (model X.prog X.w) X.A (setFlight (.ref a) X.env.frame) (fun _ s4 => wpAny (model X.prog X.w) X.A (throw (.ref a) : Sem Flow) (SP X pins D) X.xe s4) X.xe { s' with heap := h3 } := by
          rw [hf]
          refine HandSPX.setFlight_upZ fl3 fun h4 hh4 up4 => wpAny_throw (tk _ _ ?_)
          exact ⟨a, B, sI, pins, σ', H', cls, d, rfl, J, nb, (up.trans up3).trans up4, .inr (.inr (by rw [hs]; exact hh4)), na, os, ag, w⟩
        first
          | exact wpAny_bind (wpAny_pure (wpAny_bind fin))
          | exact wpAny_bind fin
      | @plain x c ts b₀ suite np pos' hds2 l2 hc hsu r ih =>
        intro w
        obtain ⟨b, hb1, hyes, hno⟩ := w
        refine wpAny_handleBy_cons (codeAny_handlers_test ?_) (by intro q; cases q)
        refine ask hc ((PySem.W.exm_one (M := model X.prog X.w) (J3.kIn) tys hb1).here ?_)
        cases b with
        | false => exact ih (hno rfl)
        | true =>
          refine codeAny_handlers_suite (HandSPX.lands_againZ fl3 fun h4 fl4 up4 => ?_)
          have J4 : Inv X pins σ' H' { s' with heap := h4 } := J.landed nb fl4.1 ((up.trans up3).trans up4) os ag
          obtain ⟨oe4, vs4, he4, hz4, hd4⟩ := fl4.there
          refine wpAny_mono ((hsu a oe4 cls d (X.pn ++ pins) hz4 ⟨_, hd4⟩).run [] _ _ H' _ (J4.suite he4 hd4 na nL nF) (hyes rfl a na)) (fun f s6 sp => ?_) (fun _ _ z => False.elim z)
          cases f with
          | next => obtain ⟨σ6, H6, S6, q6⟩ := sp; exact ⟨_, _, S6.unsuite ok, q6⟩
          | brk => obtain ⟨σ6, H6, S6, q6⟩ := sp; exact ⟨_, _, S6.unsuite ok, q6⟩
          | cont => obtain ⟨σ6, H6, S6, q6⟩ := sp; exact ⟨_, _, S6.unsuite ok, q6⟩
          | ret u => obtain ⟨v6, σ6, H6, S6, r6, q6⟩ := sp; exact ⟨_, _, _, S6.unsuite ok, r6, q6⟩
      | @named x n i c ts b₀ suite np pos' hds2 l2 hi hln hc hsu r ih =>
        intro w
        obtain ⟨b, hb1, hyes, hno⟩ := w
        refine wpAny_handleBy_cons (codeAny_handlers_test ?_) (by intro q; cases q)
        refine ask hc ((PySem.W.exm_one (M := model X.prog X.w) (J3.kIn) tys hb1).here ?_)
        cases b with
        | false => exact ih (hno rfl)
        | true =>
          refine codeAny_handlers_suite_as (HandSPX.lands_againZ fl3 fun h4 fl4 up4 => ?_)
          have J4 : Inv X pins σ' H' { s' with heap := h4 } := J.landed nb fl4.1 ((up.trans up3).trans up4) os ag
          obtain ⟨oe4, vs4, he4, hz4, hd4⟩ := fl4.there
          refine store_ok (X := X.suite a ((a, oe4) :: (X.pn ++ pins))) (v := .ref a) (J4.suite he4 hd4 na nL nF) hN hi (.inl hln) rfl (fun s5 S5 => ?_) (.inr hln)
          refine wpAny_mono ((hsu a oe4 cls d (X.pn ++ pins) hz4 ⟨_, hd4⟩).run [] s5 _ H' _ S5 (hyes rfl a na)) (fun f s6 sp => ?_) (fun _ _ z => False.elim z)
          have out : ∀ {σ6 : L2.St} {H6 : Hp} {Q : Shared → Prop}, Inv (X.suite a ((a, oe4) :: (X.pn ++ pins))) [] σ6 H6 s6 → (∀ s7, Inv X pins (σ6.set i none) H6 s7 → Q s7) →
              wpAny (model X.prog X.w) X.A (do bindName X.env n .none; unbindBehindTheSuite X.env n pos') (fun _ s7 => Q s7) X.xe s6 := fun {σ6 H6 Q} S6 hq => gone_ok (S6.unsuite ok) hN hi hln hq
          cases f with
          | next => obtain ⟨σ6, H6, S6, q6⟩ := sp; exact out S6 fun s7 J7 => ⟨_, _, J7, q6⟩
          | brk => obtain ⟨σ6, H6, S6, q6⟩ := sp; exact out S6 fun s7 J7 => ⟨_, _, J7, q6⟩
          | cont => obtain ⟨σ6, H6, S6, q6⟩ := sp; exact out S6 fun s7 J7 => ⟨_, _, J7, q6⟩
          | ret u => obtain ⟨v6, σ6, H6, S6, r6, q6⟩ := sp; exact out S6 fun s7 J7 => ⟨_, _, _, J7, r6, q6⟩
    exact go hh w
  · cases f with
    | next => obtain ⟨σ', H', J', q⟩ := sp; exact wpAny_execs_nil ⟨σ', H', J'.ofTry ok, q⟩
    | brk => obtain ⟨σ', H', J', q⟩ := sp; exact ⟨σ', H', J'.ofTry ok, q⟩
    | cont => obtain ⟨σ', H', J', q⟩ := sp; exact ⟨σ', H', J'.ofTry ok, q⟩
    | ret u => obtain ⟨v, σ', H', J', r, q⟩ := sp; exact ⟨v, σ', H', J'.ofTry ok, r, q⟩
end
/-! ### the same by content -/
section
variable {G : Gd} {X : Cx} {H H1 : Hp} {S S1 : Sto} {σ : L2.St} {ε : PEnv}
/-- a clause: its class's name, the slot of its name, its suite for an error (its address) -/
structure Cl where
  cls : Str
  slot : Option Nat
  w : PX → Addr → WS
def pdOf (D : PD) : Option Nat → PD
  | none => { D with ex := fun _ _ _ => False }
  | some i => { nx := fun ε S => D.nx (ε.set i none) S, rt := D.rt, bk := fun ε S => D.bk (ε.set i none) S, ct := fun ε S => D.ct (ε.set i none) S, ex := fun _ _ _ => False }
def envOf (ε : PEnv) (a : Addr) : Option Nat → PEnv
  | none => ε
  | some i => ε.set i (some (.ref a))
/-- is the class n below c? -/
abbrev SubC := Str → Str → Bool
def clW (sub : SubC) (D : PD) : List Cl → PX → PEnv → Sto → Prop
  | [] => D.ex
  | c :: r => fun n ε S => if sub n.name c.cls = true then ∀ a, c.w n a (pdOf D c.slot) (envOf ε a c.slot) S else clW sub D r n ε S
def wTry (sub : SubC) (body : WS) (cs : List Cl) : WS := fun D ε S => body { D with ex := clW sub D cs } ε S
/-- the suite's contexts -/
inductive JHs (G : Gd) (X : Cx) (sub : SubC) : List ExceptHandler → List Cl → Prop
  | nil : JHs G X sub [] []
  | plain {x : Str} {C : Addr} {w : PX → Addr → WS} {b₀ : Stmt} {suite : List Stmt} {np pos' : Pos} {hds : List ExceptHandler} {l : List Cl} (hc : Names X x (.ref C)) (hs : ∀ n D, G.ec n = some D → PySem.W.exmOne X.K (.ref D) (.ref C) = some (sub n x))
      (hsu : ∀ (a : Addr) (oe : Obj) (n : PX) (D : Addr) (d : Option Addr) (pn : List (Addr × Obj)), G.ec n.name = some D → (n.arg = none → d = none) → Zc (.ref D) d oe → (∃ vs, oe.data = .fields vs) → JSs G (X.suite a ((a, oe) :: pn)) (b₀ :: suite) (w n a)) (r : JHs G X sub hds l) :
      JHs G X sub (.ExceptHandler (some (.Name x np)) none (b₀ :: suite) pos' :: hds) (⟨x, none, w⟩ :: l)
  | named {x nm : Str} {i : Nat} {C : Addr} {w : PX → Addr → WS} {b₀ : Stmt} {suite : List Stmt} {np pos' : Pos} {hds : List ExceptHandler} {l : List Cl} (hi : X.N[i]? = some nm) (hln : X.env.kindOf nm = some .local) (hc : Names X x (.ref C)) (hs : ∀ n D, G.ec n = some D → PySem.W.exmOne X.K (.ref D) (.ref C) = some (sub n x))
      (hsu : ∀ (a : Addr) (oe : Obj) (n : PX) (D : Addr) (d : Option Addr) (pn : List (Addr × Obj)), G.ec n.name = some D → (n.arg = none → d = none) → Zc (.ref D) d oe → (∃ vs, oe.data = .fields vs) → JSs G (X.suite a ((a, oe) :: pn)) (b₀ :: suite) (w n a)) (r : JHs G X sub hds l) :
      JHs G X sub (.ExceptHandler (some (.Name x np)) (some nm) (b₀ :: suite) pos' :: hds) (⟨x, some i, w⟩ :: l)
theorem jhs_dn {sub : SubC} {hds : List ExceptHandler} {cs : List Cl} (h : JHs G X sub hds cs) : ∃ l, HdsX X hds l ∧ ∀ (D : PD) (S : Sto) (H : Hp) (Wout : WX), ExS G S H D.ex Wout → ExS G S H (clW sub D cs) (wMix X.K Wout (EndsL G S H D) l) := by
  have fin : ∀ {D : PD} {S S' : Sto} {H H' : Hp} {w : WS} {Y : Cx} {sts : List Stmt} {ε : PEnv} {σ : L2.St} (oi : Option Nat), Stp S H S' H' → JSs G Y sts w → w (pdOf D oi) ε S' → Renv G.K H' ε σ → SR G H' S' → sSs Y sts (endsOf (EndsL G S H D) oi) σ H' := by
    intro D S S' H H' w Y sts ε σ oi st hj q re sr
    have no : (pdOf D oi).ex = fun _ _ _ => False := by cases oi <;> rfl
    refine hj.dn q re sr takes0 (by rw [no]; exact fun _ _ _ _ _ _ _ _ _ _ _ z => z.elim) ?_
    cases oi with
    | none => exact ⟨fun _ _ q => q.mono st, fun _ _ q => q.mono st, fun _ _ q => q.mono st, fun _ _ q => q.mono st⟩
    | some i =>
      have un : ∀ {Q : PEnv → Sto → Prop} {σ2 : L2.St} {H2 : Hp}, QS G S' H' (fun ε S => Q (ε.set i none) S) σ2 H2 → QS G S H Q (σ2.set i none) H2 := fun ⟨ε2, S2, s2, sr2, re2, q2⟩ => ⟨_, S2, st.trans s2, sr2, re2.unset i, q2⟩
      exact ⟨fun _ _ q => un q, fun _ _ q => q.mono st, fun _ _ q => un q, fun _ _ q => un q⟩
  induction h with
  | nil => exact ⟨[], .nil, fun D S H Wout ex => ex⟩
  | @plain x C w b₀ suite np pos' hds l hc hs hsu r ih =>
    obtain ⟨l', h1, h2⟩ := ih
    refine ⟨(.ref C, none, fun a cls d D σ H => ∀ oe pn, Zc cls d oe → (∃ vs, oe.data = .fields vs) → sSs (X.suite a ((a, oe) :: pn)) (b₀ :: suite) D σ H) :: l', .plain hc (fun a oe cls d pn hz hf => ⟨fun pins s σ H D I h => h oe pn hz hf pins s I⟩) h1, ?_⟩
    intro D S H Wout ex n ε' S' cls d σ' H' st sr re rx q
    obtain ⟨D0, hec, ecls, harg⟩ := id rx
    subst ecls
    refine ⟨_, hs n.name D0 hec, fun hb a ha oe pn hz hf => ?_, fun hb => ?_⟩
    · have q := (show (if sub n.name x = true then ∀ a, w n a (pdOf D none) (envOf ε' a none) S' else clW sub D l n ε' S') from q)
      rw [if_pos hb] at q
      exact fin none st (hsu a oe n D0 d pn hec (fun z => by rw [z] at harg; exact harg) hz hf) (q a) re sr
    · have q := (show (if sub n.name x = true then ∀ a, w n a (pdOf D none) (envOf ε' a none) S' else clW sub D l n ε' S') from q)
      rw [hb, if_neg Bool.false_ne_true] at q
      exact h2 D S H Wout ex n ε' S' _ d σ' H' st sr re rx q
  | @named x nm i C w b₀ suite np pos' hds l hi hln hc hs hsu r ih =>
    obtain ⟨l', h1, h2⟩ := ih
    refine ⟨(.ref C, some i, fun a cls d D σ H => ∀ oe pn, Zc cls d oe → (∃ vs, oe.data = .fields vs) → sSs (X.suite a ((a, oe) :: pn)) (b₀ :: suite) D σ H) :: l', .named hi hln hc (fun a oe cls d pn hz hf => ⟨fun pins s σ H D I h => h oe pn hz hf pins s I⟩) h1, ?_⟩
    intro D S H Wout ex n ε' S' cls d σ' H' st sr re rx q
    obtain ⟨D0, hec, ecls, harg⟩ := id rx
    subst ecls
    refine ⟨_, hs n.name D0 hec, fun hb a ha oe pn hz hf => ?_, fun hb => ?_⟩
    · have q := (show (if sub n.name x = true then ∀ a, w n a (pdOf D (some i)) (envOf ε' a (some i)) S' else clW sub D l n ε' S') from q)
      rw [if_pos hb] at q
      exact fin (some i) st (hsu a oe n D0 d pn hec (fun z => by rw [z] at harg; exact harg) hz hf) (q a) (re.set i rfl) sr
    · have q := (show (if sub n.name x = true then ∀ a, w n a (pdOf D (some i)) (envOf ε' a (some i)) S' else clW sub D l n ε' S') from q)
      rw [hb, if_neg Bool.false_ne_true] at q
      exact h2 D S H Wout ex n ε' S' _ d σ' H' st sr re rx q
theorem js_try {sub : SubC} {body : List Stmt} {h₀ : ExceptHandler} {hds : List ExceptHandler} {cs : List Cl} {wb : WS} {pos : Pos} (hs : X.stack = X.env :: X.outer) (hf : X.env.frame = some X.env.locals) (hN : X.N.Nodup)
    (hb : ∀ (pn : List (Addr × Obj)) (xe : Value → Shared → Prop), PassesOwn (model X.prog X.w) X.A X.env xe → JSs G (X.tr pn xe) body wb) (hh : JHs G X sub (h₀ :: hds) cs) : JS G X (.Try body (h₀ :: hds) [] [] pos) (wTry sub wb cs) :=
  ⟨fun D ε S q σ H re sr Wx tk ex => by
    obtain ⟨l, h1, h2⟩ := jhs_dn hh
    refine sS_of (ps_try_mix (tb := fun W D σ H => ∀ pn xe, Takes (X.tr pn xe) W → PassesOwn (model X.prog X.w) X.A X.env xe → sSs (X.tr pn xe) body D σ H) hs hf hN tk (fun W pn xe tk hp => ⟨fun pins s σ H D I h => h pn xe tk hp pins s I⟩) h1) ?_
    intro pn xe tk2 hp
    exact (hb pn xe hp).dn q re sr tk2 (h2 D S H Wx ex) ⟨fun _ _ q => q, fun _ _ q => q, fun _ _ q => q, fun _ _ q => q⟩⟩
/-- isinstance(e, C), e the error that the suite holds -/
theorem je_isE {i : Nat} {sub : SubC} {a C D : Addr} {n : PX} {oe : Obj} {pn : List (Addr × Obj)} {v c : Str} {d : Option Addr} {p p1 p2 pos : Pos} (hv : JE G (X.suite a ((a, oe) :: pn)) (.Name v p1) (wV i)) (E : ExcC X.K D) (hn : n.arg = none) (hd : n.arg = none → d = none) (hz : Zc (.ref D) d oe) (hf : ∃ vs, oe.data = .fields vs)
    (hg : Gl X "isinstance") (hm : X.mg "isinstance" = none) (hgc : Gl X c) (hmc : X.mg c = some (.ref C)) (hk : PySem.W.kitOne X.K (.ref D) (.ref C) = some (sub n.name c)) (hdb : (c == ("__debug__" : Str)) = false := by decide)
    (hs : starEach [.Name v p1, .Name c p2] X.env = (false, eval (.Name v p1) X.env) :: starEach [.Name c p2] X.env := by rfl) (hs2 : starEach [.Name c p2] X.env = (false, eval (.Name c p2) X.env) :: starEach [] X.env := by rfl) (hpl : (backTo pos (starEach [.Name c p2] X.env)).any (·.1) = false := by rfl) :
    JE G (X.suite a ((a, oe) :: pn)) (.Call (.Name "isinstance" p) [.Name v p1, .Name c p2] [] pos) (fun ε S Q E => ε[i]? = some (some (.ref a)) ∧ Q (.bl (sub n.name c)) S) :=
  ⟨fun ε S Q E' w σ H re sr Wx tk ex => by
    obtain ⟨w1, w2⟩ := w
    have hd0 := hd hn
    subst hd0
    refine sE_of (pe_callB (call_isE E hz hf) hg hm (by decide +kernel) (pa_cons pe_sE (pa_cons (pe_glob (v := .ref C) hgc hmc rfl hdb) pa_nil hs2) hs) (by decide) (by decide) hs hpl) ?_
    refine hv.dn (Q := fun x S1 => x = .ref a ∧ S1 = S) (E := E') (by unfold wV; rw [w1]; exact ⟨rfl, rfl⟩) re sr tk ex fun u H1 ⟨y, S1, s1, sr1, r1, ey, eS⟩ => ?_
    subst ey eS
    cases r1
    refine ⟨.ref C, .ref C, _, rfl, fun u hu => hu, hk, (ql_bl (Q := Q) sr1 w2).mono s1⟩⟩
end
end L3

set_option Elab.async false
set_option linter.all false
set_option maxRecDepth 100000
set_option maxHeartbeats 4000000
namespace L3
open PySem PySem.Spec L2
open PyProof.Rows hiding St
/-! ### x(lambda: body), the def x calls it -/
section
variable {G : Gd} {X : Cx} {H H1 : Hp} {S S1 : Sto} {σ : L2.St} {ε : PEnv}
open LamX in
/-- the tables alone have changed -/
theorem SR.extN (h : SR G H S) (e : ExtN H H1) (T : Tabs G.T H1) : SR G H1 S ∧ Stp S H S H1 := by
  have stay : Stay H H1 := fun a xs r => by
    rcases r with r | ⟨v, r⟩
    · exact .inl (e _ _ r (fun _ z => by cases z))
    · exact .inr ⟨v, e _ _ r (fun _ z => by cases z)⟩
  refine ⟨⟨fun a o q => ?_, T, fun p hp => ⟨e _ _ (h.fx p hp).1 (fun _ z => by cases z), (h.fx p hp).2⟩, fun q hq => (h.cp q hq).stay stay⟩, stay, fun a o n q t => ⟨e a o q t, n⟩⟩
  have no : ∀ u, H a = some u → ∀ ps, u ≠ .tbl ps := fun u hu ps z => by
    have m := h.ok a o q
    subst z
    cases o with
    | lst xs => obtain ⟨vs, e1, _⟩ := m; rw [hu] at e1; cases e1
    | rol xs =>
      obtain ⟨vs, e1 | ⟨v, e1⟩, _⟩ := m
      · rw [hu] at e1; cases e1
      · rw [hu] at e1; cases e1
    | hand => obtain ⟨c, _, cells, p, l, m, k, e1, _⟩ := m; rw [hu] at e1; cases e1
    | priv => obtain ⟨vs, e1⟩ := m; rw [hu] at e1; cases e1
    | dct kvs => obtain ⟨vs, e1, _⟩ := m; rw [hu] at e1; cases e1
  refine (h.ok a o q).keep stay (fun u hu => e a u hu (no u hu)) fun c ec => ⟨ec, fun u hu => ?_⟩
  obtain ⟨vs, e1⟩ := h.ok c _ ec
  rw [e1] at hu
  cases hu
  exact e c _ e1 (fun _ z => by cases z)
abbrev Thk := Sto → KE → KX → Prop
/-- call(), the lambda at f -/
def wAct (f : Addr) (th : Thk) : WE := fun ε S Q E => ε[0]? = some (some (.ref f)) ∧ th S Q E
def wLam (WW : Thk → Addr → WS) (Ng : List Str) (wb : WE) : WE := fun ε S Q _ => ∀ f, WW (fun S' Q' E' => wb ε S' Q' E') f (PD.fn Q fun _ _ => False) (startP Ng [.ref f]) S
/-- the context of the def that got the lambda -/
abbrev lamG (X : Cx) (Ng : List Str) (x : Str) (sg : Scope) (g : Addr) (cdg : Value) (A : Around) (outer : List Env) (s : Shared) (H : Hp) : Cx := (cxOf C8.CX0 X.prog X.w X.K X.mg X.base Ng x sg g cdg A outer s H C8.E0).nox
open LamX in
theorem je_lam {x a : Str} {st : Stmt} {g c P : Addr} {fd : FuncData} {k : Nat} {Ng : List Str} {params : Arguments} {body : Expr} {scope : Scope} {wb : WE} {WW : Thk → Addr → WS} {p lpos pos : Pos} (F : Fun X.K x x st g fd) (hg : Gl X x) (hm : X.mg x = some (.ref g)) (hb : Binds X.K fd [a] []) (Sg : FnScope Ng [a] (defScope st)) (hNg : Ng[0]? = some a) (hva : Vis (defScope st) a)
    (hG : ∀ (G' : Gd) (th : Thk) (f : Addr) (cdg : Value) (s : Shared) (H : Hp), G'.K = G.K → G'.ec = G.ec → Room (k + 1) (X.A.deeper (envOfC x (defScope st) s.heap.objs.size g cdg)) → (∀ (pn : List (Addr × Obj)) (xe : Value → Shared → Prop) (p1 p2 : Pos), JE G' ((lamG X Ng x (defScope st) g cdg X.A X.stack s H).tr pn xe) (.Call (.Name a p1) [] [] p2) (wAct f th)) →
      JSs G' (lamG X Ng x (defScope st) g cdg X.A X.stack s H) (defBody st) (WW th f))
    (TB : TabB X.base X.mg c P) (hcode : X.env.code = .ref c) (hmT : (P, X.env.qual ++ "<lambda>") ∈ G.T) (hu : ∀ p ∈ G.T, p.1 = P → p.2 = X.env.qual ++ "<lambda>") (hr : Room (k + 2) X.A) (L : LamS X.env.scope scope) (hdef : defaultsOf params X.env = ([], []))
    (hbind : ∀ (q : Str) (cl : List (Str × Addr)) (pm cv ctv : Value), bindArgs (PySem.W.kla_fn "<lambda>" q params body scope cl pm cv ctv) ⟨[], []⟩ = pure [])
    (hbody : ∀ (A : Around) (outer : List Env) (s : Shared) (H : Hp) (E : XK) (f c' : Addr), Room k (A.deeper (lamEnv X scope s.heap.objs.size f c')) → JE G (lamCx X A outer s H E scope f c') body wb) (hK : X.K = G.K := by rfl)
    (hdb : (x == ("__debug__" : Str)) = false := by decide) (hd : (a == ("__debug__" : Str)) = false := by decide) (hcd : (a == ("__classdict__" : Str)) = false := by decide) :
    JE G X (.Call (.Name x p) [.Lambda params body scope lpos] [] pos) (wLam WW Ng wb) := by
  refine ⟨fun ε S Q E w σ H re sr Wx tk ex => fun pins s I => ?_⟩
  obtain ⟨oc, od, kV, doc, pm, an, cdv, ct, osl, efd, lk, hcg⟩ := F.ex
  subst efd
  refine wpAny_Call_Name_kw (ld_glob I hg hm ?_ hdb)
  refine PySem.W.callWith_K (h₀ := X.base) I.ok.mod.kin F.kp ?_ (by rfl) (by rfl)
  show wpAny _ _ (spliced ((false, eval (.Lambda params body scope lpos) X.env) :: backTo pos (starEach [] X.env))) _ _ s
  refine Calls.spliced_cons (lam_make2 I TB hcode hmT hu sr.tb hdef (L.has I.ok) fun f c' pm' ctv H1 s' I1 eN T1 hf hfn hfr hco => ?_)
  refine Calls.spliced_nil ⟨I1.kIn, ?_⟩
  obtain ⟨sr1, st1⟩ := sr.extN eN T1
  have re1 := re.stay st1.st
  -- the larger world: the code object stands, the slots are captured
  obtain ⟨φ, hφ⟩ : ∃ φ : Heap → Prop, CodeO c' (X.env.qual ++ "<lambda>") = .ext φ := ⟨_, rfl⟩
  have nc : S c' = none := by
    cases q : S c' with
    | none => rfl
    | some o =>
      have m := sr1.ok c' o q
      rw [hφ] at hco
      cases o with
      | lst xs => obtain ⟨vs, e1, _⟩ := m; rw [hco] at e1; cases e1
      | rol xs =>
        obtain ⟨vs, e1 | ⟨v, e1⟩, _⟩ := m
        · rw [hco] at e1; cases e1
        · rw [hco] at e1; cases e1
      | hand => obtain ⟨c, _, cells, p, l, m, k, e1, _⟩ := m; rw [hco] at e1; cases e1
      | priv => obtain ⟨vs, e1⟩ := m; rw [hco] at e1; cases e1
      | dct kvs => obtain ⟨vs, e1, _⟩ := m; rw [hco] at e1; cases e1
  generalize hG' : ({ G with fx := (c', φ) :: G.fx, cps := (ε, σ) :: G.cps } : Gd) = G'
  have kk : G'.K = G.K := by rw [← hG']
  have ke : G'.ec = G.ec := by rw [← hG']
  have up : ∀ {H2 : Hp} {S2 : Sto}, SR G' H2 S2 → SR G H2 S2 ∧ H2 c' = some (CodeO c' (X.env.qual ++ "<lambda>")) ∧ Renv G.K H2 ε σ := fun {H2 S2} q => by
    subst hG'
    exact ⟨⟨q.ok, q.tb, fun p hp => q.fx p (List.mem_cons_of_mem _ hp), fun p hp => q.cp p (List.mem_cons_of_mem _ hp)⟩, by rw [hφ]; exact (q.fx _ List.mem_cons_self).1, q.cp _ List.mem_cons_self⟩
  have sr' : SR G' H1 S := by
    subst hG'
    refine ⟨sr1.ok, sr1.tb, fun p hp => ?_, fun p hp => ?_⟩
    · rcases List.mem_cons.mp hp with e | hp
      · rw [e, ← hφ]; exact ⟨hco, nc⟩
      · exact sr1.fx p hp
    · rcases List.mem_cons.mp hp with e | hp
      · rw [e]; exact re1
      · exact sr1.cp p hp
  have upQ : ∀ {Q' : KE} {v : V} {S2 : Sto} {H2 H' : Hp}, QL G' S2 H2 Q' v H' → QL G S2 H2 Q' v H' := fun {Q' v S2 H2 H'} ⟨y, S3, a1, a2, a3, a4⟩ => ⟨y, S3, a1, (up a2).1, kk ▸ a3, a4⟩
  have rc : codeAny (model X.prog X.w) X.A (.call (.ref g) ⟨[.ref f], []⟩) (CR C8.CX0 X.stack X.prog X.w H1 s' (QL G S H Q) C8.E0) s' := by
    refine run_ofS (N := Ng) (ps := [a]) (us := [.ref f]) (vs := [.ref f]) lk hcg Sg hr I1.env0 (hb s' [.ref f] I1.kIn rfl) (.cons rfl .nil) rfl fun hr' => ?_
    refine ⟨_, (pss_sSs (X := lamG X Ng x (defScope st) g cdv X.A X.stack s' H1)).nox, ?_⟩
    have act : ∀ (pn : List (Addr × Obj)) (xe : Value → Shared → Prop) (p1 p2 : Pos), JE G' ((lamG X Ng x (defScope st) g cdv X.A X.stack s' H1).tr pn xe) (.Call (.Name a p1) [] [] p2) (wAct f fun S' Q' E' => wb ε S' Q' E') := by
      intro pn xe p1 p2
      refine ⟨fun ε2 S2 Q2 E2 w2 σ2 H2 re2 sr2 W2 tk2 ex2 => fun pinsZ sZ IZ => ?_⟩
      obtain ⟨g1, g2⟩ := w2
      obtain ⟨v0, hs0, hv0⟩ := re2.2 0 _ g1
      cases hv0
      obtain ⟨srG, hc2, reC⟩ := up sr2
      refine wpAny_Call_Name_kw (thn ((pe_var (pos := p1) (i := 0) hNg hva hd hcd).run pinsZ sZ σ2 H2 (fun v H3 => v = .ref f ∧ H3 = H2) IZ ⟨.ref f, hs0, rfl, rfl⟩) fun u s1 ⟨v, H3, I3, r3, ev, eH⟩ => ?_)
      subst ev
      subst eH
      obtain rfl : u = Value.ref f := r3
      have of1 := I3.base.keep f _ hf hfn hfr (fun z => nomatch (show f ∈ ([] : List Addr) from z))
      refine PySem.W.callWith_F0 ⟨_, _, _, _, of1⟩ ?_
      have un : Un (frs X.stack) [] H1 H3 s'.heap s1.heap := I3.base
      obtain ⟨⟨oc2, vs2, t2, hoc, hdc, hvc⟩, _, _⟩ := I3.hok c' _ hc2
      have rc2 : codeAny (model X.prog X.w) (X.A.deeper (envOfC x (defScope st) s'.heap.objs.size g cdv)) (.call (.ref f) ⟨[], []⟩) (CR (L2.CX X.prog X.w) (envOfC x (defScope st) s'.heap.objs.size g cdv :: X.stack) X.prog X.w H3 s1 (QL G' S2 H3 Q2) (fun cls d H' => W2 cls d σ2 H')) s1 := by
        refine PySem.W.kla_callFunE hr'.depth of1 rfl L.co L.gen rfl ⟨c', oc2, vs2, t2, rfl, hoc, hdc, hvc⟩ ?_
        rw [hbind]
        refine wpAny_pure (wpAny_newFunctionEnv (fun y hy => (L.own y hy).2) (fun y hy => absurd hy (by simp)) (fun h₁ hns hsb => ⟨I3.nolimit.fresh _ hsb, ?_⟩) L.kind)
        show codeAny _ _ (.expr body (lamEnv X scope s1.heap.objs.size f c')) _ _
        have kp : ∀ b o, s1.heap.get? b = some o → h₁.get? b = some o := fun b o e => hsb.extBut b o (Nat.ne_of_lt (Heap.lt_size e)) (Heap.get?_push_of_some _ e)
        have J := lam_start2 (E := fun cls d H' => W2 cls d σ2 H') (f := f) (c' := c') (tk := s1.toks + ([] : List (Str × Value)).length) I1 L I3.env0 hr'.hd un hns kp
        refine PySem.W.kla_codeExpr (wpAny_mono ((hbody _ _ s1 H3 (fun cls d H' => W2 cls d σ2 H') f c' (hr'.deeper _)).run ε S2 Q2 E2 g2 σ H3 reC srG _ (takes_of rfl rfl rfl rfl) (fun n S4 cls d H4 st4 sr4 rx4 e4 => ?_) [] _ J) (fun v s4 hq => ?_) fun e s4 hq => hq)
        · -- the error
          refine ex2 n S4 cls d H4 st4 ?_ ?_ e4
          · subst hG'
            refine ⟨sr4.ok, sr4.tb, fun p hp => ?_, fun p hp => ?_⟩
            · rcases List.mem_cons.mp hp with e | hp
              · rw [e]
                have z := st4.fr c' _ (sr2.fx (c', φ) List.mem_cons_self).2 hc2 (fun ps q => by rw [hφ] at q; cases q)
                exact ⟨by rw [← hφ]; exact z.1, z.2⟩
              · exact sr4.fx p hp
            · rcases List.mem_cons.mp hp with e | hp
              · rw [e]; exact reC.stay st4.st
              · exact sr4.cp p hp
          · obtain ⟨C, h1, h2, h3⟩ := rx4
            exact ⟨C, by rw [ke]; exact h1, h2, by rw [kk]; exact h3⟩
        · obtain ⟨w', H', J', rv, y, S4, st4, sr4, ry, q4⟩ := hq
          refine ⟨w', H', J'.os, J'.bare, J'.base, J'.hok, rv, y, S4, st4, ?_, kk ▸ ry, q4⟩
          subst hG'
          refine ⟨sr4.ok, sr4.tb, fun p hp => ?_, fun p hp => ?_⟩
          · rcases List.mem_cons.mp hp with e | hp
            · rw [e]
              have z := st4.fr c' _ (sr2.fx (c', φ) List.mem_cons_self).2 hc2 (fun ps q => by rw [hφ] at q; cases q)
              exact ⟨by rw [← hφ]; exact z.1, z.2⟩
            · exact sr4.fx p hp
          · rcases List.mem_cons.mp hp with e | hp
            · rw [e]; exact reC.stay st4.st
            · exact sr4.cp p hp
      refine wpAny_call (codeAny_mono rc2 fun r s4 hq => ?_)
      cases r with
      | error e => exact passAt tk2 σ2 pinsZ H3 s1 e s4 I3 hq
      | ok fl =>
        cases fl with
        | ret u => exact I3.after hq
        | next => exact False.elim hq
        | brk => exact False.elim hq
        | cont => exact False.elim hq
    refine (hG G' _ f cdv s' H1 kk ke hr' act).dn (w f) (kk ▸ renv_start (K := G.K) (xs := [.ref f]) ⟨_, _, rfl, rfl, rfl⟩) sr' L2.takes0 (fun _ _ _ _ _ _ _ _ _ _ _ z => z.elim) ⟨?_, fun v H' q => (upQ q).mono st1, ?_, ?_⟩
    · exact fun σ' H' ⟨ε', S', st, sr2, re2, q⟩ => ⟨.non, S', st1.trans st, (up sr2).1, rfl, q⟩
    · exact fun σ' H' ⟨ε', S', st, sr2, re2, q⟩ => q.elim
    · exact fun σ' H' ⟨ε', S', st, sr2, re2, q⟩ => q.elim
  refine wpAny_call (codeAny_mono rc fun r s2 hq => ?_)
  cases r with
  | error e => exact (show False from hq).elim
  | ok fl =>
    cases fl with
    | ret u => exact I1.after hq
    | next => exact False.elim hq
    | brk => exact False.elim hq
    | cont => exact False.elim hq
end
end L3

set_option Elab.async false
set_option linter.all false
set_option maxRecDepth 100000
set_option maxHeartbeats 4000000
namespace L3
open PySem PySem.Spec L2
open PyProof.Rows hiding St
section
variable {P : Program} {w : World} {mg : Str → Option Value} {base : Heap} {G : Gd}
/-- a def whose code object is known -/
theorem fn_okC {x qual : Str} {st : Stmt} {f : Addr} {fd : FuncData} {N ps : List Str} {k : Nat} {sp : PSp} {W : WS} (F : Fun G.K x qual st f fd) (Sc : FnScope N ps (defScope st)) (len : ∀ xs S Q E, sp xs S Q E → xs.length = ps.length)
    (hbody : ∀ (cdv : Value) (A : Around) (outer : List Env) (s : Shared) (H : Hp) (E : XK), fd.code = cdv → Room k (A.deeper (envOfC qual (defScope st) s.heap.objs.size f cdv)) → JSs G (cxOf (L2.CX P w) P w G.K mg base N qual (defScope st) f cdv A outer s H E) (defBody st) W)
    (hW : ∀ xs S Q E, sp xs S Q E → W (PD.fn Q E) (startP N xs) S) : FnP G P w mg base (k + 1) f fd ps sp := by
  obtain ⟨oc, od, kV, doc, pm, an, cdv, ct, osl, rfl, lk, hcd⟩ := F.ex
  refine fn_of lk hcd Sc (fun vs H Q E ⟨xs, S, Q', E', r, _, h, _⟩ => by rw [← reps_length r]; exact len _ _ _ _ h) fun A outer s H vs Q E hr ⟨xs, S, Q', E', r, sr, h, k1, k2⟩ => ?_
  refine ⟨_, pss_sSs, (hbody cdv A outer s H E rfl hr).dn (hW xs S Q' E' h) (renv_start r) sr (takes_of rfl rfl rfl rfl) (fun n ε' S' cls d σ' H' st sr' _ rx e => k2 n S' cls d H' st sr' rx e) ⟨?_, fun v H' q => k1 v H' q, ?_, ?_⟩⟩
  · exact fun σ' H' ⟨ε', S', st, sr', re', q⟩ => k1 _ _ ⟨.non, S', st, sr', rfl, q⟩
  · exact fun σ' H' ⟨ε', S', st, sr', re', q⟩ => q.elim
  · exact fun σ' H' ⟨ε', S', st, sr', re', q⟩ => q.elim
end
/-! ### the end -/
def isLstV : Value → Bool
  | .type n => n == "list"
  | _ => false
def noLst (K : PySem.W.Frag) : Bool := K.all fun p => !isLstV p.2.cls
theorem lookup_mem3 {a : Addr} {o : Obj} : ∀ {l : List (Addr × Obj)}, l.lookup a = some o → (a, o) ∈ l
  | [], h => by cases h
  | (b, u) :: l, h => by
    rw [List.lookup_cons] at h
    split at h
    · rename_i e
      cases h
      rw [beq_iff_eq.mp e]
      exact List.mem_cons_self
    · exact List.mem_cons_of_mem _ (lookup_mem3 h)
theorem noLst_get {K : PySem.W.Frag} (h : noLst K = true) {a : Addr} {o : Obj} (e : K.lookup a = some o) : o.cls ≠ .type "list" := fun z => by
  have q := List.all_eq_true.mp h _ (lookup_mem3 e)
  rw [show (a, o).2.cls = Value.type "list" from z] at q
  cases q
structure EndK (K : PySem.W.Frag) (h : Heap) (cs : List (Addr × Addr × Str)) : Prop where
  nl : noLst K = true
  tb : ∀ p ∈ cs, PySem.W.CodeHd h p.1 p.2.1 ∧ h.get? p.2.1 = some (PySem.W.tabObj #[])
  no : ∀ p ∈ cs, K.lookup p.2.1 = none
abbrev startS (a : Addr) (ns : List Int) : Sto := fun b => if b = a then some (.rol (ns.map PV.int)) else none
def LawP (sp : PSp) (n : Nat) : Prop := ∀ (a : Addr) (ns : List Int), ns.length ≤ n → (∀ z ∈ ns, Builtin.Int.intBits z ≤ 1048576) → sp [.ref a] (startS a ns) (fun v _ => v = .bl true) (fun _ _ => False)
open LamX in
theorem walk3 {l : PySem.W.OpenLaw} {n k : Nat} {q : Program} {loose : List Str} {XP : (Str → Option Value) → Heap → Prop} {YP : World → Heap → Prop} {d : DefRec} {K : Params → PySem.W.Frag} {x : Str} {sp : PSp}
    (hn : l.most = some n) (hn2 : n ≤ sizeLine) (hdf : d.params.defaults = []) (hr : Room k callerA) (hY : ∀ (w : World) (h : Heap), YP w h → (K w.params).In h) (hsp : LawP sp n)
    (F : ∀ (w : World) (mg mb : Str → Option Value) (mean : ExcName → Option Value) (fa : Addr) (h : Heap), Top q (PySem.W.looseW q loose) mean mg mb h → YP w h → (K w.params).In h → h.Ns mainGlobals mg → mg d.name = some (.ref fa) →
      ∃ (cs : List (Addr × Addr × Str)) (fd : FuncData) (ec : Str → Option Addr), EndK (K w.params) h cs ∧ (∀ (s : Shared) (u : Value), BindsTo s fd ⟨[u], []⟩ [(x, u)]) ∧
        ∀ base : Heap, (K w.params).In base → base.Ns mainGlobals mg → (∀ p ∈ cs, TabB base mg p.1 p.2.1) → FnP ⟨K w.params, cs.map (·.2), ec, [], []⟩ l.prog w mg base k fa fd [x] sp) :
    PySem.W.WalkO q loose XP YP l.row.toRowW d [] (fun f vs => PySem.call f vs) := by
  refine Att.attach_callB hn hdf fun w s₀ s₁ mg mb fa o pm cd doc a vs ns G Y ho hd hcd hmg hobj hints hlen hbits hg => ?_
  have KX := hY w _ Y
  obtain ⟨cs, fd, ec, ek, hb, hF⟩ := F w mg mb _ fa _ G.T Y KX G.T.g hmg
  have mem : ∀ {p : Addr × Addr}, p ∈ cs.map (fun p => (p.1, p.2.1)) → ∃ q ∈ cs, p = (q.1, q.2.1) := fun hp => by
    obtain ⟨q, hq, e⟩ := List.mem_map.mp hp
    exact ⟨q, hq, e.symm⟩
  refine law_callTs (cs := cs.map fun p => (p.1, p.2.1)) (CX := L2.CX l.prog w) (sp := liftSp ⟨K w.params, cs.map (·.2), ec, [], []⟩ sp) KX G.T.g G.T.b G.T.builtins G.T.nolimit hg (fun p hp => ?_) (fun p hp => ?_) (fun p hp => ?_) G.T.bmain hobj hints (Nat.le_trans hlen hn2) hr (fun base h1 h2 h3 => hF base h1 h2 fun p hp => h3 (p.1, p.2.1) (List.mem_map.mpr ⟨p, hp, rfl⟩)) hb (fun H hH hS => ?_) fun H e s' => ?_
  · obtain ⟨q, hq, rfl⟩ := mem hp
    exact (ek.tb q hq).2
  · obtain ⟨q, hq, rfl⟩ := mem hp
    exact ek.no q hq
  · obtain ⟨q, hq, rfl⟩ := mem hp
    exact (ek.tb q hq).1
  · have rd : Rd H a (.lst (ns.map V.int)) := by
      rcases hS with h | ⟨o, its, m, e, c, _⟩
      · exact h
      · exact absurd c (noLst_get ek.nl e)
    refine ⟨[.ref a], startS a ns, _, _, ⟨_, _, rfl, rfl, rfl⟩, ⟨fun b o e => ?_, fun p hp => ?_, fun p hp => (nomatch hp), fun p hp => (nomatch hp)⟩, hsp a ns hlen hbits, fun v H' ⟨y, S', _, _, r, e⟩ => ?_, fun _ _ _ _ _ _ _ _ z => z⟩
    · by_cases hb : b = a
      · have e' := (if_pos hb).symm.trans e
        cases e'
        rw [hb]
        exact ⟨_, rd, reps_ints.mpr rfl⟩
      · have e' := (if_neg hb).symm.trans e
        cases e'
    · obtain ⟨q, hq, rfl⟩ := List.mem_map.mp hp
      have h0 : H q.2.1 = some (.tbl #[]) := hH (q.1, q.2.1) (List.mem_map.mpr ⟨q, hq, rfl⟩)
      exact ⟨#[], h0, by simp [TriplesOk], fun pos cv hc => (nomatch (show (none : Option Value) = some cv from hc))⟩
    · subst e
      exact r
  · rintro ⟨a', B, H', cls, dd, rfl, fl, hok, ub, na, os, ag, hE⟩
    exact hE
end L3

set_option Elab.async false
set_option linter.all false
set_option maxRecDepth 100000
set_option maxHeartbeats 4000000
namespace L3
open PySem PySem.Spec L2
open PyProof.Rows hiding St
section
variable {G : Gd} {X : Cx} {H H1 : Hp} {S S1 : Sto} {σ : L2.St} {ε : PEnv}
/-- a built-in class's name -/
theorem je_blt {x : Str} {n : String} {pos : Pos} (hg : Gl X x) (hm : X.mg x = none) (hv : bootBuiltins x = some (.type n)) (hn : x ≠ "__name__" := by decide) (hd : (x == ("__debug__" : Str)) = false := by decide) : JE G X (.Name x pos) (wC (.ty n)) :=
  je_c (pe_bltn (v := .ty n) hg hm hv rfl hn hd) fun _ => rfl
theorem je_gint {x : Str} {i : Int} {pos : Pos} (hg : Gl X x) (hm : ∃ t, X.mg x = some (.int i t)) (hd : (x == ("__debug__" : Str)) = false := by decide) : JE G X (.Name x pos) (wC (.int i)) :=
  let ⟨t, h⟩ := hm; je_glob (v := .int i) hg h ⟨t, rfl⟩ (fun _ => rfl) hd
theorem je_gstr {x i : Str} {pos : Pos} (hg : Gl X x) (hm : ∃ t, X.mg x = some (.str i t)) (hd : (x == ("__debug__" : Str)) = false := by decide) : JE G X (.Name x pos) (wC (.str i)) :=
  let ⟨t, h⟩ := hm; je_glob (v := .str i) hg h ⟨t, rfl⟩ (fun _ => rfl) hd
theorem gd_cases {G G' : Gd} (hK : G'.K = G.K) (hE : G'.ec = G.ec) : ∃ T fx cps, G' = ⟨G.K, T, G.ec, fx, cps⟩ := by
  obtain ⟨K', T', ec', fx', cps'⟩ := G'
  dsimp only at hK hE
  subst hK hE
  exact ⟨_, _, _, rfl⟩
theorem ec_all {l : List (Str × Addr)} {Q : Str → Addr → Prop} (h : ∀ p ∈ l, Q p.1 p.2) : ∀ n D, l.lookup n = some D → Q n D := by
  induction l with
  | nil => intro n D e; cases e
  | cons q l ih =>
    intro n D e
    rw [List.lookup_cons] at e
    split at e
    · rename_i z
      cases e
      rw [beq_iff_eq.mp z]
      exact h q List.mem_cons_self
    · exact ih (fun p hp => h p (List.mem_cons_of_mem _ hp)) n D e
structure ExcK (K : PySem.W.Frag) (ec : Str → Option Addr) (mg : Str → Option Value) (x : Str) (C : Addr) : Prop where
  ec : ec x = some C
  ei : PySem.W.excIn K C [.type "ValueError", .type "Exception", .type "BaseException", .type "object"] "ValueError.__new__" = true
  mg : mg x = some (.ref C)
  kp : PySem.W.keepIn K (.ref C) = true
  sb : PySem.W.subIn K (.ref C) (.type "BaseException") = some true
  ty : PySem.W.typeIn K (.ref C) = some (.type "type")
theorem ExcK.t {mg : Str → Option Value} {x : Str} {C : Addr} (h : ExcK G.K G.ec mg x C) : ExcT G mg x C := ⟨h.ec, h.ei, h.mg, h.kp, h.sb, h.ty⟩
/-- isinstance(e, C), the error at a -/
def wIsE (i : Nat) (a : Addr) (b : Bool) : WE := fun ε S Q _ => ε[i]? = some (some (.ref a)) ∧ Q (.bl b) S
theorem je_isET {i : Nat} {a D : Addr} {n : PX} {oe : Obj} {pn : List (Addr × Obj)} {v c : Str} {tn : String} {b : Bool} {d : Option Addr} {p p1 p2 pos : Pos} (hv : JE G (X.suite a ((a, oe) :: pn)) (.Name v p1) (wV i)) (E : ExcC X.K D) (hn : n.arg = none) (hd : n.arg = none → d = none) (hz : Zc (.ref D) d oe) (hf : ∃ vs, oe.data = .fields vs)
    (hg : Gl X "isinstance") (hm : X.mg "isinstance" = none) (hgc : Gl X c) (hmc : X.mg c = none) (hbc : bootBuiltins c = some (.type tn)) (hk : PySem.W.kitOne X.K (.ref D) (.type tn) = some b) (hdb : (c == ("__debug__" : Str)) = false := by decide) (hnn : c ≠ "__name__" := by decide)
    (hs : starEach [.Name v p1, .Name c p2] X.env = (false, eval (.Name v p1) X.env) :: starEach [.Name c p2] X.env := by rfl) (hs2 : starEach [.Name c p2] X.env = (false, eval (.Name c p2) X.env) :: starEach [] X.env := by rfl) (hpl : (backTo pos (starEach [.Name c p2] X.env)).any (·.1) = false := by rfl) :
    JE G (X.suite a ((a, oe) :: pn)) (.Call (.Name "isinstance" p) [.Name v p1, .Name c p2] [] pos) (wIsE i a b) :=
  ⟨fun ε S Q E' w σ H re sr Wx tk ex => by
    obtain ⟨w1, w2⟩ := w
    have hd0 := hd hn
    subst hd0
    refine sE_of (pe_callB (call_isE E hz hf) hg hm (by decide +kernel) (pa_cons pe_sE (pa_cons (pe_bltn (v := .ty tn) hgc hmc hbc rfl hnn hdb) pa_nil hs2) hs) (by decide) (by decide) hs hpl) ?_
    refine hv.dn (Q := fun x S1 => x = .ref a ∧ S1 = S) (E := E') (by unfold wV; rw [w1]; exact ⟨rfl, rfl⟩) re sr tk ex fun u H1 ⟨y, S1, s1, sr1, r1, ey, eS⟩ => ?_
    subst ey eS
    cases r1
    refine ⟨.ty tn, .type tn, _, rfl, fun u hu => hu, hk, (ql_bl (Q := Q) sr1 w2).mono s1⟩⟩
/-- an error without an argument -/
def wArgN (n : PX) (w : WS) : WS := fun D ε S => n.arg = none ∧ w D ε S
theorem jss_argN {n : PX} {sts : List Stmt} {w : WS} (h : n.arg = none → JSs G X sts w) : JSs G X sts (wArgN n w) := ⟨fun D ε S ⟨e, q⟩ => (h e).run D ε S q⟩
def cReprB : OC := fun xs S Q => match xs with
  | [.bl b] => Q (.str (if b then "True" else "False")) S
  | _ => False
theorem call_reprB : CallR X (.builtin "repr") (fun xs H Q => ∃ b, xs = [.bl b] ∧ Q (.str (if b then "True" else "False")) H) := by
  intro pins s σ H xs us Q I r h
  obtain ⟨b, rfl, q⟩ := h
  obtain ⟨u, rfl, t⟩ := vals1 r
  cases t
  exact PySem.P.repr_of_bool ⟨.str _, H, I.tok _, ⟨_, rfl⟩, q⟩
theorem cl_reprB : CallL G (fun xs H Q => ∃ b, xs = [.bl b] ∧ Q (.str (if b then "True" else "False")) H) cReprB := fun H S xs vs Q K sr r k q => by
  unfold cReprB at q
  split at q
  · obtain ⟨v, rfl, rv⟩ := reps1 r
    cases rv
    exact ⟨_, rfl, k _ _ (ql_str sr q)⟩
  · exact q.elim
end
section
variable {G : Gd} {X : Cx}
def rSumAll (K : PySem.W.Frag) : List V → Hp → VK → Prop := fun vs H Q => ∃ (a : Addr) (ns : List Int), vs = [V.ref a] ∧ (SqL K H a (ns.map V.int) ∨ SqT K H a (ns.map V.int)) ∧ Q (.int ns.sum) H
theorem cr_sum2 (hc : X.calm = true) : CallR X (.builtin "sum") (rSumAll X.K) := by
  intro pins s σ H vs us Q I r h
  obtain ⟨a, ns, rfl, hs | hs, q⟩ := h
  · exact cr_sum hc pins s σ H _ us Q I r ⟨a, ns, rfl, hs, q⟩
  · obtain ⟨its, rv, hl, _⟩ := I.tuple hs
    rw [Vals.ref1 r]
    have hi := rv.ints
    obtain ⟨xs, e⟩ := hi.allInts.items
    have hn : numsOf (intItems xs).toList = ns := by rw [← e]; exact hi.numsOf
    rw [nums_intItems] at hn
    have hl' : s.heap.IsTuple a its.toArray := hl
    rw [e] at hl'
    refine PySem.W.ktm_sumG (I.ok.hd hc) hl' fun h' tk t' hk => ?_
    refine ⟨.int _, H, I.kept hk, ⟨t', ?_⟩, q⟩
    rw [preSum_eq, List.take_of_length_le (by simp), hn]
def cSum2 : OC := fun xs S Q => match xs with
  | [.ref a] => ∃ ns : List Int, IntsAt S a ns ∧ Q (.int ns.sum) S
  | [.tup ys] => ∃ ns : List Int, ys = ns.map PV.int ∧ Q (.int ns.sum) S
  | _ => False
theorem cl_sum2 : CallL G (rSumAll G.K) cSum2 := fun H S xs vs Q K sr r k q => by
  unfold cSum2 at q
  split at q
  · obtain ⟨v, rfl, rv⟩ := reps1 r
    cases rv
    obtain ⟨ns, e, q⟩ := q
    exact ⟨_, ns, rfl, .inl (ints_at sr e), k _ _ (ql_int sr q)⟩
  · obtain ⟨v, rfl, rv⟩ := reps1 r
    obtain ⟨a, ws, rfl, ha, ra⟩ := rv
    obtain ⟨ns, rfl, q⟩ := q
    rw [reps_ints] at ra
    subst ra
    exact ⟨_, ns, rfl, .inr ha, k _ _ (ql_int sr q)⟩
  · exact q.elim
end
/-! ### what a def leaves behind is dropped -/
def dnQ (Q : KE) : KE := fun x S => ∃ S2, Sub S2 S ∧ Q x S2
def PD.fnD (Q : KE) (E : KX) : PD := PD.fn (dnQ Q) fun n S => ∃ S2, Sub S2 S ∧ E n S2
section
variable {P : Program} {w : World} {mg : Str → Option Value} {base : Heap} {G : Gd}
theorem QL.down {S : Sto} {H H' : Hp} {Q : KE} {v : V} (h : QL G S H (dnQ Q) v H') : QL G S H Q v H' := let ⟨x, S1, s1, sr1, r, S2, sb, q⟩ := h; ⟨x, S2, s1.sub sb, sr1.sub sb, r, q⟩
theorem fn_okD {x qual : Str} {st : Stmt} {f : Addr} {fd : FuncData} {N ps : List Str} {k : Nat} {sp : PSp} {W : WS} (F : Fun G.K x qual st f fd) (Sc : FnScope N ps (defScope st)) (len : ∀ xs S Q E, sp xs S Q E → xs.length = ps.length)
    (hbody : ∀ (cdv : Value) (A : Around) (outer : List Env) (s : Shared) (H : Hp) (E : XK), fd.code = cdv → Room k (A.deeper (envOfC qual (defScope st) s.heap.objs.size f cdv)) → JSs G (cxOf (L2.CX P w) P w G.K mg base N qual (defScope st) f cdv A outer s H E) (defBody st) W)
    (hW : ∀ xs S Q E, sp xs S Q E → W (PD.fnD Q E) (startP N xs) S) : FnP G P w mg base (k + 1) f fd ps sp := by
  obtain ⟨oc, od, kV, doc, pm, an, cdv, ct, osl, rfl, lk, hcd⟩ := F.ex
  refine fn_of lk hcd Sc (fun vs H Q E ⟨xs, S, Q', E', r, _, h, _⟩ => by rw [← reps_length r]; exact len _ _ _ _ h) fun A outer s H vs Q E hr ⟨xs, S, Q', E', r, sr, h, k1, k2⟩ => ?_
  refine ⟨_, pss_sSs, (hbody cdv A outer s H E rfl hr).dn (hW xs S Q' E' h) (renv_start r) sr (takes_of rfl rfl rfl rfl) (fun n ε' S' cls d σ' H' st sr' _ rx ⟨S2, sb, e⟩ => k2 n S2 cls d H' (st.sub sb) (sr'.sub sb) rx e) ⟨?_, fun v H' q => k1 v H' q.down, ?_, ?_⟩⟩
  · exact fun σ' H' ⟨ε', S', st, sr', re', q⟩ => k1 _ _ (QL.down ⟨.non, S', st, sr', rfl, q⟩)
  · exact fun σ' H' ⟨ε', S', st, sr', re', q⟩ => q.elim
  · exact fun σ' H' ⟨ε', S', st, sr', re', q⟩ => q.elim
/-! ### the hand -/
abbrev handS (h c : Addr) (cells : List Int) (p l m k : Int) : Sto := supd (supd (fun _ => none) h (.lst [.ref c, .int p, .int l, .int m, .int k])) c (.lst (cells.map PV.int))
/-- a draw: some number below the bound, the view is as it was -/
def spDraw : PSp := fun xs S Q _ => ∃ (h : Addr) (n : Int), xs = [.ref h, .int n] ∧ S h = some .hand ∧ 0 < n ∧ n < 2 ^ 64 ∧ ∀ d : Int, 0 ≤ d → d < n → Q (.int d) S
structure DrawP (sp : PSp) : Prop where
  run : ∀ (h c : Addr) (cells : List Int) (p l m k n : Int) (Q : KE) (E : KX), h ≠ c → 0 < n → n < 2 ^ 64 → (∀ x ∈ cells, 0 ≤ x) → 0 ≤ p → 0 ≤ l → 0 ≤ m → 0 ≤ k → cells.length ≤ 63 →
    (∀ (d p l m k : Int), 0 ≤ d → d < n → 0 ≤ p → 0 ≤ l → 0 ≤ m → 0 ≤ k → Q (.int d) (handS h c cells p l m k)) → sp [.ref h, .int n] (handS h c cells p l m k) Q E
theorem draw_ok {k : Nat} {f : Addr} {fd : FuncData} {ps : List Str} {sp : PSp} (F : FnP G P w mg base k f fd ps sp) (hp : DrawP sp) : FnP G P w mg base k f fd ps spDraw := by
  refine FnOk.imp F fun vs H Q E ⟨xs, S, Q', E', r, sr, q, k1, k2⟩ => ?_
  obtain ⟨h, n, rfl, hS, hn, hn2, hq⟩ := q
  obtain ⟨c, hc, cells, p, l, m, kk, e1, e2, g1, g2, g3, g4, g5, g6⟩ := sr.ok h _ hS
  have hne : h ≠ c := fun z => by rw [z, hc] at hS; cases hS
  have sh : handS h c cells p l m kk h = some (.lst [.ref c, .int p, .int l, .int m, .int kk]) := by
    rw [handS, supd_ne hne, supd_same]
  have sc : handS h c cells p l m kk c = some (.lst (cells.map PV.int)) := supd_same
  have so : ∀ b p l m kk, b ≠ h → b ≠ c → handS h c cells p l m kk b = none := fun b p l m kk n1 n2 => by
    rw [handS, supd_ne n2, supd_ne n1]
  have S0 : SR G H (handS h c cells p l m kk) := by
    refine ⟨fun b o e => ?_, sr.tb, fun p hp => ⟨(sr.fx p hp).1, ?_⟩, sr.cp⟩
    · by_cases hb : b = h
      · rw [hb, sh] at e; cases e
        rw [hb]
        exact ⟨_, e1, _, _, rfl, rfl, _, _, rfl, rfl, _, _, rfl, rfl, _, _, rfl, rfl, _, _, rfl, rfl, rfl⟩
      · by_cases hb2 : b = c
        · rw [hb2, sc] at e; cases e
          rw [hb2]
          exact ⟨_, e2, reps_ints.mpr rfl⟩
        · rw [so b _ _ _ _ hb hb2] at e; cases e
    · refine so _ _ _ _ _ (fun z => ?_) fun z => ?_
      · have := (sr.fx p hp).2; rw [z, hS] at this; cases this
      · have := (sr.fx p hp).2; rw [z, hc] at this; cases this
  refine ⟨_, _, fun x S' => ∃ d p l m k : Int, x = .int d ∧ 0 ≤ d ∧ d < n ∧ 0 ≤ p ∧ 0 ≤ l ∧ 0 ≤ m ∧ 0 ≤ k ∧ S' = handS h c cells p l m k, fun _ _ => False, r, S0, hp.run h c cells p l m kk n _ _ hne hn hn2 g1 g2 g3 g4 g5 g6 fun d p l m k a1 a2 a3 a4 a5 a6 => ⟨d, p, l, m, k, rfl, a1, a2, a3, a4, a5, a6, rfl⟩, fun v H' ⟨x, S', st, sr', rx, d, p', l', m', k', ex, a1, a2, a3, a4, a5, a6, eS⟩ => ?_, fun _ _ _ _ _ _ _ _ z => z.elim⟩
  subst ex eS
  have hh : H' h = some (.lst [.ref c, .int p', .int l', .int m', .int k']) := by
    obtain ⟨vs, e, rv⟩ := sr'.ok h _ (show handS h c cells p' l' m' k' h = some (.lst [.ref c, .int p', .int l', .int m', .int k']) by rw [handS, supd_ne hne, supd_same])
    obtain ⟨_, _, rfl, ra, _, _, rfl, rb, _, _, rfl, rc, _, _, rfl, rd, _, _, rfl, re, rfl⟩ := rv
    cases ra; cases rb; cases rc; cases rd; cases re
    exact e
  have hcc : H' c = some (.lst (cells.map V.int)) := by
    obtain ⟨vs, e, rv⟩ := sr'.ok c _ (show handS h c cells p' l' m' k' c = _ from supd_same)
    rw [reps_ints.mp rv] at e
    exact e
  have stay : ∀ b o, b ≠ h → b ≠ c → H b = some o → (∀ ps, o ≠ .tbl ps) → H' b = some o := fun b o n1 n2 e t => (st.fr b o (so b _ _ _ _ n1 n2) e t).1
  have notb : ∀ b o u, S b = some o → H b = some u → ∀ ps, u ≠ .tbl ps := fun b o u q hu ps z => by
    have m := sr.ok b o q
    subst z
    cases o with
    | lst xs => obtain ⟨vs, e1, _⟩ := m; rw [hu] at e1; cases e1
    | rol xs =>
      obtain ⟨vs, e1 | ⟨v, e1⟩, _⟩ := m
      · rw [hu] at e1; cases e1
      · rw [hu] at e1; cases e1
    | hand => obtain ⟨c, _, cells, p, l, m, k, e1, _⟩ := m; rw [hu] at e1; cases e1
    | priv => obtain ⟨vs, e1⟩ := m; rw [hu] at e1; cases e1
    | dct kvs => obtain ⟨vs, e1, _⟩ := m; rw [hu] at e1; cases e1
  have srS : SR G H' S := by
    refine ⟨fun b o e => ?_, sr'.tb, fun p hp => ⟨(sr'.fx p hp).1, (sr.fx p hp).2⟩, sr'.cp⟩
    by_cases hb : b = h
    · rw [hb, hS] at e; cases e
      rw [hb]
      exact ⟨c, hc, cells, p', l', m', k', hh, hcc, g1, a3, a4, a5, a6, g6⟩
    · by_cases hb2 : b = c
      · rw [hb2, hc] at e; cases e
        rw [hb2]
        exact ⟨_, hcc⟩
      · refine (sr.ok b o e).keep st.st (fun u hu => stay b u hb hb2 hu (notb b o u e hu)) fun c2 ec2 => ⟨ec2, fun u hu => ?_⟩
        by_cases hc2 : c2 = c
        · rw [hc2] at hu ⊢
          rw [e2] at hu; cases hu
          exact hcc
        · have n2 : c2 ≠ h := fun z => by rw [z, hS] at ec2; cases ec2
          exact stay c2 u n2 hc2 hu (notb c2 _ u ec2 hu)
  refine k1 v H' ⟨.int d, S, ⟨st.st, fun b o n e t => ?_⟩, srS, rx, hq d a1 a2⟩
  have n1 : b ≠ h := fun z => by rw [z, hS] at n; cases n
  have n2 : b ≠ c := fun z => by rw [z, hc] at n; cases n
  exact ⟨stay b o n1 n2 e t, n⟩
/-- the hand is made -/
def spHand : PSp := fun xs S Q _ => ∃ (a : Addr) (ns : List Int), xs = [.ref a] ∧ RdL S a (ns.map PV.int) ∧ ∀ h c : Addr, h ≠ c → S h = none → S c = none → Q (.ref h) (supd (supd S c .priv) h .hand)
structure HandP (sp : PSp) : Prop where
  run : ∀ (a : Addr) (ns : List Int) (S : Sto) (Q : KE) (E : KX), RdL S a (ns.map PV.int) →
    (∀ (h c : Addr) (cells : List Int) (p l m k : Int), h ≠ c → S h = none → S c = none → (∀ x ∈ cells, 0 ≤ x) → 0 ≤ p → 0 ≤ l → 0 ≤ m → 0 ≤ k → cells.length ≤ 63 → Q (.ref h) (supd (supd S c (.lst (cells.map PV.int))) h (.lst [.ref c, .int p, .int l, .int m, .int k]))) → sp [.ref a] S Q E
theorem hand_ok {k : Nat} {f : Addr} {fd : FuncData} {ps : List Str} {sp : PSp} (F : FnP G P w mg base k f fd ps sp) (hp : HandP sp) : FnP G P w mg base k f fd ps spHand := by
  refine FnOk.imp F fun vs H Q E ⟨xs, S, Q', E', r, sr, q, k1, k2⟩ => ?_
  obtain ⟨a, ns, rfl, hS, hq⟩ := q
  refine ⟨_, S, fun x S' => ∃ (h c : Addr) (cells : List Int) (p l m k : Int), x = .ref h ∧ h ≠ c ∧ S h = none ∧ S c = none ∧ (∀ x ∈ cells, 0 ≤ x) ∧ 0 ≤ p ∧ 0 ≤ l ∧ 0 ≤ m ∧ 0 ≤ k ∧ cells.length ≤ 63 ∧ S' = supd (supd S c (.lst (cells.map PV.int))) h (.lst [.ref c, .int p, .int l, .int m, .int k]), fun _ _ => False, r, sr, hp.run a ns S _ _ hS fun h c cells p l m k a1 a2 a3 a4 a5 a6 a7 a8 a9 => ⟨h, c, cells, p, l, m, k, rfl, a1, a2, a3, a4, a5, a6, a7, a8, a9, rfl⟩, fun v H' ⟨x, S', st, sr', rx, h, c, cells, p, l, m, k, ex, a1, a2, a3, a4, a5, a6, a7, a8, a9, eS⟩ => ?_, fun _ _ _ _ _ _ _ _ z => z.elim⟩
  subst ex eS
  have hh : H' h = some (.lst [.ref c, .int p, .int l, .int m, .int k]) := by
    obtain ⟨vs, e, rv⟩ := sr'.ok h _ supd_same
    obtain ⟨_, _, rfl, ra, _, _, rfl, rb, _, _, rfl, rc, _, _, rfl, rd, _, _, rfl, re, rfl⟩ := rv
    cases ra; cases rb; cases rc; cases rd; cases re
    exact e
  have hcc : H' c = some (.lst (cells.map V.int)) := by
    obtain ⟨vs, e, rv⟩ := sr'.ok c _ (show supd (supd S c (.lst (cells.map PV.int))) h (.lst [.ref c, .int p, .int l, .int m, .int k]) c = some (.lst (cells.map PV.int)) by rw [supd_ne (Ne.symm a1), supd_same])
    rw [reps_ints.mp rv] at e
    exact e
  have eq : ∀ b, b ≠ h → b ≠ c → ∀ u1 u2, supd (supd S c u1) h u2 b = S b := fun b n1 n2 u1 u2 => by rw [supd_ne n1, supd_ne n2]
  refine k1 v H' ⟨.ref h, _, ⟨st.st, fun b o n e t => ?_⟩, ⟨fun b o e => ?_, sr'.tb, fun q hq => ⟨(sr'.fx q hq).1, ?_⟩, sr'.cp⟩, rx, hq h c a1 a2 a3⟩
  · obtain ⟨f1, f2⟩ := st.fr b o n e t
    refine ⟨f1, ?_⟩
    have n1 : b ≠ h := fun z => by rw [z, supd_same] at f2; cases f2
    have n2 : b ≠ c := fun z => by rw [z, supd_ne (Ne.symm a1), supd_same] at f2; cases f2
    rw [eq b n1 n2]; exact n
  · by_cases hb : b = h
    · rw [hb, supd_same] at e; cases e
      rw [hb]
      exact ⟨c, by rw [supd_ne (Ne.symm a1), supd_same], cells, p, l, m, k, hh, hcc, a4, a5, a6, a7, a8, a9⟩
    · by_cases hb2 : b = c
      · rw [hb2, supd_ne (Ne.symm a1), supd_same] at e; cases e
        rw [hb2]
        exact ⟨_, hcc⟩
      · rw [eq b hb hb2] at e
        refine (sr'.ok b o (by rw [eq b hb hb2]; exact e)).keep (.refl _) (fun u hu => hu) fun c2 ec2 => ⟨?_, fun u hu => hu⟩
        by_cases h1 : c2 = h
        · rw [h1, supd_same] at ec2; cases ec2
        · by_cases h2 : c2 = c
          · rw [h2, supd_ne (Ne.symm a1), supd_same] at ec2; cases ec2
          · rw [eq c2 h1 h2] at ec2 ⊢; exact ec2
  · have z := (sr'.fx q hq).2
    have n1 : q.1 ≠ h := fun y => by rw [y, supd_same] at z; cases z
    have n2 : q.1 ≠ c := fun y => by rw [y, supd_ne (Ne.symm a1), supd_same] at z; cases z
    rw [eq _ n1 n2] at z ⊢; exact z
end
end L3

set_option Elab.async false
set_option linter.all false
set_option maxRecDepth 100000
set_option maxHeartbeats 4000000
namespace L3
open PySem PySem.Spec L2
open PyProof.Rows hiding St
/-! ### plain readings -/
section
variable {S S1 : Sto} {ε : PEnv} {D : PD}
theorem s_seq {a b : WS} (h : a { D with nx := b D } ε S) : wSeq a b D ε S := h
theorem s_set {i : Nat} {w : WE} (h : w ε S (fun x S1 => D.nx (ε.set i (some x)) S1) (fun n S1 => D.ex n ε S1)) : wSet i w D ε S := h
theorem s_asg {g : WG} {w : WE} (h : w ε S (fun x S1 => g x ε S1 D.nx) (fun n S1 => D.ex n ε S1)) : wAsg w g D ε S := h
theorem s_expr {w : WE} (h : w ε S (fun _ S1 => D.nx ε S1) (fun n S1 => D.ex n ε S1)) : wExpr w D ε S := h
theorem s_ret {w : WE} (h : w ε S D.rt (fun n S1 => D.ex n ε S1)) : wRet w D ε S := h
theorem s_if {t : WT} {a b : WS} (h : t ε S (fun c S1 => if c = true then a D ε S1 else b D ε S1) (fun n S1 => D.ex n ε S1)) : wIf t a b D ε S := h
theorem s_next (h : D.nx ε S) : wNext D ε S := h
theorem s_for {wi : WI} {g : WG} {body : WS} (h : wi ε S (fun src S1 => forW src.keep g body D src.items ε S1) (fun n S1 => D.ex n ε S1)) : wFor wi g body D ε S := h
theorem s_par {i j : Nat} {w : WA} (h : w ε S (fun xs S1 => match xs with
  | [x, y] => D.nx ((ε.set i (some x)).set j (some y)) S1
  | _ => False) (fun n S1 => D.ex n ε S1)) : wPar i j w D ε S := h
theorem s_raise {x : Str} (h : D.ex ⟨x, none⟩ ε S) : wRaise x D ε S := h
/-- loops by an invariant -/
theorem for_inv {keep : Sto → Prop} {g : WG} {body : WS} {D : PD} (P : Nat → PEnv → Sto → Prop) {items : List PV} (hk : ∀ k ε S, P k ε S → keep S)
    (step : ∀ (k : Nat) (x : PV), items[k]? = some x → ∀ (C : PEnv → Sto → Prop), (∀ ε2 S2 ε3 S3, Le ε3 ε2 → Sub S3 S2 → P (k + 1) ε3 S3 → C ε2 S2) → ∀ ε S, P k ε S →
      g x ε S fun ε1 S1 => body { nx := C, rt := D.rt, bk := D.nx, ct := C, ex := D.ex } ε1 S1)
    (fin : ∀ ε S, P items.length ε S → D.nx ε S) (h0 : P 0 ε S) : forW keep g body D items ε S := by
  have aux : ∀ (n k : Nat), n + k = items.length → ∀ ε S, P k ε S → forW keep g body D (items.drop k) ε S := by
    intro n
    induction n with
    | zero =>
      intro k e ε S p
      rw [List.drop_of_length_le (by omega)]
      exact ⟨hk k ε S p, fin ε S (by have e' : k = items.length := by omega
                                     rw [← e']; exact p)⟩
    | succ n ih =>
      intro k e ε S p
      have hlt : k < items.length := by omega
      rw [List.drop_eq_getElem_cons hlt]
      refine ⟨hk k ε S p, ?_⟩
      exact step k items[k] (by rw [List.getElem?_eq_getElem hlt]) _ (fun ε2 S2 ε3 S3 l sb p3 => ⟨ε3, S3, l, sb, ih (k + 1) (by omega) ε3 S3 p3⟩) ε S p
  exact aux items.length 0 (by omega) ε S h0
/-- comprehensions: the elements by value -/
theorem lc_map {α : Type} {keep : Sto → Prop} {g : WG} {we : WE} {K : List PV → Sto → Prop} (I : Sto → Prop) (l : List α) (h f : α → PV) (hl : l.length ≤ sizeLine) (hk : ∀ S, I S → keep S)
    (el : ∀ a ∈ l, ∀ (S : Sto) (C : KE), I S → (∀ S', I S' → C (f a) S') → g (h a) ε S fun ε2 S2 => we ε2 S2 C (fun _ _ => False))
    (fin : ∀ S', I S' → K (l.map f) S') (hI : I S) : lcW keep g wYes we ε K (l.map h) [] S := by
  have aux : ∀ (l2 l1 : List α), l = l1 ++ l2 → ∀ S, I S → lcW keep g wYes we ε K (l2.map h) (l1.map f) S := by
    intro l2
    induction l2 with
    | nil =>
      intro l1 e S hI
      rw [List.append_nil] at e
      rw [← e]
      exact ⟨hk S hI, fin S hI⟩
    | cons a l2 ih =>
      intro l1 e S hI
      refine ⟨hk S hI, el a (by rw [e]; simp) S _ hI fun S' hI' => ⟨?_, ?_⟩⟩
      · rw [List.length_map]
        have : l.length = l1.length + (l2.length + 1) := by rw [e]; simp
        omega
      · have := ih (l1 ++ [a]) (by rw [e]; simp) S' hI'
        rw [List.map_append] at this
        exact this
  exact aux l [] rfl S hI
/-- comprehensions: the elements keep R -/
theorem lc_any {keep : Sto → Prop} {g : WG} {we : WE} {K : List PV → Sto → Prop} {items : List PV} (I : Sto → Prop) (R : PV → Prop) (hl : items.length ≤ sizeLine) (hk : ∀ S, I S → keep S)
    (el : ∀ a ∈ items, ∀ (S : Sto) (C : KE), I S → (∀ y S', R y → I S' → C y S') → g a ε S fun ε2 S2 => we ε2 S2 C (fun _ _ => False))
    (fin : ∀ ys S', ys.length = items.length → (∀ y ∈ ys, R y) → I S' → K ys S') (hI : I S) : lcW keep g wYes we ε K items [] S := by
  have aux : ∀ (l2 acc : List PV), acc.length + l2.length = items.length → (∀ a ∈ l2, a ∈ items) → (∀ y ∈ acc, R y) → ∀ S, I S → lcW keep g wYes we ε K l2 acc S := by
    intro l2
    induction l2 with
    | nil => exact fun acc e _ ha S hI => ⟨hk S hI, fin acc S (by simpa using e) ha hI⟩
    | cons a l2 ih =>
      intro acc e hm ha S hI
      refine ⟨hk S hI, el a (hm a List.mem_cons_self) S _ hI fun y S' hy hI' => ⟨?_, ?_⟩⟩
      · simp at e; omega
      · refine ih (acc ++ [y]) (by simp at e ⊢; omega) (fun b hb => hm b (List.mem_cons_of_mem _ hb)) (fun z hz => ?_) S' hI'
        rcases List.mem_append.mp hz with h1 | h1
        · exact ha z h1
        · rw [List.mem_singleton.mp h1]; exact hy
  exact aux items [] (by simp) (fun _ h => h) (fun _ h => nomatch h) S hI
end
/-! ### views -/
section
variable {S S1 : Sto} {p q : Addr} {o u : MO}
theorem keep1 (h : S p = some o) (n : S q = none) : supd S q u p = some o := by rw [supd_ne (fun z => by rw [z, n] at h; cases h)]; exact h
theorem none1 (h : S p = none) (n : p ≠ q) : supd S q u p = none := by rw [supd_ne n]; exact h
theorem RdL.keep {xs : List PV} (h : RdL S p xs) (n : S q = none) : RdL (supd S q u) p xs := by
  rcases h with h | h
  · exact .inl (keep1 h n)
  · exact .inr (keep1 h n)
theorem RdL.sub {xs : List PV} (h : RdL S p xs) (s : Sub S S1) : RdL S1 p xs := h.imp (s.le _ _) (s.le _ _)
theorem Sub.none' (s : Sub S S1) (n : S1 q = none) : S q = none := by
  cases e : S q with
  | none => rfl
  | some w => have := s.le _ _ e; rw [n] at this; cases this
theorem Sub.grow (s : Sub S S1) (n : S1 q = none) (h : u ≠ .priv := by nofun) : Sub S (supd S1 q u) := s.trans (.new n h)
/-- an own thing is written -/
theorem Sub.own (s : Sub S S1) (n : S q = none) (h : u ≠ .priv := by nofun) : Sub S (supd S1 q u) :=
  ⟨fun a w e => by rw [supd_ne (fun z => by rw [z, n] at e; cases e)]; exact s.le a w e, fun a e c hc => by
    by_cases hq : c = q
    · rw [hq, supd_same] at hc; exact absurd (Option.some.inj hc) h
    · rw [supd_ne hq] at hc; exact s.pr a e c hc⟩
end
theorem ixN_nat {n i : Nat} (h : i < n) : ixN n (i : Int) = some i := by
  unfold ixN
  rw [if_pos (by omega), if_pos (by omega)]
  simp
theorem atI_nat {α : Type} {xs : List α} {i : Nat} {v : α} (h : xs[i]? = some v) : atI xs (i : Int) = some v := by
  unfold atI
  have hl : i < xs.length := (List.getElem?_eq_some_iff.mp h).1
  rw [ixN_nat hl]
  exact h
theorem atI_last {α : Type} {xs : List α} {v : α} (h : xs[xs.length - 1]? = some v) : atI xs (-1) = some v := by
  unfold atI ixN
  have hl : xs.length - 1 < xs.length := (List.getElem?_eq_some_iff.mp h).1
  rw [if_neg (by omega), if_pos (by omega)]
  have e : ((-1 : Int) + (xs.length : Int)).toNat = xs.length - 1 := by omega
  show xs[((-1 : Int) + (xs.length : Int)).toNat]? = some v
  rw [e]; exact h
theorem map_int {α : Type} (l : List α) (f : α → Int) : (l.map fun a => PV.int (f a)) = (l.map f).map PV.int := by rw [List.map_map]; rfl
theorem map_bl {α : Type} (l : List α) (f : α → Bool) : (l.map fun a => PV.bl (f a)) = (l.map f).map PV.bl := by rw [List.map_map]; rfl
theorem CMr {i j : Int} (h : -(2 ^ 64) < j ∧ j < 2 ^ 64) : CM i j := .inl (.inr h)
theorem CMl {i j : Int} (h : -(2 ^ 64) < i ∧ i < 2 ^ 64) : CM i j := .inl (.inl h)
theorem cdw {i j : Int} (h : 0 < j) (h2 : j < 2 ^ 64) : CDivW i j := ⟨h, by
  have e : j.natAbs < 2 ^ 64 := by omega
  have := (Nat.log2_lt (n := j.natAbs) (k := 64) (by omega)).mpr e
  omega⟩
theorem fnD_rt {Q : KE} {E : KX} : (PD.fnD Q E).rt = dnQ Q := rfl
theorem fnD_ex {Q : KE} {E : KX} : (PD.fnD Q E).ex = fun n _ S => ∃ S2, Sub S2 S ∧ E n S2 := rfl
theorem fnD_nx {Q : KE} {E : KX} : (PD.fnD Q E).nx = fun _ S => dnQ Q .non S := rfl
theorem dn_same {Q : KE} {x : PV} {S : Sto} (h : Q x S) : dnQ Q x S := ⟨S, .refl S, h⟩
theorem dn_sub {Q : KE} {x : PV} {S S1 : Sto} (s : Sub S S1) (h : Q x S) : dnQ Q x S1 := ⟨S, s, h⟩
theorem hand_at {h c : Addr} {cells : List Int} {p l m k : Int} (hne : h ≠ c) : handS h c cells p l m k h = some (.lst [.ref c, .int p, .int l, .int m, .int k]) := by rw [handS, supd_ne hne, supd_same]
theorem hand_c {h c : Addr} {cells : List Int} {p l m k : Int} : handS h c cells p l m k c = some (.lst (cells.map PV.int)) := supd_same
theorem hand_set {h c : Addr} {cells : List Int} {p l m k p' l' m' k' : Int} (hne : h ≠ c) : supd (handS h c cells p l m k) h (.lst [.ref c, .int p', .int l', .int m', .int k']) = handS h c cells p' l' m' k' := by
  funext b
  by_cases h1 : b = h
  · rw [h1, supd_same, hand_at hne]
  · rw [supd_ne h1]
    by_cases h2 : b = c
    · rw [h2, hand_c, hand_c]
    · rw [handS, handS, supd_ne h2, supd_ne h1, supd_ne h2, supd_ne h1]
theorem Sub.both {S S1 : Sto} {q : Addr} {u : MO} (s : Sub S S1) (h : u ≠ .priv := by nofun) (h2 : u ≠ .hand := by nofun) : Sub (supd S q u) (supd S1 q u) :=
  ⟨fun a w e => by
    by_cases ha : a = q
    · rw [ha, supd_same] at e ⊢; exact e
    · rw [supd_ne ha] at e ⊢; exact s.le a w e, fun a e c hc => by
    by_cases hq : c = q
    · rw [hq, supd_same] at hc; exact absurd (Option.some.inj hc) h
    · rw [supd_ne hq] at hc ⊢
      by_cases ha : a = q
      · rw [ha, supd_same] at e
        exact absurd (Option.some.inj e) h2
      · rw [supd_ne ha] at e; exact s.pr a e c hc⟩
theorem cut_lo {xs : List PV} {k : Nat} : cutP xs (some (k : Int)) none = xs.drop k := by
  unfold cutP
  rw [HT.sIx_nat, HT.sIx_none]
  by_cases h : k ≤ xs.length
  · rw [Nat.min_eq_left h, List.take_of_length_le (by rw [List.length_drop]; omega)]
  · rw [Nat.min_eq_right (by omega), List.drop_of_length_le (Nat.le_refl _), List.drop_of_length_le (by omega), List.take_nil]
theorem cut_hi {xs : List PV} {k : Nat} : cutP xs none (some (k : Int)) = xs.take k := by
  unfold cutP
  rw [HT.sIx_nat, HT.sIx_none, List.drop_zero]
  by_cases h : k ≤ xs.length
  · rw [Nat.min_eq_left h]; simp
  · rw [Nat.min_eq_right (by omega), List.take_of_length_le (by omega), List.take_of_length_le (by omega)]
theorem cut_both {xs : List PV} {k j : Nat} (h : k ≤ j) (h2 : j ≤ xs.length) : cutP xs (some (k : Int)) (some (j : Int)) = (xs.drop k).take (j - k) := by
  unfold cutP
  rw [HT.sIx_nat, HT.sIx_nat, Nat.min_eq_left h2, Nat.min_eq_left (Nat.le_trans h h2)]
theorem rangeP_map (lo : Int) (n : Nat) : rangeP lo n = (List.range n).map fun i => PV.int (lo + (i : Nat)) := rfl
theorem dats_ints {S : Sto} : ∀ ns : List Int, Dats S (ns.map PV.int) (ns.map PyData.int)
  | [] => .nil
  | _ :: ns => .cons (.int _) (dats_ints ns)
theorem lay_ints : ∀ ns : List Int, PyData.canLayAll0 (ns.map PyData.int) = true
  | [] => by simp [PyData.canLayAll0]
  | _ :: ns => by simp [PyData.canLayAll0, PyData.canLay0, lay_ints ns]
theorem depth_ints : ∀ ns : List Int, PyData.depthAll (ns.map PyData.int) = 0
  | [] => by simp [PyData.depthAll]
  | _ :: ns => by simp [PyData.depthAll, PyData.depth, depth_ints ns]
theorem shaped_ints (ns : List Int) : SeqAt.shaped (.list (ns.map PyData.int)) = true := by
  simp [SeqAt.shaped, PyData.canLay0, PyData.depth, lay_ints, depth_ints]
theorem shaped_tints (ns : List Int) : SeqAt.shaped (.tuple (ns.map PyData.int)) = true := by
  simp [SeqAt.shaped, PyData.canLay0, PyData.depth, lay_ints, depth_ints]
theorem eqv_ints : ∀ xs ys : List Int, PyData.eqvAll (xs.map PyData.int) (ys.map PyData.int) = decide (xs = ys)
  | [], [] => by simp [PyData.eqvAll]
  | [], _ :: _ => by simp [PyData.eqvAll]
  | _ :: _, [] => by simp [PyData.eqvAll]
  | x :: xs, y :: ys => by
    simp only [List.map_cons, PyData.eqvAll, PyData.eqv, eqv_ints xs ys, List.cons.injEq, Bool.decide_and]
    rfl
theorem eq_ints {neg : Bool} {a b : Addr} {xs ys : List Int} {S : Sto} {Q : KE} (ha : RdL S a (xs.map PV.int)) (hb : RdL S b (ys.map PV.int)) (h : Q (.bl (neg ^^ decide (xs = ys))) S) :
    ∃ d e, Dat S (.ref a) d ∧ Dat S (.ref b) e ∧ SeqAt.shaped d = true ∧ SeqAt.shaped e = true ∧ Q (.bl (neg ^^ PyData.eqv d e)) S :=
  ⟨_, _, .lst ha (dats_ints xs), .lst hb (dats_ints ys), shaped_ints xs, shaped_ints ys, by rw [PyData.eqv, eqv_ints]; exact h⟩
theorem eq_tints {neg : Bool} {xs ys : List Int} {S : Sto} {Q : KE} (h : Q (.bl (neg ^^ decide (xs = ys))) S) :
    ∃ d e, Dat S (.tup (xs.map PV.int)) d ∧ Dat S (.tup (ys.map PV.int)) e ∧ SeqAt.shaped d = true ∧ SeqAt.shaped e = true ∧ Q (.bl (neg ^^ PyData.eqv d e)) S :=
  ⟨_, _, .tup (dats_ints xs), .tup (dats_ints ys), shaped_tints xs, shaped_tints ys, by rw [PyData.eqv, eqv_ints]; exact h⟩
theorem intsAt_inj {xs ys : List Int} (h : xs.map PV.int = ys.map PV.int) : xs = ys := by
  have := congrArg (List.map fun | PV.int i => i | _ => 0) h
  simpa [List.map_map, Function.comp_def] using this
theorem s_while {c : WT} {body : WS} {D : PD} {ε : PEnv} {S : Sto} (P : Nat → PEnv → Sto → Prop) (m0 : Nat) (h0 : P m0 ε S)
    (step : ∀ m ε S, P m ε S → c ε S (fun b S1 => if b = true then body { nx := fun ε2 S2 => ∃ m' ε3 S3, m' < m ∧ Le ε3 ε2 ∧ Sub S3 S2 ∧ P m' ε3 S3, rt := D.rt, bk := D.nx, ct := fun ε2 S2 => ∃ m' ε3 S3, m' < m ∧ Le ε3 ε2 ∧ Sub S3 S2 ∧ P m' ε3 S3, ex := D.ex } ε S1 else D.nx ε S1) (fun n S1 => D.ex n ε S1)) : wWhile c body D ε S :=
  ⟨P, ⟨m0, h0⟩, step⟩
end L3

set_option Elab.async false
set_option linter.all false
set_option maxRecDepth 100000
set_option maxHeartbeats 4000000
namespace L3
open PySem PySem.Spec L2
open PyProof.Rows hiding St
/-! ### steps of the readings, by head -/
section
variable {ε : PEnv} {S : Sto} {E : KX} {D : PD}
theorem e_cons {wa : WE} {wr : WA} {Q : List PV → Sto → Prop} (h : wa ε S (fun x S1 => wr ε S1 (fun xs S2 => Q (x :: xs) S2) E) E) : wCons wa wr ε S Q E := h
theorem e_nil {Q : List PV → Sto → Prop} (h : Q [] S) : wNil ε S Q E := h
theorem e_v {i : Nat} {x : PV} {Q : KE} (he : ε[i]? = some (some x)) (h : Q x S) : wV i ε S Q E := by
  unfold wV
  rw [he]
  exact h
theorem e_c {x : PV} {Q : KE} (h : Q x S) : wC x ε S Q E := h
theorem e_op {o : O2} {wa wb : WE} {Q : KE} (h : wa ε S (fun x S1 => wb ε S1 (fun y S2 => o x y S2 Q) E) E) : wOp o wa wb ε S Q E := h
theorem e_un {o : PV → Sto → KE → Prop} {wa : WE} {Q : KE} (h : wa ε S (fun x S1 => o x S1 Q) E) : wUn o wa ε S Q E := h
theorem e_call {sp : PSp} {w : WA} {Q : KE} (h : w ε S (fun xs S1 => sp xs S1 Q E) E) : wCall sp w ε S Q E := h
theorem e_cb {o : OC} {w : WA} {Q : KE} (h : w ε S (fun xs S1 => o xs S1 Q) E) : wCB o w ε S Q E := h
theorem e_tup {w : WA} {Q : KE} (h : w ε S (fun xs S1 => xs.length ≤ sizeLine ∧ Q (.tup xs) S1) E) : wTup w ε S Q E := h
theorem e_lst {w : WA} {Q : KE} (h : w ε S (fun xs S1 => xs.length ≤ sizeLine ∧ ∀ p, S1 p = none → Q (.ref p) (supd S1 p (.lst xs))) E) : wLst w ε S Q E := h
theorem e_neg {i : Int} {Q : KE} (h : Q (.int (-i)) S) : oNeg (.int i) S Q := h
theorem e_pow {i j : Int} {r : Int} {Q : KE} (hc : CPow i j) (hr : i ^ j.toNat = r) (h : Q (.int r) S) : oPow (.int i) (.int j) S Q := by
  subst hr
  exact ⟨hc, h⟩
theorem e_add {i j : Int} {Q : KE} (h : Q (.int (i + j)) S) : oAdd (.int i) (.int j) S Q := h
theorem e_sub {i j : Int} {Q : KE} (h : Q (.int (i - j)) S) : oSub (.int i) (.int j) S Q := ⟨trivial, h⟩
theorem e_mul {i j : Int} {Q : KE} (hc : CM i j) (h : Q (.int (i * j)) S) : oMul (.int i) (.int j) S Q := ⟨hc, h⟩
/-- a constant to a constant power -/
theorem e_powc {i j r : Int} {Q : KE} (hc : CPow i j) (hr : i ^ j.toNat = r) (h : Q (.int r) S) : wOp oPow (wC (.int i)) (wC (.int j)) ε S Q E := by
  subst hr
  exact ⟨hc, h⟩
end
/-! ### words that a law collects -/
/-- the def that calls a lambda and says by a word which error it raised -/
def WordOk (WW : Thk → Addr → WS) (N : List Str) (nm wd : Str) : Prop := ∀ (th : Thk) (f : Addr) (S : Sto) (Q : KE), (∀ Q' E', (∀ S1, Sub S S1 → E' ⟨nm, none⟩ S1) → th S Q' E') → (∀ S', Sub S S' → Q (.str wd) S') →
  WW th f (PD.fn Q fun _ _ => False) (startP N [.ref f]) S
/-- over the view S0 the list at ws holds ys -/
structure WdI (S0 : Sto) (ws : Addr) (ys : List PV) (S : Sto) : Prop where
  sb : Sub S0 S
  no : S0 ws = none
  at_ : S ws = some (.lst ys)
section
variable {ε : PEnv} {S S0 : Sto} {D : PD} {WW : Thk → Addr → WS} {N : List Str} {nm wd : Str} {wb : WE} {i : Nat} {ws : Addr} {ys : List PV}
theorem word_lam {Q : KE} {E : KX} (hw : WordOk WW N nm wd) (hth : ∀ Q' E', (∀ S1, Sub S S1 → E' ⟨nm, none⟩ S1) → wb ε S Q' E') (h : ∀ S', Sub S S' → Q (.str wd) S') : wLam WW N wb ε S Q E := fun f => hw _ f S Q hth h
theorem word_first (hw : WordOk WW N nm wd) (hth : ∀ Q' E', (∀ S1, Sub S S1 → E' ⟨nm, none⟩ S1) → wb ε S Q' E') (next : ∀ ws S', WdI S ws [.str wd] S' → D.nx (ε.set i (some (.ref ws))) S') :
    wSet i (wLst (wCons (wLam WW N wb) wNil)) D ε S := by
  refine s_set (e_lst (e_cons (word_lam hw hth fun S1 sb => e_nil ⟨(by decide : 1 ≤ sizeLine), fun p hp => ?_⟩)))
  exact next p _ ⟨sb.grow hp, sb.none' hp, supd_same⟩
theorem word_app (I : WdI S0 ws ys S) (hi : ε[i]? = some (some (.ref ws))) (hl : ys.length < 1000) (hw : WordOk WW N nm wd) (hth : ∀ S, Sub S0 S → ∀ Q' E', (∀ S1, Sub S S1 → E' ⟨nm, none⟩ S1) → wb ε S Q' E')
    (next : ∀ S', WdI S0 ws (ys ++ [.str wd]) S' → D.nx ε S') : wExpr (wBM "list" mAppend (wV i) (wCons (wLam WW N wb) wNil)) D ε S := by
  refine s_expr ?_
  unfold wBM
  refine e_v hi ⟨⟨rfl, ys, .inl I.at_⟩, e_cons (word_lam hw (hth S I.sb) fun S1 sb => e_nil ?_)⟩
  have h1 := sb.le _ _ I.at_
  refine ⟨ys, h1, Nat.lt_of_lt_of_le hl (by decide), next _ ⟨(I.sb.trans sb).own I.no, I.no, supd_same⟩⟩
def strsW : List Str → WA
  | [] => wNil
  | x :: xs => wCons (wC (.str x)) (strsW xs)
theorem e_strs {E : KX} : ∀ (l : List Str) {Q : List PV → Sto → Prop}, Q (l.map PV.str) S → strsW l ε S Q E
  | [], _, h => h
  | x :: l, Q, h => e_strs l (Q := fun xs S2 => Q (.str x :: xs) S2) h
theorem dats_strs {S : Sto} : ∀ ns : List Str, Dats S (ns.map PV.str) (ns.map PyData.str)
  | [] => .nil
  | _ :: ns => .cons (.str _) (dats_strs ns)
theorem lay_strs : ∀ ns : List Str, ns.all PyData.strOk = true → PyData.canLayAll0 (ns.map PyData.str) = true
  | [], _ => by simp [PyData.canLayAll0]
  | _ :: ns, h => by
    simp only [List.all_cons, Bool.and_eq_true] at h
    simp [PyData.canLayAll0, PyData.canLay0, lay_strs ns h.2, h.1]
theorem depth_strs : ∀ ns : List Str, PyData.depthAll (ns.map PyData.str) = 0
  | [] => by simp [PyData.depthAll]
  | _ :: ns => by simp [PyData.depthAll, PyData.depth, depth_strs ns]
theorem shaped_strs (ns : List Str) (h : ns.all PyData.strOk = true) : SeqAt.shaped (.list (ns.map PyData.str)) = true := by
  simp [SeqAt.shaped, PyData.canLay0, PyData.depth, lay_strs ns h, depth_strs]
theorem eqv_strs : ∀ xs ys : List Str, PyData.eqvAll (xs.map PyData.str) (ys.map PyData.str) = decide (xs = ys)
  | [], [] => by simp [PyData.eqvAll]
  | [], _ :: _ => by simp [PyData.eqvAll]
  | _ :: _, [] => by simp [PyData.eqvAll]
  | x :: xs, y :: ys => by
    simp only [List.map_cons, PyData.eqvAll, PyData.eqv, eqv_strs xs ys, List.cons.injEq, Bool.decide_and]
    rfl
theorem eq_strs {neg : Bool} {a b : Addr} {xs ys : List Str} {S : Sto} {Q : KE} (ha : RdL S a (xs.map PV.str)) (hb : RdL S b (ys.map PV.str)) (kx : xs.all PyData.strOk = true) (ky : ys.all PyData.strOk = true) (h : Q (.bl (neg ^^ decide (xs = ys))) S) : oEqN neg (.ref a) (.ref b) S Q :=
  ⟨_, _, .lst ha (dats_strs xs), .lst hb (dats_strs ys), shaped_strs xs kx, shaped_strs ys ky, by rw [PyData.eqv, eqv_strs]; exact h⟩
/-- the words are as they should be -/
theorem words_eq (l : List Str) {W : WA} {Q : KE} {E : KX} (hW : W = strsW l) (I : WdI S0 ws ys S) (hi : ε[i]? = some (some (.ref ws))) (hl : l.length < 1000) (hy : ys = l.map PV.str) (hk : l.all PyData.strOk = true) (h : ∀ S', Sub S0 S' → Q (.bl true) S') : wOp oEq (wV i) (wLst W) ε S Q E := by
  subst hW hy
  refine e_op (e_v hi (e_lst (e_strs l ⟨?_, fun p hp => eq_strs (xs := l) (ys := l) (.inl (keep1 I.at_ hp)) (.inl supd_same) hk hk ?_⟩)))
  · rw [List.length_map]; exact Nat.le_of_lt (Nat.lt_of_lt_of_le hl (by decide))
  · rw [decide_eq_true rfl]
    exact h _ (I.sb.grow hp)
end
/-! ### constants -/
mutual
def okV : PV → Bool
  | .tup xs => decide (xs.length ≤ 1000) && okVs xs
  | _ => true
def okVs : List PV → Bool
  | [] => true
  | x :: xs => okV x && okVs xs
end
class CstI (w : WE) (x : outParam PV) : Prop where
  run : okV x = true → ∀ (ε : PEnv) (S : Sto) (Q : KE) (E : KX), Q x S → w ε S Q E
class CstA (w : WA) (xs : outParam (List PV)) : Prop where
  run : okVs xs = true → ∀ (ε : PEnv) (S : Sto) (Q : List PV → Sto → Prop) (E : KX), Q xs S → w ε S Q E
instance cst_c {x : PV} : CstI (wC x) x := ⟨fun _ _ _ _ _ h => h⟩
instance cst_neg {w : WE} {i : Int} [h : CstI w (.int i)] : CstI (wUn oNeg w) (.int (-i)) := ⟨fun _ ε S Q E q => h.run (by rfl) ε S _ E (e_neg q)⟩
instance cst_add {w u : WE} {i j : Int} [h : CstI w (.int i)] [k : CstI u (.int j)] : CstI (wOp oAdd w u) (.int (i + j)) := ⟨fun _ ε S Q E q => h.run (by rfl) ε S _ E (k.run (by rfl) ε S _ E (e_add q))⟩
instance cst_sub {w u : WE} {i j : Int} [h : CstI w (.int i)] [k : CstI u (.int j)] : CstI (wOp oSub w u) (.int (i - j)) := ⟨fun _ ε S Q E q => h.run (by rfl) ε S _ E (k.run (by rfl) ε S _ E (e_sub q))⟩
instance cst_tup {w : WA} {xs : List PV} [h : CstA w xs] : CstI (wTup w) (.tup xs) := ⟨fun ok ε S Q E q => by
  simp only [okV, Bool.and_eq_true, decide_eq_true_eq] at ok
  exact e_tup (h.run ok.2 ε S _ E ⟨Nat.le_trans ok.1 (by decide), q⟩)⟩
instance cst_nil : CstA wNil [] := ⟨fun _ _ _ _ _ h => h⟩
instance cst_cons {w : WE} {ws : WA} {x : PV} {xs : List PV} [h : CstI w x] [k : CstA ws xs] : CstA (wCons w ws) (x :: xs) := ⟨fun ok ε S Q E q => by
  simp only [okVs, Bool.and_eq_true] at ok
  exact e_cons (h.run ok.1 ε S _ E (k.run ok.2 ε S _ E q))⟩
section
variable {ε : PEnv} {S : Sto} {E : KX}
theorem e_k {w : WE} {x : PV} {Q : KE} [h : CstI w x] (q : Q x S) (ok : okV x = true := by rfl) : w ε S Q E := h.run ok ε S Q E q
theorem e_ks {w : WA} {xs : List PV} {Q : List PV → Sto → Prop} [h : CstA w xs] (q : Q xs S) (ok : okVs xs = true := by rfl) : w ε S Q E := h.run ok ε S Q E q
/-- a list of constants -/
theorem e_lstk {w : WA} {xs : List PV} {Q : KE} [h : CstA w xs] (q : ∀ p, S p = none → Q (.ref p) (supd S p (.lst xs))) (ok : okVs xs = true := by rfl) (hl : xs.length ≤ sizeLine := by decide) : wLst w ε S Q E := e_lst (h.run ok ε S _ E ⟨hl, q⟩)
/-- numbers by powers -/
class PowI (w : WE) (i : outParam Int) : Prop where
  run : ∀ (ε : PEnv) (S : Sto) (Q : KE) (E : KX), Q (.int i) S → w ε S Q E
instance cst_powI {w : WE} {i : Int} [h : PowI w i] : CstI w (.int i) := ⟨fun _ => h.run⟩
instance pow9 : PowI (wOp oPow (wC (.int 10)) (wC (.int 9))) 1000000000 := ⟨fun _ _ _ _ h => e_powc ⟨by decide, by decide, by decide⟩ (by simp) h⟩
instance pow18 : PowI (wOp oPow (wC (.int 10)) (wC (.int 18))) 1000000000000000000 := ⟨fun _ _ _ _ h => e_powc ⟨by decide, by decide, by decide⟩ (by simp) h⟩
instance pow6 : PowI (wOp oPow (wC (.int 10)) (wC (.int 6))) 1000000 := ⟨fun _ _ _ _ h => e_powc ⟨by decide, by decide, by decide⟩ (by simp) h⟩
instance pow12 : PowI (wOp oPow (wC (.int 10)) (wC (.int 12))) 1000000000000 := ⟨fun _ _ _ _ h => e_powc ⟨by decide, by decide, by decide⟩ (by simp) h⟩
instance pow4 : PowI (wOp oPow (wC (.int 10)) (wC (.int 4))) 10000 := ⟨fun _ _ _ _ h => e_powc ⟨by decide, by decide, by decide⟩ (by simp) h⟩
instance pow5 : PowI (wOp oPow (wC (.int 10)) (wC (.int 5))) 100000 := ⟨fun _ _ _ _ h => e_powc ⟨by decide, by decide, by decide⟩ (by simp) h⟩
instance pow60 : PowI (wOp oPow (wC (.int 10)) (wC (.int 60))) 1000000000000000000000000000000000000000000000000000000000000 := ⟨fun _ _ _ _ h => e_powc ⟨by decide, by decide, by decide⟩ (by simp) h⟩
instance pow30 : PowI (wOp oPow (wC (.int 10)) (wC (.int 30))) 1000000000000000000000000000000 := ⟨fun _ _ _ _ h => e_powc ⟨by decide, by decide, by decide⟩ (by simp) h⟩
instance pow20 : PowI (wOp oPow (wC (.int 10)) (wC (.int 20))) 100000000000000000000 := ⟨fun _ _ _ _ h => e_powc ⟨by decide, by decide, by decide⟩ (by simp) h⟩
end
end L3

set_option Elab.async false
set_option linter.all false
set_option maxRecDepth 100000
set_option maxHeartbeats 4000000
namespace L3
open PySem PySem.Spec L2
open PyProof.Rows hiding St
/-! ### the defs -/
abbrev lamN (x : Str) : Str := (x ++ ".<locals>.") ++ "<lambda>"
abbrev topS (i : Nat) : Stmt := (PySem.Challenge.pw_nextterms_k47_whole_beats_by_floor_sums.main.body[i]?).getD (.Pass ⟨0, 0, 0, 0⟩)
abbrev s_is_integer : Stmt := topS 1
def N_is_integer : List Str := ["thing"]
def p_is_integer : List Str := ["thing"]
theorem sc_is_integer : FnScope N_is_integer p_is_integer (defScope s_is_integer) := ⟨rfl, rfl, rfl, by decide +kernel, rfl, by decide +kernel, by decide +kernel⟩
abbrev s_is_within : Stmt := topS 2
def N_is_within : List Str := ["thing", "low", "high"]
def p_is_within : List Str := ["thing", "low", "high"]
theorem sc_is_within : FnScope N_is_within p_is_within (defScope s_is_within) := ⟨rfl, rfl, rfl, by decide +kernel, rfl, by decide +kernel, by decide +kernel⟩
abbrev s_is_tuple_of : Stmt := topS 3
def N_is_tuple_of : List Str := ["thing", "many"]
def p_is_tuple_of : List Str := ["thing", "many"]
theorem sc_is_tuple_of : FnScope N_is_tuple_of p_is_tuple_of (defScope s_is_tuple_of) := ⟨rfl, rfl, rfl, by decide +kernel, rfl, by decide +kernel, by decide +kernel⟩
abbrev s_common : Stmt := topS 4
def N_common : List Str := ["one", "other"]
def p_common : List Str := ["one", "other"]
theorem sc_common : FnScope N_common p_common (defScope s_common) := ⟨rfl, rfl, rfl, by decide +kernel, rfl, by decide +kernel, by decide +kernel⟩
abbrev s_frac : Stmt := topS 5
def N_frac : List Str := ["top", "bottom", "divisor"]
def p_frac : List Str := ["top", "bottom"]
theorem sc_frac : FnScope N_frac p_frac (defScope s_frac) := ⟨rfl, rfl, rfl, by decide +kernel, rfl, by decide +kernel, by decide +kernel⟩
abbrev s_is_fraction : Stmt := topS 6
def N_is_fraction : List Str := ["thing"]
def p_is_fraction : List Str := ["thing"]
theorem sc_is_fraction : FnScope N_is_fraction p_is_fraction (defScope s_is_fraction) := ⟨rfl, rfl, rfl, by decide +kernel, rfl, by decide +kernel, by decide +kernel⟩
abbrev s_minus : Stmt := topS 7
def N_minus : List Str := ["one", "other"]
def p_minus : List Str := ["one", "other"]
theorem sc_minus : FnScope N_minus p_minus (defScope s_minus) := ⟨rfl, rfl, rfl, by decide +kernel, rfl, by decide +kernel, by decide +kernel⟩
abbrev s_less : Stmt := topS 8
def N_less : List Str := ["one", "other"]
def p_less : List Str := ["one", "other"]
theorem sc_less : FnScope N_less p_less (defScope s_less) := ⟨rfl, rfl, rfl, by decide +kernel, rfl, by decide +kernel, by decide +kernel⟩
abbrev s_check_slope : Stmt := topS 17
def N_check_slope : List Str := ["slope"]
def p_check_slope : List Str := ["slope"]
theorem sc_check_slope : FnScope N_check_slope p_check_slope (defScope s_check_slope) := ⟨rfl, rfl, rfl, by decide +kernel, rfl, by decide +kernel, by decide +kernel⟩
abbrev s_whole_part : Stmt := topS 18
def N_whole_part : List Str := ["slope", "start", "place", "top"]
def p_whole_part : List Str := ["slope", "start", "place"]
theorem sc_whole_part : FnScope N_whole_part p_whole_part (defScope s_whole_part) := ⟨rfl, rfl, rfl, by decide +kernel, rfl, by decide +kernel, by decide +kernel⟩
abbrev s_beat_row : Stmt := topS 19
def N_beat_row : List Str := ["slope", "start", "many", "place"]
def p_beat_row : List Str := ["slope", "start", "many"]
theorem sc_beat_row : FnScope N_beat_row p_beat_row (defScope s_beat_row) := ⟨rfl, rfl, rfl, by decide +kernel, rfl, by decide +kernel, by decide +kernel⟩
abbrev s_floor_sum : Stmt := topS 21
def N_floor_sum : List Str := ["many", "step", "start", "bottom", "found", "top"]
def p_floor_sum : List Str := ["many", "step", "start", "bottom"]
theorem sc_floor_sum : FnScope N_floor_sum p_floor_sum (defScope s_floor_sum) := ⟨rfl, rfl, rfl, by decide +kernel, rfl, by decide +kernel, by decide +kernel⟩
abbrev s_beat_sum : Stmt := topS 20
def N_beat_sum : List Str := ["slope", "start", "many", "bottom"]
def p_beat_sum : List Str := ["slope", "start", "many"]
theorem sc_beat_sum : FnScope N_beat_sum p_beat_sum (defScope s_beat_sum) := ⟨rfl, rfl, rfl, by decide +kernel, rfl, by decide +kernel, by decide +kernel⟩
abbrev s_part_between : Stmt := topS 22
def N_part_between : List Str := ["slope", "one", "other", "place", "first", "second"]
def p_part_between : List Str := ["slope", "one", "other"]
theorem sc_part_between : FnScope N_part_between p_part_between (defScope s_part_between) := ⟨rfl, rfl, rfl, by decide +kernel, rfl, by decide +kernel, by decide +kernel⟩
abbrev s_part_of : Stmt := topS 23
def N_part_of : List Str := ["slope", "place"]
def p_part_of : List Str := ["slope", "place"]
theorem sc_part_of : FnScope N_part_of p_part_of (defScope s_part_of) := ⟨rfl, rfl, rfl, by decide +kernel, rfl, by decide +kernel, by decide +kernel⟩
abbrev s__law_hand : Stmt := topS 25
def N__law_hand : List Str := ["script", "cells", "cell"]
def p__law_hand : List Str := ["script"]
theorem sc__law_hand : FnScope N__law_hand p__law_hand (defScope s__law_hand) := ⟨rfl, rfl, rfl, by decide +kernel, rfl, by decide +kernel, by decide +kernel⟩
abbrev s__law_draw : Stmt := topS 26
def N__law_draw : List Str := ["hand", "many", "cell", "digit", "number"]
def p__law_draw : List Str := ["hand", "many"]
theorem sc__law_draw : FnScope N__law_draw p__law_draw (defScope s__law_draw) := ⟨rfl, rfl, rfl, by decide +kernel, rfl, by decide +kernel, by decide +kernel⟩
abbrev s__law_some : Stmt := topS 27
def N__law_some : List Str := ["hand", "things"]
def p__law_some : List Str := ["hand", "things"]
theorem sc__law_some : FnScope N__law_some p__law_some (defScope s__law_some) := ⟨rfl, rfl, rfl, by decide +kernel, rfl, by decide +kernel, by decide +kernel⟩
abbrev s__law_common : Stmt := topS 28
def N__law_common : List Str := ["one", "other"]
def p__law_common : List Str := ["one", "other"]
theorem sc__law_common : FnScope N__law_common p__law_common (defScope s__law_common) := ⟨rfl, rfl, rfl, by decide +kernel, rfl, by decide +kernel, by decide +kernel⟩
abbrev s__law_fraction : Stmt := topS 29
def N__law_fraction : List Str := ["top", "bottom", "by"]
def p__law_fraction : List Str := ["top", "bottom"]
theorem sc__law_fraction : FnScope N__law_fraction p__law_fraction (defScope s__law_fraction) := ⟨rfl, rfl, rfl, by decide +kernel, rfl, by decide +kernel, by decide +kernel⟩
abbrev s__law_word : Stmt := topS 30
def N__law_word : List Str := ["call", "error", "flags", "words"]
def p__law_word : List Str := ["call"]
theorem sc__law_word : FnScope N__law_word p__law_word (defScope s__law_word) := ⟨rfl, rfl, rfl, by decide +kernel, rfl, by decide +kernel, by decide +kernel⟩
abbrev s__law_slope : Stmt := topS 31
def N__law_slope : List Str := ["hand", "size", "bottom"]
def p__law_slope : List Str := ["hand"]
theorem sc__law_slope : FnScope N__law_slope p__law_slope (defScope s__law_slope) := ⟨rfl, rfl, rfl, by decide +kernel, rfl, by decide +kernel, by decide +kernel⟩
abbrev s__law_whole : Stmt := topS 32
def N__law_whole : List Str := ["slope_now", "start", "place", "bottom"]
def p__law_whole : List Str := ["slope_now", "start", "place"]
theorem sc__law_whole : FnScope N__law_whole p__law_whole (defScope s__law_whole) := ⟨rfl, rfl, rfl, by decide +kernel, rfl, by decide +kernel, by decide +kernel⟩
abbrev s__law_floors : Stmt := topS 33
def N__law_floors : List Str := ["many", "by", "top", "start", "found", "sign", "pairs", "last", "high"]
def p__law_floors : List Str := ["many", "by", "top", "start"]
theorem sc__law_floors : FnScope N__law_floors p__law_floors (defScope s__law_floors) := ⟨rfl, rfl, rfl, by decide +kernel, rfl, by decide +kernel, by decide +kernel⟩
abbrev s__law_is_right : Stmt := topS 34
def N__law_is_right : List Str := ["hand", "slope_now", "start", "place", "many", "due", "bottom", "top", "far", "told", "one", "other", "parts", "less_now", "at"]
def p__law_is_right : List Str := ["hand"]
theorem sc__law_is_right : FnScope N__law_is_right p__law_is_right (defScope s__law_is_right) := ⟨rfl, rfl, rfl, by decide +kernel, rfl, by decide +kernel, by decide +kernel⟩
abbrev s_law : Stmt := topS 35
def N_law : List Str := ["script", "hand", "some", "bad", "none", "words"]
def p_law : List Str := ["script"]
theorem sc_law : FnScope N_law p_law (defScope s_law) := ⟨rfl, rfl, rfl, by decide +kernel, rfl, by decide +kernel, by decide +kernel⟩
def sub : SubC := fun n x => ([("BadNumber", "BadNumber"), ("BadNumber", "TermError"), ("BadSlope", "BadSlope"), ("BadSlope", "TermError")] : List (Str × Str)).contains (n, x)
structure Tx (K : PySem.W.Frag) (ec : Str → Option Addr) (mg : Str → Option Value) where
  a_is_integer : Addr
  d_is_integer : FuncData
  F_is_integer : Fun K "is_integer" "is_integer" s_is_integer a_is_integer d_is_integer
  m_is_integer : mg "is_integer" = some (.ref a_is_integer)
  b_is_integer : Binds K d_is_integer p_is_integer []
  a_is_within : Addr
  d_is_within : FuncData
  F_is_within : Fun K "is_within" "is_within" s_is_within a_is_within d_is_within
  m_is_within : mg "is_within" = some (.ref a_is_within)
  b_is_within : Binds K d_is_within p_is_within []
  a_is_tuple_of : Addr
  d_is_tuple_of : FuncData
  F_is_tuple_of : Fun K "is_tuple_of" "is_tuple_of" s_is_tuple_of a_is_tuple_of d_is_tuple_of
  m_is_tuple_of : mg "is_tuple_of" = some (.ref a_is_tuple_of)
  b_is_tuple_of : Binds K d_is_tuple_of p_is_tuple_of []
  a_common : Addr
  d_common : FuncData
  F_common : Fun K "common" "common" s_common a_common d_common
  m_common : mg "common" = some (.ref a_common)
  b_common : Binds K d_common p_common []
  a_frac : Addr
  d_frac : FuncData
  F_frac : Fun K "frac" "frac" s_frac a_frac d_frac
  m_frac : mg "frac" = some (.ref a_frac)
  b_frac : Binds K d_frac p_frac []
  a_is_fraction : Addr
  d_is_fraction : FuncData
  F_is_fraction : Fun K "is_fraction" "is_fraction" s_is_fraction a_is_fraction d_is_fraction
  m_is_fraction : mg "is_fraction" = some (.ref a_is_fraction)
  b_is_fraction : Binds K d_is_fraction p_is_fraction []
  a_minus : Addr
  d_minus : FuncData
  F_minus : Fun K "minus" "minus" s_minus a_minus d_minus
  m_minus : mg "minus" = some (.ref a_minus)
  b_minus : Binds K d_minus p_minus []
  a_less : Addr
  d_less : FuncData
  F_less : Fun K "less" "less" s_less a_less d_less
  m_less : mg "less" = some (.ref a_less)
  b_less : Binds K d_less p_less []
  a_check_slope : Addr
  d_check_slope : FuncData
  F_check_slope : Fun K "check_slope" "check_slope" s_check_slope a_check_slope d_check_slope
  m_check_slope : mg "check_slope" = some (.ref a_check_slope)
  b_check_slope : Binds K d_check_slope p_check_slope []
  a_whole_part : Addr
  d_whole_part : FuncData
  F_whole_part : Fun K "whole_part" "whole_part" s_whole_part a_whole_part d_whole_part
  m_whole_part : mg "whole_part" = some (.ref a_whole_part)
  b_whole_part : Binds K d_whole_part p_whole_part []
  a_beat_row : Addr
  d_beat_row : FuncData
  F_beat_row : Fun K "beat_row" "beat_row" s_beat_row a_beat_row d_beat_row
  m_beat_row : mg "beat_row" = some (.ref a_beat_row)
  b_beat_row : Binds K d_beat_row p_beat_row []
  a_floor_sum : Addr
  d_floor_sum : FuncData
  F_floor_sum : Fun K "floor_sum" "floor_sum" s_floor_sum a_floor_sum d_floor_sum
  m_floor_sum : mg "floor_sum" = some (.ref a_floor_sum)
  b_floor_sum : Binds K d_floor_sum p_floor_sum []
  a_beat_sum : Addr
  d_beat_sum : FuncData
  F_beat_sum : Fun K "beat_sum" "beat_sum" s_beat_sum a_beat_sum d_beat_sum
  m_beat_sum : mg "beat_sum" = some (.ref a_beat_sum)
  b_beat_sum : Binds K d_beat_sum p_beat_sum []
  a_part_between : Addr
  d_part_between : FuncData
  F_part_between : Fun K "part_between" "part_between" s_part_between a_part_between d_part_between
  m_part_between : mg "part_between" = some (.ref a_part_between)
  b_part_between : Binds K d_part_between p_part_between []
  a_part_of : Addr
  d_part_of : FuncData
  F_part_of : Fun K "part_of" "part_of" s_part_of a_part_of d_part_of
  m_part_of : mg "part_of" = some (.ref a_part_of)
  b_part_of : Binds K d_part_of p_part_of []
  a__law_hand : Addr
  d__law_hand : FuncData
  F__law_hand : Fun K "_law_hand" "_law_hand" s__law_hand a__law_hand d__law_hand
  m__law_hand : mg "_law_hand" = some (.ref a__law_hand)
  b__law_hand : Binds K d__law_hand p__law_hand []
  a__law_draw : Addr
  d__law_draw : FuncData
  F__law_draw : Fun K "_law_draw" "_law_draw" s__law_draw a__law_draw d__law_draw
  m__law_draw : mg "_law_draw" = some (.ref a__law_draw)
  b__law_draw : Binds K d__law_draw p__law_draw []
  a__law_some : Addr
  d__law_some : FuncData
  F__law_some : Fun K "_law_some" "_law_some" s__law_some a__law_some d__law_some
  m__law_some : mg "_law_some" = some (.ref a__law_some)
  b__law_some : Binds K d__law_some p__law_some []
  a__law_common : Addr
  d__law_common : FuncData
  F__law_common : Fun K "_law_common" "_law_common" s__law_common a__law_common d__law_common
  m__law_common : mg "_law_common" = some (.ref a__law_common)
  b__law_common : Binds K d__law_common p__law_common []
  a__law_fraction : Addr
  d__law_fraction : FuncData
  F__law_fraction : Fun K "_law_fraction" "_law_fraction" s__law_fraction a__law_fraction d__law_fraction
  m__law_fraction : mg "_law_fraction" = some (.ref a__law_fraction)
  b__law_fraction : Binds K d__law_fraction p__law_fraction []
  a__law_word : Addr
  d__law_word : FuncData
  F__law_word : Fun K "_law_word" "_law_word" s__law_word a__law_word d__law_word
  m__law_word : mg "_law_word" = some (.ref a__law_word)
  b__law_word : Binds K d__law_word p__law_word []
  a__law_slope : Addr
  d__law_slope : FuncData
  F__law_slope : Fun K "_law_slope" "_law_slope" s__law_slope a__law_slope d__law_slope
  m__law_slope : mg "_law_slope" = some (.ref a__law_slope)
  b__law_slope : Binds K d__law_slope p__law_slope []
  a__law_whole : Addr
  d__law_whole : FuncData
  F__law_whole : Fun K "_law_whole" "_law_whole" s__law_whole a__law_whole d__law_whole
  m__law_whole : mg "_law_whole" = some (.ref a__law_whole)
  b__law_whole : Binds K d__law_whole p__law_whole []
  a__law_floors : Addr
  d__law_floors : FuncData
  F__law_floors : Fun K "_law_floors" "_law_floors" s__law_floors a__law_floors d__law_floors
  m__law_floors : mg "_law_floors" = some (.ref a__law_floors)
  b__law_floors : Binds K d__law_floors p__law_floors []
  a__law_is_right : Addr
  d__law_is_right : FuncData
  F__law_is_right : Fun K "_law_is_right" "_law_is_right" s__law_is_right a__law_is_right d__law_is_right
  m__law_is_right : mg "_law_is_right" = some (.ref a__law_is_right)
  b__law_is_right : Binds K d__law_is_right p__law_is_right []
  a_law : Addr
  d_law : FuncData
  F_law : Fun K "law" "law" s_law a_law d_law
  m_law : mg "law" = some (.ref a_law)
  b_law : Binds K d_law p_law []
  c_law : Addr
  P_law : Addr
  cd_law : d_law.code = .ref c_law
  g_MOST_PLACE : ∃ t, mg "MOST_PLACE" = some (.int 1000000000000000000 t)
  g_MOST_SLOPE : ∃ t, mg "MOST_SLOPE" = some (.int 1000000000 t)
  n_ValueError : mg "ValueError" = none
  n_abs : mg "abs" = none
  n_bool : mg "bool" = none
  n_int : mg "int" = none
  n_isinstance : mg "isinstance" = none
  n_len : mg "len" = none
  n_list : mg "list" = none
  n_range : mg "range" = none
  n_repr : mg "repr" = none
  n_sum : mg "sum" = none
  n_tuple : mg "tuple" = none
  C_BadNumber : Addr
  m_BadNumber : mg "BadNumber" = some (.ref C_BadNumber)
  C_BadSlope : Addr
  m_BadSlope : mg "BadSlope" = some (.ref C_BadSlope)
  C_TermError : Addr
  m_TermError : mg "TermError" = some (.ref C_TermError)
  C_TooMany : Addr
  m_TooMany : mg "TooMany" = some (.ref C_TooMany)
  x_BadNumber : ExcK K ec mg "BadNumber" C_BadNumber
  x_BadSlope : ExcK K ec mg "BadSlope" C_BadSlope
  hs_TermError : ∀ n D, ec n = some D → PySem.W.exmOne K (.ref D) (.ref C_TermError) = some (sub n "TermError")
  hs_TooMany : ∀ n D, ec n = some D → PySem.W.exmOne K (.ref D) (.ref C_TooMany) = some (sub n "TooMany")
  ks_BadNumber : ∀ n D, ec n = some D → PySem.W.kitOne K (.ref D) (.ref C_BadNumber) = some (sub n "BadNumber")
  ks_BadSlope : ∀ n D, ec n = some D → PySem.W.kitOne K (.ref D) (.ref C_BadSlope) = some (sub n "BadSlope")
  ks_ValueError : ∀ n D, ec n = some D → PySem.W.kitOne K (.ref D) (.type "ValueError") = some true
  exc : ∀ n D, ec n = some D → ExcC K D
variable {G : Gd} {P : Program} {w : World} {mg : Str → Option Value} {base : Heap}
def w_is_integer_1 : WS := wRet (wAndV (wCB cIsi (wCons (wV 0) (wCons (wC (.ty "int")) (wNil)))) (wNotV (wCB cIsi (wCons (wV 0) (wCons (wC (.ty "bool")) (wNil))))))
theorem st_is_integer {x0 : PV} : startP N_is_integer [x0] = [some x0] := rfl
def W_is_integer : WS := wRet (wAndV (wCB cIsi (wCons (wV 0) (wCons (wC (.ty "int")) (wNil)))) (wNotV (wCB cIsi (wCons (wV 0) (wCons (wC (.ty "bool")) (wNil))))))
theorem eW_is_integer : W_is_integer = w_is_integer_1 := rfl
theorem j_is_integer {A : Around} {outer : List Env} {s : Shared} {H : Hp} {E : XK} {cdv : Value} (T : Tx G.K G.ec mg) (hr : Room 0 (A.deeper (envOfC "is_integer" (defScope s_is_integer) s.heap.objs.size T.a_is_integer cdv))) :
    JSs G (cxOf (L2.CX P w) P w G.K mg base N_is_integer "is_integer" (defScope s_is_integer) T.a_is_integer cdv A outer s H E) (defBody s_is_integer) W_is_integer :=
  have hu := hr.units
  jss_one (js_ret (je_and (je_callB call_isi cl_isi rfl T.n_isinstance (by decide +kernel) (ja_cons (je_pv 0) (ja_cons (je_blt rfl T.n_int (by decide +kernel)) (ja_nil)))) (je_one (je_not (je_callB call_isi cl_isi rfl T.n_isinstance (by decide +kernel) (ja_cons (je_pv 0) (ja_cons (je_blt rfl T.n_bool (by decide +kernel)) (ja_nil))))))))
def sp_is_integer : PSp := fun xs S Q E => xs.length = 1 ∧ W_is_integer (PD.fnD Q E) (startP N_is_integer xs) S
theorem ok_is_integer (T : Tx G.K G.ec mg) : FnP G P w mg base 1 T.a_is_integer T.d_is_integer p_is_integer sp_is_integer :=
  fn_okD T.F_is_integer sc_is_integer (fun _ _ _ _ h => h.1) (fun cdv A outer s H E _ hr => j_is_integer T hr) fun _ _ _ _ h => h.2
def w_is_within_1 : WS := wRet (wAndV (wCall sp_is_integer (wCons (wV 0) (wNil))) (wChain oLe oLe (wV 1) (wV 0) (wV 2)))
theorem st_is_within {x0 x1 x2 : PV} : startP N_is_within [x0, x1, x2] = [some x0, some x1, some x2] := rfl
def W_is_within : WS := wRet (wAndV (wCall sp_is_integer (wCons (wV 0) (wNil))) (wChain oLe oLe (wV 1) (wV 0) (wV 2)))
theorem eW_is_within : W_is_within = w_is_within_1 := rfl
theorem j_is_within {A : Around} {outer : List Env} {s : Shared} {H : Hp} {E : XK} {cdv : Value} (T : Tx G.K G.ec mg) (hr : Room 1 (A.deeper (envOfC "is_within" (defScope s_is_within) s.heap.objs.size T.a_is_within cdv))) :
    JSs G (cxOf (L2.CX P w) P w G.K mg base N_is_within "is_within" (defScope s_is_within) T.a_is_within cdv A outer s H E) (defBody s_is_within) W_is_within :=
  have hu := hr.units
  jss_one (js_ret (je_and (je_call (ok_is_integer T) (hr.mono (by decide)) rfl T.m_is_integer T.F_is_integer.kp T.b_is_integer (ja_cons (je_pv 0) (ja_nil))) (je_one (je_lele (je_pv 1) (je_pv 0) (je_pv 2)))))
def sp_is_within : PSp := fun xs S Q E => xs.length = 3 ∧ W_is_within (PD.fnD Q E) (startP N_is_within xs) S
theorem ok_is_within (T : Tx G.K G.ec mg) : FnP G P w mg base 2 T.a_is_within T.d_is_within p_is_within sp_is_within :=
  fn_okD T.F_is_within sc_is_within (fun _ _ _ _ h => h.1) (fun cdv A outer s H E _ hr => j_is_within T hr) fun _ _ _ _ h => h.2
def w_is_tuple_of_1 : WS := wRet (wAndV (wCB cIsi (wCons (wV 0) (wCons (wC (.ty "tuple")) (wNil)))) (wOp oEq (wCB cLen (wCons (wV 0) (wNil))) (wV 1)))
theorem st_is_tuple_of {x0 x1 : PV} : startP N_is_tuple_of [x0, x1] = [some x0, some x1] := rfl
def W_is_tuple_of : WS := wRet (wAndV (wCB cIsi (wCons (wV 0) (wCons (wC (.ty "tuple")) (wNil)))) (wOp oEq (wCB cLen (wCons (wV 0) (wNil))) (wV 1)))
theorem eW_is_tuple_of : W_is_tuple_of = w_is_tuple_of_1 := rfl
theorem j_is_tuple_of {A : Around} {outer : List Env} {s : Shared} {H : Hp} {E : XK} {cdv : Value} (T : Tx G.K G.ec mg) (hr : Room 0 (A.deeper (envOfC "is_tuple_of" (defScope s_is_tuple_of) s.heap.objs.size T.a_is_tuple_of cdv))) :
    JSs G (cxOf (L2.CX P w) P w G.K mg base N_is_tuple_of "is_tuple_of" (defScope s_is_tuple_of) T.a_is_tuple_of cdv A outer s H E) (defBody s_is_tuple_of) W_is_tuple_of :=
  have hu := hr.units
  jss_one (js_ret (je_and (je_callB call_isi cl_isi rfl T.n_isinstance (by decide +kernel) (ja_cons (je_pv 0) (ja_cons (je_blt rfl T.n_tuple (by decide +kernel)) (ja_nil)))) (je_one (je_eq hu (je_callB call_len cl_len rfl T.n_len (by decide +kernel) (ja_cons (je_pv 0) (ja_nil))) (je_pv 1)))))
def sp_is_tuple_of : PSp := fun xs S Q E => xs.length = 2 ∧ W_is_tuple_of (PD.fnD Q E) (startP N_is_tuple_of xs) S
theorem ok_is_tuple_of (T : Tx G.K G.ec mg) : FnP G P w mg base 1 T.a_is_tuple_of T.d_is_tuple_of p_is_tuple_of sp_is_tuple_of :=
  fn_okD T.F_is_tuple_of sc_is_tuple_of (fun _ _ _ _ h => h.1) (fun cdv A outer s H E _ hr => j_is_tuple_of T hr) fun _ _ _ _ h => h.2
def w_common_1 : WS := wPar 0 1 (wCons (wCB cAbs (wCons (wV 0) (wNil))) (wCons (wCB cAbs (wCons (wV 1) (wNil))) (wNil)))
def w_common_3 : WS := wPar 0 1 (wCons (wV 1) (wCons (wOp oMod (wV 0) (wV 1)) (wNil)))
def w_common_2 : WS := wWhile (wTest (wOp oGt (wV 1) (wC (.int 0)))) (w_common_3)
def w_common_4 : WS := wRet (wV 0)
def b_common_2 : WS := wSeq (w_common_2) (w_common_4)
def b_common_1 : WS := wSeq (w_common_1) (b_common_2)
theorem st_common {x0 x1 : PV} : startP N_common [x0, x1] = [some x0, some x1] := rfl
def W_common : WS := wSeq (wPar 0 1 (wCons (wCB cAbs (wCons (wV 0) (wNil))) (wCons (wCB cAbs (wCons (wV 1) (wNil))) (wNil)))) (wSeq (wWhile (wTest (wOp oGt (wV 1) (wC (.int 0)))) (wPar 0 1 (wCons (wV 1) (wCons (wOp oMod (wV 0) (wV 1)) (wNil))))) (wRet (wV 0)))
theorem eW_common : W_common = b_common_1 := rfl
theorem j_common {A : Around} {outer : List Env} {s : Shared} {H : Hp} {E : XK} {cdv : Value} (T : Tx G.K G.ec mg) (hr : Room 0 (A.deeper (envOfC "common" (defScope s_common) s.heap.objs.size T.a_common cdv))) :
    JSs G (cxOf (L2.CX P w) P w G.K mg base N_common "common" (defScope s_common) T.a_common cdv A outer s H E) (defBody s_common) W_common :=
  have hu := hr.units
  jss_cons (js_par (i := 0) (j := 1) rfl sc_common.nd rfl rfl (by decide) rfl rfl (ja_cons (je_callB call_abs cl_abs rfl T.n_abs (by decide +kernel) (ja_cons (je_pv 0) (ja_nil))) (ja_cons (je_callB call_abs cl_abs rfl T.n_abs (by decide +kernel) (ja_cons (je_pv 1) (ja_nil))) (ja_nil))) (by rfl)) (jss_cons (js_while (passes_of rfl) (jt_gt (je_pv 1) (je_int)) (jss_one (js_par (i := 0) (j := 1) rfl sc_common.nd rfl rfl (by decide) rfl rfl (ja_cons (je_pv 1) (ja_cons (je_mod (je_pv 0) (je_pv 1)) (ja_nil))) (by rfl)))) (jss_one (js_ret (je_pv 0))))
def sp_common : PSp := fun xs S Q E => xs.length = 2 ∧ W_common (PD.fnD Q E) (startP N_common xs) S
theorem ok_common (T : Tx G.K G.ec mg) : FnP G P w mg base 1 T.a_common T.d_common p_common sp_common :=
  fn_okD T.F_common sc_common (fun _ _ _ _ h => h.1) (fun cdv A outer s H E _ hr => j_common T hr) fun _ _ _ _ h => h.2
def w_frac_1 : WS := wSet 2 (wCall sp_common (wCons (wV 0) (wCons (wV 1) (wNil))))
def w_frac_3 : WS := wSet 2 (wUn oNeg (wV 2))
def w_frac_2 : WS := wIf (wTest (wOp oLt (wV 1) (wC (.int 0)))) (w_frac_3) (wNext)
def w_frac_4 : WS := wRet (wTup (wCons (wOp oFdiv (wV 0) (wV 2)) (wCons (wOp oFdiv (wV 1) (wV 2)) (wNil))))
def b_frac_2 : WS := wSeq (w_frac_2) (w_frac_4)
def b_frac_1 : WS := wSeq (w_frac_1) (b_frac_2)
theorem st_frac {x0 x1 : PV} : startP N_frac [x0, x1] = [some x0, some x1, none] := rfl
def W_frac : WS := wSeq (wSet 2 (wCall sp_common (wCons (wV 0) (wCons (wV 1) (wNil))))) (wSeq (wIf (wTest (wOp oLt (wV 1) (wC (.int 0)))) (wSet 2 (wUn oNeg (wV 2))) (wNext)) (wRet (wTup (wCons (wOp oFdiv (wV 0) (wV 2)) (wCons (wOp oFdiv (wV 1) (wV 2)) (wNil))))))
theorem eW_frac : W_frac = b_frac_1 := rfl
theorem j_frac {A : Around} {outer : List Env} {s : Shared} {H : Hp} {E : XK} {cdv : Value} (T : Tx G.K G.ec mg) (hr : Room 1 (A.deeper (envOfC "frac" (defScope s_frac) s.heap.objs.size T.a_frac cdv))) :
    JSs G (cxOf (L2.CX P w) P w G.K mg base N_frac "frac" (defScope s_frac) T.a_frac cdv A outer s H E) (defBody s_frac) W_frac :=
  have hu := hr.units
  jss_cons (js_set (i := 2) sc_frac.nd rfl (.inl rfl) (je_call (ok_common T) (hr.mono (by decide)) rfl T.m_common T.F_common.kp T.b_common (ja_cons (je_pv 0) (ja_cons (je_pv 1) (ja_nil))))) (jss_cons (js_if (jt_lt hu (je_pv 1) (je_int)) (jss_one (js_set (i := 2) sc_frac.nd rfl (.inl rfl) (je_neg (je_pv 2)))) (jss_nil)) (jss_one (js_ret (je_tup (ja_cons (je_fdiv (je_pv 0) (je_pv 2)) (ja_cons (je_fdiv (je_pv 1) (je_pv 2)) (ja_nil)))))))
def sp_frac : PSp := fun xs S Q E => xs.length = 2 ∧ W_frac (PD.fnD Q E) (startP N_frac xs) S
theorem ok_frac (T : Tx G.K G.ec mg) : FnP G P w mg base 2 T.a_frac T.d_frac p_frac sp_frac :=
  fn_okD T.F_frac sc_frac (fun _ _ _ _ h => h.1) (fun cdv A outer s H E _ hr => j_frac T hr) fun _ _ _ _ h => h.2
def w_is_fraction_2 : WS := wRet (wC (.bl false))
def w_is_fraction_1 : WS := wIf (wOr (wNot (wTru (wCall sp_is_tuple_of (wCons (wV 0) (wCons (wC (.int 2)) (wNil)))))) (wOr (wNot (wTru (wCall sp_is_integer (wCons (wOp oIx (wV 0) (wC (.int 0))) (wNil))))) (wNot (wTru (wCall sp_is_integer (wCons (wOp oIx (wV 0) (wC (.int 1))) (wNil))))))) (w_is_fraction_2) (wNext)
def w_is_fraction_3 : WS := wRet (wAndV (wOp oGe (wOp oIx (wV 0) (wC (.int 1))) (wC (.int 1))) (wOp oEq (wCall sp_common (wCons (wOp oIx (wV 0) (wC (.int 0))) (wCons (wOp oIx (wV 0) (wC (.int 1))) (wNil)))) (wC (.int 1))))
def b_is_fraction_1 : WS := wSeq (w_is_fraction_1) (w_is_fraction_3)
theorem st_is_fraction {x0 : PV} : startP N_is_fraction [x0] = [some x0] := rfl
def W_is_fraction : WS := wSeq (wIf (wOr (wNot (wTru (wCall sp_is_tuple_of (wCons (wV 0) (wCons (wC (.int 2)) (wNil)))))) (wOr (wNot (wTru (wCall sp_is_integer (wCons (wOp oIx (wV 0) (wC (.int 0))) (wNil))))) (wNot (wTru (wCall sp_is_integer (wCons (wOp oIx (wV 0) (wC (.int 1))) (wNil))))))) (wRet (wC (.bl false))) (wNext)) (wRet (wAndV (wOp oGe (wOp oIx (wV 0) (wC (.int 1))) (wC (.int 1))) (wOp oEq (wCall sp_common (wCons (wOp oIx (wV 0) (wC (.int 0))) (wCons (wOp oIx (wV 0) (wC (.int 1))) (wNil)))) (wC (.int 1)))))
theorem eW_is_fraction : W_is_fraction = b_is_fraction_1 := rfl
theorem j_is_fraction {A : Around} {outer : List Env} {s : Shared} {H : Hp} {E : XK} {cdv : Value} (T : Tx G.K G.ec mg) (hr : Room 1 (A.deeper (envOfC "is_fraction" (defScope s_is_fraction) s.heap.objs.size T.a_is_fraction cdv))) :
    JSs G (cxOf (L2.CX P w) P w G.K mg base N_is_fraction "is_fraction" (defScope s_is_fraction) T.a_is_fraction cdv A outer s H E) (defBody s_is_fraction) W_is_fraction :=
  have hu := hr.units
  jss_cons (js_if (jt_w (jw_or (jt_not (jt_tru (je_call (ok_is_tuple_of T) (hr.mono (by decide)) rfl T.m_is_tuple_of T.F_is_tuple_of.kp T.b_is_tuple_of (ja_cons (je_pv 0) (ja_cons (je_int) (ja_nil)))))) (jw_or (jt_not (jt_tru (je_call (ok_is_integer T) (hr.mono (by decide)) rfl T.m_is_integer T.F_is_integer.kp T.b_is_integer (ja_cons (je_ix (je_pv 0) (je_int)) (ja_nil))))) (jw_or1 (jt_not (jt_tru (je_call (ok_is_integer T) (hr.mono (by decide)) rfl T.m_is_integer T.F_is_integer.kp T.b_is_integer (ja_cons (je_ix (je_pv 0) (je_int)) (ja_nil))))))))) (jss_one (js_ret (je_bl))) (jss_nil)) (jss_one (js_ret (je_and (je_ge (je_ix (je_pv 0) (je_int)) (je_int)) (je_one (je_eq hu (je_call (ok_common T) (hr.mono (by decide)) rfl T.m_common T.F_common.kp T.b_common (ja_cons (je_ix (je_pv 0) (je_int)) (ja_cons (je_ix (je_pv 0) (je_int)) (ja_nil)))) (je_int))))))
def sp_is_fraction : PSp := fun xs S Q E => xs.length = 1 ∧ W_is_fraction (PD.fnD Q E) (startP N_is_fraction xs) S
theorem ok_is_fraction (T : Tx G.K G.ec mg) : FnP G P w mg base 2 T.a_is_fraction T.d_is_fraction p_is_fraction sp_is_fraction :=
  fn_okD T.F_is_fraction sc_is_fraction (fun _ _ _ _ h => h.1) (fun cdv A outer s H E _ hr => j_is_fraction T hr) fun _ _ _ _ h => h.2
def w_minus_1 : WS := wRet (wCall sp_frac (wCons (wOp oSub (wOp oMul (wOp oIx (wV 0) (wC (.int 0))) (wOp oIx (wV 1) (wC (.int 1)))) (wOp oMul (wOp oIx (wV 1) (wC (.int 0))) (wOp oIx (wV 0) (wC (.int 1))))) (wCons (wOp oMul (wOp oIx (wV 0) (wC (.int 1))) (wOp oIx (wV 1) (wC (.int 1)))) (wNil))))
theorem st_minus {x0 x1 : PV} : startP N_minus [x0, x1] = [some x0, some x1] := rfl
def W_minus : WS := wRet (wCall sp_frac (wCons (wOp oSub (wOp oMul (wOp oIx (wV 0) (wC (.int 0))) (wOp oIx (wV 1) (wC (.int 1)))) (wOp oMul (wOp oIx (wV 1) (wC (.int 0))) (wOp oIx (wV 0) (wC (.int 1))))) (wCons (wOp oMul (wOp oIx (wV 0) (wC (.int 1))) (wOp oIx (wV 1) (wC (.int 1)))) (wNil))))
theorem eW_minus : W_minus = w_minus_1 := rfl
theorem j_minus {A : Around} {outer : List Env} {s : Shared} {H : Hp} {E : XK} {cdv : Value} (T : Tx G.K G.ec mg) (hr : Room 2 (A.deeper (envOfC "minus" (defScope s_minus) s.heap.objs.size T.a_minus cdv))) :
    JSs G (cxOf (L2.CX P w) P w G.K mg base N_minus "minus" (defScope s_minus) T.a_minus cdv A outer s H E) (defBody s_minus) W_minus :=
  have hu := hr.units
  jss_one (js_ret (je_call (ok_frac T) (hr.mono (by decide)) rfl T.m_frac T.F_frac.kp T.b_frac (ja_cons (je_sub (je_mul (je_ix (je_pv 0) (je_int)) (je_ix (je_pv 1) (je_int))) (je_mul (je_ix (je_pv 1) (je_int)) (je_ix (je_pv 0) (je_int)))) (ja_cons (je_mul (je_ix (je_pv 0) (je_int)) (je_ix (je_pv 1) (je_int))) (ja_nil)))))
def sp_minus : PSp := fun xs S Q E => xs.length = 2 ∧ W_minus (PD.fnD Q E) (startP N_minus xs) S
theorem ok_minus (T : Tx G.K G.ec mg) : FnP G P w mg base 3 T.a_minus T.d_minus p_minus sp_minus :=
  fn_okD T.F_minus sc_minus (fun _ _ _ _ h => h.1) (fun cdv A outer s H E _ hr => j_minus T hr) fun _ _ _ _ h => h.2
def w_less_1 : WS := wRet (wOp oLt (wOp oMul (wOp oIx (wV 0) (wC (.int 0))) (wOp oIx (wV 1) (wC (.int 1)))) (wOp oMul (wOp oIx (wV 1) (wC (.int 0))) (wOp oIx (wV 0) (wC (.int 1)))))
theorem st_less {x0 x1 : PV} : startP N_less [x0, x1] = [some x0, some x1] := rfl
def W_less : WS := wRet (wOp oLt (wOp oMul (wOp oIx (wV 0) (wC (.int 0))) (wOp oIx (wV 1) (wC (.int 1)))) (wOp oMul (wOp oIx (wV 1) (wC (.int 0))) (wOp oIx (wV 0) (wC (.int 1)))))
theorem eW_less : W_less = w_less_1 := rfl
theorem j_less {A : Around} {outer : List Env} {s : Shared} {H : Hp} {E : XK} {cdv : Value} (T : Tx G.K G.ec mg) (hr : Room 0 (A.deeper (envOfC "less" (defScope s_less) s.heap.objs.size T.a_less cdv))) :
    JSs G (cxOf (L2.CX P w) P w G.K mg base N_less "less" (defScope s_less) T.a_less cdv A outer s H E) (defBody s_less) W_less :=
  have hu := hr.units
  jss_one (js_ret (je_lt hu (je_mul (je_ix (je_pv 0) (je_int)) (je_ix (je_pv 1) (je_int))) (je_mul (je_ix (je_pv 1) (je_int)) (je_ix (je_pv 0) (je_int)))))
def sp_less : PSp := fun xs S Q E => xs.length = 2 ∧ W_less (PD.fnD Q E) (startP N_less xs) S
theorem ok_less (T : Tx G.K G.ec mg) : FnP G P w mg base 1 T.a_less T.d_less p_less sp_less :=
  fn_okD T.F_less sc_less (fun _ _ _ _ h => h.1) (fun cdv A outer s H E _ hr => j_less T hr) fun _ _ _ _ h => h.2
def w_check_slope_2 : WS := wRaise "BadSlope"
def w_check_slope_1 : WS := wIf (wOr (wNot (wTru (wCall sp_is_fraction (wCons (wV 0) (wNil))))) (wOr (wTest (wOp oLt (wOp oIx (wV 0) (wC (.int 0))) (wC (.int 0)))) (wOr (wTest (wOp oGt (wOp oIx (wV 0) (wC (.int 0))) (wC (.int 1000000000)))) (wTest (wOp oGt (wOp oIx (wV 0) (wC (.int 1))) (wC (.int 1000000000))))))) (w_check_slope_2) (wNext)
theorem st_check_slope {x0 : PV} : startP N_check_slope [x0] = [some x0] := rfl
def W_check_slope : WS := wIf (wOr (wNot (wTru (wCall sp_is_fraction (wCons (wV 0) (wNil))))) (wOr (wTest (wOp oLt (wOp oIx (wV 0) (wC (.int 0))) (wC (.int 0)))) (wOr (wTest (wOp oGt (wOp oIx (wV 0) (wC (.int 0))) (wC (.int 1000000000)))) (wTest (wOp oGt (wOp oIx (wV 0) (wC (.int 1))) (wC (.int 1000000000))))))) (wRaise "BadSlope") (wNext)
theorem eW_check_slope : W_check_slope = w_check_slope_1 := rfl
theorem j_check_slope {A : Around} {outer : List Env} {s : Shared} {H : Hp} {E : XK} {cdv : Value} (T : Tx G.K G.ec mg) (hr : Room 2 (A.deeper (envOfC "check_slope" (defScope s_check_slope) s.heap.objs.size T.a_check_slope cdv))) :
    JSs G (cxOf (L2.CX P w) P w G.K mg base N_check_slope "check_slope" (defScope s_check_slope) T.a_check_slope cdv A outer s H E) (defBody s_check_slope) W_check_slope :=
  have hu := hr.units
  jss_one (js_if (jt_w (jw_or (jt_not (jt_tru (je_call (ok_is_fraction T) (hr.mono (by decide)) rfl T.m_is_fraction T.F_is_fraction.kp T.b_is_fraction (ja_cons (je_pv 0) (ja_nil))))) (jw_or (jt_lt hu (je_ix (je_pv 0) (je_int)) (je_int)) (jw_or (jt_gt (je_ix (je_pv 0) (je_int)) (je_gint rfl T.g_MOST_SLOPE)) (jw_or1 (jt_gt (je_ix (je_pv 0) (je_int)) (je_gint rfl T.g_MOST_SLOPE))))))) (jss_one (js_raise rfl T.x_BadSlope.t rfl)) (jss_nil))
def sp_check_slope : PSp := fun xs S Q E => xs.length = 1 ∧ W_check_slope (PD.fnD Q E) (startP N_check_slope xs) S
theorem ok_check_slope (T : Tx G.K G.ec mg) : FnP G P w mg base 3 T.a_check_slope T.d_check_slope p_check_slope sp_check_slope :=
  fn_okD T.F_check_slope sc_check_slope (fun _ _ _ _ h => h.1) (fun cdv A outer s H E _ hr => j_check_slope T hr) fun _ _ _ _ h => h.2
def w_whole_part_1 : WS := wExpr (wCall sp_check_slope (wCons (wV 0) (wNil)))
def w_whole_part_2 : WS := wExpr (wCall sp_check_slope (wCons (wV 1) (wNil)))
def w_whole_part_4 : WS := wRaise "BadNumber"
def w_whole_part_3 : WS := wIf (wNot (wTru (wCall sp_is_within (wCons (wV 2) (wCons (wC (.int 0)) (wCons (wC (.int 1000000000000000000)) (wNil))))))) (w_whole_part_4) (wNext)
def w_whole_part_5 : WS := wSet 3 (wOp oAdd (wOp oMul (wOp oMul (wOp oIx (wV 0) (wC (.int 0))) (wV 2)) (wOp oIx (wV 1) (wC (.int 1)))) (wOp oMul (wOp oIx (wV 1) (wC (.int 0))) (wOp oIx (wV 0) (wC (.int 1)))))
def w_whole_part_6 : WS := wRet (wOp oFdiv (wV 3) (wOp oMul (wOp oIx (wV 0) (wC (.int 1))) (wOp oIx (wV 1) (wC (.int 1)))))
def b_whole_part_5 : WS := wSeq (w_whole_part_5) (w_whole_part_6)
def b_whole_part_3 : WS := wSeq (w_whole_part_3) (b_whole_part_5)
def b_whole_part_2 : WS := wSeq (w_whole_part_2) (b_whole_part_3)
def b_whole_part_1 : WS := wSeq (w_whole_part_1) (b_whole_part_2)
theorem st_whole_part {x0 x1 x2 : PV} : startP N_whole_part [x0, x1, x2] = [some x0, some x1, some x2, none] := rfl
def W_whole_part : WS := wSeq (wExpr (wCall sp_check_slope (wCons (wV 0) (wNil)))) (wSeq (wExpr (wCall sp_check_slope (wCons (wV 1) (wNil)))) (wSeq (wIf (wNot (wTru (wCall sp_is_within (wCons (wV 2) (wCons (wC (.int 0)) (wCons (wC (.int 1000000000000000000)) (wNil))))))) (wRaise "BadNumber") (wNext)) (wSeq (wSet 3 (wOp oAdd (wOp oMul (wOp oMul (wOp oIx (wV 0) (wC (.int 0))) (wV 2)) (wOp oIx (wV 1) (wC (.int 1)))) (wOp oMul (wOp oIx (wV 1) (wC (.int 0))) (wOp oIx (wV 0) (wC (.int 1)))))) (wRet (wOp oFdiv (wV 3) (wOp oMul (wOp oIx (wV 0) (wC (.int 1))) (wOp oIx (wV 1) (wC (.int 1)))))))))
theorem eW_whole_part : W_whole_part = b_whole_part_1 := rfl
theorem j_whole_part {A : Around} {outer : List Env} {s : Shared} {H : Hp} {E : XK} {cdv : Value} (T : Tx G.K G.ec mg) (hr : Room 3 (A.deeper (envOfC "whole_part" (defScope s_whole_part) s.heap.objs.size T.a_whole_part cdv))) :
    JSs G (cxOf (L2.CX P w) P w G.K mg base N_whole_part "whole_part" (defScope s_whole_part) T.a_whole_part cdv A outer s H E) (defBody s_whole_part) W_whole_part :=
  have hu := hr.units
  jss_cons (js_expr (je_call (ok_check_slope T) (hr.mono (by decide)) rfl T.m_check_slope T.F_check_slope.kp T.b_check_slope (ja_cons (je_pv 0) (ja_nil)))) (jss_cons (js_expr (je_call (ok_check_slope T) (hr.mono (by decide)) rfl T.m_check_slope T.F_check_slope.kp T.b_check_slope (ja_cons (je_pv 1) (ja_nil)))) (jss_cons (js_if (jt_not (jt_tru (je_call (ok_is_within T) (hr.mono (by decide)) rfl T.m_is_within T.F_is_within.kp T.b_is_within (ja_cons (je_pv 2) (ja_cons (je_int) (ja_cons (je_gint rfl T.g_MOST_PLACE) (ja_nil))))))) (jss_one (js_raise rfl T.x_BadNumber.t rfl)) (jss_nil)) (jss_cons (js_set (i := 3) sc_whole_part.nd rfl (.inl rfl) (je_add (je_mul (je_mul (je_ix (je_pv 0) (je_int)) (je_pv 2)) (je_ix (je_pv 1) (je_int))) (je_mul (je_ix (je_pv 1) (je_int)) (je_ix (je_pv 0) (je_int))))) (jss_one (js_ret (je_fdiv (je_pv 3) (je_mul (je_ix (je_pv 0) (je_int)) (je_ix (je_pv 1) (je_int)))))))))
def sp_whole_part : PSp := fun xs S Q E => xs.length = 3 ∧ W_whole_part (PD.fnD Q E) (startP N_whole_part xs) S
theorem ok_whole_part (T : Tx G.K G.ec mg) : FnP G P w mg base 4 T.a_whole_part T.d_whole_part p_whole_part sp_whole_part :=
  fn_okD T.F_whole_part sc_whole_part (fun _ _ _ _ h => h.1) (fun cdv A outer s H E _ hr => j_whole_part T hr) fun _ _ _ _ h => h.2
def w_beat_row_2 : WS := wRaise "BadNumber"
def w_beat_row_1 : WS := wIf (wNot (wTru (wCall sp_is_within (wCons (wV 2) (wCons (wC (.int 0)) (wCons (wC (.int 5000)) (wNil))))))) (w_beat_row_2) (wNext)
def w_beat_row_3 : WS := wExpr (wCall sp_check_slope (wCons (wV 0) (wNil)))
def w_beat_row_4 : WS := wExpr (wCall sp_check_slope (wCons (wV 1) (wNil)))
def w_beat_row_5 : WS := wRet (wCB cTuple (wCons (wLc (iRange1 (wV 2)) (gN 3) wYes (wCall sp_whole_part (wCons (wV 0) (wCons (wV 1) (wCons (wV 3) (wNil))))) [3]) (wNil)))
def b_beat_row_4 : WS := wSeq (w_beat_row_4) (w_beat_row_5)
def b_beat_row_3 : WS := wSeq (w_beat_row_3) (b_beat_row_4)
def b_beat_row_1 : WS := wSeq (w_beat_row_1) (b_beat_row_3)
theorem st_beat_row {x0 x1 x2 : PV} : startP N_beat_row [x0, x1, x2] = [some x0, some x1, some x2, none] := rfl
def W_beat_row : WS := wSeq (wIf (wNot (wTru (wCall sp_is_within (wCons (wV 2) (wCons (wC (.int 0)) (wCons (wC (.int 5000)) (wNil))))))) (wRaise "BadNumber") (wNext)) (wSeq (wExpr (wCall sp_check_slope (wCons (wV 0) (wNil)))) (wSeq (wExpr (wCall sp_check_slope (wCons (wV 1) (wNil)))) (wRet (wCB cTuple (wCons (wLc (iRange1 (wV 2)) (gN 3) wYes (wCall sp_whole_part (wCons (wV 0) (wCons (wV 1) (wCons (wV 3) (wNil))))) [3]) (wNil))))))
theorem eW_beat_row : W_beat_row = b_beat_row_1 := rfl
theorem j_beat_row {A : Around} {outer : List Env} {s : Shared} {H : Hp} {E : XK} {cdv : Value} (T : Tx G.K G.ec mg) (hr : Room 4 (A.deeper (envOfC "beat_row" (defScope s_beat_row) s.heap.objs.size T.a_beat_row cdv))) :
    JSs G (cxOf (L2.CX P w) P w G.K mg base N_beat_row "beat_row" (defScope s_beat_row) T.a_beat_row cdv A outer s H E) (defBody s_beat_row) W_beat_row :=
  have hu := hr.units
  jss_cons (js_if (jt_not (jt_tru (je_call (ok_is_within T) (hr.mono (by decide)) rfl T.m_is_within T.F_is_within.kp T.b_is_within (ja_cons (je_pv 2) (ja_cons (je_int) (ja_cons (je_int) (ja_nil))))))) (jss_one (js_raise rfl T.x_BadNumber.t rfl)) (jss_nil)) (jss_cons (js_expr (je_call (ok_check_slope T) (hr.mono (by decide)) rfl T.m_check_slope T.F_check_slope.kp T.b_check_slope (ja_cons (je_pv 0) (ja_nil)))) (jss_cons (js_expr (je_call (ok_check_slope T) (hr.mono (by decide)) rfl T.m_check_slope T.F_check_slope.kp T.b_check_slope (ja_cons (je_pv 1) (ja_nil)))) (jss_one (js_ret (je_callTy call_tuple_of cl_tuple rfl T.n_tuple (by decide +kernel) (ja_cons (je_lc0 (own := [("place", 3)]) rfl sc_beat_row.nd (ji_range1 rfl T.n_range (je_pv 2)) (blkOk_by (N := N_beat_row) (sc := defScope s_beat_row) (by decide +kernel)) (fun _ _ _ _ _ => jg_name sc_beat_row.nd (i := 3) rfl (.inl rfl)) (fun _ _ _ _ _ => je_call (ok_whole_part T) (hr.mono (by decide)) rfl T.m_whole_part T.F_whole_part.kp T.b_whole_part (ja_cons (je_pv 0) (ja_cons (je_pv 1) (ja_cons (je_pv 3) (ja_nil)))))) (ja_nil)))))))
def sp_beat_row : PSp := fun xs S Q E => xs.length = 3 ∧ W_beat_row (PD.fnD Q E) (startP N_beat_row xs) S
theorem ok_beat_row (T : Tx G.K G.ec mg) : FnP G P w mg base 5 T.a_beat_row T.d_beat_row p_beat_row sp_beat_row :=
  fn_okD T.F_beat_row sc_beat_row (fun _ _ _ _ h => h.1) (fun cdv A outer s H E _ hr => j_beat_row T hr) fun _ _ _ _ h => h.2
def w_floor_sum_1 : WS := wSet 4 (wC (.int 0))
def w_floor_sum_3 : WS := wSet 4 (wOp oAdd (wOp oAdd (wV 4) (wOp oMul (wOp oFdiv (wOp oMul (wV 0) (wOp oSub (wV 0) (wC (.int 1)))) (wC (.int 2))) (wOp oFdiv (wV 1) (wV 3)))) (wOp oMul (wV 0) (wOp oFdiv (wV 2) (wV 3))))
def w_floor_sum_4 : WS := wPar 1 2 (wCons (wOp oMod (wV 1) (wV 3)) (wCons (wOp oMod (wV 2) (wV 3)) (wNil)))
def w_floor_sum_5 : WS := wSet 5 (wOp oAdd (wOp oMul (wV 1) (wV 0)) (wV 2))
def w_floor_sum_7 : WS := wRet (wV 4)
def w_floor_sum_6 : WS := wIf (wTest (wOp oLt (wV 5) (wV 3))) (w_floor_sum_7) (wNext)
def w_floor_sum_8 : WS := wAsg (wTup (wCons (wOp oFdiv (wV 5) (wV 3)) (wCons (wOp oMod (wV 5) (wV 3)) (wCons (wV 3) (wCons (wV 1) (wNil)))))) (gTup' 4 (gCons' (gN 0) (gCons' (gN 2) (gCons' (gN 1) (gCons' (gN 3) (gNil'))))))
def b_floor_sum_6 : WS := wSeq (w_floor_sum_6) (w_floor_sum_8)
def b_floor_sum_5 : WS := wSeq (w_floor_sum_5) (b_floor_sum_6)
def b_floor_sum_4 : WS := wSeq (w_floor_sum_4) (b_floor_sum_5)
def b_floor_sum_3 : WS := wSeq (w_floor_sum_3) (b_floor_sum_4)
def w_floor_sum_2 : WS := wWhile (wTest (wOp oGt (wV 0) (wC (.int 0)))) (b_floor_sum_3)
def w_floor_sum_9 : WS := wRet (wV 4)
def b_floor_sum_2 : WS := wSeq (w_floor_sum_2) (w_floor_sum_9)
def b_floor_sum_1 : WS := wSeq (w_floor_sum_1) (b_floor_sum_2)
theorem st_floor_sum {x0 x1 x2 x3 : PV} : startP N_floor_sum [x0, x1, x2, x3] = [some x0, some x1, some x2, some x3, none, none] := rfl
def W_floor_sum : WS := wSeq (wSet 4 (wC (.int 0))) (wSeq (wWhile (wTest (wOp oGt (wV 0) (wC (.int 0)))) (wSeq (wSet 4 (wOp oAdd (wOp oAdd (wV 4) (wOp oMul (wOp oFdiv (wOp oMul (wV 0) (wOp oSub (wV 0) (wC (.int 1)))) (wC (.int 2))) (wOp oFdiv (wV 1) (wV 3)))) (wOp oMul (wV 0) (wOp oFdiv (wV 2) (wV 3))))) (wSeq (wPar 1 2 (wCons (wOp oMod (wV 1) (wV 3)) (wCons (wOp oMod (wV 2) (wV 3)) (wNil)))) (wSeq (wSet 5 (wOp oAdd (wOp oMul (wV 1) (wV 0)) (wV 2))) (wSeq (wIf (wTest (wOp oLt (wV 5) (wV 3))) (wRet (wV 4)) (wNext)) (wAsg (wTup (wCons (wOp oFdiv (wV 5) (wV 3)) (wCons (wOp oMod (wV 5) (wV 3)) (wCons (wV 3) (wCons (wV 1) (wNil)))))) (gTup' 4 (gCons' (gN 0) (gCons' (gN 2) (gCons' (gN 1) (gCons' (gN 3) (gNil')))))))))))) (wRet (wV 4)))
theorem eW_floor_sum : W_floor_sum = b_floor_sum_1 := rfl
theorem j_floor_sum {A : Around} {outer : List Env} {s : Shared} {H : Hp} {E : XK} {cdv : Value} (T : Tx G.K G.ec mg) (hr : Room 0 (A.deeper (envOfC "floor_sum" (defScope s_floor_sum) s.heap.objs.size T.a_floor_sum cdv))) :
    JSs G (cxOf (L2.CX P w) P w G.K mg base N_floor_sum "floor_sum" (defScope s_floor_sum) T.a_floor_sum cdv A outer s H E) (defBody s_floor_sum) W_floor_sum :=
  have hu := hr.units
  jss_cons (js_set (i := 4) sc_floor_sum.nd rfl (.inl rfl) (je_int)) (jss_cons (js_while (passes_of rfl) (jt_gt (je_pv 0) (je_int)) (jss_cons (js_set (i := 4) sc_floor_sum.nd rfl (.inl rfl) (je_add (je_add (je_pv 4) (je_mul (je_fdiv (je_mul (je_pv 0) (je_sub (je_pv 0) (je_int))) (je_int)) (je_fdiv (je_pv 1) (je_pv 3)))) (je_mul (je_pv 0) (je_fdiv (je_pv 2) (je_pv 3))))) (jss_cons (js_par (i := 1) (j := 2) rfl sc_floor_sum.nd rfl rfl (by decide) rfl rfl (ja_cons (je_mod (je_pv 1) (je_pv 3)) (ja_cons (je_mod (je_pv 2) (je_pv 3)) (ja_nil))) (by rfl)) (jss_cons (js_set (i := 5) sc_floor_sum.nd rfl (.inl rfl) (je_add (je_mul (je_pv 1) (je_pv 0)) (je_pv 2))) (jss_cons (js_if (jt_lt hu (je_pv 5) (je_pv 3)) (jss_one (js_ret (je_pv 4))) (jss_nil)) (jss_one (js_asg (je_tup (ja_cons (je_fdiv (je_pv 5) (je_pv 3)) (ja_cons (je_mod (je_pv 5) (je_pv 3)) (ja_cons (je_pv 3) (ja_cons (je_pv 1) (ja_nil)))))) (jg_tup rfl (jgs_cons (jg_name sc_floor_sum.nd (i := 0) rfl (.inl rfl)) (jgs_cons (jg_name sc_floor_sum.nd (i := 2) rfl (.inl rfl)) (jgs_cons (jg_name sc_floor_sum.nd (i := 1) rfl (.inl rfl)) (jgs_cons (jg_name sc_floor_sum.nd (i := 3) rfl (.inl rfl)) (jgs_nil))))))))))))) (jss_one (js_ret (je_pv 4))))
def sp_floor_sum : PSp := fun xs S Q E => xs.length = 4 ∧ W_floor_sum (PD.fnD Q E) (startP N_floor_sum xs) S
theorem ok_floor_sum (T : Tx G.K G.ec mg) : FnP G P w mg base 1 T.a_floor_sum T.d_floor_sum p_floor_sum sp_floor_sum :=
  fn_okD T.F_floor_sum sc_floor_sum (fun _ _ _ _ h => h.1) (fun cdv A outer s H E _ hr => j_floor_sum T hr) fun _ _ _ _ h => h.2
def w_beat_sum_1 : WS := wExpr (wCall sp_check_slope (wCons (wV 0) (wNil)))
def w_beat_sum_2 : WS := wExpr (wCall sp_check_slope (wCons (wV 1) (wNil)))
def w_beat_sum_4 : WS := wRaise "BadNumber"
def w_beat_sum_3 : WS := wIf (wNot (wTru (wCall sp_is_within (wCons (wV 2) (wCons (wC (.int 0)) (wCons (wC (.int 1000000000000000000)) (wNil))))))) (w_beat_sum_4) (wNext)
def w_beat_sum_5 : WS := wSet 3 (wOp oMul (wOp oIx (wV 0) (wC (.int 1))) (wOp oIx (wV 1) (wC (.int 1))))
def w_beat_sum_6 : WS := wRet (wCall sp_floor_sum (wCons (wV 2) (wCons (wOp oMul (wOp oIx (wV 0) (wC (.int 0))) (wOp oIx (wV 1) (wC (.int 1)))) (wCons (wOp oMul (wOp oIx (wV 1) (wC (.int 0))) (wOp oIx (wV 0) (wC (.int 1)))) (wCons (wV 3) (wNil))))))
def b_beat_sum_5 : WS := wSeq (w_beat_sum_5) (w_beat_sum_6)
def b_beat_sum_3 : WS := wSeq (w_beat_sum_3) (b_beat_sum_5)
def b_beat_sum_2 : WS := wSeq (w_beat_sum_2) (b_beat_sum_3)
def b_beat_sum_1 : WS := wSeq (w_beat_sum_1) (b_beat_sum_2)
theorem st_beat_sum {x0 x1 x2 : PV} : startP N_beat_sum [x0, x1, x2] = [some x0, some x1, some x2, none] := rfl
def W_beat_sum : WS := wSeq (wExpr (wCall sp_check_slope (wCons (wV 0) (wNil)))) (wSeq (wExpr (wCall sp_check_slope (wCons (wV 1) (wNil)))) (wSeq (wIf (wNot (wTru (wCall sp_is_within (wCons (wV 2) (wCons (wC (.int 0)) (wCons (wC (.int 1000000000000000000)) (wNil))))))) (wRaise "BadNumber") (wNext)) (wSeq (wSet 3 (wOp oMul (wOp oIx (wV 0) (wC (.int 1))) (wOp oIx (wV 1) (wC (.int 1))))) (wRet (wCall sp_floor_sum (wCons (wV 2) (wCons (wOp oMul (wOp oIx (wV 0) (wC (.int 0))) (wOp oIx (wV 1) (wC (.int 1)))) (wCons (wOp oMul (wOp oIx (wV 1) (wC (.int 0))) (wOp oIx (wV 0) (wC (.int 1)))) (wCons (wV 3) (wNil))))))))))
theorem eW_beat_sum : W_beat_sum = b_beat_sum_1 := rfl
theorem j_beat_sum {A : Around} {outer : List Env} {s : Shared} {H : Hp} {E : XK} {cdv : Value} (T : Tx G.K G.ec mg) (hr : Room 3 (A.deeper (envOfC "beat_sum" (defScope s_beat_sum) s.heap.objs.size T.a_beat_sum cdv))) :
    JSs G (cxOf (L2.CX P w) P w G.K mg base N_beat_sum "beat_sum" (defScope s_beat_sum) T.a_beat_sum cdv A outer s H E) (defBody s_beat_sum) W_beat_sum :=
  have hu := hr.units
  jss_cons (js_expr (je_call (ok_check_slope T) (hr.mono (by decide)) rfl T.m_check_slope T.F_check_slope.kp T.b_check_slope (ja_cons (je_pv 0) (ja_nil)))) (jss_cons (js_expr (je_call (ok_check_slope T) (hr.mono (by decide)) rfl T.m_check_slope T.F_check_slope.kp T.b_check_slope (ja_cons (je_pv 1) (ja_nil)))) (jss_cons (js_if (jt_not (jt_tru (je_call (ok_is_within T) (hr.mono (by decide)) rfl T.m_is_within T.F_is_within.kp T.b_is_within (ja_cons (je_pv 2) (ja_cons (je_int) (ja_cons (je_gint rfl T.g_MOST_PLACE) (ja_nil))))))) (jss_one (js_raise rfl T.x_BadNumber.t rfl)) (jss_nil)) (jss_cons (js_set (i := 3) sc_beat_sum.nd rfl (.inl rfl) (je_mul (je_ix (je_pv 0) (je_int)) (je_ix (je_pv 1) (je_int)))) (jss_one (js_ret (je_call (ok_floor_sum T) (hr.mono (by decide)) rfl T.m_floor_sum T.F_floor_sum.kp T.b_floor_sum (ja_cons (je_pv 2) (ja_cons (je_mul (je_ix (je_pv 0) (je_int)) (je_ix (je_pv 1) (je_int))) (ja_cons (je_mul (je_ix (je_pv 1) (je_int)) (je_ix (je_pv 0) (je_int))) (ja_cons (je_pv 3) (ja_nil)))))))))))
def sp_beat_sum : PSp := fun xs S Q E => xs.length = 3 ∧ W_beat_sum (PD.fnD Q E) (startP N_beat_sum xs) S
theorem ok_beat_sum (T : Tx G.K G.ec mg) : FnP G P w mg base 4 T.a_beat_sum T.d_beat_sum p_beat_sum sp_beat_sum :=
  fn_okD T.F_beat_sum sc_beat_sum (fun _ _ _ _ h => h.1) (fun cdv A outer s H E _ hr => j_beat_sum T hr) fun _ _ _ _ h => h.2
def w_part_between_1 : WS := wExpr (wCall sp_check_slope (wCons (wV 0) (wNil)))
def w_part_between_4 : WS := wRaise "BadNumber"
def w_part_between_3 : WS := wIf (wNot (wTru (wCall sp_is_within (wCons (wV 3) (wCons (wC (.int 0)) (wCons (wC (.int 1000000000000000000)) (wNil))))))) (w_part_between_4) (wNext)
def w_part_between_2 : WS := wFor (iSeq (wTup (wCons (wV 1) (wCons (wV 2) (wNil))))) (gN 3) (w_part_between_3)
def w_part_between_5 : WS := wPar 4 5 (wCons (wCall sp_frac (wCons (wOp oMod (wOp oMul (wOp oIx (wV 0) (wC (.int 0))) (wV 1)) (wOp oIx (wV 0) (wC (.int 1)))) (wCons (wOp oIx (wV 0) (wC (.int 1))) (wNil)))) (wCons (wCall sp_frac (wCons (wOp oMod (wOp oMul (wOp oIx (wV 0) (wC (.int 0))) (wV 2)) (wOp oIx (wV 0) (wC (.int 1)))) (wCons (wOp oIx (wV 0) (wC (.int 1))) (wNil)))) (wNil)))
def w_part_between_6 : WS := wRet (wCall sp_less (wCons (wV 4) (wCons (wV 5) (wNil))))
def b_part_between_5 : WS := wSeq (w_part_between_5) (w_part_between_6)
def b_part_between_2 : WS := wSeq (w_part_between_2) (b_part_between_5)
def b_part_between_1 : WS := wSeq (w_part_between_1) (b_part_between_2)
theorem st_part_between {x0 x1 x2 : PV} : startP N_part_between [x0, x1, x2] = [some x0, some x1, some x2, none, none, none] := rfl
def W_part_between : WS := wSeq (wExpr (wCall sp_check_slope (wCons (wV 0) (wNil)))) (wSeq (wFor (iSeq (wTup (wCons (wV 1) (wCons (wV 2) (wNil))))) (gN 3) (wIf (wNot (wTru (wCall sp_is_within (wCons (wV 3) (wCons (wC (.int 0)) (wCons (wC (.int 1000000000000000000)) (wNil))))))) (wRaise "BadNumber") (wNext))) (wSeq (wPar 4 5 (wCons (wCall sp_frac (wCons (wOp oMod (wOp oMul (wOp oIx (wV 0) (wC (.int 0))) (wV 1)) (wOp oIx (wV 0) (wC (.int 1)))) (wCons (wOp oIx (wV 0) (wC (.int 1))) (wNil)))) (wCons (wCall sp_frac (wCons (wOp oMod (wOp oMul (wOp oIx (wV 0) (wC (.int 0))) (wV 2)) (wOp oIx (wV 0) (wC (.int 1)))) (wCons (wOp oIx (wV 0) (wC (.int 1))) (wNil)))) (wNil)))) (wRet (wCall sp_less (wCons (wV 4) (wCons (wV 5) (wNil)))))))
theorem eW_part_between : W_part_between = b_part_between_1 := rfl
theorem j_part_between {A : Around} {outer : List Env} {s : Shared} {H : Hp} {E : XK} {cdv : Value} (T : Tx G.K G.ec mg) (hr : Room 3 (A.deeper (envOfC "part_between" (defScope s_part_between) s.heap.objs.size T.a_part_between cdv))) :
    JSs G (cxOf (L2.CX P w) P w G.K mg base N_part_between "part_between" (defScope s_part_between) T.a_part_between cdv A outer s H E) (defBody s_part_between) W_part_between :=
  have hu := hr.units
  jss_cons (js_expr (je_call (ok_check_slope T) (hr.mono (by decide)) rfl T.m_check_slope T.F_check_slope.kp T.b_check_slope (ja_cons (je_pv 0) (ja_nil)))) (jss_cons (js_for (passes_of rfl) rfl (ji_seq (je_tup (ja_cons (je_pv 1) (ja_cons (je_pv 2) (ja_nil))))) (jg_name sc_part_between.nd (i := 3) rfl (.inl rfl)) (jss_one (js_if (jt_not (jt_tru (je_call (ok_is_within T) (hr.mono (by decide)) rfl T.m_is_within T.F_is_within.kp T.b_is_within (ja_cons (je_pv 3) (ja_cons (je_int) (ja_cons (je_gint rfl T.g_MOST_PLACE) (ja_nil))))))) (jss_one (js_raise rfl T.x_BadNumber.t rfl)) (jss_nil)))) (jss_cons (js_par (i := 4) (j := 5) rfl sc_part_between.nd rfl rfl (by decide) rfl rfl (ja_cons (je_call (ok_frac T) (hr.mono (by decide)) rfl T.m_frac T.F_frac.kp T.b_frac (ja_cons (je_mod (je_mul (je_ix (je_pv 0) (je_int)) (je_pv 1)) (je_ix (je_pv 0) (je_int))) (ja_cons (je_ix (je_pv 0) (je_int)) (ja_nil)))) (ja_cons (je_call (ok_frac T) (hr.mono (by decide)) rfl T.m_frac T.F_frac.kp T.b_frac (ja_cons (je_mod (je_mul (je_ix (je_pv 0) (je_int)) (je_pv 2)) (je_ix (je_pv 0) (je_int))) (ja_cons (je_ix (je_pv 0) (je_int)) (ja_nil)))) (ja_nil))) (by rfl)) (jss_one (js_ret (je_call (ok_less T) (hr.mono (by decide)) rfl T.m_less T.F_less.kp T.b_less (ja_cons (je_pv 4) (ja_cons (je_pv 5) (ja_nil))))))))
def sp_part_between : PSp := fun xs S Q E => xs.length = 3 ∧ W_part_between (PD.fnD Q E) (startP N_part_between xs) S
theorem ok_part_between (T : Tx G.K G.ec mg) : FnP G P w mg base 4 T.a_part_between T.d_part_between p_part_between sp_part_between :=
  fn_okD T.F_part_between sc_part_between (fun _ _ _ _ h => h.1) (fun cdv A outer s H E _ hr => j_part_between T hr) fun _ _ _ _ h => h.2
def w_part_of_1 : WS := wExpr (wCall sp_check_slope (wCons (wV 0) (wNil)))
def w_part_of_3 : WS := wRaise "BadNumber"
def w_part_of_2 : WS := wIf (wNot (wTru (wCall sp_is_within (wCons (wV 1) (wCons (wC (.int 0)) (wCons (wC (.int 1000000000000000000)) (wNil))))))) (w_part_of_3) (wNext)
def w_part_of_4 : WS := wRet (wCall sp_minus (wCons (wCall sp_frac (wCons (wOp oMul (wOp oIx (wV 0) (wC (.int 0))) (wV 1)) (wCons (wOp oIx (wV 0) (wC (.int 1))) (wNil)))) (wCons (wTup (wCons (wOp oFdiv (wOp oMul (wOp oIx (wV 0) (wC (.int 0))) (wV 1)) (wOp oIx (wV 0) (wC (.int 1)))) (wCons (wC (.int 1)) (wNil)))) (wNil))))
def b_part_of_2 : WS := wSeq (w_part_of_2) (w_part_of_4)
def b_part_of_1 : WS := wSeq (w_part_of_1) (b_part_of_2)
theorem st_part_of {x0 x1 : PV} : startP N_part_of [x0, x1] = [some x0, some x1] := rfl
def W_part_of : WS := wSeq (wExpr (wCall sp_check_slope (wCons (wV 0) (wNil)))) (wSeq (wIf (wNot (wTru (wCall sp_is_within (wCons (wV 1) (wCons (wC (.int 0)) (wCons (wC (.int 1000000000000000000)) (wNil))))))) (wRaise "BadNumber") (wNext)) (wRet (wCall sp_minus (wCons (wCall sp_frac (wCons (wOp oMul (wOp oIx (wV 0) (wC (.int 0))) (wV 1)) (wCons (wOp oIx (wV 0) (wC (.int 1))) (wNil)))) (wCons (wTup (wCons (wOp oFdiv (wOp oMul (wOp oIx (wV 0) (wC (.int 0))) (wV 1)) (wOp oIx (wV 0) (wC (.int 1)))) (wCons (wC (.int 1)) (wNil)))) (wNil))))))
theorem eW_part_of : W_part_of = b_part_of_1 := rfl
theorem j_part_of {A : Around} {outer : List Env} {s : Shared} {H : Hp} {E : XK} {cdv : Value} (T : Tx G.K G.ec mg) (hr : Room 3 (A.deeper (envOfC "part_of" (defScope s_part_of) s.heap.objs.size T.a_part_of cdv))) :
    JSs G (cxOf (L2.CX P w) P w G.K mg base N_part_of "part_of" (defScope s_part_of) T.a_part_of cdv A outer s H E) (defBody s_part_of) W_part_of :=
  have hu := hr.units
  jss_cons (js_expr (je_call (ok_check_slope T) (hr.mono (by decide)) rfl T.m_check_slope T.F_check_slope.kp T.b_check_slope (ja_cons (je_pv 0) (ja_nil)))) (jss_cons (js_if (jt_not (jt_tru (je_call (ok_is_within T) (hr.mono (by decide)) rfl T.m_is_within T.F_is_within.kp T.b_is_within (ja_cons (je_pv 1) (ja_cons (je_int) (ja_cons (je_gint rfl T.g_MOST_PLACE) (ja_nil))))))) (jss_one (js_raise rfl T.x_BadNumber.t rfl)) (jss_nil)) (jss_one (js_ret (je_call (ok_minus T) (hr.mono (by decide)) rfl T.m_minus T.F_minus.kp T.b_minus (ja_cons (je_call (ok_frac T) (hr.mono (by decide)) rfl T.m_frac T.F_frac.kp T.b_frac (ja_cons (je_mul (je_ix (je_pv 0) (je_int)) (je_pv 1)) (ja_cons (je_ix (je_pv 0) (je_int)) (ja_nil)))) (ja_cons (je_tup (ja_cons (je_fdiv (je_mul (je_ix (je_pv 0) (je_int)) (je_pv 1)) (je_ix (je_pv 0) (je_int))) (ja_cons (je_int) (ja_nil)))) (ja_nil)))))))
def sp_part_of : PSp := fun xs S Q E => xs.length = 2 ∧ W_part_of (PD.fnD Q E) (startP N_part_of xs) S
theorem ok_part_of (T : Tx G.K G.ec mg) : FnP G P w mg base 4 T.a_part_of T.d_part_of p_part_of sp_part_of :=
  fn_okD T.F_part_of sc_part_of (fun _ _ _ _ h => h.1) (fun cdv A outer s H E _ hr => j_part_of T hr) fun _ _ _ _ h => h.2
def w__law_hand_1 : WS := wSet 1 (wLc (iSeq (wSl (wV 0) (wNoP) (wPart (wC (.int 63))))) (gN 2) wYes (wOp oMod (wCB cInt (wCons (wCB cAbs (wCons (wCB cInt (wCons (wV 2) (wNil))) (wNil))) (wNil))) (wOp oPow (wC (.int 10)) (wC (.int 36)))) [2])
def w__law_hand_2 : WS := wRet (wLst (wCons (wV 1) (wCons (wC (.int 0)) (wCons (wC (.int 0)) (wCons (wOp oAdd (wC (.int 9465)) (wOp oMul (wC (.int 17)) (wCB cLen (wCons (wV 1) (wNil))))) (wCons (wC (.int 0)) (wNil)))))))
def b__law_hand_1 : WS := wSeq (w__law_hand_1) (w__law_hand_2)
theorem st__law_hand {x0 : PV} : startP N__law_hand [x0] = [some x0, none, none] := rfl
def W__law_hand : WS := wSeq (wSet 1 (wLc (iSeq (wSl (wV 0) (wNoP) (wPart (wC (.int 63))))) (gN 2) wYes (wOp oMod (wCB cInt (wCons (wCB cAbs (wCons (wCB cInt (wCons (wV 2) (wNil))) (wNil))) (wNil))) (wOp oPow (wC (.int 10)) (wC (.int 36)))) [2])) (wRet (wLst (wCons (wV 1) (wCons (wC (.int 0)) (wCons (wC (.int 0)) (wCons (wOp oAdd (wC (.int 9465)) (wOp oMul (wC (.int 17)) (wCB cLen (wCons (wV 1) (wNil))))) (wCons (wC (.int 0)) (wNil))))))))
theorem eW__law_hand : W__law_hand = b__law_hand_1 := rfl
theorem j__law_hand {A : Around} {outer : List Env} {s : Shared} {H : Hp} {E : XK} {cdv : Value} (T : Tx G.K G.ec mg) (hr : Room 0 (A.deeper (envOfC "_law_hand" (defScope s__law_hand) s.heap.objs.size T.a__law_hand cdv))) :
    JSs G (cxOf (L2.CX P w) P w G.K mg base N__law_hand "_law_hand" (defScope s__law_hand) T.a__law_hand cdv A outer s H E) (defBody s__law_hand) W__law_hand :=
  have hu := hr.units
  jss_cons (js_setLc0 (own := [("cell", 2)]) rfl sc__law_hand.nd (i := 1) rfl rfl (sw_true rfl rfl rfl (by decide +kernel)) (ji_seq (je_sl (je_pv 0) (.no) (.some (je_int)))) (blkOk_by (N := N__law_hand) (sc := defScope s__law_hand) (by decide +kernel)) (fun _ _ _ _ _ => jg_name sc__law_hand.nd (i := 2) rfl (.inl rfl)) (fun _ _ _ _ _ => je_mod (je_callTy call_int1 cl_int rfl T.n_int (by decide +kernel) (ja_cons (je_callB call_abs cl_abs rfl T.n_abs (by decide +kernel) (ja_cons (je_callTy call_int1 cl_int rfl T.n_int (by decide +kernel) (ja_cons (je_pv 2) (ja_nil))) (ja_nil))) (ja_nil))) (je_pow (je_int) (je_int)))) (jss_one (js_ret (je_lst (ja_cons (je_pv 1) (ja_cons (je_int) (ja_cons (je_int) (ja_cons (je_add (je_int) (je_mul (je_int) (je_callB call_len cl_len rfl T.n_len (by decide +kernel) (ja_cons (je_pv 1) (ja_nil))))) (ja_cons (je_int) (ja_nil)))))))))
def sp__law_hand0 : PSp := fun xs S Q E => xs.length = 1 ∧ W__law_hand (PD.fnD Q E) (startP N__law_hand xs) S
theorem ok__law_hand0 (T : Tx G.K G.ec mg) : FnP G P w mg base 1 T.a__law_hand T.d__law_hand p__law_hand sp__law_hand0 :=
  fn_okD T.F__law_hand sc__law_hand (fun _ _ _ _ h => h.1) (fun cdv A outer s H E _ hr => j__law_hand T hr) fun _ _ _ _ h => h.2
theorem handP : HandP sp__law_hand0 := ⟨fun a ns S Q E hS fin => by
  refine ⟨rfl, ?_⟩
  rw [eW__law_hand, st__law_hand]
  refine s_seq (s_set ?_)
  simp only [wV, wC, wOp, wUn, oI, oAdd, oSub, oMul, oFdiv, oMod, oPow, oNeg, oLt, oLe, oGt, oGe, oEqN, oIsN, isNon, wTest, wChain, wTru, oTru, wNot, wAnd, wOr, wAndV, wOrV, wNotV, wIfE, wNil, wCons, wTup, wLst, wCB, cLen, cInt, cAbs, cMax2, cMin2, cSum, cSum2, cMaxL, cMinL, cAll, cAny, cList, cTuple, cStr, tyN, cIsi, cReprB, oIx, wNoP, wPart, oSl, wSl, oRevL, wBM, wBM0, tyP, mAppend, mExtend, mPop, mCount, mIndex, wCall, gN, gNil', gCons', gTup', gSub', oSet, iSeq, oIter, iRange1, iRange2, wLc, wipeP, wYes, wIsE, fnD_rt, fnD_ex, fnD_nx, List.getElem?_cons_zero, List.getElem?_cons_succ, List.set_cons_zero, List.set_cons_succ, Bool.false_xor, Bool.true_xor, if_true, if_false, ite_true, ite_false, reduceIte, Bool.false_eq_true, decide_eq_true_eq, decide_true, decide_false, Bool.not_true, Bool.not_false, Bool.not_eq_true', and_true, true_and]
  refine ⟨_, hS, fun g hg => ?_⟩
  have eg : cutP (ns.map PV.int) none (some 63) = (ns.take 63).map PV.int := by
    rw [show (63 : Int) = ((63 : Nat) : Int) from rfl, cut_hi, List.map_take]
  rw [eg]
  refine ⟨_, .inl supd_same, ?_⟩
  have sub0 : Sub S (supd S g (.lst ((ns.take 63).map PV.int))) := .new hg nofun
  refine lc_map (fun S' => S' = supd S g (.lst ((ns.take 63).map PV.int))) (ns.take 63) PV.int (fun i => PV.int ((i.natAbs : Int) % 10 ^ 36)) (Nat.le_trans (List.length_take_le _ _) (by decide)) (fun S' e => by rw [e]; exact .inl supd_same) (fun x _ S' C e k => ?_) (fun S' e D hD => ?_) rfl
  · simp only [wV, wC, wOp, wUn, oI, oAdd, oSub, oMul, oFdiv, oMod, oPow, oNeg, oLt, oLe, oGt, oGe, oEqN, oIsN, isNon, wTest, wChain, wTru, oTru, wNot, wAnd, wOr, wAndV, wOrV, wNotV, wIfE, wNil, wCons, wTup, wLst, wCB, cLen, cInt, cAbs, cMax2, cMin2, cSum, cSum2, cMaxL, cMinL, cAll, cAny, cList, cTuple, cStr, tyN, cIsi, cReprB, oIx, wNoP, wPart, oSl, wSl, oRevL, wBM, wBM0, tyP, mAppend, mExtend, mPop, mCount, mIndex, wCall, gN, gNil', gCons', gTup', gSub', oSet, iSeq, oIter, iRange1, iRange2, wLc, wipeP, wYes, wIsE, fnD_rt, fnD_ex, fnD_nx, List.getElem?_cons_zero, List.getElem?_cons_succ, List.set_cons_zero, List.set_cons_succ, Bool.false_xor, Bool.true_xor, if_true, if_false, ite_true, ite_false, reduceIte, Bool.false_eq_true, decide_eq_true_eq, decide_true, decide_false, Bool.not_true, Bool.not_false, Bool.not_eq_true', and_true, true_and]
    exact ⟨⟨by decide, by decide, by decide⟩, by decide, k _ e⟩
  · subst e
    refine s_ret ?_
    simp only [wV, wC, wOp, wUn, oI, oAdd, oSub, oMul, oFdiv, oMod, oPow, oNeg, oLt, oLe, oGt, oGe, oEqN, oIsN, isNon, wTest, wChain, wTru, oTru, wNot, wAnd, wOr, wAndV, wOrV, wNotV, wIfE, wNil, wCons, wTup, wLst, wCB, cLen, cInt, cAbs, cMax2, cMin2, cSum, cSum2, cMaxL, cMinL, cAll, cAny, cList, cTuple, cStr, tyN, cIsi, cReprB, oIx, wNoP, wPart, oSl, wSl, oRevL, wBM, wBM0, tyP, mAppend, mExtend, mPop, mCount, mIndex, wCall, gN, gNil', gCons', gTup', gSub', oSet, iSeq, oIter, iRange1, iRange2, wLc, wipeP, wYes, wIsE, fnD_rt, fnD_ex, fnD_nx, List.getElem?_cons_zero, List.getElem?_cons_succ, List.set_cons_zero, List.set_cons_succ, Bool.false_xor, Bool.true_xor, if_true, if_false, ite_true, ite_false, reduceIte, Bool.false_eq_true, decide_eq_true_eq, decide_true, decide_false, Bool.not_true, Bool.not_false, Bool.not_eq_true', and_true, true_and]
    refine ⟨_, .inl supd_same, CMl (by decide), (by decide : 5 ≤ sizeLine), fun h hh => ?_⟩
    have hDS := sub0.none' hD
    have hhD : h ≠ D := fun z => by rw [z, supd_same] at hh; cases hh
    have hhS : S h = none := sub0.none' (by rw [supd_ne hhD] at hh; exact hh)
    have ee := map_int (ns.take 63) (fun i : Int => (i.natAbs : Int) % 10 ^ 36)
    rw [ee] at hh ⊢
    have q := fin h D ((ns.take 63).map fun i : Int => (i.natAbs : Int) % 10 ^ 36) 0 0 (9465 + 17 * ((((ns.take 63).map fun i : Int => (i.natAbs : Int) % 10 ^ 36).map PV.int).length : Nat)) 0 hhD hhS hDS (fun x hx => ?_) (by decide) (by decide) ?_ (by decide) ?_
    · exact dn_sub ((sub0.both (q := D)).both (q := h)) q
    · obtain ⟨i, _, rfl⟩ := List.mem_map.mp hx
      exact Int.emod_nonneg _ (by decide)
    · omega
    · rw [List.length_map]; exact List.length_take_le _ _⟩

def sp__law_hand : PSp := spHand
theorem ok__law_hand (T : Tx G.K G.ec mg) : FnP G P w mg base 1 T.a__law_hand T.d__law_hand p__law_hand sp__law_hand := hand_ok (ok__law_hand0 T) handP
def w__law_draw_2 : WS := wSet 2 (wOp oIx (wOp oIx (wV 0) (wC (.int 0))) (wOp oIx (wV 0) (wC (.int 1))))
def w__law_draw_3 : WS := wAsg (wOp oAdd (wOp oIx (wV 0) (wC (.int 1))) (wC (.int 1))) (gSub' (wV 0) (wC (.int 1)))
def w__law_draw_4 : WS := wAsg (wOp oMod (wCB cInt (wCons (wOp oAdd (wOp oAdd (wOp oMul (wOp oIx (wV 0) (wC (.int 3))) (wC (.int 69621))) (wOp oMul (wV 2) (wC (.int 48271)))) (wC (.int 43))) (wNil))) (wC (.int 2147483587))) (gSub' (wV 0) (wC (.int 3)))
def w__law_draw_5 : WS := wAsg (wIfE (wTest (wOp oGe (wV 2) (wOp oPow (wC (.int 10)) (wC (.int 18))))) (wV 2) (wC (.int 0))) (gSub' (wV 0) (wC (.int 2)))
def b__law_draw_4 : WS := wSeq (w__law_draw_4) (w__law_draw_5)
def b__law_draw_3 : WS := wSeq (w__law_draw_3) (b__law_draw_4)
def b__law_draw_2 : WS := wSeq (w__law_draw_2) (b__law_draw_3)
def w__law_draw_1 : WS := wIf (wAnd (wTest (wOp oEq (wOp oIx (wV 0) (wC (.int 2))) (wC (.int 0)))) (wTest (wOp oLt (wOp oIx (wV 0) (wC (.int 1))) (wCB cLen (wCons (wOp oIx (wV 0) (wC (.int 0))) (wNil)))))) (b__law_draw_2) (wNext)
def w__law_draw_7 : WS := wSet 3 (wOp oMod (wCB cInt (wCons (wOp oIx (wV 0) (wC (.int 2))) (wNil))) (wV 1))
def w__law_draw_8 : WS := wAsg (wOp oFdiv (wOp oIx (wV 0) (wC (.int 2))) (wV 1)) (gSub' (wV 0) (wC (.int 2)))
def w__law_draw_9 : WS := wRet (wV 3)
def b__law_draw_8 : WS := wSeq (w__law_draw_8) (w__law_draw_9)
def b__law_draw_7 : WS := wSeq (w__law_draw_7) (b__law_draw_8)
def w__law_draw_6 : WS := wIf (wTest (wOp oGt (wOp oIx (wV 0) (wC (.int 2))) (wC (.int 0)))) (b__law_draw_7) (wNext)
def w__law_draw_10 : WS := wAsg (wOp oAdd (wOp oIx (wV 0) (wC (.int 4))) (wC (.int 1))) (gSub' (wV 0) (wC (.int 4)))
def w__law_draw_11 : WS := wSet 4 (wOp oMod (wCB cInt (wCons (wOp oMul (wCB cInt (wCons (wOp oAdd (wOp oIx (wV 0) (wC (.int 3))) (wOp oMul (wC (.int 8011)) (wOp oIx (wV 0) (wC (.int 4))))) (wNil))) (wC (.int 40692))) (wNil))) (wC (.int 2147483399)))
def w__law_draw_12 : WS := wSet 4 (wOp oMod (wCB cInt (wCons (wOp oMul (wV 4) (wOp oAdd (wOp oFdiv (wV 4) (wC (.int 1013))) (wC (.int 16807)))) (wNil))) (wC (.int 2147483647)))
def w__law_draw_13 : WS := wRet (wOp oMod (wCB cInt (wCons (wOp oFdiv (wV 4) (wC (.int 32))) (wNil))) (wV 1))
def b__law_draw_12 : WS := wSeq (w__law_draw_12) (w__law_draw_13)
def b__law_draw_11 : WS := wSeq (w__law_draw_11) (b__law_draw_12)
def b__law_draw_10 : WS := wSeq (w__law_draw_10) (b__law_draw_11)
def b__law_draw_6 : WS := wSeq (w__law_draw_6) (b__law_draw_10)
def b__law_draw_1 : WS := wSeq (w__law_draw_1) (b__law_draw_6)
theorem st__law_draw {x0 x1 : PV} : startP N__law_draw [x0, x1] = [some x0, some x1, none, none, none] := rfl
def W__law_draw : WS := wSeq (wIf (wAnd (wTest (wOp oEq (wOp oIx (wV 0) (wC (.int 2))) (wC (.int 0)))) (wTest (wOp oLt (wOp oIx (wV 0) (wC (.int 1))) (wCB cLen (wCons (wOp oIx (wV 0) (wC (.int 0))) (wNil)))))) (wSeq (wSet 2 (wOp oIx (wOp oIx (wV 0) (wC (.int 0))) (wOp oIx (wV 0) (wC (.int 1))))) (wSeq (wAsg (wOp oAdd (wOp oIx (wV 0) (wC (.int 1))) (wC (.int 1))) (gSub' (wV 0) (wC (.int 1)))) (wSeq (wAsg (wOp oMod (wCB cInt (wCons (wOp oAdd (wOp oAdd (wOp oMul (wOp oIx (wV 0) (wC (.int 3))) (wC (.int 69621))) (wOp oMul (wV 2) (wC (.int 48271)))) (wC (.int 43))) (wNil))) (wC (.int 2147483587))) (gSub' (wV 0) (wC (.int 3)))) (wAsg (wIfE (wTest (wOp oGe (wV 2) (wOp oPow (wC (.int 10)) (wC (.int 18))))) (wV 2) (wC (.int 0))) (gSub' (wV 0) (wC (.int 2))))))) (wNext)) (wSeq (wIf (wTest (wOp oGt (wOp oIx (wV 0) (wC (.int 2))) (wC (.int 0)))) (wSeq (wSet 3 (wOp oMod (wCB cInt (wCons (wOp oIx (wV 0) (wC (.int 2))) (wNil))) (wV 1))) (wSeq (wAsg (wOp oFdiv (wOp oIx (wV 0) (wC (.int 2))) (wV 1)) (gSub' (wV 0) (wC (.int 2)))) (wRet (wV 3)))) (wNext)) (wSeq (wAsg (wOp oAdd (wOp oIx (wV 0) (wC (.int 4))) (wC (.int 1))) (gSub' (wV 0) (wC (.int 4)))) (wSeq (wSet 4 (wOp oMod (wCB cInt (wCons (wOp oMul (wCB cInt (wCons (wOp oAdd (wOp oIx (wV 0) (wC (.int 3))) (wOp oMul (wC (.int 8011)) (wOp oIx (wV 0) (wC (.int 4))))) (wNil))) (wC (.int 40692))) (wNil))) (wC (.int 2147483399)))) (wSeq (wSet 4 (wOp oMod (wCB cInt (wCons (wOp oMul (wV 4) (wOp oAdd (wOp oFdiv (wV 4) (wC (.int 1013))) (wC (.int 16807)))) (wNil))) (wC (.int 2147483647)))) (wRet (wOp oMod (wCB cInt (wCons (wOp oFdiv (wV 4) (wC (.int 32))) (wNil))) (wV 1)))))))
theorem eW__law_draw : W__law_draw = b__law_draw_1 := rfl
theorem j__law_draw {A : Around} {outer : List Env} {s : Shared} {H : Hp} {E : XK} {cdv : Value} (T : Tx G.K G.ec mg) (hr : Room 0 (A.deeper (envOfC "_law_draw" (defScope s__law_draw) s.heap.objs.size T.a__law_draw cdv))) :
    JSs G (cxOf (L2.CX P w) P w G.K mg base N__law_draw "_law_draw" (defScope s__law_draw) T.a__law_draw cdv A outer s H E) (defBody s__law_draw) W__law_draw :=
  have hu := hr.units
  jss_cons (js_if (jt_w (jw_and (jt_eq hu (je_ix (je_pv 0) (je_int)) (je_int)) (jw_and1 (jt_lt hu (je_ix (je_pv 0) (je_int)) (je_callB call_len cl_len rfl T.n_len (by decide +kernel) (ja_cons (je_ix (je_pv 0) (je_int)) (ja_nil))))))) (jss_cons (js_set (i := 2) sc__law_draw.nd rfl (.inl rfl) (je_ix (je_ix (je_pv 0) (je_int)) (je_ix (je_pv 0) (je_int)))) (jss_cons (js_asg (je_add (je_ix (je_pv 0) (je_int)) (je_int)) (jg_sub (je_pv 0) (je_int))) (jss_cons (js_asg (je_mod (je_callTy call_int1 cl_int rfl T.n_int (by decide +kernel) (ja_cons (je_add (je_add (je_mul (je_ix (je_pv 0) (je_int)) (je_int)) (je_mul (je_pv 2) (je_int))) (je_int)) (ja_nil))) (je_int)) (jg_sub (je_pv 0) (je_int))) (jss_one (js_asg (je_if (jt_ge (je_pv 2) (je_pow (je_int) (je_int))) (je_pv 2) (je_int)) (jg_sub (je_pv 0) (je_int))))))) (jss_nil)) (jss_cons (js_if (jt_gt (je_ix (je_pv 0) (je_int)) (je_int)) (jss_cons (js_set (i := 3) sc__law_draw.nd rfl (.inl rfl) (je_mod (je_callTy call_int1 cl_int rfl T.n_int (by decide +kernel) (ja_cons (je_ix (je_pv 0) (je_int)) (ja_nil))) (je_pv 1))) (jss_cons (js_asg (je_fdiv (je_ix (je_pv 0) (je_int)) (je_pv 1)) (jg_sub (je_pv 0) (je_int))) (jss_one (js_ret (je_pv 3))))) (jss_nil)) (jss_cons (js_asg (je_add (je_ix (je_pv 0) (je_int)) (je_int)) (jg_sub (je_pv 0) (je_int))) (jss_cons (js_set (i := 4) sc__law_draw.nd rfl (.inl rfl) (je_mod (je_callTy call_int1 cl_int rfl T.n_int (by decide +kernel) (ja_cons (je_mul (je_callTy call_int1 cl_int rfl T.n_int (by decide +kernel) (ja_cons (je_add (je_ix (je_pv 0) (je_int)) (je_mul (je_int) (je_ix (je_pv 0) (je_int)))) (ja_nil))) (je_int)) (ja_nil))) (je_int))) (jss_cons (js_set (i := 4) sc__law_draw.nd rfl (.inl rfl) (je_mod (je_callTy call_int1 cl_int rfl T.n_int (by decide +kernel) (ja_cons (je_mul (je_pv 4) (je_add (je_fdiv (je_pv 4) (je_int)) (je_int))) (ja_nil))) (je_int))) (jss_one (js_ret (je_mod (je_callTy call_int1 cl_int rfl T.n_int (by decide +kernel) (ja_cons (je_fdiv (je_pv 4) (je_int)) (ja_nil))) (je_pv 1))))))))
def sp__law_draw0 : PSp := fun xs S Q E => xs.length = 2 ∧ W__law_draw (PD.fnD Q E) (startP N__law_draw xs) S
theorem ok__law_draw0 (T : Tx G.K G.ec mg) : FnP G P w mg base 1 T.a__law_draw T.d__law_draw p__law_draw sp__law_draw0 :=
  fn_okD T.F__law_draw sc__law_draw (fun _ _ _ _ h => h.1) (fun cdv A outer s H E _ hr => j__law_draw T hr) fun _ _ _ _ h => h.2
theorem drawP : DrawP sp__law_draw0 := ⟨fun h c cells p l m k n Q E hne hn hn2 hc hp hl hm hk hlen fin => by
  refine ⟨rfl, ?_⟩
  rw [eW__law_draw, st__law_draw]
  have tail : ∀ (o : Option PV) (p l m k : Int), 0 ≤ p → 0 ≤ l → 0 ≤ m → 0 ≤ k → b__law_draw_6 (PD.fnD Q E) [some (.ref h), some (.int n), o, none, none] (handS h c cells p l m k) := by
    intro o p l m k hp hl hm hk
    refine s_seq (s_if ?_)
    simp only [wV, wC, wOp, wUn, oI, oAdd, oSub, oMul, oFdiv, oMod, oPow, oNeg, oLt, oLe, oGt, oGe, oEqN, oIsN, isNon, wTest, wChain, wTru, oTru, wNot, wAnd, wOr, wAndV, wOrV, wNotV, wIfE, wNil, wCons, wTup, wLst, wCB, cLen, cInt, cAbs, cMax2, cMin2, cSum, cSum2, cMaxL, cMinL, cAll, cAny, cList, cTuple, cStr, tyN, cIsi, cReprB, oIx, wNoP, wPart, oSl, wSl, oRevL, wBM, wBM0, tyP, mAppend, mExtend, mPop, mCount, mIndex, wCall, gN, gNil', gCons', gTup', gSub', oSet, iSeq, oIter, iRange1, iRange2, wLc, wipeP, wYes, wIsE, fnD_rt, fnD_ex, fnD_nx, List.getElem?_cons_zero, List.getElem?_cons_succ, List.set_cons_zero, List.set_cons_succ, Bool.false_xor, Bool.true_xor, if_true, if_false, ite_true, ite_false, reduceIte, Bool.false_eq_true, decide_eq_true_eq, decide_true, decide_false, Bool.not_true, Bool.not_false, Bool.not_eq_true', and_true, true_and]
    refine ⟨_, _, .inl (hand_at hne), rfl, ?_⟩
    simp only [wV, wC, wOp, wUn, oI, oAdd, oSub, oMul, oFdiv, oMod, oPow, oNeg, oLt, oLe, oGt, oGe, oEqN, oIsN, isNon, wTest, wChain, wTru, oTru, wNot, wAnd, wOr, wAndV, wOrV, wNotV, wIfE, wNil, wCons, wTup, wLst, wCB, cLen, cInt, cAbs, cMax2, cMin2, cSum, cSum2, cMaxL, cMinL, cAll, cAny, cList, cTuple, cStr, tyN, cIsi, cReprB, oIx, wNoP, wPart, oSl, wSl, oRevL, wBM, wBM0, tyP, mAppend, mExtend, mPop, mCount, mIndex, wCall, gN, gNil', gCons', gTup', gSub', oSet, iSeq, oIter, iRange1, iRange2, wLc, wipeP, wYes, wIsE, fnD_rt, fnD_ex, fnD_nx, List.getElem?_cons_zero, List.getElem?_cons_succ, List.set_cons_zero, List.set_cons_succ, Bool.false_xor, Bool.true_xor, if_true, if_false, ite_true, ite_false, reduceIte, Bool.false_eq_true, decide_eq_true_eq, decide_true, decide_false, Bool.not_true, Bool.not_false, Bool.not_eq_true', and_true, true_and]
    split
    · refine s_seq (s_set ?_)
      simp only [wV, wC, wOp, wUn, oI, oAdd, oSub, oMul, oFdiv, oMod, oPow, oNeg, oLt, oLe, oGt, oGe, oEqN, oIsN, isNon, wTest, wChain, wTru, oTru, wNot, wAnd, wOr, wAndV, wOrV, wNotV, wIfE, wNil, wCons, wTup, wLst, wCB, cLen, cInt, cAbs, cMax2, cMin2, cSum, cSum2, cMaxL, cMinL, cAll, cAny, cList, cTuple, cStr, tyN, cIsi, cReprB, oIx, wNoP, wPart, oSl, wSl, oRevL, wBM, wBM0, tyP, mAppend, mExtend, mPop, mCount, mIndex, wCall, gN, gNil', gCons', gTup', gSub', oSet, iSeq, oIter, iRange1, iRange2, wLc, wipeP, wYes, wIsE, fnD_rt, fnD_ex, fnD_nx, List.getElem?_cons_zero, List.getElem?_cons_succ, List.set_cons_zero, List.set_cons_succ, Bool.false_xor, Bool.true_xor, if_true, if_false, ite_true, ite_false, reduceIte, Bool.false_eq_true, decide_eq_true_eq, decide_true, decide_false, Bool.not_true, Bool.not_false, Bool.not_eq_true', and_true, true_and]
      refine ⟨_, _, .inl (hand_at hne), rfl, hn, ?_⟩
      refine s_seq (s_asg ?_)
      simp only [wV, wC, wOp, wUn, oI, oAdd, oSub, oMul, oFdiv, oMod, oPow, oNeg, oLt, oLe, oGt, oGe, oEqN, oIsN, isNon, wTest, wChain, wTru, oTru, wNot, wAnd, wOr, wAndV, wOrV, wNotV, wIfE, wNil, wCons, wTup, wLst, wCB, cLen, cInt, cAbs, cMax2, cMin2, cSum, cSum2, cMaxL, cMinL, cAll, cAny, cList, cTuple, cStr, tyN, cIsi, cReprB, oIx, wNoP, wPart, oSl, wSl, oRevL, wBM, wBM0, tyP, mAppend, mExtend, mPop, mCount, mIndex, wCall, gN, gNil', gCons', gTup', gSub', oSet, iSeq, oIter, iRange1, iRange2, wLc, wipeP, wYes, wIsE, fnD_rt, fnD_ex, fnD_nx, List.getElem?_cons_zero, List.getElem?_cons_succ, List.set_cons_zero, List.set_cons_succ, Bool.false_xor, Bool.true_xor, if_true, if_false, ite_true, ite_false, reduceIte, Bool.false_eq_true, decide_eq_true_eq, decide_true, decide_false, Bool.not_true, Bool.not_false, Bool.not_eq_true', and_true, true_and]
      refine ⟨_, _, .inl (hand_at hne), rfl, cdw hn hn2, _, 2, hand_at hne, rfl, ?_⟩
      try simp only [wV, wC, wOp, wUn, oI, oAdd, oSub, oMul, oFdiv, oMod, oPow, oNeg, oLt, oLe, oGt, oGe, oEqN, oIsN, isNon, wTest, wChain, wTru, oTru, wNot, wAnd, wOr, wAndV, wOrV, wNotV, wIfE, wNil, wCons, wTup, wLst, wCB, cLen, cInt, cAbs, cMax2, cMin2, cSum, cSum2, cMaxL, cMinL, cAll, cAny, cList, cTuple, cStr, tyN, cIsi, cReprB, oIx, wNoP, wPart, oSl, wSl, oRevL, wBM, wBM0, tyP, mAppend, mExtend, mPop, mCount, mIndex, wCall, gN, gNil', gCons', gTup', gSub', oSet, iSeq, oIter, iRange1, iRange2, wLc, wipeP, wYes, wIsE, fnD_rt, fnD_ex, fnD_nx, List.getElem?_cons_zero, List.getElem?_cons_succ, List.set_cons_zero, List.set_cons_succ, Bool.false_xor, Bool.true_xor, if_true, if_false, ite_true, ite_false, reduceIte, Bool.false_eq_true, decide_eq_true_eq, decide_true, decide_false, Bool.not_true, Bool.not_false, Bool.not_eq_true', and_true, true_and]
      rw [hand_set hne]
      refine s_ret ?_
      simp only [wV, wC, wOp, wUn, oI, oAdd, oSub, oMul, oFdiv, oMod, oPow, oNeg, oLt, oLe, oGt, oGe, oEqN, oIsN, isNon, wTest, wChain, wTru, oTru, wNot, wAnd, wOr, wAndV, wOrV, wNotV, wIfE, wNil, wCons, wTup, wLst, wCB, cLen, cInt, cAbs, cMax2, cMin2, cSum, cSum2, cMaxL, cMinL, cAll, cAny, cList, cTuple, cStr, tyN, cIsi, cReprB, oIx, wNoP, wPart, oSl, wSl, oRevL, wBM, wBM0, tyP, mAppend, mExtend, mPop, mCount, mIndex, wCall, gN, gNil', gCons', gTup', gSub', oSet, iSeq, oIter, iRange1, iRange2, wLc, wipeP, wYes, wIsE, fnD_rt, fnD_ex, fnD_nx, List.getElem?_cons_zero, List.getElem?_cons_succ, List.set_cons_zero, List.set_cons_succ, Bool.false_xor, Bool.true_xor, if_true, if_false, ite_true, ite_false, reduceIte, Bool.false_eq_true, decide_eq_true_eq, decide_true, decide_false, Bool.not_true, Bool.not_false, Bool.not_eq_true', and_true, true_and]
      exact dn_same (fin _ p _ m k (Int.emod_nonneg _ (by omega)) (Int.emod_lt_of_pos _ hn) hp (Int.ediv_nonneg hl (by omega)) hm hk)
    · refine s_next ?_
      dsimp only
      refine s_seq (s_asg ?_)
      simp only [wV, wC, wOp, wUn, oI, oAdd, oSub, oMul, oFdiv, oMod, oPow, oNeg, oLt, oLe, oGt, oGe, oEqN, oIsN, isNon, wTest, wChain, wTru, oTru, wNot, wAnd, wOr, wAndV, wOrV, wNotV, wIfE, wNil, wCons, wTup, wLst, wCB, cLen, cInt, cAbs, cMax2, cMin2, cSum, cSum2, cMaxL, cMinL, cAll, cAny, cList, cTuple, cStr, tyN, cIsi, cReprB, oIx, wNoP, wPart, oSl, wSl, oRevL, wBM, wBM0, tyP, mAppend, mExtend, mPop, mCount, mIndex, wCall, gN, gNil', gCons', gTup', gSub', oSet, iSeq, oIter, iRange1, iRange2, wLc, wipeP, wYes, wIsE, fnD_rt, fnD_ex, fnD_nx, List.getElem?_cons_zero, List.getElem?_cons_succ, List.set_cons_zero, List.set_cons_succ, Bool.false_xor, Bool.true_xor, if_true, if_false, ite_true, ite_false, reduceIte, Bool.false_eq_true, decide_eq_true_eq, decide_true, decide_false, Bool.not_true, Bool.not_false, Bool.not_eq_true', and_true, true_and]
      refine ⟨_, _, .inl (hand_at hne), rfl, ?_⟩
      refine ⟨_, 4, hand_at hne, rfl, ?_⟩
      try simp only [wV, wC, wOp, wUn, oI, oAdd, oSub, oMul, oFdiv, oMod, oPow, oNeg, oLt, oLe, oGt, oGe, oEqN, oIsN, isNon, wTest, wChain, wTru, oTru, wNot, wAnd, wOr, wAndV, wOrV, wNotV, wIfE, wNil, wCons, wTup, wLst, wCB, cLen, cInt, cAbs, cMax2, cMin2, cSum, cSum2, cMaxL, cMinL, cAll, cAny, cList, cTuple, cStr, tyN, cIsi, cReprB, oIx, wNoP, wPart, oSl, wSl, oRevL, wBM, wBM0, tyP, mAppend, mExtend, mPop, mCount, mIndex, wCall, gN, gNil', gCons', gTup', gSub', oSet, iSeq, oIter, iRange1, iRange2, wLc, wipeP, wYes, wIsE, fnD_rt, fnD_ex, fnD_nx, List.getElem?_cons_zero, List.getElem?_cons_succ, List.set_cons_zero, List.set_cons_succ, Bool.false_xor, Bool.true_xor, if_true, if_false, ite_true, ite_false, reduceIte, Bool.false_eq_true, decide_eq_true_eq, decide_true, decide_false, Bool.not_true, Bool.not_false, Bool.not_eq_true', and_true, true_and]
      rw [hand_set hne]
      refine s_seq (s_set ?_)
      simp only [wV, wC, wOp, wUn, oI, oAdd, oSub, oMul, oFdiv, oMod, oPow, oNeg, oLt, oLe, oGt, oGe, oEqN, oIsN, isNon, wTest, wChain, wTru, oTru, wNot, wAnd, wOr, wAndV, wOrV, wNotV, wIfE, wNil, wCons, wTup, wLst, wCB, cLen, cInt, cAbs, cMax2, cMin2, cSum, cSum2, cMaxL, cMinL, cAll, cAny, cList, cTuple, cStr, tyN, cIsi, cReprB, oIx, wNoP, wPart, oSl, wSl, oRevL, wBM, wBM0, tyP, mAppend, mExtend, mPop, mCount, mIndex, wCall, gN, gNil', gCons', gTup', gSub', oSet, iSeq, oIter, iRange1, iRange2, wLc, wipeP, wYes, wIsE, fnD_rt, fnD_ex, fnD_nx, List.getElem?_cons_zero, List.getElem?_cons_succ, List.set_cons_zero, List.set_cons_succ, Bool.false_xor, Bool.true_xor, if_true, if_false, ite_true, ite_false, reduceIte, Bool.false_eq_true, decide_eq_true_eq, decide_true, decide_false, Bool.not_true, Bool.not_false, Bool.not_eq_true', and_true, true_and]
      refine ⟨_, _, .inl (hand_at hne), rfl, _, _, .inl (hand_at hne), rfl, CMl (by decide), CMr (by decide), by decide, ?_⟩
      refine s_seq (s_set ?_)
      simp only [wV, wC, wOp, wUn, oI, oAdd, oSub, oMul, oFdiv, oMod, oPow, oNeg, oLt, oLe, oGt, oGe, oEqN, oIsN, isNon, wTest, wChain, wTru, oTru, wNot, wAnd, wOr, wAndV, wOrV, wNotV, wIfE, wNil, wCons, wTup, wLst, wCB, cLen, cInt, cAbs, cMax2, cMin2, cSum, cSum2, cMaxL, cMinL, cAll, cAny, cList, cTuple, cStr, tyN, cIsi, cReprB, oIx, wNoP, wPart, oSl, wSl, oRevL, wBM, wBM0, tyP, mAppend, mExtend, mPop, mCount, mIndex, wCall, gN, gNil', gCons', gTup', gSub', oSet, iSeq, oIter, iRange1, iRange2, wLc, wipeP, wYes, wIsE, fnD_rt, fnD_ex, fnD_nx, List.getElem?_cons_zero, List.getElem?_cons_succ, List.set_cons_zero, List.set_cons_succ, Bool.false_xor, Bool.true_xor, if_true, if_false, ite_true, ite_false, reduceIte, Bool.false_eq_true, decide_eq_true_eq, decide_true, decide_false, Bool.not_true, Bool.not_false, Bool.not_eq_true', and_true, true_and]
      refine ⟨cdw (by decide) (by decide), ?_, by decide, ?_⟩
      · refine CMl ?_
        have h1 := Int.emod_nonneg ((m + 8011 * (k + 1)) * 40692) (show (2147483399 : Int) ≠ 0 by decide)
        have h2 := Int.emod_lt_of_pos ((m + 8011 * (k + 1)) * 40692) (show (0 : Int) < 2147483399 by decide)
        constructor <;> omega
      · refine s_ret ?_
        simp only [wV, wC, wOp, wUn, oI, oAdd, oSub, oMul, oFdiv, oMod, oPow, oNeg, oLt, oLe, oGt, oGe, oEqN, oIsN, isNon, wTest, wChain, wTru, oTru, wNot, wAnd, wOr, wAndV, wOrV, wNotV, wIfE, wNil, wCons, wTup, wLst, wCB, cLen, cInt, cAbs, cMax2, cMin2, cSum, cSum2, cMaxL, cMinL, cAll, cAny, cList, cTuple, cStr, tyN, cIsi, cReprB, oIx, wNoP, wPart, oSl, wSl, oRevL, wBM, wBM0, tyP, mAppend, mExtend, mPop, mCount, mIndex, wCall, gN, gNil', gCons', gTup', gSub', oSet, iSeq, oIter, iRange1, iRange2, wLc, wipeP, wYes, wIsE, fnD_rt, fnD_ex, fnD_nx, List.getElem?_cons_zero, List.getElem?_cons_succ, List.set_cons_zero, List.set_cons_succ, Bool.false_xor, Bool.true_xor, if_true, if_false, ite_true, ite_false, reduceIte, Bool.false_eq_true, decide_eq_true_eq, decide_true, decide_false, Bool.not_true, Bool.not_false, Bool.not_eq_true', and_true, true_and]
        refine ⟨cdw (by decide) (by decide), hn, ?_⟩
        exact dn_same (fin _ p l m _ (Int.emod_nonneg _ (by omega)) (Int.emod_lt_of_pos _ hn) hp hl hm (by omega))
  refine s_seq (s_if ?_)
  simp only [wV, wC, wOp, wUn, oI, oAdd, oSub, oMul, oFdiv, oMod, oPow, oNeg, oLt, oLe, oGt, oGe, oEqN, oIsN, isNon, wTest, wChain, wTru, oTru, wNot, wAnd, wOr, wAndV, wOrV, wNotV, wIfE, wNil, wCons, wTup, wLst, wCB, cLen, cInt, cAbs, cMax2, cMin2, cSum, cSum2, cMaxL, cMinL, cAll, cAny, cList, cTuple, cStr, tyN, cIsi, cReprB, oIx, wNoP, wPart, oSl, wSl, oRevL, wBM, wBM0, tyP, mAppend, mExtend, mPop, mCount, mIndex, wCall, gN, gNil', gCons', gTup', gSub', oSet, iSeq, oIter, iRange1, iRange2, wLc, wipeP, wYes, wIsE, fnD_rt, fnD_ex, fnD_nx, List.getElem?_cons_zero, List.getElem?_cons_succ, List.set_cons_zero, List.set_cons_succ, Bool.false_xor, Bool.true_xor, if_true, if_false, ite_true, ite_false, reduceIte, Bool.false_eq_true, decide_eq_true_eq, decide_true, decide_false, Bool.not_true, Bool.not_false, Bool.not_eq_true', and_true, true_and]
  refine ⟨_, _, .inl (hand_at hne), rfl, ?_⟩
  simp only [wV, wC, wOp, wUn, oI, oAdd, oSub, oMul, oFdiv, oMod, oPow, oNeg, oLt, oLe, oGt, oGe, oEqN, oIsN, isNon, wTest, wChain, wTru, oTru, wNot, wAnd, wOr, wAndV, wOrV, wNotV, wIfE, wNil, wCons, wTup, wLst, wCB, cLen, cInt, cAbs, cMax2, cMin2, cSum, cSum2, cMaxL, cMinL, cAll, cAny, cList, cTuple, cStr, tyN, cIsi, cReprB, oIx, wNoP, wPart, oSl, wSl, oRevL, wBM, wBM0, tyP, mAppend, mExtend, mPop, mCount, mIndex, wCall, gN, gNil', gCons', gTup', gSub', oSet, iSeq, oIter, iRange1, iRange2, wLc, wipeP, wYes, wIsE, fnD_rt, fnD_ex, fnD_nx, List.getElem?_cons_zero, List.getElem?_cons_succ, List.set_cons_zero, List.set_cons_succ, Bool.false_xor, Bool.true_xor, if_true, if_false, ite_true, ite_false, reduceIte, Bool.false_eq_true, decide_eq_true_eq, decide_true, decide_false, Bool.not_true, Bool.not_false, Bool.not_eq_true', and_true, true_and]
  split
  · refine ⟨_, _, .inl (hand_at hne), rfl, _, _, .inl (hand_at hne), rfl, _, .inl hand_c, ?_⟩
    simp only [wV, wC, wOp, wUn, oI, oAdd, oSub, oMul, oFdiv, oMod, oPow, oNeg, oLt, oLe, oGt, oGe, oEqN, oIsN, isNon, wTest, wChain, wTru, oTru, wNot, wAnd, wOr, wAndV, wOrV, wNotV, wIfE, wNil, wCons, wTup, wLst, wCB, cLen, cInt, cAbs, cMax2, cMin2, cSum, cSum2, cMaxL, cMinL, cAll, cAny, cList, cTuple, cStr, tyN, cIsi, cReprB, oIx, wNoP, wPart, oSl, wSl, oRevL, wBM, wBM0, tyP, mAppend, mExtend, mPop, mCount, mIndex, wCall, gN, gNil', gCons', gTup', gSub', oSet, iSeq, oIter, iRange1, iRange2, wLc, wipeP, wYes, wIsE, fnD_rt, fnD_ex, fnD_nx, List.getElem?_cons_zero, List.getElem?_cons_succ, List.set_cons_zero, List.set_cons_succ, Bool.false_xor, Bool.true_xor, if_true, if_false, ite_true, ite_false, reduceIte, Bool.false_eq_true, decide_eq_true_eq, decide_true, decide_false, Bool.not_true, Bool.not_false, Bool.not_eq_true', and_true, true_and]
    split
    · rename_i h1 h2
      rw [List.length_map] at h2
      refine s_seq (s_set ?_)
      simp only [wV, wC, wOp, wUn, oI, oAdd, oSub, oMul, oFdiv, oMod, oPow, oNeg, oLt, oLe, oGt, oGe, oEqN, oIsN, isNon, wTest, wChain, wTru, oTru, wNot, wAnd, wOr, wAndV, wOrV, wNotV, wIfE, wNil, wCons, wTup, wLst, wCB, cLen, cInt, cAbs, cMax2, cMin2, cSum, cSum2, cMaxL, cMinL, cAll, cAny, cList, cTuple, cStr, tyN, cIsi, cReprB, oIx, wNoP, wPart, oSl, wSl, oRevL, wBM, wBM0, tyP, mAppend, mExtend, mPop, mCount, mIndex, wCall, gN, gNil', gCons', gTup', gSub', oSet, iSeq, oIter, iRange1, iRange2, wLc, wipeP, wYes, wIsE, fnD_rt, fnD_ex, fnD_nx, List.getElem?_cons_zero, List.getElem?_cons_succ, List.set_cons_zero, List.set_cons_succ, Bool.false_xor, Bool.true_xor, if_true, if_false, ite_true, ite_false, reduceIte, Bool.false_eq_true, decide_eq_true_eq, decide_true, decide_false, Bool.not_true, Bool.not_false, Bool.not_eq_true', and_true, true_and]
      obtain ⟨j, rfl⟩ : ∃ j : Nat, p = (j : Int) := ⟨p.toNat, by omega⟩
      have hj : j < cells.length := by omega
      refine ⟨_, _, .inl (hand_at hne), rfl, _, _, .inl (hand_at hne), rfl, _, .int cells[j], .inl hand_c, atI_nat (by rw [List.getElem?_map, List.getElem?_eq_getElem hj]; rfl), ?_⟩
      have hcj : 0 ≤ cells[j] := hc _ (List.getElem_mem hj)
      refine s_seq (s_asg ?_)
      simp only [wV, wC, wOp, wUn, oI, oAdd, oSub, oMul, oFdiv, oMod, oPow, oNeg, oLt, oLe, oGt, oGe, oEqN, oIsN, isNon, wTest, wChain, wTru, oTru, wNot, wAnd, wOr, wAndV, wOrV, wNotV, wIfE, wNil, wCons, wTup, wLst, wCB, cLen, cInt, cAbs, cMax2, cMin2, cSum, cSum2, cMaxL, cMinL, cAll, cAny, cList, cTuple, cStr, tyN, cIsi, cReprB, oIx, wNoP, wPart, oSl, wSl, oRevL, wBM, wBM0, tyP, mAppend, mExtend, mPop, mCount, mIndex, wCall, gN, gNil', gCons', gTup', gSub', oSet, iSeq, oIter, iRange1, iRange2, wLc, wipeP, wYes, wIsE, fnD_rt, fnD_ex, fnD_nx, List.getElem?_cons_zero, List.getElem?_cons_succ, List.set_cons_zero, List.set_cons_succ, Bool.false_xor, Bool.true_xor, if_true, if_false, ite_true, ite_false, reduceIte, Bool.false_eq_true, decide_eq_true_eq, decide_true, decide_false, Bool.not_true, Bool.not_false, Bool.not_eq_true', and_true, true_and]
      refine ⟨_, _, .inl (hand_at hne), rfl, _, 1, hand_at hne, rfl, ?_⟩
      try simp only [wV, wC, wOp, wUn, oI, oAdd, oSub, oMul, oFdiv, oMod, oPow, oNeg, oLt, oLe, oGt, oGe, oEqN, oIsN, isNon, wTest, wChain, wTru, oTru, wNot, wAnd, wOr, wAndV, wOrV, wNotV, wIfE, wNil, wCons, wTup, wLst, wCB, cLen, cInt, cAbs, cMax2, cMin2, cSum, cSum2, cMaxL, cMinL, cAll, cAny, cList, cTuple, cStr, tyN, cIsi, cReprB, oIx, wNoP, wPart, oSl, wSl, oRevL, wBM, wBM0, tyP, mAppend, mExtend, mPop, mCount, mIndex, wCall, gN, gNil', gCons', gTup', gSub', oSet, iSeq, oIter, iRange1, iRange2, wLc, wipeP, wYes, wIsE, fnD_rt, fnD_ex, fnD_nx, List.getElem?_cons_zero, List.getElem?_cons_succ, List.set_cons_zero, List.set_cons_succ, Bool.false_xor, Bool.true_xor, if_true, if_false, ite_true, ite_false, reduceIte, Bool.false_eq_true, decide_eq_true_eq, decide_true, decide_false, Bool.not_true, Bool.not_false, Bool.not_eq_true', and_true, true_and]
      rw [hand_set hne]
      refine s_seq (s_asg ?_)
      simp only [wV, wC, wOp, wUn, oI, oAdd, oSub, oMul, oFdiv, oMod, oPow, oNeg, oLt, oLe, oGt, oGe, oEqN, oIsN, isNon, wTest, wChain, wTru, oTru, wNot, wAnd, wOr, wAndV, wOrV, wNotV, wIfE, wNil, wCons, wTup, wLst, wCB, cLen, cInt, cAbs, cMax2, cMin2, cSum, cSum2, cMaxL, cMinL, cAll, cAny, cList, cTuple, cStr, tyN, cIsi, cReprB, oIx, wNoP, wPart, oSl, wSl, oRevL, wBM, wBM0, tyP, mAppend, mExtend, mPop, mCount, mIndex, wCall, gN, gNil', gCons', gTup', gSub', oSet, iSeq, oIter, iRange1, iRange2, wLc, wipeP, wYes, wIsE, fnD_rt, fnD_ex, fnD_nx, List.getElem?_cons_zero, List.getElem?_cons_succ, List.set_cons_zero, List.set_cons_succ, Bool.false_xor, Bool.true_xor, if_true, if_false, ite_true, ite_false, reduceIte, Bool.false_eq_true, decide_eq_true_eq, decide_true, decide_false, Bool.not_true, Bool.not_false, Bool.not_eq_true', and_true, true_and]
      refine ⟨_, _, .inl (hand_at hne), rfl, CMr (by decide), CMr (by decide), by decide, _, 3, hand_at hne, rfl, ?_⟩
      try simp only [wV, wC, wOp, wUn, oI, oAdd, oSub, oMul, oFdiv, oMod, oPow, oNeg, oLt, oLe, oGt, oGe, oEqN, oIsN, isNon, wTest, wChain, wTru, oTru, wNot, wAnd, wOr, wAndV, wOrV, wNotV, wIfE, wNil, wCons, wTup, wLst, wCB, cLen, cInt, cAbs, cMax2, cMin2, cSum, cSum2, cMaxL, cMinL, cAll, cAny, cList, cTuple, cStr, tyN, cIsi, cReprB, oIx, wNoP, wPart, oSl, wSl, oRevL, wBM, wBM0, tyP, mAppend, mExtend, mPop, mCount, mIndex, wCall, gN, gNil', gCons', gTup', gSub', oSet, iSeq, oIter, iRange1, iRange2, wLc, wipeP, wYes, wIsE, fnD_rt, fnD_ex, fnD_nx, List.getElem?_cons_zero, List.getElem?_cons_succ, List.set_cons_zero, List.set_cons_succ, Bool.false_xor, Bool.true_xor, if_true, if_false, ite_true, ite_false, reduceIte, Bool.false_eq_true, decide_eq_true_eq, decide_true, decide_false, Bool.not_true, Bool.not_false, Bool.not_eq_true', and_true, true_and]
      rw [hand_set hne]
      refine s_asg ?_
      simp only [wV, wC, wOp, wUn, oI, oAdd, oSub, oMul, oFdiv, oMod, oPow, oNeg, oLt, oLe, oGt, oGe, oEqN, oIsN, isNon, wTest, wChain, wTru, oTru, wNot, wAnd, wOr, wAndV, wOrV, wNotV, wIfE, wNil, wCons, wTup, wLst, wCB, cLen, cInt, cAbs, cMax2, cMin2, cSum, cSum2, cMaxL, cMinL, cAll, cAny, cList, cTuple, cStr, tyN, cIsi, cReprB, oIx, wNoP, wPart, oSl, wSl, oRevL, wBM, wBM0, tyP, mAppend, mExtend, mPop, mCount, mIndex, wCall, gN, gNil', gCons', gTup', gSub', oSet, iSeq, oIter, iRange1, iRange2, wLc, wipeP, wYes, wIsE, fnD_rt, fnD_ex, fnD_nx, List.getElem?_cons_zero, List.getElem?_cons_succ, List.set_cons_zero, List.set_cons_succ, Bool.false_xor, Bool.true_xor, if_true, if_false, ite_true, ite_false, reduceIte, Bool.false_eq_true, decide_eq_true_eq, decide_true, decide_false, Bool.not_true, Bool.not_false, Bool.not_eq_true', and_true, true_and]
      refine ⟨⟨by decide, by decide, by decide⟩, ?_⟩
      split
      · refine ⟨_, 2, hand_at hne, rfl, ?_⟩
        try simp only [wV, wC, wOp, wUn, oI, oAdd, oSub, oMul, oFdiv, oMod, oPow, oNeg, oLt, oLe, oGt, oGe, oEqN, oIsN, isNon, wTest, wChain, wTru, oTru, wNot, wAnd, wOr, wAndV, wOrV, wNotV, wIfE, wNil, wCons, wTup, wLst, wCB, cLen, cInt, cAbs, cMax2, cMin2, cSum, cSum2, cMaxL, cMinL, cAll, cAny, cList, cTuple, cStr, tyN, cIsi, cReprB, oIx, wNoP, wPart, oSl, wSl, oRevL, wBM, wBM0, tyP, mAppend, mExtend, mPop, mCount, mIndex, wCall, gN, gNil', gCons', gTup', gSub', oSet, iSeq, oIter, iRange1, iRange2, wLc, wipeP, wYes, wIsE, fnD_rt, fnD_ex, fnD_nx, List.getElem?_cons_zero, List.getElem?_cons_succ, List.set_cons_zero, List.set_cons_succ, Bool.false_xor, Bool.true_xor, if_true, if_false, ite_true, ite_false, reduceIte, Bool.false_eq_true, decide_eq_true_eq, decide_true, decide_false, Bool.not_true, Bool.not_false, Bool.not_eq_true', and_true, true_and]
        rw [hand_set hne]
        exact tail _ _ _ _ _ (by omega) hcj (Int.emod_nonneg _ (by decide)) hk
      · refine ⟨_, 2, hand_at hne, rfl, ?_⟩
        try simp only [wV, wC, wOp, wUn, oI, oAdd, oSub, oMul, oFdiv, oMod, oPow, oNeg, oLt, oLe, oGt, oGe, oEqN, oIsN, isNon, wTest, wChain, wTru, oTru, wNot, wAnd, wOr, wAndV, wOrV, wNotV, wIfE, wNil, wCons, wTup, wLst, wCB, cLen, cInt, cAbs, cMax2, cMin2, cSum, cSum2, cMaxL, cMinL, cAll, cAny, cList, cTuple, cStr, tyN, cIsi, cReprB, oIx, wNoP, wPart, oSl, wSl, oRevL, wBM, wBM0, tyP, mAppend, mExtend, mPop, mCount, mIndex, wCall, gN, gNil', gCons', gTup', gSub', oSet, iSeq, oIter, iRange1, iRange2, wLc, wipeP, wYes, wIsE, fnD_rt, fnD_ex, fnD_nx, List.getElem?_cons_zero, List.getElem?_cons_succ, List.set_cons_zero, List.set_cons_succ, Bool.false_xor, Bool.true_xor, if_true, if_false, ite_true, ite_false, reduceIte, Bool.false_eq_true, decide_eq_true_eq, decide_true, decide_false, Bool.not_true, Bool.not_false, Bool.not_eq_true', and_true, true_and]
        rw [hand_set hne]
        exact tail _ _ _ _ _ (by omega) (by decide) (Int.emod_nonneg _ (by decide)) hk
    · refine s_next ?_
      exact tail _ _ _ _ _ hp hl hm hk
  · refine s_next ?_
    exact tail _ _ _ _ _ hp hl hm hk⟩

def sp__law_draw : PSp := spDraw
theorem ok__law_draw (T : Tx G.K G.ec mg) : FnP G P w mg base 1 T.a__law_draw T.d__law_draw p__law_draw sp__law_draw := draw_ok (ok__law_draw0 T) drawP
def w__law_some_1 : WS := wRet (wOp oIx (wV 1) (wCall sp__law_draw (wCons (wV 0) (wCons (wCB cLen (wCons (wV 1) (wNil))) (wNil)))))
theorem st__law_some {x0 x1 : PV} : startP N__law_some [x0, x1] = [some x0, some x1] := rfl
def W__law_some : WS := wRet (wOp oIx (wV 1) (wCall sp__law_draw (wCons (wV 0) (wCons (wCB cLen (wCons (wV 1) (wNil))) (wNil)))))
theorem eW__law_some : W__law_some = w__law_some_1 := rfl
theorem j__law_some {A : Around} {outer : List Env} {s : Shared} {H : Hp} {E : XK} {cdv : Value} (T : Tx G.K G.ec mg) (hr : Room 1 (A.deeper (envOfC "_law_some" (defScope s__law_some) s.heap.objs.size T.a__law_some cdv))) :
    JSs G (cxOf (L2.CX P w) P w G.K mg base N__law_some "_law_some" (defScope s__law_some) T.a__law_some cdv A outer s H E) (defBody s__law_some) W__law_some :=
  have hu := hr.units
  jss_one (js_ret (je_ix (je_pv 1) (je_call (ok__law_draw T) (hr.mono (by decide)) rfl T.m__law_draw T.F__law_draw.kp T.b__law_draw (ja_cons (je_pv 0) (ja_cons (je_callB call_len cl_len rfl T.n_len (by decide +kernel) (ja_cons (je_pv 1) (ja_nil))) (ja_nil))))))
def sp__law_some : PSp := fun xs S Q E => xs.length = 2 ∧ W__law_some (PD.fnD Q E) (startP N__law_some xs) S
theorem ok__law_some (T : Tx G.K G.ec mg) : FnP G P w mg base 2 T.a__law_some T.d__law_some p__law_some sp__law_some :=
  fn_okD T.F__law_some sc__law_some (fun _ _ _ _ h => h.1) (fun cdv A outer s H E _ hr => j__law_some T hr) fun _ _ _ _ h => h.2
def w__law_common_1 : WS := wPar 0 1 (wCons (wCB cAbs (wCons (wV 0) (wNil))) (wCons (wCB cAbs (wCons (wV 1) (wNil))) (wNil)))
def w__law_common_3 : WS := wPar 0 1 (wCons (wV 1) (wCons (wOp oMod (wCB cInt (wCons (wV 0) (wNil))) (wV 1)) (wNil)))
def w__law_common_2 : WS := wWhile (wTest (wOp oGt (wV 1) (wC (.int 0)))) (w__law_common_3)
def w__law_common_4 : WS := wRet (wV 0)
def b__law_common_2 : WS := wSeq (w__law_common_2) (w__law_common_4)
def b__law_common_1 : WS := wSeq (w__law_common_1) (b__law_common_2)
theorem st__law_common {x0 x1 : PV} : startP N__law_common [x0, x1] = [some x0, some x1] := rfl
def W__law_common : WS := wSeq (wPar 0 1 (wCons (wCB cAbs (wCons (wV 0) (wNil))) (wCons (wCB cAbs (wCons (wV 1) (wNil))) (wNil)))) (wSeq (wWhile (wTest (wOp oGt (wV 1) (wC (.int 0)))) (wPar 0 1 (wCons (wV 1) (wCons (wOp oMod (wCB cInt (wCons (wV 0) (wNil))) (wV 1)) (wNil))))) (wRet (wV 0)))
theorem eW__law_common : W__law_common = b__law_common_1 := rfl
theorem j__law_common {A : Around} {outer : List Env} {s : Shared} {H : Hp} {E : XK} {cdv : Value} (T : Tx G.K G.ec mg) (hr : Room 0 (A.deeper (envOfC "_law_common" (defScope s__law_common) s.heap.objs.size T.a__law_common cdv))) :
    JSs G (cxOf (L2.CX P w) P w G.K mg base N__law_common "_law_common" (defScope s__law_common) T.a__law_common cdv A outer s H E) (defBody s__law_common) W__law_common :=
  have hu := hr.units
  jss_cons (js_par (i := 0) (j := 1) rfl sc__law_common.nd rfl rfl (by decide) rfl rfl (ja_cons (je_callB call_abs cl_abs rfl T.n_abs (by decide +kernel) (ja_cons (je_pv 0) (ja_nil))) (ja_cons (je_callB call_abs cl_abs rfl T.n_abs (by decide +kernel) (ja_cons (je_pv 1) (ja_nil))) (ja_nil))) (by rfl)) (jss_cons (js_while (passes_of rfl) (jt_gt (je_pv 1) (je_int)) (jss_one (js_par (i := 0) (j := 1) rfl sc__law_common.nd rfl rfl (by decide) rfl rfl (ja_cons (je_pv 1) (ja_cons (je_mod (je_callTy call_int1 cl_int rfl T.n_int (by decide +kernel) (ja_cons (je_pv 0) (ja_nil))) (je_pv 1)) (ja_nil))) (by rfl)))) (jss_one (js_ret (je_pv 0))))
def sp__law_common : PSp := fun xs S Q E => xs.length = 2 ∧ W__law_common (PD.fnD Q E) (startP N__law_common xs) S
theorem ok__law_common (T : Tx G.K G.ec mg) : FnP G P w mg base 1 T.a__law_common T.d__law_common p__law_common sp__law_common :=
  fn_okD T.F__law_common sc__law_common (fun _ _ _ _ h => h.1) (fun cdv A outer s H E _ hr => j__law_common T hr) fun _ _ _ _ h => h.2
def w__law_fraction_1 : WS := wSet 2 (wOp oMul (wCall sp__law_common (wCons (wV 0) (wCons (wV 1) (wNil)))) (wIfE (wTest (wOp oGt (wV 1) (wC (.int 0)))) (wC (.int 1)) (wUn oNeg (wC (.int 1)))))
def w__law_fraction_2 : WS := wRet (wTup (wCons (wOp oFdiv (wV 0) (wV 2)) (wCons (wOp oFdiv (wV 1) (wV 2)) (wNil))))
def b__law_fraction_1 : WS := wSeq (w__law_fraction_1) (w__law_fraction_2)
theorem st__law_fraction {x0 x1 : PV} : startP N__law_fraction [x0, x1] = [some x0, some x1, none] := rfl
def W__law_fraction : WS := wSeq (wSet 2 (wOp oMul (wCall sp__law_common (wCons (wV 0) (wCons (wV 1) (wNil)))) (wIfE (wTest (wOp oGt (wV 1) (wC (.int 0)))) (wC (.int 1)) (wUn oNeg (wC (.int 1)))))) (wRet (wTup (wCons (wOp oFdiv (wV 0) (wV 2)) (wCons (wOp oFdiv (wV 1) (wV 2)) (wNil)))))
theorem eW__law_fraction : W__law_fraction = b__law_fraction_1 := rfl
theorem j__law_fraction {A : Around} {outer : List Env} {s : Shared} {H : Hp} {E : XK} {cdv : Value} (T : Tx G.K G.ec mg) (hr : Room 1 (A.deeper (envOfC "_law_fraction" (defScope s__law_fraction) s.heap.objs.size T.a__law_fraction cdv))) :
    JSs G (cxOf (L2.CX P w) P w G.K mg base N__law_fraction "_law_fraction" (defScope s__law_fraction) T.a__law_fraction cdv A outer s H E) (defBody s__law_fraction) W__law_fraction :=
  have hu := hr.units
  jss_cons (js_set (i := 2) sc__law_fraction.nd rfl (.inl rfl) (je_mul (je_call (ok__law_common T) (hr.mono (by decide)) rfl T.m__law_common T.F__law_common.kp T.b__law_common (ja_cons (je_pv 0) (ja_cons (je_pv 1) (ja_nil)))) (je_if (jt_gt (je_pv 1) (je_int)) (je_int) (je_neg (je_int))))) (jss_one (js_ret (je_tup (ja_cons (je_fdiv (je_pv 0) (je_pv 2)) (ja_cons (je_fdiv (je_pv 1) (je_pv 2)) (ja_nil))))))
def sp__law_fraction : PSp := fun xs S Q E => xs.length = 2 ∧ W__law_fraction (PD.fnD Q E) (startP N__law_fraction xs) S
theorem ok__law_fraction (T : Tx G.K G.ec mg) : FnP G P w mg base 2 T.a__law_fraction T.d__law_fraction p__law_fraction sp__law_fraction :=
  fn_okD T.F__law_fraction sc__law_fraction (fun _ _ _ _ h => h.1) (fun cdv A outer s H E _ hr => j__law_fraction T hr) fun _ _ _ _ h => h.2
def w__law_word_2 (th : Thk) (f : Addr) : WS := wExpr (wAct f th)
def w__law_word_6 (th : Thk) (f : Addr) (n : PX) (a : Addr) : WS := wSet 2 (wLst (wCons (wIsE 1 a (sub n.name "BadNumber")) (wCons (wIsE 1 a (sub n.name "BadSlope")) (wNil))))
def w__law_word_7 (th : Thk) (f : Addr) (n : PX) (a : Addr) : WS := wSet 3 (wLst (wCons (wC (.str (PySem.Str.ofString "number"))) (wCons (wC (.str (PySem.Str.ofString "slope"))) (wNil))))
def w__law_word_8 (th : Thk) (f : Addr) (n : PX) (a : Addr) : WS := wRet (wIfE (wAnd (wTest (wOp oEq (wBM "list" mCount (wV 2) (wCons (wC (.bl true)) (wNil))) (wC (.int 1)))) (wTru (wIsE 1 a true))) (wOp oIx (wV 3) (wBM "list" mIndex (wV 2) (wCons (wC (.bl true)) (wNil)))) (wC (.str (PySem.Str.ofString "other"))))
def b__law_word_7 (th : Thk) (f : Addr) (n : PX) (a : Addr) : WS := wSeq (w__law_word_7 th f n a) (w__law_word_8 th f n a)
def b__law_word_6 (th : Thk) (f : Addr) (n : PX) (a : Addr) : WS := wSeq (w__law_word_6 th f n a) (b__law_word_7 th f n a)
def w__law_word_1 (th : Thk) (f : Addr) : WS := wTry sub (w__law_word_2 th f) (⟨"TooMany", some 1, fun _ _ => wNever⟩ :: ⟨"TermError", some 1, fun n a => wArgN n (b__law_word_6 th f n a)⟩ :: [])
def w__law_word_9 (th : Thk) (f : Addr) : WS := wRet (wC (.str (PySem.Str.ofString "told")))
def b__law_word_1 (th : Thk) (f : Addr) : WS := wSeq (w__law_word_1 th f) (w__law_word_9 th f)
theorem st__law_word {x0 : PV} : startP N__law_word [x0] = [some x0, none, none, none] := rfl
def W__law_word (th : Thk) (f : Addr) : WS := wSeq (wTry sub (wExpr (wAct f th)) (⟨"TooMany", some 1, fun _ _ => wNever⟩ :: ⟨"TermError", some 1, fun n a => wArgN n (wSeq (wSet 2 (wLst (wCons (wIsE 1 a (sub n.name "BadNumber")) (wCons (wIsE 1 a (sub n.name "BadSlope")) (wNil))))) (wSeq (wSet 3 (wLst (wCons (wC (.str (PySem.Str.ofString "number"))) (wCons (wC (.str (PySem.Str.ofString "slope"))) (wNil))))) (wRet (wIfE (wAnd (wTest (wOp oEq (wBM "list" mCount (wV 2) (wCons (wC (.bl true)) (wNil))) (wC (.int 1)))) (wTru (wIsE 1 a true))) (wOp oIx (wV 3) (wBM "list" mIndex (wV 2) (wCons (wC (.bl true)) (wNil)))) (wC (.str (PySem.Str.ofString "other")))))))⟩ :: [])) (wRet (wC (.str (PySem.Str.ofString "told"))))
theorem eW__law_word (th : Thk) (f : Addr) : W__law_word th f = b__law_word_1 th f := rfl
theorem j__law_word {th : Thk} {f : Addr} {A : Around} {outer : List Env} {s : Shared} {H : Hp} {cdv : Value} (T : Tx G.K G.ec mg) (hr : Room 0 (A.deeper (envOfC "_law_word" (defScope s__law_word) s.heap.objs.size T.a__law_word cdv)))
    (act : ∀ (pn : List (Addr × Obj)) (xe : Value → Shared → Prop) (p1 p2 : Pos), JE G ((cxOf C8.CX0 P w G.K mg base N__law_word "_law_word" (defScope s__law_word) T.a__law_word cdv A outer s H C8.E0).nox.tr pn xe) (.Call (.Name "call" p1) [] [] p2) (wAct f th)) :
    JSs G (cxOf C8.CX0 P w G.K mg base N__law_word "_law_word" (defScope s__law_word) T.a__law_word cdv A outer s H C8.E0).nox (defBody s__law_word) (W__law_word th f) :=
  have hu := hr.units
  jss_cons (js_try rfl rfl sc__law_word.nd (fun pn xe hp => jss_one (js_expr (act _ _ _ _))) (.named (i := 1) rfl rfl ⟨rfl, rfl, .inl T.m_TooMany⟩ T.hs_TooMany (fun _ _ _ _ _ _ _ _ _ _ => jss_never) (.named (i := 1) rfl rfl ⟨rfl, rfl, .inl T.m_TermError⟩ T.hs_TermError (fun a oe n D d pn hn hd hz hf => jss_argN fun hno => jss_cons (js_set (i := 2) sc__law_word.nd rfl (.inl rfl) (je_lst (ja_cons (je_isE (je_pv 1) (T.exc n.name D hn) hno hd hz hf rfl T.n_isinstance rfl T.m_BadNumber (T.ks_BadNumber n.name D hn)) (ja_cons (je_isE (je_pv 1) (T.exc n.name D hn) hno hd hz hf rfl T.n_isinstance rfl T.m_BadSlope (T.ks_BadSlope n.name D hn)) (ja_nil))))) (jss_cons (js_set (i := 3) sc__law_word.nd rfl (.inl rfl) (je_lst (ja_cons (je_str) (ja_cons (je_str) (ja_nil))))) (jss_one (js_ret (je_if (jt_w (jw_and (jt_eq hu (je_bm PySem.F.plainAttrs_list PySem.F.slot_list_count PySem.F.type_list_count mt_countF ml_count (je_pv 2) (ja_cons (je_bl) (ja_nil))) (je_int)) (jw_and1 (jt_tru (je_isET (je_pv 1) (T.exc n.name D hn) hno hd hz hf rfl T.n_isinstance rfl T.n_ValueError (by decide +kernel) (T.ks_ValueError n.name D hn)))))) (je_ix (je_pv 3) (je_bm PySem.F.plainAttrs_list PySem.F.slot_list_index PySem.F.type_list_index mt_index ml_index (je_pv 2) (ja_cons (je_bl) (ja_nil)))) (je_str)))))) (.nil)))) (jss_one (js_ret (je_str)))
def w__law_slope_1 : WS := wSet 1 (wCall sp__law_some (wCons (wV 0) (wCons (wLst (wCons (wC (.int 9)) (wCons (wC (.int 100)) (wCons (wOp oPow (wC (.int 10)) (wC (.int 9))) (wNil))))) (wNil))))
def w__law_slope_2 : WS := wSet 2 (wOp oAdd (wC (.int 1)) (wCall sp__law_draw (wCons (wV 0) (wCons (wCall sp__law_some (wCons (wV 0) (wCons (wLst (wCons (wC (.int 1)) (wCons (wV 1) (wNil)))) (wNil)))) (wNil)))))
def w__law_slope_3 : WS := wRet (wCall sp__law_fraction (wCons (wCall sp__law_some (wCons (wV 0) (wCons (wLst (wCons (wC (.int 0)) (wCons (wV 2) (wCons (wCall sp__law_draw (wCons (wV 0) (wCons (wV 1) (wNil)))) (wCons (wCall sp__law_draw (wCons (wV 0) (wCons (wV 1) (wNil)))) (wNil)))))) (wNil)))) (wCons (wV 2) (wNil))))
def b__law_slope_2 : WS := wSeq (w__law_slope_2) (w__law_slope_3)
def b__law_slope_1 : WS := wSeq (w__law_slope_1) (b__law_slope_2)
theorem st__law_slope {x0 : PV} : startP N__law_slope [x0] = [some x0, none, none] := rfl
def W__law_slope : WS := wSeq (wSet 1 (wCall sp__law_some (wCons (wV 0) (wCons (wLst (wCons (wC (.int 9)) (wCons (wC (.int 100)) (wCons (wOp oPow (wC (.int 10)) (wC (.int 9))) (wNil))))) (wNil))))) (wSeq (wSet 2 (wOp oAdd (wC (.int 1)) (wCall sp__law_draw (wCons (wV 0) (wCons (wCall sp__law_some (wCons (wV 0) (wCons (wLst (wCons (wC (.int 1)) (wCons (wV 1) (wNil)))) (wNil)))) (wNil)))))) (wRet (wCall sp__law_fraction (wCons (wCall sp__law_some (wCons (wV 0) (wCons (wLst (wCons (wC (.int 0)) (wCons (wV 2) (wCons (wCall sp__law_draw (wCons (wV 0) (wCons (wV 1) (wNil)))) (wCons (wCall sp__law_draw (wCons (wV 0) (wCons (wV 1) (wNil)))) (wNil)))))) (wNil)))) (wCons (wV 2) (wNil))))))
theorem eW__law_slope : W__law_slope = b__law_slope_1 := rfl
theorem j__law_slope {A : Around} {outer : List Env} {s : Shared} {H : Hp} {E : XK} {cdv : Value} (T : Tx G.K G.ec mg) (hr : Room 2 (A.deeper (envOfC "_law_slope" (defScope s__law_slope) s.heap.objs.size T.a__law_slope cdv))) :
    JSs G (cxOf (L2.CX P w) P w G.K mg base N__law_slope "_law_slope" (defScope s__law_slope) T.a__law_slope cdv A outer s H E) (defBody s__law_slope) W__law_slope :=
  have hu := hr.units
  jss_cons (js_set (i := 1) sc__law_slope.nd rfl (.inl rfl) (je_call (ok__law_some T) (hr.mono (by decide)) rfl T.m__law_some T.F__law_some.kp T.b__law_some (ja_cons (je_pv 0) (ja_cons (je_lst (ja_cons (je_int) (ja_cons (je_int) (ja_cons (je_pow (je_int) (je_int)) (ja_nil))))) (ja_nil))))) (jss_cons (js_set (i := 2) sc__law_slope.nd rfl (.inl rfl) (je_add (je_int) (je_call (ok__law_draw T) (hr.mono (by decide)) rfl T.m__law_draw T.F__law_draw.kp T.b__law_draw (ja_cons (je_pv 0) (ja_cons (je_call (ok__law_some T) (hr.mono (by decide)) rfl T.m__law_some T.F__law_some.kp T.b__law_some (ja_cons (je_pv 0) (ja_cons (je_lst (ja_cons (je_int) (ja_cons (je_pv 1) (ja_nil)))) (ja_nil)))) (ja_nil)))))) (jss_one (js_ret (je_call (ok__law_fraction T) (hr.mono (by decide)) rfl T.m__law_fraction T.F__law_fraction.kp T.b__law_fraction (ja_cons (je_call (ok__law_some T) (hr.mono (by decide)) rfl T.m__law_some T.F__law_some.kp T.b__law_some (ja_cons (je_pv 0) (ja_cons (je_lst (ja_cons (je_int) (ja_cons (je_pv 2) (ja_cons (je_call (ok__law_draw T) (hr.mono (by decide)) rfl T.m__law_draw T.F__law_draw.kp T.b__law_draw (ja_cons (je_pv 0) (ja_cons (je_pv 1) (ja_nil)))) (ja_cons (je_call (ok__law_draw T) (hr.mono (by decide)) rfl T.m__law_draw T.F__law_draw.kp T.b__law_draw (ja_cons (je_pv 0) (ja_cons (je_pv 1) (ja_nil)))) (ja_nil)))))) (ja_nil)))) (ja_cons (je_pv 2) (ja_nil)))))))
def sp__law_slope : PSp := fun xs S Q E => xs.length = 1 ∧ W__law_slope (PD.fnD Q E) (startP N__law_slope xs) S
theorem ok__law_slope (T : Tx G.K G.ec mg) : FnP G P w mg base 3 T.a__law_slope T.d__law_slope p__law_slope sp__law_slope :=
  fn_okD T.F__law_slope sc__law_slope (fun _ _ _ _ h => h.1) (fun cdv A outer s H E _ hr => j__law_slope T hr) fun _ _ _ _ h => h.2
def w__law_whole_1 : WS := wSet 3 (wOp oMul (wOp oIx (wV 0) (wC (.int 1))) (wOp oIx (wV 1) (wC (.int 1))))
def w__law_whole_2 : WS := wRet (wOp oFdiv (wOp oAdd (wOp oMul (wOp oMul (wOp oIx (wV 0) (wC (.int 0))) (wV 2)) (wOp oIx (wV 1) (wC (.int 1)))) (wOp oMul (wOp oIx (wV 1) (wC (.int 0))) (wOp oIx (wV 0) (wC (.int 1))))) (wV 3))
def b__law_whole_1 : WS := wSeq (w__law_whole_1) (w__law_whole_2)
theorem st__law_whole {x0 x1 x2 : PV} : startP N__law_whole [x0, x1, x2] = [some x0, some x1, some x2, none] := rfl
def W__law_whole : WS := wSeq (wSet 3 (wOp oMul (wOp oIx (wV 0) (wC (.int 1))) (wOp oIx (wV 1) (wC (.int 1))))) (wRet (wOp oFdiv (wOp oAdd (wOp oMul (wOp oMul (wOp oIx (wV 0) (wC (.int 0))) (wV 2)) (wOp oIx (wV 1) (wC (.int 1)))) (wOp oMul (wOp oIx (wV 1) (wC (.int 0))) (wOp oIx (wV 0) (wC (.int 1))))) (wV 3)))
theorem eW__law_whole : W__law_whole = b__law_whole_1 := rfl
theorem j__law_whole {A : Around} {outer : List Env} {s : Shared} {H : Hp} {E : XK} {cdv : Value} (T : Tx G.K G.ec mg) (hr : Room 0 (A.deeper (envOfC "_law_whole" (defScope s__law_whole) s.heap.objs.size T.a__law_whole cdv))) :
    JSs G (cxOf (L2.CX P w) P w G.K mg base N__law_whole "_law_whole" (defScope s__law_whole) T.a__law_whole cdv A outer s H E) (defBody s__law_whole) W__law_whole :=
  have hu := hr.units
  jss_cons (js_set (i := 3) sc__law_whole.nd rfl (.inl rfl) (je_mul (je_ix (je_pv 0) (je_int)) (je_ix (je_pv 1) (je_int)))) (jss_one (js_ret (je_fdiv (je_add (je_mul (je_mul (je_ix (je_pv 0) (je_int)) (je_pv 2)) (je_ix (je_pv 1) (je_int))) (je_mul (je_ix (je_pv 1) (je_int)) (je_ix (je_pv 0) (je_int)))) (je_pv 3))))
def sp__law_whole : PSp := fun xs S Q E => xs.length = 3 ∧ W__law_whole (PD.fnD Q E) (startP N__law_whole xs) S
theorem ok__law_whole (T : Tx G.K G.ec mg) : FnP G P w mg base 1 T.a__law_whole T.d__law_whole p__law_whole sp__law_whole :=
  fn_okD T.F__law_whole sc__law_whole (fun _ _ _ _ h => h.1) (fun cdv A outer s H E _ hr => j__law_whole T hr) fun _ _ _ _ h => h.2
def w__law_floors_1 : WS := wAsg (wTup (wCons (wC (.int 0)) (wCons (wC (.int 1)) (wNil)))) (gTup' 2 (gCons' (gN 4) (gCons' (gN 5) (gNil'))))
def w__law_floors_3 : WS := wSet 6 (wOp oFdiv (wOp oMul (wV 0) (wOp oSub (wV 0) (wC (.int 1)))) (wC (.int 2)))
def w__law_floors_4 : WS := wSet 4 (wOp oAdd (wV 4) (wOp oMul (wV 5) (wOp oAdd (wOp oMul (wOp oFdiv (wV 2) (wV 1)) (wV 6)) (wOp oMul (wV 0) (wOp oFdiv (wV 3) (wV 1))))))
def w__law_floors_5 : WS := wPar 2 3 (wCons (wOp oMod (wCB cInt (wCons (wV 2) (wNil))) (wV 1)) (wCons (wOp oMod (wCB cInt (wCons (wV 3) (wNil))) (wV 1)) (wNil)))
def w__law_floors_6 : WS := wSet 7 (wOp oAdd (wOp oMul (wV 2) (wOp oSub (wV 0) (wC (.int 1)))) (wV 3))
def w__law_floors_7 : WS := wSet 8 (wOp oFdiv (wV 7) (wV 1))
def w__law_floors_9 : WS := wRet (wV 4)
def w__law_floors_8 : WS := wIf (wTest (wOp oEq (wV 8) (wC (.int 0)))) (w__law_floors_9) (wNext)
def w__law_floors_10 : WS := wSet 4 (wOp oAdd (wV 4) (wOp oMul (wOp oMul (wV 5) (wOp oSub (wV 0) (wC (.int 1)))) (wV 8)))
def w__law_floors_11 : WS := wSet 3 (wOp oSub (wOp oSub (wV 1) (wV 3)) (wC (.int 1)))
def w__law_floors_12 : WS := wAsg (wTup (wCons (wV 8) (wCons (wV 2) (wCons (wV 1) (wCons (wUn oNeg (wV 5)) (wNil)))))) (gTup' 4 (gCons' (gN 0) (gCons' (gN 1) (gCons' (gN 2) (gCons' (gN 5) (gNil'))))))
def b__law_floors_11 : WS := wSeq (w__law_floors_11) (w__law_floors_12)
def b__law_floors_10 : WS := wSeq (w__law_floors_10) (b__law_floors_11)
def b__law_floors_8 : WS := wSeq (w__law_floors_8) (b__law_floors_10)
def b__law_floors_7 : WS := wSeq (w__law_floors_7) (b__law_floors_8)
def b__law_floors_6 : WS := wSeq (w__law_floors_6) (b__law_floors_7)
def b__law_floors_5 : WS := wSeq (w__law_floors_5) (b__law_floors_6)
def b__law_floors_4 : WS := wSeq (w__law_floors_4) (b__law_floors_5)
def b__law_floors_3 : WS := wSeq (w__law_floors_3) (b__law_floors_4)
def w__law_floors_2 : WS := wWhile (wTest (wOp oGt (wV 0) (wC (.int 0)))) (b__law_floors_3)
def w__law_floors_13 : WS := wRet (wV 4)
def b__law_floors_2 : WS := wSeq (w__law_floors_2) (w__law_floors_13)
def b__law_floors_1 : WS := wSeq (w__law_floors_1) (b__law_floors_2)
theorem st__law_floors {x0 x1 x2 x3 : PV} : startP N__law_floors [x0, x1, x2, x3] = [some x0, some x1, some x2, some x3, none, none, none, none, none] := rfl
def W__law_floors : WS := wSeq (wAsg (wTup (wCons (wC (.int 0)) (wCons (wC (.int 1)) (wNil)))) (gTup' 2 (gCons' (gN 4) (gCons' (gN 5) (gNil'))))) (wSeq (wWhile (wTest (wOp oGt (wV 0) (wC (.int 0)))) (wSeq (wSet 6 (wOp oFdiv (wOp oMul (wV 0) (wOp oSub (wV 0) (wC (.int 1)))) (wC (.int 2)))) (wSeq (wSet 4 (wOp oAdd (wV 4) (wOp oMul (wV 5) (wOp oAdd (wOp oMul (wOp oFdiv (wV 2) (wV 1)) (wV 6)) (wOp oMul (wV 0) (wOp oFdiv (wV 3) (wV 1))))))) (wSeq (wPar 2 3 (wCons (wOp oMod (wCB cInt (wCons (wV 2) (wNil))) (wV 1)) (wCons (wOp oMod (wCB cInt (wCons (wV 3) (wNil))) (wV 1)) (wNil)))) (wSeq (wSet 7 (wOp oAdd (wOp oMul (wV 2) (wOp oSub (wV 0) (wC (.int 1)))) (wV 3))) (wSeq (wSet 8 (wOp oFdiv (wV 7) (wV 1))) (wSeq (wIf (wTest (wOp oEq (wV 8) (wC (.int 0)))) (wRet (wV 4)) (wNext)) (wSeq (wSet 4 (wOp oAdd (wV 4) (wOp oMul (wOp oMul (wV 5) (wOp oSub (wV 0) (wC (.int 1)))) (wV 8)))) (wSeq (wSet 3 (wOp oSub (wOp oSub (wV 1) (wV 3)) (wC (.int 1)))) (wAsg (wTup (wCons (wV 8) (wCons (wV 2) (wCons (wV 1) (wCons (wUn oNeg (wV 5)) (wNil)))))) (gTup' 4 (gCons' (gN 0) (gCons' (gN 1) (gCons' (gN 2) (gCons' (gN 5) (gNil')))))))))))))))) (wRet (wV 4)))
theorem eW__law_floors : W__law_floors = b__law_floors_1 := rfl
theorem j__law_floors {A : Around} {outer : List Env} {s : Shared} {H : Hp} {E : XK} {cdv : Value} (T : Tx G.K G.ec mg) (hr : Room 0 (A.deeper (envOfC "_law_floors" (defScope s__law_floors) s.heap.objs.size T.a__law_floors cdv))) :
    JSs G (cxOf (L2.CX P w) P w G.K mg base N__law_floors "_law_floors" (defScope s__law_floors) T.a__law_floors cdv A outer s H E) (defBody s__law_floors) W__law_floors :=
  have hu := hr.units
  jss_cons (js_asg (je_tup (ja_cons (je_int) (ja_cons (je_int) (ja_nil)))) (jg_tup rfl (jgs_cons (jg_name sc__law_floors.nd (i := 4) rfl (.inl rfl)) (jgs_cons (jg_name sc__law_floors.nd (i := 5) rfl (.inl rfl)) (jgs_nil))))) (jss_cons (js_while (passes_of rfl) (jt_gt (je_pv 0) (je_int)) (jss_cons (js_set (i := 6) sc__law_floors.nd rfl (.inl rfl) (je_fdiv (je_mul (je_pv 0) (je_sub (je_pv 0) (je_int))) (je_int))) (jss_cons (js_set (i := 4) sc__law_floors.nd rfl (.inl rfl) (je_add (je_pv 4) (je_mul (je_pv 5) (je_add (je_mul (je_fdiv (je_pv 2) (je_pv 1)) (je_pv 6)) (je_mul (je_pv 0) (je_fdiv (je_pv 3) (je_pv 1))))))) (jss_cons (js_par (i := 2) (j := 3) rfl sc__law_floors.nd rfl rfl (by decide) rfl rfl (ja_cons (je_mod (je_callTy call_int1 cl_int rfl T.n_int (by decide +kernel) (ja_cons (je_pv 2) (ja_nil))) (je_pv 1)) (ja_cons (je_mod (je_callTy call_int1 cl_int rfl T.n_int (by decide +kernel) (ja_cons (je_pv 3) (ja_nil))) (je_pv 1)) (ja_nil))) (by rfl)) (jss_cons (js_set (i := 7) sc__law_floors.nd rfl (.inl rfl) (je_add (je_mul (je_pv 2) (je_sub (je_pv 0) (je_int))) (je_pv 3))) (jss_cons (js_set (i := 8) sc__law_floors.nd rfl (.inl rfl) (je_fdiv (je_pv 7) (je_pv 1))) (jss_cons (js_if (jt_eq hu (je_pv 8) (je_int)) (jss_one (js_ret (je_pv 4))) (jss_nil)) (jss_cons (js_set (i := 4) sc__law_floors.nd rfl (.inl rfl) (je_add (je_pv 4) (je_mul (je_mul (je_pv 5) (je_sub (je_pv 0) (je_int))) (je_pv 8)))) (jss_cons (js_set (i := 3) sc__law_floors.nd rfl (.inl rfl) (je_sub (je_sub (je_pv 1) (je_pv 3)) (je_int))) (jss_one (js_asg (je_tup (ja_cons (je_pv 8) (ja_cons (je_pv 2) (ja_cons (je_pv 1) (ja_cons (je_neg (je_pv 5)) (ja_nil)))))) (jg_tup rfl (jgs_cons (jg_name sc__law_floors.nd (i := 0) rfl (.inl rfl)) (jgs_cons (jg_name sc__law_floors.nd (i := 1) rfl (.inl rfl)) (jgs_cons (jg_name sc__law_floors.nd (i := 2) rfl (.inl rfl)) (jgs_cons (jg_name sc__law_floors.nd (i := 5) rfl (.inl rfl)) (jgs_nil))))))))))))))))) (jss_one (js_ret (je_pv 4))))
def sp__law_floors : PSp := fun xs S Q E => xs.length = 4 ∧ W__law_floors (PD.fnD Q E) (startP N__law_floors xs) S
theorem ok__law_floors (T : Tx G.K G.ec mg) : FnP G P w mg base 1 T.a__law_floors T.d__law_floors p__law_floors sp__law_floors :=
  fn_okD T.F__law_floors sc__law_floors (fun _ _ _ _ h => h.1) (fun cdv A outer s H E _ hr => j__law_floors T hr) fun _ _ _ _ h => h.2
def w__law_is_right_1 : WS := wAsg (wTup (wCons (wCall sp__law_slope (wCons (wV 0) (wNil))) (wCons (wCall sp__law_slope (wCons (wV 0) (wNil))) (wNil)))) (gTup' 2 (gCons' (gN 1) (gCons' (gN 2) (gNil'))))
def w__law_is_right_2 : WS := wSet 3 (wCall sp__law_some (wCons (wV 0) (wCons (wLst (wCons (wC (.int 0)) (wCons (wC (.int 1)) (wCons (wCall sp__law_draw (wCons (wV 0) (wCons (wOp oPow (wC (.int 10)) (wC (.int 9))) (wNil)))) (wCons (wOp oSub (wOp oPow (wC (.int 10)) (wC (.int 18))) (wCall sp__law_draw (wCons (wV 0) (wCons (wOp oPow (wC (.int 10)) (wC (.int 9))) (wNil))))) (wNil)))))) (wNil))))
def w__law_is_right_4 : WS := wRet (wC (.bl false))
def w__law_is_right_3 : WS := wIf (wTest (wOp oNe (wCall sp_whole_part (wCons (wV 1) (wCons (wV 2) (wCons (wV 3) (wNil))))) (wCall sp__law_whole (wCons (wV 1) (wCons (wV 2) (wCons (wV 3) (wNil))))))) (w__law_is_right_4) (wNext)
def w__law_is_right_5 : WS := wSet 4 (wCall sp__law_some (wCons (wV 0) (wCons (wLst (wCons (wC (.int 0)) (wCons (wC (.int 1)) (wCons (wCall sp__law_draw (wCons (wV 0) (wCons (wC (.int 300)) (wNil)))) (wNil))))) (wNil))))
def w__law_is_right_6 : WS := wSet 5 (wLc (iRange1 (wV 4)) (gN 14) wYes (wCall sp__law_whole (wCons (wV 1) (wCons (wV 2) (wCons (wV 14) (wNil))))) [14])
def w__law_is_right_8 : WS := wRet (wC (.bl false))
def w__law_is_right_7 : WS := wIf (wOr (wTest (wOp oNe (wCB cList (wCons (wCall sp_beat_row (wCons (wV 1) (wCons (wV 2) (wCons (wV 4) (wNil))))) (wNil))) (wV 5))) (wTest (wOp oNe (wCall sp_beat_sum (wCons (wV 1) (wCons (wV 2) (wCons (wV 4) (wNil))))) (wCB cSum2 (wCons (wV 5) (wNil)))))) (w__law_is_right_8) (wNext)
def w__law_is_right_9 : WS := wPar 6 7 (wCons (wOp oMul (wOp oIx (wV 1) (wC (.int 1))) (wOp oIx (wV 2) (wC (.int 1)))) (wCons (wOp oMul (wOp oIx (wV 1) (wC (.int 0))) (wOp oIx (wV 2) (wC (.int 1)))) (wNil)))
def w__law_is_right_11 : WS := wRet (wC (.bl false))
def w__law_is_right_10 : WS := wIf (wTest (wOp oNe (wCall sp__law_floors (wCons (wV 4) (wCons (wV 6) (wCons (wV 7) (wCons (wOp oMul (wOp oIx (wV 2) (wC (.int 0))) (wOp oIx (wV 1) (wC (.int 1)))) (wNil)))))) (wCB cSum2 (wCons (wV 5) (wNil))))) (w__law_is_right_11) (wNext)
def w__law_is_right_12 : WS := wSet 8 (wOp oSub (wOp oSub (wOp oPow (wC (.int 10)) (wC (.int 18))) (wC (.int 1))) (wCall sp__law_draw (wCons (wV 0) (wCons (wOp oPow (wC (.int 10)) (wC (.int 9))) (wNil)))))
def w__law_is_right_13 : WS := wSet 9 (wCall sp_beat_sum (wCons (wV 1) (wCons (wV 2) (wCons (wV 8) (wNil)))))
def w__law_is_right_15 : WS := wRet (wC (.bl false))
def w__law_is_right_14 : WS := wIf (wTest (wOp oNe (wV 9) (wCall sp__law_floors (wCons (wV 8) (wCons (wV 6) (wCons (wV 7) (wCons (wOp oMul (wOp oIx (wV 2) (wC (.int 0))) (wOp oIx (wV 1) (wC (.int 1)))) (wNil)))))))) (w__law_is_right_15) (wNext)
def w__law_is_right_17 : WS := wRet (wC (.bl false))
def w__law_is_right_16 : WS := wIf (wTest (wOp oNe (wCall sp_beat_sum (wCons (wV 1) (wCons (wV 2) (wCons (wOp oAdd (wV 8) (wC (.int 1))) (wNil))))) (wOp oAdd (wV 9) (wCall sp__law_whole (wCons (wV 1) (wCons (wV 2) (wCons (wV 8) (wNil)))))))) (w__law_is_right_17) (wNext)
def w__law_is_right_18 : WS := wPar 10 11 (wCons (wV 3) (wCons (wCall sp__law_draw (wCons (wV 0) (wCons (wOp oPow (wC (.int 10)) (wC (.int 9))) (wNil)))) (wNil)))
def w__law_is_right_19 : WS := wSet 12 (wLc (iSeq (wTup (wCons (wV 10) (wCons (wV 11) (wNil))))) (gN 14) wYes (wCall sp__law_fraction (wCons (wOp oMod (wCB cInt (wCons (wOp oMul (wOp oIx (wV 1) (wC (.int 0))) (wV 14)) (wNil))) (wOp oIx (wV 1) (wC (.int 1)))) (wCons (wOp oIx (wV 1) (wC (.int 1))) (wNil)))) [14])
def w__law_is_right_21 : WS := wRet (wC (.bl false))
def w__law_is_right_20 : WS := wIf (wOr (wTest (wOp oNe (wCall sp_part_of (wCons (wV 1) (wCons (wV 10) (wNil)))) (wOp oIx (wV 12) (wC (.int 0))))) (wTest (wOp oNe (wCall sp_part_of (wCons (wV 1) (wCons (wV 11) (wNil)))) (wOp oIx (wV 12) (wC (.int 1)))))) (w__law_is_right_21) (wNext)
def w__law_is_right_22 : WS := wSet 13 (wOp oLt (wOp oMul (wOp oIx (wOp oIx (wV 12) (wC (.int 0))) (wC (.int 0))) (wOp oIx (wOp oIx (wV 12) (wC (.int 1))) (wC (.int 1)))) (wOp oMul (wOp oIx (wOp oIx (wV 12) (wC (.int 1))) (wC (.int 0))) (wOp oIx (wOp oIx (wV 12) (wC (.int 0))) (wC (.int 1)))))
def w__law_is_right_23 : WS := wRet (wOp oEq (wCB cReprB (wCons (wCall sp_part_between (wCons (wV 1) (wCons (wV 10) (wCons (wV 11) (wNil))))) (wNil))) (wCB cReprB (wCons (wV 13) (wNil))))
def b__law_is_right_22 : WS := wSeq (w__law_is_right_22) (w__law_is_right_23)
def b__law_is_right_20 : WS := wSeq (w__law_is_right_20) (b__law_is_right_22)
def b__law_is_right_19 : WS := wSeq (w__law_is_right_19) (b__law_is_right_20)
def b__law_is_right_18 : WS := wSeq (w__law_is_right_18) (b__law_is_right_19)
def b__law_is_right_16 : WS := wSeq (w__law_is_right_16) (b__law_is_right_18)
def b__law_is_right_14 : WS := wSeq (w__law_is_right_14) (b__law_is_right_16)
def b__law_is_right_13 : WS := wSeq (w__law_is_right_13) (b__law_is_right_14)
def b__law_is_right_12 : WS := wSeq (w__law_is_right_12) (b__law_is_right_13)
def b__law_is_right_10 : WS := wSeq (w__law_is_right_10) (b__law_is_right_12)
def b__law_is_right_9 : WS := wSeq (w__law_is_right_9) (b__law_is_right_10)
def b__law_is_right_7 : WS := wSeq (w__law_is_right_7) (b__law_is_right_9)
def b__law_is_right_6 : WS := wSeq (w__law_is_right_6) (b__law_is_right_7)
def b__law_is_right_5 : WS := wSeq (w__law_is_right_5) (b__law_is_right_6)
def b__law_is_right_3 : WS := wSeq (w__law_is_right_3) (b__law_is_right_5)
def b__law_is_right_2 : WS := wSeq (w__law_is_right_2) (b__law_is_right_3)
def b__law_is_right_1 : WS := wSeq (w__law_is_right_1) (b__law_is_right_2)
theorem st__law_is_right {x0 : PV} : startP N__law_is_right [x0] = [some x0, none, none, none, none, none, none, none, none, none, none, none, none, none, none] := rfl
def W__law_is_right : WS := wSeq (wAsg (wTup (wCons (wCall sp__law_slope (wCons (wV 0) (wNil))) (wCons (wCall sp__law_slope (wCons (wV 0) (wNil))) (wNil)))) (gTup' 2 (gCons' (gN 1) (gCons' (gN 2) (gNil'))))) (wSeq (wSet 3 (wCall sp__law_some (wCons (wV 0) (wCons (wLst (wCons (wC (.int 0)) (wCons (wC (.int 1)) (wCons (wCall sp__law_draw (wCons (wV 0) (wCons (wOp oPow (wC (.int 10)) (wC (.int 9))) (wNil)))) (wCons (wOp oSub (wOp oPow (wC (.int 10)) (wC (.int 18))) (wCall sp__law_draw (wCons (wV 0) (wCons (wOp oPow (wC (.int 10)) (wC (.int 9))) (wNil))))) (wNil)))))) (wNil))))) (wSeq (wIf (wTest (wOp oNe (wCall sp_whole_part (wCons (wV 1) (wCons (wV 2) (wCons (wV 3) (wNil))))) (wCall sp__law_whole (wCons (wV 1) (wCons (wV 2) (wCons (wV 3) (wNil))))))) (wRet (wC (.bl false))) (wNext)) (wSeq (wSet 4 (wCall sp__law_some (wCons (wV 0) (wCons (wLst (wCons (wC (.int 0)) (wCons (wC (.int 1)) (wCons (wCall sp__law_draw (wCons (wV 0) (wCons (wC (.int 300)) (wNil)))) (wNil))))) (wNil))))) (wSeq (wSet 5 (wLc (iRange1 (wV 4)) (gN 14) wYes (wCall sp__law_whole (wCons (wV 1) (wCons (wV 2) (wCons (wV 14) (wNil))))) [14])) (wSeq (wIf (wOr (wTest (wOp oNe (wCB cList (wCons (wCall sp_beat_row (wCons (wV 1) (wCons (wV 2) (wCons (wV 4) (wNil))))) (wNil))) (wV 5))) (wTest (wOp oNe (wCall sp_beat_sum (wCons (wV 1) (wCons (wV 2) (wCons (wV 4) (wNil))))) (wCB cSum2 (wCons (wV 5) (wNil)))))) (wRet (wC (.bl false))) (wNext)) (wSeq (wPar 6 7 (wCons (wOp oMul (wOp oIx (wV 1) (wC (.int 1))) (wOp oIx (wV 2) (wC (.int 1)))) (wCons (wOp oMul (wOp oIx (wV 1) (wC (.int 0))) (wOp oIx (wV 2) (wC (.int 1)))) (wNil)))) (wSeq (wIf (wTest (wOp oNe (wCall sp__law_floors (wCons (wV 4) (wCons (wV 6) (wCons (wV 7) (wCons (wOp oMul (wOp oIx (wV 2) (wC (.int 0))) (wOp oIx (wV 1) (wC (.int 1)))) (wNil)))))) (wCB cSum2 (wCons (wV 5) (wNil))))) (wRet (wC (.bl false))) (wNext)) (wSeq (wSet 8 (wOp oSub (wOp oSub (wOp oPow (wC (.int 10)) (wC (.int 18))) (wC (.int 1))) (wCall sp__law_draw (wCons (wV 0) (wCons (wOp oPow (wC (.int 10)) (wC (.int 9))) (wNil)))))) (wSeq (wSet 9 (wCall sp_beat_sum (wCons (wV 1) (wCons (wV 2) (wCons (wV 8) (wNil)))))) (wSeq (wIf (wTest (wOp oNe (wV 9) (wCall sp__law_floors (wCons (wV 8) (wCons (wV 6) (wCons (wV 7) (wCons (wOp oMul (wOp oIx (wV 2) (wC (.int 0))) (wOp oIx (wV 1) (wC (.int 1)))) (wNil)))))))) (wRet (wC (.bl false))) (wNext)) (wSeq (wIf (wTest (wOp oNe (wCall sp_beat_sum (wCons (wV 1) (wCons (wV 2) (wCons (wOp oAdd (wV 8) (wC (.int 1))) (wNil))))) (wOp oAdd (wV 9) (wCall sp__law_whole (wCons (wV 1) (wCons (wV 2) (wCons (wV 8) (wNil)))))))) (wRet (wC (.bl false))) (wNext)) (wSeq (wPar 10 11 (wCons (wV 3) (wCons (wCall sp__law_draw (wCons (wV 0) (wCons (wOp oPow (wC (.int 10)) (wC (.int 9))) (wNil)))) (wNil)))) (wSeq (wSet 12 (wLc (iSeq (wTup (wCons (wV 10) (wCons (wV 11) (wNil))))) (gN 14) wYes (wCall sp__law_fraction (wCons (wOp oMod (wCB cInt (wCons (wOp oMul (wOp oIx (wV 1) (wC (.int 0))) (wV 14)) (wNil))) (wOp oIx (wV 1) (wC (.int 1)))) (wCons (wOp oIx (wV 1) (wC (.int 1))) (wNil)))) [14])) (wSeq (wIf (wOr (wTest (wOp oNe (wCall sp_part_of (wCons (wV 1) (wCons (wV 10) (wNil)))) (wOp oIx (wV 12) (wC (.int 0))))) (wTest (wOp oNe (wCall sp_part_of (wCons (wV 1) (wCons (wV 11) (wNil)))) (wOp oIx (wV 12) (wC (.int 1)))))) (wRet (wC (.bl false))) (wNext)) (wSeq (wSet 13 (wOp oLt (wOp oMul (wOp oIx (wOp oIx (wV 12) (wC (.int 0))) (wC (.int 0))) (wOp oIx (wOp oIx (wV 12) (wC (.int 1))) (wC (.int 1)))) (wOp oMul (wOp oIx (wOp oIx (wV 12) (wC (.int 1))) (wC (.int 0))) (wOp oIx (wOp oIx (wV 12) (wC (.int 0))) (wC (.int 1)))))) (wRet (wOp oEq (wCB cReprB (wCons (wCall sp_part_between (wCons (wV 1) (wCons (wV 10) (wCons (wV 11) (wNil))))) (wNil))) (wCB cReprB (wCons (wV 13) (wNil))))))))))))))))))))
theorem eW__law_is_right : W__law_is_right = b__law_is_right_1 := rfl
theorem j__law_is_right {A : Around} {outer : List Env} {s : Shared} {H : Hp} {E : XK} {cdv : Value} (T : Tx G.K G.ec mg) (hr : Room 5 (A.deeper (envOfC "_law_is_right" (defScope s__law_is_right) s.heap.objs.size T.a__law_is_right cdv))) :
    JSs G (cxOf (L2.CX P w) P w G.K mg base N__law_is_right "_law_is_right" (defScope s__law_is_right) T.a__law_is_right cdv A outer s H E) (defBody s__law_is_right) W__law_is_right :=
  have hu := hr.units
  jss_cons (js_asg (je_tup (ja_cons (je_call (ok__law_slope T) (hr.mono (by decide)) rfl T.m__law_slope T.F__law_slope.kp T.b__law_slope (ja_cons (je_pv 0) (ja_nil))) (ja_cons (je_call (ok__law_slope T) (hr.mono (by decide)) rfl T.m__law_slope T.F__law_slope.kp T.b__law_slope (ja_cons (je_pv 0) (ja_nil))) (ja_nil)))) (jg_tup rfl (jgs_cons (jg_name sc__law_is_right.nd (i := 1) rfl (.inr rfl)) (jgs_cons (jg_name sc__law_is_right.nd (i := 2) rfl (.inr rfl)) (jgs_nil))))) (jss_cons (js_set (i := 3) sc__law_is_right.nd rfl (.inl rfl) (je_call (ok__law_some T) (hr.mono (by decide)) rfl T.m__law_some T.F__law_some.kp T.b__law_some (ja_cons (je_pv 0) (ja_cons (je_lst (ja_cons (je_int) (ja_cons (je_int) (ja_cons (je_call (ok__law_draw T) (hr.mono (by decide)) rfl T.m__law_draw T.F__law_draw.kp T.b__law_draw (ja_cons (je_pv 0) (ja_cons (je_pow (je_int) (je_int)) (ja_nil)))) (ja_cons (je_sub (je_pow (je_int) (je_int)) (je_call (ok__law_draw T) (hr.mono (by decide)) rfl T.m__law_draw T.F__law_draw.kp T.b__law_draw (ja_cons (je_pv 0) (ja_cons (je_pow (je_int) (je_int)) (ja_nil))))) (ja_nil)))))) (ja_nil))))) (jss_cons (js_if (jt_ne hu (je_call (ok_whole_part T) (hr.mono (by decide)) rfl T.m_whole_part T.F_whole_part.kp T.b_whole_part (ja_cons (je_pv 1) (ja_cons (je_pv 2) (ja_cons (je_pv 3) (ja_nil))))) (je_call (ok__law_whole T) (hr.mono (by decide)) rfl T.m__law_whole T.F__law_whole.kp T.b__law_whole (ja_cons (je_pv 1) (ja_cons (je_pv 2) (ja_cons (je_pv 3) (ja_nil)))))) (jss_one (js_ret (je_bl))) (jss_nil)) (jss_cons (js_set (i := 4) sc__law_is_right.nd rfl (.inl rfl) (je_call (ok__law_some T) (hr.mono (by decide)) rfl T.m__law_some T.F__law_some.kp T.b__law_some (ja_cons (je_pv 0) (ja_cons (je_lst (ja_cons (je_int) (ja_cons (je_int) (ja_cons (je_call (ok__law_draw T) (hr.mono (by decide)) rfl T.m__law_draw T.F__law_draw.kp T.b__law_draw (ja_cons (je_pv 0) (ja_cons (je_int) (ja_nil)))) (ja_nil))))) (ja_nil))))) (jss_cons (js_setLc0 (own := [("at", 14)]) rfl sc__law_is_right.nd (i := 5) rfl rfl (sw_true rfl rfl rfl (by decide +kernel)) (ji_range1 rfl T.n_range (je_pv 4)) (blkOk_by (N := N__law_is_right) (sc := defScope s__law_is_right) (by decide +kernel)) (fun _ _ _ _ _ => jg_name sc__law_is_right.nd (i := 14) rfl (.inl rfl)) (fun _ _ _ _ _ => je_call (ok__law_whole T) (hr.mono (by decide)) rfl T.m__law_whole T.F__law_whole.kp T.b__law_whole (ja_cons (je_pv 1) (ja_cons (je_pv 2) (ja_cons (je_pv 14) (ja_nil)))))) (jss_cons (js_if (jt_w (jw_or (jt_ne hu (je_callTy call_list_of cl_list rfl T.n_list (by decide +kernel) (ja_cons (je_call (ok_beat_row T) (hr.mono (by decide)) rfl T.m_beat_row T.F_beat_row.kp T.b_beat_row (ja_cons (je_pv 1) (ja_cons (je_pv 2) (ja_cons (je_pv 4) (ja_nil))))) (ja_nil))) (je_pv 5)) (jw_or1 (jt_ne hu (je_call (ok_beat_sum T) (hr.mono (by decide)) rfl T.m_beat_sum T.F_beat_sum.kp T.b_beat_sum (ja_cons (je_pv 1) (ja_cons (je_pv 2) (ja_cons (je_pv 4) (ja_nil))))) (je_callB (cr_sum2 rfl) cl_sum2 rfl T.n_sum (by decide +kernel) (ja_cons (je_pv 5) (ja_nil))))))) (jss_one (js_ret (je_bl))) (jss_nil)) (jss_cons (js_par (i := 6) (j := 7) rfl sc__law_is_right.nd rfl rfl (by decide) rfl rfl (ja_cons (je_mul (je_ix (je_pv 1) (je_int)) (je_ix (je_pv 2) (je_int))) (ja_cons (je_mul (je_ix (je_pv 1) (je_int)) (je_ix (je_pv 2) (je_int))) (ja_nil))) (by rfl)) (jss_cons (js_if (jt_ne hu (je_call (ok__law_floors T) (hr.mono (by decide)) rfl T.m__law_floors T.F__law_floors.kp T.b__law_floors (ja_cons (je_pv 4) (ja_cons (je_pv 6) (ja_cons (je_pv 7) (ja_cons (je_mul (je_ix (je_pv 2) (je_int)) (je_ix (je_pv 1) (je_int))) (ja_nil)))))) (je_callB (cr_sum2 rfl) cl_sum2 rfl T.n_sum (by decide +kernel) (ja_cons (je_pv 5) (ja_nil)))) (jss_one (js_ret (je_bl))) (jss_nil)) (jss_cons (js_set (i := 8) sc__law_is_right.nd rfl (.inl rfl) (je_sub (je_sub (je_pow (je_int) (je_int)) (je_int)) (je_call (ok__law_draw T) (hr.mono (by decide)) rfl T.m__law_draw T.F__law_draw.kp T.b__law_draw (ja_cons (je_pv 0) (ja_cons (je_pow (je_int) (je_int)) (ja_nil)))))) (jss_cons (js_set (i := 9) sc__law_is_right.nd rfl (.inl rfl) (je_call (ok_beat_sum T) (hr.mono (by decide)) rfl T.m_beat_sum T.F_beat_sum.kp T.b_beat_sum (ja_cons (je_pv 1) (ja_cons (je_pv 2) (ja_cons (je_pv 8) (ja_nil)))))) (jss_cons (js_if (jt_ne hu (je_pv 9) (je_call (ok__law_floors T) (hr.mono (by decide)) rfl T.m__law_floors T.F__law_floors.kp T.b__law_floors (ja_cons (je_pv 8) (ja_cons (je_pv 6) (ja_cons (je_pv 7) (ja_cons (je_mul (je_ix (je_pv 2) (je_int)) (je_ix (je_pv 1) (je_int))) (ja_nil))))))) (jss_one (js_ret (je_bl))) (jss_nil)) (jss_cons (js_if (jt_ne hu (je_call (ok_beat_sum T) (hr.mono (by decide)) rfl T.m_beat_sum T.F_beat_sum.kp T.b_beat_sum (ja_cons (je_pv 1) (ja_cons (je_pv 2) (ja_cons (je_add (je_pv 8) (je_int)) (ja_nil))))) (je_add (je_pv 9) (je_call (ok__law_whole T) (hr.mono (by decide)) rfl T.m__law_whole T.F__law_whole.kp T.b__law_whole (ja_cons (je_pv 1) (ja_cons (je_pv 2) (ja_cons (je_pv 8) (ja_nil))))))) (jss_one (js_ret (je_bl))) (jss_nil)) (jss_cons (js_par (i := 10) (j := 11) rfl sc__law_is_right.nd rfl rfl (by decide) rfl rfl (ja_cons (je_pv 3) (ja_cons (je_call (ok__law_draw T) (hr.mono (by decide)) rfl T.m__law_draw T.F__law_draw.kp T.b__law_draw (ja_cons (je_pv 0) (ja_cons (je_pow (je_int) (je_int)) (ja_nil)))) (ja_nil))) (by rfl)) (jss_cons (js_setLc0 (own := [("at", 14)]) rfl sc__law_is_right.nd (i := 12) rfl rfl (sw_true rfl rfl rfl (by decide +kernel)) (ji_seq (je_tup (ja_cons (je_pv 10) (ja_cons (je_pv 11) (ja_nil))))) (blkOk_by (N := N__law_is_right) (sc := defScope s__law_is_right) (by decide +kernel)) (fun _ _ _ _ _ => jg_name sc__law_is_right.nd (i := 14) rfl (.inl rfl)) (fun _ _ _ _ _ => je_call (ok__law_fraction T) (hr.mono (by decide)) rfl T.m__law_fraction T.F__law_fraction.kp T.b__law_fraction (ja_cons (je_mod (je_callTy call_int1 cl_int rfl T.n_int (by decide +kernel) (ja_cons (je_mul (je_ix (je_pv 1) (je_int)) (je_pv 14)) (ja_nil))) (je_ix (je_pv 1) (je_int))) (ja_cons (je_ix (je_pv 1) (je_int)) (ja_nil))))) (jss_cons (js_if (jt_w (jw_or (jt_ne hu (je_call (ok_part_of T) (hr.mono (by decide)) rfl T.m_part_of T.F_part_of.kp T.b_part_of (ja_cons (je_pv 1) (ja_cons (je_pv 10) (ja_nil)))) (je_ix (je_pv 12) (je_int))) (jw_or1 (jt_ne hu (je_call (ok_part_of T) (hr.mono (by decide)) rfl T.m_part_of T.F_part_of.kp T.b_part_of (ja_cons (je_pv 1) (ja_cons (je_pv 11) (ja_nil)))) (je_ix (je_pv 12) (je_int)))))) (jss_one (js_ret (je_bl))) (jss_nil)) (jss_cons (js_set (i := 13) sc__law_is_right.nd rfl (.inl rfl) (je_lt hu (je_mul (je_ix (je_ix (je_pv 12) (je_int)) (je_int)) (je_ix (je_ix (je_pv 12) (je_int)) (je_int))) (je_mul (je_ix (je_ix (je_pv 12) (je_int)) (je_int)) (je_ix (je_ix (je_pv 12) (je_int)) (je_int))))) (jss_one (js_ret (je_eq hu (je_callB call_reprB cl_reprB rfl T.n_repr (by decide +kernel) (ja_cons (je_call (ok_part_between T) (hr.mono (by decide)) rfl T.m_part_between T.F_part_between.kp T.b_part_between (ja_cons (je_pv 1) (ja_cons (je_pv 10) (ja_cons (je_pv 11) (ja_nil))))) (ja_nil))) (je_callB call_reprB cl_reprB rfl T.n_repr (by decide +kernel) (ja_cons (je_pv 13) (ja_nil)))))))))))))))))))))
def sp__law_is_right : PSp := fun xs S Q E => xs.length = 1 ∧ W__law_is_right (PD.fnD Q E) (startP N__law_is_right xs) S
theorem ok__law_is_right (T : Tx G.K G.ec mg) : FnP G P w mg base 6 T.a__law_is_right T.d__law_is_right p__law_is_right sp__law_is_right :=
  fn_okD T.F__law_is_right sc__law_is_right (fun _ _ _ _ h => h.1) (fun cdv A outer s H E _ hr => j__law_is_right T hr) fun _ _ _ _ h => h.2
def w_law_1 : WS := wSet 1 (wCall sp__law_hand (wCons (wV 0) (wNil)))
def w_law_3 : WS := wRet (wC (.bl false))
def w_law_2 : WS := wIf (wOr (wNot (wTru (wCall sp__law_is_right (wCons (wV 1) (wNil))))) (wNot (wTru (wCall sp__law_is_right (wCons (wV 1) (wNil)))))) (w_law_3) (wNext)
def w_law_4 : WS := wSet 2 (wLst (wCons (wC .non) (wCons (wTup (wCons (wC (.int 2)) (wCons (wC (.int 4)) (wNil)))) (wCons (wTup (wCons (wUn oNeg (wC (.int 1))) (wCons (wC (.int 2)) (wNil)))) (wCons (wTup (wCons (wC (.int 1)) (wCons (wC (.int 0)) (wNil)))) (wCons (wLst (wCons (wC (.int 1)) (wCons (wC (.int 2)) (wNil)))) (wCons (wTup (wCons (wC (.int 1)) (wNil))) (wCons (wTup (wCons (wOp oAdd (wOp oPow (wC (.int 10)) (wC (.int 9))) (wC (.int 1))) (wCons (wC (.int 1)) (wNil)))) (wCons (wTup (wCons (wC (.int 1)) (wCons (wOp oAdd (wOp oPow (wC (.int 10)) (wC (.int 9))) (wC (.int 7))) (wNil)))) (wCons (wTup (wCons (wC (.bl true)) (wCons (wC (.int 2)) (wNil)))) (wCons (wC (.int 3)) (wNil))))))))))))
def w_law_5 : WS := wSet 3 (wCall sp__law_some (wCons (wV 1) (wCons (wV 2) (wNil))))
def w_law_6 : WS := wSet 4 (wCall sp__law_some (wCons (wV 1) (wCons (wLst (wCons (wUn oNeg (wC (.int 1))) (wCons (wC (.int 5001)) (wCons (wC .non) (wCons (wC (.bl true)) (wCons (wC (.str (PySem.Str.ofString "3"))) (wNil))))))) (wNil))))
def w_law_7 : WS := wSet 5 (wLst (wCons (wLam W__law_word N__law_word (wCall sp_beat_row (wCons (wV 3) (wCons (wV 3) (wCons (wV 4) (wNil)))))) (wNil)))
def w_law_8 : WS := wExpr (wBM "list" mAppend (wV 5) (wCons (wLam W__law_word N__law_word (wCall sp_beat_row (wCons (wV 3) (wCons (wTup (wCons (wC (.int 0)) (wCons (wC (.int 1)) (wNil)))) (wCons (wC (.int 3)) (wNil)))))) (wNil)))
def w_law_9 : WS := wExpr (wBM "list" mAppend (wV 5) (wCons (wLam W__law_word N__law_word (wCall sp_beat_row (wCons (wTup (wCons (wC (.int 1)) (wCons (wC (.int 2)) (wNil)))) (wCons (wV 3) (wCons (wC (.int 3)) (wNil)))))) (wNil)))
def w_law_10 : WS := wExpr (wBM "list" mAppend (wV 5) (wCons (wLam W__law_word N__law_word (wCall sp_whole_part (wCons (wTup (wCons (wC (.int 1)) (wCons (wC (.int 2)) (wNil)))) (wCons (wV 3) (wCons (wC (.int 3)) (wNil)))))) (wNil)))
def w_law_11 : WS := wExpr (wBM "list" mAppend (wV 5) (wCons (wLam W__law_word N__law_word (wCall sp_whole_part (wCons (wTup (wCons (wC (.int 1)) (wCons (wC (.int 2)) (wNil)))) (wCons (wTup (wCons (wC (.int 0)) (wCons (wC (.int 1)) (wNil)))) (wCons (wCall sp__law_some (wCons (wV 1) (wCons (wLst (wCons (wUn oNeg (wC (.int 1))) (wCons (wOp oAdd (wOp oPow (wC (.int 10)) (wC (.int 18))) (wC (.int 1))) (wCons (wC .non) (wNil))))) (wNil)))) (wNil)))))) (wNil)))
def w_law_12 : WS := wExpr (wBM "list" mAppend (wV 5) (wCons (wLam W__law_word N__law_word (wCall sp_part_of (wCons (wV 3) (wCons (wC (.int 3)) (wNil))))) (wNil)))
def w_law_13 : WS := wExpr (wBM "list" mAppend (wV 5) (wCons (wLam W__law_word N__law_word (wCall sp_part_between (wCons (wTup (wCons (wC (.int 1)) (wCons (wC (.int 2)) (wNil)))) (wCons (wC (.int 1)) (wCons (wCall sp__law_some (wCons (wV 1) (wCons (wLst (wCons (wUn oNeg (wC (.int 1))) (wCons (wOp oAdd (wOp oPow (wC (.int 10)) (wC (.int 18))) (wC (.int 1))) (wCons (wC .non) (wNil))))) (wNil)))) (wNil)))))) (wNil)))
def w_law_14 : WS := wRet (wOp oEq (wV 5) (wLst (wCons (wC (.str (PySem.Str.ofString "number"))) (wCons (wC (.str (PySem.Str.ofString "slope"))) (wCons (wC (.str (PySem.Str.ofString "slope"))) (wCons (wC (.str (PySem.Str.ofString "slope"))) (wCons (wC (.str (PySem.Str.ofString "number"))) (wCons (wC (.str (PySem.Str.ofString "slope"))) (wCons (wC (.str (PySem.Str.ofString "number"))) (wNil))))))))))
def b_law_13 : WS := wSeq (w_law_13) (w_law_14)
def b_law_12 : WS := wSeq (w_law_12) (b_law_13)
def b_law_11 : WS := wSeq (w_law_11) (b_law_12)
def b_law_10 : WS := wSeq (w_law_10) (b_law_11)
def b_law_9 : WS := wSeq (w_law_9) (b_law_10)
def b_law_8 : WS := wSeq (w_law_8) (b_law_9)
def b_law_7 : WS := wSeq (w_law_7) (b_law_8)
def b_law_6 : WS := wSeq (w_law_6) (b_law_7)
def b_law_5 : WS := wSeq (w_law_5) (b_law_6)
def b_law_4 : WS := wSeq (w_law_4) (b_law_5)
def b_law_2 : WS := wSeq (w_law_2) (b_law_4)
def b_law_1 : WS := wSeq (w_law_1) (b_law_2)
theorem st_law {x0 : PV} : startP N_law [x0] = [some x0, none, none, none, none, none] := rfl
def W_law : WS := wSeq (wSet 1 (wCall sp__law_hand (wCons (wV 0) (wNil)))) (wSeq (wIf (wOr (wNot (wTru (wCall sp__law_is_right (wCons (wV 1) (wNil))))) (wNot (wTru (wCall sp__law_is_right (wCons (wV 1) (wNil)))))) (wRet (wC (.bl false))) (wNext)) (wSeq (wSet 2 (wLst (wCons (wC .non) (wCons (wTup (wCons (wC (.int 2)) (wCons (wC (.int 4)) (wNil)))) (wCons (wTup (wCons (wUn oNeg (wC (.int 1))) (wCons (wC (.int 2)) (wNil)))) (wCons (wTup (wCons (wC (.int 1)) (wCons (wC (.int 0)) (wNil)))) (wCons (wLst (wCons (wC (.int 1)) (wCons (wC (.int 2)) (wNil)))) (wCons (wTup (wCons (wC (.int 1)) (wNil))) (wCons (wTup (wCons (wOp oAdd (wOp oPow (wC (.int 10)) (wC (.int 9))) (wC (.int 1))) (wCons (wC (.int 1)) (wNil)))) (wCons (wTup (wCons (wC (.int 1)) (wCons (wOp oAdd (wOp oPow (wC (.int 10)) (wC (.int 9))) (wC (.int 7))) (wNil)))) (wCons (wTup (wCons (wC (.bl true)) (wCons (wC (.int 2)) (wNil)))) (wCons (wC (.int 3)) (wNil))))))))))))) (wSeq (wSet 3 (wCall sp__law_some (wCons (wV 1) (wCons (wV 2) (wNil))))) (wSeq (wSet 4 (wCall sp__law_some (wCons (wV 1) (wCons (wLst (wCons (wUn oNeg (wC (.int 1))) (wCons (wC (.int 5001)) (wCons (wC .non) (wCons (wC (.bl true)) (wCons (wC (.str (PySem.Str.ofString "3"))) (wNil))))))) (wNil))))) (wSeq (wSet 5 (wLst (wCons (wLam W__law_word N__law_word (wCall sp_beat_row (wCons (wV 3) (wCons (wV 3) (wCons (wV 4) (wNil)))))) (wNil)))) (wSeq (wExpr (wBM "list" mAppend (wV 5) (wCons (wLam W__law_word N__law_word (wCall sp_beat_row (wCons (wV 3) (wCons (wTup (wCons (wC (.int 0)) (wCons (wC (.int 1)) (wNil)))) (wCons (wC (.int 3)) (wNil)))))) (wNil)))) (wSeq (wExpr (wBM "list" mAppend (wV 5) (wCons (wLam W__law_word N__law_word (wCall sp_beat_row (wCons (wTup (wCons (wC (.int 1)) (wCons (wC (.int 2)) (wNil)))) (wCons (wV 3) (wCons (wC (.int 3)) (wNil)))))) (wNil)))) (wSeq (wExpr (wBM "list" mAppend (wV 5) (wCons (wLam W__law_word N__law_word (wCall sp_whole_part (wCons (wTup (wCons (wC (.int 1)) (wCons (wC (.int 2)) (wNil)))) (wCons (wV 3) (wCons (wC (.int 3)) (wNil)))))) (wNil)))) (wSeq (wExpr (wBM "list" mAppend (wV 5) (wCons (wLam W__law_word N__law_word (wCall sp_whole_part (wCons (wTup (wCons (wC (.int 1)) (wCons (wC (.int 2)) (wNil)))) (wCons (wTup (wCons (wC (.int 0)) (wCons (wC (.int 1)) (wNil)))) (wCons (wCall sp__law_some (wCons (wV 1) (wCons (wLst (wCons (wUn oNeg (wC (.int 1))) (wCons (wOp oAdd (wOp oPow (wC (.int 10)) (wC (.int 18))) (wC (.int 1))) (wCons (wC .non) (wNil))))) (wNil)))) (wNil)))))) (wNil)))) (wSeq (wExpr (wBM "list" mAppend (wV 5) (wCons (wLam W__law_word N__law_word (wCall sp_part_of (wCons (wV 3) (wCons (wC (.int 3)) (wNil))))) (wNil)))) (wSeq (wExpr (wBM "list" mAppend (wV 5) (wCons (wLam W__law_word N__law_word (wCall sp_part_between (wCons (wTup (wCons (wC (.int 1)) (wCons (wC (.int 2)) (wNil)))) (wCons (wC (.int 1)) (wCons (wCall sp__law_some (wCons (wV 1) (wCons (wLst (wCons (wUn oNeg (wC (.int 1))) (wCons (wOp oAdd (wOp oPow (wC (.int 10)) (wC (.int 18))) (wC (.int 1))) (wCons (wC .non) (wNil))))) (wNil)))) (wNil)))))) (wNil)))) (wRet (wOp oEq (wV 5) (wLst (wCons (wC (.str (PySem.Str.ofString "number"))) (wCons (wC (.str (PySem.Str.ofString "slope"))) (wCons (wC (.str (PySem.Str.ofString "slope"))) (wCons (wC (.str (PySem.Str.ofString "slope"))) (wCons (wC (.str (PySem.Str.ofString "number"))) (wCons (wC (.str (PySem.Str.ofString "slope"))) (wCons (wC (.str (PySem.Str.ofString "number"))) (wNil))))))))))))))))))))))
theorem eW_law : W_law = b_law_1 := rfl
theorem j_law {A : Around} {outer : List Env} {s : Shared} {H : Hp} {E : XK} {cdv : Value} (T : Tx G.K G.ec mg) (hr : Room 8 (A.deeper (envOfC "law" (defScope s_law) s.heap.objs.size T.a_law cdv))) (hcode : cdv = .ref T.c_law) (TB : LamX.TabB base mg T.c_law T.P_law) (ht : (T.P_law, lamN "law") ∈ G.T) (hq : ∀ p ∈ G.T, p.1 = T.P_law → p.2 = lamN "law") :
    JSs G (cxOf (L2.CX P w) P w G.K mg base N_law "law" (defScope s_law) T.a_law cdv A outer s H E) (defBody s_law) W_law :=
  have hu := hr.units
  jss_cons (js_set (i := 1) sc_law.nd rfl (.inr rfl) (je_call (ok__law_hand T) (hr.mono (by decide)) rfl T.m__law_hand T.F__law_hand.kp T.b__law_hand (ja_cons (je_pv 0) (ja_nil)))) (jss_cons (js_if (jt_w (jw_or (jt_not (jt_tru (je_call (ok__law_is_right T) (hr.mono (by decide)) rfl T.m__law_is_right T.F__law_is_right.kp T.b__law_is_right (ja_cons (je_pv 1) (ja_nil))))) (jw_or1 (jt_not (jt_tru (je_call (ok__law_is_right T) (hr.mono (by decide)) rfl T.m__law_is_right T.F__law_is_right.kp T.b__law_is_right (ja_cons (je_pv 1) (ja_nil)))))))) (jss_one (js_ret (je_bl))) (jss_nil)) (jss_cons (js_set (i := 2) sc_law.nd rfl (.inl rfl) (je_lst (ja_cons (je_non) (ja_cons (je_tup (ja_cons (je_int) (ja_cons (je_int) (ja_nil)))) (ja_cons (je_tup (ja_cons (je_neg (je_int)) (ja_cons (je_int) (ja_nil)))) (ja_cons (je_tup (ja_cons (je_int) (ja_cons (je_int) (ja_nil)))) (ja_cons (je_lst (ja_cons (je_int) (ja_cons (je_int) (ja_nil)))) (ja_cons (je_tup (ja_cons (je_int) (ja_nil))) (ja_cons (je_tup (ja_cons (je_add (je_pow (je_int) (je_int)) (je_int)) (ja_cons (je_int) (ja_nil)))) (ja_cons (je_tup (ja_cons (je_int) (ja_cons (je_add (je_pow (je_int) (je_int)) (je_int)) (ja_nil)))) (ja_cons (je_tup (ja_cons (je_bl) (ja_cons (je_int) (ja_nil)))) (ja_cons (je_int) (ja_nil))))))))))))) (jss_cons (js_set (i := 3) sc_law.nd rfl (.inr rfl) (je_call (ok__law_some T) (hr.mono (by decide)) rfl T.m__law_some T.F__law_some.kp T.b__law_some (ja_cons (je_pv 1) (ja_cons (je_pv 2) (ja_nil))))) (jss_cons (js_set (i := 4) sc_law.nd rfl (.inr rfl) (je_call (ok__law_some T) (hr.mono (by decide)) rfl T.m__law_some T.F__law_some.kp T.b__law_some (ja_cons (je_pv 1) (ja_cons (je_lst (ja_cons (je_neg (je_int)) (ja_cons (je_int) (ja_cons (je_non) (ja_cons (je_bl) (ja_cons (je_str) (ja_nil))))))) (ja_nil))))) (jss_cons (js_set (i := 5) sc_law.nd rfl (.inl rfl) (je_lst (ja_cons (je_lam (k := 6) T.F__law_word rfl T.m__law_word T.b__law_word sc__law_word rfl (.inl rfl) (fun G' th f cdg s H hK hE hr act => by obtain ⟨gT, gfx, gcp, rfl⟩ := gd_cases hK hE; exact j__law_word (G := ⟨G.K, gT, G.ec, gfx, gcp⟩) T (hr.mono (by decide)) act) TB hcode ht hq (hr.mono (by decide)) (LamX.lamS_by (sc := defScope s_law) (by decide +kernel)) rfl (fun _ _ _ _ _ => rfl) (fun A outer s H E f c hr => have hu := hr.units; je_call (ok_beat_row T) (hr.mono (by decide)) rfl T.m_beat_row T.F_beat_row.kp T.b_beat_row (ja_cons (je_pv 3) (ja_cons (je_pv 3) (ja_cons (je_pv 4) (ja_nil)))))) (ja_nil)))) (jss_cons (js_expr (je_append (je_pv 5) (ja_cons (je_lam (k := 6) T.F__law_word rfl T.m__law_word T.b__law_word sc__law_word rfl (.inl rfl) (fun G' th f cdg s H hK hE hr act => by obtain ⟨gT, gfx, gcp, rfl⟩ := gd_cases hK hE; exact j__law_word (G := ⟨G.K, gT, G.ec, gfx, gcp⟩) T (hr.mono (by decide)) act) TB hcode ht hq (hr.mono (by decide)) (LamX.lamS_by (sc := defScope s_law) (by decide +kernel)) rfl (fun _ _ _ _ _ => rfl) (fun A outer s H E f c hr => have hu := hr.units; je_call (ok_beat_row T) (hr.mono (by decide)) rfl T.m_beat_row T.F_beat_row.kp T.b_beat_row (ja_cons (je_pv 3) (ja_cons (je_tup (ja_cons (je_int) (ja_cons (je_int) (ja_nil)))) (ja_cons (je_int) (ja_nil)))))) (ja_nil)))) (jss_cons (js_expr (je_append (je_pv 5) (ja_cons (je_lam (k := 6) T.F__law_word rfl T.m__law_word T.b__law_word sc__law_word rfl (.inl rfl) (fun G' th f cdg s H hK hE hr act => by obtain ⟨gT, gfx, gcp, rfl⟩ := gd_cases hK hE; exact j__law_word (G := ⟨G.K, gT, G.ec, gfx, gcp⟩) T (hr.mono (by decide)) act) TB hcode ht hq (hr.mono (by decide)) (LamX.lamS_by (sc := defScope s_law) (by decide +kernel)) rfl (fun _ _ _ _ _ => rfl) (fun A outer s H E f c hr => have hu := hr.units; je_call (ok_beat_row T) (hr.mono (by decide)) rfl T.m_beat_row T.F_beat_row.kp T.b_beat_row (ja_cons (je_tup (ja_cons (je_int) (ja_cons (je_int) (ja_nil)))) (ja_cons (je_pv 3) (ja_cons (je_int) (ja_nil)))))) (ja_nil)))) (jss_cons (js_expr (je_append (je_pv 5) (ja_cons (je_lam (k := 6) T.F__law_word rfl T.m__law_word T.b__law_word sc__law_word rfl (.inl rfl) (fun G' th f cdg s H hK hE hr act => by obtain ⟨gT, gfx, gcp, rfl⟩ := gd_cases hK hE; exact j__law_word (G := ⟨G.K, gT, G.ec, gfx, gcp⟩) T (hr.mono (by decide)) act) TB hcode ht hq (hr.mono (by decide)) (LamX.lamS_by (sc := defScope s_law) (by decide +kernel)) rfl (fun _ _ _ _ _ => rfl) (fun A outer s H E f c hr => have hu := hr.units; je_call (ok_whole_part T) (hr.mono (by decide)) rfl T.m_whole_part T.F_whole_part.kp T.b_whole_part (ja_cons (je_tup (ja_cons (je_int) (ja_cons (je_int) (ja_nil)))) (ja_cons (je_pv 3) (ja_cons (je_int) (ja_nil)))))) (ja_nil)))) (jss_cons (js_expr (je_append (je_pv 5) (ja_cons (je_lam (k := 6) T.F__law_word rfl T.m__law_word T.b__law_word sc__law_word rfl (.inl rfl) (fun G' th f cdg s H hK hE hr act => by obtain ⟨gT, gfx, gcp, rfl⟩ := gd_cases hK hE; exact j__law_word (G := ⟨G.K, gT, G.ec, gfx, gcp⟩) T (hr.mono (by decide)) act) TB hcode ht hq (hr.mono (by decide)) (LamX.lamS_by (sc := defScope s_law) (by decide +kernel)) rfl (fun _ _ _ _ _ => rfl) (fun A outer s H E f c hr => have hu := hr.units; je_call (ok_whole_part T) (hr.mono (by decide)) rfl T.m_whole_part T.F_whole_part.kp T.b_whole_part (ja_cons (je_tup (ja_cons (je_int) (ja_cons (je_int) (ja_nil)))) (ja_cons (je_tup (ja_cons (je_int) (ja_cons (je_int) (ja_nil)))) (ja_cons (je_call (ok__law_some T) (hr.mono (by decide)) rfl T.m__law_some T.F__law_some.kp T.b__law_some (ja_cons (je_pv 1) (ja_cons (je_lst (ja_cons (je_neg (je_int)) (ja_cons (je_add (je_pow (je_int) (je_int)) (je_int)) (ja_cons (je_non) (ja_nil))))) (ja_nil)))) (ja_nil)))))) (ja_nil)))) (jss_cons (js_expr (je_append (je_pv 5) (ja_cons (je_lam (k := 6) T.F__law_word rfl T.m__law_word T.b__law_word sc__law_word rfl (.inl rfl) (fun G' th f cdg s H hK hE hr act => by obtain ⟨gT, gfx, gcp, rfl⟩ := gd_cases hK hE; exact j__law_word (G := ⟨G.K, gT, G.ec, gfx, gcp⟩) T (hr.mono (by decide)) act) TB hcode ht hq (hr.mono (by decide)) (LamX.lamS_by (sc := defScope s_law) (by decide +kernel)) rfl (fun _ _ _ _ _ => rfl) (fun A outer s H E f c hr => have hu := hr.units; je_call (ok_part_of T) (hr.mono (by decide)) rfl T.m_part_of T.F_part_of.kp T.b_part_of (ja_cons (je_pv 3) (ja_cons (je_int) (ja_nil))))) (ja_nil)))) (jss_cons (js_expr (je_append (je_pv 5) (ja_cons (je_lam (k := 6) T.F__law_word rfl T.m__law_word T.b__law_word sc__law_word rfl (.inl rfl) (fun G' th f cdg s H hK hE hr act => by obtain ⟨gT, gfx, gcp, rfl⟩ := gd_cases hK hE; exact j__law_word (G := ⟨G.K, gT, G.ec, gfx, gcp⟩) T (hr.mono (by decide)) act) TB hcode ht hq (hr.mono (by decide)) (LamX.lamS_by (sc := defScope s_law) (by decide +kernel)) rfl (fun _ _ _ _ _ => rfl) (fun A outer s H E f c hr => have hu := hr.units; je_call (ok_part_between T) (hr.mono (by decide)) rfl T.m_part_between T.F_part_between.kp T.b_part_between (ja_cons (je_tup (ja_cons (je_int) (ja_cons (je_int) (ja_nil)))) (ja_cons (je_int) (ja_cons (je_call (ok__law_some T) (hr.mono (by decide)) rfl T.m__law_some T.F__law_some.kp T.b__law_some (ja_cons (je_pv 1) (ja_cons (je_lst (ja_cons (je_neg (je_int)) (ja_cons (je_add (je_pow (je_int) (je_int)) (je_int)) (ja_cons (je_non) (ja_nil))))) (ja_nil)))) (ja_nil)))))) (ja_nil)))) (jss_one (js_ret (je_eq hu (je_pv 5) (je_lst (ja_cons (je_str) (ja_cons (je_str) (ja_cons (je_str) (ja_cons (je_str) (ja_cons (je_str) (ja_cons (je_str) (ja_cons (je_str) (ja_nil)))))))))))))))))))))))
def sp_law : PSp := fun xs S Q E => xs.length = 1 ∧ W_law (PD.fnD Q E) (startP N_law xs) S
theorem ok_law (T : Tx G.K G.ec mg) (TB : LamX.TabB base mg T.c_law T.P_law) (ht : (T.P_law, lamN "law") ∈ G.T) (hq : ∀ p ∈ G.T, p.1 = T.P_law → p.2 = lamN "law") : FnP G P w mg base 9 T.a_law T.d_law p_law sp_law :=
  fn_okD T.F_law sc_law (fun _ _ _ _ h => h.1) (fun cdv A outer s H E hc hr => j_law T hr (hc.symm.trans T.cd_law) TB ht hq) fun _ _ _ _ h => h.2
theorem all_mk {K : PySem.W.Frag} {h : Heap} {mg : Str → Option Value} {fa : Addr} {w : World} {P : Program} {ts : List Addr} (X : K.In h) (Gn : h.Ns mainGlobals mg) (hfa : mg "law" = some (.ref fa)) (TBs : ∀ P ∈ ts, h.get? P = some (PySem.W.tabObj #[]))
    {f_is_integer : Addr} {oc_is_integer kV_is_integer dc_is_integer pm_is_integer ct_is_integer : Value} {od_is_integer an_is_integer : Option Addr} {sl_is_integer : Array (Option Value)}
    {cd_is_integer : Value}
    {f_is_within : Addr} {oc_is_within kV_is_within dc_is_within pm_is_within ct_is_within : Value} {od_is_within an_is_within : Option Addr} {sl_is_within : Array (Option Value)}
    {cd_is_within : Value}
    {f_is_tuple_of : Addr} {oc_is_tuple_of kV_is_tuple_of dc_is_tuple_of pm_is_tuple_of ct_is_tuple_of : Value} {od_is_tuple_of an_is_tuple_of : Option Addr} {sl_is_tuple_of : Array (Option Value)}
    {cd_is_tuple_of : Value}
    {f_common : Addr} {oc_common kV_common dc_common pm_common ct_common : Value} {od_common an_common : Option Addr} {sl_common : Array (Option Value)}
    {cd_common : Value}
    {f_frac : Addr} {oc_frac kV_frac dc_frac pm_frac ct_frac : Value} {od_frac an_frac : Option Addr} {sl_frac : Array (Option Value)}
    {cd_frac : Value}
    {f_is_fraction : Addr} {oc_is_fraction kV_is_fraction dc_is_fraction pm_is_fraction ct_is_fraction : Value} {od_is_fraction an_is_fraction : Option Addr} {sl_is_fraction : Array (Option Value)}
    {cd_is_fraction : Value}
    {f_minus : Addr} {oc_minus kV_minus dc_minus pm_minus ct_minus : Value} {od_minus an_minus : Option Addr} {sl_minus : Array (Option Value)}
    {cd_minus : Value}
    {f_less : Addr} {oc_less kV_less dc_less pm_less ct_less : Value} {od_less an_less : Option Addr} {sl_less : Array (Option Value)}
    {cd_less : Value}
    {f_check_slope : Addr} {oc_check_slope kV_check_slope dc_check_slope pm_check_slope ct_check_slope : Value} {od_check_slope an_check_slope : Option Addr} {sl_check_slope : Array (Option Value)}
    {cd_check_slope : Value}
    {f_whole_part : Addr} {oc_whole_part kV_whole_part dc_whole_part pm_whole_part ct_whole_part : Value} {od_whole_part an_whole_part : Option Addr} {sl_whole_part : Array (Option Value)}
    {cd_whole_part : Value}
    {f_beat_row : Addr} {oc_beat_row kV_beat_row dc_beat_row pm_beat_row ct_beat_row : Value} {od_beat_row an_beat_row : Option Addr} {sl_beat_row : Array (Option Value)}
    {cd_beat_row : Value}
    {f_beat_sum : Addr} {oc_beat_sum kV_beat_sum dc_beat_sum pm_beat_sum ct_beat_sum : Value} {od_beat_sum an_beat_sum : Option Addr} {sl_beat_sum : Array (Option Value)}
    {cd_beat_sum : Value}
    {f_floor_sum : Addr} {oc_floor_sum kV_floor_sum dc_floor_sum pm_floor_sum ct_floor_sum : Value} {od_floor_sum an_floor_sum : Option Addr} {sl_floor_sum : Array (Option Value)}
    {cd_floor_sum : Value}
    {f_part_between : Addr} {oc_part_between kV_part_between dc_part_between pm_part_between ct_part_between : Value} {od_part_between an_part_between : Option Addr} {sl_part_between : Array (Option Value)}
    {cd_part_between : Value}
    {f_part_of : Addr} {oc_part_of kV_part_of dc_part_of pm_part_of ct_part_of : Value} {od_part_of an_part_of : Option Addr} {sl_part_of : Array (Option Value)}
    {cd_part_of : Value}
    {f__law_hand : Addr} {oc__law_hand kV__law_hand dc__law_hand pm__law_hand ct__law_hand : Value} {od__law_hand an__law_hand : Option Addr} {sl__law_hand : Array (Option Value)}
    {cd__law_hand : Value}
    {f__law_draw : Addr} {oc__law_draw kV__law_draw dc__law_draw pm__law_draw ct__law_draw : Value} {od__law_draw an__law_draw : Option Addr} {sl__law_draw : Array (Option Value)}
    {cd__law_draw : Value}
    {f__law_some : Addr} {oc__law_some kV__law_some dc__law_some pm__law_some ct__law_some : Value} {od__law_some an__law_some : Option Addr} {sl__law_some : Array (Option Value)}
    {cd__law_some : Value}
    {f__law_common : Addr} {oc__law_common kV__law_common dc__law_common pm__law_common ct__law_common : Value} {od__law_common an__law_common : Option Addr} {sl__law_common : Array (Option Value)}
    {cd__law_common : Value}
    {f__law_fraction : Addr} {oc__law_fraction kV__law_fraction dc__law_fraction pm__law_fraction ct__law_fraction : Value} {od__law_fraction an__law_fraction : Option Addr} {sl__law_fraction : Array (Option Value)}
    {cd__law_fraction : Value}
    {f__law_word : Addr} {oc__law_word kV__law_word dc__law_word pm__law_word ct__law_word : Value} {od__law_word an__law_word : Option Addr} {sl__law_word : Array (Option Value)}
    {cd__law_word : Value}
    {f__law_slope : Addr} {oc__law_slope kV__law_slope dc__law_slope pm__law_slope ct__law_slope : Value} {od__law_slope an__law_slope : Option Addr} {sl__law_slope : Array (Option Value)}
    {cd__law_slope : Value}
    {f__law_whole : Addr} {oc__law_whole kV__law_whole dc__law_whole pm__law_whole ct__law_whole : Value} {od__law_whole an__law_whole : Option Addr} {sl__law_whole : Array (Option Value)}
    {cd__law_whole : Value}
    {f__law_floors : Addr} {oc__law_floors kV__law_floors dc__law_floors pm__law_floors ct__law_floors : Value} {od__law_floors an__law_floors : Option Addr} {sl__law_floors : Array (Option Value)}
    {cd__law_floors : Value}
    {f__law_is_right : Addr} {oc__law_is_right kV__law_is_right dc__law_is_right pm__law_is_right ct__law_is_right : Value} {od__law_is_right an__law_is_right : Option Addr} {sl__law_is_right : Array (Option Value)}
    {cd__law_is_right : Value}
    {f_law : Addr} {oc_law kV_law dc_law pm_law ct_law : Value} {od_law an_law : Option Addr} {sl_law : Array (Option Value)}
    {c_law P_law : Addr}
    {tk_MOST_PLACE : Tok}
    {tk_MOST_SLOPE : Tok}
    {C_BadNumber : Addr}
    {C_BadSlope : Addr}
    {C_TermError : Addr}
    {C_TooMany : Addr}
    (a_is_integer : PySem.W.nsIn K mainGlobals "is_integer" = some (some (.ref f_is_integer)))
    (l_is_integer : K.lookup f_is_integer = some ⟨oc_is_integer, od_is_integer, .func (PySem.W.fnOf "is_integer" "is_integer" (defArgs s_is_integer) (defBody s_is_integer) (defScope s_is_integer) .none kV_is_integer dc_is_integer pm_is_integer an_is_integer cd_is_integer ct_is_integer), sl_is_integer⟩)
    (c_is_integer : PySem.W.codeIn K cd_is_integer "is_integer" = true)
    (k_is_integer : PySem.W.keepIn K (.ref f_is_integer) = true)
    (a_is_within : PySem.W.nsIn K mainGlobals "is_within" = some (some (.ref f_is_within)))
    (l_is_within : K.lookup f_is_within = some ⟨oc_is_within, od_is_within, .func (PySem.W.fnOf "is_within" "is_within" (defArgs s_is_within) (defBody s_is_within) (defScope s_is_within) .none kV_is_within dc_is_within pm_is_within an_is_within cd_is_within ct_is_within), sl_is_within⟩)
    (c_is_within : PySem.W.codeIn K cd_is_within "is_within" = true)
    (k_is_within : PySem.W.keepIn K (.ref f_is_within) = true)
    (a_is_tuple_of : PySem.W.nsIn K mainGlobals "is_tuple_of" = some (some (.ref f_is_tuple_of)))
    (l_is_tuple_of : K.lookup f_is_tuple_of = some ⟨oc_is_tuple_of, od_is_tuple_of, .func (PySem.W.fnOf "is_tuple_of" "is_tuple_of" (defArgs s_is_tuple_of) (defBody s_is_tuple_of) (defScope s_is_tuple_of) .none kV_is_tuple_of dc_is_tuple_of pm_is_tuple_of an_is_tuple_of cd_is_tuple_of ct_is_tuple_of), sl_is_tuple_of⟩)
    (c_is_tuple_of : PySem.W.codeIn K cd_is_tuple_of "is_tuple_of" = true)
    (k_is_tuple_of : PySem.W.keepIn K (.ref f_is_tuple_of) = true)
    (a_common : PySem.W.nsIn K mainGlobals "common" = some (some (.ref f_common)))
    (l_common : K.lookup f_common = some ⟨oc_common, od_common, .func (PySem.W.fnOf "common" "common" (defArgs s_common) (defBody s_common) (defScope s_common) .none kV_common dc_common pm_common an_common cd_common ct_common), sl_common⟩)
    (c_common : PySem.W.codeIn K cd_common "common" = true)
    (k_common : PySem.W.keepIn K (.ref f_common) = true)
    (a_frac : PySem.W.nsIn K mainGlobals "frac" = some (some (.ref f_frac)))
    (l_frac : K.lookup f_frac = some ⟨oc_frac, od_frac, .func (PySem.W.fnOf "frac" "frac" (defArgs s_frac) (defBody s_frac) (defScope s_frac) .none kV_frac dc_frac pm_frac an_frac cd_frac ct_frac), sl_frac⟩)
    (c_frac : PySem.W.codeIn K cd_frac "frac" = true)
    (k_frac : PySem.W.keepIn K (.ref f_frac) = true)
    (a_is_fraction : PySem.W.nsIn K mainGlobals "is_fraction" = some (some (.ref f_is_fraction)))
    (l_is_fraction : K.lookup f_is_fraction = some ⟨oc_is_fraction, od_is_fraction, .func (PySem.W.fnOf "is_fraction" "is_fraction" (defArgs s_is_fraction) (defBody s_is_fraction) (defScope s_is_fraction) .none kV_is_fraction dc_is_fraction pm_is_fraction an_is_fraction cd_is_fraction ct_is_fraction), sl_is_fraction⟩)
    (c_is_fraction : PySem.W.codeIn K cd_is_fraction "is_fraction" = true)
    (k_is_fraction : PySem.W.keepIn K (.ref f_is_fraction) = true)
    (a_minus : PySem.W.nsIn K mainGlobals "minus" = some (some (.ref f_minus)))
    (l_minus : K.lookup f_minus = some ⟨oc_minus, od_minus, .func (PySem.W.fnOf "minus" "minus" (defArgs s_minus) (defBody s_minus) (defScope s_minus) .none kV_minus dc_minus pm_minus an_minus cd_minus ct_minus), sl_minus⟩)
    (c_minus : PySem.W.codeIn K cd_minus "minus" = true)
    (k_minus : PySem.W.keepIn K (.ref f_minus) = true)
    (a_less : PySem.W.nsIn K mainGlobals "less" = some (some (.ref f_less)))
    (l_less : K.lookup f_less = some ⟨oc_less, od_less, .func (PySem.W.fnOf "less" "less" (defArgs s_less) (defBody s_less) (defScope s_less) .none kV_less dc_less pm_less an_less cd_less ct_less), sl_less⟩)
    (c_less : PySem.W.codeIn K cd_less "less" = true)
    (k_less : PySem.W.keepIn K (.ref f_less) = true)
    (a_check_slope : PySem.W.nsIn K mainGlobals "check_slope" = some (some (.ref f_check_slope)))
    (l_check_slope : K.lookup f_check_slope = some ⟨oc_check_slope, od_check_slope, .func (PySem.W.fnOf "check_slope" "check_slope" (defArgs s_check_slope) (defBody s_check_slope) (defScope s_check_slope) .none kV_check_slope dc_check_slope pm_check_slope an_check_slope cd_check_slope ct_check_slope), sl_check_slope⟩)
    (c_check_slope : PySem.W.codeIn K cd_check_slope "check_slope" = true)
    (k_check_slope : PySem.W.keepIn K (.ref f_check_slope) = true)
    (a_whole_part : PySem.W.nsIn K mainGlobals "whole_part" = some (some (.ref f_whole_part)))
    (l_whole_part : K.lookup f_whole_part = some ⟨oc_whole_part, od_whole_part, .func (PySem.W.fnOf "whole_part" "whole_part" (defArgs s_whole_part) (defBody s_whole_part) (defScope s_whole_part) .none kV_whole_part dc_whole_part pm_whole_part an_whole_part cd_whole_part ct_whole_part), sl_whole_part⟩)
    (c_whole_part : PySem.W.codeIn K cd_whole_part "whole_part" = true)
    (k_whole_part : PySem.W.keepIn K (.ref f_whole_part) = true)
    (a_beat_row : PySem.W.nsIn K mainGlobals "beat_row" = some (some (.ref f_beat_row)))
    (l_beat_row : K.lookup f_beat_row = some ⟨oc_beat_row, od_beat_row, .func (PySem.W.fnOf "beat_row" "beat_row" (defArgs s_beat_row) (defBody s_beat_row) (defScope s_beat_row) .none kV_beat_row dc_beat_row pm_beat_row an_beat_row cd_beat_row ct_beat_row), sl_beat_row⟩)
    (c_beat_row : PySem.W.codeIn K cd_beat_row "beat_row" = true)
    (k_beat_row : PySem.W.keepIn K (.ref f_beat_row) = true)
    (a_beat_sum : PySem.W.nsIn K mainGlobals "beat_sum" = some (some (.ref f_beat_sum)))
    (l_beat_sum : K.lookup f_beat_sum = some ⟨oc_beat_sum, od_beat_sum, .func (PySem.W.fnOf "beat_sum" "beat_sum" (defArgs s_beat_sum) (defBody s_beat_sum) (defScope s_beat_sum) .none kV_beat_sum dc_beat_sum pm_beat_sum an_beat_sum cd_beat_sum ct_beat_sum), sl_beat_sum⟩)
    (c_beat_sum : PySem.W.codeIn K cd_beat_sum "beat_sum" = true)
    (k_beat_sum : PySem.W.keepIn K (.ref f_beat_sum) = true)
    (a_floor_sum : PySem.W.nsIn K mainGlobals "floor_sum" = some (some (.ref f_floor_sum)))
    (l_floor_sum : K.lookup f_floor_sum = some ⟨oc_floor_sum, od_floor_sum, .func (PySem.W.fnOf "floor_sum" "floor_sum" (defArgs s_floor_sum) (defBody s_floor_sum) (defScope s_floor_sum) .none kV_floor_sum dc_floor_sum pm_floor_sum an_floor_sum cd_floor_sum ct_floor_sum), sl_floor_sum⟩)
    (c_floor_sum : PySem.W.codeIn K cd_floor_sum "floor_sum" = true)
    (k_floor_sum : PySem.W.keepIn K (.ref f_floor_sum) = true)
    (a_part_between : PySem.W.nsIn K mainGlobals "part_between" = some (some (.ref f_part_between)))
    (l_part_between : K.lookup f_part_between = some ⟨oc_part_between, od_part_between, .func (PySem.W.fnOf "part_between" "part_between" (defArgs s_part_between) (defBody s_part_between) (defScope s_part_between) .none kV_part_between dc_part_between pm_part_between an_part_between cd_part_between ct_part_between), sl_part_between⟩)
    (c_part_between : PySem.W.codeIn K cd_part_between "part_between" = true)
    (k_part_between : PySem.W.keepIn K (.ref f_part_between) = true)
    (a_part_of : PySem.W.nsIn K mainGlobals "part_of" = some (some (.ref f_part_of)))
    (l_part_of : K.lookup f_part_of = some ⟨oc_part_of, od_part_of, .func (PySem.W.fnOf "part_of" "part_of" (defArgs s_part_of) (defBody s_part_of) (defScope s_part_of) .none kV_part_of dc_part_of pm_part_of an_part_of cd_part_of ct_part_of), sl_part_of⟩)
    (c_part_of : PySem.W.codeIn K cd_part_of "part_of" = true)
    (k_part_of : PySem.W.keepIn K (.ref f_part_of) = true)
    (a__law_hand : PySem.W.nsIn K mainGlobals "_law_hand" = some (some (.ref f__law_hand)))
    (l__law_hand : K.lookup f__law_hand = some ⟨oc__law_hand, od__law_hand, .func (PySem.W.fnOf "_law_hand" "_law_hand" (defArgs s__law_hand) (defBody s__law_hand) (defScope s__law_hand) .none kV__law_hand dc__law_hand pm__law_hand an__law_hand cd__law_hand ct__law_hand), sl__law_hand⟩)
    (c__law_hand : PySem.W.codeIn K cd__law_hand "_law_hand" = true)
    (k__law_hand : PySem.W.keepIn K (.ref f__law_hand) = true)
    (a__law_draw : PySem.W.nsIn K mainGlobals "_law_draw" = some (some (.ref f__law_draw)))
    (l__law_draw : K.lookup f__law_draw = some ⟨oc__law_draw, od__law_draw, .func (PySem.W.fnOf "_law_draw" "_law_draw" (defArgs s__law_draw) (defBody s__law_draw) (defScope s__law_draw) .none kV__law_draw dc__law_draw pm__law_draw an__law_draw cd__law_draw ct__law_draw), sl__law_draw⟩)
    (c__law_draw : PySem.W.codeIn K cd__law_draw "_law_draw" = true)
    (k__law_draw : PySem.W.keepIn K (.ref f__law_draw) = true)
    (a__law_some : PySem.W.nsIn K mainGlobals "_law_some" = some (some (.ref f__law_some)))
    (l__law_some : K.lookup f__law_some = some ⟨oc__law_some, od__law_some, .func (PySem.W.fnOf "_law_some" "_law_some" (defArgs s__law_some) (defBody s__law_some) (defScope s__law_some) .none kV__law_some dc__law_some pm__law_some an__law_some cd__law_some ct__law_some), sl__law_some⟩)
    (c__law_some : PySem.W.codeIn K cd__law_some "_law_some" = true)
    (k__law_some : PySem.W.keepIn K (.ref f__law_some) = true)
    (a__law_common : PySem.W.nsIn K mainGlobals "_law_common" = some (some (.ref f__law_common)))
    (l__law_common : K.lookup f__law_common = some ⟨oc__law_common, od__law_common, .func (PySem.W.fnOf "_law_common" "_law_common" (defArgs s__law_common) (defBody s__law_common) (defScope s__law_common) .none kV__law_common dc__law_common pm__law_common an__law_common cd__law_common ct__law_common), sl__law_common⟩)
    (c__law_common : PySem.W.codeIn K cd__law_common "_law_common" = true)
    (k__law_common : PySem.W.keepIn K (.ref f__law_common) = true)
    (a__law_fraction : PySem.W.nsIn K mainGlobals "_law_fraction" = some (some (.ref f__law_fraction)))
    (l__law_fraction : K.lookup f__law_fraction = some ⟨oc__law_fraction, od__law_fraction, .func (PySem.W.fnOf "_law_fraction" "_law_fraction" (defArgs s__law_fraction) (defBody s__law_fraction) (defScope s__law_fraction) .none kV__law_fraction dc__law_fraction pm__law_fraction an__law_fraction cd__law_fraction ct__law_fraction), sl__law_fraction⟩)
    (c__law_fraction : PySem.W.codeIn K cd__law_fraction "_law_fraction" = true)
    (k__law_fraction : PySem.W.keepIn K (.ref f__law_fraction) = true)
    (a__law_word : PySem.W.nsIn K mainGlobals "_law_word" = some (some (.ref f__law_word)))
    (l__law_word : K.lookup f__law_word = some ⟨oc__law_word, od__law_word, .func (PySem.W.fnOf "_law_word" "_law_word" (defArgs s__law_word) (defBody s__law_word) (defScope s__law_word) .none kV__law_word dc__law_word pm__law_word an__law_word cd__law_word ct__law_word), sl__law_word⟩)
    (c__law_word : PySem.W.codeIn K cd__law_word "_law_word" = true)
    (k__law_word : PySem.W.keepIn K (.ref f__law_word) = true)
    (a__law_slope : PySem.W.nsIn K mainGlobals "_law_slope" = some (some (.ref f__law_slope)))
    (l__law_slope : K.lookup f__law_slope = some ⟨oc__law_slope, od__law_slope, .func (PySem.W.fnOf "_law_slope" "_law_slope" (defArgs s__law_slope) (defBody s__law_slope) (defScope s__law_slope) .none kV__law_slope dc__law_slope pm__law_slope an__law_slope cd__law_slope ct__law_slope), sl__law_slope⟩)
    (c__law_slope : PySem.W.codeIn K cd__law_slope "_law_slope" = true)
    (k__law_slope : PySem.W.keepIn K (.ref f__law_slope) = true)
    (a__law_whole : PySem.W.nsIn K mainGlobals "_law_whole" = some (some (.ref f__law_whole)))
    (l__law_whole : K.lookup f__law_whole = some ⟨oc__law_whole, od__law_whole, .func (PySem.W.fnOf "_law_whole" "_law_whole" (defArgs s__law_whole) (defBody s__law_whole) (defScope s__law_whole) .none kV__law_whole dc__law_whole pm__law_whole an__law_whole cd__law_whole ct__law_whole), sl__law_whole⟩)
    (c__law_whole : PySem.W.codeIn K cd__law_whole "_law_whole" = true)
    (k__law_whole : PySem.W.keepIn K (.ref f__law_whole) = true)
    (a__law_floors : PySem.W.nsIn K mainGlobals "_law_floors" = some (some (.ref f__law_floors)))
    (l__law_floors : K.lookup f__law_floors = some ⟨oc__law_floors, od__law_floors, .func (PySem.W.fnOf "_law_floors" "_law_floors" (defArgs s__law_floors) (defBody s__law_floors) (defScope s__law_floors) .none kV__law_floors dc__law_floors pm__law_floors an__law_floors cd__law_floors ct__law_floors), sl__law_floors⟩)
    (c__law_floors : PySem.W.codeIn K cd__law_floors "_law_floors" = true)
    (k__law_floors : PySem.W.keepIn K (.ref f__law_floors) = true)
    (a__law_is_right : PySem.W.nsIn K mainGlobals "_law_is_right" = some (some (.ref f__law_is_right)))
    (l__law_is_right : K.lookup f__law_is_right = some ⟨oc__law_is_right, od__law_is_right, .func (PySem.W.fnOf "_law_is_right" "_law_is_right" (defArgs s__law_is_right) (defBody s__law_is_right) (defScope s__law_is_right) .none kV__law_is_right dc__law_is_right pm__law_is_right an__law_is_right cd__law_is_right ct__law_is_right), sl__law_is_right⟩)
    (c__law_is_right : PySem.W.codeIn K cd__law_is_right "_law_is_right" = true)
    (k__law_is_right : PySem.W.keepIn K (.ref f__law_is_right) = true)
    (a_law : PySem.W.nsIn K mainGlobals "law" = some (some (.ref f_law)))
    (l_law : K.lookup f_law = some ⟨oc_law, od_law, .func (PySem.W.fnOf "law" "law" (defArgs s_law) (defBody s_law) (defScope s_law) .none kV_law dc_law pm_law an_law (.ref c_law) ct_law), sl_law⟩)
    (cc_law : PySem.W.codeIn K (.ref c_law) "law" = true)
    (k_law : PySem.W.keepIn K (.ref f_law) = true)
    (tm_law : P_law ∈ ts)
    (th_law : PySem.W.codeHdIn K c_law P_law = true)
    (tn_law : K.lookup P_law = none)
    (g_MOST_PLACE : PySem.W.nsIn K mainGlobals "MOST_PLACE" = some (some (.int 1000000000000000000 tk_MOST_PLACE)))
    (g_MOST_SLOPE : PySem.W.nsIn K mainGlobals "MOST_SLOPE" = some (some (.int 1000000000 tk_MOST_SLOPE)))
    (z_ValueError : PySem.W.nsIn K mainGlobals "ValueError" = some none)
    (z_abs : PySem.W.nsIn K mainGlobals "abs" = some none)
    (z_bool : PySem.W.nsIn K mainGlobals "bool" = some none)
    (z_int : PySem.W.nsIn K mainGlobals "int" = some none)
    (z_isinstance : PySem.W.nsIn K mainGlobals "isinstance" = some none)
    (z_len : PySem.W.nsIn K mainGlobals "len" = some none)
    (z_list : PySem.W.nsIn K mainGlobals "list" = some none)
    (z_range : PySem.W.nsIn K mainGlobals "range" = some none)
    (z_repr : PySem.W.nsIn K mainGlobals "repr" = some none)
    (z_sum : PySem.W.nsIn K mainGlobals "sum" = some none)
    (z_tuple : PySem.W.nsIn K mainGlobals "tuple" = some none)
    (aC_BadNumber : PySem.W.nsIn K mainGlobals "BadNumber" = some (some (.ref C_BadNumber)))
    (aC_BadSlope : PySem.W.nsIn K mainGlobals "BadSlope" = some (some (.ref C_BadSlope)))
    (aC_TermError : PySem.W.nsIn K mainGlobals "TermError" = some (some (.ref C_TermError)))
    (aC_TooMany : PySem.W.nsIn K mainGlobals "TooMany" = some (some (.ref C_TooMany)))
    (ei_BadNumber : PySem.W.excIn K C_BadNumber [.type "ValueError", .type "Exception", .type "BaseException", .type "object"] "ValueError.__new__" = true)
    (kp_BadNumber : PySem.W.keepIn K (.ref C_BadNumber) = true)
    (sb_BadNumber : PySem.W.subIn K (.ref C_BadNumber) (.type "BaseException") = some true)
    (ty_BadNumber : PySem.W.typeIn K (.ref C_BadNumber) = some (.type "type"))
    (e1_BadNumber : PySem.W.findIn K (.ref C_BadNumber) "__getattribute__" = some (some (.builtin "BaseException.__getattribute__")))
    (e2_BadNumber : PySem.W.findIn K (.ref C_BadNumber) "__getattr__" = some none)
    (e4_BadNumber : PySem.W.hasDictIn K C_BadNumber = true)
    (e5_BadNumber : PySem.W.findIn K (.ref C_BadNumber) "__class__" = some (some (.builtin "object.__class__")))
    (e8_BadNumber : PySem.W.mroIn K C_BadNumber (.type "object") = some true)
    (ei_BadSlope : PySem.W.excIn K C_BadSlope [.type "ValueError", .type "Exception", .type "BaseException", .type "object"] "ValueError.__new__" = true)
    (kp_BadSlope : PySem.W.keepIn K (.ref C_BadSlope) = true)
    (sb_BadSlope : PySem.W.subIn K (.ref C_BadSlope) (.type "BaseException") = some true)
    (ty_BadSlope : PySem.W.typeIn K (.ref C_BadSlope) = some (.type "type"))
    (e1_BadSlope : PySem.W.findIn K (.ref C_BadSlope) "__getattribute__" = some (some (.builtin "BaseException.__getattribute__")))
    (e2_BadSlope : PySem.W.findIn K (.ref C_BadSlope) "__getattr__" = some none)
    (e4_BadSlope : PySem.W.hasDictIn K C_BadSlope = true)
    (e5_BadSlope : PySem.W.findIn K (.ref C_BadSlope) "__class__" = some (some (.builtin "object.__class__")))
    (e8_BadSlope : PySem.W.mroIn K C_BadSlope (.type "object") = some true)
    (e6 : PySem.W.specialIn K (.builtin "object.__class__") "__get__" = some (some (.builtin "getset_descriptor.__get__")))
    (e7 : PySem.W.takesIn K (.builtin "object.__class__") = some true)
    (x_BadNumber_TermError : PySem.W.exmOne K (.ref C_BadNumber) (.ref C_TermError) = some true)
    (x_BadSlope_TermError : PySem.W.exmOne K (.ref C_BadSlope) (.ref C_TermError) = some true)
    (x_BadNumber_TooMany : PySem.W.exmOne K (.ref C_BadNumber) (.ref C_TooMany) = some false)
    (x_BadSlope_TooMany : PySem.W.exmOne K (.ref C_BadSlope) (.ref C_TooMany) = some false)
    (y_BadNumber_BadNumber : PySem.W.kitOne K (.ref C_BadNumber) (.ref C_BadNumber) = some true)
    (y_BadSlope_BadNumber : PySem.W.kitOne K (.ref C_BadSlope) (.ref C_BadNumber) = some false)
    (y_BadNumber_BadSlope : PySem.W.kitOne K (.ref C_BadNumber) (.ref C_BadSlope) = some false)
    (y_BadSlope_BadSlope : PySem.W.kitOne K (.ref C_BadSlope) (.ref C_BadSlope) = some true)
    (y_BadNumber_ValueError : PySem.W.kitOne K (.ref C_BadNumber) (.type "ValueError") = some true)
    (y_BadSlope_ValueError : PySem.W.kitOne K (.ref C_BadSlope) (.type "ValueError") = some true)
    (nl : noLst K = true)
    : ∃ (cs : List (Addr × Addr × Str)) (fd : FuncData) (ec : Str → Option Addr), EndK K h cs ∧ (∀ (s : Shared) (u : Value), BindsTo s fd ⟨[u], []⟩ [("script", u)]) ∧
      ∀ base : Heap, K.In base → base.Ns mainGlobals mg → (∀ p ∈ cs, LamX.TabB base mg p.1 p.2.1) → FnP ⟨K, cs.map (·.2), ec, [], []⟩ P w mg base 9 fa fd ["script"] sp_law := by
  have ef : f_law = fa := by have e := (PySem.W.mg_of X Gn a_law).symm.trans hfa; cases e; rfl
  subst ef
  have T : ∃ T : Tx K (fun n => ([("BadNumber", C_BadNumber), ("BadSlope", C_BadSlope)] : List (Str × Addr)).lookup n) mg, T.a_law = f_law ∧ T.d_law.code = (.ref c_law) ∧ T.d_law = PySem.W.fnOf "law" "law" (defArgs s_law) (defBody s_law) (defScope s_law) .none kV_law dc_law pm_law an_law (.ref c_law) ct_law ∧ T.c_law = c_law ∧ T.P_law = P_law := ⟨{
    a_is_integer := f_is_integer
    d_is_integer := PySem.W.fnOf "is_integer" "is_integer" (defArgs s_is_integer) (defBody s_is_integer) (defScope s_is_integer) .none kV_is_integer dc_is_integer pm_is_integer an_is_integer cd_is_integer ct_is_integer
    F_is_integer := fun_mk (st := s_is_integer) l_is_integer c_is_integer k_is_integer
    m_is_integer := PySem.W.mg_of X Gn a_is_integer
    b_is_integer := (fun_mk (st := s_is_integer) l_is_integer c_is_integer k_is_integer).binds (ps := p_is_integer) fun _ _ _ _ _ _ us hl => match us, hl with | [_], _ => rfl
    a_is_within := f_is_within
    d_is_within := PySem.W.fnOf "is_within" "is_within" (defArgs s_is_within) (defBody s_is_within) (defScope s_is_within) .none kV_is_within dc_is_within pm_is_within an_is_within cd_is_within ct_is_within
    F_is_within := fun_mk (st := s_is_within) l_is_within c_is_within k_is_within
    m_is_within := PySem.W.mg_of X Gn a_is_within
    b_is_within := (fun_mk (st := s_is_within) l_is_within c_is_within k_is_within).binds (ps := p_is_within) fun _ _ _ _ _ _ us hl => match us, hl with | [_, _, _], _ => rfl
    a_is_tuple_of := f_is_tuple_of
    d_is_tuple_of := PySem.W.fnOf "is_tuple_of" "is_tuple_of" (defArgs s_is_tuple_of) (defBody s_is_tuple_of) (defScope s_is_tuple_of) .none kV_is_tuple_of dc_is_tuple_of pm_is_tuple_of an_is_tuple_of cd_is_tuple_of ct_is_tuple_of
    F_is_tuple_of := fun_mk (st := s_is_tuple_of) l_is_tuple_of c_is_tuple_of k_is_tuple_of
    m_is_tuple_of := PySem.W.mg_of X Gn a_is_tuple_of
    b_is_tuple_of := (fun_mk (st := s_is_tuple_of) l_is_tuple_of c_is_tuple_of k_is_tuple_of).binds (ps := p_is_tuple_of) fun _ _ _ _ _ _ us hl => match us, hl with | [_, _], _ => rfl
    a_common := f_common
    d_common := PySem.W.fnOf "common" "common" (defArgs s_common) (defBody s_common) (defScope s_common) .none kV_common dc_common pm_common an_common cd_common ct_common
    F_common := fun_mk (st := s_common) l_common c_common k_common
    m_common := PySem.W.mg_of X Gn a_common
    b_common := (fun_mk (st := s_common) l_common c_common k_common).binds (ps := p_common) fun _ _ _ _ _ _ us hl => match us, hl with | [_, _], _ => rfl
    a_frac := f_frac
    d_frac := PySem.W.fnOf "frac" "frac" (defArgs s_frac) (defBody s_frac) (defScope s_frac) .none kV_frac dc_frac pm_frac an_frac cd_frac ct_frac
    F_frac := fun_mk (st := s_frac) l_frac c_frac k_frac
    m_frac := PySem.W.mg_of X Gn a_frac
    b_frac := (fun_mk (st := s_frac) l_frac c_frac k_frac).binds (ps := p_frac) fun _ _ _ _ _ _ us hl => match us, hl with | [_, _], _ => rfl
    a_is_fraction := f_is_fraction
    d_is_fraction := PySem.W.fnOf "is_fraction" "is_fraction" (defArgs s_is_fraction) (defBody s_is_fraction) (defScope s_is_fraction) .none kV_is_fraction dc_is_fraction pm_is_fraction an_is_fraction cd_is_fraction ct_is_fraction
    F_is_fraction := fun_mk (st := s_is_fraction) l_is_fraction c_is_fraction k_is_fraction
    m_is_fraction := PySem.W.mg_of X Gn a_is_fraction
    b_is_fraction := (fun_mk (st := s_is_fraction) l_is_fraction c_is_fraction k_is_fraction).binds (ps := p_is_fraction) fun _ _ _ _ _ _ us hl => match us, hl with | [_], _ => rfl
    a_minus := f_minus
    d_minus := PySem.W.fnOf "minus" "minus" (defArgs s_minus) (defBody s_minus) (defScope s_minus) .none kV_minus dc_minus pm_minus an_minus cd_minus ct_minus
    F_minus := fun_mk (st := s_minus) l_minus c_minus k_minus
    m_minus := PySem.W.mg_of X Gn a_minus
    b_minus := (fun_mk (st := s_minus) l_minus c_minus k_minus).binds (ps := p_minus) fun _ _ _ _ _ _ us hl => match us, hl with | [_, _], _ => rfl
    a_less := f_less
    d_less := PySem.W.fnOf "less" "less" (defArgs s_less) (defBody s_less) (defScope s_less) .none kV_less dc_less pm_less an_less cd_less ct_less
    F_less := fun_mk (st := s_less) l_less c_less k_less
    m_less := PySem.W.mg_of X Gn a_less
    b_less := (fun_mk (st := s_less) l_less c_less k_less).binds (ps := p_less) fun _ _ _ _ _ _ us hl => match us, hl with | [_, _], _ => rfl
    a_check_slope := f_check_slope
    d_check_slope := PySem.W.fnOf "check_slope" "check_slope" (defArgs s_check_slope) (defBody s_check_slope) (defScope s_check_slope) .none kV_check_slope dc_check_slope pm_check_slope an_check_slope cd_check_slope ct_check_slope
    F_check_slope := fun_mk (st := s_check_slope) l_check_slope c_check_slope k_check_slope
    m_check_slope := PySem.W.mg_of X Gn a_check_slope
    b_check_slope := (fun_mk (st := s_check_slope) l_check_slope c_check_slope k_check_slope).binds (ps := p_check_slope) fun _ _ _ _ _ _ us hl => match us, hl with | [_], _ => rfl
    a_whole_part := f_whole_part
    d_whole_part := PySem.W.fnOf "whole_part" "whole_part" (defArgs s_whole_part) (defBody s_whole_part) (defScope s_whole_part) .none kV_whole_part dc_whole_part pm_whole_part an_whole_part cd_whole_part ct_whole_part
    F_whole_part := fun_mk (st := s_whole_part) l_whole_part c_whole_part k_whole_part
    m_whole_part := PySem.W.mg_of X Gn a_whole_part
    b_whole_part := (fun_mk (st := s_whole_part) l_whole_part c_whole_part k_whole_part).binds (ps := p_whole_part) fun _ _ _ _ _ _ us hl => match us, hl with | [_, _, _], _ => rfl
    a_beat_row := f_beat_row
    d_beat_row := PySem.W.fnOf "beat_row" "beat_row" (defArgs s_beat_row) (defBody s_beat_row) (defScope s_beat_row) .none kV_beat_row dc_beat_row pm_beat_row an_beat_row cd_beat_row ct_beat_row
    F_beat_row := fun_mk (st := s_beat_row) l_beat_row c_beat_row k_beat_row
    m_beat_row := PySem.W.mg_of X Gn a_beat_row
    b_beat_row := (fun_mk (st := s_beat_row) l_beat_row c_beat_row k_beat_row).binds (ps := p_beat_row) fun _ _ _ _ _ _ us hl => match us, hl with | [_, _, _], _ => rfl
    a_beat_sum := f_beat_sum
    d_beat_sum := PySem.W.fnOf "beat_sum" "beat_sum" (defArgs s_beat_sum) (defBody s_beat_sum) (defScope s_beat_sum) .none kV_beat_sum dc_beat_sum pm_beat_sum an_beat_sum cd_beat_sum ct_beat_sum
    F_beat_sum := fun_mk (st := s_beat_sum) l_beat_sum c_beat_sum k_beat_sum
    m_beat_sum := PySem.W.mg_of X Gn a_beat_sum
    b_beat_sum := (fun_mk (st := s_beat_sum) l_beat_sum c_beat_sum k_beat_sum).binds (ps := p_beat_sum) fun _ _ _ _ _ _ us hl => match us, hl with | [_, _, _], _ => rfl
    a_floor_sum := f_floor_sum
    d_floor_sum := PySem.W.fnOf "floor_sum" "floor_sum" (defArgs s_floor_sum) (defBody s_floor_sum) (defScope s_floor_sum) .none kV_floor_sum dc_floor_sum pm_floor_sum an_floor_sum cd_floor_sum ct_floor_sum
    F_floor_sum := fun_mk (st := s_floor_sum) l_floor_sum c_floor_sum k_floor_sum
    m_floor_sum := PySem.W.mg_of X Gn a_floor_sum
    b_floor_sum := (fun_mk (st := s_floor_sum) l_floor_sum c_floor_sum k_floor_sum).binds (ps := p_floor_sum) fun _ _ _ _ _ _ us hl => match us, hl with | [_, _, _, _], _ => rfl
    a_part_between := f_part_between
    d_part_between := PySem.W.fnOf "part_between" "part_between" (defArgs s_part_between) (defBody s_part_between) (defScope s_part_between) .none kV_part_between dc_part_between pm_part_between an_part_between cd_part_between ct_part_between
    F_part_between := fun_mk (st := s_part_between) l_part_between c_part_between k_part_between
    m_part_between := PySem.W.mg_of X Gn a_part_between
    b_part_between := (fun_mk (st := s_part_between) l_part_between c_part_between k_part_between).binds (ps := p_part_between) fun _ _ _ _ _ _ us hl => match us, hl with | [_, _, _], _ => rfl
    a_part_of := f_part_of
    d_part_of := PySem.W.fnOf "part_of" "part_of" (defArgs s_part_of) (defBody s_part_of) (defScope s_part_of) .none kV_part_of dc_part_of pm_part_of an_part_of cd_part_of ct_part_of
    F_part_of := fun_mk (st := s_part_of) l_part_of c_part_of k_part_of
    m_part_of := PySem.W.mg_of X Gn a_part_of
    b_part_of := (fun_mk (st := s_part_of) l_part_of c_part_of k_part_of).binds (ps := p_part_of) fun _ _ _ _ _ _ us hl => match us, hl with | [_, _], _ => rfl
    a__law_hand := f__law_hand
    d__law_hand := PySem.W.fnOf "_law_hand" "_law_hand" (defArgs s__law_hand) (defBody s__law_hand) (defScope s__law_hand) .none kV__law_hand dc__law_hand pm__law_hand an__law_hand cd__law_hand ct__law_hand
    F__law_hand := fun_mk (st := s__law_hand) l__law_hand c__law_hand k__law_hand
    m__law_hand := PySem.W.mg_of X Gn a__law_hand
    b__law_hand := (fun_mk (st := s__law_hand) l__law_hand c__law_hand k__law_hand).binds (ps := p__law_hand) fun _ _ _ _ _ _ us hl => match us, hl with | [_], _ => rfl
    a__law_draw := f__law_draw
    d__law_draw := PySem.W.fnOf "_law_draw" "_law_draw" (defArgs s__law_draw) (defBody s__law_draw) (defScope s__law_draw) .none kV__law_draw dc__law_draw pm__law_draw an__law_draw cd__law_draw ct__law_draw
    F__law_draw := fun_mk (st := s__law_draw) l__law_draw c__law_draw k__law_draw
    m__law_draw := PySem.W.mg_of X Gn a__law_draw
    b__law_draw := (fun_mk (st := s__law_draw) l__law_draw c__law_draw k__law_draw).binds (ps := p__law_draw) fun _ _ _ _ _ _ us hl => match us, hl with | [_, _], _ => rfl
    a__law_some := f__law_some
    d__law_some := PySem.W.fnOf "_law_some" "_law_some" (defArgs s__law_some) (defBody s__law_some) (defScope s__law_some) .none kV__law_some dc__law_some pm__law_some an__law_some cd__law_some ct__law_some
    F__law_some := fun_mk (st := s__law_some) l__law_some c__law_some k__law_some
    m__law_some := PySem.W.mg_of X Gn a__law_some
    b__law_some := (fun_mk (st := s__law_some) l__law_some c__law_some k__law_some).binds (ps := p__law_some) fun _ _ _ _ _ _ us hl => match us, hl with | [_, _], _ => rfl
    a__law_common := f__law_common
    d__law_common := PySem.W.fnOf "_law_common" "_law_common" (defArgs s__law_common) (defBody s__law_common) (defScope s__law_common) .none kV__law_common dc__law_common pm__law_common an__law_common cd__law_common ct__law_common
    F__law_common := fun_mk (st := s__law_common) l__law_common c__law_common k__law_common
    m__law_common := PySem.W.mg_of X Gn a__law_common
    b__law_common := (fun_mk (st := s__law_common) l__law_common c__law_common k__law_common).binds (ps := p__law_common) fun _ _ _ _ _ _ us hl => match us, hl with | [_, _], _ => rfl
    a__law_fraction := f__law_fraction
    d__law_fraction := PySem.W.fnOf "_law_fraction" "_law_fraction" (defArgs s__law_fraction) (defBody s__law_fraction) (defScope s__law_fraction) .none kV__law_fraction dc__law_fraction pm__law_fraction an__law_fraction cd__law_fraction ct__law_fraction
    F__law_fraction := fun_mk (st := s__law_fraction) l__law_fraction c__law_fraction k__law_fraction
    m__law_fraction := PySem.W.mg_of X Gn a__law_fraction
    b__law_fraction := (fun_mk (st := s__law_fraction) l__law_fraction c__law_fraction k__law_fraction).binds (ps := p__law_fraction) fun _ _ _ _ _ _ us hl => match us, hl with | [_, _], _ => rfl
    a__law_word := f__law_word
    d__law_word := PySem.W.fnOf "_law_word" "_law_word" (defArgs s__law_word) (defBody s__law_word) (defScope s__law_word) .none kV__law_word dc__law_word pm__law_word an__law_word cd__law_word ct__law_word
    F__law_word := fun_mk (st := s__law_word) l__law_word c__law_word k__law_word
    m__law_word := PySem.W.mg_of X Gn a__law_word
    b__law_word := (fun_mk (st := s__law_word) l__law_word c__law_word k__law_word).binds (ps := p__law_word) fun _ _ _ _ _ _ us hl => match us, hl with | [_], _ => rfl
    a__law_slope := f__law_slope
    d__law_slope := PySem.W.fnOf "_law_slope" "_law_slope" (defArgs s__law_slope) (defBody s__law_slope) (defScope s__law_slope) .none kV__law_slope dc__law_slope pm__law_slope an__law_slope cd__law_slope ct__law_slope
    F__law_slope := fun_mk (st := s__law_slope) l__law_slope c__law_slope k__law_slope
    m__law_slope := PySem.W.mg_of X Gn a__law_slope
    b__law_slope := (fun_mk (st := s__law_slope) l__law_slope c__law_slope k__law_slope).binds (ps := p__law_slope) fun _ _ _ _ _ _ us hl => match us, hl with | [_], _ => rfl
    a__law_whole := f__law_whole
    d__law_whole := PySem.W.fnOf "_law_whole" "_law_whole" (defArgs s__law_whole) (defBody s__law_whole) (defScope s__law_whole) .none kV__law_whole dc__law_whole pm__law_whole an__law_whole cd__law_whole ct__law_whole
    F__law_whole := fun_mk (st := s__law_whole) l__law_whole c__law_whole k__law_whole
    m__law_whole := PySem.W.mg_of X Gn a__law_whole
    b__law_whole := (fun_mk (st := s__law_whole) l__law_whole c__law_whole k__law_whole).binds (ps := p__law_whole) fun _ _ _ _ _ _ us hl => match us, hl with | [_, _, _], _ => rfl
    a__law_floors := f__law_floors
    d__law_floors := PySem.W.fnOf "_law_floors" "_law_floors" (defArgs s__law_floors) (defBody s__law_floors) (defScope s__law_floors) .none kV__law_floors dc__law_floors pm__law_floors an__law_floors cd__law_floors ct__law_floors
    F__law_floors := fun_mk (st := s__law_floors) l__law_floors c__law_floors k__law_floors
    m__law_floors := PySem.W.mg_of X Gn a__law_floors
    b__law_floors := (fun_mk (st := s__law_floors) l__law_floors c__law_floors k__law_floors).binds (ps := p__law_floors) fun _ _ _ _ _ _ us hl => match us, hl with | [_, _, _, _], _ => rfl
    a__law_is_right := f__law_is_right
    d__law_is_right := PySem.W.fnOf "_law_is_right" "_law_is_right" (defArgs s__law_is_right) (defBody s__law_is_right) (defScope s__law_is_right) .none kV__law_is_right dc__law_is_right pm__law_is_right an__law_is_right cd__law_is_right ct__law_is_right
    F__law_is_right := fun_mk (st := s__law_is_right) l__law_is_right c__law_is_right k__law_is_right
    m__law_is_right := PySem.W.mg_of X Gn a__law_is_right
    b__law_is_right := (fun_mk (st := s__law_is_right) l__law_is_right c__law_is_right k__law_is_right).binds (ps := p__law_is_right) fun _ _ _ _ _ _ us hl => match us, hl with | [_], _ => rfl
    a_law := f_law
    d_law := PySem.W.fnOf "law" "law" (defArgs s_law) (defBody s_law) (defScope s_law) .none kV_law dc_law pm_law an_law (.ref c_law) ct_law
    F_law := fun_mk (st := s_law) l_law cc_law k_law
    m_law := PySem.W.mg_of X Gn a_law
    b_law := (fun_mk (st := s_law) l_law cc_law k_law).binds (ps := p_law) fun _ _ _ _ _ _ us hl => match us, hl with | [_], _ => rfl
    c_law := c_law
    P_law := P_law
    cd_law := rfl
    g_MOST_PLACE := ⟨_, PySem.W.mg_of X Gn g_MOST_PLACE⟩
    g_MOST_SLOPE := ⟨_, PySem.W.mg_of X Gn g_MOST_SLOPE⟩
    n_ValueError := PySem.W.mg_none_of X Gn z_ValueError
    n_abs := PySem.W.mg_none_of X Gn z_abs
    n_bool := PySem.W.mg_none_of X Gn z_bool
    n_int := PySem.W.mg_none_of X Gn z_int
    n_isinstance := PySem.W.mg_none_of X Gn z_isinstance
    n_len := PySem.W.mg_none_of X Gn z_len
    n_list := PySem.W.mg_none_of X Gn z_list
    n_range := PySem.W.mg_none_of X Gn z_range
    n_repr := PySem.W.mg_none_of X Gn z_repr
    n_sum := PySem.W.mg_none_of X Gn z_sum
    n_tuple := PySem.W.mg_none_of X Gn z_tuple
    C_BadNumber := C_BadNumber
    m_BadNumber := PySem.W.mg_of X Gn aC_BadNumber
    C_BadSlope := C_BadSlope
    m_BadSlope := PySem.W.mg_of X Gn aC_BadSlope
    C_TermError := C_TermError
    m_TermError := PySem.W.mg_of X Gn aC_TermError
    C_TooMany := C_TooMany
    m_TooMany := PySem.W.mg_of X Gn aC_TooMany
    x_BadNumber := ⟨by first | rfl | decide | simp, ei_BadNumber, PySem.W.mg_of X Gn aC_BadNumber, kp_BadNumber, sb_BadNumber, ty_BadNumber⟩
    x_BadSlope := ⟨by first | rfl | decide | simp, ei_BadSlope, PySem.W.mg_of X Gn aC_BadSlope, kp_BadSlope, sb_BadSlope, ty_BadSlope⟩
    hs_TermError := ec_all (List.forall_mem_cons.mpr ⟨x_BadNumber_TermError.trans (congrArg some (by decide +kernel : true = sub "BadNumber" "TermError")), List.forall_mem_cons.mpr ⟨x_BadSlope_TermError.trans (congrArg some (by decide +kernel : true = sub "BadSlope" "TermError")), List.forall_mem_nil _⟩⟩)
    hs_TooMany := ec_all (List.forall_mem_cons.mpr ⟨x_BadNumber_TooMany.trans (congrArg some (by decide +kernel : false = sub "BadNumber" "TooMany")), List.forall_mem_cons.mpr ⟨x_BadSlope_TooMany.trans (congrArg some (by decide +kernel : false = sub "BadSlope" "TooMany")), List.forall_mem_nil _⟩⟩)
    ks_BadNumber := ec_all (List.forall_mem_cons.mpr ⟨y_BadNumber_BadNumber.trans (congrArg some (by decide +kernel : true = sub "BadNumber" "BadNumber")), List.forall_mem_cons.mpr ⟨y_BadSlope_BadNumber.trans (congrArg some (by decide +kernel : false = sub "BadSlope" "BadNumber")), List.forall_mem_nil _⟩⟩)
    ks_BadSlope := ec_all (List.forall_mem_cons.mpr ⟨y_BadNumber_BadSlope.trans (congrArg some (by decide +kernel : false = sub "BadNumber" "BadSlope")), List.forall_mem_cons.mpr ⟨y_BadSlope_BadSlope.trans (congrArg some (by decide +kernel : true = sub "BadSlope" "BadSlope")), List.forall_mem_nil _⟩⟩)
    ks_ValueError := ec_all (List.forall_mem_cons.mpr ⟨y_BadNumber_ValueError, List.forall_mem_cons.mpr ⟨y_BadSlope_ValueError, List.forall_mem_nil _⟩⟩)
    exc := ec_all (List.forall_mem_cons.mpr ⟨⟨e1_BadNumber, e2_BadNumber, sb_BadNumber, e4_BadNumber, e5_BadNumber, e6, e7, e8_BadNumber⟩, List.forall_mem_cons.mpr ⟨⟨e1_BadSlope, e2_BadSlope, sb_BadSlope, e4_BadSlope, e5_BadSlope, e6, e7, e8_BadSlope⟩, List.forall_mem_nil _⟩⟩)
  }, rfl, rfl, rfl, rfl, rfl⟩
  obtain ⟨T, e1, e2, e3, e4, e5⟩ := T
  refine ⟨[(c_law, P_law, lamN "law")], T.d_law, fun n => ([("BadNumber", C_BadNumber), ("BadSlope", C_BadSlope)] : List (Str × Addr)).lookup n, ⟨nl, List.forall_mem_cons.mpr ⟨⟨PySem.W.codeHd_of_K X th_law, TBs _ tm_law⟩, List.forall_mem_nil _⟩, List.forall_mem_cons.mpr ⟨tn_law, List.forall_mem_nil _⟩⟩, ?_, fun base h1 h2 h3 => ?_⟩
  rotate_left
  · rw [← e1]
    refine ok_law (G := ⟨K, _, _, [], []⟩) T ?_ ?_ ?_
    · rw [e4, e5]; exact h3 _ List.mem_cons_self
    · rw [e5]; exact List.mem_cons_self
    · intro p hp _; rw [List.mem_singleton.mp hp]
  · rw [e3]; exact fun s u => .of_eq rfl
end L3

set_option Elab.async false
set_option linter.all false
set_option maxRecDepth 100000
set_option maxHeartbeats 600000
namespace L3
open PySem PySem.Spec L2
open PyProof.Rows hiding St
def isInt : PV → Bool
  | .int _ => true
  | _ => false
def inR (x : PV) (lo hi : Int) : Bool := match x with
  | .int i => decide (lo ≤ i) && decide (i ≤ hi)
  | _ => false
theorem r_is_integer {x : PV} {S : Sto} {Q : KE} {E : KX} (hx : flatP x = true) (h : Q (.bl (isInt x)) S) : sp_is_integer [x] S Q E := by
  refine ⟨rfl, ?_⟩
  rw [eW_is_integer, st_is_integer]
  refine s_ret ?_
  cases x with
  | non => simp only [wV, wC, wOp, wUn, oI, oAdd, oSub, oMul, oFdiv, oMod, oPow, oNeg, oLt, oLe, oGt, oGe, oEqN, oIsN, isNon, wTest, wChain, wTru, oTru, wNot, wAnd, wOr, wAndV, wOrV, wNotV, wIfE, wNil, wCons, wTup, wLst, wCB, cLen, cInt, cAbs, cMax2, cMin2, cSum, cSum2, cMaxL, cMinL, cAll, cAny, cList, cTuple, cStr, tyN, cIsi, cReprB, oIx, wNoP, wPart, oSl, wSl, oRevL, wBM, wBM0, tyP, mAppend, mExtend, mPop, mCount, mIndex, wCall, gN, gNil', gCons', gTup', gSub', oSet, iSeq, oIter, iRange1, iRange2, wLc, wipeP, wYes, wIsE, fnD_rt, fnD_ex, fnD_nx, List.getElem?_cons_zero, List.getElem?_cons_succ, List.set_cons_zero, List.set_cons_succ, Bool.false_xor, Bool.true_xor, if_true, if_false, ite_true, ite_false, reduceIte, Bool.false_eq_true, decide_eq_true_eq, decide_true, decide_false, Bool.not_true, Bool.not_false, Bool.not_eq_true', and_true, true_and]; exact ⟨_, _, rfl, rfl, dn_same h⟩
  | bl b => simp only [wV, wC, wOp, wUn, oI, oAdd, oSub, oMul, oFdiv, oMod, oPow, oNeg, oLt, oLe, oGt, oGe, oEqN, oIsN, isNon, wTest, wChain, wTru, oTru, wNot, wAnd, wOr, wAndV, wOrV, wNotV, wIfE, wNil, wCons, wTup, wLst, wCB, cLen, cInt, cAbs, cMax2, cMin2, cSum, cSum2, cMaxL, cMinL, cAll, cAny, cList, cTuple, cStr, tyN, cIsi, cReprB, oIx, wNoP, wPart, oSl, wSl, oRevL, wBM, wBM0, tyP, mAppend, mExtend, mPop, mCount, mIndex, wCall, gN, gNil', gCons', gTup', gSub', oSet, iSeq, oIter, iRange1, iRange2, wLc, wipeP, wYes, wIsE, fnD_rt, fnD_ex, fnD_nx, List.getElem?_cons_zero, List.getElem?_cons_succ, List.set_cons_zero, List.set_cons_succ, Bool.false_xor, Bool.true_xor, if_true, if_false, ite_true, ite_false, reduceIte, Bool.false_eq_true, decide_eq_true_eq, decide_true, decide_false, Bool.not_true, Bool.not_false, Bool.not_eq_true', and_true, true_and]; exact ⟨_, _, rfl, rfl, _, _, rfl, rfl, dn_same h⟩
  | int i => simp only [wV, wC, wOp, wUn, oI, oAdd, oSub, oMul, oFdiv, oMod, oPow, oNeg, oLt, oLe, oGt, oGe, oEqN, oIsN, isNon, wTest, wChain, wTru, oTru, wNot, wAnd, wOr, wAndV, wOrV, wNotV, wIfE, wNil, wCons, wTup, wLst, wCB, cLen, cInt, cAbs, cMax2, cMin2, cSum, cSum2, cMaxL, cMinL, cAll, cAny, cList, cTuple, cStr, tyN, cIsi, cReprB, oIx, wNoP, wPart, oSl, wSl, oRevL, wBM, wBM0, tyP, mAppend, mExtend, mPop, mCount, mIndex, wCall, gN, gNil', gCons', gTup', gSub', oSet, iSeq, oIter, iRange1, iRange2, wLc, wipeP, wYes, wIsE, fnD_rt, fnD_ex, fnD_nx, List.getElem?_cons_zero, List.getElem?_cons_succ, List.set_cons_zero, List.set_cons_succ, Bool.false_xor, Bool.true_xor, if_true, if_false, ite_true, ite_false, reduceIte, Bool.false_eq_true, decide_eq_true_eq, decide_true, decide_false, Bool.not_true, Bool.not_false, Bool.not_eq_true', and_true, true_and]; exact ⟨_, _, rfl, rfl, _, _, rfl, rfl, dn_same h⟩
  | str z => simp only [wV, wC, wOp, wUn, oI, oAdd, oSub, oMul, oFdiv, oMod, oPow, oNeg, oLt, oLe, oGt, oGe, oEqN, oIsN, isNon, wTest, wChain, wTru, oTru, wNot, wAnd, wOr, wAndV, wOrV, wNotV, wIfE, wNil, wCons, wTup, wLst, wCB, cLen, cInt, cAbs, cMax2, cMin2, cSum, cSum2, cMaxL, cMinL, cAll, cAny, cList, cTuple, cStr, tyN, cIsi, cReprB, oIx, wNoP, wPart, oSl, wSl, oRevL, wBM, wBM0, tyP, mAppend, mExtend, mPop, mCount, mIndex, wCall, gN, gNil', gCons', gTup', gSub', oSet, iSeq, oIter, iRange1, iRange2, wLc, wipeP, wYes, wIsE, fnD_rt, fnD_ex, fnD_nx, List.getElem?_cons_zero, List.getElem?_cons_succ, List.set_cons_zero, List.set_cons_succ, Bool.false_xor, Bool.true_xor, if_true, if_false, ite_true, ite_false, reduceIte, Bool.false_eq_true, decide_eq_true_eq, decide_true, decide_false, Bool.not_true, Bool.not_false, Bool.not_eq_true', and_true, true_and]; exact ⟨_, _, rfl, rfl, dn_same h⟩
  | _ => cases hx
theorem r_is_within {x : PV} {lo hi : Int} {S : Sto} {Q : KE} {E : KX} (hx : flatP x = true) (h : Q (.bl (inR x lo hi)) S) : sp_is_within [x, .int lo, .int hi] S Q E := by
  refine ⟨rfl, ?_⟩
  rw [eW_is_within, st_is_within]
  refine s_ret ?_
  simp only [wV, wC, wOp, wUn, oI, oAdd, oSub, oMul, oFdiv, oMod, oPow, oNeg, oLt, oLe, oGt, oGe, oEqN, oIsN, isNon, wTest, wChain, wTru, oTru, wNot, wAnd, wOr, wAndV, wOrV, wNotV, wIfE, wNil, wCons, wTup, wLst, wCB, cLen, cInt, cAbs, cMax2, cMin2, cSum, cSum2, cMaxL, cMinL, cAll, cAny, cList, cTuple, cStr, tyN, cIsi, cReprB, oIx, wNoP, wPart, oSl, wSl, oRevL, wBM, wBM0, tyP, mAppend, mExtend, mPop, mCount, mIndex, wCall, gN, gNil', gCons', gTup', gSub', oSet, iSeq, oIter, iRange1, iRange2, wLc, wipeP, wYes, wIsE, fnD_rt, fnD_ex, fnD_nx, List.getElem?_cons_zero, List.getElem?_cons_succ, List.set_cons_zero, List.set_cons_succ, Bool.false_xor, Bool.true_xor, if_true, if_false, ite_true, ite_false, reduceIte, Bool.false_eq_true, decide_eq_true_eq, decide_true, decide_false, Bool.not_true, Bool.not_false, Bool.not_eq_true', and_true, true_and]
  refine r_is_integer hx ?_
  cases x with
  | int i =>
    simp only [isInt, wV, wC, wOp, wUn, oI, oAdd, oSub, oMul, oFdiv, oMod, oPow, oNeg, oLt, oLe, oGt, oGe, oEqN, oIsN, isNon, wTest, wChain, wTru, oTru, wNot, wAnd, wOr, wAndV, wOrV, wNotV, wIfE, wNil, wCons, wTup, wLst, wCB, cLen, cInt, cAbs, cMax2, cMin2, cSum, cSum2, cMaxL, cMinL, cAll, cAny, cList, cTuple, cStr, tyN, cIsi, cReprB, oIx, wNoP, wPart, oSl, wSl, oRevL, wBM, wBM0, tyP, mAppend, mExtend, mPop, mCount, mIndex, wCall, gN, gNil', gCons', gTup', gSub', oSet, iSeq, oIter, iRange1, iRange2, wLc, wipeP, wYes, wIsE, fnD_rt, fnD_ex, fnD_nx, List.getElem?_cons_zero, List.getElem?_cons_succ, List.set_cons_zero, List.set_cons_succ, Bool.false_xor, Bool.true_xor, if_true, if_false, ite_true, ite_false, reduceIte, Bool.false_eq_true, decide_eq_true_eq, decide_true, decide_false, Bool.not_true, Bool.not_false, Bool.not_eq_true', and_true, true_and]
    by_cases h1 : lo ≤ i
    · simp only [h1, decide_true]
      refine dn_same ?_
      simpa only [inR, h1, decide_true, Bool.true_and] using h
    · simp only [h1, decide_false]
      refine dn_same ?_
      simpa only [inR, h1, decide_false, Bool.false_and] using h
  | non => simp only [isInt, wV, wC, wOp, wUn, oI, oAdd, oSub, oMul, oFdiv, oMod, oPow, oNeg, oLt, oLe, oGt, oGe, oEqN, oIsN, isNon, wTest, wChain, wTru, oTru, wNot, wAnd, wOr, wAndV, wOrV, wNotV, wIfE, wNil, wCons, wTup, wLst, wCB, cLen, cInt, cAbs, cMax2, cMin2, cSum, cSum2, cMaxL, cMinL, cAll, cAny, cList, cTuple, cStr, tyN, cIsi, cReprB, oIx, wNoP, wPart, oSl, wSl, oRevL, wBM, wBM0, tyP, mAppend, mExtend, mPop, mCount, mIndex, wCall, gN, gNil', gCons', gTup', gSub', oSet, iSeq, oIter, iRange1, iRange2, wLc, wipeP, wYes, wIsE, fnD_rt, fnD_ex, fnD_nx, List.getElem?_cons_zero, List.getElem?_cons_succ, List.set_cons_zero, List.set_cons_succ, Bool.false_xor, Bool.true_xor, if_true, if_false, ite_true, ite_false, reduceIte, Bool.false_eq_true, decide_eq_true_eq, decide_true, decide_false, Bool.not_true, Bool.not_false, Bool.not_eq_true', and_true, true_and]; exact dn_same h
  | bl b => simp only [isInt, wV, wC, wOp, wUn, oI, oAdd, oSub, oMul, oFdiv, oMod, oPow, oNeg, oLt, oLe, oGt, oGe, oEqN, oIsN, isNon, wTest, wChain, wTru, oTru, wNot, wAnd, wOr, wAndV, wOrV, wNotV, wIfE, wNil, wCons, wTup, wLst, wCB, cLen, cInt, cAbs, cMax2, cMin2, cSum, cSum2, cMaxL, cMinL, cAll, cAny, cList, cTuple, cStr, tyN, cIsi, cReprB, oIx, wNoP, wPart, oSl, wSl, oRevL, wBM, wBM0, tyP, mAppend, mExtend, mPop, mCount, mIndex, wCall, gN, gNil', gCons', gTup', gSub', oSet, iSeq, oIter, iRange1, iRange2, wLc, wipeP, wYes, wIsE, fnD_rt, fnD_ex, fnD_nx, List.getElem?_cons_zero, List.getElem?_cons_succ, List.set_cons_zero, List.set_cons_succ, Bool.false_xor, Bool.true_xor, if_true, if_false, ite_true, ite_false, reduceIte, Bool.false_eq_true, decide_eq_true_eq, decide_true, decide_false, Bool.not_true, Bool.not_false, Bool.not_eq_true', and_true, true_and]; exact dn_same h
  | str z => simp only [isInt, wV, wC, wOp, wUn, oI, oAdd, oSub, oMul, oFdiv, oMod, oPow, oNeg, oLt, oLe, oGt, oGe, oEqN, oIsN, isNon, wTest, wChain, wTru, oTru, wNot, wAnd, wOr, wAndV, wOrV, wNotV, wIfE, wNil, wCons, wTup, wLst, wCB, cLen, cInt, cAbs, cMax2, cMin2, cSum, cSum2, cMaxL, cMinL, cAll, cAny, cList, cTuple, cStr, tyN, cIsi, cReprB, oIx, wNoP, wPart, oSl, wSl, oRevL, wBM, wBM0, tyP, mAppend, mExtend, mPop, mCount, mIndex, wCall, gN, gNil', gCons', gTup', gSub', oSet, iSeq, oIter, iRange1, iRange2, wLc, wipeP, wYes, wIsE, fnD_rt, fnD_ex, fnD_nx, List.getElem?_cons_zero, List.getElem?_cons_succ, List.set_cons_zero, List.set_cons_succ, Bool.false_xor, Bool.true_xor, if_true, if_false, ite_true, ite_false, reduceIte, Bool.false_eq_true, decide_eq_true_eq, decide_true, decide_false, Bool.not_true, Bool.not_false, Bool.not_eq_true', and_true, true_and]; exact dn_same h
  | _ => cases hx
theorem lc_mapP {ε : PEnv} {S : Sto} {keep : Sto → Prop} {g : WG} {we : WE} {K : List PV → Sto → Prop} (I : Sto → Prop) (l : List PV) (f : PV → PV) (hl : l.length ≤ sizeLine) (hk : ∀ S, I S → keep S)
    (el : ∀ a ∈ l, ∀ (S : Sto) (C : KE), I S → (∀ S', I S' → C (f a) S') → g a ε S fun ε2 S2 => we ε2 S2 C (fun _ _ => False))
    (fin : ∀ S', I S' → K (l.map f) S') (hI : I S) : lcW keep g wYes we ε K l [] S := by
  have z := lc_map (α := PV) (ε := ε) I l id f hl hk el fin hI
  rw [List.map_id] at z
  exact z
theorem range_get {lo : Int} {n k : Nat} {x : PV} (h : (rangeP lo n)[k]? = some x) : x = .int (lo + (k : Nat)) ∧ k < n := by
  rw [rangeP_map, List.getElem?_map] at h
  cases e : (List.range n)[k]? with
  | none => rw [e] at h; cases h
  | some j =>
    rw [e] at h
    have hk := (List.getElem?_eq_some_iff.mp e).1
    rw [List.length_range] at hk
    rw [List.getElem?_range hk] at e
    cases e; cases h
    exact ⟨rfl, hk⟩
theorem cut_ints {ns : List Int} {lo hi : Option Int} : ∃ ms : List Int, cutP (ns.map PV.int) lo hi = ms.map PV.int := by
  unfold cutP
  exact ⟨_, by rw [← List.map_drop, ← List.map_take]⟩
theorem flat_ints (ns : List Int) : (ns.map PV.int).all flatP = true := by
  rw [List.all_map, List.all_eq_true]; intro _ _; rfl
theorem r_law_some {h b : Addr} {xs : List PV} {S : Sto} {Q : KE} {E : KX} (hS : S h = some .hand) (hb : RdL S b xs) (h1 : 0 < xs.length) (h2 : xs.length < 2 ^ 64) (hq : ∀ v ∈ xs, Q v S) : sp__law_some [.ref h, .ref b] S Q E := by
  refine ⟨rfl, ?_⟩
  rw [eW__law_some, st__law_some]
  refine s_ret ?_
  try simp only [wV, wC, wOp, wUn, oI, oAdd, oSub, oMul, oFdiv, oMod, oPow, oNeg, oLt, oLe, oGt, oGe, oEqN, oIsN, isNon, wTest, wChain, wTru, oTru, wNot, wAnd, wOr, wAndV, wOrV, wNotV, wIfE, wNil, wCons, wTup, wLst, wCB, cLen, cInt, cAbs, cMax2, cMin2, cSum, cSum2, cMaxL, cMinL, cAll, cAny, cList, cTuple, cStr, tyN, cIsi, cReprB, oIx, wNoP, wPart, oSl, wSl, oRevL, wBM, wBM0, tyP, mAppend, mExtend, mPop, mCount, mIndex, wCall, gN, gNil', gCons', gTup', gSub', oSet, iSeq, oIter, iRange1, iRange2, wLc, wipeP, wYes, wIsE, fnD_rt, fnD_ex, fnD_nx, List.getElem?_cons_zero, List.getElem?_cons_succ, List.set_cons_zero, List.set_cons_succ, Bool.false_xor, Bool.true_xor, if_true, if_false, ite_true, ite_false, reduceIte, Bool.false_eq_true, decide_eq_true_eq, decide_true, decide_false, Bool.not_true, Bool.not_false, Bool.not_eq_true', and_true, true_and]
  refine ⟨_, hb, ?_⟩
  refine ⟨h, _, rfl, hS, by omega, by omega, fun d h0 hd => ?_⟩
  obtain ⟨j, rfl⟩ : ∃ j : Nat, d = (j : Int) := ⟨d.toNat, by omega⟩
  have hj : j < xs.length := by omega
  refine ⟨xs, xs[j], hb, atI_nat (List.getElem?_eq_getElem hj), dn_same (hq _ (List.getElem_mem hj))⟩
theorem r_draw {h : Addr} {n : Int} {S : Sto} {Q : KE} {E : KX} (hS : S h = some .hand) (h1 : 0 < n) (h2 : n < 2 ^ 64) (hq : ∀ d : Int, 0 ≤ d → d < n → Q (.int d) S) : sp__law_draw [.ref h, .int n] S Q E :=
  ⟨h, n, rfl, hS, h1, h2, hq⟩

end L3

set_option Elab.async false
set_option linter.all false
set_option maxRecDepth 100000
set_option maxHeartbeats 600000
namespace L3
open PySem PySem.Spec L2
open PyProof.Rows hiding St
/-! ### sums of floors -/
def sumN : Nat → (Nat → Nat) → Nat
  | 0, _ => 0
  | n + 1, f => sumN n f + f n
theorem sumN_congr {f g : Nat → Nat} : ∀ {n : Nat}, (∀ i, i < n → f i = g i) → sumN n f = sumN n g
  | 0, _ => rfl
  | n + 1, h => by
    unfold sumN
    rw [sumN_congr fun i hi => h i (by omega), h n (by omega)]
theorem sumN_add {f g : Nat → Nat} : ∀ n : Nat, sumN n (fun i => f i + g i) = sumN n f + sumN n g
  | 0 => rfl
  | n + 1 => by
    simp only [sumN]
    rw [sumN_add n]; omega
theorem sumN_zero : ∀ n : Nat, sumN n (fun _ => 0) = 0
  | 0 => rfl
  | n + 1 => by simp [sumN, sumN_zero n]
theorem sumN_const (k : Nat) : ∀ n : Nat, sumN n (fun _ => k) = n * k
  | 0 => by simp [sumN]
  | n + 1 => by unfold sumN; rw [sumN_const k n, Nat.succ_mul]
theorem sumN_swap {c : Nat → Nat → Nat} (k : Nat) : ∀ n : Nat, sumN n (fun i => sumN k fun j => c i j) = sumN k fun j => sumN n fun i => c i j
  | 0 => by simp only [sumN]; rw [sumN_zero]
  | n + 1 => by
    simp only [sumN]
    rw [sumN_swap k n, ← sumN_add]
theorem sumN_front {f : Nat → Nat} : ∀ n : Nat, sumN (n + 1) f = f 0 + sumN n fun i => f (i + 1)
  | 0 => by simp [sumN]
  | n + 1 => by
    rw [sumN, sumN_front n]
    simp only [sumN]; omega
theorem sumN_rev {f : Nat → Nat} : ∀ n : Nat, sumN n f = sumN n fun i => f (n - 1 - i)
  | 0 => rfl
  | n + 1 => by
    rw [sumN_front n, sumN_rev n (f := fun i => f (i + 1)), sumN]
    have e : sumN n (fun i => f (n - 1 - i + 1)) = sumN n (fun i => f (n + 1 - 1 - i)) := sumN_congr fun i hi => by
      rw [show n - 1 - i + 1 = n + 1 - 1 - i from by omega]
    rw [e, show n + 1 - 1 - n = 0 from by omega]; omega
/-- how many multiples from the first on reach X at most -/
theorem count_mul {m : Nat} (hm : 0 < m) (X : Nat) : ∀ k : Nat, sumN k (fun j => if m * (j + 1) ≤ X then 1 else 0) = min k (X / m)
  | 0 => by simp [sumN]
  | k + 1 => by
    rw [sumN, count_mul hm X k]
    have e : m * (k + 1) ≤ X ↔ k + 1 ≤ X / m := by rw [Nat.le_div_iff_mul_le hm, Nat.mul_comm]
    by_cases h : k + 1 ≤ X / m
    · rw [if_pos (e.mpr h)]; omega
    · rw [if_neg fun z => h (e.mp z)]; omega
theorem count_mul0 {m : Nat} (hm : 0 < m) (X : Nat) : ∀ k : Nat, sumN k (fun j => if m * j ≤ X then 1 else 0) = min k (X / m + 1)
  | 0 => by simp [sumN]
  | k + 1 => by
    rw [sumN, count_mul0 hm X k]
    have e : m * k ≤ X ↔ k ≤ X / m := by rw [Nat.le_div_iff_mul_le hm, Nat.mul_comm]
    by_cases h : k ≤ X / m
    · rw [if_pos (e.mpr h)]; omega
    · rw [if_neg fun z => h (e.mp z)]; omega
def fs (n a b m : Nat) : Nat := sumN n fun i => (a * i + b) / m
theorem fs_succ (n a b m : Nat) : fs (n + 1) a b m = fs n a b m + (a * n + b) / m := rfl
theorem tri_succ (n : Nat) : (n + 1) * (n + 1 - 1) / 2 = n * (n - 1) / 2 + n := by
  have e : (n + 1) * (n + 1 - 1) = n * (n - 1) + n * 2 := by
    cases n with
    | zero => rfl
    | succ k =>
      show (k + 1 + 1) * (k + 1) = (k + 1) * k + (k + 1) * 2
      rw [Nat.mul_comm (k + 1 + 1), ← Nat.mul_add]
  rw [e, Nat.add_mul_div_right _ _ (by decide)]
theorem fs_red {m : Nat} (hm : 0 < m) (a b : Nat) : ∀ n : Nat, fs n a b m = n * (n - 1) / 2 * (a / m) + n * (b / m) + fs n (a % m) (b % m) m
  | 0 => by simp [fs, sumN]
  | n + 1 => by
    rw [fs_succ, fs_succ, fs_red hm a b n, tri_succ, Nat.succ_mul, Nat.add_mul]
    have e : a * n + b = (a % m * n + b % m) + m * (n * (a / m) + b / m) := by
      have h1 := Nat.mod_add_div a m
      have h2 := Nat.mod_add_div b m
      calc a * n + b = (a % m + m * (a / m)) * n + (b % m + m * (b / m)) := by rw [h1, h2]
        _ = _ := by
          rw [Nat.add_mul, Nat.mul_add, Nat.mul_assoc, Nat.mul_comm (a / m) n]; omega
    have k : (a * n + b) / m = (a % m * n + b % m) / m + (n * (a / m) + b / m) := by
      rw [e, Nat.add_mul_div_left _ _ hm]
    rw [k]; omega
/-- the lattice turned: from above -/
theorem fs_turn {n a b m : Nat} (ha : 0 < a) (hm : 0 < m) (hb : b < m) : fs n a b m = fs ((a * n + b) / m) m ((a * n + b) % m) a := by
  generalize hy : (a * n + b) / m = y
  generalize hr : (a * n + b) % m = r
  have top : a * n + b = m * y + r := by rw [← hy, ← hr]; exact (Nat.div_add_mod _ _).symm
  unfold fs
  have e1 : sumN n (fun i => (a * i + b) / m) = sumN n fun i => sumN y fun j => if m * (j + 1) ≤ a * i + b then 1 else 0 := sumN_congr fun i hi => by
    rw [count_mul hm]
    have : (a * i + b) / m ≤ y := by
      rw [← hy]
      exact Nat.div_le_div_right (Nat.add_le_add_right (Nat.mul_le_mul_left a (by omega)) b)
    omega
  rw [e1, sumN_rev n]
  have e2 : sumN n (fun i => sumN y fun j => if m * (j + 1) ≤ a * (n - 1 - i) + b then 1 else 0) = sumN n fun i => sumN y fun j => if a * (i + 1) ≤ m * j + r then 1 else 0 := sumN_congr fun i hi => by
    rw [sumN_rev y]
    refine sumN_congr fun j hj => ?_
    have f1 : m * y = m * (y - 1 - j + 1) + m * j := by rw [← Nat.mul_add]; congr 1; omega
    have f2 : a * n = a * (n - 1 - i) + a * (i + 1) := by rw [← Nat.mul_add]; congr 1; omega
    have : m * (y - 1 - j + 1) ≤ a * (n - 1 - i) + b ↔ a * (i + 1) ≤ m * j + r := by omega
    by_cases h : m * (y - 1 - j + 1) ≤ a * (n - 1 - i) + b
    · rw [if_pos h, if_pos (this.mp h)]
    · rw [if_neg h, if_neg fun z => h (this.mpr z)]
  rw [e2, sumN_swap]
  refine sumN_congr fun j hj => ?_
  rw [count_mul ha]
  have f1 : m * y = m * (y - 1 - j) + m + m * j := by
    have : y = (y - 1 - j) + 1 + j := by omega
    calc m * y = m * ((y - 1 - j) + 1 + j) := by rw [← this]
      _ = _ := by rw [Nat.mul_add, Nat.mul_add, Nat.mul_one]
  have : m * j + r ≤ a * n := by omega
  have : (m * j + r) / a ≤ n := by
    have := Nat.div_le_div_right (c := a) this
    rwa [Nat.mul_div_cancel_left _ ha] at this
  omega
/-- the lattice turned: from below -/
theorem fs_turn2 {n a b m : Nat} (hn : 0 < n) (hm : 0 < m) (hb : b < m) (ham : a < m) (h0 : 0 < (a * (n - 1) + b) / m) : fs n a b m + fs ((a * (n - 1) + b) / m) m (m - b - 1) a = (n - 1) * ((a * (n - 1) + b) / m) := by
  generalize hy : (a * (n - 1) + b) / m = y at *
  have hle : m * y ≤ a * (n - 1) + b := by rw [← hy]; exact Nat.mul_div_le _ _
  have ha : 0 < a := by
    apply Nat.pos_of_ne_zero
    intro z
    rw [z, Nat.zero_mul, Nat.zero_add] at hle
    have : m * 1 ≤ m * y := Nat.mul_le_mul_left m h0
    omega
  unfold fs
  have e1 : sumN n (fun i => (a * i + b) / m) = sumN n fun i => sumN y fun j => if m * (j + 1) ≤ a * i + b then 1 else 0 := sumN_congr fun i hi => by
    rw [count_mul hm]
    have : (a * i + b) / m ≤ y := by
      rw [← hy]
      exact Nat.div_le_div_right (Nat.add_le_add_right (Nat.mul_le_mul_left a (by omega)) b)
    omega
  rw [e1, sumN_swap, ← sumN_add, Nat.mul_comm, ← sumN_const]
  refine sumN_congr fun j hj => ?_
  have f1 : m * y = m * (y - 1 - j) + m + m * j := by
    have : y = (y - 1 - j) + 1 + j := by omega
    calc m * y = m * ((y - 1 - j) + 1 + j) := by rw [← this]
      _ = _ := by rw [Nat.mul_add, Nat.mul_add, Nat.mul_one]
  have f3 : m * (j + 1) = m * j + m := Nat.mul_succ m j
  have f4 : a * (n - 1) + a = a * n := by rw [← Nat.mul_succ]; congr 1; omega
  -- the complement
  have k1 : sumN n (fun i => if m * (j + 1) ≤ a * i + b then 1 else 0) + sumN n (fun i => if a * i ≤ m * j + (m - b - 1) then 1 else 0) = n := by
    rw [← sumN_add]
    have : sumN n (fun i => (if m * (j + 1) ≤ a * i + b then 1 else 0) + if a * i ≤ m * j + (m - b - 1) then 1 else 0) = sumN n fun _ => 1 := sumN_congr fun i hi => by
      by_cases h : m * (j + 1) ≤ a * i + b
      · rw [if_pos h, if_neg (by omega)]
      · rw [if_neg h, if_pos (by omega)]
    rw [this, sumN_const, Nat.mul_one]
  rw [count_mul0 ha] at k1
  have k2 : (m * j + (m - b - 1)) / a + 1 ≤ n := by
    have h1 : m * j + (m - b - 1) < a * (n - 1) := by omega
    have h2 : (m * j + (m - b - 1)) / a < n - 1 := by
      rw [Nat.div_lt_iff_lt_mul ha, Nat.mul_comm (n - 1) a]; exact h1
    omega
  omega

end L3

set_option Elab.async false
set_option linter.all false
set_option maxRecDepth 100000
set_option maxHeartbeats 600000
namespace L3
open PySem PySem.Spec L2
open PyProof.Rows hiding St
theorem nat_mod (a b : Nat) : (a : Int) % (b : Int) = ((a % b : Nat) : Int) := (Int.natCast_emod a b).symm
theorem nat_div (a b : Nat) : (a : Int) / (b : Int) = ((a / b : Nat) : Int) := (Int.natCast_ediv a b).symm
theorem nat_mul (a b : Nat) : (a : Int) * (b : Int) = ((a * b : Nat) : Int) := (Int.natCast_mul a b).symm
theorem nat_add (a b : Nat) : (a : Int) + (b : Int) = ((a + b : Nat) : Int) := rfl
theorem r_is_tuple_of {xs : List PV} {n : Int} {S : Sto} {Q : KE} {E : KX} (h : Q (.bl (decide ((xs.length : Int) = n))) S) : sp_is_tuple_of [.tup xs, .int n] S Q E := by
  refine ⟨rfl, ?_⟩
  rw [eW_is_tuple_of, st_is_tuple_of]
  refine s_ret ?_
  try simp only [wV, wC, wOp, wUn, oI, oAdd, oSub, oMul, oFdiv, oMod, oPow, oNeg, oLt, oLe, oGt, oGe, oEqN, oIsN, isNon, wTest, wChain, wTru, oTru, wNot, wAnd, wOr, wAndV, wOrV, wNotV, wIfE, wNil, wCons, wTup, wLst, wCB, cLen, cInt, cAbs, cMax2, cMin2, cSum, cSum2, cMaxL, cMinL, cAll, cAny, cList, cTuple, cStr, tyN, cIsi, cReprB, oIx, wNoP, wPart, oSl, wSl, oRevL, wBM, wBM0, tyP, mAppend, mExtend, mPop, mCount, mIndex, wCall, gN, gNil', gCons', gTup', gSub', oSet, iSeq, oIter, iRange1, iRange2, wLc, wipeP, wYes, wIsE, fnD_rt, fnD_ex, fnD_nx, List.getElem?_cons_zero, List.getElem?_cons_succ, List.set_cons_zero, List.set_cons_succ, Bool.false_xor, Bool.true_xor, if_true, if_false, ite_true, ite_false, reduceIte, Bool.false_eq_true, decide_eq_true_eq, decide_true, decide_false, Bool.not_true, Bool.not_false, Bool.not_eq_true', and_true, true_and]
  exact ⟨_, _, rfl, rfl, dn_same h⟩
theorem r_is_tuple_not {x : PV} {n : Int} {t : String} {S : Sto} {Q : KE} {E : KX} (hx : tyN x S t) (hn : kitB t "tuple" = some false) (h : Q (.bl false) S) : sp_is_tuple_of [x, .int n] S Q E := by
  refine ⟨rfl, ?_⟩
  rw [eW_is_tuple_of, st_is_tuple_of]
  refine s_ret ?_
  simp only [wAndV, wCB, wCons, wNil, wC, wV, List.getElem?_cons_zero, cIsi]
  refine ⟨_, _, hx, hn, ?_⟩
  try simp only [wV, wC, wOp, wUn, oI, oAdd, oSub, oMul, oFdiv, oMod, oPow, oNeg, oLt, oLe, oGt, oGe, oEqN, oIsN, isNon, wTest, wChain, wTru, oTru, wNot, wAnd, wOr, wAndV, wOrV, wNotV, wIfE, wNil, wCons, wTup, wLst, wCB, cLen, cInt, cAbs, cMax2, cMin2, cSum, cSum2, cMaxL, cMinL, cAll, cAny, cList, cTuple, cStr, tyN, cIsi, cReprB, oIx, wNoP, wPart, oSl, wSl, oRevL, wBM, wBM0, tyP, mAppend, mExtend, mPop, mCount, mIndex, wCall, gN, gNil', gCons', gTup', gSub', oSet, iSeq, oIter, iRange1, iRange2, wLc, wipeP, wYes, wIsE, fnD_rt, fnD_ex, fnD_nx, List.getElem?_cons_zero, List.getElem?_cons_succ, List.set_cons_zero, List.set_cons_succ, Bool.false_xor, Bool.true_xor, if_true, if_false, ite_true, ite_false, reduceIte, Bool.false_eq_true, decide_eq_true_eq, decide_true, decide_false, Bool.not_true, Bool.not_false, Bool.not_eq_true', and_true, true_and]
  exact dn_same h
theorem r_common {a b : Int} {S : Sto} {Q : KE} {E : KX} (h : Q (.int ((Nat.gcd a.natAbs b.natAbs : Nat) : Int)) S) : sp_common [.int a, .int b] S Q E := by
  refine ⟨rfl, ?_⟩
  rw [eW_common, st_common]
  refine s_seq (s_par ?_)
  try simp only [wV, wC, wOp, wUn, oI, oAdd, oSub, oMul, oFdiv, oMod, oPow, oNeg, oLt, oLe, oGt, oGe, oEqN, oIsN, isNon, wTest, wChain, wTru, oTru, wNot, wAnd, wOr, wAndV, wOrV, wNotV, wIfE, wNil, wCons, wTup, wLst, wCB, cLen, cInt, cAbs, cMax2, cMin2, cSum, cSum2, cMaxL, cMinL, cAll, cAny, cList, cTuple, cStr, tyN, cIsi, cReprB, oIx, wNoP, wPart, oSl, wSl, oRevL, wBM, wBM0, tyP, mAppend, mExtend, mPop, mCount, mIndex, wCall, gN, gNil', gCons', gTup', gSub', oSet, iSeq, oIter, iRange1, iRange2, wLc, wipeP, wYes, wIsE, fnD_rt, fnD_ex, fnD_nx, List.getElem?_cons_zero, List.getElem?_cons_succ, List.set_cons_zero, List.set_cons_succ, Bool.false_xor, Bool.true_xor, if_true, if_false, ite_true, ite_false, reduceIte, Bool.false_eq_true, decide_eq_true_eq, decide_true, decide_false, Bool.not_true, Bool.not_false, Bool.not_eq_true', and_true, true_and]
  refine s_seq (s_while (fun m ε S' => ∃ x : Nat, ε = [some (.int x), some (.int m)] ∧ Nat.gcd x m = Nat.gcd a.natAbs b.natAbs ∧ S' = S) b.natAbs ⟨a.natAbs, rfl, rfl, rfl⟩ ?_)
  rintro m ε S' ⟨x, rfl, hg, rfl⟩
  try simp only [wV, wC, wOp, wUn, oI, oAdd, oSub, oMul, oFdiv, oMod, oPow, oNeg, oLt, oLe, oGt, oGe, oEqN, oIsN, isNon, wTest, wChain, wTru, oTru, wNot, wAnd, wOr, wAndV, wOrV, wNotV, wIfE, wNil, wCons, wTup, wLst, wCB, cLen, cInt, cAbs, cMax2, cMin2, cSum, cSum2, cMaxL, cMinL, cAll, cAny, cList, cTuple, cStr, tyN, cIsi, cReprB, oIx, wNoP, wPart, oSl, wSl, oRevL, wBM, wBM0, tyP, mAppend, mExtend, mPop, mCount, mIndex, wCall, gN, gNil', gCons', gTup', gSub', oSet, iSeq, oIter, iRange1, iRange2, wLc, wipeP, wYes, wIsE, fnD_rt, fnD_ex, fnD_nx, List.getElem?_cons_zero, List.getElem?_cons_succ, List.set_cons_zero, List.set_cons_succ, Bool.false_xor, Bool.true_xor, if_true, if_false, ite_true, ite_false, reduceIte, Bool.false_eq_true, decide_eq_true_eq, decide_true, decide_false, Bool.not_true, Bool.not_false, Bool.not_eq_true', and_true, true_and]
  split
  · rename_i h0
    refine s_par ?_
    try simp only [wV, wC, wOp, wUn, oI, oAdd, oSub, oMul, oFdiv, oMod, oPow, oNeg, oLt, oLe, oGt, oGe, oEqN, oIsN, isNon, wTest, wChain, wTru, oTru, wNot, wAnd, wOr, wAndV, wOrV, wNotV, wIfE, wNil, wCons, wTup, wLst, wCB, cLen, cInt, cAbs, cMax2, cMin2, cSum, cSum2, cMaxL, cMinL, cAll, cAny, cList, cTuple, cStr, tyN, cIsi, cReprB, oIx, wNoP, wPart, oSl, wSl, oRevL, wBM, wBM0, tyP, mAppend, mExtend, mPop, mCount, mIndex, wCall, gN, gNil', gCons', gTup', gSub', oSet, iSeq, oIter, iRange1, iRange2, wLc, wipeP, wYes, wIsE, fnD_rt, fnD_ex, fnD_nx, List.getElem?_cons_zero, List.getElem?_cons_succ, List.set_cons_zero, List.set_cons_succ, Bool.false_xor, Bool.true_xor, if_true, if_false, ite_true, ite_false, reduceIte, Bool.false_eq_true, decide_eq_true_eq, decide_true, decide_false, Bool.not_true, Bool.not_false, Bool.not_eq_true', and_true, true_and]
    refine ⟨h0, x % m, _, S', Nat.mod_lt x (by omega), .refl _, .refl _, m, by rw [nat_mod], ?_, rfl⟩
    rw [← hg, Nat.gcd_comm, ← Nat.gcd_rec, Nat.gcd_comm]
  · have : m = 0 := by omega
    subst this
    rw [Nat.gcd_zero_right] at hg
    subst hg
    refine s_ret ?_
    try simp only [wV, wC, wOp, wUn, oI, oAdd, oSub, oMul, oFdiv, oMod, oPow, oNeg, oLt, oLe, oGt, oGe, oEqN, oIsN, isNon, wTest, wChain, wTru, oTru, wNot, wAnd, wOr, wAndV, wOrV, wNotV, wIfE, wNil, wCons, wTup, wLst, wCB, cLen, cInt, cAbs, cMax2, cMin2, cSum, cSum2, cMaxL, cMinL, cAll, cAny, cList, cTuple, cStr, tyN, cIsi, cReprB, oIx, wNoP, wPart, oSl, wSl, oRevL, wBM, wBM0, tyP, mAppend, mExtend, mPop, mCount, mIndex, wCall, gN, gNil', gCons', gTup', gSub', oSet, iSeq, oIter, iRange1, iRange2, wLc, wipeP, wYes, wIsE, fnD_rt, fnD_ex, fnD_nx, List.getElem?_cons_zero, List.getElem?_cons_succ, List.set_cons_zero, List.set_cons_succ, Bool.false_xor, Bool.true_xor, if_true, if_false, ite_true, ite_false, reduceIte, Bool.false_eq_true, decide_eq_true_eq, decide_true, decide_false, Bool.not_true, Bool.not_false, Bool.not_eq_true', and_true, true_and]
    exact dn_same h
def sl (p q : Nat) : PV := .tup [.int (p : Nat), .int (q : Nat)]
def frP (t b : Nat) : PV := sl (t / Nat.gcd t b) (b / Nat.gcd t b)
theorem r_frac {t b : Nat} {S : Sto} {Q : KE} {E : KX} (hb : 0 < b) (hb2 : b < 2 ^ 64) (h : Q (frP t b) S) : sp_frac [.int t, .int b] S Q E := by
  refine ⟨rfl, ?_⟩
  rw [eW_frac, st_frac]
  refine s_seq (s_set ?_)
  try simp only [wV, wC, wOp, wUn, oI, oAdd, oSub, oMul, oFdiv, oMod, oPow, oNeg, oLt, oLe, oGt, oGe, oEqN, oIsN, isNon, wTest, wChain, wTru, oTru, wNot, wAnd, wOr, wAndV, wOrV, wNotV, wIfE, wNil, wCons, wTup, wLst, wCB, cLen, cInt, cAbs, cMax2, cMin2, cSum, cSum2, cMaxL, cMinL, cAll, cAny, cList, cTuple, cStr, tyN, cIsi, cReprB, oIx, wNoP, wPart, oSl, wSl, oRevL, wBM, wBM0, tyP, mAppend, mExtend, mPop, mCount, mIndex, wCall, gN, gNil', gCons', gTup', gSub', oSet, iSeq, oIter, iRange1, iRange2, wLc, wipeP, wYes, wIsE, fnD_rt, fnD_ex, fnD_nx, List.getElem?_cons_zero, List.getElem?_cons_succ, List.set_cons_zero, List.set_cons_succ, Bool.false_xor, Bool.true_xor, if_true, if_false, ite_true, ite_false, reduceIte, Bool.false_eq_true, decide_eq_true_eq, decide_true, decide_false, Bool.not_true, Bool.not_false, Bool.not_eq_true', and_true, true_and]
  refine r_common ?_
  try simp only [Int.natAbs_natCast]
  have hg : 0 < Nat.gcd t b := Nat.gcd_pos_of_pos_right t hb
  have hg2 : Nat.gcd t b ≤ b := Nat.gcd_le_right t hb
  refine s_seq (s_if ?_)
  try simp only [wV, wC, wOp, wUn, oI, oAdd, oSub, oMul, oFdiv, oMod, oPow, oNeg, oLt, oLe, oGt, oGe, oEqN, oIsN, isNon, wTest, wChain, wTru, oTru, wNot, wAnd, wOr, wAndV, wOrV, wNotV, wIfE, wNil, wCons, wTup, wLst, wCB, cLen, cInt, cAbs, cMax2, cMin2, cSum, cSum2, cMaxL, cMinL, cAll, cAny, cList, cTuple, cStr, tyN, cIsi, cReprB, oIx, wNoP, wPart, oSl, wSl, oRevL, wBM, wBM0, tyP, mAppend, mExtend, mPop, mCount, mIndex, wCall, gN, gNil', gCons', gTup', gSub', oSet, iSeq, oIter, iRange1, iRange2, wLc, wipeP, wYes, wIsE, fnD_rt, fnD_ex, fnD_nx, List.getElem?_cons_zero, List.getElem?_cons_succ, List.set_cons_zero, List.set_cons_succ, Bool.false_xor, Bool.true_xor, if_true, if_false, ite_true, ite_false, reduceIte, Bool.false_eq_true, decide_eq_true_eq, decide_true, decide_false, Bool.not_true, Bool.not_false, Bool.not_eq_true', and_true, true_and]
  rw [if_neg (by omega)]
  refine s_next ?_
  dsimp only
  refine s_ret ?_
  try simp only [wV, wC, wOp, wUn, oI, oAdd, oSub, oMul, oFdiv, oMod, oPow, oNeg, oLt, oLe, oGt, oGe, oEqN, oIsN, isNon, wTest, wChain, wTru, oTru, wNot, wAnd, wOr, wAndV, wOrV, wNotV, wIfE, wNil, wCons, wTup, wLst, wCB, cLen, cInt, cAbs, cMax2, cMin2, cSum, cSum2, cMaxL, cMinL, cAll, cAny, cList, cTuple, cStr, tyN, cIsi, cReprB, oIx, wNoP, wPart, oSl, wSl, oRevL, wBM, wBM0, tyP, mAppend, mExtend, mPop, mCount, mIndex, wCall, gN, gNil', gCons', gTup', gSub', oSet, iSeq, oIter, iRange1, iRange2, wLc, wipeP, wYes, wIsE, fnD_rt, fnD_ex, fnD_nx, List.getElem?_cons_zero, List.getElem?_cons_succ, List.set_cons_zero, List.set_cons_succ, Bool.false_xor, Bool.true_xor, if_true, if_false, ite_true, ite_false, reduceIte, Bool.false_eq_true, decide_eq_true_eq, decide_true, decide_false, Bool.not_true, Bool.not_false, Bool.not_eq_true', and_true, true_and]
  refine ⟨cdw (by omega) (by omega), cdw (by omega) (by omega), (by decide : 2 ≤ sizeLine), dn_same ?_⟩
  rw [nat_div, nat_div]
  exact h
theorem r__law_common {a b : Int} {S : Sto} {Q : KE} {E : KX} (h : Q (.int ((Nat.gcd a.natAbs b.natAbs : Nat) : Int)) S) : sp__law_common [.int a, .int b] S Q E := by
  refine ⟨rfl, ?_⟩
  rw [eW__law_common, st__law_common]
  refine s_seq (s_par ?_)
  try simp only [wV, wC, wOp, wUn, oI, oAdd, oSub, oMul, oFdiv, oMod, oPow, oNeg, oLt, oLe, oGt, oGe, oEqN, oIsN, isNon, wTest, wChain, wTru, oTru, wNot, wAnd, wOr, wAndV, wOrV, wNotV, wIfE, wNil, wCons, wTup, wLst, wCB, cLen, cInt, cAbs, cMax2, cMin2, cSum, cSum2, cMaxL, cMinL, cAll, cAny, cList, cTuple, cStr, tyN, cIsi, cReprB, oIx, wNoP, wPart, oSl, wSl, oRevL, wBM, wBM0, tyP, mAppend, mExtend, mPop, mCount, mIndex, wCall, gN, gNil', gCons', gTup', gSub', oSet, iSeq, oIter, iRange1, iRange2, wLc, wipeP, wYes, wIsE, fnD_rt, fnD_ex, fnD_nx, List.getElem?_cons_zero, List.getElem?_cons_succ, List.set_cons_zero, List.set_cons_succ, Bool.false_xor, Bool.true_xor, if_true, if_false, ite_true, ite_false, reduceIte, Bool.false_eq_true, decide_eq_true_eq, decide_true, decide_false, Bool.not_true, Bool.not_false, Bool.not_eq_true', and_true, true_and]
  refine s_seq (s_while (fun m ε S' => ∃ x : Nat, ε = [some (.int x), some (.int m)] ∧ Nat.gcd x m = Nat.gcd a.natAbs b.natAbs ∧ S' = S) b.natAbs ⟨a.natAbs, rfl, rfl, rfl⟩ ?_)
  rintro m ε S' ⟨x, rfl, hg, rfl⟩
  try simp only [wV, wC, wOp, wUn, oI, oAdd, oSub, oMul, oFdiv, oMod, oPow, oNeg, oLt, oLe, oGt, oGe, oEqN, oIsN, isNon, wTest, wChain, wTru, oTru, wNot, wAnd, wOr, wAndV, wOrV, wNotV, wIfE, wNil, wCons, wTup, wLst, wCB, cLen, cInt, cAbs, cMax2, cMin2, cSum, cSum2, cMaxL, cMinL, cAll, cAny, cList, cTuple, cStr, tyN, cIsi, cReprB, oIx, wNoP, wPart, oSl, wSl, oRevL, wBM, wBM0, tyP, mAppend, mExtend, mPop, mCount, mIndex, wCall, gN, gNil', gCons', gTup', gSub', oSet, iSeq, oIter, iRange1, iRange2, wLc, wipeP, wYes, wIsE, fnD_rt, fnD_ex, fnD_nx, List.getElem?_cons_zero, List.getElem?_cons_succ, List.set_cons_zero, List.set_cons_succ, Bool.false_xor, Bool.true_xor, if_true, if_false, ite_true, ite_false, reduceIte, Bool.false_eq_true, decide_eq_true_eq, decide_true, decide_false, Bool.not_true, Bool.not_false, Bool.not_eq_true', and_true, true_and]
  split
  · rename_i h0
    refine s_par ?_
    try simp only [wV, wC, wOp, wUn, oI, oAdd, oSub, oMul, oFdiv, oMod, oPow, oNeg, oLt, oLe, oGt, oGe, oEqN, oIsN, isNon, wTest, wChain, wTru, oTru, wNot, wAnd, wOr, wAndV, wOrV, wNotV, wIfE, wNil, wCons, wTup, wLst, wCB, cLen, cInt, cAbs, cMax2, cMin2, cSum, cSum2, cMaxL, cMinL, cAll, cAny, cList, cTuple, cStr, tyN, cIsi, cReprB, oIx, wNoP, wPart, oSl, wSl, oRevL, wBM, wBM0, tyP, mAppend, mExtend, mPop, mCount, mIndex, wCall, gN, gNil', gCons', gTup', gSub', oSet, iSeq, oIter, iRange1, iRange2, wLc, wipeP, wYes, wIsE, fnD_rt, fnD_ex, fnD_nx, List.getElem?_cons_zero, List.getElem?_cons_succ, List.set_cons_zero, List.set_cons_succ, Bool.false_xor, Bool.true_xor, if_true, if_false, ite_true, ite_false, reduceIte, Bool.false_eq_true, decide_eq_true_eq, decide_true, decide_false, Bool.not_true, Bool.not_false, Bool.not_eq_true', and_true, true_and]
    refine ⟨h0, x % m, _, S', Nat.mod_lt x (by omega), .refl _, .refl _, m, by rw [nat_mod], ?_, rfl⟩
    rw [← hg, Nat.gcd_comm, ← Nat.gcd_rec, Nat.gcd_comm]
  · have : m = 0 := by omega
    subst this
    rw [Nat.gcd_zero_right] at hg
    subst hg
    refine s_ret ?_
    try simp only [wV, wC, wOp, wUn, oI, oAdd, oSub, oMul, oFdiv, oMod, oPow, oNeg, oLt, oLe, oGt, oGe, oEqN, oIsN, isNon, wTest, wChain, wTru, oTru, wNot, wAnd, wOr, wAndV, wOrV, wNotV, wIfE, wNil, wCons, wTup, wLst, wCB, cLen, cInt, cAbs, cMax2, cMin2, cSum, cSum2, cMaxL, cMinL, cAll, cAny, cList, cTuple, cStr, tyN, cIsi, cReprB, oIx, wNoP, wPart, oSl, wSl, oRevL, wBM, wBM0, tyP, mAppend, mExtend, mPop, mCount, mIndex, wCall, gN, gNil', gCons', gTup', gSub', oSet, iSeq, oIter, iRange1, iRange2, wLc, wipeP, wYes, wIsE, fnD_rt, fnD_ex, fnD_nx, List.getElem?_cons_zero, List.getElem?_cons_succ, List.set_cons_zero, List.set_cons_succ, Bool.false_xor, Bool.true_xor, if_true, if_false, ite_true, ite_false, reduceIte, Bool.false_eq_true, decide_eq_true_eq, decide_true, decide_false, Bool.not_true, Bool.not_false, Bool.not_eq_true', and_true, true_and]
    exact dn_same h
theorem r__law_fraction {t b : Nat} {S : Sto} {Q : KE} {E : KX} (hb : 0 < b) (hb2 : b < 2 ^ 64) (h : Q (frP t b) S) : sp__law_fraction [.int t, .int b] S Q E := by
  refine ⟨rfl, ?_⟩
  rw [eW__law_fraction, st__law_fraction]
  refine s_seq (s_set ?_)
  try simp only [wV, wC, wOp, wUn, oI, oAdd, oSub, oMul, oFdiv, oMod, oPow, oNeg, oLt, oLe, oGt, oGe, oEqN, oIsN, isNon, wTest, wChain, wTru, oTru, wNot, wAnd, wOr, wAndV, wOrV, wNotV, wIfE, wNil, wCons, wTup, wLst, wCB, cLen, cInt, cAbs, cMax2, cMin2, cSum, cSum2, cMaxL, cMinL, cAll, cAny, cList, cTuple, cStr, tyN, cIsi, cReprB, oIx, wNoP, wPart, oSl, wSl, oRevL, wBM, wBM0, tyP, mAppend, mExtend, mPop, mCount, mIndex, wCall, gN, gNil', gCons', gTup', gSub', oSet, iSeq, oIter, iRange1, iRange2, wLc, wipeP, wYes, wIsE, fnD_rt, fnD_ex, fnD_nx, List.getElem?_cons_zero, List.getElem?_cons_succ, List.set_cons_zero, List.set_cons_succ, Bool.false_xor, Bool.true_xor, if_true, if_false, ite_true, ite_false, reduceIte, Bool.false_eq_true, decide_eq_true_eq, decide_true, decide_false, Bool.not_true, Bool.not_false, Bool.not_eq_true', and_true, true_and]
  refine r__law_common ?_
  have hg : 0 < Nat.gcd t b := Nat.gcd_pos_of_pos_right t hb
  have hg2 : Nat.gcd t b ≤ b := Nat.gcd_le_right t hb
  try simp only [Int.natAbs_natCast, wV, wC, wOp, wUn, oI, oAdd, oSub, oMul, oFdiv, oMod, oPow, oNeg, oLt, oLe, oGt, oGe, oEqN, oIsN, isNon, wTest, wChain, wTru, oTru, wNot, wAnd, wOr, wAndV, wOrV, wNotV, wIfE, wNil, wCons, wTup, wLst, wCB, cLen, cInt, cAbs, cMax2, cMin2, cSum, cSum2, cMaxL, cMinL, cAll, cAny, cList, cTuple, cStr, tyN, cIsi, cReprB, oIx, wNoP, wPart, oSl, wSl, oRevL, wBM, wBM0, tyP, mAppend, mExtend, mPop, mCount, mIndex, wCall, gN, gNil', gCons', gTup', gSub', oSet, iSeq, oIter, iRange1, iRange2, wLc, wipeP, wYes, wIsE, fnD_rt, fnD_ex, fnD_nx, List.getElem?_cons_zero, List.getElem?_cons_succ, List.set_cons_zero, List.set_cons_succ, Bool.false_xor, Bool.true_xor, if_true, if_false, ite_true, ite_false, reduceIte, Bool.false_eq_true, decide_eq_true_eq, decide_true, decide_false, Bool.not_true, Bool.not_false, Bool.not_eq_true', and_true, true_and]
  rw [if_pos (by omega)]
  refine ⟨CMr (by decide), ?_⟩
  rw [Int.mul_one]
  refine s_ret ?_
  try simp only [wV, wC, wOp, wUn, oI, oAdd, oSub, oMul, oFdiv, oMod, oPow, oNeg, oLt, oLe, oGt, oGe, oEqN, oIsN, isNon, wTest, wChain, wTru, oTru, wNot, wAnd, wOr, wAndV, wOrV, wNotV, wIfE, wNil, wCons, wTup, wLst, wCB, cLen, cInt, cAbs, cMax2, cMin2, cSum, cSum2, cMaxL, cMinL, cAll, cAny, cList, cTuple, cStr, tyN, cIsi, cReprB, oIx, wNoP, wPart, oSl, wSl, oRevL, wBM, wBM0, tyP, mAppend, mExtend, mPop, mCount, mIndex, wCall, gN, gNil', gCons', gTup', gSub', oSet, iSeq, oIter, iRange1, iRange2, wLc, wipeP, wYes, wIsE, fnD_rt, fnD_ex, fnD_nx, List.getElem?_cons_zero, List.getElem?_cons_succ, List.set_cons_zero, List.set_cons_succ, Bool.false_xor, Bool.true_xor, if_true, if_false, ite_true, ite_false, reduceIte, Bool.false_eq_true, decide_eq_true_eq, decide_true, decide_false, Bool.not_true, Bool.not_false, Bool.not_eq_true', and_true, true_and]
  refine ⟨cdw (by omega) (by omega), cdw (by omega) (by omega), (by decide : 2 ≤ sizeLine), dn_same ?_⟩
  rw [nat_div, nat_div]
  exact h
structure GoodS (p q : Nat) : Prop where
  p1 : p ≤ 1000000000
  q1 : 1 ≤ q
  q2 : q ≤ 1000000000
  g : Nat.gcd p q = 1
theorem gcd_frac {t b : Nat} (hb : 0 < b) : Nat.gcd (t / Nat.gcd t b) (b / Nat.gcd t b) = 1 := by
  have hg : 0 < Nat.gcd t b := Nat.gcd_pos_of_pos_right t hb
  rw [Nat.gcd_div (Nat.gcd_dvd_left t b) (Nat.gcd_dvd_right t b), Nat.div_self hg]
theorem good_frac {t b : Nat} (ht : t ≤ 1000000000) (hb : 0 < b) (hb2 : b ≤ 1000000000) : GoodS (t / Nat.gcd t b) (b / Nat.gcd t b) :=
  ⟨Nat.le_trans (Nat.div_le_self _ _) ht, Nat.div_pos (Nat.gcd_le_right t hb) (Nat.gcd_pos_of_pos_right t hb), Nat.le_trans (Nat.div_le_self _ _) hb2, gcd_frac hb⟩

end L3

set_option Elab.async false
set_option linter.all false
set_option maxRecDepth 100000
set_option maxHeartbeats 600000
namespace L3
open PySem PySem.Spec L2
open PyProof.Rows hiding St
def isFrac : PV → Bool
  | .tup [.int p, .int q] => decide (q ≥ 1) && decide (Nat.gcd p.natAbs q.natAbs = 1)
  | _ => false
theorem r_is_fraction {xs : List PV} {S : Sto} {Q : KE} {E : KX} (hx : xs.all flatP = true) (h : Q (.bl (isFrac (.tup xs))) S) : sp_is_fraction [.tup xs] S Q E := by
  refine ⟨rfl, ?_⟩
  rw [eW_is_fraction, st_is_fraction]
  refine s_seq (s_if ?_)
  try simp only [wV, wC, wOp, wUn, oI, oAdd, oSub, oMul, oFdiv, oMod, oPow, oNeg, oLt, oLe, oGt, oGe, oEqN, oIsN, isNon, wTest, wChain, wTru, oTru, wNot, wAnd, wOr, wAndV, wOrV, wNotV, wIfE, wNil, wCons, wTup, wLst, wCB, cLen, cInt, cAbs, cMax2, cMin2, cSum, cSum2, cMaxL, cMinL, cAll, cAny, cList, cTuple, cStr, tyN, cIsi, cReprB, oIx, wNoP, wPart, oSl, wSl, oRevL, wBM, wBM0, tyP, mAppend, mExtend, mPop, mCount, mIndex, wCall, gN, gNil', gCons', gTup', gSub', oSet, iSeq, oIter, iRange1, iRange2, wLc, wipeP, wYes, wIsE, fnD_rt, fnD_ex, fnD_nx, List.getElem?_cons_zero, List.getElem?_cons_succ, List.set_cons_zero, List.set_cons_succ, Bool.false_xor, Bool.true_xor, if_true, if_false, ite_true, ite_false, reduceIte, Bool.false_eq_true, decide_eq_true_eq, decide_true, decide_false, Bool.not_true, Bool.not_false, Bool.not_eq_true', and_true, true_and]
  refine r_is_tuple_of ?_
  have fls : isFrac (.tup xs) = false → w_is_fraction_2 { nx := w_is_fraction_3 (PD.fnD Q E), rt := dnQ Q, bk := (PD.fnD Q E).bk, ct := (PD.fnD Q E).ct, ex := (PD.fnD Q E).ex } [some (.tup xs)] S := by
    intro hno
    refine s_ret ?_
    try simp only [wV, wC, wOp, wUn, oI, oAdd, oSub, oMul, oFdiv, oMod, oPow, oNeg, oLt, oLe, oGt, oGe, oEqN, oIsN, isNon, wTest, wChain, wTru, oTru, wNot, wAnd, wOr, wAndV, wOrV, wNotV, wIfE, wNil, wCons, wTup, wLst, wCB, cLen, cInt, cAbs, cMax2, cMin2, cSum, cSum2, cMaxL, cMinL, cAll, cAny, cList, cTuple, cStr, tyN, cIsi, cReprB, oIx, wNoP, wPart, oSl, wSl, oRevL, wBM, wBM0, tyP, mAppend, mExtend, mPop, mCount, mIndex, wCall, gN, gNil', gCons', gTup', gSub', oSet, iSeq, oIter, iRange1, iRange2, wLc, wipeP, wYes, wIsE, fnD_rt, fnD_ex, fnD_nx, List.getElem?_cons_zero, List.getElem?_cons_succ, List.set_cons_zero, List.set_cons_succ, Bool.false_xor, Bool.true_xor, if_true, if_false, ite_true, ite_false, reduceIte, Bool.false_eq_true, decide_eq_true_eq, decide_true, decide_false, Bool.not_true, Bool.not_false, Bool.not_eq_true', and_true, true_and]
    rw [hno] at h
    exact dn_same h
  match xs, hx with
  | [], _ => exact fls rfl
  | [x], _ => exact fls (by cases x <;> rfl)
  | x :: y :: z :: r, _ =>
    have e : decide ((((x :: y :: z :: r).length : Nat) : Int) = 2) = false := decide_eq_false (by simp only [List.length_cons]; omega)
    rw [e]
    exact fls (by cases x <;> cases y <;> rfl)
  | [x, y], hx =>
    have e : decide (((([x, y] : List PV).length : Nat) : Int) = 2) = true := decide_eq_true (rfl : ((2 : Nat) : Int) = 2)
    rw [e]
    try simp only [wV, wC, wOp, wUn, oI, oAdd, oSub, oMul, oFdiv, oMod, oPow, oNeg, oLt, oLe, oGt, oGe, oEqN, oIsN, isNon, wTest, wChain, wTru, oTru, wNot, wAnd, wOr, wAndV, wOrV, wNotV, wIfE, wNil, wCons, wTup, wLst, wCB, cLen, cInt, cAbs, cMax2, cMin2, cSum, cSum2, cMaxL, cMinL, cAll, cAny, cList, cTuple, cStr, tyN, cIsi, cReprB, oIx, wNoP, wPart, oSl, wSl, oRevL, wBM, wBM0, tyP, mAppend, mExtend, mPop, mCount, mIndex, wCall, gN, gNil', gCons', gTup', gSub', oSet, iSeq, oIter, iRange1, iRange2, wLc, wipeP, wYes, wIsE, fnD_rt, fnD_ex, fnD_nx, List.getElem?_cons_zero, List.getElem?_cons_succ, List.set_cons_zero, List.set_cons_succ, Bool.false_xor, Bool.true_xor, if_true, if_false, ite_true, ite_false, reduceIte, Bool.false_eq_true, decide_eq_true_eq, decide_true, decide_false, Bool.not_true, Bool.not_false, Bool.not_eq_true', and_true, true_and]
    simp only [List.all_cons, List.all_nil, Bool.and_true, Bool.and_eq_true] at hx
    refine ⟨x, rfl, r_is_integer hx.1 ?_⟩
    cases x with
    | int p =>
      simp only [isInt, wV, wC, wOp, wUn, oI, oAdd, oSub, oMul, oFdiv, oMod, oPow, oNeg, oLt, oLe, oGt, oGe, oEqN, oIsN, isNon, wTest, wChain, wTru, oTru, wNot, wAnd, wOr, wAndV, wOrV, wNotV, wIfE, wNil, wCons, wTup, wLst, wCB, cLen, cInt, cAbs, cMax2, cMin2, cSum, cSum2, cMaxL, cMinL, cAll, cAny, cList, cTuple, cStr, tyN, cIsi, cReprB, oIx, wNoP, wPart, oSl, wSl, oRevL, wBM, wBM0, tyP, mAppend, mExtend, mPop, mCount, mIndex, wCall, gN, gNil', gCons', gTup', gSub', oSet, iSeq, oIter, iRange1, iRange2, wLc, wipeP, wYes, wIsE, fnD_rt, fnD_ex, fnD_nx, List.getElem?_cons_zero, List.getElem?_cons_succ, List.set_cons_zero, List.set_cons_succ, Bool.false_xor, Bool.true_xor, if_true, if_false, ite_true, ite_false, reduceIte, Bool.false_eq_true, decide_eq_true_eq, decide_true, decide_false, Bool.not_true, Bool.not_false, Bool.not_eq_true', and_true, true_and]
      refine ⟨y, rfl, r_is_integer hx.2 ?_⟩
      cases y with
      | int q =>
        simp only [isInt, wV, wC, wOp, wUn, oI, oAdd, oSub, oMul, oFdiv, oMod, oPow, oNeg, oLt, oLe, oGt, oGe, oEqN, oIsN, isNon, wTest, wChain, wTru, oTru, wNot, wAnd, wOr, wAndV, wOrV, wNotV, wIfE, wNil, wCons, wTup, wLst, wCB, cLen, cInt, cAbs, cMax2, cMin2, cSum, cSum2, cMaxL, cMinL, cAll, cAny, cList, cTuple, cStr, tyN, cIsi, cReprB, oIx, wNoP, wPart, oSl, wSl, oRevL, wBM, wBM0, tyP, mAppend, mExtend, mPop, mCount, mIndex, wCall, gN, gNil', gCons', gTup', gSub', oSet, iSeq, oIter, iRange1, iRange2, wLc, wipeP, wYes, wIsE, fnD_rt, fnD_ex, fnD_nx, List.getElem?_cons_zero, List.getElem?_cons_succ, List.set_cons_zero, List.set_cons_succ, Bool.false_xor, Bool.true_xor, if_true, if_false, ite_true, ite_false, reduceIte, Bool.false_eq_true, decide_eq_true_eq, decide_true, decide_false, Bool.not_true, Bool.not_false, Bool.not_eq_true', and_true, true_and]
        refine s_next ?_
        dsimp only
        refine s_ret ?_
        try simp only [wV, wC, wOp, wUn, oI, oAdd, oSub, oMul, oFdiv, oMod, oPow, oNeg, oLt, oLe, oGt, oGe, oEqN, oIsN, isNon, wTest, wChain, wTru, oTru, wNot, wAnd, wOr, wAndV, wOrV, wNotV, wIfE, wNil, wCons, wTup, wLst, wCB, cLen, cInt, cAbs, cMax2, cMin2, cSum, cSum2, cMaxL, cMinL, cAll, cAny, cList, cTuple, cStr, tyN, cIsi, cReprB, oIx, wNoP, wPart, oSl, wSl, oRevL, wBM, wBM0, tyP, mAppend, mExtend, mPop, mCount, mIndex, wCall, gN, gNil', gCons', gTup', gSub', oSet, iSeq, oIter, iRange1, iRange2, wLc, wipeP, wYes, wIsE, fnD_rt, fnD_ex, fnD_nx, List.getElem?_cons_zero, List.getElem?_cons_succ, List.set_cons_zero, List.set_cons_succ, Bool.false_xor, Bool.true_xor, if_true, if_false, ite_true, ite_false, reduceIte, Bool.false_eq_true, decide_eq_true_eq, decide_true, decide_false, Bool.not_true, Bool.not_false, Bool.not_eq_true', and_true, true_and]
        refine ⟨_, rfl, ?_⟩
        try simp only [wV, wC, wOp, wUn, oI, oAdd, oSub, oMul, oFdiv, oMod, oPow, oNeg, oLt, oLe, oGt, oGe, oEqN, oIsN, isNon, wTest, wChain, wTru, oTru, wNot, wAnd, wOr, wAndV, wOrV, wNotV, wIfE, wNil, wCons, wTup, wLst, wCB, cLen, cInt, cAbs, cMax2, cMin2, cSum, cSum2, cMaxL, cMinL, cAll, cAny, cList, cTuple, cStr, tyN, cIsi, cReprB, oIx, wNoP, wPart, oSl, wSl, oRevL, wBM, wBM0, tyP, mAppend, mExtend, mPop, mCount, mIndex, wCall, gN, gNil', gCons', gTup', gSub', oSet, iSeq, oIter, iRange1, iRange2, wLc, wipeP, wYes, wIsE, fnD_rt, fnD_ex, fnD_nx, List.getElem?_cons_zero, List.getElem?_cons_succ, List.set_cons_zero, List.set_cons_succ, Bool.false_xor, Bool.true_xor, if_true, if_false, ite_true, ite_false, reduceIte, Bool.false_eq_true, decide_eq_true_eq, decide_true, decide_false, Bool.not_true, Bool.not_false, Bool.not_eq_true', and_true, true_and]
        by_cases hq : q ≥ 1
        · rw [if_pos hq]
          refine ⟨_, rfl, _, rfl, r_common ?_⟩
          try simp only [wV, wC, wOp, wUn, oI, oAdd, oSub, oMul, oFdiv, oMod, oPow, oNeg, oLt, oLe, oGt, oGe, oEqN, oIsN, isNon, wTest, wChain, wTru, oTru, wNot, wAnd, wOr, wAndV, wOrV, wNotV, wIfE, wNil, wCons, wTup, wLst, wCB, cLen, cInt, cAbs, cMax2, cMin2, cSum, cSum2, cMaxL, cMinL, cAll, cAny, cList, cTuple, cStr, tyN, cIsi, cReprB, oIx, wNoP, wPart, oSl, wSl, oRevL, wBM, wBM0, tyP, mAppend, mExtend, mPop, mCount, mIndex, wCall, gN, gNil', gCons', gTup', gSub', oSet, iSeq, oIter, iRange1, iRange2, wLc, wipeP, wYes, wIsE, fnD_rt, fnD_ex, fnD_nx, List.getElem?_cons_zero, List.getElem?_cons_succ, List.set_cons_zero, List.set_cons_succ, Bool.false_xor, Bool.true_xor, if_true, if_false, ite_true, ite_false, reduceIte, Bool.false_eq_true, decide_eq_true_eq, decide_true, decide_false, Bool.not_true, Bool.not_false, Bool.not_eq_true', and_true, true_and]
          have e2 : isFrac (.tup [.int p, .int q]) = decide (((Nat.gcd p.natAbs q.natAbs : Nat) : Int) = 1) := by
            simp only [isFrac, hq, decide_true, Bool.true_and]
            exact decide_eq_decide.mpr (by omega)
          rw [e2] at h
          exact dn_same h
        · rw [if_neg hq]
          have e2 : isFrac (.tup [.int p, .int q]) = false := by simp only [isFrac, hq, decide_false, Bool.false_and]
          rw [e2] at h
          rw [decide_eq_false hq]
          exact dn_same h
      | non => exact fls rfl
      | bl _ => exact fls rfl
      | str _ => exact fls rfl
      | _ => cases hx.2
    | non => exact fls (by cases y <;> rfl)
    | bl _ => exact fls (by cases y <;> rfl)
    | str _ => exact fls (by cases y <;> rfl)
    | _ => cases hx.1
theorem r_is_fraction_not {x : PV} {t : String} {S : Sto} {Q : KE} {E : KX} (hx : tyN x S t) (hn : kitB t "tuple" = some false) (h : Q (.bl false) S) : sp_is_fraction [x] S Q E := by
  refine ⟨rfl, ?_⟩
  rw [eW_is_fraction, st_is_fraction]
  refine s_seq (s_if ?_)
  try simp only [wV, wC, wOp, wUn, oI, oAdd, oSub, oMul, oFdiv, oMod, oPow, oNeg, oLt, oLe, oGt, oGe, oEqN, oIsN, isNon, wTest, wChain, wTru, oTru, wNot, wAnd, wOr, wAndV, wOrV, wNotV, wIfE, wNil, wCons, wTup, wLst, wCB, cLen, cInt, cAbs, cMax2, cMin2, cSum, cSum2, cMaxL, cMinL, cAll, cAny, cList, cTuple, cStr, tyN, cIsi, cReprB, oIx, wNoP, wPart, oSl, wSl, oRevL, wBM, wBM0, tyP, mAppend, mExtend, mPop, mCount, mIndex, wCall, gN, gNil', gCons', gTup', gSub', oSet, iSeq, oIter, iRange1, iRange2, wLc, wipeP, wYes, wIsE, fnD_rt, fnD_ex, fnD_nx, List.getElem?_cons_zero, List.getElem?_cons_succ, List.set_cons_zero, List.set_cons_succ, Bool.false_xor, Bool.true_xor, if_true, if_false, ite_true, ite_false, reduceIte, Bool.false_eq_true, decide_eq_true_eq, decide_true, decide_false, Bool.not_true, Bool.not_false, Bool.not_eq_true', and_true, true_and]
  refine r_is_tuple_not hx hn ?_
  try simp only [wV, wC, wOp, wUn, oI, oAdd, oSub, oMul, oFdiv, oMod, oPow, oNeg, oLt, oLe, oGt, oGe, oEqN, oIsN, isNon, wTest, wChain, wTru, oTru, wNot, wAnd, wOr, wAndV, wOrV, wNotV, wIfE, wNil, wCons, wTup, wLst, wCB, cLen, cInt, cAbs, cMax2, cMin2, cSum, cSum2, cMaxL, cMinL, cAll, cAny, cList, cTuple, cStr, tyN, cIsi, cReprB, oIx, wNoP, wPart, oSl, wSl, oRevL, wBM, wBM0, tyP, mAppend, mExtend, mPop, mCount, mIndex, wCall, gN, gNil', gCons', gTup', gSub', oSet, iSeq, oIter, iRange1, iRange2, wLc, wipeP, wYes, wIsE, fnD_rt, fnD_ex, fnD_nx, List.getElem?_cons_zero, List.getElem?_cons_succ, List.set_cons_zero, List.set_cons_succ, Bool.false_xor, Bool.true_xor, if_true, if_false, ite_true, ite_false, reduceIte, Bool.false_eq_true, decide_eq_true_eq, decide_true, decide_false, Bool.not_true, Bool.not_false, Bool.not_eq_true', and_true, true_and]
  refine s_ret ?_
  try simp only [wV, wC, wOp, wUn, oI, oAdd, oSub, oMul, oFdiv, oMod, oPow, oNeg, oLt, oLe, oGt, oGe, oEqN, oIsN, isNon, wTest, wChain, wTru, oTru, wNot, wAnd, wOr, wAndV, wOrV, wNotV, wIfE, wNil, wCons, wTup, wLst, wCB, cLen, cInt, cAbs, cMax2, cMin2, cSum, cSum2, cMaxL, cMinL, cAll, cAny, cList, cTuple, cStr, tyN, cIsi, cReprB, oIx, wNoP, wPart, oSl, wSl, oRevL, wBM, wBM0, tyP, mAppend, mExtend, mPop, mCount, mIndex, wCall, gN, gNil', gCons', gTup', gSub', oSet, iSeq, oIter, iRange1, iRange2, wLc, wipeP, wYes, wIsE, fnD_rt, fnD_ex, fnD_nx, List.getElem?_cons_zero, List.getElem?_cons_succ, List.set_cons_zero, List.set_cons_succ, Bool.false_xor, Bool.true_xor, if_true, if_false, ite_true, ite_false, reduceIte, Bool.false_eq_true, decide_eq_true_eq, decide_true, decide_false, Bool.not_true, Bool.not_false, Bool.not_eq_true', and_true, true_and]
  exact dn_same h
theorem good_is {p q : Nat} (g : GoodS p q) : isFrac (sl p q) = true := by
  have := g.q1
  simp only [sl, isFrac, Int.natAbs_natCast, g.g, decide_true, Bool.and_true, decide_eq_true_eq]
  omega
theorem r_check_ok {p q : Nat} {S : Sto} {Q : KE} {E : KX} (g : GoodS p q) (h : Q .non S) : sp_check_slope [sl p q] S Q E := by
  have h1 := g.p1
  have h2 := g.q1
  have h3 := g.q2
  refine ⟨rfl, ?_⟩
  rw [eW_check_slope, st_check_slope]
  refine s_if ?_
  try simp only [wV, wC, wOp, wUn, oI, oAdd, oSub, oMul, oFdiv, oMod, oPow, oNeg, oLt, oLe, oGt, oGe, oEqN, oIsN, isNon, wTest, wChain, wTru, oTru, wNot, wAnd, wOr, wAndV, wOrV, wNotV, wIfE, wNil, wCons, wTup, wLst, wCB, cLen, cInt, cAbs, cMax2, cMin2, cSum, cSum2, cMaxL, cMinL, cAll, cAny, cList, cTuple, cStr, tyN, cIsi, cReprB, oIx, wNoP, wPart, oSl, wSl, oRevL, wBM, wBM0, tyP, mAppend, mExtend, mPop, mCount, mIndex, wCall, gN, gNil', gCons', gTup', gSub', oSet, iSeq, oIter, iRange1, iRange2, wLc, wipeP, wYes, wIsE, fnD_rt, fnD_ex, fnD_nx, List.getElem?_cons_zero, List.getElem?_cons_succ, List.set_cons_zero, List.set_cons_succ, Bool.false_xor, Bool.true_xor, if_true, if_false, ite_true, ite_false, reduceIte, Bool.false_eq_true, decide_eq_true_eq, decide_true, decide_false, Bool.not_true, Bool.not_false, Bool.not_eq_true', and_true, true_and]
  refine r_is_fraction rfl ?_
  have e := good_is g
  unfold sl at e
  rw [e]
  try simp only [sl, wV, wC, wOp, wUn, oI, oAdd, oSub, oMul, oFdiv, oMod, oPow, oNeg, oLt, oLe, oGt, oGe, oEqN, oIsN, isNon, wTest, wChain, wTru, oTru, wNot, wAnd, wOr, wAndV, wOrV, wNotV, wIfE, wNil, wCons, wTup, wLst, wCB, cLen, cInt, cAbs, cMax2, cMin2, cSum, cSum2, cMaxL, cMinL, cAll, cAny, cList, cTuple, cStr, tyN, cIsi, cReprB, oIx, wNoP, wPart, oSl, wSl, oRevL, wBM, wBM0, tyP, mAppend, mExtend, mPop, mCount, mIndex, wCall, gN, gNil', gCons', gTup', gSub', oSet, iSeq, oIter, iRange1, iRange2, wLc, wipeP, wYes, wIsE, fnD_rt, fnD_ex, fnD_nx, List.getElem?_cons_zero, List.getElem?_cons_succ, List.set_cons_zero, List.set_cons_succ, Bool.false_xor, Bool.true_xor, if_true, if_false, ite_true, ite_false, reduceIte, Bool.false_eq_true, decide_eq_true_eq, decide_true, decide_false, Bool.not_true, Bool.not_false, Bool.not_eq_true', and_true, true_and]
  refine ⟨_, rfl, ?_⟩
  try simp only [wV, wC, wOp, wUn, oI, oAdd, oSub, oMul, oFdiv, oMod, oPow, oNeg, oLt, oLe, oGt, oGe, oEqN, oIsN, isNon, wTest, wChain, wTru, oTru, wNot, wAnd, wOr, wAndV, wOrV, wNotV, wIfE, wNil, wCons, wTup, wLst, wCB, cLen, cInt, cAbs, cMax2, cMin2, cSum, cSum2, cMaxL, cMinL, cAll, cAny, cList, cTuple, cStr, tyN, cIsi, cReprB, oIx, wNoP, wPart, oSl, wSl, oRevL, wBM, wBM0, tyP, mAppend, mExtend, mPop, mCount, mIndex, wCall, gN, gNil', gCons', gTup', gSub', oSet, iSeq, oIter, iRange1, iRange2, wLc, wipeP, wYes, wIsE, fnD_rt, fnD_ex, fnD_nx, List.getElem?_cons_zero, List.getElem?_cons_succ, List.set_cons_zero, List.set_cons_succ, Bool.false_xor, Bool.true_xor, if_true, if_false, ite_true, ite_false, reduceIte, Bool.false_eq_true, decide_eq_true_eq, decide_true, decide_false, Bool.not_true, Bool.not_false, Bool.not_eq_true', and_true, true_and]
  rw [if_neg (by omega)]
  refine ⟨_, rfl, ?_⟩
  try simp only [wV, wC, wOp, wUn, oI, oAdd, oSub, oMul, oFdiv, oMod, oPow, oNeg, oLt, oLe, oGt, oGe, oEqN, oIsN, isNon, wTest, wChain, wTru, oTru, wNot, wAnd, wOr, wAndV, wOrV, wNotV, wIfE, wNil, wCons, wTup, wLst, wCB, cLen, cInt, cAbs, cMax2, cMin2, cSum, cSum2, cMaxL, cMinL, cAll, cAny, cList, cTuple, cStr, tyN, cIsi, cReprB, oIx, wNoP, wPart, oSl, wSl, oRevL, wBM, wBM0, tyP, mAppend, mExtend, mPop, mCount, mIndex, wCall, gN, gNil', gCons', gTup', gSub', oSet, iSeq, oIter, iRange1, iRange2, wLc, wipeP, wYes, wIsE, fnD_rt, fnD_ex, fnD_nx, List.getElem?_cons_zero, List.getElem?_cons_succ, List.set_cons_zero, List.set_cons_succ, Bool.false_xor, Bool.true_xor, if_true, if_false, ite_true, ite_false, reduceIte, Bool.false_eq_true, decide_eq_true_eq, decide_true, decide_false, Bool.not_true, Bool.not_false, Bool.not_eq_true', and_true, true_and]
  rw [if_neg (by omega)]
  refine ⟨_, rfl, ?_⟩
  try simp only [wV, wC, wOp, wUn, oI, oAdd, oSub, oMul, oFdiv, oMod, oPow, oNeg, oLt, oLe, oGt, oGe, oEqN, oIsN, isNon, wTest, wChain, wTru, oTru, wNot, wAnd, wOr, wAndV, wOrV, wNotV, wIfE, wNil, wCons, wTup, wLst, wCB, cLen, cInt, cAbs, cMax2, cMin2, cSum, cSum2, cMaxL, cMinL, cAll, cAny, cList, cTuple, cStr, tyN, cIsi, cReprB, oIx, wNoP, wPart, oSl, wSl, oRevL, wBM, wBM0, tyP, mAppend, mExtend, mPop, mCount, mIndex, wCall, gN, gNil', gCons', gTup', gSub', oSet, iSeq, oIter, iRange1, iRange2, wLc, wipeP, wYes, wIsE, fnD_rt, fnD_ex, fnD_nx, List.getElem?_cons_zero, List.getElem?_cons_succ, List.set_cons_zero, List.set_cons_succ, Bool.false_xor, Bool.true_xor, if_true, if_false, ite_true, ite_false, reduceIte, Bool.false_eq_true, decide_eq_true_eq, decide_true, decide_false, Bool.not_true, Bool.not_false, Bool.not_eq_true', and_true, true_and]
  rw [if_neg (by omega)]
  refine s_next ?_
  try simp only [wV, wC, wOp, wUn, oI, oAdd, oSub, oMul, oFdiv, oMod, oPow, oNeg, oLt, oLe, oGt, oGe, oEqN, oIsN, isNon, wTest, wChain, wTru, oTru, wNot, wAnd, wOr, wAndV, wOrV, wNotV, wIfE, wNil, wCons, wTup, wLst, wCB, cLen, cInt, cAbs, cMax2, cMin2, cSum, cSum2, cMaxL, cMinL, cAll, cAny, cList, cTuple, cStr, tyN, cIsi, cReprB, oIx, wNoP, wPart, oSl, wSl, oRevL, wBM, wBM0, tyP, mAppend, mExtend, mPop, mCount, mIndex, wCall, gN, gNil', gCons', gTup', gSub', oSet, iSeq, oIter, iRange1, iRange2, wLc, wipeP, wYes, wIsE, fnD_rt, fnD_ex, fnD_nx, List.getElem?_cons_zero, List.getElem?_cons_succ, List.set_cons_zero, List.set_cons_succ, Bool.false_xor, Bool.true_xor, if_true, if_false, ite_true, ite_false, reduceIte, Bool.false_eq_true, decide_eq_true_eq, decide_true, decide_false, Bool.not_true, Bool.not_false, Bool.not_eq_true', and_true, true_and]
  exact dn_same h
def chk : PV → Bool
  | .tup [.int p, .int q] => isFrac (.tup [.int p, .int q]) && decide (0 ≤ p) && decide (p ≤ 1000000000) && decide (q ≤ 1000000000)
  | _ => false
def BadX (S : Sto) (x : PV) : Prop := (∃ xs, x = .tup xs ∧ xs.all flatP = true ∧ chk x = false) ∨ ∃ t, tyN x S t ∧ kitB t "tuple" = some false
theorem r_check_bad {x : PV} {S : Sto} {Q : KE} {E : KX} (hb : BadX S x) (h : E ⟨"BadSlope", none⟩ S) : sp_check_slope [x] S Q E := by
  refine ⟨rfl, ?_⟩
  rw [eW_check_slope, st_check_slope]
  refine s_if ?_
  try simp only [wV, wC, wOp, wUn, oI, oAdd, oSub, oMul, oFdiv, oMod, oPow, oNeg, oLt, oLe, oGt, oGe, oEqN, oIsN, isNon, wTest, wChain, wTru, oTru, wNot, wAnd, wOr, wAndV, wOrV, wNotV, wIfE, wNil, wCons, wTup, wLst, wCB, cLen, cInt, cAbs, cMax2, cMin2, cSum, cSum2, cMaxL, cMinL, cAll, cAny, cList, cTuple, cStr, tyN, cIsi, cReprB, oIx, wNoP, wPart, oSl, wSl, oRevL, wBM, wBM0, tyP, mAppend, mExtend, mPop, mCount, mIndex, wCall, gN, gNil', gCons', gTup', gSub', oSet, iSeq, oIter, iRange1, iRange2, wLc, wipeP, wYes, wIsE, fnD_rt, fnD_ex, fnD_nx, List.getElem?_cons_zero, List.getElem?_cons_succ, List.set_cons_zero, List.set_cons_succ, Bool.false_xor, Bool.true_xor, if_true, if_false, ite_true, ite_false, reduceIte, Bool.false_eq_true, decide_eq_true_eq, decide_true, decide_false, Bool.not_true, Bool.not_false, Bool.not_eq_true', and_true, true_and]
  rcases hb with ⟨xs, rfl, hf, hc⟩ | ⟨t, ht, hk⟩
  · refine r_is_fraction hf ?_
    cases hi : isFrac (.tup xs) with
    | false =>
      try simp only [wV, wC, wOp, wUn, oI, oAdd, oSub, oMul, oFdiv, oMod, oPow, oNeg, oLt, oLe, oGt, oGe, oEqN, oIsN, isNon, wTest, wChain, wTru, oTru, wNot, wAnd, wOr, wAndV, wOrV, wNotV, wIfE, wNil, wCons, wTup, wLst, wCB, cLen, cInt, cAbs, cMax2, cMin2, cSum, cSum2, cMaxL, cMinL, cAll, cAny, cList, cTuple, cStr, tyN, cIsi, cReprB, oIx, wNoP, wPart, oSl, wSl, oRevL, wBM, wBM0, tyP, mAppend, mExtend, mPop, mCount, mIndex, wCall, gN, gNil', gCons', gTup', gSub', oSet, iSeq, oIter, iRange1, iRange2, wLc, wipeP, wYes, wIsE, fnD_rt, fnD_ex, fnD_nx, List.getElem?_cons_zero, List.getElem?_cons_succ, List.set_cons_zero, List.set_cons_succ, Bool.false_xor, Bool.true_xor, if_true, if_false, ite_true, ite_false, reduceIte, Bool.false_eq_true, decide_eq_true_eq, decide_true, decide_false, Bool.not_true, Bool.not_false, Bool.not_eq_true', and_true, true_and]
      exact s_raise ⟨S, .refl S, h⟩
    | true =>
      try simp only [wV, wC, wOp, wUn, oI, oAdd, oSub, oMul, oFdiv, oMod, oPow, oNeg, oLt, oLe, oGt, oGe, oEqN, oIsN, isNon, wTest, wChain, wTru, oTru, wNot, wAnd, wOr, wAndV, wOrV, wNotV, wIfE, wNil, wCons, wTup, wLst, wCB, cLen, cInt, cAbs, cMax2, cMin2, cSum, cSum2, cMaxL, cMinL, cAll, cAny, cList, cTuple, cStr, tyN, cIsi, cReprB, oIx, wNoP, wPart, oSl, wSl, oRevL, wBM, wBM0, tyP, mAppend, mExtend, mPop, mCount, mIndex, wCall, gN, gNil', gCons', gTup', gSub', oSet, iSeq, oIter, iRange1, iRange2, wLc, wipeP, wYes, wIsE, fnD_rt, fnD_ex, fnD_nx, List.getElem?_cons_zero, List.getElem?_cons_succ, List.set_cons_zero, List.set_cons_succ, Bool.false_xor, Bool.true_xor, if_true, if_false, ite_true, ite_false, reduceIte, Bool.false_eq_true, decide_eq_true_eq, decide_true, decide_false, Bool.not_true, Bool.not_false, Bool.not_eq_true', and_true, true_and]
      unfold isFrac at hi
      split at hi
      · rename_i p q e
        cases e
        refine ⟨_, rfl, ?_⟩
        try simp only [wV, wC, wOp, wUn, oI, oAdd, oSub, oMul, oFdiv, oMod, oPow, oNeg, oLt, oLe, oGt, oGe, oEqN, oIsN, isNon, wTest, wChain, wTru, oTru, wNot, wAnd, wOr, wAndV, wOrV, wNotV, wIfE, wNil, wCons, wTup, wLst, wCB, cLen, cInt, cAbs, cMax2, cMin2, cSum, cSum2, cMaxL, cMinL, cAll, cAny, cList, cTuple, cStr, tyN, cIsi, cReprB, oIx, wNoP, wPart, oSl, wSl, oRevL, wBM, wBM0, tyP, mAppend, mExtend, mPop, mCount, mIndex, wCall, gN, gNil', gCons', gTup', gSub', oSet, iSeq, oIter, iRange1, iRange2, wLc, wipeP, wYes, wIsE, fnD_rt, fnD_ex, fnD_nx, List.getElem?_cons_zero, List.getElem?_cons_succ, List.set_cons_zero, List.set_cons_succ, Bool.false_xor, Bool.true_xor, if_true, if_false, ite_true, ite_false, reduceIte, Bool.false_eq_true, decide_eq_true_eq, decide_true, decide_false, Bool.not_true, Bool.not_false, Bool.not_eq_true', and_true, true_and]
        split
        · exact s_raise ⟨S, .refl S, h⟩
        · refine ⟨_, rfl, ?_⟩
          try simp only [wV, wC, wOp, wUn, oI, oAdd, oSub, oMul, oFdiv, oMod, oPow, oNeg, oLt, oLe, oGt, oGe, oEqN, oIsN, isNon, wTest, wChain, wTru, oTru, wNot, wAnd, wOr, wAndV, wOrV, wNotV, wIfE, wNil, wCons, wTup, wLst, wCB, cLen, cInt, cAbs, cMax2, cMin2, cSum, cSum2, cMaxL, cMinL, cAll, cAny, cList, cTuple, cStr, tyN, cIsi, cReprB, oIx, wNoP, wPart, oSl, wSl, oRevL, wBM, wBM0, tyP, mAppend, mExtend, mPop, mCount, mIndex, wCall, gN, gNil', gCons', gTup', gSub', oSet, iSeq, oIter, iRange1, iRange2, wLc, wipeP, wYes, wIsE, fnD_rt, fnD_ex, fnD_nx, List.getElem?_cons_zero, List.getElem?_cons_succ, List.set_cons_zero, List.set_cons_succ, Bool.false_xor, Bool.true_xor, if_true, if_false, ite_true, ite_false, reduceIte, Bool.false_eq_true, decide_eq_true_eq, decide_true, decide_false, Bool.not_true, Bool.not_false, Bool.not_eq_true', and_true, true_and]
          split
          · exact s_raise ⟨S, .refl S, h⟩
          · refine ⟨_, rfl, ?_⟩
            try simp only [wV, wC, wOp, wUn, oI, oAdd, oSub, oMul, oFdiv, oMod, oPow, oNeg, oLt, oLe, oGt, oGe, oEqN, oIsN, isNon, wTest, wChain, wTru, oTru, wNot, wAnd, wOr, wAndV, wOrV, wNotV, wIfE, wNil, wCons, wTup, wLst, wCB, cLen, cInt, cAbs, cMax2, cMin2, cSum, cSum2, cMaxL, cMinL, cAll, cAny, cList, cTuple, cStr, tyN, cIsi, cReprB, oIx, wNoP, wPart, oSl, wSl, oRevL, wBM, wBM0, tyP, mAppend, mExtend, mPop, mCount, mIndex, wCall, gN, gNil', gCons', gTup', gSub', oSet, iSeq, oIter, iRange1, iRange2, wLc, wipeP, wYes, wIsE, fnD_rt, fnD_ex, fnD_nx, List.getElem?_cons_zero, List.getElem?_cons_succ, List.set_cons_zero, List.set_cons_succ, Bool.false_xor, Bool.true_xor, if_true, if_false, ite_true, ite_false, reduceIte, Bool.false_eq_true, decide_eq_true_eq, decide_true, decide_false, Bool.not_true, Bool.not_false, Bool.not_eq_true', and_true, true_and]
            split
            · exact s_raise ⟨S, .refl S, h⟩
            · exfalso
              rename_i h1 h2 h3
              have : chk (.tup [.int p, .int q]) = true := by
                simp only [chk, isFrac, hi, Bool.true_and, Bool.and_eq_true, decide_eq_true_eq]
                omega
              rw [this] at hc; cases hc
      · cases hi
  · refine r_is_fraction_not ht hk ?_
    try simp only [wV, wC, wOp, wUn, oI, oAdd, oSub, oMul, oFdiv, oMod, oPow, oNeg, oLt, oLe, oGt, oGe, oEqN, oIsN, isNon, wTest, wChain, wTru, oTru, wNot, wAnd, wOr, wAndV, wOrV, wNotV, wIfE, wNil, wCons, wTup, wLst, wCB, cLen, cInt, cAbs, cMax2, cMin2, cSum, cSum2, cMaxL, cMinL, cAll, cAny, cList, cTuple, cStr, tyN, cIsi, cReprB, oIx, wNoP, wPart, oSl, wSl, oRevL, wBM, wBM0, tyP, mAppend, mExtend, mPop, mCount, mIndex, wCall, gN, gNil', gCons', gTup', gSub', oSet, iSeq, oIter, iRange1, iRange2, wLc, wipeP, wYes, wIsE, fnD_rt, fnD_ex, fnD_nx, List.getElem?_cons_zero, List.getElem?_cons_succ, List.set_cons_zero, List.set_cons_succ, Bool.false_xor, Bool.true_xor, if_true, if_false, ite_true, ite_false, reduceIte, Bool.false_eq_true, decide_eq_true_eq, decide_true, decide_false, Bool.not_true, Bool.not_false, Bool.not_eq_true', and_true, true_and]
    exact s_raise ⟨S, .refl S, h⟩
theorem p18 : (10 ^ 18 : Nat) = 1000000000000000000 := by decide
theorem mul_le18 {a b : Nat} (ha : a ≤ 1000000000) (hb : b ≤ 1000000000) : a * b ≤ 1000000000000000000 := Nat.le_trans (Nat.mul_le_mul ha hb) (by decide)
theorem within_ok {k : Nat} {hi : Int} (h : (k : Int) ≤ hi) : inR (.int k) 0 hi = true := by simp only [inR, Bool.and_eq_true, decide_eq_true_eq]; omega
/-- the whole part -/
def wpN (p q p' q' k : Nat) : Nat := (p * q' * k + p' * q) / (q * q')
theorem r_whole_part {p q p' q' k : Nat} {S : Sto} {Q : KE} {E : KX} (g : GoodS p q) (g' : GoodS p' q') (hk : k ≤ 1000000000000000000) (h : Q (.int (wpN p q p' q' k : Nat)) S) : sp_whole_part [sl p q, sl p' q', .int k] S Q E := by
  have h1 := g.p1
  have h2 := g.q1
  have h3 := g.q2
  have h1' := g'.p1
  have h2' := g'.q1
  have h3' := g'.q2
  have hm := mul_le18 h3 h3'
  have hm0 : 0 < q * q' := Nat.mul_pos h2 h2'
  refine ⟨rfl, ?_⟩
  rw [eW_whole_part, st_whole_part]
  refine s_seq (s_expr ?_)
  try simp only [wV, wC, wOp, wUn, oI, oAdd, oSub, oMul, oFdiv, oMod, oPow, oNeg, oLt, oLe, oGt, oGe, oEqN, oIsN, isNon, wTest, wChain, wTru, oTru, wNot, wAnd, wOr, wAndV, wOrV, wNotV, wIfE, wNil, wCons, wTup, wLst, wCB, cLen, cInt, cAbs, cMax2, cMin2, cSum, cSum2, cMaxL, cMinL, cAll, cAny, cList, cTuple, cStr, tyN, cIsi, cReprB, oIx, wNoP, wPart, oSl, wSl, oRevL, wBM, wBM0, tyP, mAppend, mExtend, mPop, mCount, mIndex, wCall, gN, gNil', gCons', gTup', gSub', oSet, iSeq, oIter, iRange1, iRange2, wLc, wipeP, wYes, wIsE, fnD_rt, fnD_ex, fnD_nx, List.getElem?_cons_zero, List.getElem?_cons_succ, List.set_cons_zero, List.set_cons_succ, Bool.false_xor, Bool.true_xor, if_true, if_false, ite_true, ite_false, reduceIte, Bool.false_eq_true, decide_eq_true_eq, decide_true, decide_false, Bool.not_true, Bool.not_false, Bool.not_eq_true', and_true, true_and]
  refine r_check_ok g ?_
  refine s_seq (s_expr ?_)
  try simp only [wV, wC, wOp, wUn, oI, oAdd, oSub, oMul, oFdiv, oMod, oPow, oNeg, oLt, oLe, oGt, oGe, oEqN, oIsN, isNon, wTest, wChain, wTru, oTru, wNot, wAnd, wOr, wAndV, wOrV, wNotV, wIfE, wNil, wCons, wTup, wLst, wCB, cLen, cInt, cAbs, cMax2, cMin2, cSum, cSum2, cMaxL, cMinL, cAll, cAny, cList, cTuple, cStr, tyN, cIsi, cReprB, oIx, wNoP, wPart, oSl, wSl, oRevL, wBM, wBM0, tyP, mAppend, mExtend, mPop, mCount, mIndex, wCall, gN, gNil', gCons', gTup', gSub', oSet, iSeq, oIter, iRange1, iRange2, wLc, wipeP, wYes, wIsE, fnD_rt, fnD_ex, fnD_nx, List.getElem?_cons_zero, List.getElem?_cons_succ, List.set_cons_zero, List.set_cons_succ, Bool.false_xor, Bool.true_xor, if_true, if_false, ite_true, ite_false, reduceIte, Bool.false_eq_true, decide_eq_true_eq, decide_true, decide_false, Bool.not_true, Bool.not_false, Bool.not_eq_true', and_true, true_and]
  refine r_check_ok g' ?_
  refine s_seq (s_if ?_)
  try simp only [wV, wC, wOp, wUn, oI, oAdd, oSub, oMul, oFdiv, oMod, oPow, oNeg, oLt, oLe, oGt, oGe, oEqN, oIsN, isNon, wTest, wChain, wTru, oTru, wNot, wAnd, wOr, wAndV, wOrV, wNotV, wIfE, wNil, wCons, wTup, wLst, wCB, cLen, cInt, cAbs, cMax2, cMin2, cSum, cSum2, cMaxL, cMinL, cAll, cAny, cList, cTuple, cStr, tyN, cIsi, cReprB, oIx, wNoP, wPart, oSl, wSl, oRevL, wBM, wBM0, tyP, mAppend, mExtend, mPop, mCount, mIndex, wCall, gN, gNil', gCons', gTup', gSub', oSet, iSeq, oIter, iRange1, iRange2, wLc, wipeP, wYes, wIsE, fnD_rt, fnD_ex, fnD_nx, List.getElem?_cons_zero, List.getElem?_cons_succ, List.set_cons_zero, List.set_cons_succ, Bool.false_xor, Bool.true_xor, if_true, if_false, ite_true, ite_false, reduceIte, Bool.false_eq_true, decide_eq_true_eq, decide_true, decide_false, Bool.not_true, Bool.not_false, Bool.not_eq_true', and_true, true_and]
  refine r_is_within rfl ?_
  rw [within_ok (by omega)]
  try simp only [wV, wC, wOp, wUn, oI, oAdd, oSub, oMul, oFdiv, oMod, oPow, oNeg, oLt, oLe, oGt, oGe, oEqN, oIsN, isNon, wTest, wChain, wTru, oTru, wNot, wAnd, wOr, wAndV, wOrV, wNotV, wIfE, wNil, wCons, wTup, wLst, wCB, cLen, cInt, cAbs, cMax2, cMin2, cSum, cSum2, cMaxL, cMinL, cAll, cAny, cList, cTuple, cStr, tyN, cIsi, cReprB, oIx, wNoP, wPart, oSl, wSl, oRevL, wBM, wBM0, tyP, mAppend, mExtend, mPop, mCount, mIndex, wCall, gN, gNil', gCons', gTup', gSub', oSet, iSeq, oIter, iRange1, iRange2, wLc, wipeP, wYes, wIsE, fnD_rt, fnD_ex, fnD_nx, List.getElem?_cons_zero, List.getElem?_cons_succ, List.set_cons_zero, List.set_cons_succ, Bool.false_xor, Bool.true_xor, if_true, if_false, ite_true, ite_false, reduceIte, Bool.false_eq_true, decide_eq_true_eq, decide_true, decide_false, Bool.not_true, Bool.not_false, Bool.not_eq_true', and_true, true_and]
  refine s_next ?_
  dsimp only
  refine s_seq (s_set ?_)
  try simp only [sl, wV, wC, wOp, wUn, oI, oAdd, oSub, oMul, oFdiv, oMod, oPow, oNeg, oLt, oLe, oGt, oGe, oEqN, oIsN, isNon, wTest, wChain, wTru, oTru, wNot, wAnd, wOr, wAndV, wOrV, wNotV, wIfE, wNil, wCons, wTup, wLst, wCB, cLen, cInt, cAbs, cMax2, cMin2, cSum, cSum2, cMaxL, cMinL, cAll, cAny, cList, cTuple, cStr, tyN, cIsi, cReprB, oIx, wNoP, wPart, oSl, wSl, oRevL, wBM, wBM0, tyP, mAppend, mExtend, mPop, mCount, mIndex, wCall, gN, gNil', gCons', gTup', gSub', oSet, iSeq, oIter, iRange1, iRange2, wLc, wipeP, wYes, wIsE, fnD_rt, fnD_ex, fnD_nx, List.getElem?_cons_zero, List.getElem?_cons_succ, List.set_cons_zero, List.set_cons_succ, Bool.false_xor, Bool.true_xor, if_true, if_false, ite_true, ite_false, reduceIte, Bool.false_eq_true, decide_eq_true_eq, decide_true, decide_false, Bool.not_true, Bool.not_false, Bool.not_eq_true', and_true, true_and]
  refine ⟨_, rfl, CMl (by omega), _, rfl, CMr (by omega), _, rfl, _, rfl, CMl (by omega), ?_⟩
  refine s_ret ?_
  try simp only [wV, wC, wOp, wUn, oI, oAdd, oSub, oMul, oFdiv, oMod, oPow, oNeg, oLt, oLe, oGt, oGe, oEqN, oIsN, isNon, wTest, wChain, wTru, oTru, wNot, wAnd, wOr, wAndV, wOrV, wNotV, wIfE, wNil, wCons, wTup, wLst, wCB, cLen, cInt, cAbs, cMax2, cMin2, cSum, cSum2, cMaxL, cMinL, cAll, cAny, cList, cTuple, cStr, tyN, cIsi, cReprB, oIx, wNoP, wPart, oSl, wSl, oRevL, wBM, wBM0, tyP, mAppend, mExtend, mPop, mCount, mIndex, wCall, gN, gNil', gCons', gTup', gSub', oSet, iSeq, oIter, iRange1, iRange2, wLc, wipeP, wYes, wIsE, fnD_rt, fnD_ex, fnD_nx, List.getElem?_cons_zero, List.getElem?_cons_succ, List.set_cons_zero, List.set_cons_succ, Bool.false_xor, Bool.true_xor, if_true, if_false, ite_true, ite_false, reduceIte, Bool.false_eq_true, decide_eq_true_eq, decide_true, decide_false, Bool.not_true, Bool.not_false, Bool.not_eq_true', and_true, true_and]
  refine ⟨_, rfl, _, rfl, CMl (by omega), cdw (by rw [nat_mul]; omega) (by rw [nat_mul]; omega), dn_same ?_⟩
  rw [nat_mul, nat_mul, nat_mul, nat_add, nat_mul, nat_div]
  have e : p * k * q' + p' * q = p * q' * k + p' * q := by rw [Nat.mul_assoc, Nat.mul_comm k q', ← Nat.mul_assoc]
  rw [e]
  exact h
theorem r_beat_row {p q p' q' n : Nat} {S : Sto} {Q : KE} {E : KX} (g : GoodS p q) (g' : GoodS p' q') (hn : n ≤ 5000) (h : Q (.tup (((List.range n).map fun i => ((wpN p q p' q' i : Nat) : Int)).map PV.int)) S) : sp_beat_row [sl p q, sl p' q', .int n] S Q E := by
  refine ⟨rfl, ?_⟩
  rw [eW_beat_row, st_beat_row]
  refine s_seq (s_if ?_)
  try simp only [wV, wC, wOp, wUn, oI, oAdd, oSub, oMul, oFdiv, oMod, oPow, oNeg, oLt, oLe, oGt, oGe, oEqN, oIsN, isNon, wTest, wChain, wTru, oTru, wNot, wAnd, wOr, wAndV, wOrV, wNotV, wIfE, wNil, wCons, wTup, wLst, wCB, cLen, cInt, cAbs, cMax2, cMin2, cSum, cSum2, cMaxL, cMinL, cAll, cAny, cList, cTuple, cStr, tyN, cIsi, cReprB, oIx, wNoP, wPart, oSl, wSl, oRevL, wBM, wBM0, tyP, mAppend, mExtend, mPop, mCount, mIndex, wCall, gN, gNil', gCons', gTup', gSub', oSet, iSeq, oIter, iRange1, iRange2, wLc, wipeP, wYes, wIsE, fnD_rt, fnD_ex, fnD_nx, List.getElem?_cons_zero, List.getElem?_cons_succ, List.set_cons_zero, List.set_cons_succ, Bool.false_xor, Bool.true_xor, if_true, if_false, ite_true, ite_false, reduceIte, Bool.false_eq_true, decide_eq_true_eq, decide_true, decide_false, Bool.not_true, Bool.not_false, Bool.not_eq_true', and_true, true_and]
  refine r_is_within rfl ?_
  rw [within_ok (by omega)]
  try simp only [wV, wC, wOp, wUn, oI, oAdd, oSub, oMul, oFdiv, oMod, oPow, oNeg, oLt, oLe, oGt, oGe, oEqN, oIsN, isNon, wTest, wChain, wTru, oTru, wNot, wAnd, wOr, wAndV, wOrV, wNotV, wIfE, wNil, wCons, wTup, wLst, wCB, cLen, cInt, cAbs, cMax2, cMin2, cSum, cSum2, cMaxL, cMinL, cAll, cAny, cList, cTuple, cStr, tyN, cIsi, cReprB, oIx, wNoP, wPart, oSl, wSl, oRevL, wBM, wBM0, tyP, mAppend, mExtend, mPop, mCount, mIndex, wCall, gN, gNil', gCons', gTup', gSub', oSet, iSeq, oIter, iRange1, iRange2, wLc, wipeP, wYes, wIsE, fnD_rt, fnD_ex, fnD_nx, List.getElem?_cons_zero, List.getElem?_cons_succ, List.set_cons_zero, List.set_cons_succ, Bool.false_xor, Bool.true_xor, if_true, if_false, ite_true, ite_false, reduceIte, Bool.false_eq_true, decide_eq_true_eq, decide_true, decide_false, Bool.not_true, Bool.not_false, Bool.not_eq_true', and_true, true_and]
  refine s_next ?_
  dsimp only
  refine s_seq (s_expr ?_)
  try simp only [wV, wC, wOp, wUn, oI, oAdd, oSub, oMul, oFdiv, oMod, oPow, oNeg, oLt, oLe, oGt, oGe, oEqN, oIsN, isNon, wTest, wChain, wTru, oTru, wNot, wAnd, wOr, wAndV, wOrV, wNotV, wIfE, wNil, wCons, wTup, wLst, wCB, cLen, cInt, cAbs, cMax2, cMin2, cSum, cSum2, cMaxL, cMinL, cAll, cAny, cList, cTuple, cStr, tyN, cIsi, cReprB, oIx, wNoP, wPart, oSl, wSl, oRevL, wBM, wBM0, tyP, mAppend, mExtend, mPop, mCount, mIndex, wCall, gN, gNil', gCons', gTup', gSub', oSet, iSeq, oIter, iRange1, iRange2, wLc, wipeP, wYes, wIsE, fnD_rt, fnD_ex, fnD_nx, List.getElem?_cons_zero, List.getElem?_cons_succ, List.set_cons_zero, List.set_cons_succ, Bool.false_xor, Bool.true_xor, if_true, if_false, ite_true, ite_false, reduceIte, Bool.false_eq_true, decide_eq_true_eq, decide_true, decide_false, Bool.not_true, Bool.not_false, Bool.not_eq_true', and_true, true_and]
  refine r_check_ok g ?_
  refine s_seq (s_expr ?_)
  try simp only [wV, wC, wOp, wUn, oI, oAdd, oSub, oMul, oFdiv, oMod, oPow, oNeg, oLt, oLe, oGt, oGe, oEqN, oIsN, isNon, wTest, wChain, wTru, oTru, wNot, wAnd, wOr, wAndV, wOrV, wNotV, wIfE, wNil, wCons, wTup, wLst, wCB, cLen, cInt, cAbs, cMax2, cMin2, cSum, cSum2, cMaxL, cMinL, cAll, cAny, cList, cTuple, cStr, tyN, cIsi, cReprB, oIx, wNoP, wPart, oSl, wSl, oRevL, wBM, wBM0, tyP, mAppend, mExtend, mPop, mCount, mIndex, wCall, gN, gNil', gCons', gTup', gSub', oSet, iSeq, oIter, iRange1, iRange2, wLc, wipeP, wYes, wIsE, fnD_rt, fnD_ex, fnD_nx, List.getElem?_cons_zero, List.getElem?_cons_succ, List.set_cons_zero, List.set_cons_succ, Bool.false_xor, Bool.true_xor, if_true, if_false, ite_true, ite_false, reduceIte, Bool.false_eq_true, decide_eq_true_eq, decide_true, decide_false, Bool.not_true, Bool.not_false, Bool.not_eq_true', and_true, true_and]
  refine r_check_ok g' ?_
  refine s_ret ?_
  try simp only [wV, wC, wOp, wUn, oI, oAdd, oSub, oMul, oFdiv, oMod, oPow, oNeg, oLt, oLe, oGt, oGe, oEqN, oIsN, isNon, wTest, wChain, wTru, oTru, wNot, wAnd, wOr, wAndV, wOrV, wNotV, wIfE, wNil, wCons, wTup, wLst, wCB, cLen, cInt, cAbs, cMax2, cMin2, cSum, cSum2, cMaxL, cMinL, cAll, cAny, cList, cTuple, cStr, tyN, cIsi, cReprB, oIx, wNoP, wPart, oSl, wSl, oRevL, wBM, wBM0, tyP, mAppend, mExtend, mPop, mCount, mIndex, wCall, gN, gNil', gCons', gTup', gSub', oSet, iSeq, oIter, iRange1, iRange2, wLc, wipeP, wYes, wIsE, fnD_rt, fnD_ex, fnD_nx, List.getElem?_cons_zero, List.getElem?_cons_succ, List.set_cons_zero, List.set_cons_succ, Bool.false_xor, Bool.true_xor, if_true, if_false, ite_true, ite_false, reduceIte, Bool.false_eq_true, decide_eq_true_eq, decide_true, decide_false, Bool.not_true, Bool.not_false, Bool.not_eq_true', and_true, true_and]
  refine ⟨by omega, by omega, ?_⟩
  rw [Int.toNat_natCast, rangeP_map]
  refine lc_map (fun S' => S' = S) (List.range n) _ (fun i => PV.int ((wpN p q p' q' i : Nat) : Int)) (by rw [List.length_range]; exact Nat.le_trans hn (by decide)) (fun _ _ => trivial) (fun x hx S' C e k => ?_) (fun S' e D hD => ?_) rfl
  · subst e
    rw [List.mem_range] at hx
    try simp only [wV, wC, wOp, wUn, oI, oAdd, oSub, oMul, oFdiv, oMod, oPow, oNeg, oLt, oLe, oGt, oGe, oEqN, oIsN, isNon, wTest, wChain, wTru, oTru, wNot, wAnd, wOr, wAndV, wOrV, wNotV, wIfE, wNil, wCons, wTup, wLst, wCB, cLen, cInt, cAbs, cMax2, cMin2, cSum, cSum2, cMaxL, cMinL, cAll, cAny, cList, cTuple, cStr, tyN, cIsi, cReprB, oIx, wNoP, wPart, oSl, wSl, oRevL, wBM, wBM0, tyP, mAppend, mExtend, mPop, mCount, mIndex, wCall, gN, gNil', gCons', gTup', gSub', oSet, iSeq, oIter, iRange1, iRange2, wLc, wipeP, wYes, wIsE, fnD_rt, fnD_ex, fnD_nx, List.getElem?_cons_zero, List.getElem?_cons_succ, List.set_cons_zero, List.set_cons_succ, Bool.false_xor, Bool.true_xor, if_true, if_false, ite_true, ite_false, reduceIte, Bool.false_eq_true, decide_eq_true_eq, decide_true, decide_false, Bool.not_true, Bool.not_false, Bool.not_eq_true', and_true, true_and]
    rw [Int.zero_add]
    exact r_whole_part g g' (by omega) (k _ rfl)
  · subst e
    refine ⟨_, .inl supd_same, dn_sub (.new hD nofun) ?_⟩
    rw [map_int (List.range n) (fun i => ((wpN p q p' q' i : Nat) : Int))]
    exact h

end L3

set_option Elab.async false
set_option linter.all false
set_option maxRecDepth 100000
set_option maxHeartbeats 600000
namespace L3
open PySem PySem.Spec L2
open PyProof.Rows hiding St
theorem nat_sub1 {n : Nat} (h : 0 < n) : (n : Int) - 1 = ((n - 1 : Nat) : Int) := by omega
theorem top_le {n a b m : Nat} (ha : a < m) (hb : b < m) : (a * n + b) / m ≤ n := by
  have h1 : (a + 1) * n ≤ m * n := Nat.mul_le_mul_right n ha
  rw [Nat.add_mul, Nat.one_mul] at h1
  have : (a * n + b) / m < n + 1 := by
    rw [Nat.div_lt_iff_lt_mul (by omega), Nat.add_mul, Nat.one_mul, Nat.mul_comm n m]
    omega
  omega
theorem r_floor_sum {n a b m : Nat} {S : Sto} {Q : KE} {E : KX} (hm : 0 < m) (hn : n ≤ 1000000000000000000) (ha : a ≤ 1000000000000000000) (hb : b ≤ 1000000000000000000) (hm2 : m ≤ 1000000000000000000) (h : Q (.int (fs n a b m : Nat)) S) : sp_floor_sum [.int n, .int a, .int b, .int m] S Q E := by
  refine ⟨rfl, ?_⟩
  rw [eW_floor_sum, st_floor_sum]
  refine s_seq (s_set ?_)
  try simp only [wV, wC, wOp, wUn, oI, oAdd, oSub, oMul, oFdiv, oMod, oPow, oNeg, oLt, oLe, oGt, oGe, oEqN, oIsN, isNon, wTest, wChain, wTru, oTru, wNot, wAnd, wOr, wAndV, wOrV, wNotV, wIfE, wNil, wCons, wTup, wLst, wCB, cLen, cInt, cAbs, cMax2, cMin2, cSum, cSum2, cMaxL, cMinL, cAll, cAny, cList, cTuple, cStr, tyN, cIsi, cReprB, oIx, wNoP, wPart, oSl, wSl, oRevL, wBM, wBM0, tyP, mAppend, mExtend, mPop, mCount, mIndex, wCall, gN, gNil', gCons', gTup', gSub', oSet, iSeq, oIter, iRange1, iRange2, wLc, wipeP, wYes, wIsE, fnD_rt, fnD_ex, fnD_nx, List.getElem?_cons_zero, List.getElem?_cons_succ, List.set_cons_zero, List.set_cons_succ, Bool.false_xor, Bool.true_xor, if_true, if_false, ite_true, ite_false, reduceIte, Bool.false_eq_true, decide_eq_true_eq, decide_true, decide_false, Bool.not_true, Bool.not_false, Bool.not_eq_true', and_true, true_and]
  refine s_seq (s_while (fun k ε S' => ∃ (n' a' b' f : Nat) (o : Option PV), ε = [some (.int n'), some (.int a'), some (.int b'), some (.int k), some (.int f), o] ∧ S' = S ∧ 0 < k ∧ n' ≤ 1000000000000000000 ∧ a' ≤ 1000000000000000000 ∧ b' ≤ 1000000000000000000 ∧ k ≤ 1000000000000000000 ∧ f + fs n' a' b' k = fs n a b m) m ⟨n, a, b, 0, none, rfl, rfl, hm, hn, ha, hb, hm2, Nat.zero_add _⟩ ?_)
  rintro k ε S' ⟨n', a', b', f, o, rfl, rfl, hk, hn', ha', hb', hk', inv⟩
  try simp only [wV, wC, wOp, wUn, oI, oAdd, oSub, oMul, oFdiv, oMod, oPow, oNeg, oLt, oLe, oGt, oGe, oEqN, oIsN, isNon, wTest, wChain, wTru, oTru, wNot, wAnd, wOr, wAndV, wOrV, wNotV, wIfE, wNil, wCons, wTup, wLst, wCB, cLen, cInt, cAbs, cMax2, cMin2, cSum, cSum2, cMaxL, cMinL, cAll, cAny, cList, cTuple, cStr, tyN, cIsi, cReprB, oIx, wNoP, wPart, oSl, wSl, oRevL, wBM, wBM0, tyP, mAppend, mExtend, mPop, mCount, mIndex, wCall, gN, gNil', gCons', gTup', gSub', oSet, iSeq, oIter, iRange1, iRange2, wLc, wipeP, wYes, wIsE, fnD_rt, fnD_ex, fnD_nx, List.getElem?_cons_zero, List.getElem?_cons_succ, List.set_cons_zero, List.set_cons_succ, Bool.false_xor, Bool.true_xor, if_true, if_false, ite_true, ite_false, reduceIte, Bool.false_eq_true, decide_eq_true_eq, decide_true, decide_false, Bool.not_true, Bool.not_false, Bool.not_eq_true', and_true, true_and]
  split
  · rename_i h0
    have hn0 : 0 < n' := by omega
    refine s_seq (s_set ?_)
    try simp only [wV, wC, wOp, wUn, oI, oAdd, oSub, oMul, oFdiv, oMod, oPow, oNeg, oLt, oLe, oGt, oGe, oEqN, oIsN, isNon, wTest, wChain, wTru, oTru, wNot, wAnd, wOr, wAndV, wOrV, wNotV, wIfE, wNil, wCons, wTup, wLst, wCB, cLen, cInt, cAbs, cMax2, cMin2, cSum, cSum2, cMaxL, cMinL, cAll, cAny, cList, cTuple, cStr, tyN, cIsi, cReprB, oIx, wNoP, wPart, oSl, wSl, oRevL, wBM, wBM0, tyP, mAppend, mExtend, mPop, mCount, mIndex, wCall, gN, gNil', gCons', gTup', gSub', oSet, iSeq, oIter, iRange1, iRange2, wLc, wipeP, wYes, wIsE, fnD_rt, fnD_ex, fnD_nx, List.getElem?_cons_zero, List.getElem?_cons_succ, List.set_cons_zero, List.set_cons_succ, Bool.false_xor, Bool.true_xor, if_true, if_false, ite_true, ite_false, reduceIte, Bool.false_eq_true, decide_eq_true_eq, decide_true, decide_false, Bool.not_true, Bool.not_false, Bool.not_eq_true', and_true, true_and]
    have d1 := Nat.div_le_self a' k
    have d2 := Nat.div_le_self b' k
    have d3 : (0 : Int) ≤ ((a' / k : Nat) : Int) := Int.natCast_nonneg _
    rw [nat_sub1 hn0, nat_div a' k, nat_div b' k, nat_mul n' (n' - 1), show (2 : Int) = ((2 : Nat) : Int) from rfl, nat_div (n' * (n' - 1)) 2, nat_mul (n' * (n' - 1) / 2) (a' / k), nat_mul n' (b' / k), nat_add, nat_add]
    refine ⟨CMl (by omega), cdw (by decide) (by decide), cdw (by omega) (by omega), CMr (by omega), cdw (by omega) (by omega), CMl (by omega), ?_⟩
    refine s_seq (s_par ?_)
    try simp only [wV, wC, wOp, wUn, oI, oAdd, oSub, oMul, oFdiv, oMod, oPow, oNeg, oLt, oLe, oGt, oGe, oEqN, oIsN, isNon, wTest, wChain, wTru, oTru, wNot, wAnd, wOr, wAndV, wOrV, wNotV, wIfE, wNil, wCons, wTup, wLst, wCB, cLen, cInt, cAbs, cMax2, cMin2, cSum, cSum2, cMaxL, cMinL, cAll, cAny, cList, cTuple, cStr, tyN, cIsi, cReprB, oIx, wNoP, wPart, oSl, wSl, oRevL, wBM, wBM0, tyP, mAppend, mExtend, mPop, mCount, mIndex, wCall, gN, gNil', gCons', gTup', gSub', oSet, iSeq, oIter, iRange1, iRange2, wLc, wipeP, wYes, wIsE, fnD_rt, fnD_ex, fnD_nx, List.getElem?_cons_zero, List.getElem?_cons_succ, List.set_cons_zero, List.set_cons_succ, Bool.false_xor, Bool.true_xor, if_true, if_false, ite_true, ite_false, reduceIte, Bool.false_eq_true, decide_eq_true_eq, decide_true, decide_false, Bool.not_true, Bool.not_false, Bool.not_eq_true', and_true, true_and]
    refine ⟨by omega, by omega, ?_⟩
    rw [nat_mod, nat_mod]
    have m1 := Nat.mod_lt a' hk
    have m2 := Nat.mod_lt b' hk
    have red := fs_red hk a' b' n'
    refine s_seq (s_set ?_)
    try simp only [wV, wC, wOp, wUn, oI, oAdd, oSub, oMul, oFdiv, oMod, oPow, oNeg, oLt, oLe, oGt, oGe, oEqN, oIsN, isNon, wTest, wChain, wTru, oTru, wNot, wAnd, wOr, wAndV, wOrV, wNotV, wIfE, wNil, wCons, wTup, wLst, wCB, cLen, cInt, cAbs, cMax2, cMin2, cSum, cSum2, cMaxL, cMinL, cAll, cAny, cList, cTuple, cStr, tyN, cIsi, cReprB, oIx, wNoP, wPart, oSl, wSl, oRevL, wBM, wBM0, tyP, mAppend, mExtend, mPop, mCount, mIndex, wCall, gN, gNil', gCons', gTup', gSub', oSet, iSeq, oIter, iRange1, iRange2, wLc, wipeP, wYes, wIsE, fnD_rt, fnD_ex, fnD_nx, List.getElem?_cons_zero, List.getElem?_cons_succ, List.set_cons_zero, List.set_cons_succ, Bool.false_xor, Bool.true_xor, if_true, if_false, ite_true, ite_false, reduceIte, Bool.false_eq_true, decide_eq_true_eq, decide_true, decide_false, Bool.not_true, Bool.not_false, Bool.not_eq_true', and_true, true_and]
    rw [nat_mul, nat_add]
    refine ⟨CMl (by omega), ?_⟩
    refine s_seq (s_if ?_)
    try simp only [wV, wC, wOp, wUn, oI, oAdd, oSub, oMul, oFdiv, oMod, oPow, oNeg, oLt, oLe, oGt, oGe, oEqN, oIsN, isNon, wTest, wChain, wTru, oTru, wNot, wAnd, wOr, wAndV, wOrV, wNotV, wIfE, wNil, wCons, wTup, wLst, wCB, cLen, cInt, cAbs, cMax2, cMin2, cSum, cSum2, cMaxL, cMinL, cAll, cAny, cList, cTuple, cStr, tyN, cIsi, cReprB, oIx, wNoP, wPart, oSl, wSl, oRevL, wBM, wBM0, tyP, mAppend, mExtend, mPop, mCount, mIndex, wCall, gN, gNil', gCons', gTup', gSub', oSet, iSeq, oIter, iRange1, iRange2, wLc, wipeP, wYes, wIsE, fnD_rt, fnD_ex, fnD_nx, List.getElem?_cons_zero, List.getElem?_cons_succ, List.set_cons_zero, List.set_cons_succ, Bool.false_xor, Bool.true_xor, if_true, if_false, ite_true, ite_false, reduceIte, Bool.false_eq_true, decide_eq_true_eq, decide_true, decide_false, Bool.not_true, Bool.not_false, Bool.not_eq_true', and_true, true_and]
    split
    · rename_i hlt
      refine s_ret ?_
      try simp only [wV, wC, wOp, wUn, oI, oAdd, oSub, oMul, oFdiv, oMod, oPow, oNeg, oLt, oLe, oGt, oGe, oEqN, oIsN, isNon, wTest, wChain, wTru, oTru, wNot, wAnd, wOr, wAndV, wOrV, wNotV, wIfE, wNil, wCons, wTup, wLst, wCB, cLen, cInt, cAbs, cMax2, cMin2, cSum, cSum2, cMaxL, cMinL, cAll, cAny, cList, cTuple, cStr, tyN, cIsi, cReprB, oIx, wNoP, wPart, oSl, wSl, oRevL, wBM, wBM0, tyP, mAppend, mExtend, mPop, mCount, mIndex, wCall, gN, gNil', gCons', gTup', gSub', oSet, iSeq, oIter, iRange1, iRange2, wLc, wipeP, wYes, wIsE, fnD_rt, fnD_ex, fnD_nx, List.getElem?_cons_zero, List.getElem?_cons_succ, List.set_cons_zero, List.set_cons_succ, Bool.false_xor, Bool.true_xor, if_true, if_false, ite_true, ite_false, reduceIte, Bool.false_eq_true, decide_eq_true_eq, decide_true, decide_false, Bool.not_true, Bool.not_false, Bool.not_eq_true', and_true, true_and]
      have z : fs n' (a' % k) (b' % k) k = 0 := by
        unfold fs
        rw [← sumN_zero n']
        refine sumN_congr fun i hi => Nat.div_eq_of_lt ?_
        have := Nat.mul_le_mul_left (a' % k) (show i ≤ n' by omega)
        omega
      have e : f + n' * (n' - 1) / 2 * (a' / k) + n' * (b' / k) = fs n a b m := by omega
      rw [e]
      exact dn_same h
    · rename_i hge
      refine s_next ?_
      dsimp only
      refine s_asg ?_
      try simp only [wV, wC, wOp, wUn, oI, oAdd, oSub, oMul, oFdiv, oMod, oPow, oNeg, oLt, oLe, oGt, oGe, oEqN, oIsN, isNon, wTest, wChain, wTru, oTru, wNot, wAnd, wOr, wAndV, wOrV, wNotV, wIfE, wNil, wCons, wTup, wLst, wCB, cLen, cInt, cAbs, cMax2, cMin2, cSum, cSum2, cMaxL, cMinL, cAll, cAny, cList, cTuple, cStr, tyN, cIsi, cReprB, oIx, wNoP, wPart, oSl, wSl, oRevL, wBM, wBM0, tyP, mAppend, mExtend, mPop, mCount, mIndex, wCall, gN, gNil', gCons', gTup', gSub', oSet, iSeq, oIter, iRange1, iRange2, wLc, wipeP, wYes, wIsE, fnD_rt, fnD_ex, fnD_nx, List.getElem?_cons_zero, List.getElem?_cons_succ, List.set_cons_zero, List.set_cons_succ, Bool.false_xor, Bool.true_xor, if_true, if_false, ite_true, ite_false, reduceIte, Bool.false_eq_true, decide_eq_true_eq, decide_true, decide_false, Bool.not_true, Bool.not_false, Bool.not_eq_true', and_true, true_and]
      rw [nat_div, nat_mod]
      have hapos : 0 < a' % k := by
        apply Nat.pos_of_ne_zero
        intro z
        rw [z] at hge
        simp only [Nat.zero_mul, Nat.zero_add] at hge
        omega
      have tl := top_le (n := n') m1 m2
      have rt := Nat.mod_lt (a' % k * n' + b' % k) hk
      refine ⟨cdw (by omega) (by omega), by omega, (by decide : 4 ≤ sizeLine), rfl, ?_⟩
      refine ⟨a' % k, _, S', m1, .refl _, .refl _, _, k, _, _, _, rfl, rfl, hapos, by omega, hk', by omega, by omega, ?_⟩
      rw [← fs_turn hapos hk m2]
      omega
  · have : n' = 0 := by omega
    subst this
    refine s_ret ?_
    try simp only [wV, wC, wOp, wUn, oI, oAdd, oSub, oMul, oFdiv, oMod, oPow, oNeg, oLt, oLe, oGt, oGe, oEqN, oIsN, isNon, wTest, wChain, wTru, oTru, wNot, wAnd, wOr, wAndV, wOrV, wNotV, wIfE, wNil, wCons, wTup, wLst, wCB, cLen, cInt, cAbs, cMax2, cMin2, cSum, cSum2, cMaxL, cMinL, cAll, cAny, cList, cTuple, cStr, tyN, cIsi, cReprB, oIx, wNoP, wPart, oSl, wSl, oRevL, wBM, wBM0, tyP, mAppend, mExtend, mPop, mCount, mIndex, wCall, gN, gNil', gCons', gTup', gSub', oSet, iSeq, oIter, iRange1, iRange2, wLc, wipeP, wYes, wIsE, fnD_rt, fnD_ex, fnD_nx, List.getElem?_cons_zero, List.getElem?_cons_succ, List.set_cons_zero, List.set_cons_succ, Bool.false_xor, Bool.true_xor, if_true, if_false, ite_true, ite_false, reduceIte, Bool.false_eq_true, decide_eq_true_eq, decide_true, decide_false, Bool.not_true, Bool.not_false, Bool.not_eq_true', and_true, true_and]
    have e : f = fs n a b m := by rw [← inv]; rfl
    rw [e]
    exact dn_same h
theorem fs_wp {p q p' q' : Nat} : ∀ n : Nat, ((List.range n).map fun i => ((wpN p q p' q' i : Nat) : Int)).sum = ((fs n (p * q') (p' * q) (q * q') : Nat) : Int)
  | 0 => rfl
  | n + 1 => by
    rw [List.range_succ, List.map_append, List.sum_append, fs_wp n, List.map_singleton, List.sum_singleton, fs_succ]
    rfl
theorem r_beat_sum {p q p' q' n : Nat} {S : Sto} {Q : KE} {E : KX} (g : GoodS p q) (g' : GoodS p' q') (hn : n ≤ 1000000000000000000) (h : Q (.int (fs n (p * q') (p' * q) (q * q') : Nat)) S) : sp_beat_sum [sl p q, sl p' q', .int n] S Q E := by
  have h1 := g.p1
  have h2 := g.q1
  have h3 := g.q2
  have h1' := g'.p1
  have h2' := g'.q1
  have h3' := g'.q2
  refine ⟨rfl, ?_⟩
  rw [eW_beat_sum, st_beat_sum]
  refine s_seq (s_expr ?_)
  try simp only [wV, wC, wOp, wUn, oI, oAdd, oSub, oMul, oFdiv, oMod, oPow, oNeg, oLt, oLe, oGt, oGe, oEqN, oIsN, isNon, wTest, wChain, wTru, oTru, wNot, wAnd, wOr, wAndV, wOrV, wNotV, wIfE, wNil, wCons, wTup, wLst, wCB, cLen, cInt, cAbs, cMax2, cMin2, cSum, cSum2, cMaxL, cMinL, cAll, cAny, cList, cTuple, cStr, tyN, cIsi, cReprB, oIx, wNoP, wPart, oSl, wSl, oRevL, wBM, wBM0, tyP, mAppend, mExtend, mPop, mCount, mIndex, wCall, gN, gNil', gCons', gTup', gSub', oSet, iSeq, oIter, iRange1, iRange2, wLc, wipeP, wYes, wIsE, fnD_rt, fnD_ex, fnD_nx, List.getElem?_cons_zero, List.getElem?_cons_succ, List.set_cons_zero, List.set_cons_succ, Bool.false_xor, Bool.true_xor, if_true, if_false, ite_true, ite_false, reduceIte, Bool.false_eq_true, decide_eq_true_eq, decide_true, decide_false, Bool.not_true, Bool.not_false, Bool.not_eq_true', and_true, true_and]
  refine r_check_ok g ?_
  refine s_seq (s_expr ?_)
  try simp only [wV, wC, wOp, wUn, oI, oAdd, oSub, oMul, oFdiv, oMod, oPow, oNeg, oLt, oLe, oGt, oGe, oEqN, oIsN, isNon, wTest, wChain, wTru, oTru, wNot, wAnd, wOr, wAndV, wOrV, wNotV, wIfE, wNil, wCons, wTup, wLst, wCB, cLen, cInt, cAbs, cMax2, cMin2, cSum, cSum2, cMaxL, cMinL, cAll, cAny, cList, cTuple, cStr, tyN, cIsi, cReprB, oIx, wNoP, wPart, oSl, wSl, oRevL, wBM, wBM0, tyP, mAppend, mExtend, mPop, mCount, mIndex, wCall, gN, gNil', gCons', gTup', gSub', oSet, iSeq, oIter, iRange1, iRange2, wLc, wipeP, wYes, wIsE, fnD_rt, fnD_ex, fnD_nx, List.getElem?_cons_zero, List.getElem?_cons_succ, List.set_cons_zero, List.set_cons_succ, Bool.false_xor, Bool.true_xor, if_true, if_false, ite_true, ite_false, reduceIte, Bool.false_eq_true, decide_eq_true_eq, decide_true, decide_false, Bool.not_true, Bool.not_false, Bool.not_eq_true', and_true, true_and]
  refine r_check_ok g' ?_
  refine s_seq (s_if ?_)
  try simp only [wV, wC, wOp, wUn, oI, oAdd, oSub, oMul, oFdiv, oMod, oPow, oNeg, oLt, oLe, oGt, oGe, oEqN, oIsN, isNon, wTest, wChain, wTru, oTru, wNot, wAnd, wOr, wAndV, wOrV, wNotV, wIfE, wNil, wCons, wTup, wLst, wCB, cLen, cInt, cAbs, cMax2, cMin2, cSum, cSum2, cMaxL, cMinL, cAll, cAny, cList, cTuple, cStr, tyN, cIsi, cReprB, oIx, wNoP, wPart, oSl, wSl, oRevL, wBM, wBM0, tyP, mAppend, mExtend, mPop, mCount, mIndex, wCall, gN, gNil', gCons', gTup', gSub', oSet, iSeq, oIter, iRange1, iRange2, wLc, wipeP, wYes, wIsE, fnD_rt, fnD_ex, fnD_nx, List.getElem?_cons_zero, List.getElem?_cons_succ, List.set_cons_zero, List.set_cons_succ, Bool.false_xor, Bool.true_xor, if_true, if_false, ite_true, ite_false, reduceIte, Bool.false_eq_true, decide_eq_true_eq, decide_true, decide_false, Bool.not_true, Bool.not_false, Bool.not_eq_true', and_true, true_and]
  refine r_is_within rfl ?_
  rw [within_ok (by omega)]
  try simp only [wV, wC, wOp, wUn, oI, oAdd, oSub, oMul, oFdiv, oMod, oPow, oNeg, oLt, oLe, oGt, oGe, oEqN, oIsN, isNon, wTest, wChain, wTru, oTru, wNot, wAnd, wOr, wAndV, wOrV, wNotV, wIfE, wNil, wCons, wTup, wLst, wCB, cLen, cInt, cAbs, cMax2, cMin2, cSum, cSum2, cMaxL, cMinL, cAll, cAny, cList, cTuple, cStr, tyN, cIsi, cReprB, oIx, wNoP, wPart, oSl, wSl, oRevL, wBM, wBM0, tyP, mAppend, mExtend, mPop, mCount, mIndex, wCall, gN, gNil', gCons', gTup', gSub', oSet, iSeq, oIter, iRange1, iRange2, wLc, wipeP, wYes, wIsE, fnD_rt, fnD_ex, fnD_nx, List.getElem?_cons_zero, List.getElem?_cons_succ, List.set_cons_zero, List.set_cons_succ, Bool.false_xor, Bool.true_xor, if_true, if_false, ite_true, ite_false, reduceIte, Bool.false_eq_true, decide_eq_true_eq, decide_true, decide_false, Bool.not_true, Bool.not_false, Bool.not_eq_true', and_true, true_and]
  refine s_next ?_
  dsimp only
  refine s_seq (s_set ?_)
  try simp only [sl, wV, wC, wOp, wUn, oI, oAdd, oSub, oMul, oFdiv, oMod, oPow, oNeg, oLt, oLe, oGt, oGe, oEqN, oIsN, isNon, wTest, wChain, wTru, oTru, wNot, wAnd, wOr, wAndV, wOrV, wNotV, wIfE, wNil, wCons, wTup, wLst, wCB, cLen, cInt, cAbs, cMax2, cMin2, cSum, cSum2, cMaxL, cMinL, cAll, cAny, cList, cTuple, cStr, tyN, cIsi, cReprB, oIx, wNoP, wPart, oSl, wSl, oRevL, wBM, wBM0, tyP, mAppend, mExtend, mPop, mCount, mIndex, wCall, gN, gNil', gCons', gTup', gSub', oSet, iSeq, oIter, iRange1, iRange2, wLc, wipeP, wYes, wIsE, fnD_rt, fnD_ex, fnD_nx, List.getElem?_cons_zero, List.getElem?_cons_succ, List.set_cons_zero, List.set_cons_succ, Bool.false_xor, Bool.true_xor, if_true, if_false, ite_true, ite_false, reduceIte, Bool.false_eq_true, decide_eq_true_eq, decide_true, decide_false, Bool.not_true, Bool.not_false, Bool.not_eq_true', and_true, true_and]
  refine ⟨_, rfl, _, rfl, CMl (by omega), ?_⟩
  refine s_ret ?_
  try simp only [wV, wC, wOp, wUn, oI, oAdd, oSub, oMul, oFdiv, oMod, oPow, oNeg, oLt, oLe, oGt, oGe, oEqN, oIsN, isNon, wTest, wChain, wTru, oTru, wNot, wAnd, wOr, wAndV, wOrV, wNotV, wIfE, wNil, wCons, wTup, wLst, wCB, cLen, cInt, cAbs, cMax2, cMin2, cSum, cSum2, cMaxL, cMinL, cAll, cAny, cList, cTuple, cStr, tyN, cIsi, cReprB, oIx, wNoP, wPart, oSl, wSl, oRevL, wBM, wBM0, tyP, mAppend, mExtend, mPop, mCount, mIndex, wCall, gN, gNil', gCons', gTup', gSub', oSet, iSeq, oIter, iRange1, iRange2, wLc, wipeP, wYes, wIsE, fnD_rt, fnD_ex, fnD_nx, List.getElem?_cons_zero, List.getElem?_cons_succ, List.set_cons_zero, List.set_cons_succ, Bool.false_xor, Bool.true_xor, if_true, if_false, ite_true, ite_false, reduceIte, Bool.false_eq_true, decide_eq_true_eq, decide_true, decide_false, Bool.not_true, Bool.not_false, Bool.not_eq_true', and_true, true_and]
  refine ⟨_, rfl, _, rfl, CMl (by omega), _, rfl, _, rfl, CMl (by omega), ?_⟩
  rw [nat_mul, nat_mul, nat_mul]
  exact r_floor_sum (Nat.mul_pos h2 h2') hn (mul_le18 h1 h3') (mul_le18 h1' h3) (mul_le18 h3 h3') (dn_same h)
theorem r_less {p q p' q' : Nat} {S : Sto} {Q : KE} {E : KX} (hp : p ≤ 1000000000) (hq : q ≤ 1000000000) (hp' : p' ≤ 1000000000) (hq' : q' ≤ 1000000000) (h : Q (.bl (decide (((p : Nat) : Int) * (q' : Nat) < (p' : Nat) * (q : Nat)))) S) : sp_less [sl p q, sl p' q'] S Q E := by
  refine ⟨rfl, ?_⟩
  rw [eW_less, st_less]
  refine s_ret ?_
  try simp only [sl, wV, wC, wOp, wUn, oI, oAdd, oSub, oMul, oFdiv, oMod, oPow, oNeg, oLt, oLe, oGt, oGe, oEqN, oIsN, isNon, wTest, wChain, wTru, oTru, wNot, wAnd, wOr, wAndV, wOrV, wNotV, wIfE, wNil, wCons, wTup, wLst, wCB, cLen, cInt, cAbs, cMax2, cMin2, cSum, cSum2, cMaxL, cMinL, cAll, cAny, cList, cTuple, cStr, tyN, cIsi, cReprB, oIx, wNoP, wPart, oSl, wSl, oRevL, wBM, wBM0, tyP, mAppend, mExtend, mPop, mCount, mIndex, wCall, gN, gNil', gCons', gTup', gSub', oSet, iSeq, oIter, iRange1, iRange2, wLc, wipeP, wYes, wIsE, fnD_rt, fnD_ex, fnD_nx, List.getElem?_cons_zero, List.getElem?_cons_succ, List.set_cons_zero, List.set_cons_succ, Bool.false_xor, Bool.true_xor, if_true, if_false, ite_true, ite_false, reduceIte, Bool.false_eq_true, decide_eq_true_eq, decide_true, decide_false, Bool.not_true, Bool.not_false, Bool.not_eq_true', and_true, true_and]
  exact ⟨_, rfl, _, rfl, CMl (by omega), _, rfl, _, rfl, CMl (by omega), dn_same h⟩
theorem part_lem {x q : Nat} (hq : 0 < q) : x / Nat.gcd x q - x / q * (q / Nat.gcd x q) = x % q / Nat.gcd x q ∧ x / q * (q / Nat.gcd x q) ≤ x / Nat.gcd x q := by
  have hg : 0 < Nat.gcd x q := Nat.gcd_pos_of_pos_right x hq
  obtain ⟨x', hx⟩ := Nat.gcd_dvd_left x q
  obtain ⟨q', hq'⟩ := Nat.gcd_dvd_right x q
  generalize Nat.gcd x q = g at *
  subst hx hq'
  rw [Nat.mul_div_cancel_left _ hg, Nat.mul_div_cancel_left _ hg, Nat.mul_div_mul_left _ _ hg, Nat.mul_mod_mul_left, Nat.mul_div_cancel_left _ hg]
  have := Nat.div_add_mod x' q'
  rw [Nat.mul_comm] at this
  constructor <;> omega
theorem gcd_mod {x q : Nat} : Nat.gcd (x % q) q = Nat.gcd x q := by
  rw [Nat.gcd_comm x q, Nat.gcd_rec q x]
theorem r_part_of {p q k : Nat} {S : Sto} {Q : KE} {E : KX} (g : GoodS p q) (hk : k ≤ 1000000000000000000) (h : Q (frP (p * k % q) q) S) : sp_part_of [sl p q, .int k] S Q E := by
  have h1 := g.p1
  have h2 := g.q1
  have h3 := g.q2
  refine ⟨rfl, ?_⟩
  rw [eW_part_of, st_part_of]
  refine s_seq (s_expr ?_)
  try simp only [wV, wC, wOp, wUn, oI, oAdd, oSub, oMul, oFdiv, oMod, oPow, oNeg, oLt, oLe, oGt, oGe, oEqN, oIsN, isNon, wTest, wChain, wTru, oTru, wNot, wAnd, wOr, wAndV, wOrV, wNotV, wIfE, wNil, wCons, wTup, wLst, wCB, cLen, cInt, cAbs, cMax2, cMin2, cSum, cSum2, cMaxL, cMinL, cAll, cAny, cList, cTuple, cStr, tyN, cIsi, cReprB, oIx, wNoP, wPart, oSl, wSl, oRevL, wBM, wBM0, tyP, mAppend, mExtend, mPop, mCount, mIndex, wCall, gN, gNil', gCons', gTup', gSub', oSet, iSeq, oIter, iRange1, iRange2, wLc, wipeP, wYes, wIsE, fnD_rt, fnD_ex, fnD_nx, List.getElem?_cons_zero, List.getElem?_cons_succ, List.set_cons_zero, List.set_cons_succ, Bool.false_xor, Bool.true_xor, if_true, if_false, ite_true, ite_false, reduceIte, Bool.false_eq_true, decide_eq_true_eq, decide_true, decide_false, Bool.not_true, Bool.not_false, Bool.not_eq_true', and_true, true_and]
  refine r_check_ok g ?_
  refine s_seq (s_if ?_)
  try simp only [wV, wC, wOp, wUn, oI, oAdd, oSub, oMul, oFdiv, oMod, oPow, oNeg, oLt, oLe, oGt, oGe, oEqN, oIsN, isNon, wTest, wChain, wTru, oTru, wNot, wAnd, wOr, wAndV, wOrV, wNotV, wIfE, wNil, wCons, wTup, wLst, wCB, cLen, cInt, cAbs, cMax2, cMin2, cSum, cSum2, cMaxL, cMinL, cAll, cAny, cList, cTuple, cStr, tyN, cIsi, cReprB, oIx, wNoP, wPart, oSl, wSl, oRevL, wBM, wBM0, tyP, mAppend, mExtend, mPop, mCount, mIndex, wCall, gN, gNil', gCons', gTup', gSub', oSet, iSeq, oIter, iRange1, iRange2, wLc, wipeP, wYes, wIsE, fnD_rt, fnD_ex, fnD_nx, List.getElem?_cons_zero, List.getElem?_cons_succ, List.set_cons_zero, List.set_cons_succ, Bool.false_xor, Bool.true_xor, if_true, if_false, ite_true, ite_false, reduceIte, Bool.false_eq_true, decide_eq_true_eq, decide_true, decide_false, Bool.not_true, Bool.not_false, Bool.not_eq_true', and_true, true_and]
  refine r_is_within rfl ?_
  rw [within_ok (by omega)]
  try simp only [wV, wC, wOp, wUn, oI, oAdd, oSub, oMul, oFdiv, oMod, oPow, oNeg, oLt, oLe, oGt, oGe, oEqN, oIsN, isNon, wTest, wChain, wTru, oTru, wNot, wAnd, wOr, wAndV, wOrV, wNotV, wIfE, wNil, wCons, wTup, wLst, wCB, cLen, cInt, cAbs, cMax2, cMin2, cSum, cSum2, cMaxL, cMinL, cAll, cAny, cList, cTuple, cStr, tyN, cIsi, cReprB, oIx, wNoP, wPart, oSl, wSl, oRevL, wBM, wBM0, tyP, mAppend, mExtend, mPop, mCount, mIndex, wCall, gN, gNil', gCons', gTup', gSub', oSet, iSeq, oIter, iRange1, iRange2, wLc, wipeP, wYes, wIsE, fnD_rt, fnD_ex, fnD_nx, List.getElem?_cons_zero, List.getElem?_cons_succ, List.set_cons_zero, List.set_cons_succ, Bool.false_xor, Bool.true_xor, if_true, if_false, ite_true, ite_false, reduceIte, Bool.false_eq_true, decide_eq_true_eq, decide_true, decide_false, Bool.not_true, Bool.not_false, Bool.not_eq_true', and_true, true_and]
  refine s_next ?_
  dsimp only
  refine s_ret ?_
  try simp only [sl, wV, wC, wOp, wUn, oI, oAdd, oSub, oMul, oFdiv, oMod, oPow, oNeg, oLt, oLe, oGt, oGe, oEqN, oIsN, isNon, wTest, wChain, wTru, oTru, wNot, wAnd, wOr, wAndV, wOrV, wNotV, wIfE, wNil, wCons, wTup, wLst, wCB, cLen, cInt, cAbs, cMax2, cMin2, cSum, cSum2, cMaxL, cMinL, cAll, cAny, cList, cTuple, cStr, tyN, cIsi, cReprB, oIx, wNoP, wPart, oSl, wSl, oRevL, wBM, wBM0, tyP, mAppend, mExtend, mPop, mCount, mIndex, wCall, gN, gNil', gCons', gTup', gSub', oSet, iSeq, oIter, iRange1, iRange2, wLc, wipeP, wYes, wIsE, fnD_rt, fnD_ex, fnD_nx, List.getElem?_cons_zero, List.getElem?_cons_succ, List.set_cons_zero, List.set_cons_succ, Bool.false_xor, Bool.true_xor, if_true, if_false, ite_true, ite_false, reduceIte, Bool.false_eq_true, decide_eq_true_eq, decide_true, decide_false, Bool.not_true, Bool.not_false, Bool.not_eq_true', and_true, true_and]
  refine ⟨_, rfl, CMl (by omega), _, rfl, ?_⟩
  rw [nat_mul]
  refine r_frac (by omega) (by omega) ?_
  refine ⟨_, rfl, CMl (by omega), _, rfl, cdw (by omega) (by omega), (by decide : 2 ≤ sizeLine), ?_⟩
  rw [nat_mul, nat_div]
  -- minus
  have hg : 0 < Nat.gcd (p * k) q := Nat.gcd_pos_of_pos_right _ h2
  have hq0 : 0 < q / Nat.gcd (p * k) q := Nat.div_pos (Nat.gcd_le_right _ h2) hg
  have hq1 := Nat.div_le_self q (Nat.gcd (p * k) q)
  obtain ⟨l1, l2⟩ := part_lem (x := p * k) h2
  refine ⟨rfl, ?_⟩
  rw [eW_minus, st_minus]
  refine s_ret ?_
  try simp only [frP, sl, wV, wC, wOp, wUn, oI, oAdd, oSub, oMul, oFdiv, oMod, oPow, oNeg, oLt, oLe, oGt, oGe, oEqN, oIsN, isNon, wTest, wChain, wTru, oTru, wNot, wAnd, wOr, wAndV, wOrV, wNotV, wIfE, wNil, wCons, wTup, wLst, wCB, cLen, cInt, cAbs, cMax2, cMin2, cSum, cSum2, cMaxL, cMinL, cAll, cAny, cList, cTuple, cStr, tyN, cIsi, cReprB, oIx, wNoP, wPart, oSl, wSl, oRevL, wBM, wBM0, tyP, mAppend, mExtend, mPop, mCount, mIndex, wCall, gN, gNil', gCons', gTup', gSub', oSet, iSeq, oIter, iRange1, iRange2, wLc, wipeP, wYes, wIsE, fnD_rt, fnD_ex, fnD_nx, List.getElem?_cons_zero, List.getElem?_cons_succ, List.set_cons_zero, List.set_cons_succ, Bool.false_xor, Bool.true_xor, if_true, if_false, ite_true, ite_false, reduceIte, Bool.false_eq_true, decide_eq_true_eq, decide_true, decide_false, Bool.not_true, Bool.not_false, Bool.not_eq_true', and_true, true_and]
  refine ⟨_, rfl, _, rfl, CMr (by decide), _, rfl, _, rfl, CMr (by omega), _, rfl, _, rfl, CMr (by decide), ?_⟩
  rw [Int.mul_one, Int.mul_one, nat_mul, show (((p * k / Nat.gcd (p * k) q : Nat) : Int) - ((p * k / q * (q / Nat.gcd (p * k) q) : Nat) : Int)) = ((p * k % q / Nat.gcd (p * k) q : Nat) : Int) from by omega]
  refine r_frac hq0 (by omega) (dn_same (dn_same ?_))
  have e1 : Nat.gcd (p * k % q / Nat.gcd (p * k) q) (q / Nat.gcd (p * k) q) = 1 := by
    rw [← gcd_mod (x := p * k) (q := q)]
    exact gcd_frac h2
  unfold frP
  rw [e1, Nat.div_one, Nat.div_one]
  unfold frP at h
  rw [gcd_mod] at h
  exact h
theorem r_part_between {p q k j : Nat} {S : Sto} {Q : KE} {E : KX} (g : GoodS p q) (hk : k ≤ 1000000000000000000) (hj : j ≤ 1000000000000000000)
    (h : Q (.bl (decide (((p * k % q / Nat.gcd (p * k % q) q : Nat) : Int) * (q / Nat.gcd (p * j % q) q : Nat) < (p * j % q / Nat.gcd (p * j % q) q : Nat) * (q / Nat.gcd (p * k % q) q : Nat)))) S) : sp_part_between [sl p q, .int k, .int j] S Q E := by
  have h1 := g.p1
  have h2 := g.q1
  have h3 := g.q2
  refine ⟨rfl, ?_⟩
  rw [eW_part_between, st_part_between]
  refine s_seq (s_expr ?_)
  try simp only [wV, wC, wOp, wUn, oI, oAdd, oSub, oMul, oFdiv, oMod, oPow, oNeg, oLt, oLe, oGt, oGe, oEqN, oIsN, isNon, wTest, wChain, wTru, oTru, wNot, wAnd, wOr, wAndV, wOrV, wNotV, wIfE, wNil, wCons, wTup, wLst, wCB, cLen, cInt, cAbs, cMax2, cMin2, cSum, cSum2, cMaxL, cMinL, cAll, cAny, cList, cTuple, cStr, tyN, cIsi, cReprB, oIx, wNoP, wPart, oSl, wSl, oRevL, wBM, wBM0, tyP, mAppend, mExtend, mPop, mCount, mIndex, wCall, gN, gNil', gCons', gTup', gSub', oSet, iSeq, oIter, iRange1, iRange2, wLc, wipeP, wYes, wIsE, fnD_rt, fnD_ex, fnD_nx, List.getElem?_cons_zero, List.getElem?_cons_succ, List.set_cons_zero, List.set_cons_succ, Bool.false_xor, Bool.true_xor, if_true, if_false, ite_true, ite_false, reduceIte, Bool.false_eq_true, decide_eq_true_eq, decide_true, decide_false, Bool.not_true, Bool.not_false, Bool.not_eq_true', and_true, true_and]
  refine r_check_ok g ?_
  refine s_seq (s_for ?_)
  try simp only [wV, wC, wOp, wUn, oI, oAdd, oSub, oMul, oFdiv, oMod, oPow, oNeg, oLt, oLe, oGt, oGe, oEqN, oIsN, isNon, wTest, wChain, wTru, oTru, wNot, wAnd, wOr, wAndV, wOrV, wNotV, wIfE, wNil, wCons, wTup, wLst, wCB, cLen, cInt, cAbs, cMax2, cMin2, cSum, cSum2, cMaxL, cMinL, cAll, cAny, cList, cTuple, cStr, tyN, cIsi, cReprB, oIx, wNoP, wPart, oSl, wSl, oRevL, wBM, wBM0, tyP, mAppend, mExtend, mPop, mCount, mIndex, wCall, gN, gNil', gCons', gTup', gSub', oSet, iSeq, oIter, iRange1, iRange2, wLc, wipeP, wYes, wIsE, fnD_rt, fnD_ex, fnD_nx, List.getElem?_cons_zero, List.getElem?_cons_succ, List.set_cons_zero, List.set_cons_succ, Bool.false_xor, Bool.true_xor, if_true, if_false, ite_true, ite_false, reduceIte, Bool.false_eq_true, decide_eq_true_eq, decide_true, decide_false, Bool.not_true, Bool.not_false, Bool.not_eq_true', and_true, true_and]
  refine ⟨(by decide : 2 ≤ sizeLine), ?_⟩
  refine for_inv (fun i ε S2 => ∃ o, ε = [some (sl p q), some (.int k), some (.int j), o, none, none] ∧ S2 = S) (fun _ _ _ _ => trivial) ?_ ?_ ⟨none, rfl, rfl⟩
  · rintro i x hx C hC ε S2 ⟨o, rfl, rfl⟩
    obtain ⟨n, rfl, hn⟩ : ∃ n : Nat, x = .int n ∧ n ≤ 1000000000000000000 := by
      match i, hx with
      | 0, hx => cases hx; exact ⟨k, rfl, hk⟩
      | 1, hx => cases hx; exact ⟨j, rfl, hj⟩
      | i + 2, hx => simp at hx
    try simp only [wV, wC, wOp, wUn, oI, oAdd, oSub, oMul, oFdiv, oMod, oPow, oNeg, oLt, oLe, oGt, oGe, oEqN, oIsN, isNon, wTest, wChain, wTru, oTru, wNot, wAnd, wOr, wAndV, wOrV, wNotV, wIfE, wNil, wCons, wTup, wLst, wCB, cLen, cInt, cAbs, cMax2, cMin2, cSum, cSum2, cMaxL, cMinL, cAll, cAny, cList, cTuple, cStr, tyN, cIsi, cReprB, oIx, wNoP, wPart, oSl, wSl, oRevL, wBM, wBM0, tyP, mAppend, mExtend, mPop, mCount, mIndex, wCall, gN, gNil', gCons', gTup', gSub', oSet, iSeq, oIter, iRange1, iRange2, wLc, wipeP, wYes, wIsE, fnD_rt, fnD_ex, fnD_nx, List.getElem?_cons_zero, List.getElem?_cons_succ, List.set_cons_zero, List.set_cons_succ, Bool.false_xor, Bool.true_xor, if_true, if_false, ite_true, ite_false, reduceIte, Bool.false_eq_true, decide_eq_true_eq, decide_true, decide_false, Bool.not_true, Bool.not_false, Bool.not_eq_true', and_true, true_and]
    refine s_if ?_
    try simp only [wV, wC, wOp, wUn, oI, oAdd, oSub, oMul, oFdiv, oMod, oPow, oNeg, oLt, oLe, oGt, oGe, oEqN, oIsN, isNon, wTest, wChain, wTru, oTru, wNot, wAnd, wOr, wAndV, wOrV, wNotV, wIfE, wNil, wCons, wTup, wLst, wCB, cLen, cInt, cAbs, cMax2, cMin2, cSum, cSum2, cMaxL, cMinL, cAll, cAny, cList, cTuple, cStr, tyN, cIsi, cReprB, oIx, wNoP, wPart, oSl, wSl, oRevL, wBM, wBM0, tyP, mAppend, mExtend, mPop, mCount, mIndex, wCall, gN, gNil', gCons', gTup', gSub', oSet, iSeq, oIter, iRange1, iRange2, wLc, wipeP, wYes, wIsE, fnD_rt, fnD_ex, fnD_nx, List.getElem?_cons_zero, List.getElem?_cons_succ, List.set_cons_zero, List.set_cons_succ, Bool.false_xor, Bool.true_xor, if_true, if_false, ite_true, ite_false, reduceIte, Bool.false_eq_true, decide_eq_true_eq, decide_true, decide_false, Bool.not_true, Bool.not_false, Bool.not_eq_true', and_true, true_and]
    refine r_is_within rfl ?_
    rw [within_ok (by omega)]
    try simp only [wV, wC, wOp, wUn, oI, oAdd, oSub, oMul, oFdiv, oMod, oPow, oNeg, oLt, oLe, oGt, oGe, oEqN, oIsN, isNon, wTest, wChain, wTru, oTru, wNot, wAnd, wOr, wAndV, wOrV, wNotV, wIfE, wNil, wCons, wTup, wLst, wCB, cLen, cInt, cAbs, cMax2, cMin2, cSum, cSum2, cMaxL, cMinL, cAll, cAny, cList, cTuple, cStr, tyN, cIsi, cReprB, oIx, wNoP, wPart, oSl, wSl, oRevL, wBM, wBM0, tyP, mAppend, mExtend, mPop, mCount, mIndex, wCall, gN, gNil', gCons', gTup', gSub', oSet, iSeq, oIter, iRange1, iRange2, wLc, wipeP, wYes, wIsE, fnD_rt, fnD_ex, fnD_nx, List.getElem?_cons_zero, List.getElem?_cons_succ, List.set_cons_zero, List.set_cons_succ, Bool.false_xor, Bool.true_xor, if_true, if_false, ite_true, ite_false, reduceIte, Bool.false_eq_true, decide_eq_true_eq, decide_true, decide_false, Bool.not_true, Bool.not_false, Bool.not_eq_true', and_true, true_and]
    refine s_next ?_
    exact hC _ _ _ _ (.refl _) (.refl _) ⟨_, rfl, rfl⟩
  · rintro ε S2 ⟨o, rfl, rfl⟩
    dsimp only
    refine s_seq (s_par ?_)
    try simp only [sl, wV, wC, wOp, wUn, oI, oAdd, oSub, oMul, oFdiv, oMod, oPow, oNeg, oLt, oLe, oGt, oGe, oEqN, oIsN, isNon, wTest, wChain, wTru, oTru, wNot, wAnd, wOr, wAndV, wOrV, wNotV, wIfE, wNil, wCons, wTup, wLst, wCB, cLen, cInt, cAbs, cMax2, cMin2, cSum, cSum2, cMaxL, cMinL, cAll, cAny, cList, cTuple, cStr, tyN, cIsi, cReprB, oIx, wNoP, wPart, oSl, wSl, oRevL, wBM, wBM0, tyP, mAppend, mExtend, mPop, mCount, mIndex, wCall, gN, gNil', gCons', gTup', gSub', oSet, iSeq, oIter, iRange1, iRange2, wLc, wipeP, wYes, wIsE, fnD_rt, fnD_ex, fnD_nx, List.getElem?_cons_zero, List.getElem?_cons_succ, List.set_cons_zero, List.set_cons_succ, Bool.false_xor, Bool.true_xor, if_true, if_false, ite_true, ite_false, reduceIte, Bool.false_eq_true, decide_eq_true_eq, decide_true, decide_false, Bool.not_true, Bool.not_false, Bool.not_eq_true', and_true, true_and]
    refine ⟨_, rfl, CMl (by omega), _, rfl, by omega, _, rfl, ?_⟩
    rw [nat_mul, nat_mod]
    refine r_frac (by omega) (by omega) ?_
    refine ⟨_, rfl, CMl (by omega), _, rfl, by omega, _, rfl, ?_⟩
    rw [nat_mul, nat_mod]
    refine r_frac (by omega) (by omega) ?_
    try simp only [wV, wC, wOp, wUn, oI, oAdd, oSub, oMul, oFdiv, oMod, oPow, oNeg, oLt, oLe, oGt, oGe, oEqN, oIsN, isNon, wTest, wChain, wTru, oTru, wNot, wAnd, wOr, wAndV, wOrV, wNotV, wIfE, wNil, wCons, wTup, wLst, wCB, cLen, cInt, cAbs, cMax2, cMin2, cSum, cSum2, cMaxL, cMinL, cAll, cAny, cList, cTuple, cStr, tyN, cIsi, cReprB, oIx, wNoP, wPart, oSl, wSl, oRevL, wBM, wBM0, tyP, mAppend, mExtend, mPop, mCount, mIndex, wCall, gN, gNil', gCons', gTup', gSub', oSet, iSeq, oIter, iRange1, iRange2, wLc, wipeP, wYes, wIsE, fnD_rt, fnD_ex, fnD_nx, List.getElem?_cons_zero, List.getElem?_cons_succ, List.set_cons_zero, List.set_cons_succ, Bool.false_xor, Bool.true_xor, if_true, if_false, ite_true, ite_false, reduceIte, Bool.false_eq_true, decide_eq_true_eq, decide_true, decide_false, Bool.not_true, Bool.not_false, Bool.not_eq_true', and_true, true_and]
    refine s_ret ?_
    try simp only [wV, wC, wOp, wUn, oI, oAdd, oSub, oMul, oFdiv, oMod, oPow, oNeg, oLt, oLe, oGt, oGe, oEqN, oIsN, isNon, wTest, wChain, wTru, oTru, wNot, wAnd, wOr, wAndV, wOrV, wNotV, wIfE, wNil, wCons, wTup, wLst, wCB, cLen, cInt, cAbs, cMax2, cMin2, cSum, cSum2, cMaxL, cMinL, cAll, cAny, cList, cTuple, cStr, tyN, cIsi, cReprB, oIx, wNoP, wPart, oSl, wSl, oRevL, wBM, wBM0, tyP, mAppend, mExtend, mPop, mCount, mIndex, wCall, gN, gNil', gCons', gTup', gSub', oSet, iSeq, oIter, iRange1, iRange2, wLc, wipeP, wYes, wIsE, fnD_rt, fnD_ex, fnD_nx, List.getElem?_cons_zero, List.getElem?_cons_succ, List.set_cons_zero, List.set_cons_succ, Bool.false_xor, Bool.true_xor, if_true, if_false, ite_true, ite_false, reduceIte, Bool.false_eq_true, decide_eq_true_eq, decide_true, decide_false, Bool.not_true, Bool.not_false, Bool.not_eq_true', and_true, true_and]
    have b1 := Nat.mod_lt (p * k) h2
    have b2 := Nat.mod_lt (p * j) h2
    have c1 := Nat.div_le_self (p * k % q) (Nat.gcd (p * k % q) q)
    have c2 := Nat.div_le_self (p * j % q) (Nat.gcd (p * j % q) q)
    have c3 := Nat.div_le_self q (Nat.gcd (p * k % q) q)
    have c4 := Nat.div_le_self q (Nat.gcd (p * j % q) q)
    exact r_less (by omega) (by omega) (by omega) (by omega) (dn_same h)

end L3

set_option Elab.async false
set_option linter.all false
set_option maxRecDepth 100000
set_option maxHeartbeats 600000
namespace L3
open PySem PySem.Spec L2
open PyProof.Rows hiding St
theorem r__law_whole {p q p' q' k : Nat} {S : Sto} {Q : KE} {E : KX} (g : GoodS p q) (g' : GoodS p' q') (hk : k ≤ 1000000000000000000) (h : Q (.int (wpN p q p' q' k : Nat)) S) : sp__law_whole [sl p q, sl p' q', .int k] S Q E := by
  have h1 := g.p1
  have h2 := g.q1
  have h3 := g.q2
  have h1' := g'.p1
  have h2' := g'.q1
  have h3' := g'.q2
  have hm := mul_le18 h3 h3'
  have hm0 : 0 < q * q' := Nat.mul_pos h2 h2'
  refine ⟨rfl, ?_⟩
  rw [eW__law_whole, st__law_whole]
  refine s_seq (s_set ?_)
  try simp only [sl, wV, wC, wOp, wUn, oI, oAdd, oSub, oMul, oFdiv, oMod, oPow, oNeg, oLt, oLe, oGt, oGe, oEqN, oIsN, isNon, wTest, wChain, wTru, oTru, wNot, wAnd, wOr, wAndV, wOrV, wNotV, wIfE, wNil, wCons, wTup, wLst, wCB, cLen, cInt, cAbs, cMax2, cMin2, cSum, cSum2, cMaxL, cMinL, cAll, cAny, cList, cTuple, cStr, tyN, cIsi, cReprB, oIx, wNoP, wPart, oSl, wSl, oRevL, wBM, wBM0, tyP, mAppend, mExtend, mPop, mCount, mIndex, wCall, gN, gNil', gCons', gTup', gSub', oSet, iSeq, oIter, iRange1, iRange2, wLc, wipeP, wYes, wIsE, fnD_rt, fnD_ex, fnD_nx, List.getElem?_cons_zero, List.getElem?_cons_succ, List.set_cons_zero, List.set_cons_succ, Bool.false_xor, Bool.true_xor, if_true, if_false, ite_true, ite_false, reduceIte, Bool.false_eq_true, decide_eq_true_eq, decide_true, decide_false, Bool.not_true, Bool.not_false, Bool.not_eq_true', and_true, true_and]
  refine ⟨_, rfl, _, rfl, CMl (by omega), ?_⟩
  refine s_ret ?_
  try simp only [wV, wC, wOp, wUn, oI, oAdd, oSub, oMul, oFdiv, oMod, oPow, oNeg, oLt, oLe, oGt, oGe, oEqN, oIsN, isNon, wTest, wChain, wTru, oTru, wNot, wAnd, wOr, wAndV, wOrV, wNotV, wIfE, wNil, wCons, wTup, wLst, wCB, cLen, cInt, cAbs, cMax2, cMin2, cSum, cSum2, cMaxL, cMinL, cAll, cAny, cList, cTuple, cStr, tyN, cIsi, cReprB, oIx, wNoP, wPart, oSl, wSl, oRevL, wBM, wBM0, tyP, mAppend, mExtend, mPop, mCount, mIndex, wCall, gN, gNil', gCons', gTup', gSub', oSet, iSeq, oIter, iRange1, iRange2, wLc, wipeP, wYes, wIsE, fnD_rt, fnD_ex, fnD_nx, List.getElem?_cons_zero, List.getElem?_cons_succ, List.set_cons_zero, List.set_cons_succ, Bool.false_xor, Bool.true_xor, if_true, if_false, ite_true, ite_false, reduceIte, Bool.false_eq_true, decide_eq_true_eq, decide_true, decide_false, Bool.not_true, Bool.not_false, Bool.not_eq_true', and_true, true_and]
  refine ⟨_, rfl, CMl (by omega), _, rfl, CMr (by omega), _, rfl, _, rfl, CMl (by omega), cdw (by rw [nat_mul]; omega) (by rw [nat_mul]; omega), dn_same ?_⟩
  rw [nat_mul, nat_mul, nat_mul, nat_mul, nat_add, nat_div]
  have e : p * k * q' + p' * q = p * q' * k + p' * q := by rw [Nat.mul_assoc, Nat.mul_comm k q', ← Nat.mul_assoc]
  rw [e]
  exact h
theorem r__law_floors {n a b m : Nat} {S : Sto} {Q : KE} {E : KX} (hm : 0 < m) (hn : n ≤ 1000000000000000000) (ha : a ≤ 1000000000000000000) (hb : b ≤ 1000000000000000000) (hm2 : m ≤ 1000000000000000000) (h : Q (.int (fs n a b m : Nat)) S) : sp__law_floors [.int n, .int m, .int a, .int b] S Q E := by
  refine ⟨rfl, ?_⟩
  rw [eW__law_floors, st__law_floors]
  refine s_seq (s_asg ?_)
  try simp only [wV, wC, wOp, wUn, oI, oAdd, oSub, oMul, oFdiv, oMod, oPow, oNeg, oLt, oLe, oGt, oGe, oEqN, oIsN, isNon, wTest, wChain, wTru, oTru, wNot, wAnd, wOr, wAndV, wOrV, wNotV, wIfE, wNil, wCons, wTup, wLst, wCB, cLen, cInt, cAbs, cMax2, cMin2, cSum, cSum2, cMaxL, cMinL, cAll, cAny, cList, cTuple, cStr, tyN, cIsi, cReprB, oIx, wNoP, wPart, oSl, wSl, oRevL, wBM, wBM0, tyP, mAppend, mExtend, mPop, mCount, mIndex, wCall, gN, gNil', gCons', gTup', gSub', oSet, iSeq, oIter, iRange1, iRange2, wLc, wipeP, wYes, wIsE, fnD_rt, fnD_ex, fnD_nx, List.getElem?_cons_zero, List.getElem?_cons_succ, List.set_cons_zero, List.set_cons_succ, Bool.false_xor, Bool.true_xor, if_true, if_false, ite_true, ite_false, reduceIte, Bool.false_eq_true, decide_eq_true_eq, decide_true, decide_false, Bool.not_true, Bool.not_false, Bool.not_eq_true', and_true, true_and]
  refine ⟨(by decide : 2 ≤ sizeLine), rfl, ?_⟩
  refine s_seq (s_while (fun k ε S' => ∃ (n' a' b' : Nat) (f s : Int) (o6 o7 o8 : Option PV), ε = [some (.int n'), some (.int k), some (.int a'), some (.int b'), some (.int f), some (.int s), o6, o7, o8] ∧ S' = S ∧ (s = 1 ∨ s = -1) ∧ 0 < k ∧ n' ≤ 1000000000000000000 ∧ a' ≤ 1000000000000000000 ∧ b' ≤ 1000000000000000000 ∧ k ≤ 1000000000000000000 ∧
    f + s * (fs n' a' b' k : Nat) = (fs n a b m : Nat)) m ⟨n, a, b, 0, 1, none, none, none, rfl, rfl, .inl rfl, hm, hn, ha, hb, hm2, by omega⟩ ?_)
  rintro k ε S' ⟨n', a', b', f, s, o6, o7, o8, rfl, rfl, hs, hk, hn', ha', hb', hk', inv⟩
  try simp only [wV, wC, wOp, wUn, oI, oAdd, oSub, oMul, oFdiv, oMod, oPow, oNeg, oLt, oLe, oGt, oGe, oEqN, oIsN, isNon, wTest, wChain, wTru, oTru, wNot, wAnd, wOr, wAndV, wOrV, wNotV, wIfE, wNil, wCons, wTup, wLst, wCB, cLen, cInt, cAbs, cMax2, cMin2, cSum, cSum2, cMaxL, cMinL, cAll, cAny, cList, cTuple, cStr, tyN, cIsi, cReprB, oIx, wNoP, wPart, oSl, wSl, oRevL, wBM, wBM0, tyP, mAppend, mExtend, mPop, mCount, mIndex, wCall, gN, gNil', gCons', gTup', gSub', oSet, iSeq, oIter, iRange1, iRange2, wLc, wipeP, wYes, wIsE, fnD_rt, fnD_ex, fnD_nx, List.getElem?_cons_zero, List.getElem?_cons_succ, List.set_cons_zero, List.set_cons_succ, Bool.false_xor, Bool.true_xor, if_true, if_false, ite_true, ite_false, reduceIte, Bool.false_eq_true, decide_eq_true_eq, decide_true, decide_false, Bool.not_true, Bool.not_false, Bool.not_eq_true', and_true, true_and]
  split
  · rename_i h0
    have hn0 : 0 < n' := by omega
    refine s_seq (s_set ?_)
    try simp only [wV, wC, wOp, wUn, oI, oAdd, oSub, oMul, oFdiv, oMod, oPow, oNeg, oLt, oLe, oGt, oGe, oEqN, oIsN, isNon, wTest, wChain, wTru, oTru, wNot, wAnd, wOr, wAndV, wOrV, wNotV, wIfE, wNil, wCons, wTup, wLst, wCB, cLen, cInt, cAbs, cMax2, cMin2, cSum, cSum2, cMaxL, cMinL, cAll, cAny, cList, cTuple, cStr, tyN, cIsi, cReprB, oIx, wNoP, wPart, oSl, wSl, oRevL, wBM, wBM0, tyP, mAppend, mExtend, mPop, mCount, mIndex, wCall, gN, gNil', gCons', gTup', gSub', oSet, iSeq, oIter, iRange1, iRange2, wLc, wipeP, wYes, wIsE, fnD_rt, fnD_ex, fnD_nx, List.getElem?_cons_zero, List.getElem?_cons_succ, List.set_cons_zero, List.set_cons_succ, Bool.false_xor, Bool.true_xor, if_true, if_false, ite_true, ite_false, reduceIte, Bool.false_eq_true, decide_eq_true_eq, decide_true, decide_false, Bool.not_true, Bool.not_false, Bool.not_eq_true', and_true, true_and]
    have d1 := Nat.div_le_self a' k
    have d2 := Nat.div_le_self b' k
    have d3 : (0 : Int) ≤ ((a' / k : Nat) : Int) := Int.natCast_nonneg _
    rw [nat_sub1 hn0, nat_mul n' (n' - 1), show (2 : Int) = ((2 : Nat) : Int) from rfl, nat_div (n' * (n' - 1)) 2]
    refine ⟨CMl (by omega), cdw (by decide) (by decide), ?_⟩
    refine s_seq (s_set ?_)
    try simp only [wV, wC, wOp, wUn, oI, oAdd, oSub, oMul, oFdiv, oMod, oPow, oNeg, oLt, oLe, oGt, oGe, oEqN, oIsN, isNon, wTest, wChain, wTru, oTru, wNot, wAnd, wOr, wAndV, wOrV, wNotV, wIfE, wNil, wCons, wTup, wLst, wCB, cLen, cInt, cAbs, cMax2, cMin2, cSum, cSum2, cMaxL, cMinL, cAll, cAny, cList, cTuple, cStr, tyN, cIsi, cReprB, oIx, wNoP, wPart, oSl, wSl, oRevL, wBM, wBM0, tyP, mAppend, mExtend, mPop, mCount, mIndex, wCall, gN, gNil', gCons', gTup', gSub', oSet, iSeq, oIter, iRange1, iRange2, wLc, wipeP, wYes, wIsE, fnD_rt, fnD_ex, fnD_nx, List.getElem?_cons_zero, List.getElem?_cons_succ, List.set_cons_zero, List.set_cons_succ, Bool.false_xor, Bool.true_xor, if_true, if_false, ite_true, ite_false, reduceIte, Bool.false_eq_true, decide_eq_true_eq, decide_true, decide_false, Bool.not_true, Bool.not_false, Bool.not_eq_true', and_true, true_and]
    rw [nat_div a' k, nat_div b' k, nat_mul (a' / k), nat_mul n' (b' / k), nat_add]
    refine ⟨cdw (by omega) (by omega), CMl (by omega), cdw (by omega) (by omega), CMl (by omega), CMl (by omega), ?_⟩
    refine s_seq (s_par ?_)
    try simp only [wV, wC, wOp, wUn, oI, oAdd, oSub, oMul, oFdiv, oMod, oPow, oNeg, oLt, oLe, oGt, oGe, oEqN, oIsN, isNon, wTest, wChain, wTru, oTru, wNot, wAnd, wOr, wAndV, wOrV, wNotV, wIfE, wNil, wCons, wTup, wLst, wCB, cLen, cInt, cAbs, cMax2, cMin2, cSum, cSum2, cMaxL, cMinL, cAll, cAny, cList, cTuple, cStr, tyN, cIsi, cReprB, oIx, wNoP, wPart, oSl, wSl, oRevL, wBM, wBM0, tyP, mAppend, mExtend, mPop, mCount, mIndex, wCall, gN, gNil', gCons', gTup', gSub', oSet, iSeq, oIter, iRange1, iRange2, wLc, wipeP, wYes, wIsE, fnD_rt, fnD_ex, fnD_nx, List.getElem?_cons_zero, List.getElem?_cons_succ, List.set_cons_zero, List.set_cons_succ, Bool.false_xor, Bool.true_xor, if_true, if_false, ite_true, ite_false, reduceIte, Bool.false_eq_true, decide_eq_true_eq, decide_true, decide_false, Bool.not_true, Bool.not_false, Bool.not_eq_true', and_true, true_and]
    refine ⟨by omega, by omega, ?_⟩
    rw [nat_mod, nat_mod]
    have m1 := Nat.mod_lt a' hk
    have m2 := Nat.mod_lt b' hk
    have red := fs_red hk a' b' n'
    rw [Nat.mul_comm _ (a' / k)] at red
    have inv2 : (f + s * ((a' / k * (n' * (n' - 1) / 2) + n' * (b' / k) : Nat) : Int)) + s * (fs n' (a' % k) (b' % k) k : Nat) = (fs n a b m : Nat) := by
      rw [red] at inv
      rw [← inv]
      rcases hs with rfl | rfl
      · omega
      · omega
    revert inv2
    generalize f + s * ((a' / k * (n' * (n' - 1) / 2) + n' * (b' / k) : Nat) : Int) = f1
    intro inv2
    clear inv red
    refine s_seq (s_set ?_)
    try simp only [wV, wC, wOp, wUn, oI, oAdd, oSub, oMul, oFdiv, oMod, oPow, oNeg, oLt, oLe, oGt, oGe, oEqN, oIsN, isNon, wTest, wChain, wTru, oTru, wNot, wAnd, wOr, wAndV, wOrV, wNotV, wIfE, wNil, wCons, wTup, wLst, wCB, cLen, cInt, cAbs, cMax2, cMin2, cSum, cSum2, cMaxL, cMinL, cAll, cAny, cList, cTuple, cStr, tyN, cIsi, cReprB, oIx, wNoP, wPart, oSl, wSl, oRevL, wBM, wBM0, tyP, mAppend, mExtend, mPop, mCount, mIndex, wCall, gN, gNil', gCons', gTup', gSub', oSet, iSeq, oIter, iRange1, iRange2, wLc, wipeP, wYes, wIsE, fnD_rt, fnD_ex, fnD_nx, List.getElem?_cons_zero, List.getElem?_cons_succ, List.set_cons_zero, List.set_cons_succ, Bool.false_xor, Bool.true_xor, if_true, if_false, ite_true, ite_false, reduceIte, Bool.false_eq_true, decide_eq_true_eq, decide_true, decide_false, Bool.not_true, Bool.not_false, Bool.not_eq_true', and_true, true_and]
    rw [nat_sub1 hn0, nat_mul, nat_add]
    refine ⟨CMl (by omega), ?_⟩
    refine s_seq (s_set ?_)
    try simp only [wV, wC, wOp, wUn, oI, oAdd, oSub, oMul, oFdiv, oMod, oPow, oNeg, oLt, oLe, oGt, oGe, oEqN, oIsN, isNon, wTest, wChain, wTru, oTru, wNot, wAnd, wOr, wAndV, wOrV, wNotV, wIfE, wNil, wCons, wTup, wLst, wCB, cLen, cInt, cAbs, cMax2, cMin2, cSum, cSum2, cMaxL, cMinL, cAll, cAny, cList, cTuple, cStr, tyN, cIsi, cReprB, oIx, wNoP, wPart, oSl, wSl, oRevL, wBM, wBM0, tyP, mAppend, mExtend, mPop, mCount, mIndex, wCall, gN, gNil', gCons', gTup', gSub', oSet, iSeq, oIter, iRange1, iRange2, wLc, wipeP, wYes, wIsE, fnD_rt, fnD_ex, fnD_nx, List.getElem?_cons_zero, List.getElem?_cons_succ, List.set_cons_zero, List.set_cons_succ, Bool.false_xor, Bool.true_xor, if_true, if_false, ite_true, ite_false, reduceIte, Bool.false_eq_true, decide_eq_true_eq, decide_true, decide_false, Bool.not_true, Bool.not_false, Bool.not_eq_true', and_true, true_and]
    rw [nat_div]
    refine ⟨cdw (by omega) (by omega), ?_⟩
    refine s_seq (s_if ?_)
    try simp only [wV, wC, wOp, wUn, oI, oAdd, oSub, oMul, oFdiv, oMod, oPow, oNeg, oLt, oLe, oGt, oGe, oEqN, oIsN, isNon, wTest, wChain, wTru, oTru, wNot, wAnd, wOr, wAndV, wOrV, wNotV, wIfE, wNil, wCons, wTup, wLst, wCB, cLen, cInt, cAbs, cMax2, cMin2, cSum, cSum2, cMaxL, cMinL, cAll, cAny, cList, cTuple, cStr, tyN, cIsi, cReprB, oIx, wNoP, wPart, oSl, wSl, oRevL, wBM, wBM0, tyP, mAppend, mExtend, mPop, mCount, mIndex, wCall, gN, gNil', gCons', gTup', gSub', oSet, iSeq, oIter, iRange1, iRange2, wLc, wipeP, wYes, wIsE, fnD_rt, fnD_ex, fnD_nx, List.getElem?_cons_zero, List.getElem?_cons_succ, List.set_cons_zero, List.set_cons_succ, Bool.false_xor, Bool.true_xor, if_true, if_false, ite_true, ite_false, reduceIte, Bool.false_eq_true, decide_eq_true_eq, decide_true, decide_false, Bool.not_true, Bool.not_false, Bool.not_eq_true', and_true, true_and]
    split
    · rename_i hz
      have hz' : (a' % k * (n' - 1) + b' % k) / k = 0 := by omega
      have hlt : a' % k * (n' - 1) + b' % k < k := by
        have := Nat.div_add_mod (a' % k * (n' - 1) + b' % k) k
        rw [hz', Nat.mul_zero, Nat.zero_add] at this
        rw [← this]
        exact Nat.mod_lt _ hk
      refine s_ret ?_
      try simp only [wV, wC, wOp, wUn, oI, oAdd, oSub, oMul, oFdiv, oMod, oPow, oNeg, oLt, oLe, oGt, oGe, oEqN, oIsN, isNon, wTest, wChain, wTru, oTru, wNot, wAnd, wOr, wAndV, wOrV, wNotV, wIfE, wNil, wCons, wTup, wLst, wCB, cLen, cInt, cAbs, cMax2, cMin2, cSum, cSum2, cMaxL, cMinL, cAll, cAny, cList, cTuple, cStr, tyN, cIsi, cReprB, oIx, wNoP, wPart, oSl, wSl, oRevL, wBM, wBM0, tyP, mAppend, mExtend, mPop, mCount, mIndex, wCall, gN, gNil', gCons', gTup', gSub', oSet, iSeq, oIter, iRange1, iRange2, wLc, wipeP, wYes, wIsE, fnD_rt, fnD_ex, fnD_nx, List.getElem?_cons_zero, List.getElem?_cons_succ, List.set_cons_zero, List.set_cons_succ, Bool.false_xor, Bool.true_xor, if_true, if_false, ite_true, ite_false, reduceIte, Bool.false_eq_true, decide_eq_true_eq, decide_true, decide_false, Bool.not_true, Bool.not_false, Bool.not_eq_true', and_true, true_and]
      have z : fs n' (a' % k) (b' % k) k = 0 := by
        unfold fs
        rw [← sumN_zero n']
        refine sumN_congr fun i hi => Nat.div_eq_of_lt ?_
        have := Nat.mul_le_mul_left (a' % k) (show i ≤ n' - 1 by omega)
        omega
      rw [z] at inv2
      have e : f1 = (fs n a b m : Nat) := by rw [← inv2]; omega
      rw [e]
      exact dn_same h
    · rename_i hge
      refine s_next ?_
      dsimp only
      have hpos : 0 < (a' % k * (n' - 1) + b' % k) / k := Nat.pos_of_ne_zero fun z => hge (by rw [z]; rfl)
      have turn := fs_turn2 hn0 hk m2 m1 hpos
      have hy := top_le (n := n' - 1) m1 m2
      have hapos : 0 < a' % k := by
        apply Nat.pos_of_ne_zero
        intro z
        rw [z, Nat.zero_mul, Nat.zero_add, Nat.div_eq_of_lt m2] at hpos
        omega
      revert turn hy hpos
      generalize (a' % k * (n' - 1) + b' % k) / k = y
      intro hpos turn hy
      refine s_seq (s_set ?_)
      try simp only [wV, wC, wOp, wUn, oI, oAdd, oSub, oMul, oFdiv, oMod, oPow, oNeg, oLt, oLe, oGt, oGe, oEqN, oIsN, isNon, wTest, wChain, wTru, oTru, wNot, wAnd, wOr, wAndV, wOrV, wNotV, wIfE, wNil, wCons, wTup, wLst, wCB, cLen, cInt, cAbs, cMax2, cMin2, cSum, cSum2, cMaxL, cMinL, cAll, cAny, cList, cTuple, cStr, tyN, cIsi, cReprB, oIx, wNoP, wPart, oSl, wSl, oRevL, wBM, wBM0, tyP, mAppend, mExtend, mPop, mCount, mIndex, wCall, gN, gNil', gCons', gTup', gSub', oSet, iSeq, oIter, iRange1, iRange2, wLc, wipeP, wYes, wIsE, fnD_rt, fnD_ex, fnD_nx, List.getElem?_cons_zero, List.getElem?_cons_succ, List.set_cons_zero, List.set_cons_succ, Bool.false_xor, Bool.true_xor, if_true, if_false, ite_true, ite_false, reduceIte, Bool.false_eq_true, decide_eq_true_eq, decide_true, decide_false, Bool.not_true, Bool.not_false, Bool.not_eq_true', and_true, true_and]
      rw [nat_sub1 hn0]
      refine ⟨CMl (by omega), CMr (by omega), ?_⟩
      refine s_seq (s_set ?_)
      try simp only [wV, wC, wOp, wUn, oI, oAdd, oSub, oMul, oFdiv, oMod, oPow, oNeg, oLt, oLe, oGt, oGe, oEqN, oIsN, isNon, wTest, wChain, wTru, oTru, wNot, wAnd, wOr, wAndV, wOrV, wNotV, wIfE, wNil, wCons, wTup, wLst, wCB, cLen, cInt, cAbs, cMax2, cMin2, cSum, cSum2, cMaxL, cMinL, cAll, cAny, cList, cTuple, cStr, tyN, cIsi, cReprB, oIx, wNoP, wPart, oSl, wSl, oRevL, wBM, wBM0, tyP, mAppend, mExtend, mPop, mCount, mIndex, wCall, gN, gNil', gCons', gTup', gSub', oSet, iSeq, oIter, iRange1, iRange2, wLc, wipeP, wYes, wIsE, fnD_rt, fnD_ex, fnD_nx, List.getElem?_cons_zero, List.getElem?_cons_succ, List.set_cons_zero, List.set_cons_succ, Bool.false_xor, Bool.true_xor, if_true, if_false, ite_true, ite_false, reduceIte, Bool.false_eq_true, decide_eq_true_eq, decide_true, decide_false, Bool.not_true, Bool.not_false, Bool.not_eq_true', and_true, true_and]
      rw [show (k : Int) - ((b' % k : Nat) : Int) - 1 = ((k - b' % k - 1 : Nat) : Int) from by omega]
      refine s_asg ?_
      try simp only [wV, wC, wOp, wUn, oI, oAdd, oSub, oMul, oFdiv, oMod, oPow, oNeg, oLt, oLe, oGt, oGe, oEqN, oIsN, isNon, wTest, wChain, wTru, oTru, wNot, wAnd, wOr, wAndV, wOrV, wNotV, wIfE, wNil, wCons, wTup, wLst, wCB, cLen, cInt, cAbs, cMax2, cMin2, cSum, cSum2, cMaxL, cMinL, cAll, cAny, cList, cTuple, cStr, tyN, cIsi, cReprB, oIx, wNoP, wPart, oSl, wSl, oRevL, wBM, wBM0, tyP, mAppend, mExtend, mPop, mCount, mIndex, wCall, gN, gNil', gCons', gTup', gSub', oSet, iSeq, oIter, iRange1, iRange2, wLc, wipeP, wYes, wIsE, fnD_rt, fnD_ex, fnD_nx, List.getElem?_cons_zero, List.getElem?_cons_succ, List.set_cons_zero, List.set_cons_succ, Bool.false_xor, Bool.true_xor, if_true, if_false, ite_true, ite_false, reduceIte, Bool.false_eq_true, decide_eq_true_eq, decide_true, decide_false, Bool.not_true, Bool.not_false, Bool.not_eq_true', and_true, true_and]
      refine ⟨(by decide : 4 ≤ sizeLine), rfl, ?_⟩
      refine ⟨a' % k, _, S', m1, .refl _, .refl _, _, _, _, _, _, _, _, _, rfl, rfl, by omega, hapos, by omega, hk', by omega, by omega, ?_⟩
      have t2 : ((fs n' (a' % k) (b' % k) k : Nat) : Int) + ((fs y k (k - b' % k - 1) (a' % k) : Nat) : Int) = ((n' - 1 : Nat) : Int) * ((y : Nat) : Int) := by
        rw [nat_mul, nat_add, turn]
      rw [← inv2]
      rcases hs with rfl | rfl
      · rw [Int.one_mul]; omega
      · rw [show (-1 : Int) * ((n' - 1 : Nat) : Int) * (y : Int) = -(((n' - 1 : Nat) : Int) * (y : Int)) from by rw [Int.neg_one_mul, Int.neg_mul]]
        omega
  · have : n' = 0 := by omega
    subst this
    refine s_ret ?_
    try simp only [wV, wC, wOp, wUn, oI, oAdd, oSub, oMul, oFdiv, oMod, oPow, oNeg, oLt, oLe, oGt, oGe, oEqN, oIsN, isNon, wTest, wChain, wTru, oTru, wNot, wAnd, wOr, wAndV, wOrV, wNotV, wIfE, wNil, wCons, wTup, wLst, wCB, cLen, cInt, cAbs, cMax2, cMin2, cSum, cSum2, cMaxL, cMinL, cAll, cAny, cList, cTuple, cStr, tyN, cIsi, cReprB, oIx, wNoP, wPart, oSl, wSl, oRevL, wBM, wBM0, tyP, mAppend, mExtend, mPop, mCount, mIndex, wCall, gN, gNil', gCons', gTup', gSub', oSet, iSeq, oIter, iRange1, iRange2, wLc, wipeP, wYes, wIsE, fnD_rt, fnD_ex, fnD_nx, List.getElem?_cons_zero, List.getElem?_cons_succ, List.set_cons_zero, List.set_cons_succ, Bool.false_xor, Bool.true_xor, if_true, if_false, ite_true, ite_false, reduceIte, Bool.false_eq_true, decide_eq_true_eq, decide_true, decide_false, Bool.not_true, Bool.not_false, Bool.not_eq_true', and_true, true_and]
    have e : f = (fs n a b m : Nat) := by
      rw [← inv]
      have : fs 0 a' b' k = 0 := rfl
      rw [this]; omega
    rw [e]
    exact dn_same h
theorem r__law_slope {h : Addr} {S : Sto} {Q : KE} {E : KX} (hS : S h = some .hand) (hq : ∀ p q : Nat, GoodS p q → Q (sl p q) S) : sp__law_slope [.ref h] S Q E := by
  refine ⟨rfl, ?_⟩
  rw [eW__law_slope, st__law_slope]
  refine s_seq (s_set ?_)
  try simp only [wV, wC, wOp, wUn, oI, oAdd, oSub, oMul, oFdiv, oMod, oPow, oNeg, oLt, oLe, oGt, oGe, oEqN, oIsN, isNon, wTest, wChain, wTru, oTru, wNot, wAnd, wOr, wAndV, wOrV, wNotV, wIfE, wNil, wCons, wTup, wLst, wCB, cLen, cInt, cAbs, cMax2, cMin2, cSum, cSum2, cMaxL, cMinL, cAll, cAny, cList, cTuple, cStr, tyN, cIsi, cReprB, oIx, wNoP, wPart, oSl, wSl, oRevL, wBM, wBM0, tyP, mAppend, mExtend, mPop, mCount, mIndex, wCall, gN, gNil', gCons', gTup', gSub', oSet, iSeq, oIter, iRange1, iRange2, wLc, wipeP, wYes, wIsE, fnD_rt, fnD_ex, fnD_nx, List.getElem?_cons_zero, List.getElem?_cons_succ, List.set_cons_zero, List.set_cons_succ, Bool.false_xor, Bool.true_xor, if_true, if_false, ite_true, ite_false, reduceIte, Bool.false_eq_true, decide_eq_true_eq, decide_true, decide_false, Bool.not_true, Bool.not_false, Bool.not_eq_true', and_true, true_and]
  refine ⟨⟨by decide, by decide, by decide⟩, (by decide : 3 ≤ sizeLine), fun p hp => ?_⟩
  refine r_law_some (keep1 hS hp) (.inl supd_same) (Nat.zero_lt_succ _) (by decide : 3 < 2 ^ 64) fun v hv => ?_
  obtain ⟨sz, rfl, hs1, hs2⟩ : ∃ sz : Nat, v = .int sz ∧ 1 ≤ sz ∧ sz ≤ 1000000000 := by
    simp only [List.mem_cons, List.not_mem_nil, or_false] at hv
    rcases hv with rfl | rfl | rfl
    · exact ⟨9, rfl, by decide, by decide⟩
    · exact ⟨100, rfl, by decide, by decide⟩
    · exact ⟨1000000000, rfl, by decide, by decide⟩
  have hS1 := keep1 (u := .lst [.int 9, .int 100, .int (10 ^ Int.toNat 9)]) hS hp
  have sb : Sub S (supd S p (.lst [.int 9, .int 100, .int (10 ^ Int.toNat 9)])) := (Sub.refl S).grow hp
  revert hS1 sb
  generalize supd S p (.lst [.int 9, .int 100, .int (10 ^ Int.toNat 9)]) = S1
  intro hS1 sb
  try simp only [wV, wC, wOp, wUn, oI, oAdd, oSub, oMul, oFdiv, oMod, oPow, oNeg, oLt, oLe, oGt, oGe, oEqN, oIsN, isNon, wTest, wChain, wTru, oTru, wNot, wAnd, wOr, wAndV, wOrV, wNotV, wIfE, wNil, wCons, wTup, wLst, wCB, cLen, cInt, cAbs, cMax2, cMin2, cSum, cSum2, cMaxL, cMinL, cAll, cAny, cList, cTuple, cStr, tyN, cIsi, cReprB, oIx, wNoP, wPart, oSl, wSl, oRevL, wBM, wBM0, tyP, mAppend, mExtend, mPop, mCount, mIndex, wCall, gN, gNil', gCons', gTup', gSub', oSet, iSeq, oIter, iRange1, iRange2, wLc, wipeP, wYes, wIsE, fnD_rt, fnD_ex, fnD_nx, List.getElem?_cons_zero, List.getElem?_cons_succ, List.set_cons_zero, List.set_cons_succ, Bool.false_xor, Bool.true_xor, if_true, if_false, ite_true, ite_false, reduceIte, Bool.false_eq_true, decide_eq_true_eq, decide_true, decide_false, Bool.not_true, Bool.not_false, Bool.not_eq_true', and_true, true_and]
  refine s_seq (s_set ?_)
  try simp only [wV, wC, wOp, wUn, oI, oAdd, oSub, oMul, oFdiv, oMod, oPow, oNeg, oLt, oLe, oGt, oGe, oEqN, oIsN, isNon, wTest, wChain, wTru, oTru, wNot, wAnd, wOr, wAndV, wOrV, wNotV, wIfE, wNil, wCons, wTup, wLst, wCB, cLen, cInt, cAbs, cMax2, cMin2, cSum, cSum2, cMaxL, cMinL, cAll, cAny, cList, cTuple, cStr, tyN, cIsi, cReprB, oIx, wNoP, wPart, oSl, wSl, oRevL, wBM, wBM0, tyP, mAppend, mExtend, mPop, mCount, mIndex, wCall, gN, gNil', gCons', gTup', gSub', oSet, iSeq, oIter, iRange1, iRange2, wLc, wipeP, wYes, wIsE, fnD_rt, fnD_ex, fnD_nx, List.getElem?_cons_zero, List.getElem?_cons_succ, List.set_cons_zero, List.set_cons_succ, Bool.false_xor, Bool.true_xor, if_true, if_false, ite_true, ite_false, reduceIte, Bool.false_eq_true, decide_eq_true_eq, decide_true, decide_false, Bool.not_true, Bool.not_false, Bool.not_eq_true', and_true, true_and]
  refine ⟨(by decide : 2 ≤ sizeLine), fun p2 hp2 => ?_⟩
  refine r_law_some (keep1 hS1 hp2) (.inl supd_same) (Nat.zero_lt_succ _) (by decide : 2 < 2 ^ 64) fun v hv => ?_
  obtain ⟨bd, rfl, hb1, hb2⟩ : ∃ bd : Nat, v = .int bd ∧ 1 ≤ bd ∧ bd ≤ 1000000000 := by
    simp only [List.mem_cons, List.not_mem_nil, or_false] at hv
    rcases hv with rfl | rfl
    · exact ⟨1, rfl, by decide, by decide⟩
    · exact ⟨sz, rfl, hs1, hs2⟩
  have hS2 := keep1 (u := .lst [.int 1, .int sz]) hS1 hp2
  have sb := sb.grow (u := .lst [.int 1, .int sz]) hp2
  revert hS2 sb
  generalize supd S1 p2 (.lst [.int 1, .int sz]) = S2
  intro hS2 sb
  refine r_draw hS2 (by omega) (by omega) fun d hd0 hd1 => ?_
  try simp only [wV, wC, wOp, wUn, oI, oAdd, oSub, oMul, oFdiv, oMod, oPow, oNeg, oLt, oLe, oGt, oGe, oEqN, oIsN, isNon, wTest, wChain, wTru, oTru, wNot, wAnd, wOr, wAndV, wOrV, wNotV, wIfE, wNil, wCons, wTup, wLst, wCB, cLen, cInt, cAbs, cMax2, cMin2, cSum, cSum2, cMaxL, cMinL, cAll, cAny, cList, cTuple, cStr, tyN, cIsi, cReprB, oIx, wNoP, wPart, oSl, wSl, oRevL, wBM, wBM0, tyP, mAppend, mExtend, mPop, mCount, mIndex, wCall, gN, gNil', gCons', gTup', gSub', oSet, iSeq, oIter, iRange1, iRange2, wLc, wipeP, wYes, wIsE, fnD_rt, fnD_ex, fnD_nx, List.getElem?_cons_zero, List.getElem?_cons_succ, List.set_cons_zero, List.set_cons_succ, Bool.false_xor, Bool.true_xor, if_true, if_false, ite_true, ite_false, reduceIte, Bool.false_eq_true, decide_eq_true_eq, decide_true, decide_false, Bool.not_true, Bool.not_false, Bool.not_eq_true', and_true, true_and]
  obtain ⟨bt, ebt⟩ : ∃ bt : Nat, 1 + d = (bt : Int) := ⟨(1 + d).toNat, by omega⟩
  rw [ebt]
  refine s_ret ?_
  try simp only [wV, wC, wOp, wUn, oI, oAdd, oSub, oMul, oFdiv, oMod, oPow, oNeg, oLt, oLe, oGt, oGe, oEqN, oIsN, isNon, wTest, wChain, wTru, oTru, wNot, wAnd, wOr, wAndV, wOrV, wNotV, wIfE, wNil, wCons, wTup, wLst, wCB, cLen, cInt, cAbs, cMax2, cMin2, cSum, cSum2, cMaxL, cMinL, cAll, cAny, cList, cTuple, cStr, tyN, cIsi, cReprB, oIx, wNoP, wPart, oSl, wSl, oRevL, wBM, wBM0, tyP, mAppend, mExtend, mPop, mCount, mIndex, wCall, gN, gNil', gCons', gTup', gSub', oSet, iSeq, oIter, iRange1, iRange2, wLc, wipeP, wYes, wIsE, fnD_rt, fnD_ex, fnD_nx, List.getElem?_cons_zero, List.getElem?_cons_succ, List.set_cons_zero, List.set_cons_succ, Bool.false_xor, Bool.true_xor, if_true, if_false, ite_true, ite_false, reduceIte, Bool.false_eq_true, decide_eq_true_eq, decide_true, decide_false, Bool.not_true, Bool.not_false, Bool.not_eq_true', and_true, true_and]
  refine r_draw hS2 (by omega) (by omega) fun d1 he0 he1 => ?_
  try simp only [wV, wC, wOp, wUn, oI, oAdd, oSub, oMul, oFdiv, oMod, oPow, oNeg, oLt, oLe, oGt, oGe, oEqN, oIsN, isNon, wTest, wChain, wTru, oTru, wNot, wAnd, wOr, wAndV, wOrV, wNotV, wIfE, wNil, wCons, wTup, wLst, wCB, cLen, cInt, cAbs, cMax2, cMin2, cSum, cSum2, cMaxL, cMinL, cAll, cAny, cList, cTuple, cStr, tyN, cIsi, cReprB, oIx, wNoP, wPart, oSl, wSl, oRevL, wBM, wBM0, tyP, mAppend, mExtend, mPop, mCount, mIndex, wCall, gN, gNil', gCons', gTup', gSub', oSet, iSeq, oIter, iRange1, iRange2, wLc, wipeP, wYes, wIsE, fnD_rt, fnD_ex, fnD_nx, List.getElem?_cons_zero, List.getElem?_cons_succ, List.set_cons_zero, List.set_cons_succ, Bool.false_xor, Bool.true_xor, if_true, if_false, ite_true, ite_false, reduceIte, Bool.false_eq_true, decide_eq_true_eq, decide_true, decide_false, Bool.not_true, Bool.not_false, Bool.not_eq_true', and_true, true_and]
  refine r_draw hS2 (by omega) (by omega) fun d2 hf0 hf1 => ?_
  try simp only [wV, wC, wOp, wUn, oI, oAdd, oSub, oMul, oFdiv, oMod, oPow, oNeg, oLt, oLe, oGt, oGe, oEqN, oIsN, isNon, wTest, wChain, wTru, oTru, wNot, wAnd, wOr, wAndV, wOrV, wNotV, wIfE, wNil, wCons, wTup, wLst, wCB, cLen, cInt, cAbs, cMax2, cMin2, cSum, cSum2, cMaxL, cMinL, cAll, cAny, cList, cTuple, cStr, tyN, cIsi, cReprB, oIx, wNoP, wPart, oSl, wSl, oRevL, wBM, wBM0, tyP, mAppend, mExtend, mPop, mCount, mIndex, wCall, gN, gNil', gCons', gTup', gSub', oSet, iSeq, oIter, iRange1, iRange2, wLc, wipeP, wYes, wIsE, fnD_rt, fnD_ex, fnD_nx, List.getElem?_cons_zero, List.getElem?_cons_succ, List.set_cons_zero, List.set_cons_succ, Bool.false_xor, Bool.true_xor, if_true, if_false, ite_true, ite_false, reduceIte, Bool.false_eq_true, decide_eq_true_eq, decide_true, decide_false, Bool.not_true, Bool.not_false, Bool.not_eq_true', and_true, true_and]
  refine ⟨(by decide : 4 ≤ sizeLine), fun p3 hp3 => ?_⟩
  refine r_law_some (keep1 hS2 hp3) (.inl supd_same) (Nat.zero_lt_succ _) (by decide : 4 < 2 ^ 64) fun v hv => ?_
  obtain ⟨tp, rfl, ht⟩ : ∃ tp : Nat, v = .int tp ∧ tp ≤ 1000000000 := by
    simp only [List.mem_cons, List.not_mem_nil, or_false] at hv
    rcases hv with rfl | rfl | rfl | rfl
    · exact ⟨0, rfl, by decide⟩
    · exact ⟨bt, rfl, by omega⟩
    · exact ⟨d1.toNat, by rw [Int.toNat_of_nonneg he0], by omega⟩
    · exact ⟨d2.toNat, by rw [Int.toNat_of_nonneg hf0], by omega⟩
  try simp only [wV, wC, wOp, wUn, oI, oAdd, oSub, oMul, oFdiv, oMod, oPow, oNeg, oLt, oLe, oGt, oGe, oEqN, oIsN, isNon, wTest, wChain, wTru, oTru, wNot, wAnd, wOr, wAndV, wOrV, wNotV, wIfE, wNil, wCons, wTup, wLst, wCB, cLen, cInt, cAbs, cMax2, cMin2, cSum, cSum2, cMaxL, cMinL, cAll, cAny, cList, cTuple, cStr, tyN, cIsi, cReprB, oIx, wNoP, wPart, oSl, wSl, oRevL, wBM, wBM0, tyP, mAppend, mExtend, mPop, mCount, mIndex, wCall, gN, gNil', gCons', gTup', gSub', oSet, iSeq, oIter, iRange1, iRange2, wLc, wipeP, wYes, wIsE, fnD_rt, fnD_ex, fnD_nx, List.getElem?_cons_zero, List.getElem?_cons_succ, List.set_cons_zero, List.set_cons_succ, Bool.false_xor, Bool.true_xor, if_true, if_false, ite_true, ite_false, reduceIte, Bool.false_eq_true, decide_eq_true_eq, decide_true, decide_false, Bool.not_true, Bool.not_false, Bool.not_eq_true', and_true, true_and]
  exact r__law_fraction (by omega) (by omega) (dn_sub (sb.grow hp3) (hq _ _ (good_frac ht (by omega) (by omega))))
theorem r_word {th : Thk} {f : Addr} {S : Sto} {Q : KE} {nm wd : Str} (hnm : (nm = "BadNumber" ∧ wd = PySem.Str.ofString "number") ∨ (nm = "BadSlope" ∧ wd = PySem.Str.ofString "slope")) (hth : ∀ Q' E', (∀ S1, Sub S S1 → E' ⟨nm, none⟩ S1) → th S Q' E') (h : ∀ S', Sub S S' → Q (.str wd) S') :
    W__law_word th f (PD.fn Q fun _ _ => False) (startP N__law_word [.ref f]) S := by
  rw [eW__law_word, st__law_word]
  refine s_seq ?_
  show wTry _ _ _ _ _ _
  unfold wTry
  refine s_expr ?_
  refine ⟨rfl, hth _ _ fun S1 sb => ?_⟩
  have b1 : sub nm "TooMany" = false := by rcases hnm with ⟨rfl, _⟩ | ⟨rfl, _⟩ <;> decide +kernel
  have b2 : sub nm "TermError" = true := by rcases hnm with ⟨rfl, _⟩ | ⟨rfl, _⟩ <;> decide +kernel
  simp only [clW, b1, b2, if_true, if_false, Bool.false_eq_true]
  intro a
  refine ⟨rfl, ?_⟩
  try simp only [pdOf, envOf, wV, wC, wOp, wUn, oI, oAdd, oSub, oMul, oFdiv, oMod, oPow, oNeg, oLt, oLe, oGt, oGe, oEqN, oIsN, isNon, wTest, wChain, wTru, oTru, wNot, wAnd, wOr, wAndV, wOrV, wNotV, wIfE, wNil, wCons, wTup, wLst, wCB, cLen, cInt, cAbs, cMax2, cMin2, cSum, cSum2, cMaxL, cMinL, cAll, cAny, cList, cTuple, cStr, tyN, cIsi, cReprB, oIx, wNoP, wPart, oSl, wSl, oRevL, wBM, wBM0, tyP, mAppend, mExtend, mPop, mCount, mIndex, wCall, gN, gNil', gCons', gTup', gSub', oSet, iSeq, oIter, iRange1, iRange2, wLc, wipeP, wYes, wIsE, fnD_rt, fnD_ex, fnD_nx, List.getElem?_cons_zero, List.getElem?_cons_succ, List.set_cons_zero, List.set_cons_succ, Bool.false_xor, Bool.true_xor, if_true, if_false, ite_true, ite_false, reduceIte, Bool.false_eq_true, decide_eq_true_eq, decide_true, decide_false, Bool.not_true, Bool.not_false, Bool.not_eq_true', and_true, true_and]
  refine s_seq (s_set ?_)
  try simp only [wV, wC, wOp, wUn, oI, oAdd, oSub, oMul, oFdiv, oMod, oPow, oNeg, oLt, oLe, oGt, oGe, oEqN, oIsN, isNon, wTest, wChain, wTru, oTru, wNot, wAnd, wOr, wAndV, wOrV, wNotV, wIfE, wNil, wCons, wTup, wLst, wCB, cLen, cInt, cAbs, cMax2, cMin2, cSum, cSum2, cMaxL, cMinL, cAll, cAny, cList, cTuple, cStr, tyN, cIsi, cReprB, oIx, wNoP, wPart, oSl, wSl, oRevL, wBM, wBM0, tyP, mAppend, mExtend, mPop, mCount, mIndex, wCall, gN, gNil', gCons', gTup', gSub', oSet, iSeq, oIter, iRange1, iRange2, wLc, wipeP, wYes, wIsE, fnD_rt, fnD_ex, fnD_nx, List.getElem?_cons_zero, List.getElem?_cons_succ, List.set_cons_zero, List.set_cons_succ, Bool.false_xor, Bool.true_xor, if_true, if_false, ite_true, ite_false, reduceIte, Bool.false_eq_true, decide_eq_true_eq, decide_true, decide_false, Bool.not_true, Bool.not_false, Bool.not_eq_true', and_true, true_and]
  refine ⟨(by decide : 2 ≤ sizeLine), fun p hp => ?_⟩
  refine s_seq (s_set ?_)
  try simp only [wV, wC, wOp, wUn, oI, oAdd, oSub, oMul, oFdiv, oMod, oPow, oNeg, oLt, oLe, oGt, oGe, oEqN, oIsN, isNon, wTest, wChain, wTru, oTru, wNot, wAnd, wOr, wAndV, wOrV, wNotV, wIfE, wNil, wCons, wTup, wLst, wCB, cLen, cInt, cAbs, cMax2, cMin2, cSum, cSum2, cMaxL, cMinL, cAll, cAny, cList, cTuple, cStr, tyN, cIsi, cReprB, oIx, wNoP, wPart, oSl, wSl, oRevL, wBM, wBM0, tyP, mAppend, mExtend, mPop, mCount, mIndex, wCall, gN, gNil', gCons', gTup', gSub', oSet, iSeq, oIter, iRange1, iRange2, wLc, wipeP, wYes, wIsE, fnD_rt, fnD_ex, fnD_nx, List.getElem?_cons_zero, List.getElem?_cons_succ, List.set_cons_zero, List.set_cons_succ, Bool.false_xor, Bool.true_xor, if_true, if_false, ite_true, ite_false, reduceIte, Bool.false_eq_true, decide_eq_true_eq, decide_true, decide_false, Bool.not_true, Bool.not_false, Bool.not_eq_true', and_true, true_and]
  refine ⟨(by decide : 2 ≤ sizeLine), fun q hq => ?_⟩
  rcases hnm with ⟨rfl, rfl⟩ | ⟨rfl, rfl⟩
  · have b3 : sub "BadNumber" "BadNumber" = true := by decide +kernel
    have b4 : sub "BadNumber" "BadSlope" = false := by decide +kernel
    have e1 := keep1 (u := .lst [.str (PySem.Str.ofString "number"), .str (PySem.Str.ofString "slope")]) (supd_same (S := S1) (a := p) (o := .lst [.bl (sub "BadNumber" "BadNumber"), .bl (sub "BadNumber" "BadSlope")])) hq
    refine s_ret ?_
    try simp only [b3, b4, wV, wC, wOp, wUn, oI, oAdd, oSub, oMul, oFdiv, oMod, oPow, oNeg, oLt, oLe, oGt, oGe, oEqN, oIsN, isNon, wTest, wChain, wTru, oTru, wNot, wAnd, wOr, wAndV, wOrV, wNotV, wIfE, wNil, wCons, wTup, wLst, wCB, cLen, cInt, cAbs, cMax2, cMin2, cSum, cSum2, cMaxL, cMinL, cAll, cAny, cList, cTuple, cStr, tyN, cIsi, cReprB, oIx, wNoP, wPart, oSl, wSl, oRevL, wBM, wBM0, tyP, mAppend, mExtend, mPop, mCount, mIndex, wCall, gN, gNil', gCons', gTup', gSub', oSet, iSeq, oIter, iRange1, iRange2, wLc, wipeP, wYes, wIsE, fnD_rt, fnD_ex, fnD_nx, List.getElem?_cons_zero, List.getElem?_cons_succ, List.set_cons_zero, List.set_cons_succ, Bool.false_xor, Bool.true_xor, if_true, if_false, ite_true, ite_false, reduceIte, Bool.false_eq_true, decide_eq_true_eq, decide_true, decide_false, Bool.not_true, Bool.not_false, Bool.not_eq_true', and_true, true_and] at e1 ⊢
    refine ⟨⟨_, .inl e1⟩, _, .inl e1, rfl, rfl, ?_⟩
    rw [if_pos (show (((([PV.bl true, PV.bl false] : List PV).countP fun z => eqP z (.bl true)) : Nat) : Int) = 1 from by rfl)]
    try simp only [wV, wC, wOp, wUn, oI, oAdd, oSub, oMul, oFdiv, oMod, oPow, oNeg, oLt, oLe, oGt, oGe, oEqN, oIsN, isNon, wTest, wChain, wTru, oTru, wNot, wAnd, wOr, wAndV, wOrV, wNotV, wIfE, wNil, wCons, wTup, wLst, wCB, cLen, cInt, cAbs, cMax2, cMin2, cSum, cSum2, cMaxL, cMinL, cAll, cAny, cList, cTuple, cStr, tyN, cIsi, cReprB, oIx, wNoP, wPart, oSl, wSl, oRevL, wBM, wBM0, tyP, mAppend, mExtend, mPop, mCount, mIndex, wCall, gN, gNil', gCons', gTup', gSub', oSet, iSeq, oIter, iRange1, iRange2, wLc, wipeP, wYes, wIsE, fnD_rt, fnD_ex, fnD_nx, List.getElem?_cons_zero, List.getElem?_cons_succ, List.set_cons_zero, List.set_cons_succ, Bool.false_xor, Bool.true_xor, if_true, if_false, ite_true, ite_false, reduceIte, Bool.false_eq_true, decide_eq_true_eq, decide_true, decide_false, Bool.not_true, Bool.not_false, Bool.not_eq_true', and_true, true_and]
    refine ⟨⟨_, .inl e1⟩, _, 0, .bl true, .inl e1, rfl, rfl, rfl, rfl, fun m z' hm _ => absurd hm (Nat.not_lt_zero m), ?_⟩
    refine ⟨_, _, .inl supd_same, rfl, ?_⟩
    exact h _ ((sb.grow hp).grow hq)
  · have b3 : sub "BadSlope" "BadNumber" = false := by decide +kernel
    have b4 : sub "BadSlope" "BadSlope" = true := by decide +kernel
    have e1 := keep1 (u := .lst [.str (PySem.Str.ofString "number"), .str (PySem.Str.ofString "slope")]) (supd_same (S := S1) (a := p) (o := .lst [.bl (sub "BadSlope" "BadNumber"), .bl (sub "BadSlope" "BadSlope")])) hq
    refine s_ret ?_
    try simp only [b3, b4, wV, wC, wOp, wUn, oI, oAdd, oSub, oMul, oFdiv, oMod, oPow, oNeg, oLt, oLe, oGt, oGe, oEqN, oIsN, isNon, wTest, wChain, wTru, oTru, wNot, wAnd, wOr, wAndV, wOrV, wNotV, wIfE, wNil, wCons, wTup, wLst, wCB, cLen, cInt, cAbs, cMax2, cMin2, cSum, cSum2, cMaxL, cMinL, cAll, cAny, cList, cTuple, cStr, tyN, cIsi, cReprB, oIx, wNoP, wPart, oSl, wSl, oRevL, wBM, wBM0, tyP, mAppend, mExtend, mPop, mCount, mIndex, wCall, gN, gNil', gCons', gTup', gSub', oSet, iSeq, oIter, iRange1, iRange2, wLc, wipeP, wYes, wIsE, fnD_rt, fnD_ex, fnD_nx, List.getElem?_cons_zero, List.getElem?_cons_succ, List.set_cons_zero, List.set_cons_succ, Bool.false_xor, Bool.true_xor, if_true, if_false, ite_true, ite_false, reduceIte, Bool.false_eq_true, decide_eq_true_eq, decide_true, decide_false, Bool.not_true, Bool.not_false, Bool.not_eq_true', and_true, true_and] at e1 ⊢
    refine ⟨⟨_, .inl e1⟩, _, .inl e1, rfl, rfl, ?_⟩
    rw [if_pos (show (((([PV.bl false, PV.bl true] : List PV).countP fun z => eqP z (.bl true)) : Nat) : Int) = 1 from by rfl)]
    try simp only [wV, wC, wOp, wUn, oI, oAdd, oSub, oMul, oFdiv, oMod, oPow, oNeg, oLt, oLe, oGt, oGe, oEqN, oIsN, isNon, wTest, wChain, wTru, oTru, wNot, wAnd, wOr, wAndV, wOrV, wNotV, wIfE, wNil, wCons, wTup, wLst, wCB, cLen, cInt, cAbs, cMax2, cMin2, cSum, cSum2, cMaxL, cMinL, cAll, cAny, cList, cTuple, cStr, tyN, cIsi, cReprB, oIx, wNoP, wPart, oSl, wSl, oRevL, wBM, wBM0, tyP, mAppend, mExtend, mPop, mCount, mIndex, wCall, gN, gNil', gCons', gTup', gSub', oSet, iSeq, oIter, iRange1, iRange2, wLc, wipeP, wYes, wIsE, fnD_rt, fnD_ex, fnD_nx, List.getElem?_cons_zero, List.getElem?_cons_succ, List.set_cons_zero, List.set_cons_succ, Bool.false_xor, Bool.true_xor, if_true, if_false, ite_true, ite_false, reduceIte, Bool.false_eq_true, decide_eq_true_eq, decide_true, decide_false, Bool.not_true, Bool.not_false, Bool.not_eq_true', and_true, true_and]
    refine ⟨⟨_, .inl e1⟩, _, 1, .bl true, .inl e1, rfl, rfl, rfl, rfl, fun m z' hm hz' => ?_, ?_⟩
    · have : m = 0 := by omega
      subst this
      cases hz'
      rfl
    refine ⟨_, _, .inl supd_same, rfl, ?_⟩
    exact h _ ((sb.grow hp).grow hq)

end L3

set_option Elab.async false
set_option linter.all false
set_option maxRecDepth 100000
set_option maxHeartbeats 600000
namespace L3
open PySem PySem.Spec L2
open PyProof.Rows hiding St
theorem r_beat_row_num {x y z : PV} {S : Sto} {Q : KE} {E : KX} (hz : flatP z = true) (hb : inR z 0 5000 = false) (h : E ⟨"BadNumber", none⟩ S) : sp_beat_row [x, y, z] S Q E := by
  refine ⟨rfl, ?_⟩
  rw [eW_beat_row, st_beat_row]
  refine s_seq (s_if ?_)
  try simp only [wV, wC, wOp, wUn, oI, oAdd, oSub, oMul, oFdiv, oMod, oPow, oNeg, oLt, oLe, oGt, oGe, oEqN, oIsN, isNon, wTest, wChain, wTru, oTru, wNot, wAnd, wOr, wAndV, wOrV, wNotV, wIfE, wNil, wCons, wTup, wLst, wCB, cLen, cInt, cAbs, cMax2, cMin2, cSum, cSum2, cMaxL, cMinL, cAll, cAny, cList, cTuple, cStr, tyN, cIsi, cReprB, oIx, wNoP, wPart, oSl, wSl, oRevL, wBM, wBM0, tyP, mAppend, mExtend, mPop, mCount, mIndex, wCall, gN, gNil', gCons', gTup', gSub', oSet, iSeq, oIter, iRange1, iRange2, wLc, wipeP, wYes, wIsE, fnD_rt, fnD_ex, fnD_nx, List.getElem?_cons_zero, List.getElem?_cons_succ, List.set_cons_zero, List.set_cons_succ, Bool.false_xor, Bool.true_xor, if_true, if_false, ite_true, ite_false, reduceIte, Bool.false_eq_true, decide_eq_true_eq, decide_true, decide_false, Bool.not_true, Bool.not_false, Bool.not_eq_true', and_true, true_and]
  refine r_is_within hz ?_
  simp only [hb, wV, wC, wOp, wUn, oI, oAdd, oSub, oMul, oFdiv, oMod, oPow, oNeg, oLt, oLe, oGt, oGe, oEqN, oIsN, isNon, wTest, wChain, wTru, oTru, wNot, wAnd, wOr, wAndV, wOrV, wNotV, wIfE, wNil, wCons, wTup, wLst, wCB, cLen, cInt, cAbs, cMax2, cMin2, cSum, cSum2, cMaxL, cMinL, cAll, cAny, cList, cTuple, cStr, tyN, cIsi, cReprB, oIx, wNoP, wPart, oSl, wSl, oRevL, wBM, wBM0, tyP, mAppend, mExtend, mPop, mCount, mIndex, wCall, gN, gNil', gCons', gTup', gSub', oSet, iSeq, oIter, iRange1, iRange2, wLc, wipeP, wYes, wIsE, fnD_rt, fnD_ex, fnD_nx, List.getElem?_cons_zero, List.getElem?_cons_succ, List.set_cons_zero, List.set_cons_succ, Bool.false_xor, Bool.true_xor, if_true, if_false, ite_true, ite_false, reduceIte, Bool.false_eq_true, decide_eq_true_eq, decide_true, decide_false, Bool.not_true, Bool.not_false, Bool.not_eq_true', and_true, true_and]
  exact s_raise ⟨S, .refl S, h⟩
theorem r_beat_row_s1 {x y : PV} {n : Nat} {S : Sto} {Q : KE} {E : KX} (hn : n ≤ 5000) (hx : BadX S x) (h : E ⟨"BadSlope", none⟩ S) : sp_beat_row [x, y, .int n] S Q E := by
  refine ⟨rfl, ?_⟩
  rw [eW_beat_row, st_beat_row]
  refine s_seq (s_if ?_)
  try simp only [wV, wC, wOp, wUn, oI, oAdd, oSub, oMul, oFdiv, oMod, oPow, oNeg, oLt, oLe, oGt, oGe, oEqN, oIsN, isNon, wTest, wChain, wTru, oTru, wNot, wAnd, wOr, wAndV, wOrV, wNotV, wIfE, wNil, wCons, wTup, wLst, wCB, cLen, cInt, cAbs, cMax2, cMin2, cSum, cSum2, cMaxL, cMinL, cAll, cAny, cList, cTuple, cStr, tyN, cIsi, cReprB, oIx, wNoP, wPart, oSl, wSl, oRevL, wBM, wBM0, tyP, mAppend, mExtend, mPop, mCount, mIndex, wCall, gN, gNil', gCons', gTup', gSub', oSet, iSeq, oIter, iRange1, iRange2, wLc, wipeP, wYes, wIsE, fnD_rt, fnD_ex, fnD_nx, List.getElem?_cons_zero, List.getElem?_cons_succ, List.set_cons_zero, List.set_cons_succ, Bool.false_xor, Bool.true_xor, if_true, if_false, ite_true, ite_false, reduceIte, Bool.false_eq_true, decide_eq_true_eq, decide_true, decide_false, Bool.not_true, Bool.not_false, Bool.not_eq_true', and_true, true_and]
  refine r_is_within rfl ?_
  rw [within_ok (by omega)]
  try simp only [wV, wC, wOp, wUn, oI, oAdd, oSub, oMul, oFdiv, oMod, oPow, oNeg, oLt, oLe, oGt, oGe, oEqN, oIsN, isNon, wTest, wChain, wTru, oTru, wNot, wAnd, wOr, wAndV, wOrV, wNotV, wIfE, wNil, wCons, wTup, wLst, wCB, cLen, cInt, cAbs, cMax2, cMin2, cSum, cSum2, cMaxL, cMinL, cAll, cAny, cList, cTuple, cStr, tyN, cIsi, cReprB, oIx, wNoP, wPart, oSl, wSl, oRevL, wBM, wBM0, tyP, mAppend, mExtend, mPop, mCount, mIndex, wCall, gN, gNil', gCons', gTup', gSub', oSet, iSeq, oIter, iRange1, iRange2, wLc, wipeP, wYes, wIsE, fnD_rt, fnD_ex, fnD_nx, List.getElem?_cons_zero, List.getElem?_cons_succ, List.set_cons_zero, List.set_cons_succ, Bool.false_xor, Bool.true_xor, if_true, if_false, ite_true, ite_false, reduceIte, Bool.false_eq_true, decide_eq_true_eq, decide_true, decide_false, Bool.not_true, Bool.not_false, Bool.not_eq_true', and_true, true_and]
  refine s_next ?_
  dsimp only
  refine s_seq (s_expr ?_)
  try simp only [wV, wC, wOp, wUn, oI, oAdd, oSub, oMul, oFdiv, oMod, oPow, oNeg, oLt, oLe, oGt, oGe, oEqN, oIsN, isNon, wTest, wChain, wTru, oTru, wNot, wAnd, wOr, wAndV, wOrV, wNotV, wIfE, wNil, wCons, wTup, wLst, wCB, cLen, cInt, cAbs, cMax2, cMin2, cSum, cSum2, cMaxL, cMinL, cAll, cAny, cList, cTuple, cStr, tyN, cIsi, cReprB, oIx, wNoP, wPart, oSl, wSl, oRevL, wBM, wBM0, tyP, mAppend, mExtend, mPop, mCount, mIndex, wCall, gN, gNil', gCons', gTup', gSub', oSet, iSeq, oIter, iRange1, iRange2, wLc, wipeP, wYes, wIsE, fnD_rt, fnD_ex, fnD_nx, List.getElem?_cons_zero, List.getElem?_cons_succ, List.set_cons_zero, List.set_cons_succ, Bool.false_xor, Bool.true_xor, if_true, if_false, ite_true, ite_false, reduceIte, Bool.false_eq_true, decide_eq_true_eq, decide_true, decide_false, Bool.not_true, Bool.not_false, Bool.not_eq_true', and_true, true_and]
  exact r_check_bad hx ⟨S, .refl S, h⟩
theorem r_beat_row_s2 {p q : Nat} {y : PV} {n : Nat} {S : Sto} {Q : KE} {E : KX} (hn : n ≤ 5000) (g : GoodS p q) (hx : BadX S y) (h : E ⟨"BadSlope", none⟩ S) : sp_beat_row [sl p q, y, .int n] S Q E := by
  refine ⟨rfl, ?_⟩
  rw [eW_beat_row, st_beat_row]
  refine s_seq (s_if ?_)
  try simp only [wV, wC, wOp, wUn, oI, oAdd, oSub, oMul, oFdiv, oMod, oPow, oNeg, oLt, oLe, oGt, oGe, oEqN, oIsN, isNon, wTest, wChain, wTru, oTru, wNot, wAnd, wOr, wAndV, wOrV, wNotV, wIfE, wNil, wCons, wTup, wLst, wCB, cLen, cInt, cAbs, cMax2, cMin2, cSum, cSum2, cMaxL, cMinL, cAll, cAny, cList, cTuple, cStr, tyN, cIsi, cReprB, oIx, wNoP, wPart, oSl, wSl, oRevL, wBM, wBM0, tyP, mAppend, mExtend, mPop, mCount, mIndex, wCall, gN, gNil', gCons', gTup', gSub', oSet, iSeq, oIter, iRange1, iRange2, wLc, wipeP, wYes, wIsE, fnD_rt, fnD_ex, fnD_nx, List.getElem?_cons_zero, List.getElem?_cons_succ, List.set_cons_zero, List.set_cons_succ, Bool.false_xor, Bool.true_xor, if_true, if_false, ite_true, ite_false, reduceIte, Bool.false_eq_true, decide_eq_true_eq, decide_true, decide_false, Bool.not_true, Bool.not_false, Bool.not_eq_true', and_true, true_and]
  refine r_is_within rfl ?_
  rw [within_ok (by omega)]
  try simp only [wV, wC, wOp, wUn, oI, oAdd, oSub, oMul, oFdiv, oMod, oPow, oNeg, oLt, oLe, oGt, oGe, oEqN, oIsN, isNon, wTest, wChain, wTru, oTru, wNot, wAnd, wOr, wAndV, wOrV, wNotV, wIfE, wNil, wCons, wTup, wLst, wCB, cLen, cInt, cAbs, cMax2, cMin2, cSum, cSum2, cMaxL, cMinL, cAll, cAny, cList, cTuple, cStr, tyN, cIsi, cReprB, oIx, wNoP, wPart, oSl, wSl, oRevL, wBM, wBM0, tyP, mAppend, mExtend, mPop, mCount, mIndex, wCall, gN, gNil', gCons', gTup', gSub', oSet, iSeq, oIter, iRange1, iRange2, wLc, wipeP, wYes, wIsE, fnD_rt, fnD_ex, fnD_nx, List.getElem?_cons_zero, List.getElem?_cons_succ, List.set_cons_zero, List.set_cons_succ, Bool.false_xor, Bool.true_xor, if_true, if_false, ite_true, ite_false, reduceIte, Bool.false_eq_true, decide_eq_true_eq, decide_true, decide_false, Bool.not_true, Bool.not_false, Bool.not_eq_true', and_true, true_and]
  refine s_next ?_
  dsimp only
  refine s_seq (s_expr ?_)
  try simp only [wV, wC, wOp, wUn, oI, oAdd, oSub, oMul, oFdiv, oMod, oPow, oNeg, oLt, oLe, oGt, oGe, oEqN, oIsN, isNon, wTest, wChain, wTru, oTru, wNot, wAnd, wOr, wAndV, wOrV, wNotV, wIfE, wNil, wCons, wTup, wLst, wCB, cLen, cInt, cAbs, cMax2, cMin2, cSum, cSum2, cMaxL, cMinL, cAll, cAny, cList, cTuple, cStr, tyN, cIsi, cReprB, oIx, wNoP, wPart, oSl, wSl, oRevL, wBM, wBM0, tyP, mAppend, mExtend, mPop, mCount, mIndex, wCall, gN, gNil', gCons', gTup', gSub', oSet, iSeq, oIter, iRange1, iRange2, wLc, wipeP, wYes, wIsE, fnD_rt, fnD_ex, fnD_nx, List.getElem?_cons_zero, List.getElem?_cons_succ, List.set_cons_zero, List.set_cons_succ, Bool.false_xor, Bool.true_xor, if_true, if_false, ite_true, ite_false, reduceIte, Bool.false_eq_true, decide_eq_true_eq, decide_true, decide_false, Bool.not_true, Bool.not_false, Bool.not_eq_true', and_true, true_and]
  refine r_check_ok g ?_
  refine s_seq (s_expr ?_)
  try simp only [wV, wC, wOp, wUn, oI, oAdd, oSub, oMul, oFdiv, oMod, oPow, oNeg, oLt, oLe, oGt, oGe, oEqN, oIsN, isNon, wTest, wChain, wTru, oTru, wNot, wAnd, wOr, wAndV, wOrV, wNotV, wIfE, wNil, wCons, wTup, wLst, wCB, cLen, cInt, cAbs, cMax2, cMin2, cSum, cSum2, cMaxL, cMinL, cAll, cAny, cList, cTuple, cStr, tyN, cIsi, cReprB, oIx, wNoP, wPart, oSl, wSl, oRevL, wBM, wBM0, tyP, mAppend, mExtend, mPop, mCount, mIndex, wCall, gN, gNil', gCons', gTup', gSub', oSet, iSeq, oIter, iRange1, iRange2, wLc, wipeP, wYes, wIsE, fnD_rt, fnD_ex, fnD_nx, List.getElem?_cons_zero, List.getElem?_cons_succ, List.set_cons_zero, List.set_cons_succ, Bool.false_xor, Bool.true_xor, if_true, if_false, ite_true, ite_false, reduceIte, Bool.false_eq_true, decide_eq_true_eq, decide_true, decide_false, Bool.not_true, Bool.not_false, Bool.not_eq_true', and_true, true_and]
  exact r_check_bad hx ⟨S, .refl S, h⟩
theorem r_whole_s2 {p q : Nat} {y z : PV} {S : Sto} {Q : KE} {E : KX} (g : GoodS p q) (hx : BadX S y) (h : E ⟨"BadSlope", none⟩ S) : sp_whole_part [sl p q, y, z] S Q E := by
  refine ⟨rfl, ?_⟩
  rw [eW_whole_part, st_whole_part]
  refine s_seq (s_expr ?_)
  try simp only [wV, wC, wOp, wUn, oI, oAdd, oSub, oMul, oFdiv, oMod, oPow, oNeg, oLt, oLe, oGt, oGe, oEqN, oIsN, isNon, wTest, wChain, wTru, oTru, wNot, wAnd, wOr, wAndV, wOrV, wNotV, wIfE, wNil, wCons, wTup, wLst, wCB, cLen, cInt, cAbs, cMax2, cMin2, cSum, cSum2, cMaxL, cMinL, cAll, cAny, cList, cTuple, cStr, tyN, cIsi, cReprB, oIx, wNoP, wPart, oSl, wSl, oRevL, wBM, wBM0, tyP, mAppend, mExtend, mPop, mCount, mIndex, wCall, gN, gNil', gCons', gTup', gSub', oSet, iSeq, oIter, iRange1, iRange2, wLc, wipeP, wYes, wIsE, fnD_rt, fnD_ex, fnD_nx, List.getElem?_cons_zero, List.getElem?_cons_succ, List.set_cons_zero, List.set_cons_succ, Bool.false_xor, Bool.true_xor, if_true, if_false, ite_true, ite_false, reduceIte, Bool.false_eq_true, decide_eq_true_eq, decide_true, decide_false, Bool.not_true, Bool.not_false, Bool.not_eq_true', and_true, true_and]
  refine r_check_ok g ?_
  refine s_seq (s_expr ?_)
  try simp only [wV, wC, wOp, wUn, oI, oAdd, oSub, oMul, oFdiv, oMod, oPow, oNeg, oLt, oLe, oGt, oGe, oEqN, oIsN, isNon, wTest, wChain, wTru, oTru, wNot, wAnd, wOr, wAndV, wOrV, wNotV, wIfE, wNil, wCons, wTup, wLst, wCB, cLen, cInt, cAbs, cMax2, cMin2, cSum, cSum2, cMaxL, cMinL, cAll, cAny, cList, cTuple, cStr, tyN, cIsi, cReprB, oIx, wNoP, wPart, oSl, wSl, oRevL, wBM, wBM0, tyP, mAppend, mExtend, mPop, mCount, mIndex, wCall, gN, gNil', gCons', gTup', gSub', oSet, iSeq, oIter, iRange1, iRange2, wLc, wipeP, wYes, wIsE, fnD_rt, fnD_ex, fnD_nx, List.getElem?_cons_zero, List.getElem?_cons_succ, List.set_cons_zero, List.set_cons_succ, Bool.false_xor, Bool.true_xor, if_true, if_false, ite_true, ite_false, reduceIte, Bool.false_eq_true, decide_eq_true_eq, decide_true, decide_false, Bool.not_true, Bool.not_false, Bool.not_eq_true', and_true, true_and]
  exact r_check_bad hx ⟨S, .refl S, h⟩
theorem r_whole_num {p q p' q' : Nat} {z : PV} {S : Sto} {Q : KE} {E : KX} (g : GoodS p q) (g' : GoodS p' q') (hz : flatP z = true) (hb : inR z 0 1000000000000000000 = false) (h : E ⟨"BadNumber", none⟩ S) : sp_whole_part [sl p q, sl p' q', z] S Q E := by
  refine ⟨rfl, ?_⟩
  rw [eW_whole_part, st_whole_part]
  refine s_seq (s_expr ?_)
  try simp only [wV, wC, wOp, wUn, oI, oAdd, oSub, oMul, oFdiv, oMod, oPow, oNeg, oLt, oLe, oGt, oGe, oEqN, oIsN, isNon, wTest, wChain, wTru, oTru, wNot, wAnd, wOr, wAndV, wOrV, wNotV, wIfE, wNil, wCons, wTup, wLst, wCB, cLen, cInt, cAbs, cMax2, cMin2, cSum, cSum2, cMaxL, cMinL, cAll, cAny, cList, cTuple, cStr, tyN, cIsi, cReprB, oIx, wNoP, wPart, oSl, wSl, oRevL, wBM, wBM0, tyP, mAppend, mExtend, mPop, mCount, mIndex, wCall, gN, gNil', gCons', gTup', gSub', oSet, iSeq, oIter, iRange1, iRange2, wLc, wipeP, wYes, wIsE, fnD_rt, fnD_ex, fnD_nx, List.getElem?_cons_zero, List.getElem?_cons_succ, List.set_cons_zero, List.set_cons_succ, Bool.false_xor, Bool.true_xor, if_true, if_false, ite_true, ite_false, reduceIte, Bool.false_eq_true, decide_eq_true_eq, decide_true, decide_false, Bool.not_true, Bool.not_false, Bool.not_eq_true', and_true, true_and]
  refine r_check_ok g ?_
  refine s_seq (s_expr ?_)
  try simp only [wV, wC, wOp, wUn, oI, oAdd, oSub, oMul, oFdiv, oMod, oPow, oNeg, oLt, oLe, oGt, oGe, oEqN, oIsN, isNon, wTest, wChain, wTru, oTru, wNot, wAnd, wOr, wAndV, wOrV, wNotV, wIfE, wNil, wCons, wTup, wLst, wCB, cLen, cInt, cAbs, cMax2, cMin2, cSum, cSum2, cMaxL, cMinL, cAll, cAny, cList, cTuple, cStr, tyN, cIsi, cReprB, oIx, wNoP, wPart, oSl, wSl, oRevL, wBM, wBM0, tyP, mAppend, mExtend, mPop, mCount, mIndex, wCall, gN, gNil', gCons', gTup', gSub', oSet, iSeq, oIter, iRange1, iRange2, wLc, wipeP, wYes, wIsE, fnD_rt, fnD_ex, fnD_nx, List.getElem?_cons_zero, List.getElem?_cons_succ, List.set_cons_zero, List.set_cons_succ, Bool.false_xor, Bool.true_xor, if_true, if_false, ite_true, ite_false, reduceIte, Bool.false_eq_true, decide_eq_true_eq, decide_true, decide_false, Bool.not_true, Bool.not_false, Bool.not_eq_true', and_true, true_and]
  refine r_check_ok g' ?_
  refine s_seq (s_if ?_)
  try simp only [wV, wC, wOp, wUn, oI, oAdd, oSub, oMul, oFdiv, oMod, oPow, oNeg, oLt, oLe, oGt, oGe, oEqN, oIsN, isNon, wTest, wChain, wTru, oTru, wNot, wAnd, wOr, wAndV, wOrV, wNotV, wIfE, wNil, wCons, wTup, wLst, wCB, cLen, cInt, cAbs, cMax2, cMin2, cSum, cSum2, cMaxL, cMinL, cAll, cAny, cList, cTuple, cStr, tyN, cIsi, cReprB, oIx, wNoP, wPart, oSl, wSl, oRevL, wBM, wBM0, tyP, mAppend, mExtend, mPop, mCount, mIndex, wCall, gN, gNil', gCons', gTup', gSub', oSet, iSeq, oIter, iRange1, iRange2, wLc, wipeP, wYes, wIsE, fnD_rt, fnD_ex, fnD_nx, List.getElem?_cons_zero, List.getElem?_cons_succ, List.set_cons_zero, List.set_cons_succ, Bool.false_xor, Bool.true_xor, if_true, if_false, ite_true, ite_false, reduceIte, Bool.false_eq_true, decide_eq_true_eq, decide_true, decide_false, Bool.not_true, Bool.not_false, Bool.not_eq_true', and_true, true_and]
  refine r_is_within hz ?_
  simp only [hb, wV, wC, wOp, wUn, oI, oAdd, oSub, oMul, oFdiv, oMod, oPow, oNeg, oLt, oLe, oGt, oGe, oEqN, oIsN, isNon, wTest, wChain, wTru, oTru, wNot, wAnd, wOr, wAndV, wOrV, wNotV, wIfE, wNil, wCons, wTup, wLst, wCB, cLen, cInt, cAbs, cMax2, cMin2, cSum, cSum2, cMaxL, cMinL, cAll, cAny, cList, cTuple, cStr, tyN, cIsi, cReprB, oIx, wNoP, wPart, oSl, wSl, oRevL, wBM, wBM0, tyP, mAppend, mExtend, mPop, mCount, mIndex, wCall, gN, gNil', gCons', gTup', gSub', oSet, iSeq, oIter, iRange1, iRange2, wLc, wipeP, wYes, wIsE, fnD_rt, fnD_ex, fnD_nx, List.getElem?_cons_zero, List.getElem?_cons_succ, List.set_cons_zero, List.set_cons_succ, Bool.false_xor, Bool.true_xor, if_true, if_false, ite_true, ite_false, reduceIte, Bool.false_eq_true, decide_eq_true_eq, decide_true, decide_false, Bool.not_true, Bool.not_false, Bool.not_eq_true', and_true, true_and]
  exact s_raise ⟨S, .refl S, h⟩
theorem r_part_of_bad {x y : PV} {S : Sto} {Q : KE} {E : KX} (hx : BadX S x) (h : E ⟨"BadSlope", none⟩ S) : sp_part_of [x, y] S Q E := by
  refine ⟨rfl, ?_⟩
  rw [eW_part_of, st_part_of]
  refine s_seq (s_expr ?_)
  try simp only [wV, wC, wOp, wUn, oI, oAdd, oSub, oMul, oFdiv, oMod, oPow, oNeg, oLt, oLe, oGt, oGe, oEqN, oIsN, isNon, wTest, wChain, wTru, oTru, wNot, wAnd, wOr, wAndV, wOrV, wNotV, wIfE, wNil, wCons, wTup, wLst, wCB, cLen, cInt, cAbs, cMax2, cMin2, cSum, cSum2, cMaxL, cMinL, cAll, cAny, cList, cTuple, cStr, tyN, cIsi, cReprB, oIx, wNoP, wPart, oSl, wSl, oRevL, wBM, wBM0, tyP, mAppend, mExtend, mPop, mCount, mIndex, wCall, gN, gNil', gCons', gTup', gSub', oSet, iSeq, oIter, iRange1, iRange2, wLc, wipeP, wYes, wIsE, fnD_rt, fnD_ex, fnD_nx, List.getElem?_cons_zero, List.getElem?_cons_succ, List.set_cons_zero, List.set_cons_succ, Bool.false_xor, Bool.true_xor, if_true, if_false, ite_true, ite_false, reduceIte, Bool.false_eq_true, decide_eq_true_eq, decide_true, decide_false, Bool.not_true, Bool.not_false, Bool.not_eq_true', and_true, true_and]
  exact r_check_bad hx ⟨S, .refl S, h⟩
theorem r_part_between_bad {p q k : Nat} {z : PV} {S : Sto} {Q : KE} {E : KX} (g : GoodS p q) (hk : k ≤ 1000000000000000000) (hz : flatP z = true) (hb : inR z 0 1000000000000000000 = false) (h : E ⟨"BadNumber", none⟩ S) : sp_part_between [sl p q, .int k, z] S Q E := by
  refine ⟨rfl, ?_⟩
  rw [eW_part_between, st_part_between]
  refine s_seq (s_expr ?_)
  try simp only [wV, wC, wOp, wUn, oI, oAdd, oSub, oMul, oFdiv, oMod, oPow, oNeg, oLt, oLe, oGt, oGe, oEqN, oIsN, isNon, wTest, wChain, wTru, oTru, wNot, wAnd, wOr, wAndV, wOrV, wNotV, wIfE, wNil, wCons, wTup, wLst, wCB, cLen, cInt, cAbs, cMax2, cMin2, cSum, cSum2, cMaxL, cMinL, cAll, cAny, cList, cTuple, cStr, tyN, cIsi, cReprB, oIx, wNoP, wPart, oSl, wSl, oRevL, wBM, wBM0, tyP, mAppend, mExtend, mPop, mCount, mIndex, wCall, gN, gNil', gCons', gTup', gSub', oSet, iSeq, oIter, iRange1, iRange2, wLc, wipeP, wYes, wIsE, fnD_rt, fnD_ex, fnD_nx, List.getElem?_cons_zero, List.getElem?_cons_succ, List.set_cons_zero, List.set_cons_succ, Bool.false_xor, Bool.true_xor, if_true, if_false, ite_true, ite_false, reduceIte, Bool.false_eq_true, decide_eq_true_eq, decide_true, decide_false, Bool.not_true, Bool.not_false, Bool.not_eq_true', and_true, true_and]
  refine r_check_ok g ?_
  refine s_seq (s_for ?_)
  try simp only [wV, wC, wOp, wUn, oI, oAdd, oSub, oMul, oFdiv, oMod, oPow, oNeg, oLt, oLe, oGt, oGe, oEqN, oIsN, isNon, wTest, wChain, wTru, oTru, wNot, wAnd, wOr, wAndV, wOrV, wNotV, wIfE, wNil, wCons, wTup, wLst, wCB, cLen, cInt, cAbs, cMax2, cMin2, cSum, cSum2, cMaxL, cMinL, cAll, cAny, cList, cTuple, cStr, tyN, cIsi, cReprB, oIx, wNoP, wPart, oSl, wSl, oRevL, wBM, wBM0, tyP, mAppend, mExtend, mPop, mCount, mIndex, wCall, gN, gNil', gCons', gTup', gSub', oSet, iSeq, oIter, iRange1, iRange2, wLc, wipeP, wYes, wIsE, fnD_rt, fnD_ex, fnD_nx, List.getElem?_cons_zero, List.getElem?_cons_succ, List.set_cons_zero, List.set_cons_succ, Bool.false_xor, Bool.true_xor, if_true, if_false, ite_true, ite_false, reduceIte, Bool.false_eq_true, decide_eq_true_eq, decide_true, decide_false, Bool.not_true, Bool.not_false, Bool.not_eq_true', and_true, true_and]
  refine ⟨(by decide : 2 ≤ sizeLine), ?_⟩
  refine ⟨trivial, ?_⟩
  try simp only [wV, wC, wOp, wUn, oI, oAdd, oSub, oMul, oFdiv, oMod, oPow, oNeg, oLt, oLe, oGt, oGe, oEqN, oIsN, isNon, wTest, wChain, wTru, oTru, wNot, wAnd, wOr, wAndV, wOrV, wNotV, wIfE, wNil, wCons, wTup, wLst, wCB, cLen, cInt, cAbs, cMax2, cMin2, cSum, cSum2, cMaxL, cMinL, cAll, cAny, cList, cTuple, cStr, tyN, cIsi, cReprB, oIx, wNoP, wPart, oSl, wSl, oRevL, wBM, wBM0, tyP, mAppend, mExtend, mPop, mCount, mIndex, wCall, gN, gNil', gCons', gTup', gSub', oSet, iSeq, oIter, iRange1, iRange2, wLc, wipeP, wYes, wIsE, fnD_rt, fnD_ex, fnD_nx, List.getElem?_cons_zero, List.getElem?_cons_succ, List.set_cons_zero, List.set_cons_succ, Bool.false_xor, Bool.true_xor, if_true, if_false, ite_true, ite_false, reduceIte, Bool.false_eq_true, decide_eq_true_eq, decide_true, decide_false, Bool.not_true, Bool.not_false, Bool.not_eq_true', and_true, true_and]
  refine s_if ?_
  try simp only [wV, wC, wOp, wUn, oI, oAdd, oSub, oMul, oFdiv, oMod, oPow, oNeg, oLt, oLe, oGt, oGe, oEqN, oIsN, isNon, wTest, wChain, wTru, oTru, wNot, wAnd, wOr, wAndV, wOrV, wNotV, wIfE, wNil, wCons, wTup, wLst, wCB, cLen, cInt, cAbs, cMax2, cMin2, cSum, cSum2, cMaxL, cMinL, cAll, cAny, cList, cTuple, cStr, tyN, cIsi, cReprB, oIx, wNoP, wPart, oSl, wSl, oRevL, wBM, wBM0, tyP, mAppend, mExtend, mPop, mCount, mIndex, wCall, gN, gNil', gCons', gTup', gSub', oSet, iSeq, oIter, iRange1, iRange2, wLc, wipeP, wYes, wIsE, fnD_rt, fnD_ex, fnD_nx, List.getElem?_cons_zero, List.getElem?_cons_succ, List.set_cons_zero, List.set_cons_succ, Bool.false_xor, Bool.true_xor, if_true, if_false, ite_true, ite_false, reduceIte, Bool.false_eq_true, decide_eq_true_eq, decide_true, decide_false, Bool.not_true, Bool.not_false, Bool.not_eq_true', and_true, true_and]
  refine r_is_within rfl ?_
  rw [within_ok (by omega)]
  try simp only [wV, wC, wOp, wUn, oI, oAdd, oSub, oMul, oFdiv, oMod, oPow, oNeg, oLt, oLe, oGt, oGe, oEqN, oIsN, isNon, wTest, wChain, wTru, oTru, wNot, wAnd, wOr, wAndV, wOrV, wNotV, wIfE, wNil, wCons, wTup, wLst, wCB, cLen, cInt, cAbs, cMax2, cMin2, cSum, cSum2, cMaxL, cMinL, cAll, cAny, cList, cTuple, cStr, tyN, cIsi, cReprB, oIx, wNoP, wPart, oSl, wSl, oRevL, wBM, wBM0, tyP, mAppend, mExtend, mPop, mCount, mIndex, wCall, gN, gNil', gCons', gTup', gSub', oSet, iSeq, oIter, iRange1, iRange2, wLc, wipeP, wYes, wIsE, fnD_rt, fnD_ex, fnD_nx, List.getElem?_cons_zero, List.getElem?_cons_succ, List.set_cons_zero, List.set_cons_succ, Bool.false_xor, Bool.true_xor, if_true, if_false, ite_true, ite_false, reduceIte, Bool.false_eq_true, decide_eq_true_eq, decide_true, decide_false, Bool.not_true, Bool.not_false, Bool.not_eq_true', and_true, true_and]
  refine s_next ?_
  refine ⟨_, _, .refl _, .refl _, trivial, ?_⟩
  try simp only [wV, wC, wOp, wUn, oI, oAdd, oSub, oMul, oFdiv, oMod, oPow, oNeg, oLt, oLe, oGt, oGe, oEqN, oIsN, isNon, wTest, wChain, wTru, oTru, wNot, wAnd, wOr, wAndV, wOrV, wNotV, wIfE, wNil, wCons, wTup, wLst, wCB, cLen, cInt, cAbs, cMax2, cMin2, cSum, cSum2, cMaxL, cMinL, cAll, cAny, cList, cTuple, cStr, tyN, cIsi, cReprB, oIx, wNoP, wPart, oSl, wSl, oRevL, wBM, wBM0, tyP, mAppend, mExtend, mPop, mCount, mIndex, wCall, gN, gNil', gCons', gTup', gSub', oSet, iSeq, oIter, iRange1, iRange2, wLc, wipeP, wYes, wIsE, fnD_rt, fnD_ex, fnD_nx, List.getElem?_cons_zero, List.getElem?_cons_succ, List.set_cons_zero, List.set_cons_succ, Bool.false_xor, Bool.true_xor, if_true, if_false, ite_true, ite_false, reduceIte, Bool.false_eq_true, decide_eq_true_eq, decide_true, decide_false, Bool.not_true, Bool.not_false, Bool.not_eq_true', and_true, true_and]
  refine s_if ?_
  try simp only [wV, wC, wOp, wUn, oI, oAdd, oSub, oMul, oFdiv, oMod, oPow, oNeg, oLt, oLe, oGt, oGe, oEqN, oIsN, isNon, wTest, wChain, wTru, oTru, wNot, wAnd, wOr, wAndV, wOrV, wNotV, wIfE, wNil, wCons, wTup, wLst, wCB, cLen, cInt, cAbs, cMax2, cMin2, cSum, cSum2, cMaxL, cMinL, cAll, cAny, cList, cTuple, cStr, tyN, cIsi, cReprB, oIx, wNoP, wPart, oSl, wSl, oRevL, wBM, wBM0, tyP, mAppend, mExtend, mPop, mCount, mIndex, wCall, gN, gNil', gCons', gTup', gSub', oSet, iSeq, oIter, iRange1, iRange2, wLc, wipeP, wYes, wIsE, fnD_rt, fnD_ex, fnD_nx, List.getElem?_cons_zero, List.getElem?_cons_succ, List.set_cons_zero, List.set_cons_succ, Bool.false_xor, Bool.true_xor, if_true, if_false, ite_true, ite_false, reduceIte, Bool.false_eq_true, decide_eq_true_eq, decide_true, decide_false, Bool.not_true, Bool.not_false, Bool.not_eq_true', and_true, true_and]
  refine r_is_within hz ?_
  simp only [hb, wV, wC, wOp, wUn, oI, oAdd, oSub, oMul, oFdiv, oMod, oPow, oNeg, oLt, oLe, oGt, oGe, oEqN, oIsN, isNon, wTest, wChain, wTru, oTru, wNot, wAnd, wOr, wAndV, wOrV, wNotV, wIfE, wNil, wCons, wTup, wLst, wCB, cLen, cInt, cAbs, cMax2, cMin2, cSum, cSum2, cMaxL, cMinL, cAll, cAny, cList, cTuple, cStr, tyN, cIsi, cReprB, oIx, wNoP, wPart, oSl, wSl, oRevL, wBM, wBM0, tyP, mAppend, mExtend, mPop, mCount, mIndex, wCall, gN, gNil', gCons', gTup', gSub', oSet, iSeq, oIter, iRange1, iRange2, wLc, wipeP, wYes, wIsE, fnD_rt, fnD_ex, fnD_nx, List.getElem?_cons_zero, List.getElem?_cons_succ, List.set_cons_zero, List.set_cons_succ, Bool.false_xor, Bool.true_xor, if_true, if_false, ite_true, ite_false, reduceIte, Bool.false_eq_true, decide_eq_true_eq, decide_true, decide_false, Bool.not_true, Bool.not_false, Bool.not_eq_true', and_true, true_and]
  exact s_raise ⟨S, .refl S, h⟩
theorem BadX.sub {S S1 : Sto} {x : PV} (h : BadX S x) (s : Sub S S1) : BadX S1 x := by
  rcases h with h | ⟨t, ht, hk⟩
  · exact .inl h
  · refine .inr ⟨t, ?_, hk⟩
    cases x with
    | ref a =>
      rcases ht with ⟨⟨ys, e⟩, rfl⟩ | ⟨⟨kvs, e⟩, rfl⟩
      · exact .inl ⟨⟨ys, e.sub s⟩, rfl⟩
      · exact .inr ⟨⟨kvs, s.le _ _ e⟩, rfl⟩
    | _ => exact ht
theorem eqv_ints2 (a b c d : Int) : PyData.eqvAll [.int a, .int b] [.int c, .int d] = (decide (a = c) && decide (b = d)) := by
  have := eqv_ints [a, b] [c, d]
  simp only [List.map_cons, List.map_nil] at this
  rw [this, ← Bool.decide_and]
  exact decide_eq_decide.mpr (by simp)
theorem fr_bounds {t q : Nat} (h2 : 1 ≤ q) (h3 : q ≤ 1000000000) : t % q / Nat.gcd (t % q) q ≤ 1000000000 ∧ q / Nat.gcd (t % q) q ≤ 1000000000 := by
  have b1 := Nat.mod_lt t h2
  have c1 := Nat.div_le_self (t % q) (Nat.gcd (t % q) q)
  have c3 := Nat.div_le_self q (Nat.gcd (t % q) q)
  omega

end L3

set_option Elab.async false
set_option linter.all false
set_option maxRecDepth 100000
set_option maxHeartbeats 600000
namespace L3
open PySem PySem.Spec L2
open PyProof.Rows hiding St
theorem pw9 : (10 : Int) ^ Int.toNat 9 = 1000000000 := by simp
theorem pw18 : (10 : Int) ^ Int.toNat 18 = 1000000000000000000 := by simp
theorem d9 {h : Addr} {S : Sto} {ε : PEnv} {Q : KE} {E : KX} (he : ε[0]? = some (some (.ref h))) (hS : S h = some .hand) (hq : ∀ d : Int, 0 ≤ d → d < 1000000000 → Q (.int d) S) : wCall sp__law_draw (wCons (wV 0) (wCons (wOp oPow (wC (.int 10)) (wC (.int 9))) wNil)) ε S Q E := by
  unfold wCall wCons wV
  rw [he]
  refine ⟨⟨by decide, by decide, by decide⟩, ?_⟩
  exact r_draw hS (by decide) (by decide) hq
theorem lir_18 {h : Addr} {S S4 : Sto} {Q : KE} {E : KX} {p q k : Nat} {o2 o4 o5 o6 o7 o8 o9 : Option PV} (hS : S h = some .hand) (hq : Q (.bl true) S) (sb : Sub S S4) (g : GoodS p q) (hk : k ≤ 1000000000000000000) :
    b__law_is_right_18 (PD.fnD Q E) [some (.ref h), some (sl p q), o2, some (.int k), o4, o5, o6, o7, o8, o9, none, none, none, none, none] S4 := by
  have h1 := g.p1
  have h2 := g.q1
  have h3 := g.q2
  refine s_seq (s_par ?_)
  refine e_cons (e_v rfl (e_cons (d9 rfl (sb.le _ _ hS) fun d5 hj0 hj1 => e_nil ?_)))
  have hj1' : d5 < 1000000000 := hj1
  obtain ⟨j, rfl⟩ : ∃ j : Nat, d5 = (j : Int) := ⟨d5.toNat, by omega⟩
  have hj : j ≤ 1000000000000000000 := by omega
  show b__law_is_right_19 (PD.fnD Q E) [some (.ref h), some (sl p q), o2, some (.int k), o4, o5, o6, o7, o8, o9, some (.int k), some (.int j), none, none, none] S4
  refine s_seq (s_set ?_)
  try simp only [pw9, pw18, wV, wC, wOp, wUn, oI, oAdd, oSub, oMul, oFdiv, oMod, oPow, oNeg, oLt, oLe, oGt, oGe, oEqN, oIsN, isNon, wTest, wChain, wTru, oTru, wNot, wAnd, wOr, wAndV, wOrV, wNotV, wIfE, wNil, wCons, wTup, wLst, wCB, cLen, cInt, cAbs, cMax2, cMin2, cSum, cSum2, cMaxL, cMinL, cAll, cAny, cList, cTuple, cStr, tyN, cIsi, cReprB, oIx, wNoP, wPart, oSl, wSl, oRevL, wBM, wBM0, tyP, mAppend, mExtend, mPop, mCount, mIndex, wCall, gN, gNil', gCons', gTup', gSub', oSet, iSeq, oIter, iRange1, iRange2, wLc, wipeP, wYes, wIsE, fnD_rt, fnD_ex, fnD_nx, List.getElem?_cons_zero, List.getElem?_cons_succ, List.set_cons_zero, List.set_cons_succ, Bool.false_xor, Bool.true_xor, if_true, if_false, ite_true, ite_false, reduceIte, Bool.false_eq_true, decide_eq_true_eq, decide_true, decide_false, Bool.not_true, Bool.not_false, Bool.not_eq_true', and_true, true_and]
  refine ⟨(by decide : 2 ≤ sizeLine), ?_⟩
  refine lc_map (α := Nat) (fun S' => S' = S4) [k, j] (fun i => .int (i : Nat)) (fun i => frP (p * i % q) q) (by decide : 2 ≤ sizeLine) (fun _ _ => trivial) (fun x hx S' C e kk => ?_) (fun S' e D2 hD2 => ?_) rfl
  · subst e
    try simp only [sl, wV, wC, wOp, wUn, oI, oAdd, oSub, oMul, oFdiv, oMod, oPow, oNeg, oLt, oLe, oGt, oGe, oEqN, oIsN, isNon, wTest, wChain, wTru, oTru, wNot, wAnd, wOr, wAndV, wOrV, wNotV, wIfE, wNil, wCons, wTup, wLst, wCB, cLen, cInt, cAbs, cMax2, cMin2, cSum, cSum2, cMaxL, cMinL, cAll, cAny, cList, cTuple, cStr, tyN, cIsi, cReprB, oIx, wNoP, wPart, oSl, wSl, oRevL, wBM, wBM0, tyP, mAppend, mExtend, mPop, mCount, mIndex, wCall, gN, gNil', gCons', gTup', gSub', oSet, iSeq, oIter, iRange1, iRange2, wLc, wipeP, wYes, wIsE, fnD_rt, fnD_ex, fnD_nx, List.getElem?_cons_zero, List.getElem?_cons_succ, List.set_cons_zero, List.set_cons_succ, Bool.false_xor, Bool.true_xor, if_true, if_false, ite_true, ite_false, reduceIte, Bool.false_eq_true, decide_eq_true_eq, decide_true, decide_false, Bool.not_true, Bool.not_false, Bool.not_eq_true', and_true, true_and]
    refine ⟨_, rfl, CMl (by omega), _, rfl, by omega, _, rfl, ?_⟩
    rw [nat_mul, nat_mod]
    exact r__law_fraction (by omega) (by omega) (kk _ rfl)
  subst e
  have sb := sb.grow (u := .lst ([k, j].map fun i => frP (p * i % q) q)) hD2
  have ep : supd S' D2 (.lst ([k, j].map fun i => frP (p * i % q) q)) D2 = some (.lst ([k, j].map fun i => frP (p * i % q) q)) := supd_same
  revert  sb ep
  generalize supd S' D2 (.lst ([k, j].map fun i => frP (p * i % q) q)) = S5
  intro  sb ep
  have c1 := fr_bounds (t := p * k) h2 h3
  have c2 := fr_bounds (t := p * j) h2 h3
  have z1 : (0 : Int) ≤ ((p * k % q / Nat.gcd (p * k % q) q : Nat) : Int) := Int.natCast_nonneg _
  have z2 : (0 : Int) ≤ ((p * j % q / Nat.gcd (p * j % q) q : Nat) : Int) := Int.natCast_nonneg _
  refine s_seq (s_if ?_)
  try simp only [pw9, pw18, wV, wC, wOp, wUn, oI, oAdd, oSub, oMul, oFdiv, oMod, oPow, oNeg, oLt, oLe, oGt, oGe, oEqN, oIsN, isNon, wTest, wChain, wTru, oTru, wNot, wAnd, wOr, wAndV, wOrV, wNotV, wIfE, wNil, wCons, wTup, wLst, wCB, cLen, cInt, cAbs, cMax2, cMin2, cSum, cSum2, cMaxL, cMinL, cAll, cAny, cList, cTuple, cStr, tyN, cIsi, cReprB, oIx, wNoP, wPart, oSl, wSl, oRevL, wBM, wBM0, tyP, mAppend, mExtend, mPop, mCount, mIndex, wCall, gN, gNil', gCons', gTup', gSub', oSet, iSeq, oIter, iRange1, iRange2, wLc, wipeP, wYes, wIsE, fnD_rt, fnD_ex, fnD_nx, List.getElem?_cons_zero, List.getElem?_cons_succ, List.set_cons_zero, List.set_cons_succ, Bool.false_xor, Bool.true_xor, if_true, if_false, ite_true, ite_false, reduceIte, Bool.false_eq_true, decide_eq_true_eq, decide_true, decide_false, Bool.not_true, Bool.not_false, Bool.not_eq_true', and_true, true_and]
  refine r_part_of g hk ?_
  try simp only [pw9, pw18, wV, wC, wOp, wUn, oI, oAdd, oSub, oMul, oFdiv, oMod, oPow, oNeg, oLt, oLe, oGt, oGe, oEqN, oIsN, isNon, wTest, wChain, wTru, oTru, wNot, wAnd, wOr, wAndV, wOrV, wNotV, wIfE, wNil, wCons, wTup, wLst, wCB, cLen, cInt, cAbs, cMax2, cMin2, cSum, cSum2, cMaxL, cMinL, cAll, cAny, cList, cTuple, cStr, tyN, cIsi, cReprB, oIx, wNoP, wPart, oSl, wSl, oRevL, wBM, wBM0, tyP, mAppend, mExtend, mPop, mCount, mIndex, wCall, gN, gNil', gCons', gTup', gSub', oSet, iSeq, oIter, iRange1, iRange2, wLc, wipeP, wYes, wIsE, fnD_rt, fnD_ex, fnD_nx, List.getElem?_cons_zero, List.getElem?_cons_succ, List.set_cons_zero, List.set_cons_succ, Bool.false_xor, Bool.true_xor, if_true, if_false, ite_true, ite_false, reduceIte, Bool.false_eq_true, decide_eq_true_eq, decide_true, decide_false, Bool.not_true, Bool.not_false, Bool.not_eq_true', and_true, true_and]
  refine ⟨_, _, .inl ep, rfl, ?_⟩
  unfold frP sl
  refine ⟨_, _, .tup (.cons (.int _) (.cons (.int _) .nil)), .tup (.cons (.int _) (.cons (.int _) .nil)), shaped_tints [_, _], shaped_tints [_, _], ?_⟩
  rw [PyData.eqv, eqv_ints2]
  try simp only [Bool.and_self, wV, wC, wOp, wUn, oI, oAdd, oSub, oMul, oFdiv, oMod, oPow, oNeg, oLt, oLe, oGt, oGe, oEqN, oIsN, isNon, wTest, wChain, wTru, oTru, wNot, wAnd, wOr, wAndV, wOrV, wNotV, wIfE, wNil, wCons, wTup, wLst, wCB, cLen, cInt, cAbs, cMax2, cMin2, cSum, cSum2, cMaxL, cMinL, cAll, cAny, cList, cTuple, cStr, tyN, cIsi, cReprB, oIx, wNoP, wPart, oSl, wSl, oRevL, wBM, wBM0, tyP, mAppend, mExtend, mPop, mCount, mIndex, wCall, gN, gNil', gCons', gTup', gSub', oSet, iSeq, oIter, iRange1, iRange2, wLc, wipeP, wYes, wIsE, fnD_rt, fnD_ex, fnD_nx, List.getElem?_cons_zero, List.getElem?_cons_succ, List.set_cons_zero, List.set_cons_succ, Bool.false_xor, Bool.true_xor, if_true, if_false, ite_true, ite_false, reduceIte, Bool.false_eq_true, decide_eq_true_eq, decide_true, decide_false, Bool.not_true, Bool.not_false, Bool.not_eq_true', and_true, true_and]
  refine r_part_of g hj ?_
  try simp only [pw9, pw18, wV, wC, wOp, wUn, oI, oAdd, oSub, oMul, oFdiv, oMod, oPow, oNeg, oLt, oLe, oGt, oGe, oEqN, oIsN, isNon, wTest, wChain, wTru, oTru, wNot, wAnd, wOr, wAndV, wOrV, wNotV, wIfE, wNil, wCons, wTup, wLst, wCB, cLen, cInt, cAbs, cMax2, cMin2, cSum, cSum2, cMaxL, cMinL, cAll, cAny, cList, cTuple, cStr, tyN, cIsi, cReprB, oIx, wNoP, wPart, oSl, wSl, oRevL, wBM, wBM0, tyP, mAppend, mExtend, mPop, mCount, mIndex, wCall, gN, gNil', gCons', gTup', gSub', oSet, iSeq, oIter, iRange1, iRange2, wLc, wipeP, wYes, wIsE, fnD_rt, fnD_ex, fnD_nx, List.getElem?_cons_zero, List.getElem?_cons_succ, List.set_cons_zero, List.set_cons_succ, Bool.false_xor, Bool.true_xor, if_true, if_false, ite_true, ite_false, reduceIte, Bool.false_eq_true, decide_eq_true_eq, decide_true, decide_false, Bool.not_true, Bool.not_false, Bool.not_eq_true', and_true, true_and]
  refine ⟨_, _, .inl ep, rfl, ?_⟩
  unfold frP sl
  refine ⟨_, _, .tup (.cons (.int _) (.cons (.int _) .nil)), .tup (.cons (.int _) (.cons (.int _) .nil)), shaped_tints [_, _], shaped_tints [_, _], ?_⟩
  rw [PyData.eqv, eqv_ints2]
  try simp only [Bool.and_self, wV, wC, wOp, wUn, oI, oAdd, oSub, oMul, oFdiv, oMod, oPow, oNeg, oLt, oLe, oGt, oGe, oEqN, oIsN, isNon, wTest, wChain, wTru, oTru, wNot, wAnd, wOr, wAndV, wOrV, wNotV, wIfE, wNil, wCons, wTup, wLst, wCB, cLen, cInt, cAbs, cMax2, cMin2, cSum, cSum2, cMaxL, cMinL, cAll, cAny, cList, cTuple, cStr, tyN, cIsi, cReprB, oIx, wNoP, wPart, oSl, wSl, oRevL, wBM, wBM0, tyP, mAppend, mExtend, mPop, mCount, mIndex, wCall, gN, gNil', gCons', gTup', gSub', oSet, iSeq, oIter, iRange1, iRange2, wLc, wipeP, wYes, wIsE, fnD_rt, fnD_ex, fnD_nx, List.getElem?_cons_zero, List.getElem?_cons_succ, List.set_cons_zero, List.set_cons_succ, Bool.false_xor, Bool.true_xor, if_true, if_false, ite_true, ite_false, reduceIte, Bool.false_eq_true, decide_eq_true_eq, decide_true, decide_false, Bool.not_true, Bool.not_false, Bool.not_eq_true', and_true, true_and]
  refine s_next ?_
  dsimp only
  refine s_seq (s_set ?_)
  try simp only [pw9, pw18, wV, wC, wOp, wUn, oI, oAdd, oSub, oMul, oFdiv, oMod, oPow, oNeg, oLt, oLe, oGt, oGe, oEqN, oIsN, isNon, wTest, wChain, wTru, oTru, wNot, wAnd, wOr, wAndV, wOrV, wNotV, wIfE, wNil, wCons, wTup, wLst, wCB, cLen, cInt, cAbs, cMax2, cMin2, cSum, cSum2, cMaxL, cMinL, cAll, cAny, cList, cTuple, cStr, tyN, cIsi, cReprB, oIx, wNoP, wPart, oSl, wSl, oRevL, wBM, wBM0, tyP, mAppend, mExtend, mPop, mCount, mIndex, wCall, gN, gNil', gCons', gTup', gSub', oSet, iSeq, oIter, iRange1, iRange2, wLc, wipeP, wYes, wIsE, fnD_rt, fnD_ex, fnD_nx, List.getElem?_cons_zero, List.getElem?_cons_succ, List.set_cons_zero, List.set_cons_succ, Bool.false_xor, Bool.true_xor, if_true, if_false, ite_true, ite_false, reduceIte, Bool.false_eq_true, decide_eq_true_eq, decide_true, decide_false, Bool.not_true, Bool.not_false, Bool.not_eq_true', and_true, true_and]
  refine ⟨_, _, .inl ep, rfl, _, rfl, _, _, .inl ep, rfl, _, rfl, CMl (by omega), _, _, .inl ep, rfl, _, rfl, _, _, .inl ep, rfl, _, rfl, CMl (by omega), ?_⟩
  refine s_ret ?_
  try simp only [pw9, pw18, wV, wC, wOp, wUn, oI, oAdd, oSub, oMul, oFdiv, oMod, oPow, oNeg, oLt, oLe, oGt, oGe, oEqN, oIsN, isNon, wTest, wChain, wTru, oTru, wNot, wAnd, wOr, wAndV, wOrV, wNotV, wIfE, wNil, wCons, wTup, wLst, wCB, cLen, cInt, cAbs, cMax2, cMin2, cSum, cSum2, cMaxL, cMinL, cAll, cAny, cList, cTuple, cStr, tyN, cIsi, cReprB, oIx, wNoP, wPart, oSl, wSl, oRevL, wBM, wBM0, tyP, mAppend, mExtend, mPop, mCount, mIndex, wCall, gN, gNil', gCons', gTup', gSub', oSet, iSeq, oIter, iRange1, iRange2, wLc, wipeP, wYes, wIsE, fnD_rt, fnD_ex, fnD_nx, List.getElem?_cons_zero, List.getElem?_cons_succ, List.set_cons_zero, List.set_cons_succ, Bool.false_xor, Bool.true_xor, if_true, if_false, ite_true, ite_false, reduceIte, Bool.false_eq_true, decide_eq_true_eq, decide_true, decide_false, Bool.not_true, Bool.not_false, Bool.not_eq_true', and_true, true_and]
  refine r_part_between g hk hj ?_
  try simp only [pw9, pw18, wV, wC, wOp, wUn, oI, oAdd, oSub, oMul, oFdiv, oMod, oPow, oNeg, oLt, oLe, oGt, oGe, oEqN, oIsN, isNon, wTest, wChain, wTru, oTru, wNot, wAnd, wOr, wAndV, wOrV, wNotV, wIfE, wNil, wCons, wTup, wLst, wCB, cLen, cInt, cAbs, cMax2, cMin2, cSum, cSum2, cMaxL, cMinL, cAll, cAny, cList, cTuple, cStr, tyN, cIsi, cReprB, oIx, wNoP, wPart, oSl, wSl, oRevL, wBM, wBM0, tyP, mAppend, mExtend, mPop, mCount, mIndex, wCall, gN, gNil', gCons', gTup', gSub', oSet, iSeq, oIter, iRange1, iRange2, wLc, wipeP, wYes, wIsE, fnD_rt, fnD_ex, fnD_nx, List.getElem?_cons_zero, List.getElem?_cons_succ, List.set_cons_zero, List.set_cons_succ, Bool.false_xor, Bool.true_xor, if_true, if_false, ite_true, ite_false, reduceIte, Bool.false_eq_true, decide_eq_true_eq, decide_true, decide_false, Bool.not_true, Bool.not_false, Bool.not_eq_true', and_true, true_and]
  exact dn_sub sb hq


end L3

set_option Elab.async false
set_option linter.all false
set_option maxRecDepth 100000
set_option maxHeartbeats 600000
namespace L3
open PySem PySem.Spec L2
open PyProof.Rows hiding St
theorem r__law_is_right {h : Addr} {S : Sto} {Q : KE} {E : KX} (hS : S h = some .hand) (hq : Q (.bl true) S) : sp__law_is_right [.ref h] S Q E := by
  refine ⟨rfl, ?_⟩
  rw [eW__law_is_right, st__law_is_right]
  refine s_seq (s_asg ?_)
  try simp only [pw9, pw18, wV, wC, wOp, wUn, oI, oAdd, oSub, oMul, oFdiv, oMod, oPow, oNeg, oLt, oLe, oGt, oGe, oEqN, oIsN, isNon, wTest, wChain, wTru, oTru, wNot, wAnd, wOr, wAndV, wOrV, wNotV, wIfE, wNil, wCons, wTup, wLst, wCB, cLen, cInt, cAbs, cMax2, cMin2, cSum, cSum2, cMaxL, cMinL, cAll, cAny, cList, cTuple, cStr, tyN, cIsi, cReprB, oIx, wNoP, wPart, oSl, wSl, oRevL, wBM, wBM0, tyP, mAppend, mExtend, mPop, mCount, mIndex, wCall, gN, gNil', gCons', gTup', gSub', oSet, iSeq, oIter, iRange1, iRange2, wLc, wipeP, wYes, wIsE, fnD_rt, fnD_ex, fnD_nx, List.getElem?_cons_zero, List.getElem?_cons_succ, List.set_cons_zero, List.set_cons_succ, Bool.false_xor, Bool.true_xor, if_true, if_false, ite_true, ite_false, reduceIte, Bool.false_eq_true, decide_eq_true_eq, decide_true, decide_false, Bool.not_true, Bool.not_false, Bool.not_eq_true', and_true, true_and]
  refine r__law_slope hS fun p q g => ?_
  try simp only [pw9, pw18, wV, wC, wOp, wUn, oI, oAdd, oSub, oMul, oFdiv, oMod, oPow, oNeg, oLt, oLe, oGt, oGe, oEqN, oIsN, isNon, wTest, wChain, wTru, oTru, wNot, wAnd, wOr, wAndV, wOrV, wNotV, wIfE, wNil, wCons, wTup, wLst, wCB, cLen, cInt, cAbs, cMax2, cMin2, cSum, cSum2, cMaxL, cMinL, cAll, cAny, cList, cTuple, cStr, tyN, cIsi, cReprB, oIx, wNoP, wPart, oSl, wSl, oRevL, wBM, wBM0, tyP, mAppend, mExtend, mPop, mCount, mIndex, wCall, gN, gNil', gCons', gTup', gSub', oSet, iSeq, oIter, iRange1, iRange2, wLc, wipeP, wYes, wIsE, fnD_rt, fnD_ex, fnD_nx, List.getElem?_cons_zero, List.getElem?_cons_succ, List.set_cons_zero, List.set_cons_succ, Bool.false_xor, Bool.true_xor, if_true, if_false, ite_true, ite_false, reduceIte, Bool.false_eq_true, decide_eq_true_eq, decide_true, decide_false, Bool.not_true, Bool.not_false, Bool.not_eq_true', and_true, true_and]
  refine r__law_slope hS fun p' q' g' => ?_
  refine ⟨(by decide : 2 ≤ sizeLine), rfl, ?_⟩
  have h1 := g.p1
  have h2 := g.q1
  have h3 := g.q2
  have h1' := g'.p1
  have h2' := g'.q1
  have h3' := g'.q2
  have hm0 : 0 < q * q' := Nat.mul_pos h2 h2'
  have k1 := mul_le18 h1 h3'
  have k2 := mul_le18 h1' h3
  have k3 := mul_le18 h3 h3'
  refine s_seq (s_set ?_)
  try simp only [pw9, pw18, wV, wC, wOp, wUn, oI, oAdd, oSub, oMul, oFdiv, oMod, oPow, oNeg, oLt, oLe, oGt, oGe, oEqN, oIsN, isNon, wTest, wChain, wTru, oTru, wNot, wAnd, wOr, wAndV, wOrV, wNotV, wIfE, wNil, wCons, wTup, wLst, wCB, cLen, cInt, cAbs, cMax2, cMin2, cSum, cSum2, cMaxL, cMinL, cAll, cAny, cList, cTuple, cStr, tyN, cIsi, cReprB, oIx, wNoP, wPart, oSl, wSl, oRevL, wBM, wBM0, tyP, mAppend, mExtend, mPop, mCount, mIndex, wCall, gN, gNil', gCons', gTup', gSub', oSet, iSeq, oIter, iRange1, iRange2, wLc, wipeP, wYes, wIsE, fnD_rt, fnD_ex, fnD_nx, List.getElem?_cons_zero, List.getElem?_cons_succ, List.set_cons_zero, List.set_cons_succ, Bool.false_xor, Bool.true_xor, if_true, if_false, ite_true, ite_false, reduceIte, Bool.false_eq_true, decide_eq_true_eq, decide_true, decide_false, Bool.not_true, Bool.not_false, Bool.not_eq_true', and_true, true_and]
  refine ⟨⟨by decide, by decide, by decide⟩, ?_⟩
  refine r_draw hS (by decide) (by decide) fun d1 hd0 hd1 => ?_
  try simp only [pw9, pw18, wV, wC, wOp, wUn, oI, oAdd, oSub, oMul, oFdiv, oMod, oPow, oNeg, oLt, oLe, oGt, oGe, oEqN, oIsN, isNon, wTest, wChain, wTru, oTru, wNot, wAnd, wOr, wAndV, wOrV, wNotV, wIfE, wNil, wCons, wTup, wLst, wCB, cLen, cInt, cAbs, cMax2, cMin2, cSum, cSum2, cMaxL, cMinL, cAll, cAny, cList, cTuple, cStr, tyN, cIsi, cReprB, oIx, wNoP, wPart, oSl, wSl, oRevL, wBM, wBM0, tyP, mAppend, mExtend, mPop, mCount, mIndex, wCall, gN, gNil', gCons', gTup', gSub', oSet, iSeq, oIter, iRange1, iRange2, wLc, wipeP, wYes, wIsE, fnD_rt, fnD_ex, fnD_nx, List.getElem?_cons_zero, List.getElem?_cons_succ, List.set_cons_zero, List.set_cons_succ, Bool.false_xor, Bool.true_xor, if_true, if_false, ite_true, ite_false, reduceIte, Bool.false_eq_true, decide_eq_true_eq, decide_true, decide_false, Bool.not_true, Bool.not_false, Bool.not_eq_true', and_true, true_and]
  refine ⟨⟨by decide, by decide, by decide⟩, ⟨by decide, by decide, by decide⟩, ?_⟩
  refine r_draw hS (by decide) (by decide) fun d2 he0 he1 => ?_
  try simp only [pw9, pw18, wV, wC, wOp, wUn, oI, oAdd, oSub, oMul, oFdiv, oMod, oPow, oNeg, oLt, oLe, oGt, oGe, oEqN, oIsN, isNon, wTest, wChain, wTru, oTru, wNot, wAnd, wOr, wAndV, wOrV, wNotV, wIfE, wNil, wCons, wTup, wLst, wCB, cLen, cInt, cAbs, cMax2, cMin2, cSum, cSum2, cMaxL, cMinL, cAll, cAny, cList, cTuple, cStr, tyN, cIsi, cReprB, oIx, wNoP, wPart, oSl, wSl, oRevL, wBM, wBM0, tyP, mAppend, mExtend, mPop, mCount, mIndex, wCall, gN, gNil', gCons', gTup', gSub', oSet, iSeq, oIter, iRange1, iRange2, wLc, wipeP, wYes, wIsE, fnD_rt, fnD_ex, fnD_nx, List.getElem?_cons_zero, List.getElem?_cons_succ, List.set_cons_zero, List.set_cons_succ, Bool.false_xor, Bool.true_xor, if_true, if_false, ite_true, ite_false, reduceIte, Bool.false_eq_true, decide_eq_true_eq, decide_true, decide_false, Bool.not_true, Bool.not_false, Bool.not_eq_true', and_true, true_and]
  refine ⟨(by decide : 4 ≤ sizeLine), fun a1 ha1 => ?_⟩
  refine r_law_some (keep1 hS ha1) (.inl supd_same) (Nat.zero_lt_succ _) (by decide : 4 < 2 ^ 64) fun v hv => ?_
  have hd1' : d1 < 1000000000 := hd1
  have he1' : d2 < 1000000000 := he1
  obtain ⟨k, rfl, hk⟩ : ∃ k : Nat, v = .int k ∧ k ≤ 1000000000000000000 := by
    simp only [List.mem_cons, List.not_mem_nil, or_false] at hv
    rcases hv with rfl | rfl | rfl | rfl
    · exact ⟨0, rfl, by decide⟩
    · exact ⟨1, rfl, by decide⟩
    · exact ⟨d1.toNat, by rw [Int.toNat_of_nonneg hd0], by omega⟩
    · exact ⟨(1000000000000000000 - d2).toNat, by rw [Int.toNat_of_nonneg (by omega)], by omega⟩
  have sb : Sub S (supd S a1 (.lst [.int 0, .int 1, .int d1, .int (1000000000000000000 - d2)])) := (Sub.refl S).grow ha1
  revert sb
  generalize supd S a1 (.lst [.int 0, .int 1, .int d1, .int (1000000000000000000 - d2)]) = S1
  intro sb
  try simp only [pw9, pw18, wV, wC, wOp, wUn, oI, oAdd, oSub, oMul, oFdiv, oMod, oPow, oNeg, oLt, oLe, oGt, oGe, oEqN, oIsN, isNon, wTest, wChain, wTru, oTru, wNot, wAnd, wOr, wAndV, wOrV, wNotV, wIfE, wNil, wCons, wTup, wLst, wCB, cLen, cInt, cAbs, cMax2, cMin2, cSum, cSum2, cMaxL, cMinL, cAll, cAny, cList, cTuple, cStr, tyN, cIsi, cReprB, oIx, wNoP, wPart, oSl, wSl, oRevL, wBM, wBM0, tyP, mAppend, mExtend, mPop, mCount, mIndex, wCall, gN, gNil', gCons', gTup', gSub', oSet, iSeq, oIter, iRange1, iRange2, wLc, wipeP, wYes, wIsE, fnD_rt, fnD_ex, fnD_nx, List.getElem?_cons_zero, List.getElem?_cons_succ, List.set_cons_zero, List.set_cons_succ, Bool.false_xor, Bool.true_xor, if_true, if_false, ite_true, ite_false, reduceIte, Bool.false_eq_true, decide_eq_true_eq, decide_true, decide_false, Bool.not_true, Bool.not_false, Bool.not_eq_true', and_true, true_and]
  refine s_seq (s_if ?_)
  try simp only [pw9, pw18, wV, wC, wOp, wUn, oI, oAdd, oSub, oMul, oFdiv, oMod, oPow, oNeg, oLt, oLe, oGt, oGe, oEqN, oIsN, isNon, wTest, wChain, wTru, oTru, wNot, wAnd, wOr, wAndV, wOrV, wNotV, wIfE, wNil, wCons, wTup, wLst, wCB, cLen, cInt, cAbs, cMax2, cMin2, cSum, cSum2, cMaxL, cMinL, cAll, cAny, cList, cTuple, cStr, tyN, cIsi, cReprB, oIx, wNoP, wPart, oSl, wSl, oRevL, wBM, wBM0, tyP, mAppend, mExtend, mPop, mCount, mIndex, wCall, gN, gNil', gCons', gTup', gSub', oSet, iSeq, oIter, iRange1, iRange2, wLc, wipeP, wYes, wIsE, fnD_rt, fnD_ex, fnD_nx, List.getElem?_cons_zero, List.getElem?_cons_succ, List.set_cons_zero, List.set_cons_succ, Bool.false_xor, Bool.true_xor, if_true, if_false, ite_true, ite_false, reduceIte, Bool.false_eq_true, decide_eq_true_eq, decide_true, decide_false, Bool.not_true, Bool.not_false, Bool.not_eq_true', and_true, true_and]
  refine r_whole_part g g' hk ?_
  try simp only [pw9, pw18, wV, wC, wOp, wUn, oI, oAdd, oSub, oMul, oFdiv, oMod, oPow, oNeg, oLt, oLe, oGt, oGe, oEqN, oIsN, isNon, wTest, wChain, wTru, oTru, wNot, wAnd, wOr, wAndV, wOrV, wNotV, wIfE, wNil, wCons, wTup, wLst, wCB, cLen, cInt, cAbs, cMax2, cMin2, cSum, cSum2, cMaxL, cMinL, cAll, cAny, cList, cTuple, cStr, tyN, cIsi, cReprB, oIx, wNoP, wPart, oSl, wSl, oRevL, wBM, wBM0, tyP, mAppend, mExtend, mPop, mCount, mIndex, wCall, gN, gNil', gCons', gTup', gSub', oSet, iSeq, oIter, iRange1, iRange2, wLc, wipeP, wYes, wIsE, fnD_rt, fnD_ex, fnD_nx, List.getElem?_cons_zero, List.getElem?_cons_succ, List.set_cons_zero, List.set_cons_succ, Bool.false_xor, Bool.true_xor, if_true, if_false, ite_true, ite_false, reduceIte, Bool.false_eq_true, decide_eq_true_eq, decide_true, decide_false, Bool.not_true, Bool.not_false, Bool.not_eq_true', and_true, true_and]
  refine r__law_whole g g' hk ?_
  try simp only [pw9, pw18, wV, wC, wOp, wUn, oI, oAdd, oSub, oMul, oFdiv, oMod, oPow, oNeg, oLt, oLe, oGt, oGe, oEqN, oIsN, isNon, wTest, wChain, wTru, oTru, wNot, wAnd, wOr, wAndV, wOrV, wNotV, wIfE, wNil, wCons, wTup, wLst, wCB, cLen, cInt, cAbs, cMax2, cMin2, cSum, cSum2, cMaxL, cMinL, cAll, cAny, cList, cTuple, cStr, tyN, cIsi, cReprB, oIx, wNoP, wPart, oSl, wSl, oRevL, wBM, wBM0, tyP, mAppend, mExtend, mPop, mCount, mIndex, wCall, gN, gNil', gCons', gTup', gSub', oSet, iSeq, oIter, iRange1, iRange2, wLc, wipeP, wYes, wIsE, fnD_rt, fnD_ex, fnD_nx, List.getElem?_cons_zero, List.getElem?_cons_succ, List.set_cons_zero, List.set_cons_succ, Bool.false_xor, Bool.true_xor, if_true, if_false, ite_true, ite_false, reduceIte, Bool.false_eq_true, decide_eq_true_eq, decide_true, decide_false, Bool.not_true, Bool.not_false, Bool.not_eq_true', and_true, true_and]
  refine s_next ?_
  dsimp only
  refine s_seq (s_set ?_)
  try simp only [pw9, pw18, wV, wC, wOp, wUn, oI, oAdd, oSub, oMul, oFdiv, oMod, oPow, oNeg, oLt, oLe, oGt, oGe, oEqN, oIsN, isNon, wTest, wChain, wTru, oTru, wNot, wAnd, wOr, wAndV, wOrV, wNotV, wIfE, wNil, wCons, wTup, wLst, wCB, cLen, cInt, cAbs, cMax2, cMin2, cSum, cSum2, cMaxL, cMinL, cAll, cAny, cList, cTuple, cStr, tyN, cIsi, cReprB, oIx, wNoP, wPart, oSl, wSl, oRevL, wBM, wBM0, tyP, mAppend, mExtend, mPop, mCount, mIndex, wCall, gN, gNil', gCons', gTup', gSub', oSet, iSeq, oIter, iRange1, iRange2, wLc, wipeP, wYes, wIsE, fnD_rt, fnD_ex, fnD_nx, List.getElem?_cons_zero, List.getElem?_cons_succ, List.set_cons_zero, List.set_cons_succ, Bool.false_xor, Bool.true_xor, if_true, if_false, ite_true, ite_false, reduceIte, Bool.false_eq_true, decide_eq_true_eq, decide_true, decide_false, Bool.not_true, Bool.not_false, Bool.not_eq_true', and_true, true_and]
  refine r_draw (sb.le _ _ hS) (by decide) (by decide) fun d3 hf0 hf1 => ?_
  try simp only [pw9, pw18, wV, wC, wOp, wUn, oI, oAdd, oSub, oMul, oFdiv, oMod, oPow, oNeg, oLt, oLe, oGt, oGe, oEqN, oIsN, isNon, wTest, wChain, wTru, oTru, wNot, wAnd, wOr, wAndV, wOrV, wNotV, wIfE, wNil, wCons, wTup, wLst, wCB, cLen, cInt, cAbs, cMax2, cMin2, cSum, cSum2, cMaxL, cMinL, cAll, cAny, cList, cTuple, cStr, tyN, cIsi, cReprB, oIx, wNoP, wPart, oSl, wSl, oRevL, wBM, wBM0, tyP, mAppend, mExtend, mPop, mCount, mIndex, wCall, gN, gNil', gCons', gTup', gSub', oSet, iSeq, oIter, iRange1, iRange2, wLc, wipeP, wYes, wIsE, fnD_rt, fnD_ex, fnD_nx, List.getElem?_cons_zero, List.getElem?_cons_succ, List.set_cons_zero, List.set_cons_succ, Bool.false_xor, Bool.true_xor, if_true, if_false, ite_true, ite_false, reduceIte, Bool.false_eq_true, decide_eq_true_eq, decide_true, decide_false, Bool.not_true, Bool.not_false, Bool.not_eq_true', and_true, true_and]
  refine ⟨(by decide : 3 ≤ sizeLine), fun a2 ha2 => ?_⟩
  refine r_law_some (keep1 (sb.le _ _ hS) ha2) (.inl supd_same) (Nat.zero_lt_succ _) (by decide : 3 < 2 ^ 64) fun v hv => ?_
  obtain ⟨n, rfl, hn⟩ : ∃ n : Nat, v = .int n ∧ n ≤ 300 := by
    simp only [List.mem_cons, List.not_mem_nil, or_false] at hv
    rcases hv with rfl | rfl | rfl
    · exact ⟨0, rfl, by decide⟩
    · exact ⟨1, rfl, by decide⟩
    · exact ⟨d3.toNat, by rw [Int.toNat_of_nonneg hf0], by omega⟩
  have sb := sb.grow (u := .lst [.int 0, .int 1, .int d3]) ha2
  revert sb
  generalize supd S1 a2 (.lst [.int 0, .int 1, .int d3]) = S2
  intro sb
  try simp only [pw9, pw18, wV, wC, wOp, wUn, oI, oAdd, oSub, oMul, oFdiv, oMod, oPow, oNeg, oLt, oLe, oGt, oGe, oEqN, oIsN, isNon, wTest, wChain, wTru, oTru, wNot, wAnd, wOr, wAndV, wOrV, wNotV, wIfE, wNil, wCons, wTup, wLst, wCB, cLen, cInt, cAbs, cMax2, cMin2, cSum, cSum2, cMaxL, cMinL, cAll, cAny, cList, cTuple, cStr, tyN, cIsi, cReprB, oIx, wNoP, wPart, oSl, wSl, oRevL, wBM, wBM0, tyP, mAppend, mExtend, mPop, mCount, mIndex, wCall, gN, gNil', gCons', gTup', gSub', oSet, iSeq, oIter, iRange1, iRange2, wLc, wipeP, wYes, wIsE, fnD_rt, fnD_ex, fnD_nx, List.getElem?_cons_zero, List.getElem?_cons_succ, List.set_cons_zero, List.set_cons_succ, Bool.false_xor, Bool.true_xor, if_true, if_false, ite_true, ite_false, reduceIte, Bool.false_eq_true, decide_eq_true_eq, decide_true, decide_false, Bool.not_true, Bool.not_false, Bool.not_eq_true', and_true, true_and]
  refine s_seq (s_set ?_)
  try simp only [pw9, pw18, wV, wC, wOp, wUn, oI, oAdd, oSub, oMul, oFdiv, oMod, oPow, oNeg, oLt, oLe, oGt, oGe, oEqN, oIsN, isNon, wTest, wChain, wTru, oTru, wNot, wAnd, wOr, wAndV, wOrV, wNotV, wIfE, wNil, wCons, wTup, wLst, wCB, cLen, cInt, cAbs, cMax2, cMin2, cSum, cSum2, cMaxL, cMinL, cAll, cAny, cList, cTuple, cStr, tyN, cIsi, cReprB, oIx, wNoP, wPart, oSl, wSl, oRevL, wBM, wBM0, tyP, mAppend, mExtend, mPop, mCount, mIndex, wCall, gN, gNil', gCons', gTup', gSub', oSet, iSeq, oIter, iRange1, iRange2, wLc, wipeP, wYes, wIsE, fnD_rt, fnD_ex, fnD_nx, List.getElem?_cons_zero, List.getElem?_cons_succ, List.set_cons_zero, List.set_cons_succ, Bool.false_xor, Bool.true_xor, if_true, if_false, ite_true, ite_false, reduceIte, Bool.false_eq_true, decide_eq_true_eq, decide_true, decide_false, Bool.not_true, Bool.not_false, Bool.not_eq_true', and_true, true_and]
  refine ⟨by omega, by omega, ?_⟩
  rw [Int.toNat_natCast, rangeP_map]
  have hz : 5000 ≤ sizeLine := by decide
  refine lc_map (fun S' => S' = S2) (List.range n) _ (fun i => PV.int ((wpN p q p' q' i : Nat) : Int)) (by rw [List.length_range]; omega) (fun _ _ => trivial) (fun x hx S' C e kk => ?_) (fun S' e D hD => ?_) rfl
  · subst e
    rw [List.mem_range] at hx
    try simp only [pw9, pw18, wV, wC, wOp, wUn, oI, oAdd, oSub, oMul, oFdiv, oMod, oPow, oNeg, oLt, oLe, oGt, oGe, oEqN, oIsN, isNon, wTest, wChain, wTru, oTru, wNot, wAnd, wOr, wAndV, wOrV, wNotV, wIfE, wNil, wCons, wTup, wLst, wCB, cLen, cInt, cAbs, cMax2, cMin2, cSum, cSum2, cMaxL, cMinL, cAll, cAny, cList, cTuple, cStr, tyN, cIsi, cReprB, oIx, wNoP, wPart, oSl, wSl, oRevL, wBM, wBM0, tyP, mAppend, mExtend, mPop, mCount, mIndex, wCall, gN, gNil', gCons', gTup', gSub', oSet, iSeq, oIter, iRange1, iRange2, wLc, wipeP, wYes, wIsE, fnD_rt, fnD_ex, fnD_nx, List.getElem?_cons_zero, List.getElem?_cons_succ, List.set_cons_zero, List.set_cons_succ, Bool.false_xor, Bool.true_xor, if_true, if_false, ite_true, ite_false, reduceIte, Bool.false_eq_true, decide_eq_true_eq, decide_true, decide_false, Bool.not_true, Bool.not_false, Bool.not_eq_true', and_true, true_and]
    rw [Int.zero_add]
    exact r__law_whole g g' (by omega) (kk _ rfl)
  subst e
  rw [map_int (List.range n) (fun i => ((wpN p q p' q' i : Nat) : Int))]
  have hsum := fs_wp (p := p) (q := q) (p' := p') (q' := q') n
  revert hsum
  generalize hdue : (List.range n).map (fun i => ((wpN p q p' q' i : Nat) : Int)) = due
  intro hsum
  have ed : supd S' D (.lst (due.map PV.int)) D = some (.lst (due.map PV.int)) := supd_same
  have sb := sb.grow (u := .lst (due.map PV.int)) hD
  revert ed sb
  generalize supd S' D (.lst (due.map PV.int)) = S3
  intro ed sb
  refine s_seq (s_if ?_)
  try simp only [pw9, pw18, wV, wC, wOp, wUn, oI, oAdd, oSub, oMul, oFdiv, oMod, oPow, oNeg, oLt, oLe, oGt, oGe, oEqN, oIsN, isNon, wTest, wChain, wTru, oTru, wNot, wAnd, wOr, wAndV, wOrV, wNotV, wIfE, wNil, wCons, wTup, wLst, wCB, cLen, cInt, cAbs, cMax2, cMin2, cSum, cSum2, cMaxL, cMinL, cAll, cAny, cList, cTuple, cStr, tyN, cIsi, cReprB, oIx, wNoP, wPart, oSl, wSl, oRevL, wBM, wBM0, tyP, mAppend, mExtend, mPop, mCount, mIndex, wCall, gN, gNil', gCons', gTup', gSub', oSet, iSeq, oIter, iRange1, iRange2, wLc, wipeP, wYes, wIsE, fnD_rt, fnD_ex, fnD_nx, List.getElem?_cons_zero, List.getElem?_cons_succ, List.set_cons_zero, List.set_cons_succ, Bool.false_xor, Bool.true_xor, if_true, if_false, ite_true, ite_false, reduceIte, Bool.false_eq_true, decide_eq_true_eq, decide_true, decide_false, Bool.not_true, Bool.not_false, Bool.not_eq_true', and_true, true_and]
  refine r_beat_row g g' (by omega) ?_
  rw [hdue]
  try simp only [pw9, pw18, wV, wC, wOp, wUn, oI, oAdd, oSub, oMul, oFdiv, oMod, oPow, oNeg, oLt, oLe, oGt, oGe, oEqN, oIsN, isNon, wTest, wChain, wTru, oTru, wNot, wAnd, wOr, wAndV, wOrV, wNotV, wIfE, wNil, wCons, wTup, wLst, wCB, cLen, cInt, cAbs, cMax2, cMin2, cSum, cSum2, cMaxL, cMinL, cAll, cAny, cList, cTuple, cStr, tyN, cIsi, cReprB, oIx, wNoP, wPart, oSl, wSl, oRevL, wBM, wBM0, tyP, mAppend, mExtend, mPop, mCount, mIndex, wCall, gN, gNil', gCons', gTup', gSub', oSet, iSeq, oIter, iRange1, iRange2, wLc, wipeP, wYes, wIsE, fnD_rt, fnD_ex, fnD_nx, List.getElem?_cons_zero, List.getElem?_cons_succ, List.set_cons_zero, List.set_cons_succ, Bool.false_xor, Bool.true_xor, if_true, if_false, ite_true, ite_false, reduceIte, Bool.false_eq_true, decide_eq_true_eq, decide_true, decide_false, Bool.not_true, Bool.not_false, Bool.not_eq_true', and_true, true_and]
  intro a3 ha3
  refine ⟨_, _, .lst (.inl supd_same) (dats_ints _), .lst (.inl (keep1 ed ha3)) (dats_ints _), shaped_ints _, shaped_ints _, ?_⟩
  rw [PyData.eqv, eqv_ints]
  try simp only [pw9, pw18, wV, wC, wOp, wUn, oI, oAdd, oSub, oMul, oFdiv, oMod, oPow, oNeg, oLt, oLe, oGt, oGe, oEqN, oIsN, isNon, wTest, wChain, wTru, oTru, wNot, wAnd, wOr, wAndV, wOrV, wNotV, wIfE, wNil, wCons, wTup, wLst, wCB, cLen, cInt, cAbs, cMax2, cMin2, cSum, cSum2, cMaxL, cMinL, cAll, cAny, cList, cTuple, cStr, tyN, cIsi, cReprB, oIx, wNoP, wPart, oSl, wSl, oRevL, wBM, wBM0, tyP, mAppend, mExtend, mPop, mCount, mIndex, wCall, gN, gNil', gCons', gTup', gSub', oSet, iSeq, oIter, iRange1, iRange2, wLc, wipeP, wYes, wIsE, fnD_rt, fnD_ex, fnD_nx, List.getElem?_cons_zero, List.getElem?_cons_succ, List.set_cons_zero, List.set_cons_succ, Bool.false_xor, Bool.true_xor, if_true, if_false, ite_true, ite_false, reduceIte, Bool.false_eq_true, decide_eq_true_eq, decide_true, decide_false, Bool.not_true, Bool.not_false, Bool.not_eq_true', and_true, true_and]
  have ed := keep1 (u := .lst (due.map PV.int)) ed ha3
  have sb := sb.grow (u := .lst (due.map PV.int)) ha3
  have ea3 : supd S3 a3 (.lst (due.map PV.int)) a3 = some (.lst (due.map PV.int)) := supd_same
  revert ed sb ea3
  generalize supd S3 a3 (.lst (due.map PV.int)) = S4
  intro ed sb ea3
  refine r_beat_sum g g' (by omega) ?_
  try simp only [pw9, pw18, wV, wC, wOp, wUn, oI, oAdd, oSub, oMul, oFdiv, oMod, oPow, oNeg, oLt, oLe, oGt, oGe, oEqN, oIsN, isNon, wTest, wChain, wTru, oTru, wNot, wAnd, wOr, wAndV, wOrV, wNotV, wIfE, wNil, wCons, wTup, wLst, wCB, cLen, cInt, cAbs, cMax2, cMin2, cSum, cSum2, cMaxL, cMinL, cAll, cAny, cList, cTuple, cStr, tyN, cIsi, cReprB, oIx, wNoP, wPart, oSl, wSl, oRevL, wBM, wBM0, tyP, mAppend, mExtend, mPop, mCount, mIndex, wCall, gN, gNil', gCons', gTup', gSub', oSet, iSeq, oIter, iRange1, iRange2, wLc, wipeP, wYes, wIsE, fnD_rt, fnD_ex, fnD_nx, List.getElem?_cons_zero, List.getElem?_cons_succ, List.set_cons_zero, List.set_cons_succ, Bool.false_xor, Bool.true_xor, if_true, if_false, ite_true, ite_false, reduceIte, Bool.false_eq_true, decide_eq_true_eq, decide_true, decide_false, Bool.not_true, Bool.not_false, Bool.not_eq_true', and_true, true_and]
  refine ⟨due, .inl ed, ?_⟩
  rw [hsum]
  try simp only [pw9, pw18, wV, wC, wOp, wUn, oI, oAdd, oSub, oMul, oFdiv, oMod, oPow, oNeg, oLt, oLe, oGt, oGe, oEqN, oIsN, isNon, wTest, wChain, wTru, oTru, wNot, wAnd, wOr, wAndV, wOrV, wNotV, wIfE, wNil, wCons, wTup, wLst, wCB, cLen, cInt, cAbs, cMax2, cMin2, cSum, cSum2, cMaxL, cMinL, cAll, cAny, cList, cTuple, cStr, tyN, cIsi, cReprB, oIx, wNoP, wPart, oSl, wSl, oRevL, wBM, wBM0, tyP, mAppend, mExtend, mPop, mCount, mIndex, wCall, gN, gNil', gCons', gTup', gSub', oSet, iSeq, oIter, iRange1, iRange2, wLc, wipeP, wYes, wIsE, fnD_rt, fnD_ex, fnD_nx, List.getElem?_cons_zero, List.getElem?_cons_succ, List.set_cons_zero, List.set_cons_succ, Bool.false_xor, Bool.true_xor, if_true, if_false, ite_true, ite_false, reduceIte, Bool.false_eq_true, decide_eq_true_eq, decide_true, decide_false, Bool.not_true, Bool.not_false, Bool.not_eq_true', and_true, true_and]
  refine s_next ?_
  dsimp only
  refine s_seq (s_par ?_)
  try simp only [sl, wV, wC, wOp, wUn, oI, oAdd, oSub, oMul, oFdiv, oMod, oPow, oNeg, oLt, oLe, oGt, oGe, oEqN, oIsN, isNon, wTest, wChain, wTru, oTru, wNot, wAnd, wOr, wAndV, wOrV, wNotV, wIfE, wNil, wCons, wTup, wLst, wCB, cLen, cInt, cAbs, cMax2, cMin2, cSum, cSum2, cMaxL, cMinL, cAll, cAny, cList, cTuple, cStr, tyN, cIsi, cReprB, oIx, wNoP, wPart, oSl, wSl, oRevL, wBM, wBM0, tyP, mAppend, mExtend, mPop, mCount, mIndex, wCall, gN, gNil', gCons', gTup', gSub', oSet, iSeq, oIter, iRange1, iRange2, wLc, wipeP, wYes, wIsE, fnD_rt, fnD_ex, fnD_nx, List.getElem?_cons_zero, List.getElem?_cons_succ, List.set_cons_zero, List.set_cons_succ, Bool.false_xor, Bool.true_xor, if_true, if_false, ite_true, ite_false, reduceIte, Bool.false_eq_true, decide_eq_true_eq, decide_true, decide_false, Bool.not_true, Bool.not_false, Bool.not_eq_true', and_true, true_and]
  refine ⟨_, rfl, _, rfl, CMl (by omega), _, rfl, _, rfl, CMl (by omega), ?_⟩
  rw [nat_mul, nat_mul]
  refine s_seq (s_if ?_)
  try simp only [sl, wV, wC, wOp, wUn, oI, oAdd, oSub, oMul, oFdiv, oMod, oPow, oNeg, oLt, oLe, oGt, oGe, oEqN, oIsN, isNon, wTest, wChain, wTru, oTru, wNot, wAnd, wOr, wAndV, wOrV, wNotV, wIfE, wNil, wCons, wTup, wLst, wCB, cLen, cInt, cAbs, cMax2, cMin2, cSum, cSum2, cMaxL, cMinL, cAll, cAny, cList, cTuple, cStr, tyN, cIsi, cReprB, oIx, wNoP, wPart, oSl, wSl, oRevL, wBM, wBM0, tyP, mAppend, mExtend, mPop, mCount, mIndex, wCall, gN, gNil', gCons', gTup', gSub', oSet, iSeq, oIter, iRange1, iRange2, wLc, wipeP, wYes, wIsE, fnD_rt, fnD_ex, fnD_nx, List.getElem?_cons_zero, List.getElem?_cons_succ, List.set_cons_zero, List.set_cons_succ, Bool.false_xor, Bool.true_xor, if_true, if_false, ite_true, ite_false, reduceIte, Bool.false_eq_true, decide_eq_true_eq, decide_true, decide_false, Bool.not_true, Bool.not_false, Bool.not_eq_true', and_true, true_and]
  refine ⟨_, rfl, _, rfl, CMl (by omega), ?_⟩
  rw [nat_mul]
  refine r__law_floors hm0 (by omega) k1 k2 k3 ?_
  try simp only [pw9, pw18, wV, wC, wOp, wUn, oI, oAdd, oSub, oMul, oFdiv, oMod, oPow, oNeg, oLt, oLe, oGt, oGe, oEqN, oIsN, isNon, wTest, wChain, wTru, oTru, wNot, wAnd, wOr, wAndV, wOrV, wNotV, wIfE, wNil, wCons, wTup, wLst, wCB, cLen, cInt, cAbs, cMax2, cMin2, cSum, cSum2, cMaxL, cMinL, cAll, cAny, cList, cTuple, cStr, tyN, cIsi, cReprB, oIx, wNoP, wPart, oSl, wSl, oRevL, wBM, wBM0, tyP, mAppend, mExtend, mPop, mCount, mIndex, wCall, gN, gNil', gCons', gTup', gSub', oSet, iSeq, oIter, iRange1, iRange2, wLc, wipeP, wYes, wIsE, fnD_rt, fnD_ex, fnD_nx, List.getElem?_cons_zero, List.getElem?_cons_succ, List.set_cons_zero, List.set_cons_succ, Bool.false_xor, Bool.true_xor, if_true, if_false, ite_true, ite_false, reduceIte, Bool.false_eq_true, decide_eq_true_eq, decide_true, decide_false, Bool.not_true, Bool.not_false, Bool.not_eq_true', and_true, true_and]
  refine ⟨due, .inl ed, ?_⟩
  rw [hsum]
  try simp only [pw9, pw18, wV, wC, wOp, wUn, oI, oAdd, oSub, oMul, oFdiv, oMod, oPow, oNeg, oLt, oLe, oGt, oGe, oEqN, oIsN, isNon, wTest, wChain, wTru, oTru, wNot, wAnd, wOr, wAndV, wOrV, wNotV, wIfE, wNil, wCons, wTup, wLst, wCB, cLen, cInt, cAbs, cMax2, cMin2, cSum, cSum2, cMaxL, cMinL, cAll, cAny, cList, cTuple, cStr, tyN, cIsi, cReprB, oIx, wNoP, wPart, oSl, wSl, oRevL, wBM, wBM0, tyP, mAppend, mExtend, mPop, mCount, mIndex, wCall, gN, gNil', gCons', gTup', gSub', oSet, iSeq, oIter, iRange1, iRange2, wLc, wipeP, wYes, wIsE, fnD_rt, fnD_ex, fnD_nx, List.getElem?_cons_zero, List.getElem?_cons_succ, List.set_cons_zero, List.set_cons_succ, Bool.false_xor, Bool.true_xor, if_true, if_false, ite_true, ite_false, reduceIte, Bool.false_eq_true, decide_eq_true_eq, decide_true, decide_false, Bool.not_true, Bool.not_false, Bool.not_eq_true', and_true, true_and]
  refine s_next ?_
  dsimp only
  refine s_seq (s_set ?_)
  try simp only [pw9, pw18, wV, wC, wOp, wUn, oI, oAdd, oSub, oMul, oFdiv, oMod, oPow, oNeg, oLt, oLe, oGt, oGe, oEqN, oIsN, isNon, wTest, wChain, wTru, oTru, wNot, wAnd, wOr, wAndV, wOrV, wNotV, wIfE, wNil, wCons, wTup, wLst, wCB, cLen, cInt, cAbs, cMax2, cMin2, cSum, cSum2, cMaxL, cMinL, cAll, cAny, cList, cTuple, cStr, tyN, cIsi, cReprB, oIx, wNoP, wPart, oSl, wSl, oRevL, wBM, wBM0, tyP, mAppend, mExtend, mPop, mCount, mIndex, wCall, gN, gNil', gCons', gTup', gSub', oSet, iSeq, oIter, iRange1, iRange2, wLc, wipeP, wYes, wIsE, fnD_rt, fnD_ex, fnD_nx, List.getElem?_cons_zero, List.getElem?_cons_succ, List.set_cons_zero, List.set_cons_succ, Bool.false_xor, Bool.true_xor, if_true, if_false, ite_true, ite_false, reduceIte, Bool.false_eq_true, decide_eq_true_eq, decide_true, decide_false, Bool.not_true, Bool.not_false, Bool.not_eq_true', and_true, true_and]
  refine ⟨⟨by decide, by decide, by decide⟩, ⟨by decide, by decide, by decide⟩, ?_⟩
  refine r_draw (sb.le _ _ hS) (by decide) (by decide) fun d4 hg0 hg1 => ?_
  have hg1' : d4 < 1000000000 := hg1
  try simp only [pw9, pw18, wV, wC, wOp, wUn, oI, oAdd, oSub, oMul, oFdiv, oMod, oPow, oNeg, oLt, oLe, oGt, oGe, oEqN, oIsN, isNon, wTest, wChain, wTru, oTru, wNot, wAnd, wOr, wAndV, wOrV, wNotV, wIfE, wNil, wCons, wTup, wLst, wCB, cLen, cInt, cAbs, cMax2, cMin2, cSum, cSum2, cMaxL, cMinL, cAll, cAny, cList, cTuple, cStr, tyN, cIsi, cReprB, oIx, wNoP, wPart, oSl, wSl, oRevL, wBM, wBM0, tyP, mAppend, mExtend, mPop, mCount, mIndex, wCall, gN, gNil', gCons', gTup', gSub', oSet, iSeq, oIter, iRange1, iRange2, wLc, wipeP, wYes, wIsE, fnD_rt, fnD_ex, fnD_nx, List.getElem?_cons_zero, List.getElem?_cons_succ, List.set_cons_zero, List.set_cons_succ, Bool.false_xor, Bool.true_xor, if_true, if_false, ite_true, ite_false, reduceIte, Bool.false_eq_true, decide_eq_true_eq, decide_true, decide_false, Bool.not_true, Bool.not_false, Bool.not_eq_true', and_true, true_and]
  obtain ⟨far, hfar, hfar2⟩ : ∃ far : Nat, (1000000000000000000 : Int) - 1 - d4 = (far : Int) ∧ far + 1 ≤ 1000000000000000000 := ⟨(999999999999999999 - d4).toNat, by omega, by omega⟩
  rw [hfar]
  refine s_seq (s_set ?_)
  try simp only [pw9, pw18, wV, wC, wOp, wUn, oI, oAdd, oSub, oMul, oFdiv, oMod, oPow, oNeg, oLt, oLe, oGt, oGe, oEqN, oIsN, isNon, wTest, wChain, wTru, oTru, wNot, wAnd, wOr, wAndV, wOrV, wNotV, wIfE, wNil, wCons, wTup, wLst, wCB, cLen, cInt, cAbs, cMax2, cMin2, cSum, cSum2, cMaxL, cMinL, cAll, cAny, cList, cTuple, cStr, tyN, cIsi, cReprB, oIx, wNoP, wPart, oSl, wSl, oRevL, wBM, wBM0, tyP, mAppend, mExtend, mPop, mCount, mIndex, wCall, gN, gNil', gCons', gTup', gSub', oSet, iSeq, oIter, iRange1, iRange2, wLc, wipeP, wYes, wIsE, fnD_rt, fnD_ex, fnD_nx, List.getElem?_cons_zero, List.getElem?_cons_succ, List.set_cons_zero, List.set_cons_succ, Bool.false_xor, Bool.true_xor, if_true, if_false, ite_true, ite_false, reduceIte, Bool.false_eq_true, decide_eq_true_eq, decide_true, decide_false, Bool.not_true, Bool.not_false, Bool.not_eq_true', and_true, true_and]
  refine r_beat_sum g g' (by omega) ?_
  refine s_seq (s_if ?_)
  try simp only [sl, wV, wC, wOp, wUn, oI, oAdd, oSub, oMul, oFdiv, oMod, oPow, oNeg, oLt, oLe, oGt, oGe, oEqN, oIsN, isNon, wTest, wChain, wTru, oTru, wNot, wAnd, wOr, wAndV, wOrV, wNotV, wIfE, wNil, wCons, wTup, wLst, wCB, cLen, cInt, cAbs, cMax2, cMin2, cSum, cSum2, cMaxL, cMinL, cAll, cAny, cList, cTuple, cStr, tyN, cIsi, cReprB, oIx, wNoP, wPart, oSl, wSl, oRevL, wBM, wBM0, tyP, mAppend, mExtend, mPop, mCount, mIndex, wCall, gN, gNil', gCons', gTup', gSub', oSet, iSeq, oIter, iRange1, iRange2, wLc, wipeP, wYes, wIsE, fnD_rt, fnD_ex, fnD_nx, List.getElem?_cons_zero, List.getElem?_cons_succ, List.set_cons_zero, List.set_cons_succ, Bool.false_xor, Bool.true_xor, if_true, if_false, ite_true, ite_false, reduceIte, Bool.false_eq_true, decide_eq_true_eq, decide_true, decide_false, Bool.not_true, Bool.not_false, Bool.not_eq_true', and_true, true_and]
  refine ⟨_, rfl, _, rfl, CMl (by omega), ?_⟩
  rw [nat_mul]
  refine r__law_floors hm0 (by omega) k1 k2 k3 ?_
  try simp only [pw9, pw18, wV, wC, wOp, wUn, oI, oAdd, oSub, oMul, oFdiv, oMod, oPow, oNeg, oLt, oLe, oGt, oGe, oEqN, oIsN, isNon, wTest, wChain, wTru, oTru, wNot, wAnd, wOr, wAndV, wOrV, wNotV, wIfE, wNil, wCons, wTup, wLst, wCB, cLen, cInt, cAbs, cMax2, cMin2, cSum, cSum2, cMaxL, cMinL, cAll, cAny, cList, cTuple, cStr, tyN, cIsi, cReprB, oIx, wNoP, wPart, oSl, wSl, oRevL, wBM, wBM0, tyP, mAppend, mExtend, mPop, mCount, mIndex, wCall, gN, gNil', gCons', gTup', gSub', oSet, iSeq, oIter, iRange1, iRange2, wLc, wipeP, wYes, wIsE, fnD_rt, fnD_ex, fnD_nx, List.getElem?_cons_zero, List.getElem?_cons_succ, List.set_cons_zero, List.set_cons_succ, Bool.false_xor, Bool.true_xor, if_true, if_false, ite_true, ite_false, reduceIte, Bool.false_eq_true, decide_eq_true_eq, decide_true, decide_false, Bool.not_true, Bool.not_false, Bool.not_eq_true', and_true, true_and]
  refine s_next ?_
  dsimp only
  refine s_seq (s_if ?_)
  try simp only [pw9, pw18, wV, wC, wOp, wUn, oI, oAdd, oSub, oMul, oFdiv, oMod, oPow, oNeg, oLt, oLe, oGt, oGe, oEqN, oIsN, isNon, wTest, wChain, wTru, oTru, wNot, wAnd, wOr, wAndV, wOrV, wNotV, wIfE, wNil, wCons, wTup, wLst, wCB, cLen, cInt, cAbs, cMax2, cMin2, cSum, cSum2, cMaxL, cMinL, cAll, cAny, cList, cTuple, cStr, tyN, cIsi, cReprB, oIx, wNoP, wPart, oSl, wSl, oRevL, wBM, wBM0, tyP, mAppend, mExtend, mPop, mCount, mIndex, wCall, gN, gNil', gCons', gTup', gSub', oSet, iSeq, oIter, iRange1, iRange2, wLc, wipeP, wYes, wIsE, fnD_rt, fnD_ex, fnD_nx, List.getElem?_cons_zero, List.getElem?_cons_succ, List.set_cons_zero, List.set_cons_succ, Bool.false_xor, Bool.true_xor, if_true, if_false, ite_true, ite_false, reduceIte, Bool.false_eq_true, decide_eq_true_eq, decide_true, decide_false, Bool.not_true, Bool.not_false, Bool.not_eq_true', and_true, true_and]
  rw [show ((far : Int) + 1) = ((far + 1 : Nat) : Int) from rfl]
  refine r_beat_sum g g' hfar2 ?_
  try simp only [pw9, pw18, wV, wC, wOp, wUn, oI, oAdd, oSub, oMul, oFdiv, oMod, oPow, oNeg, oLt, oLe, oGt, oGe, oEqN, oIsN, isNon, wTest, wChain, wTru, oTru, wNot, wAnd, wOr, wAndV, wOrV, wNotV, wIfE, wNil, wCons, wTup, wLst, wCB, cLen, cInt, cAbs, cMax2, cMin2, cSum, cSum2, cMaxL, cMinL, cAll, cAny, cList, cTuple, cStr, tyN, cIsi, cReprB, oIx, wNoP, wPart, oSl, wSl, oRevL, wBM, wBM0, tyP, mAppend, mExtend, mPop, mCount, mIndex, wCall, gN, gNil', gCons', gTup', gSub', oSet, iSeq, oIter, iRange1, iRange2, wLc, wipeP, wYes, wIsE, fnD_rt, fnD_ex, fnD_nx, List.getElem?_cons_zero, List.getElem?_cons_succ, List.set_cons_zero, List.set_cons_succ, Bool.false_xor, Bool.true_xor, if_true, if_false, ite_true, ite_false, reduceIte, Bool.false_eq_true, decide_eq_true_eq, decide_true, decide_false, Bool.not_true, Bool.not_false, Bool.not_eq_true', and_true, true_and]
  refine r__law_whole g g' (by omega) ?_
  try simp only [pw9, pw18, wV, wC, wOp, wUn, oI, oAdd, oSub, oMul, oFdiv, oMod, oPow, oNeg, oLt, oLe, oGt, oGe, oEqN, oIsN, isNon, wTest, wChain, wTru, oTru, wNot, wAnd, wOr, wAndV, wOrV, wNotV, wIfE, wNil, wCons, wTup, wLst, wCB, cLen, cInt, cAbs, cMax2, cMin2, cSum, cSum2, cMaxL, cMinL, cAll, cAny, cList, cTuple, cStr, tyN, cIsi, cReprB, oIx, wNoP, wPart, oSl, wSl, oRevL, wBM, wBM0, tyP, mAppend, mExtend, mPop, mCount, mIndex, wCall, gN, gNil', gCons', gTup', gSub', oSet, iSeq, oIter, iRange1, iRange2, wLc, wipeP, wYes, wIsE, fnD_rt, fnD_ex, fnD_nx, List.getElem?_cons_zero, List.getElem?_cons_succ, List.set_cons_zero, List.set_cons_succ, Bool.false_xor, Bool.true_xor, if_true, if_false, ite_true, ite_false, reduceIte, Bool.false_eq_true, decide_eq_true_eq, decide_true, decide_false, Bool.not_true, Bool.not_false, Bool.not_eq_true', and_true, true_and]
  rw [nat_add, show fs far (p * q') (p' * q) (q * q') + wpN p q p' q' far = fs (far + 1) (p * q') (p' * q) (q * q') from rfl]
  try simp only [pw9, pw18, wV, wC, wOp, wUn, oI, oAdd, oSub, oMul, oFdiv, oMod, oPow, oNeg, oLt, oLe, oGt, oGe, oEqN, oIsN, isNon, wTest, wChain, wTru, oTru, wNot, wAnd, wOr, wAndV, wOrV, wNotV, wIfE, wNil, wCons, wTup, wLst, wCB, cLen, cInt, cAbs, cMax2, cMin2, cSum, cSum2, cMaxL, cMinL, cAll, cAny, cList, cTuple, cStr, tyN, cIsi, cReprB, oIx, wNoP, wPart, oSl, wSl, oRevL, wBM, wBM0, tyP, mAppend, mExtend, mPop, mCount, mIndex, wCall, gN, gNil', gCons', gTup', gSub', oSet, iSeq, oIter, iRange1, iRange2, wLc, wipeP, wYes, wIsE, fnD_rt, fnD_ex, fnD_nx, List.getElem?_cons_zero, List.getElem?_cons_succ, List.set_cons_zero, List.set_cons_succ, Bool.false_xor, Bool.true_xor, if_true, if_false, ite_true, ite_false, reduceIte, Bool.false_eq_true, decide_eq_true_eq, decide_true, decide_false, Bool.not_true, Bool.not_false, Bool.not_eq_true', and_true, true_and]
  refine s_next ?_
  dsimp only
  exact lir_18 hS hq sb g hk

end L3

set_option Elab.async false
set_option linter.all false
set_option maxRecDepth 100000
set_option maxHeartbeats 600000
namespace L3
open PySem PySem.Spec L2
open PyProof.Rows hiding St
theorem wN : WordOk W__law_word N__law_word "BadNumber" (PySem.Str.ofString "number") := fun _ _ _ _ h1 h2 => r_word (.inl ⟨rfl, rfl⟩) h1 h2
theorem wS : WordOk W__law_word N__law_word "BadSlope" (PySem.Str.ofString "slope") := fun _ _ _ _ h1 h2 => r_word (.inr ⟨rfl, rfl⟩) h1 h2
theorem bad_mono {S S' : Sto} {x : PV} (s : Sub S S') (h : BadX S x) : BadX S' x := by
  rcases h with h | ⟨t, ht, hk⟩
  · exact .inl h
  · refine .inr ⟨t, ?_, hk⟩
    cases x with
    | ref a =>
      rcases ht with ⟨⟨ys, hy⟩, e⟩ | ⟨⟨kvs, hy⟩, e⟩
      · exact .inl ⟨⟨ys, hy.sub s⟩, e⟩
      · exact .inr ⟨⟨kvs, s.le _ _ hy⟩, e⟩
    | _ => exact ht
theorem good12 : GoodS 1 2 := ⟨by decide, by decide, by decide, by decide⟩
theorem good01 : GoodS 0 1 := ⟨by decide, by decide, by decide, by decide⟩
set_option maxHeartbeats 200000 in
theorem law_holds : LawP sp_law 63 := by
  intro a ns hlen _
  refine ⟨rfl, ?_⟩
  rw [eW_law, st_law]
  refine s_seq (s_set (e_call (e_cons (e_v rfl (e_nil ?_)))))
  refine ⟨a, ns, rfl, .inr (if_pos rfl), fun h c hne hh hc => ?_⟩
  have hS : supd (supd (startS a ns) c .priv) h .hand h = some .hand := supd_same
  revert hS
  generalize supd (supd (startS a ns) c .priv) h .hand = S0
  intro hS
  dsimp only [List.set_cons_succ, List.set_cons_zero]
  refine s_seq (s_if ?_)
  try simp only [wV, wC, wOp, wUn, oI, oAdd, oSub, oMul, oFdiv, oMod, oPow, oNeg, oLt, oLe, oGt, oGe, oEqN, oIsN, isNon, wTest, wChain, wTru, oTru, wNot, wAnd, wOr, wAndV, wOrV, wNotV, wIfE, wNil, wCons, wTup, wLst, wCB, cLen, cInt, cAbs, cMax2, cMin2, cSum, cSum2, cMaxL, cMinL, cAll, cAny, cList, cTuple, cStr, tyN, cIsi, cReprB, oIx, wNoP, wPart, oSl, wSl, oRevL, wBM, wBM0, tyP, mAppend, mExtend, mPop, mCount, mIndex, wCall, gN, gNil', gCons', gTup', gSub', oSet, iSeq, oIter, iRange1, iRange2, wLc, wipeP, wYes, wIsE, fnD_rt, fnD_ex, fnD_nx, List.getElem?_cons_zero, List.getElem?_cons_succ, List.set_cons_zero, List.set_cons_succ, Bool.false_xor, Bool.true_xor, if_true, if_false, ite_true, ite_false, reduceIte, Bool.false_eq_true, decide_eq_true_eq, decide_true, decide_false, Bool.not_true, Bool.not_false, Bool.not_eq_true', and_true, true_and]
  refine r__law_is_right hS ?_
  try simp only [wV, wC, wOp, wUn, oI, oAdd, oSub, oMul, oFdiv, oMod, oPow, oNeg, oLt, oLe, oGt, oGe, oEqN, oIsN, isNon, wTest, wChain, wTru, oTru, wNot, wAnd, wOr, wAndV, wOrV, wNotV, wIfE, wNil, wCons, wTup, wLst, wCB, cLen, cInt, cAbs, cMax2, cMin2, cSum, cSum2, cMaxL, cMinL, cAll, cAny, cList, cTuple, cStr, tyN, cIsi, cReprB, oIx, wNoP, wPart, oSl, wSl, oRevL, wBM, wBM0, tyP, mAppend, mExtend, mPop, mCount, mIndex, wCall, gN, gNil', gCons', gTup', gSub', oSet, iSeq, oIter, iRange1, iRange2, wLc, wipeP, wYes, wIsE, fnD_rt, fnD_ex, fnD_nx, List.getElem?_cons_zero, List.getElem?_cons_succ, List.set_cons_zero, List.set_cons_succ, Bool.false_xor, Bool.true_xor, if_true, if_false, ite_true, ite_false, reduceIte, Bool.false_eq_true, decide_eq_true_eq, decide_true, decide_false, Bool.not_true, Bool.not_false, Bool.not_eq_true', and_true, true_and]
  refine r__law_is_right hS ?_
  try simp only [wV, wC, wOp, wUn, oI, oAdd, oSub, oMul, oFdiv, oMod, oPow, oNeg, oLt, oLe, oGt, oGe, oEqN, oIsN, isNon, wTest, wChain, wTru, oTru, wNot, wAnd, wOr, wAndV, wOrV, wNotV, wIfE, wNil, wCons, wTup, wLst, wCB, cLen, cInt, cAbs, cMax2, cMin2, cSum, cSum2, cMaxL, cMinL, cAll, cAny, cList, cTuple, cStr, tyN, cIsi, cReprB, oIx, wNoP, wPart, oSl, wSl, oRevL, wBM, wBM0, tyP, mAppend, mExtend, mPop, mCount, mIndex, wCall, gN, gNil', gCons', gTup', gSub', oSet, iSeq, oIter, iRange1, iRange2, wLc, wipeP, wYes, wIsE, fnD_rt, fnD_ex, fnD_nx, List.getElem?_cons_zero, List.getElem?_cons_succ, List.set_cons_zero, List.set_cons_succ, Bool.false_xor, Bool.true_xor, if_true, if_false, ite_true, ite_false, reduceIte, Bool.false_eq_true, decide_eq_true_eq, decide_true, decide_false, Bool.not_true, Bool.not_false, Bool.not_eq_true', and_true, true_and]
  refine s_next ?_
  dsimp only
  refine s_seq (s_set (e_lst (e_cons (e_k (e_cons (e_k (e_cons (e_k (e_cons (e_k (e_cons (e_lstk fun p1 hp1 => e_ks ⟨?_, fun p2 hp2 => ?_⟩))))))))))))
  · exact (by decide : 10 ≤ sizeLine)
  have hS2 := keep1 (u := .lst [.non, .tup [.int 2, .int 4], .tup [.int (-1), .int 2], .tup [.int 1, .int 0], .ref p1, .tup [.int 1], .tup [.int (1000000000 + 1), .int 1], .tup [.int 1, .int (1000000000 + 7)], .tup [.bl true, .int 2], .int 3]) (keep1 (u := .lst [.int 1, .int 2]) hS hp1) hp2
  have er : RdL (supd (supd S0 p1 (.lst [.int 1, .int 2])) p2 (.lst [.non, .tup [.int 2, .int 4], .tup [.int (-1), .int 2], .tup [.int 1, .int 0], .ref p1, .tup [.int 1], .tup [.int (1000000000 + 1), .int 1], .tup [.int 1, .int (1000000000 + 7)], .tup [.bl true, .int 2], .int 3])) p1 [.int 1, .int 2] := .inl (keep1 supd_same hp2)
  have el : RdL (supd (supd S0 p1 (.lst [.int 1, .int 2])) p2 (.lst [.non, .tup [.int 2, .int 4], .tup [.int (-1), .int 2], .tup [.int 1, .int 0], .ref p1, .tup [.int 1], .tup [.int (1000000000 + 1), .int 1], .tup [.int 1, .int (1000000000 + 7)], .tup [.bl true, .int 2], .int 3])) p2 _ := .inl supd_same
  revert hS2 er el
  generalize supd (supd S0 p1 (.lst [.int 1, .int 2])) p2 (.lst [.non, .tup [.int 2, .int 4], .tup [.int (-1), .int 2], .tup [.int 1, .int 0], .ref p1, .tup [.int 1], .tup [.int (1000000000 + 1), .int 1], .tup [.int 1, .int (1000000000 + 7)], .tup [.bl true, .int 2], .int 3]) = S2
  intro hS2 er el
  dsimp only [List.set_cons_succ, List.set_cons_zero]
  refine s_seq (s_set (e_call (e_cons (e_v rfl (e_cons (e_v rfl (e_nil ?_)))))))
  refine r_law_some hS2 el (Nat.zero_lt_succ _) (by decide : 10 < 2 ^ 64) fun bad hv => ?_
  have hbad : BadX S2 bad := by
    simp only [List.mem_cons, List.not_mem_nil, or_false] at hv
    rcases hv with rfl | rfl | rfl | rfl | rfl | rfl | rfl | rfl | rfl | rfl
    · exact .inr ⟨_, rfl, by decide +kernel⟩
    · exact .inl ⟨_, rfl, rfl, by decide⟩
    · exact .inl ⟨_, rfl, rfl, by decide⟩
    · exact .inl ⟨_, rfl, rfl, by decide⟩
    · exact .inr ⟨_, .inl ⟨⟨_, er⟩, rfl⟩, by decide +kernel⟩
    · exact .inl ⟨_, rfl, rfl, by decide⟩
    · exact .inl ⟨_, rfl, rfl, by decide⟩
    · exact .inl ⟨_, rfl, rfl, by decide⟩
    · exact .inl ⟨_, rfl, rfl, by decide⟩
    · exact .inr ⟨_, rfl, by decide +kernel⟩
  dsimp only [List.set_cons_succ, List.set_cons_zero]
  refine s_seq (s_set (e_call (e_cons (e_v rfl (e_cons (e_lstk fun p3 hp3 => e_nil ?_))))))
  refine r_law_some (keep1 hS2 hp3) (.inl supd_same) (Nat.zero_lt_succ _) (by decide : 5 < 2 ^ 64) fun none hv => ?_
  obtain ⟨hz, hb⟩ : flatP none = true ∧ inR none 0 5000 = false := by
    simp only [List.mem_cons, List.not_mem_nil, or_false] at hv
    rcases hv with rfl | rfl | rfl | rfl | rfl
    · exact ⟨rfl, by decide⟩
    · exact ⟨rfl, by decide⟩
    · exact ⟨rfl, by decide⟩
    · exact ⟨rfl, by decide⟩
    · exact ⟨rfl, by decide⟩
  have hS3 := keep1 (u := .lst [.int (-1), .int 5001, .non, .bl true, .str (PySem.Str.ofString "3")]) hS2 hp3
  replace hbad := bad_mono (Sub.new (o := .lst [.int (-1), .int 5001, .non, .bl true, .str (PySem.Str.ofString "3")]) hp3 nofun) hbad
  revert hS3 hbad
  generalize supd S2 p3 (.lst [.int (-1), .int 5001, .non, .bl true, .str (PySem.Str.ofString "3")]) = S3
  intro hS3 hbad
  dsimp only [List.set_cons_succ, List.set_cons_zero]
  refine s_seq (word_first wN (fun Q' E' hE => ?_) fun ws S4 I => ?_)
  · refine e_call (e_cons (e_v rfl (e_cons (e_v rfl (e_cons (e_v rfl (e_nil ?_)))))))
    exact r_beat_row_num hz hb (hE _ (.refl _))
  dsimp only [List.set_cons_succ, List.set_cons_zero]
  refine s_seq (word_app I rfl (by decide) wS (fun S sb Q' E' hE => ?_) fun S5 I => ?_)
  · refine e_call (e_cons (e_v rfl (e_ks ?_)))
    exact r_beat_row_s1 (n := 3) (by decide) (bad_mono sb hbad) (hE _ (.refl _))
  dsimp only [List.set_cons_succ, List.set_cons_zero]
  refine s_seq (word_app I rfl (by decide) wS (fun S sb Q' E' hE => ?_) fun S5 I => ?_)
  · refine e_call (e_cons (e_k (e_cons (e_v rfl (e_ks ?_)))))
    exact r_beat_row_s2 (n := 3) (by decide) good12 (bad_mono sb hbad) (hE _ (.refl _))
  dsimp only [List.set_cons_succ, List.set_cons_zero]
  refine s_seq (word_app I rfl (by decide) wS (fun S sb Q' E' hE => ?_) fun S5 I => ?_)
  · refine e_call (e_cons (e_k (e_cons (e_v rfl (e_ks ?_)))))
    exact r_whole_s2 good12 (bad_mono sb hbad) (hE _ (.refl _))
  dsimp only [List.set_cons_succ, List.set_cons_zero]
  refine s_seq (word_app I rfl (by decide) wN (fun S sb Q' E' hE => ?_) fun S5 I => ?_)
  · refine e_call (e_cons (e_k (e_cons (e_k (e_cons (e_call (e_cons (e_v rfl (e_cons (e_lstk fun q hq => e_nil ?_))))))))))
    refine r_law_some (keep1 (sb.le _ _ hS3) hq) (.inl supd_same) (Nat.zero_lt_succ _) (by decide : 3 < 2 ^ 64) fun v hv => e_nil ?_
    simp only [List.mem_cons, List.not_mem_nil, or_false] at hv
    rcases hv with rfl | rfl | rfl
    · exact r_whole_num good12 good01 rfl (by decide) (hE _ (.new hq nofun))
    · exact r_whole_num good12 good01 rfl (by decide) (hE _ (.new hq nofun))
    · exact r_whole_num good12 good01 rfl (by decide) (hE _ (.new hq nofun))
  dsimp only [List.set_cons_succ, List.set_cons_zero]
  refine s_seq (word_app I rfl (by decide) wS (fun S sb Q' E' hE => ?_) fun S5 I => ?_)
  · refine e_call (e_cons (e_v rfl (e_ks ?_)))
    exact r_part_of_bad (bad_mono sb hbad) (hE _ (.refl _))
  dsimp only [List.set_cons_succ, List.set_cons_zero]
  refine s_seq (word_app I rfl (by decide) wN (fun S sb Q' E' hE => ?_) fun S5 I => ?_)
  · refine e_call (e_cons (e_k (e_cons (e_k (e_cons (e_call (e_cons (e_v rfl (e_cons (e_lstk fun q hq => e_nil ?_))))))))))
    refine r_law_some (keep1 (sb.le _ _ hS3) hq) (.inl supd_same) (Nat.zero_lt_succ _) (by decide : 3 < 2 ^ 64) fun v hv => e_nil ?_
    simp only [List.mem_cons, List.not_mem_nil, or_false] at hv
    rcases hv with rfl | rfl | rfl
    · exact r_part_between_bad (k := 1) good12 (by decide) rfl (by decide) (hE _ (.new hq nofun))
    · exact r_part_between_bad (k := 1) good12 (by decide) rfl (by decide) (hE _ (.new hq nofun))
    · exact r_part_between_bad (k := 1) good12 (by decide) rfl (by decide) (hE _ (.new hq nofun))
  dsimp only [List.set_cons_succ, List.set_cons_zero]
  refine s_ret (words_eq [PySem.Str.ofString "number", PySem.Str.ofString "slope", PySem.Str.ofString "slope", PySem.Str.ofString "slope", PySem.Str.ofString "number", PySem.Str.ofString "slope", PySem.Str.ofString "number"] rfl I rfl (by decide) rfl (by decide +kernel) fun S' sb => by
    rw [fnD_rt]
    exact ⟨S', .refl S', rfl⟩)

end L3

open PySem PySem.W PyProof.Rows in
set_option maxRecDepth 100000 in
set_option maxHeartbeats 0 in
theorem PySem.Challenge.cw_nextterms_k47_whole_beats_by_floor_sums_holds : PySem.Challenge.rw_nextterms_k47_whole_beats_by_floor_sums.Holds := by
  w_on; o_law; k_head; (case hw => w_witness2)
  k_fill
  refine L3.walk3 (l := PySem.Challenge.rw_nextterms_k47_whole_beats_by_floor_sums) (n := 63) (k := 9) (x := "script") (sp := L3.sp_law) rfl (by decide) rfl ⟨rfl, by decide, by decide⟩ (fun w h Y => PySem.W.km_in_of Y) L3.law_holds ?F
  case F =>
    intro w mg mb mean fa h TT Y KX Gn hmg
    refine' L3.all_mk KX Gn hmg (PySem.W.km_tabs_of Y) ?a_is_integer ?l_is_integer ?c_is_integer ?k_is_integer ?a_is_within ?l_is_within ?c_is_within ?k_is_within ?a_is_tuple_of ?l_is_tuple_of ?c_is_tuple_of ?k_is_tuple_of ?a_common ?l_common ?c_common ?k_common ?a_frac ?l_frac ?c_frac ?k_frac ?a_is_fraction ?l_is_fraction ?c_is_fraction ?k_is_fraction ?a_minus ?l_minus ?c_minus ?k_minus ?a_less ?l_less ?c_less ?k_less ?a_check_slope ?l_check_slope ?c_check_slope ?k_check_slope ?a_whole_part ?l_whole_part ?c_whole_part ?k_whole_part ?a_beat_row ?l_beat_row ?c_beat_row ?k_beat_row ?a_beat_sum ?l_beat_sum ?c_beat_sum ?k_beat_sum ?a_floor_sum ?l_floor_sum ?c_floor_sum ?k_floor_sum ?a_part_between ?l_part_between ?c_part_between ?k_part_between ?a_part_of ?l_part_of ?c_part_of ?k_part_of ?a__law_hand ?l__law_hand ?c__law_hand ?k__law_hand ?a__law_draw ?l__law_draw ?c__law_draw ?k__law_draw ?a__law_some ?l__law_some ?c__law_some ?k__law_some ?a__law_common ?l__law_common ?c__law_common ?k__law_common ?a__law_fraction ?l__law_fraction ?c__law_fraction ?k__law_fraction ?a__law_word ?l__law_word ?c__law_word ?k__law_word ?a__law_slope ?l__law_slope ?c__law_slope ?k__law_slope ?a__law_whole ?l__law_whole ?c__law_whole ?k__law_whole ?a__law_floors ?l__law_floors ?c__law_floors ?k__law_floors ?a__law_is_right ?l__law_is_right ?c__law_is_right ?k__law_is_right ?a_law ?l_law ?cc_law ?k_law ?tm_law ?th_law ?tn_law ?g_MOST_PLACE ?g_MOST_SLOPE ?z_ValueError ?z_abs ?z_bool ?z_int ?z_isinstance ?z_len ?z_list ?z_range ?z_repr ?z_sum ?z_tuple ?aC_BadNumber ?aC_BadSlope ?aC_TermError ?aC_TooMany ?ei_BadNumber ?kp_BadNumber ?sb_BadNumber ?ty_BadNumber ?e1_BadNumber ?e2_BadNumber ?e4_BadNumber ?e5_BadNumber ?e8_BadNumber ?ei_BadSlope ?kp_BadSlope ?sb_BadSlope ?ty_BadSlope ?e1_BadSlope ?e2_BadSlope ?e4_BadSlope ?e5_BadSlope ?e8_BadSlope ?e6 ?e7 ?x_BadNumber_TermError ?x_BadSlope_TermError ?x_BadNumber_TooMany ?x_BadSlope_TooMany ?y_BadNumber_BadNumber ?y_BadSlope_BadNumber ?y_BadNumber_BadSlope ?y_BadSlope_BadSlope ?y_BadNumber_ValueError ?y_BadSlope_ValueError ?nl
    (case a_is_integer => k_is)
    (case l_is_integer => k_is)
    (case c_is_integer => k_is)
    (case k_is_integer => k_is)
    (case a_is_within => k_is)
    (case l_is_within => k_is)
    (case c_is_within => k_is)
    (case k_is_within => k_is)
    (case a_is_tuple_of => k_is)
    (case l_is_tuple_of => k_is)
    (case c_is_tuple_of => k_is)
    (case k_is_tuple_of => k_is)
    (case a_common => k_is)
    (case l_common => k_is)
    (case c_common => k_is)
    (case k_common => k_is)
    (case a_frac => k_is)
    (case l_frac => k_is)
    (case c_frac => k_is)
    (case k_frac => k_is)
    (case a_is_fraction => k_is)
    (case l_is_fraction => k_is)
    (case c_is_fraction => k_is)
    (case k_is_fraction => k_is)
    (case a_minus => k_is)
    (case l_minus => k_is)
    (case c_minus => k_is)
    (case k_minus => k_is)
    (case a_less => k_is)
    (case l_less => k_is)
    (case c_less => k_is)
    (case k_less => k_is)
    (case a_check_slope => k_is)
    (case l_check_slope => k_is)
    (case c_check_slope => k_is)
    (case k_check_slope => k_is)
    (case a_whole_part => k_is)
    (case l_whole_part => k_is)
    (case c_whole_part => k_is)
    (case k_whole_part => k_is)
    (case a_beat_row => k_is)
    (case l_beat_row => k_is)
    (case c_beat_row => k_is)
    (case k_beat_row => k_is)
    (case a_beat_sum => k_is)
    (case l_beat_sum => k_is)
    (case c_beat_sum => k_is)
    (case k_beat_sum => k_is)
    (case a_floor_sum => k_is)
    (case l_floor_sum => k_is)
    (case c_floor_sum => k_is)
    (case k_floor_sum => k_is)
    (case a_part_between => k_is)
    (case l_part_between => k_is)
    (case c_part_between => k_is)
    (case k_part_between => k_is)
    (case a_part_of => k_is)
    (case l_part_of => k_is)
    (case c_part_of => k_is)
    (case k_part_of => k_is)
    (case a__law_hand => k_is)
    (case l__law_hand => k_is)
    (case c__law_hand => k_is)
    (case k__law_hand => k_is)
    (case a__law_draw => k_is)
    (case l__law_draw => k_is)
    (case c__law_draw => k_is)
    (case k__law_draw => k_is)
    (case a__law_some => k_is)
    (case l__law_some => k_is)
    (case c__law_some => k_is)
    (case k__law_some => k_is)
    (case a__law_common => k_is)
    (case l__law_common => k_is)
    (case c__law_common => k_is)
    (case k__law_common => k_is)
    (case a__law_fraction => k_is)
    (case l__law_fraction => k_is)
    (case c__law_fraction => k_is)
    (case k__law_fraction => k_is)
    (case a__law_word => k_is)
    (case l__law_word => k_is)
    (case c__law_word => k_is)
    (case k__law_word => k_is)
    (case a__law_slope => k_is)
    (case l__law_slope => k_is)
    (case c__law_slope => k_is)
    (case k__law_slope => k_is)
    (case a__law_whole => k_is)
    (case l__law_whole => k_is)
    (case c__law_whole => k_is)
    (case k__law_whole => k_is)
    (case a__law_floors => k_is)
    (case l__law_floors => k_is)
    (case c__law_floors => k_is)
    (case k__law_floors => k_is)
    (case a__law_is_right => k_is)
    (case l__law_is_right => k_is)
    (case c__law_is_right => k_is)
    (case k__law_is_right => k_is)
    (case a_law => k_is)
    (case l_law => k_is)
    (case cc_law => k_is)
    (case k_law => k_is)
    (case tm_law => exact List.mem_cons_self)
    (case th_law => kernel_rfl)
    (case tn_law => kernel_rfl)
    (case g_MOST_PLACE => k_is)
    (case g_MOST_SLOPE => k_is)
    (case z_ValueError => k_is)
    (case z_abs => k_is)
    (case z_bool => k_is)
    (case z_int => k_is)
    (case z_isinstance => k_is)
    (case z_len => k_is)
    (case z_list => k_is)
    (case z_range => k_is)
    (case z_repr => k_is)
    (case z_sum => k_is)
    (case z_tuple => k_is)
    (case aC_BadNumber => k_is)
    (case aC_BadSlope => k_is)
    (case aC_TermError => k_is)
    (case aC_TooMany => k_is)
    (case ei_BadNumber => kernel_rfl)
    (case kp_BadNumber => k_is)
    (case sb_BadNumber => k_is)
    (case ty_BadNumber => k_is)
    (case e1_BadNumber => k_is)
    (case e2_BadNumber => k_is)
    (case e4_BadNumber => k_is)
    (case e5_BadNumber => k_is)
    (case e8_BadNumber => k_is)
    (case ei_BadSlope => kernel_rfl)
    (case kp_BadSlope => k_is)
    (case sb_BadSlope => k_is)
    (case ty_BadSlope => k_is)
    (case e1_BadSlope => k_is)
    (case e2_BadSlope => k_is)
    (case e4_BadSlope => k_is)
    (case e5_BadSlope => k_is)
    (case e8_BadSlope => k_is)
    (case e6 => k_is)
    (case e7 => k_is)
    (case x_BadNumber_TermError => kernel_rfl)
    (case x_BadSlope_TermError => kernel_rfl)
    (case x_BadNumber_TooMany => kernel_rfl)
    (case x_BadSlope_TooMany => kernel_rfl)
    (case y_BadNumber_BadNumber => kernel_rfl)
    (case y_BadSlope_BadNumber => kernel_rfl)
    (case y_BadNumber_BadSlope => kernel_rfl)
    (case y_BadSlope_BadSlope => kernel_rfl)
    (case y_BadNumber_ValueError => kernel_rfl)
    (case y_BadSlope_ValueError => kernel_rfl)
    (case nl => kernel_rfl)
