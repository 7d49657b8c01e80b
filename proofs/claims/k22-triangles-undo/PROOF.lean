import PyProof.Rows.All
import Wide.All
import OpenK.AllK
import Wide.FinOn
import HandS.ForMost
import HandS.Wide
import HandS.TupAny
import HandS.TryMany
import HandS.Lambda
import HandS.WordsExc
import HandS.CallSlots
import HandS.TupMul
import HandS.Style
import HandS.Conv
import HandS.IsInst
import HandS.Flow
import HandS.SortInts
import HandS.ExcIs
import HandS.ExcField
import HandS.EndTab
import HandS.HeadWalk
import KE.KNestM
import KE.KTupSum
import HandS.Zip
import HandS.Rev
import HandS.RevRange
import HandS.DictComp
import HandS.Strs
import HandS.More
import HandS.RaiseMore
import KE.GoesMore
import PyProof.Draws
import HandS.Small
import PySem.Challenge.RW_nextterms_k22_whole_triangles_that_undo
set_option Elab.async false
set_option linter.all false
set_option maxRecDepth 100000
set_option maxHeartbeats 4000000
/-! L3: values by content over HandS -/
namespace L3
open PySem PySem.Spec L2
open PyProof.Rows hiding St

/-- a value by content: tuples by value, mutable things by address -/
inductive PV where
  | non | bl (b : Bool) | int (i : Int) | str (x : Str) | tup (xs : List PV) | ref (a : Addr) | ty (n : String)

/-- what a tracked address holds, by content -/
inductive MO where
  | lst (xs : List PV)
  | rol (xs : List PV)
  | hand
  | priv
  | dct (kvs : List (Key × PV))

abbrev Sto := Addr → Option MO
abbrev PEnv := List (Option PV)
def supd (S : Sto) (a : Addr) (o : MO) : Sto := fun b => if b = a then some o else S b
theorem supd_same {S : Sto} {a : Addr} {o : MO} : supd S a o a = some o := by unfold supd; rw [if_pos rfl]
theorem supd_ne {S : Sto} {a b : Addr} {o : MO} (h : b ≠ a) : supd S a o b = S b := by unfold supd; rw [if_neg h]
theorem supd_supd {S : Sto} {a : Addr} {o u : MO} : supd (supd S a o) a u = supd S a u := by
  funext b; unfold supd; split <;> rfl

structure Gd where
  K : PySem.W.Frag
  T : List (Addr × Str)
  ec : Str → Option Addr
  /-- things that stand, not in any view -/
  fx : List (Addr × (Heap → Prop)) := []
  /-- captured slots -/
  cps : List (PEnv × L2.St) := []

mutual
def Rep (K : PySem.W.Frag) (H : Hp) : PV → V → Prop
  | .non, v => v = .non
  | .bl b, v => v = .bl b
  | .int i, v => v = .int i
  | .str x, v => v = .str x
  | .ref a, v => v = .ref a
  | .ty n, v => v = .ty n
  | .tup xs, v => ∃ a vs, v = .ref a ∧ SqT K H a vs ∧ Reps K H xs vs
def Reps (K : PySem.W.Frag) (H : Hp) : List PV → List V → Prop
  | [], vs => vs = []
  | x :: xs, vs => ∃ v ws, vs = v :: ws ∧ Rep K H x v ∧ Reps K H xs ws
end

/-- tuples stay -/
def Stay (H H' : Hp) : Prop := ∀ a xs, Rd H a (.tup xs) → Rd H' a (.tup xs)
theorem Stay.refl (H : Hp) : Stay H H := fun _ _ h => h
theorem Stay.trans {H H1 H2 : Hp} (a : Stay H H1) (b : Stay H1 H2) : Stay H H2 := fun c xs h => b c xs (a c xs h)
theorem Stay.of {H H' : Hp} (h : Same H H') : Stay H H' := fun a xs r => by
  rcases r with r | ⟨o, r⟩
  · exact .inl (h _ _ r)
  · exact .inr ⟨o, h _ _ r⟩
theorem Stay.sq {K : PySem.W.Frag} {H H' : Hp} {a : Addr} {xs : List V} (s : Stay H H') (h : SqT K H a xs) : SqT K H' a xs := h.imp (s a xs) id
mutual
theorem rep_stay {K : PySem.W.Frag} {H H' : Hp} (s : Stay H H') : ∀ (x : PV) (v : V), Rep K H x v → Rep K H' x v
  | .non, _, h => h
  | .bl _, _, h => h
  | .int _, _, h => h
  | .str _, _, h => h
  | .ref _, _, h => h
  | .ty _, _, h => h
  | .tup xs, _, h => by
    obtain ⟨a, vs, e, q, r⟩ := h
    exact ⟨a, vs, e, s.sq q, reps_stay s xs vs r⟩
theorem reps_stay {K : PySem.W.Frag} {H H' : Hp} (s : Stay H H') : ∀ (xs : List PV) (vs : List V), Reps K H xs vs → Reps K H' xs vs
  | [], _, h => h
  | x :: xs, _, h => by
    obtain ⟨v, ws, e, r, rs⟩ := h
    exact ⟨v, ws, e, rep_stay s x v r, reps_stay s xs ws rs⟩
end
section
variable {K : PySem.W.Frag} {H : Hp}
theorem reps_length : ∀ {xs : List PV} {vs : List V}, Reps K H xs vs → xs.length = vs.length
  | [], _, h => by cases h; rfl
  | x :: xs, _, h => by
    obtain ⟨v, ws, rfl, _, rs⟩ := h
    simp [reps_length rs]
theorem reps_append : ∀ {xs : List PV} {vs : List V} {ys : List PV} {ws : List V}, Reps K H xs vs → Reps K H ys ws → Reps K H (xs ++ ys) (vs ++ ws)
  | [], _, _, _, h, k => by cases h; exact k
  | x :: xs, _, _, _, h, k => by
    obtain ⟨v, ws, rfl, r, rs⟩ := h
    exact ⟨v, _, rfl, r, reps_append rs k⟩
theorem reps_get : ∀ {xs : List PV} {vs : List V} {i : Nat} {x : PV}, Reps K H xs vs → xs[i]? = some x → ∃ v, vs[i]? = some v ∧ Rep K H x v
  | [], _, _, _, h, e => by simp at e
  | y :: xs, _, 0, x, h, e => by
    obtain ⟨v, ws, rfl, r, rs⟩ := h
    simp at e; subst e
    exact ⟨v, rfl, r⟩
  | y :: xs, _, i + 1, x, h, e => by
    obtain ⟨v, ws, rfl, r, rs⟩ := h
    simpa using reps_get (i := i) rs (by simpa using e)
theorem reps_set {x : PV} {v : V} (r : Rep K H x v) : ∀ {xs : List PV} {vs : List V} (i : Nat), Reps K H xs vs → Reps K H (xs.set i x) (vs.set i v)
  | [], _, i, h => by cases h; exact rfl
  | y :: xs, _, 0, h => by
    obtain ⟨w, ws, rfl, _, rs⟩ := h
    exact ⟨v, ws, rfl, r, rs⟩
  | y :: xs, _, i + 1, h => by
    obtain ⟨w, ws, rfl, q, rs⟩ := h
    exact ⟨w, _, rfl, q, reps_set r i rs⟩
theorem reps_take : ∀ {xs : List PV} {vs : List V} (n : Nat), Reps K H xs vs → Reps K H (xs.take n) (vs.take n)
  | _, _, 0, _ => by simp [Reps]
  | [], _, n + 1, h => by cases h; simp [Reps]
  | x :: xs, _, n + 1, h => by
    obtain ⟨v, ws, rfl, r, rs⟩ := h
    exact ⟨v, _, rfl, r, reps_take n rs⟩
theorem reps_drop : ∀ {xs : List PV} {vs : List V} (n : Nat), Reps K H xs vs → Reps K H (xs.drop n) (vs.drop n)
  | _, _, 0, h => by simpa using h
  | [], _, n + 1, h => by cases h; simp [Reps]
  | x :: xs, _, n + 1, h => by
    obtain ⟨v, ws, rfl, r, rs⟩ := h
    simpa using reps_drop n rs
theorem reps_dropLast : ∀ {xs : List PV} {vs : List V}, Reps K H xs vs → Reps K H xs.dropLast vs.dropLast := fun {xs vs} h => by
  rw [List.dropLast_eq_take, List.dropLast_eq_take, reps_length h]
  exact reps_take _ h
theorem reps_ints : ∀ {ns : List Int} {vs : List V}, Reps K H (ns.map PV.int) vs ↔ vs = ns.map V.int
  | [], vs => by simp [Reps]
  | n :: ns, vs => by
    constructor
    · rintro ⟨v, ws, rfl, r, rs⟩
      obtain rfl : v = .int n := r
      rw [reps_ints.mp rs]; rfl
    · rintro rfl
      exact ⟨_, _, rfl, rfl, reps_ints.mpr rfl⟩
theorem reps_bls : ∀ {ns : List Bool} {vs : List V}, Reps K H (ns.map PV.bl) vs ↔ vs = ns.map V.bl
  | [], vs => by simp [Reps]
  | n :: ns, vs => by
    constructor
    · rintro ⟨v, ws, rfl, r, rs⟩
      obtain rfl : v = .bl n := r
      rw [reps_bls.mp rs]; rfl
    · rintro rfl
      exact ⟨_, _, rfl, rfl, reps_bls.mpr rfl⟩
theorem reps_strs : ∀ {ns : List Str} {vs : List V}, Reps K H (ns.map PV.str) vs ↔ vs = ns.map V.str
  | [], vs => by simp [Reps]
  | n :: ns, vs => by
    constructor
    · rintro ⟨v, ws, rfl, r, rs⟩
      obtain rfl : v = .str n := r
      rw [reps_strs.mp rs]; rfl
    · rintro rfl
      exact ⟨_, _, rfl, rfl, reps_strs.mpr rfl⟩
end

/-! ### the slots -/
def Renv (K : PySem.W.Frag) (H : Hp) (ε : PEnv) (σ : St) : Prop := ε.length = σ.length ∧ ∀ (i : Nat) (x : PV), ε[i]? = some (some x) → ∃ v, σ[i]? = some (some v) ∧ Rep K H x v
theorem Renv.stay {K : PySem.W.Frag} {H H' : Hp} {ε : PEnv} {σ : St} (s : Stay H H') (h : Renv K H ε σ) : Renv K H' ε σ := ⟨h.1, fun i x e => by
  obtain ⟨v, e1, r⟩ := h.2 i x e
  exact ⟨v, e1, rep_stay s x v r⟩⟩
theorem Renv.set {K : PySem.W.Frag} {H : Hp} {ε : PEnv} {σ : St} {x : PV} {v : V} (h : Renv K H ε σ) (i : Nat) (r : Rep K H x v) : Renv K H (ε.set i (some x)) (σ.set i (some v)) := by
  refine ⟨by simp [h.1], fun j y e => ?_⟩
  by_cases hj : j = i
  · subst hj
    by_cases hl : j < ε.length
    · rw [List.getElem?_set_self hl] at e
      cases e
      exact ⟨v, by rw [List.getElem?_set_self (by rw [← h.1]; exact hl)], r⟩
    · rw [List.getElem?_eq_none (by simpa using hl)] at e; cases e
  · rw [List.getElem?_set_ne (Ne.symm hj)] at e ⊢
    exact h.2 j y e
theorem Renv.unset {K : PySem.W.Frag} {H : Hp} {ε : PEnv} {σ : St} {o : Option V} (h : Renv K H ε σ) (i : Nat) : Renv K H (ε.set i none) (σ.set i o) := by
  refine ⟨by simp [h.1], fun j y e => ?_⟩
  by_cases hj : j = i
  · subst hj
    by_cases hl : j < ε.length
    · rw [List.getElem?_set_self hl] at e; cases e
    · rw [List.getElem?_eq_none (by simpa using hl)] at e; cases e
  · rw [List.getElem?_set_ne (Ne.symm hj)] at e ⊢
    exact h.2 j y e
def RepKV (K : PySem.W.Frag) (H : Hp) : List (Key × PV) → List (Key × V) → Prop
  | [], es => es = []
  | (k, x) :: kvs, es => ∃ v ws, es = (k, v) :: ws ∧ Rep K H x v ∧ RepKV K H kvs ws
theorem repKV_stay {K : PySem.W.Frag} {H H' : Hp} (s : Stay H H') : ∀ (xs : List (Key × PV)) (vs : List (Key × V)), RepKV K H xs vs → RepKV K H' xs vs
  | [], _, h => h
  | (k, x) :: xs, _, h => by
    obtain ⟨v, ws, e, r, rs⟩ := h
    exact ⟨v, ws, e, rep_stay s x v r, repKV_stay s xs ws rs⟩

/-- the hand: the cells at c -/
def HandOk (H : Hp) (h c : Addr) : Prop := ∃ (cells : List Int) (p l m k : Int), H h = some (.lst [.ref c, .int p, .int l, .int m, .int k]) ∧ H c = some (.lst (cells.map V.int)) ∧
  (∀ x ∈ cells, 0 ≤ x) ∧ 0 ≤ p ∧ 0 ≤ l ∧ 0 ≤ m ∧ 0 ≤ k ∧ cells.length ≤ 63

def MOk (G : Gd) (H : Hp) (S : Sto) (a : Addr) : MO → Prop
  | .lst xs => ∃ vs, H a = some (.lst vs) ∧ Reps G.K H xs vs
  | .rol xs => ∃ vs, Rd H a (.lst vs) ∧ Reps G.K H xs vs
  | .hand => ∃ c, S c = some .priv ∧ HandOk H a c
  | .priv => ∃ vs, H a = some (.lst vs)
  | .dct kvs => ∃ es, H a = some (.dK es) ∧ RepKV G.K H kvs es

structure SR (G : Gd) (H : Hp) (S : Sto) : Prop where
  ok : ∀ a o, S a = some o → MOk G H S a o
  tb : LamX.Tabs G.T H
  fx : ∀ p ∈ G.fx, H p.1 = some (.ext p.2) ∧ S p.1 = none
  cp : ∀ p ∈ G.cps, Renv G.K H p.1 p.2

section
variable {G : Gd} {H H' : Hp} {S S' : Sto} {a p : Addr} {o : MO}
theorem MOk.there (h : MOk G H S a o) : ∃ u, H a = some u := by
  cases o with
  | lst xs => obtain ⟨vs, e, _⟩ := h; exact ⟨_, e⟩
  | rol xs =>
    obtain ⟨vs, e, _⟩ := h
    rcases e with e | ⟨o, e⟩
    · exact ⟨_, e⟩
    · exact ⟨_, e⟩
  | hand => obtain ⟨c, _, cells, p, l, m, k, e, _⟩ := h; exact ⟨_, e⟩
  | priv => obtain ⟨vs, e⟩ := h; exact ⟨_, e⟩
  | dct kvs => obtain ⟨es, e, _⟩ := h; exact ⟨_, e⟩
theorem SR.free (h : SR G H S) (e : H p = none) : S p = none := by
  cases q : S p with
  | none => rfl
  | some o =>
    obtain ⟨u, hu⟩ := (h.ok p o q).there
    rw [e] at hu; cases hu
theorem MOk.keep (h : MOk G H S a o) (st : Stay H H') (ka : ∀ u, H a = some u → H' a = some u) (kc : ∀ c, S c = some .priv → S' c = some .priv ∧ ∀ u, H c = some u → H' c = some u) : MOk G H' S' a o := by
  cases o with
  | lst xs => obtain ⟨vs, e, r⟩ := h; exact ⟨vs, ka _ e, reps_stay st _ _ r⟩
  | rol xs =>
    obtain ⟨vs, e, r⟩ := h
    rcases e with e | ⟨o, e⟩
    · exact ⟨vs, .inl (ka _ e), reps_stay st _ _ r⟩
    · exact ⟨vs, .inr ⟨o, ka _ e⟩, reps_stay st _ _ r⟩
  | hand =>
    obtain ⟨c, sc, cells, p, l, m, k, e, ec, r⟩ := h
    exact ⟨c, (kc c sc).1, cells, p, l, m, k, ka _ e, (kc c sc).2 _ ec, r⟩
  | priv => obtain ⟨u, e⟩ := h; exact ⟨u, ka _ e⟩
  | dct kvs => obtain ⟨es, e, r⟩ := h; exact ⟨es, ka _ e, repKV_stay st _ _ r⟩
theorem same_upd {o : HO} (h : H p = none) : Same H (upd H p o) := fun b x e => by
  rw [upd_ne (ne_of_none e h)]
  exact e
/-- nothing tracked has changed -/
theorem SR.same (h : SR G H S) (s : Same H H') : SR G H' S :=
  ⟨fun a o e => (h.ok a o e).keep (.of s) (fun u q => s a u q) fun c ec => ⟨ec, fun u q => s c u q⟩, h.tb.ext s, fun p hp => ⟨s _ _ (h.fx p hp).1, (h.fx p hp).2⟩, fun q hq => (h.cp q hq).stay (.of s)⟩
/-- a new thing, tracked -/
theorem SR.new {u : HO} (h : SR G H S) (e : H p = none) (new : MOk G (upd H p u) (supd S p o) p o) : SR G (upd H p u) (supd S p o) := by
  have s : Same H (upd H p u) := same_upd e
  have np := h.free e
  refine ⟨fun b w q => ?_, h.tb.ext s, fun q hq => ⟨s _ _ (h.fx q hq).1, ?_⟩, fun q hq => (h.cp q hq).stay (.of s)⟩
  rotate_left
  · rw [supd_ne (ne_of_none (h.fx q hq).1 e)]
    exact (h.fx q hq).2
  by_cases hb : b = p
  · subst hb; rw [supd_same] at q; cases q; exact new
  · rw [supd_ne hb] at q
    refine (h.ok b w q).keep (.of s) (fun u q => s b u q) fun c ec => ⟨?_, fun u q => s c u q⟩
    rw [supd_ne (fun z => by rw [z, np] at ec; cases ec)]
    exact ec
/-- a tracked thing is written -/
theorem SR.wr {u w : HO} {ob : MO} (h : SR G H S) (e : S a = some ob) (hu : H a = some u) (n1 : ∀ xs, u ≠ .tup xs) (n2 : ∀ v z, u ≠ .frz v z) (n3 : ∀ ps, u ≠ .tbl ps) (n4 : ∀ φ, u ≠ .ext φ) (nob : ob ≠ .priv)
    (st : Stay H (upd H a w) → MOk G (upd H a w) (supd S a o) a o) : SR G (upd H a w) (supd S a o) := by
  have stay : Stay H (upd H a w) := fun b xs r => by
    have nb : b ≠ a := fun z => by
      rcases r with r | ⟨v, r⟩
      · rw [z, hu] at r; exact n1 xs (Option.some.inj r)
      · rw [z, hu] at r; exact n2 v _ (Option.some.inj r)
    rcases r with r | ⟨v, r⟩
    · exact .inl (by rw [upd_ne nb]; exact r)
    · exact .inr ⟨v, by rw [upd_ne nb]; exact r⟩
  refine ⟨fun b z q => ?_, fun q hq => ?_, fun q hq => ?_, fun q hq => (h.cp q hq).stay stay⟩
  rotate_right
  · have nb : q.1 ≠ a := fun z => by have r := (h.fx q hq).2; rw [z, e] at r; cases r
    exact ⟨by rw [upd_ne nb]; exact (h.fx q hq).1, by rw [supd_ne nb]; exact (h.fx q hq).2⟩
  · by_cases hb : b = a
    · subst hb; rw [supd_same] at q; cases q; exact st stay
    · rw [supd_ne hb] at q
      refine (h.ok b z q).keep stay (fun u q => by rw [upd_ne hb]; exact q) fun c ec => ?_
      have nc : c ≠ a := fun z => by rw [z, e] at ec; exact nob (Option.some.inj ec)
      exact ⟨by rw [supd_ne nc]; exact ec, fun u q => by rw [upd_ne nc]; exact q⟩
  · obtain ⟨ps, e1, e2, e3⟩ := h.tb q hq
    have nb : q.1 ≠ a := fun z => by rw [z, hu] at e1; exact n3 _ (Option.some.inj e1)
    refine ⟨ps, by rw [upd_ne nb]; exact e1, e2, fun pos cv hc => ?_⟩
    obtain ⟨c, f1, f2⟩ := e3 pos cv hc
    have nc : c ≠ a := fun z => by rw [z, hu] at f2; exact n4 _ (Option.some.inj f2)
    exact ⟨c, f1, by rw [upd_ne nc]; exact f2⟩
end
/-- a smaller view -/
structure Sub (S' S : Sto) : Prop where
  le : ∀ a o, S' a = some o → S a = some o
  pr : ∀ a, S' a = some .hand → ∀ c, S c = some .priv → S' c = some .priv
theorem Sub.refl (S : Sto) : Sub S S := ⟨fun _ _ h => h, fun _ _ _ h => h⟩
theorem Sub.trans {S S1 S2 : Sto} (a : Sub S S1) (b : Sub S1 S2) : Sub S S2 := ⟨fun c o h => b.le c o (a.le c o h), fun c h d hd => a.pr c h d (b.pr c (a.le c _ h) d hd)⟩
theorem Sub.new {S : Sto} {p : Addr} {o : MO} (h : S p = none) (n : o ≠ .priv) : Sub S (supd S p o) :=
  ⟨fun a u e => by rw [supd_ne (fun z => by rw [z, h] at e; cases e)]; exact e, fun a _ c e => by
    by_cases hc : c = p
    · rw [hc, supd_same] at e; exact absurd (Option.some.inj e) n
    · rw [supd_ne hc] at e; exact e⟩
theorem SR.sub {G : Gd} {H : Hp} {S S' : Sto} (h : SR G H S) (s : Sub S' S) : SR G H S' := by
  refine ⟨fun a o e => ?_, h.tb, fun p hp => ⟨(h.fx p hp).1, ?_⟩, h.cp⟩
  rotate_left
  · cases q : S' p.1 with
    | none => rfl
    | some o => have r := (h.fx p hp).2; rw [s.le _ _ q] at r; cases r
  have q := h.ok a o (s.le a o e)
  cases o with
  | lst xs => exact q
  | rol xs => exact q
  | hand => obtain ⟨c, sc, r⟩ := q; exact ⟨c, s.pr a e c sc, r⟩
  | priv => exact q
  | dct kvs => exact q

/-- less is known of the slots -/
inductive Le : PEnv → PEnv → Prop
  | nil : Le [] []
  | keep {x : Option PV} {a b : PEnv} : Le a b → Le (x :: a) (x :: b)
  | drop {x : Option PV} {a b : PEnv} : Le a b → Le (none :: a) (x :: b)
theorem Le.refl : ∀ a : PEnv, Le a a
  | [] => .nil
  | _ :: a => .keep (Le.refl a)
theorem Le.length {a b : PEnv} (h : Le a b) : a.length = b.length := by
  induction h with
  | nil => rfl
  | keep _ ih => simp [ih]
  | drop _ ih => simp [ih]
theorem Le.get {a b : PEnv} (h : Le a b) : ∀ (i : Nat) (x : PV), a[i]? = some (some x) → b[i]? = some (some x) := by
  induction h with
  | nil => intro i x e; exact e
  | keep _ ih => intro i x e; cases i with
    | zero => exact e
    | succ i => simpa using ih i x (by simpa using e)
  | drop _ ih => intro i x e; cases i with
    | zero => simp at e
    | succ i => simpa using ih i x (by simpa using e)
theorem Renv.le {K : PySem.W.Frag} {H : Hp} {ε ε' : PEnv} {σ : St} (h : Renv K H ε σ) (l : Le ε' ε) : Renv K H ε' σ := ⟨l.length.trans h.1, fun i x e => h.2 i x (l.get i x e)⟩

/-! ### what is wanted -/
/-- an exception: its class's name, its one field -/
structure PX where
  name : Str
  arg : Option (Str × PV) := none
def RepX (G : Gd) (H : Hp) (cls : Value) (d : Option Addr) (n : PX) : Prop := ∃ C, G.ec n.name = some C ∧ cls = .ref C ∧
  match n.arg with
  | none => d = none
  | some (f, x) => ∃ dd v, d = some dd ∧ H dd = some (.xd [(f, v)]) ∧ Rep G.K H x v
abbrev KE := PV → Sto → Prop
abbrev KX := PX → Sto → Prop
abbrev WE := PEnv → Sto → KE → KX → Prop
abbrev WT := PEnv → Sto → (Bool → Sto → Prop) → KX → Prop
abbrev WA := PEnv → Sto → (List PV → Sto → Prop) → KX → Prop
structure PD where
  nx : PEnv → Sto → Prop
  rt : KE
  bk : PEnv → Sto → Prop
  ct : PEnv → Sto → Prop
  ex : PX → PEnv → Sto → Prop
abbrev WS := PD → PEnv → Sto → Prop

/-- a step: tuples stay; what is not in the view stays, and stays out of it -/
structure Stp (S : Sto) (H : Hp) (S' : Sto) (H' : Hp) : Prop where
  st : Stay H H'
  fr : ∀ a o, S a = none → H a = some o → (∀ ps, o ≠ .tbl ps) → H' a = some o ∧ S' a = none
theorem Stp.refl (S : Sto) (H : Hp) : Stp S H S H := ⟨.refl _, fun _ _ n e _ => ⟨e, n⟩⟩
theorem Stp.trans {S S1 S2 : Sto} {H H1 H2 : Hp} (a : Stp S H S1 H1) (b : Stp S1 H1 S2 H2) : Stp S H S2 H2 :=
  ⟨a.st.trans b.st, fun c o n e t => let ⟨e1, n1⟩ := a.fr c o n e t; b.fr c o n1 e1 t⟩
theorem Stp.same {S : Sto} {H H' : Hp} (s : Same H H') : Stp S H S H' := ⟨.of s, fun a o n e _ => ⟨s a o e, n⟩⟩
theorem Stp.new {S : Sto} {H : Hp} {p : Addr} {o : MO} {u : HO} (e : H p = none) : Stp S H (supd S p o) (upd H p u) :=
  ⟨.of (same_upd e), fun a w n h _ => ⟨same_upd e a w h, by rw [supd_ne (ne_of_none h e)]; exact n⟩⟩
theorem Stp.sub {S S' S'' : Sto} {H H' : Hp} (h : Stp S H S' H') (s : Sub S'' S') : Stp S H S'' H' := ⟨h.st, fun a o n e t => by
  obtain ⟨e1, n1⟩ := h.fr a o n e t
  refine ⟨e1, ?_⟩
  cases q : S'' a with
  | none => rfl
  | some w => rw [s.le a w q] at n1; cases n1⟩
theorem Stp.pre {S S0 S' : Sto} {H H' : Hp} (h : Stp S0 H S' H') (s : Sub S0 S) : Stp S H S' H' := ⟨h.st, fun a o n e t => by
  refine h.fr a o ?_ e t
  cases q : S0 a with
  | none => rfl
  | some w => rw [s.le a w q] at n; cases n⟩
def QL (G : Gd) (S : Sto) (H : Hp) (Q : KE) : VK := fun v H' => ∃ x S', Stp S H S' H' ∧ SR G H' S' ∧ Rep G.K H' x v ∧ Q x S'
def QT (G : Gd) (S : Sto) (H : Hp) (Q : Bool → Sto → Prop) : Bool → Hp → Prop := fun b H' => ∃ S', Stp S H S' H' ∧ SR G H' S' ∧ Q b S'
def QA (G : Gd) (S : Sto) (H : Hp) (Q : List PV → Sto → Prop) : List V → Hp → Prop := fun vs H' => ∃ xs S', Stp S H S' H' ∧ SR G H' S' ∧ Reps G.K H' xs vs ∧ Q xs S'
def QS (G : Gd) (S : Sto) (H : Hp) (Q : PEnv → Sto → Prop) : L2.St → Hp → Prop := fun σ' H' => ∃ ε' S', Stp S H S' H' ∧ SR G H' S' ∧ Renv G.K H' ε' σ' ∧ Q ε' S'
def ExL (G : Gd) (S : Sto) (H : Hp) (σ : L2.St) (E : KX) (Wx : WX) : Prop := ∀ n S' cls d H', Stp S H S' H' → SR G H' S' → RepX G H' cls d n → E n S' → Wx cls d σ H'
def ExS (G : Gd) (S : Sto) (H : Hp) (E : PX → PEnv → Sto → Prop) (Wx : WX) : Prop := ∀ n ε' S' cls d σ' H', Stp S H S' H' → SR G H' S' → Renv G.K H' ε' σ' → RepX G H' cls d n → E n ε' S' → Wx cls d σ' H'
section
variable {G : Gd} {S S1 : Sto} {H H1 : Hp}
theorem QL.mono {Q : KE} (s : Stp S H S1 H1) {v : V} {H' : Hp} (h : QL G S1 H1 Q v H') : QL G S H Q v H' := let ⟨x, S', a, b⟩ := h; ⟨x, S', s.trans a, b⟩
theorem QT.mono {Q : Bool → Sto → Prop} (s : Stp S H S1 H1) {v : Bool} {H' : Hp} (h : QT G S1 H1 Q v H') : QT G S H Q v H' := let ⟨S', a, b⟩ := h; ⟨S', s.trans a, b⟩
theorem QA.mono {Q : List PV → Sto → Prop} (s : Stp S H S1 H1) {v : List V} {H' : Hp} (h : QA G S1 H1 Q v H') : QA G S H Q v H' := let ⟨x, S', a, b⟩ := h; ⟨x, S', s.trans a, b⟩
theorem QS.mono {Q : PEnv → Sto → Prop} (s : Stp S H S1 H1) {v : L2.St} {H' : Hp} (h : QS G S1 H1 Q v H') : QS G S H Q v H' := let ⟨x, S', a, b⟩ := h; ⟨x, S', s.trans a, b⟩
theorem ExL.mono {σ : L2.St} {E : KX} {Wx : WX} (s : Stp S H S1 H1) (h : ExL G S H σ E Wx) : ExL G S1 H1 σ E Wx := fun n S' cls d H' q => h n S' cls d H' (s.trans q)
theorem ExS.mono {E : PX → PEnv → Sto → Prop} {Wx : WX} (s : Stp S H S1 H1) (h : ExS G S H E Wx) : ExS G S1 H1 E Wx := fun n ε' S' cls d σ' H' q => h n ε' S' cls d σ' H' (s.trans q)
theorem ExS.ofL {σ : L2.St} {ε : PEnv} {E : PX → PEnv → Sto → Prop} {Wx : WX} (h : ExS G S H E Wx) (r : Renv G.K H ε σ) : ExL G S H σ (fun n S' => E n ε S') Wx := fun n S' cls d H' q sr rx e => h n ε S' cls d σ H' q sr (r.stay q.st) rx e
end
theorem Stp.wr {S : Sto} {H : Hp} {a : Addr} {u w : HO} {ob o : MO} (e : S a = some ob) (hu : H a = some u) (n1 : ∀ xs, u ≠ .tup xs) (n2 : ∀ v z, u ≠ .frz v z) : Stp S H (supd S a o) (upd H a w) := by
  refine ⟨fun b xs r => ?_, fun b v n h _ => ?_⟩
  · have nb : b ≠ a := fun z => by
      rcases r with r | ⟨v, r⟩
      · rw [z, hu] at r; exact n1 xs (Option.some.inj r)
      · rw [z, hu] at r; exact n2 v _ (Option.some.inj r)
    rcases r with r | ⟨v, r⟩
    · exact .inl (by rw [upd_ne nb]; exact r)
    · exact .inr ⟨v, by rw [upd_ne nb]; exact r⟩
  · have nb : b ≠ a := fun z => by rw [z, e] at n; cases n
    exact ⟨by rw [upd_ne nb]; exact h, by rw [supd_ne nb]; exact n⟩

/-! ### the judgements -/
def sE (X : Cx) (e : Expr) : TE := fun σ H Q => ∀ pins s, Inv X pins σ H s → wpAny (model X.prog X.w) X.A (eval e X.env) (EP X pins σ Q) X.xe s
def sT (X : Cx) (e : Expr) : TT := fun σ H Q => ∀ pins s, Inv X pins σ H s → wpAny (model X.prog X.w) X.A (isTrue e X.env (eval e X.env)) (TP X pins σ Q) X.xe s
def sW (X : Cx) (e : Expr) : TT := fun σ H Q => ∀ whole pins s, Inv X pins σ H s → wpAny (model X.prog X.w) X.A (isTrue e X.env whole) (TP X pins σ Q) X.xe s
def sA (X : Cx) (es : List Expr) : TA := fun σ H Q => ∀ (pos : Pos) pins s, Inv X pins σ H s → wpAny (model X.prog X.w) X.A (spliced (backTo pos (starEach es X.env))) (AP X pins σ Q) X.xe s
def sS (X : Cx) (st : Stmt) : TS := fun D σ H => ∀ pins s, Inv X pins σ H s → wpAny (model X.prog X.w) X.A (exec st X.env) (SP X pins D) X.xe s
def sSs (X : Cx) (st : List Stmt) : TS := fun D σ H => ∀ pins s, Inv X pins σ H s → wpAny (model X.prog X.w) X.A (execs st X.env) (SP X pins D) X.xe s
section
variable {X : Cx} {e : Expr} {es : List Expr} {st : Stmt} {sts : List Stmt} {σ : St} {H : Hp}
theorem pe_sE : PE X e (sE X e) := ⟨fun pins s _ _ _ I h => h pins s I⟩
theorem pt_sT : PT X e (sT X e) := ⟨fun pins s _ _ _ I h => h pins s I⟩
theorem pw_sW : PW X e (sW X e) := ⟨fun wh pins s _ _ _ I h => h wh pins s I⟩
theorem pa_sA : PA X es (sA X es) := ⟨fun pos pins s _ _ _ I h => h pos pins s I⟩
theorem ps_sS : PS X st (sS X st) := ⟨fun pins s _ _ _ I h => h pins s I⟩
theorem pss_sSs : PSs X sts (sSs X sts) := ⟨fun pins s _ _ _ I h => h pins s I⟩
theorem sE_of {t : TE} {Q : VK} (h : PE X e t) (q : t σ H Q) : sE X e σ H Q := fun pins s I => h.run pins s σ H Q I q
theorem sT_of {t : TT} {Q : Bool → Hp → Prop} (h : PT X e t) (q : t σ H Q) : sT X e σ H Q := fun pins s I => h.run pins s σ H Q I q
theorem sW_of {t : TT} {Q : Bool → Hp → Prop} (h : PW X e t) (q : t σ H Q) : sW X e σ H Q := fun wh pins s I => h.run wh pins s σ H Q I q
theorem sA_of {t : TA} {Q : List V → Hp → Prop} (h : PA X es t) (q : t σ H Q) : sA X es σ H Q := fun pos pins s I => h.run pos pins s σ H Q I q
theorem sS_of {t : TS} {D : Ends} (h : PS X st t) (q : t D σ H) : sS X st D σ H := fun pins s I => h.run pins s σ H D I q
theorem sSs_of {t : TS} {D : Ends} (h : PSs X sts t) (q : t D σ H) : sSs X sts D σ H := fun pins s I => h.run pins s σ H D I q
theorem sE_mono {Q Q' : VK} (h : sE X e σ H Q) (k : ∀ v H', Q v H' → Q' v H') : sE X e σ H Q' := fun pins s I => thn (h pins s I) fun u s' ⟨v, H', I', r, q⟩ => ⟨v, H', I', r, k v H' q⟩
theorem sT_mono {Q Q' : Bool → Hp → Prop} (h : sT X e σ H Q) (k : ∀ v H', Q v H' → Q' v H') : sT X e σ H Q' := fun pins s I => thn (h pins s I) fun u s' ⟨H', I', q⟩ => ⟨H', I', k u H' q⟩
theorem sW_mono {Q Q' : Bool → Hp → Prop} (h : sW X e σ H Q) (k : ∀ v H', Q v H' → Q' v H') : sW X e σ H Q' := fun wh pins s I => thn (h wh pins s I) fun u s' ⟨H', I', q⟩ => ⟨H', I', k u H' q⟩
theorem sA_mono {Q Q' : List V → Hp → Prop} (h : sA X es σ H Q) (k : ∀ v H', Q v H' → Q' v H') : sA X es σ H Q' := fun pos pins s I => thn (h pos pins s I) fun u s' ⟨v, H', I', r, q⟩ => ⟨v, H', I', r, k v H' q⟩
structure EndsLe (D D' : Ends) : Prop where
  nx : ∀ σ H, D.nx σ H → D'.nx σ H
  rt : ∀ v H, D.rt v H → D'.rt v H
  bk : ∀ σ H, D.bk σ H → D'.bk σ H
  ct : ∀ σ H, D.ct σ H → D'.ct σ H
theorem SP_mono {pins : List (Addr × Obj)} {D D' : Ends} (k : EndsLe D D') {f : Flow} {s' : Shared} (h : SP X pins D f s') : SP X pins D' f s' := by
  cases f with
  | next => obtain ⟨σ', H', I, q⟩ := h; exact ⟨σ', H', I, k.nx _ _ q⟩
  | brk => obtain ⟨σ', H', I, q⟩ := h; exact ⟨σ', H', I, k.bk _ _ q⟩
  | cont => obtain ⟨σ', H', I, q⟩ := h; exact ⟨σ', H', I, k.ct _ _ q⟩
  | ret u => obtain ⟨v, σ', H', I, r, q⟩ := h; exact ⟨v, σ', H', I, r, k.rt _ _ q⟩
theorem sS_mono {D D' : Ends} (h : sS X st D σ H) (k : EndsLe D D') : sS X st D' σ H := fun pins s I => thn (h pins s I) fun f s' q => SP_mono k q
theorem sSs_mono {D D' : Ends} (h : sSs X sts D σ H) (k : EndsLe D D') : sSs X sts D' σ H := fun pins s I => thn (h pins s I) fun f s' q => SP_mono k q
end
/-- an expression, by content -/
structure JE (G : Gd) (X : Cx) (e : Expr) (W : WE) : Prop where
  run : ∀ ε S (Q : KE) (E : KX), W ε S Q E → ∀ σ H, Renv G.K H ε σ → SR G H S → ∀ Wx : WX, Takes X Wx → ExL G S H σ E Wx → sE X e σ H (QL G S H Q)
structure JT (G : Gd) (X : Cx) (e : Expr) (W : WT) : Prop where
  run : ∀ ε S (Q : Bool → Sto → Prop) (E : KX), W ε S Q E → ∀ σ H, Renv G.K H ε σ → SR G H S → ∀ Wx : WX, Takes X Wx → ExL G S H σ E Wx → sT X e σ H (QT G S H Q)
structure JW (G : Gd) (X : Cx) (e : Expr) (W : WT) : Prop where
  run : ∀ ε S (Q : Bool → Sto → Prop) (E : KX), W ε S Q E → ∀ σ H, Renv G.K H ε σ → SR G H S → ∀ Wx : WX, Takes X Wx → ExL G S H σ E Wx → sW X e σ H (QT G S H Q)
structure JA (G : Gd) (X : Cx) (es : List Expr) (W : WA) : Prop where
  run : ∀ ε S (Q : List PV → Sto → Prop) (E : KX), W ε S Q E → ∀ σ H, Renv G.K H ε σ → SR G H S → ∀ Wx : WX, Takes X Wx → ExL G S H σ E Wx → sA X es σ H (QA G S H Q)
def EndsL (G : Gd) (S : Sto) (H : Hp) (D : PD) : Ends := { nx := QS G S H D.nx, rt := QL G S H D.rt, bk := QS G S H D.bk, ct := QS G S H D.ct }
structure JS (G : Gd) (X : Cx) (st : Stmt) (W : WS) : Prop where
  run : ∀ (D : PD) ε S, W D ε S → ∀ σ H, Renv G.K H ε σ → SR G H S → ∀ Wx : WX, Takes X Wx → ExS G S H D.ex Wx → sS X st (EndsL G S H D) σ H
structure JSs (G : Gd) (X : Cx) (sts : List Stmt) (W : WS) : Prop where
  run : ∀ (D : PD) ε S, W D ε S → ∀ σ H, Renv G.K H ε σ → SR G H S → ∀ Wx : WX, Takes X Wx → ExS G S H D.ex Wx → sSs X sts (EndsL G S H D) σ H
theorem EndsL.mono {G : Gd} {S S1 : Sto} {H H1 : Hp} (s : Stp S H S1 H1) (D : PD) : EndsLe (EndsL G S1 H1 D) (EndsL G S H D) :=
  ⟨fun _ _ q => QS.mono s q, fun _ _ q => QL.mono s q, fun _ _ q => QS.mono s q, fun _ _ q => QS.mono s q⟩
end L3

set_option Elab.async false
set_option linter.all false
set_option maxRecDepth 100000
set_option maxHeartbeats 4000000
namespace L3
open PySem PySem.Spec L2
open PyProof.Rows hiding St

section
variable {G : Gd} {X : Cx} {H H1 : Hp} {S S1 : Sto} {σ : L2.St} {ε : PEnv}
/-! ### ends -/
theorem ql_pure {Q : KE} {x : PV} {v : V} (sr : SR G H S) (r : Rep G.K H x v) (q : Q x S) : QL G S H Q v H := ⟨x, S, .refl _ _, sr, r, q⟩
theorem ql_int {Q : KE} {i : Int} (sr : SR G H S) (q : Q (.int i) S) : QL G S H Q (.int i) H := ⟨.int i, S, .refl _ _, sr, rfl, q⟩
theorem ql_bl {Q : KE} {i : Bool} (sr : SR G H S) (q : Q (.bl i) S) : QL G S H Q (.bl i) H := ⟨.bl i, S, .refl _ _, sr, rfl, q⟩
theorem ql_str {Q : KE} {i : Str} (sr : SR G H S) (q : Q (.str i) S) : QL G S H Q (.str i) H := ⟨.str i, S, .refl _ _, sr, rfl, q⟩
theorem ql_non {Q : KE} (sr : SR G H S) (q : Q .non S) : QL G S H Q .non H := ⟨.non, S, .refl _ _, sr, rfl, q⟩
theorem ql_ref {Q : KE} {a : Addr} (sr : SR G H S) (q : Q (.ref a) S) : QL G S H Q (.ref a) H := ⟨.ref a, S, .refl _ _, sr, rfl, q⟩
theorem ql_tup {Q : KE} {xs : List PV} {vs : List V} {p : Addr} (sr : SR G H S) (hp : H p = none) (r : Reps G.K H xs vs) (q : Q (.tup xs) S) : QL G S H Q (.ref p) (upd H p (.tup vs)) := by
  have s := same_upd (o := .tup vs) hp
  exact ⟨.tup xs, S, .same s, sr.same s, ⟨p, vs, rfl, .inl (.inl upd_same), reps_stay (.of s) _ _ r⟩, q⟩
theorem ql_lst {Q : KE} {xs : List PV} {vs : List V} {p : Addr} (sr : SR G H S) (hp : H p = none) (r : Reps G.K H xs vs) (q : ∀ p, S p = none → Q (.ref p) (supd S p (.lst xs))) : QL G S H Q (.ref p) (upd H p (.lst vs)) := by
  have s := same_upd (o := .lst vs) hp
  exact ⟨.ref p, _, .new hp, sr.new (o := .lst xs) hp ⟨vs, upd_same, reps_stay (.of s) _ _ r⟩, rfl, q p (sr.free hp)⟩
theorem sr_setl {xs ys : List PV} {vs ws : List V} {a : Addr} (sr : SR G H S) (e : S a = some (.lst xs)) (hv : H a = some (.lst vs)) (r : Reps G.K H ys ws) : SR G (upd H a (.lst ws)) (supd S a (.lst ys)) :=
  sr.wr e hv (fun _ z => by cases z) (fun _ _ z => by cases z) (fun _ z => by cases z) (fun _ z => by cases z) (fun z => by cases z) fun st => ⟨ws, upd_same, reps_stay st _ _ r⟩
theorem stp_setl {xs ys : List PV} {vs ws : List V} {a : Addr} (e : S a = some (.lst xs)) (hv : H a = some (.lst vs)) : Stp S H (supd S a (.lst ys)) (upd H a (.lst ws)) :=
  .wr e hv (fun _ z => by cases z) (fun _ _ z => by cases z)
theorem lst_at {xs : List PV} {a : Addr} (sr : SR G H S) (e : S a = some (.lst xs)) : ∃ vs, H a = some (.lst vs) ∧ Reps G.K H xs vs := sr.ok a _ e
/-- a list that is read -/
def RdL (S : Sto) (a : Addr) (xs : List PV) : Prop := S a = some (.lst xs) ∨ S a = some (.rol xs)
theorem rdl_at {xs : List PV} {a : Addr} (sr : SR G H S) (e : RdL S a xs) : ∃ vs, SqL G.K H a vs ∧ Reps G.K H xs vs := by
  rcases e with e | e
  · obtain ⟨vs, h, r⟩ := sr.ok a _ e
    exact ⟨vs, .inl (.inl h), r⟩
  · obtain ⟨vs, h, r⟩ := sr.ok a _ e
    exact ⟨vs, .inl h, r⟩

/-! ### names, constants -/
def wV (i : Nat) : WE := fun ε S Q _ => match ε[i]? with
  | some (some x) => Q x S
  | _ => False
def wC (x : PV) : WE := fun _ S Q _ => Q x S
theorem je_v {i : Nat} {e : Expr} (h : PE X e (tVar i)) : JE G X e (wV i) := ⟨fun ε S Q E w σ H re sr Wx tk ex => sE_of h (by
  unfold wV at w
  split at w
  · rename_i x hx
    obtain ⟨v, hv, r⟩ := re.2 i x hx
    exact ⟨v, hv, ql_pure sr r w⟩
  · exact w.elim)⟩
theorem je_c {e : Expr} {x : PV} {v : V} (h : PE X e (tC v)) (r : ∀ H, Rep G.K H x v) : JE G X e (wC x) := ⟨fun ε S Q E w σ H re sr Wx tk ex => sE_of h (ql_pure sr (r H) w)⟩
theorem je_int {i j pos} : JE G X (.Constant (.int i) j pos) (wC (.int i)) := je_c pe_int fun _ => rfl
theorem je_bl {b j pos} : JE G X (.Constant (.bool b) j pos) (wC (.bl b)) := je_c pe_bl fun _ => rfl
theorem je_non {j pos} : JE G X (.Constant .none j pos) (wC .non) := je_c pe_non fun _ => rfl
theorem je_str {x j pos} : JE G X (.Constant (.str x) j pos) (wC (.str x)) := je_c pe_str fun _ => rfl
theorem je_pv (i : Nat) {x : Str} {pos : Pos} (hN : X.N[i]? = some x := by rfl) (hv : Vis X.env.scope x := by first | exact Or.inl rfl | exact Or.inr (Or.inl rfl) | exact Or.inr (Or.inr rfl)) (hd : (x == ("__debug__" : Str)) = false := by decide)
    (hcd : (x == ("__classdict__" : Str)) = false := by decide) : JE G X (.Name x pos) (wV i) := je_v (pe_var hN hv hd hcd)
/-- a module's constant -/
theorem je_glob {x : Str} {v : V} {y : PV} {u : Value} {pos : Pos} (hg : Gl X x) (hm : X.mg x = some u) (r : RelV v u) (ry : ∀ H, Rep G.K H y v) (hd : (x == ("__debug__" : Str)) = false := by decide) : JE G X (.Name x pos) (wC y) := je_c (pe_glob hg hm r hd) ry

/-! ### operators -/
abbrev O2 := PV → PV → Sto → KE → Prop
/-- what a rule r asks is given by o; K: what is wanted in the end -/
def OpL (G : Gd) (r : R2) (o : O2) : Prop := ∀ H S x y v u Q (K : VK), SR G H S → Rep G.K H x v → Rep G.K H y u → (∀ v H', QL G S H Q v H' → K v H') → o x y S Q → r v u H K
def wOp (o : O2) (wa wb : WE) : WE := fun ε S Q E => wa ε S (fun x S1 => wb ε S1 (fun y S2 => o x y S2 Q) E) E
theorem two {a b : Expr} {wa wb : WE} {r : R2} {o : O2} (L : OpL G r o) (ha : JE G X a wa) (hb : JE G X b wb) {Q : KE} {E : KX} (w : wOp o wa wb ε S Q E) (re : Renv G.K H ε σ) (sr : SR G H S) {Wx : WX} (tk : Takes X Wx) (ex : ExL G S H σ E Wx) :
    sE X a σ H fun x H1 => sE X b σ H1 fun y H2 => r x y H2 (QL G S H Q) := by
  refine sE_mono (ha.run ε S _ E w σ H re sr Wx tk ex) fun v H1 ⟨x, S1, s1, sr1, r1, w1⟩ => ?_
  refine sE_mono (hb.run ε S1 _ E w1 σ H1 (re.stay s1.st) sr1 Wx tk (ex.mono s1)) fun u H2 ⟨y, S2, s2, sr2, r2, w2⟩ => ?_
  exact L H2 S2 x y v u Q _ sr2 (rep_stay s2.st _ _ r1) r2 (fun v H' q => q.mono (s1.trans s2)) w2
theorem je_op {a b : Expr} {wa wb : WE} {op : Operator} {r : R2} {o : O2} {pos : Pos} (ho : OpR X (binaryOp op) r) (L : OpL G r o) (ha : JE G X a wa) (hb : JE G X b wb) : JE G X (.BinOp a op b pos) (wOp o wa wb) :=
  ⟨fun ε S Q E w σ H re sr Wx tk ex => sE_of (pe_op ho pe_sE pe_sE) (two L ha hb w re sr tk ex)⟩
theorem je_cmp {a b : Expr} {wa wb : WE} {op : CmpOp} {r : R2} {o : O2} {pos : Pos} (ho : OpR X (compareOp op) r) (L : OpL G r o) (ha : JE G X a wa) (hb : JE G X b wb) (hm : behindInMarks op b = false) : JE G X (.Compare a [op] [b] pos) (wOp o wa wb) :=
  ⟨fun ε S Q E w σ H re sr Wx tk ex => sE_of (pe_cmpR ho pe_sE pe_sE hm) (two L ha hb w re sr tk ex)⟩
theorem OpL.or {r r' : R2} {o o' : O2} (h : OpL G r o) (h' : OpL G r' o') : OpL G (fun x y H Q => r x y H Q ∨ r' x y H Q) (fun x y S Q => o x y S Q ∨ o' x y S Q) := fun H S x y v u Q K sr rx ry k q =>
  q.imp (h H S x y v u Q K sr rx ry k) (h' H S x y v u Q K sr rx ry k)
theorem OpL.imp {r : R2} {o o' : O2} (h : OpL G r o) (k : ∀ x y S Q, o' x y S Q → o x y S Q) : OpL G r o' := fun H S x y v u Q K sr rx ry kk q => h H S x y v u Q K sr rx ry kk (k x y S Q q)
/-- two ints -/
def oI (C : Int → Int → Prop) (g : Int → Int → PV) : O2 := fun x y S Q => match x, y with
  | .int i, .int j => C i j ∧ Q (g i j) S
  | _, _ => False
theorem rep_int {i : Int} {v : V} {K : PySem.W.Frag} (h : Rep K H (.int i) v) : v = .int i := h
theorem opl_I {C : Int → Int → Prop} {g : Int → Int → PV} {g' : Int → Int → V} (hg : ∀ K H i j, Rep K H (g i j) (g' i j)) : OpL G (rI C g') (oI C g) := fun H S x y v u Q K sr rx ry k q => by
  unfold oI at q
  split at q
  · rename_i i j
    exact ⟨i, j, rx, ry, q.1, k _ _ (ql_pure sr (hg _ _ i j) q.2)⟩
  · exact q.elim
theorem opl_I0 {g : Int → Int → PV} {g' : Int → Int → V} (hg : ∀ K H i j, Rep K H (g i j) (g' i j)) : OpL G (rI0 g') (oI (fun _ _ => True) g) := fun H S x y v u Q K sr rx ry k q => by
  unfold oI at q
  split at q
  · rename_i i j
    exact ⟨i, j, rx, ry, k _ _ (ql_pure sr (hg _ _ i j) q.2)⟩
  · exact q.elim

/-- + -/
def oAdd : O2 := fun x y S Q => match x, y with
  | .int i, .int j => Q (.int (i + j)) S
  | .str i, .str j => i.length + j.length ≤ sizeLine ∧ Q (.str (i ++ j)) S
  | .tup xs, .tup ys => xs.length + ys.length ≤ sizeLine ∧ Q (.tup (xs ++ ys)) S
  | .ref a, .ref b => ∃ xs ys, S a = some (.lst xs) ∧ S b = some (.lst ys) ∧ xs.length + ys.length ≤ sizeLine ∧ ∀ p, S p = none → Q (.ref p) (supd S p (.lst (xs ++ ys)))
  | _, _ => False
abbrev rAddAll (K : PySem.W.Frag) : R2 := fun x y H Q => rI0 (fun i j => .int (i + j)) x y H Q ∨ (fun x y H Q => (fun x y H Q => ∃ i j, x = V.str i ∧ y = .str j ∧ i.length + j.length ≤ sizeLine ∧ Q (.str (i ++ j)) H) x y H Q ∨ (fun x y H Q => rCatA K x y H Q ∨ rCat x y H Q) x y H Q) x y H Q
theorem op_addAll (hK : X.K = G.K) : OpR X (binaryOp .Add) (rAddAll G.K) := op_add.or (op_add_str.or ((hK ▸ op_catA).or op_cat))
theorem opl_add : OpL G (rAddAll G.K) oAdd := fun H S x y v u Q K sr rx ry k q => by
  unfold oAdd at q
  split at q
  · rename_i i j
    exact .inl ⟨i, j, rx, ry, k _ _ (ql_int sr q)⟩
  · rename_i i j
    exact .inr (.inl ⟨i, j, rx, ry, q.1, k _ _ (ql_str sr q.2)⟩)
  · rename_i xs ys
    obtain ⟨a, vs, rfl, ha, ra⟩ := rx
    obtain ⟨b, ws, rfl, hb, rb⟩ := ry
    have la := reps_length ra
    have lb := reps_length rb
    refine .inr (.inr (.inl ⟨a, b, vs, ws, rfl, rfl, ha, hb, by omega, fun e => ?_, fun _ e => ?_, fun _ _ p hp => ?_⟩))
    · subst e
      have : xs = [] := List.eq_nil_of_length_eq_zero (by simpa using la)
      subst this
      exact k _ _ (ql_pure (x := .tup ys) sr ⟨b, ws, rfl, hb, rb⟩ q.2)
    · subst e
      have : ys = [] := List.eq_nil_of_length_eq_zero (by simpa using lb)
      subst this
      exact k _ _ (ql_pure (x := .tup xs) sr ⟨a, vs, rfl, ha, ra⟩ (by simpa using q.2))
    · exact k _ _ (ql_tup sr hp (reps_append ra rb) q.2)
  · rename_i a b
    obtain ⟨xs, ys, ea, eb, hz, q⟩ := q
    obtain ⟨vs, ha, ra⟩ := lst_at sr ea
    obtain ⟨ws, hb, rb⟩ := lst_at sr eb
    have la := reps_length ra
    have lb := reps_length rb
    exact .inr (.inr (.inr ⟨a, b, vs, ws, rx, ry, ha, hb, by omega, fun p hp => k _ _ (ql_lst sr hp (reps_append ra rb) q)⟩))
  · exact q.elim
theorem je_add {a b : Expr} {wa wb : WE} {pos : Pos} (ha : JE G X a wa) (hb : JE G X b wb) (hK : X.K = G.K := by rfl) : JE G X (.BinOp a .Add b pos) (wOp oAdd wa wb) := je_op (op_addAll hK) opl_add ha hb

abbrev oSub : O2 := oI (fun _ _ => True) fun i j => .int (i - j)
theorem je_sub {a b : Expr} {wa wb : WE} {pos : Pos} (ha : JE G X a wa) (hb : JE G X b wb) : JE G X (.BinOp a .Sub b pos) (wOp oSub wa wb) := je_op op_sub (opl_I0 fun _ _ _ _ => rfl) ha hb
/-- together below a million bits, or one below 2^64 -/
def CM (i j : Int) : Prop := CMul i j ∨ CMulW i j
/-- * -/
def oMul : O2 := fun x y S Q => match x, y with
  | .int i, .int j => CM i j ∧ Q (.int (i * j)) S
  | .ref a, .int k => ∃ xs, S a = some (.lst xs) ∧ -(2 ^ 63) ≤ k ∧ k < 2 ^ 63 ∧ xs.length * k.toNat ≤ sizeLine ∧ ∀ p, S p = none → Q (.ref p) (supd S p (.lst (List.replicate k.toNat xs).flatten))
  | .tup xs, .int k => xs ≠ [] ∧ 2 ≤ k ∧ k ≤ 1000 ∧ xs.length ≤ 1000 ∧ Q (.tup (List.replicate k.toNat xs).flatten) S
  | _, _ => False
theorem reps_rep {K : PySem.W.Frag} {xs : List PV} {vs : List V} (r : Reps K H xs vs) : ∀ n : Nat, Reps K H (List.replicate n xs).flatten (List.replicate n vs).flatten
  | 0 => by simp [Reps]
  | n + 1 => by
    rw [List.replicate_succ, List.replicate_succ, List.flatten_cons, List.flatten_cons]
    exact reps_append r (reps_rep r n)
abbrev rMulAll (K : PySem.W.Frag) : R2 := fun x y H Q => rI CMul (fun i j => .int (i * j)) x y H Q ∨ (fun x y H Q => rI CMulW (fun i j => .int (i * j)) x y H Q ∨ (fun x y H Q => rRep x y H Q ∨ rRepT K x y H Q) x y H Q) x y H Q
theorem op_mulAll (hK : X.K = G.K) : OpR X (binaryOp .Mult) (rMulAll G.K) := op_mul.or (op_mulW.or (op_rep.or (hK ▸ op_repT)))
theorem opl_mul : OpL G (rMulAll G.K) oMul := fun H S x y v u Q K sr rx ry k q => by
  unfold oMul at q
  split at q
  · rename_i i j
    rcases q.1 with c | c
    · exact .inl ⟨i, j, rx, ry, c, k _ _ (ql_int sr q.2)⟩
    · exact .inr (.inl ⟨i, j, rx, ry, c, k _ _ (ql_int sr q.2)⟩)
  · rename_i a n
    obtain ⟨xs, ea, h1, h2, hz, q⟩ := q
    obtain ⟨vs, ha, ra⟩ := lst_at sr ea
    have la := reps_length ra
    exact .inr (.inr (.inl ⟨a, n, vs, rx, ry, ha, h1, h2, by rw [← la]; exact hz, fun p hp => k _ _ (ql_lst sr hp (reps_rep ra _) q)⟩))
  · rename_i xs n
    obtain ⟨h0, h1, h2, hz, q⟩ := q
    obtain ⟨a, vs, rfl, ha, ra⟩ := rx
    have la := reps_length ra
    refine .inr (.inr (.inr ⟨a, n, vs, rfl, ry, ha, fun e => h0 ?_, h1, h2, by omega, fun p hp => k _ _ (ql_tup sr hp (reps_rep ra _) q)⟩))
    subst e
    exact List.eq_nil_of_length_eq_zero (by simpa using la)
  · exact q.elim
theorem je_mul {a b : Expr} {wa wb : WE} {pos : Pos} (ha : JE G X a wa) (hb : JE G X b wb) (hK : X.K = G.K := by rfl) : JE G X (.BinOp a .Mult b pos) (wOp oMul wa wb) := je_op (op_mulAll hK) opl_mul ha hb
abbrev oFdiv : O2 := oI CDivW fun i j => .int (i / j)
theorem je_fdiv {a b : Expr} {wa wb : WE} {pos : Pos} (ha : JE G X a wa) (hb : JE G X b wb) : JE G X (.BinOp a .FloorDiv b pos) (wOp oFdiv wa wb) := je_op op_fdivW (opl_I fun _ _ _ _ => rfl) ha hb
abbrev oMod : O2 := oI (fun _ j => 0 < j) fun i j => .int (i % j)
theorem je_mod {a b : Expr} {wa wb : WE} {pos : Pos} (ha : JE G X a wa) (hb : JE G X b wb) : JE G X (.BinOp a .Mod b pos) (wOp oMod wa wb) := je_op op_mod (opl_I fun _ _ _ _ => rfl) ha hb
abbrev oPow : O2 := oI CPow fun i j => .int (i ^ j.toNat)
theorem je_pow {a b : Expr} {wa wb : WE} {pos : Pos} (ha : JE G X a wa) (hb : JE G X b wb) : JE G X (.BinOp a .Pow b pos) (wOp oPow wa wb) := je_op op_pow (opl_I fun _ _ _ _ => rfl) ha hb
abbrev oShl : O2 := oI CPow fun i j => .int (i * 2 ^ j.toNat)
theorem je_shl {a b : Expr} {wa wb : WE} {pos : Pos} (ha : JE G X a wa) (hb : JE G X b wb) : JE G X (.BinOp a .LShift b pos) (wOp oShl wa wb) := je_op op_shl (opl_I fun _ _ _ _ => rfl) ha hb
abbrev oShr : O2 := oI (fun _ j => 0 ≤ j) fun i j => .int (i / 2 ^ j.toNat)
theorem je_shr {a b : Expr} {wa wb : WE} {pos : Pos} (ha : JE G X a wa) (hb : JE G X b wb) : JE G X (.BinOp a .RShift b pos) (wOp oShr wa wb) := je_op op_shr (opl_I fun _ _ _ _ => rfl) ha hb
def oNeg : PV → Sto → KE → Prop := fun x S Q => match x with
  | .int i => Q (.int (-i)) S
  | _ => False
def wUn (o : PV → Sto → KE → Prop) (wa : WE) : WE := fun ε S Q E => wa ε S (fun x S1 => o x S1 Q) E
theorem je_neg {a : Expr} {wa : WE} {pos : Pos} (ha : JE G X a wa) : JE G X (.UnaryOp .USub a pos) (wUn oNeg wa) := ⟨fun ε S Q E w σ H re sr Wx tk ex => sE_of (pe_un un_neg pe_sE) (by
  refine sE_mono (ha.run ε S _ E w σ H re sr Wx tk ex) fun v H1 ⟨x, S1, s1, sr1, r1, w1⟩ => ?_
  dsimp only [oNeg] at w1
  split at w1
  · rename_i i
    exact ⟨i, r1, (ql_int sr1 w1).mono s1⟩
  · exact w1.elim)⟩

/-! ### comparisons -/
def oLt : O2 := fun x y S Q => match x, y with
  | .int i, .int j => Q (.bl (decide (i < j))) S
  | .str i, .str j => Q (.bl (decide (i.cps.toList < j.cps.toList))) S
  | .tup xs, .tup ys => ∃ ns ms : List Int, xs = ns.map PV.int ∧ ys = ms.map PV.int ∧ Q (.bl (HT.lexLt ns ms)) S
  | _, _ => False
abbrev rLtAll (K : PySem.W.Frag) : R2 := fun x y H Q => rI0 (fun i j => .bl (decide (i < j))) x y H Q ∨ (fun x y H Q => (fun x y H Q => ∃ i j, x = V.str i ∧ y = .str j ∧ Q (.bl (decide (i.cps.toList < j.cps.toList))) H) x y H Q ∨ rLtT K x y H Q) x y H Q
theorem op_ltAll (hK : X.K = G.K) (hu : X.A.units + 64 < cLine) : OpR X (compareOp .Lt) (rLtAll G.K) := op_lt.or (op_lt_str.or (hK ▸ op_ltT (Nat.lt_of_le_of_lt (Nat.le_add_right _ _) hu)))
theorem opl_lt : OpL G (rLtAll G.K) oLt := fun H S x y v u Q K sr rx ry k q => by
  unfold oLt at q
  split at q
  · rename_i i j
    exact .inl ⟨i, j, rx, ry, k _ _ (ql_bl sr q)⟩
  · rename_i i j
    exact .inr (.inl ⟨i, j, rx, ry, k _ _ (ql_bl sr q)⟩)
  · obtain ⟨ns, ms, rfl, rfl, q⟩ := q
    obtain ⟨a, vs, rfl, ha, ra⟩ := rx
    obtain ⟨b, ws, rfl, hb, rb⟩ := ry
    rw [reps_ints] at ra rb
    subst ra rb
    exact .inr (.inr ⟨a, b, ns, ms, rfl, rfl, ha, hb, k _ _ (ql_bl sr q)⟩)
  · exact q.elim
theorem je_lt {a b : Expr} {wa wb : WE} {pos : Pos} (hu : X.A.units + 64 < cLine) (ha : JE G X a wa) (hb : JE G X b wb) (hK : X.K = G.K := by rfl) : JE G X (.Compare a [.Lt] [b] pos) (wOp oLt wa wb) := je_cmp (op_ltAll hK hu) opl_lt ha hb (nomark _)
abbrev oLe : O2 := oI (fun _ _ => True) fun i j => .bl (decide (i ≤ j))
abbrev oGt : O2 := oI (fun _ _ => True) fun i j => .bl (decide (j < i))
abbrev oGe : O2 := oI (fun _ _ => True) fun i j => .bl (decide (j ≤ i))
theorem je_le {a b : Expr} {wa wb : WE} {pos : Pos} (ha : JE G X a wa) (hb : JE G X b wb) : JE G X (.Compare a [.LtE] [b] pos) (wOp oLe wa wb) := je_cmp op_le (opl_I0 fun _ _ _ _ => rfl) ha hb (nomark _)
theorem je_gt {a b : Expr} {wa wb : WE} {pos : Pos} (ha : JE G X a wa) (hb : JE G X b wb) : JE G X (.Compare a [.Gt] [b] pos) (wOp oGt wa wb) := je_cmp op_gt (opl_I0 fun _ _ _ _ => rfl) ha hb (nomark _)
theorem je_ge {a b : Expr} {wa wb : WE} {pos : Pos} (ha : JE G X a wa) (hb : JE G X b wb) : JE G X (.Compare a [.GtE] [b] pos) (wOp oGe wa wb) := je_cmp op_ge (opl_I0 fun _ _ _ _ => rfl) ha hb (nomark _)

/-! ### == -/
mutual
inductive Dat (S : Sto) : PV → PyData → Prop
  | non : Dat S .non .none
  | bl (b : Bool) : Dat S (.bl b) (.bool b)
  | int (i : Int) : Dat S (.int i) (.int i)
  | str (x : Str) : Dat S (.str x) (.str x)
  | tup {xs : List PV} {ds : List PyData} : Dats S xs ds → Dat S (.tup xs) (.tuple ds)
  | lst {a : Addr} {xs : List PV} {ds : List PyData} : RdL S a xs → Dats S xs ds → Dat S (.ref a) (.list ds)
inductive Dats (S : Sto) : List PV → List PyData → Prop
  | nil : Dats S [] []
  | cons {x : PV} {xs : List PV} {d : PyData} {ds : List PyData} : Dat S x d → Dats S xs ds → Dats S (x :: xs) (d :: ds)
end
mutual
theorem Dat.dp (sr : SR G H S) : ∀ (d : PyData) (x : PV) (v : V), Dat S x d → Rep G.K H x v → Dp G.K H v d
  | .none, _, _, h, r => by cases h; cases r; exact .non
  | .bool b, _, _, h, r => by cases h; cases r; exact .bl b
  | .int i, _, _, h, r => by cases h; cases r; exact .int i
  | .str x, _, _, h, r => by cases h; cases r; exact .str x
  | .tuple ds, _, _, h, r => by
    cases h with
    | tup hs =>
      obtain ⟨a, vs, rfl, ha, ra⟩ := r
      exact .tup ha (Dats.dp sr ds _ _ hs ra)
  | .list ds, _, _, h, r => by
    cases h with
    | lst he hs =>
      cases r
      obtain ⟨vs, ha, ra⟩ := rdl_at sr he
      exact .lst ha (Dats.dp sr ds _ _ hs ra)
  | .dict _, _, _, h, _ => by cases h
theorem Dats.dp (sr : SR G H S) : ∀ (ds : List PyData) (xs : List PV) (vs : List V), Dats S xs ds → Reps G.K H xs vs → DpAll G.K H vs ds
  | [], _, _, h, r => by cases h; cases r; exact .nil
  | d :: ds, _, _, h, r => by
    cases h with
    | cons h1 h2 =>
      obtain ⟨v, ws, rfl, r1, r2⟩ := r
      exact .cons (Dat.dp sr d _ _ h1 r1) (Dats.dp sr ds _ _ h2 r2)
end
/-- x == y, or its contrary -/
def oEqN (neg : Bool) : O2 := fun x y S Q => match x, y with
  | .int i, .int j => Q (.bl (neg ^^ decide (i = j))) S
  | .str i, .str j => Q (.bl (neg ^^ decide (i = j))) S
  | .bl i, .bl j => Q (.bl (neg ^^ decide (i = j))) S
  | x, y => ∃ d e, Dat S x d ∧ Dat S y e ∧ SeqAt.shaped d = true ∧ SeqAt.shaped e = true ∧ Q (.bl (neg ^^ PyData.eqv d e)) S
abbrev oEq : O2 := oEqN false
abbrev oNe : O2 := oEqN true
abbrev rEqAll (K : PySem.W.Frag) : R2 := fun x y H Q => rEq x y H Q ∨ rEqD K x y H Q
abbrev rNeAll (K : PySem.W.Frag) : R2 := fun x y H Q => rNe x y H Q ∨ rNeD K x y H Q
theorem opl_eq : OpL G (rEqAll G.K) oEq := fun H S x y v u Q K sr rx ry k q => by
  unfold oEq oEqN at q
  split at q
  · rename_i i j
    cases rx; cases ry
    exact .inl ⟨rfl, k _ _ (ql_bl sr (by rw [dec_int]; rw [Bool.beq_eq_decide_eq]; simpa using q))⟩
  · rename_i i j
    cases rx; cases ry
    exact .inl ⟨rfl, k _ _ (ql_bl sr (by rw [dec_str]; rw [Bool.beq_eq_decide_eq]; simpa using q))⟩
  · rename_i i j
    cases rx; cases ry
    exact .inl ⟨rfl, k _ _ (ql_bl sr (by rw [dec_bl]; rw [Bool.beq_eq_decide_eq]; simpa using q))⟩
  · obtain ⟨d, e, hd, he, sd, se, q⟩ := q
    exact .inr ⟨d, e, Dat.dp sr d _ _ hd rx, Dat.dp sr e _ _ he ry, sd, se, k _ _ (ql_bl sr (by simpa using q))⟩
theorem opl_ne : OpL G (rNeAll G.K) oNe := fun H S x y v u Q K sr rx ry k q => by
  unfold oNe oEqN at q
  split at q
  · rename_i i j
    cases rx; cases ry
    exact .inl ⟨rfl, k _ _ (ql_bl sr (by rw [dec_int]; rw [Bool.beq_eq_decide_eq]; simpa using q))⟩
  · rename_i i j
    cases rx; cases ry
    exact .inl ⟨rfl, k _ _ (ql_bl sr (by rw [dec_str]; rw [Bool.beq_eq_decide_eq]; simpa using q))⟩
  · rename_i i j
    cases rx; cases ry
    exact .inl ⟨rfl, k _ _ (ql_bl sr (by rw [dec_bl]; rw [Bool.beq_eq_decide_eq]; simpa using q))⟩
  · obtain ⟨d, e, hd, he, sd, se, q⟩ := q
    exact .inr ⟨d, e, Dat.dp sr d _ _ hd rx, Dat.dp sr e _ _ he ry, sd, se, k _ _ (ql_bl sr (by simpa using q))⟩
theorem je_eq {a b : Expr} {wa wb : WE} {pos : Pos} (hu : X.A.units + 64 < cLine) (ha : JE G X a wa) (hb : JE G X b wb) (hK : X.K = G.K := by rfl) : JE G X (.Compare a [.Eq] [b] pos) (wOp oEq wa wb) := je_cmp (op_eq.or (hK ▸ op_eqD hu)) opl_eq ha hb (nomark _)
theorem je_ne {a b : Expr} {wa wb : WE} {pos : Pos} (hu : X.A.units + 64 < cLine) (ha : JE G X a wa) (hb : JE G X b wb) (hK : X.K = G.K := by rfl) : JE G X (.Compare a [.NotEq] [b] pos) (wOp oNe wa wb) := je_cmp (op_ne.or (hK ▸ op_neD hu)) opl_ne ha hb (nomark _)
/-- is, is not: of None, of bools -/
def isNon : PV → Bool
  | .non => true
  | _ => false
theorem isNon_eq {K : PySem.W.Frag} {x : PV} {v : V} (r : Rep K H x v) : decide (v = .non) = isNon x := by
  cases x with
  | non => cases r; rfl
  | bl _ => cases r; rfl
  | int _ => cases r; rfl
  | str _ => cases r; rfl
  | ref _ => cases r; rfl
  | ty _ => cases r; rfl
  | tup _ => obtain ⟨a, vs, rfl, _⟩ := r; rfl
def oIsN (neg : Bool) : O2 := fun x y S Q => match y with
  | .non => Q (.bl (neg ^^ isNon x)) S
  | .bl b => ∃ a, x = .bl a ∧ Q (.bl (neg ^^ decide (a = b))) S
  | _ => False
abbrev oIs : O2 := oIsN false
abbrev oIsNot : O2 := oIsN true
theorem opl_is : OpL G (fun x y H Q => (y = .non ∧ Q (.bl (decide (x = .non))) H) ∨ rIsB x y H Q) oIs := fun H S x y v u Q K sr rx ry k q => by
  unfold oIs oIsN at q
  split at q
  · cases ry
    exact .inl ⟨rfl, k _ _ (ql_bl sr (by rw [isNon_eq rx]; simpa using q))⟩
  · rename_i b
    obtain ⟨a, rfl, q⟩ := q
    cases rx; cases ry
    exact .inr ⟨a, b, rfl, rfl, k _ _ (ql_bl sr (by simpa using q))⟩
  · exact q.elim
theorem opl_isnot : OpL G (fun x y H Q => (y = .non ∧ Q (.bl (!decide (x = .non))) H) ∨ rNotB x y H Q) oIsNot := fun H S x y v u Q K sr rx ry k q => by
  unfold oIsNot oIsN at q
  split at q
  · cases ry
    exact .inl ⟨rfl, k _ _ (ql_bl sr (by rw [isNon_eq rx]; simpa using q))⟩
  · rename_i b
    obtain ⟨a, rfl, q⟩ := q
    cases rx; cases ry
    exact .inr ⟨a, b, rfl, rfl, k _ _ (ql_bl sr (by simpa using q))⟩
  · exact q.elim
theorem je_is {a b : Expr} {wa wb : WE} {pos : Pos} (ha : JE G X a wa) (hb : JE G X b wb) : JE G X (.Compare a [.Is] [b] pos) (wOp oIs wa wb) := je_cmp (op_isN.or op_isBl) opl_is ha hb (nomark _)
theorem je_isnot {a b : Expr} {wa wb : WE} {pos : Pos} (ha : JE G X a wa) (hb : JE G X b wb) : JE G X (.Compare a [.IsNot] [b] pos) (wOp oIsNot wa wb) := je_cmp (op_notN.or op_notBl) opl_isnot ha hb (nomark _)
end
end L3

set_option Elab.async false
set_option linter.all false
set_option maxRecDepth 100000
set_option maxHeartbeats 4000000
namespace L3
open PySem PySem.Spec L2
open PyProof.Rows hiding St
section
variable {G : Gd} {X : Cx} {H H1 : Hp} {S S1 : Sto} {σ : L2.St} {ε : PEnv}
theorem JE.dn {e : Expr} {w : WE} (h : JE G X e w) {Q : KE} {E : KX} {K : VK} (q : w ε S Q E) (re : Renv G.K H ε σ) (sr : SR G H S) {Wx : WX} (tk : Takes X Wx) (ex : ExL G S H σ E Wx) (k : ∀ v H', QL G S H Q v H' → K v H') : sE X e σ H K :=
  sE_mono (h.run ε S Q E q σ H re sr Wx tk ex) k
theorem JT.dn {e : Expr} {w : WT} (h : JT G X e w) {Q : Bool → Sto → Prop} {E : KX} {K : Bool → Hp → Prop} (q : w ε S Q E) (re : Renv G.K H ε σ) (sr : SR G H S) {Wx : WX} (tk : Takes X Wx) (ex : ExL G S H σ E Wx) (k : ∀ v H', QT G S H Q v H' → K v H') : sT X e σ H K :=
  sT_mono (h.run ε S Q E q σ H re sr Wx tk ex) k
theorem JW.dn {e : Expr} {w : WT} (h : JW G X e w) {Q : Bool → Sto → Prop} {E : KX} {K : Bool → Hp → Prop} (q : w ε S Q E) (re : Renv G.K H ε σ) (sr : SR G H S) {Wx : WX} (tk : Takes X Wx) (ex : ExL G S H σ E Wx) (k : ∀ v H', QT G S H Q v H' → K v H') : sW X e σ H K :=
  sW_mono (h.run ε S Q E q σ H re sr Wx tk ex) k
theorem JA.dn {e : List Expr} {w : WA} (h : JA G X e w) {Q : List PV → Sto → Prop} {E : KX} {K : List V → Hp → Prop} (q : w ε S Q E) (re : Renv G.K H ε σ) (sr : SR G H S) {Wx : WX} (tk : Takes X Wx) (ex : ExL G S H σ E Wx) (k : ∀ v H', QA G S H Q v H' → K v H') : sA X e σ H K :=
  sA_mono (h.run ε S Q E q σ H re sr Wx tk ex) k
/-- drop what is no longer needed -/
def wD (w : WE) : WE := fun ε S Q E => w ε S (fun x S1 => ∃ S2, Sub S2 S1 ∧ Q x S2) E
theorem je_d {e : Expr} {w : WE} (h : JE G X e w) : JE G X e (wD w) := ⟨fun ε S Q E q σ H re sr Wx tk ex => h.dn q re sr tk ex fun v H' ⟨x, S1, s1, sr1, r, S2, sb, q2⟩ => ⟨x, S2, s1.sub sb, sr1.sub sb, r, q2⟩⟩

/-! ### tests -/
/-- a comparison's answer as a test -/
def wTest (w : WE) : WT := fun ε S Q E => w ε S (fun x S1 => match x with
  | .bl b => Q b S1
  | _ => False) E
theorem test_end {Q : Bool → Sto → Prop} {v : V} {H' : Hp} (q : QL G S H (fun x S1 => match x with
  | .bl b => Q b S1
  | _ => False) v H') : ∃ k, v = .bl k ∧ QT G S H Q k H' := by
  obtain ⟨x, S1, s1, sr1, r, q⟩ := q
  split at q
  · exact ⟨_, r, S1, s1, sr1, q⟩
  · exact q.elim
theorem jt_cmp {a b : Expr} {wa wb : WE} {op : CmpOp} {r : R2} {o : O2} {pos : Pos} (ho : OpR X (compareOp op) r) (L : OpL G r o) (ha : JE G X a wa) (hb : JE G X b wb) (hm : behindInMarks op b = false) : JT G X (.Compare a [op] [b] pos) (wTest (wOp o wa wb)) :=
  ⟨fun ε S Q E w σ H re sr Wx tk ex => sT_of (pt_cmpR ho pe_sE pe_sE hm) (by
    refine ha.dn w re sr tk ex fun v H1 ⟨x, S1, s1, sr1, r1, w1⟩ => ?_
    refine hb.dn w1 (re.stay s1.st) sr1 tk (ex.mono s1) fun u H2 ⟨y, S2, s2, sr2, r2, w2⟩ => ?_
    exact L H2 S2 x y v u _ _ sr2 (rep_stay s2.st _ _ r1) r2 (fun v H' q => test_end (q.mono (s1.trans s2))) w2)⟩
theorem jt_lt {a b : Expr} {wa wb : WE} {pos : Pos} (hu : X.A.units + 64 < cLine) (ha : JE G X a wa) (hb : JE G X b wb) (hK : X.K = G.K := by rfl) : JT G X (.Compare a [.Lt] [b] pos) (wTest (wOp oLt wa wb)) := jt_cmp (op_ltAll hK hu) opl_lt ha hb (nomark _)
theorem jt_le {a b : Expr} {wa wb : WE} {pos : Pos} (ha : JE G X a wa) (hb : JE G X b wb) : JT G X (.Compare a [.LtE] [b] pos) (wTest (wOp oLe wa wb)) := jt_cmp op_le (opl_I0 fun _ _ _ _ => rfl) ha hb (nomark _)
theorem jt_gt {a b : Expr} {wa wb : WE} {pos : Pos} (ha : JE G X a wa) (hb : JE G X b wb) : JT G X (.Compare a [.Gt] [b] pos) (wTest (wOp oGt wa wb)) := jt_cmp op_gt (opl_I0 fun _ _ _ _ => rfl) ha hb (nomark _)
theorem jt_ge {a b : Expr} {wa wb : WE} {pos : Pos} (ha : JE G X a wa) (hb : JE G X b wb) : JT G X (.Compare a [.GtE] [b] pos) (wTest (wOp oGe wa wb)) := jt_cmp op_ge (opl_I0 fun _ _ _ _ => rfl) ha hb (nomark _)
theorem jt_eq {a b : Expr} {wa wb : WE} {pos : Pos} (hu : X.A.units + 64 < cLine) (ha : JE G X a wa) (hb : JE G X b wb) (hK : X.K = G.K := by rfl) : JT G X (.Compare a [.Eq] [b] pos) (wTest (wOp oEq wa wb)) := jt_cmp (op_eq.or (hK ▸ op_eqD hu)) opl_eq ha hb (nomark _)
theorem jt_ne {a b : Expr} {wa wb : WE} {pos : Pos} (hu : X.A.units + 64 < cLine) (ha : JE G X a wa) (hb : JE G X b wb) (hK : X.K = G.K := by rfl) : JT G X (.Compare a [.NotEq] [b] pos) (wTest (wOp oNe wa wb)) := jt_cmp (op_ne.or (hK ▸ op_neD hu)) opl_ne ha hb (nomark _)
theorem jt_is {a b : Expr} {wa wb : WE} {pos : Pos} (ha : JE G X a wa) (hb : JE G X b wb) : JT G X (.Compare a [.Is] [b] pos) (wTest (wOp oIs wa wb)) := jt_cmp (op_isN.or op_isBl) opl_is ha hb (nomark _)
theorem jt_isnot {a b : Expr} {wa wb : WE} {pos : Pos} (ha : JE G X a wa) (hb : JE G X b wb) : JT G X (.Compare a [.IsNot] [b] pos) (wTest (wOp oIsNot wa wb)) := jt_cmp (op_notN.or op_notBl) opl_isnot ha hb (nomark _)
/-- a < b < c -/
def wChain (o o' : O2) (wa wb wc : WE) : WE := fun ε S Q E => wa ε S (fun x S1 => wb ε S1 (fun y S2 => o x y S2 (fun z S3 => match z with
  | .bl true => wc ε S3 (fun u S4 => o' y u S4 Q) E
  | .bl false => Q (.bl false) S3
  | _ => False)) E) E
theorem chain_dn {a b c : Expr} {wa wb wc : WE} {r r' : R2} {o o' : O2} (L : OpL G r o) (L' : OpL G r' o') (ha : JE G X a wa) (hb : JE G X b wb) (hc : JE G X c wc) {Q : KE} {E : KX} {K : VK} (w : wChain o o' wa wb wc ε S Q E) (re : Renv G.K H ε σ) (sr : SR G H S)
    {Wx : WX} (tk : Takes X Wx) (ex : ExL G S H σ E Wx) (k : ∀ v H', QL G S H Q v H' → K v H') : tChain r r' (sE X a) (sE X b) (sE X c) σ H K := by
  refine ha.dn w re sr tk ex fun v H1 ⟨x, S1, s1, sr1, r1, w1⟩ => ?_
  refine hb.dn w1 (re.stay s1.st) sr1 tk (ex.mono s1) fun u H2 ⟨y, S2, s2, sr2, r2, w2⟩ => ?_
  refine L H2 S2 x y v u _ _ sr2 (rep_stay s2.st _ _ r1) r2 (fun z H3 ⟨zz, S3, s3, sr3, r3, w3⟩ => ?_) w2
  dsimp only at w3
  split at w3
  · refine ⟨true, r3, ?_⟩
    rw [if_pos rfl]
    have s12 := (s1.trans s2).trans s3
    refine hc.dn w3 (re.stay s12.st) sr3 tk (ex.mono s12) fun t H4 ⟨q, S4, s4, sr4, r4, w4⟩ => ?_
    exact L' H4 S4 y q u t _ _ sr4 (rep_stay (s3.trans s4).st _ _ r2) r4 (fun v H' q => k _ _ (q.mono (s12.trans s4))) w4
  · refine ⟨false, r3, ?_⟩
    rw [if_neg Bool.false_ne_true]
    exact k _ _ ((ql_bl sr3 w3).mono ((s1.trans s2).trans s3))
  · exact w3.elim
theorem je_chain {a b c : Expr} {wa wb wc : WE} {op op' : CmpOp} {r r' : R2} {o o' : O2} {pos : Pos} (ho : OpR X (compareOp op) r) (ho' : OpR X (compareOp op') r') (L : OpL G r o) (L' : OpL G r' o') (ha : JE G X a wa) (hb : JE G X b wb) (hc : JE G X c wc)
    (hm : lastMarks [op, op'] [b, c] = false := by with_unfolding_all rfl) : JE G X (.Compare a [op, op'] [b, c] pos) (wChain o o' wa wb wc) :=
  ⟨fun ε S Q E w σ H re sr Wx tk ex => sE_of (pe_chain ho ho' pe_sE pe_sE pe_sE hm) (chain_dn L L' ha hb hc w re sr tk ex fun _ _ q => q)⟩
theorem jt_chain {a b c : Expr} {wa wb wc : WE} {op op' : CmpOp} {r r' : R2} {o o' : O2} {pos : Pos} (ho : OpR X (compareOp op) r) (ho' : OpR X (compareOp op') r') (L : OpL G r o) (L' : OpL G r' o') (ha : JE G X a wa) (hb : JE G X b wb) (hc : JE G X c wc)
    (hm : lastMarks [op, op'] [b, c] = false := by with_unfolding_all rfl) : JT G X (.Compare a [op, op'] [b, c] pos) (wTest (wChain o o' wa wb wc)) :=
  ⟨fun ε S Q E w σ H re sr Wx tk ex => sT_of (pt_chain ho ho' pe_sE pe_sE pe_sE hm) (chain_dn L L' ha hb hc w re sr tk ex fun _ _ q => test_end q)⟩
theorem je_lele {a b c : Expr} {wa wb wc : WE} {pos : Pos} (ha : JE G X a wa) (hb : JE G X b wb) (hc : JE G X c wc) (hm : lastMarks [CmpOp.LtE, CmpOp.LtE] [b, c] = false := by with_unfolding_all rfl) : JE G X (.Compare a [.LtE, .LtE] [b, c] pos) (wChain oLe oLe wa wb wc) :=
  je_chain op_le op_le (opl_I0 fun _ _ _ _ => rfl) (opl_I0 fun _ _ _ _ => rfl) ha hb hc hm
theorem jt_lele {a b c : Expr} {wa wb wc : WE} {pos : Pos} (ha : JE G X a wa) (hb : JE G X b wb) (hc : JE G X c wc) (hm : lastMarks [CmpOp.LtE, CmpOp.LtE] [b, c] = false := by with_unfolding_all rfl) : JT G X (.Compare a [.LtE, .LtE] [b, c] pos) (wTest (wChain oLe oLe wa wb wc)) :=
  jt_chain op_le op_le (opl_I0 fun _ _ _ _ => rfl) (opl_I0 fun _ _ _ _ => rfl) ha hb hc hm
theorem je_lelt {a b c : Expr} {wa wb wc : WE} {pos : Pos} (hu : X.A.units + 64 < cLine) (ha : JE G X a wa) (hb : JE G X b wb) (hc : JE G X c wc) (hm : lastMarks [CmpOp.LtE, CmpOp.Lt] [b, c] = false := by with_unfolding_all rfl) (hK : X.K = G.K := by rfl) : JE G X (.Compare a [.LtE, .Lt] [b, c] pos) (wChain oLe oLt wa wb wc) :=
  je_chain op_le (op_ltAll hK hu) (opl_I0 fun _ _ _ _ => rfl) opl_lt ha hb hc hm
theorem jt_lelt {a b c : Expr} {wa wb wc : WE} {pos : Pos} (hu : X.A.units + 64 < cLine) (ha : JE G X a wa) (hb : JE G X b wb) (hc : JE G X c wc) (hm : lastMarks [CmpOp.LtE, CmpOp.Lt] [b, c] = false := by with_unfolding_all rfl) (hK : X.K = G.K := by rfl) : JT G X (.Compare a [.LtE, .Lt] [b, c] pos) (wTest (wChain oLe oLt wa wb wc)) :=
  jt_chain op_le (op_ltAll hK hu) (opl_I0 fun _ _ _ _ => rfl) opl_lt ha hb hc hm
theorem je_ltle {a b c : Expr} {wa wb wc : WE} {pos : Pos} (hu : X.A.units + 64 < cLine) (ha : JE G X a wa) (hb : JE G X b wb) (hc : JE G X c wc) (hm : lastMarks [CmpOp.Lt, CmpOp.LtE] [b, c] = false := by with_unfolding_all rfl) (hK : X.K = G.K := by rfl) : JE G X (.Compare a [.Lt, .LtE] [b, c] pos) (wChain oLt oLe wa wb wc) :=
  je_chain (op_ltAll hK hu) op_le opl_lt (opl_I0 fun _ _ _ _ => rfl) ha hb hc hm
theorem jt_ltle {a b c : Expr} {wa wb wc : WE} {pos : Pos} (hu : X.A.units + 64 < cLine) (ha : JE G X a wa) (hb : JE G X b wb) (hc : JE G X c wc) (hm : lastMarks [CmpOp.Lt, CmpOp.LtE] [b, c] = false := by with_unfolding_all rfl) (hK : X.K = G.K := by rfl) : JT G X (.Compare a [.Lt, .LtE] [b, c] pos) (wTest (wChain oLt oLe wa wb wc)) :=
  jt_chain (op_ltAll hK hu) op_le opl_lt (opl_I0 fun _ _ _ _ => rfl) ha hb hc hm
/-- truth -/
def oTru : PV → Sto → (Bool → Sto → Prop) → Prop := fun x S Q => match x with
  | .non => Q false S
  | .bl b => Q b S
  | .int i => Q (i != 0) S
  | .str y => y.length ≤ sizeLine ∧ Q ((y.length : Int) != 0) S
  | .tup xs => Q (!xs.isEmpty) S
  | .ref a => (∃ xs, RdL S a xs ∧ Q (!xs.isEmpty) S) ∨ ∃ kvs, S a = some (.dct kvs) ∧ Q (!kvs.isEmpty) S
  | _ => False
theorem isEmpty_reps {K : PySem.W.Frag} {xs : List PV} {vs : List V} (r : Reps K H xs vs) : xs.isEmpty = vs.isEmpty := by
  have h := reps_length r
  cases xs <;> cases vs <;> simp_all
theorem isEmpty_repKV {K : PySem.W.Frag} : ∀ {xs : List (Key × PV)} {vs : List (Key × V)}, RepKV K H xs vs → xs.isEmpty = vs.isEmpty
  | [], _, h => by cases h; rfl
  | (k, x) :: xs, _, h => by obtain ⟨v, ws, rfl, _, _⟩ := h; rfl
theorem tru_dn {x : PV} {v : V} {Q : Bool → Sto → Prop} (sr : SR G H S) (r : Rep G.K H x v) (q : oTru x S Q) : ∃ k, TruV G.K v H k ∧ QT G S H Q k H := by
  unfold oTru at q
  split at q
  · cases r; exact ⟨false, rfl, S, .refl _ _, sr, q⟩
  · rename_i b; cases r; exact ⟨b, rfl, S, .refl _ _, sr, q⟩
  · rename_i i; cases r; exact ⟨_, rfl, S, .refl _ _, sr, q⟩
  · rename_i y; cases r; exact ⟨_, ⟨q.1, rfl⟩, S, .refl _ _, sr, q.2⟩
  · rename_i xs
    obtain ⟨a, vs, rfl, ha, ra⟩ := r
    exact ⟨_, .inr (.inl ⟨vs, ha, rfl⟩), S, .refl _ _, sr, by rw [← isEmpty_reps ra]; exact q⟩
  · rename_i a
    cases r
    rcases q with ⟨xs, e, q⟩ | ⟨kvs, e, q⟩
    · obtain ⟨vs, ha, ra⟩ := rdl_at sr e
      exact ⟨_, .inl ⟨vs, ha, rfl⟩, S, .refl _ _, sr, by rw [← isEmpty_reps ra]; exact q⟩
    · obtain ⟨es, ha, ra⟩ := sr.ok a _ e
      exact ⟨_, .inr (.inr ⟨es, ha, rfl⟩), S, .refl _ _, sr, by rw [← isEmpty_repKV ra]; exact q⟩
  · exact q.elim
def wTru (w : WE) : WT := fun ε S Q E => w ε S (fun x S1 => oTru x S1 Q) E
theorem jt_tru {a : Expr} {wa : WE} (ha : JE G X a wa) (he : ∀ whole, isTrue a X.env whole = (do let v ← whole; standAt a.pos; holding [v] (truthy v)) := by intro _; rfl) (hK : X.K = G.K := by rfl) : JT G X a (wTru wa) :=
  ⟨fun ε S Q E w σ H re sr Wx tk ex => sT_of (pt_truth pe_sE he) (by
    refine ha.dn w re sr tk ex fun v H1 ⟨x, S1, s1, sr1, r1, w1⟩ => ?_
    obtain ⟨k, h1, h2⟩ := tru_dn sr1 r1 w1
    exact ⟨k, hK ▸ h1, h2.mono s1⟩)⟩
def wNot (w : WT) : WT := fun ε S Q E => w ε S (fun b S1 => Q (!b) S1) E
theorem jt_not {a : Expr} {wa : WT} {pos : Pos} (ha : JT G X a wa) : JT G X (.UnaryOp .Not a pos) (wNot wa) :=
  ⟨fun ε S Q E w σ H re sr Wx tk ex => sT_of (pt_not pt_sT) (ha.dn w re sr tk ex fun _ _ ⟨S1, s1, sr1, q⟩ => ⟨S1, s1, sr1, q⟩)⟩
def wAnd (wa wb : WT) : WT := fun ε S Q E => wa ε S (fun b S1 => if b = true then wb ε S1 Q E else Q false S1) E
def wOr (wa wb : WT) : WT := fun ε S Q E => wa ε S (fun b S1 => if b = true then Q true S1 else wb ε S1 Q E) E
theorem jw_and1 {a : Expr} {wa : WT} {pos : Pos} (ha : JT G X a wa) : JW G X (.BoolOp .And [a] pos) wa := ⟨fun ε S Q E w σ H re sr Wx tk ex => sW_of (pw_and1 pt_sT) (ha.run ε S Q E w σ H re sr Wx tk ex)⟩
theorem jw_or1 {a : Expr} {wa : WT} {pos : Pos} (ha : JT G X a wa) : JW G X (.BoolOp .Or [a] pos) wa := ⟨fun ε S Q E w σ H re sr Wx tk ex => sW_of (pw_or1 pt_sT) (ha.run ε S Q E w σ H re sr Wx tk ex)⟩
theorem jw_and {a b : Expr} {rest : List Expr} {wa wb : WT} {pos : Pos} (ha : JT G X a wa) (hb : JW G X (.BoolOp .And (b :: rest) pos) wb) : JW G X (.BoolOp .And (a :: b :: rest) pos) (wAnd wa wb) :=
  ⟨fun ε S Q E w σ H re sr Wx tk ex => sW_of (pw_and pt_sT pw_sW) (by
    refine ha.dn w re sr tk ex fun b H1 ⟨S1, s1, sr1, q⟩ => ?_
    cases b with
    | true => exact hb.dn q (re.stay s1.st) sr1 tk (ex.mono s1) fun _ _ q => q.mono s1
    | false => exact ⟨S1, s1, sr1, q⟩)⟩
theorem jw_or {a b : Expr} {rest : List Expr} {wa wb : WT} {pos : Pos} (ha : JT G X a wa) (hb : JW G X (.BoolOp .Or (b :: rest) pos) wb) : JW G X (.BoolOp .Or (a :: b :: rest) pos) (wOr wa wb) :=
  ⟨fun ε S Q E w σ H re sr Wx tk ex => sW_of (pw_or pt_sT pw_sW) (by
    refine ha.dn w re sr tk ex fun b H1 ⟨S1, s1, sr1, q⟩ => ?_
    cases b with
    | false => exact hb.dn q (re.stay s1.st) sr1 tk (ex.mono s1) fun _ _ q => q.mono s1
    | true => exact ⟨S1, s1, sr1, q⟩)⟩
theorem jt_w {a : Expr} {wa : WT} (ha : JW G X a wa) : JT G X a wa := ⟨fun ε S Q E w σ H re sr Wx tk ex => fun pins s I => ha.run ε S Q E w σ H re sr Wx tk ex _ pins s I⟩
/-- and, or, not as values -/
def wAndV (wa wb : WE) : WE := fun ε S Q E => wa ε S (fun x S1 => oTru x S1 fun b S2 => if b = true then wb ε S2 Q E else Q x S2) E
def wOrV (wa wb : WE) : WE := fun ε S Q E => wa ε S (fun x S1 => oTru x S1 fun b S2 => if b = true then Q x S2 else wb ε S2 Q E) E
def wNotV (wa : WE) : WE := fun ε S Q E => wa ε S (fun x S1 => oTru x S1 fun b S2 => Q (.bl (!b)) S2) E
theorem je_one {op : BoolOp} {a : Expr} {wa : WE} {pos : Pos} (ha : JE G X a wa) : JE G X (.BoolOp op [a] pos) wa := ⟨fun ε S Q E w σ H re sr Wx tk ex => sE_of (pe_one pe_sE) (ha.run ε S Q E w σ H re sr Wx tk ex)⟩
theorem je_and {a b : Expr} {rest : List Expr} {wa wb : WE} {pos : Pos} (ha : JE G X a wa) (hb : JE G X (.BoolOp .And (b :: rest) pos) wb) (hK : X.K = G.K := by rfl) : JE G X (.BoolOp .And (a :: b :: rest) pos) (wAndV wa wb) :=
  ⟨fun ε S Q E w σ H re sr Wx tk ex => sE_of (pe_andT pe_sE pe_sE) (by
    refine ha.dn w re sr tk ex fun v H1 ⟨x, S1, s1, sr1, r1, w1⟩ => ?_
    obtain ⟨k, h1, S2, s2, sr2, q⟩ := tru_dn sr1 r1 w1
    refine ⟨k, hK ▸ h1, ?_⟩
    cases k with
    | true => exact hb.dn q (re.stay (s1.trans s2).st) sr2 tk (ex.mono (s1.trans s2)) fun _ _ q => q.mono (s1.trans s2)
    | false => exact ⟨x, S2, s1.trans s2, sr2, r1, q⟩)⟩
theorem je_or {a b : Expr} {rest : List Expr} {wa wb : WE} {pos : Pos} (ha : JE G X a wa) (hb : JE G X (.BoolOp .Or (b :: rest) pos) wb) (hK : X.K = G.K := by rfl) : JE G X (.BoolOp .Or (a :: b :: rest) pos) (wOrV wa wb) :=
  ⟨fun ε S Q E w σ H re sr Wx tk ex => sE_of (pe_orT pe_sE pe_sE) (by
    refine ha.dn w re sr tk ex fun v H1 ⟨x, S1, s1, sr1, r1, w1⟩ => ?_
    obtain ⟨k, h1, S2, s2, sr2, q⟩ := tru_dn sr1 r1 w1
    refine ⟨k, hK ▸ h1, ?_⟩
    cases k with
    | false => exact hb.dn q (re.stay (s1.trans s2).st) sr2 tk (ex.mono (s1.trans s2)) fun _ _ q => q.mono (s1.trans s2)
    | true => exact ⟨x, S2, s1.trans s2, sr2, r1, q⟩)⟩
theorem je_not {a : Expr} {wa : WE} {pos : Pos} (ha : JE G X a wa) (hK : X.K = G.K := by rfl) : JE G X (.UnaryOp .Not a pos) (wNotV wa) :=
  ⟨fun ε S Q E w σ H re sr Wx tk ex => sE_of (pe_notT pe_sE) (by
    refine ha.dn w re sr tk ex fun v H1 ⟨x, S1, s1, sr1, r1, w1⟩ => ?_
    obtain ⟨k, h1, S2, s2, sr2, q⟩ := tru_dn sr1 r1 w1
    exact ⟨k, hK ▸ h1, (ql_bl (Q := Q) sr2 q).mono (s1.trans s2)⟩)⟩
def wIfE (wt : WT) (wa wb : WE) : WE := fun ε S Q E => wt ε S (fun b S1 => if b = true then wa ε S1 Q E else wb ε S1 Q E) E
theorem je_if {t a b : Expr} {wt : WT} {wa wb : WE} {pos : Pos} (ht : JT G X t wt) (ha : JE G X a wa) (hb : JE G X b wb) : JE G X (.IfExp t a b pos) (wIfE wt wa wb) :=
  ⟨fun ε S Q E w σ H re sr Wx tk ex => sE_of (pe_ifExp pt_sT pe_sE pe_sE) (by
    refine ht.dn w re sr tk ex fun b H1 ⟨S1, s1, sr1, q⟩ => ?_
    cases b with
    | true => exact ha.dn q (re.stay s1.st) sr1 tk (ex.mono s1) fun _ _ q => q.mono s1
    | false => exact hb.dn q (re.stay s1.st) sr1 tk (ex.mono s1) fun _ _ q => q.mono s1)⟩

/-! ### displays, arguments -/
def wNil : WA := fun _ S Q _ => Q [] S
def wCons (wa : WE) (wr : WA) : WA := fun ε S Q E => wa ε S (fun x S1 => wr ε S1 (fun xs S2 => Q (x :: xs) S2) E) E
theorem ja_nil : JA G X [] wNil := ⟨fun ε S Q E w σ H re sr Wx tk ex => sA_of pa_nil ⟨[], S, .refl _ _, sr, rfl, w⟩⟩
theorem ja_cons {e : Expr} {es : List Expr} {wa : WE} {wr : WA} (ha : JE G X e wa) (hr : JA G X es wr) (hs : starEach (e :: es) X.env = (false, eval e X.env) :: starEach es X.env := by rfl) : JA G X (e :: es) (wCons wa wr) :=
  ⟨fun ε S Q E w σ H re sr Wx tk ex => sA_of (pa_cons pe_sE pa_sA hs) (by
    refine ha.dn w re sr tk ex fun v H1 ⟨x, S1, s1, sr1, r1, w1⟩ => ?_
    refine hr.dn w1 (re.stay s1.st) sr1 tk (ex.mono s1) fun vs H2 ⟨xs, S2, s2, sr2, r2, w2⟩ => ?_
    exact ⟨x :: xs, S2, s1.trans s2, sr2, ⟨v, vs, rfl, rep_stay s2.st _ _ r1, r2⟩, w2⟩)⟩
def wTup (w : WA) : WE := fun ε S Q E => w ε S (fun xs S1 => xs.length ≤ sizeLine ∧ Q (.tup xs) S1) E
def wLst (w : WA) : WE := fun ε S Q E => w ε S (fun xs S1 => xs.length ≤ sizeLine ∧ ∀ p, S1 p = none → Q (.ref p) (supd S1 p (.lst xs))) E
theorem je_tup {es : List Expr} {w : WA} {k : Nat} {pos : Pos} (h : JA G X es w) : JE G X (.Tuple es k pos) (wTup w) :=
  ⟨fun ε S Q E w σ H re sr Wx tk ex => sE_of (pe_tup pa_sA) (by
    refine h.dn w re sr tk ex fun vs H1 ⟨xs, S1, s1, sr1, r1, z, w1⟩ => ?_
    exact ⟨by rw [← reps_length r1]; exact z, fun p hp => (ql_tup sr1 hp r1 w1).mono s1⟩)⟩
theorem je_lst {es : List Expr} {w : WA} {pos : Pos} (h : JA G X es w) : JE G X (.List es pos) (wLst w) :=
  ⟨fun ε S Q E w σ H re sr Wx tk ex => sE_of (pe_lst pa_sA) (by
    refine h.dn w re sr tk ex fun vs H1 ⟨xs, S1, s1, sr1, r1, z, w1⟩ => ?_
    exact ⟨by rw [← reps_length r1]; exact z, fun p hp => (ql_lst sr1 hp r1 w1).mono s1⟩)⟩

/-! ### calls of built-ins -/
abbrev OC := List PV → Sto → KE → Prop
def CallL (G : Gd) (r : List V → Hp → VK → Prop) (o : OC) : Prop := ∀ H S xs vs Q (K : VK), SR G H S → Reps G.K H xs vs → (∀ v H', QL G S H Q v H' → K v H') → o xs S Q → r vs H K
def wCB (o : OC) (w : WA) : WE := fun ε S Q E => w ε S (fun xs S1 => o xs S1 Q) E
section
variable {x : Str} {p pos : Pos} {e : Expr} {es : List Expr} {w : WA} {id T : String} {r : List V → Hp → VK → Prop} {o : OC}
theorem je_callB (hc : CallR X (.builtin id) r) (L : CallL G r o) (hg : Gl X x) (hm : X.mg x = none) (hv : bootBuiltins x = some (.builtin id)) (ha : JA G X (e :: es) w) (hn : x ≠ "__name__" := by decide) (hdb : (x == ("__debug__" : Str)) = false := by decide)
    (he : starEach (e :: es) X.env = (false, eval e X.env) :: starEach es X.env := by rfl) (hpl : (backTo pos (starEach es X.env)).any (·.1) = false := by rfl) : JE G X (.Call (.Name x p) (e :: es) [] pos) (wCB o w) :=
  ⟨fun ε S Q E w σ H re sr Wx tk ex => sE_of (pe_callB hc hg hm hv pa_sA hn hdb he hpl) (by
    refine ha.dn w re sr tk ex fun vs H1 ⟨xs, S1, s1, sr1, r1, w1⟩ => ?_
    exact L H1 S1 xs vs Q _ sr1 r1 (fun _ _ q => q.mono s1) w1)⟩
theorem je_callTy (hc : CallR X (.type T) r) (L : CallL G r o) (hg : Gl X x) (hm : X.mg x = none) (hv : bootBuiltins x = some (.type T)) (ha : JA G X (e :: es) w) (hn : x ≠ "__name__" := by decide) (hdb : (x == ("__debug__" : Str)) = false := by decide)
    (he : starEach (e :: es) X.env = (false, eval e X.env) :: starEach es X.env := by rfl) (hpl : (backTo pos (starEach es X.env)).any (·.1) = false := by rfl) : JE G X (.Call (.Name x p) (e :: es) [] pos) (wCB o w) :=
  ⟨fun ε S Q E w σ H re sr Wx tk ex => sE_of (pe_callTy hc hg hm hv pa_sA hn hdb he hpl) (by
    refine ha.dn w re sr tk ex fun vs H1 ⟨xs, S1, s1, sr1, r1, w1⟩ => ?_
    exact L H1 S1 xs vs Q _ sr1 r1 (fun _ _ q => q.mono s1) w1)⟩
end
end
end L3

set_option Elab.async false
set_option linter.all false
set_option maxRecDepth 100000
set_option maxHeartbeats 4000000
namespace L3
open PySem PySem.Spec L2
open PyProof.Rows hiding St
section
variable {G : Gd} {X : Cx} {H H1 : Hp} {S S1 : Sto} {σ : L2.St} {ε : PEnv}
theorem reps1 {K : PySem.W.Frag} {x : PV} {vs : List V} (r : Reps K H [x] vs) : ∃ v, vs = [v] ∧ Rep K H x v := by
  obtain ⟨v, ws, rfl, r, rs⟩ := r
  cases rs
  exact ⟨v, rfl, r⟩
theorem reps2 {K : PySem.W.Frag} {x y : PV} {vs : List V} (r : Reps K H [x, y] vs) : ∃ v u, vs = [v, u] ∧ Rep K H x v ∧ Rep K H y u := by
  obtain ⟨v, ws, rfl, r, rs⟩ := r
  obtain ⟨u, rfl, r2⟩ := reps1 rs
  exact ⟨v, u, rfl, r, r2⟩
/-! ### built-ins -/
def cLen : OC := fun xs S Q => match xs with
  | [.str y] => y.length ≤ sizeLine ∧ Q (.int y.length) S
  | [.tup ys] => Q (.int ys.length) S
  | [.ref a] => ∃ ys, RdL S a ys ∧ Q (.int ys.length) S
  | _ => False
theorem cl_len : CallL G (fun xs H Q => ∃ x n, xs = [x] ∧ LenV G.K x H n ∧ Q (.int n) H) cLen := fun H S xs vs Q K sr r k q => by
  unfold cLen at q
  split at q
  · obtain ⟨v, rfl, rv⟩ := reps1 r
    cases rv
    exact ⟨_, _, rfl, ⟨q.1, rfl⟩, k _ _ (ql_int sr q.2)⟩
  · obtain ⟨v, rfl, a, ws, rfl, ha, ra⟩ := reps1 r
    exact ⟨_, ws.length, rfl, .inr ⟨ws, ha, rfl⟩, k _ _ (ql_int sr (by rw [← reps_length ra]; exact q))⟩
  · obtain ⟨v, rfl, rv⟩ := reps1 r
    cases rv
    obtain ⟨ys, e, q⟩ := q
    obtain ⟨ws, ha, ra⟩ := rdl_at sr e
    exact ⟨_, ws.length, rfl, .inl ⟨ws, ha, rfl⟩, k _ _ (ql_int sr (by rw [← reps_length ra]; exact q))⟩
  · exact q.elim
def cInt : OC := fun xs S Q => match xs with
  | [.int i] => Q (.int i) S
  | [.bl b] => Q (.int (if b then 1 else 0)) S
  | _ => False
theorem cl_int : CallL G (fun xs H Q => (∃ i, xs = [.int i] ∧ Q (.int i) H) ∨ ∃ k, xs = [.bl k] ∧ Q (.int (if k then 1 else 0)) H) cInt := fun H S xs vs Q K sr r k q => by
  unfold cInt at q
  split at q
  · obtain ⟨v, rfl, rv⟩ := reps1 r
    cases rv
    exact .inl ⟨_, rfl, k _ _ (ql_int sr q)⟩
  · obtain ⟨v, rfl, rv⟩ := reps1 r
    cases rv
    exact .inr ⟨_, rfl, k _ _ (ql_int sr q)⟩
  · exact q.elim
def cAbs : OC := fun xs S Q => match xs with
  | [.int i] => Q (.int (i.natAbs : Int)) S
  | _ => False
theorem cl_abs : CallL G (fun xs H Q => ∃ i, xs = [.int i] ∧ Q (.int (if i < 0 then -i else i)) H) cAbs := fun H S xs vs Q K sr r k q => by
  unfold cAbs at q
  split at q
  · rename_i i
    obtain ⟨v, rfl, rv⟩ := reps1 r
    cases rv
    refine ⟨_, rfl, k _ _ (ql_int sr ?_)⟩
    have : (if i < 0 then -i else i) = (i.natAbs : Int) := by split <;> omega
    rw [this]
    exact q
  · exact q.elim
def cMax2 : OC := fun xs S Q => match xs with
  | [.int i, .int j] => Q (.int (max i j)) S
  | _ => False
def cMin2 : OC := fun xs S Q => match xs with
  | [.int i, .int j] => Q (.int (min i j)) S
  | _ => False
theorem cl_max2 : CallL G (fun xs H Q => ∃ i j, xs = [.int i, .int j] ∧ Q (.int (if j > i then j else i)) H) cMax2 := fun H S xs vs Q K sr r k q => by
  unfold cMax2 at q
  split at q
  · rename_i i j
    obtain ⟨v, u, rfl, rv, ru⟩ := reps2 r
    cases rv; cases ru
    refine ⟨_, _, rfl, k _ _ (ql_int sr ?_)⟩
    have : (if j > i then j else i) = max i j := by split <;> omega
    rw [this]
    exact q
  · exact q.elim
theorem cl_min2 : CallL G (fun xs H Q => ∃ i j, xs = [.int i, .int j] ∧ Q (.int (if j < i then j else i)) H) cMin2 := fun H S xs vs Q K sr r k q => by
  unfold cMin2 at q
  split at q
  · rename_i i j
    obtain ⟨v, u, rfl, rv, ru⟩ := reps2 r
    cases rv; cases ru
    refine ⟨_, _, rfl, k _ _ (ql_int sr ?_)⟩
    have : (if j < i then j else i) = min i j := by split <;> omega
    rw [this]
    exact q
  · exact q.elim
/-- a list of ints that is read -/
def IntsAt (S : Sto) (a : Addr) (ns : List Int) : Prop := RdL S a (ns.map PV.int)
def cSum : OC := fun xs S Q => match xs with
  | [.ref a] => ∃ ns : List Int, IntsAt S a ns ∧ Q (.int ns.sum) S
  | _ => False
theorem ints_at {a : Addr} {ns : List Int} (sr : SR G H S) (e : IntsAt S a ns) : SqL G.K H a (ns.map V.int) := by
  obtain ⟨vs, h, r⟩ := rdl_at sr e
  rw [reps_ints] at r
  rw [← r]; exact h
theorem cl_sum : CallL G (rSum G.K) cSum := fun H S xs vs Q K sr r k q => by
  unfold cSum at q
  split at q
  · obtain ⟨v, rfl, rv⟩ := reps1 r
    cases rv
    obtain ⟨ns, e, q⟩ := q
    exact ⟨_, ns, rfl, ints_at sr e, k _ _ (ql_int sr q)⟩
  · exact q.elim
def cMaxL : OC := fun xs S Q => match xs with
  | [.ref a] => ∃ ns : List Int, IntsAt S a ns ∧ 0 < ns.length ∧ ∀ m, m ∈ ns → (∀ y, y ∈ ns → y ≤ m) → Q (.int m) S
  | _ => False
def cMinL : OC := fun xs S Q => match xs with
  | [.ref a] => ∃ ns : List Int, IntsAt S a ns ∧ 0 < ns.length ∧ ∀ m, m ∈ ns → (∀ y, y ∈ ns → m ≤ y) → Q (.int m) S
  | _ => False
theorem cl_maxL : CallL G (rMax G.K) cMaxL := fun H S xs vs Q K sr r k q => by
  unfold cMaxL at q
  split at q
  · obtain ⟨v, rfl, rv⟩ := reps1 r
    cases rv
    obtain ⟨ns, e, h0, q⟩ := q
    exact ⟨_, ns, rfl, ints_at sr e, h0, fun m h1 h2 => k _ _ (ql_int sr (q m h1 h2))⟩
  · exact q.elim
theorem cl_minL : CallL G (rMin G.K) cMinL := fun H S xs vs Q K sr r k q => by
  unfold cMinL at q
  split at q
  · obtain ⟨v, rfl, rv⟩ := reps1 r
    cases rv
    obtain ⟨ns, e, h0, q⟩ := q
    exact ⟨_, ns, rfl, ints_at sr e, h0, fun m h1 h2 => k _ _ (ql_int sr (q m h1 h2))⟩
  · exact q.elim
def cAll : OC := fun xs S Q => match xs with
  | [.ref a] => ∃ bs : List Bool, RdL S a (bs.map PV.bl) ∧ Q (.bl (bs.all id)) S
  | _ => False
def cAny : OC := fun xs S Q => match xs with
  | [.ref a] => ∃ bs : List Bool, RdL S a (bs.map PV.bl) ∧ Q (.bl (bs.any id)) S
  | _ => False
theorem bls_at {a : Addr} {ns : List Bool} (sr : SR G H S) (e : RdL S a (ns.map PV.bl)) : SqL G.K H a (ns.map V.bl) := by
  obtain ⟨vs, h, r⟩ := rdl_at sr e
  rw [reps_bls] at r
  rw [← r]; exact h
theorem cl_all : CallL G (rAll G.K) cAll := fun H S xs vs Q K sr r k q => by
  unfold cAll at q
  split at q
  · obtain ⟨v, rfl, rv⟩ := reps1 r
    cases rv
    obtain ⟨ns, e, q⟩ := q
    exact ⟨_, ns, rfl, bls_at sr e, k _ _ (ql_bl sr q)⟩
  · exact q.elim
theorem cl_any : CallL G (rAny G.K) cAny := fun H S xs vs Q K sr r k q => by
  unfold cAny at q
  split at q
  · obtain ⟨v, rfl, rv⟩ := reps1 r
    cases rv
    obtain ⟨ns, e, q⟩ := q
    exact ⟨_, ns, rfl, bls_at sr e, k _ _ (ql_bl sr q)⟩
  · exact q.elim
/-- list(x), tuple(x) -/
def cList : OC := fun xs S Q => match xs with
  | [.tup ys] => ∀ p, S p = none → Q (.ref p) (supd S p (.lst ys))
  | [.ref a] => ∃ ys, RdL S a ys ∧ ∀ p, S p = none → Q (.ref p) (supd S p (.lst ys))
  | _ => False
theorem cl_list : CallL G (fun xs H Q => ∃ p ys, xs = [.ref p] ∧ (SqL G.K H p ys ∨ SqT G.K H p ys) ∧ ∀ l, H l = none → Q (.ref l) (upd H l (.lst ys))) cList := fun H S xs vs Q K sr r k q => by
  unfold cList at q
  split at q
  · obtain ⟨v, rfl, a, ws, rfl, ha, ra⟩ := reps1 r
    exact ⟨_, ws, rfl, .inr ha, fun l hl => k _ _ (ql_lst sr hl ra q)⟩
  · obtain ⟨v, rfl, rv⟩ := reps1 r
    cases rv
    obtain ⟨ys, e, q⟩ := q
    obtain ⟨ws, ha, ra⟩ := rdl_at sr e
    exact ⟨_, ws, rfl, .inl ha, fun l hl => k _ _ (ql_lst sr hl ra q)⟩
  · exact q.elim
def cTuple : OC := fun xs S Q => match xs with
  | [.tup ys] => Q (.tup ys) S
  | [.ref a] => ∃ ys, RdL S a ys ∧ Q (.tup ys) S
  | _ => False
theorem cl_tuple : CallL G (fun xs H Q => ∃ p ys, xs = [.ref p] ∧ ((SqL G.K H p ys ∧ ∀ l, H l = none → Q (.ref l) (upd H l (.tup ys))) ∨ (SqT G.K H p ys ∧ Q (.ref p) H))) cTuple := fun H S xs vs Q K sr r k q => by
  unfold cTuple at q
  split at q
  · rename_i ys
    obtain ⟨v, rfl, a, ws, rfl, ha, ra⟩ := reps1 r
    exact ⟨_, ws, rfl, .inr ⟨ha, k _ _ (ql_pure (x := .tup ys) sr ⟨a, ws, rfl, ha, ra⟩ q)⟩⟩
  · obtain ⟨v, rfl, rv⟩ := reps1 r
    cases rv
    obtain ⟨ys, e, q⟩ := q
    obtain ⟨ws, ha, ra⟩ := rdl_at sr e
    exact ⟨_, ws, rfl, .inl ⟨ha, fun l hl => k _ _ (ql_tup sr hl ra q)⟩⟩
  · exact q.elim
/-- str(n) -/
def cStr : OC := fun xs S Q => match xs with
  | [.int i] => i.natAbs.log2 < 1920 ∧ Q (.str (toString i)) S
  | _ => False
theorem cl_str : CallL G (fun xs H Q => ∃ i, xs = [.int i] ∧ i.natAbs.log2 < 1920 ∧ Q (.str (toString i)) H) cStr := fun H S xs vs Q K sr r k q => by
  unfold cStr at q
  split at q
  · obtain ⟨v, rfl, rv⟩ := reps1 r
    cases rv
    exact ⟨_, rfl, q.1, k _ _ (ql_str sr q.2)⟩
  · exact q.elim
/-- isinstance(x, c) for one built-in class: what the type of x is -/
def tyN : PV → Sto → String → Prop := fun x S n => match x with
  | .non => n = "NoneType"
  | .bl _ => n = "bool"
  | .int _ => n = "int"
  | .str _ => n = "str"
  | .tup _ => n = "tuple"
  | .ref a => (∃ ys, RdL S a ys) ∧ n = "list" ∨ (∃ kvs, S a = some (.dct kvs)) ∧ n = "dict"
  | _ => False
theorem tyN_dn {x : PV} {v : V} {n : String} (sr : SR G H S) (r : Rep G.K H x v) (h : tyN x S n) : TyX G.K H v (.type n) := by
  cases x with
  | non => cases r; obtain rfl : n = "NoneType" := h; exact .base .non
  | bl b => cases r; obtain rfl : n = "bool" := h; exact .base (.bl b)
  | int i => cases r; obtain rfl : n = "int" := h; exact .base (.int i)
  | str y => cases r; obtain rfl : n = "str" := h; exact .base (.str y)
  | tup xs =>
    obtain ⟨a, vs, rfl, ha, ra⟩ := r
    obtain rfl : n = "tuple" := h
    rcases ha with (ha | ⟨o, ha⟩) | ⟨o, its, nn, hk, hc, _⟩
    · exact .base (.tup ha)
    · exact .fTuple ha
    · exact .kTuple hk hc
  | ref a =>
    cases r
    rcases h with ⟨⟨ys, e | e⟩, rfl⟩ | ⟨⟨kvs, e⟩, rfl⟩
    · obtain ⟨vs, ha, _⟩ := sr.ok a _ e
      exact .base (.lst ha)
    · obtain ⟨vs, ha, _⟩ := sr.ok a _ e
      rcases ha with ha | ⟨o, ha⟩
      · exact .base (.lst ha)
      · exact .base (.frz ha)
    · obtain ⟨es, ha, _⟩ := sr.ok a _ e
      exact .base (.dK ha)
  | ty n => exact (show False from h).elim
def cIsi : OC := fun xs S Q => match xs with
  | [x, .ty c] => ∃ n b, tyN x S n ∧ kitB n c = some b ∧ Q (.bl b) S
  | _ => False
theorem cl_isi : CallL G (rIsi G.K) cIsi := fun H S xs vs Q K sr r k q => by
  unfold cIsi at q
  split at q
  · rename_i x c
    obtain ⟨v, u, rfl, rv, ru⟩ := reps2 r
    cases ru
    obtain ⟨n, b, h1, h2, q⟩ := q
    exact ⟨_, _, _, _, b, rfl, .ty c, tyN_dn sr rv h1, kit_ty h2, k _ _ (ql_bl sr q)⟩
  · exact q.elim
/-- sorted(x), ints -/
def cSorted : OC := fun xs S Q => match xs with
  | [.ref a] => ∃ ns : List Int, IntsAt S a ns ∧ ∀ ns' : List Int, ns'.Perm ns → ns'.Pairwise (· ≤ ·) → ∀ p, S p = none → Q (.ref p) (supd S p (.lst (ns'.map PV.int)))
  | _ => False

/-! ### subscripts -/
theorem atI_reps {K : PySem.W.Frag} {xs : List PV} {vs : List V} {i : Int} {x : PV} (r : Reps K H xs vs) (h : atI xs i = some x) : ∃ v, atI vs i = some v ∧ Rep K H x v := by
  unfold atI at h ⊢
  rw [← reps_length r]
  cases e : ixN xs.length i with
  | none => rw [e] at h; cases h
  | some j =>
    rw [e] at h
    exact reps_get r h
def oIx : O2 := fun x y S Q => match x, y with
  | .tup xs, .int i => ∃ v, atI xs i = some v ∧ Q v S
  | .ref a, .int i => ∃ xs v, RdL S a xs ∧ atI xs i = some v ∧ Q v S
  | .str z, .int i => ∃ c, z.length ≤ sizeLine ∧ atI z.cps.toList i = some c ∧ Q (.str ⟨#[c]⟩) S
  | _, _ => False
theorem opl_ix : OpL G (rIx G.K) oIx := fun H S x y v u Q K sr rx ry k q => by
  unfold oIx at q
  split at q
  · rename_i xs i
    obtain ⟨a, vs, rfl, ha, ra⟩ := rx
    cases ry
    obtain ⟨z, e, q⟩ := q
    obtain ⟨w, e2, rw⟩ := atI_reps ra e
    exact .inr (.inl ⟨a, vs, i, w, rfl, rfl, ha, e2, k _ _ (ql_pure sr rw q)⟩)
  · rename_i a i
    cases rx; cases ry
    obtain ⟨xs, z, ea, e, q⟩ := q
    obtain ⟨vs, ha, ra⟩ := rdl_at sr ea
    obtain ⟨w, e2, rw⟩ := atI_reps ra e
    exact .inl ⟨a, vs, i, w, rfl, rfl, ha, e2, k _ _ (ql_pure sr rw q)⟩
  · rename_i z i
    cases rx; cases ry
    obtain ⟨c, hz, e, q⟩ := q
    exact .inr (.inr ⟨z, i, c, rfl, rfl, hz, e, k _ _ (ql_str sr q)⟩)
  · exact q.elim
theorem je_ix {a b : Expr} {wa wb : WE} {pos : Pos} (ha : JE G X a wa) (hb : JE G X b wb) (hs : PlainIx b := by exact fun _ _ => rfl) (hK : X.K = G.K := by rfl) : JE G X (.Subscript a b pos) (wOp oIx wa wb) :=
  ⟨fun ε S Q E w σ H re sr Wx tk ex => sE_of (pe_ix (r := rIx G.K) (hK ▸ ix_seq) pe_sE pe_sE hs) (two opl_ix ha hb w re sr tk ex)⟩
/-! ### slices -/
def cutP (xs : List PV) (lo hi : Option Int) : List PV := (xs.drop (HT.sIx xs.length 0 lo)).take (HT.sIx xs.length xs.length hi - HT.sIx xs.length 0 lo)
theorem reps_cut {K : PySem.W.Frag} {xs : List PV} {vs : List V} (r : Reps K H xs vs) (lo hi : Option Int) : Reps K H (cutP xs lo hi) (cutV vs lo hi) := by
  unfold cutP cutV
  rw [reps_length r]
  exact reps_take _ (reps_drop _ r)
abbrev WO := PEnv → Sto → (Option Int → Sto → Prop) → KX → Prop
def sO (X : Cx) (e : Option Expr) : TO := fun σ H Q => ∀ pins s, Inv X pins σ H s → wpAny (model X.prog X.w) X.A (evalPart e X.env) (fun v s' => ∃ o H', Inv X pins σ H' s' ∧ IsPart v o ∧ Q o H') X.xe s
theorem sIx_all (n : Nat) : ∀ o : Option Int, HT.sIx n n o ≤ n := fun o => HT.sIx_le n n (Nat.le_refl _) o
def wNoP : WO := fun _ S Q _ => Q none S
def wPart (w : WE) : WO := fun ε S Q E => w ε S (fun x S1 => match x with
  | .int i => Q (some i) S1
  | _ => False) E
/-- a part of a slice: none, or an expression -/
inductive JO (G : Gd) (X : Cx) : Option Expr → WO → Prop
  | no : JO G X none wNoP
  | some {e : Expr} {w : WE} (h : JE G X e w) : JO G X (some e) (wPart w)
def oSl : PV → Option Int → Option Int → Sto → KE → Prop := fun x lo hi S Q => match x with
  | .tup xs => Q (.tup (cutP xs lo hi)) S
  | .ref a => ∃ xs, RdL S a xs ∧ ∀ p, S p = none → Q (.ref p) (supd S p (.lst (cutP xs lo hi)))
  | _ => False
abbrev rSlAll (K : PySem.W.Frag) : V → Option Int → Option Int → Hp → VK → Prop := fun x lo hi H Q => rSlA K x lo hi H Q ∨ rSlL K x lo hi H Q
theorem sl_dn {x : PV} {v : V} {lo hi : Option Int} {Q : KE} {K : VK} (sr : SR G H S) (r : Rep G.K H x v) (k : ∀ v H', QL G S H Q v H' → K v H') (q : oSl x lo hi S Q) : rSlAll G.K v lo hi H K := by
  unfold oSl at q
  split at q
  · rename_i xs
    obtain ⟨a, vs, rfl, ha, ra⟩ := r
    refine .inl ⟨a, vs, rfl, ha, fun h => ?_, fun h p hp => k _ _ (ql_tup sr hp (reps_cut ra lo hi) q)⟩
    have e : cutP xs lo hi = xs := by
      unfold cutP
      rw [reps_length ra, h.1, h.2]
      simp [← reps_length ra]
    rw [e] at q
    exact k _ _ (ql_pure (x := .tup xs) sr ⟨a, vs, rfl, ha, ra⟩ q)
  · rename_i a
    cases r
    obtain ⟨xs, e, q⟩ := q
    obtain ⟨vs, ha, ra⟩ := rdl_at sr e
    exact .inr ⟨a, vs, rfl, ha, fun p hp => k _ _ (ql_lst sr hp (reps_cut ra lo hi) q)⟩
  · exact q.elim
def wSl (wa : WE) (wl wh : WO) : WE := fun ε S Q E => wa ε S (fun x S1 => wl ε S1 (fun lo S2 => wh ε S2 (fun hi S3 => oSl x lo hi S3 Q) E) E) E
theorem je_sl {e : Expr} {lo hi : Option Expr} {wa : WE} {wl wh : WO} {p2 pos : Pos} (ha : JE G X e wa) (hl : JO G X lo wl) (hh : JO G X hi wh) (hK : X.K = G.K := by rfl) : JE G X (.Subscript e (.Slice lo hi none p2) pos) (wSl wa wl wh) := by
  have end_ : ∀ {ε S Q E}, wSl wa wl wh ε S Q E → ∀ σ H, Renv G.K H ε σ → SR G H S → ∀ Wx : WX, Takes X Wx → ExL G S H σ E Wx → ∃ tl th, PO X lo tl ∧ PO X hi th ∧ tSl (rSlAll G.K) (sE X e) tl th σ H (QL G S H Q) := by
    intro ε S Q E w σ H re sr Wx tk ex
    cases hl with
    | no =>
      cases hh with
      | no =>
        refine ⟨_, _, po_none, po_none, ha.dn w re sr tk ex fun v H1 ⟨x, S1, s1, sr1, r1, w1⟩ => ?_⟩
        exact sl_dn sr1 r1 (fun _ _ q => q.mono s1) w1
      | some hh =>
        refine ⟨_, _, po_none, po_some pe_sE, ha.dn w re sr tk ex fun v H1 ⟨x, S1, s1, sr1, r1, w1⟩ => ?_⟩
        refine hh.dn w1 (re.stay s1.st) sr1 tk (ex.mono s1) fun u H2 ⟨y, S2, s2, sr2, r2, w2⟩ => ?_
        dsimp only at w2
        split at w2
        · exact ⟨_, r2, sl_dn sr2 (rep_stay s2.st _ _ r1) (fun _ _ q => q.mono (s1.trans s2)) w2⟩
        · exact w2.elim
    | some hl =>
      cases hh with
      | no =>
        refine ⟨_, _, po_some pe_sE, po_none, ha.dn w re sr tk ex fun v H1 ⟨x, S1, s1, sr1, r1, w1⟩ => ?_⟩
        refine hl.dn w1 (re.stay s1.st) sr1 tk (ex.mono s1) fun u H2 ⟨y, S2, s2, sr2, r2, w2⟩ => ?_
        dsimp only at w2
        split at w2
        · exact ⟨_, r2, sl_dn sr2 (rep_stay s2.st _ _ r1) (fun _ _ q => q.mono (s1.trans s2)) w2⟩
        · exact w2.elim
      | some hh =>
        refine ⟨_, _, po_some pe_sE, po_some pe_sE, ha.dn w re sr tk ex fun v H1 ⟨x, S1, s1, sr1, r1, w1⟩ => ?_⟩
        refine hl.dn w1 (re.stay s1.st) sr1 tk (ex.mono s1) fun u H2 ⟨y, S2, s2, sr2, r2, w2⟩ => ?_
        dsimp only at w2
        split at w2
        · refine ⟨_, r2, ?_⟩
          have s12 := s1.trans s2
          refine hh.dn w2 (re.stay s12.st) sr2 tk (ex.mono s12) fun u H3 ⟨y, S3, s3, sr3, r3, w3⟩ => ?_
          dsimp only at w3
          split at w3
          · exact ⟨_, r3, sl_dn sr3 (rep_stay (s2.trans s3).st _ _ r1) (fun _ _ q => q.mono (s12.trans s3)) w3⟩
          · exact w3.elim
        · exact w2.elim
  exact ⟨fun ε S Q E w σ H re sr Wx tk ex => by
    obtain ⟨tl, th, h1, h2, q⟩ := end_ w σ H re sr Wx tk ex
    exact sE_of (pe_slice (hK ▸ (sl_tupA.or sl_list)) pe_sE h1 h2) q⟩
/-- xs[::-1], a list -/
def oRevL : PV → Sto → KE → Prop := fun x S Q => match x with
  | .ref a => ∃ xs, RdL S a xs ∧ ∀ p, S p = none → Q (.ref p) (supd S p (.lst xs.reverse))
  | _ => False
theorem reps_reverse {K : PySem.W.Frag} : ∀ {xs : List PV} {vs : List V}, Reps K H xs vs → Reps K H xs.reverse vs.reverse
  | [], _, h => by cases h; exact rfl
  | x :: xs, _, h => by
    obtain ⟨v, ws, rfl, r, rs⟩ := h
    rw [List.reverse_cons, List.reverse_cons]
    exact reps_append (reps_reverse rs) ⟨v, [], rfl, r, rfl⟩
theorem je_revL {e : Expr} {wa : WE} {k : Nat} {p1 p2 p3 pos : Pos} (ha : JE G X e wa) (hK : X.K = G.K := by rfl) : JE G X (.Subscript e (.Slice none none (some (.UnaryOp .USub (.Constant (.int 1) k p1) p2)) p3) pos) (wUn oRevL wa) :=
  ⟨fun ε S Q E w σ H re sr Wx tk ex => sE_of (pe_revL pe_sE) (by
    refine ha.dn w re sr tk ex fun v H1 ⟨x, S1, s1, sr1, r1, w1⟩ => ?_
    dsimp only [oRevL] at w1
    split at w1
    · rename_i a
      cases r1
      obtain ⟨xs, e, q⟩ := w1
      obtain ⟨vs, ha, ra⟩ := rdl_at sr1 e
      exact ⟨a, vs, rfl, hK ▸ ha, fun p hp => (ql_lst sr1 hp (reps_reverse ra) q).mono s1⟩
    · exact w1.elim)⟩
end
end L3

set_option Elab.async false
set_option linter.all false
set_option maxRecDepth 100000
set_option maxHeartbeats 4000000
namespace L3
open PySem PySem.Spec L2
open PyProof.Rows hiding St
section
variable {G : Gd} {X : Cx} {H H1 : Hp} {S S1 : Sto} {σ : L2.St} {ε : PEnv}
/-! ### targets -/
def sG (X : Cx) (tg : Expr) : TG := fun v σ H Q => ∀ pins s u, Inv X pins σ H s → RelV v u → wpAny (model X.prog X.w) X.A (assign tg X.env u) (fun _ s' => ∃ σ' H', Inv X pins σ' H' s' ∧ Q σ' H') X.xe s
theorem pg_sG {tg : Expr} : PG X tg (sG X tg) := ⟨fun pins s σ H v u Q I r h => h pins s u I r⟩
theorem sG_of {tg : Expr} {t : TG} {v : V} {Q : L2.St → Hp → Prop} (h : PG X tg t) (q : t v σ H Q) : sG X tg v σ H Q := fun pins s u I r => h.run pins s σ H v u Q I r q
theorem sG_mono {tg : Expr} {v : V} {Q Q' : L2.St → Hp → Prop} (h : sG X tg v σ H Q) (k : ∀ σ' H', Q σ' H' → Q' σ' H') : sG X tg v σ H Q' := fun pins s u I r => thn (h pins s u I r) fun _ s' ⟨σ', H', I', q⟩ => ⟨σ', H', I', k σ' H' q⟩
/-- only the slots vs are set -/
def Only (vs : List Nat) (σ σ' : L2.St) : Prop := σ'.length = σ.length ∧ ∀ k, k ∉ vs → σ'[k]? = σ[k]?
theorem Only.refl (vs : List Nat) (σ : L2.St) : Only vs σ σ := ⟨rfl, fun _ _ => rfl⟩
theorem Only.trans {vs : List Nat} {σ σ1 σ2 : L2.St} (a : Only vs σ σ1) (b : Only vs σ1 σ2) : Only vs σ σ2 := ⟨b.1.trans a.1, fun k h => (b.2 k h).trans (a.2 k h)⟩
theorem Only.wider {vs ws : List Nat} {σ σ1 : L2.St} (a : Only vs σ σ1) (h : ∀ k ∈ vs, k ∈ ws) : Only ws σ σ1 := ⟨a.1, fun k hk => a.2 k fun z => hk (h k z)⟩
theorem wipe_in {σ : L2.St} {i : Nat} : ∀ {vs : List Nat}, i ∈ vs → (wipe σ vs)[i]? = if i < σ.length then some none else none
  | v :: vs, h => by
    unfold wipe
    by_cases e : v = i
    · subst e
      by_cases hl : v < σ.length
      · rw [if_pos hl, List.getElem?_set_self (by rw [wipe_length]; exact hl)]
      · rw [if_neg hl, List.getElem?_eq_none (by rw [List.length_set, wipe_length]; omega)]
    · rw [List.getElem?_set_ne e]
      exact wipe_in (by simpa [Ne.symm e] using h)
theorem Only.wipe {vs : List Nat} {σ σ' : L2.St} (h : Only vs σ σ') : L2.wipe σ' vs = L2.wipe σ vs := by
  refine List.ext_getElem? fun i => ?_
  by_cases hi : i ∈ vs
  · rw [wipe_in hi, wipe_in hi, h.1]
  · rw [wipe_out hi, wipe_out hi, h.2 i hi]
abbrev WG := PV → PEnv → Sto → (PEnv → Sto → Prop) → Prop
structure JG (G : Gd) (X : Cx) (tg : Expr) (vs : List Nat) (g : WG) : Prop where
  run : ∀ x ε S Q, g x ε S Q → ∀ v σ H, Renv G.K H ε σ → SR G H S → Rep G.K H x v → sG X tg v σ H (fun σ' H' => Only vs σ σ' ∧ QS G S H Q σ' H')
def gN (i : Nat) : WG := fun x ε S Q => Q (ε.set i (some x)) S
theorem only_set (i : Nat) (v : Option V) (σ : L2.St) : Only [i] σ (σ.set i v) := ⟨by simp, fun k hk => by
  rw [List.getElem?_set_ne]
  simpa using fun e => hk (by simp [e])⟩
theorem jg_name {i : Nat} {x : Str} {pos : Pos} (hN : X.N.Nodup) (hi : X.N[i]? = some x) (hx : Loc X.env.scope x) (hf : X.fn x = true ∨ X.env.scope.names.lookup x = some .local := by first | exact .inl rfl | exact .inr rfl | assumption) : JG G X (.Name x pos) [i] (gN i) :=
  ⟨fun x ε S Q q v σ H re sr r => sG_of (pg_name hN hi hx hf) ⟨only_set _ _ _, _, S, .refl _ _, sr, re.set _ r, q⟩⟩
/-- several targets -/
abbrev WGs := List PV → PEnv → Sto → (PEnv → Sto → Prop) → Prop
def sGs (X : Cx) (tgs : List Expr) : TGs := fun vs σ H Q => ∀ pins s us, Inv X pins σ H s → Vals vs us → wpAny (model X.prog X.w) X.A (assignInOrder ((assignEach tgs X.env).map (·.2)) us) (fun _ s' => ∃ σ' H', Inv X pins σ' H' s' ∧ Q σ' H') X.xe s
theorem pgs_sGs {tgs : List Expr} : PGs X tgs (sGs X tgs) := ⟨fun pins s σ H vs us Q I r h => h pins s us I r⟩
theorem sGs_of {tgs : List Expr} {t : TGs} {vs : List V} {Q : L2.St → Hp → Prop} (h : PGs X tgs t) (q : t vs σ H Q) : sGs X tgs vs σ H Q := fun pins s us I r => h.run pins s σ H vs us Q I r q
structure JGs (G : Gd) (X : Cx) (tgs : List Expr) (vs : List Nat) (g : WGs) : Prop where
  run : ∀ xs ε S Q, g xs ε S Q → ∀ ws σ H, Renv G.K H ε σ → SR G H S → Reps G.K H xs ws → sGs X tgs ws σ H (fun σ' H' => Only vs σ σ' ∧ QS G S H Q σ' H')
theorem sGs_mono {tg : List Expr} {v : List V} {Q Q' : L2.St → Hp → Prop} (h : sGs X tg v σ H Q) (k : ∀ σ' H', Q σ' H' → Q' σ' H') : sGs X tg v σ H Q' := fun pins s u I r => thn (h pins s u I r) fun _ s' ⟨σ', H', I', q⟩ => ⟨σ', H', I', k σ' H' q⟩
def gNil' : WGs := fun xs ε S Q => match xs with
  | [] => Q ε S
  | _ => False
def gCons' (g : WG) (gs : WGs) : WGs := fun xs ε S Q => match xs with
  | x :: xs => g x ε S (fun ε1 S1 => gs xs ε1 S1 Q)
  | [] => False
theorem jgs_nil : JGs G X [] [] gNil' := ⟨fun xs ε S Q q ws σ H re sr r => sGs_of pgs_nil (by
  cases xs with
  | nil => cases r; exact ⟨rfl, .refl _ _, ε, S, .refl _ _, sr, re, q⟩
  | cons x xs => exact (show False from q).elim)⟩
theorem jgs_cons {e : Expr} {es : List Expr} {vs ws : List Nat} {g : WG} {gs : WGs} (h1 : JG G X e vs g) (h2 : JGs G X es ws gs) (hs : (assignEach (e :: es) X.env).map (·.2) = assign e X.env :: (assignEach es X.env).map (·.2) := by rfl) : JGs G X (e :: es) (vs ++ ws) (gCons' g gs) :=
  ⟨fun xs ε S Q q us σ H re sr r => sGs_of (pgs_cons pg_sG pgs_sGs hs) (by
    cases xs with
    | nil => exact (show False from q).elim
    | cons x xs =>
      obtain ⟨v, vr, rfl, r1, r2⟩ := r
      refine ⟨v, vr, rfl, sG_mono (h1.run x ε S _ q v σ H re sr r1) fun σ1 H1 ⟨o1, ε1, S1, s1, sr1, re1, q1⟩ => ?_⟩
      refine sGs_mono (h2.run xs ε1 S1 Q q1 vr σ1 H1 re1 sr1 (reps_stay s1.st _ _ r2)) fun σ2 H2 ⟨o2, q2⟩ => ?_
      exact ⟨(o1.wider (by simp +contextual)).trans (o2.wider (by simp +contextual)), q2.mono s1⟩)⟩
def gTup' (n : Nat) (gs : WGs) : WG := fun x ε S Q => match x with
  | .tup xs => xs.length = n ∧ gs xs ε S Q
  | _ => False
theorem jg_tup {es : List Expr} {k n : Nat} {vs : List Nat} {gs : WGs} {pos : Pos} (hc : X.calm = true) (h : JGs G X es vs gs) (hn : (assignEach es X.env).length = n := by rfl) (hst : (assignEach es X.env).findIdx? (·.1) = none := by rfl) (hK : X.K = G.K := by rfl) : JG G X (.Tuple es k pos) vs (gTup' n gs) :=
  ⟨fun x ε S Q q v σ H re sr r => sG_of (pg_tup hc pgs_sGs hn hst) (by
    unfold gTup' at q
    split at q
    · obtain ⟨a, ws, rfl, ha, ra⟩ := r
      exact ⟨a, ws, rfl, hK ▸ ha, by rw [← reps_length ra]; exact q.1, h.run _ ε S Q q.2 ws σ H re sr ra⟩
    · exact q.elim)⟩
/-- o[i] = v -/
def oSet : PV → PV → PV → Sto → (Sto → Prop) → Prop := fun o i v S Q => match o, i with
  | .ref a, .int k => ∃ xs j, S a = some (.lst xs) ∧ ixN xs.length k = some j ∧ Q (supd S a (.lst (xs.set j v)))
  | _, _ => False
def gSub' (wo wi : WE) : WG := fun x ε S Q => wo ε S (fun o S1 => wi ε S1 (fun i S2 => oSet o i x S2 (fun S3 => Q ε S3)) fun _ _ => False) fun _ _ => False
theorem exl_no {Wx : WX} : ExL G S H σ (fun _ _ => False) Wx := fun _ _ _ _ _ _ _ _ z => z.elim
theorem jg_sub {o i : Expr} {wo wi : WE} {pos : Pos} (ho : JE G X o wo) (hi : JE G X i wi)
    (ha : ∀ v, assign (.Subscript o i pos) X.env v = (do
      let ov ← holding [v] (eval o X.env)
      let iv ← holding [v, ov] (eval i X.env)
      standAt pos
      holding [v, ov, iv] (setItem ov iv v)
      release [v, ov, iv] []) := by intro _; rfl) : JG G X (.Subscript o i pos) [] (gSub' wo wi) :=
  ⟨fun x ε S Q q v σ H re sr r => sG_of (pg_sub pe_sE pe_sE set_list ha) (by
    refine ho.dn q re sr takes0 exl_no fun ov H1 ⟨ox, S1, s1, sr1, r1, w1⟩ => ?_
    refine hi.dn w1 (re.stay s1.st) sr1 takes0 exl_no fun iv H2 ⟨ix, S2, s2, sr2, r2, w2⟩ => ?_
    dsimp only [oSet] at w2
    split at w2
    · obtain ⟨xs, j, e, hj, q2⟩ := w2
      cases r1; cases r2
      obtain ⟨vs, ha, ra⟩ := lst_at sr2 e
      have s12 := s1.trans s2
      refine ⟨_, vs, _, j, rfl, rfl, ha, by rw [← reps_length ra]; exact hj, .refl _ _, ε, _, s12.trans (stp_setl e ha), sr_setl sr2 e ha (reps_set (rep_stay s12.st _ _ r) j ra), re.stay (s12.trans (stp_setl (ys := xs) (ws := vs.set j v) e ha)).st, q2⟩
    · exact w2.elim)⟩

/-! ### what is walked -/
structure Src where
  items : List PV
  keep : Sto → Prop
structure Walks (G : Gd) (S1 : Sto) (H1 : Hp) (J : It) (src : Src) : Prop where
  stop : ∀ H S, Stp S1 H1 S H → SR G H S → src.keep S → J.stop src.items.length H
  go : ∀ i x H S, Stp S1 H1 S H → SR G H S → src.keep S → src.items[i]? = some x → J.go i H ∧ ∀ v H', J.yld i H v H' → Same H H' ∧ Rep G.K H' x v
def sI (X : Cx) (tg iter : Expr) : TI := fun σ H R => ∀ pins s, Inv X pins σ H s → wpAny (model X.prog X.w) X.A (eval iter X.env) (fun v s1 => wpAny (model X.prog X.w) X.A (pyIter v) (PIE X pins σ tg R) X.xe s1) X.xe s
theorem pi_sI {tg iter : Expr} : PI X tg iter (sI X tg iter) := ⟨fun pins s σ H R I h => h pins s I⟩
theorem sI_of {tg iter : Expr} {wi : TI} {R : It → Hp → Prop} (h : PI X tg iter wi) (q : wi σ H R) : sI X tg iter σ H R := fun pins s I => h.run pins s σ H R I q
theorem sI_mono {tg iter : Expr} {R R' : It → Hp → Prop} (h : sI X tg iter σ H R) (k : ∀ J H', R J H' → R' J H') : sI X tg iter σ H R' := fun pins s I => thn (h pins s I) fun v s1 h1 => thn h1 fun itv s2 h2 => by
  obtain ⟨it, fp, tn, J, H', e, I', T, t0, f, r⟩ := h2
  exact ⟨it, fp, tn, J, H', e, I', T, t0, f, k J H' r⟩
abbrev WI := PEnv → Sto → (Src → Sto → Prop) → KX → Prop
structure JI (G : Gd) (X : Cx) (tg iter : Expr) (w : WI) : Prop where
  run : ∀ ε S (R : Src → Sto → Prop) (E : KX), w ε S R E → ∀ σ H, Renv G.K H ε σ → SR G H S → ∀ Wx : WX, Takes X Wx → ExL G S H σ E Wx → sI X tg iter σ H (fun J H1 => ∃ src S1, Stp S H S1 H1 ∧ SR G H1 S1 ∧ Walks G S1 H1 J src ∧ R src S1)
/-- a list, a tuple, a text -/
def rSeq (K : PySem.W.Frag) (tl : TE) : TI := fun σ H R => tl σ H fun x H1 => (∃ a, x = .ref a ∧ (∃ xs, SqL K H1 a xs) ∧ R (Itl K a) H1) ∨ (∃ a, x = .ref a ∧ (∃ xs, SqT K H1 a xs) ∧ R (Itt K a) H1) ∨ ∃ z, x = .str z ∧ R (Its z) H1
theorem pi_seq {tg l : Expr} {tl : TE} (hl : PE X l tl) : PI X tg l (rSeq X.K tl) := by
  refine ⟨fun pins s σ H R I h => ?_⟩
  refine thn (hl.run pins s σ H _ I h) fun v s1 ⟨x, H1, I1, r1, q1⟩ => ?_
  rcases q1 with ⟨a, e, ⟨xs, hq⟩, q⟩ | ⟨a, e, ⟨xs, hq⟩, q⟩ | ⟨z, e, q⟩
  · subst e
    cases r1
    obtain ⟨its, rv, p, hz⟩ := I1.list hq
    refine wpAny_pyIter_list p.isList ?_
    refine ⟨s1.heap.objs.size, [s1.heap.objs.size], _, _, H1, rfl, I1.kept (t' := s1.toks) fun b o e => Heap.get?_push_of_some _ e, turn_list a _, ⟨_, Heap.get?_push_size _ rfl, rfl, rfl⟩, fun b hb => ?_, q⟩
    have e : b = s1.heap.objs.size := by simpa using hb
    subst e
    exact I1.fpOk (Nat.le_refl _) (I1.hok.fresh (Nat.le_refl _))
  · subst e
    cases r1
    obtain ⟨its, rv, p, hz⟩ := I1.tuple hq
    refine wpAny_pyIter_tuple (show s1.heap.IsTuple a its.toArray from p) ?_
    refine ⟨s1.heap.objs.size, [s1.heap.objs.size], _, _, H1, rfl, I1.kept (t' := s1.toks) fun b o e => Heap.get?_push_of_some _ e, turn_tuple a _, ⟨_, Heap.get?_push_size _ rfl, rfl, rfl⟩, fun b hb => ?_, q⟩
    have e : b = s1.heap.objs.size := by simpa using hb
    subst e
    exact I1.fpOk (Nat.le_refl _) (I1.hok.fresh (Nat.le_refl _))
  · subst e
    obtain ⟨t, rfl⟩ := r1
    cases ha : z.cps.all (· < 128)
    · exact wpAny_pyIter_wide ha (pi_one (tk := s1.toks) I1 _ (turn_str _ z t "str_iterator" (.inr rfl)) ⟨_, Heap.get?_push_size _ rfl, rfl, rfl⟩ q)
    · exact wpAny_pyIter_ascii ha (pi_one (tk := s1.toks) I1 _ (turn_str _ z t "str_ascii_iterator" (.inl rfl)) ⟨_, Heap.get?_push_size _ rfl, rfl, rfl⟩ q)

def signs (z : Str) : List PV := z.cps.toList.map fun c => .str ⟨#[c]⟩
def oIter : PV → Sto → (Src → Sto → Prop) → Prop := fun x S R => match x with
  | .tup xs => R ⟨xs, fun _ => True⟩ S
  | .ref a => ∃ xs, RdL S a xs ∧ R ⟨xs, fun S => RdL S a xs⟩ S
  | .str z => R ⟨signs z, fun _ => True⟩ S
  | _ => False
def iSeq (w : WE) : WI := fun ε S R E => w ε S (fun x S1 => oIter x S1 R) E
theorem ji_seq {tg e : Expr} {w : WE} (h : JE G X e w) (hK : X.K = G.K := by rfl) : JI G X tg e (iSeq w) :=
  ⟨fun ε S R E q σ H re sr Wx tk ex => sI_of (pi_seq pe_sE) (by
    refine h.dn q re sr tk ex fun v H1 ⟨x, S1, s1, sr1, r1, w1⟩ => ?_
    dsimp only [oIter] at w1
    split at w1
    · rename_i xs
      obtain ⟨a, vs, rfl, ha, ra⟩ := r1
      refine .inr (.inl ⟨a, rfl, ⟨vs, hK ▸ ha⟩, _, S1, s1, sr1, ⟨fun H S st _ _ => ⟨vs, hK ▸ st.st.sq ha, by rw [← reps_length ra]; exact Nat.le_refl _⟩, fun i x H S st _ _ hx => ?_⟩, w1⟩)
      obtain ⟨v, hv, rv⟩ := reps_get ra hx
      refine ⟨⟨vs, v, hK ▸ st.st.sq ha, hv⟩, fun u H' ⟨e, y⟩ => ?_⟩
      subst e
      have := y vs (hK ▸ st.st.sq ha)
      rw [hv] at this
      cases this
      exact ⟨.refl _, rep_stay st.st _ _ rv⟩
    · rename_i a
      cases r1
      obtain ⟨xs, e, w1⟩ := w1
      obtain ⟨vs, ha, ra⟩ := rdl_at sr1 e
      refine .inl ⟨a, rfl, ⟨vs, hK ▸ ha⟩, _, S1, s1, sr1, ⟨fun H S st sr kp => ?_, fun i x H S st sr kp hx => ?_⟩, w1⟩
      · obtain ⟨vs, ha, ra⟩ := rdl_at sr kp
        exact ⟨vs, hK ▸ ha, by rw [← reps_length ra]; exact Nat.le_refl _⟩
      · obtain ⟨vs, ha, ra⟩ := rdl_at sr kp
        obtain ⟨v, hv, rv⟩ := reps_get ra hx
        refine ⟨⟨vs, v, hK ▸ ha, hv⟩, fun u H' ⟨e, y⟩ => ?_⟩
        subst e
        have := y vs (hK ▸ ha)
        rw [hv] at this
        cases this
        exact ⟨.refl _, rv⟩
    · rename_i z
      cases r1
      refine .inr (.inr ⟨z, rfl, _, S1, s1, sr1, ⟨fun H S st sr kp => ?_, fun i x H S st sr kp hx => ?_⟩, w1⟩)
      · show z.cps.size ≤ (signs z).length
        simp [signs]
      · have hx : (signs z)[i]? = some x := hx
        unfold signs at hx
        rw [List.getElem?_map] at hx
        cases hc : z.cps.toList[i]? with
        | none => rw [hc] at hx; cases hx
        | some c =>
          rw [hc] at hx
          have ex : PV.str ⟨#[c]⟩ = x := Option.some.inj hx
          subst ex
          have hi : i < z.cps.size := by
            have := (List.getElem?_eq_some_iff.mp hc).1
            simpa using this
          refine ⟨hi, fun u H' ⟨e, c', hc', eu⟩ => ?_⟩
          subst e
          refine ⟨.refl _, ?_⟩
          rw [eu]
          have : z.cps[i]? = some c := by rw [← Array.getElem?_toList]; exact hc
          rw [this] at hc'
          cases hc'
          rfl
    · exact w1.elim)⟩
/-- range(n), range(a, b) -/
def rangeP (lo : Int) (n : Nat) : List PV := (List.range n).map fun i => .int (lo + (i : Nat))
theorem walks_range {lo : Int} {n : Nat} : Walks G S1 H1 (Itr lo n) ⟨rangeP lo n, fun _ => True⟩ :=
  ⟨fun H S _ _ _ => by show n ≤ (rangeP lo n).length; simp [rangeP], fun i x H S _ _ _ hx => by
    have hx : (rangeP lo n)[i]? = some x := hx
    unfold rangeP at hx
    rw [List.getElem?_map] at hx
    by_cases hi : i < n
    · rw [List.getElem?_range hi] at hx
      have e : PV.int (lo + (i : Nat)) = x := Option.some.inj hx
      subst e
      exact ⟨hi, fun v H' ⟨e, ev⟩ => ⟨e ▸ .refl _, ev⟩⟩
    · rw [List.getElem?_eq_none (by simpa using hi)] at hx
      cases hx⟩
def iRange1 (w : WE) : WI := fun ε S R E => w ε S (fun x S1 => match x with
  | .int j => -(2 ^ 62) ≤ j ∧ j < 2 ^ 62 ∧ R ⟨rangeP 0 j.toNat, fun _ => True⟩ S1
  | _ => False) E
theorem ji_range1 {tg a : Expr} {w : WE} {p pos : Pos} (hg : Gl X "range") (hm : X.mg "range" = none) (h : JE G X a w) (hs : starEach [a] X.env = [(false, eval a X.env)] := by rfl) (hs2 : starEach [a] X.env = (false, eval a X.env) :: starEach [] X.env := by rfl) : JI G X tg (.Call (.Name "range" p) [a] [] pos) (iRange1 w) :=
  ⟨fun ε S R E q σ H re sr Wx tk ex => sI_of (pi_range1 hg hm (pa_cons pe_sE pa_nil hs2) hs) (by
    refine h.dn q re sr tk ex fun v H1 ⟨x, S1, s1, sr1, r1, w1⟩ => ?_
    dsimp only at w1
    split at w1
    · rename_i j
      cases r1
      exact ⟨j, rfl, w1.1, w1.2.1, _, S1, s1, sr1, walks_range, w1.2.2⟩
    · exact w1.elim)⟩
def iRange2 (wa wb : WE) : WI := fun ε S R E => wa ε S (fun x S1 => wb ε S1 (fun y S2 => match x, y with
  | .int i, .int j => (-(2 ^ 62) ≤ i ∧ i < 2 ^ 62 ∧ -(2 ^ 62) ≤ j ∧ j < 2 ^ 62) ∧ R ⟨rangeP i (j - i).toNat, fun _ => True⟩ S2
  | _, _ => False) E) E
theorem ji_range2 {tg a b : Expr} {wa wb : WE} {p pos : Pos} (hg : Gl X "range") (hm : X.mg "range" = none) (ha : JE G X a wa) (hb : JE G X b wb) (hs : starEach [a, b] X.env = [(false, eval a X.env), (false, eval b X.env)] := by rfl) (hs2 : starEach [b] X.env = [(false, eval b X.env)] := by rfl)
    (hs3 : starEach [a, b] X.env = (false, eval a X.env) :: starEach [b] X.env := by rfl) (hs4 : starEach [b] X.env = (false, eval b X.env) :: starEach [] X.env := by rfl) : JI G X tg (.Call (.Name "range" p) [a, b] [] pos) (iRange2 wa wb) :=
  ⟨fun ε S R E q σ H re sr Wx tk ex => sI_of (pi_range2 hg hm (pa_cons pe_sE (pa_cons pe_sE pa_nil hs4) hs3) hs hs2) (by
    refine ha.dn q re sr tk ex fun v H1 ⟨x, S1, s1, sr1, r1, w1⟩ => ?_
    refine hb.dn w1 (re.stay s1.st) sr1 tk (ex.mono s1) fun u H2 ⟨y, S2, s2, sr2, r2, w2⟩ => ?_
    dsimp only at w2
    split at w2
    · cases r1; cases r2
      exact ⟨_, _, rfl, w2.1, _, S2, s1.trans s2, sr2, walks_range, w2.2⟩
    · exact w2.elim)⟩
def rangeC (lo c : Int) (n : Nat) : List PV := (List.range n).map fun i => .int (lo + (i : Nat) * c)
theorem walks_rangeC {lo c : Int} {n : Nat} : Walks G S1 H1 (Itc lo c n) ⟨rangeC lo c n, fun _ => True⟩ :=
  ⟨fun H S _ _ _ => by show n ≤ (rangeC lo c n).length; simp [rangeC], fun i x H S _ _ _ hx => by
    have hx : (rangeC lo c n)[i]? = some x := hx
    unfold rangeC at hx
    rw [List.getElem?_map] at hx
    by_cases hi : i < n
    · rw [List.getElem?_range hi] at hx
      have e : PV.int (lo + (i : Nat) * c) = x := Option.some.inj hx
      subst e
      exact ⟨hi, fun v H' ⟨e, ev⟩ => ⟨e ▸ .refl _, ev⟩⟩
    · rw [List.getElem?_eq_none (by simpa using hi)] at hx
      cases hx⟩
def iRange3 (wa wb wc : WE) : WI := fun ε S R E => wa ε S (fun x S1 => wb ε S1 (fun y S2 => wc ε S2 (fun z S3 => match x, y, z with
  | .int i, .int j, .int c => ∃ n, RgC i j c n ∧ R ⟨rangeC i c n, fun _ => True⟩ S3
  | _, _, _ => False) E) E) E
end
/-! ### comprehensions -/
section
variable {G : Gd} {X : Cx} {H H1 : Hp} {S S1 : Sto} {σ : L2.St} {ε : PEnv}
def wipeP (ε : PEnv) : List Nat → PEnv
  | [] => ε
  | v :: vs => (wipeP ε vs).set v none
theorem Renv.wipe {K : PySem.W.Frag} (h : Renv K H ε σ) : ∀ vs : List Nat, Renv K H (wipeP ε vs) (L2.wipe σ vs)
  | [] => h
  | v :: vs => (Renv.wipe h vs).unset v
/-- an untracked list is written -/
theorem SR.hid {D : Addr} {vs ws : List V} (h : SR G H S) (n : S D = none) (e : H D = some (.lst vs)) : SR G (upd H D (.lst ws)) S ∧ Stay H (upd H D (.lst ws)) := by
  have stay : Stay H (upd H D (.lst ws)) := fun b xs r => by
    have nb : b ≠ D := fun z => by
      rcases r with r | ⟨v, r⟩
      · rw [z, e] at r; cases r
      · rw [z, e] at r; cases r
    rcases r with r | ⟨v, r⟩
    · exact .inl (by rw [upd_ne nb]; exact r)
    · exact .inr ⟨v, by rw [upd_ne nb]; exact r⟩
  refine ⟨⟨fun b o q => ?_, fun q hq => ?_, fun q hq => ?_, fun q hq => (h.cp q hq).stay stay⟩, stay⟩
  rotate_right
  · exact ⟨by rw [upd_ne (fun z => by have r := (h.fx q hq).1; rw [z, e] at r; cases r)]; exact (h.fx q hq).1, (h.fx q hq).2⟩
  · have nb : b ≠ D := fun z => by rw [z, n] at q; cases q
    refine (h.ok b o q).keep stay (fun u r => by rw [upd_ne nb]; exact r) fun c ec => ⟨ec, fun u r => ?_⟩
    rw [upd_ne (fun z => by rw [z, n] at ec; cases ec)]
    exact r
  · obtain ⟨ps, e1, e2, e3⟩ := h.tb q hq
    refine ⟨ps, by rw [upd_ne (fun z => by rw [z, e] at e1; cases e1)]; exact e1, e2, fun pos cv hc => ?_⟩
    obtain ⟨c, f1, f2⟩ := e3 pos cv hc
    exact ⟨c, f1, by rw [upd_ne (fun z => by rw [z, e] at f2; cases f2)]; exact f2⟩
/-- it is tracked from now on -/
theorem SR.track {D : Addr} {xs : List PV} {vs : List V} (h : SR G H S) (n : S D = none) (e : H D = some (.lst vs)) (r : Reps G.K H xs vs) : SR G H (supd S D (.lst xs)) := by
  refine ⟨fun b o q => ?_, h.tb, fun q hq => ⟨(h.fx q hq).1, by rw [supd_ne (fun z => by have r := (h.fx q hq).1; rw [z, e] at r; cases r)]; exact (h.fx q hq).2⟩, h.cp⟩
  by_cases hb : b = D
  · subst hb; rw [supd_same] at q; cases q; exact ⟨vs, e, r⟩
  · rw [supd_ne hb] at q
    refine (h.ok b o q).keep (.refl _) (fun u r => r) fun c ec => ⟨?_, fun u r => r⟩
    rw [supd_ne (fun z => by rw [z, n] at ec; cases ec)]
    exact ec
def wYes : WT := fun _ S Q _ => Q true S
/-- the turns of a comprehension: the items, the list so far -/
def lcW (keep : Sto → Prop) (g : WG) (wt : WT) (we : WE) (ε : PEnv) (K : List PV → Sto → Prop) : List PV → List PV → Sto → Prop
  | [], acc, S => keep S ∧ K acc S
  | x :: xs, acc, S => keep S ∧ g x ε S fun ε2 S2 => wt ε2 S2 (fun b S3 => if b = true then we ε2 S3 (fun y S4 => acc.length < sizeLine ∧ lcW keep g wt we ε K xs (acc ++ [y]) S4) (fun _ _ => False) else lcW keep g wt we ε K xs acc S3) fun _ _ => False
def wLc (wi : WI) (g : WG) (wt : WT) (we : WE) (vs : List Nat) : WE := fun ε S Q E => wi ε S (fun src S1 => lcW src.keep g wt we (wipeP ε vs) (fun acc S2 => ∀ D, S2 D = none → Q (.ref D) (supd S2 D (.lst acc))) src.items [] S1) E
theorem lcW_keep {keep : Sto → Prop} {g : WG} {wt : WT} {we : WE} {K : List PV → Sto → Prop} {xs acc : List PV} (h : lcW keep g wt we ε K xs acc S) : keep S := by
  cases xs with
  | nil => exact h.1
  | cons x xs => exact h.1
/-- the block's contexts -/
abbrev Blk (X : Cx) (scope : Scope) (P : Cx → Prop) : Prop := ∀ (s : Shared) (H : Hp) (C : Addr) (cl : List (Str × Addr)) (fp : List Addr), P (X.blk s H scope (compEnvC scope cl C X.env) fp)
theorem lc_dn {elt tg iter : Expr} {scope : Scope} {vs : List Nat} {wi : WI} {g : WG} {wt : WT} {we : WE} {tt : TT} (hi : JI G X tg iter wi) (hg : Blk X scope fun Y => JG G Y tg vs g)
    (ht : ∀ σ H ε S (Q : Bool → Sto → Prop) (K : Bool → Hp → Prop), Renv G.K H ε σ → SR G H S → wt ε S Q (fun _ _ => False) → (∀ b H', QT G S H Q b H' → K b H') → tt σ H K)
    (he : Blk X scope fun Y => JE G Y elt we) {Q : KE} {E : KX} {K : VK} (w : wLc wi g wt we vs ε S Q E) (re : Renv G.K H ε σ) (sr : SR G H S) {Wx : WX} (tk : Takes X Wx) (ex : ExL G S H σ E Wx) (k : ∀ v H', QL G S H Q v H' → K v H') :
    tLc (sI X tg iter) (fun v σ H Q => Blk X scope fun Y => sG Y tg v σ H Q) tt (fun σ H Q => Blk X scope fun Y => sE Y elt σ H Q) vs σ H K := by
  refine sI_mono (hi.run ε S _ E w σ H re sr Wx tk ex) fun J H1 ⟨src, S1, s1, sr1, wk, w1⟩ => ?_
  intro D hD
  have rw1 := (re.wipe vs).stay s1.st
  refine ⟨fun i m H' => m = src.items.length - i ∧ i ≤ src.items.length ∧ ∃ S' acc av, Stp S1 H1 S' H' ∧ SR G H' S' ∧ S' D = none ∧ H' D = some (.lst av) ∧ Reps G.K H' acc av ∧
      lcW src.keep g wt we (wipeP ε vs) (fun acc S2 => ∀ D, S2 D = none → Q (.ref D) (supd S2 D (.lst acc))) (src.items.drop i) acc S', ⟨_, rfl, Nat.zero_le _, S1, [], [], .same (same_upd hD), sr1.same (same_upd hD), sr1.free hD, upd_same, rfl, by simpa using w1⟩, ?_⟩
  rintro i m H' ⟨rfl, hi, S', acc, av, st, sr', nD, eD, ra, w'⟩
  have kp := lcW_keep w'
  by_cases hlt : i < src.items.length
  · right
    have hx : src.items[i]? = some src.items[i] := List.getElem?_eq_getElem hlt
    obtain ⟨go, yl⟩ := wk.go i _ H' S' st sr' kp hx
    rw [List.drop_eq_getElem_cons hlt] at w'
    refine ⟨go, _, fun H2 p => ⟨_, by omega, rfl, hlt, p⟩, fun v H2 y => ?_⟩
    obtain ⟨sm, rv⟩ := yl v H2 y
    have st2 := st.trans (Stp.same sm)
    have sr2 := sr'.same sm
    have eD2 := sm _ _ eD
    have ra2 := reps_stay (.of sm) _ _ ra
    intro s0 H0 C cl fp
    refine sG_mono ((hg s0 H0 C cl fp).run _ _ S' _ w'.2 v _ H2 (rw1.stay st2.st) sr2 rv) fun σ3 H3 ⟨on, ε3, S3, s3, sr3, re3, w3⟩ => ⟨on.wipe.trans (by
      rw [show L2.wipe (L2.wipe σ vs) vs = L2.wipe σ vs from (Only.wipe (vs := vs) (σ := σ) (σ' := L2.wipe σ vs) ⟨wipe_length _ _, fun k hk => wipe_out hk⟩)]), ?_⟩
    refine ht σ3 H3 ε3 S3 _ _ re3 sr3 w3 fun b H4 ⟨S4, s4, sr4, w4⟩ => ?_
    have eD4 := (s3.trans s4).fr D _ nD eD2 (fun _ z => by cases z)
    have ra4 := reps_stay (s3.trans s4).st _ _ ra2
    have st4 := st2.trans (s3.trans s4)
    cases b with
    | false =>
      rw [if_neg Bool.false_ne_true] at w4 ⊢
      exact ⟨S4, acc, av, st4, sr4, eD4.2, eD4.1, ra4, w4⟩
    | true =>
      rw [if_pos rfl] at w4 ⊢
      intro s0 H0 C cl fp
      refine (he s0 H0 C cl fp).dn w4 (re3.stay s4.st) sr4 takes0 exl_no fun y H5 ⟨y', S5, s5, sr5, r5, hz, w5⟩ => ?_
      have eD5 := s5.fr D _ eD4.2 eD4.1 (fun _ z => by cases z)
      have ra5 := reps_stay s5.st _ _ ra4
      obtain ⟨srh, sth⟩ := sr5.hid (ws := av ++ [y]) eD5.2 eD5.1
      have hD1 : H1 D = none := hD
      refine ⟨av, eD5.1, by rw [← reps_length ra5]; exact hz, S5, acc ++ [y'], av ++ [y], ?_, srh, eD5.2, upd_same, reps_append (reps_stay sth _ _ ra5) ⟨y, [], rfl, rep_stay sth _ _ r5, rfl⟩, w5⟩
      have st5 := st4.trans s5
      exact ⟨st5.st.trans sth, fun a o n e tt => by
        obtain ⟨e1, n1⟩ := st5.fr a o n e tt
        exact ⟨by rw [upd_ne (ne_of_none e hD1)]; exact e1, n1⟩⟩
  · left
    have e : i = src.items.length := by omega
    subst e
    refine ⟨wk.stop H' S' st sr' kp, ?_⟩
    rw [List.drop_eq_nil_of_le (Nat.le_refl _)] at w'
    have fin := w'.2 D nD
    refine k _ _ ⟨.ref D, _, s1.trans ⟨st.st, fun a o n e tt => ?_⟩, sr'.track nD eD ra, rfl, fin⟩
    obtain ⟨e1, n1⟩ := st.fr a o n e tt
    exact ⟨e1, by rw [supd_ne (ne_of_none e hD)]; exact n1⟩
theorem je_lc0 {elt tg iter : Expr} {scope : Scope} {own : List (Str × Nat)} {pos : Pos} {wi : WI} {g : WG} {we : WE} (hc : X.calm = true) (hN : X.N.Nodup) (hi : JI G X tg iter wi) (ok : BlkOk X.N X.env.scope scope own) (hg : Blk X scope fun Y => JG G Y tg (own.map (·.2)) g)
    (he : Blk X scope fun Y => JE G Y elt we) (hs : ∀ x, foldedSetIterable iter X.env x = pure x := by intro _; rfl) : JE G X (.ListComp elt [⟨tg, iter, [], 0⟩] scope pos) (wLc wi g wYes we (own.map (·.2))) :=
  ⟨fun ε S Q E w σ H re sr Wx tk ex => sE_of (pe_lc hc hN pi_sI ok (fun s H C cl fp => ⟨fun pins s' σ H v u Q I r h => h s _ C cl fp pins s' u I r⟩) (fun _ _ _ _ _ => pts_nil) (fun s H C cl fp => ⟨fun pins s' σ H Q I h => h s _ C cl fp pins s' I⟩) hs)
    (lc_dn hi hg (fun σ H ε S Q K re sr w k => k _ _ ⟨S, .refl _ _, sr, w⟩) he w re sr tk ex fun _ _ q => q)⟩
theorem je_lc1 {elt tg iter c : Expr} {scope : Scope} {own : List (Str × Nat)} {pos : Pos} {wi : WI} {g : WG} {wt : WT} {we : WE} (hc : X.calm = true) (hN : X.N.Nodup) (hi : JI G X tg iter wi) (ok : BlkOk X.N X.env.scope scope own) (hg : Blk X scope fun Y => JG G Y tg (own.map (·.2)) g)
    (ht : Blk X scope fun Y => JT G Y c wt) (he : Blk X scope fun Y => JE G Y elt we) (hs : ∀ x, foldedSetIterable iter X.env x = pure x := by intro _; rfl) : JE G X (.ListComp elt [⟨tg, iter, [c], 0⟩] scope pos) (wLc wi g wt we (own.map (·.2))) :=
  ⟨fun ε S Q E w σ H re sr Wx tk ex => sE_of (pe_lc hc hN pi_sI ok (fun s H C cl fp => ⟨fun pins s' σ H v u Q I r h => h s _ C cl fp pins s' u I r⟩) (fun s H C cl fp => pts_one (t := fun σ H Q => Blk X scope fun Y => sT Y c σ H Q) ⟨fun pins s' σ H Q I h => h s _ C cl fp pins s' I⟩) (fun s H C cl fp => ⟨fun pins s' σ H Q I h => h s _ C cl fp pins s' I⟩) hs)
    (lc_dn hi hg (fun σ H ε S Q K re sr w k s0 H0 C cl fp => (ht s0 H0 C cl fp).dn w re sr takes0 exl_no k) he w re sr tk ex fun _ _ q => q)⟩
end
end L3

set_option Elab.async false
set_option linter.all false
set_option maxRecDepth 100000
set_option maxHeartbeats 4000000
namespace L3
open PySem PySem.Spec L2
open PyProof.Rows hiding St
section
variable {G : Gd} {X : Cx} {H H1 : Hp} {S S1 : Sto} {σ : L2.St} {ε : PEnv}
theorem JS.dn {st : Stmt} {w : WS} (h : JS G X st w) {D : PD} {K : Ends} (q : w D ε S) (re : Renv G.K H ε σ) (sr : SR G H S) {Wx : WX} (tk : Takes X Wx) (ex : ExS G S H D.ex Wx) (k : EndsLe (EndsL G S H D) K) : sS X st K σ H := sS_mono (h.run D ε S q σ H re sr Wx tk ex) k
theorem JSs.dn {st : List Stmt} {w : WS} (h : JSs G X st w) {D : PD} {K : Ends} (q : w D ε S) (re : Renv G.K H ε σ) (sr : SR G H S) {Wx : WX} (tk : Takes X Wx) (ex : ExS G S H D.ex Wx) (k : EndsLe (EndsL G S H D) K) : sSs X st K σ H := sSs_mono (h.run D ε S q σ H re sr Wx tk ex) k
/-! ### blocks -/
def wNext : WS := fun D ε S => D.nx ε S
def wSeq (a b : WS) : WS := fun D ε S => a { D with nx := b D } ε S
/-- less is known -/
def wSub (w : WS) : WS := fun D ε S => ∃ ε' S', Le ε' ε ∧ Sub S' S ∧ w D ε' S'
theorem jss_nil : JSs G X [] wNext := ⟨fun D ε S q σ H re sr Wx tk ex => sSs_of pss_nil ⟨ε, S, .refl _ _, sr, re, q⟩⟩
theorem jss_one {st : Stmt} {w : WS} (h : JS G X st w) : JSs G X [st] w := ⟨fun D ε S q σ H re sr Wx tk ex => sSs_of (pss_one ps_sS) (h.run D ε S q σ H re sr Wx tk ex)⟩
theorem jss_cons {st : Stmt} {rest : List Stmt} {a b : WS} (ha : JS G X st a) (hb : JSs G X rest b) : JSs G X (st :: rest) (wSeq a b) :=
  ⟨fun D ε S q σ H re sr Wx tk ex => sSs_of (pss_cons ps_sS pss_sSs) (by
    refine ha.dn (D := { D with nx := b D }) q re sr tk ex ⟨fun σ1 H1 ⟨ε1, S1, s1, sr1, re1, q1⟩ => ?_, fun _ _ q => q, fun _ _ q => q, fun _ _ q => q⟩
    exact hb.dn q1 re1 sr1 tk (ex.mono s1) (EndsL.mono s1 D))⟩
theorem jss_sub {sts : List Stmt} {w : WS} (h : JSs G X sts w) : JSs G X sts (wSub w) := ⟨fun D ε S ⟨ε', S', l, sb, q⟩ σ H re sr Wx tk ex => by
  have pre : ∀ {S2 : Sto} {H2 : Hp}, Stp S' H S2 H2 → Stp S H S2 H2 := fun st => st.pre sb
  refine h.dn q (re.le l) (sr.sub sb) tk (fun n ε2 S2 cls d σ2 H2 st => ex n ε2 S2 cls d σ2 H2 (pre st)) ⟨?_, ?_, ?_, ?_⟩
  · exact fun _ _ ⟨e, s, st, r⟩ => ⟨e, s, pre st, r⟩
  · exact fun _ _ ⟨e, s, st, r⟩ => ⟨e, s, pre st, r⟩
  · exact fun _ _ ⟨e, s, st, r⟩ => ⟨e, s, pre st, r⟩
  · exact fun _ _ ⟨e, s, st, r⟩ => ⟨e, s, pre st, r⟩⟩
/-! ### small statements -/
def wBreak : WS := fun D ε S => D.bk ε S
def wCont : WS := fun D ε S => D.ct ε S
theorem js_pass {pos : Pos} : JS G X (.Pass pos) wNext := ⟨fun D ε S q σ H re sr Wx tk ex => sS_of ps_pass ⟨ε, S, .refl _ _, sr, re, q⟩⟩
theorem js_break {pos : Pos} : JS G X (.Break pos) wBreak := ⟨fun D ε S q σ H re sr Wx tk ex => sS_of ps_break ⟨ε, S, .refl _ _, sr, re, q⟩⟩
theorem js_continue {pos : Pos} : JS G X (.Continue pos) wCont := ⟨fun D ε S q σ H re sr Wx tk ex => sS_of ps_continue ⟨ε, S, .refl _ _, sr, re, q⟩⟩
def wAsg (w : WE) (g : WG) : WS := fun D ε S => w ε S (fun x S1 => g x ε S1 D.nx) (fun n S1 => D.ex n ε S1)
abbrev wSet (i : Nat) (w : WE) : WS := wAsg w (gN i)
theorem asg_end {tg : Expr} {vs : List Nat} {g : WG} {D : PD} {x : PV} {v : V} (hg : JG G X tg vs g) (s1 : Stp S H S1 H1) (re : Renv G.K H ε σ) (sr : SR G H1 S1) (r : Rep G.K H1 x v) (q : g x ε S1 D.nx) : sG X tg v σ H1 (EndsL G S H D).nx :=
  sG_mono (hg.run x ε S1 D.nx q v σ H1 (re.stay s1.st) sr r) fun _ _ ⟨_, q⟩ => q.mono s1
theorem js_asg {tg e : Expr} {vs : List Nat} {w : WE} {g : WG} {pos : Pos} (he : JE G X e w) (hg : JG G X tg vs g) (hs : swapsWithSole [tg] e pos.line X.env = pure false := by rfl) (hw : swappedStores [tg] e X.env = pure none := by rfl)
    (h1 : (assignEach [tg] X.env).map (·.2) = [assign tg X.env] := by rfl) : JS G X (.Assign [tg] e pos) (wAsg w g) :=
  ⟨fun D ε S q σ H re sr Wx tk ex => sS_of (ps_asg pe_sE pg_sG hs hw h1) (he.dn q re sr tk (ex.ofL re) fun v H1 ⟨x, S1, s1, sr1, r1, q1⟩ => asg_end hg s1 re sr1 r1 q1)⟩
theorem js_set {i : Nat} {x : Str} {e : Expr} {w : WE} {pos pos' : Pos} (hN : X.N.Nodup) (hi : X.N[i]? = some x) (hx : Loc X.env.scope x) (he : JE G X e w) (hs : swapsWith e (some (.Name x pos')) pos.line X.env = pure false := by rfl) (hf : X.fn x = true ∨ X.env.scope.names.lookup x = some .local := by first | exact .inl rfl | exact .inr rfl | assumption) :
    JS G X (.Assign [.Name x pos'] e pos) (wSet i w) :=
  ⟨fun D ε S q σ H re sr Wx tk ex => sS_of (ps_set hN hi hx pe_sE hs hf) (he.dn q re sr tk (ex.ofL re) fun v H1 ⟨y, S1, s1, sr1, r1, q1⟩ => ⟨_, S1, s1, sr1, (re.stay s1.st).set i r1, q1⟩)⟩
theorem js_setLc0 {i : Nat} {y : Str} {py : Pos} {elt tg iter : Expr} {scope : Scope} {own : List (Str × Nat)} {pos spos : Pos} {wi : WI} {g : WG} {we : WE} (hc : X.calm = true) (hN : X.N.Nodup) (hy : X.N[i]? = some y) (hyl : X.env.scope.names.lookup y = some .local)
    (hsw : swapsWith (.ListComp elt [⟨tg, iter, [], 0⟩] scope pos) (some (.Name y py)) spos.line X.env = pure true) (hi : JI G X tg iter wi) (ok : BlkOk X.N X.env.scope scope own) (hg : Blk X scope fun Y => JG G Y tg (own.map (·.2)) g) (he : Blk X scope fun Y => JE G Y elt we)
    (hs : ∀ x, foldedSetIterable iter X.env x = pure x := by intro _; rfl) : JS G X (.Assign [.Name y py] (.ListComp elt [⟨tg, iter, [], 0⟩] scope pos) spos) (wSet i (wLc wi g wYes we (own.map (·.2)))) :=
  ⟨fun D ε S w σ H re sr Wx tk ex => sS_of (ps_setLc hc hN hy hyl hsw pi_sI ok (fun s H C cl fp => ⟨fun pins s' σ H v u Q I r h => h s _ C cl fp pins s' u I r⟩) (fun _ _ _ _ _ => pts_nil) (fun s H C cl fp => ⟨fun pins s' σ H Q I h => h s _ C cl fp pins s' I⟩) hs)
    (lc_dn hi hg (fun σ H ε S Q K re sr w k => k _ _ ⟨S, .refl _ _, sr, w⟩) he w re sr tk (ex.ofL re) fun v H1 ⟨x, S1, s1, sr1, r1, q1⟩ => ⟨_, S1, s1, sr1, (re.stay s1.st).set i r1, q1⟩)⟩
theorem js_setLc1 {i : Nat} {y : Str} {py : Pos} {elt tg iter c : Expr} {scope : Scope} {own : List (Str × Nat)} {pos spos : Pos} {wi : WI} {g : WG} {wt : WT} {we : WE} (hc : X.calm = true) (hN : X.N.Nodup) (hy : X.N[i]? = some y) (hyl : X.env.scope.names.lookup y = some .local)
    (hsw : swapsWith (.ListComp elt [⟨tg, iter, [c], 0⟩] scope pos) (some (.Name y py)) spos.line X.env = pure true) (hi : JI G X tg iter wi) (ok : BlkOk X.N X.env.scope scope own) (hg : Blk X scope fun Y => JG G Y tg (own.map (·.2)) g) (ht : Blk X scope fun Y => JT G Y c wt) (he : Blk X scope fun Y => JE G Y elt we)
    (hs : ∀ x, foldedSetIterable iter X.env x = pure x := by intro _; rfl) : JS G X (.Assign [.Name y py] (.ListComp elt [⟨tg, iter, [c], 0⟩] scope pos) spos) (wSet i (wLc wi g wt we (own.map (·.2)))) :=
  ⟨fun D ε S w σ H re sr Wx tk ex => sS_of (ps_setLc hc hN hy hyl hsw pi_sI ok (fun s H C cl fp => ⟨fun pins s' σ H v u Q I r h => h s _ C cl fp pins s' u I r⟩) (fun s H C cl fp => pts_one (t := fun σ H Q => Blk X scope fun Y => sT Y c σ H Q) ⟨fun pins s' σ H Q I h => h s _ C cl fp pins s' I⟩) (fun s H C cl fp => ⟨fun pins s' σ H Q I h => h s _ C cl fp pins s' I⟩) hs)
    (lc_dn hi hg (fun σ H ε S Q K re sr w k s0 H0 C cl fp => (ht s0 H0 C cl fp).dn w re sr takes0 exl_no k) he w re sr tk (ex.ofL re) fun v H1 ⟨x, S1, s1, sr1, r1, q1⟩ => ⟨_, S1, s1, sr1, (re.stay s1.st).set i r1, q1⟩)⟩
/-- a, b = x, y -/
def wPar (i j : Nat) (w : WA) : WS := fun D ε S => w ε S (fun xs S1 => match xs with
  | [x, y] => D.nx ((ε.set i (some x)).set j (some y)) S1
  | _ => False) (fun n S1 => D.ex n ε S1)
theorem js_par {i j : Nat} {x y : Str} {a b : Expr} {w : WA} {px py pt pos : Pos} {kt k2 pt2} (hc : X.calm = true) (hN : X.N.Nodup) (hi : X.N[i]? = some x) (hj : X.N[j]? = some y) (hij : i ≠ j)
    (hx : X.env.scope.names.lookup x = some .local) (hy : X.env.scope.names.lookup y = some .local) (ha : JA G X [a, b] w)
    (hw : swappedStores [.Tuple [.Name x px, .Name y py] kt pt] (.Tuple [a, b] k2 pt2) X.env = pure (some [x, y]))
    (hs : swapsWithSole [.Tuple [.Name x px, .Name y py] kt pt] (.Tuple [a, b] k2 pt2) pos.line X.env = pure false := by rfl) :
    JS G X (.Assign [.Tuple [.Name x px, .Name y py] kt pt] (.Tuple [a, b] k2 pt2) pos) (wPar i j w) :=
  ⟨fun D ε S q σ H re sr Wx tk ex => sS_of (ps_par hc hN hi hj hij hx hy pa_sA hw hs) (by
    refine ha.dn q re sr tk (ex.ofL re) fun vs H1 ⟨xs, S1, s1, sr1, r1, q1⟩ => ?_
    dsimp only at q1
    split at q1
    · obtain ⟨v, u, rfl, rv, ru⟩ := reps2 r1
      exact ⟨v, u, rfl, _, S1, s1, sr1, ((re.stay s1.st).set i rv).set j ru, q1⟩
    · exact q1.elim)⟩
def wPar3 (i j l : Nat) (w : WA) : WS := fun D ε S => w ε S (fun xs S1 => match xs with
  | [x, y, z] => D.nx (((ε.set i (some x)).set j (some y)).set l (some z)) S1
  | _ => False) (fun n S1 => D.ex n ε S1)
theorem js_par3 {i j l : Nat} {x y z : Str} {a b c : Expr} {w : WA} {px py pz pt pos : Pos} {kt k2 pt2} (hc : X.calm = true) (hN : X.N.Nodup) (hi : X.N[i]? = some x) (hj : X.N[j]? = some y) (hl : X.N[l]? = some z) (hij : i ≠ j) (hil : i ≠ l) (hjl : j ≠ l)
    (hx : X.env.scope.names.lookup x = some .local) (hy : X.env.scope.names.lookup y = some .local) (hz : X.env.scope.names.lookup z = some .local) (ha : JA G X [a, b, c] w)
    (hw : swappedStores [.Tuple [.Name x px, .Name y py, .Name z pz] kt pt] (.Tuple [a, b, c] k2 pt2) X.env = pure (some [x, y, z]))
    (hs : swapsWithSole [.Tuple [.Name x px, .Name y py, .Name z pz] kt pt] (.Tuple [a, b, c] k2 pt2) pos.line X.env = pure false := by rfl) :
    JS G X (.Assign [.Tuple [.Name x px, .Name y py, .Name z pz] kt pt] (.Tuple [a, b, c] k2 pt2) pos) (wPar3 i j l w) :=
  ⟨fun D ε S q σ H re sr Wx tk ex => sS_of (ps_par3 hc hN hi hj hl hij hil hjl hx hy hz pa_sA hw hs) (by
    refine ha.dn q re sr tk (ex.ofL re) fun vs H1 ⟨xs, S1, s1, sr1, r1, q1⟩ => ?_
    dsimp only at q1
    split at q1
    · obtain ⟨v, ws, rfl, rv, rs⟩ := r1
      obtain ⟨u, t, rfl, ru, rt⟩ := reps2 rs
      exact ⟨v, u, t, rfl, _, S1, s1, sr1, (((re.stay s1.st).set i rv).set j ru).set l rt, q1⟩
    · exact q1.elim)⟩
def wExpr (w : WE) : WS := fun D ε S => w ε S (fun _ S1 => D.nx ε S1) (fun n S1 => D.ex n ε S1)
theorem js_expr {e : Expr} {w : WE} {pos : Pos} (he : JE G X e w) (hs : swapsWith e none pos.line X.env = pure false := by rfl) : JS G X (.Expr e pos) (wExpr w) :=
  ⟨fun D ε S q σ H re sr Wx tk ex => sS_of (ps_expr pe_sE hs) (he.dn q re sr tk (ex.ofL re) fun v H1 ⟨x, S1, s1, sr1, r1, q1⟩ => ⟨ε, S1, s1, sr1, re.stay s1.st, q1⟩)⟩
def wRet (w : WE) : WS := fun D ε S => w ε S D.rt (fun n S1 => D.ex n ε S1)
theorem js_ret {e : Expr} {w : WE} {pos : Pos} (he : JE G X e w) : JS G X (.Return (some e) pos) (wRet w) :=
  ⟨fun D ε S q σ H re sr Wx tk ex => sS_of (ps_ret pe_sE) (he.dn q re sr tk (ex.ofL re) fun _ _ q => q)⟩
def wRetN : WS := fun D _ S => D.rt .non S
theorem js_retN {pos : Pos} : JS G X (.Return none pos) wRetN := ⟨fun D ε S q σ H re sr Wx tk ex => sS_of ps_retN (ql_non sr q)⟩
def wIf (t : WT) (a b : WS) : WS := fun D ε S => t ε S (fun c S1 => if c = true then a D ε S1 else b D ε S1) (fun n S1 => D.ex n ε S1)
theorem js_if {c : Expr} {as bs : List Stmt} {t : WT} {a b : WS} {pos : Pos} (hc : JT G X c t) (ha : JSs G X as a) (hb : JSs G X bs b) : JS G X (.If c as bs pos) (wIf t a b) :=
  ⟨fun D ε S q σ H re sr Wx tk ex => sS_of (ps_if pt_sT pss_sSs pss_sSs) (by
    refine hc.dn q re sr tk (ex.ofL re) fun d H1 ⟨S1, s1, sr1, q1⟩ => ?_
    cases d with
    | true => exact ha.dn q1 (re.stay s1.st) sr1 tk (ex.mono s1) (EndsL.mono s1 D)
    | false => exact hb.dn q1 (re.stay s1.st) sr1 tk (ex.mono s1) (EndsL.mono s1 D))⟩
def wNever : WS := fun _ _ _ => False
theorem js_never {st : Stmt} : JS G X st wNever := ⟨fun _ _ _ q => q.elim⟩
theorem jss_never {st : List Stmt} : JSs G X st wNever := ⟨fun _ _ _ q => q.elim⟩

/-! ### loops -/
/-- the turns of a for: the items that are left -/
def forW (keep : Sto → Prop) (g : WG) (body : WS) (D : PD) : List PV → PEnv → Sto → Prop
  | [], ε, S => keep S ∧ D.nx ε S
  | x :: xs, ε, S => keep S ∧ g x ε S fun ε1 S1 => body { nx := fun ε2 S2 => ∃ ε3 S3, Le ε3 ε2 ∧ Sub S3 S2 ∧ forW keep g body D xs ε3 S3, rt := D.rt, bk := D.nx, ct := fun ε2 S2 => ∃ ε3 S3, Le ε3 ε2 ∧ Sub S3 S2 ∧ forW keep g body D xs ε3 S3, ex := D.ex } ε1 S1
def wFor (wi : WI) (g : WG) (body : WS) : WS := fun D ε S => wi ε S (fun src S1 => forW src.keep g body D src.items ε S1) (fun n S1 => D.ex n ε S1)
theorem forW_keep {keep : Sto → Prop} {g : WG} {body : WS} {D : PD} {xs : List PV} (h : forW keep g body D xs ε S) : keep S := by
  cases xs with
  | nil => exact h.1
  | cons x xs => exact h.1
theorem js_for {tg iter : Expr} {body : List Stmt} {vs : List Nat} {wi : WI} {g : WG} {wb : WS} {pos : Pos} (hp : PassesOwn (model X.prog X.w) X.A X.env X.xe) (hc : X.calm = true) (hi : JI G X tg iter wi) (hg : JG G X tg vs g) (hb : JSs G X body wb)
    (hs : ∀ x, foldedSetIterable iter X.env x = pure x := by intro _; rfl) : JS G X (.For tg iter body [] pos) (wFor wi g wb) :=
  ⟨fun D ε S q σ H re sr Wx tk ex => sS_of (ps_for hp hc pi_sI pg_sG pss_sSs hs) (by
    refine sI_mono (hi.run ε S _ _ q σ H re sr Wx tk (ex.ofL re)) fun J H1 ⟨src, S1, s1, sr1, wk, w1⟩ => ?_
    refine ⟨fun i m σ' H' => m = src.items.length - i ∧ i ≤ src.items.length ∧ ∃ ε' S', Stp S1 H1 S' H' ∧ SR G H' S' ∧ Renv G.K H' ε' σ' ∧ forW src.keep g wb D (src.items.drop i) ε' S',
      ⟨_, rfl, Nat.zero_le _, ε, S1, .refl _ _, sr1, re.stay s1.st, by simpa using w1⟩, ?_⟩
    rintro i m σ' H' ⟨rfl, hle, ε', S', st, sr', re', w'⟩
    have kp := forW_keep w'
    have sx := s1.trans st
    by_cases hlt : i < src.items.length
    · right
      have hx : src.items[i]? = some src.items[i] := List.getElem?_eq_getElem hlt
      obtain ⟨go, yl⟩ := wk.go i _ H' S' st sr' kp hx
      rw [List.drop_eq_getElem_cons hlt] at w'
      refine ⟨go, _, fun σ2 H2 p => ⟨_, by omega, rfl, hlt, p⟩, fun v H2 y => ?_⟩
      obtain ⟨sm, rv⟩ := yl v H2 y
      have st2 := st.trans (Stp.same sm)
      refine sG_mono (hg.run _ ε' S' _ w'.2 v σ' H2 (re'.stay (.of sm)) (sr'.same sm) rv) fun σ3 H3 ⟨on, ε3, S3, s3, sr3, re3, w3⟩ => ?_
      have st3 := st2.trans s3
      have sx3 := s1.trans st3
      have again : ∀ {σ4 : L2.St} {H4 : Hp}, QS G S3 H3 (fun ε2 S2 => ∃ ε3 S3, Le ε3 ε2 ∧ Sub S3 S2 ∧ forW src.keep g wb D (src.items.drop (i + 1)) ε3 S3) σ4 H4 →
          ∃ ε' S', Stp S1 H1 S' H4 ∧ SR G H4 S' ∧ Renv G.K H4 ε' σ4 ∧ forW src.keep g wb D (src.items.drop (i + 1)) ε' S' := fun {σ4 H4} ⟨ε4, S4, s4, sr4, re4, ε5, S5, le, sb, w5⟩ =>
        ⟨ε5, S5, (st3.trans s4).sub sb, sr4.sub sb, re4.le le, w5⟩
      exact hb.dn w3 re3 sr3 tk (ex.mono sx3) ⟨fun _ _ q => again q, fun _ _ q => q.mono sx3, fun _ _ q => q.mono sx3, fun _ _ q => again q⟩
    · left
      have e : i = src.items.length := by omega
      subst e
      refine ⟨wk.stop H' S' st sr' kp, ?_⟩
      rw [List.drop_eq_nil_of_le (Nat.le_refl _)] at w'
      exact ⟨ε', S', sx, sr', re', w'.2⟩)⟩
def wWhile (c : WT) (body : WS) : WS := fun D ε S => ∃ P : Nat → PEnv → Sto → Prop, (∃ m, P m ε S) ∧ ∀ m ε S, P m ε S →
  c ε S (fun b S1 => if b = true then body { nx := fun ε2 S2 => ∃ m' ε3 S3, m' < m ∧ Le ε3 ε2 ∧ Sub S3 S2 ∧ P m' ε3 S3, rt := D.rt, bk := D.nx, ct := fun ε2 S2 => ∃ m' ε3 S3, m' < m ∧ Le ε3 ε2 ∧ Sub S3 S2 ∧ P m' ε3 S3, ex := D.ex } ε S1 else D.nx ε S1) (fun n S1 => D.ex n ε S1)
theorem js_while {c : Expr} {body : List Stmt} {wc : WT} {wb : WS} {pos : Pos} (hp : PassesOwn (model X.prog X.w) X.A X.env X.xe) (hc : JT G X c wc) (hb : JSs G X body wb) : JS G X (.While c body [] pos) (wWhile wc wb) :=
  ⟨fun D ε S ⟨P, ⟨m0, p0⟩, turn⟩ σ H re sr Wx tk ex => sS_of (ps_while hp pt_sT pss_sSs) (by
    refine ⟨fun m σ' H' => ∃ ε' S', Stp S H S' H' ∧ SR G H' S' ∧ Renv G.K H' ε' σ' ∧ P m ε' S', ⟨m0, ε, S, .refl _ _, sr, re, p0⟩, ?_⟩
    rintro m σ' H' ⟨ε', S', st, sr', re', p⟩
    refine hc.dn (turn m ε' S' p) re' sr' tk ((ex.mono st).ofL re') fun b H2 ⟨S2, s2, sr2, w2⟩ => ?_
    have st2 := st.trans s2
    cases b with
    | true =>
      rw [if_pos rfl] at w2 ⊢
      refine ⟨fun σ4 H4 => ∃ m', m' < m ∧ ∃ ε' S', Stp S H S' H4 ∧ SR G H4 S' ∧ Renv G.K H4 ε' σ4 ∧ P m' ε' S', fun σ4 H4 ⟨m', lt, q⟩ => ⟨m', lt, q⟩, ?_⟩
      have again : ∀ {σ4 : L2.St} {H4 : Hp}, QS G S2 H2 (fun ε2 S2 => ∃ m' ε3 S3, m' < m ∧ Le ε3 ε2 ∧ Sub S3 S2 ∧ P m' ε3 S3) σ4 H4 → ∃ m', m' < m ∧ ∃ ε' S', Stp S H S' H4 ∧ SR G H4 S' ∧ Renv G.K H4 ε' σ4 ∧ P m' ε' S' :=
        fun {σ4 H4} ⟨ε4, S4, s4, sr4, re4, m', ε5, S5, lt, le, sb, w5⟩ => ⟨m', lt, ε5, S5, (st2.trans s4).sub sb, sr4.sub sb, re4.le le, w5⟩
      exact hb.dn w2 (re'.stay s2.st) sr2 tk (ex.mono st2) ⟨fun _ _ q => again q, fun _ _ q => q.mono st2, fun _ _ q => q.mono st2, fun _ _ q => again q⟩
    | false =>
      rw [if_neg Bool.false_ne_true] at w2 ⊢
      exact ⟨ε', S2, st2, sr2, re'.stay s2.st, w2⟩)⟩
/-! ### raise -/
section
variable {C : Addr} {bmB : List Value} {B newId initId : String}
theorem pmk_own0 {x : Str} {p pos : Pos} (F : ExcBaseFacts B newId initId bmB) (q : PySem.W.excIn X.K C bmB newId = true) (gC : X.mg x = some (.ref C)) (kC : PySem.W.keepIn X.K (.ref C) = true) (r : Raises X (.ref C)) (hg : Gl X x)
    (hdb : (x == ("__debug__" : Str)) = false := by decide) : PMk X (.Call (.Name x p) [] [] pos) (fun _ H Q => Q (.ref C) none H) := by
  intro pins s σ H Q I h
  refine wpAny_Call_Name_kw (ld_glob I hg gC ?_ hdb)
  refine PySem.W.callWith_K0 I.kIn kC ?_
  show wpAny _ _ (call (.ref C) []) _ _ _
  obtain ⟨bm, N, nm, qn, bs, hdct, sn, sub, ab, col, dd, k0, k1, k2, k3, k5, mN, hC, hN, hni, T⟩ := exc_obj I.kIn q
  refine wpAny_call_exc_subT F T hC hN hni (fun h' e hm => ?_) (by show 0 ≤ sizeLine; exact Nat.zero_le _)
  exact mk_of I hm r h (I.hok.gone hm.new)
end
/-- an own class of error: at C -/
structure ExcT (G : Gd) (mg : Str → Option Value) (x : Str) (C : Addr) : Prop where
  ec : G.ec x = some C
  ei : PySem.W.excIn G.K C [.type "ValueError", .type "Exception", .type "BaseException", .type "object"] "ValueError.__new__" = true
  mg : mg x = some (.ref C)
  kp : PySem.W.keepIn G.K (.ref C) = true
  sb : PySem.W.subIn G.K (.ref C) (.type "BaseException") = some true
  ty : PySem.W.typeIn G.K (.ref C) = some (.type "type")
def wRaise (x : Str) : WS := fun D ε S => D.ex ⟨x, none⟩ ε S
theorem js_raise {x : Str} {C : Addr} {p pos pos' : Pos} (hc : X.calm = true) (T : ExcT G X.mg x C) (hg : Gl X x) (hdb : (x == ("__debug__" : Str)) = false := by decide) (hK : X.K = G.K := by rfl) : JS G X (.Raise (some (.Call (.Name x p) [] [] pos)) none pos') (wRaise x) :=
  ⟨fun D ε S q σ H re sr Wx tk ex => sS_of (ps_raise hc tk (pmk_own0 PySem.F.excBase_ValueError (hK ▸ T.ei) T.mg (hK ▸ T.kp) (raises_own (hK ▸ T.sb) (hK ▸ T.ty)) hg hdb)) (ex ⟨x, none⟩ ε S _ _ σ H (.refl _ _) sr re ⟨C, T.ec, rfl, rfl⟩ q)⟩
end
end L3

set_option Elab.async false
set_option linter.all false
set_option maxRecDepth 100000
set_option maxHeartbeats 4000000
namespace L3
open PySem PySem.Spec L2
open PyProof.Rows hiding St
section
variable {G : Gd} {X : Cx} {H H1 : Hp} {S S1 : Sto} {σ : L2.St} {ε : PEnv}
/-! ### methods of built-in types -/
def tyP (x : PV) (S : Sto) (T : String) : Prop := match x with
  | .str _ => T = "str"
  | .ref a => T = "list" ∧ ∃ xs, RdL S a xs
  | _ => False
theorem tyP_dn {x : PV} {v : V} {T : String} (sr : SR G H S) (r : Rep G.K H x v) (h : tyP x S T) : tyV G.K T v H := by
  cases x with
  | str y => cases r; exact h
  | ref a =>
    cases r
    obtain ⟨e, xs, h⟩ := h
    obtain ⟨vs, ha, _⟩ := rdl_at sr h
    exact .inl ⟨e, vs, ha⟩
  | _ => exact (show False from h).elim
abbrev OM := PV → List PV → Sto → KE → Prop
def MtL (G : Gd) (r : V → List V → Hp → VK → Prop) (o : OM) : Prop := ∀ H S x xs v vs Q (K : VK), SR G H S → Rep G.K H x v → Reps G.K H xs vs → (∀ v H', QL G S H Q v H' → K v H') → o x xs S Q → r v vs H K
def wBM0 (T : String) (o : OM) (wo : WE) : WE := fun ε S Q E => wo ε S (fun x S1 => tyP x S1 T ∧ o x [] S1 Q) E
def wBM (T : String) (o : OM) (wo : WE) (wa : WA) : WE := fun ε S Q E => wo ε S (fun x S1 => tyP x S1 T ∧ wa ε S1 (fun xs S2 => o x xs S2 Q) E) E
section
variable {o e : Expr} {es : List Expr} {wo : WE} {wa : WA} {name : Str} {apos cpos : Pos} {T id : String} {r : V → List V → Hp → VK → Prop} {om : OM}
theorem je_bm0 (pa : PlainAttrs T) (slot : Slot T name id) (hty : typeOf (.builtin id) = pure (.type "method_descriptor")) (hm : MtR X id r) (L : MtL G r om) (ho : JE G X o wo)
    (hbase : attributeBase o name X.env (eval o X.env) = eval o X.env := by rfl) (hline : (apos.endLine == cpos.line) = true := by rfl) (hK : X.K = G.K := by rfl) : JE G X (.Call (.Attribute o name apos) [] [] cpos) (wBM0 T om wo) :=
  ⟨fun ε S Q E w σ H re sr Wx tk ex => sE_of (pe_bm0 pa slot hty hm pe_sE hbase hline) (by
    refine ho.dn w re sr tk ex fun v H1 ⟨x, S1, s1, sr1, r1, ty, w1⟩ => ?_
    exact ⟨hK ▸ tyP_dn sr1 r1 ty, L H1 S1 x [] v [] Q _ sr1 r1 rfl (fun _ _ q => q.mono s1) w1⟩)⟩
theorem je_bm (pa : PlainAttrs T) (slot : Slot T name id) (hty : typeOf (.builtin id) = pure (.type "method_descriptor")) (hm : MtR X id r) (L : MtL G r om) (ho : JE G X o wo) (ha : JA G X (e :: es) wa)
    (hbase : attributeBase o name X.env (eval o X.env) = eval o X.env := by rfl)
    (hfew : ((backTo cpos (starEach (e :: es) X.env)).all (fun x => !x.1) && (backToKw cpos (keywordEach [] X.env)).all (fun x => x.1.isSome)
      && decide ((e :: es).length + ([] : List Keyword).length + (if ([] : List Keyword).isEmpty then 0 else 1) < 30)) = true := by rfl)
    (hline : (apos.endLine == cpos.line) = true := by rfl) (hs : starEach (e :: es) X.env = (false, eval e X.env) :: starEach es X.env := by rfl) (hplain : (backTo cpos (starEach es X.env)).any (·.1) = false := by rfl) (hK : X.K = G.K := by rfl) :
    JE G X (.Call (.Attribute o name apos) (e :: es) [] cpos) (wBM T om wo wa) :=
  ⟨fun ε S Q E w σ H re sr Wx tk ex => sE_of (pe_bm pa slot hty hm pe_sE pa_sA hbase hfew hline hs hplain) (by
    refine ho.dn w re sr tk ex fun v H1 ⟨x, S1, s1, sr1, r1, ty, w1⟩ => ?_
    refine ⟨hK ▸ tyP_dn sr1 r1 ty, ?_⟩
    refine ha.dn w1 (re.stay s1.st) sr1 tk (ex.mono s1) fun vs H2 ⟨xs, S2, s2, sr2, r2, w2⟩ => ?_
    exact L H2 S2 x xs v vs Q _ sr2 (rep_stay s2.st _ _ r1) r2 (fun _ _ q => q.mono (s1.trans s2)) w2)⟩
end
theorem reps_one {K : PySem.W.Frag} {x : PV} {v : V} (r : Rep K H x v) : Reps K H [x] [v] := ⟨v, [], rfl, r, rfl⟩
/-- a list is written by its method; the answer x -/
theorem ql_set {Q : KE} {xs ys : List PV} {vs ws : List V} {a : Addr} {x : PV} {v : V} (sr : SR G H S) (e : S a = some (.lst xs)) (hv : H a = some (.lst vs)) (r : Reps G.K H ys ws) (rx : Rep G.K H x v) (q : Q x (supd S a (.lst ys))) : QL G S H Q v (upd H a (.lst ws)) :=
  ⟨x, _, stp_setl e hv, sr_setl sr e hv r, rep_stay (stp_setl (ys := ys) (ws := ws) e hv).st _ _ rx, q⟩
def mAppend : OM := fun x xs S Q => match x, xs with
  | .ref a, [y] => ∃ ys, S a = some (.lst ys) ∧ ys.length < sizeLine ∧ Q .non (supd S a (.lst (ys ++ [y])))
  | _, _ => False
theorem ml_append : MtL G rAppend mAppend := fun H S x xs v vs Q K sr rx r k q => by
  unfold mAppend at q
  split at q
  · obtain ⟨w, rfl, rw⟩ := reps1 r
    cases rx
    obtain ⟨ys, e, hz, q⟩ := q
    obtain ⟨us, hu, ru⟩ := lst_at sr e
    exact ⟨_, us, w, rfl, rfl, hu, by rw [← reps_length ru]; exact hz, k _ _ (ql_set (x := .non) sr e hu (reps_append ru (reps_one rw)) rfl q)⟩
  · exact q.elim
theorem je_append {o e : Expr} {wo : WE} {wa : WA} {apos cpos : Pos} (ho : JE G X o wo) (ha : JA G X [e] wa) (hbase : attributeBase o "append" X.env (eval o X.env) = eval o X.env := by rfl)
    (hfew : ((backTo cpos (starEach [e] X.env)).all (fun x => !x.1) && (backToKw cpos (keywordEach [] X.env)).all (fun x => x.1.isSome)
      && decide ([e].length + ([] : List Keyword).length + (if ([] : List Keyword).isEmpty then 0 else 1) < 30)) = true := by rfl)
    (hline : (apos.endLine == cpos.line) = true := by rfl) (hs : starEach [e] X.env = (false, eval e X.env) :: starEach [] X.env := by rfl) (hplain : (backTo cpos (starEach [] X.env)).any (·.1) = false := by rfl) (hK : X.K = G.K := by rfl) :
    JE G X (.Call (.Attribute o "append" apos) [e] [] cpos) (wBM "list" mAppend wo wa) := je_bm PySem.F.plainAttrs_list PySem.F.slot_list_append PySem.F.type_list_append mt_append ml_append ho ha hbase hfew hline hs hplain hK
def mExtend : OM := fun x xs S Q => match x, xs with
  | .ref a, [.ref b] => ∃ ys zs, S a = some (.lst ys) ∧ S b = some (.lst zs) ∧ ys.length + zs.length ≤ sizeLine ∧ Q .non (supd S a (.lst (ys ++ zs)))
  | _, _ => False
theorem ml_extend : MtL G rExtend mExtend := fun H S x xs v vs Q K sr rx r k q => by
  unfold mExtend at q
  split at q
  · obtain ⟨w, rfl, rw⟩ := reps1 r
    cases rx; cases rw
    obtain ⟨ys, zs, e, e2, hz, q⟩ := q
    obtain ⟨us, hu, ru⟩ := lst_at sr e
    obtain ⟨ws, hw, rw⟩ := lst_at sr e2
    exact ⟨_, _, us, ws, rfl, rfl, hu, hw, by rw [← reps_length ru, ← reps_length rw]; exact hz, k _ _ (ql_set (x := .non) sr e hu (reps_append ru rw) rfl q)⟩
  · exact q.elim
def mPop : OM := fun x xs S Q => match x, xs with
  | .ref a, [] => ∃ ys y, S a = some (.lst ys) ∧ ys[ys.length - 1]? = some y ∧ Q y (supd S a (.lst ys.dropLast))
  | _, _ => False
theorem ml_pop : MtL G rPop mPop := fun H S x xs v vs Q K sr rx r k q => by
  unfold mPop at q
  split at q
  · cases rx; cases r
    obtain ⟨ys, y, e, ey, q⟩ := q
    obtain ⟨us, hu, ru⟩ := lst_at sr e
    obtain ⟨w, hw, rw⟩ := reps_get ru ey
    exact ⟨_, us, w, rfl, rfl, hu, by rw [← reps_length ru]; exact hw, k _ _ (ql_set sr e hu (reps_dropLast ru) rw q)⟩
  · exact q.elim
/-- flat values -/
def flatP : PV → Bool
  | .non => true
  | .bl _ => true
  | .int _ => true
  | .str _ => true
  | _ => false
def toV : PV → V
  | .non => .non
  | .bl b => .bl b
  | .int i => .int i
  | .str x => .str x
  | .ref a => .ref a
  | .ty n => .ty n
  | .tup _ => .non
def eqP (x y : PV) : Bool := eqV (toV x) (toV y)
theorem flat_rep {K : PySem.W.Frag} {x : PV} {v : V} (f : flatP x = true) (r : Rep K H x v) : v = toV x ∧ flatV v = true := by
  cases x with
  | non => cases r; exact ⟨rfl, rfl⟩
  | bl _ => cases r; exact ⟨rfl, rfl⟩
  | int _ => cases r; exact ⟨rfl, rfl⟩
  | str _ => cases r; exact ⟨rfl, rfl⟩
  | _ => cases f
theorem flat_reps {K : PySem.W.Frag} : ∀ {xs : List PV} {vs : List V}, xs.all flatP = true → Reps K H xs vs → vs = xs.map toV ∧ vs.all flatV = true
  | [], _, _, r => by cases r; exact ⟨rfl, rfl⟩
  | x :: xs, _, f, r => by
    obtain ⟨v, ws, rfl, r1, r2⟩ := r
    rw [List.all_cons, Bool.and_eq_true] at f
    obtain ⟨e1, f1⟩ := flat_rep f.1 r1
    obtain ⟨e2, f2⟩ := flat_reps f.2 r2
    exact ⟨by rw [e1, e2]; rfl, by rw [List.all_cons, f1, f2]; rfl⟩
/-- x in xs, not in -/
def oInN (neg : Bool) : O2 := fun x y S Q => match x, y with
  | .str i, .str j => Q (.bl (neg ^^ !(Builtin.Str.occurrences j i 0 j.length 1).isEmpty)) S
  | x, .tup xs => flatP x = true ∧ xs.all flatP = true ∧ Q (.bl (neg ^^ xs.any fun y => eqP y x)) S
  | x, .ref a => ∃ xs, RdL S a xs ∧ flatP x = true ∧ xs.all flatP = true ∧ Q (.bl (neg ^^ xs.any fun y => eqP y x)) S
  | _, _ => False
theorem inV_map {x : PV} {xs : List PV} : inV (toV x) (xs.map toV) = xs.any fun y => eqP y x := by
  unfold inV eqP
  rw [List.any_map]; rfl
abbrev rInAll (K : PySem.W.Frag) : R2 := fun x y H Q => (∃ i j, x = V.str i ∧ y = .str j ∧ Q (.bl (!(Builtin.Str.occurrences j i 0 j.length 1).isEmpty)) H) ∨ rIn K false x y H Q
abbrev rNinAll (K : PySem.W.Frag) : R2 := fun x y H Q => (∃ i j, x = V.str i ∧ y = .str j ∧ Q (.bl (!(!(Builtin.Str.occurrences j i 0 j.length 1).isEmpty))) H) ∨ rIn K true x y H Q
theorem in_seq {neg : Bool} {x : PV} {v u : V} {xs : List PV} {vs : List V} {a : Addr} {Q : KE} {K : VK} (sr : SR G H S) (rx : Rep G.K H x v) (hu : u = .ref a) (hs : SqL G.K H a vs ∨ SqT G.K H a vs) (rv : Reps G.K H xs vs) (k : ∀ v H', QL G S H Q v H' → K v H') (fx : flatP x = true) (fs : xs.all flatP = true)
    (q : Q (.bl (neg ^^ xs.any fun y => eqP y x)) S) : rIn G.K neg v u H K := by
  obtain ⟨e1, f1⟩ := flat_rep fx rx
  obtain ⟨e2, f2⟩ := flat_reps fs rv
  refine ⟨a, vs, hu, hs, f1, f2, k _ _ (ql_bl sr ?_)⟩
  rw [e1, e2, inV_map]
  cases neg <;> simpa using q
theorem opl_in : OpL G (rInAll G.K) (oInN false) := fun H S x y v u Q K sr rx ry k q => by
  unfold oInN at q
  split at q
  · cases rx; cases ry
    exact .inl ⟨_, _, rfl, rfl, k _ _ (ql_bl sr (by simpa using q))⟩
  · obtain ⟨a, vs, rfl, ha, ra⟩ := ry
    exact .inr (in_seq sr rx rfl (.inr ha) ra k q.1 q.2.1 q.2.2)
  · cases ry
    obtain ⟨xs, e, h1, h2, q⟩ := q
    obtain ⟨vs, ha, ra⟩ := rdl_at sr e
    exact .inr (in_seq sr rx rfl (.inl ha) ra k h1 h2 q)
  · exact q.elim
theorem opl_nin : OpL G (rNinAll G.K) (oInN true) := fun H S x y v u Q K sr rx ry k q => by
  unfold oInN at q
  split at q
  · cases rx; cases ry
    exact .inl ⟨_, _, rfl, rfl, k _ _ (ql_bl sr (by simpa using q))⟩
  · obtain ⟨a, vs, rfl, ha, ra⟩ := ry
    exact .inr (in_seq sr rx rfl (.inr ha) ra k q.1 q.2.1 q.2.2)
  · cases ry
    obtain ⟨xs, e, h1, h2, q⟩ := q
    obtain ⟨vs, ha, ra⟩ := rdl_at sr e
    exact .inr (in_seq sr rx rfl (.inl ha) ra k h1 h2 q)
  · exact q.elim
theorem je_in {a b : Expr} {wa wb : WE} {pos : Pos} (ha : JE G X a wa) (hb : JE G X b wb) (hm : behindInMarks .In b = false := by rfl) (hK : X.K = G.K := by rfl) : JE G X (.Compare a [.In] [b] pos) (wOp (oInN false) wa wb) := je_cmp (op_in_str.or (hK ▸ op_in_seq)) opl_in ha hb hm
theorem je_nin {a b : Expr} {wa wb : WE} {pos : Pos} (ha : JE G X a wa) (hb : JE G X b wb) (hm : behindInMarks .NotIn b = false := by rfl) (hK : X.K = G.K := by rfl) : JE G X (.Compare a [.NotIn] [b] pos) (wOp (oInN true) wa wb) := je_cmp (op_notin_str.or (hK ▸ op_notIn_seq)) opl_nin ha hb hm
theorem jt_in {a b : Expr} {wa wb : WE} {pos : Pos} (ha : JE G X a wa) (hb : JE G X b wb) (hm : behindInMarks .In b = false := by rfl) (hK : X.K = G.K := by rfl) : JT G X (.Compare a [.In] [b] pos) (wTest (wOp (oInN false) wa wb)) := jt_cmp (op_in_str.or (hK ▸ op_in_seq)) opl_in ha hb hm
theorem jt_nin {a b : Expr} {wa wb : WE} {pos : Pos} (ha : JE G X a wa) (hb : JE G X b wb) (hm : behindInMarks .NotIn b = false := by rfl) (hK : X.K = G.K := by rfl) : JT G X (.Compare a [.NotIn] [b] pos) (wTest (wOp (oInN true) wa wb)) := jt_cmp (op_notin_str.or (hK ▸ op_notIn_seq)) opl_nin ha hb hm
/-- list.count of flat things -/
def rCntF (K : PySem.W.Frag) : V → List V → Hp → VK → Prop := fun x xs H Q => ∃ (p : Addr) (ys : List V) (y : V), x = .ref p ∧ xs = [y] ∧ SqL K H p ys ∧ flatV y = true ∧ ys.all flatV = true ∧ Q (.int ((ys.countP fun z => eqV z y) : Nat)) H
theorem countP_eqU {x : V} : ∀ {xs : List V} {us : List Value}, Vals xs us → xs.all flatV = true → us.countP (eqU x) = xs.countP fun y => eqV y x
  | _, _, .nil, _ => rfl
  | y :: xs, u :: us, .cons r t, f => by
    rw [List.all_cons, Bool.and_eq_true] at f
    rw [List.countP_cons, List.countP_cons, eqU_of r f.1, countP_eqU t f.2]
theorem mt_countF : MtR X "list.count" (rCntF X.K) := by
  intro pins s σ H x xs v us Q I rx rxs h
  obtain ⟨p, ys, y, rfl, rfl, hs, fy, fs, q⟩ := h
  cases rx
  obtain ⟨u, rfl, ru⟩ := rxs.one
  obtain ⟨its, rv, ⟨⟨cls, dd, data, sl⟩, n, ho, hc, hdn, hd⟩, hlen⟩ := I.list hs
  simp only at hc hd
  subst hc hd
  refine call_meets PySem.F.slot_list_count ⟨_, ho, rfl⟩ PySem.F.entry_list_count (PySem.F.args_list_count_2 _ _)
    (SeqAt.list_countAt p its.toArray n dd sl u (eqU y)) ⟨ho, fun w hw => mem_eqAt ru fy rv fs w (by simpa using hw), ?_⟩
  have ec : its.toArray.toList.countP (eqU y) = ys.countP fun z => eqV z y := countP_eqU rv fs
  refine ⟨.int ((ys.countP fun z => eqV z y) : Nat), H, I.tok _, ⟨s.toks, ?_⟩, q⟩
  rw [ec]
def mCount : OM := fun x xs S Q => match x, xs with
  | .ref a, [y] => ∃ ys, RdL S a ys ∧ flatP y = true ∧ ys.all flatP = true ∧ Q (.int ((ys.countP fun z => eqP z y) : Nat)) S
  | _, _ => False
theorem ml_count : MtL G (rCntF G.K) mCount := fun H S x xs v vs Q K sr rx r k q => by
  unfold mCount at q
  split at q
  · rename_i a y
    obtain ⟨w, rfl, rw⟩ := reps1 r
    cases rx
    obtain ⟨ys, e, fy, fs, q⟩ := q
    obtain ⟨us, hu, ru⟩ := rdl_at sr e
    obtain ⟨e1, f1⟩ := flat_rep fy rw
    obtain ⟨e2, f2⟩ := flat_reps fs ru
    refine ⟨a, us, w, rfl, rfl, hu, f1, f2, k _ _ (ql_int sr ?_)⟩
    rw [e1, e2, List.countP_map]
    exact q
  · exact q.elim
def mIndex : OM := fun x xs S Q => match x, xs with
  | .ref a, [y] => ∃ (ys : List PV) (j : Nat) (z : PV), RdL S a ys ∧ flatP y = true ∧ ys.all flatP = true ∧ ys[j]? = some z ∧ eqP z y = true ∧ (∀ (m : Nat) (z' : PV), m < j → ys[m]? = some z' → eqP z' y = false) ∧ Q (.int (j : Nat)) S
  | _, _ => False
theorem ml_index : MtL G (rIndex G.K) mIndex := fun H S x xs v vs Q K sr rx r k q => by
  unfold mIndex at q
  split at q
  · rename_i a y
    obtain ⟨w, rfl, rw⟩ := reps1 r
    cases rx
    obtain ⟨ys, j, z, e, fy, fs, hz, ez, no, q⟩ := q
    obtain ⟨us, hu, ru⟩ := rdl_at sr e
    obtain ⟨e1, f1⟩ := flat_rep fy rw
    obtain ⟨e2, f2⟩ := flat_reps fs ru
    subst e1 e2
    refine ⟨a, _, _, j, toV z, rfl, rfl, hu, f1, f2, by rw [List.getElem?_map, hz]; rfl, ez, fun m z' hm e => ?_, k _ _ (ql_int sr q)⟩
    rw [List.getElem?_map] at e
    cases hy : ys[m]? with
    | none => rw [hy] at e; cases e
    | some t =>
      rw [hy] at e
      cases e
      exact no m t hm hy
  · exact q.elim

/-! ### calls of defs -/
abbrev PSp := List PV → Sto → KE → KX → Prop
/-- a promise by content -/
def liftSp (G : Gd) (sp : PSp) : Sp := fun vs H Q E => ∃ (xs : List PV) (S : Sto) (Q' : KE) (E' : KX), Reps G.K H xs vs ∧ SR G H S ∧ sp xs S Q' E' ∧ (∀ v H', QL G S H Q' v H' → Q v H') ∧ ∀ n S' cls d H', Stp S H S' H' → SR G H' S' → RepX G H' cls d n → E' n S' → E cls d H'
def wCall (sp : PSp) (w : WA) : WE := fun ε S Q E => w ε S (fun xs S1 => sp xs S1 Q E) E
/-- a def that keeps its promise wherever no repr is under way -/
structure FnG (P : Program) (w : World) (K : PySem.W.Frag) (mg : Str → Option Value) (base : Heap) (cx : CXT) (k : Nat) (f : Addr) (fd : FuncData) (ps : List Str) (sp : Sp) : Prop where
  len : ∀ vs H Q E, sp vs H Q E → vs.length = ps.length
  run : ∀ (A : Around) (outer : List Env) (s : Shared) (H : Hp) (args : Args) (us : List Value) (vs : List V) (Q : VK) (E : XK), A.guards = some [] → Room k A → Env0 P w K mg base A outer s H → BindsTo s fd args (ps.zip us) →
    Vals vs us → sp vs H Q E → codeAny (model P w) A (.call (.ref f) args) (CR cx outer P w H s Q E) s
theorem FnG.imp {P : Program} {w : World} {K : PySem.W.Frag} {mg : Str → Option Value} {base : Heap} {cx : CXT} {k : Nat} {f : Addr} {fd : FuncData} {ps : List Str} {sp sp' : Sp} (F : FnG P w K mg base cx k f fd ps sp) (h : ∀ vs H Q E, sp' vs H Q E → sp vs H Q E) : FnG P w K mg base cx k f fd ps sp' :=
  ⟨fun vs H Q E q => F.len vs H Q E (h vs H Q E q), fun A outer s H args us vs Q E g r e b v q => F.run A outer s H args us vs Q E g r e b v (h vs H Q E q)⟩
abbrev FnP (G : Gd) (P : Program) (w : World) (mg : Str → Option Value) (base : Heap) (k : Nat) (f : Addr) (fd : FuncData) (ps : List Str) (sp : PSp) : Prop := FnG P w G.K mg base (L2.CX P w) k f fd ps (liftSp G sp)
theorem call_runG {k : Nat} {f : Addr} {fd : FuncData} {ps : List Str} {sp : Sp} {pins : List (Addr × Obj)} {s : Shared} {Q : VK} {W : WX} {us : List Value} {vs : List V} (F : FnG X.prog X.w X.K X.mg X.base (L2.CX X.prog X.w) k f fd ps sp) (hgd : X.A.guards = some []) (hr : Room k X.A)
    (hb : Binds X.K fd ps []) (tk : Takes X W) (I : Inv X pins σ H s) (r : Vals vs us) (h : sp vs H Q fun cls d H' => W cls d σ H') : wpAny (model X.prog X.w) X.A (call (.ref f) us) (EP X pins σ Q) X.xe s := by
  have hn : us.length = ps.length := r.length.symm.trans (F.len _ _ _ _ h)
  have bd := hb s us I.kIn (by rw [List.append_nil]; exact hn)
  rw [List.append_nil] at bd
  refine wpAny_call (codeAny_mono (F.run X.A X.stack s H ⟨us, []⟩ us vs Q _ hgd hr I.env0 bd r h) fun res s' q => ?_)
  match res, q with
  | .error e, q => exact passAt tk σ pins H s e s' I q
  | .ok (.ret u), q => exact I.after q
  | .ok .next, q => exact (show False from q).elim
  | .ok .brk, q => exact (show False from q).elim
  | .ok .cont, q => exact (show False from q).elim
theorem je_call {x : Str} {p pos : Pos} {f : Addr} {fd : FuncData} {k : Nat} {ps : List Str} {sp : PSp} {e : Expr} {es : List Expr} {wa : WA} (F : FnG X.prog X.w X.K X.mg X.base (L2.CX X.prog X.w) k f fd ps (liftSp G sp)) (hgd : X.A.guards = some []) (hr : Room k X.A) (hg : Gl X x) (hm : X.mg x = some (.ref f)) (hk : PySem.W.keepIn X.K (.ref f) = true)
    (hb : Binds X.K fd ps []) (ha : JA G X (e :: es) wa) (hdb : (x == ("__debug__" : Str)) = false := by decide) (he : starEach (e :: es) X.env = (false, eval e X.env) :: starEach es X.env := by rfl) (hpl : (backTo pos (starEach es X.env)).any (·.1) = false := by rfl) : JE G X (.Call (.Name x p) (e :: es) [] pos) (wCall sp wa) :=
  ⟨fun ε S Q E w σ H re sr Wx tk ex => fun pins s I => by
    refine wpAny_Call_Name_kw (ld_glob I hg hm ?_ hdb)
    refine PySem.W.callWith_K (h₀ := X.base) I.ok.mod.kin hk ?_ he hpl
    refine thn (ha.dn w re sr tk ex (fun _ _ q => q) pos pins s I) fun us s1 ⟨vs, H1, I1, r, xs, S1, s1', sr1, r1, w1⟩ => ⟨I1.kIn, ?_⟩
    exact call_runG F hgd hr hb tk I1 r ⟨xs, S1, Q, E, r1, sr1, w1, fun _ _ q => q.mono s1', fun n S' cls d H' st => ex n S' cls d H' (s1'.trans st)⟩⟩
def startP (N : List Str) (xs : List PV) : PEnv := xs.map some ++ List.replicate (N.length - xs.length) none
theorem renv_start {K : PySem.W.Frag} {N : List Str} {xs : List PV} {vs : List V} (r : Reps K H xs vs) : Renv K H (startP N xs) (L2.start N vs) := by
  have hl := reps_length r
  refine ⟨by simp [startP, L2.start, hl], fun i x e => ?_⟩
  unfold startP at e
  by_cases hi : i < xs.length
  · rw [List.getElem?_append_left (by simpa using hi), List.getElem?_map] at e
    cases hx : xs[i]? with
    | none => rw [hx] at e; cases e
    | some y =>
      rw [hx] at e
      cases e
      obtain ⟨v, hv, rv⟩ := reps_get r hx
      refine ⟨v, ?_, rv⟩
      unfold L2.start
      rw [List.getElem?_append_left (by rw [List.length_map, ← hl]; exact hi), List.getElem?_map, hv]
      rfl
  · rw [List.getElem?_append_right (by simpa using hi)] at e
    have := List.mem_of_getElem? e
    rw [List.mem_replicate] at this
    cases this.2
/-- what a body is wanted for -/
def PD.fn (Q : KE) (E : KX) : PD := { nx := fun _ S => Q .non S, rt := Q, bk := fun _ _ => False, ct := fun _ _ => False, ex := fun n _ S => E n S }
section
variable {P : Program} {w : World} {mg : Str → Option Value} {base : Heap}
/-- another promise that follows -/
theorem FnP.imp {k : Nat} {f : Addr} {fd : FuncData} {ps : List Str} {sp sp' : PSp} (F : FnP G P w mg base k f fd ps sp) (h : ∀ xs S Q E, sp' xs S Q E → sp xs S Q E) : FnP G P w mg base k f fd ps sp' :=
  FnG.imp F fun vs H Q E ⟨xs, S, Q', E', r, sr, q, k⟩ => ⟨xs, S, Q', E', r, sr, h _ _ _ _ q, k⟩
end
end
end L3

set_option Elab.async false
set_option linter.all false
set_option maxRecDepth 100000
set_option maxHeartbeats 4000000
namespace L3
open PySem PySem.Spec L2
open PyProof.Rows hiding St
/-! ### try with clauses that may bear a name -/
abbrev ClT := Value × Option Nat × (Addr → Value → Option Addr → TS)
def endsOf (D : Ends) : Option Nat → Ends
  | none => D
  | some i => { nx := fun σ' H' => D.nx (σ'.set i none) H', rt := D.rt, bk := fun σ' H' => D.bk (σ'.set i none) H', ct := fun σ' H' => D.ct (σ'.set i none) H' }
def slotOf (σ : L2.St) (a : Addr) : Option Nat → L2.St
  | none => σ
  | some i => σ.set i (some (.ref a))
def wMix (K : PySem.W.Frag) (Wout : WX) (D : Ends) : List ClT → WX
  | [] => Wout
  | (c, oi, ts) :: r => fun cls d σ H => ∃ b, PySem.W.exmOne K cls c = some b ∧ (b = true → ∀ a, H a = none → ts a cls d (endsOf D oi) (slotOf σ a oi) H) ∧ (b = false → wMix K Wout D r cls d σ H)
inductive HdsX (X : Cx) : List ExceptHandler → List ClT → Prop
  | nil : HdsX X [] []
  | plain {x : Str} {c : Value} {ts : Addr → Value → Option Addr → TS} {b₀ : Stmt} {suite : List Stmt} {np pos' : Pos} {hds : List ExceptHandler} {l : List ClT} (hc : Names X x c)
      (hsu : ∀ (a : Addr) (oe : Obj) (cls : Value) (d : Option Addr) (pn : List (Addr × Obj)), Zc cls d oe → (∃ vs, oe.data = .fields vs) → PSs (X.suite a ((a, oe) :: pn)) (b₀ :: suite) (ts a cls d)) (r : HdsX X hds l) :
      HdsX X (.ExceptHandler (some (.Name x np)) none (b₀ :: suite) pos' :: hds) ((c, none, ts) :: l)
  | named {x n : Str} {i : Nat} {c : Value} {ts : Addr → Value → Option Addr → TS} {b₀ : Stmt} {suite : List Stmt} {np pos' : Pos} {hds : List ExceptHandler} {l : List ClT} (hi : X.N[i]? = some n) (hln : X.env.kindOf n = some .local) (hc : Names X x c)
      (hsu : ∀ (a : Addr) (oe : Obj) (cls : Value) (d : Option Addr) (pn : List (Addr × Obj)), Zc cls d oe → (∃ vs, oe.data = .fields vs) → PSs (X.suite a ((a, oe) :: pn)) (b₀ :: suite) (ts a cls d)) (r : HdsX X hds l) :
      HdsX X (.ExceptHandler (some (.Name x np)) (some n) (b₀ :: suite) pos' :: hds) ((c, some i, ts) :: l)
section
variable {X : Cx} {body : List Stmt} {h₀ : ExceptHandler} {hds : List ExceptHandler} {l : List ClT} {pos : Pos} {tb : WX → TS} {Wout : WX}
theorem ps_try_mix (hs : X.stack = X.env :: X.outer) (hf : X.env.frame = some X.env.locals) (hN : X.N.Nodup) (tk : Takes X Wout)
    (hb : ∀ (W : WX) (pn : List (Addr × Obj)) (xe : Value → Shared → Prop), Takes (X.tr pn xe) W → PassesOwn (model X.prog X.w) X.A X.env xe → PSs (X.tr pn xe) body (tb W))
    (hh : HdsX X (h₀ :: hds) l) : PS X (.Try body (h₀ :: hds) [] [] pos) (fun D σ H => tb (wMix X.K Wout D l) D σ H) := by
  refine ⟨fun pins s σ H D I h => ?_⟩
  have ok := I.ok
  have frm : X.A.frames = some (X.env :: X.outer) := by rw [ok.frames, hs]
  refine wpAny_Try_except ?_
  refine wpAny_mono ((hb (wMix X.K Wout D l) (X.pn ++ pins) (fun e s₁ => wpAny (model X.prog X.w) X.A (noteFrame e X.env) (fun _ s₂ => wpAny (model X.prog X.w) X.A (setFlight e none) (fun _ s₃ =>
    wpAny (model X.prog X.w) X.A (handleBy e X.env (h₀ :: hds)) (SP X pins D) X.xe s₃) X.xe s₂) X.xe s₁) (fun u s' air => ?_) PassesOwn.looking).run [] s σ H D (I.toTry _) h) (fun f s1 sp => ?_) (fun e s1 q => q)
  · obtain ⟨a, B, sI, pins', σ', H', cls, d, rfl, J', nb, up, sky, na, os, ag, w⟩ := air
    have J : Inv X pins σ' H' sI := J'.ofTry ok
    have sky2 : Sky B (X.env :: X.outer) a (Zc cls d) X.env.locals s'.heap := by rw [← hs]; exact sky
    show wpAny (model X.prog X.w) X.A (noteFrame (.ref a) X.env) _ _ _
    refine Sky.land Zc.steady frm hf sky2 fun h3 fl3 up3 => ?_
    have J3 : Inv X pins σ' H' { s' with heap := h3 } := J.landed nb fl3.1 (up.trans up3) os ag
    obtain ⟨oe3, vs3, he3, hz3, hd3⟩ := fl3.there
    have nfr : a ∉ frs (X.env :: X.outer) := fun hm => by
      obtain ⟨_, o', e', hnf⟩ := fl3.2.2.1.mem hm
      rw [he3] at e'; cases e'
      exact hnf _ hd3
    have nL : a ≠ X.env.locals := fun z => nfr (List.mem_filterMap.mpr ⟨X.env, List.mem_cons_self, by rw [hf, z]⟩)
    have nF : a ∉ X.fs := fun hm => by
      obtain ⟨e, he, q⟩ := List.mem_filterMap.mp hm
      exact nfr (List.mem_filterMap.mpr ⟨e, List.mem_cons_of_mem _ he, q⟩)
    have S3 := J3.suite he3 hd3 na nL nF
    have go : ∀ {hs' : List ExceptHandler} {l' : List ClT}, HdsX X hs' l' → wMix X.K Wout D l' cls d σ' H' → wpAny (model X.prog X.w) X.A (handleBy (.ref a) X.env hs') (SP X pins D) X.xe { s' with heap := h3 } := by
      intro hs' l' hk
      have ask : ∀ {x : Str} {c : Value} {np : Pos} {Q : Value → Shared → Prop} {E : Value → Shared → Prop}, Names X x c → Q c { s' with heap := h3 } → wpAny (model X.prog X.w) (X.A.mark (some (.ref a))) (eval (.Name x np) X.env) Q E { s' with heap := h3 } := fun {x c np Q E} nm q => by
        obtain ⟨hg, hdbg, hm | ⟨hm, hv, hnn⟩⟩ := nm
        · exact ld_glob (X := X.suite a ((a, oe3) :: (X.pn ++ pins))) S3 hg hm q hdbg
        · exact ld_blt (X := X.suite a ((a, oe3) :: (X.pn ++ pins))) S3 hg hm hv q hnn hdbg
      have tys : PySem.W.Looks (model X.prog X.w) h3 (typeOf (.ref a)) cls := fun A Q E s k q => wpAny_typeOf_ref (k _ _ he3) (by rw [hz3.1]; exact q)
      induction hk with
      | nil =>
        intro w
        refine wpAny_handleBy_nil ?_
        obtain ⟨k1, k2, k3, oe, vs, T, oT, ts', he, hz, hd, h1, hr⟩ := id fl3
        unfold PySem.passOn
        refine wpAny_bind (wpAny_field he hd h1 ?_)
        rw [if_neg (show ¬ ((Value.ref T == Value.none) = true) from by simp)]
        have fin : wpAny (model X.prog X.w) X.A (setFlight (.ref a) X.env.frame) (fun _ s4 => wpAny (model X.prog X.w) X.A (throw (.ref a) : Sem Flow) (SP X pins D) X.xe s4) X.xe { s' with heap := h3 } := by
          rw [hf]
          refine HandSPX.setFlight_upZ fl3 fun h4 hh4 up4 => wpAny_throw (tk _ _ ?_)
          exact ⟨a, B, sI, pins, σ', H', cls, d, rfl, J, nb, (up.trans up3).trans up4, .inr (.inr (by rw [hs]; exact hh4)), na, os, ag, w⟩
        first
          | exact wpAny_bind (wpAny_pure (wpAny_bind fin))
          | exact wpAny_bind fin
      | @plain x c ts b₀ suite np pos' hds2 l2 hc hsu r ih =>
        intro w
        obtain ⟨b, hb1, hyes, hno⟩ := w
        refine wpAny_handleBy_cons (codeAny_handlers_test ?_) (by intro q; cases q)
        refine ask hc ((PySem.W.exm_one (M := model X.prog X.w) (J3.kIn) tys hb1).here ?_)
        cases b with
        | false => exact ih (hno rfl)
        | true =>
          refine codeAny_handlers_suite (HandSPX.lands_againZ fl3 fun h4 fl4 up4 => ?_)
          have J4 : Inv X pins σ' H' { s' with heap := h4 } := J.landed nb fl4.1 ((up.trans up3).trans up4) os ag
          obtain ⟨oe4, vs4, he4, hz4, hd4⟩ := fl4.there
          refine wpAny_mono ((hsu a oe4 cls d (X.pn ++ pins) hz4 ⟨_, hd4⟩).run [] _ _ H' _ (J4.suite he4 hd4 na nL nF) (hyes rfl a na)) (fun f s6 sp => ?_) (fun _ _ z => False.elim z)
          cases f with
          | next => obtain ⟨σ6, H6, S6, q6⟩ := sp; exact ⟨_, _, S6.unsuite ok, q6⟩
          | brk => obtain ⟨σ6, H6, S6, q6⟩ := sp; exact ⟨_, _, S6.unsuite ok, q6⟩
          | cont => obtain ⟨σ6, H6, S6, q6⟩ := sp; exact ⟨_, _, S6.unsuite ok, q6⟩
          | ret u => obtain ⟨v6, σ6, H6, S6, r6, q6⟩ := sp; exact ⟨_, _, _, S6.unsuite ok, r6, q6⟩
      | @named x n i c ts b₀ suite np pos' hds2 l2 hi hln hc hsu r ih =>
        intro w
        obtain ⟨b, hb1, hyes, hno⟩ := w
        refine wpAny_handleBy_cons (codeAny_handlers_test ?_) (by intro q; cases q)
        refine ask hc ((PySem.W.exm_one (M := model X.prog X.w) (J3.kIn) tys hb1).here ?_)
        cases b with
        | false => exact ih (hno rfl)
        | true =>
          refine codeAny_handlers_suite_as (HandSPX.lands_againZ fl3 fun h4 fl4 up4 => ?_)
          have J4 : Inv X pins σ' H' { s' with heap := h4 } := J.landed nb fl4.1 ((up.trans up3).trans up4) os ag
          obtain ⟨oe4, vs4, he4, hz4, hd4⟩ := fl4.there
          refine store_ok (X := X.suite a ((a, oe4) :: (X.pn ++ pins))) (v := .ref a) (J4.suite he4 hd4 na nL nF) hN hi (.inl hln) rfl (fun s5 S5 => ?_) (.inr hln)
          refine wpAny_mono ((hsu a oe4 cls d (X.pn ++ pins) hz4 ⟨_, hd4⟩).run [] s5 _ H' _ S5 (hyes rfl a na)) (fun f s6 sp => ?_) (fun _ _ z => False.elim z)
          have out : ∀ {σ6 : L2.St} {H6 : Hp} {Q : Shared → Prop}, Inv (X.suite a ((a, oe4) :: (X.pn ++ pins))) [] σ6 H6 s6 → (∀ s7, Inv X pins (σ6.set i none) H6 s7 → Q s7) →
              wpAny (model X.prog X.w) X.A (do bindName X.env n .none; unbindBehindTheSuite X.env n pos') (fun _ s7 => Q s7) X.xe s6 := fun {σ6 H6 Q} S6 hq => gone_ok (S6.unsuite ok) hN hi hln hq
          cases f with
          | next => obtain ⟨σ6, H6, S6, q6⟩ := sp; exact out S6 fun s7 J7 => ⟨_, _, J7, q6⟩
          | brk => obtain ⟨σ6, H6, S6, q6⟩ := sp; exact out S6 fun s7 J7 => ⟨_, _, J7, q6⟩
          | cont => obtain ⟨σ6, H6, S6, q6⟩ := sp; exact out S6 fun s7 J7 => ⟨_, _, J7, q6⟩
          | ret u => obtain ⟨v6, σ6, H6, S6, r6, q6⟩ := sp; exact out S6 fun s7 J7 => ⟨_, _, _, J7, r6, q6⟩
    exact go hh w
  · cases f with
    | next => obtain ⟨σ', H', J', q⟩ := sp; exact wpAny_execs_nil ⟨σ', H', J'.ofTry ok, q⟩
    | brk => obtain ⟨σ', H', J', q⟩ := sp; exact ⟨σ', H', J'.ofTry ok, q⟩
    | cont => obtain ⟨σ', H', J', q⟩ := sp; exact ⟨σ', H', J'.ofTry ok, q⟩
    | ret u => obtain ⟨v, σ', H', J', r, q⟩ := sp; exact ⟨v, σ', H', J'.ofTry ok, r, q⟩
end
/-! ### the same by content -/
section
variable {G : Gd} {X : Cx} {H H1 : Hp} {S S1 : Sto} {σ : L2.St} {ε : PEnv}
/-- a clause: its class's name, the slot of its name, its suite for an error (its address) -/
structure Cl where
  cls : Str
  slot : Option Nat
  w : PX → Addr → WS
def pdOf (D : PD) : Option Nat → PD
  | none => { D with ex := fun _ _ _ => False }
  | some i => { nx := fun ε S => D.nx (ε.set i none) S, rt := D.rt, bk := fun ε S => D.bk (ε.set i none) S, ct := fun ε S => D.ct (ε.set i none) S, ex := fun _ _ _ => False }
def envOf (ε : PEnv) (a : Addr) : Option Nat → PEnv
  | none => ε
  | some i => ε.set i (some (.ref a))
/-- is the class n below c? -/
abbrev SubC := Str → Str → Bool
def clW (sub : SubC) (D : PD) : List Cl → PX → PEnv → Sto → Prop
  | [] => D.ex
  | c :: r => fun n ε S => if sub n.name c.cls = true then ∀ a, c.w n a (pdOf D c.slot) (envOf ε a c.slot) S else clW sub D r n ε S
def wTry (sub : SubC) (body : WS) (cs : List Cl) : WS := fun D ε S => body { D with ex := clW sub D cs } ε S
/-- the suite's contexts -/
inductive JHs (G : Gd) (X : Cx) (sub : SubC) : List ExceptHandler → List Cl → Prop
  | nil : JHs G X sub [] []
  | plain {x : Str} {C : Addr} {w : PX → Addr → WS} {b₀ : Stmt} {suite : List Stmt} {np pos' : Pos} {hds : List ExceptHandler} {l : List Cl} (hc : Names X x (.ref C)) (hs : ∀ n D, G.ec n = some D → PySem.W.exmOne X.K (.ref D) (.ref C) = some (sub n x))
      (hsu : ∀ (a : Addr) (oe : Obj) (n : PX) (D : Addr) (d : Option Addr) (pn : List (Addr × Obj)), G.ec n.name = some D → (n.arg = none → d = none) → Zc (.ref D) d oe → (∃ vs, oe.data = .fields vs) → JSs G (X.suite a ((a, oe) :: pn)) (b₀ :: suite) (w n a)) (r : JHs G X sub hds l) :
      JHs G X sub (.ExceptHandler (some (.Name x np)) none (b₀ :: suite) pos' :: hds) (⟨x, none, w⟩ :: l)
  | named {x nm : Str} {i : Nat} {C : Addr} {w : PX → Addr → WS} {b₀ : Stmt} {suite : List Stmt} {np pos' : Pos} {hds : List ExceptHandler} {l : List Cl} (hi : X.N[i]? = some nm) (hln : X.env.kindOf nm = some .local) (hc : Names X x (.ref C)) (hs : ∀ n D, G.ec n = some D → PySem.W.exmOne X.K (.ref D) (.ref C) = some (sub n x))
      (hsu : ∀ (a : Addr) (oe : Obj) (n : PX) (D : Addr) (d : Option Addr) (pn : List (Addr × Obj)), G.ec n.name = some D → (n.arg = none → d = none) → Zc (.ref D) d oe → (∃ vs, oe.data = .fields vs) → JSs G (X.suite a ((a, oe) :: pn)) (b₀ :: suite) (w n a)) (r : JHs G X sub hds l) :
      JHs G X sub (.ExceptHandler (some (.Name x np)) (some nm) (b₀ :: suite) pos' :: hds) (⟨x, some i, w⟩ :: l)
theorem jhs_dn {sub : SubC} {hds : List ExceptHandler} {cs : List Cl} (h : JHs G X sub hds cs) : ∃ l, HdsX X hds l ∧ ∀ (D : PD) (S : Sto) (H : Hp) (Wout : WX), ExS G S H D.ex Wout → ExS G S H (clW sub D cs) (wMix X.K Wout (EndsL G S H D) l) := by
  have fin : ∀ {D : PD} {S S' : Sto} {H H' : Hp} {w : WS} {Y : Cx} {sts : List Stmt} {ε : PEnv} {σ : L2.St} (oi : Option Nat), Stp S H S' H' → JSs G Y sts w → w (pdOf D oi) ε S' → Renv G.K H' ε σ → SR G H' S' → sSs Y sts (endsOf (EndsL G S H D) oi) σ H' := by
    intro D S S' H H' w Y sts ε σ oi st hj q re sr
    have no : (pdOf D oi).ex = fun _ _ _ => False := by cases oi <;> rfl
    refine hj.dn q re sr takes0 (by rw [no]; exact fun _ _ _ _ _ _ _ _ _ _ _ z => z.elim) ?_
    cases oi with
    | none => exact ⟨fun _ _ q => q.mono st, fun _ _ q => q.mono st, fun _ _ q => q.mono st, fun _ _ q => q.mono st⟩
    | some i =>
      have un : ∀ {Q : PEnv → Sto → Prop} {σ2 : L2.St} {H2 : Hp}, QS G S' H' (fun ε S => Q (ε.set i none) S) σ2 H2 → QS G S H Q (σ2.set i none) H2 := fun ⟨ε2, S2, s2, sr2, re2, q2⟩ => ⟨_, S2, st.trans s2, sr2, re2.unset i, q2⟩
      exact ⟨fun _ _ q => un q, fun _ _ q => q.mono st, fun _ _ q => un q, fun _ _ q => un q⟩
  induction h with
  | nil => exact ⟨[], .nil, fun D S H Wout ex => ex⟩
  | @plain x C w b₀ suite np pos' hds l hc hs hsu r ih =>
    obtain ⟨l', h1, h2⟩ := ih
    refine ⟨(.ref C, none, fun a cls d D σ H => ∀ oe pn, Zc cls d oe → (∃ vs, oe.data = .fields vs) → sSs (X.suite a ((a, oe) :: pn)) (b₀ :: suite) D σ H) :: l', .plain hc (fun a oe cls d pn hz hf => ⟨fun pins s σ H D I h => h oe pn hz hf pins s I⟩) h1, ?_⟩
    intro D S H Wout ex n ε' S' cls d σ' H' st sr re rx q
    obtain ⟨D0, hec, ecls, harg⟩ := id rx
    subst ecls
    refine ⟨_, hs n.name D0 hec, fun hb a ha oe pn hz hf => ?_, fun hb => ?_⟩
    · have q := (show (if sub n.name x = true then ∀ a, w n a (pdOf D none) (envOf ε' a none) S' else clW sub D l n ε' S') from q)
      rw [if_pos hb] at q
      exact fin none st (hsu a oe n D0 d pn hec (fun z => by rw [z] at harg; exact harg) hz hf) (q a) re sr
    · have q := (show (if sub n.name x = true then ∀ a, w n a (pdOf D none) (envOf ε' a none) S' else clW sub D l n ε' S') from q)
      rw [hb, if_neg Bool.false_ne_true] at q
      exact h2 D S H Wout ex n ε' S' _ d σ' H' st sr re rx q
  | @named x nm i C w b₀ suite np pos' hds l hi hln hc hs hsu r ih =>
    obtain ⟨l', h1, h2⟩ := ih
    refine ⟨(.ref C, some i, fun a cls d D σ H => ∀ oe pn, Zc cls d oe → (∃ vs, oe.data = .fields vs) → sSs (X.suite a ((a, oe) :: pn)) (b₀ :: suite) D σ H) :: l', .named hi hln hc (fun a oe cls d pn hz hf => ⟨fun pins s σ H D I h => h oe pn hz hf pins s I⟩) h1, ?_⟩
    intro D S H Wout ex n ε' S' cls d σ' H' st sr re rx q
    obtain ⟨D0, hec, ecls, harg⟩ := id rx
    subst ecls
    refine ⟨_, hs n.name D0 hec, fun hb a ha oe pn hz hf => ?_, fun hb => ?_⟩
    · have q := (show (if sub n.name x = true then ∀ a, w n a (pdOf D (some i)) (envOf ε' a (some i)) S' else clW sub D l n ε' S') from q)
      rw [if_pos hb] at q
      exact fin (some i) st (hsu a oe n D0 d pn hec (fun z => by rw [z] at harg; exact harg) hz hf) (q a) (re.set i rfl) sr
    · have q := (show (if sub n.name x = true then ∀ a, w n a (pdOf D (some i)) (envOf ε' a (some i)) S' else clW sub D l n ε' S') from q)
      rw [hb, if_neg Bool.false_ne_true] at q
      exact h2 D S H Wout ex n ε' S' _ d σ' H' st sr re rx q
theorem js_try {sub : SubC} {body : List Stmt} {h₀ : ExceptHandler} {hds : List ExceptHandler} {cs : List Cl} {wb : WS} {pos : Pos} (hs : X.stack = X.env :: X.outer) (hf : X.env.frame = some X.env.locals) (hN : X.N.Nodup)
    (hb : ∀ (pn : List (Addr × Obj)) (xe : Value → Shared → Prop), PassesOwn (model X.prog X.w) X.A X.env xe → JSs G (X.tr pn xe) body wb) (hh : JHs G X sub (h₀ :: hds) cs) : JS G X (.Try body (h₀ :: hds) [] [] pos) (wTry sub wb cs) :=
  ⟨fun D ε S q σ H re sr Wx tk ex => by
    obtain ⟨l, h1, h2⟩ := jhs_dn hh
    refine sS_of (ps_try_mix (tb := fun W D σ H => ∀ pn xe, Takes (X.tr pn xe) W → PassesOwn (model X.prog X.w) X.A X.env xe → sSs (X.tr pn xe) body D σ H) hs hf hN tk (fun W pn xe tk hp => ⟨fun pins s σ H D I h => h pn xe tk hp pins s I⟩) h1) ?_
    intro pn xe tk2 hp
    exact (hb pn xe hp).dn q re sr tk2 (h2 D S H Wx ex) ⟨fun _ _ q => q, fun _ _ q => q, fun _ _ q => q, fun _ _ q => q⟩⟩
/-- isinstance(e, C), e the error that the suite holds -/
theorem je_isE {i : Nat} {sub : SubC} {a C D : Addr} {n : PX} {oe : Obj} {pn : List (Addr × Obj)} {v c : Str} {d : Option Addr} {p p1 p2 pos : Pos} (hv : JE G (X.suite a ((a, oe) :: pn)) (.Name v p1) (wV i)) (E : ExcC X.K D) (hn : n.arg = none) (hd : n.arg = none → d = none) (hz : Zc (.ref D) d oe) (hf : ∃ vs, oe.data = .fields vs)
    (hg : Gl X "isinstance") (hm : X.mg "isinstance" = none) (hgc : Gl X c) (hmc : X.mg c = some (.ref C)) (hk : PySem.W.kitOne X.K (.ref D) (.ref C) = some (sub n.name c)) (hdb : (c == ("__debug__" : Str)) = false := by decide)
    (hs : starEach [.Name v p1, .Name c p2] X.env = (false, eval (.Name v p1) X.env) :: starEach [.Name c p2] X.env := by rfl) (hs2 : starEach [.Name c p2] X.env = (false, eval (.Name c p2) X.env) :: starEach [] X.env := by rfl) (hpl : (backTo pos (starEach [.Name c p2] X.env)).any (·.1) = false := by rfl) :
    JE G (X.suite a ((a, oe) :: pn)) (.Call (.Name "isinstance" p) [.Name v p1, .Name c p2] [] pos) (fun ε S Q E => ε[i]? = some (some (.ref a)) ∧ Q (.bl (sub n.name c)) S) :=
  ⟨fun ε S Q E' w σ H re sr Wx tk ex => by
    obtain ⟨w1, w2⟩ := w
    have hd0 := hd hn
    subst hd0
    refine sE_of (pe_callB (call_isE E hz hf) hg hm (by decide +kernel) (pa_cons pe_sE (pa_cons (pe_glob (v := .ref C) hgc hmc rfl hdb) pa_nil hs2) hs) (by decide) (by decide) hs hpl) ?_
    refine hv.dn (Q := fun x S1 => x = .ref a ∧ S1 = S) (E := E') (by unfold wV; rw [w1]; exact ⟨rfl, rfl⟩) re sr tk ex fun u H1 ⟨y, S1, s1, sr1, r1, ey, eS⟩ => ?_
    subst ey eS
    cases r1
    refine ⟨.ref C, .ref C, _, rfl, fun u hu => hu, hk, (ql_bl (Q := Q) sr1 w2).mono s1⟩⟩
end
end L3

set_option Elab.async false
set_option linter.all false
set_option maxRecDepth 100000
set_option maxHeartbeats 4000000
namespace L3
open PySem PySem.Spec L2
open PyProof.Rows hiding St
/-! ### x(lambda: body), the def x calls it -/
section
variable {G : Gd} {X : Cx} {H H1 : Hp} {S S1 : Sto} {σ : L2.St} {ε : PEnv}
open LamX in
/-- the tables alone have changed -/
theorem SR.extN (h : SR G H S) (e : ExtN H H1) (T : Tabs G.T H1) : SR G H1 S ∧ Stp S H S H1 := by
  have stay : Stay H H1 := fun a xs r => by
    rcases r with r | ⟨v, r⟩
    · exact .inl (e _ _ r (fun _ z => by cases z))
    · exact .inr ⟨v, e _ _ r (fun _ z => by cases z)⟩
  refine ⟨⟨fun a o q => ?_, T, fun p hp => ⟨e _ _ (h.fx p hp).1 (fun _ z => by cases z), (h.fx p hp).2⟩, fun q hq => (h.cp q hq).stay stay⟩, stay, fun a o n q t => ⟨e a o q t, n⟩⟩
  have no : ∀ u, H a = some u → ∀ ps, u ≠ .tbl ps := fun u hu ps z => by
    have m := h.ok a o q
    subst z
    cases o with
    | lst xs => obtain ⟨vs, e1, _⟩ := m; rw [hu] at e1; cases e1
    | rol xs =>
      obtain ⟨vs, e1 | ⟨v, e1⟩, _⟩ := m
      · rw [hu] at e1; cases e1
      · rw [hu] at e1; cases e1
    | hand => obtain ⟨c, _, cells, p, l, m, k, e1, _⟩ := m; rw [hu] at e1; cases e1
    | priv => obtain ⟨vs, e1⟩ := m; rw [hu] at e1; cases e1
    | dct kvs => obtain ⟨vs, e1, _⟩ := m; rw [hu] at e1; cases e1
  refine (h.ok a o q).keep stay (fun u hu => e a u hu (no u hu)) fun c ec => ⟨ec, fun u hu => ?_⟩
  obtain ⟨vs, e1⟩ := h.ok c _ ec
  rw [e1] at hu
  cases hu
  exact e c _ e1 (fun _ z => by cases z)
abbrev Thk := Sto → KE → KX → Prop
/-- call(), the lambda at f -/
def wAct (f : Addr) (th : Thk) : WE := fun ε S Q E => ε[0]? = some (some (.ref f)) ∧ th S Q E
def wLam (WW : Thk → Addr → WS) (Ng : List Str) (wb : WE) : WE := fun ε S Q _ => ∀ f, WW (fun S' Q' E' => wb ε S' Q' E') f (PD.fn Q fun _ _ => False) (startP Ng [.ref f]) S
/-- the context of the def that got the lambda -/
abbrev lamG (X : Cx) (Ng : List Str) (x : Str) (sg : Scope) (g : Addr) (cdg : Value) (A : Around) (outer : List Env) (s : Shared) (H : Hp) : Cx := (cxOf C8.CX0 X.prog X.w X.K X.mg X.base Ng x sg g cdg A outer s H C8.E0).nox
open LamX in
theorem je_lam {x a : Str} {st : Stmt} {g c P : Addr} {fd : FuncData} {k : Nat} {Ng : List Str} {params : Arguments} {body : Expr} {scope : Scope} {wb : WE} {WW : Thk → Addr → WS} {p lpos pos : Pos} (F : Fun X.K x x st g fd) (hg : Gl X x) (hm : X.mg x = some (.ref g)) (hb : Binds X.K fd [a] []) (Sg : FnScope Ng [a] (defScope st)) (hNg : Ng[0]? = some a) (hva : Vis (defScope st) a)
    (hG : ∀ (G' : Gd) (th : Thk) (f : Addr) (cdg : Value) (s : Shared) (H : Hp), G'.K = G.K → G'.ec = G.ec → Room (k + 1) (X.A.deeper (envOfC x (defScope st) s.heap.objs.size g cdg)) → (∀ (pn : List (Addr × Obj)) (xe : Value → Shared → Prop) (p1 p2 : Pos), JE G' ((lamG X Ng x (defScope st) g cdg X.A X.stack s H).tr pn xe) (.Call (.Name a p1) [] [] p2) (wAct f th)) →
      JSs G' (lamG X Ng x (defScope st) g cdg X.A X.stack s H) (defBody st) (WW th f))
    (TB : TabB X.base X.mg c P) (hcode : X.env.code = .ref c) (hmT : (P, X.env.qual ++ "<lambda>") ∈ G.T) (hu : ∀ p ∈ G.T, p.1 = P → p.2 = X.env.qual ++ "<lambda>") (hr : Room (k + 2) X.A) (L : LamS X.env.scope scope) (hdef : defaultsOf params X.env = ([], []))
    (hbind : ∀ (q : Str) (cl : List (Str × Addr)) (pm cv ctv : Value), bindArgs (PySem.W.kla_fn "<lambda>" q params body scope cl pm cv ctv) ⟨[], []⟩ = pure [])
    (hgd : X.A.guards = some []) (hbody : ∀ (A : Around) (outer : List Env) (s : Shared) (H : Hp) (E : XK) (f c' : Addr), A.guards = some [] → Room k (A.deeper (lamEnv X scope s.heap.objs.size f c')) → JE G (lamCx X A outer s H E scope f c') body wb) (hK : X.K = G.K := by rfl)
    (hdb : (x == ("__debug__" : Str)) = false := by decide) (hd : (a == ("__debug__" : Str)) = false := by decide) (hcd : (a == ("__classdict__" : Str)) = false := by decide) :
    JE G X (.Call (.Name x p) [.Lambda params body scope lpos] [] pos) (wLam WW Ng wb) := by
  refine ⟨fun ε S Q E w σ H re sr Wx tk ex => fun pins s I => ?_⟩
  obtain ⟨oc, od, kV, doc, pm, an, cdv, ct, osl, efd, lk, hcg⟩ := F.ex
  subst efd
  refine wpAny_Call_Name_kw (ld_glob I hg hm ?_ hdb)
  refine PySem.W.callWith_K (h₀ := X.base) I.ok.mod.kin F.kp ?_ (by rfl) (by rfl)
  show wpAny _ _ (spliced ((false, eval (.Lambda params body scope lpos) X.env) :: backTo pos (starEach [] X.env))) _ _ s
  refine Calls.spliced_cons (lam_make2 I TB hcode hmT hu sr.tb hdef (L.has I.ok) fun f c' pm' ctv H1 s' I1 eN T1 hf hfn hfr hco => ?_)
  refine Calls.spliced_nil ⟨I1.kIn, ?_⟩
  obtain ⟨sr1, st1⟩ := sr.extN eN T1
  have re1 := re.stay st1.st
  -- the larger world: the code object stands, the slots are captured
  obtain ⟨φ, hφ⟩ : ∃ φ : Heap → Prop, CodeO c' (X.env.qual ++ "<lambda>") = .ext φ := ⟨_, rfl⟩
  have nc : S c' = none := by
    cases q : S c' with
    | none => rfl
    | some o =>
      have m := sr1.ok c' o q
      rw [hφ] at hco
      cases o with
      | lst xs => obtain ⟨vs, e1, _⟩ := m; rw [hco] at e1; cases e1
      | rol xs =>
        obtain ⟨vs, e1 | ⟨v, e1⟩, _⟩ := m
        · rw [hco] at e1; cases e1
        · rw [hco] at e1; cases e1
      | hand => obtain ⟨c, _, cells, p, l, m, k, e1, _⟩ := m; rw [hco] at e1; cases e1
      | priv => obtain ⟨vs, e1⟩ := m; rw [hco] at e1; cases e1
      | dct kvs => obtain ⟨vs, e1, _⟩ := m; rw [hco] at e1; cases e1
  generalize hG' : ({ G with fx := (c', φ) :: G.fx, cps := (ε, σ) :: G.cps } : Gd) = G'
  have kk : G'.K = G.K := by rw [← hG']
  have ke : G'.ec = G.ec := by rw [← hG']
  have up : ∀ {H2 : Hp} {S2 : Sto}, SR G' H2 S2 → SR G H2 S2 ∧ H2 c' = some (CodeO c' (X.env.qual ++ "<lambda>")) ∧ Renv G.K H2 ε σ := fun {H2 S2} q => by
    subst hG'
    exact ⟨⟨q.ok, q.tb, fun p hp => q.fx p (List.mem_cons_of_mem _ hp), fun p hp => q.cp p (List.mem_cons_of_mem _ hp)⟩, by rw [hφ]; exact (q.fx _ List.mem_cons_self).1, q.cp _ List.mem_cons_self⟩
  have sr' : SR G' H1 S := by
    subst hG'
    refine ⟨sr1.ok, sr1.tb, fun p hp => ?_, fun p hp => ?_⟩
    · rcases List.mem_cons.mp hp with e | hp
      · rw [e, ← hφ]; exact ⟨hco, nc⟩
      · exact sr1.fx p hp
    · rcases List.mem_cons.mp hp with e | hp
      · rw [e]; exact re1
      · exact sr1.cp p hp
  have upQ : ∀ {Q' : KE} {v : V} {S2 : Sto} {H2 H' : Hp}, QL G' S2 H2 Q' v H' → QL G S2 H2 Q' v H' := fun {Q' v S2 H2 H'} ⟨y, S3, a1, a2, a3, a4⟩ => ⟨y, S3, a1, (up a2).1, kk ▸ a3, a4⟩
  have rc : codeAny (model X.prog X.w) X.A (.call (.ref g) ⟨[.ref f], []⟩) (CR C8.CX0 X.stack X.prog X.w H1 s' (QL G S H Q) C8.E0) s' := by
    refine run_ofS (N := Ng) (ps := [a]) (us := [.ref f]) (vs := [.ref f]) lk hcg Sg hr I1.env0 (hb s' [.ref f] I1.kIn rfl) (.cons rfl .nil) rfl fun hr' => ?_
    refine ⟨_, (pss_sSs (X := lamG X Ng x (defScope st) g cdv X.A X.stack s' H1)).nox, ?_⟩
    have act : ∀ (pn : List (Addr × Obj)) (xe : Value → Shared → Prop) (p1 p2 : Pos), JE G' ((lamG X Ng x (defScope st) g cdv X.A X.stack s' H1).tr pn xe) (.Call (.Name a p1) [] [] p2) (wAct f fun S' Q' E' => wb ε S' Q' E') := by
      intro pn xe p1 p2
      refine ⟨fun ε2 S2 Q2 E2 w2 σ2 H2 re2 sr2 W2 tk2 ex2 => fun pinsZ sZ IZ => ?_⟩
      obtain ⟨g1, g2⟩ := w2
      obtain ⟨v0, hs0, hv0⟩ := re2.2 0 _ g1
      cases hv0
      obtain ⟨srG, hc2, reC⟩ := up sr2
      refine wpAny_Call_Name_kw (thn ((pe_var (pos := p1) (i := 0) hNg hva hd hcd).run pinsZ sZ σ2 H2 (fun v H3 => v = .ref f ∧ H3 = H2) IZ ⟨.ref f, hs0, rfl, rfl⟩) fun u s1 ⟨v, H3, I3, r3, ev, eH⟩ => ?_)
      subst ev
      subst eH
      obtain rfl : u = Value.ref f := r3
      have of1 := I3.base.keep f _ hf hfn hfr (fun z => nomatch (show f ∈ ([] : List Addr) from z))
      refine PySem.W.callWith_F0 ⟨_, _, _, _, of1⟩ ?_
      have un : Un (frs X.stack) [] H1 H3 s'.heap s1.heap := I3.base
      obtain ⟨⟨oc2, vs2, t2, hoc, hdc, hvc⟩, _, _⟩ := I3.hok c' _ hc2
      have rc2 : codeAny (model X.prog X.w) (X.A.deeper (envOfC x (defScope st) s'.heap.objs.size g cdv)) (.call (.ref f) ⟨[], []⟩) (CR (L2.CX X.prog X.w) (envOfC x (defScope st) s'.heap.objs.size g cdv :: X.stack) X.prog X.w H3 s1 (QL G' S2 H3 Q2) (fun cls d H' => W2 cls d σ2 H')) s1 := by
        refine PySem.W.kla_callFunE hr'.depth of1 rfl L.co L.gen rfl ⟨c', oc2, vs2, t2, rfl, hoc, hdc, hvc⟩ ?_
        rw [hbind]
        refine wpAny_pure (wpAny_newFunctionEnv (fun y hy => (L.own y hy).2) (fun y hy => absurd hy (by simp)) (fun h₁ hns hsb => ⟨I3.nolimit.fresh _ hsb, ?_⟩) L.kind)
        show codeAny _ _ (.expr body (lamEnv X scope s1.heap.objs.size f c')) _ _
        have kp : ∀ b o, s1.heap.get? b = some o → h₁.get? b = some o := fun b o e => hsb.extBut b o (Nat.ne_of_lt (Heap.lt_size e)) (Heap.get?_push_of_some _ e)
        have J := lam_start2 (E := fun cls d H' => W2 cls d σ2 H') (f := f) (c' := c') (tk := s1.toks + ([] : List (Str × Value)).length) I1 L I3.env0 hr'.hd un hns kp
        refine PySem.W.kla_codeExpr (wpAny_mono ((hbody (X.A.deeper (envOfC x (defScope st) s'.heap.objs.size g cdv)) _ s1 H3 (fun cls d H' => W2 cls d σ2 H') f c' hgd (hr'.deeper _)).run ε S2 Q2 E2 g2 σ H3 reC srG _ (takes_of rfl rfl rfl rfl) (fun n S4 cls d H4 st4 sr4 rx4 e4 => ?_) [] _ J) (fun v s4 hq => ?_) fun e s4 hq => hq)
        · -- the error
          refine ex2 n S4 cls d H4 st4 ?_ ?_ e4
          · subst hG'
            refine ⟨sr4.ok, sr4.tb, fun p hp => ?_, fun p hp => ?_⟩
            · rcases List.mem_cons.mp hp with e | hp
              · rw [e]
                have z := st4.fr c' _ (sr2.fx (c', φ) List.mem_cons_self).2 hc2 (fun ps q => by rw [hφ] at q; cases q)
                exact ⟨by rw [← hφ]; exact z.1, z.2⟩
              · exact sr4.fx p hp
            · rcases List.mem_cons.mp hp with e | hp
              · rw [e]; exact reC.stay st4.st
              · exact sr4.cp p hp
          · obtain ⟨C, h1, h2, h3⟩ := rx4
            exact ⟨C, by rw [ke]; exact h1, h2, by rw [kk]; exact h3⟩
        · obtain ⟨w', H', J', rv, y, S4, st4, sr4, ry, q4⟩ := hq
          refine ⟨w', H', J'.os, J'.bare, J'.base, J'.hok, rv, y, S4, st4, ?_, kk ▸ ry, q4⟩
          subst hG'
          refine ⟨sr4.ok, sr4.tb, fun p hp => ?_, fun p hp => ?_⟩
          · rcases List.mem_cons.mp hp with e | hp
            · rw [e]
              have z := st4.fr c' _ (sr2.fx (c', φ) List.mem_cons_self).2 hc2 (fun ps q => by rw [hφ] at q; cases q)
              exact ⟨by rw [← hφ]; exact z.1, z.2⟩
            · exact sr4.fx p hp
          · rcases List.mem_cons.mp hp with e | hp
            · rw [e]; exact reC.stay st4.st
            · exact sr4.cp p hp
      refine wpAny_call (codeAny_mono rc2 fun r s4 hq => ?_)
      cases r with
      | error e => exact passAt tk2 σ2 pinsZ H3 s1 e s4 I3 hq
      | ok fl =>
        cases fl with
        | ret u => exact I3.after hq
        | next => exact False.elim hq
        | brk => exact False.elim hq
        | cont => exact False.elim hq
    refine (hG G' _ f cdv s' H1 kk ke hr' act).dn (w f) (kk ▸ renv_start (K := G.K) (xs := [.ref f]) ⟨_, _, rfl, rfl, rfl⟩) sr' L2.takes0 (fun _ _ _ _ _ _ _ _ _ _ _ z => z.elim) ⟨?_, fun v H' q => (upQ q).mono st1, ?_, ?_⟩
    · exact fun σ' H' ⟨ε', S', st, sr2, re2, q⟩ => ⟨.non, S', st1.trans st, (up sr2).1, rfl, q⟩
    · exact fun σ' H' ⟨ε', S', st, sr2, re2, q⟩ => q.elim
    · exact fun σ' H' ⟨ε', S', st, sr2, re2, q⟩ => q.elim
  refine wpAny_call (codeAny_mono rc fun r s2 hq => ?_)
  cases r with
  | error e => exact (show False from hq).elim
  | ok fl =>
    cases fl with
    | ret u => exact I1.after hq
    | next => exact False.elim hq
    | brk => exact False.elim hq
    | cont => exact False.elim hq
end
end L3

set_option Elab.async false
set_option linter.all false
set_option maxRecDepth 100000
set_option maxHeartbeats 4000000
namespace L3
open PySem PySem.Spec L2
open PyProof.Rows hiding St
/-! ### the end -/
def isLstV : Value → Bool
  | .type n => n == "list"
  | _ => false
def noLst (K : PySem.W.Frag) : Bool := K.all fun p => !isLstV p.2.cls
theorem lookup_mem3 {a : Addr} {o : Obj} : ∀ {l : List (Addr × Obj)}, l.lookup a = some o → (a, o) ∈ l
  | [], h => by cases h
  | (b, u) :: l, h => by
    rw [List.lookup_cons] at h
    split at h
    · rename_i e
      cases h
      rw [beq_iff_eq.mp e]
      exact List.mem_cons_self
    · exact List.mem_cons_of_mem _ (lookup_mem3 h)
theorem noLst_get {K : PySem.W.Frag} (h : noLst K = true) {a : Addr} {o : Obj} (e : K.lookup a = some o) : o.cls ≠ .type "list" := fun z => by
  have q := List.all_eq_true.mp h _ (lookup_mem3 e)
  rw [show (a, o).2.cls = Value.type "list" from z] at q
  cases q
structure EndK (K : PySem.W.Frag) (h : Heap) (cs : List (Addr × Addr × Str)) : Prop where
  nl : noLst K = true
  tb : ∀ p ∈ cs, PySem.W.CodeHd h p.1 p.2.1 ∧ h.get? p.2.1 = some (PySem.W.tabObj #[])
  no : ∀ p ∈ cs, K.lookup p.2.1 = none
abbrev startS (a : Addr) (ns : List Int) : Sto := fun b => if b = a then some (.rol (ns.map PV.int)) else none
def LawP (sp : PSp) (n : Nat) : Prop := ∀ (a : Addr) (ns : List Int), ns.length ≤ n → (∀ z ∈ ns, Builtin.Int.intBits z ≤ 1048576) → sp [.ref a] (startS a ns) (fun v _ => v = .bl true) (fun _ _ => False)
section
open LamX
variable {a b : Addr} {T : List Addr} {o : Obj} {ns : List Int} {K : PySem.W.Frag}
/-- what is tracked at the law's entry: the script, the tables -/
def entryH (a : Addr) (T : List Addr) (o : Obj) (ns : List Int) : Hp := fun b => if b = a then some (.frz o (.lst (ns.map V.int))) else if b ∈ T then some (.tbl #[]) else none
theorem entry_a : entryH a T o ns a = some (.frz o (.lst (ns.map V.int))) := if_pos rfl
theorem entry_t (n : b ≠ a) (h : b ∈ T) : entryH a T o ns b = some (.tbl #[]) := (if_neg n).trans (if_pos h)
theorem entry_no (n : b ≠ a) (h : b ∉ T) : entryH a T o ns b = none := (if_neg n).trans (if_neg h)
theorem entry_cases (b : Addr) : (b = a ∧ entryH a T o ns b = some (.frz o (.lst (ns.map V.int)))) ∨ (b ≠ a ∧ b ∈ T ∧ entryH a T o ns b = some (.tbl #[])) ∨ (b ≠ a ∧ b ∉ T ∧ entryH a T o ns b = none) := by
  by_cases h1 : b = a
  · exact .inl ⟨h1, by rw [h1]; exact entry_a⟩
  by_cases h2 : b ∈ T
  · exact .inr (.inl ⟨h1, h2, entry_t h1 h2⟩)
  · exact .inr (.inr ⟨h1, h2, entry_no h1 h2⟩)
/-- the law is entered where no repr is under way -/
theorem law_enter {P : Program} {w : World} {mg mb : Str → Option Value} {cx : CXT} {k : Nat} {fa : Addr} {cs : List (Addr × Addr)} {fd : FuncData} {x : Str} {sp : Sp} {s : Shared} {vs : List Value}
    (KX : K.In s.heap) (nG : s.heap.Ns mainGlobals mg) (nB : s.heap.Ns builtinsNs mb) (bb : ∀ x : Str, x ≠ "__name__" → mb x = bootBuiltins x) (lim : s.heap.NoLimit) (hg : s.gens = #[])
    (tb : ∀ p ∈ cs, s.heap.get? p.2 = some { cls := .none, data := .fields #[] }) (nt : ∀ p ∈ cs, K.lookup p.2 = none) (cd : ∀ p ∈ cs, PySem.W.CodeHd s.heap p.1 p.2)
    (bm : ∃ (m : Addr) (om : Obj), mg "__builtins__" = some (.ref m) ∧ m ≠ builtinsNs ∧ s.heap.get? m = some om ∧ om.cls = .type "module" ∧ om.dict = some builtinsNs ∧ om.data = .plain)
    (ha : s.heap.get? a = some { cls := .type "list", data := .seq vs.toArray }) (na : K.lookup a = none) (hi : IntsAre vs ns) (hl : ns.length ≤ sizeLine) (hr : Room k callerA)
    (F : ∀ base : Heap, K.In base → base.Ns mainGlobals mg → (∀ p ∈ cs, TabB base mg p.1 p.2) → FnG P w K mg base cx k fa fd [x] sp) (bind : ∀ (s : Shared) (u : Value), BindsTo s fd ⟨[u], []⟩ [(x, u)])
    (hsp : ∀ H : Hp, (∀ p ∈ cs, H p.2 = some (.tbl #[])) → SqL K H a (ns.map V.int) → sp [.ref a] H (fun v _ => v = .bl true) fun _ _ _ => False) (hcx : ∀ H e s', cx [] H s (fun _ _ _ => False) e s' → False) :
    codeAny (model P w) callerA (.call (.ref fa) ⟨[.ref a], []⟩) (fun r s' => r = .ok (.ret (.bool true)) ∧ OldK s.heap s'.heap ∧ s'.os = s.os ∧ AllBare s'.gens) s := by
  have rv := vals_ints hi
  obtain ⟨T, eT⟩ : ∃ T : List Addr, T = cs.map (·.2) := ⟨_, rfl⟩
  have inT : ∀ p ∈ cs, p.2 ∈ T := fun p hp => eT ▸ List.mem_map_of_mem hp
  have ofT : ∀ b ∈ T, ∃ p ∈ cs, p.2 = b := fun b hb => List.mem_map.mp (eT ▸ hb)
  have tabT : ∀ b ∈ T, s.heap.get? b = some { cls := .none, data := .fields #[] } := fun b hb => by
    obtain ⟨p, hp, rfl⟩ := ofT b hb
    exact tb p hp
  have aT : a ∉ T := fun z => by
    have q := (tabT a z).symm.trans ha
    cases q
  obtain ⟨H, eH⟩ : ∃ H : Hp, H = entryH a T { cls := .type "list", data := .seq vs.toArray } ns := ⟨_, rfl⟩
  have cas : ∀ b, (b = a ∧ H b = some (.frz { cls := .type "list", data := .seq vs.toArray } (.lst (ns.map V.int)))) ∨ (b ≠ a ∧ b ∈ T ∧ H b = some (.tbl #[])) ∨ (b ≠ a ∧ b ∉ T ∧ H b = none) := fun b => eH ▸ entry_cases b
  have tH : ∀ p ∈ cs, H p.2 = some (.tbl #[]) := fun p hp => by
    rcases cas p.2 with ⟨z, _⟩ | ⟨_, _, z⟩ | ⟨_, z, _⟩
    · exact absurd (inT p hp) (z ▸ aT)
    · exact z
    · exact absurd (inT p hp) z
  have ok : HOk P w H s.heap := fun b u z => by
    rcases cas b with ⟨e, q⟩ | ⟨_, e, q⟩ | ⟨_, _, q⟩
    · rw [q] at z; cases z
      rw [e]
      exact ⟨ha, by rw [List.length_map]; exact hl, vs, _, rv, ha⟩
    · rw [q] at z; cases z
      exact tabT b e
    · rw [q] at z; cases z
  -- what is neither the script nor a table is not tracked
  have hid : ∀ {b : Addr} {ob : Obj}, s.heap.get? b = some ob → (∀ ys n, ob.data ≠ .seq ys n) → ob.data ≠ .fields #[] → H b = none := fun {b ob} e h1 h2 => by
    rcases cas b with ⟨z, _⟩ | ⟨_, z, _⟩ | ⟨_, _, q⟩
    · rw [z, ha] at e; cases e; exact absurd rfl (h1 _ _)
    · rw [tabT b z] at e; cases e; exact absurd rfl h2
    · exact q
  have up : ∀ {b : Addr} {ob : Obj}, s.heap.get? b = some ob → H b = none → (hidT s.heap H).get? b = some ob := fun e n => hidT_get e n
  have nsUp : ∀ {b : Addr} {m : Str → Option Value}, s.heap.Ns b m → (hidT s.heap H).Ns b m := fun {b m} ⟨ob, es, ep, e, d, r⟩ =>
    ⟨ob, es, ep, up e (hid e (fun ys n z => by rw [d] at z; cases z) fun z => by rw [d] at z; cases z), d, r⟩
  have KB : K.In (hidT s.heap H) := fun b ob e => up (KX b ob e) (by
    rcases cas b with ⟨z, _⟩ | ⟨_, z, _⟩ | ⟨_, _, q⟩
    · rw [z, na] at e; cases e
    · obtain ⟨p, hp, rfl⟩ := ofT b z
      rw [nt p hp] at e; cases e
    · exact q)
  have md : L2.Mod K mg (hidT s.heap H) := by
    obtain ⟨mc, l1, l2⟩ := lim
    exact ⟨KB, nsUp nG, ⟨mb, nsUp nB, bb⟩, ⟨mc, nsUp l1, l2⟩⟩
  have tabB : ∀ p ∈ cs, TabB (hidT s.heap H) mg p.1 p.2 := fun p hp => by
    have tp := tb p hp
    refine ⟨?_, ?_, fun z => ?_⟩
    · obtain ⟨oc, us, file, tf, flags, tg, inF, text, tt, e1, r1, r2, r3, r⟩ := cd p hp
      refine ⟨oc, us, file, tf, flags, tg, inF, text, tt, up e1 (hid e1 (fun ys n z => by rw [r2] at z; cases z) fun z => ?_), r1, r2, r3, r⟩
      rw [r2] at z; cases z; simp at r3
    · obtain ⟨m, om, b1, b2, b3, b4, b5, b6⟩ := bm
      refine ⟨m, om, b1, b2, fun q => ?_, fun q => ?_, up b3 (hid b3 (fun ys n z => by rw [b6] at z; cases z) fun z => by rw [b6] at z; cases z), b4, b5, b6⟩
      · obtain ⟨ob, es, ep, e, hd, _⟩ := nG
        rw [q, e] at b3; cases b3
        rw [hd] at b6; cases b6
      · rw [q, tp] at b3; cases b3; cases b6
    · obtain ⟨ob, es, ep, e, hd, _⟩ := nG
      rw [z, tp] at e; cases e; cases hd
  have e0 : Env0 P w K mg (hidT s.heap H) callerA [] s H := ⟨rfl, md, fun b ob e => of_hidT e, Nat.le_of_eq (hidT_size _ _), trivial, fun b hb => (nomatch hb), ok, .of_eq hg⟩
  have sq : SqL K H a (ns.map V.int) := by
    rcases cas a with ⟨_, q⟩ | ⟨z, _⟩ | ⟨z, _⟩
    · exact .inl (.inr ⟨_, q⟩)
    · exact absurd rfl z
    · exact absurd rfl z
  refine codeAny_mono ((F _ KB (nsUp nG) tabB).run callerA [] s H ⟨[.ref a], []⟩ [.ref a] [.ref a] _ _ rfl hr e0 (bind s (.ref a)) (.cons rfl .nil) (hsp H tH sq)) fun res s' h => ?_
  match res, h with
  | .error e, h => exact (hcx H e s' h).elim
  | .ok .next, h => exact (show False from h).elim
  | .ok .brk, h => exact (show False from h).elim
  | .ok .cont, h => exact (show False from h).elim
  | .ok (.ret u), h =>
    obtain ⟨v, H', os, bare, un, ok', r', q⟩ := h
    have q' : v = .bl true := q
    subst q'
    obtain rfl : u = Value.bool true := r'
    have same : ∀ b ob, b ∉ T → s.heap.get? b = some ob → s'.heap.get? b = some ob := fun b ob nb e => by
      rcases cas b with ⟨_, q⟩ | ⟨_, z, _⟩ | ⟨_, _, q⟩
      · obtain ⟨f1, _⟩ := ok b _ q
        obtain ⟨f2, _⟩ := ok' b _ (un.frzs b _ _ q)
        rw [e] at f1; cases f1
        exact f2
      · exact absurd z nb
      · exact un.keep b ob e q (fun z => nomatch z) (fun z => nomatch z)
    have more : ∀ p ∈ cs, ∃ xs : Array Value, s'.heap.get? p.2 = some { cls := .none, data := .fields xs } := fun p hp => by
      obtain ⟨xs, z⟩ := un.tbls p.2 #[] (tH p hp)
      exact ⟨_, ok' p.2 _ z⟩
    refine ⟨rfl, ⟨fun b ob e => ?_, fun b ob e => ?_⟩, os, bare⟩
    · by_cases hb : b ∈ T
      · obtain ⟨p, hp, rfl⟩ := ofT b hb
        obtain ⟨xs, hm⟩ := more p hp
        rw [tb p hp] at e; cases e
        exact .inr (.inl ⟨((cd p hp).tab (tb p hp)).isCodeTable, rfl, #[], xs, rfl, by rw [Array.empty_append]; exact hm⟩)
      · exact .inl (same b ob hb e)
    · by_cases hb : b ∈ T
      · obtain ⟨p, hp, rfl⟩ := ofT b hb
        obtain ⟨xs, hm⟩ := more p hp
        exact ⟨_, hm⟩
      · exact ⟨ob, same b ob hb e⟩
end
open LamX in
theorem walk3 {l : PySem.W.OpenLaw} {n k : Nat} {q : Program} {loose : List Str} {XP : (Str → Option Value) → Heap → Prop} {YP : World → Heap → Prop} {d : DefRec} {K : Params → PySem.W.Frag} {x : Str} {sp : PSp}
    (hn : l.most = some n) (hn2 : n ≤ sizeLine) (hdf : d.params.defaults = []) (hr : Room k callerA) (hY : ∀ (w : World) (h : Heap), YP w h → (K w.params).In h) (hsp : LawP sp n)
    (F : ∀ (w : World) (mg mb : Str → Option Value) (mean : ExcName → Option Value) (fa : Addr) (h : Heap), Top q (PySem.W.looseW q loose) mean mg mb h → YP w h → (K w.params).In h → h.Ns mainGlobals mg → mg d.name = some (.ref fa) →
      ∃ (cs : List (Addr × Addr × Str)) (fd : FuncData) (ec : Str → Option Addr), EndK (K w.params) h cs ∧ (∀ (s : Shared) (u : Value), BindsTo s fd ⟨[u], []⟩ [(x, u)]) ∧
        ∀ base : Heap, (K w.params).In base → base.Ns mainGlobals mg → (∀ p ∈ cs, TabB base mg p.1 p.2.1) → FnP ⟨K w.params, cs.map (·.2), ec, [], []⟩ l.prog w mg base k fa fd [x] sp) :
    PySem.W.WalkO q loose XP YP l.row.toRowW d [] (fun f vs => PySem.call f vs) := by
  refine Att.attach_callB hn hdf fun w s₀ s₁ mg mb fa o pm cd doc a vs ns G Y ho hd hcd hmg hobj hints hlen hbits hg => ?_
  have KX := hY w _ Y
  obtain ⟨cs, fd, ec, ek, hb, hF⟩ := F w mg mb _ fa _ G.T Y KX G.T.g hmg
  have mem : ∀ {p : Addr × Addr}, p ∈ cs.map (fun p => (p.1, p.2.1)) → ∃ q ∈ cs, p = (q.1, q.2.1) := fun hp => by
    obtain ⟨q, hq, e⟩ := List.mem_map.mp hp
    exact ⟨q, hq, e.symm⟩
  have na : (K w.params).lookup a = none := by
    cases q : (K w.params).lookup a with
    | none => rfl
    | some ob =>
      have z := KX a ob q
      rw [hobj] at z
      exact absurd (congrArg Obj.cls (Option.some.inj z)).symm (noLst_get ek.nl q)
  refine law_enter (cs := cs.map fun p => (p.1, p.2.1)) (cx := L2.CX l.prog w) (sp := liftSp ⟨K w.params, cs.map (·.2), ec, [], []⟩ sp) KX G.T.g G.T.b G.T.builtins G.T.nolimit hg (fun p hp => ?_) (fun p hp => ?_) (fun p hp => ?_) G.T.bmain hobj na hints (Nat.le_trans hlen hn2) hr (fun base h1 h2 h3 => hF base h1 h2 fun p hp => h3 (p.1, p.2.1) (List.mem_map.mpr ⟨p, hp, rfl⟩)) hb (fun H hH hS => ?_) fun H e s' => ?_
  · obtain ⟨q, hq, rfl⟩ := mem hp
    exact (ek.tb q hq).2
  · obtain ⟨q, hq, rfl⟩ := mem hp
    exact ek.no q hq
  · obtain ⟨q, hq, rfl⟩ := mem hp
    exact (ek.tb q hq).1
  · have rd : Rd H a (.lst (ns.map V.int)) := by
      rcases hS with h | ⟨o, its, m, e, c, _⟩
      · exact h
      · exact absurd c (noLst_get ek.nl e)
    refine ⟨[.ref a], startS a ns, _, _, ⟨_, _, rfl, rfl, rfl⟩, ⟨fun b o e => ?_, fun p hp => ?_, fun p hp => (nomatch hp), fun p hp => (nomatch hp)⟩, hsp a ns hlen hbits, fun v H' ⟨y, S', _, _, r, e⟩ => ?_, fun _ _ _ _ _ _ _ _ z => z⟩
    · by_cases hb : b = a
      · have e' := (if_pos hb).symm.trans e
        cases e'
        rw [hb]
        exact ⟨_, rd, reps_ints.mpr rfl⟩
      · have e' := (if_neg hb).symm.trans e
        cases e'
    · obtain ⟨q, hq, rfl⟩ := List.mem_map.mp hp
      have h0 : H q.2.1 = some (.tbl #[]) := hH (q.1, q.2.1) (List.mem_map.mpr ⟨q, hq, rfl⟩)
      exact ⟨#[], h0, by simp [TriplesOk], fun pos cv hc => (nomatch (show (none : Option Value) = some cv from hc))⟩
    · subst e
      exact r
  · rintro ⟨a', B, H', cls, dd, rfl, fl, hok, ub, na, os, ag, hE⟩
    exact hE
end L3

set_option Elab.async false
set_option linter.all false
set_option maxRecDepth 100000
set_option maxHeartbeats 4000000
namespace L3
open PySem PySem.Spec L2
open PyProof.Rows hiding St
section
variable {G : Gd} {X : Cx} {H H1 : Hp} {S S1 : Sto} {σ : L2.St} {ε : PEnv}
/-- a built-in class's name -/
theorem je_blt {x : Str} {n : String} {pos : Pos} (hg : Gl X x) (hm : X.mg x = none) (hv : bootBuiltins x = some (.type n)) (hn : x ≠ "__name__" := by decide) (hd : (x == ("__debug__" : Str)) = false := by decide) : JE G X (.Name x pos) (wC (.ty n)) :=
  je_c (pe_bltn (v := .ty n) hg hm hv rfl hn hd) fun _ => rfl
theorem je_gint {x : Str} {i : Int} {pos : Pos} (hg : Gl X x) (hm : ∃ t, X.mg x = some (.int i t)) (hd : (x == ("__debug__" : Str)) = false := by decide) : JE G X (.Name x pos) (wC (.int i)) :=
  let ⟨t, h⟩ := hm; je_glob (v := .int i) hg h ⟨t, rfl⟩ (fun _ => rfl) hd
theorem je_gstr {x i : Str} {pos : Pos} (hg : Gl X x) (hm : ∃ t, X.mg x = some (.str i t)) (hd : (x == ("__debug__" : Str)) = false := by decide) : JE G X (.Name x pos) (wC (.str i)) :=
  let ⟨t, h⟩ := hm; je_glob (v := .str i) hg h ⟨t, rfl⟩ (fun _ => rfl) hd
theorem gd_cases {G G' : Gd} (hK : G'.K = G.K) (hE : G'.ec = G.ec) : ∃ T fx cps, G' = ⟨G.K, T, G.ec, fx, cps⟩ := by
  obtain ⟨K', T', ec', fx', cps'⟩ := G'
  dsimp only at hK hE
  subst hK hE
  exact ⟨_, _, _, rfl⟩
theorem ec_all {l : List (Str × Addr)} {Q : Str → Addr → Prop} (h : ∀ p ∈ l, Q p.1 p.2) : ∀ n D, l.lookup n = some D → Q n D := by
  induction l with
  | nil => intro n D e; cases e
  | cons q l ih =>
    intro n D e
    rw [List.lookup_cons] at e
    split at e
    · rename_i z
      cases e
      rw [beq_iff_eq.mp z]
      exact h q List.mem_cons_self
    · exact ih (fun p hp => h p (List.mem_cons_of_mem _ hp)) n D e
structure ExcK (K : PySem.W.Frag) (ec : Str → Option Addr) (mg : Str → Option Value) (x : Str) (C : Addr) : Prop where
  ec : ec x = some C
  ei : PySem.W.excIn K C [.type "ValueError", .type "Exception", .type "BaseException", .type "object"] "ValueError.__new__" = true
  mg : mg x = some (.ref C)
  kp : PySem.W.keepIn K (.ref C) = true
  sb : PySem.W.subIn K (.ref C) (.type "BaseException") = some true
  ty : PySem.W.typeIn K (.ref C) = some (.type "type")
theorem ExcK.t {mg : Str → Option Value} {x : Str} {C : Addr} (h : ExcK G.K G.ec mg x C) : ExcT G mg x C := ⟨h.ec, h.ei, h.mg, h.kp, h.sb, h.ty⟩
/-- isinstance(e, C), the error at a -/
def wIsE (i : Nat) (a : Addr) (b : Bool) : WE := fun ε S Q _ => ε[i]? = some (some (.ref a)) ∧ Q (.bl b) S
theorem je_isET {i : Nat} {a D : Addr} {n : PX} {oe : Obj} {pn : List (Addr × Obj)} {v c : Str} {tn : String} {b : Bool} {d : Option Addr} {p p1 p2 pos : Pos} (hv : JE G (X.suite a ((a, oe) :: pn)) (.Name v p1) (wV i)) (E : ExcC X.K D) (hn : n.arg = none) (hd : n.arg = none → d = none) (hz : Zc (.ref D) d oe) (hf : ∃ vs, oe.data = .fields vs)
    (hg : Gl X "isinstance") (hm : X.mg "isinstance" = none) (hgc : Gl X c) (hmc : X.mg c = none) (hbc : bootBuiltins c = some (.type tn)) (hk : PySem.W.kitOne X.K (.ref D) (.type tn) = some b) (hdb : (c == ("__debug__" : Str)) = false := by decide) (hnn : c ≠ "__name__" := by decide)
    (hs : starEach [.Name v p1, .Name c p2] X.env = (false, eval (.Name v p1) X.env) :: starEach [.Name c p2] X.env := by rfl) (hs2 : starEach [.Name c p2] X.env = (false, eval (.Name c p2) X.env) :: starEach [] X.env := by rfl) (hpl : (backTo pos (starEach [.Name c p2] X.env)).any (·.1) = false := by rfl) :
    JE G (X.suite a ((a, oe) :: pn)) (.Call (.Name "isinstance" p) [.Name v p1, .Name c p2] [] pos) (wIsE i a b) :=
  ⟨fun ε S Q E' w σ H re sr Wx tk ex => by
    obtain ⟨w1, w2⟩ := w
    have hd0 := hd hn
    subst hd0
    refine sE_of (pe_callB (call_isE E hz hf) hg hm (by decide +kernel) (pa_cons pe_sE (pa_cons (pe_bltn (v := .ty tn) hgc hmc hbc rfl hnn hdb) pa_nil hs2) hs) (by decide) (by decide) hs hpl) ?_
    refine hv.dn (Q := fun x S1 => x = .ref a ∧ S1 = S) (E := E') (by unfold wV; rw [w1]; exact ⟨rfl, rfl⟩) re sr tk ex fun u H1 ⟨y, S1, s1, sr1, r1, ey, eS⟩ => ?_
    subst ey eS
    cases r1
    refine ⟨.ty tn, .type tn, _, rfl, fun u hu => hu, hk, (ql_bl (Q := Q) sr1 w2).mono s1⟩⟩
/-- an error without an argument -/
def wArgN (n : PX) (w : WS) : WS := fun D ε S => n.arg = none ∧ w D ε S
theorem jss_argN {n : PX} {sts : List Stmt} {w : WS} (h : n.arg = none → JSs G X sts w) : JSs G X sts (wArgN n w) := ⟨fun D ε S ⟨e, q⟩ => (h e).run D ε S q⟩
def cReprB : OC := fun xs S Q => match xs with
  | [.bl b] => Q (.str (if b then "True" else "False")) S
  | _ => False
theorem call_reprB : CallR X (.builtin "repr") (fun xs H Q => ∃ b, xs = [.bl b] ∧ Q (.str (if b then "True" else "False")) H) := by
  intro pins s σ H xs us Q I r h
  obtain ⟨b, rfl, q⟩ := h
  obtain ⟨u, rfl, t⟩ := vals1 r
  cases t
  exact PySem.P.repr_of_bool ⟨.str _, H, I.tok _, ⟨_, rfl⟩, q⟩
theorem cl_reprB : CallL G (fun xs H Q => ∃ b, xs = [.bl b] ∧ Q (.str (if b then "True" else "False")) H) cReprB := fun H S xs vs Q K sr r k q => by
  unfold cReprB at q
  split at q
  · obtain ⟨v, rfl, rv⟩ := reps1 r
    cases rv
    exact ⟨_, rfl, k _ _ (ql_str sr q)⟩
  · exact q.elim
end
section
variable {G : Gd} {X : Cx}
def rSumAll (K : PySem.W.Frag) : List V → Hp → VK → Prop := fun vs H Q => ∃ (a : Addr) (ns : List Int), vs = [V.ref a] ∧ (SqL K H a (ns.map V.int) ∨ SqT K H a (ns.map V.int)) ∧ Q (.int ns.sum) H
theorem cr_sum2 (hc : X.calm = true) : CallR X (.builtin "sum") (rSumAll X.K) := by
  intro pins s σ H vs us Q I r h
  obtain ⟨a, ns, rfl, hs | hs, q⟩ := h
  · exact cr_sum hc pins s σ H _ us Q I r ⟨a, ns, rfl, hs, q⟩
  · obtain ⟨its, rv, hl, _⟩ := I.tuple hs
    rw [Vals.ref1 r]
    have hi := rv.ints
    obtain ⟨xs, e⟩ := hi.allInts.items
    have hn : numsOf (intItems xs).toList = ns := by rw [← e]; exact hi.numsOf
    rw [nums_intItems] at hn
    have hl' : s.heap.IsTuple a its.toArray := hl
    rw [e] at hl'
    refine PySem.W.ktm_sumG (I.ok.hd hc) hl' fun h' tk t' hk => ?_
    refine ⟨.int _, H, I.kept hk, ⟨t', ?_⟩, q⟩
    rw [preSum_eq, List.take_of_length_le (by simp), hn]
def cSum2 : OC := fun xs S Q => match xs with
  | [.ref a] => ∃ ns : List Int, IntsAt S a ns ∧ Q (.int ns.sum) S
  | [.tup ys] => ∃ ns : List Int, ys = ns.map PV.int ∧ Q (.int ns.sum) S
  | _ => False
theorem cl_sum2 : CallL G (rSumAll G.K) cSum2 := fun H S xs vs Q K sr r k q => by
  unfold cSum2 at q
  split at q
  · obtain ⟨v, rfl, rv⟩ := reps1 r
    cases rv
    obtain ⟨ns, e, q⟩ := q
    exact ⟨_, ns, rfl, .inl (ints_at sr e), k _ _ (ql_int sr q)⟩
  · obtain ⟨v, rfl, rv⟩ := reps1 r
    obtain ⟨a, ws, rfl, ha, ra⟩ := rv
    obtain ⟨ns, rfl, q⟩ := q
    rw [reps_ints] at ra
    subst ra
    exact ⟨_, ns, rfl, .inr ha, k _ _ (ql_int sr q)⟩
  · exact q.elim
end
/-! ### what a def leaves behind is dropped -/
def dnQ (Q : KE) : KE := fun x S => ∃ S2, Sub S2 S ∧ Q x S2
def PD.fnD (Q : KE) (E : KX) : PD := PD.fn (dnQ Q) fun n S => ∃ S2, Sub S2 S ∧ E n S2
section
variable {P : Program} {w : World} {mg : Str → Option Value} {base : Heap} {G : Gd}
theorem QL.down {S : Sto} {H H' : Hp} {Q : KE} {v : V} (h : QL G S H (dnQ Q) v H') : QL G S H Q v H' := let ⟨x, S1, s1, sr1, r, S2, sb, q⟩ := h; ⟨x, S2, s1.sub sb, sr1.sub sb, r, q⟩
theorem fn_okD {x qual : Str} {st : Stmt} {f : Addr} {fd : FuncData} {N ps : List Str} {k : Nat} {sp : PSp} {W : WS} (F : Fun G.K x qual st f fd) (Sc : FnScope N ps (defScope st)) (len : ∀ xs S Q E, sp xs S Q E → xs.length = ps.length)
    (hbody : ∀ (cdv : Value) (A : Around) (outer : List Env) (s : Shared) (H : Hp) (E : XK), fd.code = cdv → A.guards = some [] → Room k (A.deeper (envOfC qual (defScope st) s.heap.objs.size f cdv)) → JSs G (cxOf (L2.CX P w) P w G.K mg base N qual (defScope st) f cdv A outer s H E) (defBody st) W)
    (hW : ∀ xs S Q E, sp xs S Q E → W (PD.fnD Q E) (startP N xs) S) : FnP G P w mg base (k + 1) f fd ps sp := by
  obtain ⟨oc, od, kV, doc, pm, an, cdv, ct, osl, rfl, lk, hcd⟩ := F.ex
  have hl : ∀ vs H Q E, liftSp G sp vs H Q E → vs.length = ps.length := fun vs H Q E ⟨xs, S, Q', E', r, _, h, _⟩ => by rw [← reps_length r]; exact len _ _ _ _ h
  refine ⟨hl, fun A outer s H args us vs Q E hgd hr e0 hb r hsp => ?_⟩
  refine LamX.run_ofS lk hcd Sc hr e0 hb r (hl _ _ _ _ hsp) fun hr' => ?_
  obtain ⟨xs, S, Q', E', r, sr, h, k1, k2⟩ := hsp
  refine ⟨_, pss_sSs, (hbody cdv A outer s H E rfl hgd hr').dn (hW xs S Q' E' h) (renv_start r) sr (takes_of rfl rfl rfl rfl) (fun n ε' S' cls d σ' H' st sr' _ rx ⟨S2, sb, e⟩ => k2 n S2 cls d H' (st.sub sb) (sr'.sub sb) rx e) ⟨?_, fun v H' q => k1 v H' q.down, ?_, ?_⟩⟩
  · exact fun σ' H' ⟨ε', S', st, sr', re', q⟩ => k1 _ _ (QL.down ⟨.non, S', st, sr', rfl, q⟩)
  · exact fun σ' H' ⟨ε', S', st, sr', re', q⟩ => q.elim
  · exact fun σ' H' ⟨ε', S', st, sr', re', q⟩ => q.elim
/-! ### the hand -/
abbrev handS (h c : Addr) (cells : List Int) (p l m k : Int) : Sto := supd (supd (fun _ => none) h (.lst [.ref c, .int p, .int l, .int m, .int k])) c (.lst (cells.map PV.int))
/-- a draw: some number below the bound, the view is as it was -/
def spDraw : PSp := fun xs S Q _ => ∃ (h : Addr) (n : Int), xs = [.ref h, .int n] ∧ S h = some .hand ∧ 0 < n ∧ n < 2 ^ 64 ∧ ∀ d : Int, 0 ≤ d → d < n → Q (.int d) S
structure DrawP (sp : PSp) : Prop where
  run : ∀ (h c : Addr) (cells : List Int) (p l m k n : Int) (Q : KE) (E : KX), h ≠ c → 0 < n → n < 2 ^ 64 → (∀ x ∈ cells, 0 ≤ x) → 0 ≤ p → 0 ≤ l → 0 ≤ m → 0 ≤ k → cells.length ≤ 63 →
    (∀ (d p l m k : Int), 0 ≤ d → d < n → 0 ≤ p → 0 ≤ l → 0 ≤ m → 0 ≤ k → Q (.int d) (handS h c cells p l m k)) → sp [.ref h, .int n] (handS h c cells p l m k) Q E
theorem draw_ok {k : Nat} {f : Addr} {fd : FuncData} {ps : List Str} {sp : PSp} (F : FnP G P w mg base k f fd ps sp) (hp : DrawP sp) : FnP G P w mg base k f fd ps spDraw := by
  refine FnG.imp F fun vs H Q E ⟨xs, S, Q', E', r, sr, q, k1, k2⟩ => ?_
  obtain ⟨h, n, rfl, hS, hn, hn2, hq⟩ := q
  obtain ⟨c, hc, cells, p, l, m, kk, e1, e2, g1, g2, g3, g4, g5, g6⟩ := sr.ok h _ hS
  have hne : h ≠ c := fun z => by rw [z, hc] at hS; cases hS
  have sh : handS h c cells p l m kk h = some (.lst [.ref c, .int p, .int l, .int m, .int kk]) := by
    rw [handS, supd_ne hne, supd_same]
  have sc : handS h c cells p l m kk c = some (.lst (cells.map PV.int)) := supd_same
  have so : ∀ b p l m kk, b ≠ h → b ≠ c → handS h c cells p l m kk b = none := fun b p l m kk n1 n2 => by
    rw [handS, supd_ne n2, supd_ne n1]
  have S0 : SR G H (handS h c cells p l m kk) := by
    refine ⟨fun b o e => ?_, sr.tb, fun p hp => ⟨(sr.fx p hp).1, ?_⟩, sr.cp⟩
    · by_cases hb : b = h
      · rw [hb, sh] at e; cases e
        rw [hb]
        exact ⟨_, e1, _, _, rfl, rfl, _, _, rfl, rfl, _, _, rfl, rfl, _, _, rfl, rfl, _, _, rfl, rfl, rfl⟩
      · by_cases hb2 : b = c
        · rw [hb2, sc] at e; cases e
          rw [hb2]
          exact ⟨_, e2, reps_ints.mpr rfl⟩
        · rw [so b _ _ _ _ hb hb2] at e; cases e
    · refine so _ _ _ _ _ (fun z => ?_) fun z => ?_
      · have := (sr.fx p hp).2; rw [z, hS] at this; cases this
      · have := (sr.fx p hp).2; rw [z, hc] at this; cases this
  refine ⟨_, _, fun x S' => ∃ d p l m k : Int, x = .int d ∧ 0 ≤ d ∧ d < n ∧ 0 ≤ p ∧ 0 ≤ l ∧ 0 ≤ m ∧ 0 ≤ k ∧ S' = handS h c cells p l m k, fun _ _ => False, r, S0, hp.run h c cells p l m kk n _ _ hne hn hn2 g1 g2 g3 g4 g5 g6 fun d p l m k a1 a2 a3 a4 a5 a6 => ⟨d, p, l, m, k, rfl, a1, a2, a3, a4, a5, a6, rfl⟩, fun v H' ⟨x, S', st, sr', rx, d, p', l', m', k', ex, a1, a2, a3, a4, a5, a6, eS⟩ => ?_, fun _ _ _ _ _ _ _ _ z => z.elim⟩
  subst ex eS
  have hh : H' h = some (.lst [.ref c, .int p', .int l', .int m', .int k']) := by
    obtain ⟨vs, e, rv⟩ := sr'.ok h _ (show handS h c cells p' l' m' k' h = some (.lst [.ref c, .int p', .int l', .int m', .int k']) by rw [handS, supd_ne hne, supd_same])
    obtain ⟨_, _, rfl, ra, _, _, rfl, rb, _, _, rfl, rc, _, _, rfl, rd, _, _, rfl, re, rfl⟩ := rv
    cases ra; cases rb; cases rc; cases rd; cases re
    exact e
  have hcc : H' c = some (.lst (cells.map V.int)) := by
    obtain ⟨vs, e, rv⟩ := sr'.ok c _ (show handS h c cells p' l' m' k' c = _ from supd_same)
    rw [reps_ints.mp rv] at e
    exact e
  have stay : ∀ b o, b ≠ h → b ≠ c → H b = some o → (∀ ps, o ≠ .tbl ps) → H' b = some o := fun b o n1 n2 e t => (st.fr b o (so b _ _ _ _ n1 n2) e t).1
  have notb : ∀ b o u, S b = some o → H b = some u → ∀ ps, u ≠ .tbl ps := fun b o u q hu ps z => by
    have m := sr.ok b o q
    subst z
    cases o with
    | lst xs => obtain ⟨vs, e1, _⟩ := m; rw [hu] at e1; cases e1
    | rol xs =>
      obtain ⟨vs, e1 | ⟨v, e1⟩, _⟩ := m
      · rw [hu] at e1; cases e1
      · rw [hu] at e1; cases e1
    | hand => obtain ⟨c, _, cells, p, l, m, k, e1, _⟩ := m; rw [hu] at e1; cases e1
    | priv => obtain ⟨vs, e1⟩ := m; rw [hu] at e1; cases e1
    | dct kvs => obtain ⟨vs, e1, _⟩ := m; rw [hu] at e1; cases e1
  have srS : SR G H' S := by
    refine ⟨fun b o e => ?_, sr'.tb, fun p hp => ⟨(sr'.fx p hp).1, (sr.fx p hp).2⟩, sr'.cp⟩
    by_cases hb : b = h
    · rw [hb, hS] at e; cases e
      rw [hb]
      exact ⟨c, hc, cells, p', l', m', k', hh, hcc, g1, a3, a4, a5, a6, g6⟩
    · by_cases hb2 : b = c
      · rw [hb2, hc] at e; cases e
        rw [hb2]
        exact ⟨_, hcc⟩
      · refine (sr.ok b o e).keep st.st (fun u hu => stay b u hb hb2 hu (notb b o u e hu)) fun c2 ec2 => ⟨ec2, fun u hu => ?_⟩
        by_cases hc2 : c2 = c
        · rw [hc2] at hu ⊢
          rw [e2] at hu; cases hu
          exact hcc
        · have n2 : c2 ≠ h := fun z => by rw [z, hS] at ec2; cases ec2
          exact stay c2 u n2 hc2 hu (notb c2 _ u ec2 hu)
  refine k1 v H' ⟨.int d, S, ⟨st.st, fun b o n e t => ?_⟩, srS, rx, hq d a1 a2⟩
  have n1 : b ≠ h := fun z => by rw [z, hS] at n; cases n
  have n2 : b ≠ c := fun z => by rw [z, hc] at n; cases n
  exact ⟨stay b o n1 n2 e t, n⟩
/-- the hand is made -/
def spHand : PSp := fun xs S Q _ => ∃ (a : Addr) (ns : List Int), xs = [.ref a] ∧ RdL S a (ns.map PV.int) ∧ ∀ h c : Addr, h ≠ c → S h = none → S c = none → Q (.ref h) (supd (supd S c .priv) h .hand)
structure HandP (sp : PSp) : Prop where
  run : ∀ (a : Addr) (ns : List Int) (S : Sto) (Q : KE) (E : KX), RdL S a (ns.map PV.int) →
    (∀ (h c : Addr) (cells : List Int) (p l m k : Int), h ≠ c → S h = none → S c = none → (∀ x ∈ cells, 0 ≤ x) → 0 ≤ p → 0 ≤ l → 0 ≤ m → 0 ≤ k → cells.length ≤ 63 → Q (.ref h) (supd (supd S c (.lst (cells.map PV.int))) h (.lst [.ref c, .int p, .int l, .int m, .int k]))) → sp [.ref a] S Q E
theorem hand_ok {k : Nat} {f : Addr} {fd : FuncData} {ps : List Str} {sp : PSp} (F : FnP G P w mg base k f fd ps sp) (hp : HandP sp) : FnP G P w mg base k f fd ps spHand := by
  refine FnG.imp F fun vs H Q E ⟨xs, S, Q', E', r, sr, q, k1, k2⟩ => ?_
  obtain ⟨a, ns, rfl, hS, hq⟩ := q
  refine ⟨_, S, fun x S' => ∃ (h c : Addr) (cells : List Int) (p l m k : Int), x = .ref h ∧ h ≠ c ∧ S h = none ∧ S c = none ∧ (∀ x ∈ cells, 0 ≤ x) ∧ 0 ≤ p ∧ 0 ≤ l ∧ 0 ≤ m ∧ 0 ≤ k ∧ cells.length ≤ 63 ∧ S' = supd (supd S c (.lst (cells.map PV.int))) h (.lst [.ref c, .int p, .int l, .int m, .int k]), fun _ _ => False, r, sr, hp.run a ns S _ _ hS fun h c cells p l m k a1 a2 a3 a4 a5 a6 a7 a8 a9 => ⟨h, c, cells, p, l, m, k, rfl, a1, a2, a3, a4, a5, a6, a7, a8, a9, rfl⟩, fun v H' ⟨x, S', st, sr', rx, h, c, cells, p, l, m, k, ex, a1, a2, a3, a4, a5, a6, a7, a8, a9, eS⟩ => ?_, fun _ _ _ _ _ _ _ _ z => z.elim⟩
  subst ex eS
  have hh : H' h = some (.lst [.ref c, .int p, .int l, .int m, .int k]) := by
    obtain ⟨vs, e, rv⟩ := sr'.ok h _ supd_same
    obtain ⟨_, _, rfl, ra, _, _, rfl, rb, _, _, rfl, rc, _, _, rfl, rd, _, _, rfl, re, rfl⟩ := rv
    cases ra; cases rb; cases rc; cases rd; cases re
    exact e
  have hcc : H' c = some (.lst (cells.map V.int)) := by
    obtain ⟨vs, e, rv⟩ := sr'.ok c _ (show supd (supd S c (.lst (cells.map PV.int))) h (.lst [.ref c, .int p, .int l, .int m, .int k]) c = some (.lst (cells.map PV.int)) by rw [supd_ne (Ne.symm a1), supd_same])
    rw [reps_ints.mp rv] at e
    exact e
  have eq : ∀ b, b ≠ h → b ≠ c → ∀ u1 u2, supd (supd S c u1) h u2 b = S b := fun b n1 n2 u1 u2 => by rw [supd_ne n1, supd_ne n2]
  refine k1 v H' ⟨.ref h, _, ⟨st.st, fun b o n e t => ?_⟩, ⟨fun b o e => ?_, sr'.tb, fun q hq => ⟨(sr'.fx q hq).1, ?_⟩, sr'.cp⟩, rx, hq h c a1 a2 a3⟩
  · obtain ⟨f1, f2⟩ := st.fr b o n e t
    refine ⟨f1, ?_⟩
    have n1 : b ≠ h := fun z => by rw [z, supd_same] at f2; cases f2
    have n2 : b ≠ c := fun z => by rw [z, supd_ne (Ne.symm a1), supd_same] at f2; cases f2
    rw [eq b n1 n2]; exact n
  · by_cases hb : b = h
    · rw [hb, supd_same] at e; cases e
      rw [hb]
      exact ⟨c, by rw [supd_ne (Ne.symm a1), supd_same], cells, p, l, m, k, hh, hcc, a4, a5, a6, a7, a8, a9⟩
    · by_cases hb2 : b = c
      · rw [hb2, supd_ne (Ne.symm a1), supd_same] at e; cases e
        rw [hb2]
        exact ⟨_, hcc⟩
      · rw [eq b hb hb2] at e
        refine (sr'.ok b o (by rw [eq b hb hb2]; exact e)).keep (.refl _) (fun u hu => hu) fun c2 ec2 => ⟨?_, fun u hu => hu⟩
        by_cases h1 : c2 = h
        · rw [h1, supd_same] at ec2; cases ec2
        · by_cases h2 : c2 = c
          · rw [h2, supd_ne (Ne.symm a1), supd_same] at ec2; cases ec2
          · rw [eq c2 h1 h2] at ec2 ⊢; exact ec2
  · have z := (sr'.fx q hq).2
    have n1 : q.1 ≠ h := fun y => by rw [y, supd_same] at z; cases z
    have n2 : q.1 ≠ c := fun y => by rw [y, supd_ne (Ne.symm a1), supd_same] at z; cases z
    rw [eq _ n1 n2] at z ⊢; exact z
end
end L3

set_option Elab.async false
set_option linter.all false
set_option maxRecDepth 100000
set_option maxHeartbeats 4000000
namespace L3
open PySem PySem.Spec L2
open PyProof.Rows hiding St
/-! ### plain readings -/
section
variable {S S1 : Sto} {ε : PEnv} {D : PD}
theorem s_seq {a b : WS} (h : a { D with nx := b D } ε S) : wSeq a b D ε S := h
theorem s_set {i : Nat} {w : WE} (h : w ε S (fun x S1 => D.nx (ε.set i (some x)) S1) (fun n S1 => D.ex n ε S1)) : wSet i w D ε S := h
theorem s_asg {g : WG} {w : WE} (h : w ε S (fun x S1 => g x ε S1 D.nx) (fun n S1 => D.ex n ε S1)) : wAsg w g D ε S := h
theorem s_expr {w : WE} (h : w ε S (fun _ S1 => D.nx ε S1) (fun n S1 => D.ex n ε S1)) : wExpr w D ε S := h
theorem s_ret {w : WE} (h : w ε S D.rt (fun n S1 => D.ex n ε S1)) : wRet w D ε S := h
theorem s_if {t : WT} {a b : WS} (h : t ε S (fun c S1 => if c = true then a D ε S1 else b D ε S1) (fun n S1 => D.ex n ε S1)) : wIf t a b D ε S := h
theorem s_next (h : D.nx ε S) : wNext D ε S := h
theorem s_for {wi : WI} {g : WG} {body : WS} (h : wi ε S (fun src S1 => forW src.keep g body D src.items ε S1) (fun n S1 => D.ex n ε S1)) : wFor wi g body D ε S := h
theorem s_par {i j : Nat} {w : WA} (h : w ε S (fun xs S1 => match xs with
  | [x, y] => D.nx ((ε.set i (some x)).set j (some y)) S1
  | _ => False) (fun n S1 => D.ex n ε S1)) : wPar i j w D ε S := h
theorem s_raise {x : Str} (h : D.ex ⟨x, none⟩ ε S) : wRaise x D ε S := h
/-- loops by an invariant -/
theorem for_inv {keep : Sto → Prop} {g : WG} {body : WS} {D : PD} (P : Nat → PEnv → Sto → Prop) {items : List PV} (hk : ∀ k ε S, P k ε S → keep S)
    (step : ∀ (k : Nat) (x : PV), items[k]? = some x → ∀ (C : PEnv → Sto → Prop), (∀ ε2 S2 ε3 S3, Le ε3 ε2 → Sub S3 S2 → P (k + 1) ε3 S3 → C ε2 S2) → ∀ ε S, P k ε S →
      g x ε S fun ε1 S1 => body { nx := C, rt := D.rt, bk := D.nx, ct := C, ex := D.ex } ε1 S1)
    (fin : ∀ ε S, P items.length ε S → D.nx ε S) (h0 : P 0 ε S) : forW keep g body D items ε S := by
  have aux : ∀ (n k : Nat), n + k = items.length → ∀ ε S, P k ε S → forW keep g body D (items.drop k) ε S := by
    intro n
    induction n with
    | zero =>
      intro k e ε S p
      rw [List.drop_of_length_le (by omega)]
      exact ⟨hk k ε S p, fin ε S (by have e' : k = items.length := by omega
                                     rw [← e']; exact p)⟩
    | succ n ih =>
      intro k e ε S p
      have hlt : k < items.length := by omega
      rw [List.drop_eq_getElem_cons hlt]
      refine ⟨hk k ε S p, ?_⟩
      exact step k items[k] (by rw [List.getElem?_eq_getElem hlt]) _ (fun ε2 S2 ε3 S3 l sb p3 => ⟨ε3, S3, l, sb, ih (k + 1) (by omega) ε3 S3 p3⟩) ε S p
  exact aux items.length 0 (by omega) ε S h0
/-- comprehensions: the elements by value -/
theorem lc_map {α : Type} {keep : Sto → Prop} {g : WG} {we : WE} {K : List PV → Sto → Prop} (I : Sto → Prop) (l : List α) (h f : α → PV) (hl : l.length ≤ sizeLine) (hk : ∀ S, I S → keep S)
    (el : ∀ a ∈ l, ∀ (S : Sto) (C : KE), I S → (∀ S', I S' → C (f a) S') → g (h a) ε S fun ε2 S2 => we ε2 S2 C (fun _ _ => False))
    (fin : ∀ S', I S' → K (l.map f) S') (hI : I S) : lcW keep g wYes we ε K (l.map h) [] S := by
  have aux : ∀ (l2 l1 : List α), l = l1 ++ l2 → ∀ S, I S → lcW keep g wYes we ε K (l2.map h) (l1.map f) S := by
    intro l2
    induction l2 with
    | nil =>
      intro l1 e S hI
      rw [List.append_nil] at e
      rw [← e]
      exact ⟨hk S hI, fin S hI⟩
    | cons a l2 ih =>
      intro l1 e S hI
      refine ⟨hk S hI, el a (by rw [e]; simp) S _ hI fun S' hI' => ⟨?_, ?_⟩⟩
      · rw [List.length_map]
        have : l.length = l1.length + (l2.length + 1) := by rw [e]; simp
        omega
      · have := ih (l1 ++ [a]) (by rw [e]; simp) S' hI'
        rw [List.map_append] at this
        exact this
  exact aux l [] rfl S hI
/-- comprehensions: the elements keep R -/
theorem lc_any {keep : Sto → Prop} {g : WG} {we : WE} {K : List PV → Sto → Prop} {items : List PV} (I : Sto → Prop) (R : PV → Prop) (hl : items.length ≤ sizeLine) (hk : ∀ S, I S → keep S)
    (el : ∀ a ∈ items, ∀ (S : Sto) (C : KE), I S → (∀ y S', R y → I S' → C y S') → g a ε S fun ε2 S2 => we ε2 S2 C (fun _ _ => False))
    (fin : ∀ ys S', ys.length = items.length → (∀ y ∈ ys, R y) → I S' → K ys S') (hI : I S) : lcW keep g wYes we ε K items [] S := by
  have aux : ∀ (l2 acc : List PV), acc.length + l2.length = items.length → (∀ a ∈ l2, a ∈ items) → (∀ y ∈ acc, R y) → ∀ S, I S → lcW keep g wYes we ε K l2 acc S := by
    intro l2
    induction l2 with
    | nil => exact fun acc e _ ha S hI => ⟨hk S hI, fin acc S (by simpa using e) ha hI⟩
    | cons a l2 ih =>
      intro acc e hm ha S hI
      refine ⟨hk S hI, el a (hm a List.mem_cons_self) S _ hI fun y S' hy hI' => ⟨?_, ?_⟩⟩
      · simp at e; omega
      · refine ih (acc ++ [y]) (by simp at e ⊢; omega) (fun b hb => hm b (List.mem_cons_of_mem _ hb)) (fun z hz => ?_) S' hI'
        rcases List.mem_append.mp hz with h1 | h1
        · exact ha z h1
        · rw [List.mem_singleton.mp h1]; exact hy
  exact aux items [] (by simp) (fun _ h => h) (fun _ h => nomatch h) S hI
end
/-! ### views -/
section
variable {S S1 : Sto} {p q : Addr} {o u : MO}
theorem keep1 (h : S p = some o) (n : S q = none) : supd S q u p = some o := by rw [supd_ne (fun z => by rw [z, n] at h; cases h)]; exact h
theorem none1 (h : S p = none) (n : p ≠ q) : supd S q u p = none := by rw [supd_ne n]; exact h
theorem RdL.keep {xs : List PV} (h : RdL S p xs) (n : S q = none) : RdL (supd S q u) p xs := by
  rcases h with h | h
  · exact .inl (keep1 h n)
  · exact .inr (keep1 h n)
theorem RdL.sub {xs : List PV} (h : RdL S p xs) (s : Sub S S1) : RdL S1 p xs := h.imp (s.le _ _) (s.le _ _)
theorem Sub.none' (s : Sub S S1) (n : S1 q = none) : S q = none := by
  cases e : S q with
  | none => rfl
  | some w => have := s.le _ _ e; rw [n] at this; cases this
theorem Sub.grow (s : Sub S S1) (n : S1 q = none) (h : u ≠ .priv := by nofun) : Sub S (supd S1 q u) := s.trans (.new n h)
/-- an own thing is written -/
theorem Sub.own (s : Sub S S1) (n : S q = none) (h : u ≠ .priv := by nofun) : Sub S (supd S1 q u) :=
  ⟨fun a w e => by rw [supd_ne (fun z => by rw [z, n] at e; cases e)]; exact s.le a w e, fun a e c hc => by
    by_cases hq : c = q
    · rw [hq, supd_same] at hc; exact absurd (Option.some.inj hc) h
    · rw [supd_ne hq] at hc; exact s.pr a e c hc⟩
end
theorem ixN_nat {n i : Nat} (h : i < n) : ixN n (i : Int) = some i := by
  unfold ixN
  rw [if_pos (by omega), if_pos (by omega)]
  simp
theorem atI_nat {α : Type} {xs : List α} {i : Nat} {v : α} (h : xs[i]? = some v) : atI xs (i : Int) = some v := by
  unfold atI
  have hl : i < xs.length := (List.getElem?_eq_some_iff.mp h).1
  rw [ixN_nat hl]
  exact h
theorem atI_last {α : Type} {xs : List α} {v : α} (h : xs[xs.length - 1]? = some v) : atI xs (-1) = some v := by
  unfold atI ixN
  have hl : xs.length - 1 < xs.length := (List.getElem?_eq_some_iff.mp h).1
  rw [if_neg (by omega), if_pos (by omega)]
  have e : ((-1 : Int) + (xs.length : Int)).toNat = xs.length - 1 := by omega
  show xs[((-1 : Int) + (xs.length : Int)).toNat]? = some v
  rw [e]; exact h
theorem map_int {α : Type} (l : List α) (f : α → Int) : (l.map fun a => PV.int (f a)) = (l.map f).map PV.int := by rw [List.map_map]; rfl
theorem map_bl {α : Type} (l : List α) (f : α → Bool) : (l.map fun a => PV.bl (f a)) = (l.map f).map PV.bl := by rw [List.map_map]; rfl
theorem CMr {i j : Int} (h : -(2 ^ 64) < j ∧ j < 2 ^ 64) : CM i j := .inl (.inr h)
theorem CMl {i j : Int} (h : -(2 ^ 64) < i ∧ i < 2 ^ 64) : CM i j := .inl (.inl h)
theorem cdw {i j : Int} (h : 0 < j) (h2 : j < 2 ^ 64) : CDivW i j := ⟨h, by
  have e : j.natAbs < 2 ^ 64 := by omega
  have := (Nat.log2_lt (n := j.natAbs) (k := 64) (by omega)).mpr e
  omega⟩
theorem fnD_rt {Q : KE} {E : KX} : (PD.fnD Q E).rt = dnQ Q := rfl
theorem fnD_ex {Q : KE} {E : KX} : (PD.fnD Q E).ex = fun n _ S => ∃ S2, Sub S2 S ∧ E n S2 := rfl
theorem fnD_nx {Q : KE} {E : KX} : (PD.fnD Q E).nx = fun _ S => dnQ Q .non S := rfl
theorem dn_same {Q : KE} {x : PV} {S : Sto} (h : Q x S) : dnQ Q x S := ⟨S, .refl S, h⟩
theorem dn_sub {Q : KE} {x : PV} {S S1 : Sto} (s : Sub S S1) (h : Q x S) : dnQ Q x S1 := ⟨S, s, h⟩
theorem hand_at {h c : Addr} {cells : List Int} {p l m k : Int} (hne : h ≠ c) : handS h c cells p l m k h = some (.lst [.ref c, .int p, .int l, .int m, .int k]) := by rw [handS, supd_ne hne, supd_same]
theorem hand_c {h c : Addr} {cells : List Int} {p l m k : Int} : handS h c cells p l m k c = some (.lst (cells.map PV.int)) := supd_same
theorem hand_set {h c : Addr} {cells : List Int} {p l m k p' l' m' k' : Int} (hne : h ≠ c) : supd (handS h c cells p l m k) h (.lst [.ref c, .int p', .int l', .int m', .int k']) = handS h c cells p' l' m' k' := by
  funext b
  by_cases h1 : b = h
  · rw [h1, supd_same, hand_at hne]
  · rw [supd_ne h1]
    by_cases h2 : b = c
    · rw [h2, hand_c, hand_c]
    · rw [handS, handS, supd_ne h2, supd_ne h1, supd_ne h2, supd_ne h1]
theorem Sub.both {S S1 : Sto} {q : Addr} {u : MO} (s : Sub S S1) (h : u ≠ .priv := by nofun) (h2 : u ≠ .hand := by nofun) : Sub (supd S q u) (supd S1 q u) :=
  ⟨fun a w e => by
    by_cases ha : a = q
    · rw [ha, supd_same] at e ⊢; exact e
    · rw [supd_ne ha] at e ⊢; exact s.le a w e, fun a e c hc => by
    by_cases hq : c = q
    · rw [hq, supd_same] at hc; exact absurd (Option.some.inj hc) h
    · rw [supd_ne hq] at hc ⊢
      by_cases ha : a = q
      · rw [ha, supd_same] at e
        exact absurd (Option.some.inj e) h2
      · rw [supd_ne ha] at e; exact s.pr a e c hc⟩
theorem cut_lo {xs : List PV} {k : Nat} : cutP xs (some (k : Int)) none = xs.drop k := by
  unfold cutP
  rw [HT.sIx_nat, HT.sIx_none]
  by_cases h : k ≤ xs.length
  · rw [Nat.min_eq_left h, List.take_of_length_le (by rw [List.length_drop]; omega)]
  · rw [Nat.min_eq_right (by omega), List.drop_of_length_le (Nat.le_refl _), List.drop_of_length_le (by omega), List.take_nil]
theorem cut_hi {xs : List PV} {k : Nat} : cutP xs none (some (k : Int)) = xs.take k := by
  unfold cutP
  rw [HT.sIx_nat, HT.sIx_none, List.drop_zero]
  by_cases h : k ≤ xs.length
  · rw [Nat.min_eq_left h]; simp
  · rw [Nat.min_eq_right (by omega), List.take_of_length_le (by omega), List.take_of_length_le (by omega)]
theorem cut_both {xs : List PV} {k j : Nat} (h : k ≤ j) (h2 : j ≤ xs.length) : cutP xs (some (k : Int)) (some (j : Int)) = (xs.drop k).take (j - k) := by
  unfold cutP
  rw [HT.sIx_nat, HT.sIx_nat, Nat.min_eq_left h2, Nat.min_eq_left (Nat.le_trans h h2)]
theorem rangeP_map (lo : Int) (n : Nat) : rangeP lo n = (List.range n).map fun i => PV.int (lo + (i : Nat)) := rfl
theorem dats_ints {S : Sto} : ∀ ns : List Int, Dats S (ns.map PV.int) (ns.map PyData.int)
  | [] => .nil
  | _ :: ns => .cons (.int _) (dats_ints ns)
theorem lay_ints : ∀ ns : List Int, PyData.canLayAll0 (ns.map PyData.int) = true
  | [] => by simp [PyData.canLayAll0]
  | _ :: ns => by simp [PyData.canLayAll0, PyData.canLay0, lay_ints ns]
theorem depth_ints : ∀ ns : List Int, PyData.depthAll (ns.map PyData.int) = 0
  | [] => by simp [PyData.depthAll]
  | _ :: ns => by simp [PyData.depthAll, PyData.depth, depth_ints ns]
theorem shaped_ints (ns : List Int) : SeqAt.shaped (.list (ns.map PyData.int)) = true := by
  simp [SeqAt.shaped, PyData.canLay0, PyData.depth, lay_ints, depth_ints]
theorem shaped_tints (ns : List Int) : SeqAt.shaped (.tuple (ns.map PyData.int)) = true := by
  simp [SeqAt.shaped, PyData.canLay0, PyData.depth, lay_ints, depth_ints]
theorem eqv_ints : ∀ xs ys : List Int, PyData.eqvAll (xs.map PyData.int) (ys.map PyData.int) = decide (xs = ys)
  | [], [] => by simp [PyData.eqvAll]
  | [], _ :: _ => by simp [PyData.eqvAll]
  | _ :: _, [] => by simp [PyData.eqvAll]
  | x :: xs, y :: ys => by
    simp only [List.map_cons, PyData.eqvAll, PyData.eqv, eqv_ints xs ys, List.cons.injEq, Bool.decide_and]
    rfl
theorem eq_ints {neg : Bool} {a b : Addr} {xs ys : List Int} {S : Sto} {Q : KE} (ha : RdL S a (xs.map PV.int)) (hb : RdL S b (ys.map PV.int)) (h : Q (.bl (neg ^^ decide (xs = ys))) S) :
    ∃ d e, Dat S (.ref a) d ∧ Dat S (.ref b) e ∧ SeqAt.shaped d = true ∧ SeqAt.shaped e = true ∧ Q (.bl (neg ^^ PyData.eqv d e)) S :=
  ⟨_, _, .lst ha (dats_ints xs), .lst hb (dats_ints ys), shaped_ints xs, shaped_ints ys, by rw [PyData.eqv, eqv_ints]; exact h⟩
theorem eq_tints {neg : Bool} {xs ys : List Int} {S : Sto} {Q : KE} (h : Q (.bl (neg ^^ decide (xs = ys))) S) :
    ∃ d e, Dat S (.tup (xs.map PV.int)) d ∧ Dat S (.tup (ys.map PV.int)) e ∧ SeqAt.shaped d = true ∧ SeqAt.shaped e = true ∧ Q (.bl (neg ^^ PyData.eqv d e)) S :=
  ⟨_, _, .tup (dats_ints xs), .tup (dats_ints ys), shaped_tints xs, shaped_tints ys, by rw [PyData.eqv, eqv_ints]; exact h⟩
theorem intsAt_inj {xs ys : List Int} (h : xs.map PV.int = ys.map PV.int) : xs = ys := by
  have := congrArg (List.map fun | PV.int i => i | _ => 0) h
  simpa [List.map_map, Function.comp_def] using this
theorem s_while {c : WT} {body : WS} {D : PD} {ε : PEnv} {S : Sto} (P : Nat → PEnv → Sto → Prop) (m0 : Nat) (h0 : P m0 ε S)
    (step : ∀ m ε S, P m ε S → c ε S (fun b S1 => if b = true then body { nx := fun ε2 S2 => ∃ m' ε3 S3, m' < m ∧ Le ε3 ε2 ∧ Sub S3 S2 ∧ P m' ε3 S3, rt := D.rt, bk := D.nx, ct := fun ε2 S2 => ∃ m' ε3 S3, m' < m ∧ Le ε3 ε2 ∧ Sub S3 S2 ∧ P m' ε3 S3, ex := D.ex } ε S1 else D.nx ε S1) (fun n S1 => D.ex n ε S1)) : wWhile c body D ε S :=
  ⟨P, ⟨m0, h0⟩, step⟩
end L3

set_option Elab.async false
set_option linter.all false
set_option maxRecDepth 100000
set_option maxHeartbeats 4000000
namespace L3
open PySem PySem.Spec L2
open PyProof.Rows hiding St
/-! ### steps of the readings, by head -/
section
variable {ε : PEnv} {S : Sto} {E : KX} {D : PD}
theorem e_cons {wa : WE} {wr : WA} {Q : List PV → Sto → Prop} (h : wa ε S (fun x S1 => wr ε S1 (fun xs S2 => Q (x :: xs) S2) E) E) : wCons wa wr ε S Q E := h
theorem e_nil {Q : List PV → Sto → Prop} (h : Q [] S) : wNil ε S Q E := h
theorem e_v {i : Nat} {x : PV} {Q : KE} (he : ε[i]? = some (some x)) (h : Q x S) : wV i ε S Q E := by
  unfold wV
  rw [he]
  exact h
theorem e_c {x : PV} {Q : KE} (h : Q x S) : wC x ε S Q E := h
theorem e_op {o : O2} {wa wb : WE} {Q : KE} (h : wa ε S (fun x S1 => wb ε S1 (fun y S2 => o x y S2 Q) E) E) : wOp o wa wb ε S Q E := h
theorem e_un {o : PV → Sto → KE → Prop} {wa : WE} {Q : KE} (h : wa ε S (fun x S1 => o x S1 Q) E) : wUn o wa ε S Q E := h
theorem e_call {sp : PSp} {w : WA} {Q : KE} (h : w ε S (fun xs S1 => sp xs S1 Q E) E) : wCall sp w ε S Q E := h
theorem e_cb {o : OC} {w : WA} {Q : KE} (h : w ε S (fun xs S1 => o xs S1 Q) E) : wCB o w ε S Q E := h
theorem e_tup {w : WA} {Q : KE} (h : w ε S (fun xs S1 => xs.length ≤ sizeLine ∧ Q (.tup xs) S1) E) : wTup w ε S Q E := h
theorem e_lst {w : WA} {Q : KE} (h : w ε S (fun xs S1 => xs.length ≤ sizeLine ∧ ∀ p, S1 p = none → Q (.ref p) (supd S1 p (.lst xs))) E) : wLst w ε S Q E := h
theorem e_neg {i : Int} {Q : KE} (h : Q (.int (-i)) S) : oNeg (.int i) S Q := h
theorem e_pow {i j : Int} {r : Int} {Q : KE} (hc : CPow i j) (hr : i ^ j.toNat = r) (h : Q (.int r) S) : oPow (.int i) (.int j) S Q := by
  subst hr
  exact ⟨hc, h⟩
theorem e_add {i j : Int} {Q : KE} (h : Q (.int (i + j)) S) : oAdd (.int i) (.int j) S Q := h
theorem e_sub {i j : Int} {Q : KE} (h : Q (.int (i - j)) S) : oSub (.int i) (.int j) S Q := ⟨trivial, h⟩
theorem e_mul {i j : Int} {Q : KE} (hc : CM i j) (h : Q (.int (i * j)) S) : oMul (.int i) (.int j) S Q := ⟨hc, h⟩
/-- a constant to a constant power -/
theorem e_powc {i j r : Int} {Q : KE} (hc : CPow i j) (hr : i ^ j.toNat = r) (h : Q (.int r) S) : wOp oPow (wC (.int i)) (wC (.int j)) ε S Q E := by
  subst hr
  exact ⟨hc, h⟩
end
/-! ### words that a law collects -/
/-- the def that calls a lambda and says by a word which error it raised -/
def WordOk (WW : Thk → Addr → WS) (N : List Str) (nm wd : Str) : Prop := ∀ (th : Thk) (f : Addr) (S : Sto) (Q : KE), (∀ Q' E', (∀ S1, Sub S S1 → E' ⟨nm, none⟩ S1) → th S Q' E') → (∀ S', Sub S S' → Q (.str wd) S') →
  WW th f (PD.fn Q fun _ _ => False) (startP N [.ref f]) S
/-- over the view S0 the list at ws holds ys -/
structure WdI (S0 : Sto) (ws : Addr) (ys : List PV) (S : Sto) : Prop where
  sb : Sub S0 S
  no : S0 ws = none
  at_ : S ws = some (.lst ys)
section
variable {ε : PEnv} {S S0 : Sto} {D : PD} {WW : Thk → Addr → WS} {N : List Str} {nm wd : Str} {wb : WE} {i : Nat} {ws : Addr} {ys : List PV}
theorem word_lam {Q : KE} {E : KX} (hw : WordOk WW N nm wd) (hth : ∀ Q' E', (∀ S1, Sub S S1 → E' ⟨nm, none⟩ S1) → wb ε S Q' E') (h : ∀ S', Sub S S' → Q (.str wd) S') : wLam WW N wb ε S Q E := fun f => hw _ f S Q hth h
theorem word_first (hw : WordOk WW N nm wd) (hth : ∀ Q' E', (∀ S1, Sub S S1 → E' ⟨nm, none⟩ S1) → wb ε S Q' E') (next : ∀ ws S', WdI S ws [.str wd] S' → D.nx (ε.set i (some (.ref ws))) S') :
    wSet i (wLst (wCons (wLam WW N wb) wNil)) D ε S := by
  refine s_set (e_lst (e_cons (word_lam hw hth fun S1 sb => e_nil ⟨(by decide : 1 ≤ sizeLine), fun p hp => ?_⟩)))
  exact next p _ ⟨sb.grow hp, sb.none' hp, supd_same⟩
theorem word_app (I : WdI S0 ws ys S) (hi : ε[i]? = some (some (.ref ws))) (hl : ys.length < 1000) (hw : WordOk WW N nm wd) (hth : ∀ S, Sub S0 S → ∀ Q' E', (∀ S1, Sub S S1 → E' ⟨nm, none⟩ S1) → wb ε S Q' E')
    (next : ∀ S', WdI S0 ws (ys ++ [.str wd]) S' → D.nx ε S') : wExpr (wBM "list" mAppend (wV i) (wCons (wLam WW N wb) wNil)) D ε S := by
  refine s_expr ?_
  unfold wBM
  refine e_v hi ⟨⟨rfl, ys, .inl I.at_⟩, e_cons (word_lam hw (hth S I.sb) fun S1 sb => e_nil ?_)⟩
  have h1 := sb.le _ _ I.at_
  refine ⟨ys, h1, Nat.lt_of_lt_of_le hl (by decide), next _ ⟨(I.sb.trans sb).own I.no, I.no, supd_same⟩⟩
def strsW : List Str → WA
  | [] => wNil
  | x :: xs => wCons (wC (.str x)) (strsW xs)
theorem e_strs {E : KX} : ∀ (l : List Str) {Q : List PV → Sto → Prop}, Q (l.map PV.str) S → strsW l ε S Q E
  | [], _, h => h
  | x :: l, Q, h => e_strs l (Q := fun xs S2 => Q (.str x :: xs) S2) h
theorem dats_strs {S : Sto} : ∀ ns : List Str, Dats S (ns.map PV.str) (ns.map PyData.str)
  | [] => .nil
  | _ :: ns => .cons (.str _) (dats_strs ns)
theorem lay_strs : ∀ ns : List Str, ns.all PyData.strOk = true → PyData.canLayAll0 (ns.map PyData.str) = true
  | [], _ => by simp [PyData.canLayAll0]
  | _ :: ns, h => by
    simp only [List.all_cons, Bool.and_eq_true] at h
    simp [PyData.canLayAll0, PyData.canLay0, lay_strs ns h.2, h.1]
theorem depth_strs : ∀ ns : List Str, PyData.depthAll (ns.map PyData.str) = 0
  | [] => by simp [PyData.depthAll]
  | _ :: ns => by simp [PyData.depthAll, PyData.depth, depth_strs ns]
theorem shaped_strs (ns : List Str) (h : ns.all PyData.strOk = true) : SeqAt.shaped (.list (ns.map PyData.str)) = true := by
  simp [SeqAt.shaped, PyData.canLay0, PyData.depth, lay_strs ns h, depth_strs]
theorem eqv_strs : ∀ xs ys : List Str, PyData.eqvAll (xs.map PyData.str) (ys.map PyData.str) = decide (xs = ys)
  | [], [] => by simp [PyData.eqvAll]
  | [], _ :: _ => by simp [PyData.eqvAll]
  | _ :: _, [] => by simp [PyData.eqvAll]
  | x :: xs, y :: ys => by
    simp only [List.map_cons, PyData.eqvAll, PyData.eqv, eqv_strs xs ys, List.cons.injEq, Bool.decide_and]
    rfl
theorem eq_strs {neg : Bool} {a b : Addr} {xs ys : List Str} {S : Sto} {Q : KE} (ha : RdL S a (xs.map PV.str)) (hb : RdL S b (ys.map PV.str)) (kx : xs.all PyData.strOk = true) (ky : ys.all PyData.strOk = true) (h : Q (.bl (neg ^^ decide (xs = ys))) S) : oEqN neg (.ref a) (.ref b) S Q :=
  ⟨_, _, .lst ha (dats_strs xs), .lst hb (dats_strs ys), shaped_strs xs kx, shaped_strs ys ky, by rw [PyData.eqv, eqv_strs]; exact h⟩
/-- the words are as they should be -/
theorem words_eq (l : List Str) {W : WA} {Q : KE} {E : KX} (hW : W = strsW l) (I : WdI S0 ws ys S) (hi : ε[i]? = some (some (.ref ws))) (hl : l.length < 1000) (hy : ys = l.map PV.str) (hk : l.all PyData.strOk = true) (h : ∀ S', Sub S0 S' → Q (.bl true) S') : wOp oEq (wV i) (wLst W) ε S Q E := by
  subst hW hy
  refine e_op (e_v hi (e_lst (e_strs l ⟨?_, fun p hp => eq_strs (xs := l) (ys := l) (.inl (keep1 I.at_ hp)) (.inl supd_same) hk hk ?_⟩)))
  · rw [List.length_map]; exact Nat.le_of_lt (Nat.lt_of_lt_of_le hl (by decide))
  · rw [decide_eq_true rfl]
    exact h _ (I.sb.grow hp)
end
/-! ### constants -/
mutual
def okV : PV → Bool
  | .tup xs => decide (xs.length ≤ 1000) && okVs xs
  | _ => true
def okVs : List PV → Bool
  | [] => true
  | x :: xs => okV x && okVs xs
end
class CstI (w : WE) (x : outParam PV) : Prop where
  run : okV x = true → ∀ (ε : PEnv) (S : Sto) (Q : KE) (E : KX), Q x S → w ε S Q E
class CstA (w : WA) (xs : outParam (List PV)) : Prop where
  run : okVs xs = true → ∀ (ε : PEnv) (S : Sto) (Q : List PV → Sto → Prop) (E : KX), Q xs S → w ε S Q E
instance cst_c {x : PV} : CstI (wC x) x := ⟨fun _ _ _ _ _ h => h⟩
instance cst_neg {w : WE} {i : Int} [h : CstI w (.int i)] : CstI (wUn oNeg w) (.int (-i)) := ⟨fun _ ε S Q E q => h.run (by rfl) ε S _ E (e_neg q)⟩
instance cst_add {w u : WE} {i j : Int} [h : CstI w (.int i)] [k : CstI u (.int j)] : CstI (wOp oAdd w u) (.int (i + j)) := ⟨fun _ ε S Q E q => h.run (by rfl) ε S _ E (k.run (by rfl) ε S _ E (e_add q))⟩
instance cst_sub {w u : WE} {i j : Int} [h : CstI w (.int i)] [k : CstI u (.int j)] : CstI (wOp oSub w u) (.int (i - j)) := ⟨fun _ ε S Q E q => h.run (by rfl) ε S _ E (k.run (by rfl) ε S _ E (e_sub q))⟩
instance cst_tup {w : WA} {xs : List PV} [h : CstA w xs] : CstI (wTup w) (.tup xs) := ⟨fun ok ε S Q E q => by
  simp only [okV, Bool.and_eq_true, decide_eq_true_eq] at ok
  exact e_tup (h.run ok.2 ε S _ E ⟨Nat.le_trans ok.1 (by decide), q⟩)⟩
instance cst_nil : CstA wNil [] := ⟨fun _ _ _ _ _ h => h⟩
instance cst_cons {w : WE} {ws : WA} {x : PV} {xs : List PV} [h : CstI w x] [k : CstA ws xs] : CstA (wCons w ws) (x :: xs) := ⟨fun ok ε S Q E q => by
  simp only [okVs, Bool.and_eq_true] at ok
  exact e_cons (h.run ok.1 ε S _ E (k.run ok.2 ε S _ E q))⟩
section
variable {ε : PEnv} {S : Sto} {E : KX}
theorem e_k {w : WE} {x : PV} {Q : KE} [h : CstI w x] (q : Q x S) (ok : okV x = true := by rfl) : w ε S Q E := h.run ok ε S Q E q
theorem e_ks {w : WA} {xs : List PV} {Q : List PV → Sto → Prop} [h : CstA w xs] (q : Q xs S) (ok : okVs xs = true := by rfl) : w ε S Q E := h.run ok ε S Q E q
/-- a list of constants -/
theorem e_lstk {w : WA} {xs : List PV} {Q : KE} [h : CstA w xs] (q : ∀ p, S p = none → Q (.ref p) (supd S p (.lst xs))) (ok : okVs xs = true := by rfl) (hl : xs.length ≤ sizeLine := by decide) : wLst w ε S Q E := e_lst (h.run ok ε S _ E ⟨hl, q⟩)
/-- numbers by powers -/
class PowI (w : WE) (i : outParam Int) : Prop where
  run : ∀ (ε : PEnv) (S : Sto) (Q : KE) (E : KX), Q (.int i) S → w ε S Q E
instance cst_powI {w : WE} {i : Int} [h : PowI w i] : CstI w (.int i) := ⟨fun _ => h.run⟩
instance pow9 : PowI (wOp oPow (wC (.int 10)) (wC (.int 9))) 1000000000 := ⟨fun _ _ _ _ h => e_powc ⟨by decide, by decide, by decide⟩ (by simp) h⟩
instance pow18 : PowI (wOp oPow (wC (.int 10)) (wC (.int 18))) 1000000000000000000 := ⟨fun _ _ _ _ h => e_powc ⟨by decide, by decide, by decide⟩ (by simp) h⟩
instance pow6 : PowI (wOp oPow (wC (.int 10)) (wC (.int 6))) 1000000 := ⟨fun _ _ _ _ h => e_powc ⟨by decide, by decide, by decide⟩ (by simp) h⟩
instance pow12 : PowI (wOp oPow (wC (.int 10)) (wC (.int 12))) 1000000000000 := ⟨fun _ _ _ _ h => e_powc ⟨by decide, by decide, by decide⟩ (by simp) h⟩
instance pow4 : PowI (wOp oPow (wC (.int 10)) (wC (.int 4))) 10000 := ⟨fun _ _ _ _ h => e_powc ⟨by decide, by decide, by decide⟩ (by simp) h⟩
instance pow5 : PowI (wOp oPow (wC (.int 10)) (wC (.int 5))) 100000 := ⟨fun _ _ _ _ h => e_powc ⟨by decide, by decide, by decide⟩ (by simp) h⟩
instance pow60 : PowI (wOp oPow (wC (.int 10)) (wC (.int 60))) 1000000000000000000000000000000000000000000000000000000000000 := ⟨fun _ _ _ _ h => e_powc ⟨by decide, by decide, by decide⟩ (by simp) h⟩
instance pow30 : PowI (wOp oPow (wC (.int 10)) (wC (.int 30))) 1000000000000000000000000000000 := ⟨fun _ _ _ _ h => e_powc ⟨by decide, by decide, by decide⟩ (by simp) h⟩
instance pow20 : PowI (wOp oPow (wC (.int 10)) (wC (.int 20))) 100000000000000000000 := ⟨fun _ _ _ _ h => e_powc ⟨by decide, by decide, by decide⟩ (by simp) h⟩
end
end L3

set_option Elab.async false
set_option linter.all false
set_option maxRecDepth 100000
set_option maxHeartbeats 4000000
namespace L3
open PySem PySem.Spec L2
open PyProof.Rows hiding St
/-! ### repr of data -/
section
variable {G : Gd} {X : Cx} {H H1 : Hp} {S S1 : Sto} {σ : L2.St} {ε : PEnv}
/-- it can be written -/
structure Shw (d : PyData) : Prop where
  sh : d.showable = true
  nd : d.hasDict = false
  dp : d.depth ≤ 50
  ln : d.shown.length ≤ sizeLine
def rReprD (K : PySem.W.Frag) : List V → Hp → VK → Prop := fun xs H Q => ∃ x d, xs = [x] ∧ Dp K H x d ∧ Shw d ∧ Q (.str d.shown) H
theorem call_reprD (hgd : X.A.guards = some []) (hu : X.A.units + 64 < cLine) : CallR X (.builtin "repr") (rReprD X.K) := by
  intro pins s σ H vs us Q I r h
  obtain ⟨x, d, rfl, hd, hw, q⟩ := h
  obtain ⟨u, rfl, ru⟩ := vals1 r
  obtain ⟨as, rd⟩ := Dp.reads I d x u hd ru
  cases rd with
  | none => exact PySem.P.repr_of_none ⟨.str _, H, I.tok _, ⟨_, rfl⟩, q⟩
  | bool b => exact PySem.P.repr_of_bool ⟨.str _, H, I.tok _, ⟨_, rfl⟩, q⟩
  | int i t =>
    have hs := hw.sh
    simp only [PyData.showable, decide_eq_true_eq] at hs
    exact PySem.P.repr_of_int hs ⟨.str _, H, I.tok _, ⟨_, rfl⟩, q⟩
  | str y t =>
    have hl := hw.ln
    simp only [PyData.shown] at hl
    exact PySem.P.repr_of_str ⟨.str _, H, I.tok _, ⟨_, rfl⟩, q⟩ hl
  | list e1 e2 e3 e4 =>
    exact repr_of_reads' (.list e1 e2 e3 e4) hw.sh (PyData.noDict_hsm hw.nd) hgd (by have := hw.dp; omega) (fun _ _ e => e) (fun h' u tk hk => ⟨.str _, H, I.kept hk, ⟨_, rfl⟩, q⟩) hw.ln
  | tuple e1 e2 e3 e4 =>
    exact repr_of_reads' (.tuple e1 e2 e3 e4) hw.sh (PyData.noDict_hsm hw.nd) hgd (by have := hw.dp; omega) (fun _ _ e => e) (fun h' u tk hk => ⟨.str _, H, I.kept hk, ⟨_, rfl⟩, q⟩) hw.ln
  | dict e1 e2 e3 e4 e5 =>
    have hn := hw.nd
    simp only [PyData.hasDict] at hn
    cases hn
def cRepr : OC := fun xs S Q => match xs with
  | [x] => ∃ d, Dat S x d ∧ Shw d ∧ Q (.str d.shown) S
  | _ => False
theorem cl_repr : CallL G (rReprD G.K) cRepr := fun H S xs vs Q K sr r k q => by
  unfold cRepr at q
  split at q
  · obtain ⟨v, rfl, rv⟩ := reps1 r
    obtain ⟨d, hd, hw, q⟩ := q
    exact ⟨v, d, rfl, Dat.dp sr d _ _ hd rv, hw, k _ _ (ql_str sr q)⟩
  · exact q.elim
/-! ### range with a step, reversed, zip -/
theorem ji_range3 {tg a b c : Expr} {wa wb wc : WE} {p pos : Pos} (hg : Gl X "range") (hm : X.mg "range" = none) (ha : JE G X a wa) (hb : JE G X b wb) (hc : JE G X c wc) (hs : starEach [a, b, c] X.env = (false, eval a X.env) :: starEach [b, c] X.env := by rfl)
    (hpl : (backTo pos (starEach [b, c] X.env)).any (·.1) = false := by rfl) (hs3 : starEach [b, c] X.env = (false, eval b X.env) :: starEach [c] X.env := by rfl) (hs4 : starEach [c] X.env = (false, eval c X.env) :: starEach [] X.env := by rfl) : JI G X tg (.Call (.Name "range" p) [a, b, c] [] pos) (iRange3 wa wb wc) :=
  ⟨fun ε S R E q σ H re sr Wx tk ex => sI_of (pi_range3 hg hm (pa_cons pe_sE (pa_cons pe_sE (pa_cons pe_sE pa_nil hs4) hs3) hs) hs hpl) (by
    refine ha.dn q re sr tk ex fun v H1 ⟨x, S1, s1, sr1, r1, w1⟩ => ?_
    refine hb.dn w1 (re.stay s1.st) sr1 tk (ex.mono s1) fun u H2 ⟨y, S2, s2, sr2, r2, w2⟩ => ?_
    have s12 := s1.trans s2
    refine hc.dn w2 (re.stay s12.st) sr2 tk (ex.mono s12) fun t H3 ⟨z, S3, s3, sr3, r3, w3⟩ => ?_
    dsimp only at w3
    split at w3
    · cases r1; cases r2; cases r3
      obtain ⟨n, hn, w3⟩ := w3
      exact ⟨_, _, _, n, rfl, hn, _, S3, s12.trans s3, sr3, walks_rangeC, w3⟩
    · exact w3.elim)⟩
/-- reversed(list or tuple) -/
def oRev : PV → Sto → (Src → Sto → Prop) → Prop := fun x S R => match x with
  | .tup xs => R ⟨xs.reverse, fun _ => True⟩ S
  | .ref a => ∃ xs, RdL S a xs ∧ R ⟨xs.reverse, fun S => RdL S a xs⟩ S
  | _ => False
def iRevv (w : WE) : WI := fun ε S R E => w ε S (fun x S1 => oRev x S1 R) E
theorem ji_rev {tg e : Expr} {w : WE} {p pos : Pos} (hg : Gl X "reversed") (hm : X.mg "reversed" = none) (h : JE G X e w) (hs : starEach [e] X.env = (false, eval e X.env) :: starEach [] X.env := by rfl) (hK : X.K = G.K := by rfl) : JI G X tg (.Call (.Name "reversed" p) [e] [] pos) (iRevv w) :=
  ⟨fun ε S R E q σ H re sr Wx tk ex => sI_of (RT.pi_revA hg hm pe_sE hs) (by
    refine h.dn q re sr tk ex fun v H1 ⟨x, S1, s1, sr1, r1, w1⟩ => ?_
    dsimp only [oRev] at w1
    split at w1
    · rename_i xs
      obtain ⟨a, vs, rfl, ha, ra⟩ := r1
      have hl := reps_length ra
      refine ⟨a, vs, rfl, .inr ⟨hK ▸ ha, _, S1, s1, sr1, ⟨fun H S st _ _ => ?_, fun i x H S st _ _ hx => ?_⟩, w1⟩⟩
      · show vs.length ≤ xs.reverse.length
        rw [List.length_reverse, hl]; exact Nat.le_refl _
      · have hx : xs.reverse[i]? = some x := hx
        have hi : i < xs.length := by
          have := (List.getElem?_eq_some_iff.mp hx).1
          simpa using this
        rw [List.getElem?_reverse hi] at hx
        obtain ⟨v, hv, rv⟩ := reps_get ra hx
        rw [hl] at hv
        have ha2 := hK ▸ st.st.sq ha
        refine ⟨⟨by rw [← hl]; exact hi, vs, v, ha2, hv⟩, fun u H' ⟨e, y⟩ => ?_⟩
        subst e
        have := y vs ha2
        rw [hv] at this
        cases this
        exact ⟨.refl _, rep_stay st.st _ _ rv⟩
    · rename_i a
      cases r1
      obtain ⟨xs, e, w1⟩ := w1
      obtain ⟨vs, ha, ra⟩ := rdl_at sr1 e
      have hl := reps_length ra
      refine ⟨a, vs, rfl, .inl ⟨hK ▸ ha, _, S1, s1, sr1, ⟨fun H S st _ _ => ?_, fun i x H S st sr kp hx => ?_⟩, w1⟩⟩
      · show vs.length ≤ xs.reverse.length
        rw [List.length_reverse, hl]; exact Nat.le_refl _
      · have hx : xs.reverse[i]? = some x := hx
        have hi : i < xs.length := by
          have := (List.getElem?_eq_some_iff.mp hx).1
          simpa using this
        rw [List.getElem?_reverse hi] at hx
        obtain ⟨vs2, ha2, ra2⟩ := rdl_at sr kp
        have hl2 := reps_length ra2
        obtain ⟨v, hv, rv⟩ := reps_get ra2 hx
        rw [hl] at hv
        have ha3 := hK ▸ ha2
        refine ⟨⟨by rw [← hl]; exact hi, vs2, v, ha3, hv⟩, fun u H' ⟨e, y⟩ => ?_⟩
        subst e
        have := y vs2 ha3
        rw [hv] at this
        cases this
        exact ⟨.refl _, rv⟩
    · exact w1.elim)⟩
def zipP (xs ys : List PV) : List PV := (xs.zip ys).map fun p => .tup [p.1, p.2]
theorem zipP_get {xs ys : List PV} {i : Nat} {x : PV} (h : (zipP xs ys)[i]? = some x) : ∃ a b, xs[i]? = some a ∧ ys[i]? = some b ∧ x = .tup [a, b] := by
  unfold zipP at h
  rw [List.getElem?_map] at h
  cases e : (xs.zip ys)[i]? with
  | none => rw [e] at h; cases h
  | some p =>
    rw [e] at h
    obtain ⟨e1, e2⟩ := List.getElem?_zip_eq_some.mp (show (xs.zip ys)[i]? = some (p.1, p.2) from e)
    exact ⟨p.1, p.2, e1, e2, (Option.some.inj h).symm⟩
theorem zipP_len {xs ys : List PV} : (zipP xs ys).length = min xs.length ys.length := by simp [zipP]
theorem pair_new {K : PySem.W.Frag} {T : Addr} {a b : PV} {v u : V} (n : H T = none) (ra : Rep K H a v) (rb : Rep K H b u) : Same H (upd H T (.tup [v, u])) ∧ Rep K (upd H T (.tup [v, u])) (.tup [a, b]) (.ref T) := by
  have s := same_upd (o := .tup [v, u]) n
  exact ⟨s, T, [v, u], rfl, .inl (.inl upd_same), ⟨v, [u], rfl, rep_stay (.of s) _ _ ra, u, [], rfl, rep_stay (.of s) _ _ rb, rfl⟩⟩
def oZip : List PV → Sto → (Src → Sto → Prop) → Prop := fun xs S R => match xs with
  | [.ref a, .ref b] => ∃ ys zs, RdL S a ys ∧ RdL S b zs ∧ R ⟨zipP ys zs, fun S => RdL S a ys ∧ RdL S b zs⟩ S
  | [.tup ys, .tup zs] => R ⟨zipP ys zs, fun _ => True⟩ S
  | _ => False
def iZipp (w : WA) : WI := fun ε S R E => w ε S (fun xs S1 => oZip xs S1 R) E
theorem ji_zip {e e2 : Expr} {w : WA} {elts : List Expr} {kk : Nat} {p pos tpos : Pos} (hg : Gl X "zip") (hm : X.mg "zip" = none) (ha : JA G X [e, e2] w) (hs : starEach [e, e2] X.env = (false, eval e X.env) :: starEach [e2] X.env := by rfl) (hpl : (backTo pos (starEach [e2] X.env)).any (·.1) = false := by rfl) (hK : X.K = G.K := by rfl) :
    JI G X (.Tuple elts kk tpos) (.Call (.Name "zip" p) [e, e2] [] pos) (iZipp w) :=
  ⟨fun ε S R E q σ H re sr Wx tk ex => sI_of (RZ.pi_zipA hg hm pa_sA hs hpl) (by
    refine ha.dn q re sr tk ex fun vs H1 ⟨xs, S1, s1, sr1, r1, w1⟩ => ?_
    dsimp only [oZip] at w1
    split at w1
    · rename_i a b
      obtain ⟨ys, zs, ea, eb, w1⟩ := w1
      obtain ⟨_, _, rfl, rv, ru⟩ := reps2 r1
      cases rv; cases ru
      obtain ⟨va, ha, ra⟩ := rdl_at sr1 ea
      obtain ⟨vb, hb, rb⟩ := rdl_at sr1 eb
      refine ⟨a, b, va, vb, rfl, .inl ⟨hK ▸ ha, hK ▸ hb, _, S1, s1, sr1, ⟨fun H S st sr kp => ?_, fun i x H S st sr kp hx => ?_⟩, w1⟩⟩
      · obtain ⟨va, ha, ra⟩ := rdl_at sr kp.1
        obtain ⟨vb, hb, rb⟩ := rdl_at sr kp.2
        refine ⟨va, vb, hK ▸ ha, hK ▸ hb, ?_⟩
        have := reps_length ra
        have := reps_length rb
        show va.length ≤ (zipP ys zs).length ∨ vb.length ≤ (zipP ys zs).length
        rw [zipP_len]; omega
      · obtain ⟨va, ha, ra⟩ := rdl_at sr kp.1
        obtain ⟨vb, hb, rb⟩ := rdl_at sr kp.2
        obtain ⟨x1, x2, h1, h2, rfl⟩ := zipP_get hx
        obtain ⟨v1, g1, q1⟩ := reps_get ra h1
        obtain ⟨v2, g2, q2⟩ := reps_get rb h2
        have ha' := hK ▸ ha
        have hb' := hK ▸ hb
        refine ⟨⟨va, vb, v1, v2, ha', hb', g1, g2⟩, fun v H' ⟨T, y1, y2, ev, n, eH, f1, f2⟩ => ?_⟩
        have z1 := f1 va ha'
        have z2 := f2 vb hb'
        rw [g1] at z1; cases z1
        rw [g2] at z2; cases z2
        subst ev eH
        exact pair_new n q1 q2
    · rename_i ys zs
      obtain ⟨_, _, rfl, ⟨a, va, rfl, ha, ra⟩, ⟨b, vb, rfl, hb, rb⟩⟩ := reps2 r1
      refine ⟨a, b, va, vb, rfl, .inr ⟨hK ▸ ha, hK ▸ hb, _, S1, s1, sr1, ⟨fun H S st sr kp => ?_, fun i x H S st sr kp hx => ?_⟩, w1⟩⟩
      · refine ⟨va, vb, hK ▸ st.st.sq ha, hK ▸ st.st.sq hb, ?_⟩
        have := reps_length ra
        have := reps_length rb
        show va.length ≤ (zipP ys zs).length ∨ vb.length ≤ (zipP ys zs).length
        rw [zipP_len]; omega
      · obtain ⟨x1, x2, h1, h2, rfl⟩ := zipP_get hx
        obtain ⟨v1, g1, q1⟩ := reps_get ra h1
        obtain ⟨v2, g2, q2⟩ := reps_get rb h2
        have ha' := hK ▸ st.st.sq ha
        have hb' := hK ▸ st.st.sq hb
        refine ⟨⟨va, vb, v1, v2, ha', hb', g1, g2⟩, fun v H' ⟨T, y1, y2, ev, n, eH, f1, f2⟩ => ?_⟩
        have z1 := f1 va ha'
        have z2 := f2 vb hb'
        rw [g1] at z1; cases z1
        rw [g2] at z2; cases z2
        subst ev eH
        exact pair_new n (rep_stay st.st _ _ q1) (rep_stay st.st _ _ q2)
    · exact w1.elim)⟩
end
end L3

set_option Elab.async false
set_option linter.all false
set_option maxRecDepth 100000
set_option maxHeartbeats 4000000
namespace L3
open PySem PySem.Spec L2
open PyProof.Rows hiding St
/-! ### enumerate of a tuple -/
section
open PySem
/-- enumerate(v) where iter(v) is a new object -/
theorem enum1_meets {v : Value} {o : Obj} {C : Heap → Prop} (B : Begins v o C) : Meets (Builtin.«enumerate.__new__» ⟨[.type "enumerate", v], []⟩) (fun _ R s => C s.heap ∧
    R (.ok (.ret (.ref (s.heap.push o).objs.size))) { s with heap := (s.heap.push o).push { cls := .type "enumerate", data := .fields #[.none, .bool false, .ref s.heap.objs.size, rawInt 0, .none, .none] } }) := by
  refine .of_wp fun prog w A R s hs => ?_
  obtain ⟨hp, g, d, tk, os⟩ := s
  obtain ⟨c1, c2⟩ := hs
  have hsub := sub_enumerate
  have it1 : ∀ {A2 : Around} {E2 : Value → Shared → Prop} {Q2 : Value → Shared → Prop}, Q2 (.ref hp.objs.size) ⟨hp.push o, g, d, tk, os⟩ → wpAny (model prog w) A2 (pyIter v) Q2 E2 ⟨hp, g, d, tk, os⟩ :=
    fun q => B.iter prog w _ _ ⟨hp, g, d, tk, os⟩ _ c1 q
  wp_walk using it1
  refine wpAny_stack_any fun st => wpAny_pure ?_
  split
  · rename_i c _ _ _ _ _
    cases (c == Value.type "enumerate") with
    | false => wp_walk using it1; exact ⟨_, rfl, c2⟩
    | true => wp_walk using it1; exact ⟨_, rfl, c2⟩
  · wp_walk using it1
    exact ⟨_, rfl, c2⟩
theorem enum1_call {prog : Program} {w : World} {A : Around} {E : Value → Shared → Prop} {s : Shared} {v : Value} {o : Obj} {C : Heap → Prop} {Q : Value → Shared → Prop} (B : Begins v o C) (hc : C s.heap)
    (h : ∀ h', IsEnum h' (s.heap.objs.size + 1) s.heap.objs.size 0 .none → h'.get? s.heap.objs.size = some o → (∀ b u, s.heap.get? b = some u → h'.get? b = some u) → Q (.ref (s.heap.objs.size + 1)) { s with heap := h' }) :
    wpAny (model prog w) A (call (.type "enumerate") [v]) Q E s := by
  refine callType_new F.called_enumerate (by decide) (F.typeCall_enumerate_1 _) (F.newCall_enumerate_1 _) (fun obj => F.args_object_init_2 obj _) F.entry_enumerate_new (enum1_meets B) ⟨hc, ?_⟩
  have z : (s.heap.push o).objs.size = s.heap.objs.size + 1 := Heap.size_push ..
  show _ ∧ _
  rw [z]
  have e1 := Heap.get?_push_size (s.heap.push o) (o := { cls := .type "enumerate", data := .fields #[.none, .bool false, .ref s.heap.objs.size, rawInt 0, .none, .none] }) rfl
  rw [z] at e1
  exact ⟨⟨_, e1, rfl⟩, h _ e1 (Heap.get?_push_of_some _ (Heap.get?_push_size _ B.free)) fun b u e => Heap.get?_push_of_some _ (Heap.get?_push_of_some _ e)⟩
/-- the tuple at a, each item in a new pair -/
def IteT (K : PySem.W.Frag) (a : Addr) (n : Nat) : It :=
  ⟨fun i H => i < n ∧ ∃ (xs : List V) (x : V), SqT K H a xs ∧ xs[i]? = some x ∧ xs.length = n, fun i H v H' => ∃ T x, v = .ref T ∧ H T = none ∧ H' = upd H T (.tup [.int (i : Nat), x]) ∧ ∀ xs, SqT K H a xs → xs[i]? = some x, fun i H => i = n ∧ ∃ xs : List V, SqT K H a xs ∧ xs.length = n⟩
theorem turn_enumT {P : Program} {w : World} {K : PySem.W.Frag} {elts : List Expr} {kk n : Nat} {tpos : Pos} (a e it : Addr) (hai : a ≠ it) :
    Turn P w K (.Tuple elts kk tpos) (IteT K a n) [e, it] e (fun i h => (∃ old, IsEnum h e it ((i : Nat) : Int) old) ∧ h.IsTupleIter it a i ∧ e ≠ it ∧ e ≠ a) where
  mem := by simp
  obj := fun i h st b hb => by
    obtain ⟨⟨old, he⟩, ⟨o, ho, hc, hd⟩, _⟩ := st
    rcases (show b = e ∨ b = it by simpa using hb) with z | z
    · rw [z]; exact ⟨_, he, fun v q => nomatch q⟩
    · rw [z]; exact ⟨o, ho, fun v q => by rw [hd] at q; cases q⟩
  keep := fun i h h' st k => by
    obtain ⟨⟨old, he⟩, hi, hne⟩ := st
    exact ⟨⟨old, k e (by simp) _ he⟩, hi.at fun o q => k it (by simp) o q, hne⟩
  item := by
    intro X hP hw hK hc i pins s σ H E I hf st hg
    subst hP hw hK
    obtain ⟨⟨old, he⟩, hit, hne, hna⟩ := st
    obtain ⟨hlt, xs, x, hq, hx, hn⟩ := hg
    obtain ⟨its, rv, p, hz⟩ := I.tuple hq
    have hp : s.heap.IsTuple a its.toArray := p
    obtain ⟨u, hu, ru⟩ := rv.get hx
    have hl := rv.length
    have lts : its.toArray.size = n := by rw [List.size_toArray, ← hl]; exact hn
    have hel : e < s.heap.objs.size := Heap.lt_size he
    have hil : it < s.heap.objs.size := by obtain ⟨_, q, _⟩ := hit; exact Heap.lt_size q
    refine wpAny_pyNext_enum_itemD (Draws.tuple (A := X.A.in1) (I.ok.hd hc) it a hai its.toArray) he ⟨hit, hp⟩ (by rw [lts]; exact hlt) hne (by simp [hne, hna]) fun y h' tk hy ho st2 hT hsz hk => ?_
    obtain ⟨hit2, hp2⟩ := st2
    have hu2 : its.toArray[i]? = some u := by simpa using hu
    rw [hu2] at hy
    cases hy
    refine ⟨_, rfl, wpAny_letOwnedTupleGo_enum (s := { s with heap := h', toks := tk + 1 }) ho fun h2 he2 sb => ?_⟩
    have hT2 : h2.get? s.heap.objs.size = some { cls := .type "tuple", data := .seq #[.int i tk, u] } := (sb.2 _ (Nat.ne_of_gt hel)).trans hT
    have new : ObjOk X.prog X.w (upd H s.heap.objs.size (.tup [.int (i : Nat), x])) h2 s.heap.objs.size (.tup [.int (i : Nat), x]) :=
      ⟨by show 2 ≤ sizeLine; decide, [.int i tk, u], .cons ⟨_, rfl⟩ (.cons ru .nil), ⟨_, hT2, rfl, _, rfl⟩⟩
    have I1 : Inv X pins σ (upd H s.heap.objs.size (.tup [.int (i : Nat), x])) { s with heap := h2, toks := tk + 1 } :=
      I.turnedNew (ch := [e, it]) (fun b ob hb q => (sb.2 b (fun z => hb (by simp [z]))).trans (hk b ob (fun z => hb (by simp [z])) (fun z => hb (by simp [z])) q)) hf (Nat.le_refl _) new
    refine ⟨.ref s.heap.objs.size, _, I1, rfl, ⟨_, x, rfl, I.hok.fresh (Nat.le_refl _), rfl, fun ys hy => ?_⟩, ⟨⟨u, ?_⟩, hit2.at fun o q => (sb.2 it (Ne.symm hne)).trans q, hne, hna⟩, fun b hb => ?_⟩
    · rw [I.tuple_inj hy hq]; exact hx
    · rw [show ((i + 1 : Nat) : Int) = (i : Int) + 1 from by omega]; exact he2
    · have hb' : b < s.heap.objs.size := by
        rcases (show b = e ∨ b = it by simpa using hb) with z | z
        · rw [z]; exact hel
        · rw [z]; exact hil
      rw [upd_ne (Nat.ne_of_lt hb')]
      exact (hf b hb).1
  done := by
    intro X hP hw hK hc i pins s σ H E I hf st hg
    subst hP hw hK
    obtain ⟨⟨old, he⟩, hit, hne, hna⟩ := st
    obtain ⟨rfl, xs, hq, hn⟩ := hg
    obtain ⟨its, rv, p, hz⟩ := I.tuple hq
    have hp : s.heap.IsTuple a its.toArray := p
    have lts : its.toArray.size = i := by rw [List.size_toArray, ← rv.length]; exact hn
    obtain ⟨f0, f1, f2, f3, f4, f5⟩ := hf it (by simp)
    refine wpAny_pyNext_enum_endD (Draws.tuple (A := X.A.in1) (I.ok.hd hc) it a hai its.toArray) he (by rw [lts]; exact ⟨hit, hp⟩) fun h' eb => ⟨rfl, I.turned (t' := s.toks) (fun b o hb q => eb b o hb q) f0 f1 f3 f4 f5⟩
  self := fun A i s Q E st h => by
    obtain ⟨⟨old, he⟩, _⟩ := st
    exact wpAny_pyIter_enum he h
end
section
variable {G : Gd} {X : Cx} {H H1 : Hp} {S S1 : Sto} {σ : L2.St} {ε : PEnv}
/-- enumerate(list or tuple) -/
def rEnum (K : PySem.W.Frag) (ta : TA) : TI := fun σ H R => ta σ H fun vs H1 => ∃ a xs, vs = [V.ref a] ∧ ((SqL K H1 a xs ∧ R (Ite K a) H1) ∨ (SqT K H1 a xs ∧ R (IteT K a xs.length) H1))
theorem pi_enumA {e : Expr} {ta : TA} {p pos tpos : Pos} {elts : List Expr} {kk : Nat} (hg : Gl X "enumerate") (hm : X.mg "enumerate" = none) (ha : PA X [e] ta) (hs : starEach [e] X.env = [(false, eval e X.env)] := by rfl) :
    PI X (.Tuple elts kk tpos) (.Call (.Name "enumerate" p) [e] [] pos) (rEnum X.K ta) := by
  refine ⟨fun pins s σ H R I h => ?_⟩
  refine Call_ (ld_blt I hg hm boot_enumerate (PyProof.Rows.callWith_type1 (thn (ha.run pos pins s σ H _ I h) fun us s1 ⟨vs, H1, I1, r1, a, xs, ex, q⟩ => ?_) hs rfl))
  subst ex
  rw [Vals.ref1 r1]
  have apart : ∀ {h' : Heap} (b : Addr), b ∈ [s1.heap.objs.size + 1, s1.heap.objs.size] → s1.heap.objs.size ≤ b := fun {_} b hb => by
    rcases (show b = s1.heap.objs.size + 1 ∨ b = s1.heap.objs.size by simpa using hb) with z | z
    · rw [z]; exact Nat.le_add_right _ _
    · rw [z]; exact Nat.le_refl _
  rcases q with ⟨hq, q⟩ | ⟨hq, q⟩
  · obtain ⟨its, rv, p', hz⟩ := I1.list hq
    refine call_enumerate_list p'.isList fun h' he hit hsz hk => wpAny_pyIter_enum he ?_
    have I2 : Inv X pins σ H1 { s1 with heap := h' } := I1.kept (t' := s1.toks) hk
    exact ⟨s1.heap.objs.size + 1, [s1.heap.objs.size + 1, s1.heap.objs.size], _, _, H1, rfl, I2, turn_enum a (s1.heap.objs.size + 1) s1.heap.objs.size, ⟨⟨.none, he⟩, hit, Nat.succ_ne_self _⟩, fun b hb => I1.fpOk (apart (h' := h') b hb) (I1.hok.fresh (apart (h' := h') b hb)), q⟩
  · obtain ⟨its, rv, p', hz⟩ := I1.tuple hq
    have hp : s1.heap.IsTuple a its.toArray := p'
    have la : a < s1.heap.objs.size := by obtain ⟨o, e, _⟩ := hp; exact Heap.lt_size e
    refine enum1_call (begins_tuple a its.toArray) hp fun h' he hit hk => wpAny_pyIter_enum he ?_
    have I2 : Inv X pins σ H1 { s1 with heap := h' } := I1.kept (t' := s1.toks) hk
    exact ⟨s1.heap.objs.size + 1, [s1.heap.objs.size + 1, s1.heap.objs.size], _, _, H1, rfl, I2, turn_enumT a (s1.heap.objs.size + 1) s1.heap.objs.size (Nat.ne_of_lt la), ⟨⟨.none, he⟩, ⟨_, hit, rfl, rfl⟩, Nat.succ_ne_self _, Nat.ne_of_gt (Nat.lt_succ_of_lt la)⟩, fun b hb => I1.fpOk (apart (h' := h') b hb) (I1.hok.fresh (apart (h' := h') b hb)), q⟩
def enumP (xs : List PV) : List PV := xs.zipIdx.map fun p => .tup [.int (p.2 : Nat), p.1]
theorem enumP_len {xs : List PV} : (enumP xs).length = xs.length := by simp [enumP]
theorem enumP_get {xs : List PV} {i : Nat} {x : PV} (h : (enumP xs)[i]? = some x) : ∃ a, xs[i]? = some a ∧ x = .tup [.int (i : Nat), a] := by
  unfold enumP at h
  rw [List.getElem?_map, List.getElem?_zipIdx] at h
  cases e : xs[i]? with
  | none => rw [e] at h; cases h
  | some a =>
    rw [e] at h
    refine ⟨a, rfl, ?_⟩
    have := (Option.some.inj h).symm
    simpa using this
def oEnum : List PV → Sto → (Src → Sto → Prop) → Prop := fun xs S R => match xs with
  | [.ref a] => ∃ ys, RdL S a ys ∧ R ⟨enumP ys, fun S => RdL S a ys⟩ S
  | [.tup ys] => R ⟨enumP ys, fun _ => True⟩ S
  | _ => False
def iEnumm (w : WA) : WI := fun ε S R E => w ε S (fun xs S1 => oEnum xs S1 R) E
theorem ji_enum {e : Expr} {w : WA} {elts : List Expr} {kk : Nat} {p pos tpos : Pos} (hg : Gl X "enumerate") (hm : X.mg "enumerate" = none) (ha : JA G X [e] w) (hs : starEach [e] X.env = [(false, eval e X.env)] := by rfl) (hK : X.K = G.K := by rfl) :
    JI G X (.Tuple elts kk tpos) (.Call (.Name "enumerate" p) [e] [] pos) (iEnumm w) :=
  ⟨fun ε S R E q σ H re sr Wx tk ex => sI_of (pi_enumA hg hm pa_sA hs) (by
    refine ha.dn q re sr tk ex fun vs H1 ⟨xs, S1, s1, sr1, r1, w1⟩ => ?_
    dsimp only [oEnum] at w1
    split at w1
    · rename_i a
      obtain ⟨ys, ea, w1⟩ := w1
      obtain ⟨_, rfl, rv⟩ := reps1 r1
      cases rv
      obtain ⟨va, ha, ra⟩ := rdl_at sr1 ea
      refine ⟨a, va, rfl, .inl ⟨hK ▸ ha, _, S1, s1, sr1, ⟨fun H S st sr kp => ?_, fun i x H S st sr kp hx => ?_⟩, w1⟩⟩
      · obtain ⟨va, ha, ra⟩ := rdl_at sr kp
        refine ⟨va, hK ▸ ha, ?_⟩
        show va.length ≤ (enumP ys).length
        rw [enumP_len, reps_length ra]; exact Nat.le_refl _
      · obtain ⟨va, ha, ra⟩ := rdl_at sr kp
        obtain ⟨x1, h1, rfl⟩ := enumP_get hx
        obtain ⟨v1, g1, q1⟩ := reps_get ra h1
        have ha' := hK ▸ ha
        refine ⟨⟨va, v1, ha', g1⟩, fun v H' ⟨T, y1, ev, n, eH, f1⟩ => ?_⟩
        have z1 := f1 va ha'
        rw [g1] at z1; cases z1
        subst ev eH
        exact pair_new (a := .int (i : Nat)) n rfl q1
    · rename_i ys
      obtain ⟨_, rfl, a, va, rfl, ha, ra⟩ := reps1 r1
      have hl := reps_length ra
      refine ⟨a, va, rfl, .inr ⟨hK ▸ ha, _, S1, s1, sr1, ⟨fun H S st sr kp => ⟨?_, va, hK ▸ st.st.sq ha, rfl⟩, fun i x H S st sr kp hx => ?_⟩, w1⟩⟩
      · show (enumP ys).length = va.length
        rw [enumP_len, hl]
      · obtain ⟨x1, h1, rfl⟩ := enumP_get hx
        obtain ⟨v1, g1, q1⟩ := reps_get ra h1
        have ha' := hK ▸ st.st.sq ha
        refine ⟨⟨(List.getElem?_eq_some_iff.mp g1).1, va, v1, ha', g1, rfl⟩, fun v H' ⟨T, y1, ev, n, eH, f1⟩ => ?_⟩
        have z1 := f1 va ha'
        rw [g1] at z1; cases z1
        subst ev eH
        exact pair_new (a := .int (i : Nat)) n rfl (rep_stay st.st _ _ q1)
    · exact w1.elim)⟩
end
end L3

set_option Elab.async false
set_option linter.all false
set_option maxRecDepth 100000
set_option maxHeartbeats 4000000
namespace L3
open PySem PySem.Spec L2
open PyProof.Rows hiding St
/-! ### dicts -/
section
variable {G : Gd} {X : Cx} {H H1 : Hp} {S S1 : Sto} {σ : L2.St} {ε : PEnv}
def kP : Key → PV
  | .inl i => .int i
  | .inr x => .str x
def keyP : PV → Option Key
  | .int i => some (.inl i)
  | .str x => some (.inr x)
  | _ => none
theorem keyP_rep {K : PySem.W.Frag} {y : PV} {k : Key} {u : V} (h : keyP y = some k) (r : Rep K H y u) : u = kV k := by
  cases y with
  | int i => cases h; exact r
  | str x => cases h; exact r
  | non => cases h
  | bl _ => cases h
  | tup _ => cases h
  | ref _ => cases h
  | ty _ => cases h
def valP (kvs : List (Key × PV)) (k : Key) : Option PV := (kvs.find? fun kv => decide (kv.1 = k)).map (·.2)
def putP (kvs : List (Key × PV)) (k : Key) (v : PV) : List (Key × PV) :=
  if (kvs.any fun kv => decide (kv.1 = k)) = true then kvs.map (fun kv => if kv.1 = k then (kv.1, v) else kv) else kvs ++ [(k, v)]
theorem valP_pos {p : Key × PV} {r : List (Key × PV)} {k : Key} (e : p.1 = k) : valP (p :: r) k = some p.2 := by
  unfold valP
  rw [List.find?_cons_of_pos (by simpa using e)]
  rfl
theorem valP_neg {p : Key × PV} {r : List (Key × PV)} {k : Key} (e : ¬ p.1 = k) : valP (p :: r) k = valP r k := by
  unfold valP
  rw [List.find?_cons_of_neg (by simpa using e)]
theorem repKV_val {K : PySem.W.Frag} {k : Key} : ∀ {kvs : List (Key × PV)} {es : List (Key × V)}, RepKV K H kvs es → (valP kvs k = none ∧ valV es k = none) ∨ ∃ x v, valP kvs k = some x ∧ valV es k = some v ∧ Rep K H x v
  | [], _, h => by cases h; exact .inl ⟨rfl, rfl⟩
  | (j, x) :: kvs, _, h => by
    obtain ⟨v, ws, rfl, r, rs⟩ := h
    by_cases e : j = k
    · exact .inr ⟨x, v, valP_pos (p := (j, x)) e, valV_pos (p := (j, v)) e, r⟩
    · rw [valP_neg (p := (j, x)) e, valV_neg (p := (j, v)) e]
      exact repKV_val rs
theorem repKV_snoc {K : PySem.W.Frag} {k : Key} {x : PV} {v : V} (r : Rep K H x v) : ∀ {kvs : List (Key × PV)} {es : List (Key × V)}, RepKV K H kvs es → RepKV K H (kvs ++ [(k, x)]) (es ++ [(k, v)])
  | [], _, h => by cases h; exact ⟨v, [], rfl, r, rfl⟩
  | (j, y) :: kvs, _, h => by
    obtain ⟨u, ws, rfl, r1, rs⟩ := h
    exact ⟨u, _, rfl, r1, repKV_snoc r rs⟩
theorem repKV_map {K : PySem.W.Frag} {k : Key} {x : PV} {v : V} (r : Rep K H x v) : ∀ {kvs : List (Key × PV)} {es : List (Key × V)}, RepKV K H kvs es → RepKV K H (kvs.map fun kv => if kv.1 = k then (kv.1, x) else kv) (es.map fun kv => if kv.1 = k then (kv.1, v) else kv)
  | [], _, h => by cases h; exact rfl
  | (j, y) :: kvs, _, h => by
    obtain ⟨u, ws, rfl, r1, rs⟩ := h
    by_cases e : j = k
    · rw [List.map_cons, List.map_cons, if_pos e, if_pos e]
      exact ⟨v, _, rfl, r, repKV_map r rs⟩
    · rw [List.map_cons, List.map_cons, if_neg e, if_neg e]
      exact ⟨u, _, rfl, r1, repKV_map r rs⟩
theorem repKV_any {K : PySem.W.Frag} {k : Key} : ∀ {kvs : List (Key × PV)} {es : List (Key × V)}, RepKV K H kvs es → (kvs.any fun kv => decide (kv.1 = k)) = (es.any fun kv => decide (kv.1 = k))
  | [], _, h => by cases h; rfl
  | (j, y) :: kvs, _, h => by
    obtain ⟨u, ws, rfl, r1, rs⟩ := h
    rw [List.any_cons, List.any_cons, repKV_any rs]
theorem repKV_len {K : PySem.W.Frag} : ∀ {kvs : List (Key × PV)} {es : List (Key × V)}, RepKV K H kvs es → kvs.length = es.length
  | [], _, h => by cases h; rfl
  | (j, y) :: kvs, _, h => by
    obtain ⟨u, ws, rfl, r1, rs⟩ := h
    simp [repKV_len rs]
theorem repKV_put {K : PySem.W.Frag} {k : Key} {x : PV} {v : V} {kvs : List (Key × PV)} {es : List (Key × V)} (r : Rep K H x v) (h : RepKV K H kvs es) : RepKV K H (putP kvs k x) (putK es k v) := by
  unfold putP putK
  rw [repKV_any h]
  split
  · exact repKV_map r h
  · exact repKV_snoc r h
def mergeP (kvs more : List (Key × PV)) : List (Key × PV) := more.foldl (fun acc kv => putP acc kv.1 kv.2) kvs
theorem repKV_merge {K : PySem.W.Frag} : ∀ {more : List (Key × PV)} {ms : List (Key × V)} {kvs : List (Key × PV)} {es : List (Key × V)}, RepKV K H more ms → RepKV K H kvs es → RepKV K H (mergeP kvs more) (mergeK es ms)
  | [], _, _, _, h, r => by cases h; exact r
  | (j, y) :: more, _, kvs, es, h, r => by
    obtain ⟨u, ws, rfl, r1, rs⟩ := h
    show RepKV K H (mergeP (putP kvs j y) more) (mergeK (putK es j u) ws)
    exact repKV_merge rs (repKV_put r1 r)
theorem dct_at {kvs : List (Key × PV)} {a : Addr} (sr : SR G H S) (e : S a = some (.dct kvs)) : ∃ es, H a = some (.dK es) ∧ RepKV G.K H kvs es := sr.ok a _ e
theorem sr_setd {kvs ls : List (Key × PV)} {es fs : List (Key × V)} {a : Addr} (sr : SR G H S) (e : S a = some (.dct kvs)) (hv : H a = some (.dK es)) (r : RepKV G.K H ls fs) : SR G (upd H a (.dK fs)) (supd S a (.dct ls)) :=
  sr.wr e hv (fun _ z => by cases z) (fun _ _ z => by cases z) (fun _ z => by cases z) (fun _ z => by cases z) (fun z => by cases z) fun st => ⟨fs, upd_same, repKV_stay st _ _ r⟩
theorem stp_setd {kvs ls : List (Key × PV)} {es fs : List (Key × V)} {a : Addr} (e : S a = some (.dct kvs)) (hv : H a = some (.dK es)) : Stp S H (supd S a (.dct ls)) (upd H a (.dK fs)) :=
  .wr e hv (fun _ z => by cases z) (fun _ _ z => by cases z)
/-- pairs -/
def wPairs : List (WE × WE) → PEnv → Sto → (List (PV × PV) → Sto → Prop) → KX → Prop
  | [], _, S, Q, _ => Q [] S
  | (a, b) :: r, ε, S, Q, E => a ε S (fun x S1 => b ε S1 (fun y S2 => wPairs r ε S2 (fun ps S3 => Q ((x, y) :: ps) S3) E) E) E
inductive JP (G : Gd) (X : Cx) : List (Option Expr) → List Expr → List (WE × WE) → List (TE × TE) → Prop
  | nil : JP G X [] [] [] []
  | cons {k v : Expr} {ks : List (Option Expr)} {vs : List Expr} {wk wv : WE} {ws : List (WE × WE)} {ts : List (TE × TE)} (hk : JE G X k wk) (hv : JE G X v wv) (hr : JP G X ks vs ws ts) : JP G X (some k :: ks) (v :: vs) ((wk, wv) :: ws) ((sE X k, sE X v) :: ts)
theorem JP.pps {ks : List (Option Expr)} {vs : List Expr} {ws : List (WE × WE)} {ts : List (TE × TE)} (h : JP G X ks vs ws ts) {pos : Pos} : PPs X pos ks vs ts := by
  induction h with
  | nil => exact pps_nil
  | cons hk hv hr ih => exact pps_cons pe_sE pe_sE ih
def RepPs (K : PySem.W.Frag) (H : Hp) : List (PV × PV) → List (V × V) → Prop
  | [], ps => ps = []
  | (x, y) :: xs, ps => ∃ v u ws, ps = (v, u) :: ws ∧ Rep K H x v ∧ Rep K H y u ∧ RepPs K H xs ws
theorem JP.dn {ks : List (Option Expr)} {vs : List Expr} {ws : List (WE × WE)} {ts : List (TE × TE)} (h : JP G X ks vs ws ts) : ∀ {ε : PEnv} {S : Sto} {Q : List (PV × PV) → Sto → Prop} {E : KX} {σ : L2.St} {H : Hp} {K : List (V × V) → Hp → Prop}, wPairs ws ε S Q E → Renv G.K H ε σ → SR G H S → ∀ {Wx : WX}, Takes X Wx → ExL G S H σ E Wx →
    (∀ xs ps S' H', Stp S H S' H' → SR G H' S' → RepPs G.K H' xs ps → Q xs S' → K ps H') → tPairs ts σ H K := by
  induction h with
  | nil => intro ε S Q E σ H K w re sr Wx tk ex k; exact k [] [] S H (.refl _ _) sr rfl w
  | cons hk hv hr ih =>
    intro ε S Q E σ H K w re sr Wx tk ex k
    refine hk.dn w re sr tk ex fun v H1 ⟨x, S1, s1, sr1, r1, w1⟩ => ?_
    refine hv.dn w1 (re.stay s1.st) sr1 tk (ex.mono s1) fun u H2 ⟨y, S2, s2, sr2, r2, w2⟩ => ?_
    have s12 := s1.trans s2
    refine ih w2 (re.stay s12.st) sr2 tk (ex.mono s12) fun xs ps S3 H3 s3 sr3 r3 q => ?_
    exact k ((x, y) :: xs) ((v, u) :: ps) S3 H3 (s12.trans s3) sr3 ⟨v, u, ps, rfl, rep_stay (s2.trans s3).st _ _ r1, rep_stay s3.st _ _ r2, r3⟩ q
theorem repPs_kv {K : PySem.W.Frag} : ∀ {kvs : List (Key × PV)} {ps : List (V × V)}, RepPs K H (kvs.map fun kv => (kP kv.1, kv.2)) ps → ∃ es : List (Key × V), ps = es.map (fun kv => (kV kv.1, kv.2)) ∧ RepKV K H kvs es
  | [], _, h => by cases h; exact ⟨[], rfl, rfl⟩
  | (j, y) :: kvs, _, h => by
    obtain ⟨v, u, ws, rfl, r1, r2, rs⟩ := h
    obtain ⟨es, rfl, re⟩ := repPs_kv rs
    refine ⟨(j, u) :: es, ?_, u, es, rfl, r2, re⟩
    have : v = kV j := by
      cases j with
      | inl i => exact r1
      | inr x => exact r1
    rw [this]; rfl
def wDict (ws : List (WE × WE)) : WE := fun ε S Q E => ∀ p, S p = none → wPairs ws ε (supd S p (.dct [])) (fun xs S2 => S2 p = some (.dct []) ∧ ∃ kvs : List (Key × PV), xs = kvs.map (fun kv => (kP kv.1, kv.2)) ∧ kvs.length ≤ 15 ∧ Q (.ref p) (supd S2 p (.dct (mergeP [] kvs)))) E
theorem je_dict {keys : List (Option Expr)} {values : List Expr} {ws : List (WE × WE)} {ts : List (TE × TE)} {pos : Pos} (h : JP G X keys values ws ts) (hall : keys.all (·.isSome) = true := by rfl) (hl : keys.length = values.length := by rfl) (h0 : keys ≠ [] := by nofun) (h15 : keys.length ≤ 15 := by decide) : JE G X (.Dict keys values pos) (wDict ws) :=
  ⟨fun ε S Q E w σ H re sr Wx tk ex => sE_of (pe_disp h.pps hall hl h0 h15) fun p hp => by
    have sn : SR G (upd H p (.dK [])) (supd S p (.dct [])) := sr.new (o := .dct []) hp ⟨[], upd_same, rfl⟩
    have st0 : Stp S H (supd S p (.dct [])) (upd H p (.dK [])) := .new hp
    refine h.dn (w p (sr.free hp)) (re.stay st0.st) sn tk (ex.mono st0) fun xs ps S2 H2 s2 sr2 r2 ⟨e2, kvs, ex2, hk, q⟩ => ?_
    subst ex2
    obtain ⟨es0, he, r0⟩ := dct_at sr2 e2
    cases r0
    obtain ⟨es, rfl, re2⟩ := repPs_kv r2
    have rm : RepKV G.K H2 (mergeP [] kvs) (mergeK [] es) := repKV_merge re2 rfl
    exact ⟨he, es, rfl, by rw [← repKV_len re2]; exact hk, .ref p, _, (st0.trans s2).trans (stp_setd e2 he), sr_setd sr2 e2 he rm, rfl, q⟩⟩
def wDict0 : WE := fun _ S Q _ => ∀ p, S p = none → Q (.ref p) (supd S p (.dct []))
theorem je_dict0 {pos : Pos} : JE G X (.Dict [] [] pos) wDict0 :=
  ⟨fun ε S Q E w σ H re sr Wx tk ex => sE_of pe_dnewK fun p hp => ⟨.ref p, _, .new hp, sr.new (o := .dct []) hp ⟨[], upd_same, rfl⟩, rfl, w p (sr.free hp)⟩⟩
/-- d[k] -/
def oIxD : O2 := fun x y S Q => ∃ a kvs k v, x = .ref a ∧ S a = some (.dct kvs) ∧ keyP y = some k ∧ valP kvs k = some v ∧ Q v S
theorem je_ixD {a b : Expr} {wa wb : WE} {pos : Pos} (hu : X.A.units + 64 < cLine) (ha : JE G X a wa) (hb : JE G X b wb) (hs : NoSl b := by exact fun _ _ => rfl) : JE G X (.Subscript a b pos) (wOp oIxD wa wb) :=
  ⟨fun ε S Q E w σ H re sr Wx tk ex => sE_of (pe_dget (by omega) pe_sE pe_sE hs) (by
    refine ha.dn w re sr tk ex fun v H1 ⟨x, S1, s1, sr1, r1, w1⟩ => ?_
    refine hb.dn w1 (re.stay s1.st) sr1 tk (ex.mono s1) fun u H2 ⟨y, S2, s2, sr2, r2, d, kvs, k, z, ez, ed, ek, ev, q⟩ => ?_
    subst ez
    cases r1
    obtain ⟨es, he, rk⟩ := dct_at sr2 ed
    obtain rfl := keyP_rep ek r2
    rcases repKV_val (k := k) rk with ⟨n, _⟩ | ⟨z', v', h1, h2, rz⟩
    · rw [ev] at n; cases n
    · rw [ev] at h1; cases h1
      exact ⟨d, v', rfl, h2 ▸ DGet.k he, z, S2, s1.trans s2, sr2, rz, q⟩)⟩
/-- d.get(k, z) -/
def wGet2 (wd wk wz : WE) : WE := fun ε S Q E => wd ε S (fun x S1 => (∃ a kvs, x = .ref a ∧ S1 a = some (.dct kvs)) ∧ wk ε S1 (fun y S2 => wz ε S2 (fun z S3 => ∃ a kvs k, x = .ref a ∧ S3 a = some (.dct kvs) ∧ keyP y = some k ∧ Q ((valP kvs k).getD z) S3) E) E) E
theorem je_get2 {o e f : Expr} {wd wk wz : WE} {apos cpos : Pos} (hu : X.A.units + 64 < cLine) (ho : JE G X o wd) (he : JE G X e wk) (hf : JE G X f wz) (m : M2 X o "get" apos e f cpos := by exact ⟨rfl, rfl, rfl, rfl⟩) : JE G X (.Call (.Attribute o "get" apos) [e, f] [] cpos) (wGet2 wd wk wz) :=
  ⟨fun ε S Q E w σ H re sr Wx tk ex => sE_of (pe_dget2 (by omega) pe_sE pe_sE pe_sE m) (by
    refine ho.dn w re sr tk ex fun v H1 ⟨x, S1, s1, sr1, r1, ⟨a, kvs, ea, ed⟩, w1⟩ => ?_
    subst ea
    cases r1
    obtain ⟨es, hes, _⟩ := dct_at sr1 ed
    refine ⟨a, rfl, .inl ⟨es, .inl hes⟩, ?_⟩
    refine he.dn w1 (re.stay s1.st) sr1 tk (ex.mono s1) fun u H2 ⟨y, S2, s2, sr2, r2, w2⟩ => ?_
    have s12 := s1.trans s2
    refine hf.dn w2 (re.stay s12.st) sr2 tk (ex.mono s12) fun t H3 ⟨z, S3, s3, sr3, r3, b, kvs2, k, eb, ed2, ek, q⟩ => ?_
    cases eb
    obtain ⟨es2, hes2, rk⟩ := dct_at sr3 ed2
    obtain rfl := keyP_rep ek (rep_stay s3.st _ _ r2)
    refine ⟨valV es2 k, DGet.k hes2, ?_⟩
    rcases repKV_val (k := k) rk with ⟨n, n2⟩ | ⟨z', v', h1, h2, rz⟩
    · rw [n] at q; rw [n2]
      exact ⟨z, S3, s12.trans s3, sr3, r3, q⟩
    · rw [h1] at q; rw [h2]
      exact ⟨z', S3, s12.trans s3, sr3, rz, q⟩)⟩
/-- d[k] = v -/
def gSubD (wo wi : WE) : WG := fun x ε S Q => wo ε S (fun o S1 => wi ε S1 (fun i S2 => ∃ a kvs k, o = .ref a ∧ S2 a = some (.dct kvs) ∧ keyP i = some k ∧ kvs.length < sizeLine ∧ Q ε (supd S2 a (.dct (putP kvs k x)))) fun _ _ => False) fun _ _ => False
theorem jg_subD {o i : Expr} {wo wi : WE} {pos : Pos} (hu : X.A.units + 64 < cLine) (ho : JE G X o wo) (hi : JE G X i wi)
    (ha : ∀ v, assign (.Subscript o i pos) X.env v = (do
      let ov ← holding [v] (eval o X.env)
      let iv ← holding [v, ov] (eval i X.env)
      standAt pos
      holding [v, ov, iv] (setItem ov iv v)
      release [v, ov, iv] []) := by intro _; rfl) : JG G X (.Subscript o i pos) [] (gSubD wo wi) :=
  ⟨fun x ε S Q q v σ H re sr r => sG_of (pg_sub pe_sE pe_sE (set_dict (by omega)) ha) (by
    refine ho.dn q re sr takes0 exl_no fun ov H1 ⟨ox, S1, s1, sr1, r1, w1⟩ => ?_
    refine hi.dn w1 (re.stay s1.st) sr1 takes0 exl_no fun iv H2 ⟨ix, S2, s2, sr2, r2, a, kvs, k, eo, ed, ek, hz, q2⟩ => ?_
    subst eo
    cases r1
    obtain ⟨es, he, rk⟩ := dct_at sr2 ed
    obtain rfl := keyP_rep ek r2
    have s12 := s1.trans s2
    have st : Stp S2 H2 (supd S2 a (.dct (putP kvs k x))) (upd H2 a (.dK (putK es k v))) := stp_setd ed he
    exact ⟨a, _, rfl, .inl ⟨es, k, he, rfl, by rw [← repKV_len rk]; exact hz, rfl⟩, .refl _ _, ε, _, s12.trans st, sr_setd sr2 ed he (repKV_put (rep_stay s12.st _ _ r) rk), re.stay (s12.trans st).st, q2⟩)⟩
/-- xs.pop(i) -/
def mPopAt : OM := fun x xs S Q => match x, xs with
  | .ref a, [.int i] => ∃ ys k y, S a = some (.lst ys) ∧ ixN ys.length i = some k ∧ ys[k]? = some y ∧ Q y (supd S a (.lst (ys.eraseIdx k)))
  | _, _ => False
theorem reps_erase {K : PySem.W.Frag} : ∀ {xs : List PV} {vs : List V} (i : Nat), Reps K H xs vs → Reps K H (xs.eraseIdx i) (vs.eraseIdx i)
  | [], _, i, h => by cases h; simp [Reps]
  | x :: xs, _, 0, h => by
    obtain ⟨v, ws, rfl, r, rs⟩ := h
    simpa using rs
  | x :: xs, _, i + 1, h => by
    obtain ⟨v, ws, rfl, r, rs⟩ := h
    exact ⟨v, _, rfl, r, reps_erase i rs⟩
end
end L3

set_option Elab.async false
set_option linter.all false
set_option maxRecDepth 100000
set_option maxHeartbeats 4000000
namespace L3
open PySem PySem.Spec L2
open PyProof.Rows hiding St
section
variable {G : Gd} {X : Cx} {H H1 : Hp} {S S1 : Sto} {σ : L2.St} {ε : PEnv}
/-! ### xs.pop(i), xs.insert(i, y) -/
def mPopA : OM := fun x xs S Q => match x, xs with
  | .ref a, [.int i] => ∃ ys k y, S a = some (.lst ys) ∧ ys.length ≤ sizeLine ∧ ixN ys.length i = some k ∧ ys[k]? = some y ∧ Q y (supd S a (.lst (ys.eraseIdx k)))
  | _, _ => False
theorem ml_popA : MtL G rPopAt mPopA := fun H S x xs v vs Q K sr rx r k q => by
  unfold mPopA at q
  split at q
  · rename_i a i
    cases rx
    obtain ⟨_, rfl, ri⟩ := reps1 r
    cases ri
    obtain ⟨ys, j, y, e, hz, hj, hy, q⟩ := q
    obtain ⟨ws, ha, ra⟩ := lst_at sr e
    have hl := reps_length ra
    obtain ⟨h1, h2, h3, h4⟩ := ixN_seq hj
    obtain ⟨u, hu, ru⟩ := reps_get ra hy
    have hz2 : sizeLine = 16777216 := by decide
    refine ⟨a, ws, i, j, u, rfl, rfl, ha, by omega, by omega, by rw [← hl]; exact h1, hu, k _ _ (ql_set sr e ha (reps_erase j ra) ru q)⟩
  · exact q.elim
def mInsert : OM := fun x xs S Q => match x, xs with
  | .ref a, [.int i, y] => ∃ ys, S a = some (.lst ys) ∧ ys.length < sizeLine ∧ 0 ≤ i ∧ i < 2 ^ 63 ∧ Q .non (supd S a (.lst (ys.take i.toNat ++ [y] ++ ys.drop i.toNat)))
  | _, _ => False
theorem ml_insert : MtL G (fun x vs H Q => ∃ (l : Addr) (xs : List V) (i : Int) (y : V), x = .ref l ∧ vs = [.int i, y] ∧ H l = some (.lst xs) ∧ xs.length < sizeLine ∧ 0 ≤ i ∧ i < 2 ^ 63 ∧ Q .non (upd H l (.lst (xs.take i.toNat ++ [y] ++ xs.drop i.toNat)))) mInsert := fun H S x xs v vs Q K sr rx r k q => by
  unfold mInsert at q
  split at q
  · rename_i a i y
    cases rx
    obtain ⟨_, u, rfl, ri, ru⟩ := reps2 r
    cases ri
    obtain ⟨ys, e, hz, h0, h1, q⟩ := q
    obtain ⟨ws, ha, ra⟩ := lst_at sr e
    have hl := reps_length ra
    refine ⟨a, ws, i, u, rfl, rfl, ha, by rw [← hl]; exact hz, h0, h1, k _ _ (ql_set (x := .non) sr e ha ?_ rfl q)⟩
    exact reps_append (reps_append (reps_take _ ra) ⟨u, [], rfl, ru, rfl⟩) (reps_drop _ ra)
  · exact q.elim
/-! ### k in d -/
def wInD (neg : Bool) (wk wd : WE) : WE := fun ε S Q E => wk ε S (fun y S1 => wd ε S1 (fun x S2 => ∃ a kvs k, x = .ref a ∧ S2 a = some (.dct kvs) ∧ keyP y = some k ∧ Q (.bl (neg ^^ (valP kvs k).isSome)) S2) E) E
theorem val_some {K : PySem.W.Frag} {kvs : List (Key × PV)} {es : List (Key × V)} {k : Key} (r : RepKV K H kvs es) : (valP kvs k).isSome = (valV es k).isSome := by
  rcases repKV_val (k := k) r with ⟨h1, h2⟩ | ⟨x, v, h1, h2, _⟩
  · rw [h1, h2]; rfl
  · rw [h1, h2]; rfl
theorem in_dn {neg : Bool} {i o : Expr} {wk wd : WE} {Q : KE} {E : KX} {K : VK} (hi : JE G X i wk) (ho : JE G X o wd) (w : wInD neg wk wd ε S Q E) (re : Renv G.K H ε σ) (sr : SR G H S) {Wx : WX} (tk : Takes X Wx) (ex : ExL G S H σ E Wx) (k : ∀ v H', QL G S H Q v H' → K v H') :
    sE X i σ H fun y H1 => sE X o σ H1 fun x H2 => ∃ a ov, x = .ref a ∧ DGet H2 a y ov ∧ K (.bl (neg ^^ ov.isSome)) H2 := by
  refine hi.dn w re sr tk ex fun v H1 ⟨y, S1, s1, sr1, r1, w1⟩ => ?_
  refine ho.dn w1 (re.stay s1.st) sr1 tk (ex.mono s1) fun u H2 ⟨x, S2, s2, sr2, r2, a, kvs, j, ea, ed, ek, q⟩ => ?_
  subst ea
  cases r2
  obtain ⟨es, he, rk⟩ := dct_at sr2 ed
  obtain rfl := keyP_rep ek (rep_stay s2.st _ _ r1)
  exact ⟨a, _, rfl, DGet.k he, k _ _ ((ql_bl sr2 (by rw [← val_some rk]; exact q)).mono (s1.trans s2))⟩
theorem je_inD {a b : Expr} {wa wb : WE} {pos : Pos} (hu : X.A.units + 64 < cLine) (ha : JE G X a wa) (hb : JE G X b wb) (hm : behindInMarks .In b = false := by rfl) : JE G X (.Compare a [.In] [b] pos) (wInD false wa wb) :=
  ⟨fun ε S Q E w σ H re sr Wx tk ex => sE_of (pe_cmp (pc_din (by omega) pe_sE pe_sE) hm) (by
    have := in_dn (K := QL G S H Q) ha hb w re sr tk ex fun _ _ q => q
    simpa only [tDIn, Bool.false_xor] using this)⟩
theorem je_ninD {a b : Expr} {wa wb : WE} {pos : Pos} (hu : X.A.units + 64 < cLine) (ha : JE G X a wa) (hb : JE G X b wb) (hm : behindInMarks .NotIn b = false := by rfl) : JE G X (.Compare a [.NotIn] [b] pos) (wInD true wa wb) :=
  ⟨fun ε S Q E w σ H re sr Wx tk ex => sE_of (pe_cmp (pc_dnotin (by omega) pe_sE pe_sE) hm) (by
    have := in_dn (K := QL G S H Q) ha hb w re sr tk ex fun _ _ q => q
    simpa only [tDNotIn, Bool.true_xor] using this)⟩
/-! ### a module's tuple -/
structure TupK (K : PySem.W.Frag) (mg : Str → Option Value) (x : Str) (a : Addr) (xs : List PV) : Prop where
  mg : mg x = some (.ref a)
  at_ : ∃ vs, (∀ H, SqT K H a vs) ∧ ∀ H, Reps K H xs vs
theorem je_gtup {x : Str} {a : Addr} {xs : List PV} {pos : Pos} (hg : Gl X x) (T : TupK G.K X.mg x a xs) (hd : (x == ("__debug__" : Str)) = false := by decide) : JE G X (.Name x pos) (wC (.tup xs)) :=
  je_c (pe_glob hg T.mg (v := .ref a) rfl hd) fun H => by
    obtain ⟨vs, h1, h2⟩ := T.at_
    exact ⟨a, vs, rfl, h1 H, h2 H⟩
end
end L3

set_option Elab.async false
set_option linter.all false
set_option maxRecDepth 100000
set_option maxHeartbeats 4000000
namespace L3
open PySem PySem.Spec L2
open PyProof.Rows hiding St
/-! ### steps of the readings: operators, tests, calls of built-ins -/
section
variable {ε : PEnv} {S : Sto} {E : KX} {D : PD} {Q : KE}
def tK (Q : Bool → Sto → Prop) : KE := fun x S1 => match x with
  | .bl b => Q b S1
  | _ => False
theorem tk {Q : Bool → Sto → Prop} {b : Bool} (h : Q b S) : tK Q (.bl b) S := h
theorem e_test {w : WE} {Q : Bool → Sto → Prop} (h : w ε S (tK Q) E) : wTest w ε S Q E := h
def trK (Q : Bool → Sto → Prop) : KE := fun x S1 => oTru x S1 Q
theorem e_tru {w : WE} {Q : Bool → Sto → Prop} (h : w ε S (trK Q) E) : wTru w ε S Q E := h
theorem tr_bl {Q : Bool → Sto → Prop} {b : Bool} (h : Q b S) : trK Q (.bl b) S := h
theorem tr_non {Q : Bool → Sto → Prop} (h : Q false S) : trK Q .non S := h
theorem tr_int {Q : Bool → Sto → Prop} {i : Int} (h : Q (i != 0) S) : trK Q (.int i) S := h
theorem e_notT {w : WT} {Q : Bool → Sto → Prop} (h : w ε S (fun b S1 => Q (!b) S1) E) : wNot w ε S Q E := h
theorem e_andT {wa wb : WT} {Q : Bool → Sto → Prop} (h : wa ε S (fun b S1 => if b = true then wb ε S1 Q E else Q false S1) E) : wAnd wa wb ε S Q E := h
theorem e_orT {wa wb : WT} {Q : Bool → Sto → Prop} (h : wa ε S (fun b S1 => if b = true then Q true S1 else wb ε S1 Q E) E) : wOr wa wb ε S Q E := h
theorem e_andV {wa wb : WE} (h : wa ε S (fun x S1 => oTru x S1 fun b S2 => if b = true then wb ε S2 Q E else Q x S2) E) : wAndV wa wb ε S Q E := h
theorem e_orV {wa wb : WE} (h : wa ε S (fun x S1 => oTru x S1 fun b S2 => if b = true then Q x S2 else wb ε S2 Q E) E) : wOrV wa wb ε S Q E := h
theorem e_notV {wa : WE} (h : wa ε S (fun x S1 => oTru x S1 fun b S2 => Q (.bl (!b)) S2) E) : wNotV wa ε S Q E := h
theorem ot_bl {Q : Bool → Sto → Prop} {b : Bool} (h : Q b S) : oTru (.bl b) S Q := h
theorem e_ifE {wt : WT} {wa wb : WE} (h : wt ε S (fun b S1 => if b = true then wa ε S1 Q E else wb ε S1 Q E) E) : wIfE wt wa wb ε S Q E := h
/-- branches -/
theorem ifd {p : Prop} [Decidable p] {A B : Prop} (h1 : p → A) (h2 : ¬p → B) : if decide p = true then A else B := by
  by_cases h : p
  · rw [if_pos (decide_eq_true h)]; exact h1 h
  · rw [if_neg (by rw [decide_eq_false h]; exact Bool.false_ne_true)]; exact h2 h
theorem ifT {p : Prop} [Decidable p] {A B : Prop} (h : p) (k : A) : if decide p = true then A else B := by
  rw [if_pos (decide_eq_true h)]; exact k
theorem ifF {p : Prop} [Decidable p] {A B : Prop} (h : ¬p) (k : B) : if decide p = true then A else B := by
  rw [if_neg (by rw [decide_eq_false h]; exact Bool.false_ne_true)]; exact k
theorem ifnd {p : Prop} [Decidable p] {A B : Prop} (h1 : p → B) (h2 : ¬p → A) : if (!decide p) = true then A else B := by
  by_cases h : p
  · rw [if_neg (by rw [decide_eq_true h]; exact Bool.false_ne_true)]; exact h1 h
  · rw [if_pos (by rw [decide_eq_false h]; rfl)]; exact h2 h
theorem ifnT {p : Prop} [Decidable p] {A B : Prop} (h : ¬p) (k : A) : if (!decide p) = true then A else B := by
  rw [if_pos (by rw [decide_eq_false h]; rfl)]; exact k
theorem ifnF {p : Prop} [Decidable p] {A B : Prop} (h : p) (k : B) : if (!decide p) = true then A else B := by
  rw [if_neg (by rw [decide_eq_true h]; exact Bool.false_ne_true)]; exact k
theorem if_t {A B : Prop} (k : A) : if true = true then A else B := k
theorem if_f {A B : Prop} (k : B) : if false = true then A else B := k
theorem if_nt {A B : Prop} (k : B) : if (!true) = true then A else B := k
theorem if_nf {A B : Prop} (k : A) : if (!false) = true then A else B := k
/-- comparisons -/
theorem e_lt {i j : Int} (h : Q (.bl (decide (i < j))) S) : oLt (.int i) (.int j) S Q := h
theorem e_le {i j : Int} (h : Q (.bl (decide (i ≤ j))) S) : oLe (.int i) (.int j) S Q := ⟨trivial, h⟩
theorem e_gt {i j : Int} (h : Q (.bl (decide (j < i))) S) : oGt (.int i) (.int j) S Q := ⟨trivial, h⟩
theorem e_ge {i j : Int} (h : Q (.bl (decide (j ≤ i))) S) : oGe (.int i) (.int j) S Q := ⟨trivial, h⟩
theorem e_eqI {i j : Int} (h : Q (.bl (decide (i = j))) S) : oEqN false (.int i) (.int j) S Q := by
  show Q (.bl (false ^^ decide (i = j))) S
  rw [Bool.false_xor]; exact h
theorem e_neI {i j : Int} (h : Q (.bl (!decide (i = j))) S) : oEqN true (.int i) (.int j) S Q := by
  show Q (.bl (true ^^ decide (i = j))) S
  rw [Bool.true_xor]; exact h
theorem e_eqS {i j : Str} (h : Q (.bl (decide (i = j))) S) : oEqN false (.str i) (.str j) S Q := by
  show Q (.bl (false ^^ decide (i = j))) S
  rw [Bool.false_xor]; exact h
theorem e_neS {i j : Str} (h : Q (.bl (!decide (i = j))) S) : oEqN true (.str i) (.str j) S Q := by
  show Q (.bl (true ^^ decide (i = j))) S
  rw [Bool.true_xor]; exact h
theorem e_eqLL {a b : Addr} {xs ys : List Int} (ha : RdL S a (xs.map PV.int)) (hb : RdL S b (ys.map PV.int)) (h : Q (.bl (decide (xs = ys))) S) : oEqN false (.ref a) (.ref b) S Q := eq_ints ha hb (by rw [Bool.false_xor]; exact h)
theorem e_neLL {a b : Addr} {xs ys : List Int} (ha : RdL S a (xs.map PV.int)) (hb : RdL S b (ys.map PV.int)) (h : Q (.bl (!decide (xs = ys))) S) : oEqN true (.ref a) (.ref b) S Q := eq_ints ha hb (by rw [Bool.true_xor]; exact h)
/-- a list against a new list, by being empty -/
theorem eqv_nil : ∀ (ds : List PyData), PyData.eqvAll ds [] = decide (ds = [])
  | [] => by simp [PyData.eqvAll]
  | _ :: _ => by simp [PyData.eqvAll]
theorem dats_nil {S : Sto} : ∀ {xs : List PV} {ds : List PyData}, Dats S xs ds → (ds = [] ↔ xs = [])
  | [], _, .nil => by simp
  | _ :: _, _, .cons _ _ => by simp
theorem e_neNil {a b : Addr} {xs : List PV} {d : PyData} (hb : S b = some (.lst [])) (hd : Dat S (.ref a) d) (ha : RdL S a xs) (sh : SeqAt.shaped d = true) (h : Q (.bl (!decide (xs = []))) S) : oEqN true (.ref a) (.ref b) S Q := by
  cases hd with
  | lst e es =>
    rename_i ys ds
    have exy : xs = ys := by
      rcases ha with ha | ha <;> rcases e with e | e <;> rw [ha] at e <;> cases e <;> rfl
    subst exy
    refine ⟨_, .list [], .lst e es, .lst (.inl hb) .nil, sh, by decide +kernel, ?_⟩
    rw [PyData.eqv, eqv_nil, decide_eq_decide.mpr (dats_nil es), Bool.true_xor]
    exact h
/-- arithmetic -/
theorem e_fdiv {i j : Int} (hc : CDivW i j) (h : Q (.int (i / j)) S) : oFdiv (.int i) (.int j) S Q := ⟨hc, h⟩
theorem e_mod {i j : Int} (hc : 0 < j) (h : Q (.int (i % j)) S) : oMod (.int i) (.int j) S Q := ⟨hc, h⟩
/-- items -/
theorem e_ixl {a : Addr} {i : Int} {xs : List PV} {v : PV} (ha : RdL S a xs) (hv : atI xs i = some v) (h : Q v S) : oIx (.ref a) (.int i) S Q := ⟨xs, v, ha, hv, h⟩
theorem e_ixt {i : Int} {xs : List PV} {v : PV} (hv : atI xs i = some v) (h : Q v S) : oIx (.tup xs) (.int i) S Q := ⟨v, hv, h⟩
theorem e_catL {a b : Addr} {xs ys : List PV} (ha : S a = some (.lst xs)) (hb : S b = some (.lst ys)) (hz : xs.length + ys.length ≤ sizeLine) (h : ∀ p, S p = none → Q (.ref p) (supd S p (.lst (xs ++ ys)))) : oAdd (.ref a) (.ref b) S Q := ⟨xs, ys, ha, hb, hz, h⟩
theorem e_catT {xs ys : List PV} (hz : xs.length + ys.length ≤ sizeLine) (h : Q (.tup (xs ++ ys)) S) : oAdd (.tup xs) (.tup ys) S Q := ⟨hz, h⟩
/-- built-ins -/
theorem c_lenL {a : Addr} {xs : List PV} (ha : RdL S a xs) (h : Q (.int xs.length) S) : cLen [.ref a] S Q := ⟨xs, ha, h⟩
theorem c_lenT {xs : List PV} (h : Q (.int xs.length) S) : cLen [.tup xs] S Q := h
theorem c_int {i : Int} (h : Q (.int i) S) : cInt [.int i] S Q := h
theorem c_intB {b : Bool} (h : Q (.int (if b then 1 else 0)) S) : cInt [.bl b] S Q := h
theorem c_abs {i : Int} (h : Q (.int (i.natAbs : Int)) S) : cAbs [.int i] S Q := h
theorem c_tupL {a : Addr} {xs : List PV} (ha : RdL S a xs) (h : Q (.tup xs) S) : cTuple [.ref a] S Q := ⟨xs, ha, h⟩
theorem c_tupT {xs : List PV} (h : Q (.tup xs) S) : cTuple [.tup xs] S Q := h
theorem c_lstL {a : Addr} {xs : List PV} (ha : RdL S a xs) (h : ∀ p, S p = none → Q (.ref p) (supd S p (.lst xs))) : cList [.ref a] S Q := ⟨xs, ha, h⟩
theorem c_lstT {xs : List PV} (h : ∀ p, S p = none → Q (.ref p) (supd S p (.lst xs))) : cList [.tup xs] S Q := h
theorem c_sumL {a : Addr} {ns : List Int} (ha : RdL S a (ns.map PV.int)) (h : Q (.int ns.sum) S) : cSum2 [.ref a] S Q := ⟨ns, ha, h⟩
theorem c_isi {x : PV} {c t : String} {b : Bool} (hx : tyN x S t) (hk : kitB t c = some b) (h : Q (.bl b) S) : cIsi [x, .ty c] S Q := ⟨t, b, hx, hk, h⟩
theorem c_repr {x : PV} {d : PyData} (hd : Dat S x d) (hs : Shw d) (h : Q (.str d.shown) S) : cRepr [x] S Q := ⟨d, hd, hs, h⟩
/-- xs.append(y) -/
theorem e_app {T : String} {wo : WE} {wa : WA} {o : OM} (h : wo ε S (fun x S1 => tyP x S1 T ∧ wa ε S1 (fun xs S2 => o x xs S2 Q) E) E) : wBM T o wo wa ε S Q E := h
theorem m_app {a : Addr} {xs : List PV} {y : PV} (ha : S a = some (.lst xs)) (hz : xs.length < sizeLine) (h : Q .non (supd S a (.lst (xs ++ [y])))) : mAppend (.ref a) [y] S Q := ⟨xs, ha, hz, h⟩
/-- xs.append(e), a statement -/
theorem s_app {i : Nat} {a : Addr} {wa : WE} (hv : ε[i]? = some (some (.ref a))) (hr : ∃ ys, RdL S a ys)
    (h : wa ε S (fun y S1 => ∃ xs, S1 a = some (.lst xs) ∧ xs.length < sizeLine ∧ D.nx ε (supd S1 a (.lst (xs ++ [y])))) (fun n S1 => D.ex n ε S1)) : wExpr (wBM "list" mAppend (wV i) (wCons wa wNil)) D ε S :=
  s_expr (e_app (e_v hv ⟨⟨rfl, hr⟩, e_cons (by
    exact h)⟩))
/-- sources -/
theorem i_r1 {w : WE} {R : Src → Sto → Prop} (h : w ε S (fun x S1 => match x with
  | .int j => -(2 ^ 62) ≤ j ∧ j < 2 ^ 62 ∧ R ⟨rangeP 0 j.toNat, fun _ => True⟩ S1
  | _ => False) E) : iRange1 w ε S R E := h
theorem g_2 {i j : Nat} {x y : PV} {Q : PEnv → Sto → Prop} (h : Q ((ε.set i (some x)).set j (some y)) S) : gTup' 2 (gCons' (gN i) (gCons' (gN j) gNil')) (.tup [x, y]) ε S Q := ⟨rfl, h⟩
end
section
variable {ε : PEnv} {S : Sto} {E : KX} {D : PD}
def rK (R : Src → Sto → Prop) : KE := fun x S1 => match x with
  | .int j => -(2 ^ 62) ≤ j ∧ j < 2 ^ 62 ∧ R ⟨rangeP 0 j.toNat, fun _ => True⟩ S1
  | _ => False
theorem i_rng {w : WE} {R : Src → Sto → Prop} (h : w ε S (rK R) E) : iRange1 w ε S R E := h
theorem rk {R : Src → Sto → Prop} {j : Int} (n : Nat) (hj : j = (n : Int)) (hn : n < 2 ^ 62) (h : R ⟨rangeP 0 n, fun _ => True⟩ S) : rK R (.int j) S := by
  subst hj
  refine ⟨by omega, by omega, ?_⟩
  rw [Int.toNat_natCast]
  exact h
theorem i_rng2 {wa wb : WE} {R : Src → Sto → Prop} (h : wa ε S (fun x S1 => wb ε S1 (fun y S2 => match x, y with
  | .int i, .int j => (-(2 ^ 62) ≤ i ∧ i < 2 ^ 62 ∧ -(2 ^ 62) ≤ j ∧ j < 2 ^ 62) ∧ R ⟨rangeP i (j - i).toNat, fun _ => True⟩ S2
  | _, _ => False) E) E) : iRange2 wa wb ε S R E := h
def r2K (R : Src → Sto → Prop) (x : PV) : KE := fun y S2 => match x, y with
  | .int i, .int j => (-(2 ^ 62) ≤ i ∧ i < 2 ^ 62 ∧ -(2 ^ 62) ≤ j ∧ j < 2 ^ 62) ∧ R ⟨rangeP i (j - i).toNat, fun _ => True⟩ S2
  | _, _ => False
theorem i_r2 {wa wb : WE} {R : Src → Sto → Prop} (h : wa ε S (fun x S1 => wb ε S1 (r2K R x) E) E) : iRange2 wa wb ε S R E := h
theorem r2k {R : Src → Sto → Prop} {i j : Int} (n : Nat) (hn : j - i = (n : Int)) (h1 : -(2 ^ 62) ≤ i) (h2 : i < 2 ^ 62) (h3 : -(2 ^ 62) ≤ j) (h4 : j < 2 ^ 62) (h : R ⟨rangeP i n, fun _ => True⟩ S) : r2K R (.int i) (.int j) S := by
  refine ⟨⟨h1, h2, h3, h4⟩, ?_⟩
  rw [hn, Int.toNat_natCast]
  exact h
/-- a range that is empty or goes up -/
theorem r2k' {R : Src → Sto → Prop} {i j : Int} (n : Nat) (hn : (j - i).toNat = n) (h1 : -(2 ^ 62) ≤ i) (h2 : i < 2 ^ 62) (h3 : -(2 ^ 62) ≤ j) (h4 : j < 2 ^ 62) (h : R ⟨rangeP i n, fun _ => True⟩ S) : r2K R (.int i) (.int j) S := by
  subst hn
  exact ⟨⟨h1, h2, h3, h4⟩, h⟩
/-- what a turn may end in -/
def Nxt (P : PEnv → Sto → Prop) (C : PEnv → Sto → Prop) : Prop := ∀ ε2 S2 ε3 S3, Le ε3 ε2 → Sub S3 S2 → P ε3 S3 → C ε2 S2
theorem Nxt.at {P C : PEnv → Sto → Prop} (h : Nxt P C) {ε : PEnv} {S : Sto} (p : P ε S) : C ε S := h ε S ε S (.refl _) (.refl _) p
theorem for_rng {g : WG} {body : WS} {lo : Int} {n : Nat} (P : Nat → PEnv → Sto → Prop)
    (step : ∀ k : Nat, k < n → ∀ C, Nxt (P (k + 1)) C → ∀ ε S, P k ε S → g (.int (lo + (k : Nat))) ε S fun ε1 S1 => body { nx := C, rt := D.rt, bk := D.nx, ct := C, ex := D.ex } ε1 S1)
    (fin : ∀ ε S, P n ε S → D.nx ε S) (h0 : P 0 ε S) : forW (fun _ => True) g body D (rangeP lo n) ε S := by
  refine for_inv P (fun _ _ _ _ => trivial) (fun k x hx C hC ε S p => ?_) (fun ε S p => fin ε S ?_) h0
  · have hk : k < n := by
      have := (List.getElem?_eq_some_iff.mp hx).1
      simpa [rangeP] using this
    have e : x = .int (lo + (k : Nat)) := by
      unfold rangeP at hx
      rw [List.getElem?_map, List.getElem?_range hk] at hx
      exact (Option.some.inj hx).symm
    subst e
    exact step k hk C hC ε S p
  · have : (rangeP lo n).length = n := by simp [rangeP]
    rw [this] at p
    exact p
/-- a walk over items -/
theorem for_its {keep : Sto → Prop} {g : WG} {body : WS} {items : List PV} (P : Nat → PEnv → Sto → Prop) (hk : ∀ k ε S, P k ε S → keep S)
    (step : ∀ (k : Nat) (x : PV), items[k]? = some x → ∀ C, Nxt (P (k + 1)) C → ∀ ε S, P k ε S → g x ε S fun ε1 S1 => body { nx := C, rt := D.rt, bk := D.nx, ct := C, ex := D.ex } ε1 S1)
    (fin : ∀ ε S, P items.length ε S → D.nx ε S) (h0 : P 0 ε S) : forW keep g body D items ε S := for_inv P hk (fun k x hx C hC ε S p => step k x hx C hC ε S p) fin h0
theorem getD_at {xs : List Int} {j : Nat} (h : j < xs.length) : atI (xs.map PV.int) (j : Int) = some (.int (xs.getD j 0)) := by
  refine atI_nat ?_
  rw [List.getElem?_map, List.getElem?_eq_getElem h, List.getD_eq_getElem?_getD, List.getElem?_eq_getElem h]
  rfl
end
section
variable {ε : PEnv} {S : Sto} {E : KX} {Q : KE}
theorem e_if2 {p : Prop} [Decidable p] {wa wb : WE} (v : PV) (ha : p → ∀ Q : KE, Q v S → wa ε S Q E) (hb : ¬p → ∀ Q : KE, Q v S → wb ε S Q E) (k : Q v S) : if decide p = true then wa ε S Q E else wb ε S Q E := by
  by_cases h : p
  · rw [if_pos (decide_eq_true h)]; exact ha h Q k
  · rw [if_neg (by rw [decide_eq_false h]; exact Bool.false_ne_true)]; exact hb h Q k
theorem getD_none {xs : List Int} {j : Nat} (h : xs.length ≤ j) : xs.getD j 0 = 0 := by
  rw [List.getD_eq_getElem?_getD, List.getElem?_eq_none h]; rfl
theorem sz {n m : Nat} (h : n ≤ m) (k : m ≤ 16777216 := by decide) : n ≤ sizeLine := Nat.le_trans h (Nat.le_trans k (by decide))
theorem sz1 {n m : Nat} (h : n ≤ m) (k : m < 16777216 := by decide) : n < sizeLine := Nat.lt_of_le_of_lt h (Nat.lt_of_lt_of_le k (by decide))
end
theorem Sub.with {S S1 : Sto} {q : Addr} {u : MO} (s : Sub S S1) (n : S q = none) (e : S1 q = some u) (h : u ≠ .hand := by nofun) : Sub (supd S q u) S1 :=
  ⟨fun a w x => by
    by_cases ha : a = q
    · rw [ha, supd_same] at x; cases x; rw [ha]; exact e
    · rw [supd_ne ha] at x; exact s.le a w x, fun a x c hc => by
    by_cases ha : a = q
    · rw [ha, supd_same] at x; cases x; exact absurd rfl h
    · rw [supd_ne ha] at x
      have := s.pr a x c hc
      by_cases hq : c = q
      · rw [hq] at this; rw [n] at this; cases this
      · rw [supd_ne hq]; exact this⟩
theorem oin_t {neg : Bool} {x : PV} {xs : List PV} {S : Sto} {Q : KE} (fx : flatP x = true) (fs : xs.all flatP = true) (h : Q (.bl (neg ^^ xs.any fun y => eqP y x)) S) : oInN neg x (.tup xs) S Q := by
  cases x <;> first | exact ⟨fx, fs, h⟩ | cases fx
section
variable {ε : PEnv} {S : Sto} {E : KX} {Q : KE}
class CstP (ws : List (WE × WE)) (ps : outParam (List (PV × PV))) : Prop where
  run : ∀ (ε : PEnv) (S : Sto) (Q : List (PV × PV) → Sto → Prop) (E : KX), Q ps S → wPairs ws ε S Q E
instance cstP_nil : CstP [] [] := ⟨fun _ _ _ _ h => h⟩
instance cstP_cons {k v : Str} {ws : List (WE × WE)} {ps : List (PV × PV)} [h : CstP ws ps] : CstP ((wC (.str k), wC (.str v)) :: ws) ((.str k, .str v) :: ps) := ⟨fun ε S Q E q => h.run ε S (fun xs S2 => Q ((.str k, .str v) :: xs) S2) E q⟩
instance cstP_consI {k v : Int} {ws : List (WE × WE)} {ps : List (PV × PV)} [h : CstP ws ps] : CstP ((wC (.int k), wC (.int v)) :: ws) ((.int k, .int v) :: ps) := ⟨fun ε S Q E q => h.run ε S (fun xs S2 => Q ((.int k, .int v) :: xs) S2) E q⟩
/-- a dict of constants -/
theorem e_dictk {ws : List (WE × WE)} {ps : List (PV × PV)} [h : CstP ws ps] (kvs : List (Key × PV)) (hp : ps = kvs.map fun kv => (kP kv.1, kv.2)) (hl : kvs.length ≤ 15) (hm : mergeP [] kvs = kvs) (q : ∀ p, S p = none → Q (.ref p) (supd S p (.dct kvs))) : wDict ws ε S Q E := fun p n =>
  h.run ε _ _ E ⟨supd_same, kvs, hp, hl, by rw [hm, supd_supd]; exact q p n⟩
theorem e_ixD {a : Addr} {y : PV} {kvs : List (Key × PV)} {k : Key} {v : PV} (ha : S a = some (.dct kvs)) (hk : keyP y = some k) (hv : valP kvs k = some v) (q : Q v S) : oIxD (.ref a) y S Q := ⟨a, kvs, k, v, rfl, ha, hk, hv, q⟩
theorem enumP_ints (xs : List Int) : enumP (xs.map PV.int) = xs.zipIdx.map fun p => .tup [.int (p.2 : Nat), .int p.1] := by
  unfold enumP
  rw [List.zipIdx_map, List.map_map]
  rfl
theorem i_enumL {w : WA} {R : Src → Sto → Prop} (h : w ε S (fun xs S1 => oEnum xs S1 R) E) : iEnumm w ε S R E := h
theorem en_l {a : Addr} {ys : List PV} {R : Src → Sto → Prop} (ha : RdL S a ys) (h : R ⟨enumP ys, fun S => RdL S a ys⟩ S) : oEnum [.ref a] S R := ⟨ys, ha, h⟩
theorem en_t {ys : List PV} {R : Src → Sto → Prop} (h : R ⟨enumP ys, fun _ => True⟩ S) : oEnum [.tup ys] S R := h
theorem e_lc {wi : WI} {g : WG} {wt : WT} {we : WE} {vs : List Nat} (h : wi ε S (fun src S1 => lcW src.keep g wt we (wipeP ε vs) (fun acc S2 => ∀ D, S2 D = none → Q (.ref D) (supd S2 D (.lst acc))) src.items [] S1) E) : wLc wi g wt we vs ε S Q E := h
end
end L3

set_option Elab.async false
set_option linter.all false
set_option maxRecDepth 100000
set_option maxHeartbeats 4000000
namespace L3
open PySem PySem.Spec L2
open PyProof.Rows hiding St
/-! ### what can be written -/
open PyData in
theorem shownAll_ints (B : Nat) : ∀ ns : List Int, (∀ n ∈ ns, n.natAbs.log2 < B) → 0 < B → ((PyData.shownAll (ns.map PyData.int)).map (·.length)).sum ≤ ns.length * (B + 1)
  | [], _, _ => by simp [PyData.shownAll]
  | n :: ns, h, hB => by
    have h1 := shownAll_ints B ns (fun m hm => h m (List.mem_cons_of_mem _ hm)) hB
    have h2 := int_text_length_le hB (h n List.mem_cons_self)
    simp only [List.map_cons, PyData.shownAll, List.sum_cons, List.length_cons, PyData.shown]
    have e : (ns.length + 1) * (B + 1) = ns.length * (B + 1) + (B + 1) := Nat.succ_mul _ _
    rw [e]
    have h3 : (Str.ofString (toString n)).length ≤ B + 1 := by rw [PySem.ofString_length]; exact h2
    omega
theorem showAll_ints : ∀ ns : List Int, (∀ n ∈ ns, n.natAbs.log2 < 1920) → PyData.showableAll (ns.map PyData.int) = true
  | [], _ => by simp [PyData.showableAll]
  | n :: ns, h => by
    simp only [List.map_cons, PyData.showableAll, PyData.showable, Bool.and_eq_true, decide_eq_true_eq]
    exact ⟨h n List.mem_cons_self, showAll_ints ns fun m hm => h m (List.mem_cons_of_mem _ hm)⟩
theorem noDict_ints : ∀ ns : List Int, PyData.hasDictAll (ns.map PyData.int) = false
  | [] => by simp [PyData.hasDictAll]
  | n :: ns => by simp [PyData.hasDictAll, PyData.hasDict, noDict_ints ns]
theorem shownAll_len : ∀ ds : List PyData, (PyData.shownAll ds).length = ds.length
  | [] => by simp [PyData.shownAll]
  | d :: ds => by simp [PyData.shownAll, shownAll_len ds]
theorem sizeLine_is : sizeLine = 16777216 := by decide
theorem tints_len {ns : List Int} {B : Nat} (hB : 0 < B) (h : ∀ n ∈ ns, n.natAbs.log2 < B) : (PyData.tuple (ns.map PyData.int)).shown.length ≤ ns.length * (B + 1) + 2 * ns.length + 3 := by
  have h1 := shownAll_ints B ns h hB
  have h2 := tupleText_len_le (PyData.shownAll (ns.map PyData.int))
  rw [shownAll_len, List.length_map] at h2
  simp only [PyData.shown]
  omega
theorem lints_len {ns : List Int} {B : Nat} (hB : 0 < B) (h : ∀ n ∈ ns, n.natAbs.log2 < B) : (PyData.list (ns.map PyData.int)).shown.length ≤ ns.length * (B + 1) + 2 * ns.length + 3 := by
  have h1 := shownAll_ints B ns h hB
  have h2 := listText_len_le (PyData.shownAll (ns.map PyData.int))
  rw [shownAll_len, List.length_map] at h2
  simp only [PyData.shown]
  omega
theorem shw_int {i : Int} (h : i.natAbs.log2 < 1920) : Shw (.int i) := ⟨by simpa [PyData.showable] using h, by simp [PyData.hasDict], by simp [PyData.depth], by
  have := int_text_length_le (by decide : 0 < 1920) h
  have e : (PyData.int i).shown.length ≤ 1921 := by
    show (Str.ofString (toString i)).length ≤ 1921
    rw [PySem.ofString_length]; exact this
  have := sizeLine_is
  omega⟩
theorem shw_tints {ns : List Int} {B : Nat} (hB : 0 < B) (hB2 : B ≤ 1920) (h : ∀ n ∈ ns, n.natAbs.log2 < B) (hl : ns.length * (B + 3) + 3 ≤ 16777216) : Shw (.tuple (ns.map PyData.int)) :=
  ⟨by simp only [PyData.showable]; exact showAll_ints ns fun n hn => Nat.lt_of_lt_of_le (h n hn) hB2, by simp [PyData.hasDict, noDict_ints], by simp [PyData.depth, depth_ints], by
    have h1 := tints_len hB h
    have := sizeLine_is
    have e : ns.length * (B + 3) = ns.length * (B + 1) + 2 * ns.length := by rw [show B + 3 = (B + 1) + 2 from rfl, Nat.mul_add]; omega
    omega⟩
theorem shw_lints {ns : List Int} {B : Nat} (hB : 0 < B) (hB2 : B ≤ 1920) (h : ∀ n ∈ ns, n.natAbs.log2 < B) (hl : ns.length * (B + 3) + 3 ≤ 16777216) : Shw (.list (ns.map PyData.int)) :=
  ⟨by simp only [PyData.showable]; exact showAll_ints ns fun n hn => Nat.lt_of_lt_of_le (h n hn) hB2, by simp [PyData.hasDict, noDict_ints], by simp [PyData.depth, depth_ints], by
    have h1 := lints_len hB h
    have := sizeLine_is
    have e : ns.length * (B + 3) = ns.length * (B + 1) + 2 * ns.length := by rw [show B + 3 = (B + 1) + 2 from rfl, Nat.mul_add]; omega
    omega⟩
def tabD (T : List (List Int)) : List PyData := T.map fun r => .tuple (r.map PyData.int)
def tabP (T : List (List Int)) : List PV := T.map fun r => .tup (r.map PV.int)
theorem dats_tab {S : Sto} : ∀ T : List (List Int), Dats S (tabP T) (tabD T)
  | [] => .nil
  | r :: T => .cons (.tup (dats_ints r)) (dats_tab T)
theorem tab_shown {B L : Nat} (hB : 0 < B) : ∀ T : List (List Int), (∀ r ∈ T, r.length ≤ L ∧ ∀ n ∈ r, n.natAbs.log2 < B) → ((PyData.shownAll (tabD T)).map (·.length)).sum ≤ T.length * (L * (B + 3) + 3)
  | [], _ => by simp [tabD, PyData.shownAll]
  | r :: T, h => by
    have h1 := tab_shown hB T fun r hr => h r (List.mem_cons_of_mem _ hr)
    obtain ⟨h2, h3⟩ := h r List.mem_cons_self
    have h4 := tints_len hB h3
    have e : (T.length + 1) * (L * (B + 3) + 3) = T.length * (L * (B + 3) + 3) + (L * (B + 3) + 3) := Nat.succ_mul _ _
    have e2 : r.length * (B + 3) ≤ L * (B + 3) := Nat.mul_le_mul_right _ h2
    have e3 : r.length * (B + 3) = r.length * (B + 1) + 2 * r.length := by rw [show B + 3 = (B + 1) + 2 from rfl, Nat.mul_add]; omega
    unfold tabD at h1 ⊢
    simp only [List.map_cons, PyData.shownAll, List.sum_cons, List.length_cons]
    rw [e]
    omega
theorem tab_showable : ∀ T : List (List Int), (∀ r ∈ T, ∀ n ∈ r, n.natAbs.log2 < 1920) → PyData.showableAll (tabD T) = true
  | [], _ => by simp [tabD, PyData.showableAll]
  | r :: T, h => by
    have := tab_showable T fun r hr => h r (List.mem_cons_of_mem _ hr)
    unfold tabD at this ⊢
    simp only [List.map_cons, PyData.showableAll, PyData.showable, Bool.and_eq_true]
    exact ⟨showAll_ints r (h r List.mem_cons_self), this⟩
theorem tab_noDict : ∀ T : List (List Int), PyData.hasDictAll (tabD T) = false
  | [] => by simp [tabD, PyData.hasDictAll]
  | r :: T => by
    have := tab_noDict T
    unfold tabD at this ⊢
    simp [PyData.hasDictAll, PyData.hasDict, noDict_ints, this]
theorem tab_depth : ∀ T : List (List Int), PyData.depthAll (tabD T) ≤ 1
  | [] => by simp [tabD, PyData.depthAll]
  | r :: T => by
    have := tab_depth T
    unfold tabD at this ⊢
    simp only [List.map_cons, PyData.depthAll, PyData.depth, depth_ints]
    omega
theorem shw_tab {T : List (List Int)} {B L : Nat} (hB : 0 < B) (hB2 : B ≤ 1920) (h : ∀ r ∈ T, r.length ≤ L ∧ ∀ n ∈ r, n.natAbs.log2 < B) (hl : T.length * (L * (B + 3) + 5) + 3 ≤ 16777216) : Shw (.tuple (tabD T)) :=
  ⟨by simp only [PyData.showable]; exact tab_showable T fun r hr n hn => Nat.lt_of_lt_of_le ((h r hr).2 n hn) hB2, by simp [PyData.hasDict, tab_noDict], by
    have := tab_depth T
    simp only [PyData.depth]
    omega, by
    have h1 := tab_shown hB T h
    have h2 := tupleText_len_le (PyData.shownAll (tabD T))
    rw [shownAll_len] at h2
    have hl2 : (tabD T).length = T.length := by simp [tabD]
    have := sizeLine_is
    have e : T.length * (L * (B + 3) + 5) = T.length * (L * (B + 3) + 3) + 2 * T.length := by rw [show L * (B + 3) + 5 = (L * (B + 3) + 3) + 2 from rfl, Nat.mul_add]; omega
    simp only [PyData.shown]
    omega⟩
end L3

set_option Elab.async false
set_option linter.all false
set_option maxRecDepth 100000
set_option maxHeartbeats 4000000
namespace L3
open PySem PySem.Spec L2
open PyProof.Rows hiding St
/-! ### the defs -/
abbrev lamN (x : Str) : Str := (x ++ ".<locals>.") ++ "<lambda>"
abbrev topS (i : Nat) : Stmt := (PySem.Challenge.pw_nextterms_k22_whole_triangles_that_undo.main.body[i]?).getD (.Pass ⟨0, 0, 0, 0⟩)
abbrev s_is_integer : Stmt := topS 1
def N_is_integer : List Str := ["thing"]
def p_is_integer : List Str := ["thing"]
theorem sc_is_integer : FnScope N_is_integer p_is_integer (defScope s_is_integer) := ⟨rfl, rfl, rfl, by decide +kernel, rfl, by decide +kernel, by decide +kernel⟩
abbrev s_is_within : Stmt := topS 2
def N_is_within : List Str := ["thing", "low", "high"]
def p_is_within : List Str := ["thing", "low", "high"]
theorem sc_is_within : FnScope N_is_within p_is_within (defScope s_is_within) := ⟨rfl, rfl, rfl, by decide +kernel, rfl, by decide +kernel, by decide +kernel⟩
abbrev s_check_kind : Stmt := topS 16
def N_check_kind : List Str := ["kind"]
def p_check_kind : List Str := ["kind"]
theorem sc_check_kind : FnScope N_check_kind p_check_kind (defScope s_check_kind) := ⟨rfl, rfl, rfl, by decide +kernel, rfl, by decide +kernel, by decide +kernel⟩
abbrev s_made : Stmt := topS 18
def N_made : List Str := ["kind", "many", "k", "same", "before"]
def p_made : List Str := ["kind", "many", "k", "same", "before"]
theorem sc_made : FnScope N_made p_made (defScope s_made) := ⟨rfl, rfl, rfl, by decide +kernel, rfl, by decide +kernel, by decide +kernel⟩
abbrev s_next_row : Stmt := topS 17
def N_next_row : List Str := ["kind", "row", "many", "found", "k", "same", "before"]
def p_next_row : List Str := ["kind", "row", "many"]
theorem sc_next_row : FnScope N_next_row p_next_row (defScope s_next_row) := ⟨rfl, rfl, rfl, by decide +kernel, rfl, by decide +kernel, by decide +kernel⟩
abbrev s_row_of : Stmt := topS 19
def N_row_of : List Str := ["kind", "many", "found", "size"]
def p_row_of : List Str := ["kind", "many"]
theorem sc_row_of : FnScope N_row_of p_row_of (defScope s_row_of) := ⟨rfl, rfl, rfl, by decide +kernel, rfl, by decide +kernel, by decide +kernel⟩
abbrev s_row : Stmt := topS 20
def N_row : List Str := ["kind", "many"]
def p_row : List Str := ["kind", "many"]
theorem sc_row : FnScope N_row p_row (defScope s_row) := ⟨rfl, rfl, rfl, by decide +kernel, rfl, by decide +kernel, by decide +kernel⟩
abbrev s_item : Stmt := topS 21
def N_item : List Str := ["kind", "many", "some", "told"]
def p_item : List Str := ["kind", "many", "some"]
theorem sc_item : FnScope N_item p_item (defScope s_item) := ⟨rfl, rfl, rfl, by decide +kernel, rfl, by decide +kernel, by decide +kernel⟩
abbrev s_turned_table : Stmt := topS 22
def N_turned_table : List Str := ["kind", "many", "other", "found", "size", "told", "k", "one"]
def p_turned_table : List Str := ["kind", "many"]
theorem sc_turned_table : FnScope N_turned_table p_turned_table (defScope s_turned_table) := ⟨rfl, rfl, rfl, by decide +kernel, rfl, by decide +kernel, by decide +kernel⟩
abbrev s__law_hand : Stmt := topS 24
def N__law_hand : List Str := ["script", "cells", "cell"]
def p__law_hand : List Str := ["script"]
theorem sc__law_hand : FnScope N__law_hand p__law_hand (defScope s__law_hand) := ⟨rfl, rfl, rfl, by decide +kernel, rfl, by decide +kernel, by decide +kernel⟩
abbrev s__law_draw : Stmt := topS 25
def N__law_draw : List Str := ["hand", "many", "cell", "digit", "number"]
def p__law_draw : List Str := ["hand", "many"]
theorem sc__law_draw : FnScope N__law_draw p__law_draw (defScope s__law_draw) := ⟨rfl, rfl, rfl, by decide +kernel, rfl, by decide +kernel, by decide +kernel⟩
abbrev s__law_some : Stmt := topS 26
def N__law_some : List Str := ["hand", "things"]
def p__law_some : List Str := ["hand", "things"]
theorem sc__law_some : FnScope N__law_some p__law_some (defScope s__law_some) := ⟨rfl, rfl, rfl, by decide +kernel, rfl, by decide +kernel, by decide +kernel⟩
abbrev s__law_few : Stmt := topS 27
def N__law_few : List Str := ["hand", "things", "most", "left", "found"]
def p__law_few : List Str := ["hand", "things", "most"]
theorem sc__law_few : FnScope N__law_few p__law_few (defScope s__law_few) := ⟨rfl, rfl, rfl, by decide +kernel, rfl, by decide +kernel, by decide +kernel⟩
abbrev s__law_is : Stmt := topS 28
def N__law_is : List Str := ["told", "due"]
def p__law_is : List Str := ["told", "due"]
theorem sc__law_is : FnScope N__law_is p__law_is (defScope s__law_is) := ⟨rfl, rfl, rfl, by decide +kernel, rfl, by decide +kernel, by decide +kernel⟩
abbrev s__law_triangle : Stmt := topS 29
def N__law_triangle : List Str := ["kind", "many", "rows", "n", "old", "line", "k", "ahead", "here"]
def p__law_triangle : List Str := ["kind", "many"]
theorem sc__law_triangle : FnScope N__law_triangle p__law_triangle (defScope s__law_triangle) := ⟨rfl, rfl, rfl, by decide +kernel, rfl, by decide +kernel, by decide +kernel⟩
abbrev s__law_is_unit : Stmt := topS 30
def N__law_is_unit : List Str := ["one", "other", "n", "k", "found", "at"]
def p__law_is_unit : List Str := ["one", "other"]
theorem sc__law_is_unit : FnScope N__law_is_unit p__law_is_unit (defScope s__law_is_unit) := ⟨rfl, rfl, rfl, by decide +kernel, rfl, by decide +kernel, by decide +kernel⟩
abbrev s__law_is_undone : Stmt := topS 31
def N__law_is_undone : List Str := ["kind", "many", "told", "own", "n", "line", "mate", "rows", "due", "k", "x"]
def p__law_is_undone : List Str := ["kind", "many"]
theorem sc__law_is_undone : FnScope N__law_is_undone p__law_is_undone (defScope s__law_is_undone) := ⟨rfl, rfl, rfl, by decide +kernel, rfl, by decide +kernel, by decide +kernel⟩
abbrev s__law_word : Stmt := topS 32
def N__law_word : List Str := ["call", "error"]
def p__law_word : List Str := ["call"]
theorem sc__law_word : FnScope N__law_word p__law_word (defScope s__law_word) := ⟨rfl, rfl, rfl, by decide +kernel, rfl, by decide +kernel, by decide +kernel⟩
abbrev s_law : Stmt := topS 33
def N_law : List Str := ["script", "hand", "kinds", "step", "kind", "many", "some", "mate", "odd", "bad", "words"]
def p_law : List Str := ["script"]
theorem sc_law : FnScope N_law p_law (defScope s_law) := ⟨rfl, rfl, rfl, by decide +kernel, rfl, by decide +kernel, by decide +kernel⟩
def sub : SubC := fun n x => ([("BadNumber", "BadNumber"), ("BadNumber", "TermError"), ("BadWord", "BadWord"), ("BadWord", "TermError")] : List (Str × Str)).contains (n, x)
structure Tx (K : PySem.W.Frag) (ec : Str → Option Addr) (mg : Str → Option Value) where
  a_is_integer : Addr
  d_is_integer : FuncData
  F_is_integer : Fun K "is_integer" "is_integer" s_is_integer a_is_integer d_is_integer
  m_is_integer : mg "is_integer" = some (.ref a_is_integer)
  b_is_integer : Binds K d_is_integer p_is_integer []
  a_is_within : Addr
  d_is_within : FuncData
  F_is_within : Fun K "is_within" "is_within" s_is_within a_is_within d_is_within
  m_is_within : mg "is_within" = some (.ref a_is_within)
  b_is_within : Binds K d_is_within p_is_within []
  a_check_kind : Addr
  d_check_kind : FuncData
  F_check_kind : Fun K "check_kind" "check_kind" s_check_kind a_check_kind d_check_kind
  m_check_kind : mg "check_kind" = some (.ref a_check_kind)
  b_check_kind : Binds K d_check_kind p_check_kind []
  a_made : Addr
  d_made : FuncData
  F_made : Fun K "made" "made" s_made a_made d_made
  m_made : mg "made" = some (.ref a_made)
  b_made : Binds K d_made p_made []
  a_next_row : Addr
  d_next_row : FuncData
  F_next_row : Fun K "next_row" "next_row" s_next_row a_next_row d_next_row
  m_next_row : mg "next_row" = some (.ref a_next_row)
  b_next_row : Binds K d_next_row p_next_row []
  a_row_of : Addr
  d_row_of : FuncData
  F_row_of : Fun K "row_of" "row_of" s_row_of a_row_of d_row_of
  m_row_of : mg "row_of" = some (.ref a_row_of)
  b_row_of : Binds K d_row_of p_row_of []
  a_row : Addr
  d_row : FuncData
  F_row : Fun K "row" "row" s_row a_row d_row
  m_row : mg "row" = some (.ref a_row)
  b_row : Binds K d_row p_row []
  a_item : Addr
  d_item : FuncData
  F_item : Fun K "item" "item" s_item a_item d_item
  m_item : mg "item" = some (.ref a_item)
  b_item : Binds K d_item p_item []
  a_turned_table : Addr
  d_turned_table : FuncData
  F_turned_table : Fun K "turned_table" "turned_table" s_turned_table a_turned_table d_turned_table
  m_turned_table : mg "turned_table" = some (.ref a_turned_table)
  b_turned_table : Binds K d_turned_table p_turned_table []
  a__law_hand : Addr
  d__law_hand : FuncData
  F__law_hand : Fun K "_law_hand" "_law_hand" s__law_hand a__law_hand d__law_hand
  m__law_hand : mg "_law_hand" = some (.ref a__law_hand)
  b__law_hand : Binds K d__law_hand p__law_hand []
  a__law_draw : Addr
  d__law_draw : FuncData
  F__law_draw : Fun K "_law_draw" "_law_draw" s__law_draw a__law_draw d__law_draw
  m__law_draw : mg "_law_draw" = some (.ref a__law_draw)
  b__law_draw : Binds K d__law_draw p__law_draw []
  a__law_some : Addr
  d__law_some : FuncData
  F__law_some : Fun K "_law_some" "_law_some" s__law_some a__law_some d__law_some
  m__law_some : mg "_law_some" = some (.ref a__law_some)
  b__law_some : Binds K d__law_some p__law_some []
  a__law_few : Addr
  d__law_few : FuncData
  F__law_few : Fun K "_law_few" "_law_few" s__law_few a__law_few d__law_few
  m__law_few : mg "_law_few" = some (.ref a__law_few)
  b__law_few : Binds K d__law_few p__law_few []
  a__law_is : Addr
  d__law_is : FuncData
  F__law_is : Fun K "_law_is" "_law_is" s__law_is a__law_is d__law_is
  m__law_is : mg "_law_is" = some (.ref a__law_is)
  b__law_is : Binds K d__law_is p__law_is []
  a__law_triangle : Addr
  d__law_triangle : FuncData
  F__law_triangle : Fun K "_law_triangle" "_law_triangle" s__law_triangle a__law_triangle d__law_triangle
  m__law_triangle : mg "_law_triangle" = some (.ref a__law_triangle)
  b__law_triangle : Binds K d__law_triangle p__law_triangle []
  a__law_is_unit : Addr
  d__law_is_unit : FuncData
  F__law_is_unit : Fun K "_law_is_unit" "_law_is_unit" s__law_is_unit a__law_is_unit d__law_is_unit
  m__law_is_unit : mg "_law_is_unit" = some (.ref a__law_is_unit)
  b__law_is_unit : Binds K d__law_is_unit p__law_is_unit []
  a__law_is_undone : Addr
  d__law_is_undone : FuncData
  F__law_is_undone : Fun K "_law_is_undone" "_law_is_undone" s__law_is_undone a__law_is_undone d__law_is_undone
  m__law_is_undone : mg "_law_is_undone" = some (.ref a__law_is_undone)
  b__law_is_undone : Binds K d__law_is_undone p__law_is_undone []
  a__law_word : Addr
  d__law_word : FuncData
  F__law_word : Fun K "_law_word" "_law_word" s__law_word a__law_word d__law_word
  m__law_word : mg "_law_word" = some (.ref a__law_word)
  b__law_word : Binds K d__law_word p__law_word []
  a_law : Addr
  d_law : FuncData
  F_law : Fun K "law" "law" s_law a_law d_law
  m_law : mg "law" = some (.ref a_law)
  b_law : Binds K d_law p_law []
  c_law : Addr
  P_law : Addr
  cd_law : d_law.code = .ref c_law
  u_KINDS : Addr
  t_KINDS : TupK K mg "KINDS" u_KINDS [.str (PySem.Str.ofString "choices"), .str (PySem.Str.ofString "parts"), .str (PySem.Str.ofString "cycles"), .str (PySem.Str.ofString "rises"), .str (PySem.Str.ofString "lists"), .str (PySem.Str.ofString "runs")]
  g_CHOICES : ∃ t, mg "CHOICES" = some (.str (PySem.Str.ofString "choices") t)
  g_CYCLES : ∃ t, mg "CYCLES" = some (.str (PySem.Str.ofString "cycles") t)
  g_LISTS : ∃ t, mg "LISTS" = some (.str (PySem.Str.ofString "lists") t)
  g_MOST_ROW : ∃ t, mg "MOST_ROW" = some (.int 200 t)
  g_PARTS : ∃ t, mg "PARTS" = some (.str (PySem.Str.ofString "parts") t)
  g_RISES : ∃ t, mg "RISES" = some (.str (PySem.Str.ofString "rises") t)
  n_abs : mg "abs" = none
  n_bool : mg "bool" = none
  n_enumerate : mg "enumerate" = none
  n_int : mg "int" = none
  n_isinstance : mg "isinstance" = none
  n_len : mg "len" = none
  n_list : mg "list" = none
  n_range : mg "range" = none
  n_repr : mg "repr" = none
  n_str : mg "str" = none
  n_sum : mg "sum" = none
  n_tuple : mg "tuple" = none
  C_BadNumber : Addr
  m_BadNumber : mg "BadNumber" = some (.ref C_BadNumber)
  C_BadWord : Addr
  m_BadWord : mg "BadWord" = some (.ref C_BadWord)
  C_TermError : Addr
  m_TermError : mg "TermError" = some (.ref C_TermError)
  x_BadNumber : ExcK K ec mg "BadNumber" C_BadNumber
  x_BadWord : ExcK K ec mg "BadWord" C_BadWord
  hs_TermError : ∀ n D, ec n = some D → PySem.W.exmOne K (.ref D) (.ref C_TermError) = some (sub n "TermError")
  ks_BadNumber : ∀ n D, ec n = some D → PySem.W.kitOne K (.ref D) (.ref C_BadNumber) = some (sub n "BadNumber")
  ks_BadWord : ∀ n D, ec n = some D → PySem.W.kitOne K (.ref D) (.ref C_BadWord) = some (sub n "BadWord")
  exc : ∀ n D, ec n = some D → ExcC K D
variable {G : Gd} {P : Program} {w : World} {mg : Str → Option Value} {base : Heap}
def w_is_integer_1 : WS := wRet (wAndV (wCB cIsi (wCons (wV 0) (wCons (wC (.ty "int")) (wNil)))) (wNotV (wCB cIsi (wCons (wV 0) (wCons (wC (.ty "bool")) (wNil))))))
theorem st_is_integer {x0 : PV} : startP N_is_integer [x0] = [some x0] := rfl
def W_is_integer : WS := wRet (wAndV (wCB cIsi (wCons (wV 0) (wCons (wC (.ty "int")) (wNil)))) (wNotV (wCB cIsi (wCons (wV 0) (wCons (wC (.ty "bool")) (wNil))))))
theorem eW_is_integer : W_is_integer = w_is_integer_1 := rfl
theorem j_is_integer {A : Around} {outer : List Env} {s : Shared} {H : Hp} {E : XK} {cdv : Value} (T : Tx G.K G.ec mg) (hgd : A.guards = some []) (hr : Room 0 (A.deeper (envOfC "is_integer" (defScope s_is_integer) s.heap.objs.size T.a_is_integer cdv))) :
    JSs G (cxOf (L2.CX P w) P w G.K mg base N_is_integer "is_integer" (defScope s_is_integer) T.a_is_integer cdv A outer s H E) (defBody s_is_integer) W_is_integer :=
  have hu := hr.units
  jss_one (js_ret (je_and (je_callB call_isi cl_isi rfl T.n_isinstance (by decide +kernel) (ja_cons (je_pv 0) (ja_cons (je_blt rfl T.n_int (by decide +kernel)) (ja_nil)))) (je_one (je_not (je_callB call_isi cl_isi rfl T.n_isinstance (by decide +kernel) (ja_cons (je_pv 0) (ja_cons (je_blt rfl T.n_bool (by decide +kernel)) (ja_nil))))))))
def sp_is_integer : PSp := fun xs S Q E => xs.length = 1 ∧ W_is_integer (PD.fnD Q E) (startP N_is_integer xs) S
theorem ok_is_integer (T : Tx G.K G.ec mg) : FnP G P w mg base 1 T.a_is_integer T.d_is_integer p_is_integer sp_is_integer :=
  fn_okD T.F_is_integer sc_is_integer (fun _ _ _ _ h => h.1) (fun cdv A outer s H E _ hgd hr => j_is_integer T hgd hr) fun _ _ _ _ h => h.2
def w_is_within_1 : WS := wRet (wAndV (wCall sp_is_integer (wCons (wV 0) (wNil))) (wChain oLe oLe (wV 1) (wV 0) (wV 2)))
theorem st_is_within {x0 x1 x2 : PV} : startP N_is_within [x0, x1, x2] = [some x0, some x1, some x2] := rfl
def W_is_within : WS := wRet (wAndV (wCall sp_is_integer (wCons (wV 0) (wNil))) (wChain oLe oLe (wV 1) (wV 0) (wV 2)))
theorem eW_is_within : W_is_within = w_is_within_1 := rfl
theorem j_is_within {A : Around} {outer : List Env} {s : Shared} {H : Hp} {E : XK} {cdv : Value} (T : Tx G.K G.ec mg) (hgd : A.guards = some []) (hr : Room 1 (A.deeper (envOfC "is_within" (defScope s_is_within) s.heap.objs.size T.a_is_within cdv))) :
    JSs G (cxOf (L2.CX P w) P w G.K mg base N_is_within "is_within" (defScope s_is_within) T.a_is_within cdv A outer s H E) (defBody s_is_within) W_is_within :=
  have hu := hr.units
  jss_one (js_ret (je_and (je_call (ok_is_integer T) hgd (hr.mono (by decide)) rfl T.m_is_integer T.F_is_integer.kp T.b_is_integer (ja_cons (je_pv 0) (ja_nil))) (je_one (je_lele (je_pv 1) (je_pv 0) (je_pv 2)))))
def sp_is_within : PSp := fun xs S Q E => xs.length = 3 ∧ W_is_within (PD.fnD Q E) (startP N_is_within xs) S
theorem ok_is_within (T : Tx G.K G.ec mg) : FnP G P w mg base 2 T.a_is_within T.d_is_within p_is_within sp_is_within :=
  fn_okD T.F_is_within sc_is_within (fun _ _ _ _ h => h.1) (fun cdv A outer s H E _ hgd hr => j_is_within T hgd hr) fun _ _ _ _ h => h.2
def w_check_kind_2 : WS := wRaise "BadWord"
def w_check_kind_1 : WS := wIf (wOr (wNot (wTru (wCB cIsi (wCons (wV 0) (wCons (wC (.ty "str")) (wNil)))))) (wTest (wOp (oInN true) (wV 0) (wC (.tup [.str (PySem.Str.ofString "choices"), .str (PySem.Str.ofString "parts"), .str (PySem.Str.ofString "cycles"), .str (PySem.Str.ofString "rises"), .str (PySem.Str.ofString "lists"), .str (PySem.Str.ofString "runs")]))))) (w_check_kind_2) (wNext)
theorem st_check_kind {x0 : PV} : startP N_check_kind [x0] = [some x0] := rfl
def W_check_kind : WS := wIf (wOr (wNot (wTru (wCB cIsi (wCons (wV 0) (wCons (wC (.ty "str")) (wNil)))))) (wTest (wOp (oInN true) (wV 0) (wC (.tup [.str (PySem.Str.ofString "choices"), .str (PySem.Str.ofString "parts"), .str (PySem.Str.ofString "cycles"), .str (PySem.Str.ofString "rises"), .str (PySem.Str.ofString "lists"), .str (PySem.Str.ofString "runs")]))))) (wRaise "BadWord") (wNext)
theorem eW_check_kind : W_check_kind = w_check_kind_1 := rfl
theorem j_check_kind {A : Around} {outer : List Env} {s : Shared} {H : Hp} {E : XK} {cdv : Value} (T : Tx G.K G.ec mg) (hgd : A.guards = some []) (hr : Room 0 (A.deeper (envOfC "check_kind" (defScope s_check_kind) s.heap.objs.size T.a_check_kind cdv))) :
    JSs G (cxOf (L2.CX P w) P w G.K mg base N_check_kind "check_kind" (defScope s_check_kind) T.a_check_kind cdv A outer s H E) (defBody s_check_kind) W_check_kind :=
  have hu := hr.units
  jss_one (js_if (jt_w (jw_or (jt_not (jt_tru (je_callB call_isi cl_isi rfl T.n_isinstance (by decide +kernel) (ja_cons (je_pv 0) (ja_cons (je_blt rfl T.n_str (by decide +kernel)) (ja_nil)))))) (jw_or1 (jt_nin (je_pv 0) (je_gtup rfl T.t_KINDS))))) (jss_one (js_raise rfl T.x_BadWord.t rfl)) (jss_nil))
def sp_check_kind : PSp := fun xs S Q E => xs.length = 1 ∧ W_check_kind (PD.fnD Q E) (startP N_check_kind xs) S
theorem ok_check_kind (T : Tx G.K G.ec mg) : FnP G P w mg base 1 T.a_check_kind T.d_check_kind p_check_kind sp_check_kind :=
  fn_okD T.F_check_kind sc_check_kind (fun _ _ _ _ h => h.1) (fun cdv A outer s H E _ hgd hr => j_check_kind T hgd hr) fun _ _ _ _ h => h.2
def w_made_2 : WS := wRet (wOp oAdd (wV 4) (wV 3))
def w_made_1 : WS := wIf (wTest (wOp oEq (wV 0) (wC (.str (PySem.Str.ofString "choices"))))) (w_made_2) (wNext)
def w_made_4 : WS := wRet (wOp oAdd (wV 4) (wOp oMul (wV 2) (wV 3)))
def w_made_3 : WS := wIf (wTest (wOp oEq (wV 0) (wC (.str (PySem.Str.ofString "parts"))))) (w_made_4) (wNext)
def w_made_6 : WS := wRet (wOp oAdd (wV 4) (wOp oMul (wOp oSub (wV 1) (wC (.int 1))) (wV 3)))
def w_made_5 : WS := wIf (wTest (wOp oEq (wV 0) (wC (.str (PySem.Str.ofString "cycles"))))) (w_made_6) (wNext)
def w_made_8 : WS := wRet (wOp oAdd (wV 4) (wOp oMul (wOp oAdd (wOp oSub (wV 1) (wC (.int 1))) (wV 2)) (wV 3)))
def w_made_7 : WS := wIf (wTest (wOp oEq (wV 0) (wC (.str (PySem.Str.ofString "lists"))))) (w_made_8) (wNext)
def w_made_10 : WS := wRet (wOp oAdd (wOp oMul (wOp oSub (wV 1) (wV 2)) (wV 4)) (wOp oMul (wOp oAdd (wV 2) (wC (.int 1))) (wV 3)))
def w_made_9 : WS := wIf (wTest (wOp oEq (wV 0) (wC (.str (PySem.Str.ofString "rises"))))) (w_made_10) (wNext)
def w_made_11 : WS := wRet (wOp oAdd (wOp oMul (wV 4) (wOp oSub (wOp oSub (wOp oMul (wC (.int 2)) (wV 1)) (wC (.int 1))) (wV 2))) (wOp oMul (wOp oAdd (wV 2) (wC (.int 1))) (wV 3)))
def b_made_9 : WS := wSeq (w_made_9) (w_made_11)
def b_made_7 : WS := wSeq (w_made_7) (b_made_9)
def b_made_5 : WS := wSeq (w_made_5) (b_made_7)
def b_made_3 : WS := wSeq (w_made_3) (b_made_5)
def b_made_1 : WS := wSeq (w_made_1) (b_made_3)
theorem st_made {x0 x1 x2 x3 x4 : PV} : startP N_made [x0, x1, x2, x3, x4] = [some x0, some x1, some x2, some x3, some x4] := rfl
def W_made : WS := wSeq (wIf (wTest (wOp oEq (wV 0) (wC (.str (PySem.Str.ofString "choices"))))) (wRet (wOp oAdd (wV 4) (wV 3))) (wNext)) (wSeq (wIf (wTest (wOp oEq (wV 0) (wC (.str (PySem.Str.ofString "parts"))))) (wRet (wOp oAdd (wV 4) (wOp oMul (wV 2) (wV 3)))) (wNext)) (wSeq (wIf (wTest (wOp oEq (wV 0) (wC (.str (PySem.Str.ofString "cycles"))))) (wRet (wOp oAdd (wV 4) (wOp oMul (wOp oSub (wV 1) (wC (.int 1))) (wV 3)))) (wNext)) (wSeq (wIf (wTest (wOp oEq (wV 0) (wC (.str (PySem.Str.ofString "lists"))))) (wRet (wOp oAdd (wV 4) (wOp oMul (wOp oAdd (wOp oSub (wV 1) (wC (.int 1))) (wV 2)) (wV 3)))) (wNext)) (wSeq (wIf (wTest (wOp oEq (wV 0) (wC (.str (PySem.Str.ofString "rises"))))) (wRet (wOp oAdd (wOp oMul (wOp oSub (wV 1) (wV 2)) (wV 4)) (wOp oMul (wOp oAdd (wV 2) (wC (.int 1))) (wV 3)))) (wNext)) (wRet (wOp oAdd (wOp oMul (wV 4) (wOp oSub (wOp oSub (wOp oMul (wC (.int 2)) (wV 1)) (wC (.int 1))) (wV 2))) (wOp oMul (wOp oAdd (wV 2) (wC (.int 1))) (wV 3))))))))
theorem eW_made : W_made = b_made_1 := rfl
theorem j_made {A : Around} {outer : List Env} {s : Shared} {H : Hp} {E : XK} {cdv : Value} (T : Tx G.K G.ec mg) (hgd : A.guards = some []) (hr : Room 0 (A.deeper (envOfC "made" (defScope s_made) s.heap.objs.size T.a_made cdv))) :
    JSs G (cxOf (L2.CX P w) P w G.K mg base N_made "made" (defScope s_made) T.a_made cdv A outer s H E) (defBody s_made) W_made :=
  have hu := hr.units
  jss_cons (js_if (jt_eq hu (je_pv 0) (je_gstr rfl T.g_CHOICES)) (jss_one (js_ret (je_add (je_pv 4) (je_pv 3)))) (jss_nil)) (jss_cons (js_if (jt_eq hu (je_pv 0) (je_gstr rfl T.g_PARTS)) (jss_one (js_ret (je_add (je_pv 4) (je_mul (je_pv 2) (je_pv 3))))) (jss_nil)) (jss_cons (js_if (jt_eq hu (je_pv 0) (je_gstr rfl T.g_CYCLES)) (jss_one (js_ret (je_add (je_pv 4) (je_mul (je_sub (je_pv 1) (je_int)) (je_pv 3))))) (jss_nil)) (jss_cons (js_if (jt_eq hu (je_pv 0) (je_gstr rfl T.g_LISTS)) (jss_one (js_ret (je_add (je_pv 4) (je_mul (je_add (je_sub (je_pv 1) (je_int)) (je_pv 2)) (je_pv 3))))) (jss_nil)) (jss_cons (js_if (jt_eq hu (je_pv 0) (je_gstr rfl T.g_RISES)) (jss_one (js_ret (je_add (je_mul (je_sub (je_pv 1) (je_pv 2)) (je_pv 4)) (je_mul (je_add (je_pv 2) (je_int)) (je_pv 3))))) (jss_nil)) (jss_one (js_ret (je_add (je_mul (je_pv 4) (je_sub (je_sub (je_mul (je_int) (je_pv 1)) (je_int)) (je_pv 2))) (je_mul (je_add (je_pv 2) (je_int)) (je_pv 3)))))))))
def sp_made : PSp := fun xs S Q E => xs.length = 5 ∧ W_made (PD.fnD Q E) (startP N_made xs) S
theorem ok_made (T : Tx G.K G.ec mg) : FnP G P w mg base 1 T.a_made T.d_made p_made sp_made :=
  fn_okD T.F_made sc_made (fun _ _ _ _ h => h.1) (fun cdv A outer s H E _ hgd hr => j_made T hgd hr) fun _ _ _ _ h => h.2
def w_next_row_1 : WS := wSet 3 (wLst (wNil))
def w_next_row_3 : WS := wSet 5 (wIfE (wTest (wOp oLt (wV 4) (wCB cLen (wCons (wV 1) (wNil))))) (wOp oIx (wV 1) (wV 4)) (wC (.int 0)))
def w_next_row_4 : WS := wSet 6 (wIfE (wTest (wOp oGt (wV 4) (wC (.int 0)))) (wOp oIx (wV 1) (wOp oSub (wV 4) (wC (.int 1)))) (wC (.int 0)))
def w_next_row_5 : WS := wExpr (wBM "list" mAppend (wV 3) (wCons (wCall sp_made (wCons (wV 0) (wCons (wV 2) (wCons (wV 4) (wCons (wV 5) (wCons (wV 6) (wNil))))))) (wNil)))
def b_next_row_4 : WS := wSeq (w_next_row_4) (w_next_row_5)
def b_next_row_3 : WS := wSeq (w_next_row_3) (b_next_row_4)
def w_next_row_2 : WS := wFor (iRange1 (wOp oAdd (wV 2) (wC (.int 1)))) (gN 4) (b_next_row_3)
def w_next_row_6 : WS := wRet (wV 3)
def b_next_row_2 : WS := wSeq (w_next_row_2) (w_next_row_6)
def b_next_row_1 : WS := wSeq (w_next_row_1) (b_next_row_2)
theorem st_next_row {x0 x1 x2 : PV} : startP N_next_row [x0, x1, x2] = [some x0, some x1, some x2, none, none, none, none] := rfl
def W_next_row : WS := wSeq (wSet 3 (wLst (wNil))) (wSeq (wFor (iRange1 (wOp oAdd (wV 2) (wC (.int 1)))) (gN 4) (wSeq (wSet 5 (wIfE (wTest (wOp oLt (wV 4) (wCB cLen (wCons (wV 1) (wNil))))) (wOp oIx (wV 1) (wV 4)) (wC (.int 0)))) (wSeq (wSet 6 (wIfE (wTest (wOp oGt (wV 4) (wC (.int 0)))) (wOp oIx (wV 1) (wOp oSub (wV 4) (wC (.int 1)))) (wC (.int 0)))) (wExpr (wBM "list" mAppend (wV 3) (wCons (wCall sp_made (wCons (wV 0) (wCons (wV 2) (wCons (wV 4) (wCons (wV 5) (wCons (wV 6) (wNil))))))) (wNil))))))) (wRet (wV 3)))
theorem eW_next_row : W_next_row = b_next_row_1 := rfl
theorem j_next_row {A : Around} {outer : List Env} {s : Shared} {H : Hp} {E : XK} {cdv : Value} (T : Tx G.K G.ec mg) (hgd : A.guards = some []) (hr : Room 1 (A.deeper (envOfC "next_row" (defScope s_next_row) s.heap.objs.size T.a_next_row cdv))) :
    JSs G (cxOf (L2.CX P w) P w G.K mg base N_next_row "next_row" (defScope s_next_row) T.a_next_row cdv A outer s H E) (defBody s_next_row) W_next_row :=
  have hu := hr.units
  jss_cons (js_set (i := 3) sc_next_row.nd rfl (.inl rfl) (je_lst (ja_nil))) (jss_cons (js_for (passes_of rfl) rfl (ji_range1 rfl T.n_range (je_add (je_pv 2) (je_int))) (jg_name sc_next_row.nd (i := 4) rfl (.inl rfl)) (jss_cons (js_set (i := 5) sc_next_row.nd rfl (.inl rfl) (je_if (jt_lt hu (je_pv 4) (je_callB call_len cl_len rfl T.n_len (by decide +kernel) (ja_cons (je_pv 1) (ja_nil)))) (je_ix (je_pv 1) (je_pv 4)) (je_int))) (jss_cons (js_set (i := 6) sc_next_row.nd rfl (.inl rfl) (je_if (jt_gt (je_pv 4) (je_int)) (je_ix (je_pv 1) (je_sub (je_pv 4) (je_int))) (je_int))) (jss_one (js_expr (je_append (je_pv 3) (ja_cons (je_call (ok_made T) hgd (hr.mono (by decide)) rfl T.m_made T.F_made.kp T.b_made (ja_cons (je_pv 0) (ja_cons (je_pv 2) (ja_cons (je_pv 4) (ja_cons (je_pv 5) (ja_cons (je_pv 6) (ja_nil))))))) (ja_nil)))))))) (jss_one (js_ret (je_pv 3))))
def sp_next_row : PSp := fun xs S Q E => xs.length = 3 ∧ W_next_row (PD.fnD Q E) (startP N_next_row xs) S
theorem ok_next_row (T : Tx G.K G.ec mg) : FnP G P w mg base 2 T.a_next_row T.d_next_row p_next_row sp_next_row :=
  fn_okD T.F_next_row sc_next_row (fun _ _ _ _ h => h.1) (fun cdv A outer s H E _ hgd hr => j_next_row T hgd hr) fun _ _ _ _ h => h.2
def w_row_of_1 : WS := wSet 2 (wLst (wCons (wC (.int 1)) (wNil)))
def w_row_of_3 : WS := wSet 2 (wCall sp_next_row (wCons (wV 0) (wCons (wV 2) (wCons (wV 3) (wNil)))))
def w_row_of_2 : WS := wFor (iRange2 (wC (.int 1)) (wOp oAdd (wV 1) (wC (.int 1)))) (gN 3) (w_row_of_3)
def w_row_of_4 : WS := wRet (wV 2)
def b_row_of_2 : WS := wSeq (w_row_of_2) (w_row_of_4)
def b_row_of_1 : WS := wSeq (w_row_of_1) (b_row_of_2)
theorem st_row_of {x0 x1 : PV} : startP N_row_of [x0, x1] = [some x0, some x1, none, none] := rfl
def W_row_of : WS := wSeq (wSet 2 (wLst (wCons (wC (.int 1)) (wNil)))) (wSeq (wFor (iRange2 (wC (.int 1)) (wOp oAdd (wV 1) (wC (.int 1)))) (gN 3) (wSet 2 (wCall sp_next_row (wCons (wV 0) (wCons (wV 2) (wCons (wV 3) (wNil))))))) (wRet (wV 2)))
theorem eW_row_of : W_row_of = b_row_of_1 := rfl
theorem j_row_of {A : Around} {outer : List Env} {s : Shared} {H : Hp} {E : XK} {cdv : Value} (T : Tx G.K G.ec mg) (hgd : A.guards = some []) (hr : Room 2 (A.deeper (envOfC "row_of" (defScope s_row_of) s.heap.objs.size T.a_row_of cdv))) :
    JSs G (cxOf (L2.CX P w) P w G.K mg base N_row_of "row_of" (defScope s_row_of) T.a_row_of cdv A outer s H E) (defBody s_row_of) W_row_of :=
  have hu := hr.units
  jss_cons (js_set (i := 2) sc_row_of.nd rfl (.inl rfl) (je_lst (ja_cons (je_int) (ja_nil)))) (jss_cons (js_for (passes_of rfl) rfl (ji_range2 rfl T.n_range (je_int) (je_add (je_pv 1) (je_int))) (jg_name sc_row_of.nd (i := 3) rfl (.inl rfl)) (jss_one (js_set (i := 2) sc_row_of.nd rfl (.inl rfl) (je_call (ok_next_row T) hgd (hr.mono (by decide)) rfl T.m_next_row T.F_next_row.kp T.b_next_row (ja_cons (je_pv 0) (ja_cons (je_pv 2) (ja_cons (je_pv 3) (ja_nil)))))))) (jss_one (js_ret (je_pv 2))))
def sp_row_of : PSp := fun xs S Q E => xs.length = 2 ∧ W_row_of (PD.fnD Q E) (startP N_row_of xs) S
theorem ok_row_of (T : Tx G.K G.ec mg) : FnP G P w mg base 3 T.a_row_of T.d_row_of p_row_of sp_row_of :=
  fn_okD T.F_row_of sc_row_of (fun _ _ _ _ h => h.1) (fun cdv A outer s H E _ hgd hr => j_row_of T hgd hr) fun _ _ _ _ h => h.2
def w_row_1 : WS := wExpr (wCall sp_check_kind (wCons (wV 0) (wNil)))
def w_row_3 : WS := wRaise "BadNumber"
def w_row_2 : WS := wIf (wNot (wTru (wCall sp_is_within (wCons (wV 1) (wCons (wC (.int 0)) (wCons (wC (.int 200)) (wNil))))))) (w_row_3) (wNext)
def w_row_4 : WS := wRet (wCB cTuple (wCons (wCall sp_row_of (wCons (wV 0) (wCons (wV 1) (wNil)))) (wNil)))
def b_row_2 : WS := wSeq (w_row_2) (w_row_4)
def b_row_1 : WS := wSeq (w_row_1) (b_row_2)
theorem st_row {x0 x1 : PV} : startP N_row [x0, x1] = [some x0, some x1] := rfl
def W_row : WS := wSeq (wExpr (wCall sp_check_kind (wCons (wV 0) (wNil)))) (wSeq (wIf (wNot (wTru (wCall sp_is_within (wCons (wV 1) (wCons (wC (.int 0)) (wCons (wC (.int 200)) (wNil))))))) (wRaise "BadNumber") (wNext)) (wRet (wCB cTuple (wCons (wCall sp_row_of (wCons (wV 0) (wCons (wV 1) (wNil)))) (wNil)))))
theorem eW_row : W_row = b_row_1 := rfl
theorem j_row {A : Around} {outer : List Env} {s : Shared} {H : Hp} {E : XK} {cdv : Value} (T : Tx G.K G.ec mg) (hgd : A.guards = some []) (hr : Room 3 (A.deeper (envOfC "row" (defScope s_row) s.heap.objs.size T.a_row cdv))) :
    JSs G (cxOf (L2.CX P w) P w G.K mg base N_row "row" (defScope s_row) T.a_row cdv A outer s H E) (defBody s_row) W_row :=
  have hu := hr.units
  jss_cons (js_expr (je_call (ok_check_kind T) hgd (hr.mono (by decide)) rfl T.m_check_kind T.F_check_kind.kp T.b_check_kind (ja_cons (je_pv 0) (ja_nil)))) (jss_cons (js_if (jt_not (jt_tru (je_call (ok_is_within T) hgd (hr.mono (by decide)) rfl T.m_is_within T.F_is_within.kp T.b_is_within (ja_cons (je_pv 1) (ja_cons (je_int) (ja_cons (je_gint rfl T.g_MOST_ROW) (ja_nil))))))) (jss_one (js_raise rfl T.x_BadNumber.t rfl)) (jss_nil)) (jss_one (js_ret (je_callTy call_tuple_of cl_tuple rfl T.n_tuple (by decide +kernel) (ja_cons (je_call (ok_row_of T) hgd (hr.mono (by decide)) rfl T.m_row_of T.F_row_of.kp T.b_row_of (ja_cons (je_pv 0) (ja_cons (je_pv 1) (ja_nil)))) (ja_nil))))))
def sp_row : PSp := fun xs S Q E => xs.length = 2 ∧ W_row (PD.fnD Q E) (startP N_row xs) S
theorem ok_row (T : Tx G.K G.ec mg) : FnP G P w mg base 4 T.a_row T.d_row p_row sp_row :=
  fn_okD T.F_row sc_row (fun _ _ _ _ h => h.1) (fun cdv A outer s H E _ hgd hr => j_row T hgd hr) fun _ _ _ _ h => h.2
def w_item_1 : WS := wExpr (wCall sp_check_kind (wCons (wV 0) (wNil)))
def w_item_3 : WS := wRaise "BadNumber"
def w_item_2 : WS := wIf (wOr (wNot (wTru (wCall sp_is_within (wCons (wV 1) (wCons (wC (.int 0)) (wCons (wC (.int 200)) (wNil))))))) (wOr (wNot (wTru (wCall sp_is_integer (wCons (wV 2) (wNil))))) (wTest (wOp oLt (wV 2) (wC (.int 0)))))) (w_item_3) (wNext)
def w_item_4 : WS := wSet 3 (wCall sp_row_of (wCons (wV 0) (wCons (wV 1) (wNil))))
def w_item_5 : WS := wRet (wIfE (wTest (wOp oLt (wV 2) (wCB cLen (wCons (wV 3) (wNil))))) (wOp oIx (wV 3) (wV 2)) (wC (.int 0)))
def b_item_4 : WS := wSeq (w_item_4) (w_item_5)
def b_item_2 : WS := wSeq (w_item_2) (b_item_4)
def b_item_1 : WS := wSeq (w_item_1) (b_item_2)
theorem st_item {x0 x1 x2 : PV} : startP N_item [x0, x1, x2] = [some x0, some x1, some x2, none] := rfl
def W_item : WS := wSeq (wExpr (wCall sp_check_kind (wCons (wV 0) (wNil)))) (wSeq (wIf (wOr (wNot (wTru (wCall sp_is_within (wCons (wV 1) (wCons (wC (.int 0)) (wCons (wC (.int 200)) (wNil))))))) (wOr (wNot (wTru (wCall sp_is_integer (wCons (wV 2) (wNil))))) (wTest (wOp oLt (wV 2) (wC (.int 0)))))) (wRaise "BadNumber") (wNext)) (wSeq (wSet 3 (wCall sp_row_of (wCons (wV 0) (wCons (wV 1) (wNil))))) (wRet (wIfE (wTest (wOp oLt (wV 2) (wCB cLen (wCons (wV 3) (wNil))))) (wOp oIx (wV 3) (wV 2)) (wC (.int 0))))))
theorem eW_item : W_item = b_item_1 := rfl
theorem j_item {A : Around} {outer : List Env} {s : Shared} {H : Hp} {E : XK} {cdv : Value} (T : Tx G.K G.ec mg) (hgd : A.guards = some []) (hr : Room 3 (A.deeper (envOfC "item" (defScope s_item) s.heap.objs.size T.a_item cdv))) :
    JSs G (cxOf (L2.CX P w) P w G.K mg base N_item "item" (defScope s_item) T.a_item cdv A outer s H E) (defBody s_item) W_item :=
  have hu := hr.units
  jss_cons (js_expr (je_call (ok_check_kind T) hgd (hr.mono (by decide)) rfl T.m_check_kind T.F_check_kind.kp T.b_check_kind (ja_cons (je_pv 0) (ja_nil)))) (jss_cons (js_if (jt_w (jw_or (jt_not (jt_tru (je_call (ok_is_within T) hgd (hr.mono (by decide)) rfl T.m_is_within T.F_is_within.kp T.b_is_within (ja_cons (je_pv 1) (ja_cons (je_int) (ja_cons (je_gint rfl T.g_MOST_ROW) (ja_nil))))))) (jw_or (jt_not (jt_tru (je_call (ok_is_integer T) hgd (hr.mono (by decide)) rfl T.m_is_integer T.F_is_integer.kp T.b_is_integer (ja_cons (je_pv 2) (ja_nil))))) (jw_or1 (jt_lt hu (je_pv 2) (je_int)))))) (jss_one (js_raise rfl T.x_BadNumber.t rfl)) (jss_nil)) (jss_cons (js_set (i := 3) sc_item.nd rfl (.inl rfl) (je_call (ok_row_of T) hgd (hr.mono (by decide)) rfl T.m_row_of T.F_row_of.kp T.b_row_of (ja_cons (je_pv 0) (ja_cons (je_pv 1) (ja_nil))))) (jss_one (js_ret (je_if (jt_lt hu (je_pv 2) (je_callB call_len cl_len rfl T.n_len (by decide +kernel) (ja_cons (je_pv 3) (ja_nil)))) (je_ix (je_pv 3) (je_pv 2)) (je_int))))))
def sp_item : PSp := fun xs S Q E => xs.length = 3 ∧ W_item (PD.fnD Q E) (startP N_item xs) S
theorem ok_item (T : Tx G.K G.ec mg) : FnP G P w mg base 4 T.a_item T.d_item p_item sp_item :=
  fn_okD T.F_item sc_item (fun _ _ _ _ h => h.1) (fun cdv A outer s H E _ hgd hr => j_item T hgd hr) fun _ _ _ _ h => h.2
def w_turned_table_2 : WS := wRaise "BadWord"
def w_turned_table_1 : WS := wIf (wOr (wNot (wTru (wCB cIsi (wCons (wV 0) (wCons (wC (.ty "str")) (wNil)))))) (wTest (wOp (oInN true) (wV 0) (wTup (wCons (wC (.str (PySem.Str.ofString "choices"))) (wCons (wC (.str (PySem.Str.ofString "parts"))) (wCons (wC (.str (PySem.Str.ofString "cycles"))) (wCons (wC (.str (PySem.Str.ofString "lists"))) (wNil))))))))) (w_turned_table_2) (wNext)
def w_turned_table_4 : WS := wRaise "BadNumber"
def w_turned_table_3 : WS := wIf (wNot (wTru (wCall sp_is_within (wCons (wV 1) (wCons (wC (.int 0)) (wCons (wC (.int 30)) (wNil))))))) (w_turned_table_4) (wNext)
def w_turned_table_5 : WS := wSet 2 (wOp oIxD (wDict (((wC (.str (PySem.Str.ofString "choices"))), (wC (.str (PySem.Str.ofString "choices")))) :: ((wC (.str (PySem.Str.ofString "parts"))), (wC (.str (PySem.Str.ofString "cycles")))) :: ((wC (.str (PySem.Str.ofString "cycles"))), (wC (.str (PySem.Str.ofString "parts")))) :: ((wC (.str (PySem.Str.ofString "lists"))), (wC (.str (PySem.Str.ofString "lists")))) :: [])) (wV 0))
def w_turned_table_6 : WS := wSet 3 (wLst (wNil))
def w_turned_table_8 : WS := wSet 5 (wCall sp_row_of (wCons (wV 2) (wCons (wV 4) (wNil))))
def w_turned_table_9 : WS := wExpr (wBM "list" mAppend (wV 3) (wCons (wCB cTuple (wCons (wLc (iEnumm (wCons (wV 5) (wNil))) (gTup' 2 (gCons' (gN 6) (gCons' (gN 7) (gNil')))) wYes (wIfE (wTest (wOp oEq (wOp oMod (wOp oSub (wV 4) (wV 6)) (wC (.int 2))) (wC (.int 1)))) (wUn oNeg (wV 7)) (wV 7)) [6, 7]) (wNil))) (wNil)))
def b_turned_table_8 : WS := wSeq (w_turned_table_8) (w_turned_table_9)
def w_turned_table_7 : WS := wFor (iRange1 (wOp oAdd (wV 1) (wC (.int 1)))) (gN 4) (b_turned_table_8)
def w_turned_table_10 : WS := wRet (wCB cTuple (wCons (wV 3) (wNil)))
def b_turned_table_7 : WS := wSeq (w_turned_table_7) (w_turned_table_10)
def b_turned_table_6 : WS := wSeq (w_turned_table_6) (b_turned_table_7)
def b_turned_table_5 : WS := wSeq (w_turned_table_5) (b_turned_table_6)
def b_turned_table_3 : WS := wSeq (w_turned_table_3) (b_turned_table_5)
def b_turned_table_1 : WS := wSeq (w_turned_table_1) (b_turned_table_3)
theorem st_turned_table {x0 x1 : PV} : startP N_turned_table [x0, x1] = [some x0, some x1, none, none, none, none, none, none] := rfl
def W_turned_table : WS := wSeq (wIf (wOr (wNot (wTru (wCB cIsi (wCons (wV 0) (wCons (wC (.ty "str")) (wNil)))))) (wTest (wOp (oInN true) (wV 0) (wTup (wCons (wC (.str (PySem.Str.ofString "choices"))) (wCons (wC (.str (PySem.Str.ofString "parts"))) (wCons (wC (.str (PySem.Str.ofString "cycles"))) (wCons (wC (.str (PySem.Str.ofString "lists"))) (wNil))))))))) (wRaise "BadWord") (wNext)) (wSeq (wIf (wNot (wTru (wCall sp_is_within (wCons (wV 1) (wCons (wC (.int 0)) (wCons (wC (.int 30)) (wNil))))))) (wRaise "BadNumber") (wNext)) (wSeq (wSet 2 (wOp oIxD (wDict (((wC (.str (PySem.Str.ofString "choices"))), (wC (.str (PySem.Str.ofString "choices")))) :: ((wC (.str (PySem.Str.ofString "parts"))), (wC (.str (PySem.Str.ofString "cycles")))) :: ((wC (.str (PySem.Str.ofString "cycles"))), (wC (.str (PySem.Str.ofString "parts")))) :: ((wC (.str (PySem.Str.ofString "lists"))), (wC (.str (PySem.Str.ofString "lists")))) :: [])) (wV 0))) (wSeq (wSet 3 (wLst (wNil))) (wSeq (wFor (iRange1 (wOp oAdd (wV 1) (wC (.int 1)))) (gN 4) (wSeq (wSet 5 (wCall sp_row_of (wCons (wV 2) (wCons (wV 4) (wNil))))) (wExpr (wBM "list" mAppend (wV 3) (wCons (wCB cTuple (wCons (wLc (iEnumm (wCons (wV 5) (wNil))) (gTup' 2 (gCons' (gN 6) (gCons' (gN 7) (gNil')))) wYes (wIfE (wTest (wOp oEq (wOp oMod (wOp oSub (wV 4) (wV 6)) (wC (.int 2))) (wC (.int 1)))) (wUn oNeg (wV 7)) (wV 7)) [6, 7]) (wNil))) (wNil)))))) (wRet (wCB cTuple (wCons (wV 3) (wNil))))))))
theorem eW_turned_table : W_turned_table = b_turned_table_1 := rfl
theorem j_turned_table {A : Around} {outer : List Env} {s : Shared} {H : Hp} {E : XK} {cdv : Value} (T : Tx G.K G.ec mg) (hgd : A.guards = some []) (hr : Room 3 (A.deeper (envOfC "turned_table" (defScope s_turned_table) s.heap.objs.size T.a_turned_table cdv))) :
    JSs G (cxOf (L2.CX P w) P w G.K mg base N_turned_table "turned_table" (defScope s_turned_table) T.a_turned_table cdv A outer s H E) (defBody s_turned_table) W_turned_table :=
  have hu := hr.units
  jss_cons (js_if (jt_w (jw_or (jt_not (jt_tru (je_callB call_isi cl_isi rfl T.n_isinstance (by decide +kernel) (ja_cons (je_pv 0) (ja_cons (je_blt rfl T.n_str (by decide +kernel)) (ja_nil)))))) (jw_or1 (jt_nin (je_pv 0) (je_tup (ja_cons (je_gstr rfl T.g_CHOICES) (ja_cons (je_gstr rfl T.g_PARTS) (ja_cons (je_gstr rfl T.g_CYCLES) (ja_cons (je_gstr rfl T.g_LISTS) (ja_nil)))))))))) (jss_one (js_raise rfl T.x_BadWord.t rfl)) (jss_nil)) (jss_cons (js_if (jt_not (jt_tru (je_call (ok_is_within T) hgd (hr.mono (by decide)) rfl T.m_is_within T.F_is_within.kp T.b_is_within (ja_cons (je_pv 1) (ja_cons (je_int) (ja_cons (je_int) (ja_nil))))))) (jss_one (js_raise rfl T.x_BadNumber.t rfl)) (jss_nil)) (jss_cons (js_set (i := 2) sc_turned_table.nd rfl (.inl rfl) (je_ixD hu (je_dict (.cons (je_gstr rfl T.g_CHOICES) (je_gstr rfl T.g_CHOICES) (.cons (je_gstr rfl T.g_PARTS) (je_gstr rfl T.g_CYCLES) (.cons (je_gstr rfl T.g_CYCLES) (je_gstr rfl T.g_PARTS) (.cons (je_gstr rfl T.g_LISTS) (je_gstr rfl T.g_LISTS) (.nil)))))) (je_pv 0))) (jss_cons (js_set (i := 3) sc_turned_table.nd rfl (.inl rfl) (je_lst (ja_nil))) (jss_cons (js_for (passes_of rfl) rfl (ji_range1 rfl T.n_range (je_add (je_pv 1) (je_int))) (jg_name sc_turned_table.nd (i := 4) rfl (.inr rfl)) (jss_cons (js_set (i := 5) sc_turned_table.nd rfl (.inl rfl) (je_call (ok_row_of T) hgd (hr.mono (by decide)) rfl T.m_row_of T.F_row_of.kp T.b_row_of (ja_cons (je_pv 2) (ja_cons (je_pv 4) (ja_nil))))) (jss_one (js_expr (je_append (je_pv 3) (ja_cons (je_callTy call_tuple_of cl_tuple rfl T.n_tuple (by decide +kernel) (ja_cons (je_lc0 (own := [("k", 6), ("one", 7)]) rfl sc_turned_table.nd (ji_enum rfl T.n_enumerate (ja_cons (je_pv 5) (ja_nil))) (blkOk_by (N := N_turned_table) (sc := defScope s_turned_table) (by decide +kernel)) (fun _ _ _ _ _ => jg_tup rfl (jgs_cons (jg_name sc_turned_table.nd (i := 6) rfl (.inl rfl)) (jgs_cons (jg_name sc_turned_table.nd (i := 7) rfl (.inl rfl)) (jgs_nil)))) (fun _ _ _ _ _ => je_if (jt_eq hu (je_mod (je_sub (je_pv 4) (je_pv 6)) (je_int)) (je_int)) (je_neg (je_pv 7)) (je_pv 7))) (ja_nil))) (ja_nil))))))) (jss_one (js_ret (je_callTy call_tuple_of cl_tuple rfl T.n_tuple (by decide +kernel) (ja_cons (je_pv 3) (ja_nil)))))))))
def sp_turned_table : PSp := fun xs S Q E => xs.length = 2 ∧ W_turned_table (PD.fnD Q E) (startP N_turned_table xs) S
theorem ok_turned_table (T : Tx G.K G.ec mg) : FnP G P w mg base 4 T.a_turned_table T.d_turned_table p_turned_table sp_turned_table :=
  fn_okD T.F_turned_table sc_turned_table (fun _ _ _ _ h => h.1) (fun cdv A outer s H E _ hgd hr => j_turned_table T hgd hr) fun _ _ _ _ h => h.2
def w__law_hand_1 : WS := wSet 1 (wLc (iSeq (wSl (wV 0) (wNoP) (wPart (wC (.int 63))))) (gN 2) wYes (wOp oMod (wCB cInt (wCons (wCB cAbs (wCons (wCB cInt (wCons (wV 2) (wNil))) (wNil))) (wNil))) (wOp oPow (wC (.int 10)) (wC (.int 36)))) [2])
def w__law_hand_2 : WS := wRet (wLst (wCons (wV 1) (wCons (wC (.int 0)) (wCons (wC (.int 0)) (wCons (wOp oAdd (wC (.int 2203)) (wOp oMul (wC (.int 17)) (wCB cLen (wCons (wV 1) (wNil))))) (wCons (wC (.int 0)) (wNil)))))))
def b__law_hand_1 : WS := wSeq (w__law_hand_1) (w__law_hand_2)
theorem st__law_hand {x0 : PV} : startP N__law_hand [x0] = [some x0, none, none] := rfl
def W__law_hand : WS := wSeq (wSet 1 (wLc (iSeq (wSl (wV 0) (wNoP) (wPart (wC (.int 63))))) (gN 2) wYes (wOp oMod (wCB cInt (wCons (wCB cAbs (wCons (wCB cInt (wCons (wV 2) (wNil))) (wNil))) (wNil))) (wOp oPow (wC (.int 10)) (wC (.int 36)))) [2])) (wRet (wLst (wCons (wV 1) (wCons (wC (.int 0)) (wCons (wC (.int 0)) (wCons (wOp oAdd (wC (.int 2203)) (wOp oMul (wC (.int 17)) (wCB cLen (wCons (wV 1) (wNil))))) (wCons (wC (.int 0)) (wNil))))))))
theorem eW__law_hand : W__law_hand = b__law_hand_1 := rfl
theorem j__law_hand {A : Around} {outer : List Env} {s : Shared} {H : Hp} {E : XK} {cdv : Value} (T : Tx G.K G.ec mg) (hgd : A.guards = some []) (hr : Room 0 (A.deeper (envOfC "_law_hand" (defScope s__law_hand) s.heap.objs.size T.a__law_hand cdv))) :
    JSs G (cxOf (L2.CX P w) P w G.K mg base N__law_hand "_law_hand" (defScope s__law_hand) T.a__law_hand cdv A outer s H E) (defBody s__law_hand) W__law_hand :=
  have hu := hr.units
  jss_cons (js_setLc0 (own := [("cell", 2)]) rfl sc__law_hand.nd (i := 1) rfl rfl (sw_true rfl rfl rfl (by decide +kernel)) (ji_seq (je_sl (je_pv 0) (.no) (.some (je_int)))) (blkOk_by (N := N__law_hand) (sc := defScope s__law_hand) (by decide +kernel)) (fun _ _ _ _ _ => jg_name sc__law_hand.nd (i := 2) rfl (.inl rfl)) (fun _ _ _ _ _ => je_mod (je_callTy call_int1 cl_int rfl T.n_int (by decide +kernel) (ja_cons (je_callB call_abs cl_abs rfl T.n_abs (by decide +kernel) (ja_cons (je_callTy call_int1 cl_int rfl T.n_int (by decide +kernel) (ja_cons (je_pv 2) (ja_nil))) (ja_nil))) (ja_nil))) (je_pow (je_int) (je_int)))) (jss_one (js_ret (je_lst (ja_cons (je_pv 1) (ja_cons (je_int) (ja_cons (je_int) (ja_cons (je_add (je_int) (je_mul (je_int) (je_callB call_len cl_len rfl T.n_len (by decide +kernel) (ja_cons (je_pv 1) (ja_nil))))) (ja_cons (je_int) (ja_nil)))))))))
def sp__law_hand0 : PSp := fun xs S Q E => xs.length = 1 ∧ W__law_hand (PD.fnD Q E) (startP N__law_hand xs) S
theorem ok__law_hand0 (T : Tx G.K G.ec mg) : FnP G P w mg base 1 T.a__law_hand T.d__law_hand p__law_hand sp__law_hand0 :=
  fn_okD T.F__law_hand sc__law_hand (fun _ _ _ _ h => h.1) (fun cdv A outer s H E _ hgd hr => j__law_hand T hgd hr) fun _ _ _ _ h => h.2
theorem handP : HandP sp__law_hand0 := ⟨fun a ns S Q E hS fin => by
  refine ⟨rfl, ?_⟩
  rw [eW__law_hand, st__law_hand]
  refine s_seq (s_set ?_)
  simp only [wV, wC, wOp, wUn, oI, oAdd, oSub, oMul, oFdiv, oMod, oPow, oNeg, oLt, oLe, oGt, oGe, oEqN, oIsN, isNon, wTest, wChain, wTru, oTru, wNot, wAnd, wOr, wAndV, wOrV, wNotV, wIfE, wNil, wCons, wTup, wLst, wCB, cLen, cInt, cAbs, cMax2, cMin2, cSum, cSum2, cMaxL, cMinL, cAll, cAny, cList, cTuple, cStr, tyN, cIsi, cReprB, oIx, wNoP, wPart, oSl, wSl, oRevL, wBM, wBM0, tyP, mAppend, mExtend, mPop, mCount, mIndex, wCall, gN, gNil', gCons', gTup', gSub', oSet, iSeq, oIter, iRange1, iRange2, wLc, wipeP, wYes, wIsE, fnD_rt, fnD_ex, fnD_nx, List.getElem?_cons_zero, List.getElem?_cons_succ, List.set_cons_zero, List.set_cons_succ, Bool.false_xor, Bool.true_xor, if_true, if_false, ite_true, ite_false, reduceIte, Bool.false_eq_true, decide_eq_true_eq, decide_true, decide_false, Bool.not_true, Bool.not_false, Bool.not_eq_true', and_true, true_and]
  refine ⟨_, hS, fun g hg => ?_⟩
  have eg : cutP (ns.map PV.int) none (some 63) = (ns.take 63).map PV.int := by
    rw [show (63 : Int) = ((63 : Nat) : Int) from rfl, cut_hi, List.map_take]
  rw [eg]
  refine ⟨_, .inl supd_same, ?_⟩
  have sub0 : Sub S (supd S g (.lst ((ns.take 63).map PV.int))) := .new hg nofun
  refine lc_map (fun S' => S' = supd S g (.lst ((ns.take 63).map PV.int))) (ns.take 63) PV.int (fun i => PV.int ((i.natAbs : Int) % 10 ^ 36)) (Nat.le_trans (List.length_take_le _ _) (by decide)) (fun S' e => by rw [e]; exact .inl supd_same) (fun x _ S' C e k => ?_) (fun S' e D hD => ?_) rfl
  · simp only [wV, wC, wOp, wUn, oI, oAdd, oSub, oMul, oFdiv, oMod, oPow, oNeg, oLt, oLe, oGt, oGe, oEqN, oIsN, isNon, wTest, wChain, wTru, oTru, wNot, wAnd, wOr, wAndV, wOrV, wNotV, wIfE, wNil, wCons, wTup, wLst, wCB, cLen, cInt, cAbs, cMax2, cMin2, cSum, cSum2, cMaxL, cMinL, cAll, cAny, cList, cTuple, cStr, tyN, cIsi, cReprB, oIx, wNoP, wPart, oSl, wSl, oRevL, wBM, wBM0, tyP, mAppend, mExtend, mPop, mCount, mIndex, wCall, gN, gNil', gCons', gTup', gSub', oSet, iSeq, oIter, iRange1, iRange2, wLc, wipeP, wYes, wIsE, fnD_rt, fnD_ex, fnD_nx, List.getElem?_cons_zero, List.getElem?_cons_succ, List.set_cons_zero, List.set_cons_succ, Bool.false_xor, Bool.true_xor, if_true, if_false, ite_true, ite_false, reduceIte, Bool.false_eq_true, decide_eq_true_eq, decide_true, decide_false, Bool.not_true, Bool.not_false, Bool.not_eq_true', and_true, true_and]
    exact ⟨⟨by decide, by decide, by decide⟩, by decide, k _ e⟩
  · subst e
    refine s_ret ?_
    simp only [wV, wC, wOp, wUn, oI, oAdd, oSub, oMul, oFdiv, oMod, oPow, oNeg, oLt, oLe, oGt, oGe, oEqN, oIsN, isNon, wTest, wChain, wTru, oTru, wNot, wAnd, wOr, wAndV, wOrV, wNotV, wIfE, wNil, wCons, wTup, wLst, wCB, cLen, cInt, cAbs, cMax2, cMin2, cSum, cSum2, cMaxL, cMinL, cAll, cAny, cList, cTuple, cStr, tyN, cIsi, cReprB, oIx, wNoP, wPart, oSl, wSl, oRevL, wBM, wBM0, tyP, mAppend, mExtend, mPop, mCount, mIndex, wCall, gN, gNil', gCons', gTup', gSub', oSet, iSeq, oIter, iRange1, iRange2, wLc, wipeP, wYes, wIsE, fnD_rt, fnD_ex, fnD_nx, List.getElem?_cons_zero, List.getElem?_cons_succ, List.set_cons_zero, List.set_cons_succ, Bool.false_xor, Bool.true_xor, if_true, if_false, ite_true, ite_false, reduceIte, Bool.false_eq_true, decide_eq_true_eq, decide_true, decide_false, Bool.not_true, Bool.not_false, Bool.not_eq_true', and_true, true_and]
    refine ⟨_, .inl supd_same, CMl (by decide), (by decide : 5 ≤ sizeLine), fun h hh => ?_⟩
    have hDS := sub0.none' hD
    have hhD : h ≠ D := fun z => by rw [z, supd_same] at hh; cases hh
    have hhS : S h = none := sub0.none' (by rw [supd_ne hhD] at hh; exact hh)
    have ee := map_int (ns.take 63) (fun i : Int => (i.natAbs : Int) % 10 ^ 36)
    rw [ee] at hh ⊢
    have q := fin h D ((ns.take 63).map fun i : Int => (i.natAbs : Int) % 10 ^ 36) 0 0 (2203 + 17 * ((((ns.take 63).map fun i : Int => (i.natAbs : Int) % 10 ^ 36).map PV.int).length : Nat)) 0 hhD hhS hDS (fun x hx => ?_) (by decide) (by decide) ?_ (by decide) ?_
    · exact dn_sub ((sub0.both (q := D)).both (q := h)) q
    · obtain ⟨i, _, rfl⟩ := List.mem_map.mp hx
      exact Int.emod_nonneg _ (by decide)
    · omega
    · rw [List.length_map]; exact List.length_take_le _ _⟩

def sp__law_hand : PSp := spHand
theorem ok__law_hand (T : Tx G.K G.ec mg) : FnP G P w mg base 1 T.a__law_hand T.d__law_hand p__law_hand sp__law_hand := hand_ok (ok__law_hand0 T) handP
def w__law_draw_2 : WS := wSet 2 (wOp oIx (wOp oIx (wV 0) (wC (.int 0))) (wOp oIx (wV 0) (wC (.int 1))))
def w__law_draw_3 : WS := wAsg (wOp oAdd (wOp oIx (wV 0) (wC (.int 1))) (wC (.int 1))) (gSub' (wV 0) (wC (.int 1)))
def w__law_draw_4 : WS := wAsg (wOp oMod (wCB cInt (wCons (wOp oAdd (wOp oAdd (wOp oMul (wOp oIx (wV 0) (wC (.int 3))) (wC (.int 69621))) (wOp oMul (wV 2) (wC (.int 48271)))) (wC (.int 43))) (wNil))) (wC (.int 2147483587))) (gSub' (wV 0) (wC (.int 3)))
def w__law_draw_5 : WS := wAsg (wIfE (wTest (wOp oGe (wV 2) (wOp oPow (wC (.int 10)) (wC (.int 18))))) (wV 2) (wC (.int 0))) (gSub' (wV 0) (wC (.int 2)))
def b__law_draw_4 : WS := wSeq (w__law_draw_4) (w__law_draw_5)
def b__law_draw_3 : WS := wSeq (w__law_draw_3) (b__law_draw_4)
def b__law_draw_2 : WS := wSeq (w__law_draw_2) (b__law_draw_3)
def w__law_draw_1 : WS := wIf (wAnd (wTest (wOp oEq (wOp oIx (wV 0) (wC (.int 2))) (wC (.int 0)))) (wTest (wOp oLt (wOp oIx (wV 0) (wC (.int 1))) (wCB cLen (wCons (wOp oIx (wV 0) (wC (.int 0))) (wNil)))))) (b__law_draw_2) (wNext)
def w__law_draw_7 : WS := wSet 3 (wOp oMod (wCB cInt (wCons (wOp oIx (wV 0) (wC (.int 2))) (wNil))) (wV 1))
def w__law_draw_8 : WS := wAsg (wOp oFdiv (wOp oIx (wV 0) (wC (.int 2))) (wV 1)) (gSub' (wV 0) (wC (.int 2)))
def w__law_draw_9 : WS := wRet (wV 3)
def b__law_draw_8 : WS := wSeq (w__law_draw_8) (w__law_draw_9)
def b__law_draw_7 : WS := wSeq (w__law_draw_7) (b__law_draw_8)
def w__law_draw_6 : WS := wIf (wTest (wOp oGt (wOp oIx (wV 0) (wC (.int 2))) (wC (.int 0)))) (b__law_draw_7) (wNext)
def w__law_draw_10 : WS := wAsg (wOp oAdd (wOp oIx (wV 0) (wC (.int 4))) (wC (.int 1))) (gSub' (wV 0) (wC (.int 4)))
def w__law_draw_11 : WS := wSet 4 (wOp oMod (wCB cInt (wCons (wOp oMul (wCB cInt (wCons (wOp oAdd (wOp oIx (wV 0) (wC (.int 3))) (wOp oMul (wC (.int 8011)) (wOp oIx (wV 0) (wC (.int 4))))) (wNil))) (wC (.int 40692))) (wNil))) (wC (.int 2147483399)))
def w__law_draw_12 : WS := wSet 4 (wOp oMod (wCB cInt (wCons (wOp oMul (wV 4) (wOp oAdd (wOp oFdiv (wV 4) (wC (.int 1013))) (wC (.int 16807)))) (wNil))) (wC (.int 2147483647)))
def w__law_draw_13 : WS := wRet (wOp oMod (wCB cInt (wCons (wOp oFdiv (wV 4) (wC (.int 32))) (wNil))) (wV 1))
def b__law_draw_12 : WS := wSeq (w__law_draw_12) (w__law_draw_13)
def b__law_draw_11 : WS := wSeq (w__law_draw_11) (b__law_draw_12)
def b__law_draw_10 : WS := wSeq (w__law_draw_10) (b__law_draw_11)
def b__law_draw_6 : WS := wSeq (w__law_draw_6) (b__law_draw_10)
def b__law_draw_1 : WS := wSeq (w__law_draw_1) (b__law_draw_6)
theorem st__law_draw {x0 x1 : PV} : startP N__law_draw [x0, x1] = [some x0, some x1, none, none, none] := rfl
def W__law_draw : WS := wSeq (wIf (wAnd (wTest (wOp oEq (wOp oIx (wV 0) (wC (.int 2))) (wC (.int 0)))) (wTest (wOp oLt (wOp oIx (wV 0) (wC (.int 1))) (wCB cLen (wCons (wOp oIx (wV 0) (wC (.int 0))) (wNil)))))) (wSeq (wSet 2 (wOp oIx (wOp oIx (wV 0) (wC (.int 0))) (wOp oIx (wV 0) (wC (.int 1))))) (wSeq (wAsg (wOp oAdd (wOp oIx (wV 0) (wC (.int 1))) (wC (.int 1))) (gSub' (wV 0) (wC (.int 1)))) (wSeq (wAsg (wOp oMod (wCB cInt (wCons (wOp oAdd (wOp oAdd (wOp oMul (wOp oIx (wV 0) (wC (.int 3))) (wC (.int 69621))) (wOp oMul (wV 2) (wC (.int 48271)))) (wC (.int 43))) (wNil))) (wC (.int 2147483587))) (gSub' (wV 0) (wC (.int 3)))) (wAsg (wIfE (wTest (wOp oGe (wV 2) (wOp oPow (wC (.int 10)) (wC (.int 18))))) (wV 2) (wC (.int 0))) (gSub' (wV 0) (wC (.int 2))))))) (wNext)) (wSeq (wIf (wTest (wOp oGt (wOp oIx (wV 0) (wC (.int 2))) (wC (.int 0)))) (wSeq (wSet 3 (wOp oMod (wCB cInt (wCons (wOp oIx (wV 0) (wC (.int 2))) (wNil))) (wV 1))) (wSeq (wAsg (wOp oFdiv (wOp oIx (wV 0) (wC (.int 2))) (wV 1)) (gSub' (wV 0) (wC (.int 2)))) (wRet (wV 3)))) (wNext)) (wSeq (wAsg (wOp oAdd (wOp oIx (wV 0) (wC (.int 4))) (wC (.int 1))) (gSub' (wV 0) (wC (.int 4)))) (wSeq (wSet 4 (wOp oMod (wCB cInt (wCons (wOp oMul (wCB cInt (wCons (wOp oAdd (wOp oIx (wV 0) (wC (.int 3))) (wOp oMul (wC (.int 8011)) (wOp oIx (wV 0) (wC (.int 4))))) (wNil))) (wC (.int 40692))) (wNil))) (wC (.int 2147483399)))) (wSeq (wSet 4 (wOp oMod (wCB cInt (wCons (wOp oMul (wV 4) (wOp oAdd (wOp oFdiv (wV 4) (wC (.int 1013))) (wC (.int 16807)))) (wNil))) (wC (.int 2147483647)))) (wRet (wOp oMod (wCB cInt (wCons (wOp oFdiv (wV 4) (wC (.int 32))) (wNil))) (wV 1)))))))
theorem eW__law_draw : W__law_draw = b__law_draw_1 := rfl
theorem j__law_draw {A : Around} {outer : List Env} {s : Shared} {H : Hp} {E : XK} {cdv : Value} (T : Tx G.K G.ec mg) (hgd : A.guards = some []) (hr : Room 0 (A.deeper (envOfC "_law_draw" (defScope s__law_draw) s.heap.objs.size T.a__law_draw cdv))) :
    JSs G (cxOf (L2.CX P w) P w G.K mg base N__law_draw "_law_draw" (defScope s__law_draw) T.a__law_draw cdv A outer s H E) (defBody s__law_draw) W__law_draw :=
  have hu := hr.units
  jss_cons (js_if (jt_w (jw_and (jt_eq hu (je_ix (je_pv 0) (je_int)) (je_int)) (jw_and1 (jt_lt hu (je_ix (je_pv 0) (je_int)) (je_callB call_len cl_len rfl T.n_len (by decide +kernel) (ja_cons (je_ix (je_pv 0) (je_int)) (ja_nil))))))) (jss_cons (js_set (i := 2) sc__law_draw.nd rfl (.inl rfl) (je_ix (je_ix (je_pv 0) (je_int)) (je_ix (je_pv 0) (je_int)))) (jss_cons (js_asg (je_add (je_ix (je_pv 0) (je_int)) (je_int)) (jg_sub (je_pv 0) (je_int))) (jss_cons (js_asg (je_mod (je_callTy call_int1 cl_int rfl T.n_int (by decide +kernel) (ja_cons (je_add (je_add (je_mul (je_ix (je_pv 0) (je_int)) (je_int)) (je_mul (je_pv 2) (je_int))) (je_int)) (ja_nil))) (je_int)) (jg_sub (je_pv 0) (je_int))) (jss_one (js_asg (je_if (jt_ge (je_pv 2) (je_pow (je_int) (je_int))) (je_pv 2) (je_int)) (jg_sub (je_pv 0) (je_int))))))) (jss_nil)) (jss_cons (js_if (jt_gt (je_ix (je_pv 0) (je_int)) (je_int)) (jss_cons (js_set (i := 3) sc__law_draw.nd rfl (.inl rfl) (je_mod (je_callTy call_int1 cl_int rfl T.n_int (by decide +kernel) (ja_cons (je_ix (je_pv 0) (je_int)) (ja_nil))) (je_pv 1))) (jss_cons (js_asg (je_fdiv (je_ix (je_pv 0) (je_int)) (je_pv 1)) (jg_sub (je_pv 0) (je_int))) (jss_one (js_ret (je_pv 3))))) (jss_nil)) (jss_cons (js_asg (je_add (je_ix (je_pv 0) (je_int)) (je_int)) (jg_sub (je_pv 0) (je_int))) (jss_cons (js_set (i := 4) sc__law_draw.nd rfl (.inl rfl) (je_mod (je_callTy call_int1 cl_int rfl T.n_int (by decide +kernel) (ja_cons (je_mul (je_callTy call_int1 cl_int rfl T.n_int (by decide +kernel) (ja_cons (je_add (je_ix (je_pv 0) (je_int)) (je_mul (je_int) (je_ix (je_pv 0) (je_int)))) (ja_nil))) (je_int)) (ja_nil))) (je_int))) (jss_cons (js_set (i := 4) sc__law_draw.nd rfl (.inl rfl) (je_mod (je_callTy call_int1 cl_int rfl T.n_int (by decide +kernel) (ja_cons (je_mul (je_pv 4) (je_add (je_fdiv (je_pv 4) (je_int)) (je_int))) (ja_nil))) (je_int))) (jss_one (js_ret (je_mod (je_callTy call_int1 cl_int rfl T.n_int (by decide +kernel) (ja_cons (je_fdiv (je_pv 4) (je_int)) (ja_nil))) (je_pv 1))))))))
def sp__law_draw0 : PSp := fun xs S Q E => xs.length = 2 ∧ W__law_draw (PD.fnD Q E) (startP N__law_draw xs) S
theorem ok__law_draw0 (T : Tx G.K G.ec mg) : FnP G P w mg base 1 T.a__law_draw T.d__law_draw p__law_draw sp__law_draw0 :=
  fn_okD T.F__law_draw sc__law_draw (fun _ _ _ _ h => h.1) (fun cdv A outer s H E _ hgd hr => j__law_draw T hgd hr) fun _ _ _ _ h => h.2
theorem drawP : DrawP sp__law_draw0 := ⟨fun h c cells p l m k n Q E hne hn hn2 hc hp hl hm hk hlen fin => by
  refine ⟨rfl, ?_⟩
  rw [eW__law_draw, st__law_draw]
  have tail : ∀ (o : Option PV) (p l m k : Int), 0 ≤ p → 0 ≤ l → 0 ≤ m → 0 ≤ k → b__law_draw_6 (PD.fnD Q E) [some (.ref h), some (.int n), o, none, none] (handS h c cells p l m k) := by
    intro o p l m k hp hl hm hk
    refine s_seq (s_if ?_)
    simp only [wV, wC, wOp, wUn, oI, oAdd, oSub, oMul, oFdiv, oMod, oPow, oNeg, oLt, oLe, oGt, oGe, oEqN, oIsN, isNon, wTest, wChain, wTru, oTru, wNot, wAnd, wOr, wAndV, wOrV, wNotV, wIfE, wNil, wCons, wTup, wLst, wCB, cLen, cInt, cAbs, cMax2, cMin2, cSum, cSum2, cMaxL, cMinL, cAll, cAny, cList, cTuple, cStr, tyN, cIsi, cReprB, oIx, wNoP, wPart, oSl, wSl, oRevL, wBM, wBM0, tyP, mAppend, mExtend, mPop, mCount, mIndex, wCall, gN, gNil', gCons', gTup', gSub', oSet, iSeq, oIter, iRange1, iRange2, wLc, wipeP, wYes, wIsE, fnD_rt, fnD_ex, fnD_nx, List.getElem?_cons_zero, List.getElem?_cons_succ, List.set_cons_zero, List.set_cons_succ, Bool.false_xor, Bool.true_xor, if_true, if_false, ite_true, ite_false, reduceIte, Bool.false_eq_true, decide_eq_true_eq, decide_true, decide_false, Bool.not_true, Bool.not_false, Bool.not_eq_true', and_true, true_and]
    refine ⟨_, _, .inl (hand_at hne), rfl, ?_⟩
    simp only [wV, wC, wOp, wUn, oI, oAdd, oSub, oMul, oFdiv, oMod, oPow, oNeg, oLt, oLe, oGt, oGe, oEqN, oIsN, isNon, wTest, wChain, wTru, oTru, wNot, wAnd, wOr, wAndV, wOrV, wNotV, wIfE, wNil, wCons, wTup, wLst, wCB, cLen, cInt, cAbs, cMax2, cMin2, cSum, cSum2, cMaxL, cMinL, cAll, cAny, cList, cTuple, cStr, tyN, cIsi, cReprB, oIx, wNoP, wPart, oSl, wSl, oRevL, wBM, wBM0, tyP, mAppend, mExtend, mPop, mCount, mIndex, wCall, gN, gNil', gCons', gTup', gSub', oSet, iSeq, oIter, iRange1, iRange2, wLc, wipeP, wYes, wIsE, fnD_rt, fnD_ex, fnD_nx, List.getElem?_cons_zero, List.getElem?_cons_succ, List.set_cons_zero, List.set_cons_succ, Bool.false_xor, Bool.true_xor, if_true, if_false, ite_true, ite_false, reduceIte, Bool.false_eq_true, decide_eq_true_eq, decide_true, decide_false, Bool.not_true, Bool.not_false, Bool.not_eq_true', and_true, true_and]
    split
    · refine s_seq (s_set ?_)
      simp only [wV, wC, wOp, wUn, oI, oAdd, oSub, oMul, oFdiv, oMod, oPow, oNeg, oLt, oLe, oGt, oGe, oEqN, oIsN, isNon, wTest, wChain, wTru, oTru, wNot, wAnd, wOr, wAndV, wOrV, wNotV, wIfE, wNil, wCons, wTup, wLst, wCB, cLen, cInt, cAbs, cMax2, cMin2, cSum, cSum2, cMaxL, cMinL, cAll, cAny, cList, cTuple, cStr, tyN, cIsi, cReprB, oIx, wNoP, wPart, oSl, wSl, oRevL, wBM, wBM0, tyP, mAppend, mExtend, mPop, mCount, mIndex, wCall, gN, gNil', gCons', gTup', gSub', oSet, iSeq, oIter, iRange1, iRange2, wLc, wipeP, wYes, wIsE, fnD_rt, fnD_ex, fnD_nx, List.getElem?_cons_zero, List.getElem?_cons_succ, List.set_cons_zero, List.set_cons_succ, Bool.false_xor, Bool.true_xor, if_true, if_false, ite_true, ite_false, reduceIte, Bool.false_eq_true, decide_eq_true_eq, decide_true, decide_false, Bool.not_true, Bool.not_false, Bool.not_eq_true', and_true, true_and]
      refine ⟨_, _, .inl (hand_at hne), rfl, hn, ?_⟩
      refine s_seq (s_asg ?_)
      simp only [wV, wC, wOp, wUn, oI, oAdd, oSub, oMul, oFdiv, oMod, oPow, oNeg, oLt, oLe, oGt, oGe, oEqN, oIsN, isNon, wTest, wChain, wTru, oTru, wNot, wAnd, wOr, wAndV, wOrV, wNotV, wIfE, wNil, wCons, wTup, wLst, wCB, cLen, cInt, cAbs, cMax2, cMin2, cSum, cSum2, cMaxL, cMinL, cAll, cAny, cList, cTuple, cStr, tyN, cIsi, cReprB, oIx, wNoP, wPart, oSl, wSl, oRevL, wBM, wBM0, tyP, mAppend, mExtend, mPop, mCount, mIndex, wCall, gN, gNil', gCons', gTup', gSub', oSet, iSeq, oIter, iRange1, iRange2, wLc, wipeP, wYes, wIsE, fnD_rt, fnD_ex, fnD_nx, List.getElem?_cons_zero, List.getElem?_cons_succ, List.set_cons_zero, List.set_cons_succ, Bool.false_xor, Bool.true_xor, if_true, if_false, ite_true, ite_false, reduceIte, Bool.false_eq_true, decide_eq_true_eq, decide_true, decide_false, Bool.not_true, Bool.not_false, Bool.not_eq_true', and_true, true_and]
      refine ⟨_, _, .inl (hand_at hne), rfl, cdw hn hn2, _, 2, hand_at hne, rfl, ?_⟩
      try simp only [wV, wC, wOp, wUn, oI, oAdd, oSub, oMul, oFdiv, oMod, oPow, oNeg, oLt, oLe, oGt, oGe, oEqN, oIsN, isNon, wTest, wChain, wTru, oTru, wNot, wAnd, wOr, wAndV, wOrV, wNotV, wIfE, wNil, wCons, wTup, wLst, wCB, cLen, cInt, cAbs, cMax2, cMin2, cSum, cSum2, cMaxL, cMinL, cAll, cAny, cList, cTuple, cStr, tyN, cIsi, cReprB, oIx, wNoP, wPart, oSl, wSl, oRevL, wBM, wBM0, tyP, mAppend, mExtend, mPop, mCount, mIndex, wCall, gN, gNil', gCons', gTup', gSub', oSet, iSeq, oIter, iRange1, iRange2, wLc, wipeP, wYes, wIsE, fnD_rt, fnD_ex, fnD_nx, List.getElem?_cons_zero, List.getElem?_cons_succ, List.set_cons_zero, List.set_cons_succ, Bool.false_xor, Bool.true_xor, if_true, if_false, ite_true, ite_false, reduceIte, Bool.false_eq_true, decide_eq_true_eq, decide_true, decide_false, Bool.not_true, Bool.not_false, Bool.not_eq_true', and_true, true_and]
      rw [hand_set hne]
      refine s_ret ?_
      simp only [wV, wC, wOp, wUn, oI, oAdd, oSub, oMul, oFdiv, oMod, oPow, oNeg, oLt, oLe, oGt, oGe, oEqN, oIsN, isNon, wTest, wChain, wTru, oTru, wNot, wAnd, wOr, wAndV, wOrV, wNotV, wIfE, wNil, wCons, wTup, wLst, wCB, cLen, cInt, cAbs, cMax2, cMin2, cSum, cSum2, cMaxL, cMinL, cAll, cAny, cList, cTuple, cStr, tyN, cIsi, cReprB, oIx, wNoP, wPart, oSl, wSl, oRevL, wBM, wBM0, tyP, mAppend, mExtend, mPop, mCount, mIndex, wCall, gN, gNil', gCons', gTup', gSub', oSet, iSeq, oIter, iRange1, iRange2, wLc, wipeP, wYes, wIsE, fnD_rt, fnD_ex, fnD_nx, List.getElem?_cons_zero, List.getElem?_cons_succ, List.set_cons_zero, List.set_cons_succ, Bool.false_xor, Bool.true_xor, if_true, if_false, ite_true, ite_false, reduceIte, Bool.false_eq_true, decide_eq_true_eq, decide_true, decide_false, Bool.not_true, Bool.not_false, Bool.not_eq_true', and_true, true_and]
      exact dn_same (fin _ p _ m k (Int.emod_nonneg _ (by omega)) (Int.emod_lt_of_pos _ hn) hp (Int.ediv_nonneg hl (by omega)) hm hk)
    · refine s_next ?_
      dsimp only
      refine s_seq (s_asg ?_)
      simp only [wV, wC, wOp, wUn, oI, oAdd, oSub, oMul, oFdiv, oMod, oPow, oNeg, oLt, oLe, oGt, oGe, oEqN, oIsN, isNon, wTest, wChain, wTru, oTru, wNot, wAnd, wOr, wAndV, wOrV, wNotV, wIfE, wNil, wCons, wTup, wLst, wCB, cLen, cInt, cAbs, cMax2, cMin2, cSum, cSum2, cMaxL, cMinL, cAll, cAny, cList, cTuple, cStr, tyN, cIsi, cReprB, oIx, wNoP, wPart, oSl, wSl, oRevL, wBM, wBM0, tyP, mAppend, mExtend, mPop, mCount, mIndex, wCall, gN, gNil', gCons', gTup', gSub', oSet, iSeq, oIter, iRange1, iRange2, wLc, wipeP, wYes, wIsE, fnD_rt, fnD_ex, fnD_nx, List.getElem?_cons_zero, List.getElem?_cons_succ, List.set_cons_zero, List.set_cons_succ, Bool.false_xor, Bool.true_xor, if_true, if_false, ite_true, ite_false, reduceIte, Bool.false_eq_true, decide_eq_true_eq, decide_true, decide_false, Bool.not_true, Bool.not_false, Bool.not_eq_true', and_true, true_and]
      refine ⟨_, _, .inl (hand_at hne), rfl, ?_⟩
      refine ⟨_, 4, hand_at hne, rfl, ?_⟩
      try simp only [wV, wC, wOp, wUn, oI, oAdd, oSub, oMul, oFdiv, oMod, oPow, oNeg, oLt, oLe, oGt, oGe, oEqN, oIsN, isNon, wTest, wChain, wTru, oTru, wNot, wAnd, wOr, wAndV, wOrV, wNotV, wIfE, wNil, wCons, wTup, wLst, wCB, cLen, cInt, cAbs, cMax2, cMin2, cSum, cSum2, cMaxL, cMinL, cAll, cAny, cList, cTuple, cStr, tyN, cIsi, cReprB, oIx, wNoP, wPart, oSl, wSl, oRevL, wBM, wBM0, tyP, mAppend, mExtend, mPop, mCount, mIndex, wCall, gN, gNil', gCons', gTup', gSub', oSet, iSeq, oIter, iRange1, iRange2, wLc, wipeP, wYes, wIsE, fnD_rt, fnD_ex, fnD_nx, List.getElem?_cons_zero, List.getElem?_cons_succ, List.set_cons_zero, List.set_cons_succ, Bool.false_xor, Bool.true_xor, if_true, if_false, ite_true, ite_false, reduceIte, Bool.false_eq_true, decide_eq_true_eq, decide_true, decide_false, Bool.not_true, Bool.not_false, Bool.not_eq_true', and_true, true_and]
      rw [hand_set hne]
      refine s_seq (s_set ?_)
      simp only [wV, wC, wOp, wUn, oI, oAdd, oSub, oMul, oFdiv, oMod, oPow, oNeg, oLt, oLe, oGt, oGe, oEqN, oIsN, isNon, wTest, wChain, wTru, oTru, wNot, wAnd, wOr, wAndV, wOrV, wNotV, wIfE, wNil, wCons, wTup, wLst, wCB, cLen, cInt, cAbs, cMax2, cMin2, cSum, cSum2, cMaxL, cMinL, cAll, cAny, cList, cTuple, cStr, tyN, cIsi, cReprB, oIx, wNoP, wPart, oSl, wSl, oRevL, wBM, wBM0, tyP, mAppend, mExtend, mPop, mCount, mIndex, wCall, gN, gNil', gCons', gTup', gSub', oSet, iSeq, oIter, iRange1, iRange2, wLc, wipeP, wYes, wIsE, fnD_rt, fnD_ex, fnD_nx, List.getElem?_cons_zero, List.getElem?_cons_succ, List.set_cons_zero, List.set_cons_succ, Bool.false_xor, Bool.true_xor, if_true, if_false, ite_true, ite_false, reduceIte, Bool.false_eq_true, decide_eq_true_eq, decide_true, decide_false, Bool.not_true, Bool.not_false, Bool.not_eq_true', and_true, true_and]
      refine ⟨_, _, .inl (hand_at hne), rfl, _, _, .inl (hand_at hne), rfl, CMl (by decide), CMr (by decide), by decide, ?_⟩
      refine s_seq (s_set ?_)
      simp only [wV, wC, wOp, wUn, oI, oAdd, oSub, oMul, oFdiv, oMod, oPow, oNeg, oLt, oLe, oGt, oGe, oEqN, oIsN, isNon, wTest, wChain, wTru, oTru, wNot, wAnd, wOr, wAndV, wOrV, wNotV, wIfE, wNil, wCons, wTup, wLst, wCB, cLen, cInt, cAbs, cMax2, cMin2, cSum, cSum2, cMaxL, cMinL, cAll, cAny, cList, cTuple, cStr, tyN, cIsi, cReprB, oIx, wNoP, wPart, oSl, wSl, oRevL, wBM, wBM0, tyP, mAppend, mExtend, mPop, mCount, mIndex, wCall, gN, gNil', gCons', gTup', gSub', oSet, iSeq, oIter, iRange1, iRange2, wLc, wipeP, wYes, wIsE, fnD_rt, fnD_ex, fnD_nx, List.getElem?_cons_zero, List.getElem?_cons_succ, List.set_cons_zero, List.set_cons_succ, Bool.false_xor, Bool.true_xor, if_true, if_false, ite_true, ite_false, reduceIte, Bool.false_eq_true, decide_eq_true_eq, decide_true, decide_false, Bool.not_true, Bool.not_false, Bool.not_eq_true', and_true, true_and]
      refine ⟨cdw (by decide) (by decide), ?_, by decide, ?_⟩
      · refine CMl ?_
        have h1 := Int.emod_nonneg ((m + 8011 * (k + 1)) * 40692) (show (2147483399 : Int) ≠ 0 by decide)
        have h2 := Int.emod_lt_of_pos ((m + 8011 * (k + 1)) * 40692) (show (0 : Int) < 2147483399 by decide)
        constructor <;> omega
      · refine s_ret ?_
        simp only [wV, wC, wOp, wUn, oI, oAdd, oSub, oMul, oFdiv, oMod, oPow, oNeg, oLt, oLe, oGt, oGe, oEqN, oIsN, isNon, wTest, wChain, wTru, oTru, wNot, wAnd, wOr, wAndV, wOrV, wNotV, wIfE, wNil, wCons, wTup, wLst, wCB, cLen, cInt, cAbs, cMax2, cMin2, cSum, cSum2, cMaxL, cMinL, cAll, cAny, cList, cTuple, cStr, tyN, cIsi, cReprB, oIx, wNoP, wPart, oSl, wSl, oRevL, wBM, wBM0, tyP, mAppend, mExtend, mPop, mCount, mIndex, wCall, gN, gNil', gCons', gTup', gSub', oSet, iSeq, oIter, iRange1, iRange2, wLc, wipeP, wYes, wIsE, fnD_rt, fnD_ex, fnD_nx, List.getElem?_cons_zero, List.getElem?_cons_succ, List.set_cons_zero, List.set_cons_succ, Bool.false_xor, Bool.true_xor, if_true, if_false, ite_true, ite_false, reduceIte, Bool.false_eq_true, decide_eq_true_eq, decide_true, decide_false, Bool.not_true, Bool.not_false, Bool.not_eq_true', and_true, true_and]
        refine ⟨cdw (by decide) (by decide), hn, ?_⟩
        exact dn_same (fin _ p l m _ (Int.emod_nonneg _ (by omega)) (Int.emod_lt_of_pos _ hn) hp hl hm (by omega))
  refine s_seq (s_if ?_)
  simp only [wV, wC, wOp, wUn, oI, oAdd, oSub, oMul, oFdiv, oMod, oPow, oNeg, oLt, oLe, oGt, oGe, oEqN, oIsN, isNon, wTest, wChain, wTru, oTru, wNot, wAnd, wOr, wAndV, wOrV, wNotV, wIfE, wNil, wCons, wTup, wLst, wCB, cLen, cInt, cAbs, cMax2, cMin2, cSum, cSum2, cMaxL, cMinL, cAll, cAny, cList, cTuple, cStr, tyN, cIsi, cReprB, oIx, wNoP, wPart, oSl, wSl, oRevL, wBM, wBM0, tyP, mAppend, mExtend, mPop, mCount, mIndex, wCall, gN, gNil', gCons', gTup', gSub', oSet, iSeq, oIter, iRange1, iRange2, wLc, wipeP, wYes, wIsE, fnD_rt, fnD_ex, fnD_nx, List.getElem?_cons_zero, List.getElem?_cons_succ, List.set_cons_zero, List.set_cons_succ, Bool.false_xor, Bool.true_xor, if_true, if_false, ite_true, ite_false, reduceIte, Bool.false_eq_true, decide_eq_true_eq, decide_true, decide_false, Bool.not_true, Bool.not_false, Bool.not_eq_true', and_true, true_and]
  refine ⟨_, _, .inl (hand_at hne), rfl, ?_⟩
  simp only [wV, wC, wOp, wUn, oI, oAdd, oSub, oMul, oFdiv, oMod, oPow, oNeg, oLt, oLe, oGt, oGe, oEqN, oIsN, isNon, wTest, wChain, wTru, oTru, wNot, wAnd, wOr, wAndV, wOrV, wNotV, wIfE, wNil, wCons, wTup, wLst, wCB, cLen, cInt, cAbs, cMax2, cMin2, cSum, cSum2, cMaxL, cMinL, cAll, cAny, cList, cTuple, cStr, tyN, cIsi, cReprB, oIx, wNoP, wPart, oSl, wSl, oRevL, wBM, wBM0, tyP, mAppend, mExtend, mPop, mCount, mIndex, wCall, gN, gNil', gCons', gTup', gSub', oSet, iSeq, oIter, iRange1, iRange2, wLc, wipeP, wYes, wIsE, fnD_rt, fnD_ex, fnD_nx, List.getElem?_cons_zero, List.getElem?_cons_succ, List.set_cons_zero, List.set_cons_succ, Bool.false_xor, Bool.true_xor, if_true, if_false, ite_true, ite_false, reduceIte, Bool.false_eq_true, decide_eq_true_eq, decide_true, decide_false, Bool.not_true, Bool.not_false, Bool.not_eq_true', and_true, true_and]
  split
  · refine ⟨_, _, .inl (hand_at hne), rfl, _, _, .inl (hand_at hne), rfl, _, .inl hand_c, ?_⟩
    simp only [wV, wC, wOp, wUn, oI, oAdd, oSub, oMul, oFdiv, oMod, oPow, oNeg, oLt, oLe, oGt, oGe, oEqN, oIsN, isNon, wTest, wChain, wTru, oTru, wNot, wAnd, wOr, wAndV, wOrV, wNotV, wIfE, wNil, wCons, wTup, wLst, wCB, cLen, cInt, cAbs, cMax2, cMin2, cSum, cSum2, cMaxL, cMinL, cAll, cAny, cList, cTuple, cStr, tyN, cIsi, cReprB, oIx, wNoP, wPart, oSl, wSl, oRevL, wBM, wBM0, tyP, mAppend, mExtend, mPop, mCount, mIndex, wCall, gN, gNil', gCons', gTup', gSub', oSet, iSeq, oIter, iRange1, iRange2, wLc, wipeP, wYes, wIsE, fnD_rt, fnD_ex, fnD_nx, List.getElem?_cons_zero, List.getElem?_cons_succ, List.set_cons_zero, List.set_cons_succ, Bool.false_xor, Bool.true_xor, if_true, if_false, ite_true, ite_false, reduceIte, Bool.false_eq_true, decide_eq_true_eq, decide_true, decide_false, Bool.not_true, Bool.not_false, Bool.not_eq_true', and_true, true_and]
    split
    · rename_i h1 h2
      rw [List.length_map] at h2
      refine s_seq (s_set ?_)
      simp only [wV, wC, wOp, wUn, oI, oAdd, oSub, oMul, oFdiv, oMod, oPow, oNeg, oLt, oLe, oGt, oGe, oEqN, oIsN, isNon, wTest, wChain, wTru, oTru, wNot, wAnd, wOr, wAndV, wOrV, wNotV, wIfE, wNil, wCons, wTup, wLst, wCB, cLen, cInt, cAbs, cMax2, cMin2, cSum, cSum2, cMaxL, cMinL, cAll, cAny, cList, cTuple, cStr, tyN, cIsi, cReprB, oIx, wNoP, wPart, oSl, wSl, oRevL, wBM, wBM0, tyP, mAppend, mExtend, mPop, mCount, mIndex, wCall, gN, gNil', gCons', gTup', gSub', oSet, iSeq, oIter, iRange1, iRange2, wLc, wipeP, wYes, wIsE, fnD_rt, fnD_ex, fnD_nx, List.getElem?_cons_zero, List.getElem?_cons_succ, List.set_cons_zero, List.set_cons_succ, Bool.false_xor, Bool.true_xor, if_true, if_false, ite_true, ite_false, reduceIte, Bool.false_eq_true, decide_eq_true_eq, decide_true, decide_false, Bool.not_true, Bool.not_false, Bool.not_eq_true', and_true, true_and]
      obtain ⟨j, rfl⟩ : ∃ j : Nat, p = (j : Int) := ⟨p.toNat, by omega⟩
      have hj : j < cells.length := by omega
      refine ⟨_, _, .inl (hand_at hne), rfl, _, _, .inl (hand_at hne), rfl, _, .int cells[j], .inl hand_c, atI_nat (by rw [List.getElem?_map, List.getElem?_eq_getElem hj]; rfl), ?_⟩
      have hcj : 0 ≤ cells[j] := hc _ (List.getElem_mem hj)
      refine s_seq (s_asg ?_)
      simp only [wV, wC, wOp, wUn, oI, oAdd, oSub, oMul, oFdiv, oMod, oPow, oNeg, oLt, oLe, oGt, oGe, oEqN, oIsN, isNon, wTest, wChain, wTru, oTru, wNot, wAnd, wOr, wAndV, wOrV, wNotV, wIfE, wNil, wCons, wTup, wLst, wCB, cLen, cInt, cAbs, cMax2, cMin2, cSum, cSum2, cMaxL, cMinL, cAll, cAny, cList, cTuple, cStr, tyN, cIsi, cReprB, oIx, wNoP, wPart, oSl, wSl, oRevL, wBM, wBM0, tyP, mAppend, mExtend, mPop, mCount, mIndex, wCall, gN, gNil', gCons', gTup', gSub', oSet, iSeq, oIter, iRange1, iRange2, wLc, wipeP, wYes, wIsE, fnD_rt, fnD_ex, fnD_nx, List.getElem?_cons_zero, List.getElem?_cons_succ, List.set_cons_zero, List.set_cons_succ, Bool.false_xor, Bool.true_xor, if_true, if_false, ite_true, ite_false, reduceIte, Bool.false_eq_true, decide_eq_true_eq, decide_true, decide_false, Bool.not_true, Bool.not_false, Bool.not_eq_true', and_true, true_and]
      refine ⟨_, _, .inl (hand_at hne), rfl, _, 1, hand_at hne, rfl, ?_⟩
      try simp only [wV, wC, wOp, wUn, oI, oAdd, oSub, oMul, oFdiv, oMod, oPow, oNeg, oLt, oLe, oGt, oGe, oEqN, oIsN, isNon, wTest, wChain, wTru, oTru, wNot, wAnd, wOr, wAndV, wOrV, wNotV, wIfE, wNil, wCons, wTup, wLst, wCB, cLen, cInt, cAbs, cMax2, cMin2, cSum, cSum2, cMaxL, cMinL, cAll, cAny, cList, cTuple, cStr, tyN, cIsi, cReprB, oIx, wNoP, wPart, oSl, wSl, oRevL, wBM, wBM0, tyP, mAppend, mExtend, mPop, mCount, mIndex, wCall, gN, gNil', gCons', gTup', gSub', oSet, iSeq, oIter, iRange1, iRange2, wLc, wipeP, wYes, wIsE, fnD_rt, fnD_ex, fnD_nx, List.getElem?_cons_zero, List.getElem?_cons_succ, List.set_cons_zero, List.set_cons_succ, Bool.false_xor, Bool.true_xor, if_true, if_false, ite_true, ite_false, reduceIte, Bool.false_eq_true, decide_eq_true_eq, decide_true, decide_false, Bool.not_true, Bool.not_false, Bool.not_eq_true', and_true, true_and]
      rw [hand_set hne]
      refine s_seq (s_asg ?_)
      simp only [wV, wC, wOp, wUn, oI, oAdd, oSub, oMul, oFdiv, oMod, oPow, oNeg, oLt, oLe, oGt, oGe, oEqN, oIsN, isNon, wTest, wChain, wTru, oTru, wNot, wAnd, wOr, wAndV, wOrV, wNotV, wIfE, wNil, wCons, wTup, wLst, wCB, cLen, cInt, cAbs, cMax2, cMin2, cSum, cSum2, cMaxL, cMinL, cAll, cAny, cList, cTuple, cStr, tyN, cIsi, cReprB, oIx, wNoP, wPart, oSl, wSl, oRevL, wBM, wBM0, tyP, mAppend, mExtend, mPop, mCount, mIndex, wCall, gN, gNil', gCons', gTup', gSub', oSet, iSeq, oIter, iRange1, iRange2, wLc, wipeP, wYes, wIsE, fnD_rt, fnD_ex, fnD_nx, List.getElem?_cons_zero, List.getElem?_cons_succ, List.set_cons_zero, List.set_cons_succ, Bool.false_xor, Bool.true_xor, if_true, if_false, ite_true, ite_false, reduceIte, Bool.false_eq_true, decide_eq_true_eq, decide_true, decide_false, Bool.not_true, Bool.not_false, Bool.not_eq_true', and_true, true_and]
      refine ⟨_, _, .inl (hand_at hne), rfl, CMr (by decide), CMr (by decide), by decide, _, 3, hand_at hne, rfl, ?_⟩
      try simp only [wV, wC, wOp, wUn, oI, oAdd, oSub, oMul, oFdiv, oMod, oPow, oNeg, oLt, oLe, oGt, oGe, oEqN, oIsN, isNon, wTest, wChain, wTru, oTru, wNot, wAnd, wOr, wAndV, wOrV, wNotV, wIfE, wNil, wCons, wTup, wLst, wCB, cLen, cInt, cAbs, cMax2, cMin2, cSum, cSum2, cMaxL, cMinL, cAll, cAny, cList, cTuple, cStr, tyN, cIsi, cReprB, oIx, wNoP, wPart, oSl, wSl, oRevL, wBM, wBM0, tyP, mAppend, mExtend, mPop, mCount, mIndex, wCall, gN, gNil', gCons', gTup', gSub', oSet, iSeq, oIter, iRange1, iRange2, wLc, wipeP, wYes, wIsE, fnD_rt, fnD_ex, fnD_nx, List.getElem?_cons_zero, List.getElem?_cons_succ, List.set_cons_zero, List.set_cons_succ, Bool.false_xor, Bool.true_xor, if_true, if_false, ite_true, ite_false, reduceIte, Bool.false_eq_true, decide_eq_true_eq, decide_true, decide_false, Bool.not_true, Bool.not_false, Bool.not_eq_true', and_true, true_and]
      rw [hand_set hne]
      refine s_asg ?_
      simp only [wV, wC, wOp, wUn, oI, oAdd, oSub, oMul, oFdiv, oMod, oPow, oNeg, oLt, oLe, oGt, oGe, oEqN, oIsN, isNon, wTest, wChain, wTru, oTru, wNot, wAnd, wOr, wAndV, wOrV, wNotV, wIfE, wNil, wCons, wTup, wLst, wCB, cLen, cInt, cAbs, cMax2, cMin2, cSum, cSum2, cMaxL, cMinL, cAll, cAny, cList, cTuple, cStr, tyN, cIsi, cReprB, oIx, wNoP, wPart, oSl, wSl, oRevL, wBM, wBM0, tyP, mAppend, mExtend, mPop, mCount, mIndex, wCall, gN, gNil', gCons', gTup', gSub', oSet, iSeq, oIter, iRange1, iRange2, wLc, wipeP, wYes, wIsE, fnD_rt, fnD_ex, fnD_nx, List.getElem?_cons_zero, List.getElem?_cons_succ, List.set_cons_zero, List.set_cons_succ, Bool.false_xor, Bool.true_xor, if_true, if_false, ite_true, ite_false, reduceIte, Bool.false_eq_true, decide_eq_true_eq, decide_true, decide_false, Bool.not_true, Bool.not_false, Bool.not_eq_true', and_true, true_and]
      refine ⟨⟨by decide, by decide, by decide⟩, ?_⟩
      split
      · refine ⟨_, 2, hand_at hne, rfl, ?_⟩
        try simp only [wV, wC, wOp, wUn, oI, oAdd, oSub, oMul, oFdiv, oMod, oPow, oNeg, oLt, oLe, oGt, oGe, oEqN, oIsN, isNon, wTest, wChain, wTru, oTru, wNot, wAnd, wOr, wAndV, wOrV, wNotV, wIfE, wNil, wCons, wTup, wLst, wCB, cLen, cInt, cAbs, cMax2, cMin2, cSum, cSum2, cMaxL, cMinL, cAll, cAny, cList, cTuple, cStr, tyN, cIsi, cReprB, oIx, wNoP, wPart, oSl, wSl, oRevL, wBM, wBM0, tyP, mAppend, mExtend, mPop, mCount, mIndex, wCall, gN, gNil', gCons', gTup', gSub', oSet, iSeq, oIter, iRange1, iRange2, wLc, wipeP, wYes, wIsE, fnD_rt, fnD_ex, fnD_nx, List.getElem?_cons_zero, List.getElem?_cons_succ, List.set_cons_zero, List.set_cons_succ, Bool.false_xor, Bool.true_xor, if_true, if_false, ite_true, ite_false, reduceIte, Bool.false_eq_true, decide_eq_true_eq, decide_true, decide_false, Bool.not_true, Bool.not_false, Bool.not_eq_true', and_true, true_and]
        rw [hand_set hne]
        exact tail _ _ _ _ _ (by omega) hcj (Int.emod_nonneg _ (by decide)) hk
      · refine ⟨_, 2, hand_at hne, rfl, ?_⟩
        try simp only [wV, wC, wOp, wUn, oI, oAdd, oSub, oMul, oFdiv, oMod, oPow, oNeg, oLt, oLe, oGt, oGe, oEqN, oIsN, isNon, wTest, wChain, wTru, oTru, wNot, wAnd, wOr, wAndV, wOrV, wNotV, wIfE, wNil, wCons, wTup, wLst, wCB, cLen, cInt, cAbs, cMax2, cMin2, cSum, cSum2, cMaxL, cMinL, cAll, cAny, cList, cTuple, cStr, tyN, cIsi, cReprB, oIx, wNoP, wPart, oSl, wSl, oRevL, wBM, wBM0, tyP, mAppend, mExtend, mPop, mCount, mIndex, wCall, gN, gNil', gCons', gTup', gSub', oSet, iSeq, oIter, iRange1, iRange2, wLc, wipeP, wYes, wIsE, fnD_rt, fnD_ex, fnD_nx, List.getElem?_cons_zero, List.getElem?_cons_succ, List.set_cons_zero, List.set_cons_succ, Bool.false_xor, Bool.true_xor, if_true, if_false, ite_true, ite_false, reduceIte, Bool.false_eq_true, decide_eq_true_eq, decide_true, decide_false, Bool.not_true, Bool.not_false, Bool.not_eq_true', and_true, true_and]
        rw [hand_set hne]
        exact tail _ _ _ _ _ (by omega) (by decide) (Int.emod_nonneg _ (by decide)) hk
    · refine s_next ?_
      exact tail _ _ _ _ _ hp hl hm hk
  · refine s_next ?_
    exact tail _ _ _ _ _ hp hl hm hk⟩

def sp__law_draw : PSp := spDraw
theorem ok__law_draw (T : Tx G.K G.ec mg) : FnP G P w mg base 1 T.a__law_draw T.d__law_draw p__law_draw sp__law_draw := draw_ok (ok__law_draw0 T) drawP
def w__law_some_1 : WS := wRet (wOp oIx (wV 1) (wCall sp__law_draw (wCons (wV 0) (wCons (wCB cLen (wCons (wV 1) (wNil))) (wNil)))))
theorem st__law_some {x0 x1 : PV} : startP N__law_some [x0, x1] = [some x0, some x1] := rfl
def W__law_some : WS := wRet (wOp oIx (wV 1) (wCall sp__law_draw (wCons (wV 0) (wCons (wCB cLen (wCons (wV 1) (wNil))) (wNil)))))
theorem eW__law_some : W__law_some = w__law_some_1 := rfl
theorem j__law_some {A : Around} {outer : List Env} {s : Shared} {H : Hp} {E : XK} {cdv : Value} (T : Tx G.K G.ec mg) (hgd : A.guards = some []) (hr : Room 1 (A.deeper (envOfC "_law_some" (defScope s__law_some) s.heap.objs.size T.a__law_some cdv))) :
    JSs G (cxOf (L2.CX P w) P w G.K mg base N__law_some "_law_some" (defScope s__law_some) T.a__law_some cdv A outer s H E) (defBody s__law_some) W__law_some :=
  have hu := hr.units
  jss_one (js_ret (je_ix (je_pv 1) (je_call (ok__law_draw T) hgd (hr.mono (by decide)) rfl T.m__law_draw T.F__law_draw.kp T.b__law_draw (ja_cons (je_pv 0) (ja_cons (je_callB call_len cl_len rfl T.n_len (by decide +kernel) (ja_cons (je_pv 1) (ja_nil))) (ja_nil))))))
def sp__law_some : PSp := fun xs S Q E => xs.length = 2 ∧ W__law_some (PD.fnD Q E) (startP N__law_some xs) S
theorem ok__law_some (T : Tx G.K G.ec mg) : FnP G P w mg base 2 T.a__law_some T.d__law_some p__law_some sp__law_some :=
  fn_okD T.F__law_some sc__law_some (fun _ _ _ _ h => h.1) (fun cdv A outer s H E _ hgd hr => j__law_some T hgd hr) fun _ _ _ _ h => h.2
def w__law_few_1 : WS := wPar 3 4 (wCons (wCB cList (wCons (wV 1) (wNil))) (wCons (wLst (wNil)) (wNil)))
def w__law_few_3 : WS := wExpr (wBM "list" mAppend (wV 4) (wCons (wBM "list" mPopA (wV 3) (wCons (wCall sp__law_draw (wCons (wV 0) (wCons (wCB cLen (wCons (wV 3) (wNil))) (wNil)))) (wNil))) (wNil)))
def w__law_few_2 : WS := wWhile (wAnd (wTest (wOp oNe (wV 3) (wLst (wNil)))) (wTest (wOp oLt (wCB cLen (wCons (wV 4) (wNil))) (wV 2)))) (w__law_few_3)
def w__law_few_4 : WS := wRet (wV 4)
def b__law_few_2 : WS := wSeq (w__law_few_2) (w__law_few_4)
def b__law_few_1 : WS := wSeq (w__law_few_1) (b__law_few_2)
theorem st__law_few {x0 x1 x2 : PV} : startP N__law_few [x0, x1, x2] = [some x0, some x1, some x2, none, none] := rfl
def W__law_few : WS := wSeq (wPar 3 4 (wCons (wCB cList (wCons (wV 1) (wNil))) (wCons (wLst (wNil)) (wNil)))) (wSeq (wWhile (wAnd (wTest (wOp oNe (wV 3) (wLst (wNil)))) (wTest (wOp oLt (wCB cLen (wCons (wV 4) (wNil))) (wV 2)))) (wExpr (wBM "list" mAppend (wV 4) (wCons (wBM "list" mPopA (wV 3) (wCons (wCall sp__law_draw (wCons (wV 0) (wCons (wCB cLen (wCons (wV 3) (wNil))) (wNil)))) (wNil))) (wNil))))) (wRet (wV 4)))
theorem eW__law_few : W__law_few = b__law_few_1 := rfl
theorem j__law_few {A : Around} {outer : List Env} {s : Shared} {H : Hp} {E : XK} {cdv : Value} (T : Tx G.K G.ec mg) (hgd : A.guards = some []) (hr : Room 1 (A.deeper (envOfC "_law_few" (defScope s__law_few) s.heap.objs.size T.a__law_few cdv))) :
    JSs G (cxOf (L2.CX P w) P w G.K mg base N__law_few "_law_few" (defScope s__law_few) T.a__law_few cdv A outer s H E) (defBody s__law_few) W__law_few :=
  have hu := hr.units
  jss_cons (js_par (i := 3) (j := 4) rfl sc__law_few.nd rfl rfl (by decide) rfl rfl (ja_cons (je_callTy call_list_of cl_list rfl T.n_list (by decide +kernel) (ja_cons (je_pv 1) (ja_nil))) (ja_cons (je_lst (ja_nil)) (ja_nil))) (by rfl)) (jss_cons (js_while (passes_of rfl) (jt_w (jw_and (jt_ne hu (je_pv 3) (je_lst (ja_nil))) (jw_and1 (jt_lt hu (je_callB call_len cl_len rfl T.n_len (by decide +kernel) (ja_cons (je_pv 4) (ja_nil))) (je_pv 2))))) (jss_one (js_expr (je_append (je_pv 4) (ja_cons (je_bm PySem.F.plainAttrs_list PySem.F.slot_list_pop PySem.F.type_list_pop mt_popAt ml_popA (je_pv 3) (ja_cons (je_call (ok__law_draw T) hgd (hr.mono (by decide)) rfl T.m__law_draw T.F__law_draw.kp T.b__law_draw (ja_cons (je_pv 0) (ja_cons (je_callB call_len cl_len rfl T.n_len (by decide +kernel) (ja_cons (je_pv 3) (ja_nil))) (ja_nil)))) (ja_nil))) (ja_nil)))))) (jss_one (js_ret (je_pv 4))))
def sp__law_few : PSp := fun xs S Q E => xs.length = 3 ∧ W__law_few (PD.fnD Q E) (startP N__law_few xs) S
theorem ok__law_few (T : Tx G.K G.ec mg) : FnP G P w mg base 2 T.a__law_few T.d__law_few p__law_few sp__law_few :=
  fn_okD T.F__law_few sc__law_few (fun _ _ _ _ h => h.1) (fun cdv A outer s H E _ hgd hr => j__law_few T hgd hr) fun _ _ _ _ h => h.2
def w__law_is_1 : WS := wRet (wOp oEq (wCB cRepr (wCons (wV 0) (wNil))) (wCB cRepr (wCons (wV 1) (wNil))))
theorem st__law_is {x0 x1 : PV} : startP N__law_is [x0, x1] = [some x0, some x1] := rfl
def W__law_is : WS := wRet (wOp oEq (wCB cRepr (wCons (wV 0) (wNil))) (wCB cRepr (wCons (wV 1) (wNil))))
theorem eW__law_is : W__law_is = w__law_is_1 := rfl
theorem j__law_is {A : Around} {outer : List Env} {s : Shared} {H : Hp} {E : XK} {cdv : Value} (T : Tx G.K G.ec mg) (hgd : A.guards = some []) (hr : Room 0 (A.deeper (envOfC "_law_is" (defScope s__law_is) s.heap.objs.size T.a__law_is cdv))) :
    JSs G (cxOf (L2.CX P w) P w G.K mg base N__law_is "_law_is" (defScope s__law_is) T.a__law_is cdv A outer s H E) (defBody s__law_is) W__law_is :=
  have hu := hr.units
  jss_one (js_ret (je_eq hu (je_callB (call_reprD hgd hu) cl_repr rfl T.n_repr (by decide +kernel) (ja_cons (je_pv 0) (ja_nil))) (je_callB (call_reprD hgd hu) cl_repr rfl T.n_repr (by decide +kernel) (ja_cons (je_pv 1) (ja_nil)))))
def sp__law_is : PSp := fun xs S Q E => xs.length = 2 ∧ W__law_is (PD.fnD Q E) (startP N__law_is xs) S
theorem ok__law_is (T : Tx G.K G.ec mg) : FnP G P w mg base 1 T.a__law_is T.d__law_is p__law_is sp__law_is :=
  fn_okD T.F__law_is sc__law_is (fun _ _ _ _ h => h.1) (fun cdv A outer s H E _ hgd hr => j__law_is T hgd hr) fun _ _ _ _ h => h.2
def w__law_triangle_1 : WS := wSet 2 (wLst (wCons (wLst (wCons (wC (.int 1)) (wNil))) (wNil)))
def w__law_triangle_3 : WS := wPar 4 5 (wCons (wOp oAdd (wOp oIx (wV 2) (wUn oNeg (wC (.int 1)))) (wLst (wCons (wC (.int 0)) (wNil)))) (wCons (wLst (wNil)) (wNil)))
def w__law_triangle_5 : WS := wSet 7 (wIfE (wTest (wOp oGt (wV 6) (wC (.int 0)))) (wOp oIx (wV 4) (wOp oSub (wV 6) (wC (.int 1)))) (wC (.int 0)))
def w__law_triangle_6 : WS := wSet 8 (wOp oIx (wV 4) (wV 6))
def w__law_triangle_8 : WS := wExpr (wBM "list" mAppend (wV 5) (wCons (wOp oAdd (wV 8) (wV 7)) (wNil)))
def w__law_triangle_10 : WS := wExpr (wBM "list" mAppend (wV 5) (wCons (wOp oAdd (wOp oMul (wV 6) (wV 8)) (wV 7)) (wNil)))
def w__law_triangle_12 : WS := wExpr (wBM "list" mAppend (wV 5) (wCons (wOp oAdd (wOp oMul (wOp oSub (wV 3) (wC (.int 1))) (wV 8)) (wV 7)) (wNil)))
def w__law_triangle_14 : WS := wExpr (wBM "list" mAppend (wV 5) (wCons (wOp oAdd (wOp oMul (wOp oAdd (wOp oSub (wV 3) (wC (.int 1))) (wV 6)) (wV 8)) (wV 7)) (wNil)))
def w__law_triangle_16 : WS := wExpr (wBM "list" mAppend (wV 5) (wCons (wOp oAdd (wOp oMul (wOp oAdd (wV 6) (wC (.int 1))) (wV 8)) (wOp oMul (wOp oSub (wV 3) (wV 6)) (wV 7))) (wNil)))
def w__law_triangle_18 : WS := wExpr (wBM "list" mAppend (wV 5) (wCons (wOp oAdd (wOp oMul (wOp oAdd (wV 6) (wC (.int 1))) (wV 8)) (wOp oMul (wOp oSub (wOp oSub (wOp oMul (wC (.int 2)) (wV 3)) (wC (.int 1))) (wV 6)) (wV 7))) (wNil)))
def w__law_triangle_15 : WS := wIf (wTest (wOp oEq (wV 0) (wC (.str (PySem.Str.ofString "rises"))))) (w__law_triangle_16) (w__law_triangle_18)
def w__law_triangle_13 : WS := wIf (wTest (wOp oEq (wV 0) (wC (.str (PySem.Str.ofString "lists"))))) (w__law_triangle_14) (w__law_triangle_15)
def w__law_triangle_11 : WS := wIf (wTest (wOp oEq (wV 0) (wC (.str (PySem.Str.ofString "cycles"))))) (w__law_triangle_12) (w__law_triangle_13)
def w__law_triangle_9 : WS := wIf (wTest (wOp oEq (wV 0) (wC (.str (PySem.Str.ofString "parts"))))) (w__law_triangle_10) (w__law_triangle_11)
def w__law_triangle_7 : WS := wIf (wTest (wOp oEq (wV 0) (wC (.str (PySem.Str.ofString "choices"))))) (w__law_triangle_8) (w__law_triangle_9)
def b__law_triangle_6 : WS := wSeq (w__law_triangle_6) (w__law_triangle_7)
def b__law_triangle_5 : WS := wSeq (w__law_triangle_5) (b__law_triangle_6)
def w__law_triangle_4 : WS := wFor (iRange1 (wOp oAdd (wV 3) (wC (.int 1)))) (gN 6) (b__law_triangle_5)
def w__law_triangle_19 : WS := wExpr (wBM "list" mAppend (wV 2) (wCons (wV 5) (wNil)))
def b__law_triangle_4 : WS := wSeq (w__law_triangle_4) (w__law_triangle_19)
def b__law_triangle_3 : WS := wSeq (w__law_triangle_3) (b__law_triangle_4)
def w__law_triangle_2 : WS := wFor (iRange2 (wC (.int 1)) (wOp oAdd (wV 1) (wC (.int 1)))) (gN 3) (b__law_triangle_3)
def w__law_triangle_20 : WS := wRet (wV 2)
def b__law_triangle_2 : WS := wSeq (w__law_triangle_2) (w__law_triangle_20)
def b__law_triangle_1 : WS := wSeq (w__law_triangle_1) (b__law_triangle_2)
theorem st__law_triangle {x0 x1 : PV} : startP N__law_triangle [x0, x1] = [some x0, some x1, none, none, none, none, none, none, none] := rfl
def W__law_triangle : WS := wSeq (wSet 2 (wLst (wCons (wLst (wCons (wC (.int 1)) (wNil))) (wNil)))) (wSeq (wFor (iRange2 (wC (.int 1)) (wOp oAdd (wV 1) (wC (.int 1)))) (gN 3) (wSeq (wPar 4 5 (wCons (wOp oAdd (wOp oIx (wV 2) (wUn oNeg (wC (.int 1)))) (wLst (wCons (wC (.int 0)) (wNil)))) (wCons (wLst (wNil)) (wNil)))) (wSeq (wFor (iRange1 (wOp oAdd (wV 3) (wC (.int 1)))) (gN 6) (wSeq (wSet 7 (wIfE (wTest (wOp oGt (wV 6) (wC (.int 0)))) (wOp oIx (wV 4) (wOp oSub (wV 6) (wC (.int 1)))) (wC (.int 0)))) (wSeq (wSet 8 (wOp oIx (wV 4) (wV 6))) (wIf (wTest (wOp oEq (wV 0) (wC (.str (PySem.Str.ofString "choices"))))) (wExpr (wBM "list" mAppend (wV 5) (wCons (wOp oAdd (wV 8) (wV 7)) (wNil)))) (wIf (wTest (wOp oEq (wV 0) (wC (.str (PySem.Str.ofString "parts"))))) (wExpr (wBM "list" mAppend (wV 5) (wCons (wOp oAdd (wOp oMul (wV 6) (wV 8)) (wV 7)) (wNil)))) (wIf (wTest (wOp oEq (wV 0) (wC (.str (PySem.Str.ofString "cycles"))))) (wExpr (wBM "list" mAppend (wV 5) (wCons (wOp oAdd (wOp oMul (wOp oSub (wV 3) (wC (.int 1))) (wV 8)) (wV 7)) (wNil)))) (wIf (wTest (wOp oEq (wV 0) (wC (.str (PySem.Str.ofString "lists"))))) (wExpr (wBM "list" mAppend (wV 5) (wCons (wOp oAdd (wOp oMul (wOp oAdd (wOp oSub (wV 3) (wC (.int 1))) (wV 6)) (wV 8)) (wV 7)) (wNil)))) (wIf (wTest (wOp oEq (wV 0) (wC (.str (PySem.Str.ofString "rises"))))) (wExpr (wBM "list" mAppend (wV 5) (wCons (wOp oAdd (wOp oMul (wOp oAdd (wV 6) (wC (.int 1))) (wV 8)) (wOp oMul (wOp oSub (wV 3) (wV 6)) (wV 7))) (wNil)))) (wExpr (wBM "list" mAppend (wV 5) (wCons (wOp oAdd (wOp oMul (wOp oAdd (wV 6) (wC (.int 1))) (wV 8)) (wOp oMul (wOp oSub (wOp oSub (wOp oMul (wC (.int 2)) (wV 3)) (wC (.int 1))) (wV 6)) (wV 7))) (wNil)))))))))))) (wExpr (wBM "list" mAppend (wV 2) (wCons (wV 5) (wNil))))))) (wRet (wV 2)))
theorem eW__law_triangle : W__law_triangle = b__law_triangle_1 := rfl
theorem j__law_triangle {A : Around} {outer : List Env} {s : Shared} {H : Hp} {E : XK} {cdv : Value} (T : Tx G.K G.ec mg) (hgd : A.guards = some []) (hr : Room 0 (A.deeper (envOfC "_law_triangle" (defScope s__law_triangle) s.heap.objs.size T.a__law_triangle cdv))) :
    JSs G (cxOf (L2.CX P w) P w G.K mg base N__law_triangle "_law_triangle" (defScope s__law_triangle) T.a__law_triangle cdv A outer s H E) (defBody s__law_triangle) W__law_triangle :=
  have hu := hr.units
  jss_cons (js_set (i := 2) sc__law_triangle.nd rfl (.inl rfl) (je_lst (ja_cons (je_lst (ja_cons (je_int) (ja_nil))) (ja_nil)))) (jss_cons (js_for (passes_of rfl) rfl (ji_range2 rfl T.n_range (je_int) (je_add (je_pv 1) (je_int))) (jg_name sc__law_triangle.nd (i := 3) rfl (.inl rfl)) (jss_cons (js_par (i := 4) (j := 5) rfl sc__law_triangle.nd rfl rfl (by decide) rfl rfl (ja_cons (je_add (je_ix (je_pv 2) (je_neg (je_int))) (je_lst (ja_cons (je_int) (ja_nil)))) (ja_cons (je_lst (ja_nil)) (ja_nil))) (by rfl)) (jss_cons (js_for (passes_of rfl) rfl (ji_range1 rfl T.n_range (je_add (je_pv 3) (je_int))) (jg_name sc__law_triangle.nd (i := 6) rfl (.inl rfl)) (jss_cons (js_set (i := 7) sc__law_triangle.nd rfl (.inl rfl) (je_if (jt_gt (je_pv 6) (je_int)) (je_ix (je_pv 4) (je_sub (je_pv 6) (je_int))) (je_int))) (jss_cons (js_set (i := 8) sc__law_triangle.nd rfl (.inl rfl) (je_ix (je_pv 4) (je_pv 6))) (jss_one (js_if (jt_eq hu (je_pv 0) (je_str)) (jss_one (js_expr (je_append (je_pv 5) (ja_cons (je_add (je_pv 8) (je_pv 7)) (ja_nil))))) (jss_one (js_if (jt_eq hu (je_pv 0) (je_str)) (jss_one (js_expr (je_append (je_pv 5) (ja_cons (je_add (je_mul (je_pv 6) (je_pv 8)) (je_pv 7)) (ja_nil))))) (jss_one (js_if (jt_eq hu (je_pv 0) (je_str)) (jss_one (js_expr (je_append (je_pv 5) (ja_cons (je_add (je_mul (je_sub (je_pv 3) (je_int)) (je_pv 8)) (je_pv 7)) (ja_nil))))) (jss_one (js_if (jt_eq hu (je_pv 0) (je_str)) (jss_one (js_expr (je_append (je_pv 5) (ja_cons (je_add (je_mul (je_add (je_sub (je_pv 3) (je_int)) (je_pv 6)) (je_pv 8)) (je_pv 7)) (ja_nil))))) (jss_one (js_if (jt_eq hu (je_pv 0) (je_str)) (jss_one (js_expr (je_append (je_pv 5) (ja_cons (je_add (je_mul (je_add (je_pv 6) (je_int)) (je_pv 8)) (je_mul (je_sub (je_pv 3) (je_pv 6)) (je_pv 7))) (ja_nil))))) (jss_one (js_expr (je_append (je_pv 5) (ja_cons (je_add (je_mul (je_add (je_pv 6) (je_int)) (je_pv 8)) (je_mul (je_sub (je_sub (je_mul (je_int) (je_pv 3)) (je_int)) (je_pv 6)) (je_pv 7))) (ja_nil)))))))))))))))))) (jss_one (js_expr (je_append (je_pv 2) (ja_cons (je_pv 5) (ja_nil)))))))) (jss_one (js_ret (je_pv 2))))
def sp__law_triangle : PSp := fun xs S Q E => xs.length = 2 ∧ W__law_triangle (PD.fnD Q E) (startP N__law_triangle xs) S
theorem ok__law_triangle (T : Tx G.K G.ec mg) : FnP G P w mg base 1 T.a__law_triangle T.d__law_triangle p__law_triangle sp__law_triangle :=
  fn_okD T.F__law_triangle sc__law_triangle (fun _ _ _ _ h => h.1) (fun cdv A outer s H E _ hgd hr => j__law_triangle T hgd hr) fun _ _ _ _ h => h.2
def w__law_is_unit_3 : WS := wSet 4 (wCB cSum2 (wCons (wLc (iRange2 (wV 3) (wOp oAdd (wV 2) (wC (.int 1)))) (gN 5) wYes (wOp oMul (wOp oIx (wOp oIx (wV 0) (wV 2)) (wV 5)) (wOp oIx (wOp oIx (wV 1) (wV 5)) (wV 3))) [5]) (wNil)))
def w__law_is_unit_5 : WS := wRet (wC (.bl false))
def w__law_is_unit_4 : WS := wIf (wTest (wOp oNe (wV 4) (wCB cInt (wCons (wOp oEq (wV 2) (wV 3)) (wNil))))) (w__law_is_unit_5) (wNext)
def b__law_is_unit_3 : WS := wSeq (w__law_is_unit_3) (w__law_is_unit_4)
def w__law_is_unit_2 : WS := wFor (iRange1 (wOp oAdd (wV 2) (wC (.int 1)))) (gN 3) (b__law_is_unit_3)
def w__law_is_unit_1 : WS := wFor (iRange1 (wCB cLen (wCons (wV 0) (wNil)))) (gN 2) (w__law_is_unit_2)
def w__law_is_unit_6 : WS := wRet (wC (.bl true))
def b__law_is_unit_1 : WS := wSeq (w__law_is_unit_1) (w__law_is_unit_6)
theorem st__law_is_unit {x0 x1 : PV} : startP N__law_is_unit [x0, x1] = [some x0, some x1, none, none, none, none] := rfl
def W__law_is_unit : WS := wSeq (wFor (iRange1 (wCB cLen (wCons (wV 0) (wNil)))) (gN 2) (wFor (iRange1 (wOp oAdd (wV 2) (wC (.int 1)))) (gN 3) (wSeq (wSet 4 (wCB cSum2 (wCons (wLc (iRange2 (wV 3) (wOp oAdd (wV 2) (wC (.int 1)))) (gN 5) wYes (wOp oMul (wOp oIx (wOp oIx (wV 0) (wV 2)) (wV 5)) (wOp oIx (wOp oIx (wV 1) (wV 5)) (wV 3))) [5]) (wNil)))) (wIf (wTest (wOp oNe (wV 4) (wCB cInt (wCons (wOp oEq (wV 2) (wV 3)) (wNil))))) (wRet (wC (.bl false))) (wNext))))) (wRet (wC (.bl true)))
theorem eW__law_is_unit : W__law_is_unit = b__law_is_unit_1 := rfl
theorem j__law_is_unit {A : Around} {outer : List Env} {s : Shared} {H : Hp} {E : XK} {cdv : Value} (T : Tx G.K G.ec mg) (hgd : A.guards = some []) (hr : Room 0 (A.deeper (envOfC "_law_is_unit" (defScope s__law_is_unit) s.heap.objs.size T.a__law_is_unit cdv))) :
    JSs G (cxOf (L2.CX P w) P w G.K mg base N__law_is_unit "_law_is_unit" (defScope s__law_is_unit) T.a__law_is_unit cdv A outer s H E) (defBody s__law_is_unit) W__law_is_unit :=
  have hu := hr.units
  jss_cons (js_for (passes_of rfl) rfl (ji_range1 rfl T.n_range (je_callB call_len cl_len rfl T.n_len (by decide +kernel) (ja_cons (je_pv 0) (ja_nil)))) (jg_name sc__law_is_unit.nd (i := 2) rfl (.inr rfl)) (jss_one (js_for (passes_of rfl) rfl (ji_range1 rfl T.n_range (je_add (je_pv 2) (je_int))) (jg_name sc__law_is_unit.nd (i := 3) rfl (.inr rfl)) (jss_cons (js_set (i := 4) sc__law_is_unit.nd rfl (.inl rfl) (je_callB (cr_sum2 rfl) cl_sum2 rfl T.n_sum (by decide +kernel) (ja_cons (je_lc0 (own := [("at", 5)]) rfl sc__law_is_unit.nd (ji_range2 rfl T.n_range (je_pv 3) (je_add (je_pv 2) (je_int))) (blkOk_by (N := N__law_is_unit) (sc := defScope s__law_is_unit) (by decide +kernel)) (fun _ _ _ _ _ => jg_name sc__law_is_unit.nd (i := 5) rfl (.inl rfl)) (fun _ _ _ _ _ => je_mul (je_ix (je_ix (je_pv 0) (je_pv 2)) (je_pv 5)) (je_ix (je_ix (je_pv 1) (je_pv 5)) (je_pv 3)))) (ja_nil)))) (jss_one (js_if (jt_ne hu (je_pv 4) (je_callTy call_int1 cl_int rfl T.n_int (by decide +kernel) (ja_cons (je_eq hu (je_pv 2) (je_pv 3)) (ja_nil)))) (jss_one (js_ret (je_bl))) (jss_nil))))))) (jss_one (js_ret (je_bl)))
def sp__law_is_unit : PSp := fun xs S Q E => xs.length = 2 ∧ W__law_is_unit (PD.fnD Q E) (startP N__law_is_unit xs) S
theorem ok__law_is_unit (T : Tx G.K G.ec mg) : FnP G P w mg base 1 T.a__law_is_unit T.d__law_is_unit p__law_is_unit sp__law_is_unit :=
  fn_okD T.F__law_is_unit sc__law_is_unit (fun _ _ _ _ h => h.1) (fun cdv A outer s H E _ hgd hr => j__law_is_unit T hgd hr) fun _ _ _ _ h => h.2
def w__law_is_undone_1 : WS := wPar 2 3 (wCons (wCall sp_turned_table (wCons (wV 0) (wCons (wV 1) (wNil)))) (wCons (wCall sp__law_triangle (wCons (wV 0) (wCons (wV 1) (wNil)))) (wNil)))
def w__law_is_undone_3 : WS := wRet (wC (.bl false))
def w__law_is_undone_2 : WS := wIf (wOr (wNot (wTru (wCB cIsi (wCons (wV 2) (wCons (wC (.ty "tuple")) (wNil)))))) (wTest (wOp oNe (wCB cLen (wCons (wV 2) (wNil))) (wOp oAdd (wV 1) (wC (.int 1)))))) (w__law_is_undone_3) (wNext)
def w__law_is_undone_6 : WS := wRet (wC (.bl false))
def w__law_is_undone_5 : WS := wIf (wOr (wNot (wTru (wCB cIsi (wCons (wV 5) (wCons (wC (.ty "tuple")) (wNil)))))) (wTest (wOp oNe (wCB cLen (wCons (wV 5) (wNil))) (wOp oAdd (wV 4) (wC (.int 1)))))) (w__law_is_undone_6) (wNext)
def w__law_is_undone_4 : WS := wFor (iEnumm (wCons (wV 2) (wNil))) (gTup' 2 (gCons' (gN 4) (gCons' (gN 5) (gNil')))) (w__law_is_undone_5)
def w__law_is_undone_8 : WS := wRet (wC (.bl false))
def w__law_is_undone_7 : WS := wIf (wOr (wNot (wTru (wCall sp__law_is_unit (wCons (wV 3) (wCons (wV 2) (wNil)))))) (wNot (wTru (wCall sp__law_is_unit (wCons (wV 2) (wCons (wV 3) (wNil))))))) (w__law_is_undone_8) (wNext)
def w__law_is_undone_9 : WS := wSet 6 (wOp oIxD (wDict (((wC (.str (PySem.Str.ofString "choices"))), (wC (.str (PySem.Str.ofString "choices")))) :: ((wC (.str (PySem.Str.ofString "parts"))), (wC (.str (PySem.Str.ofString "cycles")))) :: ((wC (.str (PySem.Str.ofString "cycles"))), (wC (.str (PySem.Str.ofString "parts")))) :: ((wC (.str (PySem.Str.ofString "lists"))), (wC (.str (PySem.Str.ofString "lists")))) :: [])) (wV 0))
def w__law_is_undone_10 : WS := wSet 7 (wCall sp__law_triangle (wCons (wV 6) (wCons (wV 1) (wNil))))
def w__law_is_undone_11 : WS := wSet 8 (wLc (iEnumm (wCons (wV 7) (wNil))) (gTup' 2 (gCons' (gN 4) (gCons' (gN 5) (gNil')))) wYes (wCB cTuple (wCons (wLc (iEnumm (wCons (wV 5) (wNil))) (gTup' 2 (gCons' (gN 9) (gCons' (gN 10) (gNil')))) wYes (wOp oMul (wV 10) (wOp oSub (wC (.int 1)) (wOp oMul (wC (.int 2)) (wOp oMod (wCB cInt (wCons (wOp oSub (wV 4) (wV 9)) (wNil))) (wC (.int 2)))))) [9, 10]) (wNil))) [4, 5])
def w__law_is_undone_12 : WS := wRet (wAndV (wCall sp__law_is (wCons (wV 2) (wCons (wCB cTuple (wCons (wV 8) (wNil))) (wNil)))) (wCall sp__law_is (wCons (wCall sp_row (wCons (wV 0) (wCons (wV 1) (wNil)))) (wCons (wCB cTuple (wCons (wOp oIx (wV 3) (wUn oNeg (wC (.int 1)))) (wNil))) (wNil)))))
def b__law_is_undone_11 : WS := wSeq (w__law_is_undone_11) (w__law_is_undone_12)
def b__law_is_undone_10 : WS := wSeq (w__law_is_undone_10) (b__law_is_undone_11)
def b__law_is_undone_9 : WS := wSeq (w__law_is_undone_9) (b__law_is_undone_10)
def b__law_is_undone_7 : WS := wSeq (w__law_is_undone_7) (b__law_is_undone_9)
def b__law_is_undone_4 : WS := wSeq (w__law_is_undone_4) (b__law_is_undone_7)
def b__law_is_undone_2 : WS := wSeq (w__law_is_undone_2) (b__law_is_undone_4)
def b__law_is_undone_1 : WS := wSeq (w__law_is_undone_1) (b__law_is_undone_2)
theorem st__law_is_undone {x0 x1 : PV} : startP N__law_is_undone [x0, x1] = [some x0, some x1, none, none, none, none, none, none, none, none, none] := rfl
def W__law_is_undone : WS := wSeq (wPar 2 3 (wCons (wCall sp_turned_table (wCons (wV 0) (wCons (wV 1) (wNil)))) (wCons (wCall sp__law_triangle (wCons (wV 0) (wCons (wV 1) (wNil)))) (wNil)))) (wSeq (wIf (wOr (wNot (wTru (wCB cIsi (wCons (wV 2) (wCons (wC (.ty "tuple")) (wNil)))))) (wTest (wOp oNe (wCB cLen (wCons (wV 2) (wNil))) (wOp oAdd (wV 1) (wC (.int 1)))))) (wRet (wC (.bl false))) (wNext)) (wSeq (wFor (iEnumm (wCons (wV 2) (wNil))) (gTup' 2 (gCons' (gN 4) (gCons' (gN 5) (gNil')))) (wIf (wOr (wNot (wTru (wCB cIsi (wCons (wV 5) (wCons (wC (.ty "tuple")) (wNil)))))) (wTest (wOp oNe (wCB cLen (wCons (wV 5) (wNil))) (wOp oAdd (wV 4) (wC (.int 1)))))) (wRet (wC (.bl false))) (wNext))) (wSeq (wIf (wOr (wNot (wTru (wCall sp__law_is_unit (wCons (wV 3) (wCons (wV 2) (wNil)))))) (wNot (wTru (wCall sp__law_is_unit (wCons (wV 2) (wCons (wV 3) (wNil))))))) (wRet (wC (.bl false))) (wNext)) (wSeq (wSet 6 (wOp oIxD (wDict (((wC (.str (PySem.Str.ofString "choices"))), (wC (.str (PySem.Str.ofString "choices")))) :: ((wC (.str (PySem.Str.ofString "parts"))), (wC (.str (PySem.Str.ofString "cycles")))) :: ((wC (.str (PySem.Str.ofString "cycles"))), (wC (.str (PySem.Str.ofString "parts")))) :: ((wC (.str (PySem.Str.ofString "lists"))), (wC (.str (PySem.Str.ofString "lists")))) :: [])) (wV 0))) (wSeq (wSet 7 (wCall sp__law_triangle (wCons (wV 6) (wCons (wV 1) (wNil))))) (wSeq (wSet 8 (wLc (iEnumm (wCons (wV 7) (wNil))) (gTup' 2 (gCons' (gN 4) (gCons' (gN 5) (gNil')))) wYes (wCB cTuple (wCons (wLc (iEnumm (wCons (wV 5) (wNil))) (gTup' 2 (gCons' (gN 9) (gCons' (gN 10) (gNil')))) wYes (wOp oMul (wV 10) (wOp oSub (wC (.int 1)) (wOp oMul (wC (.int 2)) (wOp oMod (wCB cInt (wCons (wOp oSub (wV 4) (wV 9)) (wNil))) (wC (.int 2)))))) [9, 10]) (wNil))) [4, 5])) (wRet (wAndV (wCall sp__law_is (wCons (wV 2) (wCons (wCB cTuple (wCons (wV 8) (wNil))) (wNil)))) (wCall sp__law_is (wCons (wCall sp_row (wCons (wV 0) (wCons (wV 1) (wNil)))) (wCons (wCB cTuple (wCons (wOp oIx (wV 3) (wUn oNeg (wC (.int 1)))) (wNil))) (wNil))))))))))))
theorem eW__law_is_undone : W__law_is_undone = b__law_is_undone_1 := rfl
theorem j__law_is_undone {A : Around} {outer : List Env} {s : Shared} {H : Hp} {E : XK} {cdv : Value} (T : Tx G.K G.ec mg) (hgd : A.guards = some []) (hr : Room 4 (A.deeper (envOfC "_law_is_undone" (defScope s__law_is_undone) s.heap.objs.size T.a__law_is_undone cdv))) :
    JSs G (cxOf (L2.CX P w) P w G.K mg base N__law_is_undone "_law_is_undone" (defScope s__law_is_undone) T.a__law_is_undone cdv A outer s H E) (defBody s__law_is_undone) W__law_is_undone :=
  have hu := hr.units
  jss_cons (js_par (i := 2) (j := 3) rfl sc__law_is_undone.nd rfl rfl (by decide) rfl rfl (ja_cons (je_call (ok_turned_table T) hgd (hr.mono (by decide)) rfl T.m_turned_table T.F_turned_table.kp T.b_turned_table (ja_cons (je_pv 0) (ja_cons (je_pv 1) (ja_nil)))) (ja_cons (je_call (ok__law_triangle T) hgd (hr.mono (by decide)) rfl T.m__law_triangle T.F__law_triangle.kp T.b__law_triangle (ja_cons (je_pv 0) (ja_cons (je_pv 1) (ja_nil)))) (ja_nil))) (by rfl)) (jss_cons (js_if (jt_w (jw_or (jt_not (jt_tru (je_callB call_isi cl_isi rfl T.n_isinstance (by decide +kernel) (ja_cons (je_pv 2) (ja_cons (je_blt rfl T.n_tuple (by decide +kernel)) (ja_nil)))))) (jw_or1 (jt_ne hu (je_callB call_len cl_len rfl T.n_len (by decide +kernel) (ja_cons (je_pv 2) (ja_nil))) (je_add (je_pv 1) (je_int)))))) (jss_one (js_ret (je_bl))) (jss_nil)) (jss_cons (js_for (passes_of rfl) rfl (ji_enum rfl T.n_enumerate (ja_cons (je_pv 2) (ja_nil))) (jg_tup rfl (jgs_cons (jg_name sc__law_is_undone.nd (i := 4) rfl (.inl rfl)) (jgs_cons (jg_name sc__law_is_undone.nd (i := 5) rfl (.inl rfl)) (jgs_nil)))) (jss_one (js_if (jt_w (jw_or (jt_not (jt_tru (je_callB call_isi cl_isi rfl T.n_isinstance (by decide +kernel) (ja_cons (je_pv 5) (ja_cons (je_blt rfl T.n_tuple (by decide +kernel)) (ja_nil)))))) (jw_or1 (jt_ne hu (je_callB call_len cl_len rfl T.n_len (by decide +kernel) (ja_cons (je_pv 5) (ja_nil))) (je_add (je_pv 4) (je_int)))))) (jss_one (js_ret (je_bl))) (jss_nil)))) (jss_cons (js_if (jt_w (jw_or (jt_not (jt_tru (je_call (ok__law_is_unit T) hgd (hr.mono (by decide)) rfl T.m__law_is_unit T.F__law_is_unit.kp T.b__law_is_unit (ja_cons (je_pv 3) (ja_cons (je_pv 2) (ja_nil)))))) (jw_or1 (jt_not (jt_tru (je_call (ok__law_is_unit T) hgd (hr.mono (by decide)) rfl T.m__law_is_unit T.F__law_is_unit.kp T.b__law_is_unit (ja_cons (je_pv 2) (ja_cons (je_pv 3) (ja_nil))))))))) (jss_one (js_ret (je_bl))) (jss_nil)) (jss_cons (js_set (i := 6) sc__law_is_undone.nd rfl (.inl rfl) (je_ixD hu (je_dict (.cons (je_str) (je_str) (.cons (je_str) (je_str) (.cons (je_str) (je_str) (.cons (je_str) (je_str) (.nil)))))) (je_pv 0))) (jss_cons (js_set (i := 7) sc__law_is_undone.nd rfl (.inl rfl) (je_call (ok__law_triangle T) hgd (hr.mono (by decide)) rfl T.m__law_triangle T.F__law_triangle.kp T.b__law_triangle (ja_cons (je_pv 6) (ja_cons (je_pv 1) (ja_nil))))) (jss_cons (js_setLc0 (own := [("n", 4), ("line", 5)]) rfl sc__law_is_undone.nd (i := 8) rfl rfl (sw_true rfl rfl rfl (by decide +kernel)) (ji_enum rfl T.n_enumerate (ja_cons (je_pv 7) (ja_nil))) (blkOk_by (N := N__law_is_undone) (sc := defScope s__law_is_undone) (by decide +kernel)) (fun _ _ _ _ _ => jg_tup rfl (jgs_cons (jg_name sc__law_is_undone.nd (i := 4) rfl (.inr rfl)) (jgs_cons (jg_name sc__law_is_undone.nd (i := 5) rfl (.inl rfl)) (jgs_nil)))) (fun _ _ _ _ _ => je_callTy call_tuple_of cl_tuple rfl T.n_tuple (by decide +kernel) (ja_cons (je_lc0 (own := [("k", 9), ("x", 10)]) rfl sc__law_is_undone.nd (ji_enum rfl T.n_enumerate (ja_cons (je_pv 5) (ja_nil))) (blkOk_by (N := N__law_is_undone) (by kernel_rfl)) (fun _ _ _ _ _ => jg_tup rfl (jgs_cons (jg_name sc__law_is_undone.nd (i := 9) rfl (.inl rfl)) (jgs_cons (jg_name sc__law_is_undone.nd (i := 10) rfl (.inl rfl)) (jgs_nil)))) (fun _ _ _ _ _ => je_mul (je_pv 10) (je_sub (je_int) (je_mul (je_int) (je_mod (je_callTy call_int1 cl_int rfl T.n_int (by decide +kernel) (ja_cons (je_sub (je_pv 4) (je_pv 9)) (ja_nil))) (je_int)))))) (ja_nil)))) (jss_one (js_ret (je_and (je_call (ok__law_is T) hgd (hr.mono (by decide)) rfl T.m__law_is T.F__law_is.kp T.b__law_is (ja_cons (je_pv 2) (ja_cons (je_callTy call_tuple_of cl_tuple rfl T.n_tuple (by decide +kernel) (ja_cons (je_pv 8) (ja_nil))) (ja_nil)))) (je_one (je_call (ok__law_is T) hgd (hr.mono (by decide)) rfl T.m__law_is T.F__law_is.kp T.b__law_is (ja_cons (je_call (ok_row T) hgd (hr.mono (by decide)) rfl T.m_row T.F_row.kp T.b_row (ja_cons (je_pv 0) (ja_cons (je_pv 1) (ja_nil)))) (ja_cons (je_callTy call_tuple_of cl_tuple rfl T.n_tuple (by decide +kernel) (ja_cons (je_ix (je_pv 3) (je_neg (je_int))) (ja_nil))) (ja_nil))))))))))))))
def sp__law_is_undone : PSp := fun xs S Q E => xs.length = 2 ∧ W__law_is_undone (PD.fnD Q E) (startP N__law_is_undone xs) S
theorem ok__law_is_undone (T : Tx G.K G.ec mg) : FnP G P w mg base 5 T.a__law_is_undone T.d__law_is_undone p__law_is_undone sp__law_is_undone :=
  fn_okD T.F__law_is_undone sc__law_is_undone (fun _ _ _ _ h => h.1) (fun cdv A outer s H E _ hgd hr => j__law_is_undone T hgd hr) fun _ _ _ _ h => h.2
def w__law_word_2 (th : Thk) (f : Addr) : WS := wExpr (wAct f th)
def w__law_word_4 (th : Thk) (f : Addr) (n : PX) (a : Addr) : WS := wRet (wIfE (wTru (wIsE 1 a (sub n.name "BadWord"))) (wC (.str (PySem.Str.ofString "word"))) (wIfE (wTru (wIsE 1 a (sub n.name "BadNumber"))) (wC (.str (PySem.Str.ofString "number"))) (wC (.str (PySem.Str.ofString "other")))))
def w__law_word_1 (th : Thk) (f : Addr) : WS := wTry sub (w__law_word_2 th f) (⟨"TermError", some 1, fun n a => wArgN n (w__law_word_4 th f n a)⟩ :: [])
def w__law_word_5 (th : Thk) (f : Addr) : WS := wRet (wC (.str (PySem.Str.ofString "let")))
def b__law_word_1 (th : Thk) (f : Addr) : WS := wSeq (w__law_word_1 th f) (w__law_word_5 th f)
theorem st__law_word {x0 : PV} : startP N__law_word [x0] = [some x0, none] := rfl
def W__law_word (th : Thk) (f : Addr) : WS := wSeq (wTry sub (wExpr (wAct f th)) (⟨"TermError", some 1, fun n a => wArgN n (wRet (wIfE (wTru (wIsE 1 a (sub n.name "BadWord"))) (wC (.str (PySem.Str.ofString "word"))) (wIfE (wTru (wIsE 1 a (sub n.name "BadNumber"))) (wC (.str (PySem.Str.ofString "number"))) (wC (.str (PySem.Str.ofString "other"))))))⟩ :: [])) (wRet (wC (.str (PySem.Str.ofString "let"))))
theorem eW__law_word (th : Thk) (f : Addr) : W__law_word th f = b__law_word_1 th f := rfl
theorem j__law_word {th : Thk} {f : Addr} {A : Around} {outer : List Env} {s : Shared} {H : Hp} {cdv : Value} (T : Tx G.K G.ec mg) (hgd : A.guards = some []) (hr : Room 0 (A.deeper (envOfC "_law_word" (defScope s__law_word) s.heap.objs.size T.a__law_word cdv)))
    (act : ∀ (pn : List (Addr × Obj)) (xe : Value → Shared → Prop) (p1 p2 : Pos), JE G ((cxOf C8.CX0 P w G.K mg base N__law_word "_law_word" (defScope s__law_word) T.a__law_word cdv A outer s H C8.E0).nox.tr pn xe) (.Call (.Name "call" p1) [] [] p2) (wAct f th)) :
    JSs G (cxOf C8.CX0 P w G.K mg base N__law_word "_law_word" (defScope s__law_word) T.a__law_word cdv A outer s H C8.E0).nox (defBody s__law_word) (W__law_word th f) :=
  have hu := hr.units
  jss_cons (js_try rfl rfl sc__law_word.nd (fun pn xe hp => jss_one (js_expr (act _ _ _ _))) (.named (i := 1) rfl rfl ⟨rfl, rfl, .inl T.m_TermError⟩ T.hs_TermError (fun a oe n D d pn hn hd hz hf => jss_argN fun hno => jss_one (js_ret (je_if (jt_tru (je_isE (je_pv 1) (T.exc n.name D hn) hno hd hz hf rfl T.n_isinstance rfl T.m_BadWord (T.ks_BadWord n.name D hn))) (je_str) (je_if (jt_tru (je_isE (je_pv 1) (T.exc n.name D hn) hno hd hz hf rfl T.n_isinstance rfl T.m_BadNumber (T.ks_BadNumber n.name D hn))) (je_str) (je_str))))) (.nil))) (jss_one (js_ret (je_str)))
def w_law_1 : WS := wSet 1 (wCall sp__law_hand (wCons (wV 0) (wNil)))
def w_law_2 : WS := wSet 2 (wCall sp__law_few (wCons (wV 1) (wCons (wLst (wCons (wC (.str (PySem.Str.ofString "choices"))) (wCons (wC (.str (PySem.Str.ofString "parts"))) (wCons (wC (.str (PySem.Str.ofString "cycles"))) (wCons (wC (.str (PySem.Str.ofString "lists"))) (wNil)))))) (wCons (wC (.int 2)) (wNil)))))
def w_law_4 : WS := wPar 4 5 (wCons (wOp oIx (wV 2) (wOp oMod (wCB cInt (wCons (wV 3) (wNil))) (wC (.int 2)))) (wCons (wCall sp__law_some (wCons (wV 1) (wCons (wLst (wCons (wC (.int 0)) (wCons (wC (.int 1)) (wCons (wC (.int 2)) (wCons (wC (.int 7)) (wCons (wC (.int 29)) (wCons (wC (.int 30)) (wNil)))))))) (wNil)))) (wNil)))
def w_law_6 : WS := wRet (wC (.bl false))
def w_law_5 : WS := wIf (wNot (wTru (wCall sp__law_is_undone (wCons (wV 4) (wCons (wV 5) (wNil)))))) (w_law_6) (wNext)
def w_law_7 : WS := wPar 6 7 (wCons (wCall sp__law_draw (wCons (wV 1) (wCons (wOp oAdd (wV 5) (wC (.int 1))) (wNil)))) (wCons (wGet2 (wDict (((wC (.str (PySem.Str.ofString "parts"))), (wC (.str (PySem.Str.ofString "cycles")))) :: ((wC (.str (PySem.Str.ofString "cycles"))), (wC (.str (PySem.Str.ofString "parts")))) :: [])) (wV 4) (wV 4)) (wNil)))
def w_law_9 : WS := wRet (wC (.bl false))
def w_law_8 : WS := wIf (wNot (wTru (wCall sp__law_is (wCons (wCB cAbs (wCons (wOp oIx (wOp oIx (wCall sp_turned_table (wCons (wV 4) (wCons (wV 5) (wNil)))) (wV 5)) (wV 6)) (wNil))) (wCons (wCall sp_item (wCons (wV 7) (wCons (wV 5) (wCons (wV 6) (wNil))))) (wNil)))))) (w_law_9) (wNext)
def b_law_7 : WS := wSeq (w_law_7) (w_law_8)
def b_law_5 : WS := wSeq (w_law_5) (b_law_7)
def b_law_4 : WS := wSeq (w_law_4) (b_law_5)
def w_law_3 : WS := wFor (iRange1 (wC (.int 4))) (gN 3) (b_law_4)
def w_law_10 : WS := wAsg (wTup (wCons (wCall sp__law_some (wCons (wV 1) (wCons (wLst (wCons (wC (.int 31)) (wCons (wUn oNeg (wC (.int 1))) (wCons (wC .non) (wCons (wC (.bl true)) (wCons (wC (.str (PySem.Str.ofString "3"))) (wNil))))))) (wNil)))) (wCons (wCall sp__law_some (wCons (wV 1) (wCons (wLst (wCons (wC (.str (PySem.Str.ofString "rises"))) (wCons (wC (.str (PySem.Str.ofString "runs"))) (wCons (wC (.str (PySem.Str.ofString ""))) (wCons (wC .non) (wCons (wC (.int 3)) (wCons (wTup (wCons (wC (.str (PySem.Str.ofString "parts"))) (wNil))) (wNil)))))))) (wNil)))) (wNil)))) (gTup' 2 (gCons' (gN 8) (gCons' (gN 9) (gNil'))))
def w_law_11 : WS := wSet 10 (wLst (wCons (wLam W__law_word N__law_word (wCall sp_turned_table (wCons (wOp oIx (wV 2) (wC (.int 0))) (wCons (wV 8) (wNil))))) (wNil)))
def w_law_12 : WS := wExpr (wBM "list" mAppend (wV 10) (wCons (wLam W__law_word N__law_word (wCall sp_turned_table (wCons (wV 9) (wCons (wC (.int 3)) (wNil))))) (wNil)))
def w_law_13 : WS := wRet (wOp oEq (wV 10) (wLst (wCons (wC (.str (PySem.Str.ofString "number"))) (wCons (wC (.str (PySem.Str.ofString "word"))) (wNil)))))
def b_law_12 : WS := wSeq (w_law_12) (w_law_13)
def b_law_11 : WS := wSeq (w_law_11) (b_law_12)
def b_law_10 : WS := wSeq (w_law_10) (b_law_11)
def b_law_3 : WS := wSeq (w_law_3) (b_law_10)
def b_law_2 : WS := wSeq (w_law_2) (b_law_3)
def b_law_1 : WS := wSeq (w_law_1) (b_law_2)
theorem st_law {x0 : PV} : startP N_law [x0] = [some x0, none, none, none, none, none, none, none, none, none, none] := rfl
def W_law : WS := wSeq (wSet 1 (wCall sp__law_hand (wCons (wV 0) (wNil)))) (wSeq (wSet 2 (wCall sp__law_few (wCons (wV 1) (wCons (wLst (wCons (wC (.str (PySem.Str.ofString "choices"))) (wCons (wC (.str (PySem.Str.ofString "parts"))) (wCons (wC (.str (PySem.Str.ofString "cycles"))) (wCons (wC (.str (PySem.Str.ofString "lists"))) (wNil)))))) (wCons (wC (.int 2)) (wNil)))))) (wSeq (wFor (iRange1 (wC (.int 4))) (gN 3) (wSeq (wPar 4 5 (wCons (wOp oIx (wV 2) (wOp oMod (wCB cInt (wCons (wV 3) (wNil))) (wC (.int 2)))) (wCons (wCall sp__law_some (wCons (wV 1) (wCons (wLst (wCons (wC (.int 0)) (wCons (wC (.int 1)) (wCons (wC (.int 2)) (wCons (wC (.int 7)) (wCons (wC (.int 29)) (wCons (wC (.int 30)) (wNil)))))))) (wNil)))) (wNil)))) (wSeq (wIf (wNot (wTru (wCall sp__law_is_undone (wCons (wV 4) (wCons (wV 5) (wNil)))))) (wRet (wC (.bl false))) (wNext)) (wSeq (wPar 6 7 (wCons (wCall sp__law_draw (wCons (wV 1) (wCons (wOp oAdd (wV 5) (wC (.int 1))) (wNil)))) (wCons (wGet2 (wDict (((wC (.str (PySem.Str.ofString "parts"))), (wC (.str (PySem.Str.ofString "cycles")))) :: ((wC (.str (PySem.Str.ofString "cycles"))), (wC (.str (PySem.Str.ofString "parts")))) :: [])) (wV 4) (wV 4)) (wNil)))) (wIf (wNot (wTru (wCall sp__law_is (wCons (wCB cAbs (wCons (wOp oIx (wOp oIx (wCall sp_turned_table (wCons (wV 4) (wCons (wV 5) (wNil)))) (wV 5)) (wV 6)) (wNil))) (wCons (wCall sp_item (wCons (wV 7) (wCons (wV 5) (wCons (wV 6) (wNil))))) (wNil)))))) (wRet (wC (.bl false))) (wNext)))))) (wSeq (wAsg (wTup (wCons (wCall sp__law_some (wCons (wV 1) (wCons (wLst (wCons (wC (.int 31)) (wCons (wUn oNeg (wC (.int 1))) (wCons (wC .non) (wCons (wC (.bl true)) (wCons (wC (.str (PySem.Str.ofString "3"))) (wNil))))))) (wNil)))) (wCons (wCall sp__law_some (wCons (wV 1) (wCons (wLst (wCons (wC (.str (PySem.Str.ofString "rises"))) (wCons (wC (.str (PySem.Str.ofString "runs"))) (wCons (wC (.str (PySem.Str.ofString ""))) (wCons (wC .non) (wCons (wC (.int 3)) (wCons (wTup (wCons (wC (.str (PySem.Str.ofString "parts"))) (wNil))) (wNil)))))))) (wNil)))) (wNil)))) (gTup' 2 (gCons' (gN 8) (gCons' (gN 9) (gNil'))))) (wSeq (wSet 10 (wLst (wCons (wLam W__law_word N__law_word (wCall sp_turned_table (wCons (wOp oIx (wV 2) (wC (.int 0))) (wCons (wV 8) (wNil))))) (wNil)))) (wSeq (wExpr (wBM "list" mAppend (wV 10) (wCons (wLam W__law_word N__law_word (wCall sp_turned_table (wCons (wV 9) (wCons (wC (.int 3)) (wNil))))) (wNil)))) (wRet (wOp oEq (wV 10) (wLst (wCons (wC (.str (PySem.Str.ofString "number"))) (wCons (wC (.str (PySem.Str.ofString "word"))) (wNil)))))))))))
theorem eW_law : W_law = b_law_1 := rfl
theorem j_law {A : Around} {outer : List Env} {s : Shared} {H : Hp} {E : XK} {cdv : Value} (T : Tx G.K G.ec mg) (hgd : A.guards = some []) (hr : Room 7 (A.deeper (envOfC "law" (defScope s_law) s.heap.objs.size T.a_law cdv))) (hcode : cdv = .ref T.c_law) (TB : LamX.TabB base mg T.c_law T.P_law) (ht : (T.P_law, lamN "law") ∈ G.T) (hq : ∀ p ∈ G.T, p.1 = T.P_law → p.2 = lamN "law") :
    JSs G (cxOf (L2.CX P w) P w G.K mg base N_law "law" (defScope s_law) T.a_law cdv A outer s H E) (defBody s_law) W_law :=
  have hu := hr.units
  jss_cons (js_set (i := 1) sc_law.nd rfl (.inl rfl) (je_call (ok__law_hand T) hgd (hr.mono (by decide)) rfl T.m__law_hand T.F__law_hand.kp T.b__law_hand (ja_cons (je_pv 0) (ja_nil)))) (jss_cons (js_set (i := 2) sc_law.nd rfl (.inr rfl) (je_call (ok__law_few T) hgd (hr.mono (by decide)) rfl T.m__law_few T.F__law_few.kp T.b__law_few (ja_cons (je_pv 1) (ja_cons (je_lst (ja_cons (je_str) (ja_cons (je_str) (ja_cons (je_str) (ja_cons (je_str) (ja_nil)))))) (ja_cons (je_int) (ja_nil)))))) (jss_cons (js_for (passes_of rfl) rfl (ji_range1 rfl T.n_range (je_int)) (jg_name sc_law.nd (i := 3) rfl (.inl rfl)) (jss_cons (js_par (i := 4) (j := 5) rfl sc_law.nd rfl rfl (by decide) rfl rfl (ja_cons (je_ix (je_pv 2) (je_mod (je_callTy call_int1 cl_int rfl T.n_int (by decide +kernel) (ja_cons (je_pv 3) (ja_nil))) (je_int))) (ja_cons (je_call (ok__law_some T) hgd (hr.mono (by decide)) rfl T.m__law_some T.F__law_some.kp T.b__law_some (ja_cons (je_pv 1) (ja_cons (je_lst (ja_cons (je_int) (ja_cons (je_int) (ja_cons (je_int) (ja_cons (je_int) (ja_cons (je_int) (ja_cons (je_int) (ja_nil)))))))) (ja_nil)))) (ja_nil))) (by rfl)) (jss_cons (js_if (jt_not (jt_tru (je_call (ok__law_is_undone T) hgd (hr.mono (by decide)) rfl T.m__law_is_undone T.F__law_is_undone.kp T.b__law_is_undone (ja_cons (je_pv 4) (ja_cons (je_pv 5) (ja_nil)))))) (jss_one (js_ret (je_bl))) (jss_nil)) (jss_cons (js_par (i := 6) (j := 7) rfl sc_law.nd rfl rfl (by decide) rfl rfl (ja_cons (je_call (ok__law_draw T) hgd (hr.mono (by decide)) rfl T.m__law_draw T.F__law_draw.kp T.b__law_draw (ja_cons (je_pv 1) (ja_cons (je_add (je_pv 5) (je_int)) (ja_nil)))) (ja_cons (je_get2 hu (je_dict (.cons (je_str) (je_str) (.cons (je_str) (je_str) (.nil)))) (je_pv 4) (je_pv 4)) (ja_nil))) (by rfl)) (jss_one (js_if (jt_not (jt_tru (je_call (ok__law_is T) hgd (hr.mono (by decide)) rfl T.m__law_is T.F__law_is.kp T.b__law_is (ja_cons (je_callB call_abs cl_abs rfl T.n_abs (by decide +kernel) (ja_cons (je_ix (je_ix (je_call (ok_turned_table T) hgd (hr.mono (by decide)) rfl T.m_turned_table T.F_turned_table.kp T.b_turned_table (ja_cons (je_pv 4) (ja_cons (je_pv 5) (ja_nil)))) (je_pv 5)) (je_pv 6)) (ja_nil))) (ja_cons (je_call (ok_item T) hgd (hr.mono (by decide)) rfl T.m_item T.F_item.kp T.b_item (ja_cons (je_pv 7) (ja_cons (je_pv 5) (ja_cons (je_pv 6) (ja_nil))))) (ja_nil)))))) (jss_one (js_ret (je_bl))) (jss_nil))))))) (jss_cons (js_asg (je_tup (ja_cons (je_call (ok__law_some T) hgd (hr.mono (by decide)) rfl T.m__law_some T.F__law_some.kp T.b__law_some (ja_cons (je_pv 1) (ja_cons (je_lst (ja_cons (je_int) (ja_cons (je_neg (je_int)) (ja_cons (je_non) (ja_cons (je_bl) (ja_cons (je_str) (ja_nil))))))) (ja_nil)))) (ja_cons (je_call (ok__law_some T) hgd (hr.mono (by decide)) rfl T.m__law_some T.F__law_some.kp T.b__law_some (ja_cons (je_pv 1) (ja_cons (je_lst (ja_cons (je_str) (ja_cons (je_str) (ja_cons (je_str) (ja_cons (je_non) (ja_cons (je_int) (ja_cons (je_tup (ja_cons (je_str) (ja_nil))) (ja_nil)))))))) (ja_nil)))) (ja_nil)))) (jg_tup rfl (jgs_cons (jg_name sc_law.nd (i := 8) rfl (.inr rfl)) (jgs_cons (jg_name sc_law.nd (i := 9) rfl (.inr rfl)) (jgs_nil))))) (jss_cons (js_set (i := 10) sc_law.nd rfl (.inl rfl) (je_lst (ja_cons (je_lam (k := 5) T.F__law_word rfl T.m__law_word T.b__law_word sc__law_word rfl (.inl rfl) (fun G' th f cdg s H hK hE hr act => by obtain ⟨gT, gfx, gcp, rfl⟩ := gd_cases hK hE; exact j__law_word (G := ⟨G.K, gT, G.ec, gfx, gcp⟩) T hgd (hr.mono (by decide)) act) TB hcode ht hq (hr.mono (by decide)) (LamX.lamS_by (sc := defScope s_law) (by decide +kernel)) rfl (fun _ _ _ _ _ => rfl) hgd (fun A outer s H E f c hgd hr => have hu := hr.units; je_call (ok_turned_table T) hgd (hr.mono (by decide)) rfl T.m_turned_table T.F_turned_table.kp T.b_turned_table (ja_cons (je_ix (je_pv 2) (je_int)) (ja_cons (je_pv 8) (ja_nil))))) (ja_nil)))) (jss_cons (js_expr (je_append (je_pv 10) (ja_cons (je_lam (k := 5) T.F__law_word rfl T.m__law_word T.b__law_word sc__law_word rfl (.inl rfl) (fun G' th f cdg s H hK hE hr act => by obtain ⟨gT, gfx, gcp, rfl⟩ := gd_cases hK hE; exact j__law_word (G := ⟨G.K, gT, G.ec, gfx, gcp⟩) T hgd (hr.mono (by decide)) act) TB hcode ht hq (hr.mono (by decide)) (LamX.lamS_by (sc := defScope s_law) (by decide +kernel)) rfl (fun _ _ _ _ _ => rfl) hgd (fun A outer s H E f c hgd hr => have hu := hr.units; je_call (ok_turned_table T) hgd (hr.mono (by decide)) rfl T.m_turned_table T.F_turned_table.kp T.b_turned_table (ja_cons (je_pv 9) (ja_cons (je_int) (ja_nil))))) (ja_nil)))) (jss_one (js_ret (je_eq hu (je_pv 10) (je_lst (ja_cons (je_str) (ja_cons (je_str) (ja_nil))))))))))))
def sp_law : PSp := fun xs S Q E => xs.length = 1 ∧ W_law (PD.fnD Q E) (startP N_law xs) S
theorem ok_law (T : Tx G.K G.ec mg) (TB : LamX.TabB base mg T.c_law T.P_law) (ht : (T.P_law, lamN "law") ∈ G.T) (hq : ∀ p ∈ G.T, p.1 = T.P_law → p.2 = lamN "law") : FnP G P w mg base 8 T.a_law T.d_law p_law sp_law :=
  fn_okD T.F_law sc_law (fun _ _ _ _ h => h.1) (fun cdv A outer s H E hc hgd hr => j_law T hgd hr (hc.symm.trans T.cd_law) TB ht hq) fun _ _ _ _ h => h.2
theorem all_mk {K : PySem.W.Frag} {h : Heap} {mg : Str → Option Value} {fa : Addr} {w : World} {P : Program} {ts : List Addr} (X : K.In h) (Gn : h.Ns mainGlobals mg) (hfa : mg "law" = some (.ref fa)) (TBs : ∀ P ∈ ts, h.get? P = some (PySem.W.tabObj #[]))
    {f_is_integer : Addr} {oc_is_integer kV_is_integer dc_is_integer pm_is_integer ct_is_integer : Value} {od_is_integer an_is_integer : Option Addr} {sl_is_integer : Array (Option Value)}
    {cd_is_integer : Value}
    {f_is_within : Addr} {oc_is_within kV_is_within dc_is_within pm_is_within ct_is_within : Value} {od_is_within an_is_within : Option Addr} {sl_is_within : Array (Option Value)}
    {cd_is_within : Value}
    {f_check_kind : Addr} {oc_check_kind kV_check_kind dc_check_kind pm_check_kind ct_check_kind : Value} {od_check_kind an_check_kind : Option Addr} {sl_check_kind : Array (Option Value)}
    {cd_check_kind : Value}
    {f_next_row : Addr} {oc_next_row kV_next_row dc_next_row pm_next_row ct_next_row : Value} {od_next_row an_next_row : Option Addr} {sl_next_row : Array (Option Value)}
    {cd_next_row : Value}
    {f_made : Addr} {oc_made kV_made dc_made pm_made ct_made : Value} {od_made an_made : Option Addr} {sl_made : Array (Option Value)}
    {cd_made : Value}
    {f_row_of : Addr} {oc_row_of kV_row_of dc_row_of pm_row_of ct_row_of : Value} {od_row_of an_row_of : Option Addr} {sl_row_of : Array (Option Value)}
    {cd_row_of : Value}
    {f_row : Addr} {oc_row kV_row dc_row pm_row ct_row : Value} {od_row an_row : Option Addr} {sl_row : Array (Option Value)}
    {cd_row : Value}
    {f_item : Addr} {oc_item kV_item dc_item pm_item ct_item : Value} {od_item an_item : Option Addr} {sl_item : Array (Option Value)}
    {cd_item : Value}
    {f_turned_table : Addr} {oc_turned_table kV_turned_table dc_turned_table pm_turned_table ct_turned_table : Value} {od_turned_table an_turned_table : Option Addr} {sl_turned_table : Array (Option Value)}
    {cd_turned_table : Value}
    {f__law_hand : Addr} {oc__law_hand kV__law_hand dc__law_hand pm__law_hand ct__law_hand : Value} {od__law_hand an__law_hand : Option Addr} {sl__law_hand : Array (Option Value)}
    {cd__law_hand : Value}
    {f__law_draw : Addr} {oc__law_draw kV__law_draw dc__law_draw pm__law_draw ct__law_draw : Value} {od__law_draw an__law_draw : Option Addr} {sl__law_draw : Array (Option Value)}
    {cd__law_draw : Value}
    {f__law_some : Addr} {oc__law_some kV__law_some dc__law_some pm__law_some ct__law_some : Value} {od__law_some an__law_some : Option Addr} {sl__law_some : Array (Option Value)}
    {cd__law_some : Value}
    {f__law_few : Addr} {oc__law_few kV__law_few dc__law_few pm__law_few ct__law_few : Value} {od__law_few an__law_few : Option Addr} {sl__law_few : Array (Option Value)}
    {cd__law_few : Value}
    {f__law_is : Addr} {oc__law_is kV__law_is dc__law_is pm__law_is ct__law_is : Value} {od__law_is an__law_is : Option Addr} {sl__law_is : Array (Option Value)}
    {cd__law_is : Value}
    {f__law_triangle : Addr} {oc__law_triangle kV__law_triangle dc__law_triangle pm__law_triangle ct__law_triangle : Value} {od__law_triangle an__law_triangle : Option Addr} {sl__law_triangle : Array (Option Value)}
    {cd__law_triangle : Value}
    {f__law_is_unit : Addr} {oc__law_is_unit kV__law_is_unit dc__law_is_unit pm__law_is_unit ct__law_is_unit : Value} {od__law_is_unit an__law_is_unit : Option Addr} {sl__law_is_unit : Array (Option Value)}
    {cd__law_is_unit : Value}
    {f__law_is_undone : Addr} {oc__law_is_undone kV__law_is_undone dc__law_is_undone pm__law_is_undone ct__law_is_undone : Value} {od__law_is_undone an__law_is_undone : Option Addr} {sl__law_is_undone : Array (Option Value)}
    {cd__law_is_undone : Value}
    {f__law_word : Addr} {oc__law_word kV__law_word dc__law_word pm__law_word ct__law_word : Value} {od__law_word an__law_word : Option Addr} {sl__law_word : Array (Option Value)}
    {cd__law_word : Value}
    {f_law : Addr} {oc_law kV_law dc_law pm_law ct_law : Value} {od_law an_law : Option Addr} {sl_law : Array (Option Value)}
    {c_law P_law : Addr}
    {u_KINDS : Addr} {to_KINDS : Obj} {tn_KINDS : Nat} {ti_KINDS_0 ti_KINDS_1 ti_KINDS_2 ti_KINDS_3 ti_KINDS_4 ti_KINDS_5 : Tok}
    {tk_CHOICES : Tok}
    {tk_CYCLES : Tok}
    {tk_LISTS : Tok}
    {tk_MOST_ROW : Tok}
    {tk_PARTS : Tok}
    {tk_RISES : Tok}
    {C_BadNumber : Addr}
    {C_BadWord : Addr}
    {C_TermError : Addr}
    (a_is_integer : PySem.W.nsIn K mainGlobals "is_integer" = some (some (.ref f_is_integer)))
    (l_is_integer : K.lookup f_is_integer = some ⟨oc_is_integer, od_is_integer, .func (PySem.W.fnOf "is_integer" "is_integer" (defArgs s_is_integer) (defBody s_is_integer) (defScope s_is_integer) .none kV_is_integer dc_is_integer pm_is_integer an_is_integer cd_is_integer ct_is_integer), sl_is_integer⟩)
    (c_is_integer : PySem.W.codeIn K cd_is_integer "is_integer" = true)
    (k_is_integer : PySem.W.keepIn K (.ref f_is_integer) = true)
    (a_is_within : PySem.W.nsIn K mainGlobals "is_within" = some (some (.ref f_is_within)))
    (l_is_within : K.lookup f_is_within = some ⟨oc_is_within, od_is_within, .func (PySem.W.fnOf "is_within" "is_within" (defArgs s_is_within) (defBody s_is_within) (defScope s_is_within) .none kV_is_within dc_is_within pm_is_within an_is_within cd_is_within ct_is_within), sl_is_within⟩)
    (c_is_within : PySem.W.codeIn K cd_is_within "is_within" = true)
    (k_is_within : PySem.W.keepIn K (.ref f_is_within) = true)
    (a_check_kind : PySem.W.nsIn K mainGlobals "check_kind" = some (some (.ref f_check_kind)))
    (l_check_kind : K.lookup f_check_kind = some ⟨oc_check_kind, od_check_kind, .func (PySem.W.fnOf "check_kind" "check_kind" (defArgs s_check_kind) (defBody s_check_kind) (defScope s_check_kind) .none kV_check_kind dc_check_kind pm_check_kind an_check_kind cd_check_kind ct_check_kind), sl_check_kind⟩)
    (c_check_kind : PySem.W.codeIn K cd_check_kind "check_kind" = true)
    (k_check_kind : PySem.W.keepIn K (.ref f_check_kind) = true)
    (a_next_row : PySem.W.nsIn K mainGlobals "next_row" = some (some (.ref f_next_row)))
    (l_next_row : K.lookup f_next_row = some ⟨oc_next_row, od_next_row, .func (PySem.W.fnOf "next_row" "next_row" (defArgs s_next_row) (defBody s_next_row) (defScope s_next_row) .none kV_next_row dc_next_row pm_next_row an_next_row cd_next_row ct_next_row), sl_next_row⟩)
    (c_next_row : PySem.W.codeIn K cd_next_row "next_row" = true)
    (k_next_row : PySem.W.keepIn K (.ref f_next_row) = true)
    (a_made : PySem.W.nsIn K mainGlobals "made" = some (some (.ref f_made)))
    (l_made : K.lookup f_made = some ⟨oc_made, od_made, .func (PySem.W.fnOf "made" "made" (defArgs s_made) (defBody s_made) (defScope s_made) .none kV_made dc_made pm_made an_made cd_made ct_made), sl_made⟩)
    (c_made : PySem.W.codeIn K cd_made "made" = true)
    (k_made : PySem.W.keepIn K (.ref f_made) = true)
    (a_row_of : PySem.W.nsIn K mainGlobals "row_of" = some (some (.ref f_row_of)))
    (l_row_of : K.lookup f_row_of = some ⟨oc_row_of, od_row_of, .func (PySem.W.fnOf "row_of" "row_of" (defArgs s_row_of) (defBody s_row_of) (defScope s_row_of) .none kV_row_of dc_row_of pm_row_of an_row_of cd_row_of ct_row_of), sl_row_of⟩)
    (c_row_of : PySem.W.codeIn K cd_row_of "row_of" = true)
    (k_row_of : PySem.W.keepIn K (.ref f_row_of) = true)
    (a_row : PySem.W.nsIn K mainGlobals "row" = some (some (.ref f_row)))
    (l_row : K.lookup f_row = some ⟨oc_row, od_row, .func (PySem.W.fnOf "row" "row" (defArgs s_row) (defBody s_row) (defScope s_row) .none kV_row dc_row pm_row an_row cd_row ct_row), sl_row⟩)
    (c_row : PySem.W.codeIn K cd_row "row" = true)
    (k_row : PySem.W.keepIn K (.ref f_row) = true)
    (a_item : PySem.W.nsIn K mainGlobals "item" = some (some (.ref f_item)))
    (l_item : K.lookup f_item = some ⟨oc_item, od_item, .func (PySem.W.fnOf "item" "item" (defArgs s_item) (defBody s_item) (defScope s_item) .none kV_item dc_item pm_item an_item cd_item ct_item), sl_item⟩)
    (c_item : PySem.W.codeIn K cd_item "item" = true)
    (k_item : PySem.W.keepIn K (.ref f_item) = true)
    (a_turned_table : PySem.W.nsIn K mainGlobals "turned_table" = some (some (.ref f_turned_table)))
    (l_turned_table : K.lookup f_turned_table = some ⟨oc_turned_table, od_turned_table, .func (PySem.W.fnOf "turned_table" "turned_table" (defArgs s_turned_table) (defBody s_turned_table) (defScope s_turned_table) .none kV_turned_table dc_turned_table pm_turned_table an_turned_table cd_turned_table ct_turned_table), sl_turned_table⟩)
    (c_turned_table : PySem.W.codeIn K cd_turned_table "turned_table" = true)
    (k_turned_table : PySem.W.keepIn K (.ref f_turned_table) = true)
    (a__law_hand : PySem.W.nsIn K mainGlobals "_law_hand" = some (some (.ref f__law_hand)))
    (l__law_hand : K.lookup f__law_hand = some ⟨oc__law_hand, od__law_hand, .func (PySem.W.fnOf "_law_hand" "_law_hand" (defArgs s__law_hand) (defBody s__law_hand) (defScope s__law_hand) .none kV__law_hand dc__law_hand pm__law_hand an__law_hand cd__law_hand ct__law_hand), sl__law_hand⟩)
    (c__law_hand : PySem.W.codeIn K cd__law_hand "_law_hand" = true)
    (k__law_hand : PySem.W.keepIn K (.ref f__law_hand) = true)
    (a__law_draw : PySem.W.nsIn K mainGlobals "_law_draw" = some (some (.ref f__law_draw)))
    (l__law_draw : K.lookup f__law_draw = some ⟨oc__law_draw, od__law_draw, .func (PySem.W.fnOf "_law_draw" "_law_draw" (defArgs s__law_draw) (defBody s__law_draw) (defScope s__law_draw) .none kV__law_draw dc__law_draw pm__law_draw an__law_draw cd__law_draw ct__law_draw), sl__law_draw⟩)
    (c__law_draw : PySem.W.codeIn K cd__law_draw "_law_draw" = true)
    (k__law_draw : PySem.W.keepIn K (.ref f__law_draw) = true)
    (a__law_some : PySem.W.nsIn K mainGlobals "_law_some" = some (some (.ref f__law_some)))
    (l__law_some : K.lookup f__law_some = some ⟨oc__law_some, od__law_some, .func (PySem.W.fnOf "_law_some" "_law_some" (defArgs s__law_some) (defBody s__law_some) (defScope s__law_some) .none kV__law_some dc__law_some pm__law_some an__law_some cd__law_some ct__law_some), sl__law_some⟩)
    (c__law_some : PySem.W.codeIn K cd__law_some "_law_some" = true)
    (k__law_some : PySem.W.keepIn K (.ref f__law_some) = true)
    (a__law_few : PySem.W.nsIn K mainGlobals "_law_few" = some (some (.ref f__law_few)))
    (l__law_few : K.lookup f__law_few = some ⟨oc__law_few, od__law_few, .func (PySem.W.fnOf "_law_few" "_law_few" (defArgs s__law_few) (defBody s__law_few) (defScope s__law_few) .none kV__law_few dc__law_few pm__law_few an__law_few cd__law_few ct__law_few), sl__law_few⟩)
    (c__law_few : PySem.W.codeIn K cd__law_few "_law_few" = true)
    (k__law_few : PySem.W.keepIn K (.ref f__law_few) = true)
    (a__law_is : PySem.W.nsIn K mainGlobals "_law_is" = some (some (.ref f__law_is)))
    (l__law_is : K.lookup f__law_is = some ⟨oc__law_is, od__law_is, .func (PySem.W.fnOf "_law_is" "_law_is" (defArgs s__law_is) (defBody s__law_is) (defScope s__law_is) .none kV__law_is dc__law_is pm__law_is an__law_is cd__law_is ct__law_is), sl__law_is⟩)
    (c__law_is : PySem.W.codeIn K cd__law_is "_law_is" = true)
    (k__law_is : PySem.W.keepIn K (.ref f__law_is) = true)
    (a__law_triangle : PySem.W.nsIn K mainGlobals "_law_triangle" = some (some (.ref f__law_triangle)))
    (l__law_triangle : K.lookup f__law_triangle = some ⟨oc__law_triangle, od__law_triangle, .func (PySem.W.fnOf "_law_triangle" "_law_triangle" (defArgs s__law_triangle) (defBody s__law_triangle) (defScope s__law_triangle) .none kV__law_triangle dc__law_triangle pm__law_triangle an__law_triangle cd__law_triangle ct__law_triangle), sl__law_triangle⟩)
    (c__law_triangle : PySem.W.codeIn K cd__law_triangle "_law_triangle" = true)
    (k__law_triangle : PySem.W.keepIn K (.ref f__law_triangle) = true)
    (a__law_is_unit : PySem.W.nsIn K mainGlobals "_law_is_unit" = some (some (.ref f__law_is_unit)))
    (l__law_is_unit : K.lookup f__law_is_unit = some ⟨oc__law_is_unit, od__law_is_unit, .func (PySem.W.fnOf "_law_is_unit" "_law_is_unit" (defArgs s__law_is_unit) (defBody s__law_is_unit) (defScope s__law_is_unit) .none kV__law_is_unit dc__law_is_unit pm__law_is_unit an__law_is_unit cd__law_is_unit ct__law_is_unit), sl__law_is_unit⟩)
    (c__law_is_unit : PySem.W.codeIn K cd__law_is_unit "_law_is_unit" = true)
    (k__law_is_unit : PySem.W.keepIn K (.ref f__law_is_unit) = true)
    (a__law_is_undone : PySem.W.nsIn K mainGlobals "_law_is_undone" = some (some (.ref f__law_is_undone)))
    (l__law_is_undone : K.lookup f__law_is_undone = some ⟨oc__law_is_undone, od__law_is_undone, .func (PySem.W.fnOf "_law_is_undone" "_law_is_undone" (defArgs s__law_is_undone) (defBody s__law_is_undone) (defScope s__law_is_undone) .none kV__law_is_undone dc__law_is_undone pm__law_is_undone an__law_is_undone cd__law_is_undone ct__law_is_undone), sl__law_is_undone⟩)
    (c__law_is_undone : PySem.W.codeIn K cd__law_is_undone "_law_is_undone" = true)
    (k__law_is_undone : PySem.W.keepIn K (.ref f__law_is_undone) = true)
    (a__law_word : PySem.W.nsIn K mainGlobals "_law_word" = some (some (.ref f__law_word)))
    (l__law_word : K.lookup f__law_word = some ⟨oc__law_word, od__law_word, .func (PySem.W.fnOf "_law_word" "_law_word" (defArgs s__law_word) (defBody s__law_word) (defScope s__law_word) .none kV__law_word dc__law_word pm__law_word an__law_word cd__law_word ct__law_word), sl__law_word⟩)
    (c__law_word : PySem.W.codeIn K cd__law_word "_law_word" = true)
    (k__law_word : PySem.W.keepIn K (.ref f__law_word) = true)
    (a_law : PySem.W.nsIn K mainGlobals "law" = some (some (.ref f_law)))
    (l_law : K.lookup f_law = some ⟨oc_law, od_law, .func (PySem.W.fnOf "law" "law" (defArgs s_law) (defBody s_law) (defScope s_law) .none kV_law dc_law pm_law an_law (.ref c_law) ct_law), sl_law⟩)
    (cc_law : PySem.W.codeIn K (.ref c_law) "law" = true)
    (k_law : PySem.W.keepIn K (.ref f_law) = true)
    (tm_law : P_law ∈ ts)
    (th_law : PySem.W.codeHdIn K c_law P_law = true)
    (tn_law : K.lookup P_law = none)
    (gt_KINDS : PySem.W.nsIn K mainGlobals "KINDS" = some (some (.ref u_KINDS)))
    (lt_KINDS : K.lookup u_KINDS = some to_KINDS ∧ to_KINDS.cls = .type "tuple" ∧ to_KINDS.data = .seq #[.str (PySem.Str.ofString "choices") ti_KINDS_0, .str (PySem.Str.ofString "parts") ti_KINDS_1, .str (PySem.Str.ofString "cycles") ti_KINDS_2, .str (PySem.Str.ofString "rises") ti_KINDS_3, .str (PySem.Str.ofString "lists") ti_KINDS_4, .str (PySem.Str.ofString "runs") ti_KINDS_5] tn_KINDS)
    (g_CHOICES : PySem.W.nsIn K mainGlobals "CHOICES" = some (some (.str (PySem.Str.ofString "choices") tk_CHOICES)))
    (g_CYCLES : PySem.W.nsIn K mainGlobals "CYCLES" = some (some (.str (PySem.Str.ofString "cycles") tk_CYCLES)))
    (g_LISTS : PySem.W.nsIn K mainGlobals "LISTS" = some (some (.str (PySem.Str.ofString "lists") tk_LISTS)))
    (g_MOST_ROW : PySem.W.nsIn K mainGlobals "MOST_ROW" = some (some (.int 200 tk_MOST_ROW)))
    (g_PARTS : PySem.W.nsIn K mainGlobals "PARTS" = some (some (.str (PySem.Str.ofString "parts") tk_PARTS)))
    (g_RISES : PySem.W.nsIn K mainGlobals "RISES" = some (some (.str (PySem.Str.ofString "rises") tk_RISES)))
    (z_abs : PySem.W.nsIn K mainGlobals "abs" = some none)
    (z_bool : PySem.W.nsIn K mainGlobals "bool" = some none)
    (z_enumerate : PySem.W.nsIn K mainGlobals "enumerate" = some none)
    (z_int : PySem.W.nsIn K mainGlobals "int" = some none)
    (z_isinstance : PySem.W.nsIn K mainGlobals "isinstance" = some none)
    (z_len : PySem.W.nsIn K mainGlobals "len" = some none)
    (z_list : PySem.W.nsIn K mainGlobals "list" = some none)
    (z_range : PySem.W.nsIn K mainGlobals "range" = some none)
    (z_repr : PySem.W.nsIn K mainGlobals "repr" = some none)
    (z_str : PySem.W.nsIn K mainGlobals "str" = some none)
    (z_sum : PySem.W.nsIn K mainGlobals "sum" = some none)
    (z_tuple : PySem.W.nsIn K mainGlobals "tuple" = some none)
    (aC_BadNumber : PySem.W.nsIn K mainGlobals "BadNumber" = some (some (.ref C_BadNumber)))
    (aC_BadWord : PySem.W.nsIn K mainGlobals "BadWord" = some (some (.ref C_BadWord)))
    (aC_TermError : PySem.W.nsIn K mainGlobals "TermError" = some (some (.ref C_TermError)))
    (ei_BadNumber : PySem.W.excIn K C_BadNumber [.type "ValueError", .type "Exception", .type "BaseException", .type "object"] "ValueError.__new__" = true)
    (kp_BadNumber : PySem.W.keepIn K (.ref C_BadNumber) = true)
    (sb_BadNumber : PySem.W.subIn K (.ref C_BadNumber) (.type "BaseException") = some true)
    (ty_BadNumber : PySem.W.typeIn K (.ref C_BadNumber) = some (.type "type"))
    (e1_BadNumber : PySem.W.findIn K (.ref C_BadNumber) "__getattribute__" = some (some (.builtin "BaseException.__getattribute__")))
    (e2_BadNumber : PySem.W.findIn K (.ref C_BadNumber) "__getattr__" = some none)
    (e4_BadNumber : PySem.W.hasDictIn K C_BadNumber = true)
    (e5_BadNumber : PySem.W.findIn K (.ref C_BadNumber) "__class__" = some (some (.builtin "object.__class__")))
    (e8_BadNumber : PySem.W.mroIn K C_BadNumber (.type "object") = some true)
    (ei_BadWord : PySem.W.excIn K C_BadWord [.type "ValueError", .type "Exception", .type "BaseException", .type "object"] "ValueError.__new__" = true)
    (kp_BadWord : PySem.W.keepIn K (.ref C_BadWord) = true)
    (sb_BadWord : PySem.W.subIn K (.ref C_BadWord) (.type "BaseException") = some true)
    (ty_BadWord : PySem.W.typeIn K (.ref C_BadWord) = some (.type "type"))
    (e1_BadWord : PySem.W.findIn K (.ref C_BadWord) "__getattribute__" = some (some (.builtin "BaseException.__getattribute__")))
    (e2_BadWord : PySem.W.findIn K (.ref C_BadWord) "__getattr__" = some none)
    (e4_BadWord : PySem.W.hasDictIn K C_BadWord = true)
    (e5_BadWord : PySem.W.findIn K (.ref C_BadWord) "__class__" = some (some (.builtin "object.__class__")))
    (e8_BadWord : PySem.W.mroIn K C_BadWord (.type "object") = some true)
    (e6 : PySem.W.specialIn K (.builtin "object.__class__") "__get__" = some (some (.builtin "getset_descriptor.__get__")))
    (e7 : PySem.W.takesIn K (.builtin "object.__class__") = some true)
    (x_BadNumber_TermError : PySem.W.exmOne K (.ref C_BadNumber) (.ref C_TermError) = some true)
    (x_BadWord_TermError : PySem.W.exmOne K (.ref C_BadWord) (.ref C_TermError) = some true)
    (y_BadNumber_BadNumber : PySem.W.kitOne K (.ref C_BadNumber) (.ref C_BadNumber) = some true)
    (y_BadWord_BadNumber : PySem.W.kitOne K (.ref C_BadWord) (.ref C_BadNumber) = some false)
    (y_BadNumber_BadWord : PySem.W.kitOne K (.ref C_BadNumber) (.ref C_BadWord) = some false)
    (y_BadWord_BadWord : PySem.W.kitOne K (.ref C_BadWord) (.ref C_BadWord) = some true)
    (nl : noLst K = true)
    : ∃ (cs : List (Addr × Addr × Str)) (fd : FuncData) (ec : Str → Option Addr), EndK K h cs ∧ (∀ (s : Shared) (u : Value), BindsTo s fd ⟨[u], []⟩ [("script", u)]) ∧
      ∀ base : Heap, K.In base → base.Ns mainGlobals mg → (∀ p ∈ cs, LamX.TabB base mg p.1 p.2.1) → FnP ⟨K, cs.map (·.2), ec, [], []⟩ P w mg base 8 fa fd ["script"] sp_law := by
  have ef : f_law = fa := by have e := (PySem.W.mg_of X Gn a_law).symm.trans hfa; cases e; rfl
  subst ef
  have T : ∃ T : Tx K (fun n => ([("BadNumber", C_BadNumber), ("BadWord", C_BadWord)] : List (Str × Addr)).lookup n) mg, T.a_law = f_law ∧ T.d_law.code = (.ref c_law) ∧ T.d_law = PySem.W.fnOf "law" "law" (defArgs s_law) (defBody s_law) (defScope s_law) .none kV_law dc_law pm_law an_law (.ref c_law) ct_law ∧ T.c_law = c_law ∧ T.P_law = P_law := ⟨{
    a_is_integer := f_is_integer
    d_is_integer := PySem.W.fnOf "is_integer" "is_integer" (defArgs s_is_integer) (defBody s_is_integer) (defScope s_is_integer) .none kV_is_integer dc_is_integer pm_is_integer an_is_integer cd_is_integer ct_is_integer
    F_is_integer := fun_mk (st := s_is_integer) l_is_integer c_is_integer k_is_integer
    m_is_integer := PySem.W.mg_of X Gn a_is_integer
    b_is_integer := (fun_mk (st := s_is_integer) l_is_integer c_is_integer k_is_integer).binds (ps := p_is_integer) fun _ _ _ _ _ _ us hl => match us, hl with | [_], _ => rfl
    a_is_within := f_is_within
    d_is_within := PySem.W.fnOf "is_within" "is_within" (defArgs s_is_within) (defBody s_is_within) (defScope s_is_within) .none kV_is_within dc_is_within pm_is_within an_is_within cd_is_within ct_is_within
    F_is_within := fun_mk (st := s_is_within) l_is_within c_is_within k_is_within
    m_is_within := PySem.W.mg_of X Gn a_is_within
    b_is_within := (fun_mk (st := s_is_within) l_is_within c_is_within k_is_within).binds (ps := p_is_within) fun _ _ _ _ _ _ us hl => match us, hl with | [_, _, _], _ => rfl
    a_check_kind := f_check_kind
    d_check_kind := PySem.W.fnOf "check_kind" "check_kind" (defArgs s_check_kind) (defBody s_check_kind) (defScope s_check_kind) .none kV_check_kind dc_check_kind pm_check_kind an_check_kind cd_check_kind ct_check_kind
    F_check_kind := fun_mk (st := s_check_kind) l_check_kind c_check_kind k_check_kind
    m_check_kind := PySem.W.mg_of X Gn a_check_kind
    b_check_kind := (fun_mk (st := s_check_kind) l_check_kind c_check_kind k_check_kind).binds (ps := p_check_kind) fun _ _ _ _ _ _ us hl => match us, hl with | [_], _ => rfl
    a_next_row := f_next_row
    d_next_row := PySem.W.fnOf "next_row" "next_row" (defArgs s_next_row) (defBody s_next_row) (defScope s_next_row) .none kV_next_row dc_next_row pm_next_row an_next_row cd_next_row ct_next_row
    F_next_row := fun_mk (st := s_next_row) l_next_row c_next_row k_next_row
    m_next_row := PySem.W.mg_of X Gn a_next_row
    b_next_row := (fun_mk (st := s_next_row) l_next_row c_next_row k_next_row).binds (ps := p_next_row) fun _ _ _ _ _ _ us hl => match us, hl with | [_, _, _], _ => rfl
    a_made := f_made
    d_made := PySem.W.fnOf "made" "made" (defArgs s_made) (defBody s_made) (defScope s_made) .none kV_made dc_made pm_made an_made cd_made ct_made
    F_made := fun_mk (st := s_made) l_made c_made k_made
    m_made := PySem.W.mg_of X Gn a_made
    b_made := (fun_mk (st := s_made) l_made c_made k_made).binds (ps := p_made) fun _ _ _ _ _ _ us hl => match us, hl with | [_, _, _, _, _], _ => rfl
    a_row_of := f_row_of
    d_row_of := PySem.W.fnOf "row_of" "row_of" (defArgs s_row_of) (defBody s_row_of) (defScope s_row_of) .none kV_row_of dc_row_of pm_row_of an_row_of cd_row_of ct_row_of
    F_row_of := fun_mk (st := s_row_of) l_row_of c_row_of k_row_of
    m_row_of := PySem.W.mg_of X Gn a_row_of
    b_row_of := (fun_mk (st := s_row_of) l_row_of c_row_of k_row_of).binds (ps := p_row_of) fun _ _ _ _ _ _ us hl => match us, hl with | [_, _], _ => rfl
    a_row := f_row
    d_row := PySem.W.fnOf "row" "row" (defArgs s_row) (defBody s_row) (defScope s_row) .none kV_row dc_row pm_row an_row cd_row ct_row
    F_row := fun_mk (st := s_row) l_row c_row k_row
    m_row := PySem.W.mg_of X Gn a_row
    b_row := (fun_mk (st := s_row) l_row c_row k_row).binds (ps := p_row) fun _ _ _ _ _ _ us hl => match us, hl with | [_, _], _ => rfl
    a_item := f_item
    d_item := PySem.W.fnOf "item" "item" (defArgs s_item) (defBody s_item) (defScope s_item) .none kV_item dc_item pm_item an_item cd_item ct_item
    F_item := fun_mk (st := s_item) l_item c_item k_item
    m_item := PySem.W.mg_of X Gn a_item
    b_item := (fun_mk (st := s_item) l_item c_item k_item).binds (ps := p_item) fun _ _ _ _ _ _ us hl => match us, hl with | [_, _, _], _ => rfl
    a_turned_table := f_turned_table
    d_turned_table := PySem.W.fnOf "turned_table" "turned_table" (defArgs s_turned_table) (defBody s_turned_table) (defScope s_turned_table) .none kV_turned_table dc_turned_table pm_turned_table an_turned_table cd_turned_table ct_turned_table
    F_turned_table := fun_mk (st := s_turned_table) l_turned_table c_turned_table k_turned_table
    m_turned_table := PySem.W.mg_of X Gn a_turned_table
    b_turned_table := (fun_mk (st := s_turned_table) l_turned_table c_turned_table k_turned_table).binds (ps := p_turned_table) fun _ _ _ _ _ _ us hl => match us, hl with | [_, _], _ => rfl
    a__law_hand := f__law_hand
    d__law_hand := PySem.W.fnOf "_law_hand" "_law_hand" (defArgs s__law_hand) (defBody s__law_hand) (defScope s__law_hand) .none kV__law_hand dc__law_hand pm__law_hand an__law_hand cd__law_hand ct__law_hand
    F__law_hand := fun_mk (st := s__law_hand) l__law_hand c__law_hand k__law_hand
    m__law_hand := PySem.W.mg_of X Gn a__law_hand
    b__law_hand := (fun_mk (st := s__law_hand) l__law_hand c__law_hand k__law_hand).binds (ps := p__law_hand) fun _ _ _ _ _ _ us hl => match us, hl with | [_], _ => rfl
    a__law_draw := f__law_draw
    d__law_draw := PySem.W.fnOf "_law_draw" "_law_draw" (defArgs s__law_draw) (defBody s__law_draw) (defScope s__law_draw) .none kV__law_draw dc__law_draw pm__law_draw an__law_draw cd__law_draw ct__law_draw
    F__law_draw := fun_mk (st := s__law_draw) l__law_draw c__law_draw k__law_draw
    m__law_draw := PySem.W.mg_of X Gn a__law_draw
    b__law_draw := (fun_mk (st := s__law_draw) l__law_draw c__law_draw k__law_draw).binds (ps := p__law_draw) fun _ _ _ _ _ _ us hl => match us, hl with | [_, _], _ => rfl
    a__law_some := f__law_some
    d__law_some := PySem.W.fnOf "_law_some" "_law_some" (defArgs s__law_some) (defBody s__law_some) (defScope s__law_some) .none kV__law_some dc__law_some pm__law_some an__law_some cd__law_some ct__law_some
    F__law_some := fun_mk (st := s__law_some) l__law_some c__law_some k__law_some
    m__law_some := PySem.W.mg_of X Gn a__law_some
    b__law_some := (fun_mk (st := s__law_some) l__law_some c__law_some k__law_some).binds (ps := p__law_some) fun _ _ _ _ _ _ us hl => match us, hl with | [_, _], _ => rfl
    a__law_few := f__law_few
    d__law_few := PySem.W.fnOf "_law_few" "_law_few" (defArgs s__law_few) (defBody s__law_few) (defScope s__law_few) .none kV__law_few dc__law_few pm__law_few an__law_few cd__law_few ct__law_few
    F__law_few := fun_mk (st := s__law_few) l__law_few c__law_few k__law_few
    m__law_few := PySem.W.mg_of X Gn a__law_few
    b__law_few := (fun_mk (st := s__law_few) l__law_few c__law_few k__law_few).binds (ps := p__law_few) fun _ _ _ _ _ _ us hl => match us, hl with | [_, _, _], _ => rfl
    a__law_is := f__law_is
    d__law_is := PySem.W.fnOf "_law_is" "_law_is" (defArgs s__law_is) (defBody s__law_is) (defScope s__law_is) .none kV__law_is dc__law_is pm__law_is an__law_is cd__law_is ct__law_is
    F__law_is := fun_mk (st := s__law_is) l__law_is c__law_is k__law_is
    m__law_is := PySem.W.mg_of X Gn a__law_is
    b__law_is := (fun_mk (st := s__law_is) l__law_is c__law_is k__law_is).binds (ps := p__law_is) fun _ _ _ _ _ _ us hl => match us, hl with | [_, _], _ => rfl
    a__law_triangle := f__law_triangle
    d__law_triangle := PySem.W.fnOf "_law_triangle" "_law_triangle" (defArgs s__law_triangle) (defBody s__law_triangle) (defScope s__law_triangle) .none kV__law_triangle dc__law_triangle pm__law_triangle an__law_triangle cd__law_triangle ct__law_triangle
    F__law_triangle := fun_mk (st := s__law_triangle) l__law_triangle c__law_triangle k__law_triangle
    m__law_triangle := PySem.W.mg_of X Gn a__law_triangle
    b__law_triangle := (fun_mk (st := s__law_triangle) l__law_triangle c__law_triangle k__law_triangle).binds (ps := p__law_triangle) fun _ _ _ _ _ _ us hl => match us, hl with | [_, _], _ => rfl
    a__law_is_unit := f__law_is_unit
    d__law_is_unit := PySem.W.fnOf "_law_is_unit" "_law_is_unit" (defArgs s__law_is_unit) (defBody s__law_is_unit) (defScope s__law_is_unit) .none kV__law_is_unit dc__law_is_unit pm__law_is_unit an__law_is_unit cd__law_is_unit ct__law_is_unit
    F__law_is_unit := fun_mk (st := s__law_is_unit) l__law_is_unit c__law_is_unit k__law_is_unit
    m__law_is_unit := PySem.W.mg_of X Gn a__law_is_unit
    b__law_is_unit := (fun_mk (st := s__law_is_unit) l__law_is_unit c__law_is_unit k__law_is_unit).binds (ps := p__law_is_unit) fun _ _ _ _ _ _ us hl => match us, hl with | [_, _], _ => rfl
    a__law_is_undone := f__law_is_undone
    d__law_is_undone := PySem.W.fnOf "_law_is_undone" "_law_is_undone" (defArgs s__law_is_undone) (defBody s__law_is_undone) (defScope s__law_is_undone) .none kV__law_is_undone dc__law_is_undone pm__law_is_undone an__law_is_undone cd__law_is_undone ct__law_is_undone
    F__law_is_undone := fun_mk (st := s__law_is_undone) l__law_is_undone c__law_is_undone k__law_is_undone
    m__law_is_undone := PySem.W.mg_of X Gn a__law_is_undone
    b__law_is_undone := (fun_mk (st := s__law_is_undone) l__law_is_undone c__law_is_undone k__law_is_undone).binds (ps := p__law_is_undone) fun _ _ _ _ _ _ us hl => match us, hl with | [_, _], _ => rfl
    a__law_word := f__law_word
    d__law_word := PySem.W.fnOf "_law_word" "_law_word" (defArgs s__law_word) (defBody s__law_word) (defScope s__law_word) .none kV__law_word dc__law_word pm__law_word an__law_word cd__law_word ct__law_word
    F__law_word := fun_mk (st := s__law_word) l__law_word c__law_word k__law_word
    m__law_word := PySem.W.mg_of X Gn a__law_word
    b__law_word := (fun_mk (st := s__law_word) l__law_word c__law_word k__law_word).binds (ps := p__law_word) fun _ _ _ _ _ _ us hl => match us, hl with | [_], _ => rfl
    a_law := f_law
    d_law := PySem.W.fnOf "law" "law" (defArgs s_law) (defBody s_law) (defScope s_law) .none kV_law dc_law pm_law an_law (.ref c_law) ct_law
    F_law := fun_mk (st := s_law) l_law cc_law k_law
    m_law := PySem.W.mg_of X Gn a_law
    b_law := (fun_mk (st := s_law) l_law cc_law k_law).binds (ps := p_law) fun _ _ _ _ _ _ us hl => match us, hl with | [_], _ => rfl
    c_law := c_law
    P_law := P_law
    cd_law := rfl
    u_KINDS := u_KINDS
    t_KINDS := ⟨PySem.W.mg_of X Gn gt_KINDS, [V.str (PySem.Str.ofString "choices"), V.str (PySem.Str.ofString "parts"), V.str (PySem.Str.ofString "cycles"), V.str (PySem.Str.ofString "rises"), V.str (PySem.Str.ofString "lists"), V.str (PySem.Str.ofString "runs")], fun H => .inr ⟨_, _, _, lt_KINDS.1, lt_KINDS.2.1, lt_KINDS.2.2, by simp [sizeLine], .cons ⟨_, rfl⟩ (.cons ⟨_, rfl⟩ (.cons ⟨_, rfl⟩ (.cons ⟨_, rfl⟩ (.cons ⟨_, rfl⟩ (.cons ⟨_, rfl⟩ (.nil))))))⟩, fun H => ⟨_, _, rfl, rfl, ⟨_, _, rfl, rfl, ⟨_, _, rfl, rfl, ⟨_, _, rfl, rfl, ⟨_, _, rfl, rfl, ⟨_, _, rfl, rfl, rfl⟩⟩⟩⟩⟩⟩⟩
    g_CHOICES := ⟨_, PySem.W.mg_of X Gn g_CHOICES⟩
    g_CYCLES := ⟨_, PySem.W.mg_of X Gn g_CYCLES⟩
    g_LISTS := ⟨_, PySem.W.mg_of X Gn g_LISTS⟩
    g_MOST_ROW := ⟨_, PySem.W.mg_of X Gn g_MOST_ROW⟩
    g_PARTS := ⟨_, PySem.W.mg_of X Gn g_PARTS⟩
    g_RISES := ⟨_, PySem.W.mg_of X Gn g_RISES⟩
    n_abs := PySem.W.mg_none_of X Gn z_abs
    n_bool := PySem.W.mg_none_of X Gn z_bool
    n_enumerate := PySem.W.mg_none_of X Gn z_enumerate
    n_int := PySem.W.mg_none_of X Gn z_int
    n_isinstance := PySem.W.mg_none_of X Gn z_isinstance
    n_len := PySem.W.mg_none_of X Gn z_len
    n_list := PySem.W.mg_none_of X Gn z_list
    n_range := PySem.W.mg_none_of X Gn z_range
    n_repr := PySem.W.mg_none_of X Gn z_repr
    n_str := PySem.W.mg_none_of X Gn z_str
    n_sum := PySem.W.mg_none_of X Gn z_sum
    n_tuple := PySem.W.mg_none_of X Gn z_tuple
    C_BadNumber := C_BadNumber
    m_BadNumber := PySem.W.mg_of X Gn aC_BadNumber
    C_BadWord := C_BadWord
    m_BadWord := PySem.W.mg_of X Gn aC_BadWord
    C_TermError := C_TermError
    m_TermError := PySem.W.mg_of X Gn aC_TermError
    x_BadNumber := ⟨by first | rfl | decide | simp, ei_BadNumber, PySem.W.mg_of X Gn aC_BadNumber, kp_BadNumber, sb_BadNumber, ty_BadNumber⟩
    x_BadWord := ⟨by first | rfl | decide | simp, ei_BadWord, PySem.W.mg_of X Gn aC_BadWord, kp_BadWord, sb_BadWord, ty_BadWord⟩
    hs_TermError := ec_all (List.forall_mem_cons.mpr ⟨x_BadNumber_TermError.trans (congrArg some (by decide +kernel : true = sub "BadNumber" "TermError")), List.forall_mem_cons.mpr ⟨x_BadWord_TermError.trans (congrArg some (by decide +kernel : true = sub "BadWord" "TermError")), List.forall_mem_nil _⟩⟩)
    ks_BadNumber := ec_all (List.forall_mem_cons.mpr ⟨y_BadNumber_BadNumber.trans (congrArg some (by decide +kernel : true = sub "BadNumber" "BadNumber")), List.forall_mem_cons.mpr ⟨y_BadWord_BadNumber.trans (congrArg some (by decide +kernel : false = sub "BadWord" "BadNumber")), List.forall_mem_nil _⟩⟩)
    ks_BadWord := ec_all (List.forall_mem_cons.mpr ⟨y_BadNumber_BadWord.trans (congrArg some (by decide +kernel : false = sub "BadNumber" "BadWord")), List.forall_mem_cons.mpr ⟨y_BadWord_BadWord.trans (congrArg some (by decide +kernel : true = sub "BadWord" "BadWord")), List.forall_mem_nil _⟩⟩)
    exc := ec_all (List.forall_mem_cons.mpr ⟨⟨e1_BadNumber, e2_BadNumber, sb_BadNumber, e4_BadNumber, e5_BadNumber, e6, e7, e8_BadNumber⟩, List.forall_mem_cons.mpr ⟨⟨e1_BadWord, e2_BadWord, sb_BadWord, e4_BadWord, e5_BadWord, e6, e7, e8_BadWord⟩, List.forall_mem_nil _⟩⟩)
  }, rfl, rfl, rfl, rfl, rfl⟩
  obtain ⟨T, e1, e2, e3, e4, e5⟩ := T
  refine ⟨[(c_law, P_law, lamN "law")], T.d_law, fun n => ([("BadNumber", C_BadNumber), ("BadWord", C_BadWord)] : List (Str × Addr)).lookup n, ⟨nl, List.forall_mem_cons.mpr ⟨⟨PySem.W.codeHd_of_K X th_law, TBs _ tm_law⟩, List.forall_mem_nil _⟩, List.forall_mem_cons.mpr ⟨tn_law, List.forall_mem_nil _⟩⟩, ?_, fun base h1 h2 h3 => ?_⟩
  rotate_left
  · rw [← e1]
    refine ok_law (G := ⟨K, _, _, [], []⟩) T ?_ ?_ ?_
    · rw [e4, e5]; exact h3 _ List.mem_cons_self
    · rw [e5]; exact List.mem_cons_self
    · intro p hp _; rw [List.mem_singleton.mp hp]
  · rw [e3]; exact fun s u => .of_eq rfl
end L3

set_option Elab.async false
set_option linter.all false
set_option maxRecDepth 100000
set_option maxHeartbeats 600000
namespace L3
open PySem PySem.Spec L2
open PyProof.Rows hiding St
local macro_rules | `(tactic| walk_at "e1") => `(tactic| first
  | (with_reducible refine e_cons ?_)
  | (with_reducible refine e_nil ?_)
  | ((with_reducible refine' e_v ?hv ?_); (case hv => exact rfl))
  | (with_reducible refine e_c ?_)
  | (with_reducible refine e_call ?_)
  | (with_reducible refine e_cb ?_)
  | (with_reducible refine e_op ?_)
  | (with_reducible refine e_un ?_)
  | (with_reducible refine e_test ?_)
  | (with_reducible refine tk ?_)
  | (with_reducible refine e_tru ?_)
  | (with_reducible refine tr_bl ?_)
  | (with_reducible refine e_add ?_)
  | (with_reducible refine e_sub ?_)
  | (with_reducible refine e_neg ?_)
  | (with_reducible refine e_lt ?_)
  | (with_reducible refine e_le ?_)
  | (with_reducible refine e_gt ?_)
  | (with_reducible refine e_ge ?_)
  | (with_reducible refine e_eqI ?_)
  | (with_reducible refine e_neI ?_)
  | (with_reducible refine e_eqS ?_)
  | (with_reducible refine e_neS ?_)
  | (with_reducible refine e_notT ?_)
  | (with_reducible refine e_andT ?_)
  | (with_reducible refine e_orT ?_)
  | (with_reducible refine e_andV ?_)
  | (with_reducible refine e_orV ?_)
  | (with_reducible refine e_notV ?_)
  | (with_reducible refine ot_bl ?_)
  | (with_reducible refine e_ifE ?_)
  | (with_reducible refine c_int ?_)
  | (with_reducible refine c_intB ?_)
  | (with_reducible refine c_abs ?_)
  | (with_reducible refine c_lenT ?_)
  | (with_reducible refine c_tupT ?_)
  | (with_reducible refine if_t ?_)
  | (with_reducible refine if_f ?_)
  | (with_reducible refine if_nt ?_)
  | (with_reducible refine if_nf ?_))
local macro_rules | `(tactic| walk_at "e") => `(tactic| repeat walk_at "e1")
local macro_rules | `(tactic| walk_at "ds") => `(tactic| try dsimp only [List.set_cons_succ, List.set_cons_zero])
local macro_rules | `(tactic| walk_at "T") => `(tactic| ((first | refine ifT ?h ?_ | refine ifnT ?h ?_); (case h => first | omega | decide +kernel | assumption)))
local macro_rules | `(tactic| walk_at "F") => `(tactic| ((first | refine ifF ?h ?_ | refine ifnF ?h ?_); (case h => first | omega | decide +kernel | assumption)))
local macro_rules | `(tactic| walk_at "if") => `(tactic| (refine s_seq (s_if ?_); walk_at "e"))
local macro_rules | `(tactic| walk_at "if0") => `(tactic| (refine s_if ?_; walk_at "e"))
local macro_rules | `(tactic| walk_at "set") => `(tactic| (refine s_seq (s_set ?_); walk_at "e"))
local macro_rules | `(tactic| walk_at "set0") => `(tactic| (refine s_set ?_; walk_at "e"))
local macro_rules | `(tactic| walk_at "ex") => `(tactic| (refine s_seq (s_expr ?_); walk_at "e"))
local macro_rules | `(tactic| walk_at "ret") => `(tactic| (refine s_ret ?_; walk_at "e"))
local macro_rules | `(tactic| walk_at "nx") => `(tactic| (refine s_next ?_; walk_at "ds"))
def isInt : PV → Bool
  | .int _ => true
  | _ => false
def inR (x : PV) (lo hi : Int) : Bool := match x with
  | .int i => decide (lo ≤ i) && decide (i ≤ hi)
  | _ => false
theorem r_is_integer {x : PV} {S : Sto} {Q : KE} {E : KX} (hx : flatP x = true) (h : Q (.bl (isInt x)) S) : sp_is_integer [x] S Q E := by
  refine ⟨rfl, ?_⟩
  rw [eW_is_integer, st_is_integer]
  refine s_ret ?_
  cases x with
  | non => simp only [wV, wC, wOp, wUn, oI, oAdd, oSub, oMul, oFdiv, oMod, oPow, oNeg, oLt, oLe, oGt, oGe, oEqN, oIsN, isNon, wTest, wChain, wTru, oTru, wNot, wAnd, wOr, wAndV, wOrV, wNotV, wIfE, wNil, wCons, wTup, wLst, wCB, cLen, cInt, cAbs, cMax2, cMin2, cSum, cSum2, cMaxL, cMinL, cAll, cAny, cList, cTuple, cStr, tyN, cIsi, cReprB, oIx, wNoP, wPart, oSl, wSl, oRevL, wBM, wBM0, tyP, mAppend, mExtend, mPop, mCount, mIndex, wCall, gN, gNil', gCons', gTup', gSub', oSet, iSeq, oIter, iRange1, iRange2, wLc, wipeP, wYes, wIsE, fnD_rt, fnD_ex, fnD_nx, List.getElem?_cons_zero, List.getElem?_cons_succ, List.set_cons_zero, List.set_cons_succ, Bool.false_xor, Bool.true_xor, if_true, if_false, ite_true, ite_false, reduceIte, Bool.false_eq_true, decide_eq_true_eq, decide_true, decide_false, Bool.not_true, Bool.not_false, Bool.not_eq_true', and_true, true_and]; exact ⟨_, _, rfl, rfl, dn_same h⟩
  | bl b => simp only [wV, wC, wOp, wUn, oI, oAdd, oSub, oMul, oFdiv, oMod, oPow, oNeg, oLt, oLe, oGt, oGe, oEqN, oIsN, isNon, wTest, wChain, wTru, oTru, wNot, wAnd, wOr, wAndV, wOrV, wNotV, wIfE, wNil, wCons, wTup, wLst, wCB, cLen, cInt, cAbs, cMax2, cMin2, cSum, cSum2, cMaxL, cMinL, cAll, cAny, cList, cTuple, cStr, tyN, cIsi, cReprB, oIx, wNoP, wPart, oSl, wSl, oRevL, wBM, wBM0, tyP, mAppend, mExtend, mPop, mCount, mIndex, wCall, gN, gNil', gCons', gTup', gSub', oSet, iSeq, oIter, iRange1, iRange2, wLc, wipeP, wYes, wIsE, fnD_rt, fnD_ex, fnD_nx, List.getElem?_cons_zero, List.getElem?_cons_succ, List.set_cons_zero, List.set_cons_succ, Bool.false_xor, Bool.true_xor, if_true, if_false, ite_true, ite_false, reduceIte, Bool.false_eq_true, decide_eq_true_eq, decide_true, decide_false, Bool.not_true, Bool.not_false, Bool.not_eq_true', and_true, true_and]; exact ⟨_, _, rfl, rfl, _, _, rfl, rfl, dn_same h⟩
  | int i => simp only [wV, wC, wOp, wUn, oI, oAdd, oSub, oMul, oFdiv, oMod, oPow, oNeg, oLt, oLe, oGt, oGe, oEqN, oIsN, isNon, wTest, wChain, wTru, oTru, wNot, wAnd, wOr, wAndV, wOrV, wNotV, wIfE, wNil, wCons, wTup, wLst, wCB, cLen, cInt, cAbs, cMax2, cMin2, cSum, cSum2, cMaxL, cMinL, cAll, cAny, cList, cTuple, cStr, tyN, cIsi, cReprB, oIx, wNoP, wPart, oSl, wSl, oRevL, wBM, wBM0, tyP, mAppend, mExtend, mPop, mCount, mIndex, wCall, gN, gNil', gCons', gTup', gSub', oSet, iSeq, oIter, iRange1, iRange2, wLc, wipeP, wYes, wIsE, fnD_rt, fnD_ex, fnD_nx, List.getElem?_cons_zero, List.getElem?_cons_succ, List.set_cons_zero, List.set_cons_succ, Bool.false_xor, Bool.true_xor, if_true, if_false, ite_true, ite_false, reduceIte, Bool.false_eq_true, decide_eq_true_eq, decide_true, decide_false, Bool.not_true, Bool.not_false, Bool.not_eq_true', and_true, true_and]; exact ⟨_, _, rfl, rfl, _, _, rfl, rfl, dn_same h⟩
  | str z => simp only [wV, wC, wOp, wUn, oI, oAdd, oSub, oMul, oFdiv, oMod, oPow, oNeg, oLt, oLe, oGt, oGe, oEqN, oIsN, isNon, wTest, wChain, wTru, oTru, wNot, wAnd, wOr, wAndV, wOrV, wNotV, wIfE, wNil, wCons, wTup, wLst, wCB, cLen, cInt, cAbs, cMax2, cMin2, cSum, cSum2, cMaxL, cMinL, cAll, cAny, cList, cTuple, cStr, tyN, cIsi, cReprB, oIx, wNoP, wPart, oSl, wSl, oRevL, wBM, wBM0, tyP, mAppend, mExtend, mPop, mCount, mIndex, wCall, gN, gNil', gCons', gTup', gSub', oSet, iSeq, oIter, iRange1, iRange2, wLc, wipeP, wYes, wIsE, fnD_rt, fnD_ex, fnD_nx, List.getElem?_cons_zero, List.getElem?_cons_succ, List.set_cons_zero, List.set_cons_succ, Bool.false_xor, Bool.true_xor, if_true, if_false, ite_true, ite_false, reduceIte, Bool.false_eq_true, decide_eq_true_eq, decide_true, decide_false, Bool.not_true, Bool.not_false, Bool.not_eq_true', and_true, true_and]; exact ⟨_, _, rfl, rfl, dn_same h⟩
  | _ => cases hx
theorem r_is_within {x : PV} {lo hi : Int} {S : Sto} {Q : KE} {E : KX} (hx : flatP x = true) (h : Q (.bl (inR x lo hi)) S) : sp_is_within [x, .int lo, .int hi] S Q E := by
  refine ⟨rfl, ?_⟩
  rw [eW_is_within, st_is_within]
  refine s_ret ?_
  simp only [wV, wC, wOp, wUn, oI, oAdd, oSub, oMul, oFdiv, oMod, oPow, oNeg, oLt, oLe, oGt, oGe, oEqN, oIsN, isNon, wTest, wChain, wTru, oTru, wNot, wAnd, wOr, wAndV, wOrV, wNotV, wIfE, wNil, wCons, wTup, wLst, wCB, cLen, cInt, cAbs, cMax2, cMin2, cSum, cSum2, cMaxL, cMinL, cAll, cAny, cList, cTuple, cStr, tyN, cIsi, cReprB, oIx, wNoP, wPart, oSl, wSl, oRevL, wBM, wBM0, tyP, mAppend, mExtend, mPop, mCount, mIndex, wCall, gN, gNil', gCons', gTup', gSub', oSet, iSeq, oIter, iRange1, iRange2, wLc, wipeP, wYes, wIsE, fnD_rt, fnD_ex, fnD_nx, List.getElem?_cons_zero, List.getElem?_cons_succ, List.set_cons_zero, List.set_cons_succ, Bool.false_xor, Bool.true_xor, if_true, if_false, ite_true, ite_false, reduceIte, Bool.false_eq_true, decide_eq_true_eq, decide_true, decide_false, Bool.not_true, Bool.not_false, Bool.not_eq_true', and_true, true_and]
  refine r_is_integer hx ?_
  cases x with
  | int i =>
    simp only [isInt, wV, wC, wOp, wUn, oI, oAdd, oSub, oMul, oFdiv, oMod, oPow, oNeg, oLt, oLe, oGt, oGe, oEqN, oIsN, isNon, wTest, wChain, wTru, oTru, wNot, wAnd, wOr, wAndV, wOrV, wNotV, wIfE, wNil, wCons, wTup, wLst, wCB, cLen, cInt, cAbs, cMax2, cMin2, cSum, cSum2, cMaxL, cMinL, cAll, cAny, cList, cTuple, cStr, tyN, cIsi, cReprB, oIx, wNoP, wPart, oSl, wSl, oRevL, wBM, wBM0, tyP, mAppend, mExtend, mPop, mCount, mIndex, wCall, gN, gNil', gCons', gTup', gSub', oSet, iSeq, oIter, iRange1, iRange2, wLc, wipeP, wYes, wIsE, fnD_rt, fnD_ex, fnD_nx, List.getElem?_cons_zero, List.getElem?_cons_succ, List.set_cons_zero, List.set_cons_succ, Bool.false_xor, Bool.true_xor, if_true, if_false, ite_true, ite_false, reduceIte, Bool.false_eq_true, decide_eq_true_eq, decide_true, decide_false, Bool.not_true, Bool.not_false, Bool.not_eq_true', and_true, true_and]
    by_cases h1 : lo ≤ i
    · simp only [h1, decide_true]
      refine dn_same ?_
      simpa only [inR, h1, decide_true, Bool.true_and] using h
    · simp only [h1, decide_false]
      refine dn_same ?_
      simpa only [inR, h1, decide_false, Bool.false_and] using h
  | non => simp only [isInt, wV, wC, wOp, wUn, oI, oAdd, oSub, oMul, oFdiv, oMod, oPow, oNeg, oLt, oLe, oGt, oGe, oEqN, oIsN, isNon, wTest, wChain, wTru, oTru, wNot, wAnd, wOr, wAndV, wOrV, wNotV, wIfE, wNil, wCons, wTup, wLst, wCB, cLen, cInt, cAbs, cMax2, cMin2, cSum, cSum2, cMaxL, cMinL, cAll, cAny, cList, cTuple, cStr, tyN, cIsi, cReprB, oIx, wNoP, wPart, oSl, wSl, oRevL, wBM, wBM0, tyP, mAppend, mExtend, mPop, mCount, mIndex, wCall, gN, gNil', gCons', gTup', gSub', oSet, iSeq, oIter, iRange1, iRange2, wLc, wipeP, wYes, wIsE, fnD_rt, fnD_ex, fnD_nx, List.getElem?_cons_zero, List.getElem?_cons_succ, List.set_cons_zero, List.set_cons_succ, Bool.false_xor, Bool.true_xor, if_true, if_false, ite_true, ite_false, reduceIte, Bool.false_eq_true, decide_eq_true_eq, decide_true, decide_false, Bool.not_true, Bool.not_false, Bool.not_eq_true', and_true, true_and]; exact dn_same h
  | bl b => simp only [isInt, wV, wC, wOp, wUn, oI, oAdd, oSub, oMul, oFdiv, oMod, oPow, oNeg, oLt, oLe, oGt, oGe, oEqN, oIsN, isNon, wTest, wChain, wTru, oTru, wNot, wAnd, wOr, wAndV, wOrV, wNotV, wIfE, wNil, wCons, wTup, wLst, wCB, cLen, cInt, cAbs, cMax2, cMin2, cSum, cSum2, cMaxL, cMinL, cAll, cAny, cList, cTuple, cStr, tyN, cIsi, cReprB, oIx, wNoP, wPart, oSl, wSl, oRevL, wBM, wBM0, tyP, mAppend, mExtend, mPop, mCount, mIndex, wCall, gN, gNil', gCons', gTup', gSub', oSet, iSeq, oIter, iRange1, iRange2, wLc, wipeP, wYes, wIsE, fnD_rt, fnD_ex, fnD_nx, List.getElem?_cons_zero, List.getElem?_cons_succ, List.set_cons_zero, List.set_cons_succ, Bool.false_xor, Bool.true_xor, if_true, if_false, ite_true, ite_false, reduceIte, Bool.false_eq_true, decide_eq_true_eq, decide_true, decide_false, Bool.not_true, Bool.not_false, Bool.not_eq_true', and_true, true_and]; exact dn_same h
  | str z => simp only [isInt, wV, wC, wOp, wUn, oI, oAdd, oSub, oMul, oFdiv, oMod, oPow, oNeg, oLt, oLe, oGt, oGe, oEqN, oIsN, isNon, wTest, wChain, wTru, oTru, wNot, wAnd, wOr, wAndV, wOrV, wNotV, wIfE, wNil, wCons, wTup, wLst, wCB, cLen, cInt, cAbs, cMax2, cMin2, cSum, cSum2, cMaxL, cMinL, cAll, cAny, cList, cTuple, cStr, tyN, cIsi, cReprB, oIx, wNoP, wPart, oSl, wSl, oRevL, wBM, wBM0, tyP, mAppend, mExtend, mPop, mCount, mIndex, wCall, gN, gNil', gCons', gTup', gSub', oSet, iSeq, oIter, iRange1, iRange2, wLc, wipeP, wYes, wIsE, fnD_rt, fnD_ex, fnD_nx, List.getElem?_cons_zero, List.getElem?_cons_succ, List.set_cons_zero, List.set_cons_succ, Bool.false_xor, Bool.true_xor, if_true, if_false, ite_true, ite_false, reduceIte, Bool.false_eq_true, decide_eq_true_eq, decide_true, decide_false, Bool.not_true, Bool.not_false, Bool.not_eq_true', and_true, true_and]; exact dn_same h
  | _ => cases hx
theorem lc_mapP {ε : PEnv} {S : Sto} {keep : Sto → Prop} {g : WG} {we : WE} {K : List PV → Sto → Prop} (I : Sto → Prop) (l : List PV) (f : PV → PV) (hl : l.length ≤ sizeLine) (hk : ∀ S, I S → keep S)
    (el : ∀ a ∈ l, ∀ (S : Sto) (C : KE), I S → (∀ S', I S' → C (f a) S') → g a ε S fun ε2 S2 => we ε2 S2 C (fun _ _ => False))
    (fin : ∀ S', I S' → K (l.map f) S') (hI : I S) : lcW keep g wYes we ε K l [] S := by
  have z := lc_map (α := PV) (ε := ε) I l id f hl hk el fin hI
  rw [List.map_id] at z
  exact z
theorem range_get {lo : Int} {n k : Nat} {x : PV} (h : (rangeP lo n)[k]? = some x) : x = .int (lo + (k : Nat)) ∧ k < n := by
  rw [rangeP_map, List.getElem?_map] at h
  cases e : (List.range n)[k]? with
  | none => rw [e] at h; cases h
  | some j =>
    rw [e] at h
    have hk := (List.getElem?_eq_some_iff.mp e).1
    rw [List.length_range] at hk
    rw [List.getElem?_range hk] at e
    cases e; cases h
    exact ⟨rfl, hk⟩
theorem cut_ints {ns : List Int} {lo hi : Option Int} : ∃ ms : List Int, cutP (ns.map PV.int) lo hi = ms.map PV.int := by
  unfold cutP
  exact ⟨_, by rw [← List.map_drop, ← List.map_take]⟩
theorem flat_ints (ns : List Int) : (ns.map PV.int).all flatP = true := by
  rw [List.all_map, List.all_eq_true]; intro _ _; rfl
theorem r_law_some {h b : Addr} {xs : List PV} {S : Sto} {Q : KE} {E : KX} (hS : S h = some .hand) (hb : RdL S b xs) (h1 : 0 < xs.length) (h2 : xs.length < 2 ^ 64) (hq : ∀ v ∈ xs, Q v S) : sp__law_some [.ref h, .ref b] S Q E := by
  refine ⟨rfl, ?_⟩
  rw [eW__law_some, st__law_some]
  refine s_ret ?_
  try simp only [wV, wC, wOp, wUn, oI, oAdd, oSub, oMul, oFdiv, oMod, oPow, oNeg, oLt, oLe, oGt, oGe, oEqN, oIsN, isNon, wTest, wChain, wTru, oTru, wNot, wAnd, wOr, wAndV, wOrV, wNotV, wIfE, wNil, wCons, wTup, wLst, wCB, cLen, cInt, cAbs, cMax2, cMin2, cSum, cSum2, cMaxL, cMinL, cAll, cAny, cList, cTuple, cStr, tyN, cIsi, cReprB, oIx, wNoP, wPart, oSl, wSl, oRevL, wBM, wBM0, tyP, mAppend, mExtend, mPop, mCount, mIndex, wCall, gN, gNil', gCons', gTup', gSub', oSet, iSeq, oIter, iRange1, iRange2, wLc, wipeP, wYes, wIsE, fnD_rt, fnD_ex, fnD_nx, List.getElem?_cons_zero, List.getElem?_cons_succ, List.set_cons_zero, List.set_cons_succ, Bool.false_xor, Bool.true_xor, if_true, if_false, ite_true, ite_false, reduceIte, Bool.false_eq_true, decide_eq_true_eq, decide_true, decide_false, Bool.not_true, Bool.not_false, Bool.not_eq_true', and_true, true_and]
  refine ⟨_, hb, ?_⟩
  refine ⟨h, _, rfl, hS, by omega, by omega, fun d h0 hd => ?_⟩
  obtain ⟨j, rfl⟩ : ∃ j : Nat, d = (j : Int) := ⟨d.toNat, by omega⟩
  have hj : j < xs.length := by omega
  refine ⟨xs, xs[j], hb, atI_nat (List.getElem?_eq_getElem hj), dn_same (hq _ (List.getElem_mem hj))⟩
theorem r_draw {h : Addr} {n : Int} {S : Sto} {Q : KE} {E : KX} (hS : S h = some .hand) (h1 : 0 < n) (h2 : n < 2 ^ 64) (hq : ∀ d : Int, 0 ≤ d → d < n → Q (.int d) S) : sp__law_draw [.ref h, .int n] S Q E :=
  ⟨h, n, rfl, hS, h1, h2, hq⟩
theorem within_ok {k : Nat} {hi : Int} (h : (k : Int) ≤ hi) : inR (.int k) 0 hi = true := by simp only [inR, Bool.and_eq_true, decide_eq_true_eq]; omega
theorem r_within {k lo hi : Int} {S : Sto} {Q : KE} {E : KX} (h1 : lo ≤ k) (h2 : k ≤ hi) (h : Q (.bl true) S) : sp_is_within [.int k, .int lo, .int hi] S Q E := by
  refine r_is_within rfl ?_
  rw [show inR (.int k) lo hi = true from by simp only [inR, Bool.and_eq_true, decide_eq_true_eq]; omega]
  exact h
theorem r_integer {k : Int} {S : Sto} {Q : KE} {E : KX} (h : Q (.bl true) S) : sp_is_integer [.int k] S Q E := r_is_integer rfl h

end L3

set_option Elab.async false
set_option linter.all false
set_option maxRecDepth 100000
set_option maxHeartbeats 600000
namespace L3
open PySem PySem.Spec L2
open PyProof.Rows hiding St
local macro_rules | `(tactic| walk_at "e1") => `(tactic| first
  | (with_reducible refine e_cons ?_)
  | (with_reducible refine e_nil ?_)
  | ((with_reducible refine' e_v ?hv ?_); (case hv => exact rfl))
  | (with_reducible refine e_c ?_)
  | (with_reducible refine e_call ?_)
  | (with_reducible refine e_cb ?_)
  | (with_reducible refine e_op ?_)
  | (with_reducible refine e_un ?_)
  | (with_reducible refine e_test ?_)
  | (with_reducible refine tk ?_)
  | (with_reducible refine e_tru ?_)
  | (with_reducible refine tr_bl ?_)
  | (with_reducible refine e_add ?_)
  | (with_reducible refine e_sub ?_)
  | (with_reducible refine e_neg ?_)
  | (with_reducible refine e_lt ?_)
  | (with_reducible refine e_le ?_)
  | (with_reducible refine e_gt ?_)
  | (with_reducible refine e_ge ?_)
  | (with_reducible refine e_eqI ?_)
  | (with_reducible refine e_neI ?_)
  | (with_reducible refine e_eqS ?_)
  | (with_reducible refine e_neS ?_)
  | (with_reducible refine e_notT ?_)
  | (with_reducible refine e_andT ?_)
  | (with_reducible refine e_orT ?_)
  | (with_reducible refine e_andV ?_)
  | (with_reducible refine e_orV ?_)
  | (with_reducible refine e_notV ?_)
  | (with_reducible refine ot_bl ?_)
  | (with_reducible refine e_ifE ?_)
  | (with_reducible refine c_int ?_)
  | (with_reducible refine c_intB ?_)
  | (with_reducible refine c_abs ?_)
  | (with_reducible refine c_lenT ?_)
  | (with_reducible refine c_tupT ?_)
  | (with_reducible refine if_t ?_)
  | (with_reducible refine if_f ?_)
  | (with_reducible refine if_nt ?_)
  | (with_reducible refine if_nf ?_))
local macro_rules | `(tactic| walk_at "e") => `(tactic| repeat walk_at "e1")
local macro_rules | `(tactic| walk_at "ds") => `(tactic| try dsimp only [List.set_cons_succ, List.set_cons_zero])
local macro_rules | `(tactic| walk_at "T") => `(tactic| ((first | refine ifT ?h ?_ | refine ifnT ?h ?_); (case h => first | omega | decide +kernel | assumption)))
local macro_rules | `(tactic| walk_at "F") => `(tactic| ((first | refine ifF ?h ?_ | refine ifnF ?h ?_); (case h => first | omega | decide +kernel | assumption)))
local macro_rules | `(tactic| walk_at "if") => `(tactic| (refine s_seq (s_if ?_); walk_at "e"))
local macro_rules | `(tactic| walk_at "if0") => `(tactic| (refine s_if ?_; walk_at "e"))
local macro_rules | `(tactic| walk_at "set") => `(tactic| (refine s_seq (s_set ?_); walk_at "e"))
local macro_rules | `(tactic| walk_at "set0") => `(tactic| (refine s_set ?_; walk_at "e"))
local macro_rules | `(tactic| walk_at "ex") => `(tactic| (refine s_seq (s_expr ?_); walk_at "e"))
local macro_rules | `(tactic| walk_at "ret") => `(tactic| (refine s_ret ?_; walk_at "e"))
local macro_rules | `(tactic| walk_at "nx") => `(tactic| (refine s_next ?_; walk_at "ds"))
inductive Kd where
  | ch | pa | cy | li
def nm : Kd → Str
  | .ch => PySem.Str.ofString "choices"
  | .pa => PySem.Str.ofString "parts"
  | .cy => PySem.Str.ofString "cycles"
  | .li => PySem.Str.ofString "lists"
def madeM (k : Kd) (m j s b : Int) : Int := match k with
  | .ch => b + s
  | .pa => b + j * s
  | .cy => b + (m - 1) * s
  | .li => b + (m - 1 + j) * s
theorem r_made {k : Kd} {m j s b : Int} {S : Sto} {Q : KE} {E : KX} (h1 : 0 ≤ m) (h2 : m ≤ 1000) (h3 : 0 ≤ j) (h4 : j ≤ 1000) (h : Q (.int (madeM k m j s b)) S) : sp_made [.str (nm k), .int m, .int j, .int s, .int b] S Q E := by
  refine ⟨rfl, ?_⟩
  rw [eW_made, st_made]
  cases k
  · refine s_seq (s_if ?_)
    walk_at "e"
    walk_at "T"
    walk_at "ret"
    exact dn_same h
  · refine s_seq (s_if ?_)
    walk_at "e"
    walk_at "F"
    walk_at "nx"
    walk_at "if"
    walk_at "T"
    walk_at "ret"
    refine e_mul (CMl (by omega)) ?_
    walk_at "e"
    exact dn_same h
  · refine s_seq (s_if ?_)
    walk_at "e"
    walk_at "F"
    walk_at "nx"
    walk_at "if"
    walk_at "F"
    walk_at "nx"
    walk_at "if"
    walk_at "T"
    walk_at "ret"
    refine e_mul (CMl (by omega)) ?_
    walk_at "e"
    exact dn_same h
  · refine s_seq (s_if ?_)
    walk_at "e"
    walk_at "F"
    walk_at "nx"
    walk_at "if"
    walk_at "F"
    walk_at "nx"
    walk_at "if"
    walk_at "F"
    walk_at "nx"
    walk_at "if"
    walk_at "T"
    walk_at "ret"
    refine e_mul (CMl (by omega)) ?_
    walk_at "e"
    exact dn_same h

end L3

set_option Elab.async false
set_option linter.all false
set_option maxRecDepth 100000
set_option maxHeartbeats 600000
namespace L3
open PySem PySem.Spec L2
open PyProof.Rows hiding St
local macro_rules | `(tactic| walk_at "e1") => `(tactic| first
  | (with_reducible refine e_cons ?_)
  | (with_reducible refine e_nil ?_)
  | ((with_reducible refine' e_v ?hv ?_); (case hv => exact rfl))
  | (with_reducible refine e_c ?_)
  | (with_reducible refine e_call ?_)
  | (with_reducible refine e_cb ?_)
  | (with_reducible refine e_op ?_)
  | (with_reducible refine e_un ?_)
  | (with_reducible refine e_test ?_)
  | (with_reducible refine tk ?_)
  | (with_reducible refine e_tru ?_)
  | (with_reducible refine tr_bl ?_)
  | (with_reducible refine e_add ?_)
  | (with_reducible refine e_sub ?_)
  | (with_reducible refine e_neg ?_)
  | (with_reducible refine e_lt ?_)
  | (with_reducible refine e_le ?_)
  | (with_reducible refine e_gt ?_)
  | (with_reducible refine e_ge ?_)
  | (with_reducible refine e_eqI ?_)
  | (with_reducible refine e_neI ?_)
  | (with_reducible refine e_eqS ?_)
  | (with_reducible refine e_neS ?_)
  | (with_reducible refine e_notT ?_)
  | (with_reducible refine e_andT ?_)
  | (with_reducible refine e_orT ?_)
  | (with_reducible refine e_andV ?_)
  | (with_reducible refine e_orV ?_)
  | (with_reducible refine e_notV ?_)
  | (with_reducible refine ot_bl ?_)
  | (with_reducible refine e_ifE ?_)
  | (with_reducible refine c_int ?_)
  | (with_reducible refine c_intB ?_)
  | (with_reducible refine c_abs ?_)
  | (with_reducible refine c_lenT ?_)
  | (with_reducible refine c_tupT ?_)
  | (with_reducible refine if_t ?_)
  | (with_reducible refine if_f ?_)
  | (with_reducible refine if_nt ?_)
  | (with_reducible refine if_nf ?_))
local macro_rules | `(tactic| walk_at "e") => `(tactic| repeat walk_at "e1")
local macro_rules | `(tactic| walk_at "ds") => `(tactic| try dsimp only [List.set_cons_succ, List.set_cons_zero])
local macro_rules | `(tactic| walk_at "T") => `(tactic| ((first | refine ifT ?h ?_ | refine ifnT ?h ?_); (case h => first | omega | decide +kernel | assumption)))
local macro_rules | `(tactic| walk_at "F") => `(tactic| ((first | refine ifF ?h ?_ | refine ifnF ?h ?_); (case h => first | omega | decide +kernel | assumption)))
local macro_rules | `(tactic| walk_at "if") => `(tactic| (refine s_seq (s_if ?_); walk_at "e"))
local macro_rules | `(tactic| walk_at "if0") => `(tactic| (refine s_if ?_; walk_at "e"))
local macro_rules | `(tactic| walk_at "set") => `(tactic| (refine s_seq (s_set ?_); walk_at "e"))
local macro_rules | `(tactic| walk_at "set0") => `(tactic| (refine s_set ?_; walk_at "e"))
local macro_rules | `(tactic| walk_at "ex") => `(tactic| (refine s_seq (s_expr ?_); walk_at "e"))
local macro_rules | `(tactic| walk_at "ret") => `(tactic| (refine s_ret ?_; walk_at "e"))
local macro_rules | `(tactic| walk_at "nx") => `(tactic| (refine s_next ?_; walk_at "ds"))
def itM (k : Kd) (xs : List Int) (m j : Nat) : Int := madeM k m j (xs.getD j 0) (if j = 0 then 0 else xs.getD (j - 1) 0)
def nextM (k : Kd) (xs : List Int) (m : Nat) : List Int := (List.range (m + 1)).map (itM k xs m)
theorem r_next_row {k : Kd} {a : Addr} {xs : List Int} {m : Nat} {S : Sto} {Q : KE} {E : KX} (ha : RdL S a (xs.map PV.int)) (hl : xs.length ≤ 300) (hm : m ≤ 200) (hx : m ≤ xs.length) (h : ∀ p, S p = none → Q (.ref p) (supd S p (.lst ((nextM k xs m).map PV.int)))) : sp_next_row [.str (nm k), .ref a, .int m] S Q E := by
  refine ⟨rfl, ?_⟩
  rw [eW_next_row, st_next_row]
  refine s_seq (s_set (e_lstk fun p hp => ?_))
  walk_at "ds"
  refine s_seq (s_for (i_rng ?_))
  walk_at "e"
  refine rk (m + 1) rfl (by omega) ?_
  have ha2 : ∀ u, RdL (supd S p u) a (xs.map PV.int) := fun u => ha.keep hp
  refine for_rng (fun t ε S' => ∃ o4 o5 o6 : Option PV, ε = [some (.str (nm k)), some (.ref a), some (.int m), some (.ref p), o4, o5, o6] ∧ S' = supd S p (.lst (((List.range t).map (itM k xs m)).map PV.int))) ?_ ?_ ⟨none, none, none, rfl, rfl⟩
  · rintro t ht C hC ε S' ⟨o4, o5, o6, rfl, rfl⟩
    rw [Int.zero_add]
    show b_next_row_3 _ _ _
    walk_at "ds"
    walk_at "set"
    refine c_lenL (ha2 _) ?_
    walk_at "e"
    rw [List.length_map]
    refine e_if2 (.int (xs.getD t 0)) (fun hc Q q => ?_) (fun hc Q q => ?_) ?_
    · walk_at "e"
      exact e_ixl (ha2 _) (getD_at (by omega)) q
    · walk_at "e"
      rw [getD_none (by omega)] at q
      exact q
    walk_at "ds"
    walk_at "set"
    refine e_if2 (.int (if t = 0 then 0 else xs.getD (t - 1) 0)) (fun hc Q q => ?_) (fun hc Q q => ?_) ?_
    · walk_at "e"
      rw [if_neg (by omega)] at q
      rw [show (t : Int) - 1 = ((t - 1 : Nat) : Int) from by omega]
      exact e_ixl (ha2 _) (getD_at (by omega)) q
    · walk_at "e"
      rw [if_pos (by omega)] at q
      exact q
    walk_at "ds"
    refine s_app rfl ⟨_, .inl supd_same⟩ ?_
    walk_at "e"
    refine r_made (by omega) (by omega) (by omega) (by omega) ?_
    refine ⟨_, supd_same, sz1 (m := 300) (by simp; omega), ?_⟩
    rw [supd_supd]
    refine hC.at ⟨_, _, _, rfl, ?_⟩
    rw [List.range_succ, List.map_append, List.map_append]
    rfl
  · rintro ε S' ⟨o4, o5, o6, rfl, rfl⟩
    walk_at "ds"
    walk_at "ret"
    exact ⟨_, .refl _, h p hp⟩

end L3

set_option Elab.async false
set_option linter.all false
set_option maxRecDepth 100000
set_option maxHeartbeats 600000
namespace L3
open PySem PySem.Spec L2
open PyProof.Rows hiding St
local macro_rules | `(tactic| walk_at "e1") => `(tactic| first
  | (with_reducible refine e_cons ?_)
  | (with_reducible refine e_nil ?_)
  | ((with_reducible refine' e_v ?hv ?_); (case hv => exact rfl))
  | (with_reducible refine e_c ?_)
  | (with_reducible refine e_call ?_)
  | (with_reducible refine e_cb ?_)
  | (with_reducible refine e_op ?_)
  | (with_reducible refine e_un ?_)
  | (with_reducible refine e_test ?_)
  | (with_reducible refine tk ?_)
  | (with_reducible refine e_tru ?_)
  | (with_reducible refine tr_bl ?_)
  | (with_reducible refine e_add ?_)
  | (with_reducible refine e_sub ?_)
  | (with_reducible refine e_neg ?_)
  | (with_reducible refine e_lt ?_)
  | (with_reducible refine e_le ?_)
  | (with_reducible refine e_gt ?_)
  | (with_reducible refine e_ge ?_)
  | (with_reducible refine e_eqI ?_)
  | (with_reducible refine e_neI ?_)
  | (with_reducible refine e_eqS ?_)
  | (with_reducible refine e_neS ?_)
  | (with_reducible refine e_notT ?_)
  | (with_reducible refine e_andT ?_)
  | (with_reducible refine e_orT ?_)
  | (with_reducible refine e_andV ?_)
  | (with_reducible refine e_orV ?_)
  | (with_reducible refine e_notV ?_)
  | (with_reducible refine ot_bl ?_)
  | (with_reducible refine e_ifE ?_)
  | (with_reducible refine c_int ?_)
  | (with_reducible refine c_intB ?_)
  | (with_reducible refine c_abs ?_)
  | (with_reducible refine c_lenT ?_)
  | (with_reducible refine c_tupT ?_)
  | (with_reducible refine if_t ?_)
  | (with_reducible refine if_f ?_)
  | (with_reducible refine if_nt ?_)
  | (with_reducible refine if_nf ?_))
local macro_rules | `(tactic| walk_at "e") => `(tactic| repeat walk_at "e1")
local macro_rules | `(tactic| walk_at "ds") => `(tactic| try dsimp only [List.set_cons_succ, List.set_cons_zero])
local macro_rules | `(tactic| walk_at "T") => `(tactic| ((first | refine ifT ?h ?_ | refine ifnT ?h ?_); (case h => first | omega | decide +kernel | assumption)))
local macro_rules | `(tactic| walk_at "F") => `(tactic| ((first | refine ifF ?h ?_ | refine ifnF ?h ?_); (case h => first | omega | decide +kernel | assumption)))
local macro_rules | `(tactic| walk_at "if") => `(tactic| (refine s_seq (s_if ?_); walk_at "e"))
local macro_rules | `(tactic| walk_at "if0") => `(tactic| (refine s_if ?_; walk_at "e"))
local macro_rules | `(tactic| walk_at "set") => `(tactic| (refine s_seq (s_set ?_); walk_at "e"))
local macro_rules | `(tactic| walk_at "set0") => `(tactic| (refine s_set ?_; walk_at "e"))
local macro_rules | `(tactic| walk_at "ex") => `(tactic| (refine s_seq (s_expr ?_); walk_at "e"))
local macro_rules | `(tactic| walk_at "ret") => `(tactic| (refine s_ret ?_; walk_at "e"))
local macro_rules | `(tactic| walk_at "nx") => `(tactic| (refine s_next ?_; walk_at "ds"))
def rowM (k : Kd) : Nat → List Int
  | 0 => [1]
  | n + 1 => nextM k (rowM k n) (n + 1)
theorem rowM_len (k : Kd) : ∀ n, (rowM k n).length = n + 1
  | 0 => rfl
  | n + 1 => by rw [rowM, nextM, List.length_map, List.length_range]
theorem r_row_of {k : Kd} {m : Nat} {S : Sto} {Q : KE} {E : KX} (hm : m ≤ 200) (h : ∀ p, S p = none → Q (.ref p) (supd S p (.lst ((rowM k m).map PV.int)))) : sp_row_of [.str (nm k), .int m] S Q E := by
  refine ⟨rfl, ?_⟩
  rw [eW_row_of, st_row_of]
  refine s_seq (s_set (e_lstk fun p hp => ?_))
  walk_at "ds"
  refine s_seq (s_for (i_r2 ?_))
  walk_at "e"
  refine r2k m (by omega) (by omega) (by omega) (by omega) (by omega) ?_
  refine for_rng (fun t ε S' => ∃ (q : Addr) (o3 : Option PV), ε = [some (.str (nm k)), some (.int m), some (.ref q), o3] ∧ Sub S S' ∧ S q = none ∧ S' q = some (.lst ((rowM k t).map PV.int))) ?_ ?_ ⟨p, none, rfl, .new hp nofun, hp, supd_same⟩
  · rintro t ht C hC ε S' ⟨q, o3, rfl, sb, hq, e⟩
    rw [show (1 : Int) + (t : Nat) = ((t + 1 : Nat) : Int) from by omega]
    show w_row_of_3 _ _ _
    walk_at "ds"
    walk_at "set0"
    refine r_next_row (m := t + 1) (.inl e) (by rw [rowM_len]; omega) (by omega) (by rw [rowM_len]; omega) fun p hp => ?_
    exact hC.at ⟨p, _, rfl, sb.grow hp, sb.none' hp, supd_same⟩
  · rintro ε S' ⟨q, o3, rfl, sb, hq, e⟩
    walk_at "ds"
    walk_at "ret"
    exact ⟨_, sb.with hq e, h q hq⟩
theorem r_check_kind {k : Kd} {S : Sto} {Q : KE} {E : KX} (h : Q .non S) : sp_check_kind [.str (nm k)] S Q E := by
  refine ⟨rfl, ?_⟩
  rw [eW_check_kind, st_check_kind]
  refine s_if ?_
  walk_at "e"
  refine c_isi rfl (by decide +kernel : _ = some true) ?_
  walk_at "e"
  refine oin_t rfl rfl ?_
  rw [show (true ^^ List.any [PV.str (PySem.Str.ofString "choices"), PV.str (PySem.Str.ofString "parts"), PV.str (PySem.Str.ofString "cycles"), PV.str (PySem.Str.ofString "rises"), PV.str (PySem.Str.ofString "lists"), PV.str (PySem.Str.ofString "runs")] fun y => eqP y (.str (nm k))) = false from by cases k <;> decide +kernel]
  walk_at "e"
  walk_at "nx"
  exact dn_same h
theorem r_row {k : Kd} {m : Nat} {S : Sto} {Q : KE} {E : KX} (hm : m ≤ 200) (h : Q (.tup ((rowM k m).map PV.int)) S) : sp_row [.str (nm k), .int m] S Q E := by
  refine ⟨rfl, ?_⟩
  rw [eW_row, st_row]
  walk_at "ex"
  refine r_check_kind ?_
  walk_at "ds"
  walk_at "if"
  refine r_within (by omega) (by omega) ?_
  walk_at "e"
  walk_at "nx"
  walk_at "ret"
  refine r_row_of hm fun p hp => ?_
  walk_at "e"
  refine c_tupL (.inl supd_same) ?_
  exact ⟨_, .new hp nofun, h⟩
theorem r_item {k : Kd} {m s : Nat} {S : Sto} {Q : KE} {E : KX} (hm : m ≤ 200) (hs : s ≤ m) (h : Q (.int ((rowM k m).getD s 0)) S) : sp_item [.str (nm k), .int m, .int s] S Q E := by
  refine ⟨rfl, ?_⟩
  rw [eW_item, st_item]
  walk_at "ex"
  refine r_check_kind ?_
  walk_at "ds"
  walk_at "if"
  refine r_within (by omega) (by omega) ?_
  walk_at "e"
  refine r_integer ?_
  walk_at "e"
  walk_at "F"
  walk_at "nx"
  walk_at "set"
  refine r_row_of hm fun p hp => ?_
  walk_at "ds"
  walk_at "ret"
  refine c_lenL (.inl supd_same) ?_
  walk_at "e"
  rw [List.length_map, rowM_len]
  walk_at "T"
  walk_at "e"
  refine e_ixl (.inl supd_same) (getD_at (by rw [rowM_len]; omega)) ?_
  exact ⟨_, .new hp nofun, h⟩
def mate : Kd → Kd
  | .ch => .ch
  | .pa => .cy
  | .cy => .pa
  | .li => .li
def sgn (n : Nat) (p : Int × Nat) : Int := if ((n : Int) - (p.2 : Nat)) % 2 = 1 then -p.1 else p.1
def turnM (k : Kd) (n : Nat) : List Int := (rowM (mate k) n).zipIdx.map (sgn n)
def turnT (k : Kd) (m : Nat) : List PV := (List.range m).map fun n => .tup ((turnM k n).map PV.int)
def mates : List (Key × PV) := [(.inr (nm .ch), .str (nm .ch)), (.inr (nm .pa), .str (nm .cy)), (.inr (nm .cy), .str (nm .pa)), (.inr (nm .li), .str (nm .li))]
theorem mates_at (k : Kd) : valP mates (.inr (nm k)) = some (.str (nm (mate k))) := by cases k <;> rfl
theorem r_turned {k : Kd} {m : Nat} {S : Sto} {Q : KE} {E : KX} (hm : m ≤ 30) (h : Q (.tup (turnT k (m + 1))) S) : sp_turned_table [.str (nm k), .int m] S Q E := by
  refine ⟨rfl, ?_⟩
  rw [eW_turned_table, st_turned_table]
  walk_at "if"
  refine c_isi rfl (by decide +kernel : _ = some true) ?_
  walk_at "e"
  refine e_k ?_
  refine oin_t rfl rfl ?_
  rw [show (true ^^ List.any [PV.str (PySem.Str.ofString "choices"), PV.str (PySem.Str.ofString "parts"), PV.str (PySem.Str.ofString "cycles"), PV.str (PySem.Str.ofString "lists")] fun y => eqP y (.str (nm k))) = false from by cases k <;> decide +kernel]
  walk_at "e"
  walk_at "nx"
  walk_at "if"
  refine r_within (by omega) (by omega) ?_
  walk_at "e"
  walk_at "nx"
  walk_at "set"
  refine e_dictk mates rfl (by decide) rfl fun p0 hp0 => ?_
  walk_at "e"
  refine e_ixD supd_same rfl (mates_at k) ?_
  walk_at "ds"
  refine s_seq (s_set (e_lstk fun p hp => ?_))
  walk_at "ds"
  refine s_seq (s_for (i_rng ?_))
  walk_at "e"
  refine rk (m + 1) rfl (by omega) ?_
  have hp' : S p = none := ((Sub.refl S).grow (u := .dct mates) hp0).none' hp
  refine for_rng (fun t ε S' => ∃ o4 o5 o6 o7 : Option PV, ε = [some (.str (nm k)), some (.int m), some (.str (nm (mate k))), some (.ref p), o4, o5, o6, o7] ∧ Sub S S' ∧ S' p = some (.lst (turnT k t))) ?_ ?_ ⟨none, none, none, none, rfl, ((Sub.refl S).grow (u := .dct mates) hp0).grow hp, supd_same⟩
  · rintro t ht C hC ε S' ⟨o4, o5, o6, o7, rfl, sb, e⟩
    rw [Int.zero_add]
    show b_turned_table_8 _ _ _
    walk_at "ds"
    walk_at "set"
    refine r_row_of (by omega) fun q hq => ?_
    walk_at "ds"
    have e1 := keep1 (u := .lst ((rowM (mate k) t).map PV.int)) e hq
    have sb1 := sb.grow (u := .lst ((rowM (mate k) t).map PV.int)) hq
    have eq1 : supd S' q (.lst ((rowM (mate k) t).map PV.int)) q = some (.lst ((rowM (mate k) t).map PV.int)) := supd_same
    revert e1 sb1 eq1
    generalize supd S' q (.lst ((rowM (mate k) t).map PV.int)) = S1
    intro e1 sb1 eq1
    refine s_app rfl ⟨_, .inl e1⟩ ?_
    walk_at "e"
    refine e_lc (i_enumL ?_)
    walk_at "e"
    refine en_l (.inl eq1) ?_
    rw [enumP_ints]
    refine lc_map (fun S' => S' = S1) (rowM (mate k) t).zipIdx _ (fun p => .int (sgn t p)) (sz (m := 300) (by rw [List.length_zipIdx, rowM_len]; omega)) (fun S hS => by rw [hS]; exact .inl eq1) (fun x hx S2 C e k => ?_) (fun S2 e D hD => ?_) rfl
    · subst e
      refine g_2 ?_
      walk_at "ds"
      walk_at "e"
      refine e_mod (by decide) ?_
      walk_at "e"
      refine e_if2 (.int (sgn t x)) (fun hc Q q => ?_) (fun hc Q q => ?_) ?_
      · walk_at "e"
        rw [sgn, if_pos hc] at q
        exact q
      · walk_at "e"
        rw [sgn, if_neg hc] at q
        exact q
      exact k _ rfl
    · subst e
      walk_at "e"
      refine c_tupL (.inl supd_same) ?_
      walk_at "e"
      refine ⟨_, keep1 e1 hD, sz1 (m := 300) (by simp [turnT]; omega), ?_⟩
      refine hC.at ⟨_, _, _, _, rfl, (sb1.grow hD).own hp', ?_⟩
      rw [supd_same]
      unfold turnT
      rw [List.range_succ, List.map_append]
      congr 3
      simp [turnM, List.map_map, Function.comp_def]
  · rintro ε S' ⟨o4, o5, o6, o7, rfl, sb, e⟩
    walk_at "ds"
    walk_at "ret"
    refine c_tupL (.inl e) ?_
    exact ⟨_, sb, h⟩

end L3

set_option Elab.async false
set_option linter.all false
set_option maxRecDepth 100000
set_option maxHeartbeats 600000
namespace L3
open PySem PySem.Spec L2
open PyProof.Rows hiding St
local macro_rules | `(tactic| walk_at "e1") => `(tactic| first
  | (with_reducible refine e_cons ?_)
  | (with_reducible refine e_nil ?_)
  | ((with_reducible refine' e_v ?hv ?_); (case hv => exact rfl))
  | (with_reducible refine e_c ?_)
  | (with_reducible refine e_call ?_)
  | (with_reducible refine e_cb ?_)
  | (with_reducible refine e_op ?_)
  | (with_reducible refine e_un ?_)
  | (with_reducible refine e_test ?_)
  | (with_reducible refine tk ?_)
  | (with_reducible refine e_tru ?_)
  | (with_reducible refine tr_bl ?_)
  | (with_reducible refine e_add ?_)
  | (with_reducible refine e_sub ?_)
  | (with_reducible refine e_neg ?_)
  | (with_reducible refine e_lt ?_)
  | (with_reducible refine e_le ?_)
  | (with_reducible refine e_gt ?_)
  | (with_reducible refine e_ge ?_)
  | (with_reducible refine e_eqI ?_)
  | (with_reducible refine e_neI ?_)
  | (with_reducible refine e_eqS ?_)
  | (with_reducible refine e_neS ?_)
  | (with_reducible refine e_notT ?_)
  | (with_reducible refine e_andT ?_)
  | (with_reducible refine e_orT ?_)
  | (with_reducible refine e_andV ?_)
  | (with_reducible refine e_orV ?_)
  | (with_reducible refine e_notV ?_)
  | (with_reducible refine ot_bl ?_)
  | (with_reducible refine e_ifE ?_)
  | (with_reducible refine c_int ?_)
  | (with_reducible refine c_intB ?_)
  | (with_reducible refine c_abs ?_)
  | (with_reducible refine c_lenT ?_)
  | (with_reducible refine c_tupT ?_)
  | (with_reducible refine if_t ?_)
  | (with_reducible refine if_f ?_)
  | (with_reducible refine if_nt ?_)
  | (with_reducible refine if_nf ?_))
local macro_rules | `(tactic| walk_at "e") => `(tactic| repeat walk_at "e1")
local macro_rules | `(tactic| walk_at "ds") => `(tactic| try dsimp only [List.set_cons_succ, List.set_cons_zero])
local macro_rules | `(tactic| walk_at "T") => `(tactic| ((first | refine ifT ?h ?_ | refine ifnT ?h ?_); (case h => first | omega | decide +kernel | assumption)))
local macro_rules | `(tactic| walk_at "F") => `(tactic| ((first | refine ifF ?h ?_ | refine ifnF ?h ?_); (case h => first | omega | decide +kernel | assumption)))
local macro_rules | `(tactic| walk_at "if") => `(tactic| (refine s_seq (s_if ?_); walk_at "e"))
local macro_rules | `(tactic| walk_at "if0") => `(tactic| (refine s_if ?_; walk_at "e"))
local macro_rules | `(tactic| walk_at "set") => `(tactic| (refine s_seq (s_set ?_); walk_at "e"))
local macro_rules | `(tactic| walk_at "set0") => `(tactic| (refine s_set ?_; walk_at "e"))
local macro_rules | `(tactic| walk_at "ex") => `(tactic| (refine s_seq (s_expr ?_); walk_at "e"))
local macro_rules | `(tactic| walk_at "ret") => `(tactic| (refine s_ret ?_; walk_at "e"))
local macro_rules | `(tactic| walk_at "nx") => `(tactic| (refine s_next ?_; walk_at "ds"))
def tab_ch : List (List Int) := [[1],
  [1, 1],
  [1, 2, 1],
  [1, 3, 3, 1],
  [1, 4, 6, 4, 1],
  [1, 5, 10, 10, 5, 1],
  [1, 6, 15, 20, 15, 6, 1],
  [1, 7, 21, 35, 35, 21, 7, 1],
  [1, 8, 28, 56, 70, 56, 28, 8, 1],
  [1, 9, 36, 84, 126, 126, 84, 36, 9, 1],
  [1, 10, 45, 120, 210, 252, 210, 120, 45, 10, 1],
  [1, 11, 55, 165, 330, 462, 462, 330, 165, 55, 11, 1],
  [1, 12, 66, 220, 495, 792, 924, 792, 495, 220, 66, 12, 1],
  [1, 13, 78, 286, 715, 1287, 1716, 1716, 1287, 715, 286, 78, 13, 1],
  [1, 14, 91, 364, 1001, 2002, 3003, 3432, 3003, 2002, 1001, 364, 91, 14, 1],
  [1, 15, 105, 455, 1365, 3003, 5005, 6435, 6435, 5005, 3003, 1365, 455, 105, 15, 1],
  [1, 16, 120, 560, 1820, 4368, 8008, 11440, 12870, 11440, 8008, 4368, 1820, 560, 120, 16, 1],
  [1, 17, 136, 680, 2380, 6188, 12376, 19448, 24310, 24310, 19448, 12376, 6188, 2380, 680, 136, 17, 1],
  [1, 18, 153, 816, 3060, 8568, 18564, 31824, 43758, 48620, 43758, 31824, 18564, 8568, 3060, 816, 153, 18, 1],
  [1, 19, 171, 969, 3876, 11628, 27132, 50388, 75582, 92378, 92378, 75582, 50388, 27132, 11628, 3876, 969, 171, 19, 1],
  [1, 20, 190, 1140, 4845, 15504, 38760, 77520, 125970, 167960, 184756, 167960, 125970, 77520, 38760, 15504, 4845, 1140, 190, 20, 1],
  [1, 21, 210, 1330, 5985, 20349, 54264, 116280, 203490, 293930, 352716, 352716, 293930, 203490, 116280, 54264, 20349, 5985, 1330, 210, 21, 1],
  [1, 22, 231, 1540, 7315, 26334, 74613, 170544, 319770, 497420, 646646, 705432, 646646, 497420, 319770, 170544, 74613, 26334, 7315, 1540, 231, 22, 1],
  [1, 23, 253, 1771, 8855, 33649, 100947, 245157, 490314, 817190, 1144066, 1352078, 1352078, 1144066, 817190, 490314, 245157, 100947, 33649, 8855, 1771, 253, 23, 1],
  [1, 24, 276, 2024, 10626, 42504, 134596, 346104, 735471, 1307504, 1961256, 2496144, 2704156, 2496144, 1961256, 1307504, 735471, 346104, 134596, 42504, 10626, 2024, 276, 24, 1],
  [1, 25, 300, 2300, 12650, 53130, 177100, 480700, 1081575, 2042975, 3268760, 4457400, 5200300, 5200300, 4457400, 3268760, 2042975, 1081575, 480700, 177100, 53130, 12650, 2300, 300, 25, 1],
  [1, 26, 325, 2600, 14950, 65780, 230230, 657800, 1562275, 3124550, 5311735, 7726160, 9657700, 10400600, 9657700, 7726160, 5311735, 3124550, 1562275, 657800, 230230, 65780, 14950, 2600, 325, 26, 1],
  [1, 27, 351, 2925, 17550, 80730, 296010, 888030, 2220075, 4686825, 8436285, 13037895, 17383860, 20058300, 20058300, 17383860, 13037895, 8436285, 4686825, 2220075, 888030, 296010, 80730, 17550, 2925, 351, 27, 1],
  [1, 28, 378, 3276, 20475, 98280, 376740, 1184040, 3108105, 6906900, 13123110, 21474180, 30421755, 37442160, 40116600, 37442160, 30421755, 21474180, 13123110, 6906900, 3108105, 1184040, 376740, 98280, 20475, 3276, 378, 28, 1],
  [1, 29, 406, 3654, 23751, 118755, 475020, 1560780, 4292145, 10015005, 20030010, 34597290, 51895935, 67863915, 77558760, 77558760, 67863915, 51895935, 34597290, 20030010, 10015005, 4292145, 1560780, 475020, 118755, 23751, 3654, 406, 29, 1],
  [1, 30, 435, 4060, 27405, 142506, 593775, 2035800, 5852925, 14307150, 30045015, 54627300, 86493225, 119759850, 145422675, 155117520, 145422675, 119759850, 86493225, 54627300, 30045015, 14307150, 5852925, 2035800, 593775, 142506, 27405, 4060, 435, 30, 1]]
def tab_pa : List (List Int) := [[1],
  [0, 1],
  [0, 1, 1],
  [0, 1, 3, 1],
  [0, 1, 7, 6, 1],
  [0, 1, 15, 25, 10, 1],
  [0, 1, 31, 90, 65, 15, 1],
  [0, 1, 63, 301, 350, 140, 21, 1],
  [0, 1, 127, 966, 1701, 1050, 266, 28, 1],
  [0, 1, 255, 3025, 7770, 6951, 2646, 462, 36, 1],
  [0, 1, 511, 9330, 34105, 42525, 22827, 5880, 750, 45, 1],
  [0, 1, 1023, 28501, 145750, 246730, 179487, 63987, 11880, 1155, 55, 1],
  [0, 1, 2047, 86526, 611501, 1379400, 1323652, 627396, 159027, 22275, 1705, 66, 1],
  [0, 1, 4095, 261625, 2532530, 7508501, 9321312, 5715424, 1899612, 359502, 39325, 2431, 78, 1],
  [0, 1, 8191, 788970, 10391745, 40075035, 63436373, 49329280, 20912320, 5135130, 752752, 66066, 3367, 91, 1],
  [0, 1, 16383, 2375101, 42355950, 210766920, 420693273, 408741333, 216627840, 67128490, 12662650, 1479478, 106470, 4550, 105, 1],
  [0, 1, 32767, 7141686, 171798901, 1096190550, 2734926558, 3281882604, 2141764053, 820784250, 193754990, 28936908, 2757118, 165620, 6020, 120, 1],
  [0, 1, 65535, 21457825, 694337290, 5652751651, 17505749898, 25708104786, 20415995028, 9528822303, 2758334150, 512060978, 62022324, 4910178, 249900, 7820, 136, 1],
  [0, 1, 131071, 64439010, 2798806985, 28958095545, 110687251039, 197462483400, 189036065010, 106175395755, 37112163803, 8391004908, 1256328866, 125854638, 8408778, 367200, 9996, 153, 1],
  [0, 1, 262143, 193448101, 11259666950, 147589284710, 693081601779, 1492924634839, 1709751003480, 1144614626805, 477297033785, 129413217791, 23466951300, 2892439160, 243577530, 13916778, 527136, 12597, 171, 1],
  [0, 1, 524287, 580606446, 45232115901, 749206090500, 4306078895384, 11143554045652, 15170932662679, 12011282644725, 5917584964655, 1900842429486, 411016633391, 61068660380, 6302524580, 452329200, 22350954, 741285, 15675, 190, 1],
  [0, 1, 1048575, 1742343625, 181509070050, 3791262568401, 26585679462804, 82310957214948, 132511015347084, 123272476465204, 71187132291275, 26826851689001, 6833042030178, 1204909218331, 149304004500, 13087462580, 809944464, 34952799, 1023435, 19285, 210, 1],
  [0, 1, 2097151, 5228079450, 727778623825, 19137821912055, 163305339345225, 602762379967440, 1142399079991620, 1241963303533920, 835143799377954, 366282500870286, 108823356051137, 22496861868481, 3295165281331, 345615943200, 26046574004, 1404142047, 53374629, 1389850, 23485, 231, 1],
  [0, 1, 4194303, 15686335501, 2916342574750, 96416888184100, 998969857983405, 4382641999117305, 9741955019900400, 12320068811796900, 9593401297313460, 4864251308951100, 1672162773483930, 401282560341390, 68629175807115, 8479404429331, 762361127264, 49916988803, 2364885369, 79781779, 1859550, 28336, 253, 1],
  [0, 1, 8388607, 47063200806, 11681056634501, 485000783495250, 6090236036084530, 31677463851804540, 82318282158320505, 120622574326072500, 108254081784931500, 63100165695775560, 24930204590758260, 6888836057922000, 1362091021641000, 195820242247080, 20677182465555, 1610949936915, 92484925445, 3880739170, 116972779, 2454606, 33902, 276, 1],
  [0, 1, 16777215, 141197991025, 46771289738810, 2436684974110751, 37026417000002430, 227832482998716310, 690223721118368580, 1167921451092973005, 1203163392175387500, 802355904438462660, 362262620784874680, 114485073343744260, 25958110360896000, 4299394655347200, 526655161695960, 48063331393110, 3275678594925, 166218969675, 6220194750, 168519505, 3200450, 40250, 300, 1],
  [0, 1, 33554431, 423610750290, 187226356946265, 12230196160292565, 224595186974125331, 1631853797991016600, 5749622251945664950, 11201516780955125625, 13199555372846848005, 10029078340998476760, 5149507353856958820, 1850568574253550060, 477898618396288260, 90449030191104000, 12725877242482560, 1343731795378830, 107025546101760, 6433839018750, 290622864675, 9759104355, 238929405, 4126200, 47450, 325, 1],
  [0, 1, 67108863, 1270865805301, 749329038535350, 61338207158409090, 1359801318005044551, 11647571772911241531, 47628831813556336200, 106563273280541795575, 143197070509423605675, 123519417123830092365, 71823166587281982600, 29206898819153109600, 8541149231801585700, 1834634071262848260, 294063066070824960, 35569317763922670, 3270191625210510, 229268487458010, 12246296312250, 495564056130, 15015551265, 333832005, 5265000, 55575, 351, 1],
  [0, 1, 134217727, 3812664524766, 2998587019946701, 307440364830580800, 8220146115188676396, 82892803728383735268, 392678226281361931131, 1006698291338432496375, 1538533978374777852325, 1501910658871554621690, 985397416171213883565, 451512851236272407400, 148782988064375309400, 36060660300744309600, 6539643128396047620, 898741468057510350, 94432767017711850, 7626292886912700, 474194413703010, 22653141490980, 825906183960, 22693687380, 460192005, 6654375, 64701, 378, 1],
  [0, 1, 268435455, 11438127792025, 11998160744311570, 1540200411172850701, 49628317055962639176, 588469772213874823272, 3224318613979279184316, 9452962848327254398506, 16392038075086211019625, 18059551225961878690915, 13326679652926121224470, 6855064482242755179765, 2534474684137526739000, 689692892575539953400, 140694950355081071520, 21818248085373723570, 2598531274376323650, 239332331869053150, 17110181160972900, 949910385013590, 40823077538100, 1347860993700, 33738295500, 626551380, 8336601, 74907, 406, 1],
  [0, 1, 536870911, 34314651811530, 48004081105038305, 7713000216608565075, 299310102746948685757, 4168916722553086402080, 26383018684048108297800, 88300984248924568770870, 173373343599189364594756, 215047101560666876619690, 177979707061075333384555, 102442517922081938561415, 42337710060168129525765, 12879868072770626040000, 2940812098256837097720, 511605167806434372210, 68591811024147549270, 7145845579888333500, 581535955088511150, 37058299246258290, 1848018090851790, 71823880393200, 2157580085700, 49402080000, 843303006, 10359090, 86275, 435, 1]]
def tab_cy : List (List Int) := [[1],
  [0, 1],
  [0, 1, 1],
  [0, 2, 3, 1],
  [0, 6, 11, 6, 1],
  [0, 24, 50, 35, 10, 1],
  [0, 120, 274, 225, 85, 15, 1],
  [0, 720, 1764, 1624, 735, 175, 21, 1],
  [0, 5040, 13068, 13132, 6769, 1960, 322, 28, 1],
  [0, 40320, 109584, 118124, 67284, 22449, 4536, 546, 36, 1],
  [0, 362880, 1026576, 1172700, 723680, 269325, 63273, 9450, 870, 45, 1],
  [0, 3628800, 10628640, 12753576, 8409500, 3416930, 902055, 157773, 18150, 1320, 55, 1],
  [0, 39916800, 120543840, 150917976, 105258076, 45995730, 13339535, 2637558, 357423, 32670, 1925, 66, 1],
  [0, 479001600, 1486442880, 1931559552, 1414014888, 657206836, 206070150, 44990231, 6926634, 749463, 55770, 2717, 78, 1],
  [0, 6227020800, 19802759040, 26596717056, 20313753096, 9957703756, 3336118786, 790943153, 135036473, 16669653, 1474473, 91091, 3731, 91, 1],
  [0, 87178291200, 283465647360, 392156797824, 310989260400, 159721605680, 56663366760, 14409322928, 2681453775, 368411615, 37312275, 2749747, 143325, 5005, 105, 1],
  [0, 1307674368000, 4339163001600, 6165817614720, 5056995703824, 2706813345600, 1009672107080, 272803210680, 54631129553, 8207628000, 928095740, 78558480, 4899622, 218400, 6580, 120, 1],
  [0, 20922789888000, 70734282393600, 102992244837120, 87077748875904, 48366009233424, 18861567058880, 5374523477960, 1146901283528, 185953177553, 23057159840, 2185031420, 156952432, 8394022, 323680, 8500, 136, 1],
  [0, 355687428096000, 1223405590579200, 1821602444624640, 1583313975727488, 909299905844112, 369012649234384, 110228466184200, 24871845297936, 4308105301929, 577924894833, 60202693980, 4853222764, 299650806, 13896582, 468180, 10812, 153, 1],
  [0, 6402373705728000, 22376988058521600, 34012249593822720, 30321254007719424, 17950712280921504, 7551527592063024, 2353125040549984, 557921681547048, 102417740732658, 14710753408923, 1661573386473, 147560703732, 10246937272, 549789282, 22323822, 662796, 13566, 171, 1],
  [0, 121645100408832000, 431565146817638400, 668609730341153280, 610116075740491776, 371384787345228000, 161429736530118960, 52260903362512720, 12953636989943896, 2503858755467550, 381922055502195, 46280647751910, 4465226757381, 342252511900, 20692933630, 973941900, 34916946, 920550, 16815, 190, 1],
  [0, 2432902008176640000, 8752948036761600000, 13803759753640704000, 12870931245150988800, 8037811822645051776, 3599979517947607200, 1206647803780373360, 311333643161390640, 63030812099294896, 10142299865511450, 1307535010540395, 135585182899530, 11310276995381, 756111184500, 40171771630, 1672280820, 53327946, 1256850, 20615, 210, 1],
  [0, 51090942171709440000, 186244810780170240000, 298631902863216384000, 284093315901811468800, 181664979520697076096, 83637381699544802976, 28939583397335447760, 7744654310169576800, 1634980697246583456, 276019109275035346, 37600535086859745, 4154823851430525, 373100999802531, 27188611869881, 1599718388730, 75289668850, 2792167686, 79721796, 1689765, 25025, 231, 1],
  [0, 1124000727777607680000, 4148476779335454720000, 6756146673770930688000, 6548684852703068697600, 4280722865357147142912, 2021687376910682741568, 720308216440924653696, 199321978221066137360, 43714229649594412832, 7707401101297361068, 1103230881185949736, 129006659818331295, 12363045847086207, 971250460939913, 62382416421941, 3256091103430, 136717357942, 4546047198, 116896626, 2240315, 30107, 253, 1],
  [0, 25852016738884976640000, 96538966652493066240000, 159539850276066860544000, 157375898285941510732800, 105005310755917452984576, 50779532534302850198976, 18588776355051949776576, 5304713715525445812976, 1204749260161737632496, 220984454979433717396, 33081711368574204996, 4070384057007569521, 413356714301314056, 34701806448704206, 2406046038644556, 137272511800831, 6400590336096, 241276443496, 7234669596, 168423871, 2932776, 35926, 276, 1],
  [0, 620448401733239439360000, 2342787216398718566400000, 3925495373278097719296000, 3936561409138663118131200, 2677503356427960382362624, 1323714091579185857760000, 496910165055549644836800, 145901905527662649288000, 34218695959407148992880, 6508376179668146850000, 1014945527825214637300, 130770928736755873500, 13990945200239106865, 1246200069070215000, 92446911376173550, 5700586321864500, 290886679867135, 12191224980000, 414908513800, 11276842500, 238810495, 3795000, 42550, 300, 1],
  [0, 15511210043330985984000000, 59190128811701203599360000, 100480171548351161548800000, 102339530601744675672576000, 70874145319837672677196800, 35770355645907606826362624, 13746468217967926978680000, 4144457803247115877036800, 1001369304512841374110000, 196928100451110820242880, 31882014375298512782500, 4284218746244111474800, 480544558742733545125, 45145946926994481865, 3557372853474553750, 234961569422786050, 12972753318542875, 595667304367135, 22563937825000, 696829576300, 17247104875, 333685495, 4858750, 50050, 325, 1],
  [0, 403291461126605635584000000, 1554454559147562279567360000, 2671674589068831403868160000, 2761307967193712729035776000, 1945067308917524165279692800, 1000903392113435450162625024, 393178529313073708272042624, 121502371102392939781636800, 30180059720580991603896800, 6121499916241722700424880, 1025860474208872152587880, 143271701777645411127300, 16778377273555183648050, 1654339178844590073615, 137637641117332879365, 9666373658466991050, 572253155704900800, 28460103232088385, 1182329687817135, 40681506808800, 1145254303050, 25922927745, 460012995, 6160050, 58500, 351, 1],
  [0, 10888869450418352160768000000, 42373564558110787183902720000, 73689668464006010184007680000, 77226989703299075087834112000, 55278125307966865191587481600, 28969458895980281319670568448, 11616723683566425573507775872, 3673742549077683082376236224, 936363983558079713086850400, 195460557459107504515368560, 33819732719881270820297640, 4894196422205298253024980, 596287888163635369624650, 61445535102359115635655, 5370555489012577816470, 398629729895941637715, 25117208862499312650, 1340675942971287195, 60383004803151030, 2280730371654735, 71603372991150, 1845173352165, 38343278610, 626334345, 7739550, 67977, 378, 1],
  [0, 304888344611713860501504000000, 1197348677077520393310044160000, 2105684281550279072336117760000, 2236045380156380112643362816000, 1625014498326371300452283596800, 866422974395414742142363398144, 354237722035840197377888292864, 114481515057741551880042390144, 29891934088703915048808047424, 6409259592413089839517170080, 1142413073615783087483702480, 170857232541629621904997080, 21590257290787088602515180, 2316762871029690607422990, 211821088794711294496815, 16532187926098943672490, 1101911578045922391915, 62656135265695354110, 3031400077459516035, 124243455209483610, 4285624815406935, 123268226851770, 2918785153245, 55880640270, 843041745, 9642906, 78561, 406, 1],
  [0, 8841761993739701954543616000000, 35027999979859805266492784640000, 62262192842035613491057459200000, 66951000306085302338993639424000, 49361465831621147825759587123200, 26751280755793398822580822142976, 11139316913434780466101123891200, 3674201658710345201899117607040, 981347603630155088295475765440, 215760462268683520394805979744, 39539238727270799376544542000, 6097272817323042122728617800, 796974693974455191377937300, 88776380550648116217781890, 8459574446076318147830625, 691254538651580660999025, 48487623689430693038025, 2918939500751087661105, 150566737512021319125, 6634460278534540725, 248526574856284725, 7860403394108265, 207912996295875, 4539323721075, 80328850875, 1122686019, 11921175, 90335, 435, 1]]
def tab_li : List (List Int) := [[1],
  [0, 1],
  [0, 2, 1],
  [0, 6, 6, 1],
  [0, 24, 36, 12, 1],
  [0, 120, 240, 120, 20, 1],
  [0, 720, 1800, 1200, 300, 30, 1],
  [0, 5040, 15120, 12600, 4200, 630, 42, 1],
  [0, 40320, 141120, 141120, 58800, 11760, 1176, 56, 1],
  [0, 362880, 1451520, 1693440, 846720, 211680, 28224, 2016, 72, 1],
  [0, 3628800, 16329600, 21772800, 12700800, 3810240, 635040, 60480, 3240, 90, 1],
  [0, 39916800, 199584000, 299376000, 199584000, 69854400, 13970880, 1663200, 118800, 4950, 110, 1],
  [0, 479001600, 2634508800, 4390848000, 3293136000, 1317254400, 307359360, 43908480, 3920400, 217800, 7260, 132, 1],
  [0, 6227020800, 37362124800, 68497228800, 57081024000, 25686460800, 6849722880, 1141620480, 122316480, 8494200, 377520, 10296, 156, 1],
  [0, 87178291200, 566658892800, 1133317785600, 1038874636800, 519437318400, 155831195520, 29682132480, 3710266560, 309188880, 17177160, 624624, 14196, 182, 1],
  [0, 1307674368000, 9153720576000, 19833061248000, 19833061248000, 10908183686400, 3636061228800, 779155977600, 111307996800, 10821610800, 721440720, 32792760, 993720, 19110, 210, 1],
  [0, 20922789888000, 156920924160000, 366148823040000, 396661224960000, 237996734976000, 87265469491200, 20777492736000, 3339239904000, 371026656000, 28857628800, 1574052480, 59623200, 1528800, 25200, 240, 1],
  [0, 355687428096000, 2845499424768000, 7113748561920000, 8299373322240000, 5394592659456000, 2157837063782400, 565147802419200, 100919250432000, 12614906304000, 1121325004800, 71357045760, 3243502080, 103958400, 2284800, 32640, 272, 1],
  [0, 6402373705728000, 54420176498688000, 145120470663168000, 181400588328960000, 126980411830272000, 55024845126451200, 15721384321843200, 3088129063219200, 428906814336000, 42890681433600, 3119322286080, 165418606080, 6362254080, 174787200, 3329280, 41616, 306, 1],
  [0, 121645100408832000, 1094805903679488000, 3101950060425216000, 4135933413900288000, 3101950060425216000, 1447576694865100800, 448059453172531200, 96012739965542400, 14668613050291200, 1629845894476800, 133351027729920, 8081880468480, 362648482560, 11955444480, 284653440, 4744224, 52326, 342, 1],
  [0, 2432902008176640000, 23112569077678080000, 69337707233034240000, 98228418580131840000, 78582734864105472000, 39291367432052736000, 13097122477350912000, 3040403432242176000, 506733905373696000, 61934143990118400, 5630376726374400, 383889322252800, 19686631910400, 757178150400, 21633661440, 450701280, 6627960, 64980, 380, 1],
  [0, 51090942171709440000, 510909421717094400000, 1617879835437465600000, 2426819753156198400000, 2062796790182768640000, 1100158288097476608000, 392913674320527360000, 98228418580131840000, 17735686688079360000, 2364758225077248000, 236475822507724800, 17914835038464000, 1033548175296000, 45430689024000, 1514356300800, 37858907520, 695935800, 9097200, 79800, 420, 1],
  [0, 1124000727777607680000, 11802007641664880640000, 39340025472216268800000, 62288373664342425600000, 56059536297908183040000, 31767070568814637056000, 12101741169072242688000, 3241537813144350720000, 630299019222512640000, 91043191665474048000, 9931984545324441600, 827665378777036800, 53055472998528000, 2623622291136000, 99947515852800, 2915135879040, 64304467920, 1050726600, 12289200, 97020, 462, 1],
  [0, 25852016738884976640000, 284372184127734743040000, 995302644447071600640000, 1658837740745119334400000, 1575895853707863367680000, 945537512224718020608000, 382717564471909675008000, 109347875563402764288000, 22780807409042242560000, 3543681152517682176000, 418798681661180620800, 38072607423743692800, 2684606933725516800, 147505875479424000, 6321680377689600, 210722679256320, 5423010127920, 106333531920, 1554583800, 16364040, 116886, 506, 1],
  [0, 620448401733239439360000, 7135156619932253552640000, 26162240939751596359680000, 45783921644565293629440000, 45783921644565293629440000, 28996483708224685965312000, 12427064446382008270848000, 3772501706937395367936000, 838333712652754526208000, 139722285442125754368000, 17782836328997823283200, 1751339941492209868800, 134718457037862297600, 8142324326464204800, 387729729831628800, 14539864868686080, 427643084373120, 9782684936640, 171626051520, 2258237520, 21507024, 139656, 552, 1],
  [0, 15511210043330985984000000, 186134520519971831808000000, 713515661993225355264000000, 1308112046987579817984000000, 1373517649336958808883200000, 915678432891305872588800000, 414235481546066942361600000, 133147119068378660044800000, 31437514224478294732800000, 5588891417685030174720000, 762121556957049569280000, 80831074222717378560000, 6735922851893114880000, 444126781443502080000, 23263783789897728000, 969324324579072000, 32073231327984000, 838515851712000, 17162605152000, 270988502400, 3226053600, 27931200, 165600, 600, 1],
  [0, 403291461126605635584000000, 5041143264082570444800000000, 20164573056330281779200000000, 38648765024633040076800000000, 42513641527096344084480000000, 29759549068967440859136000000, 14171213842365448028160000000, 4808090410802562723840000000, 1202022602700640680960000000, 227048713843454350848000000, 33025267468138814668800000, 3752871303197592576000000, 336796142594655744000000, 24056867328189696000000, 1374678133039411200000, 63006081097639680000, 2316400040354400000, 68129412951600000, 1593670478400000, 29357087760000, 419386968000, 4538820000, 35880000, 195000, 650, 1],
  [0, 10888869450418352160768000000, 141555302855438578089984000000, 589813761897660742041600000000, 1179627523795321484083200000000, 1356571652364619706695680000000, 994819211734054451576832000000, 497409605867027225788416000000, 177646287809652580638720000000, 46878881505324986557440000000, 9375776301064997311488000000, 1448983610164590493593600000, 175634376989647332556800000, 16887920864389166592000000, 1299070835722243584000000, 80418670782805555200000, 4020933539140277760000, 162611282832878880000, 5314094210224800000, 139844584479600000, 2944096515360000, 49068275256000, 637250328000, 6296940000, 45630000, 228150, 702, 1],
  [0, 304888344611713860501504000000, 4115992652258137116770304000000, 17835968159785260839337984000000, 37158266999552626748620800000000, 44589920399463152098344960000000, 34185605639588416608731136000000, 17906745811212980128382976000000, 6715029679204867548143616000000, 1865286022001352096706560000000, 393782604644729887082496000000, 64437153487319436068044800000, 8298724312760836463308800000, 851151211565213996236800000, 70149825129001153536000000, 4676655008600076902400000, 253318812965837498880000, 11175829983786948480000, 401745522292994880000, 11746945096286400000, 278217120701520000, 5299373727648000, 80293541328000, 952097328000, 8624070000, 57493800, 265356, 756, 1],
  [0, 8841761993739701954543616000000, 123784667912355827363610624000000, 557031005605601223136247808000000, 1206900512145469316795203584000000, 1508625640181836645994004480000000, 1206900512145469316795203584000000, 660921709032042721102135296000000, 259647814262588211861553152000000, 75730612493254895126286336000000, 16829024998501087805841408000000, 2906831590650187893736243200000, 396386125997752894600396800000, 43195923986934610309017600000, 3797443866983262444748800000, 271245990498804460339200000, 15822682779096926853120000, 756231162236250180480000, 29656124009264712960000, 953851941818455680000, 25101366889959360000, 537886433356272000, 9314050794048000, 128850505056000, 1400548968000, 11671241400, 71823024, 306936, 812, 1],
  [0, 265252859812191058636308480000000, 3846166467276770350226472960000000, 17948776847291594967723540480000000, 40384747906406088677377966080000000, 52500172278327915280591355904000000, 43750143565273262733826129920000000, 25000082037299007276472074240000000, 10267890836747806559979601920000000, 3137411089006274226660433920000000, 732062587434797319554101248000000, 133102288624508603555291136000000, 19158662756558056572352512000000, 2210614933449006527579136000000, 206486010267214895433216000000, 15732267448930658699673600000, 983266715558166168729600000, 50609316241964435155200000, 2150068990671691689600000, 75441017216550585600000, 2183818919426464320000, 51995688557772960000, 1012903023852720000, 16014277056960000, 203079600360000, 2030796003600, 15621507720, 89011440, 353220, 870, 1]]
def tabK : Kd → List (List Int)
  | .ch => tab_ch
  | .pa => tab_pa
  | .cy => tab_cy
  | .li => tab_li
def chainB (k : Kd) (T : List (List Int)) : Bool := (List.range 30).all fun n => decide (nextM k (T.getD n []) (n + 1) = T.getD (n + 1) [])
theorem chain_ok (k : Kd) : chainB k (tabK k) = true := by cases k <;> decide +kernel
theorem rowM_tab (k : Kd) : ∀ n, n ≤ 30 → rowM k n = (tabK k).getD n []
  | 0, _ => by cases k <;> rfl
  | n + 1, h => by
    have h1 := rowM_tab k n (by omega)
    have h2 := chain_ok k
    unfold chainB at h2
    rw [List.all_eq_true] at h2
    have h3 := of_decide_eq_true (h2 n (List.mem_range.mpr (by omega)))
    rw [rowM, h1, h3]
def sgnT (T : List (List Int)) : List (List Int) := T.zipIdx.map fun p => p.1.zipIdx.map (sgn p.2)
/-- a row times a table's column -/
def dotM (A B : List (List Int)) (i j : Nat) : Int := ((List.range (i + 1 - j)).map fun t => (A.getD i []).getD (j + t) 0 * (B.getD (j + t) []).getD j 0).sum
def unitB (A B : List (List Int)) : Bool := (List.range 31).all fun i => (List.range (i + 1)).all fun j => decide (dotM A B i j = if i = j then 1 else 0)
theorem unit_1 (k : Kd) : unitB (tabK k) (sgnT (tabK (mate k))) = true := by cases k <;> decide +kernel
theorem unit_2 (k : Kd) : unitB (sgnT (tabK (mate k))) (tabK k) = true := by cases k <;> decide +kernel
def smallB (T : List (List Int)) : Bool := T.all fun r => r.all fun x => decide (x.natAbs < 2 ^ 200)
theorem small_ok (k : Kd) : smallB (tabK k) = true := by cases k <;> decide +kernel

end L3

set_option Elab.async false
set_option linter.all false
set_option maxRecDepth 100000
set_option maxHeartbeats 600000
namespace L3
open PySem PySem.Spec L2
open PyProof.Rows hiding St
local macro_rules | `(tactic| walk_at "e1") => `(tactic| first
  | (with_reducible refine e_cons ?_)
  | (with_reducible refine e_nil ?_)
  | ((with_reducible refine' e_v ?hv ?_); (case hv => exact rfl))
  | (with_reducible refine e_c ?_)
  | (with_reducible refine e_call ?_)
  | (with_reducible refine e_cb ?_)
  | (with_reducible refine e_op ?_)
  | (with_reducible refine e_un ?_)
  | (with_reducible refine e_test ?_)
  | (with_reducible refine tk ?_)
  | (with_reducible refine e_tru ?_)
  | (with_reducible refine tr_bl ?_)
  | (with_reducible refine e_add ?_)
  | (with_reducible refine e_sub ?_)
  | (with_reducible refine e_neg ?_)
  | (with_reducible refine e_lt ?_)
  | (with_reducible refine e_le ?_)
  | (with_reducible refine e_gt ?_)
  | (with_reducible refine e_ge ?_)
  | (with_reducible refine e_eqI ?_)
  | (with_reducible refine e_neI ?_)
  | (with_reducible refine e_eqS ?_)
  | (with_reducible refine e_neS ?_)
  | (with_reducible refine e_notT ?_)
  | (with_reducible refine e_andT ?_)
  | (with_reducible refine e_orT ?_)
  | (with_reducible refine e_andV ?_)
  | (with_reducible refine e_orV ?_)
  | (with_reducible refine e_notV ?_)
  | (with_reducible refine ot_bl ?_)
  | (with_reducible refine e_ifE ?_)
  | (with_reducible refine c_int ?_)
  | (with_reducible refine c_intB ?_)
  | (with_reducible refine c_abs ?_)
  | (with_reducible refine c_lenT ?_)
  | (with_reducible refine c_tupT ?_)
  | (with_reducible refine if_t ?_)
  | (with_reducible refine if_f ?_)
  | (with_reducible refine if_nt ?_)
  | (with_reducible refine if_nf ?_))
local macro_rules | `(tactic| walk_at "e") => `(tactic| repeat walk_at "e1")
local macro_rules | `(tactic| walk_at "ds") => `(tactic| try dsimp only [List.set_cons_succ, List.set_cons_zero])
local macro_rules | `(tactic| walk_at "T") => `(tactic| ((first | refine ifT ?h ?_ | refine ifnT ?h ?_); (case h => first | omega | decide +kernel | assumption)))
local macro_rules | `(tactic| walk_at "F") => `(tactic| ((first | refine ifF ?h ?_ | refine ifnF ?h ?_); (case h => first | omega | decide +kernel | assumption)))
local macro_rules | `(tactic| walk_at "if") => `(tactic| (refine s_seq (s_if ?_); walk_at "e"))
local macro_rules | `(tactic| walk_at "if0") => `(tactic| (refine s_if ?_; walk_at "e"))
local macro_rules | `(tactic| walk_at "set") => `(tactic| (refine s_seq (s_set ?_); walk_at "e"))
local macro_rules | `(tactic| walk_at "set0") => `(tactic| (refine s_set ?_; walk_at "e"))
local macro_rules | `(tactic| walk_at "ex") => `(tactic| (refine s_seq (s_expr ?_); walk_at "e"))
local macro_rules | `(tactic| walk_at "ret") => `(tactic| (refine s_ret ?_; walk_at "e"))
local macro_rules | `(tactic| walk_at "nx") => `(tactic| (refine s_next ?_; walk_at "ds"))
theorem map_at {α : Type} {f : Nat → List α} {m i : Nat} (h : i ≤ m) : ((List.range (m + 1)).map f).getD i [] = f i := by
  rw [List.getD_eq_getElem?_getD, List.getElem?_map, List.getElem?_range (by omega)]
  rfl
theorem tab_length (k : Kd) : (tabK k).length = 31 := by cases k <;> rfl
theorem turn_tab {k : Kd} {i : Nat} (h : i ≤ 30) : turnM k i = (sgnT (tabK (mate k))).getD i [] := by
  have hl : i < (tabK (mate k)).length := by rw [tab_length]; omega
  unfold turnM sgnT
  rw [rowM_tab _ _ h, List.getD_eq_getElem?_getD, List.getD_eq_getElem?_getD, List.getElem?_map, List.getElem?_zipIdx, List.getElem?_eq_getElem hl]
  simp
theorem dot_congr {A B A' B' : List (List Int)} {i j m : Nat} (hi : i ≤ m) (hA : ∀ n, n ≤ m → A.getD n [] = A'.getD n []) (hB : ∀ n, n ≤ m → B.getD n [] = B'.getD n []) : dotM A B i j = dotM A' B' i j := by
  unfold dotM
  congr 1
  apply List.map_congr_left
  intro t ht
  rw [List.mem_range] at ht
  rw [hA i hi, hB (j + t) (by omega)]
def ownT (k : Kd) (m : Nat) : List (List Int) := (List.range (m + 1)).map (rowM k)
def toldT (k : Kd) (m : Nat) : List (List Int) := (List.range (m + 1)).map (turnM k)
theorem unit_at {A B : List (List Int)} (h : unitB A B = true) {i j : Nat} (hi : i ≤ 30) (hj : j ≤ i) : dotM A B i j = if i = j then 1 else 0 := by
  unfold unitB at h
  rw [List.all_eq_true] at h
  have h2 := h i (List.mem_range.mpr (by omega))
  rw [List.all_eq_true] at h2
  exact of_decide_eq_true (h2 j (List.mem_range.mpr (by omega)))
theorem unit_ot {k : Kd} {m i j : Nat} (hm : m ≤ 30) (hi : i ≤ m) (hj : j ≤ i) : dotM (ownT k m) (toldT k m) i j = if i = j then 1 else 0 := by
  rw [← unit_at (unit_1 k) (show i ≤ 30 by omega) hj]
  exact dot_congr hi (fun n hn => by rw [ownT, map_at hn, rowM_tab _ _ (by omega)]) (fun n hn => by rw [toldT, map_at hn, turn_tab (by omega)])
theorem unit_to {k : Kd} {m i j : Nat} (hm : m ≤ 30) (hi : i ≤ m) (hj : j ≤ i) : dotM (toldT k m) (ownT k m) i j = if i = j then 1 else 0 := by
  rw [← unit_at (unit_2 k) (show i ≤ 30 by omega) hj]
  exact dot_congr hi (fun n hn => by rw [toldT, map_at hn, turn_tab (by omega)]) (fun n hn => by rw [ownT, map_at hn, rowM_tab _ _ (by omega)])
theorem row_small {k : Kd} {n : Nat} (hn : n ≤ 30) : ∀ x ∈ rowM k n, x.natAbs < 2 ^ 200 := by
  intro x hx
  rw [rowM_tab _ _ hn] at hx
  have h := small_ok k
  unfold smallB at h
  rw [List.all_eq_true] at h
  have hl : n < (tabK k).length := by rw [tab_length]; omega
  rw [List.getD_eq_getElem?_getD, List.getElem?_eq_getElem hl] at hx
  have h2 := h _ (List.getElem_mem hl)
  rw [List.all_eq_true] at h2
  exact of_decide_eq_true (h2 x hx)
theorem turn_small {k : Kd} {n : Nat} (hn : n ≤ 30) : ∀ x ∈ turnM k n, x.natAbs < 2 ^ 200 := by
  intro x hx
  obtain ⟨p, hp, rfl⟩ := List.mem_map.mp hx
  have hm : p.1 ∈ rowM (mate k) n := by
    have := List.fst_mem_of_mem_zipIdx hp
    exact this
  have := row_small hn _ hm
  unfold sgn
  split
  · rw [Int.natAbs_neg]; exact this
  · exact this
theorem turnM_len (k : Kd) (n : Nat) : (turnM k n).length = n + 1 := by rw [turnM, List.length_map, List.length_zipIdx, rowM_len]
/-- a row, a table in the view -/
def rowIs (S : Sto) (y : PV) (r : List Int) : Prop := y = .tup (r.map PV.int) ∨ ∃ b, y = .ref b ∧ RdL S b (r.map PV.int)
def tabIs (S : Sto) (x : PV) (T : List (List Int)) : Prop := ∃ ys : List PV, (x = .tup ys ∨ ∃ a, x = .ref a ∧ RdL S a ys) ∧ ys.length = T.length ∧ ∀ (i : Nat) (y : PV), ys[i]? = some y → ∃ r, T[i]? = some r ∧ rowIs S y r
theorem rowIs.mono {S S' : Sto} {y : PV} {r : List Int} (h : rowIs S y r) (s : Sub S S') : rowIs S' y r := by
  rcases h with h | ⟨b, e, h⟩
  · exact .inl h
  · exact .inr ⟨b, e, h.sub s⟩
theorem tabIs.mono {S S' : Sto} {x : PV} {T : List (List Int)} (h : tabIs S x T) (s : Sub S S') : tabIs S' x T := by
  obtain ⟨ys, h1, h2, h3⟩ := h
  refine ⟨ys, ?_, h2, fun i y e => ?_⟩
  · rcases h1 with h1 | ⟨a, e, h1⟩
    · exact .inl h1
    · exact .inr ⟨a, e, h1.sub s⟩
  · obtain ⟨r, e1, e2⟩ := h3 i y e
    exact ⟨r, e1, e2.mono s⟩
theorem tab_ix {S : Sto} {x : PV} {T : List (List Int)} {i : Nat} {Q : KE} (h : tabIs S x T) (hi : i < T.length) (q : ∀ y, rowIs S y (T.getD i []) → Q y S) : oIx x (.int (i : Nat)) S Q := by
  obtain ⟨ys, h1, h2, h3⟩ := h
  have hy : i < ys.length := by omega
  obtain ⟨r, e1, e2⟩ := h3 i ys[i] (List.getElem?_eq_getElem hy)
  have er : T.getD i [] = r := by rw [List.getD_eq_getElem?_getD, e1]; rfl
  rw [er] at q
  rcases h1 with rfl | ⟨a, rfl, ha⟩
  · exact e_ixt (atI_nat (List.getElem?_eq_getElem hy)) (q _ e2)
  · exact e_ixl ha (atI_nat (List.getElem?_eq_getElem hy)) (q _ e2)
theorem row_ix {S : Sto} {y : PV} {r : List Int} {j : Nat} {Q : KE} (h : rowIs S y r) (hj : j < r.length) (q : Q (.int (r.getD j 0)) S) : oIx y (.int (j : Nat)) S Q := by
  rcases h with rfl | ⟨b, rfl, hb⟩
  · exact e_ixt (getD_at hj) q
  · exact e_ixl hb (getD_at hj) q
theorem tab_len {S : Sto} {x : PV} {T : List (List Int)} {Q : KE} (h : tabIs S x T) (q : Q (.int T.length) S) : cLen [x] S Q := by
  obtain ⟨ys, h1, h2, h3⟩ := h
  rw [← h2] at q
  rcases h1 with rfl | ⟨a, rfl, ha⟩
  · exact q
  · exact c_lenL ha q
theorem log_of {x : Int} {b : Nat} (hb : 0 < b) (h : x.natAbs < 2 ^ b) : x.natAbs.log2 < b := by
  by_cases h0 : x.natAbs = 0
  · rw [h0]; simpa using hb
  · exact (Nat.log2_lt h0).mpr h
theorem getD_small {r : List Int} {j b : Nat} (h : ∀ x ∈ r, x.natAbs < 2 ^ b) : (r.getD j 0).natAbs < 2 ^ b := by
  rw [List.getD_eq_getElem?_getD]
  cases e : r[j]? with
  | none => exact Nat.two_pow_pos b
  | some x => exact h x (List.mem_of_getElem? e)
theorem r_is_unit {x y : PV} {A B : List (List Int)} {m : Nat} {S : Sto} {Q : KE} {E : KX} (hA : tabIs S x A) (hB : tabIs S y B) (lA : A.length = m + 1) (lB : B.length = m + 1) (hm : m ≤ 30) (rA : ∀ i, i ≤ m → (A.getD i []).length = i + 1) (rB : ∀ i, i ≤ m → (B.getD i []).length = i + 1)
    (sA : ∀ i, i ≤ m → ∀ x ∈ A.getD i [], x.natAbs < 2 ^ 200) (sB : ∀ i, i ≤ m → ∀ x ∈ B.getD i [], x.natAbs < 2 ^ 200) (u : ∀ i j, i ≤ m → j ≤ i → dotM A B i j = if i = j then 1 else 0) (h : Q (.bl true) S) : sp__law_is_unit [x, y] S Q E := by
  refine ⟨rfl, ?_⟩
  rw [eW__law_is_unit, st__law_is_unit]
  refine s_seq (s_for (i_rng ?_))
  walk_at "e"
  refine tab_len hA ?_
  refine rk (m + 1) (by rw [lA]) (by omega) ?_
  refine for_rng (fun t ε S' => ∃ o2 o3 o4 o5 : Option PV, ε = [some x, some y, o2, o3, o4, o5] ∧ Sub S S') ?_ ?_ ⟨none, none, none, none, rfl, .refl _⟩
  · rintro t ht C hC ε S' ⟨o2, o3, o4, o5, rfl, sb⟩
    rw [Int.zero_add]
    show w__law_is_unit_2 _ _ _
    walk_at "ds"
    refine s_for (i_rng ?_)
    walk_at "e"
    refine rk (t + 1) rfl (by omega) ?_
    refine for_rng (fun j ε S' => ∃ o3 o4 o5 : Option PV, ε = [some x, some y, some (.int (t : Nat)), o3, o4, o5] ∧ Sub S S') ?_ ?_ ⟨_, _, _, rfl, sb⟩
    · rintro j hj C2 hC2 ε S2 ⟨o3, o4, o5, rfl, sb2⟩
      rw [Int.zero_add]
      show b__law_is_unit_3 _ _ _
      walk_at "ds"
      walk_at "set"
      refine e_lc (i_r2 ?_)
      walk_at "ds"
      walk_at "e"
      refine r2k (t + 1 - j) (by omega) (by omega) (by omega) (by omega) (by omega) ?_
      rw [rangeP_map]
      refine lc_map (fun S' => S' = S2) (List.range (t + 1 - j)) _ (fun n => .int ((A.getD t []).getD (j + n) 0 * (B.getD (j + n) []).getD j 0)) (sz (m := 300) (by rw [List.length_range]; omega)) (fun _ _ => trivial) (fun n hn S3 C3 e k => ?_) (fun S3 e D hD => ?_) rfl
      · subst e
        rw [List.mem_range] at hn
        rw [show (j : Int) + (n : Nat) = ((j + n : Nat) : Int) from rfl]
        show wOp _ _ _ _ _ _ _
        walk_at "ds"
        walk_at "e"
        refine tab_ix (hA.mono sb2) (by omega) fun y1 hy1 => ?_
        walk_at "e"
        refine row_ix hy1 (by rw [rA t (by omega)]; omega) ?_
        walk_at "e"
        refine tab_ix (hB.mono sb2) (by omega) fun y2 hy2 => ?_
        walk_at "e"
        refine row_ix hy2 (by rw [rB (j + n) (by omega)]; omega) ?_
        refine e_mul (.inr ?_) (k _ rfl)
        have e1 := log_of (by decide) (getD_small (j := j + n) (sA t (by omega)))
        have e2 := log_of (by decide) (getD_small (j := j) (sB (j + n) (by omega)))
        unfold CMulW
        omega
      · subst e
        rw [map_int (List.range (t + 1 - j)) (fun n => (A.getD t []).getD (j + n) 0 * (B.getD (j + n) []).getD j 0)]
        walk_at "e"
        refine c_sumL (.inl supd_same) ?_
        walk_at "ds"
        have hu := u t j (by omega) (by omega)
        unfold dotM at hu
        rw [hu]
        refine s_if ?_
        walk_at "e"
        refine ifnF ?_ (s_next ?_)
        · by_cases e : t = j
          · rw [if_pos e, if_pos (decide_eq_true (by omega))]
          · rw [if_neg e, if_neg (by rw [decide_eq_false (by omega)]; exact Bool.false_ne_true)]
        · exact hC2.at ⟨_, _, _, rfl, sb2.grow hD⟩
    · rintro ε S2 ⟨o3, o4, o5, rfl, sb2⟩
      exact hC.at ⟨_, _, _, _, rfl, sb2⟩
  · rintro ε S' ⟨o2, o3, o4, o5, rfl, sb⟩
    walk_at "ds"
    walk_at "ret"
    exact dn_sub sb h

end L3

set_option Elab.async false
set_option linter.all false
set_option maxRecDepth 100000
set_option maxHeartbeats 600000
namespace L3
open PySem PySem.Spec L2
open PyProof.Rows hiding St
local macro_rules | `(tactic| walk_at "e1") => `(tactic| first
  | (with_reducible refine e_cons ?_)
  | (with_reducible refine e_nil ?_)
  | ((with_reducible refine' e_v ?hv ?_); (case hv => exact rfl))
  | (with_reducible refine e_c ?_)
  | (with_reducible refine e_call ?_)
  | (with_reducible refine e_cb ?_)
  | (with_reducible refine e_op ?_)
  | (with_reducible refine e_un ?_)
  | (with_reducible refine e_test ?_)
  | (with_reducible refine tk ?_)
  | (with_reducible refine e_tru ?_)
  | (with_reducible refine tr_bl ?_)
  | (with_reducible refine e_add ?_)
  | (with_reducible refine e_sub ?_)
  | (with_reducible refine e_neg ?_)
  | (with_reducible refine e_lt ?_)
  | (with_reducible refine e_le ?_)
  | (with_reducible refine e_gt ?_)
  | (with_reducible refine e_ge ?_)
  | (with_reducible refine e_eqI ?_)
  | (with_reducible refine e_neI ?_)
  | (with_reducible refine e_eqS ?_)
  | (with_reducible refine e_neS ?_)
  | (with_reducible refine e_notT ?_)
  | (with_reducible refine e_andT ?_)
  | (with_reducible refine e_orT ?_)
  | (with_reducible refine e_andV ?_)
  | (with_reducible refine e_orV ?_)
  | (with_reducible refine e_notV ?_)
  | (with_reducible refine ot_bl ?_)
  | (with_reducible refine e_ifE ?_)
  | (with_reducible refine c_int ?_)
  | (with_reducible refine c_intB ?_)
  | (with_reducible refine c_abs ?_)
  | (with_reducible refine c_lenT ?_)
  | (with_reducible refine c_tupT ?_)
  | (with_reducible refine if_t ?_)
  | (with_reducible refine if_f ?_)
  | (with_reducible refine if_nt ?_)
  | (with_reducible refine if_nf ?_))
local macro_rules | `(tactic| walk_at "e") => `(tactic| repeat walk_at "e1")
local macro_rules | `(tactic| walk_at "ds") => `(tactic| try dsimp only [List.set_cons_succ, List.set_cons_zero])
local macro_rules | `(tactic| walk_at "T") => `(tactic| ((first | refine ifT ?h ?_ | refine ifnT ?h ?_); (case h => first | omega | decide +kernel | assumption)))
local macro_rules | `(tactic| walk_at "F") => `(tactic| ((first | refine ifF ?h ?_ | refine ifnF ?h ?_); (case h => first | omega | decide +kernel | assumption)))
local macro_rules | `(tactic| walk_at "if") => `(tactic| (refine s_seq (s_if ?_); walk_at "e"))
local macro_rules | `(tactic| walk_at "if0") => `(tactic| (refine s_if ?_; walk_at "e"))
local macro_rules | `(tactic| walk_at "set") => `(tactic| (refine s_seq (s_set ?_); walk_at "e"))
local macro_rules | `(tactic| walk_at "set0") => `(tactic| (refine s_set ?_; walk_at "e"))
local macro_rules | `(tactic| walk_at "ex") => `(tactic| (refine s_seq (s_expr ?_); walk_at "e"))
local macro_rules | `(tactic| walk_at "ret") => `(tactic| (refine s_ret ?_; walk_at "e"))
local macro_rules | `(tactic| walk_at "nx") => `(tactic| (refine s_next ?_; walk_at "ds"))
theorem row0_at {xs : List Int} {j : Nat} (h : j ≤ xs.length) : atI ((xs.map PV.int) ++ [PV.int 0]) (j : Int) = some (.int (xs.getD j 0)) := by
  refine atI_nat ?_
  by_cases hj : j < xs.length
  · rw [List.getElem?_append_left (by simpa using hj), List.getElem?_map, List.getElem?_eq_getElem hj, List.getD_eq_getElem?_getD, List.getElem?_eq_getElem hj]
    rfl
  · have : j = xs.length := by omega
    subst this
    rw [List.getElem?_append_right (by simp), List.length_map, Nat.sub_self, getD_none (Nat.le_refl _)]
    rfl
structure RowsAt (S0 S : Sto) (k : Kd) (R : Addr) (qs : List Addr) : Prop where
  sb : Sub S0 S
  no : S0 R = none
  at_ : S R = some (.lst (qs.map PV.ref))
  row : ∀ (i : Nat) (q : Addr), qs[i]? = some q → S0 q = none ∧ q ≠ R ∧ S q = some (.lst ((rowM k i).map PV.int))
theorem RowsAt.tab {S0 S : Sto} {k : Kd} {R : Addr} {qs : List Addr} {m : Nat} (h : RowsAt S0 S k R qs) (hl : qs.length = m + 1) : tabIs S (.ref R) (ownT k m) := by
  refine ⟨qs.map PV.ref, .inr ⟨R, rfl, .inl h.at_⟩, by simp [ownT, hl], fun i y e => ?_⟩
  rw [List.getElem?_map] at e
  cases eq : qs[i]? with
  | none => rw [eq] at e; cases e
  | some q =>
    rw [eq] at e; cases e
    have hi : i < qs.length := (List.getElem?_eq_some_iff.mp eq).1
    refine ⟨rowM k i, ?_, .inr ⟨q, rfl, .inl (h.row i q eq).2.2⟩⟩
    unfold ownT
    rw [List.getElem?_map, List.getElem?_range (by omega)]
    rfl
theorem r_triangle {k : Kd} {m : Nat} {S : Sto} {Q : KE} {E : KX} (hm : m ≤ 30) (h : ∀ R qs S', RowsAt S S' k R qs → qs.length = m + 1 → Q (.ref R) S') : sp__law_triangle [.str (nm k), .int m] S Q E := by
  refine ⟨rfl, ?_⟩
  rw [eW__law_triangle, st__law_triangle]
  refine s_seq (s_set (e_lst (e_cons (e_lstk fun q hq => e_nil ⟨(by decide : 1 ≤ sizeLine), fun R hR => ?_⟩))))
  walk_at "ds"
  refine s_seq (s_for (i_r2 ?_))
  walk_at "e"
  refine r2k m (by omega) (by omega) (by omega) (by omega) (by omega) ?_
  have sb0 := (Sub.refl S).grow (u := .lst [.int 1]) hq
  have hqR : q ≠ R := fun z => by rw [z, ← z, supd_same] at hR; cases hR
  refine for_rng (fun t ε S' => ∃ (qs : List Addr) (o3 o4 o5 o6 o7 o8 : Option PV), ε = [some (.str (nm k)), some (.int m), some (.ref R), o3, o4, o5, o6, o7, o8] ∧ RowsAt S S' k R qs ∧ qs.length = t + 1) ?_ ?_ ⟨[q], none, none, none, none, none, none, rfl, ⟨sb0.grow hR, sb0.none' hR, supd_same, ?_⟩, rfl⟩
  rotate_right
  · intro i q' e
    match i, e with
    | 0, e => cases e; exact ⟨hq, hqR, by rw [supd_ne hqR]; exact supd_same⟩
    | i + 1, e => simp at e
  · rintro t ht C hC ε S' ⟨qs, o3, o4, o5, o6, o7, o8, rfl, ra, hl⟩
    rw [show (1 : Int) + (t : Nat) = ((t + 1 : Nat) : Int) from by omega]
    show b__law_triangle_3 _ _ _
    walk_at "ds"
    refine s_seq (s_par ?_)
    walk_at "e"
    obtain ⟨qt, hqt⟩ : ∃ qt, qs[t]? = some qt := ⟨qs[t], List.getElem?_eq_getElem (by omega)⟩
    have rt := ra.row t qt hqt
    refine e_ixl (.inl ra.at_) (atI_last (v := .ref qt) (by rw [List.length_map, hl, List.getElem?_map, show t + 1 - 1 = t from rfl, hqt]; rfl)) ?_
    refine e_lstk fun z hz => ?_
    refine e_catL (keep1 rt.2.2 hz) supd_same (sz (m := 300) (by rw [List.length_map, rowM_len]; simp; omega)) fun O hO => ?_
    walk_at "e"
    refine e_lstk fun L hL => ?_
    walk_at "e"
    walk_at "ds"
    -- the view at the inner loop's start, without the line
    have sb1 := (ra.sb.grow (u := .lst [.int 0]) hz).grow (u := .lst ((rowM k t).map PV.int ++ [.int 0])) hO
    have eR := keep1 (u := .lst ((rowM k t).map PV.int ++ [.int 0])) (keep1 (u := .lst [.int 0]) ra.at_ hz) hO
    have eO : supd (supd S' z (.lst [.int 0])) O (.lst ((rowM k t).map PV.int ++ [.int 0])) O = _ := supd_same
    have er : ∀ (i : Nat) (q : Addr), qs[i]? = some q → supd (supd S' z (.lst [.int 0])) O (.lst ((rowM k t).map PV.int ++ [.int 0])) q = some (.lst ((rowM k i).map PV.int)) := fun i q e => keep1 (keep1 (ra.row i q e).2.2 hz) hO
    have hL' := hL
    revert sb1 eR eO er hL hL'
    generalize supd (supd S' z (.lst [.int 0])) O (.lst ((rowM k t).map PV.int ++ [.int 0])) = S1
    intro hL sb1 eR eO er _
    have hLR : L ≠ R := fun z => by rw [z, eR] at hL; cases hL
    refine s_seq (s_for (i_rng ?_))
    walk_at "e"
    refine rk (t + 2) (by omega) (by omega) ?_
    refine for_rng (fun j ε S2 => ∃ (o6 o7 o8 : Option PV), ε = [some (.str (nm k)), some (.int m), some (.ref R), some (.int ((t + 1 : Nat) : Int)), some (.ref O), some (.ref L), o6, o7, o8] ∧ Sub S1 S2 ∧ S2 L = some (.lst (((List.range j).map (itM k (rowM k t) (t + 1))).map PV.int))) ?_ ?_ ⟨_, _, _, rfl, (Sub.refl _).grow hL, supd_same⟩
    · rintro j hj C2 hC2 ε S2 ⟨o6, o7, o8, rfl, sb2, eL⟩
      rw [Int.zero_add]
      show b__law_triangle_5 _ _ _
      walk_at "ds"
      walk_at "set"
      have eO2 := sb2.le _ _ eO
      refine e_if2 (.int (if j = 0 then 0 else (rowM k t).getD (j - 1) 0)) (fun hc Q q => ?_) (fun hc Q q => ?_) ?_
      · walk_at "e"
        rw [if_neg (by omega)] at q
        rw [show (j : Int) - 1 = ((j - 1 : Nat) : Int) from by omega]
        exact e_ixl (.inl eO2) (row0_at (by rw [rowM_len]; omega)) q
      · walk_at "e"
        rw [if_pos (by omega)] at q
        exact q
      walk_at "ds"
      walk_at "set"
      refine e_ixl (.inl eO2) (row0_at (by rw [rowM_len]; omega)) ?_
      walk_at "ds"
      have fin : ∀ v : Int, v = itM k (rowM k t) (t + 1) j → C2 [some (.str (nm k)), some (.int m), some (.ref R), some (.int ((t + 1 : Nat) : Int)), some (.ref O), some (.ref L), some (.int j), some (.int (if j = 0 then 0 else (rowM k t).getD (j - 1) 0)), some (.int ((rowM k t).getD j 0))] (supd S2 L (.lst (((List.range j).map (itM k (rowM k t) (t + 1))).map PV.int ++ [.int v]))) := fun v hv => by
        refine hC2.at ⟨_, _, _, rfl, sb2.own hL, ?_⟩
        rw [supd_same, hv, List.range_succ, List.map_append, List.map_append]
        rfl
      have hz2 : (((List.range j).map (itM k (rowM k t) (t + 1))).map PV.int).length < sizeLine := sz1 (m := 300) (by simp; omega)
      cases k
      · walk_at "if0"
        walk_at "T"
        refine s_app rfl ⟨_, .inl eL⟩ ?_
        walk_at "e"
        exact ⟨_, eL, hz2, fin _ (by simp only [itM, madeM]; omega)⟩
      · walk_at "if0"
        walk_at "F"
        walk_at "if0"
        walk_at "T"
        refine s_app rfl ⟨_, .inl eL⟩ ?_
        walk_at "e"
        refine e_mul (CMl (by omega)) ?_
        walk_at "e"
        exact ⟨_, eL, hz2, fin _ (by simp only [itM, madeM]; omega)⟩
      · walk_at "if0"
        walk_at "F"
        walk_at "if0"
        walk_at "F"
        walk_at "if0"
        walk_at "T"
        refine s_app rfl ⟨_, .inl eL⟩ ?_
        walk_at "e"
        refine e_mul (CMl (by omega)) ?_
        walk_at "e"
        exact ⟨_, eL, hz2, fin _ (by simp only [itM, madeM]; omega)⟩
      · walk_at "if0"
        walk_at "F"
        walk_at "if0"
        walk_at "F"
        walk_at "if0"
        walk_at "F"
        walk_at "if0"
        walk_at "T"
        refine s_app rfl ⟨_, .inl eL⟩ ?_
        walk_at "e"
        refine e_mul (CMl (by omega)) ?_
        walk_at "e"
        exact ⟨_, eL, hz2, fin _ (by simp only [itM, madeM]; omega)⟩
    · rintro ε S2 ⟨o6, o7, o8, rfl, sb2, eL⟩
      walk_at "ds"
      refine s_app rfl ⟨_, .inl (sb2.le _ _ eR)⟩ ?_
      walk_at "e"
      refine ⟨_, sb2.le _ _ eR, sz1 (m := 300) (by rw [List.length_map]; omega), ?_⟩
      refine hC.at ⟨qs ++ [L], _, _, _, _, _, _, rfl, ⟨(sb1.trans sb2).own ra.no, ra.no, ?_, fun i q e => ?_⟩, by simp [hl]⟩
      · rw [supd_same, List.map_append]; rfl
      · by_cases hi : i < qs.length
        · rw [List.getElem?_append_left hi] at e
          have r := ra.row i q e
          exact ⟨r.1, r.2.1, by rw [supd_ne r.2.1]; exact sb2.le _ _ (er i q e)⟩
        · have hi2 : i = t + 1 := by
            have := (List.getElem?_eq_some_iff.mp e).1
            simp at this; omega
          subst hi2
          rw [List.getElem?_append_right (by omega), hl, Nat.sub_self] at e
          cases e
          exact ⟨sb1.none' hL, hLR, by rw [supd_ne hLR]; exact eL⟩
  · rintro ε S' ⟨qs, o3, o4, o5, o6, o7, o8, rfl, ra, hl⟩
    walk_at "ds"
    walk_at "ret"
    exact dn_same (h R qs S' ra hl)

end L3

set_option Elab.async false
set_option linter.all false
set_option maxRecDepth 100000
set_option maxHeartbeats 600000
namespace L3
open PySem PySem.Spec L2
open PyProof.Rows hiding St
local macro_rules | `(tactic| walk_at "e1") => `(tactic| first
  | (with_reducible refine e_cons ?_)
  | (with_reducible refine e_nil ?_)
  | ((with_reducible refine' e_v ?hv ?_); (case hv => exact rfl))
  | (with_reducible refine e_c ?_)
  | (with_reducible refine e_call ?_)
  | (with_reducible refine e_cb ?_)
  | (with_reducible refine e_op ?_)
  | (with_reducible refine e_un ?_)
  | (with_reducible refine e_test ?_)
  | (with_reducible refine tk ?_)
  | (with_reducible refine e_tru ?_)
  | (with_reducible refine tr_bl ?_)
  | (with_reducible refine e_add ?_)
  | (with_reducible refine e_sub ?_)
  | (with_reducible refine e_neg ?_)
  | (with_reducible refine e_lt ?_)
  | (with_reducible refine e_le ?_)
  | (with_reducible refine e_gt ?_)
  | (with_reducible refine e_ge ?_)
  | (with_reducible refine e_eqI ?_)
  | (with_reducible refine e_neI ?_)
  | (with_reducible refine e_eqS ?_)
  | (with_reducible refine e_neS ?_)
  | (with_reducible refine e_notT ?_)
  | (with_reducible refine e_andT ?_)
  | (with_reducible refine e_orT ?_)
  | (with_reducible refine e_andV ?_)
  | (with_reducible refine e_orV ?_)
  | (with_reducible refine e_notV ?_)
  | (with_reducible refine ot_bl ?_)
  | (with_reducible refine e_ifE ?_)
  | (with_reducible refine c_int ?_)
  | (with_reducible refine c_intB ?_)
  | (with_reducible refine c_abs ?_)
  | (with_reducible refine c_lenT ?_)
  | (with_reducible refine c_tupT ?_)
  | (with_reducible refine if_t ?_)
  | (with_reducible refine if_f ?_)
  | (with_reducible refine if_nt ?_)
  | (with_reducible refine if_nf ?_))
local macro_rules | `(tactic| walk_at "e") => `(tactic| repeat walk_at "e1")
local macro_rules | `(tactic| walk_at "ds") => `(tactic| try dsimp only [List.set_cons_succ, List.set_cons_zero])
local macro_rules | `(tactic| walk_at "T") => `(tactic| ((first | refine ifT ?h ?_ | refine ifnT ?h ?_); (case h => first | omega | decide +kernel | assumption)))
local macro_rules | `(tactic| walk_at "F") => `(tactic| ((first | refine ifF ?h ?_ | refine ifnF ?h ?_); (case h => first | omega | decide +kernel | assumption)))
local macro_rules | `(tactic| walk_at "if") => `(tactic| (refine s_seq (s_if ?_); walk_at "e"))
local macro_rules | `(tactic| walk_at "if0") => `(tactic| (refine s_if ?_; walk_at "e"))
local macro_rules | `(tactic| walk_at "set") => `(tactic| (refine s_seq (s_set ?_); walk_at "e"))
local macro_rules | `(tactic| walk_at "set0") => `(tactic| (refine s_set ?_; walk_at "e"))
local macro_rules | `(tactic| walk_at "ex") => `(tactic| (refine s_seq (s_expr ?_); walk_at "e"))
local macro_rules | `(tactic| walk_at "ret") => `(tactic| (refine s_ret ?_; walk_at "e"))
local macro_rules | `(tactic| walk_at "nx") => `(tactic| (refine s_next ?_; walk_at "ds"))
theorem r_law_is {x y : PV} {d : PyData} {S : Sto} {Q : KE} {E : KX} (hx : Dat S x d) (hy : Dat S y d) (hs : Shw d) (h : Q (.bl true) S) : sp__law_is [x, y] S Q E := by
  refine ⟨rfl, ?_⟩
  rw [eW__law_is, st__law_is]
  walk_at "ret"
  refine c_repr hx hs ?_
  walk_at "e"
  refine c_repr hy hs ?_
  walk_at "e"
  rw [decide_eq_true rfl]
  exact dn_same h
theorem dat_tab {S : Sto} {T : List (List Int)} : Dat S (.tup (tabP T)) (.tuple (tabD T)) := .tup (dats_tab T)
theorem turnT_tab (k : Kd) (m : Nat) : turnT k (m + 1) = tabP (toldT k m) := by
  unfold turnT tabP toldT
  rw [List.map_map]
  rfl
theorem told_tab {S : Sto} {k : Kd} {m : Nat} : tabIs S (.tup (tabP (toldT k m))) (toldT k m) := by
  refine ⟨_, .inl rfl, by simp [tabP], fun i y e => ?_⟩
  unfold tabP at e
  rw [List.getElem?_map] at e
  cases eq : (toldT k m)[i]? with
  | none => rw [eq] at e; cases e
  | some r => rw [eq] at e; cases e; exact ⟨r, rfl, .inl rfl⟩
theorem told_len (k : Kd) (m : Nat) : (toldT k m).length = m + 1 := by simp [toldT]
theorem own_len (k : Kd) (m : Nat) : (ownT k m).length = m + 1 := by simp [ownT]
theorem sgn_alt (n : Nat) (p : Int × Nat) : p.1 * (1 - 2 * (((n : Int) - (p.2 : Nat)) % 2)) = sgn n p := by
  unfold sgn
  split
  · rename_i h; rw [h]; omega
  · rename_i h
    have : ((n : Int) - (p.2 : Nat)) % 2 = 0 := by omega
    rw [this]; omega
theorem shw_told {k : Kd} {m : Nat} (hm : m ≤ 30) : Shw (.tuple (tabD (toldT k m))) := by
  refine shw_tab (B := 200) (L := 31) (by decide) (by decide) (fun r hr => ?_) (by rw [told_len]; omega)
  obtain ⟨i, hi, rfl⟩ := List.mem_map.mp hr
  rw [List.mem_range] at hi
  exact ⟨by rw [turnM_len]; omega, fun n hn => log_of (by decide) (turn_small (by omega) n hn)⟩
theorem shw_row {k : Kd} {m : Nat} (hm : m ≤ 30) : Shw (.tuple ((rowM k m).map PyData.int)) :=
  shw_tints (B := 200) (by decide) (by decide) (fun n hn => log_of (by decide) (row_small hm n hn)) (by rw [rowM_len]; omega)
theorem r_undone {k : Kd} {m : Nat} {S : Sto} {Q : KE} {E : KX} (hm : m ≤ 30) (h : Q (.bl true) S) : sp__law_is_undone [.str (nm k), .int m] S Q E := by
  refine ⟨rfl, ?_⟩
  rw [eW__law_is_undone, st__law_is_undone]
  refine s_seq (s_par ?_)
  walk_at "e"
  refine r_turned hm ?_
  rw [turnT_tab]
  walk_at "e"
  refine r_triangle hm fun R qs S1 ra hl => ?_
  walk_at "e"
  walk_at "ds"
  walk_at "if"
  refine c_isi rfl (by decide +kernel : _ = some true) ?_
  walk_at "e"
  rw [show (tabP (toldT k m)).length = m + 1 from by simp [tabP, told_len]]
  walk_at "F"
  walk_at "nx"
  refine s_seq (s_for (i_enumL ?_))
  walk_at "e"
  refine en_t ?_
  refine for_its (fun _ ε S' => ∃ o4 o5 : Option PV, ε = [some (.str (nm k)), some (.int m), some (.tup (tabP (toldT k m))), some (.ref R), o4, o5, none, none, none, none, none] ∧ S' = S1) (fun _ _ _ _ => trivial) ?_ ?_ ⟨_, _, rfl, rfl⟩
  · rintro i x hx C hC ε S' ⟨o4, o5, rfl, rfl⟩
    obtain ⟨y, hy, rfl⟩ := enumP_get hx
    have hi : i < m + 1 := by
      have := (List.getElem?_eq_some_iff.mp hy).1
      simpa [tabP, told_len] using this
    have ey : y = .tup ((turnM k i).map PV.int) := by
      unfold tabP toldT at hy
      rw [List.getElem?_map, List.getElem?_map, List.getElem?_range hi] at hy
      exact (Option.some.inj hy).symm
    subst ey
    refine g_2 ?_
    walk_at "ds"
    show w__law_is_undone_5 _ _ _
    refine s_if ?_
    walk_at "e"
    refine c_isi rfl (by decide +kernel : _ = some true) ?_
    walk_at "e"
    rw [List.length_map, turnM_len]
    walk_at "F"
    walk_at "nx"
    exact hC.at ⟨_, _, rfl, rfl⟩
  · rintro ε S' ⟨o4, o5, rfl, rfl⟩
    walk_at "ds"
    walk_at "if"
    have tO := ra.tab hl
    have tT : tabIs S' (.tup (tabP (toldT k m))) (toldT k m) := told_tab
    have rO : ∀ i, i ≤ m → ((ownT k m).getD i []).length = i + 1 := fun i hi => by rw [ownT, map_at hi, rowM_len]
    have rT : ∀ i, i ≤ m → ((toldT k m).getD i []).length = i + 1 := fun i hi => by rw [toldT, map_at hi, turnM_len]
    have sO : ∀ i, i ≤ m → ∀ x ∈ (ownT k m).getD i [], x.natAbs < 2 ^ 200 := fun i hi => by rw [ownT, map_at hi]; exact row_small (by omega)
    have sT : ∀ i, i ≤ m → ∀ x ∈ (toldT k m).getD i [], x.natAbs < 2 ^ 200 := fun i hi => by rw [toldT, map_at hi]; exact turn_small (by omega)
    refine r_is_unit tO tT (own_len k m) (told_len k m) hm rO rT sO sT (fun i j hi hj => unit_ot hm hi hj) ?_
    walk_at "e"
    refine r_is_unit tT tO (told_len k m) (own_len k m) hm rT rO sT sO (fun i j hi hj => unit_to hm hi hj) ?_
    walk_at "e"
    walk_at "nx"
    walk_at "set"
    refine e_dictk mates rfl (by decide) rfl fun p0 hp0 => ?_
    walk_at "e"
    refine e_ixD supd_same rfl (mates_at k) ?_
    walk_at "ds"
    have sb1 := ra.sb.grow (u := .dct mates) hp0
    have eR1 := keep1 (u := .dct mates) ra.at_ hp0
    have er1 : ∀ q, qs[m]? = some q → supd S' p0 (.dct mates) q = some (.lst ((rowM k m).map PV.int)) := fun q e => keep1 (ra.row m q e).2.2 hp0
    revert sb1 eR1 er1
    generalize supd S' p0 (.dct mates) = S2
    intro sb1 eR1 er1
    walk_at "set"
    refine r_triangle hm fun R2 qs2 S3 ra2 hl2 => ?_
    walk_at "ds"
    walk_at "set"
    refine e_lc (i_enumL ?_)
    walk_at "e"
    refine en_l (.inl ra2.at_) ?_
    have eitems : enumP (qs2.map PV.ref) = qs2.zipIdx.map fun p => PV.tup [.int (p.2 : Nat), .ref p.1] := by
      unfold enumP
      rw [List.zipIdx_map, List.map_map]
      rfl
    rw [eitems]
    refine lc_map (fun S' => Sub S3 S') qs2.zipIdx _ (fun p => .tup ((turnM k p.2).map PV.int)) (sz (m := 300) (by rw [List.length_zipIdx]; omega)) (fun S hS => .inl (hS.le _ _ ra2.at_)) (fun x hx S4 C3 sb4 kk => ?_) (fun S4 sb4 D hD => ?_) (.refl _)
    · obtain ⟨q, n⟩ := x
      have hq : qs2[n]? = some q := by simpa [List.mem_zipIdx_iff_getElem?] using hx
      have hn : n < qs2.length := (List.getElem?_eq_some_iff.mp hq).1
      have rq := sb4.le _ _ (ra2.row n q hq).2.2
      refine g_2 ?_
      walk_at "ds"
      walk_at "e"
      refine e_lc (i_enumL ?_)
      walk_at "ds"
      walk_at "e"
      refine en_l (.inl rq) ?_
      rw [enumP_ints]
      refine lc_map (fun S' => S' = S4) (rowM (mate k) n).zipIdx _ (fun p => .int (sgn n p)) (sz (m := 300) (by rw [List.length_zipIdx, rowM_len]; omega)) (fun S hS => by rw [hS]; exact .inl rq) (fun x hx S5 C5 e kk => ?_) (fun S5 e D hD => ?_) rfl
      · subst e
        refine g_2 ?_
        walk_at "ds"
        walk_at "e"
        refine e_mod (by decide) ?_
        walk_at "e"
        refine e_mul (CMl (by omega)) ?_
        walk_at "e"
        refine e_mul (CMr (by omega)) ?_
        rw [sgn_alt]
        exact kk _ rfl
      · subst e
        walk_at "e"
        refine c_tupL (.inl supd_same) ?_
        have e6 : ((rowM (mate k) n).zipIdx.map fun p => PV.int (sgn n p)) = (turnM k n).map PV.int := by
          unfold turnM; rw [List.map_map]; rfl
        rw [e6]
        exact kk _ (sb4.grow hD)
    · have e7 : (qs2.zipIdx.map fun p => PV.tup ((turnM k p.2).map PV.int)) = tabP (toldT k m) := by
        apply List.ext_getElem?
        intro i
        unfold tabP toldT
        rw [List.getElem?_map, List.getElem?_map, List.getElem?_map, List.getElem?_zipIdx]
        by_cases hi : i < m + 1
        · rw [List.getElem?_range hi, List.getElem?_eq_getElem (by omega)]
          simp
        · rw [List.getElem?_eq_none (by omega), List.getElem?_eq_none (by simpa using hi)]
          rfl
      rw [e7]
      walk_at "ds"
      have eR5 := keep1 (u := .lst (tabP (toldT k m))) (sb4.le _ _ (ra2.sb.le _ _ eR1)) hD
      have er5 : ∀ q, qs[m]? = some q → supd S4 D (.lst (tabP (toldT k m))) q = some (.lst ((rowM k m).map PV.int)) := fun q e => keep1 (sb4.le _ _ (ra2.sb.le _ _ (er1 q e))) hD
      walk_at "ret"
      refine c_tupL (.inl supd_same) ?_
      walk_at "e"
      refine r_law_is dat_tab dat_tab (shw_told hm) ?_
      walk_at "e"
      refine r_row (by omega) ?_
      walk_at "e"
      obtain ⟨qm, hqm⟩ : ∃ q, qs[m]? = some q := ⟨qs[m], List.getElem?_eq_getElem (by omega)⟩
      refine e_ixl (.inl eR5) (atI_last (v := .ref qm) (by rw [List.length_map, hl, List.getElem?_map, show m + 1 - 1 = m from rfl, hqm]; rfl)) ?_
      walk_at "e"
      refine c_tupL (.inl (er5 qm hqm)) ?_
      walk_at "e"
      refine r_law_is (.tup (dats_ints _)) (.tup (dats_ints _)) (shw_row hm) ?_
      exact dn_sub (((sb1.trans ra2.sb).trans sb4).grow hD) h

end L3

set_option Elab.async false
set_option linter.all false
set_option maxRecDepth 100000
set_option maxHeartbeats 600000
namespace L3
open PySem PySem.Spec L2
open PyProof.Rows hiding St
local macro_rules | `(tactic| walk_at "e1") => `(tactic| first
  | (with_reducible refine e_cons ?_)
  | (with_reducible refine e_nil ?_)
  | ((with_reducible refine' e_v ?hv ?_); (case hv => exact rfl))
  | (with_reducible refine e_c ?_)
  | (with_reducible refine e_call ?_)
  | (with_reducible refine e_cb ?_)
  | (with_reducible refine e_op ?_)
  | (with_reducible refine e_un ?_)
  | (with_reducible refine e_test ?_)
  | (with_reducible refine tk ?_)
  | (with_reducible refine e_tru ?_)
  | (with_reducible refine tr_bl ?_)
  | (with_reducible refine e_add ?_)
  | (with_reducible refine e_sub ?_)
  | (with_reducible refine e_neg ?_)
  | (with_reducible refine e_lt ?_)
  | (with_reducible refine e_le ?_)
  | (with_reducible refine e_gt ?_)
  | (with_reducible refine e_ge ?_)
  | (with_reducible refine e_eqI ?_)
  | (with_reducible refine e_neI ?_)
  | (with_reducible refine e_eqS ?_)
  | (with_reducible refine e_neS ?_)
  | (with_reducible refine e_notT ?_)
  | (with_reducible refine e_andT ?_)
  | (with_reducible refine e_orT ?_)
  | (with_reducible refine e_andV ?_)
  | (with_reducible refine e_orV ?_)
  | (with_reducible refine e_notV ?_)
  | (with_reducible refine ot_bl ?_)
  | (with_reducible refine e_ifE ?_)
  | (with_reducible refine c_int ?_)
  | (with_reducible refine c_intB ?_)
  | (with_reducible refine c_abs ?_)
  | (with_reducible refine c_lenT ?_)
  | (with_reducible refine c_tupT ?_)
  | (with_reducible refine if_t ?_)
  | (with_reducible refine if_f ?_)
  | (with_reducible refine if_nt ?_)
  | (with_reducible refine if_nf ?_))
local macro_rules | `(tactic| walk_at "e") => `(tactic| repeat walk_at "e1")
local macro_rules | `(tactic| walk_at "ds") => `(tactic| try dsimp only [List.set_cons_succ, List.set_cons_zero])
local macro_rules | `(tactic| walk_at "T") => `(tactic| ((first | refine ifT ?h ?_ | refine ifnT ?h ?_); (case h => first | omega | decide +kernel | assumption)))
local macro_rules | `(tactic| walk_at "F") => `(tactic| ((first | refine ifF ?h ?_ | refine ifnF ?h ?_); (case h => first | omega | decide +kernel | assumption)))
local macro_rules | `(tactic| walk_at "if") => `(tactic| (refine s_seq (s_if ?_); walk_at "e"))
local macro_rules | `(tactic| walk_at "if0") => `(tactic| (refine s_if ?_; walk_at "e"))
local macro_rules | `(tactic| walk_at "set") => `(tactic| (refine s_seq (s_set ?_); walk_at "e"))
local macro_rules | `(tactic| walk_at "set0") => `(tactic| (refine s_set ?_; walk_at "e"))
local macro_rules | `(tactic| walk_at "ex") => `(tactic| (refine s_seq (s_expr ?_); walk_at "e"))
local macro_rules | `(tactic| walk_at "ret") => `(tactic| (refine s_ret ?_; walk_at "e"))
local macro_rules | `(tactic| walk_at "nx") => `(tactic| (refine s_next ?_; walk_at "ds"))
theorem erase_map {α β : Type} (f : α → β) : ∀ (l : List α) (j : Nat), (l.map f).eraseIdx j = (l.eraseIdx j).map f
  | [], _ => by simp
  | _ :: _, 0 => by simp
  | _ :: l, j + 1 => by simp [erase_map f l j]
theorem nm_ok (k : Kd) : PyData.strOk (nm k) = true := by cases k <;> decide +kernel
theorem r_few {h a : Addr} {l0 : List Str} {S : Sto} {Q : KE} {E : KX} (hS : S h = some .hand) (ha : RdL S a (l0.map PV.str)) (h4 : l0.length = 4) (hk : ∀ s ∈ l0, ∃ k, s = nm k) (hq : ∀ (q : Addr) (k1 k2 : Kd), S q = none → Q (.ref q) (supd S q (.lst [.str (nm k1), .str (nm k2)]))) : sp__law_few [.ref h, .ref a, .int 2] S Q E := by
  refine ⟨rfl, ?_⟩
  rw [eW__law_few, st__law_few]
  refine s_seq (s_par ?_)
  walk_at "e"
  refine c_lstL ha fun p hp => ?_
  walk_at "e"
  refine e_lstk fun q hq1 => ?_
  walk_at "e"
  walk_at "ds"
  have sb0 := (Sub.refl S).grow (u := .lst (l0.map PV.str)) hp
  have hpq : p ≠ q := fun z => by rw [← z, supd_same] at hq1; cases hq1
  refine s_seq (s_while (fun n ε S' => ∃ (l f : List Str), ε = [some (.ref h), some (.ref a), some (.int 2), some (.ref p), some (.ref q)] ∧ Sub S S' ∧ S' p = some (.lst (l.map PV.str)) ∧ S' q = some (.lst (f.map PV.str)) ∧ l.length = n ∧ (∀ s ∈ l, ∃ k, s = nm k) ∧ (∀ s ∈ f, ∃ k, s = nm k) ∧ l.length + f.length = 4 ∧ f.length ≤ 2) 4 ⟨l0, [], rfl, sb0.grow hq1, by rw [supd_ne hpq]; exact supd_same, supd_same, h4, hk, (fun _ h => nomatch h), h4, by decide⟩ ?_)
  rintro n ε S' ⟨l, f, rfl, sb, ep, eq, hn, hl, hf, hs, hf2⟩
  have fin : f.length = 2 → dnQ Q (.ref q) S' := fun e => by
    match f, e with
    | [s1, s2], _ =>
      obtain ⟨k1, rfl⟩ := hf s1 (by simp)
      obtain ⟨k2, rfl⟩ := hf s2 (by simp)
      exact ⟨_, sb.with (sb0.none' hq1) eq, hq q k1 k2 (sb0.none' hq1)⟩
  walk_at "e"
  refine e_lstk fun z hz => ?_
  refine e_neNil (xs := l.map PV.str) supd_same (.lst (.inl (keep1 ep hz)) (dats_strs l)) (.inl (keep1 ep hz)) (shaped_strs l (List.all_eq_true.mpr fun s hs => by obtain ⟨k, rfl⟩ := hl s hs; exact nm_ok k)) ?_
  walk_at "e"
  refine ifnd (fun he => ?_) (fun he => ?_)
  · have : l = [] := by simpa using he
    rw [this] at hs
    simp at hs
    omega
  · have eq2 := keep1 (u := .lst []) eq hz
    walk_at "e"
    refine c_lenL (.inl eq2) ?_
    walk_at "e"
    rw [List.length_map]
    refine ifd (fun hc => ?_) (fun hc => ?_)
    · have ep2 := keep1 (u := .lst []) ep hz
      have sb2 := sb.grow (u := .lst []) hz
      revert eq2 ep2 sb2
      generalize supd S' z (.lst []) = S2
      intro eq2 ep2 sb2
      show w__law_few_3 _ _ _
      refine s_app rfl ⟨_, .inl eq2⟩ ?_
      refine e_app (e_v rfl ⟨⟨rfl, _, .inl ep2⟩, ?_⟩)
      walk_at "e"
      refine c_lenL (.inl ep2) ?_
      walk_at "e"
      have hl0 : 0 < l.length := by
        cases l with
        | nil => simp at he
        | cons => simp
      rw [List.length_map]
      refine r_draw (sb2.le _ _ hS) (by omega) (by omega) fun d h0 h1 => ?_
      walk_at "e"
      obtain ⟨j, rfl⟩ : ∃ j : Nat, d = (j : Int) := ⟨d.toNat, by omega⟩
      have hj : j < l.length := by omega
      refine ⟨_, j, .str l[j], ep2, sz (m := 10) (by simp; omega), ixN_nat (by simpa using hj), by rw [List.getElem?_map, List.getElem?_eq_getElem hj]; rfl, ?_⟩
      refine ⟨_, by rw [supd_ne (Ne.symm hpq)]; exact eq2, sz1 (m := 10) (by simp; omega), ?_⟩
      refine ⟨n - 1, _, _, by omega, .refl _, .refl _, l.eraseIdx j, f ++ [l[j]], rfl, (sb2.own hp).own (sb0.none' hq1), ?_, ?_, ?_, fun s hs => hl s (List.mem_of_mem_eraseIdx hs), fun s hs => ?_, ?_, ?_⟩
      · rw [supd_ne hpq, supd_same, erase_map]
      · rw [supd_same, List.map_append]; rfl
      · rw [List.length_eraseIdx, if_pos hj]; omega
      · rcases List.mem_append.mp hs with h1 | h1
        · exact hf s h1
        · rw [List.mem_singleton.mp h1]; exact hl _ (List.getElem_mem hj)
      · rw [List.length_eraseIdx, if_pos hj, List.length_append]; simp; omega
      · rw [List.length_append]; simp; omega
    · walk_at "ds"
      walk_at "ret"
      obtain ⟨S3, sb3, q3⟩ := fin (by omega)
      exact ⟨S3, sb3.grow hz, q3⟩
theorem r_word {nm wd : Str} (hnm : (nm = "BadNumber" ∧ wd = PySem.Str.ofString "number") ∨ (nm = "BadWord" ∧ wd = PySem.Str.ofString "word")) : WordOk W__law_word N__law_word nm wd := by
  intro th f S Q hth h
  rw [eW__law_word, st__law_word]
  refine s_seq ?_
  show wTry _ _ _ _ _ _
  unfold wTry
  refine s_expr ?_
  refine ⟨rfl, hth _ _ fun S1 sb => ?_⟩
  have b2 : sub nm "TermError" = true := by rcases hnm with ⟨rfl, _⟩ | ⟨rfl, _⟩ <;> decide +kernel
  simp only [clW, b2, if_true]
  intro a
  refine ⟨rfl, ?_⟩
  refine s_ret (e_ifE (e_tru ?_))
  refine ⟨rfl, ?_⟩
  rcases hnm with ⟨rfl, rfl⟩ | ⟨rfl, rfl⟩
  · rw [show sub (PX.mk "BadNumber" none).name "BadWord" = false from by decide +kernel]
    walk_at "e"
    refine ⟨rfl, ?_⟩
    rw [show sub (PX.mk "BadNumber" none).name "BadNumber" = true from by decide +kernel]
    walk_at "e"
    exact h _ sb
  · rw [show sub (PX.mk "BadWord" none).name "BadWord" = true from by decide +kernel]
    walk_at "e"
    exact h _ sb
theorem wN : WordOk W__law_word N__law_word "BadNumber" (PySem.Str.ofString "number") := r_word (.inl ⟨rfl, rfl⟩)
theorem wW : WordOk W__law_word N__law_word "BadWord" (PySem.Str.ofString "word") := r_word (.inr ⟨rfl, rfl⟩)
theorem r_turned_num {k : Kd} {z : PV} {S : Sto} {Q : KE} {E : KX} (hz : flatP z = true) (hb : inR z 0 30 = false) (h : E ⟨"BadNumber", none⟩ S) : sp_turned_table [.str (nm k), z] S Q E := by
  refine ⟨rfl, ?_⟩
  rw [eW_turned_table, st_turned_table]
  walk_at "if"
  refine c_isi rfl (by decide +kernel : _ = some true) ?_
  walk_at "e"
  refine e_k ?_
  refine oin_t rfl rfl ?_
  rw [show (true ^^ List.any [PV.str (PySem.Str.ofString "choices"), PV.str (PySem.Str.ofString "parts"), PV.str (PySem.Str.ofString "cycles"), PV.str (PySem.Str.ofString "lists")] fun y => eqP y (.str (nm k))) = false from by cases k <;> decide +kernel]
  walk_at "e"
  walk_at "nx"
  walk_at "if"
  refine r_is_within hz ?_
  rw [hb]
  walk_at "e"
  exact s_raise ⟨S, .refl S, h⟩
theorem r_turned_word {x z : PV} {S : Sto} {Q : KE} {E : KX} (hx : (∃ s, x = .str s ∧ (List.any [PV.str (PySem.Str.ofString "choices"), PV.str (PySem.Str.ofString "parts"), PV.str (PySem.Str.ofString "cycles"), PV.str (PySem.Str.ofString "lists")] fun y => eqP y (.str s)) = false) ∨ ∃ t, tyN x S t ∧ kitB t "str" = some false) (h : E ⟨"BadWord", none⟩ S) : sp_turned_table [x, z] S Q E := by
  refine ⟨rfl, ?_⟩
  rw [eW_turned_table, st_turned_table]
  walk_at "if"
  rcases hx with ⟨s, rfl, hs⟩ | ⟨t, ht, hk⟩
  · refine c_isi rfl (by decide +kernel : _ = some true) ?_
    walk_at "e"
    refine e_k ?_
    refine oin_t rfl rfl ?_
    rw [hs]
    walk_at "e"
    exact s_raise ⟨S, .refl S, h⟩
  · refine c_isi ht hk ?_
    walk_at "e"
    exact s_raise ⟨S, .refl S, h⟩
def posB (T : List (List Int)) : Bool := T.all fun r => r.all fun x => decide (0 ≤ x)
theorem pos_ok (k : Kd) : posB (tabK k) = true := by cases k <;> decide +kernel
theorem row_pos {k : Kd} {n j : Nat} (hn : n ≤ 30) : 0 ≤ (rowM k n).getD j 0 := by
  rw [rowM_tab _ _ hn]
  have h := pos_ok k
  unfold posB at h
  rw [List.all_eq_true] at h
  have hl : n < (tabK k).length := by rw [tab_length]; omega
  rw [List.getD_eq_getElem?_getD (l := tabK k), List.getElem?_eq_getElem hl]
  have h2 := h _ (List.getElem_mem hl)
  rw [List.all_eq_true] at h2
  rw [List.getD_eq_getElem?_getD]
  cases e : ((some (tabK k)[n]).getD [])[j]? with
  | none => exact Int.le_refl 0
  | some x => exact of_decide_eq_true (h2 x (List.mem_of_getElem? e))
theorem turn_abs {k : Kd} {m s : Nat} (hm : m ≤ 30) (hs : s ≤ m) : (((turnM k m).getD s 0).natAbs : Int) = (rowM (mate k) m).getD s 0 := by
  have hl : s < (rowM (mate k) m).length := by rw [rowM_len]; omega
  have hp := row_pos (k := mate k) (j := s) hm
  have e : (turnM k m).getD s 0 = sgn m ((rowM (mate k) m).getD s 0, s) := by
    unfold turnM
    rw [List.getD_eq_getElem?_getD, List.getD_eq_getElem?_getD, List.getElem?_map, List.getElem?_zipIdx, List.getElem?_eq_getElem hl]
    simp
  rw [e]
  unfold sgn
  split
  · rw [Int.natAbs_neg]; dsimp only; omega
  · dsimp only; omega
def mates2 : List (Key × PV) := [(.inr (nm .pa), .str (nm .cy)), (.inr (nm .cy), .str (nm .pa))]
theorem mates2_at (k : Kd) : (valP mates2 (.inr (nm k))).getD (.str (nm k)) = .str (nm (mate k)) := by cases k <;> rfl
theorem law_holds : LawP sp_law 63 := by
  intro a ns hlen _
  refine ⟨rfl, ?_⟩
  rw [eW_law, st_law]
  refine s_seq (s_set (e_call (e_cons (e_v rfl (e_nil ?_)))))
  refine ⟨a, ns, rfl, .inr (if_pos rfl), fun h c hne hh hc => ?_⟩
  have hS : supd (supd (startS a ns) c .priv) h .hand h = some .hand := supd_same
  revert hS
  generalize supd (supd (startS a ns) c .priv) h .hand = S0
  intro hS
  walk_at "ds"
  walk_at "set"
  refine e_lstk fun p1 hp1 => ?_
  walk_at "e"
  refine r_few (l0 := [nm .ch, nm .pa, nm .cy, nm .li]) (keep1 hS hp1) (.inl supd_same) rfl (fun s hs => ?_) fun q k1 k2 hq => ?_
  · simp only [List.mem_cons, List.not_mem_nil, or_false] at hs
    rcases hs with rfl | rfl | rfl | rfl <;> exact ⟨_, rfl⟩
  walk_at "ds"
  have hS1 := keep1 (u := .lst [.str (nm k1), .str (nm k2)]) (keep1 (u := .lst [.str (PySem.Str.ofString "choices"), .str (PySem.Str.ofString "parts"), .str (PySem.Str.ofString "cycles"), .str (PySem.Str.ofString "lists")]) hS hp1) hq
  have eq1 : supd (supd S0 p1 (.lst [.str (PySem.Str.ofString "choices"), .str (PySem.Str.ofString "parts"), .str (PySem.Str.ofString "cycles"), .str (PySem.Str.ofString "lists")])) q (.lst [.str (nm k1), .str (nm k2)]) q = some (.lst [.str (nm k1), .str (nm k2)]) := supd_same
  revert hS1 eq1
  generalize supd (supd S0 p1 (.lst [.str (PySem.Str.ofString "choices"), .str (PySem.Str.ofString "parts"), .str (PySem.Str.ofString "cycles"), .str (PySem.Str.ofString "lists")])) q (.lst [.str (nm k1), .str (nm k2)]) = S1
  intro hS1 eq1
  walk_at "ds"
  refine s_seq (s_for (i_rng ?_))
  walk_at "e"
  refine rk 4 rfl (by decide) ?_
  refine for_rng (fun t ε S' => ∃ o3 o4 o5 o6 o7 : Option PV, ε = [some (.ref a), some (.ref h), some (.ref q), o3, o4, o5, o6, o7, none, none, none] ∧ Sub S1 S') ?_ ?_ ⟨_, _, _, _, _, rfl, .refl _⟩
  · rintro t ht C hC ε S' ⟨o3, o4, o5, o6, o7, rfl, sb⟩
    rw [Int.zero_add]
    show b_law_4 _ _ _
    walk_at "ds"
    refine s_seq (s_par ?_)
    walk_at "e"
    refine e_mod (by decide) ?_
    obtain ⟨k, hk⟩ : ∃ k, atI [PV.str (nm k1), PV.str (nm k2)] ((t : Int) % 2) = some (.str (nm k)) := by
      have : (t : Int) % 2 = 0 ∨ (t : Int) % 2 = 1 := by omega
      rcases this with e | e
      · rw [e]; exact ⟨k1, rfl⟩
      · rw [e]; exact ⟨k2, rfl⟩
    refine e_ixl (.inl (sb.le _ _ eq1)) hk ?_
    walk_at "e"
    refine e_lstk fun p2 hp2 => ?_
    walk_at "e"
    refine r_law_some (keep1 (sb.le _ _ hS1) hp2) (.inl supd_same) (Nat.zero_lt_succ _) (by decide : 6 < 2 ^ 64) fun v hv => ?_
    obtain ⟨m, rfl, hm⟩ : ∃ m : Nat, v = .int m ∧ m ≤ 30 := by
      simp only [List.mem_cons, List.not_mem_nil, or_false] at hv
      rcases hv with rfl | rfl | rfl | rfl | rfl | rfl
      · exact ⟨0, rfl, by decide⟩
      · exact ⟨1, rfl, by decide⟩
      · exact ⟨2, rfl, by decide⟩
      · exact ⟨7, rfl, by decide⟩
      · exact ⟨29, rfl, by decide⟩
      · exact ⟨30, rfl, by decide⟩
    walk_at "e"
    walk_at "ds"
    have sb2 := sb.grow (u := .lst [.int 0, .int 1, .int 2, .int 7, .int 29, .int 30]) hp2
    revert sb2
    generalize supd S' p2 (.lst [.int 0, .int 1, .int 2, .int 7, .int 29, .int 30]) = S2
    intro sb2
    walk_at "if"
    refine r_undone hm ?_
    walk_at "e"
    walk_at "nx"
    refine s_seq (s_par ?_)
    walk_at "e"
    refine r_draw (sb2.le _ _ hS1) (by omega) (by omega) fun d h0 h1 => ?_
    obtain ⟨s, rfl⟩ : ∃ s : Nat, d = (s : Int) := ⟨d.toNat, by omega⟩
    have hs : s ≤ m := by omega
    walk_at "e"
    unfold wGet2
    refine e_dictk mates2 rfl (by decide) rfl fun p3 hp3 => ?_
    refine ⟨⟨_, _, rfl, supd_same⟩, ?_⟩
    walk_at "e"
    refine ⟨_, _, _, rfl, supd_same, rfl, ?_⟩
    rw [mates2_at]
    walk_at "e"
    walk_at "ds"
    have sb3 := sb2.grow (u := .dct mates2) hp3
    revert sb3
    generalize supd S2 p3 (.dct mates2) = S3
    intro sb3
    refine s_if ?_
    walk_at "e"
    refine r_turned hm ?_
    walk_at "e"
    refine e_ixt (xs := turnT k (m + 1)) (i := (m : Int)) (v := .tup ((turnM k m).map PV.int)) (atI_nat (by unfold turnT; rw [List.getElem?_map, List.getElem?_range (by omega)]; rfl)) ?_
    walk_at "e"
    refine e_ixt (getD_at (by rw [turnM_len]; omega)) ?_
    walk_at "e"
    rw [turn_abs hm hs]
    refine r_item (by omega) hs ?_
    walk_at "e"
    refine r_law_is (.int _) (.int _) (shw_int (Nat.lt_of_lt_of_le (log_of (by decide) (getD_small (row_small hm))) (by decide : 200 ≤ 1920))) ?_
    walk_at "e"
    walk_at "nx"
    exact hC.at ⟨_, _, _, _, _, rfl, sb3⟩
  · rintro ε S' ⟨o3, o4, o5, o6, o7, rfl, sb⟩
    walk_at "ds"
    refine s_seq (s_asg (e_tup ?_))
    walk_at "e"
    refine e_lstk fun p2 hp2 => ?_
    walk_at "e"
    refine r_law_some (keep1 (sb.le _ _ hS1) hp2) (.inl supd_same) (Nat.zero_lt_succ _) (by decide : 5 < 2 ^ 64) fun odd hodd => ?_
    walk_at "e"
    have sb2 := sb.grow (u := .lst [.int 31, .int (-1), .non, .bl true, .str (PySem.Str.ofString "3")]) hp2
    revert sb2
    generalize supd S' p2 (.lst [.int 31, .int (-1), .non, .bl true, .str (PySem.Str.ofString "3")]) = S2
    intro sb2
    refine e_lstk fun p3 hp3 => ?_
    walk_at "e"
    refine r_law_some (keep1 (sb2.le _ _ hS1) hp3) (.inl supd_same) (Nat.zero_lt_succ _) (by decide : 6 < 2 ^ 64) fun bad hbad => ?_
    walk_at "e"
    refine ⟨(by decide : 2 ≤ sizeLine), g_2 ?_⟩
    walk_at "ds"
    have sb3 := sb2.grow (u := .lst [.str (PySem.Str.ofString "rises"), .str (PySem.Str.ofString "runs"), .str (PySem.Str.ofString ""), .non, .int 3, .tup [.str (PySem.Str.ofString "parts")]]) hp3
    revert sb3
    generalize supd S2 p3 (.lst [.str (PySem.Str.ofString "rises"), .str (PySem.Str.ofString "runs"), .str (PySem.Str.ofString ""), .non, .int 3, .tup [.str (PySem.Str.ofString "parts")]]) = S3
    intro sb3
    obtain ⟨hz, hb⟩ : flatP odd = true ∧ inR odd 0 30 = false := by
      simp only [List.mem_cons, List.not_mem_nil, or_false] at hodd
      rcases hodd with rfl | rfl | rfl | rfl | rfl <;> exact ⟨rfl, by decide⟩
    refine s_seq (word_first wN (fun Q' E' hE => ?_) fun ws S4 I => ?_)
    · walk_at "e"
      refine e_ixl (.inl (sb3.le _ _ eq1)) (v := .str (nm k1)) rfl ?_
      walk_at "e"
      exact r_turned_num hz hb (hE _ (.refl _))
    walk_at "ds"
    refine s_seq (word_app I rfl (by decide) wW (fun S sb Q' E' hE => ?_) fun S5 I => ?_)
    · walk_at "e"
      refine r_turned_word ?_ (hE _ (.refl _))
      simp only [List.mem_cons, List.not_mem_nil, or_false] at hbad
      rcases hbad with rfl | rfl | rfl | rfl | rfl | rfl
      · exact .inl ⟨_, rfl, by decide +kernel⟩
      · exact .inl ⟨_, rfl, by decide +kernel⟩
      · exact .inl ⟨_, rfl, by decide +kernel⟩
      · exact .inr ⟨_, rfl, by decide +kernel⟩
      · exact .inr ⟨_, rfl, by decide +kernel⟩
      · exact .inr ⟨_, rfl, by decide +kernel⟩
    walk_at "ds"
    refine s_ret (words_eq [PySem.Str.ofString "number", PySem.Str.ofString "word"] rfl I rfl (by decide) rfl (by decide +kernel) fun S' sb => by
      rw [fnD_rt]
      exact ⟨S', .refl S', rfl⟩)

end L3

open PySem PySem.W PyProof.Rows in
set_option maxRecDepth 100000 in
set_option maxHeartbeats 0 in
theorem PySem.Challenge.cw_nextterms_k22_whole_triangles_that_undo_holds : PySem.Challenge.rw_nextterms_k22_whole_triangles_that_undo.Holds := by
  w_on; o_law; k_head; (case hw => w_witness2)
  k_fill
  refine L3.walk3 (l := PySem.Challenge.rw_nextterms_k22_whole_triangles_that_undo) (n := 63) (k := 8) (x := "script") (sp := L3.sp_law) rfl (by decide) rfl ⟨rfl, by decide, by decide⟩ (fun w h Y => PySem.W.km_in_of Y) L3.law_holds ?F
  case F =>
    intro w mg mb mean fa h TT Y KX Gn hmg
    refine' L3.all_mk KX Gn hmg (PySem.W.km_tabs_of Y) ?a_is_integer ?l_is_integer ?c_is_integer ?k_is_integer ?a_is_within ?l_is_within ?c_is_within ?k_is_within ?a_check_kind ?l_check_kind ?c_check_kind ?k_check_kind ?a_next_row ?l_next_row ?c_next_row ?k_next_row ?a_made ?l_made ?c_made ?k_made ?a_row_of ?l_row_of ?c_row_of ?k_row_of ?a_row ?l_row ?c_row ?k_row ?a_item ?l_item ?c_item ?k_item ?a_turned_table ?l_turned_table ?c_turned_table ?k_turned_table ?a__law_hand ?l__law_hand ?c__law_hand ?k__law_hand ?a__law_draw ?l__law_draw ?c__law_draw ?k__law_draw ?a__law_some ?l__law_some ?c__law_some ?k__law_some ?a__law_few ?l__law_few ?c__law_few ?k__law_few ?a__law_is ?l__law_is ?c__law_is ?k__law_is ?a__law_triangle ?l__law_triangle ?c__law_triangle ?k__law_triangle ?a__law_is_unit ?l__law_is_unit ?c__law_is_unit ?k__law_is_unit ?a__law_is_undone ?l__law_is_undone ?c__law_is_undone ?k__law_is_undone ?a__law_word ?l__law_word ?c__law_word ?k__law_word ?a_law ?l_law ?cc_law ?k_law ?tm_law ?th_law ?tn_law ?gt_KINDS ?lt_KINDS ?g_CHOICES ?g_CYCLES ?g_LISTS ?g_MOST_ROW ?g_PARTS ?g_RISES ?z_abs ?z_bool ?z_enumerate ?z_int ?z_isinstance ?z_len ?z_list ?z_range ?z_repr ?z_str ?z_sum ?z_tuple ?aC_BadNumber ?aC_BadWord ?aC_TermError ?ei_BadNumber ?kp_BadNumber ?sb_BadNumber ?ty_BadNumber ?e1_BadNumber ?e2_BadNumber ?e4_BadNumber ?e5_BadNumber ?e8_BadNumber ?ei_BadWord ?kp_BadWord ?sb_BadWord ?ty_BadWord ?e1_BadWord ?e2_BadWord ?e4_BadWord ?e5_BadWord ?e8_BadWord ?e6 ?e7 ?x_BadNumber_TermError ?x_BadWord_TermError ?y_BadNumber_BadNumber ?y_BadWord_BadNumber ?y_BadNumber_BadWord ?y_BadWord_BadWord ?nl
    (case a_is_integer => k_is)
    (case l_is_integer => k_is)
    (case c_is_integer => k_is)
    (case k_is_integer => k_is)
    (case a_is_within => k_is)
    (case l_is_within => k_is)
    (case c_is_within => k_is)
    (case k_is_within => k_is)
    (case a_check_kind => k_is)
    (case l_check_kind => k_is)
    (case c_check_kind => k_is)
    (case k_check_kind => k_is)
    (case a_next_row => k_is)
    (case l_next_row => k_is)
    (case c_next_row => k_is)
    (case k_next_row => k_is)
    (case a_made => k_is)
    (case l_made => k_is)
    (case c_made => k_is)
    (case k_made => k_is)
    (case a_row_of => k_is)
    (case l_row_of => k_is)
    (case c_row_of => k_is)
    (case k_row_of => k_is)
    (case a_row => k_is)
    (case l_row => k_is)
    (case c_row => k_is)
    (case k_row => k_is)
    (case a_item => k_is)
    (case l_item => k_is)
    (case c_item => k_is)
    (case k_item => k_is)
    (case a_turned_table => k_is)
    (case l_turned_table => k_is)
    (case c_turned_table => k_is)
    (case k_turned_table => k_is)
    (case a__law_hand => k_is)
    (case l__law_hand => k_is)
    (case c__law_hand => k_is)
    (case k__law_hand => k_is)
    (case a__law_draw => k_is)
    (case l__law_draw => k_is)
    (case c__law_draw => k_is)
    (case k__law_draw => k_is)
    (case a__law_some => k_is)
    (case l__law_some => k_is)
    (case c__law_some => k_is)
    (case k__law_some => k_is)
    (case a__law_few => k_is)
    (case l__law_few => k_is)
    (case c__law_few => k_is)
    (case k__law_few => k_is)
    (case a__law_is => k_is)
    (case l__law_is => k_is)
    (case c__law_is => k_is)
    (case k__law_is => k_is)
    (case a__law_triangle => k_is)
    (case l__law_triangle => k_is)
    (case c__law_triangle => k_is)
    (case k__law_triangle => k_is)
    (case a__law_is_unit => k_is)
    (case l__law_is_unit => k_is)
    (case c__law_is_unit => k_is)
    (case k__law_is_unit => k_is)
    (case a__law_is_undone => k_is)
    (case l__law_is_undone => k_is)
    (case c__law_is_undone => k_is)
    (case k__law_is_undone => k_is)
    (case a__law_word => k_is)
    (case l__law_word => k_is)
    (case c__law_word => k_is)
    (case k__law_word => k_is)
    (case a_law => k_is)
    (case l_law => k_is)
    (case cc_law => k_is)
    (case k_law => k_is)
    (case tm_law => exact List.mem_cons_self)
    (case th_law => kernel_rfl)
    (case tn_law => kernel_rfl)
    (case gt_KINDS => k_is)
    (case lt_KINDS => exact ⟨by k_is, rfl, rfl⟩)
    (case g_CHOICES => k_is)
    (case g_CYCLES => k_is)
    (case g_LISTS => k_is)
    (case g_MOST_ROW => k_is)
    (case g_PARTS => k_is)
    (case g_RISES => k_is)
    (case z_abs => k_is)
    (case z_bool => k_is)
    (case z_enumerate => k_is)
    (case z_int => k_is)
    (case z_isinstance => k_is)
    (case z_len => k_is)
    (case z_list => k_is)
    (case z_range => k_is)
    (case z_repr => k_is)
    (case z_str => k_is)
    (case z_sum => k_is)
    (case z_tuple => k_is)
    (case aC_BadNumber => k_is)
    (case aC_BadWord => k_is)
    (case aC_TermError => k_is)
    (case ei_BadNumber => kernel_rfl)
    (case kp_BadNumber => k_is)
    (case sb_BadNumber => k_is)
    (case ty_BadNumber => k_is)
    (case e1_BadNumber => k_is)
    (case e2_BadNumber => k_is)
    (case e4_BadNumber => k_is)
    (case e5_BadNumber => k_is)
    (case e8_BadNumber => k_is)
    (case ei_BadWord => kernel_rfl)
    (case kp_BadWord => k_is)
    (case sb_BadWord => k_is)
    (case ty_BadWord => k_is)
    (case e1_BadWord => k_is)
    (case e2_BadWord => k_is)
    (case e4_BadWord => k_is)
    (case e5_BadWord => k_is)
    (case e8_BadWord => k_is)
    (case e6 => k_is)
    (case e7 => k_is)
    (case x_BadNumber_TermError => kernel_rfl)
    (case x_BadWord_TermError => kernel_rfl)
    (case y_BadNumber_BadNumber => kernel_rfl)
    (case y_BadWord_BadNumber => kernel_rfl)
    (case y_BadNumber_BadWord => kernel_rfl)
    (case y_BadWord_BadWord => kernel_rfl)
    (case nl => kernel_rfl)
