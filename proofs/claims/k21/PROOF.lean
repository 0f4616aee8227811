import PyProof.Rows.All
import Wide.All
import OpenK.AllK
import Wide.FinOn
import HandS.ForMost
import HandS.ForExc
import HandS.Deep
import HandS.Wide
import HandS.WideBits
import HandS.CallSlots
import HandS.Defaults
import HandS.TryOnly
import HandS.Iter
import HandS.Zip
import HandS.Rev
import HandS.TupAny
import HandS.Comp
import HandS.Text
import HandS.IsInst
import HandS.HeadHook2
import PyProof.Rows.RuleB_pow
import HandS.EndBits
import PySem.Challenge.RW_boardglue_k21_fractions_shown
import HandS.HeadHook4
import HandS.Head2
import KE.KStateDown
import HandS.Head0
import HandS.Head1
import HandS.HeadEnd
set_option Elab.async false
set_option linter.all false
set_option maxRecDepth 100000
set_option maxHeartbeats 4000000
set_option autoImplicit false
/-! the data layer: what a def computes, as a function of plain data -/
namespace DL
open PySem L2
abbrev PD := PyData

/-- an outcome: a value, an exception by its class's name, or no claim -/
inductive R (α : Type) where
  | ok (a : α)
  | ex (c : Str)
  | no
def R.bind {α β : Type} (r : R α) (k : α → R β) : R β := match r with
  | .ok a => k a
  | .ex c => .ex c
  | .no => .no
@[simp] theorem R.bind_ok {α β : Type} (a : α) (k : α → R β) : (R.ok a).bind k = k a := rfl
@[simp] theorem R.bind_ex {α β : Type} (c : Str) (k : α → R β) : (R.ex c : R α).bind k = .ex c := rfl
@[simp] theorem R.bind_no {α β : Type} (k : α → R β) : (R.no : R α).bind k = .no := rfl

/-- what a local holds: data that stands still; a list of its own; a dict of its own -/
inductive SV where
  | d (x : PD)
  | l (xs : List PD)
  | k (kvs : List (L2.Key × PD))
abbrev En := List (Option SV)
def SV.own : SV → Bool
  | .d _ => false
  | _ => true

/-! ### values that bear data in a heap -/
mutual
inductive Rp (K : PySem.W.Frag) (S : Hp) : V → PD → Prop
  | non : Rp K S .non .none
  | bl (b : Bool) : Rp K S (.bl b) (.bool b)
  | int (i : Int) : Rp K S (.int i) (.int i)
  | str (x : Str) : Rp K S (.str x) (.str x)
  | lst {a : Addr} {xs : List V} {ds : List PD} : SqL K S a xs → RpA K S xs ds → Rp K S (.ref a) (.list ds)
  | tup {a : Addr} {xs : List V} {ds : List PD} : SqT K S a xs → RpA K S xs ds → Rp K S (.ref a) (.tuple ds)
inductive RpA (K : PySem.W.Frag) (S : Hp) : List V → List PD → Prop
  | nil : RpA K S [] []
  | cons {v : V} {vs : List V} {d : PD} {ds : List PD} : Rp K S v d → RpA K S vs ds → RpA K S (v :: vs) (d :: ds)
end

section
variable {K : PySem.W.Frag} {S S' H H' : Hp}
theorem Same.seqT {a : Addr} {xs : List V} (e : Same S S') (h : SqT K S a xs) : SqT K S' a xs := by
  rcases h with (h | ⟨o, h⟩) | h
  · exact .inl (.inl (e _ _ h))
  · exact .inl (.inr ⟨o, e _ _ h⟩)
  · exact .inr h
mutual
theorem Rp.mono (e : Same S S') : ∀ (d : PD) (v : V), Rp K S v d → Rp K S' v d
  | .none, _, h => by cases h; exact .non
  | .bool b, _, h => by cases h; exact .bl b
  | .int i, _, h => by cases h; exact .int i
  | .str x, _, h => by cases h; exact .str x
  | .list ds, _, h => by
    cases h with
    | lst hs ha => exact .lst (Same.seq e hs) (RpA.mono e ds _ ha)
  | .tuple ds, _, h => by
    cases h with
    | tup hs ha => exact .tup (Same.seqT e hs) (RpA.mono e ds _ ha)
  | .dict _, _, h => by cases h
theorem RpA.mono (e : Same S S') : ∀ (ds : List PD) (vs : List V), RpA K S vs ds → RpA K S' vs ds
  | [], _, h => by cases h; exact .nil
  | d :: ds, _, h => by
    cases h with
    | cons h1 h2 => exact .cons (Rp.mono e d _ h1) (RpA.mono e ds _ h2)
end
mutual
theorem Rp.dp : ∀ (d : PD) (v : V), Rp K S v d → Dp K S v d
  | .none, _, h => by cases h; exact .non
  | .bool b, _, h => by cases h; exact .bl b
  | .int i, _, h => by cases h; exact .int i
  | .str x, _, h => by cases h; exact .str x
  | .list ds, _, h => by
    cases h with
    | lst hs ha => exact .lst hs (RpA.dp ds _ ha)
  | .tuple ds, _, h => by
    cases h with
    | tup hs ha => exact .tup hs (RpA.dp ds _ ha)
  | .dict _, _, h => by cases h
theorem RpA.dp : ∀ (ds : List PD) (vs : List V), RpA K S vs ds → DpAll K S vs ds
  | [], _, h => by cases h; exact .nil
  | d :: ds, _, h => by
    cases h with
    | cons h1 h2 => exact .cons (Rp.dp d _ h1) (RpA.dp ds _ h2)
end
theorem RpA.length : ∀ {ds : List PD} {vs : List V}, RpA K S vs ds → vs.length = ds.length
  | [], _, h => by cases h; rfl
  | d :: ds, _, h => by
    cases h with
    | cons h1 h2 => simp only [List.length_cons, RpA.length h2]
theorem RpA.get : ∀ {ds : List PD} {vs : List V} {i : Nat} {d : PD}, RpA K S vs ds → ds[i]? = some d → ∃ v, vs[i]? = some v ∧ Rp K S v d
  | [], _, _, _, _, e => by simp at e
  | d :: ds, _, i, x, h, e => by
    cases h with
    | cons h1 h2 =>
      cases i with
      | zero =>
        simp at e
        subst e
        exact ⟨_, rfl, h1⟩
      | succ i => simpa using RpA.get h2 (by simpa using e)
theorem RpA.getV : ∀ {ds : List PD} {vs : List V} {i : Nat} {v : V}, RpA K S vs ds → vs[i]? = some v → ∃ d, ds[i]? = some d ∧ Rp K S v d
  | [], _, _, _, h, e => by cases h; simp at e
  | d :: ds, _, i, x, h, e => by
    cases h with
    | cons h1 h2 =>
      cases i with
      | zero =>
        simp at e
        subst e
        exact ⟨_, rfl, h1⟩
      | succ i => simpa using RpA.getV h2 (by simpa using e)
theorem RpA.append : ∀ {ds es : List PD} {vs us : List V}, RpA K S vs ds → RpA K S us es → RpA K S (vs ++ us) (ds ++ es)
  | [], _, _, _, h, g => by cases h; exact g
  | d :: ds, _, _, _, h, g => by
    cases h with
    | cons h1 h2 => exact .cons h1 (RpA.append h2 g)
theorem RpA.take : ∀ {ds : List PD} {vs : List V} (n : Nat), RpA K S vs ds → RpA K S (vs.take n) (ds.take n)
  | [], _, n, h => by cases h; simpa using RpA.nil
  | d :: ds, _, n, h => by
    cases h with
    | cons h1 h2 =>
      cases n with
      | zero => exact .nil
      | succ n => exact .cons h1 (RpA.take n h2)
theorem RpA.drop : ∀ {ds : List PD} {vs : List V} (n : Nat), RpA K S vs ds → RpA K S (vs.drop n) (ds.drop n)
  | [], _, n, h => by cases h; simpa using RpA.nil
  | d :: ds, _, n, h => by
    cases h with
    | cons h1 h2 =>
      cases n with
      | zero => exact .cons h1 h2
      | succ n => exact RpA.drop n h2
theorem RpA.set {v : V} {d : PD} (r : Rp K S v d) : ∀ {ds : List PD} {vs : List V} (i : Nat), RpA K S vs ds → RpA K S (vs.set i v) (ds.set i d)
  | [], _, _, h => by cases h; exact .nil
  | e :: ds, _, i, h => by
    cases h with
    | cons h1 h2 =>
      cases i with
      | zero => exact .cons r h2
      | succ i => exact .cons h1 (RpA.set r i h2)
theorem RpA.reverse : ∀ {ds : List PD} {vs : List V}, RpA K S vs ds → RpA K S vs.reverse ds.reverse
  | [], _, h => by cases h; exact .nil
  | d :: ds, _, h => by
    cases h with
    | cons h1 h2 =>
      rw [List.reverse_cons, List.reverse_cons]
      exact (RpA.reverse h2).append (.cons h1 .nil)
theorem RpA.snoc {ds : List PD} {vs : List V} {v : V} {d : PD} (h : RpA K S vs ds) (r : Rp K S v d) : RpA K S (vs ++ [v]) (ds ++ [d]) := h.append (.cons r .nil)

/-- a heap grows: S, what is known of it, grows too, by new things alone -/
structure Ext (S H S' H' : Hp) : Prop where
  sub : Same S S'
  all : Same H H'
  inn : Same S' H'
  new : ∀ a o, S' a = some o → S a = some o ∨ H a = none
theorem Ext.refl (h : Same S H) : Ext S H S H := ⟨Same.refl _, Same.refl _, h, fun _ _ e => .inl e⟩
theorem Ext.trans {S1 S2 S3 H1 H2 H3 : Hp} (a : Ext S1 H1 S2 H2) (b : Ext S2 H2 S3 H3) : Ext S1 H1 S3 H3 :=
  ⟨a.sub.trans b.sub, a.all.trans b.all, b.inn, fun x o e => by
    rcases b.new x o e with h | h
    · exact a.new x o h
    · exact .inr (a.all.free h)⟩
/-- a new thing, known -/
theorem Ext.known {p : Addr} {o : HO} (h : Same S H) (hp : H p = none) : Ext S H (upd S p o) (upd H p o) := by
  have hs : S p = none := h.free hp
  refine ⟨fun a x e => by rw [upd_ne (ne_of_none e hs)]; exact e, fun a x e => by rw [upd_ne (ne_of_none e hp)]; exact e, fun a x e => ?_, fun a x e => ?_⟩
  · by_cases ha : a = p
    · subst ha; rw [upd_same] at e ⊢; exact e
    · rw [upd_ne ha] at e ⊢; exact h a x e
  · by_cases ha : a = p
    · subst ha; exact .inr hp
    · rw [upd_ne ha] at e; exact .inl e
/-- a new thing, not known -/
theorem Ext.fresh {p : Addr} {o : HO} (h : Same S H) (hp : H p = none) : Ext S H S (upd H p o) := by
  refine ⟨Same.refl _, fun a x e => by rw [upd_ne (ne_of_none e hp)]; exact e, fun a x e => ?_, fun a x e => .inl e⟩
  have := h a x e
  rw [upd_ne (ne_of_none this hp)]; exact this
theorem Ext.grow (h : Same S H) (g : Same H H') : Ext S H S H' := ⟨Same.refl _, g, h.trans g, fun _ _ e => .inl e⟩
end

/-! ### the state: F, the entry's known part and heap -/
structure F where
  S : Hp
  H : Hp
def kvRel (K : PySem.W.Frag) (S : Hp) : List (L2.Key × V) → List (L2.Key × PD) → Prop
  | [], [] => True
  | (a, v) :: r, (b, d) :: q => a = b ∧ Rp K S v d ∧ kvRel K S r q
  | _, _ => False
theorem kvRel.mono {K : PySem.W.Frag} {S S' : Hp} (e : Same S S') : ∀ {l : List (L2.Key × V)} {m : List (L2.Key × PD)}, kvRel K S l m → kvRel K S' l m
  | [], [], _ => trivial
  | (a, v) :: r, (b, d) :: q, h => ⟨h.1, Rp.mono e _ _ h.2.1, kvRel.mono e h.2.2⟩
  | [], _ :: _, h => h.elim
  | _ :: _, [], h => h.elim
def Own (K : PySem.W.Frag) (S H : Hp) (a : Addr) : SV → Prop
  | .d _ => False
  | .l ds => ∃ vs, H a = some (.lst vs) ∧ RpA K S vs ds
  | .k kvs => ∃ vs, H a = some (.dK vs) ∧ kvRel K S vs kvs
def Sl (K : PySem.W.Frag) (G : F) (S H : Hp) (v : V) : SV → Prop
  | .d x => Rp K S v x
  | x => ∃ a, v = .ref a ∧ S a = none ∧ G.H a = none ∧ Own K S H a x
structure Rel (K : PySem.W.Frag) (G : F) (S : Hp) (σ : St) (ρ : En) (H : Hp) : Prop where
  len : σ.length = ρ.length
  inn : Same S H
  ent : Same G.H H
  entS : Same G.S S
  new : ∀ a o, S a = some o → G.S a = some o ∨ G.H a = none
  slot : ∀ (i : Nat) (x : SV), ρ[i]? = some (some x) → ∃ v, σ[i]? = some (some v) ∧ Sl K G S H v x
  dis : ∀ (i j : Nat) (a : Addr) (x y : SV), i ≠ j → ρ[i]? = some (some x) → ρ[j]? = some (some y) → x.own = true → y.own = true → σ[i]? = some (some (.ref a)) → σ[j]? = some (some (.ref a)) → False

section
variable {K : PySem.W.Frag} {G : F} {S S' H H' : Hp} {σ : St} {ρ : En}
theorem Own.ext {a : Addr} {x : SV} (e : Ext S H S' H') (h : Own K S H a x) : Own K S' H' a x := by
  cases x with
  | d x => exact h
  | l ds => obtain ⟨vs, h1, h2⟩ := h; exact ⟨vs, e.all _ _ h1, RpA.mono e.sub _ _ h2⟩
  | k kvs => obtain ⟨vs, h1, h2⟩ := h; exact ⟨vs, e.all _ _ h1, kvRel.mono e.sub h2⟩
theorem Own.some {a : Addr} {x : SV} (h : Own K S H a x) : ∃ o, H a = .some o := by
  cases x with
  | d x => exact h.elim
  | l ds => obtain ⟨vs, h1, h2⟩ := h; exact ⟨_, h1⟩
  | k kvs => obtain ⟨vs, h1, h2⟩ := h; exact ⟨_, h1⟩
theorem Sl.ext {v : V} {x : SV} (e : Ext S H S' H') (h : Sl K G S H v x) : Sl K G S' H' v x := by
  have go : (∃ a, v = .ref a ∧ S a = none ∧ G.H a = none ∧ Own K S H a x) → ∃ a, v = .ref a ∧ S' a = none ∧ G.H a = none ∧ Own K S' H' a x := by
    rintro ⟨a, rfl, hs, hg, ho⟩
    refine ⟨a, rfl, ?_, hg, ho.ext e⟩
    cases q : S' a with
    | none => rfl
    | some o =>
      rcases e.new a o q with z | z
      · rw [hs] at z; cases z
      · obtain ⟨o', h'⟩ := ho.some
        rw [z] at h'; cases h'
  cases x with
  | d x => exact Rp.mono e.sub _ _ h
  | l ds => exact go h
  | k kvs => exact go h
theorem Rel.ext (r : Rel K G S σ ρ H) (e : Ext S H S' H') : Rel K G S' σ ρ H' where
  len := r.len
  inn := e.inn
  ent := r.ent.trans e.all
  entS := r.entS.trans e.sub
  new := fun a o h => by
    rcases e.new a o h with z | z
    · exact r.new a o z
    · exact .inr (r.ent.free z)
  slot := fun i x h => by
    obtain ⟨v, h1, h2⟩ := r.slot i x h
    exact ⟨v, h1, h2.ext e⟩
  dis := r.dis
/-- data is put at a slot -/
theorem Rel.setD (r : Rel K G S σ ρ H) {v : V} {x : PD} (h : Rp K S v x) (i : Nat) : Rel K G S (σ.set i (some v)) (ρ.set i (some (.d x))) H where
  len := by simp only [List.length_set]; exact r.len
  inn := r.inn
  ent := r.ent
  entS := r.entS
  new := r.new
  slot := fun j y hj => by
    by_cases e : i = j
    · subst e
      by_cases hl : i < ρ.length
      · rw [List.getElem?_set_self hl] at hj
        cases hj
        exact ⟨v, List.getElem?_set_self (by rw [r.len]; exact hl), h⟩
      · rw [List.getElem?_eq_none (by simpa using hl)] at hj; cases hj
    · rw [List.getElem?_set_ne e] at hj ⊢
      exact r.slot j y hj
  dis := fun j k a y z hjk hj hk oy oz sj sk => by
    by_cases e1 : i = j
    · subst e1
      by_cases hl : i < ρ.length
      · rw [List.getElem?_set_self hl] at hj
        cases hj
        cases oy
      · rw [List.getElem?_eq_none (by simpa using hl)] at hj; cases hj
    · by_cases e2 : i = k
      · subst e2
        by_cases hl : i < ρ.length
        · rw [List.getElem?_set_self hl] at hk
          cases hk
          cases oz
        · rw [List.getElem?_eq_none (by simpa using hl)] at hk; cases hk
      · rw [List.getElem?_set_ne e1] at hj sj
        rw [List.getElem?_set_ne e2] at hk sk
        exact r.dis j k a y z hjk hj hk oy oz sj sk
/-- a slot is forgotten -/
theorem Rel.forget (r : Rel K G S σ ρ H) (i : Nat) (w : Option V) : Rel K G S (σ.set i w) (ρ.set i none) H where
  len := by simp only [List.length_set]; exact r.len
  inn := r.inn
  ent := r.ent
  entS := r.entS
  new := r.new
  slot := fun j y hj => by
    by_cases e : i = j
    · subst e
      by_cases hl : i < ρ.length
      · rw [List.getElem?_set_self hl] at hj; cases hj
      · rw [List.getElem?_eq_none (by simpa using hl)] at hj; cases hj
    · rw [List.getElem?_set_ne e] at hj ⊢
      exact r.slot j y hj
  dis := fun j k a y z hjk hj hk oy oz sj sk => by
    by_cases e1 : i = j
    · subst e1
      by_cases hl : i < ρ.length
      · rw [List.getElem?_set_self hl] at hj; cases hj
      · rw [List.getElem?_eq_none (by simpa using hl)] at hj; cases hj
    · by_cases e2 : i = k
      · subst e2
        by_cases hl : i < ρ.length
        · rw [List.getElem?_set_self hl] at hk; cases hk
        · rw [List.getElem?_eq_none (by simpa using hl)] at hk; cases hk
      · rw [List.getElem?_set_ne e1] at hj sj
        rw [List.getElem?_set_ne e2] at hk sk
        exact r.dis j k a y z hjk hj hk oy oz sj sk
/-- a thing of its own is put at a slot: at p, in no slot's hands so far -/
theorem Rel.setO (r : Rel K G S σ ρ H) {p : Addr} {x : SV} (hx : x.own = true) (hs : S p = none) (hg : G.H p = none) (ho : Own K S H p x)
    (hn : ∀ (j : Nat) (y : SV), ρ[j]? = some (some y) → y.own = true → σ[j]? ≠ some (some (.ref p))) (i : Nat) : Rel K G S (σ.set i (some (.ref p))) (ρ.set i (some x)) H where
  len := by simp only [List.length_set]; exact r.len
  inn := r.inn
  ent := r.ent
  entS := r.entS
  new := r.new
  slot := fun j y hj => by
    by_cases e : i = j
    · subst e
      by_cases hl : i < ρ.length
      · rw [List.getElem?_set_self hl] at hj
        cases hj
        refine ⟨.ref p, List.getElem?_set_self (by rw [r.len]; exact hl), ?_⟩
        cases x with
        | d y => cases hx
        | l y => exact ⟨p, rfl, hs, hg, ho⟩
        | k y => exact ⟨p, rfl, hs, hg, ho⟩
      · rw [List.getElem?_eq_none (by simpa using hl)] at hj; cases hj
    · rw [List.getElem?_set_ne e] at hj ⊢
      exact r.slot j y hj
  dis := fun j k a y z hjk hj hk oy oz sj sk => by
    by_cases e1 : i = j
    · subst e1
      rw [List.getElem?_set_ne hjk] at hk sk
      by_cases hl : i < σ.length
      · rw [List.getElem?_set_self hl] at sj
        cases sj
        exact hn k z hk oz sk
      · rw [List.getElem?_eq_none (by simpa using hl)] at sj; cases sj
    · by_cases e2 : i = k
      · subst e2
        rw [List.getElem?_set_ne e1] at hj sj
        by_cases hl : i < σ.length
        · rw [List.getElem?_set_self hl] at sk
          cases sk
          exact hn j y hj oy sj
        · rw [List.getElem?_eq_none (by simpa using hl)] at sk; cases sk
      · rw [List.getElem?_set_ne e1] at hj sj
        rw [List.getElem?_set_ne e2] at hk sk
        exact r.dis j k a y z hjk hj hk oy oz sj sk
/-- what a slot holds by itself is changed in place -/
theorem Rel.change (r : Rel K G S σ ρ H) {i : Nat} {p : Addr} {x y : SV} {o : HO} (hi : ρ[i]? = some (some x)) (hx : x.own = true) (hy : y.own = true) (hp : σ[i]? = some (some (.ref p)))
    (hs : S p = none) (hg : G.H p = none) (ho : Own K S (upd H p o) p y) : Rel K G S σ (ρ.set i (some y)) (upd H p o) where
  len := by simp only [List.length_set]; exact r.len
  inn := fun a u e => by
    rw [upd_ne (ne_of_none e hs)]; exact r.inn a u e
  ent := fun a u e => by
    rw [upd_ne (ne_of_none e hg)]; exact r.ent a u e
  entS := r.entS
  new := r.new
  slot := fun j z hj => by
    by_cases e : i = j
    · subst e
      by_cases hl : i < ρ.length
      · rw [List.getElem?_set_self hl] at hj
        cases hj
        refine ⟨.ref p, hp, ?_⟩
        cases y with
        | d z => cases hy
        | l z => exact ⟨p, rfl, hs, hg, ho⟩
        | k z => exact ⟨p, rfl, hs, hg, ho⟩
      · rw [List.getElem?_eq_none (by simpa using hl)] at hj; cases hj
    · rw [List.getElem?_set_ne e] at hj
      obtain ⟨v, h1, h2⟩ := r.slot j z hj
      refine ⟨v, h1, ?_⟩
      have go : z.own = true → (∃ a, v = .ref a ∧ S a = none ∧ G.H a = none ∧ Own K S H a z) → ∃ a, v = .ref a ∧ S a = none ∧ G.H a = none ∧ Own K S (upd H p o) a z := by
        rintro oz ⟨a, rfl, q1, q2, q3⟩
        refine ⟨a, rfl, q1, q2, ?_⟩
        have ne : a ≠ p := fun z' => by
          subst z'
          exact r.dis i j a x z e hi hj hx oz hp h1
        cases z with
        | d z => exact q3
        | l ds => obtain ⟨vs, e1, e2⟩ := q3; exact ⟨vs, by rw [upd_ne ne]; exact e1, e2⟩
        | k ds => obtain ⟨vs, e1, e2⟩ := q3; exact ⟨vs, by rw [upd_ne ne]; exact e1, e2⟩
      cases z with
      | d z => exact h2
      | l ds => exact go rfl h2
      | k ds => exact go rfl h2
  dis := fun j k a u z hjk hj hk oy oz sj sk => by
    by_cases e1 : i = j
    · subst e1
      rw [List.getElem?_set_ne hjk] at hk
      exact r.dis i k a x z hjk hi hk hx oz sj sk
    · by_cases e2 : i = k
      · subst e2
        rw [List.getElem?_set_ne e1] at hj
        exact r.dis j i a u x hjk hj hi oy hx sj sk
      · rw [List.getElem?_set_ne e1] at hj
        rw [List.getElem?_set_ne e2] at hk
        exact r.dis j k a u z hjk hj hk oy oz sj sk
end
end DL

set_option Elab.async false
set_option linter.all false
set_option maxRecDepth 100000
set_option maxHeartbeats 4000000
set_option autoImplicit false
/-! the data layer 2: readings that compute -/
namespace DL
open PySem L2

/-! ### weaker readings -/
section
variable {X : Cx}
theorem PEimp {e : Expr} {t t' : TE} (h : PE X e t) (i : ∀ σ H Q, t' σ H Q → t σ H Q) : PE X e t' := ⟨fun pins s σ H Q I q => h.run pins s σ H Q I (i σ H Q q)⟩
theorem PTimp {e : Expr} {t t' : TT} (h : PT X e t) (i : ∀ σ H Q, t' σ H Q → t σ H Q) : PT X e t' := ⟨fun pins s σ H Q I q => h.run pins s σ H Q I (i σ H Q q)⟩
theorem PWimp {e : Expr} {t t' : TT} (h : PW X e t) (i : ∀ σ H Q, t' σ H Q → t σ H Q) : PW X e t' := ⟨fun w pins s σ H Q I q => h.run w pins s σ H Q I (i σ H Q q)⟩
theorem PAimp {e : List Expr} {t t' : TA} (h : PA X e t) (i : ∀ σ H Q, t' σ H Q → t σ H Q) : PA X e t' := ⟨fun pos pins s σ H Q I q => h.run pos pins s σ H Q I (i σ H Q q)⟩
theorem PSimp {e : Stmt} {t t' : TS} (h : PS X e t) (i : ∀ D σ H, t' D σ H → t D σ H) : PS X e t' := ⟨fun pins s σ H D I q => h.run pins s σ H D I (i D σ H q)⟩
theorem PSsimp {e : List Stmt} {t t' : TS} (h : PSs X e t) (i : ∀ D σ H, t' D σ H → t D σ H) : PSs X e t' := ⟨fun pins s σ H D I q => h.run pins s σ H D I (i D σ H q)⟩
theorem PIimp {tg e : Expr} {t t' : TI} (h : PI X tg e t) (i : ∀ σ H Q, t' σ H Q → t σ H Q) : PI X tg e t' := ⟨fun pins s σ H Q I q => h.run pins s σ H Q I (i σ H Q q)⟩
end

/-! ### what is wanted of an outcome -/
abbrev MG := Str → Option Value
def wG {A B : Type} (rp : Hp → B → A → Prop) (mg : MG) (W : WX) (σ : St) (S H : Hp) (Q : B → Hp → Prop) : R A → Prop
  | .ok a => ∀ b S' H', Ext S H S' H' → rp S' b a → Q b H'
  | .ex c => ∀ cls S' H', mg c = some cls → Ext S H S' H' → W cls none σ H'
  | .no => False
theorem wG.mono {A B : Type} {rp : Hp → B → A → Prop} {mg : MG} {W : WX} {σ : St} {S H S1 H1 : Hp} {Q : B → Hp → Prop} {r : R A} (e : Ext S H S1 H1) (h : wG rp mg W σ S H Q r) : wG rp mg W σ S1 H1 Q r := by
  cases r with
  | ok a => exact fun b S' H' e' x => h b S' H' (e.trans e') x
  | ex c => exact fun cls S' H' m e' => h cls S' H' m (e.trans e')
  | no => exact h
theorem wG.imp {A B : Type} {rp : Hp → B → A → Prop} {mg : MG} {W : WX} {σ : St} {S H : Hp} {Q Q' : B → Hp → Prop} {r : R A} (i : ∀ b H, Q b H → Q' b H) (h : wG rp mg W σ S H Q r) : wG rp mg W σ S H Q' r := by
  cases r with
  | ok a => exact fun b S' H' e' x => i b H' (h b S' H' e' x)
  | ex c => exact h
  | no => exact h
theorem wG.bind {A B A' B' : Type} {rp : Hp → B → A → Prop} {rp' : Hp → B' → A' → Prop} {mg : MG} {W : WX} {σ : St} {S H : Hp} {Q : B' → Hp → Prop} {r : R A} {k : A → R A'} (h : wG rp' mg W σ S H Q (r.bind k)) :
    wG rp mg W σ S H (fun b H1 => ∃ S1 a, Ext S H S1 H1 ∧ rp S1 b a ∧ wG rp' mg W σ S1 H1 Q (k a)) r := by
  cases r with
  | ok a => exact fun b S' H' e x => ⟨S', a, e, x, h.mono e⟩
  | ex c => exact h
  | no => exact h
def tG {A B : Type} (rp : Hp → B → A → Prop) (K : PySem.W.Frag) (mg : MG) (W : WX) (f : En → R A) : St → Hp → (B → Hp → Prop) → Prop := fun σ H Q => ∃ G ρ S, Rel K G S σ ρ H ∧ wG rp mg W σ S H Q (f ρ)
abbrev tD (K : PySem.W.Frag) (mg : MG) (W : WX) (f : En → R PD) : TE := tG (Rp K) K mg W f
def rpB : Hp → Bool → Bool → Prop := fun _ b a => b = a
abbrev tDT (K : PySem.W.Frag) (mg : MG) (W : WX) (f : En → R Bool) : TT := tG rpB K mg W f
abbrev tDA (K : PySem.W.Frag) (mg : MG) (W : WX) (f : En → R (List PD)) : TA := tG (RpA K) K mg W f
theorem tG.mk {A B : Type} {rp : Hp → B → A → Prop} {K : PySem.W.Frag} {mg : MG} {W : WX} {f : En → R A} {G : F} {ρ : En} {S H : Hp} {σ : St} {Q : B → Hp → Prop} (r : Rel K G S σ ρ H) (h : wG rp mg W σ S H Q (f ρ)) : tG rp K mg W f σ H Q := ⟨G, ρ, S, r, h⟩

/-! ### combinators of computations -/
def dC (d : PD) : En → R PD := fun _ => .ok d
def dV (i : Nat) : En → R PD := fun ρ => match ρ[i]? with
  | some (some (.d d)) => .ok d
  | _ => .no
def d1 (g : PD → R PD) (f : En → R PD) : En → R PD := fun ρ => (f ρ).bind g
def d2 (g : PD → PD → R PD) (f1 f2 : En → R PD) : En → R PD := fun ρ => (f1 ρ).bind fun a => (f2 ρ).bind fun b => g a b
def dNil : En → R (List PD) := fun _ => .ok []
def dCons (f : En → R PD) (g : En → R (List PD)) : En → R (List PD) := fun ρ => (f ρ).bind fun a => (g ρ).bind fun as => .ok (a :: as)
def dA (g : List PD → R PD) (f : En → R (List PD)) : En → R PD := fun ρ => (f ρ).bind g
def toB : PD → R Bool
  | .bool b => .ok b
  | _ => .no
def dT (f : En → R PD) : En → R Bool := fun ρ => (f ρ).bind toB
def dAnd (f g : En → R Bool) : En → R Bool := fun ρ => (f ρ).bind fun a => if a = true then g ρ else .ok false
def dOr (f g : En → R Bool) : En → R Bool := fun ρ => (f ρ).bind fun a => if a = true then .ok true else g ρ
def dNot (f : En → R Bool) : En → R Bool := fun ρ => (f ρ).bind fun a => .ok (!a)
def dOfB (f : En → R Bool) : En → R PD := fun ρ => (f ρ).bind fun a => .ok (.bool a)
def dIf (c : En → R Bool) (f g : En → R PD) : En → R PD := fun ρ => (c ρ).bind fun a => if a = true then f ρ else g ρ

section
variable {X : Cx} {W : WX} {f f1 f2 : En → R PD} {a b e : Expr} {pos : Pos}
theorem pd_int {i : Int} {j} : PE X (.Constant (.int i) j pos) (tD X.K X.mg W (dC (.int i))) := PEimp pe_int fun σ H Q ⟨G, ρ, S, r, h⟩ => h (.int i) S H (Ext.refl r.inn) (.int i)
theorem pd_bl {i : Bool} {j} : PE X (.Constant (.bool i) j pos) (tD X.K X.mg W (dC (.bool i))) := PEimp pe_bl fun σ H Q ⟨G, ρ, S, r, h⟩ => h (.bl i) S H (Ext.refl r.inn) (.bl i)
theorem pd_non {j} : PE X (.Constant .none j pos) (tD X.K X.mg W (dC .none)) := PEimp pe_non fun σ H Q ⟨G, ρ, S, r, h⟩ => h .non S H (Ext.refl r.inn) .non
theorem pd_str {x : Str} {j} : PE X (.Constant (.str x) j pos) (tD X.K X.mg W (dC (.str x))) := PEimp pe_str fun σ H Q ⟨G, ρ, S, r, h⟩ => h (.str x) S H (Ext.refl r.inn) (.str x)
theorem tVar_of {i : Nat} {σ : St} {H : Hp} {Q : VK} (h : tD X.K X.mg W (dV i) σ H Q) : tVar i σ H Q := by
  obtain ⟨G, ρ, S, r, h⟩ := h
  unfold dV at h
  split at h
  · rename_i d e
    obtain ⟨v, h1, h2⟩ := r.slot i _ e
    exact ⟨v, h1, h v S H (Ext.refl r.inn) h2⟩
  · exact h.elim
theorem pd_v (i : Nat) {x : Str} (hN : X.N[i]? = some x := by rfl) (hv : Vis X.env.scope x := by first | exact Or.inl rfl | exact Or.inr (Or.inl rfl) | exact Or.inr (Or.inr rfl)) (hd : (x == ("__debug__" : Str)) = false := by decide)
    (hcd : (x == ("__classdict__" : Str)) = false := by decide) : PE X (.Name x pos) (tD X.K X.mg W (dV i)) := PEimp (pe_var hN hv hd hcd) fun _ _ _ h => tVar_of h
/-- a module's constant -/
theorem pd_g {x : Str} {v : V} {u : Value} {d : PD} (hg : Gl X x) (hm : X.mg x = some u) (r : RelV v u) (hr : ∀ S, Rp X.K S v d) (hd : (x == ("__debug__" : Str)) = false := by decide) : PE X (.Name x pos) (tD X.K X.mg W (dC d)) :=
  PEimp (pe_glob hg hm r hd) fun σ H Q ⟨G, ρ, S, rl, h⟩ => h v S H (Ext.refl rl.inn) (hr S)

/-- a two-place operator, by its work on data -/
def OpD (X : Cx) (fn : Value → Value → Sem Value) (g : PD → PD → R PD) : Prop :=
  OpR X fn fun x y H Q => ∃ S a b, Same S H ∧ Rp X.K S x a ∧ Rp X.K S y b ∧ match g a b with
    | .ok d => ∀ v S' H', Ext S H S' H' → Rp X.K S' v d → Q v H'
    | _ => False
theorem d2_of {r : R2} {g : PD → PD → R PD} (hr : ∀ x y H Q, (∃ S a b, Same S H ∧ Rp X.K S x a ∧ Rp X.K S y b ∧ match g a b with
    | .ok d => ∀ v S' H', Ext S H S' H' → Rp X.K S' v d → Q v H'
    | _ => False) → r x y H Q) (hn : ∀ a b c, g a b ≠ .ex c) : ∀ σ H Q, tD X.K X.mg W (d2 g f1 f2) σ H Q → tOp r (tD X.K X.mg W f1) (tD X.K X.mg W f2) σ H Q := by
  rintro σ H Q ⟨G, ρ, S, rel, h⟩
  refine tG.mk rel (wG.imp ?_ (wG.bind (rp := Rp X.K) h))
  rintro x H1 ⟨S1, a, e1, ra, h1⟩
  refine tG.mk (rel.ext e1) (wG.imp ?_ (wG.bind (rp := Rp X.K) h1))
  rintro y H2 ⟨S2, b, e2, rb, h2⟩
  refine hr x y H2 Q ⟨S2, a, b, e2.inn, Rp.mono e2.sub _ _ ra, rb, ?_⟩
  cases q : g a b with
  | ok d => rw [q] at h2; exact h2
  | ex c => exact absurd q (hn a b c)
  | no => rw [q] at h2; exact h2
/-- g never raises -/
def NoEx (g : PD → PD → R PD) : Prop := ∀ a b c, g a b ≠ .ex c
theorem pd_bin {op : Operator} {g : PD → PD → R PD} (ho : OpD X (binaryOp op) g) (hn : NoEx g) (ha : PE X a (tD X.K X.mg W f1)) (hb : PE X b (tD X.K X.mg W f2)) : PE X (.BinOp a op b pos) (tD X.K X.mg W (d2 g f1 f2)) :=
  PEimp (pe_op ho ha hb) (d2_of (fun _ _ _ _ h => h) hn)
theorem pd_cmp {op : CmpOp} {g : PD → PD → R PD} (ho : OpD X (compareOp op) g) (hn : NoEx g) (ha : PE X a (tD X.K X.mg W f1)) (hb : PE X b (tD X.K X.mg W f2)) (h1 : behindInMarks op b = false := by first | exact nobehind _ (by decide) (by decide) | rfl) :
    PE X (.Compare a [op] [b] pos) (tD X.K X.mg W (d2 g f1 f2)) := PEimp (pe_cmpR ho ha hb h1) (d2_of (fun _ _ _ _ h => h) hn)

/-! tests -/
theorem dT_of {t : TE} (ht : ∀ σ H Q, tD X.K X.mg W f σ H Q → t σ H Q) : ∀ σ H Q, tDT X.K X.mg W (dT f) σ H Q → tB t σ H Q := by
  rintro σ H Q ⟨G, ρ, S, rel, h⟩
  refine ht σ H _ (tG.mk rel (wG.imp ?_ (wG.bind (rp := Rp X.K) h)))
  rintro x H1 ⟨S1, a, e1, ra, h1⟩
  cases a with
  | bool c =>
    cases ra
    exact ⟨c, rfl, h1 c S1 H1 (Ext.refl e1.inn) rfl⟩
  | _ => exact h1.elim
/-- any expression that gives a bool, as a test -/
theorem pt_d (h : PE X e (tD X.K X.mg W f)) (he : ∀ whole, isTrue e X.env whole = (do let v ← whole; standAt e.pos; holding [v] (truthy v)) := by intro _; rfl) : PT X e (tDT X.K X.mg W (dT f)) := PTimp (pt_val h he) (dT_of fun _ _ _ h => h)
theorem pt_cmpd {op : CmpOp} {g : PD → PD → R PD} (ho : OpD X (compareOp op) g) (hn : NoEx g) (ha : PE X a (tD X.K X.mg W f1)) (hb : PE X b (tD X.K X.mg W f2)) (h1 : behindInMarks op b = false := by first | exact nobehind _ (by decide) (by decide) | rfl) :
    PT X (.Compare a [op] [b] pos) (tDT X.K X.mg W (dT (d2 g f1 f2))) := PTimp (pt_cmpR ho ha hb h1) (dT_of (d2_of (fun _ _ _ _ h => h) hn))
variable {t1 t2 : En → R Bool} {rest : List Expr}
theorem tAnd_of : ∀ σ H Q, tDT X.K X.mg W (dAnd t1 t2) σ H Q → tAnd (tDT X.K X.mg W t1) (tDT X.K X.mg W t2) σ H Q := by
  rintro σ H Q ⟨G, ρ, S, rel, h⟩
  refine tG.mk rel (wG.imp ?_ (wG.bind (rp := rpB) h))
  rintro x H1 ⟨S1, a, e1, ra, h1⟩
  cases ra
  cases x with
  | true => exact tG.mk (rel.ext e1) h1
  | false => exact h1 false S1 H1 (Ext.refl e1.inn) rfl
theorem tOr_of : ∀ σ H Q, tDT X.K X.mg W (dOr t1 t2) σ H Q → tOr (tDT X.K X.mg W t1) (tDT X.K X.mg W t2) σ H Q := by
  rintro σ H Q ⟨G, ρ, S, rel, h⟩
  refine tG.mk rel (wG.imp ?_ (wG.bind (rp := rpB) h))
  rintro x H1 ⟨S1, a, e1, ra, h1⟩
  cases ra
  cases x with
  | false => exact tG.mk (rel.ext e1) h1
  | true => exact h1 true S1 H1 (Ext.refl e1.inn) rfl
theorem pw_d1 (ha : PT X a (tDT X.K X.mg W t1)) : PW X (.BoolOp .And [a] pos) (tDT X.K X.mg W t1) := pw_and1 ha
theorem pw_o1 (ha : PT X a (tDT X.K X.mg W t1)) : PW X (.BoolOp .Or [a] pos) (tDT X.K X.mg W t1) := pw_or1 ha
theorem pw_dand (ha : PT X a (tDT X.K X.mg W t1)) (hb : PW X (.BoolOp .And (b :: rest) pos) (tDT X.K X.mg W t2)) : PW X (.BoolOp .And (a :: b :: rest) pos) (tDT X.K X.mg W (dAnd t1 t2)) := PWimp (pw_and ha hb) tAnd_of
theorem pw_dor (ha : PT X a (tDT X.K X.mg W t1)) (hb : PW X (.BoolOp .Or (b :: rest) pos) (tDT X.K X.mg W t2)) : PW X (.BoolOp .Or (a :: b :: rest) pos) (tDT X.K X.mg W (dOr t1 t2)) := PWimp (pw_or ha hb) tOr_of
theorem pt_dnot (ha : PT X a (tDT X.K X.mg W t1)) : PT X (.UnaryOp .Not a pos) (tDT X.K X.mg W (dNot t1)) := PTimp (pt_not ha) fun σ H Q ⟨G, ρ, S, rel, h⟩ =>
  tG.mk rel (wG.imp (fun x H1 ⟨S1, a, e1, ra, h1⟩ => by cases ra; exact h1 (!x) S1 H1 (Ext.refl e1.inn) rfl) (wG.bind (rp := rpB) h))
/-! the same as values: each operand a bool -/
theorem pe_d1 {op} (ha : PE X a (tD X.K X.mg W f)) : PE X (.BoolOp op [a] pos) (tD X.K X.mg W f) := pe_one ha
def dAndV (f g : En → R PD) : En → R PD := fun ρ => (f ρ).bind fun a => (toB a).bind fun c => if c = true then g ρ else .ok (.bool false)
def dOrV (f g : En → R PD) : En → R PD := fun ρ => (f ρ).bind fun a => (toB a).bind fun c => if c = true then .ok (.bool true) else g ρ
def dNotV (f : En → R PD) : En → R PD := fun ρ => (f ρ).bind fun a => (toB a).bind fun c => .ok (.bool (!c))
theorem pe_dand (ha : PE X a (tD X.K X.mg W f1)) (hb : PE X (.BoolOp .And (b :: rest) pos) (tD X.K X.mg W f2)) : PE X (.BoolOp .And (a :: b :: rest) pos) (tD X.K X.mg W (dAndV f1 f2)) := PEimp (pe_and ha hb) fun σ H Q ⟨G, ρ, S, rel, h⟩ =>
  tG.mk rel (wG.imp (fun x H1 ⟨S1, a, e1, ra, h1⟩ => by
    cases a with
    | bool c =>
      cases ra
      refine ⟨c, rfl, ?_⟩
      cases c with
      | true => exact tG.mk (rel.ext e1) h1
      | false => exact h1 (.bl false) S1 H1 (Ext.refl e1.inn) (.bl false)
    | _ => exact h1.elim) (wG.bind (rp := Rp X.K) h))
theorem pe_dor (ha : PE X a (tD X.K X.mg W f1)) (hb : PE X (.BoolOp .Or (b :: rest) pos) (tD X.K X.mg W f2)) : PE X (.BoolOp .Or (a :: b :: rest) pos) (tD X.K X.mg W (dOrV f1 f2)) := PEimp (pe_or ha hb) fun σ H Q ⟨G, ρ, S, rel, h⟩ =>
  tG.mk rel (wG.imp (fun x H1 ⟨S1, a, e1, ra, h1⟩ => by
    cases a with
    | bool c =>
      cases ra
      refine ⟨c, rfl, ?_⟩
      cases c with
      | false => exact tG.mk (rel.ext e1) h1
      | true => exact h1 (.bl true) S1 H1 (Ext.refl e1.inn) (.bl true)
    | _ => exact h1.elim) (wG.bind (rp := Rp X.K) h))
theorem pe_dnot (ha : PE X a (tD X.K X.mg W f)) : PE X (.UnaryOp .Not a pos) (tD X.K X.mg W (dNotV f)) := PEimp (pe_not ha) fun σ H Q ⟨G, ρ, S, rel, h⟩ =>
  tG.mk rel (wG.imp (fun x H1 ⟨S1, a, e1, ra, h1⟩ => by
    cases a with
    | bool c =>
      cases ra
      exact ⟨c, rfl, h1 (.bl (!c)) S1 H1 (Ext.refl e1.inn) (.bl _)⟩
    | _ => exact h1.elim) (wG.bind (rp := Rp X.K) h))
theorem pe_dif {c : Expr} (hc : PT X c (tDT X.K X.mg W t1)) (ha : PE X a (tD X.K X.mg W f1)) (hb : PE X b (tD X.K X.mg W f2)) : PE X (.IfExp c a b pos) (tD X.K X.mg W (dIf t1 f1 f2)) := PEimp (pe_ifExp hc ha hb) fun σ H Q ⟨G, ρ, S, rel, h⟩ =>
  tG.mk rel (wG.imp (fun x H1 ⟨S1, a, e1, ra, h1⟩ => by
    cases ra
    cases x with
    | true => exact tG.mk (rel.ext e1) h1
    | false => exact tG.mk (rel.ext e1) h1) (wG.bind (rp := rpB) h))

/-! argument lists -/
variable {fs : En → R (List PD)} {es : List Expr}
theorem pad_nil : PA X [] (tDA X.K X.mg W dNil) := PAimp pa_nil fun σ H Q ⟨G, ρ, S, r, h⟩ => h [] S H (Ext.refl r.inn) .nil
theorem pad_cons (ha : PE X e (tD X.K X.mg W f)) (hr : PA X es (tDA X.K X.mg W fs)) (hs : starEach (e :: es) X.env = (false, eval e X.env) :: starEach es X.env := by rfl) : PA X (e :: es) (tDA X.K X.mg W (dCons f fs)) :=
  PAimp (pa_cons ha hr hs) fun σ H Q ⟨G, ρ, S, rel, h⟩ => by
    refine tG.mk rel (wG.imp ?_ (wG.bind (rp := Rp X.K) h))
    rintro x H1 ⟨S1, a, e1, ra, h1⟩
    refine tG.mk (rel.ext e1) (wG.imp ?_ (wG.bind (rp := RpA X.K) h1))
    rintro xs H2 ⟨S2, as, e2, ras, h2⟩
    exact h2 (x :: xs) S2 H2 (Ext.refl e2.inn) (.cons (Rp.mono e2.sub _ _ ra) ras)
/-- (a, b, ..) -/
def gTupD (ds : List PD) : R PD := if ds.length ≤ 1000 then .ok (.tuple ds) else .no
def gLstD (ds : List PD) : R PD := if ds.length ≤ 1000 then .ok (.list ds) else .no
theorem le_line {n : Nat} (h : n ≤ 1000) : n ≤ sizeLine := Nat.le_trans h (by decide)
theorem pd_tup {x1} (h : PA X es (tDA X.K X.mg W fs)) : PE X (.Tuple es x1 pos) (tD X.K X.mg W (dA gTupD fs)) := PEimp (pe_tup h) fun σ H Q ⟨G, ρ, S, rel, h⟩ => by
  refine tG.mk rel (wG.imp ?_ (wG.bind (rp := RpA X.K) h))
  rintro xs H1 ⟨S1, as, e1, ra, h1⟩
  unfold gTupD at h1
  by_cases hl : as.length ≤ 1000
  · rw [if_pos hl] at h1
    refine ⟨by rw [ra.length]; exact le_line hl, fun p hp => ?_⟩
    have e2 : Ext S1 H1 (upd S1 p (.tup xs)) (upd H1 p (.tup xs)) := Ext.known e1.inn hp
    exact h1 _ _ _ e2 (.tup (SqT.of upd_same) (RpA.mono e2.sub _ _ ra))
  · rw [if_neg hl] at h1; exact h1.elim
theorem pd_lst (h : PA X es (tDA X.K X.mg W fs)) : PE X (.List es pos) (tD X.K X.mg W (dA gLstD fs)) := PEimp (pe_lst h) fun σ H Q ⟨G, ρ, S, rel, h⟩ => by
  refine tG.mk rel (wG.imp ?_ (wG.bind (rp := RpA X.K) h))
  rintro xs H1 ⟨S1, as, e1, ra, h1⟩
  unfold gLstD at h1
  by_cases hl : as.length ≤ 1000
  · rw [if_pos hl] at h1
    refine ⟨by rw [ra.length]; exact le_line hl, fun p hp => ?_⟩
    have e2 : Ext S1 H1 (upd S1 p (.lst xs)) (upd H1 p (.lst xs)) := Ext.known e1.inn hp
    exact h1 _ _ _ e2 (.lst (SqL.of upd_same) (RpA.mono e2.sub _ _ ra))
  · rw [if_neg hl] at h1; exact h1.elim

/-! calls -/
/-- a def's promise by its work on data: n arguments -/
def spD (K : PySem.W.Frag) (mg : MG) (n : Nat) (g : List PD → R PD) : Sp := fun vs H Q E => ∃ S ds, Same S H ∧ RpA K S vs ds ∧ ds.length = n ∧ match g ds with
  | .ok d => ∀ v S' H', Ext S H S' H' → Rp K S' v d → Q v H'
  | .ex c => ∀ cls S' H', mg c = some cls → Ext S H S' H' → E cls none H'
  | .no => False
def gCall (n : Nat) (ds : List PD) (g : List PD → R PD) (as : List PD) : R PD := if (as ++ ds).length = n then g (as ++ ds) else .no
theorem tCallD_of {n : Nat} {ds : List PD} {dvs : List V} {g : List PD → R PD} (hd : ∀ S, RpA X.K S dvs ds) : ∀ σ H Q, tD X.K X.mg W (dA (gCall n ds g) fs) σ H Q → tCallSD (spD X.K X.mg n g) dvs (fun σ => L2.WE W σ) (tDA X.K X.mg W fs) σ H Q := by
  rintro σ H Q ⟨G, ρ, S, rel, h⟩
  refine tG.mk rel (wG.imp ?_ (wG.bind (rp := RpA X.K) h))
  rintro xs H1 ⟨S1, as, e1, ra, h1⟩
  unfold gCall at h1
  by_cases hl : (as ++ ds).length = n
  · rw [if_pos hl] at h1
    refine ⟨S1, as ++ ds, e1.inn, ra.append (hd S1), hl, ?_⟩
    cases q : g (as ++ ds) with
    | ok d => rw [q] at h1; exact h1
    | ex c => rw [q] at h1; exact h1
    | no => rw [q] at h1; exact h1
  · rw [if_neg hl] at h1; exact h1.elim
end
end DL

set_option Elab.async false
set_option linter.all false
set_option maxRecDepth 100000
set_option maxHeartbeats 4000000
set_option autoImplicit false
/-! the data layer 3: calls, statements, defs -/
namespace DL
open PySem L2

/-- a def that stands by a name of the module, with its promise: k its level, n its parameters, Bs what its defaults may fill up -/
structure FnAt (P : Program) (w : World) (K : PySem.W.Frag) (mg : MG) (base : Heap) (x : Str) (k n : Nat) (Bs : List (List PD)) (g : List PD → R PD) : Prop where
  ex : ∃ (f : Addr) (fd : FuncData) (ps : List Str), FnOk P w K mg base (L2.CX P w) k f fd ps (spD K mg n g) ∧ mg x = some (.ref f) ∧ PySem.W.keepIn K (.ref f) = true ∧
    ∀ ds, ds ∈ Bs → ∃ (us : List Value) (dvs : List V), Binds K fd ps us ∧ Vals dvs us ∧ ∀ S, RpA K S dvs ds
section
variable {X : Cx} {W : WX} {f : En → R PD} {fs : En → R (List PD)} {a b e : Expr} {es : List Expr} {pos p : Pos} {x : Str} {k n : Nat} {Bs : List (List PD)} {ds : List PD} {g : List PD → R PD}
theorem pd_call (Fn : FnAt X.prog X.w X.K X.mg X.base x k n Bs g) (hB : ds ∈ Bs) (hr : Room k X.A) (tk : Takes X W) (hg : Gl X x) (ha : PA X (e :: es) (tDA X.K X.mg W fs))
    (hdb : (x == ("__debug__" : Str)) = false := by decide) (he : starEach (e :: es) X.env = (false, eval e X.env) :: starEach es X.env := by rfl) (hpl : (backTo pos (starEach es X.env)).any (·.1) = false := by rfl) :
    PE X (.Call (.Name x p) (e :: es) [] pos) (tD X.K X.mg W (dA (gCall n ds g) fs)) := by
  obtain ⟨f, fd, ps, hF, hm, hk, hb⟩ := Fn.ex
  obtain ⟨us, dvs, b1, b2, b3⟩ := hb ds hB
  exact PEimp (pe_callSD hF hr hg hm hk b1 b2 (fun σ => passAt tk σ) ha hdb he hpl) (tCallD_of b3)
/-- the same where nothing may be raised out of here -/
theorem takesF {X : Cx} : Takes X (fun _ _ _ _ => False) := takes0
end

/-! ### statements -/
inductive Fl where
  | nx (ρ : En)
  | rt (d : PD)
  | bk (ρ : En)
  | ct (ρ : En)
  | ex (c : Str) (ρ : En)
  | no
def wS (K : PySem.W.Frag) (mg : MG) (W : WX) (G : F) (S : Hp) (D : Ends) : Fl → Prop
  | .nx ρ => ∀ σ S' H, Same S S' → Rel K G S' σ ρ H → D.nx σ H
  | .bk ρ => ∀ σ S' H, Same S S' → Rel K G S' σ ρ H → D.bk σ H
  | .ct ρ => ∀ σ S' H, Same S S' → Rel K G S' σ ρ H → D.ct σ H
  | .rt d => ∀ v S' H, Ext G.S G.H S' H → Rp K S' v d → D.rt v H
  | .ex c ρ => ∀ cls σ S' H, mg c = some cls → Same S S' → Rel K G S' σ ρ H → W cls none σ H
  | .no => False
def tS (K : PySem.W.Frag) (mg : MG) (W : WX) (f : En → Fl) : TS := fun D σ H => ∃ G ρ S, Rel K G S σ ρ H ∧ wS K mg W G S D (f ρ)
theorem Rel.fin {K : PySem.W.Frag} {G : F} {S H : Hp} {σ : St} {ρ : En} (r : Rel K G S σ ρ H) : Ext G.S G.H S H := ⟨r.entS, r.ent, r.inn, r.new⟩
theorem wS.mono {K : PySem.W.Frag} {mg : MG} {W : WX} {G : F} {S S1 : Hp} {D : Ends} {r : Fl} (e : Same S S1) (h : wS K mg W G S D r) : wS K mg W G S1 D r := by
  cases r with
  | nx ρ => exact fun σ S' H s q => h σ S' H (e.trans s) q
  | bk ρ => exact fun σ S' H s q => h σ S' H (e.trans s) q
  | ct ρ => exact fun σ S' H s q => h σ S' H (e.trans s) q
  | rt d => exact h
  | ex c ρ => exact fun cls σ S' H m s q => h cls σ S' H m (e.trans s) q
  | no => exact h
/-- other ends -/
theorem wS.imp {K : PySem.W.Frag} {mg : MG} {W : WX} {G : F} {S : Hp} {D D' : Ends} {r : Fl} (h : wS K mg W G S D r) (i1 : ∀ σ H, D.nx σ H → D'.nx σ H) (i2 : ∀ v H, D.rt v H → D'.rt v H) (i3 : ∀ σ H, D.bk σ H → D'.bk σ H) (i4 : ∀ σ H, D.ct σ H → D'.ct σ H) : wS K mg W G S D' r := by
  cases r with
  | nx ρ => exact fun σ S' H s q => i1 _ _ (h σ S' H s q)
  | bk ρ => exact fun σ S' H s q => i3 _ _ (h σ S' H s q)
  | ct ρ => exact fun σ S' H s q => i4 _ _ (h σ S' H s q)
  | rt d => exact fun v S' H s q => i2 _ _ (h v S' H s q)
  | ex c ρ => exact h
  | no => exact h
/-- an expression, then what a statement makes of it -/
def sE {A : Type} (f : En → R A) (k : A → En → Fl) : En → Fl := fun ρ => match f ρ with
  | .ok a => k a ρ
  | .ex c => .ex c ρ
  | .no => .no
theorem wS.ofE {A B : Type} {rp : Hp → B → A → Prop} {K : PySem.W.Frag} {mg : MG} {W : WX} {G : F} {S H : Hp} {D : Ends} {σ : St} {ρ : En} {f : En → R A} {k : A → En → Fl} (rel : Rel K G S σ ρ H) (h : wS K mg W G S D (sE f k ρ)) :
    wG rp mg W σ S H (fun b H1 => ∃ S1 a, Ext S H S1 H1 ∧ rp S1 b a ∧ Rel K G S1 σ ρ H1 ∧ wS K mg W G S1 D (k a ρ)) (f ρ) := by
  unfold sE at h
  cases q : f ρ with
  | ok a => rw [q] at h; exact fun b S' H' e x => ⟨S', a, e, x, rel.ext e, h.mono e.sub⟩
  | ex c => rw [q] at h; exact fun cls S' H' m e => h cls σ S' H' m e.sub (rel.ext e)
  | no => rw [q] at h; exact h
def sNx : En → Fl := .nx
def sSeq (f g : En → Fl) : En → Fl := fun ρ => match f ρ with
  | .nx ρ' => g ρ'
  | r => r
def sSet (i : Nat) (f : En → R PD) : En → Fl := sE f fun d ρ => .nx (ρ.set i (some (.d d)))
def sRet (f : En → R PD) : En → Fl := sE f fun d _ => .rt d
def sRetN : En → Fl := fun _ => .rt .none
def sIf (c : En → R Bool) (f g : En → Fl) : En → Fl := sE c fun b ρ => if b = true then f ρ else g ρ
def sDrop (f : En → R PD) : En → Fl := sE f fun _ ρ => .nx ρ
def sRaise (c : Str) : En → Fl := fun ρ => .ex c ρ
def sPar (i j : Nat) (f g : En → R PD) : En → Fl := sE f fun a => sE g fun b ρ => .nx ((ρ.set i (some (.d a))).set j (some (.d b)))
def sForget (i : Nat) (f : En → Fl) : En → Fl := fun ρ => f (ρ.set i none)
def whileN (c : En → R Bool) (f : En → Fl) : Nat → En → Fl
  | 0, _ => .no
  | n + 1, ρ => sE c (fun b ρ => if b = true then (match f ρ with
    | .nx ρ' => whileN c f n ρ'
    | .ct ρ' => whileN c f n ρ'
    | .bk ρ' => .nx ρ'
    | r => r) else .nx ρ) ρ
open Classical in
noncomputable def sWhile (c : En → R Bool) (f : En → Fl) : En → Fl := fun ρ => if h : ∃ n, whileN c f n ρ ≠ .no then whileN c f (Classical.choose h) ρ else .no
theorem whileN_more {c : En → R Bool} {f : En → Fl} : ∀ {n m : Nat} {ρ : En}, n ≤ m → whileN c f n ρ ≠ .no → whileN c f m ρ = whileN c f n ρ
  | 0, _, _, _, h => absurd rfl h
  | n + 1, 0, _, h, _ => absurd h (by omega)
  | n + 1, m + 1, ρ, hl, h => by
    have ih : ∀ ρ', whileN c f n ρ' ≠ .no → whileN c f m ρ' = whileN c f n ρ' := fun ρ' => whileN_more (by omega)
    unfold whileN sE at h ⊢
    cases q : c ρ with
    | ok b =>
      rw [q] at h
      cases b with
      | true =>
        simp only [if_true] at h ⊢
        cases q2 : f ρ with
        | nx ρ' => rw [q2] at h; exact ih ρ' h
        | ct ρ' => rw [q2] at h; exact ih ρ' h
        | bk ρ' => rfl
        | rt d => rfl
        | ex c ρ' => rfl
        | no => rfl
      | false => rfl
    | ex c => rfl
    | no => rfl
theorem sWhile_of {c : En → R Bool} {f : En → Fl} {ρ : En} (n : Nat) {r : Fl} (h : whileN c f n ρ = r) (hr : r ≠ .no) : sWhile c f ρ = r := by
  have hx : ∃ n, whileN c f n ρ ≠ .no := ⟨n, by rw [h]; exact hr⟩
  unfold sWhile
  rw [dif_pos hx]
  have h1 := Classical.choose_spec hx
  have h2 : whileN c f n ρ ≠ .no := by rw [h]; exact hr
  rcases Nat.le_total n (Classical.choose hx) with z | z
  · rw [whileN_more z h2, h]
  · rw [← whileN_more z h1, h]
theorem sWhile_at {c : En → R Bool} {f : En → Fl} {ρ : En} (h : sWhile c f ρ ≠ .no) : ∃ n, whileN c f n ρ = sWhile c f ρ := by
  by_cases hx : ∃ n, whileN c f n ρ ≠ .no
  · exact ⟨Classical.choose hx, by unfold sWhile; rw [dif_pos hx]⟩
  · unfold sWhile at h
    rw [dif_neg hx] at h
    exact absurd rfl h
/-- one turn more -/
theorem sWhile_eq {c : En → R Bool} {f : En → Fl} {ρ : En} : sWhile c f ρ = sE c (fun b ρ => if b = true then (match f ρ with
    | .nx ρ' => sWhile c f ρ'
    | .ct ρ' => sWhile c f ρ'
    | .bk ρ' => .nx ρ'
    | r => r) else .nx ρ) ρ := by
  have key : ∀ n, whileN c f (n + 1) ρ ≠ .no → whileN c f (n + 1) ρ = sE c (fun b ρ => if b = true then (match f ρ with
    | .nx ρ' => sWhile c f ρ'
    | .ct ρ' => sWhile c f ρ'
    | .bk ρ' => .nx ρ'
    | r => r) else .nx ρ) ρ := by
    intro n h
    unfold whileN sE at h ⊢
    cases q : c ρ with
    | ok b =>
      rw [q] at h
      cases b with
      | true =>
        simp only [if_true] at h ⊢
        cases q2 : f ρ with
        | nx ρ' => rw [q2] at h; exact (sWhile_of n rfl h).symm
        | ct ρ' => rw [q2] at h; exact (sWhile_of n rfl h).symm
        | bk ρ' => rfl
        | rt d => rfl
        | ex c ρ' => rfl
        | no => rfl
      | false => rfl
    | ex c => rfl
    | no => rfl
  by_cases h : sWhile c f ρ = .no
  · -- neither runs
    rw [h]
    cases q : sE c (fun b ρ => if b = true then (match f ρ with
      | .nx ρ' => sWhile c f ρ'
      | .ct ρ' => sWhile c f ρ'
      | .bk ρ' => .nx ρ'
      | r => r) else .nx ρ) ρ with
    | no => rfl
    | _ =>
      exfalso
      have hx : ∃ n, whileN c f (n + 1) ρ ≠ .no := by
        unfold sE at q
        cases q1 : c ρ with
        | ok b =>
          rw [q1] at q
          cases b with
          | true =>
            simp only [if_true] at q
            cases q2 : f ρ with
            | nx ρ' =>
              rw [q2] at q
              dsimp only at q
              obtain ⟨n, hn⟩ := sWhile_at (c := c) (f := f) (ρ := ρ') (by rw [q]; intro z; cases z)
              refine ⟨n, ?_⟩
              unfold whileN sE
              rw [q1]
              simp only [if_true, q2]
              rw [hn, q]
              intro z; cases z
            | ct ρ' =>
              rw [q2] at q
              dsimp only at q
              obtain ⟨n, hn⟩ := sWhile_at (c := c) (f := f) (ρ := ρ') (by rw [q]; intro z; cases z)
              refine ⟨n, ?_⟩
              unfold whileN sE
              rw [q1]
              simp only [if_true, q2]
              rw [hn, q]
              intro z; cases z
            | bk ρ' => exact ⟨0, by unfold whileN sE; rw [q1]; simp only [if_true, q2]; intro z; cases z⟩
            | rt d => exact ⟨0, by unfold whileN sE; rw [q1]; simp only [if_true, q2]; intro z; cases z⟩
            | ex c ρ' => exact ⟨0, by unfold whileN sE; rw [q1]; simp only [if_true, q2]; intro z; cases z⟩
            | no => rw [q2] at q; cases q
          | false => exact ⟨0, by unfold whileN sE; rw [q1]; intro z; cases z⟩
        | ex c => exact ⟨0, by unfold whileN sE; rw [q1]; intro z; cases z⟩
        | no => rw [q1] at q; cases q
      obtain ⟨n, hn⟩ := hx
      rw [sWhile_of (n + 1) rfl hn] at h
      exact hn h
  · obtain ⟨n, hn⟩ := sWhile_at h
    cases n with
    | zero => exact absurd hn.symm h
    | succ n => rw [← hn]; exact key n (by rw [hn]; exact h)
section
variable {X : Cx} {W : WX} {f f1 f2 : En → R PD} {c e e2 : Expr} {pos pos' : Pos} {t : En → R Bool} {g h : En → Fl} {st : Stmt} {sts a b : List Stmt} {i j : Nat} {x y : Str}
theorem sd_nil : PSs X [] (tS X.K X.mg W sNx) := PSsimp pss_nil fun D σ H ⟨G, ρ, S, r, q⟩ => q σ S H (Same.refl _) r
theorem tSeq_of {t1 t2 : TS} (i1 : ∀ D σ H, tS X.K X.mg W g D σ H → t1 D σ H) (i2 : ∀ D σ H, tS X.K X.mg W h D σ H → t2 D σ H) : ∀ D σ H, tS X.K X.mg W (sSeq g h) D σ H → tSeq t1 t2 D σ H := by
  rintro D σ H ⟨G, ρ, S, r, q⟩
  refine i1 _ σ H ⟨G, ρ, S, r, ?_⟩
  unfold sSeq at q
  cases z : g ρ with
  | nx ρ' => rw [z] at q; exact fun σ' S' H' s r' => i2 D σ' H' ⟨G, ρ', S', r', q.mono s⟩
  | bk ρ' => rw [z] at q; exact q
  | ct ρ' => rw [z] at q; exact q
  | rt d => rw [z] at q; exact q
  | ex c ρ' => rw [z] at q; exact q
  | no => rw [z] at q; exact q
theorem sd_cons (h1 : PS X st (tS X.K X.mg W g)) (h2 : PSs X sts (tS X.K X.mg W h)) : PSs X (st :: sts) (tS X.K X.mg W (sSeq g h)) := PSsimp (pss_cons h1 h2) (tSeq_of (fun _ _ _ q => q) fun _ _ _ q => q)
theorem sd_one (h1 : PS X st (tS X.K X.mg W g)) : PSs X [st] (tS X.K X.mg W g) := pss_one h1
theorem sd_set (i : Nat) (hN : X.N.Nodup) (hi : X.N[i]? = some x) (hx : Loc X.env.scope x) (he : PE X e (tD X.K X.mg W f)) (hs : swapsWith e (some (.Name x pos')) pos.line X.env = pure false := by rfl) (hf : X.fn x = true ∨ X.env.scope.names.lookup x = some .local := by first | exact .inl rfl | exact .inr rfl | assumption)
    (hw : swappedStores [.Name x pos'] e X.env = pure none := by rfl) :
    PS X (.Assign [.Name x pos'] e pos) (tS X.K X.mg W (sSet i f)) := PSimp (ps_asg he (pg_name hN hi hx hf) hs hw) fun D σ H ⟨G, ρ, S, r, q⟩ =>
  tG.mk r (wG.imp (fun v H1 ⟨S1, a, e1, ra, r1, q1⟩ => q1 _ S1 H1 (Same.refl _) (r1.setD ra i)) (wS.ofE (rp := Rp X.K) r q))
theorem sd_ret (he : PE X e (tD X.K X.mg W f)) : PS X (.Return (some e) pos) (tS X.K X.mg W (sRet f)) := PSimp (ps_ret he) fun D σ H ⟨G, ρ, S, r, q⟩ =>
  tG.mk r (wG.imp (fun v H1 ⟨S1, a, e1, ra, r1, q1⟩ => q1 v S1 H1 r1.fin ra) (wS.ofE (rp := Rp X.K) r q))
theorem sd_retN : PS X (.Return none pos) (tS X.K X.mg W sRetN) := PSimp ps_retN fun D σ H ⟨G, ρ, S, r, q⟩ => q .non S H r.fin .non
theorem sd_expr (he : PE X e (tD X.K X.mg W f)) (hs : swapsWith e none pos.line X.env = pure false := by rfl) : PS X (.Expr e pos) (tS X.K X.mg W (sDrop f)) := PSimp (ps_expr he hs) fun D σ H ⟨G, ρ, S, r, q⟩ =>
  tG.mk r (wG.imp (fun v H1 ⟨S1, a, e1, ra, r1, q1⟩ => q1 σ S1 H1 (Same.refl _) r1) (wS.ofE (rp := Rp X.K) r q))
theorem sd_if (hc : PT X c (tDT X.K X.mg W t)) (ha : PSs X a (tS X.K X.mg W g)) (hb : PSs X b (tS X.K X.mg W h)) : PS X (.If c a b pos) (tS X.K X.mg W (sIf t g h)) := PSimp (ps_if hc ha hb) fun D σ H ⟨G, ρ, S, r, q⟩ =>
  tG.mk r (wG.imp (fun v H1 ⟨S1, a, e1, ra, r1, q1⟩ => by
    cases ra
    cases v with
    | true => exact ⟨G, ρ, S1, r1, q1⟩
    | false => exact ⟨G, ρ, S1, r1, q1⟩) (wS.ofE (rp := rpB) r q))
theorem sd_pass : PS X (.Pass pos) (tS X.K X.mg W sNx) := PSimp ps_pass fun D σ H ⟨G, ρ, S, r, q⟩ => q σ S H (Same.refl _) r
def sBk : En → Fl := .bk
def sCt : En → Fl := .ct
theorem sd_break : PS X (.Break pos) (tS X.K X.mg W sBk) := PSimp ps_break fun D σ H ⟨G, ρ, S, r, q⟩ => q σ S H (Same.refl _) r
theorem sd_continue : PS X (.Continue pos) (tS X.K X.mg W sCt) := PSimp ps_continue fun D σ H ⟨G, ρ, S, r, q⟩ => q σ S H (Same.refl _) r
/-- a, b = e, e2 -/
theorem sd_par {px py pt : Pos} {kt k2 pt2} (i j : Nat) (hc : X.calm = true) (hN : X.N.Nodup) (hi : X.N[i]? = some x) (hj : X.N[j]? = some y) (hij : i ≠ j) (hx : X.env.scope.names.lookup x = some .local) (hy : X.env.scope.names.lookup y = some .local)
    (ha : PE X e (tD X.K X.mg W f1)) (hb : PE X e2 (tD X.K X.mg W f2)) (hw : swappedStores [.Tuple [.Name x px, .Name y py] kt pt] (.Tuple [e, e2] k2 pt2) X.env = pure (some [x, y]))
    (hs : swapsWithSole [.Tuple [.Name x px, .Name y py] kt pt] (.Tuple [e, e2] k2 pt2) pos.line X.env = pure false := by rfl)
    (hse : starEach [e, e2] X.env = (false, eval e X.env) :: starEach [e2] X.env := by rfl) (hse2 : starEach [e2] X.env = (false, eval e2 X.env) :: starEach [] X.env := by rfl) :
    PS X (.Assign [.Tuple [.Name x px, .Name y py] kt pt] (.Tuple [e, e2] k2 pt2) pos) (tS X.K X.mg W (sPar i j f1 f2)) := PSimp (ps_par hc hN hi hj hij hx hy (pa_cons ha (pa_cons hb pa_nil hse2) hse) hw hs) fun D σ H ⟨G, ρ, S, r, q⟩ => by
  refine tG.mk r (wG.imp ?_ (wS.ofE (rp := Rp X.K) r q))
  rintro v H1 ⟨S1, a, e1, ra, r1, q1⟩
  refine tG.mk r1 (wG.imp ?_ (wS.ofE (rp := Rp X.K) r1 q1))
  rintro v2 H2 ⟨S2, b, e2, rb, r2, q2⟩
  exact ⟨v, v2, rfl, q2 _ S2 H2 (Same.refl _) ((r2.setD (Rp.mono e2.sub _ _ ra) i).setD rb j)⟩
theorem sd_while (hp : PassesOwn (model X.prog X.w) X.A X.env X.xe) (hc : PT X c (tDT X.K X.mg W t)) (hb : PSs X a (tS X.K X.mg W g)) : PS X (.While c a [] pos) (tS X.K X.mg W (sWhile t g)) := PSimp (ps_while hp hc hb) fun D σ H ⟨G, ρ, S, r, q⟩ => by
  by_cases hn : sWhile t g ρ = .no
  · rw [hn] at q; exact q.elim
  · obtain ⟨n, en⟩ := sWhile_at hn
    refine ⟨fun m σ H => ∃ ρ S', Same S S' ∧ Rel X.K G S' σ ρ H ∧ wS X.K X.mg W G S' D (whileN t g m ρ), ⟨n, ρ, S, Same.refl _, r, by rw [en]; exact q⟩, ?_⟩
    rintro m σ H ⟨ρ, S', s, r, q⟩
    cases m with
    | zero => exact q.elim
    | succ m =>
      unfold whileN at q
      refine tG.mk r (wG.imp ?_ (wS.ofE (rp := rpB) r q))
      rintro v H1 ⟨S1, a, e1, ra, r1, q1⟩
      cases ra
      cases v with
      | true =>
        simp only [if_true] at q1 ⊢
        refine ⟨fun σ' H' => ∃ ρ S', Same S S' ∧ Rel X.K G S' σ' ρ H' ∧ wS X.K X.mg W G S' D (whileN t g m ρ), fun σ' H' h => ⟨m, Nat.lt_succ_self m, h⟩, G, ρ, S1, r1, ?_⟩
        cases z : g ρ with
        | nx ρ' => rw [z] at q1; exact fun σ' S2 H2 s2 r2 => ⟨ρ', S2, s.trans (e1.sub.trans s2), r2, q1.mono s2⟩
        | ct ρ' => rw [z] at q1; exact fun σ' S2 H2 s2 r2 => ⟨ρ', S2, s.trans (e1.sub.trans s2), r2, q1.mono s2⟩
        | bk ρ' => rw [z] at q1; exact q1
        | rt d => rw [z] at q1; exact q1
        | ex c ρ' => rw [z] at q1; exact q1
        | no => rw [z] at q1; exact q1
      | false =>
        simp only [Bool.false_eq_true, if_false] at q1 ⊢
        exact q1 σ S1 H1 (Same.refl _) r1
end
end DL

set_option Elab.async false
set_option linter.all false
set_option maxRecDepth 100000
set_option maxHeartbeats 4000000
set_option autoImplicit false
/-! the data layer 4: targets, loops, comprehensions -/
namespace DL
open PySem L2

/-! ### targets -/
inductive Tg where
  | one (i : Nat)
  | many (is : List Nat)
  | manyL (is : List Nat)
def Tg.slots : Tg → List Nat
  | .one i => [i]
  | .many is => is
  | .manyL is => is
def putAll : List Nat → List PD → En → En
  | i :: is, d :: ds, ρ => putAll is ds (ρ.set i (some (.d d)))
  | _, _, ρ => ρ
def Tg.put : Tg → PD → En → Option En
  | .one i, d, ρ => some (ρ.set i (some (.d d)))
  | .many is, .tuple ds, ρ => if ds.length = is.length then some (putAll is ds ρ) else none
  | .manyL is, .list ds, ρ => if ds.length = is.length then some (putAll is ds ρ) else none
  | _, _, _ => none
def gNames : List Nat → TGs
  | [] => gNil
  | i :: is => gCons (gName i) (gNames is)
def gOf (K : PySem.W.Frag) : Tg → TG
  | .one i => gName i
  | .many is => gTup K is.length (gNames is)
  | .manyL is => gLst K is.length (gNames is)
theorem wipe_at : ∀ {vs : List Nat} {σ : St} {i : Nat}, (wipe σ vs)[i]? = if i ∈ vs then (if i < σ.length then some none else none) else σ[i]?
  | [], σ, i => by simp [wipe]
  | v :: vs, σ, i => by
    unfold wipe
    by_cases h : v = i
    · subst h
      by_cases hl : v < σ.length
      · rw [List.getElem?_set_self (by rw [wipe_length]; exact hl), if_pos (List.mem_cons_self), if_pos hl]
      · rw [List.getElem?_eq_none (by rw [List.length_set, wipe_length]; omega), if_pos (List.mem_cons_self), if_neg hl]
    · rw [List.getElem?_set_ne h, wipe_at]
      by_cases hm : i ∈ vs
      · rw [if_pos hm, if_pos (List.mem_cons_of_mem _ hm)]
      · rw [if_neg hm, if_neg (by simp only [List.mem_cons, not_or]; exact ⟨fun e => h e.symm, hm⟩)]
theorem wipe_set {vs : List Nat} {σ : St} {i : Nat} {w : Option V} (h : i ∈ vs) : wipe (σ.set i w) vs = wipe σ vs := by
  apply List.ext_getElem?
  intro j
  rw [wipe_at, wipe_at, List.length_set]
  by_cases hm : j ∈ vs
  · rw [if_pos hm, if_pos hm]
  · rw [if_neg hm, if_neg hm]
    exact List.getElem?_set_ne (fun e => hm (by rw [← e]; exact h))
section
variable {K : PySem.W.Frag} {G : F} {S H : Hp} {σ : St} {ρ ρ' : En}
theorem gNames_ok : ∀ {is : List Nat} {vs : List V} {ds : List PD} {σ : St} {ρ : En} {Q : St → Hp → Prop}, RpA K S vs ds → ds.length = is.length → Rel K G S σ ρ H →
    (∀ σ', Rel K G S σ' (putAll is ds ρ) H → (∀ us : List Nat, (∀ i ∈ is, i ∈ us) → wipe σ' us = wipe σ us) → Q σ' H) → gNames is vs σ H Q
  | [], _, [], σ, ρ, Q, h, hl, r, q => by
    cases h
    exact ⟨rfl, q σ r fun _ _ => rfl⟩
  | i :: is, _, d :: ds, σ, ρ, Q, h, hl, r, q => by
    cases h with
    | cons h1 h2 =>
      refine ⟨_, _, rfl, ?_⟩
      refine gNames_ok h2 (by simpa using hl) (r.setD h1 i) fun σ' r' w' => ?_
      refine q σ' r' fun us hu => ?_
      rw [w' us fun j hj => hu j (List.mem_cons_of_mem _ hj), wipe_set (hu i List.mem_cons_self)]
  | [], _, _ :: _, _, _, _, _, hl, _, _ => by cases hl
  | _ :: _, _, [], _, _, _, _, hl, _, _ => by cases hl
theorem gOf_ok {tg : Tg} {v : V} {d : PD} {Q : St → Hp → Prop} (r : Rel K G S σ ρ H) (h : Rp K S v d) (hp : tg.put d ρ = some ρ') (q : ∀ σ', Rel K G S σ' ρ' H → (∀ us : List Nat, (∀ i ∈ tg.slots, i ∈ us) → wipe σ' us = wipe σ us) → Q σ' H) : gOf K tg v σ H Q := by
  cases tg with
  | one i =>
    have e : some (ρ.set i (some (.d d))) = some ρ' := hp
    cases e
    exact q _ (r.setD h i) fun us hu => wipe_set (hu i (by simp [Tg.slots]))
  | many is =>
    cases d with
    | tuple ds =>
      have e : (if ds.length = is.length then some (putAll is ds ρ) else none) = some ρ' := hp
      by_cases hl : ds.length = is.length
      · rw [if_pos hl] at e
        cases e
        cases h with
        | tup hs ha =>
          exact ⟨_, _, rfl, Same.seqT r.inn hs, by rw [ha.length]; exact hl, gNames_ok ha hl r q⟩
      · rw [if_neg hl] at e; cases e
    | _ => cases hp
  | manyL is =>
    cases d with
    | list ds =>
      have e : (if ds.length = is.length then some (putAll is ds ρ) else none) = some ρ' := hp
      by_cases hl : ds.length = is.length
      · rw [if_pos hl] at e
        cases e
        cases h with
        | lst hs ha =>
          exact ⟨_, _, rfl, Same.seq r.inn hs, by rw [ha.length]; exact hl, gNames_ok ha hl r q⟩
      · rw [if_neg hl] at e; cases e
    | _ => cases hp
end

/-! ### what is walked -/
def ItOk (K : PySem.W.Frag) (S : Hp) (J : It) (ds : List PD) : Prop := ∀ S1 H1, Same S S1 → Same S1 H1 → ∀ i : Nat,
  (∀ d, ds[i]? = some d → J.go i H1 ∧ ∀ x H2, J.yld i H1 x H2 → ∃ S2, Ext S1 H1 S2 H2 ∧ Rp K S2 x d) ∧ (ds.length ≤ i → J.stop i H1)
abbrev tI (K : PySem.W.Frag) (mg : MG) (W : WX) (f : En → R (List PD)) : TI := tG (ItOk K) K mg W f
theorem ItOk.mono {K : PySem.W.Frag} {S S' : Hp} {J : It} {ds : List PD} (e : Same S S') (h : ItOk K S J ds) : ItOk K S' J ds := fun S1 H1 s1 s2 => h S1 H1 (e.trans s1) s2

/-- a list's items, a tuple's -/
def asL : PD → R (List PD)
  | .list ds => .ok ds
  | _ => .no
def asT : PD → R (List PD)
  | .tuple ds => .ok ds
  | _ => .no
def iL (f : En → R PD) : En → R (List PD) := fun ρ => (f ρ).bind asL
def iT (f : En → R PD) : En → R (List PD) := fun ρ => (f ρ).bind asT
theorem itl_ok {K : PySem.W.Frag} {S : Hp} {a : Addr} {xs : List V} {ds : List PD} (hs : SqL K S a xs) (ha : RpA K S xs ds) : ItOk K S (Itl K a) ds := by
  intro S1 H1 s1 s2 i
  have h1 : SqL K H1 a xs := Same.seq (s1.trans s2) hs
  refine ⟨fun d hd => ?_, fun hl => ⟨xs, h1, by rw [ha.length]; exact hl⟩⟩
  obtain ⟨v, hv, hr⟩ := ha.get hd
  exact ⟨⟨xs, v, h1, hv⟩, fun x H2 ⟨e, y⟩ => by
    subst e
    have := y xs h1
    rw [hv] at this
    cases this
    exact ⟨S1, Ext.refl s2, Rp.mono s1 _ _ hr⟩⟩
theorem itt_ok {K : PySem.W.Frag} {S : Hp} {a : Addr} {xs : List V} {ds : List PD} (hs : SqT K S a xs) (ha : RpA K S xs ds) : ItOk K S (Itt K a) ds := by
  intro S1 H1 s1 s2 i
  have h1 : SqT K H1 a xs := Same.seqT (s1.trans s2) hs
  refine ⟨fun d hd => ?_, fun hl => ⟨xs, h1, by rw [ha.length]; exact hl⟩⟩
  obtain ⟨v, hv, hr⟩ := ha.get hd
  exact ⟨⟨xs, v, h1, hv⟩, fun x H2 ⟨e, y⟩ => by
    subst e
    have := y xs h1
    rw [hv] at this
    cases this
    exact ⟨S1, Ext.refl s2, Rp.mono s1 _ _ hr⟩⟩
section
variable {X : Cx} {W : WX} {tg l : Expr} {f f1 f2 : En → R PD} {p pos : Pos}
theorem pi_l (hl : PE X l (tD X.K X.mg W f)) : PI X tg l (tI X.K X.mg W (iL f)) := PIimp (pi_list hl) fun σ H Q ⟨G, ρ, S, rel, h⟩ => by
  refine tG.mk rel (wG.imp ?_ (wG.bind (rp := Rp X.K) h))
  rintro x H1 ⟨S1, a, e1, ra, h1⟩
  cases a with
  | list ds =>
    cases ra with
    | lst hs ha => exact ⟨_, rfl, ⟨_, Same.seq e1.inn hs⟩, h1 _ S1 H1 (Ext.refl e1.inn) (itl_ok hs ha)⟩
  | _ => exact h1.elim
theorem pi_t (hl : PE X l (tD X.K X.mg W f)) : PI X tg l (tI X.K X.mg W (iT f)) := PIimp (pi_tup hl) fun σ H Q ⟨G, ρ, S, rel, h⟩ => by
  refine tG.mk rel (wG.imp ?_ (wG.bind (rp := Rp X.K) h))
  rintro x H1 ⟨S1, a, e1, ra, h1⟩
  cases a with
  | tuple ds =>
    cases ra with
    | tup hs ha => exact ⟨_, rfl, ⟨_, Same.seqT e1.inn hs⟩, h1 _ S1 H1 (Ext.refl e1.inn) (itt_ok hs ha)⟩
  | _ => exact h1.elim
/-- range(n), range(a, b) -/
def rng (lo : Int) (n : Nat) : List PD := (List.range n).map fun i => .int (lo + (i : Nat))
def gR1 : List PD → R (List PD)
  | [.int j] => if -(2 ^ 62) ≤ j ∧ j < 2 ^ 62 then .ok (rng 0 j.toNat) else .no
  | _ => .no
def gR2 : List PD → R (List PD)
  | [.int i, .int j] => if -(2 ^ 62) ≤ i ∧ i < 2 ^ 62 ∧ -(2 ^ 62) ≤ j ∧ j < 2 ^ 62 then .ok (rng i (j - i).toNat) else .no
  | _ => .no
def iA (g : List PD → R (List PD)) (f : En → R (List PD)) : En → R (List PD) := fun ρ => (f ρ).bind g
theorem itr_ok {K : PySem.W.Frag} {S : Hp} {lo : Int} {n : Nat} : ItOk K S (Itr lo n) (rng lo n) := by
  intro S1 H1 s1 s2 i
  refine ⟨fun d hd => ?_, fun hl => by show n ≤ i; simpa [rng] using hl⟩
  unfold rng at hd
  rw [List.getElem?_map] at hd
  by_cases h : i < n
  · rw [List.getElem?_range h] at hd
    cases hd
    exact ⟨h, fun x H2 ⟨e, y⟩ => by subst e y; exact ⟨S1, Ext.refl s2, .int _⟩⟩
  · rw [List.getElem?_eq_none (by simpa using h)] at hd
    cases hd
theorem pi_r1 {a : Expr} {fs : En → R (List PD)} (hg : Gl X "range") (hm : X.mg "range" = none) (ha : PA X [a] (tDA X.K X.mg W fs)) (hs : starEach [a] X.env = [(false, eval a X.env)] := by rfl) : PI X tg (.Call (.Name "range" p) [a] [] pos) (tI X.K X.mg W (iA gR1 fs)) :=
  PIimp (pi_range1 hg hm ha hs) fun σ H Q ⟨G, ρ, S, rel, h⟩ => by
    refine tG.mk rel (wG.imp ?_ (wG.bind (rp := RpA X.K) h))
    rintro xs H1 ⟨S1, as, e1, ra, h1⟩
    unfold gR1 at h1
    split at h1
    · rename_i j
      cases ra with
      | cons r1 r2 =>
        cases r2
        cases r1
        split at h1
        · rename_i hb
          exact ⟨j, rfl, hb.1, hb.2, h1 _ S1 H1 (Ext.refl e1.inn) itr_ok⟩
        · exact h1.elim
    · exact h1.elim
theorem pi_r2 {a b : Expr} {fs : En → R (List PD)} (hg : Gl X "range") (hm : X.mg "range" = none) (ha : PA X [a, b] (tDA X.K X.mg W fs)) (hs : starEach [a, b] X.env = [(false, eval a X.env), (false, eval b X.env)] := by rfl)
    (hs2 : starEach [b] X.env = [(false, eval b X.env)] := by rfl) : PI X tg (.Call (.Name "range" p) [a, b] [] pos) (tI X.K X.mg W (iA gR2 fs)) :=
  PIimp (pi_range2 hg hm ha hs hs2) fun σ H Q ⟨G, ρ, S, rel, h⟩ => by
    refine tG.mk rel (wG.imp ?_ (wG.bind (rp := RpA X.K) h))
    rintro xs H1 ⟨S1, as, e1, ra, h1⟩
    unfold gR2 at h1
    split at h1
    · rename_i i j
      cases ra with
      | cons r1 r2 =>
        cases r2 with
        | cons r2 r3 =>
          cases r3
          cases r1
          cases r2
          split at h1
          · rename_i hb
            exact ⟨i, j, rfl, hb, h1 _ S1 H1 (Ext.refl e1.inn) itr_ok⟩
          · exact h1.elim
    · exact h1.elim
/-- enumerate(list) -/
def enumFrom (n : Nat) : List PD → List PD
  | [] => []
  | d :: ds => .tuple [.int (n : Nat), d] :: enumFrom (n + 1) ds
theorem enumFrom_get : ∀ {ds : List PD} {n i : Nat} {e : PD}, (enumFrom n ds)[i]? = some e → ∃ d, ds[i]? = some d ∧ e = .tuple [.int ((n + i : Nat) : Nat), d]
  | [], _, _, _, h => by simp [enumFrom] at h
  | d :: ds, n, 0, e, h => by
    have : some (PyData.tuple [.int (n : Nat), d]) = some e := h
    cases this
    exact ⟨d, rfl, rfl⟩
  | d :: ds, n, i + 1, e, h => by
    have h' : (enumFrom (n + 1) ds)[i]? = some e := h
    obtain ⟨d', h1, h2⟩ := enumFrom_get h'
    exact ⟨d', h1, by rw [h2]; congr 3; omega⟩
theorem enumFrom_length : ∀ {ds : List PD} {n : Nat}, (enumFrom n ds).length = ds.length
  | [], _ => rfl
  | d :: ds, n => by simp [enumFrom, enumFrom_length]
def gEn : List PD → R (List PD)
  | [.list ds] => .ok (enumFrom 0 ds)
  | _ => .no
theorem pi_en {e : Expr} {fs : En → R (List PD)} {tpos : Pos} {elts : List Expr} {kk : Nat} (hg : Gl X "enumerate") (hm : X.mg "enumerate" = none) (ha : PA X [e] (tDA X.K X.mg W fs)) (hs : starEach [e] X.env = [(false, eval e X.env)] := by rfl) :
    PI X (.Tuple elts kk tpos) (.Call (.Name "enumerate" p) [e] [] pos) (tI X.K X.mg W (iA gEn fs)) :=
  PIimp (pi_enum hg hm ha hs) fun σ H Q ⟨G, ρ, S, rel, h⟩ => by
    refine tG.mk rel (wG.imp ?_ (wG.bind (rp := RpA X.K) h))
    rintro xs H1 ⟨S1, as, e1, ra, h1⟩
    unfold gEn at h1
    split at h1
    · rename_i ds
      cases ra with
      | cons r1 r2 =>
        cases r2
        cases r1 with
        | lst hs ha =>
          refine ⟨_, _, rfl, Same.seq e1.inn hs, h1 _ S1 H1 (Ext.refl e1.inn) ?_⟩
          intro S2 H2 s1 s2 i
          have hq : SqL X.K H2 _ _ := Same.seq (s1.trans s2) hs
          refine ⟨fun d hd => ?_, fun hl => ⟨_, hq, by rw [ha.length]; rw [enumFrom_length] at hl; exact hl⟩⟩
          obtain ⟨d', q1, q2⟩ := enumFrom_get hd
          obtain ⟨v, hv, hr⟩ := ha.get q1
          refine ⟨⟨_, v, hq, hv⟩, ?_⟩
          rintro x H3 ⟨T, y, rfl, hT, rfl, hy⟩
          have := hy _ hq
          rw [hv] at this
          cases this
          have e2 : Ext S2 H2 (upd S2 T (.tup [.int (i : Nat), v])) (upd H2 T (.tup [.int (i : Nat), v])) := Ext.known s2 hT
          refine ⟨_, e2, ?_⟩
          rw [q2]
          refine .tup (SqT.of upd_same) (.cons ?_ (.cons (Rp.mono (s1.trans e2.sub) _ _ hr) .nil))
          rw [Nat.zero_add]
          exact .int _
    · exact h1.elim
/-- zip of two lists, of two tuples -/
def zipD : List PD → List PD → List PD
  | a :: as, b :: bs => .tuple [a, b] :: zipD as bs
  | _, _ => []
theorem zipD_get : ∀ {as bs : List PD} {i : Nat} {e : PD}, (zipD as bs)[i]? = some e → ∃ a b, as[i]? = some a ∧ bs[i]? = some b ∧ e = .tuple [a, b]
  | [], _, _, _, h => by simp [zipD] at h
  | _ :: _, [], _, _, h => by simp [zipD] at h
  | a :: as, b :: bs, 0, e, h => by
    have : some (PyData.tuple [a, b]) = some e := h
    cases this
    exact ⟨a, b, rfl, rfl, rfl⟩
  | a :: as, b :: bs, i + 1, e, h => zipD_get (as := as) (bs := bs) h
theorem zipD_stop : ∀ {as bs : List PD} {i : Nat}, (zipD as bs).length ≤ i → as.length ≤ i ∨ bs.length ≤ i
  | [], _, _, _ => .inl (Nat.zero_le _)
  | _ :: _, [], _, _ => .inr (Nat.zero_le _)
  | a :: as, b :: bs, 0, h => by simp [zipD] at h
  | a :: as, b :: bs, i + 1, h => by
    have h' : (zipD as bs).length ≤ i := by simpa [zipD] using h
    rcases zipD_stop h' with z | z
    · exact .inl (by simpa using z)
    · exact .inr (by simpa using z)
def gZip : List PD → R (List PD)
  | [.list as, .list bs] => .ok (zipD as bs)
  | [.tuple as, .tuple bs] => .ok (zipD as bs)
  | _ => .no
theorem pi_zp {e e2 : Expr} {fs : En → R (List PD)} {tpos : Pos} {elts : List Expr} {kk : Nat} (hg : Gl X "zip") (hm : X.mg "zip" = none) (ha : PA X [e, e2] (tDA X.K X.mg W fs)) (hs : starEach [e, e2] X.env = (false, eval e X.env) :: starEach [e2] X.env := by rfl)
    (hpl : (backTo pos (starEach [e2] X.env)).any (·.1) = false := by rfl) :
    PI X (.Tuple elts kk tpos) (.Call (.Name "zip" p) [e, e2] [] pos) (tI X.K X.mg W (iA gZip fs)) :=
  PIimp (RZ.pi_zipA hg hm ha hs hpl) fun σ H Q ⟨G, ρ, S, rel, h⟩ => by
    refine tG.mk rel (wG.imp ?_ (wG.bind (rp := RpA X.K) h))
    rintro xs H1 ⟨S1, as, e1, ra, h1⟩
    unfold gZip at h1
    split at h1
    · rename_i as bs
      cases ra with
      | cons r1 r2 =>
        cases r2 with
        | cons r2 r3 =>
          cases r3
          cases r1 with
          | lst hs ha =>
            cases r2 with
            | lst hs2 ha2 =>
              refine ⟨_, _, _, _, rfl, .inl ⟨Same.seq e1.inn hs, Same.seq e1.inn hs2, h1 _ S1 H1 (Ext.refl e1.inn) ?_⟩⟩
              intro S2 H2 s1 s2 i
              have q1 := Same.seq (s1.trans s2) hs
              have q2 := Same.seq (s1.trans s2) hs2
              refine ⟨fun d hd => ?_, fun hl => ⟨_, _, q1, q2, by rw [ha.length, ha2.length]; exact zipD_stop hl⟩⟩
              obtain ⟨a, b, z1, z2, z3⟩ := zipD_get hd
              obtain ⟨v, hv, hr⟩ := ha.get z1
              obtain ⟨u, hu, hr2⟩ := ha2.get z2
              refine ⟨⟨_, _, v, u, q1, q2, hv, hu⟩, ?_⟩
              rintro x H3 ⟨T, y, y2, rfl, hT, rfl, hy, hy2⟩
              have w1 := hy _ q1
              have w2 := hy2 _ q2
              rw [hv] at w1
              rw [hu] at w2
              cases w1
              cases w2
              have e2 : Ext S2 H2 (upd S2 T (.tup [v, u])) (upd H2 T (.tup [v, u])) := Ext.known s2 hT
              refine ⟨_, e2, ?_⟩
              rw [z3]
              exact .tup (SqT.of upd_same) (.cons (Rp.mono (s1.trans e2.sub) _ _ hr) (.cons (Rp.mono (s1.trans e2.sub) _ _ hr2) .nil))
    · rename_i as bs
      cases ra with
      | cons r1 r2 =>
        cases r2 with
        | cons r2 r3 =>
          cases r3
          cases r1 with
          | tup hs ha =>
            cases r2 with
            | tup hs2 ha2 =>
              refine ⟨_, _, _, _, rfl, .inr ⟨Same.seqT e1.inn hs, Same.seqT e1.inn hs2, h1 _ S1 H1 (Ext.refl e1.inn) ?_⟩⟩
              intro S2 H2 s1 s2 i
              have q1 := Same.seqT (s1.trans s2) hs
              have q2 := Same.seqT (s1.trans s2) hs2
              refine ⟨fun d hd => ?_, fun hl => ⟨_, _, q1, q2, by rw [ha.length, ha2.length]; exact zipD_stop hl⟩⟩
              obtain ⟨a, b, z1, z2, z3⟩ := zipD_get hd
              obtain ⟨v, hv, hr⟩ := ha.get z1
              obtain ⟨u, hu, hr2⟩ := ha2.get z2
              refine ⟨⟨_, _, v, u, q1, q2, hv, hu⟩, ?_⟩
              rintro x H3 ⟨T, y, y2, rfl, hT, rfl, hy, hy2⟩
              have w1 := hy _ q1
              have w2 := hy2 _ q2
              rw [hv] at w1
              rw [hu] at w2
              cases w1
              cases w2
              have e2 : Ext S2 H2 (upd S2 T (.tup [v, u])) (upd H2 T (.tup [v, u])) := Ext.known s2 hT
              refine ⟨_, e2, ?_⟩
              rw [z3]
              exact .tup (SqT.of upd_same) (.cons (Rp.mono (s1.trans e2.sub) _ _ hr) (.cons (Rp.mono (s1.trans e2.sub) _ _ hr2) .nil))
    · exact h1.elim
end

/-! ### for -/
def sForL (tg : Tg) (body : En → Fl) : List PD → En → Fl
  | [], ρ => .nx ρ
  | d :: ds, ρ => match tg.put d ρ with
    | none => .no
    | some ρ1 => match body ρ1 with
      | .nx ρ2 => sForL tg body ds ρ2
      | .ct ρ2 => sForL tg body ds ρ2
      | .bk ρ2 => .nx ρ2
      | r => r
def sFor (it : En → R (List PD)) (tg : Tg) (body : En → Fl) : En → Fl := sE it fun ds ρ => sForL tg body ds ρ
section
variable {X : Cx} {W : WX} {tg iter : Expr} {it : En → R (List PD)} {T : Tg} {g : En → Fl} {body : List Stmt} {pos : Pos}
theorem sd_for (hp : PassesOwn (model X.prog X.w) X.A X.env X.xe) (hc : X.calm = true) (hi : PI X tg iter (tI X.K X.mg W it)) (hg : PG X tg (gOf X.K T)) (hb : PSs X body (tS X.K X.mg W g)) (hs : ∀ x, foldedSetIterable iter X.env x = pure x := by intro _; rfl) :
    PS X (.For tg iter body [] pos) (tS X.K X.mg W (sFor it T g)) := PSimp (ps_for hp hc hi hg hb hs) fun D σ H ⟨G, ρ, S, r, q⟩ => by
  refine tG.mk r (wG.imp ?_ (wS.ofE (rp := ItOk X.K) r q))
  rintro J H1 ⟨S1, ds, e1, hJ, r1, q1⟩
  refine ⟨fun i m σ H => m = ds.length - i ∧ i ≤ ds.length ∧ ∃ ρ S2, Same S1 S2 ∧ Rel X.K G S2 σ ρ H ∧ wS X.K X.mg W G S2 D (sForL T g (ds.drop i) ρ), ⟨ds.length, by simp, Nat.zero_le _, ρ, S1, Same.refl _, r1, by simpa using q1⟩, ?_⟩
  rintro i m σ H ⟨rfl, hi, ρ, S2, s2, r2, q2⟩
  obtain ⟨go, stop⟩ := hJ S2 H s2 r2.inn i
  by_cases hlt : i < ds.length
  · have hd : ds[i]? = some ds[i] := List.getElem?_eq_getElem hlt
    obtain ⟨g1, g2⟩ := go _ hd
    refine .inr ⟨g1, fun σ H => i + 1 ≤ ds.length ∧ ∃ ρ S2, Same S1 S2 ∧ Rel X.K G S2 σ ρ H ∧ wS X.K X.mg W G S2 D (sForL T g (ds.drop (i + 1)) ρ), fun σ' H' h => ⟨ds.length - (i + 1), by omega, rfl, h⟩, ?_⟩
    intro x H3 y
    obtain ⟨S3, e3, rx⟩ := g2 x H3 y
    have r3 := r2.ext e3
    rw [List.drop_eq_getElem_cons hlt] at q2
    unfold sForL at q2
    cases z : T.put ds[i] ρ with
    | none => rw [z] at q2; exact q2.elim
    | some ρ1 =>
      rw [z] at q2
      refine gOf_ok r3 rx z fun σ' r' _ => ⟨G, ρ1, S3, r', ?_⟩
      dsimp only at q2
      cases z2 : g ρ1 with
      | nx ρ2 => rw [z2] at q2; exact fun σ'' S4 H4 s4 r4 => ⟨hlt, ρ2, S4, s2.trans (e3.sub.trans s4), r4, q2.mono (e3.sub.trans s4)⟩
      | ct ρ2 => rw [z2] at q2; exact fun σ'' S4 H4 s4 r4 => ⟨hlt, ρ2, S4, s2.trans (e3.sub.trans s4), r4, q2.mono (e3.sub.trans s4)⟩
      | bk ρ2 => rw [z2] at q2; exact q2.mono (r := .nx ρ2) e3.sub
      | rt d => rw [z2] at q2; exact q2
      | ex c ρ2 => rw [z2] at q2; exact q2.mono (r := .ex c ρ2) e3.sub
      | no => rw [z2] at q2; exact q2
  · have e : i = ds.length := by omega
    subst e
    rw [List.drop_length] at q2
    exact .inl ⟨stop (Nat.le_refl _), q2 σ S2 H (Same.refl _) r2⟩
end

/-! ### comprehensions -/
def wipeE (ρ : En) : List Nat → En
  | [] => ρ
  | v :: vs => (wipeE ρ vs).set v none
theorem Rel.wipe {K : PySem.W.Frag} {G : F} {S H : Hp} {σ : St} {ρ : En} (r : Rel K G S σ ρ H) : ∀ vs : List Nat, Rel K G S (wipe σ vs) (wipeE ρ vs) H
  | [] => r
  | v :: vs => (Rel.wipe r vs).forget v none
def lcL (tg : Tg) (tt : En → R Bool) (te : En → R PD) (ρ : En) : List PD → R (List PD)
  | [] => .ok []
  | d :: ds => match tg.put d ρ with
    | none => .no
    | some ρ1 => match tt ρ1 with
      | .ok true => (match te ρ1 with
        | .ok y => (match lcL tg tt te ρ ds with
          | .ok ys => .ok (y :: ys)
          | _ => .no)
        | _ => .no)
      | .ok false => lcL tg tt te ρ ds
      | _ => .no
def dLcL (it : En → R (List PD)) (tg : Tg) (vs : List Nat) (tt : En → R Bool) (te : En → R PD) : En → R (List PD) := fun ρ => (it ρ).bind fun ds => if ds.length ≤ 1000000 then lcL tg tt te (wipeE ρ vs) ds else .no
def dLc (it : En → R (List PD)) (tg : Tg) (vs : List Nat) (tt : En → R Bool) (te : En → R PD) : En → R PD := fun ρ => (dLcL it tg vs tt te ρ).bind fun ds => .ok (.list ds)
def bYes : En → R Bool := fun _ => .ok true
abbrev W0 : WX := fun _ _ _ _ => False
theorem tYes_of {K : PySem.W.Frag} {mg : MG} : ∀ σ H Q, tDT K mg W0 bYes σ H Q → tYes σ H Q := fun σ H Q ⟨G, ρ, S, rel, h⟩ => h true S H (Ext.refl rel.inn) rfl
theorem ptd_nil {X : Cx} : PTs X [] (tDT X.K X.mg W0 bYes) := ⟨fun pins s σ H Q I q => pts_nil.run pins s σ H Q I (tYes_of σ H Q q)⟩
/-- what a comprehension leaves: a new list at D, not yet known -/
theorem lc_of {K : PySem.W.Frag} {mg : MG} {W : WX} {it : En → R (List PD)} {T : Tg} {vs : List Nat} {tt : En → R Bool} {te : En → R PD} (hT : ∀ i ∈ T.slots, i ∈ vs) {σ : St} {H : Hp} {Q : VK} {G : F} {ρ : En} {S : Hp} (rel : Rel K G S σ ρ H)
    (h : match dLcL it T vs tt te ρ with
      | .ok ds => ∀ D S' H' xs, Ext S H S' H' → H D = none → S' D = none → H' D = some (.lst xs) → RpA K S' xs ds → Q (.ref D) H'
      | .ex c => ∀ cls S' H', mg c = some cls → Ext S H S' H' → W cls none σ H'
      | .no => False) : tLc (tI K mg W it) (gOf K T) (tDT K mg W0 tt) (tD K mg W0 te) vs σ H Q := by
  unfold dLcL at h
  have h2 : wG (ItOk K) mg W σ S H (fun J H1 => ∃ S1 ds, Ext S H S1 H1 ∧ ItOk K S1 J ds ∧ ds.length ≤ 1000000 ∧ ∃ ys, lcL T tt te (wipeE ρ vs) ds = .ok ys ∧ ∀ D S' H' xs, Ext S1 H1 S' H' → H1 D = none → S' D = none → H' D = some (.lst xs) → RpA K S' xs ys → Q (.ref D) H') (it ρ) := by
    cases q : it ρ with
    | ok ds =>
      rw [q] at h
      intro J S1 H1 e1 hJ
      simp only [R.bind_ok] at h
      by_cases hl : ds.length ≤ 1000000
      · rw [if_pos hl] at h
        cases q2 : lcL T tt te (wipeE ρ vs) ds with
        | ok ys =>
          rw [q2] at h
          exact ⟨S1, ds, e1, hJ, hl, ys, q2, fun D S' H' xs e a b c d => h D S' H' xs (e1.trans e) (e1.all.free a) b c d⟩
        | ex c =>
          exfalso
          have : ∀ ds, lcL T tt te (wipeE ρ vs) ds ≠ .ex c := by
            intro ds
            induction ds with
            | nil => unfold lcL; intro z; cases z
            | cons d ds ih =>
              unfold lcL
              intro z
              split at z
              · cases z
              · split at z
                · split at z
                  · split at z <;> cases z
                  · cases z
                · exact ih z
                · cases z
          exact this ds q2
        | no => rw [q2] at h; exact h.elim
      · rw [if_neg hl] at h; exact h.elim
    | ex c => rw [q] at h; exact h
    | no => rw [q] at h; exact h
  refine tG.mk rel (wG.imp ?_ h2)
  rintro J H1 ⟨S1, ds, e1, hJ, hlen, ys, hys, hq⟩ D hD
  have rel1 := rel.ext e1
  have hS1D : S1 D = none := e1.inn.free hD
  refine ⟨fun i m H => m = ds.length - i ∧ i ≤ ds.length ∧ ∃ S2 acc accd rest, Ext S1 H1 S2 H ∧ S2 D = none ∧ H D = some (.lst acc) ∧ RpA K S2 acc accd ∧ acc.length ≤ i ∧ lcL T tt te (wipeE ρ vs) (ds.drop i) = .ok rest ∧ accd ++ rest = ys,
    ⟨ds.length, by simp, Nat.zero_le _, S1, [], [], ys, Ext.fresh e1.inn hD, hS1D, upd_same, .nil, Nat.le_refl _, by simpa using hys, rfl⟩, ?_⟩
  rintro i m H2 ⟨rfl, hi, S2, acc, accd, rest, e2, hD2, hacc, racc, hal, hrest, htot⟩
  have rel2 := rel1.ext e2
  obtain ⟨go, stop⟩ := hJ S2 H2 e2.sub e2.inn i
  by_cases hlt : i < ds.length
  · have hd : ds[i]? = some ds[i] := List.getElem?_eq_getElem hlt
    obtain ⟨g1, g2⟩ := go _ hd
    refine .inr ⟨g1, fun H => i + 1 ≤ ds.length ∧ ∃ S2 acc accd rest, Ext S1 H1 S2 H ∧ S2 D = none ∧ H D = some (.lst acc) ∧ RpA K S2 acc accd ∧ acc.length ≤ i + 1 ∧ lcL T tt te (wipeE ρ vs) (ds.drop (i + 1)) = .ok rest ∧ accd ++ rest = ys,
      fun H' h => ⟨ds.length - (i + 1), by omega, rfl, h⟩, ?_⟩
    intro x H3 y
    obtain ⟨S3, e3, rx⟩ := g2 x H3 y
    have rel3 := (rel2.ext e3).wipe vs
    have new3 : ∀ {S4 H4 : Hp}, Ext S2 H2 S4 H4 → S4 D = none := fun {S4 H4} e => by
      cases q : S4 D with
      | none => rfl
      | some o =>
        rcases e.new D o q with z | z
        · rw [hD2] at z; cases z
        · rw [hacc] at z; cases z
    rw [List.drop_eq_getElem_cons hlt] at hrest
    unfold lcL at hrest
    cases z : T.put ds[i] (wipeE ρ vs) with
    | none => rw [z] at hrest; cases hrest
    | some ρ1 =>
      rw [z] at hrest
      dsimp only at hrest
      refine gOf_ok rel3 rx z fun σ' r' hw => ⟨?_, ?_⟩
      · rw [hw vs hT]
        apply List.ext_getElem?
        intro j
        rw [wipe_at, wipe_at, wipe_length]
        by_cases hm : j ∈ vs
        · rw [if_pos hm, if_pos hm]
        · rw [if_neg hm, if_neg hm]
      · refine tG.mk r' ?_
        cases zt : tt ρ1 with
        | ok b =>
          rw [zt] at hrest
          rintro b' S4 H4 e4 rfl
          cases b' with
          | true =>
            dsimp only at hrest
            rw [if_pos rfl]
            refine tG.mk (r'.ext e4) ?_
            cases ze : te ρ1 with
            | ok yd =>
              rw [ze] at hrest
              dsimp only at hrest
              cases zr : lcL T tt te (wipeE ρ vs) (ds.drop (i + 1)) with
              | ok rest' =>
                rw [zr] at hrest
                cases hrest
                intro yv S5 H5 e5 ry
                have e25 := (e3.trans e4).trans e5
                have hn := new3 e25
                refine ⟨acc, e25.all _ _ hacc, Nat.lt_of_le_of_lt (Nat.le_trans hal (Nat.le_trans (Nat.le_of_lt hlt) hlen)) (by decide), hlt, S5, acc ++ [yv], accd ++ [yd], rest', ?_, hn, upd_same, (RpA.mono e25.sub _ _ racc).snoc ry, by simp; omega, rfl, by rw [← htot]; simp⟩
                have e15 := e2.trans e25
                refine ⟨e15.sub, fun a o h => ?_, fun a o h => ?_, e15.new⟩
                · rw [upd_ne (ne_of_none h hD)]; exact e15.all a o h
                · rw [upd_ne (ne_of_none h hn)]; exact e15.inn a o h
              | ex c => rw [zr] at hrest; cases hrest
              | no => rw [zr] at hrest; cases hrest
            | ex c => rw [ze] at hrest; cases hrest
            | no => rw [ze] at hrest; cases hrest
          | false =>
            dsimp only at hrest
            rw [if_neg Bool.false_ne_true]
            have e24 := e3.trans e4
            exact ⟨hlt, S4, acc, accd, rest, e2.trans e24, new3 e24, e24.all _ _ hacc, RpA.mono e24.sub _ _ racc, by omega, hrest, htot⟩
        | ex c => rw [zt] at hrest; cases hrest
        | no => rw [zt] at hrest; cases hrest
  · have e : i = ds.length := by omega
    subst e
    rw [List.drop_length] at hrest
    have : (R.ok [] : R (List PD)) = .ok rest := hrest
    cases this
    refine .inl ⟨stop (Nat.le_refl _), hq D S2 H2 acc e2 hD hD2 hacc ?_⟩
    rw [← htot]
    simpa using racc
section
variable {X : Cx} {W : WX} {elt tg iter : Expr} {ifs : List Expr} {scope : Scope} {own : List (Str × Nat)} {pos : Pos} {it : En → R (List PD)} {T : Tg} {tt : En → R Bool} {te : En → R PD}
theorem pd_lc (own : List (Str × Nat)) (hc : X.calm = true) (hN : X.N.Nodup) (hi : PI X tg iter (tI X.K X.mg W it)) (ok : BlkOk X.N X.env.scope scope own) (hT : ∀ i ∈ T.slots, i ∈ own.map (·.2))
    (hg : ∀ (s : Shared) (H : Hp) (C : Addr) (cl : List (Str × Addr)) (fp : List Addr), PG (X.blk s H scope (compEnvC scope cl C X.env) fp) tg (gOf X.K T)) (ht : ∀ (s : Shared) (H : Hp) (C : Addr) (cl : List (Str × Addr)) (fp : List Addr), PTs (X.blk s H scope (compEnvC scope cl C X.env) fp) ifs (tDT X.K X.mg W0 tt))
    (he : ∀ (s : Shared) (H : Hp) (C : Addr) (cl : List (Str × Addr)) (fp : List Addr), PE (X.blk s H scope (compEnvC scope cl C X.env) fp) elt (tD X.K X.mg W0 te)) (hs : ∀ x, foldedSetIterable iter X.env x = pure x := by intro _; rfl) :
    PE X (.ListComp elt [⟨tg, iter, ifs, 0⟩] scope pos) (tD X.K X.mg W (dLc it T (own.map (·.2)) tt te)) := PEimp (pe_lc hc hN hi ok hg ht he hs) fun σ H Q ⟨G, ρ, S, rel, h⟩ => by
  refine lc_of hT rel ?_
  unfold dLc at h
  cases q : dLcL it T (own.map (·.2)) tt te ρ with
  | ok ds =>
    rw [q] at h
    intro D S' H' xs e hD hS hH hr
    have e2 : Ext S H (upd S' D (.lst xs)) H' := ⟨fun a o z => by rw [upd_ne (ne_of_none (e.sub _ _ z) hS)]; exact e.sub _ _ z, e.all, fun a o z => by
      by_cases ha : a = D
      · subst ha; rw [upd_same] at z; rw [hH]; exact z
      · rw [upd_ne ha] at z; exact e.inn a o z, fun a o z => by
      by_cases ha : a = D
      · subst ha; exact .inr hD
      · rw [upd_ne ha] at z; exact e.new a o z⟩
    refine h (.ref D) _ H' e2 (.lst (SqL.of upd_same) (RpA.mono (fun a o z => ?_) _ _ hr))
    rw [upd_ne (ne_of_none z hS)]; exact z
  | ex c => rw [q] at h; exact h
  | no => rw [q] at h; exact h
end
end DL

set_option Elab.async false
set_option linter.all false
set_option maxRecDepth 100000
set_option maxHeartbeats 4000000
set_option autoImplicit false
/-! the data layer 5: operators, built-ins, subscripts; raise; a def's promise -/
namespace DL
open PySem L2
abbrev ib (i : Int) : Nat := Builtin.Int.intBits i

/-! ### operators -/
theorem Rp.newL {K : PySem.W.Frag} {S H : Hp} {p : Addr} {vs : List V} {ds : List PD} (hS : Same S H) (hp : H p = none) (r : RpA K S vs ds) : Ext S H (upd S p (.lst vs)) (upd H p (.lst vs)) ∧ Rp K (upd S p (.lst vs)) (.ref p) (.list ds) := by
  have e : Ext S H (upd S p (.lst vs)) (upd H p (.lst vs)) := Ext.known hS hp
  exact ⟨e, .lst (SqL.of upd_same) (RpA.mono e.sub _ _ r)⟩
theorem Rp.newT {K : PySem.W.Frag} {S H : Hp} {p : Addr} {vs : List V} {ds : List PD} (hS : Same S H) (hp : H p = none) (r : RpA K S vs ds) : Ext S H (upd S p (.tup vs)) (upd H p (.tup vs)) ∧ Rp K (upd S p (.tup vs)) (.ref p) (.tuple ds) := by
  have e : Ext S H (upd S p (.tup vs)) (upd H p (.tup vs)) := Ext.known hS hp
  exact ⟨e, .tup (SqT.of upd_same) (RpA.mono e.sub _ _ r)⟩
theorem OpD_of {X : Cx} {fn : Value → Value → Sem Value} {g : PD → PD → R PD} (k : ∀ (pins : List (Addr × Obj)) (s : Shared) (σ : St) (H : Hp) (x y : V) (v u : Value) (Q : VK) (S : Hp) (a b d : PD), Inv X pins σ H s → RelV x v → RelV y u → Same S H → Rp X.K S x a → Rp X.K S y b → g a b = .ok d →
    (∀ v S' H', Ext S H S' H' → Rp X.K S' v d → Q v H') → wpAny (model X.prog X.w) X.A (fn v u) (EP X pins σ Q) X.xe s) : OpD X fn g := by
  intro pins s σ H x y v u Q I rx ry h
  obtain ⟨S, a, b, hS, ra, rb, h⟩ := h
  cases q : g a b with
  | ok d => rw [q] at h; exact k pins s σ H x y v u Q S a b d I rx ry hS ra rb q h
  | ex c => rw [q] at h; exact h.elim
  | no => rw [q] at h; exact h.elim
theorem CallD_ofX {X : Cx} {fv : Value} {g : List PD → R PD} (k : ∀ (pins : List (Addr × Obj)) (s : Shared) (σ : St) (H : Hp) (vs : List V) (us : List Value) (Q : VK) (S : Hp) (ds : List PD) (d : PD), Inv X pins σ H s → Vals vs us → Same S H → RpA X.K S vs ds → g ds = .ok d →
    (∀ v S' H', Ext S H S' H' → Rp X.K S' v d → Q v H') → wpAny (model X.prog X.w) X.A (call fv us) (EP X pins σ Q) X.xe s) : CallR X fv fun vs H Q => ∃ S ds, Same S H ∧ RpA X.K S vs ds ∧ match g ds with
  | .ok d => ∀ v S' H', Ext S H S' H' → Rp X.K S' v d → Q v H'
  | _ => False := by
  intro pins s σ H vs us Q I r h
  obtain ⟨S, ds, hS, ra, h⟩ := h
  cases q : g ds with
  | ok d => rw [q] at h; exact k pins s σ H vs us Q S ds d I r hS ra q h
  | ex c => rw [q] at h; exact h.elim
  | no => rw [q] at h; exact h.elim
def gAdd : PD → PD → R PD
  | .int i, .int j => .ok (.int (i + j))
  | .str x, .str y => if x.length + y.length ≤ 16777216 then .ok (.str (x.append y)) else .no
  | .list xs, .list ys => if xs.length + ys.length ≤ 16777216 then .ok (.list (xs ++ ys)) else .no
  | .tuple xs, .tuple ys => if xs.length + ys.length ≤ 16777216 then .ok (.tuple (xs ++ ys)) else .no
  | _, _ => .no
def gSub : PD → PD → R PD
  | .int i, .int j => .ok (.int (i - j))
  | _, _ => .no
def gMul : PD → PD → R PD
  | .int i, .int j => if ib i + ib j ≤ 134217728 then .ok (.int (i * j)) else .no
  | _, _ => .no
def gDiv : PD → PD → R PD
  | .int i, .int j => if j ≠ 0 ∧ Builtin.divisionGoesByPylong i j = false then .ok (.int (i.fdiv j)) else .no
  | _, _ => .no
def gMod : PD → PD → R PD
  | .int i, .int j => if j ≠ 0 then .ok (.int (i.fmod j)) else .no
  | _, _ => .no
def gPow : PD → PD → R PD
  | .int i, .int j => if 0 ≤ j ∧ (ib i : Int) * j ≤ 134217728 then .ok (.int (i ^ j.toNat)) else .no
  | _, _ => .no
def gShl : PD → PD → R PD
  | .int i, .int j => if 0 ≤ j ∧ (ib i : Int) + j ≤ 134217728 then .ok (.int (i * 2 ^ j.toNat)) else .no
  | _, _ => .no
def gShr : PD → PD → R PD
  | .int i, .int j => if 0 ≤ j then .ok (.int (i / 2 ^ j.toNat)) else .no
  | _, _ => .no
theorem noEx_add : NoEx gAdd := fun a b c h => by unfold gAdd at h; split at h <;> first | (split at h <;> cases h) | cases h
theorem noEx_sub : NoEx gSub := fun a b c h => by unfold gSub at h; split at h <;> cases h
theorem noEx_mul : NoEx gMul := fun a b c h => by unfold gMul at h; split at h <;> first | (split at h <;> cases h) | cases h
theorem noEx_div : NoEx gDiv := fun a b c h => by unfold gDiv at h; split at h <;> first | (split at h <;> cases h) | cases h
theorem noEx_mod : NoEx gMod := fun a b c h => by unfold gMod at h; split at h <;> first | (split at h <;> cases h) | cases h
theorem noEx_pow : NoEx gPow := fun a b c h => by unfold gPow at h; split at h <;> first | (split at h <;> cases h) | cases h
theorem noEx_shl : NoEx gShl := fun a b c h => by unfold gShl at h; split at h <;> first | (split at h <;> cases h) | cases h
theorem noEx_shr : NoEx gShr := fun a b c h => by unfold gShr at h; split at h <;> first | (split at h <;> cases h) | cases h
section
variable {X : Cx}
/-- list + list, whatever the lists are -/
theorem op_catL : OpR X (binaryOp .Add) (fun x y H Q => ∃ a b xs ys, x = .ref a ∧ y = .ref b ∧ SqL X.K H a xs ∧ SqL X.K H b ys ∧ xs.length + ys.length ≤ sizeLine ∧ ∀ p, H p = none → Q (.ref p) (upd H p (.lst (xs ++ ys)))) := by
  intro pins s σ H x y v u Q I rx ry h
  obtain ⟨a, b, xs, ys, rfl, rfl, ha, hb, hz, q⟩ := h
  cases rx
  cases ry
  obtain ⟨its, r1, ⟨⟨c1, d1, dt1, sl1⟩, n1, e1, q1, w1, z1⟩, _⟩ := I.list ha
  obtain ⟨its2, r2, ⟨⟨c2, d2, dt2, sl2⟩, n2, e2, q2, w2, z2⟩, _⟩ := I.list hb
  simp only at q1 z1 q2 z2
  subst q1 z1 q2 z2
  have l1 := r1.length
  have l2 := r2.length
  refine PySem.concat_meets ⟨_, e1, rfl⟩ ⟨_, e2, rfl⟩ PySem.noFill_list_add PySem.seq_list_add F.slot_list_add F.entry_list_add (F.args_list_add_2 _ _) (PyProof.Rows.list_addW a b its.toArray its2.toArray n1 n2 d1 d2 sl1 sl2 (by rw [List.size_toArray, List.size_toArray, ← l1, ← l2]; exact hz)) ⟨e1, e2, ?_⟩
  have ea : its.toArray ++ its2.toArray = (its ++ its2).toArray := by simp
  rw [ea]
  exact ⟨.ref _, _, I.lnew (t' := s.toks) (r1.append r2) (by rw [List.length_append]; exact hz), rfl, q _ I.fresh⟩
theorem od_add : OpD X (binaryOp .Add) gAdd := by
  refine OpD_of fun pins s σ H x y v u Q S a b d I rx ry hS ra rb q h => ?_
  unfold gAdd at q
  split at q
  · cases ra; cases rb
    cases q
    exact op_add pins s σ H _ _ v u Q I rx ry ⟨_, _, rfl, rfl, h _ S H (Ext.refl hS) (.int _)⟩
  · cases ra; cases rb
    split at q
    · rename_i hl
      cases q
      exact op_add_str pins s σ H _ _ v u Q I rx ry ⟨_, _, rfl, rfl, hl, h _ S H (Ext.refl hS) (.str _)⟩
    · cases q
  · cases ra with
    | lst h1 a1 =>
      cases rb with
      | lst h2 a2 =>
        split at q
        · rename_i hl
          cases q
          refine op_catL pins s σ H _ _ v u Q I rx ry ⟨_, _, _, _, rfl, rfl, Same.seq hS h1, Same.seq hS h2, by rw [a1.length, a2.length]; exact hl, fun p hp => ?_⟩
          have z := Rp.newL hS hp (a1.append a2)
          exact h _ _ _ z.1 z.2
        · cases q
  · cases ra with
    | tup h1 a1 =>
      cases rb with
      | tup h2 a2 =>
        split at q
        · rename_i hl
          cases q
          refine op_catA pins s σ H _ _ v u Q I rx ry ⟨_, _, _, _, rfl, rfl, Same.seqT hS h1, Same.seqT hS h2, by rw [a1.length, a2.length]; exact hl, fun e => ?_, fun _ e => ?_, fun _ _ p hp => ?_⟩
          · subst e
            cases a1
            exact h _ S H (Ext.refl hS) (.tup h2 a2)
          · subst e
            cases a2
            rw [List.append_nil] at h
            exact h _ S H (Ext.refl hS) (.tup h1 a1)
          · have z := Rp.newT hS hp (a1.append a2)
            exact h _ _ _ z.1 z.2
        · cases q
  · cases q
theorem od_sub : OpD X (binaryOp .Sub) gSub := by
  refine OpD_of fun pins s σ H x y v u Q S a b d I rx ry hS ra rb q h => ?_
  unfold gSub at q
  split at q
  · cases ra; cases rb
    cases q
    exact op_sub pins s σ H _ _ v u Q I rx ry ⟨_, _, rfl, rfl, h _ S H (Ext.refl hS) (.int _)⟩
  · cases q
theorem od_mul : OpD X (binaryOp .Mult) gMul := by
  refine OpD_of fun pins s σ H x y v u Q S a b d I rx ry hS ra rb q h => ?_
  unfold gMul at q
  split at q
  · cases ra; cases rb
    split at q
    · rename_i hl
      cases q
      exact op_mulX pins s σ H _ _ v u Q I rx ry ⟨_, _, rfl, rfl, by unfold CMulX; have h2 : Builtin.Int.intBits _ + Builtin.Int.intBits _ ≤ 134217728 := hl; omega, h _ S H (Ext.refl hS) (.int _)⟩
    · cases q
  · cases q
theorem op_fdivP : OpR X (binaryOp .FloorDiv) (rI (fun i j => j ≠ 0 ∧ Builtin.divisionGoesByPylong i j = false) fun i j => .int (i.fdiv j)) := opI fun _ _ _ _ _ _ _ hc q => PyProof.Rows.floordiv_int hc.1 q (.inl hc.2)
theorem op_powP : OpR X (binaryOp .Pow) (rI (fun i j => 0 ≤ j ∧ (ib i : Int) * j ≤ 134217728) fun i j => .int (i ^ j.toNat)) := opI fun _ _ _ _ _ _ _ hc q => PyProof.Rows.pow_int hc.1 (by
  have h2 := hc.2
  have e : (2 : Int) ^ 27 = 134217728 := by decide
  rw [e]
  exact h2) q
theorem od_div : OpD X (binaryOp .FloorDiv) gDiv := by
  refine OpD_of fun pins s σ H x y v u Q S a b d I rx ry hS ra rb q h => ?_
  unfold gDiv at q
  split at q
  · cases ra; cases rb
    split at q
    · rename_i hl
      cases q
      exact op_fdivP pins s σ H _ _ v u Q I rx ry ⟨_, _, rfl, rfl, hl, h _ S H (Ext.refl hS) (.int _)⟩
    · cases q
  · cases q
theorem od_mod : OpD X (binaryOp .Mod) gMod := by
  refine OpD_of fun pins s σ H x y v u Q S a b d I rx ry hS ra rb q h => ?_
  unfold gMod at q
  split at q
  · cases ra; cases rb
    split at q
    · rename_i hl
      cases q
      exact op_modN pins s σ H _ _ v u Q I rx ry ⟨_, _, rfl, rfl, hl, h _ S H (Ext.refl hS) (.int _)⟩
    · cases q
  · cases q
theorem od_pow : OpD X (binaryOp .Pow) gPow := by
  refine OpD_of fun pins s σ H x y v u Q S a b d I rx ry hS ra rb q h => ?_
  unfold gPow at q
  split at q
  · cases ra; cases rb
    split at q
    · rename_i hl
      cases q
      exact op_powP pins s σ H _ _ v u Q I rx ry ⟨_, _, rfl, rfl, hl, h _ S H (Ext.refl hS) (.int _)⟩
    · cases q
  · cases q
theorem shl_of {i j : Int} (h : 0 ≤ j ∧ (ib i : Int) + j ≤ 134217728) : CShl i j := by
  have e : (2 : Int) ^ 27 = 134217728 := by decide
  refine ⟨h.1, ?_⟩
  rw [e]
  exact h.2
theorem od_shl : OpD X (binaryOp .LShift) gShl := by
  refine OpD_of fun pins s σ H x y v u Q S a b d I rx ry hS ra rb q h => ?_
  unfold gShl at q
  split at q
  · cases ra; cases rb
    split at q
    · rename_i hl
      cases q
      exact op_shlW pins s σ H _ _ v u Q I rx ry ⟨_, _, rfl, rfl, shl_of hl, h _ S H (Ext.refl hS) (.int _)⟩
    · cases q
  · cases q
theorem od_shr : OpD X (binaryOp .RShift) gShr := by
  refine OpD_of fun pins s σ H x y v u Q S a b d I rx ry hS ra rb q h => ?_
  unfold gShr at q
  split at q
  · cases ra; cases rb
    split at q
    · rename_i hl
      cases q
      exact op_shr pins s σ H _ _ v u Q I rx ry ⟨_, _, rfl, rfl, hl, h _ S H (Ext.refl hS) (.int _)⟩
    · cases q
  · cases q
/-! ### comparisons -/
def cI (p : Int → Int → Bool) : PD → PD → R PD
  | .int i, .int j => .ok (.bool (p i j))
  | _, _ => .no
def gLt : PD → PD → R PD := cI fun i j => decide (i < j)
def gLe : PD → PD → R PD := cI fun i j => decide (i ≤ j)
def gGt : PD → PD → R PD := cI fun i j => decide (j < i)
def gGe : PD → PD → R PD := cI fun i j => decide (j ≤ i)
theorem noEx_cI {p : Int → Int → Bool} : NoEx (cI p) := fun a b c h => by unfold cI at h; split at h <;> cases h
theorem od_cI {op : CmpOp} {p : Int → Int → Bool} (ho : OpR X (compareOp op) (rI0 fun i j => .bl (p i j))) : OpD X (compareOp op) (cI p) := by
  refine OpD_of fun pins s σ H x y v u Q S a b d I rx ry hS ra rb q h => ?_
  unfold cI at q
  split at q
  · cases ra; cases rb
    cases q
    exact ho pins s σ H _ _ v u Q I rx ry ⟨_, _, rfl, rfl, h _ S H (Ext.refl hS) (.bl _)⟩
  · cases q
theorem od_lt : OpD X (compareOp .Lt) gLt := od_cI op_lt
theorem od_le : OpD X (compareOp .LtE) gLe := od_cI op_le
theorem od_gt : OpD X (compareOp .Gt) gGt := od_cI op_gt
theorem od_ge : OpD X (compareOp .GtE) gGe := od_cI op_ge
def gEq : PD → PD → R PD
  | .int i, .int j => .ok (.bool (decide (i = j)))
  | .str x, .str y => .ok (.bool (decide (x = y)))
  | a, b => if SeqAt.shaped a = true ∧ SeqAt.shaped b = true then .ok (.bool (PyData.eqv a b)) else .no
def gNe : PD → PD → R PD
  | .int i, .int j => .ok (.bool (!decide (i = j)))
  | .str x, .str y => .ok (.bool (!decide (x = y)))
  | a, b => if SeqAt.shaped a = true ∧ SeqAt.shaped b = true then .ok (.bool (!PyData.eqv a b)) else .no
theorem noEx_eq : NoEx gEq := fun a b c h => by unfold gEq at h; split at h <;> first | (split at h <;> cases h) | cases h
theorem noEx_ne : NoEx gNe := fun a b c h => by unfold gNe at h; split at h <;> first | (split at h <;> cases h) | cases h
theorem decV_int {i j : Int} : decide (V.int i = V.int j) = decide (i = j) := by
  by_cases h : i = j
  · subst h; simp
  · rw [decide_eq_false h, decide_eq_false (fun e => h (by cases e; rfl))]
theorem decV_str {i j : Str} : decide (V.str i = V.str j) = decide (i = j) := by
  by_cases h : i = j
  · subst h; simp
  · rw [decide_eq_false h, decide_eq_false (fun e => h (by cases e; rfl))]
theorem od_eq (hu : X.A.units + 64 < cLine) : OpD X (compareOp .Eq) gEq := by
  refine OpD_of fun pins s σ H x y v u Q S a b d I rx ry hS ra rb q h => ?_
  unfold gEq at q
  split at q
  · cases ra; cases rb
    cases q
    exact op_eq pins s σ H _ _ v u Q I rx ry ⟨rfl, by rw [decV_int]; exact h _ S H (Ext.refl hS) (.bl _)⟩
  · cases ra; cases rb
    cases q
    exact op_eq pins s σ H _ _ v u Q I rx ry ⟨rfl, by rw [decV_str]; exact h _ S H (Ext.refl hS) (.bl _)⟩
  · split at q
    · rename_i hl
      cases q
      exact op_eqD hu pins s σ H _ _ v u Q I rx ry ⟨a, b, Rp.dp _ _ (Rp.mono hS _ _ ra), Rp.dp _ _ (Rp.mono hS _ _ rb), hl.1, hl.2, h _ S H (Ext.refl hS) (.bl _)⟩
    · cases q
theorem od_ne (hu : X.A.units + 64 < cLine) : OpD X (compareOp .NotEq) gNe := by
  refine OpD_of fun pins s σ H x y v u Q S a b d I rx ry hS ra rb q h => ?_
  unfold gNe at q
  split at q
  · cases ra; cases rb
    cases q
    exact op_ne pins s σ H _ _ v u Q I rx ry ⟨rfl, by rw [decV_int]; exact h _ S H (Ext.refl hS) (.bl _)⟩
  · cases ra; cases rb
    cases q
    exact op_ne pins s σ H _ _ v u Q I rx ry ⟨rfl, by rw [decV_str]; exact h _ S H (Ext.refl hS) (.bl _)⟩
  · split at q
    · rename_i hl
      cases q
      exact op_neD hu pins s σ H _ _ v u Q I rx ry ⟨a, b, Rp.dp _ _ (Rp.mono hS _ _ ra), Rp.dp _ _ (Rp.mono hS _ _ rb), hl.1, hl.2, h _ S H (Ext.refl hS) (.bl _)⟩
    · cases q
end

/-! ### unary -/
def gNeg : PD → R PD
  | .int i => .ok (.int (-i))
  | _ => .no
section
variable {X : Cx} {W : WX} {f f1 f2 : En → R PD} {fs : En → R (List PD)} {a b e : Expr} {es : List Expr} {pos p : Pos} {x : Str}
theorem pd_neg (ha : PE X a (tD X.K X.mg W f)) : PE X (.UnaryOp .USub a pos) (tD X.K X.mg W (d1 gNeg f)) := PEimp (pe_un un_neg ha) fun σ H Q ⟨G, ρ, S, rel, h⟩ => by
  refine tG.mk rel (wG.imp ?_ (wG.bind (rp := Rp X.K) h))
  rintro v H1 ⟨S1, d, e1, ra, h1⟩
  cases d with
  | int i => cases ra; exact ⟨i, rfl, h1 _ S1 H1 (Ext.refl e1.inn) (.int _)⟩
  | _ => exact h1.elim

/-! ### subscripts -/
def gIx : PD → PD → R PD
  | .list ds, .int i => (match atI ds i with
    | some d => .ok d
    | none => .no)
  | .tuple ds, .int i => (match atI ds i with
    | some d => .ok d
    | none => .no)
  | .str z, .int i => if z.length ≤ 16777216 then (match atI z.cps.toList i with
    | some c => .ok (.str ⟨#[c]⟩)
    | none => .no) else .no
  | _, _ => .no
theorem noEx_ix : NoEx gIx := fun a b c h => by
  unfold gIx at h
  split at h
  · split at h <;> cases h
  · split at h <;> cases h
  · split at h
    · split at h <;> cases h
    · cases h
  · cases h
theorem atI_rp {K : PySem.W.Frag} {S : Hp} {vs : List V} {ds : List PD} {i : Int} {d : PD} (h : RpA K S vs ds) (e : atI ds i = some d) : ∃ v, atI vs i = some v ∧ Rp K S v d := by
  unfold atI at e ⊢
  rw [h.length]
  cases q : ixN ds.length i with
  | none => rw [q] at e; cases e
  | some j =>
    rw [q] at e
    exact h.get e
theorem pd_ix (ha : PE X a (tD X.K X.mg W f1)) (hb : PE X b (tD X.K X.mg W f2)) (hs : PlainIx b := by exact fun _ _ => rfl) : PE X (.Subscript a b pos) (tD X.K X.mg W (d2 gIx f1 f2)) :=
  PEimp (pe_ix (ix_seq (X := X)) ha hb hs) (d2_of (fun x y H Q ⟨S, a, b, hS, ra, rb, h⟩ => by
    cases q : gIx a b with
    | ex c => rw [q] at h; exact h.elim
    | no => rw [q] at h; exact h.elim
    | ok d =>
      rw [q] at h
      dsimp only at h
      unfold gIx at q
      split at q
      · cases rb
        cases ra with
        | lst h1 a1 =>
          split at q
          · rename_i d e
            cases q
            obtain ⟨v, hv, hr⟩ := atI_rp a1 e
            exact .inl ⟨_, _, _, v, rfl, rfl, Same.seq hS h1, hv, h v S H (Ext.refl hS) hr⟩
          · cases q
      · cases rb
        cases ra with
        | tup h1 a1 =>
          split at q
          · rename_i d e
            cases q
            obtain ⟨v, hv, hr⟩ := atI_rp a1 e
            exact .inr (.inl ⟨_, _, _, v, rfl, rfl, Same.seqT hS h1, hv, h v S H (Ext.refl hS) hr⟩)
          · cases q
      · cases rb
        cases ra
        split at q
        · rename_i hl
          split at q
          · rename_i c e
            cases q
            exact .inr (.inr ⟨_, _, c, rfl, rfl, hl, e, h _ S H (Ext.refl hS) (.str _)⟩)
          · cases q
        · cases q
      · cases q) noEx_ix)
def cutD {α : Type} (xs : List α) (lo hi : Option Int) : List α := (xs.drop (HT.sIx xs.length 0 lo)).take (HT.sIx xs.length xs.length hi - HT.sIx xs.length 0 lo)
def gSl (d : PD) (lo hi : Option Int) : R PD := match d with
  | .list ds => .ok (.list (cutD ds lo hi))
  | .tuple ds => .ok (.tuple (cutD ds lo hi))
  | .str z => if z.length ≤ 16777216 then .ok (.str (cutS z lo hi)) else .no
  | _ => .no
def toI : PD → R (Option Int)
  | .int i => .ok (some i)
  | _ => .no
def dP (f : En → R PD) : En → R (Option Int) := fun ρ => (f ρ).bind toI
def dP0 : En → R (Option Int) := fun _ => .ok none
def dSl (f : En → R PD) (lo hi : En → R (Option Int)) : En → R PD := fun ρ => (f ρ).bind fun d => (lo ρ).bind fun l => (hi ρ).bind fun h => gSl d l h
def rpO : Hp → Option Int → Option Int → Prop := fun _ b a => b = a
abbrev tDO (K : PySem.W.Frag) (mg : MG) (W : WX) (f : En → R (Option Int)) : TO := tG rpO K mg W f
theorem POimp {o : Option Expr} {t t' : TO} (h : PO X o t) (i : ∀ σ H Q, t' σ H Q → t σ H Q) : PO X o t' := ⟨fun pins s σ H Q I q => h.run pins s σ H Q I (i σ H Q q)⟩
theorem po_d0 : PO X none (tDO X.K X.mg W dP0) := POimp po_none fun σ H Q ⟨G, ρ, S, rel, h⟩ => h none S H (Ext.refl rel.inn) rfl
theorem po_d (he : PE X e (tD X.K X.mg W f)) : PO X (some e) (tDO X.K X.mg W (dP f)) := POimp (po_some he) fun σ H Q ⟨G, ρ, S, rel, h⟩ => by
  refine tG.mk rel (wG.imp ?_ (wG.bind (rp := Rp X.K) h))
  rintro v H1 ⟨S1, d, e1, ra, h1⟩
  cases d with
  | int i => cases ra; exact ⟨i, rfl, h1 (some i) S1 H1 (Ext.refl e1.inn) rfl⟩
  | _ => exact h1.elim
theorem cut_rp {K : PySem.W.Frag} {S : Hp} {vs : List V} {ds : List PD} {lo hi : Option Int} (h : RpA K S vs ds) : RpA K S (cutV vs lo hi) (cutD ds lo hi) := by
  unfold cutV cutD
  rw [h.length]
  exact (h.drop _).take _
theorem cut_all {α : Type} {xs : List α} {lo hi : Option Int} (h : HT.sIx xs.length 0 lo = 0 ∧ HT.sIx xs.length xs.length hi = xs.length) : cutD xs lo hi = xs := by
  unfold cutD
  rw [h.1, h.2]
  simp
theorem pd_sl {lo hi : Option Expr} {p2 : Pos} {l h : En → R (Option Int)} (ha : PE X a (tD X.K X.mg W f)) (hl : PO X lo (tDO X.K X.mg W l)) (hh : PO X hi (tDO X.K X.mg W h)) : PE X (.Subscript a (.Slice lo hi none p2) pos) (tD X.K X.mg W (dSl f l h)) :=
  PEimp (pe_slice (sl_list.or (sl_tupA.or sl_str)) ha hl hh) fun σ H Q ⟨G, ρ, S, rel, q⟩ => by
    refine tG.mk rel (wG.imp ?_ (wG.bind (rp := Rp X.K) q))
    rintro v H1 ⟨S1, d, e1, ra, q1⟩
    refine tG.mk (rel.ext e1) (wG.imp ?_ (wG.bind (rp := rpO) q1))
    rintro l H2 ⟨S2, l', e2, rl, q2⟩
    refine tG.mk ((rel.ext e1).ext e2) (wG.imp ?_ (wG.bind (rp := rpO) q2))
    rintro h H3 ⟨S3, h', e3, rh, q3⟩
    cases rl
    cases rh
    have ra3 := Rp.mono (e2.sub.trans e3.sub) _ _ ra
    have hS := e3.inn
    cases d with
    | list ds =>
      cases ra3 with
      | lst h1 a1 =>
        refine .inl ⟨_, _, rfl, Same.seq hS h1, fun p hp => ?_⟩
        have z := Rp.newL hS hp (cut_rp (lo := l) (hi := h) a1)
        exact q3 _ _ _ z.1 z.2
    | tuple ds =>
      cases ra3 with
      | tup h1 a1 =>
        refine .inr (.inl ⟨_, _, rfl, Same.seqT hS h1, fun hw => ?_, fun _ p hp => ?_⟩)
        · rw [a1.length] at hw
          have q4 : wG (Rp X.K) X.mg W σ S3 H3 Q (.ok (.tuple (cutD ds l h))) := q3
          rw [cut_all hw] at q4
          exact q4 _ S3 H3 (Ext.refl hS) (.tup h1 a1)
        · have z := Rp.newT hS hp (cut_rp (lo := l) (hi := h) a1)
          exact q3 _ _ _ z.1 z.2
    | str z =>
      cases ra3
      have q4 : wG (Rp X.K) X.mg W σ S3 H3 Q (if z.length ≤ 16777216 then .ok (.str (cutS z l h)) else .no) := q3
      by_cases hz : z.length ≤ 16777216
      · rw [if_pos hz] at q4
        exact .inr (.inr ⟨_, rfl, hz, q4 _ S3 H3 (Ext.refl hS) (.str _)⟩)
      · rw [if_neg hz] at q4
        exact q4.elim
    | _ => exact q3.elim

/-! ### built-ins by name -/
def CallD (X : Cx) (fv : Value) (g : List PD → R PD) : Prop := CallR X fv fun vs H Q => ∃ S ds, Same S H ∧ RpA X.K S vs ds ∧ match g ds with
  | .ok d => ∀ v S' H', Ext S H S' H' → Rp X.K S' v d → Q v H'
  | _ => False
def NoExL (g : List PD → R PD) : Prop := ∀ a c, g a ≠ .ex c
theorem cd_of {fv : Value} {g : List PD → R PD} (hn : NoExL g) : ∀ σ H Q, tD X.K X.mg W (dA g fs) σ H Q → tCB (fun vs H Q => ∃ S ds, Same S H ∧ RpA X.K S vs ds ∧ match g ds with
  | .ok d => ∀ v S' H', Ext S H S' H' → Rp X.K S' v d → Q v H'
  | _ => False) (tDA X.K X.mg W fs) σ H Q := by
  rintro σ H Q ⟨G, ρ, S, rel, h⟩
  refine tG.mk rel (wG.imp ?_ (wG.bind (rp := RpA X.K) h))
  rintro vs H1 ⟨S1, ds, e1, ra, h1⟩
  refine ⟨S1, ds, e1.inn, ra, ?_⟩
  cases q : g ds with
  | ok d => rw [q] at h1; exact h1
  | ex c => exact absurd q (hn ds c)
  | no => rw [q] at h1; exact h1
theorem pd_b {id : String} {g : List PD → R PD} (hc : CallD X (.builtin id) g) (hn : NoExL g) (hm : X.mg x = none) (hv : bootBuiltins x = some (.builtin id)) (ha : PA X (e :: es) (tDA X.K X.mg W fs)) (hg : Gl X x := by rfl) (hnn : x ≠ "__name__" := by decide) (hdb : (x == ("__debug__" : Str)) = false := by decide)
    (he : starEach (e :: es) X.env = (false, eval e X.env) :: starEach es X.env := by rfl) (hpl : (backTo pos (starEach es X.env)).any (·.1) = false := by rfl) : PE X (.Call (.Name x p) (e :: es) [] pos) (tD X.K X.mg W (dA g fs)) :=
  PEimp (pe_callB hc hg hm hv ha hnn hdb he hpl) (cd_of (fv := .builtin id) hn)
theorem pd_bt {T : String} {g : List PD → R PD} (hc : CallD X (.type T) g) (hn : NoExL g) (hm : X.mg x = none) (hv : bootBuiltins x = some (.type T)) (ha : PA X (e :: es) (tDA X.K X.mg W fs)) (hg : Gl X x := by rfl) (hnn : x ≠ "__name__" := by decide) (hdb : (x == ("__debug__" : Str)) = false := by decide)
    (he : starEach (e :: es) X.env = (false, eval e X.env) :: starEach es X.env := by rfl) (hpl : (backTo pos (starEach es X.env)).any (·.1) = false := by rfl) : PE X (.Call (.Name x p) (e :: es) [] pos) (tD X.K X.mg W (dA g fs)) :=
  PEimp (pe_callTy hc hg hm hv ha hnn hdb he hpl) (cd_of (fv := .type T) hn)
def gLen : List PD → R PD
  | [.list ds] => .ok (.int ds.length)
  | [.tuple ds] => .ok (.int ds.length)
  | [.str z] => if z.length ≤ 16777216 then .ok (.int z.length) else .no
  | _ => .no
theorem nx_len : NoExL gLen := fun a c h => by unfold gLen at h; split at h <;> first | (split at h <;> cases h) | cases h
theorem cd_len : CallD X (.builtin "len") gLen := by
  refine CallD_ofX fun pins s σ H vs us Q S ds d I r hS ra q h => ?_
  unfold gLen at q
  split at q
  · cases ra with
    | cons r1 r2 =>
      cases r2
      cases r1 with
      | lst h1 a1 =>
        cases q
        exact call_len pins s σ H _ us Q I r ⟨_, _, rfl, .inl ⟨_, Same.seq hS h1, rfl⟩, by rw [a1.length]; exact h _ S H (Ext.refl hS) (.int _)⟩
  · cases ra with
    | cons r1 r2 =>
      cases r2
      cases r1 with
      | tup h1 a1 =>
        cases q
        exact call_len pins s σ H _ us Q I r ⟨_, _, rfl, .inr ⟨_, Same.seqT hS h1, rfl⟩, by rw [a1.length]; exact h _ S H (Ext.refl hS) (.int _)⟩
  · cases ra with
    | cons r1 r2 =>
      cases r2
      cases r1
      split at q
      · rename_i hl
        cases q
        exact call_len pins s σ H _ us Q I r ⟨_, _, rfl, ⟨hl, rfl⟩, h _ S H (Ext.refl hS) (.int _)⟩
      · cases q
  · cases q
def gAbs : List PD → R PD
  | [.int i] => .ok (.int (if i < 0 then -i else i))
  | _ => .no
theorem nx_abs : NoExL gAbs := fun a c h => by unfold gAbs at h; split at h <;> cases h
theorem cd_abs : CallD X (.builtin "abs") gAbs := by
  refine CallD_ofX fun pins s σ H vs us Q S ds d I r hS ra q h => ?_
  unfold gAbs at q
  split at q
  · cases ra with
    | cons r1 r2 =>
      cases r2
      cases r1
      cases q
      exact call_abs pins s σ H _ us Q I r ⟨_, rfl, h _ S H (Ext.refl hS) (.int _)⟩
  · cases q
def gInt : List PD → R PD
  | [.int i] => .ok (.int i)
  | [.bool b] => .ok (.int (if b then 1 else 0))
  | _ => .no
theorem nx_int : NoExL gInt := fun a c h => by unfold gInt at h; split at h <;> cases h
theorem cd_int : CallD X (.type "int") gInt := by
  refine CallD_ofX fun pins s σ H vs us Q S ds d I r hS ra q h => ?_
  unfold gInt at q
  split at q
  · cases ra with
    | cons r1 r2 =>
      cases r2
      cases r1
      cases q
      exact call_int1 pins s σ H _ us Q I r (.inl ⟨_, rfl, h _ S H (Ext.refl hS) (.int _)⟩)
  · cases ra with
    | cons r1 r2 =>
      cases r2
      cases r1
      cases q
      exact call_int1 pins s σ H _ us Q I r (.inr ⟨_, rfl, h _ S H (Ext.refl hS) (.int _)⟩)
  · cases q
def gMax : List PD → R PD
  | [.int i, .int j] => .ok (.int (if j > i then j else i))
  | _ => .no
def gMin : List PD → R PD
  | [.int i, .int j] => .ok (.int (if j < i then j else i))
  | _ => .no
theorem nx_max : NoExL gMax := fun a c h => by unfold gMax at h; split at h <;> cases h
theorem nx_min : NoExL gMin := fun a c h => by unfold gMin at h; split at h <;> cases h
theorem cd_max (hc : X.calm = true) : CallD X (.builtin "max") gMax := by
  refine CallD_ofX fun pins s σ H vs us Q S ds d I r hS ra q h => ?_
  unfold gMax at q
  split at q
  · cases ra with
    | cons r1 r2 =>
      cases r2 with
      | cons r2 r3 =>
        cases r3
        cases r1
        cases r2
        cases q
        exact call_max2 hc pins s σ H _ us Q I r ⟨_, _, rfl, h _ S H (Ext.refl hS) (.int _)⟩
  · cases q
theorem cd_min (hc : X.calm = true) : CallD X (.builtin "min") gMin := by
  refine CallD_ofX fun pins s σ H vs us Q S ds d I r hS ra q h => ?_
  unfold gMin at q
  split at q
  · cases ra with
    | cons r1 r2 =>
      cases r2 with
      | cons r2 r3 =>
        cases r3
        cases r1
        cases r2
        cases q
        exact call_min2 hc pins s σ H _ us Q I r ⟨_, _, rfl, h _ S H (Ext.refl hS) (.int _)⟩
  · cases q
def gListOf : List PD → R PD
  | [.list ds] => .ok (.list ds)
  | [.tuple ds] => .ok (.list ds)
  | _ => .no
def gTupOf : List PD → R PD
  | [.list ds] => .ok (.tuple ds)
  | [.tuple ds] => .ok (.tuple ds)
  | _ => .no
theorem nx_listOf : NoExL gListOf := fun a c h => by unfold gListOf at h; split at h <;> cases h
theorem nx_tupOf : NoExL gTupOf := fun a c h => by unfold gTupOf at h; split at h <;> cases h
theorem cd_listOf : CallD X (.type "list") gListOf := by
  refine CallD_ofX fun pins s σ H vs us Q S ds d I r hS ra q h => ?_
  unfold gListOf at q
  split at q
  · cases ra with
    | cons r1 r2 =>
      cases r2
      cases r1 with
      | lst h1 a1 =>
        cases q
        refine call_list_of pins s σ H _ us Q I r ⟨_, _, rfl, .inl (Same.seq hS h1), fun p hp => ?_⟩
        have z := Rp.newL hS hp a1
        exact h _ _ _ z.1 z.2
  · cases ra with
    | cons r1 r2 =>
      cases r2
      cases r1 with
      | tup h1 a1 =>
        cases q
        refine call_list_of pins s σ H _ us Q I r ⟨_, _, rfl, .inr (Same.seqT hS h1), fun p hp => ?_⟩
        have z := Rp.newL hS hp a1
        exact h _ _ _ z.1 z.2
  · cases q
theorem cd_tupOf : CallD X (.type "tuple") gTupOf := by
  refine CallD_ofX fun pins s σ H vs us Q S ds d I r hS ra q h => ?_
  unfold gTupOf at q
  split at q
  · cases ra with
    | cons r1 r2 =>
      cases r2
      cases r1 with
      | lst h1 a1 =>
        cases q
        refine call_tuple_of pins s σ H _ us Q I r ⟨_, _, rfl, .inl ⟨Same.seq hS h1, fun p hp => ?_⟩⟩
        have z := Rp.newT hS hp a1
        exact h _ _ _ z.1 z.2
  · cases ra with
    | cons r1 r2 =>
      cases r2
      cases r1 with
      | tup h1 a1 =>
        cases q
        exact call_tuple_of pins s σ H _ us Q I r ⟨_, _, rfl, .inr ⟨Same.seqT hS h1, h _ S H (Ext.refl hS) (.tup h1 a1)⟩⟩
  · cases q
def intsOf : List PD → Option (List Int)
  | [] => some []
  | .int i :: r => (intsOf r).map (i :: ·)
  | _ :: _ => none
theorem intsOf_rp {K : PySem.W.Frag} {S : Hp} : ∀ {ds : List PD} {vs : List V} {ns : List Int}, RpA K S vs ds → intsOf ds = some ns → vs = ns.map V.int
  | [], _, _, h, e => by
    cases h
    cases e
    rfl
  | .int i :: r, _, ns, h, e => by
    cases h with
    | cons h1 h2 =>
      cases h1
      unfold intsOf at e
      cases q : intsOf r with
      | none => rw [q] at e; cases e
      | some ms =>
        rw [q] at e
        cases e
        rw [intsOf_rp h2 q]
        rfl
  | .none :: _, _, _, _, e => by cases e
  | .bool _ :: _, _, _, _, e => by cases e
  | .str _ :: _, _, _, _, e => by cases e
  | .list _ :: _, _, _, _, e => by cases e
  | .tuple _ :: _, _, _, _, e => by cases e
  | .dict _ :: _, _, _, _, e => by cases e
def gSum : List PD → R PD
  | [.list ds] => (match intsOf ds with
    | some ns => .ok (.int ns.sum)
    | none => .no)
  | _ => .no
theorem nx_sum : NoExL gSum := fun a c h => by
  unfold gSum at h
  split at h
  · split at h <;> cases h
  · cases h
theorem cd_sum (hc : X.calm = true) : CallD X (.builtin "sum") gSum := by
  refine CallD_ofX fun pins s σ H vs us Q S ds d I r hS ra q h => ?_
  unfold gSum at q
  split at q
  · cases ra with
    | cons r1 r2 =>
      cases r2
      cases r1 with
      | lst h1 a1 =>
        split at q
        · rename_i ns e
          have ev := intsOf_rp a1 e
          subst ev
          cases q
          exact cr_sum hc pins s σ H _ us Q I r ⟨_, ns, rfl, Same.seq hS h1, h _ S H (Ext.refl hS) (.int _)⟩
        · cases q
  · cases q
/-! isinstance(x, T), T a built-in type -/
def tyD : PD → String
  | .none => "NoneType"
  | .bool _ => "bool"
  | .int _ => "int"
  | .str _ => "str"
  | .list _ => "list"
  | .tuple _ => "tuple"
  | .dict _ => "dict"
theorem tyx_rp {K : PySem.W.Frag} {S H : Hp} {v : V} {d : PD} (hS : Same S H) (r : Rp K S v d) : TyX K H v (.type (tyD d)) := by
  cases r with
  | non => exact .base .non
  | bl b => exact .base (.bl b)
  | int i => exact .base (.int i)
  | str x => exact .base (.str x)
  | lst h a =>
    rcases h with (h | ⟨o, h⟩) | ⟨o, its, n, h1, h2, _⟩
    · exact .base (.lst (hS _ _ h))
    · exact .base (.frz (hS _ _ h))
    · exact .kList h1 h2
  | tup h a =>
    rcases h with (h | ⟨o, h⟩) | ⟨o, its, n, h1, h2, _⟩
    · exact .base (.tup (hS _ _ h))
    · exact .fTuple (hS _ _ h)
    · exact .kTuple h1 h2
def gIsi (T : String) (d : PD) : R PD := match kitB (tyD d) T with
  | some b => .ok (.bool b)
  | none => .no
theorem pd_isi {T : String} {t : Str} {pt : Pos} (hm : X.mg "isinstance" = none) (hmt : X.mg t = none) (hv : bootBuiltins t = some (.type T)) (ha : PE X e (tD X.K X.mg W f)) (hg : Gl X "isinstance" := by rfl) (hgt : Gl X t := by rfl) (hnn : t ≠ "__name__" := by decide) (hdb : (t == ("__debug__" : Str)) = false := by decide)
    (he : starEach [e, .Name t pt] X.env = (false, eval e X.env) :: starEach [.Name t pt] X.env := by rfl) (he2 : starEach [.Name t pt] X.env = (false, eval (.Name t pt) X.env) :: starEach [] X.env := by rfl) (hpl : (backTo pos (starEach [.Name t pt] X.env)).any (·.1) = false := by rfl) :
    PE X (.Call (.Name "isinstance" p) [e, .Name t pt] [] pos) (tD X.K X.mg W (d1 (gIsi T) f)) :=
  PEimp (pe_callB call_isi hg hm (by decide +kernel) (pa_cons ha (pa_cons (pe_bltn (v := .ty T) hgt hmt hv rfl hnn hdb) pa_nil he2) he) (by decide) (by decide) he hpl) fun σ H Q ⟨G, ρ, S, rel, h⟩ => by
    refine tG.mk rel (wG.imp ?_ (wG.bind (rp := Rp X.K) h))
    rintro v H1 ⟨S1, d, e1, ra, h1⟩
    unfold gIsi at h1
    split at h1
    · rename_i b hb
      exact ⟨v, .ty T, _, _, b, rfl, .ty T, tyx_rp e1.inn ra, kit_ty hb, h1 _ S1 H1 (Ext.refl e1.inn) (.bl b)⟩
    · exact h1.elim
end

/-! ### raise -/
structure ExAt (K : PySem.W.Frag) (mg : MG) (x : Str) : Prop where
  ex : ∃ C, mg x = some (.ref C) ∧ PySem.W.excIn K C He.veBase "ValueError.__new__" = true ∧ PySem.W.keepIn K (.ref C) = true ∧ PySem.W.subIn K (.ref C) (.type "BaseException") = some true ∧ PySem.W.typeIn K (.ref C) = some (.type "type")
section
variable {X : Cx} {W : WX} {x m : Str} {p p2 pos pos' : Pos} {j : Nat}
theorem sd_raise (hc : X.calm = true) (tk : Takes X W) (E : ExAt X.K X.mg x) (hg : Gl X x := by rfl) (hdb : (x == ("__debug__" : Str)) = false := by decide) : PS X (.Raise (some (.Call (.Name x p) [.Constant (.str m) j p2] [] pos)) none pos') (tS X.K X.mg W (sRaise x)) := by
  obtain ⟨C, h1, h2, h3, h4, h5⟩ := E.ex
  exact PSimp (ps_raise hc tk (pmk_own PySem.F.excBase_ValueError h2 h1 h3 (raises_own h4 h5) hg hdb)) fun D σ H ⟨G, ρ, S, r, q⟩ => q _ σ S H h1 (Same.refl _) r
end

/-! ### a def -/
def fnD (m : Nat) (den : En → Fl) (ds : List PD) : R PD := match den (ds.map (fun d => some (.d d)) ++ List.replicate (m - ds.length) none) with
  | .rt d => .ok d
  | .nx _ => .ok .none
  | .ex c _ => .ex c
  | _ => .no
theorem getL {α β : Type} {f : α → β} {l : List α} {m : Nat} {i : Nat} {b : β} {c : β} (h : (l.map f ++ List.replicate m c)[i]? = some b) (hb : b ≠ c) : ∃ a, l[i]? = some a ∧ b = f a := by
  by_cases hi : i < l.length
  · rw [List.getElem?_append_left (by simpa using hi), List.getElem?_map] at h
    cases e : l[i]? with
    | none => rw [e] at h; cases h
    | some a => rw [e] at h; cases h; exact ⟨a, rfl, rfl⟩
  · rw [List.getElem?_append_right (by simpa using hi), List.getElem?_replicate] at h
    split at h
    · cases h; exact absurd rfl hb
    · cases h
theorem Rel.start {K : PySem.W.Frag} {S H : Hp} {vs : List V} {ds : List PD} {N : List Str} (hS : Same S H) (r : RpA K S vs ds) : Rel K ⟨S, H⟩ S (start N vs) (ds.map (fun d => some (.d d)) ++ List.replicate (N.length - ds.length) none) H where
  len := by unfold L2.start; simp [r.length]
  inn := hS
  ent := Same.refl _
  entS := Same.refl _
  new := fun _ _ h => .inl h
  slot := fun i x h => by
    obtain ⟨d, h1, h2⟩ := getL h (by intro z; cases z)
    cases h2
    obtain ⟨v, hv, hr⟩ := r.get h1
    refine ⟨v, ?_, hr⟩
    unfold L2.start
    have hi : i < vs.length := (List.getElem?_eq_some_iff.mp hv).1
    rw [List.getElem?_append_left (by simpa using hi), List.getElem?_map, hv]
    rfl
  dis := fun i j a x y hij hi hj ox oy _ _ => by
    obtain ⟨d, h1, h2⟩ := getL hi (by intro z; cases z)
    cases h2
    cases ox
section
variable {P : Program} {w : World} {K : PySem.W.Frag} {mg : MG} {base : Heap}
theorem okD {x qual : Str} {params : Arguments} {body : List Stmt} {scope : Scope} {dvs : List V} {kws : List (Str × V)} {f : Addr} {fd : FuncData} {N ps : List Str} {k n : Nat} {den : En → Fl} (F : FunD K x qual params body scope dvs kws f fd) (S : FnScope N ps scope) (hn : ps.length = n)
    (hb : ∀ (cdv : Value) (A : Around) (outer : List Env) (s : Shared) (H : Hp) (E : XK), Room k (A.deeper (PyProof.Rows.envOfC qual scope s.heap.objs.size f cdv)) → PSs (cxOf (L2.CX P w) P w K mg base N qual scope f cdv A outer s H E) body (tS K mg (fun cls d _ H => E cls d H) den)) :
    FnOk P w K mg base (L2.CX P w) (k + 1) f fd ps (spD K mg n (fnD N.length den)) := by
  refine F.ok S (fun vs H Q E h => ?_) (fun cdv A outer s H vs Q E hr h => ⟨_, hb cdv A outer s H E hr, ?_⟩)
  · obtain ⟨S', ds, _, hr, hl, _⟩ := h
    rw [hr.length, hl, hn]
  · obtain ⟨S', ds, hS, hr2, hl, h⟩ := h
    refine ⟨⟨S', H⟩, _, S', Rel.start hS hr2, ?_⟩
    unfold fnD at h
    cases q : den (ds.map (fun d => some (.d d)) ++ List.replicate (N.length - ds.length) none) with
    | nx ρ => rw [q] at h; exact fun σ S2 H2 s2 r => h .non S2 H2 r.fin .non
    | rt d => rw [q] at h; exact fun v S2 H2 e r => h v S2 H2 e r
    | ex c ρ => rw [q] at h; exact fun cls σ S2 H2 m s2 r => h cls S2 H2 m r.fin
    | bk ρ => rw [q] at h; exact h.elim
    | ct ρ => rw [q] at h; exact h.elim
    | no => rw [q] at h; exact h.elim
theorem FnAt.imp {x : Str} {k n : Nat} {Bs : List (List PD)} {g g' : List PD → R PD} (F : FnAt P w K mg base x k n Bs g) (h : ∀ ds, g' ds = .no ∨ g' ds = g ds) : FnAt P w K mg base x k n Bs g' := by
  obtain ⟨f, fd, ps, h1, h2, h3, h4⟩ := F.ex
  refine ⟨f, fd, ps, h1.imp fun vs H Q E q => ?_, h2, h3, h4⟩
  obtain ⟨S, ds, a, b, c, q⟩ := q
  refine ⟨S, ds, a, b, c, ?_⟩
  rcases h ds with e | e
  · rw [e] at q; exact q.elim
  · rw [e] at q; exact q
end
end DL

set_option Elab.async false
set_option linter.all false
set_option maxRecDepth 100000
set_option maxHeartbeats 4000000
set_option autoImplicit false
/-! the data layer 6: in, is None, chains; lists of one's own; keyword calls; targets of an assignment -/
namespace DL
open PySem L2

/-! ### in, not in -/
def flatD : PD → Bool
  | .none => true
  | .bool _ => true
  | .int _ => true
  | .str _ => true
  | _ => false
def inL (d : PD) (ds : List PD) : R Bool := if flatD d = true ∧ ds.all flatD = true then .ok (ds.any fun y => PyData.eqv y d) else
  if SeqAt.shaped d = true ∧ SeqAt.shaped (.list ds) = true then .ok (ds.any fun y => PyData.eqv y d) else .no
def gIn (neg : Bool) : PD → PD → R PD
  | d, .list ds => (inL d ds).bind fun b => .ok (.bool (b != neg))
  | d, .tuple ds => (inL d ds).bind fun b => .ok (.bool (b != neg))
  | .str x, .str z => .ok (.bool ((!(Builtin.Str.occurrences z x 0 z.length 1).isEmpty) != neg))
  | _, _ => .no
theorem noEx_in {neg : Bool} : NoEx (gIn neg) := fun a b c h => by
  have no : ∀ d ds c, inL d ds ≠ .ex c := fun d ds c h => by
    unfold inL at h
    split at h
    · cases h
    · split at h <;> cases h
  unfold gIn at h
  split at h
  · rename_i ds
    cases q : inL a ds with
    | ok b => rw [q] at h; cases h
    | ex c => exact no _ _ _ q
    | no => rw [q] at h; cases h
  · rename_i ds
    cases q : inL a ds with
    | ok b => rw [q] at h; cases h
    | ex c => exact no _ _ _ q
    | no => rw [q] at h; cases h
  · cases h
  · cases h
theorem flat_rp {K : PySem.W.Frag} {S : Hp} {v : V} {d : PD} (r : Rp K S v d) (h : flatD d = true) : flatV v = true := by
  cases r <;> first | rfl | cases h
theorem eqv_rp {K : PySem.W.Frag} {S : Hp} {v u : V} {d e : PD} (r : Rp K S v d) (r2 : Rp K S u e) (h : flatD d = true) (h2 : flatD e = true) : eqV v u = PyData.eqv d e := by
  cases r <;> first | (cases h; done) | (cases r2 <;> first | (cases h2; done) | simp only [eqV, PyData.eqv])
theorem flatA_rp {K : PySem.W.Frag} {S : Hp} : ∀ {ds : List PD} {vs : List V}, RpA K S vs ds → ds.all flatD = true → vs.all flatV = true
  | [], _, h, _ => by cases h; rfl
  | d :: ds, _, h, f => by
    cases h with
    | cons h1 h2 =>
      rw [List.all_cons, Bool.and_eq_true] at f ⊢
      exact ⟨flat_rp h1 f.1, flatA_rp h2 f.2⟩
theorem inV_rp {K : PySem.W.Frag} {S : Hp} {v : V} {d : PD} (r : Rp K S v d) (hd : flatD d = true) : ∀ {ds : List PD} {vs : List V}, RpA K S vs ds → ds.all flatD = true → inV v vs = ds.any fun y => PyData.eqv y d
  | [], _, h, _ => by cases h; rfl
  | e :: ds, _, h, f => by
    cases h with
    | cons h1 h2 =>
      rw [List.all_cons, Bool.and_eq_true] at f
      have := inV_rp r hd h2 f.2
      unfold inV at this ⊢
      rw [List.any_cons, List.any_cons, eqv_rp h1 r f.1 hd, this]
section
variable {X : Cx}
def rInT (K : PySem.W.Frag) (neg : Bool) : R2 := fun x y H Q => ∃ d ds, Dp K H x d ∧ Dp K H y (.tuple ds) ∧ SeqAt.shaped d = true ∧ SeqAt.shaped (.list ds) = true ∧ Q (.bl ((ds.any fun z => PyData.eqv z d) != neg)) H
theorem op_inT (hu : X.A.units + 65 < cLine) : OpR X (compareOp .In) (rInT X.K false) := by
  intro pins s σ H x y v u Q I rx ry h
  obtain ⟨d, ds, hd, he, sd, se, q⟩ := h
  obtain ⟨as, r1⟩ := Dp.reads I d x v hd rx
  obtain ⟨bs, r2⟩ := Dp.reads I (.tuple ds) y u he ry
  refine SeqAt.in_tuple_reads r2 r1 (SeqAt.canLay_of_shaped se) (SeqAt.canLay_of_shaped sd) (PyProof.Rows.room_in_shaped sd hu) ⟨.bl _, H, I, rfl, ?_⟩
  simpa using q
theorem op_notInT (hu : X.A.units + 65 < cLine) : OpR X (compareOp .NotIn) (rInT X.K true) := by
  intro pins s σ H x y v u Q I rx ry h
  obtain ⟨d, ds, hd, he, sd, se, q⟩ := h
  obtain ⟨as, r1⟩ := Dp.reads I d x v hd rx
  obtain ⟨bs, r2⟩ := Dp.reads I (.tuple ds) y u he ry
  refine SeqAt.notIn_tuple_reads r2 r1 (SeqAt.canLay_of_shaped se) (SeqAt.canLay_of_shaped sd) (PyProof.Rows.room_in_shaped sd hu) ⟨.bl _, H, I, rfl, ?_⟩
  simpa using q
theorem inL_cases {d : PD} {ds : List PD} {b : Bool} (h : inL d ds = .ok b) : b = (ds.any fun y => PyData.eqv y d) ∧ ((flatD d = true ∧ ds.all flatD = true) ∨ (SeqAt.shaped d = true ∧ SeqAt.shaped (.list ds) = true)) := by
  unfold inL at h
  split at h
  · rename_i hf
    cases h
    exact ⟨rfl, .inl hf⟩
  · split at h
    · rename_i hf
      cases h
      exact ⟨rfl, .inr hf⟩
    · cases h
theorem od_in (hu : X.A.units + 65 < cLine) : OpD X (compareOp .In) (gIn false) := by
  refine OpD_of fun pins s σ H x y v u Q S a b d I rx ry hS ra rb q h => ?_
  unfold gIn at q
  split at q
  · rename_i ds
    cases e : inL a ds with
    | ok k =>
      rw [e] at q
      cases q
      obtain ⟨rfl, hc⟩ := inL_cases e
      cases rb with
      | lst h1 a1 =>
        rcases hc with ⟨f1, f2⟩ | ⟨f1, f2⟩
        · exact op_in_seq pins s σ H _ _ v u Q I rx ry ⟨_, _, rfl, .inl (Same.seq hS h1), flat_rp ra f1, flatA_rp a1 f2, by rw [if_neg Bool.false_ne_true, inV_rp ra f1 a1 f2]; exact h _ S H (Ext.refl hS) (by simpa using Rp.bl _)⟩
        · exact op_inD hu pins s σ H _ _ v u Q I rx ry ⟨_, _, Rp.dp _ _ (Rp.mono hS _ _ ra), Rp.dp _ _ (Rp.mono hS _ _ (.lst h1 a1)), f1, f2, h _ S H (Ext.refl hS) (by simpa using Rp.bl _)⟩
    | ex c => rw [e] at q; cases q
    | no => rw [e] at q; cases q
  · rename_i ds
    cases e : inL a ds with
    | ok k =>
      rw [e] at q
      cases q
      obtain ⟨rfl, hc⟩ := inL_cases e
      cases rb with
      | tup h1 a1 =>
        rcases hc with ⟨f1, f2⟩ | ⟨f1, f2⟩
        · exact op_in_seq pins s σ H _ _ v u Q I rx ry ⟨_, _, rfl, .inr (Same.seqT hS h1), flat_rp ra f1, flatA_rp a1 f2, by rw [if_neg Bool.false_ne_true, inV_rp ra f1 a1 f2]; exact h _ S H (Ext.refl hS) (by simpa using Rp.bl _)⟩
        · exact op_inT hu pins s σ H _ _ v u Q I rx ry ⟨_, _, Rp.dp _ _ (Rp.mono hS _ _ ra), Rp.dp _ _ (Rp.mono hS _ _ (.tup h1 a1)), f1, f2, h _ S H (Ext.refl hS) (.bl _)⟩
    | ex c => rw [e] at q; cases q
    | no => rw [e] at q; cases q
  · cases ra
    cases rb
    cases q
    exact op_in_str pins s σ H _ _ v u Q I rx ry ⟨_, _, rfl, rfl, h _ S H (Ext.refl hS) (by simpa using Rp.bl _)⟩
  · cases q
theorem od_notin (hu : X.A.units + 65 < cLine) : OpD X (compareOp .NotIn) (gIn true) := by
  refine OpD_of fun pins s σ H x y v u Q S a b d I rx ry hS ra rb q h => ?_
  unfold gIn at q
  split at q
  · rename_i ds
    cases e : inL a ds with
    | ok k =>
      rw [e] at q
      cases q
      obtain ⟨rfl, hc⟩ := inL_cases e
      cases rb with
      | lst h1 a1 =>
        rcases hc with ⟨f1, f2⟩ | ⟨f1, f2⟩
        · exact op_notIn_seq pins s σ H _ _ v u Q I rx ry ⟨_, _, rfl, .inl (Same.seq hS h1), flat_rp ra f1, flatA_rp a1 f2, by rw [if_pos rfl, inV_rp ra f1 a1 f2]; exact h _ S H (Ext.refl hS) (by simpa using Rp.bl _)⟩
        · exact op_notInD hu pins s σ H _ _ v u Q I rx ry ⟨_, _, Rp.dp _ _ (Rp.mono hS _ _ ra), Rp.dp _ _ (Rp.mono hS _ _ (.lst h1 a1)), f1, f2, h _ S H (Ext.refl hS) (by simpa using Rp.bl _)⟩
    | ex c => rw [e] at q; cases q
    | no => rw [e] at q; cases q
  · rename_i ds
    cases e : inL a ds with
    | ok k =>
      rw [e] at q
      cases q
      obtain ⟨rfl, hc⟩ := inL_cases e
      cases rb with
      | tup h1 a1 =>
        rcases hc with ⟨f1, f2⟩ | ⟨f1, f2⟩
        · exact op_notIn_seq pins s σ H _ _ v u Q I rx ry ⟨_, _, rfl, .inr (Same.seqT hS h1), flat_rp ra f1, flatA_rp a1 f2, by rw [if_pos rfl, inV_rp ra f1 a1 f2]; exact h _ S H (Ext.refl hS) (by simpa using Rp.bl _)⟩
        · exact op_notInT hu pins s σ H _ _ v u Q I rx ry ⟨_, _, Rp.dp _ _ (Rp.mono hS _ _ ra), Rp.dp _ _ (Rp.mono hS _ _ (.tup h1 a1)), f1, f2, h _ S H (Ext.refl hS) (.bl _)⟩
    | ex c => rw [e] at q; cases q
    | no => rw [e] at q; cases q
  · cases ra
    cases rb
    cases q
    exact op_notIn_str pins s σ H _ _ v u Q I rx ry ⟨_, _, rfl, rfl, h _ S H (Ext.refl hS) (by simpa using Rp.bl _)⟩
  · cases q
end

/-! ### is None; chains -/
def isNone : PD → Bool
  | .none => true
  | _ => false
def gIsN (neg : Bool) (d : PD) : R PD := .ok (.bool (isNone d != neg))
theorem isN_rp {K : PySem.W.Frag} {S : Hp} {v : V} {d : PD} (r : Rp K S v d) : decide (v = .non) = isNone d := by
  cases r with
  | non => simp [isNone]
  | bl b => simp [isNone]
  | int i => simp [isNone]
  | str x => simp [isNone]
  | lst _ _ => simp [isNone]
  | tup _ _ => simp [isNone]
section
variable {X : Cx} {W : WX} {f f1 f2 f3 : En → R PD} {a b c e : Expr} {pos pos' p : Pos} {j : Nat}
theorem tIsN_of : ∀ σ H Q, tD X.K X.mg W (d1 (gIsN false) f) σ H Q → tIsN (tD X.K X.mg W f) σ H Q := fun σ H Q ⟨G, ρ, S, rel, h⟩ => by
  refine tG.mk rel (wG.imp ?_ (wG.bind (rp := Rp X.K) h))
  rintro v H1 ⟨S1, d, e1, ra, h1⟩
  rw [isN_rp ra]
  exact h1 _ S1 H1 (Ext.refl e1.inn) (by simpa using Rp.bl _)
theorem tNotN_of : ∀ σ H Q, tD X.K X.mg W (d1 (gIsN true) f) σ H Q → tNotN (tD X.K X.mg W f) σ H Q := fun σ H Q ⟨G, ρ, S, rel, h⟩ => by
  refine tG.mk rel (wG.imp ?_ (wG.bind (rp := Rp X.K) h))
  rintro v H1 ⟨S1, d, e1, ra, h1⟩
  rw [isN_rp ra]
  exact h1 _ S1 H1 (Ext.refl e1.inn) (by simpa using Rp.bl _)
theorem pd_isN (ha : PE X a (tD X.K X.mg W f)) : PE X (.Compare a [.Is] [.Constant .none j pos'] pos) (tD X.K X.mg W (d1 (gIsN false) f)) := PEimp (pe_cmp (pc_isN ha)) tIsN_of
theorem pd_notN (ha : PE X a (tD X.K X.mg W f)) : PE X (.Compare a [.IsNot] [.Constant .none j pos'] pos) (tD X.K X.mg W (d1 (gIsN true) f)) := PEimp (pe_cmp (pc_notN ha)) tNotN_of
theorem pt_isN (ha : PE X a (tD X.K X.mg W f)) : PT X (.Compare a [.Is] [.Constant .none j pos'] pos) (tDT X.K X.mg W (dT (d1 (gIsN false) f))) := PTimp (pt_cmp (pc_isN ha)) (dT_of tIsN_of)
theorem pt_notN (ha : PE X a (tD X.K X.mg W f)) : PT X (.Compare a [.IsNot] [.Constant .none j pos'] pos) (tDT X.K X.mg W (dT (d1 (gIsN true) f))) := PTimp (pt_cmp (pc_notN ha)) (dT_of tNotN_of)
/-- a op b op c -/
def dCh (g g' : PD → PD → R PD) (f1 f2 f3 : En → R PD) : En → R PD := fun ρ => (f1 ρ).bind fun a => (f2 ρ).bind fun b => (g a b).bind fun z => (toB z).bind fun k => if k = true then (f3 ρ).bind fun c => g' b c else .ok (.bool false)
theorem tChain_of {op op' : CmpOp} {g g' : PD → PD → R PD} (hn : NoEx g) (hn' : NoEx g') : ∀ σ H Q, tD X.K X.mg W (dCh g g' f1 f2 f3) σ H Q → tChain (fun x y H Q => ∃ S a b, Same S H ∧ Rp X.K S x a ∧ Rp X.K S y b ∧ match g a b with
    | .ok d => ∀ v S' H', Ext S H S' H' → Rp X.K S' v d → Q v H'
    | _ => False) (fun x y H Q => ∃ S a b, Same S H ∧ Rp X.K S x a ∧ Rp X.K S y b ∧ match g' a b with
    | .ok d => ∀ v S' H', Ext S H S' H' → Rp X.K S' v d → Q v H'
    | _ => False) (tD X.K X.mg W f1) (tD X.K X.mg W f2) (tD X.K X.mg W f3) σ H Q := fun σ H Q ⟨G, ρ, S, rel, h⟩ => by
  refine tG.mk rel (wG.imp ?_ (wG.bind (rp := Rp X.K) h))
  rintro x H1 ⟨S1, a, e1, ra, h1⟩
  refine tG.mk (rel.ext e1) (wG.imp ?_ (wG.bind (rp := Rp X.K) h1))
  rintro y H2 ⟨S2, b, e2, rb, h2⟩
  refine ⟨S2, a, b, e2.inn, Rp.mono e2.sub _ _ ra, rb, ?_⟩
  cases q : g a b with
  | ok d =>
    rw [q] at h2
    intro z S3 H3 e3 rz
    have h3 := wG.mono e3 h2
    cases d with
    | bool k =>
      cases rz
      refine ⟨k, rfl, ?_⟩
      cases k with
      | true =>
        rw [if_pos rfl]
        have h4 : wG (Rp X.K) X.mg W σ S3 H3 Q ((f3 ρ).bind fun c => g' b c) := h3
        refine tG.mk (((rel.ext e1).ext e2).ext e3) (wG.imp ?_ (wG.bind (rp := Rp X.K) h4))
        rintro w H4 ⟨S4, c, e4, rc, h5⟩
        refine ⟨S4, b, c, e4.inn, Rp.mono (e3.sub.trans e4.sub) _ _ rb, rc, ?_⟩
        cases q2 : g' b c with
        | ok d => rw [q2] at h5; exact h5
        | ex c' => exact absurd q2 (hn' b c c')
        | no => rw [q2] at h5; exact h5
      | false =>
        rw [if_neg Bool.false_ne_true]
        exact h3 (.bl false) S3 H3 (Ext.refl e3.inn) (.bl false)
    | _ => exact h3.elim
  | ex c => exact absurd q (hn a b c)
  | no => rw [q] at h2; exact h2.elim
theorem pd_ch {op op' : CmpOp} {g g' : PD → PD → R PD} (ho : OpD X (compareOp op) g) (hn : NoEx g) (ho' : OpD X (compareOp op') g') (hn' : NoEx g') (ha : PE X a (tD X.K X.mg W f1)) (hb : PE X b (tD X.K X.mg W f2)) (hc : PE X c (tD X.K X.mg W f3))
    (hm : lastMarks [op, op'] [b, c] = false := by with_unfolding_all rfl) : PE X (.Compare a [op, op'] [b, c] pos) (tD X.K X.mg W (dCh g g' f1 f2 f3)) := PEimp (pe_chain ho ho' ha hb hc hm) (tChain_of (op := op) (op' := op') hn hn')
theorem pt_ch {op op' : CmpOp} {g g' : PD → PD → R PD} (ho : OpD X (compareOp op) g) (hn : NoEx g) (ho' : OpD X (compareOp op') g') (hn' : NoEx g') (ha : PE X a (tD X.K X.mg W f1)) (hb : PE X b (tD X.K X.mg W f2)) (hc : PE X c (tD X.K X.mg W f3))
    (hm : lastMarks [op, op'] [b, c] = false := by with_unfolding_all rfl) : PT X (.Compare a [op, op'] [b, c] pos) (tDT X.K X.mg W (dT (dCh g g' f1 f2 f3))) := PTimp (pt_chain ho ho' ha hb hc hm) (dT_of (tChain_of (op := op) (op' := op') hn hn'))
end

/-! ### tuple targets -/
def sAsg (tg : Tg) (f : En → R PD) : En → Fl := sE f fun d ρ => match tg.put d ρ with
  | some ρ' => .nx ρ'
  | none => .no
section
variable {X : Cx} {W : WX} {f : En → R PD} {tg e : Expr} {T : Tg} {pos : Pos}
theorem sd_asg (hg : PG X tg (gOf X.K T)) (he : PE X e (tD X.K X.mg W f)) (hs : swapsWithSole [tg] e pos.line X.env = pure false := by rfl) (hw : swappedStores [tg] e X.env = pure none := by rfl) (h1 : (assignEach [tg] X.env).map (·.2) = [assign tg X.env] := by rfl) : PS X (.Assign [tg] e pos) (tS X.K X.mg W (sAsg T f)) :=
  PSimp (ps_asg he hg hs hw h1) fun D σ H ⟨G, ρ, S, r, q⟩ => tG.mk r (wG.imp (fun v H1 ⟨S1, a, e1, ra, r1, q1⟩ => by
    cases z : T.put a ρ with
    | none => rw [z] at q1; exact q1.elim
    | some ρ' => rw [z] at q1; exact gOf_ok r1 ra z fun σ' r' _ => q1 σ' S1 H1 (Same.refl _) r') (wS.ofE (rp := Rp X.K) r q))
end

/-! ### lists of one's own -/
/-- an expression that makes a new list, held by no one -/
def tL (K : PySem.W.Frag) (mg : MG) (W : WX) (f : En → R (List PD)) : TE := fun σ H Q => ∃ G ρ S, Rel K G S σ ρ H ∧ match f ρ with
  | .ok ds => ∀ D S' H' xs, Ext S H S' H' → H D = none → S' D = none → H' D = some (.lst xs) → RpA K S' xs ds → Q (.ref D) H'
  | .ex c => ∀ cls S' H', mg c = some cls → Ext S H S' H' → W cls none σ H'
  | .no => False
def sSetL (i : Nat) (f : En → R (List PD)) : En → Fl := sE f fun ds ρ => .nx (ρ.set i (some (.l ds)))
theorem Rel.newO {K : PySem.W.Frag} {G : F} {S H S' H' : Hp} {σ : St} {ρ : En} {D : Addr} {x : SV} (r : Rel K G S σ ρ H) (e : Ext S H S' H') (hD : H D = none) (hS : S' D = none) (hx : x.own = true) (ho : Own K S' H' D x) (i : Nat) : Rel K G S' (σ.set i (some (.ref D))) (ρ.set i (some x)) H' := by
  refine (r.ext e).setO hx hS (r.ent.free hD) ho (fun j y hj oy hs => ?_) i
  obtain ⟨v, h1, h2⟩ := r.slot j y hj
  rw [hs] at h1
  cases h1
  have go : (∃ a, (V.ref D) = .ref a ∧ S a = none ∧ G.H a = none ∧ Own K S H a y) → False := by
    rintro ⟨a, ea, _, _, o⟩
    cases ea
    obtain ⟨o', h'⟩ := o.some
    rw [hD] at h'; cases h'
  cases y with
  | d z => cases oy
  | l z => exact go h2
  | k z => exact go h2
section
variable {X : Cx} {W : WX} {f f1 f2 : En → R PD} {fl : En → R (List PD)} {e : Expr} {es : List Expr} {pos pos' : Pos} {x : Str} {g : En → Fl} {sts : List Stmt}
theorem sd_setL (i : Nat) (hN : X.N.Nodup) (hi : X.N[i]? = some x) (hx : Loc X.env.scope x) (he : PE X e (tL X.K X.mg W fl)) (hs : swapsWith e (some (.Name x pos')) pos.line X.env = pure false := by rfl) (hf : X.fn x = true ∨ X.env.scope.names.lookup x = some .local := by first | exact .inl rfl | exact .inr rfl | assumption)
    (hw : swappedStores [.Name x pos'] e X.env = pure none := by rfl) :
    PS X (.Assign [.Name x pos'] e pos) (tS X.K X.mg W (sSetL i fl)) := PSimp (ps_asg he (pg_name hN hi hx hf) hs hw) fun D σ H ⟨G, ρ, S, r, q⟩ => by
  refine ⟨G, ρ, S, r, ?_⟩
  unfold sSetL sE at q
  cases z : fl ρ with
  | ok ds => rw [z] at q; exact fun D' S' H' xs e hD hS hH hr => q _ S' H' e.sub (r.newO (x := .l ds) e hD hS rfl ⟨xs, hH, hr⟩ i)
  | ex c => rw [z] at q; exact fun cls S' H' m e => q cls σ S' H' m e.sub (r.ext e)
  | no => rw [z] at q; exact q
/-- a display -/
def lDisp (fl : En → R (List PD)) : En → R (List PD) := fun ρ => (fl ρ).bind fun ds => if ds.length ≤ 1000 then .ok ds else .no
theorem pl_lst (h : PA X es (tDA X.K X.mg W fl)) : PE X (.List es pos) (tL X.K X.mg W (lDisp fl)) := PEimp (pe_lst h) fun σ H Q ⟨G, ρ, S, rel, q⟩ => by
  unfold lDisp at q
  refine tG.mk rel ?_
  cases z : fl ρ with
  | ok ds =>
    rw [z] at q
    intro xs S1 H1 e1 ra
    simp only [R.bind_ok] at q
    by_cases hl : ds.length ≤ 1000
    · rw [if_pos hl] at q
      refine ⟨by rw [ra.length]; exact le_line hl, fun p hp => ?_⟩
      have e2 := e1.trans (Ext.fresh (o := .lst xs) e1.inn hp)
      exact q p S1 _ xs e2 (e1.all.free hp) (e1.inn.free hp) upd_same ra
    · rw [if_neg hl] at q; exact q.elim
  | ex c => rw [z] at q; exact q
  | no => rw [z] at q; exact q
theorem pl_lc {elt tg iter : Expr} {ifs : List Expr} {scope : Scope} {it : En → R (List PD)} {T : Tg} {tt : En → R Bool} {te : En → R PD} (own : List (Str × Nat)) (hc : X.calm = true) (hN : X.N.Nodup) (hi : PI X tg iter (tI X.K X.mg W it)) (ok : BlkOk X.N X.env.scope scope own) (hT : ∀ i ∈ T.slots, i ∈ own.map (·.2))
    (hg : ∀ (s : Shared) (H : Hp) (C : Addr) (cl : List (Str × Addr)) (fp : List Addr), PG (X.blk s H scope (compEnvC scope cl C X.env) fp) tg (gOf X.K T)) (ht : ∀ (s : Shared) (H : Hp) (C : Addr) (cl : List (Str × Addr)) (fp : List Addr), PTs (X.blk s H scope (compEnvC scope cl C X.env) fp) ifs (tDT X.K X.mg W0 tt))
    (he : ∀ (s : Shared) (H : Hp) (C : Addr) (cl : List (Str × Addr)) (fp : List Addr), PE (X.blk s H scope (compEnvC scope cl C X.env) fp) elt (tD X.K X.mg W0 te)) (hs : ∀ x, foldedSetIterable iter X.env x = pure x := by intro _; rfl) :
    PE X (.ListComp elt [⟨tg, iter, ifs, 0⟩] scope pos) (tL X.K X.mg W (dLcL it T (own.map (·.2)) tt te)) := PEimp (pe_lc hc hN hi ok hg ht he hs) fun σ H Q ⟨G, ρ, S, rel, h⟩ => lc_of hT rel h
/-- list(e) -/
def lOf : PD → R (List PD)
  | .list ds => .ok ds
  | .tuple ds => .ok ds
  | _ => .no
def lList (f : En → R PD) : En → R (List PD) := fun ρ => (f ρ).bind lOf
theorem pl_of {p : Pos} (hm : X.mg "list" = none) (ha : PE X e (tD X.K X.mg W f)) (hg : Gl X "list" := by rfl) (hs : starEach [e] X.env = (false, eval e X.env) :: starEach [] X.env := by rfl) (hpl : (backTo pos (starEach [] X.env)).any (·.1) = false := by rfl) :
    PE X (.Call (.Name "list" p) [e] [] pos) (tL X.K X.mg W (lList f)) := PEimp (pe_callTy call_list_of hg hm (by decide +kernel) (pa_cons ha pa_nil hs) (by decide) (by decide) hs hpl) fun σ H Q ⟨G, ρ, S, rel, q⟩ => by
  unfold lList at q
  refine tG.mk rel ?_
  cases z : f ρ with
  | ok d =>
    rw [z] at q
    intro v S1 H1 e1 ra
    cases d with
    | list ds =>
      cases ra with
      | lst h1 a1 => exact ⟨_, _, rfl, .inl (Same.seq e1.inn h1), fun p hp => q p S1 _ _ (e1.trans (Ext.fresh e1.inn hp)) (e1.all.free hp) (e1.inn.free hp) upd_same a1⟩
    | tuple ds =>
      cases ra with
      | tup h1 a1 => exact ⟨_, _, rfl, .inr (Same.seqT e1.inn h1), fun p hp => q p S1 _ _ (e1.trans (Ext.fresh e1.inn hp)) (e1.all.free hp) (e1.inn.free hp) upd_same a1⟩
    | _ => exact q.elim
  | ex c => rw [z] at q; exact q
  | no => rw [z] at q; exact q
/-- it is known from here on -/
def sFrz (i : Nat) (g : En → Fl) : En → Fl := fun ρ => match ρ[i]? with
  | some (some (.l xs)) => g (ρ.set i (some (.d (.list xs))))
  | _ => g ρ
theorem Rel.known {K : PySem.W.Frag} {G : F} {S H : Hp} {σ : St} {ρ : En} {i : Nat} {ds : List PD} (r : Rel K G S σ ρ H) (hi : ρ[i]? = some (some (.l ds))) : ∃ a vs, σ[i]? = some (some (.ref a)) ∧ S a = none ∧ G.H a = none ∧ H a = some (.lst vs) ∧ RpA K S vs ds ∧ Rel K G (upd S a (.lst vs)) σ (ρ.set i (some (.d (.list ds)))) H := by
  obtain ⟨v, h1, a, rfl, hs, hg, vs, ha, hr⟩ := r.slot i _ hi
  refine ⟨a, vs, h1, hs, hg, ha, hr, ?_⟩
  have sub : Same S (upd S a (.lst vs)) := fun b o e => by rw [upd_ne (ne_of_none e hs)]; exact e
  refine ⟨by rw [List.length_set]; exact r.len, fun b o e => ?_, r.ent, r.entS.trans sub, fun b o e => ?_, fun j y hj => ?_, fun j k b y z hjk hj hk oy oz sj sk => ?_⟩
  · by_cases hb : b = a
    · subst hb; rw [upd_same] at e; cases e; exact ha
    · rw [upd_ne hb] at e; exact r.inn b o e
  · by_cases hb : b = a
    · subst hb; exact .inr hg
    · rw [upd_ne hb] at e; exact r.new b o e
  · by_cases e : i = j
    · subst e
      have hl : i < ρ.length := (List.getElem?_eq_some_iff.mp hi).1
      rw [List.getElem?_set_self hl] at hj
      cases hj
      exact ⟨_, h1, .lst (SqL.of upd_same) (RpA.mono sub _ _ hr)⟩
    · rw [List.getElem?_set_ne e] at hj
      obtain ⟨v, q1, q2⟩ := r.slot j y hj
      refine ⟨v, q1, ?_⟩
      have go : y.own = true → (∃ b, v = .ref b ∧ S b = none ∧ G.H b = none ∧ Own K S H b y) → ∃ b, v = .ref b ∧ upd S a (.lst vs) b = none ∧ G.H b = none ∧ Own K (upd S a (.lst vs)) H b y := by
        rintro oy ⟨b, rfl, z1, z2, z3⟩
        have ne : b ≠ a := fun z' => by
          subst z'
          exact r.dis i j b _ y e hi hj rfl oy h1 q1
        refine ⟨b, rfl, by rw [upd_ne ne]; exact z1, z2, ?_⟩
        cases y with
        | d y => exact z3
        | l ds => obtain ⟨us, w1, w2⟩ := z3; exact ⟨us, w1, RpA.mono sub _ _ w2⟩
        | k ds => obtain ⟨us, w1, w2⟩ := z3; exact ⟨us, w1, kvRel.mono sub w2⟩
      cases y with
      | d y => exact Rp.mono sub _ _ q2
      | l ds => exact go rfl q2
      | k ds => exact go rfl q2
  · by_cases e1 : i = j
    · subst e1
      have hl : i < ρ.length := (List.getElem?_eq_some_iff.mp hi).1
      rw [List.getElem?_set_self hl] at hj
      cases hj
      cases oy
    · by_cases e2 : i = k
      · subst e2
        have hl : i < ρ.length := (List.getElem?_eq_some_iff.mp hi).1
        rw [List.getElem?_set_self hl] at hk
        cases hk
        cases oz
      · rw [List.getElem?_set_ne e1] at hj
        rw [List.getElem?_set_ne e2] at hk
        exact r.dis j k b y z hjk hj hk oy oz sj sk
theorem sd_frz (i : Nat) (h : PSs X sts (tS X.K X.mg W g)) : PSs X sts (tS X.K X.mg W (sFrz i g)) := PSsimp h fun D σ H ⟨G, ρ, S, r, q⟩ => by
  unfold sFrz at q
  split at q
  · rename_i xs e
    obtain ⟨a, vs, h1, h2, h3, h4, h5, h6⟩ := r.known e
    refine ⟨G, _, _, h6, q.mono fun b o e => ?_⟩
    rw [upd_ne (ne_of_none e h2)]; exact e
  · exact ⟨G, ρ, S, r, q⟩
/-- an expression that looks at a list of one's own, its value no list or tuple -/
def atomD : PD → R PD
  | .none => .ok .none
  | .bool b => .ok (.bool b)
  | .int i => .ok (.int i)
  | .str x => .ok (.str x)
  | _ => .no
def dLend (i : Nat) (f : En → R PD) : En → R PD := fun ρ => match ρ[i]? with
  | some (some (.l xs)) => (f (ρ.set i (some (.d (.list xs))))).bind atomD
  | _ => f ρ
def dLendB (i : Nat) (f : En → R Bool) : En → R Bool := fun ρ => match ρ[i]? with
  | some (some (.l xs)) => f (ρ.set i (some (.d (.list xs))))
  | _ => f ρ
theorem pd_lend (i : Nat) (h : PE X e (tD X.K X.mg W f)) : PE X e (tD X.K X.mg W (dLend i f)) := PEimp h fun σ H Q ⟨G, ρ, S, r, q⟩ => by
  unfold dLend at q
  split at q
  · rename_i xs e
    obtain ⟨a, vs, h1, h2, h3, h4, h5, h6⟩ := r.known e
    refine tG.mk h6 ?_
    cases z : f (ρ.set i (some (.d (.list xs)))) with
    | ok d =>
      rw [z] at q
      intro v S' H' e' ra
      cases d with
      | none => cases ra; exact q _ S H' (Ext.grow r.inn e'.all) .non
      | bool b => cases ra; exact q _ S H' (Ext.grow r.inn e'.all) (.bl b)
      | int b => cases ra; exact q _ S H' (Ext.grow r.inn e'.all) (.int b)
      | str b => cases ra; exact q _ S H' (Ext.grow r.inn e'.all) (.str b)
      | _ => exact q.elim
    | ex c => rw [z] at q; exact fun cls S' H' m e' => q cls S H' m (Ext.grow r.inn e'.all)
    | no => rw [z] at q; exact q
  · exact ⟨G, ρ, S, r, q⟩
theorem pt_lend {t : En → R Bool} (i : Nat) (h : PT X e (tDT X.K X.mg W t)) : PT X e (tDT X.K X.mg W (dLendB i t)) := PTimp h fun σ H Q ⟨G, ρ, S, r, q⟩ => by
  unfold dLendB at q
  split at q
  · rename_i xs e
    obtain ⟨a, vs, h1, h2, h3, h4, h5, h6⟩ := r.known e
    refine tG.mk h6 ?_
    cases z : t (ρ.set i (some (.d (.list xs)))) with
    | ok d => rw [z] at q; exact fun v S' H' e' ra => q v S H' (Ext.grow r.inn e'.all) ra
    | ex c => rw [z] at q; exact fun cls S' H' m e' => q cls S H' m (Ext.grow r.inn e'.all)
    | no => rw [z] at q; exact q
  · exact ⟨G, ρ, S, r, q⟩
/-- its item -/
def dIxO (i : Nat) (f : En → R PD) : En → R PD := fun ρ => match ρ[i]? with
  | some (some (.l xs)) => (f ρ).bind fun d => match d with
    | .int k => (match atI xs k with
      | some d => .ok d
      | none => .no)
    | _ => .no
  | some (some (.d d)) => (f ρ).bind fun k => gIx d k
  | _ => .no
theorem pd_ixO (i : Nat) {p : Pos} (hb : PE X e (tD X.K X.mg W f)) (hN : X.N[i]? = some x := by rfl) (hv : Vis X.env.scope x := by first | exact Or.inl rfl | exact Or.inr (Or.inl rfl) | exact Or.inr (Or.inr rfl)) (hd : (x == ("__debug__" : Str)) = false := by decide)
    (hcd : (x == ("__classdict__" : Str)) = false := by decide) (hs : PlainIx e := by exact fun _ _ => rfl) : PE X (.Subscript (.Name x p) e pos) (tD X.K X.mg W (dIxO i f)) := PEimp (pe_ix (ix_seq (X := X)) (pe_var hN hv hd hcd) hb hs) fun σ H Q ⟨G, ρ, S, r, q⟩ => by
  unfold dIxO at q
  split at q
  · rename_i xs e
    obtain ⟨a, vs, h1, h2, h3, h4, h5, h6⟩ := r.known e
    refine ⟨_, h1, tG.mk r (wG.imp ?_ (wG.bind (rp := Rp X.K) q))⟩
    rintro v H1 ⟨S1, d, e1, ra, q1⟩
    cases d with
    | int k =>
      cases ra
      dsimp only at q1
      split at q1
      · rename_i d e
        obtain ⟨v, hv, hr⟩ := atI_rp h5 e
        exact .inl ⟨_, _, _, v, rfl, rfl, SqL.of (e1.all _ _ h4), hv, q1 v S1 H1 (Ext.refl e1.inn) (Rp.mono e1.sub _ _ hr)⟩
      · exact q1.elim
    | _ => exact q1.elim
  · rename_i d e
    have hq : tD X.K X.mg W (d2 gIx (dV i) f) σ H Q := ⟨G, ρ, S, r, by
      unfold d2 dV
      rw [e]
      exact q⟩
    obtain ⟨v, h1, h2⟩ := r.slot i _ e
    refine ⟨v, h1, tG.mk r (wG.imp ?_ (wG.bind (rp := Rp X.K) q))⟩
    rintro w H1 ⟨S1, k, e1, rk, q1⟩
    have h3 := Rp.mono e1.sub _ _ h2
    cases z : gIx d k with
    | ok y =>
      rw [z] at q1
      unfold gIx at z
      split at z
      · cases rk
        cases h3 with
        | lst s1 a1 =>
          split at z
          · rename_i d e
            cases z
            obtain ⟨v, hv, hr⟩ := atI_rp a1 e
            exact .inl ⟨_, _, _, v, rfl, rfl, Same.seq e1.inn s1, hv, q1 v S1 H1 (Ext.refl e1.inn) hr⟩
          · cases z
      · cases rk
        cases h3 with
        | tup s1 a1 =>
          split at z
          · rename_i d e
            cases z
            obtain ⟨v, hv, hr⟩ := atI_rp a1 e
            exact .inr (.inl ⟨_, _, _, v, rfl, rfl, Same.seqT e1.inn s1, hv, q1 v S1 H1 (Ext.refl e1.inn) hr⟩)
          · cases z
      · cases rk
        cases h3
        split at z
        · rename_i hl
          split at z
          · rename_i c e
            cases z
            exact .inr (.inr ⟨_, _, c, rfl, rfl, hl, e, q1 _ S1 H1 (Ext.refl e1.inn) (.str _)⟩)
          · cases z
        · cases z
      · cases z
    | ex c => exact absurd z (noEx_ix _ _ _)
    | no => rw [z] at q1; exact q1.elim
  · exact q.elim
/-- x.append(e) -/
def sApp (i : Nat) (f : En → R PD) : En → Fl := fun ρ => match ρ[i]? with
  | some (some (.l xs)) => sE f (fun d ρ => if xs.length < 16777216 then .nx (ρ.set i (some (.l (xs ++ [d])))) else .no) ρ
  | _ => .no
theorem sd_app (i : Nat) {p apos cpos : Pos} (hb : PE X e (tD X.K X.mg W f)) (hN : X.N[i]? = some x := by rfl) (hv : Vis X.env.scope x := by first | exact Or.inl rfl | exact Or.inr (Or.inl rfl) | exact Or.inr (Or.inr rfl)) (hd : (x == ("__debug__" : Str)) = false := by decide)
    (hcd : (x == ("__classdict__" : Str)) = false := by decide) (hse : starEach [e] X.env = (false, eval e X.env) :: starEach [] X.env := by rfl)
    (hbase : attributeBase (.Name x p) "append" X.env (eval (.Name x p) X.env) = eval (.Name x p) X.env := by rfl)
    (hfew : ((backTo cpos (starEach [e] X.env)).all (fun x => !x.1) && (backToKw cpos (keywordEach [] X.env)).all (fun x => x.1.isSome)
      && decide (([e] : List Expr).length + ([] : List Keyword).length + (if ([] : List Keyword).isEmpty then 0 else 1) < 30)) = true := by rfl)
    (hline : (apos.endLine == cpos.line) = true := by rfl) (hplain : (backTo cpos (starEach [] X.env)).any (·.1) = false := by rfl) (hsw : swapsWith (.Call (.Attribute (.Name x p) "append" apos) [e] [] cpos) none pos.line X.env = pure false := by rfl) :
    PS X (.Expr (.Call (.Attribute (.Name x p) "append" apos) [e] [] cpos) pos) (tS X.K X.mg W (sApp i f)) :=
  PSimp (ps_expr (pe_bm PySem.F.plainAttrs_list PySem.F.slot_list_append PySem.F.type_list_append mt_append (pe_var hN hv hd hcd) (pa_cons hb pa_nil hse) hbase hfew hline hse hplain) hsw) fun D σ H ⟨G, ρ, S, r, q⟩ => by
    unfold sApp at q
    split at q
    · rename_i xs e
      obtain ⟨a, vs, h1, h2, h3, h4, h5, h6⟩ := r.known e
      refine ⟨_, h1, .inl ⟨rfl, _, SqL.of h4⟩, tG.mk r (wG.imp ?_ (wS.ofE (rp := Rp X.K) r q))⟩
      rintro v H1 ⟨S1, d, e1, ra, r1, q1⟩
      by_cases hl : xs.length < 16777216
      · rw [if_pos hl] at q1
        refine ⟨a, vs, v, rfl, rfl, e1.all _ _ h4, by rw [h5.length]; exact hl, q1 σ S1 _ (Same.refl _) ?_⟩
        have hS1 : S1 a = none := by
          cases z : S1 a with
          | none => rfl
          | some o =>
            rcases e1.new a o z with w | w
            · rw [h2] at w; cases w
            · rw [h4] at w; cases w
        exact r1.change e rfl rfl h1 hS1 h3 ⟨_, upd_same, (RpA.mono e1.sub _ _ h5).snoc ra⟩
      · rw [if_neg hl] at q1; exact q1.elim
    · exact q.elim
end
end DL

set_option Elab.async false
set_option linter.all false
set_option maxRecDepth 100000
set_option maxHeartbeats 4000000
set_option autoImplicit false
/-! the data layer 7: a comprehension given to a name; keyword calls; the end of a law -/
namespace DL
open PySem L2
theorem lcKnown {K : PySem.W.Frag} {S H S' H' : Hp} {D : Addr} {xs : List V} {ds : List PD} (e : Ext S H S' H') (hD : H D = none) (hS : S' D = none) (hH : H' D = some (.lst xs)) (hr : RpA K S' xs ds) : Ext S H (upd S' D (.lst xs)) H' ∧ Rp K (upd S' D (.lst xs)) (.ref D) (.list ds) := by
  have e2 : Ext S H (upd S' D (.lst xs)) H' := ⟨fun a o z => by rw [upd_ne (ne_of_none (e.sub _ _ z) hS)]; exact e.sub _ _ z, e.all, fun a o z => by
    by_cases ha : a = D
    · subst ha; rw [upd_same] at z; rw [hH]; exact z
    · rw [upd_ne ha] at z; exact e.inn a o z, fun a o z => by
    by_cases ha : a = D
    · subst ha; exact .inr hD
    · rw [upd_ne ha] at z; exact e.new a o z⟩
  refine ⟨e2, .lst (SqL.of upd_same) (RpA.mono (fun a o z => ?_) _ _ hr)⟩
  rw [upd_ne (ne_of_none z hS)]; exact z
section
variable {X : Cx} {W : WX} {elt tg iter : Expr} {ifs : List Expr} {scope : Scope} {pos spos py : Pos} {it : En → R (List PD)} {T : Tg} {tt : En → R Bool} {te : En → R PD} {y : Str}
theorem sd_setLc (i : Nat) (own : List (Str × Nat)) (hc : X.calm = true) (hN : X.N.Nodup) (hy : X.N[i]? = some y) (hyl : X.env.scope.names.lookup y = some .local)
    (hsw : swapsWith (.ListComp elt [⟨tg, iter, ifs, 0⟩] scope pos) (some (.Name y py)) spos.line X.env = pure true) (hi : PI X tg iter (tI X.K X.mg W it)) (ok : BlkOk X.N X.env.scope scope own) (hT : ∀ i ∈ T.slots, i ∈ own.map (·.2))
    (hg : ∀ (s : Shared) (H : Hp) (C : Addr) (cl : List (Str × Addr)) (fp : List Addr), PG (X.blk s H scope (compEnvC scope cl C X.env) fp) tg (gOf X.K T)) (ht : ∀ (s : Shared) (H : Hp) (C : Addr) (cl : List (Str × Addr)) (fp : List Addr), PTs (X.blk s H scope (compEnvC scope cl C X.env) fp) ifs (tDT X.K X.mg W0 tt))
    (he : ∀ (s : Shared) (H : Hp) (C : Addr) (cl : List (Str × Addr)) (fp : List Addr), PE (X.blk s H scope (compEnvC scope cl C X.env) fp) elt (tD X.K X.mg W0 te)) (hs : ∀ x, foldedSetIterable iter X.env x = pure x := by intro _; rfl) :
    PS X (.Assign [.Name y py] (.ListComp elt [⟨tg, iter, ifs, 0⟩] scope pos) spos) (tS X.K X.mg W (sSet i (dLc it T (own.map (·.2)) tt te))) := PSimp (ps_setLc hc hN hy hyl hsw hi ok hg ht he hs) fun D σ H ⟨G, ρ, S, r, q⟩ => by
  refine lc_of hT r ?_
  unfold sSet sE dLc at q
  cases z : dLcL it T (own.map (·.2)) tt te ρ with
  | ok ds =>
    rw [z] at q
    intro D' S' H' xs e hD hS hH hr
    have k := lcKnown e hD hS hH hr
    exact q _ _ H' k.1.sub ((r.ext k.1).setD k.2 i)
  | ex c => rw [z] at q; exact fun cls S' H' m e => q cls σ S' H' m e.sub (r.ext e)
  | no => rw [z] at q; exact q
theorem sd_setLcO (i : Nat) (own : List (Str × Nat)) (hc : X.calm = true) (hN : X.N.Nodup) (hy : X.N[i]? = some y) (hyl : X.env.scope.names.lookup y = some .local)
    (hsw : swapsWith (.ListComp elt [⟨tg, iter, ifs, 0⟩] scope pos) (some (.Name y py)) spos.line X.env = pure true) (hi : PI X tg iter (tI X.K X.mg W it)) (ok : BlkOk X.N X.env.scope scope own) (hT : ∀ i ∈ T.slots, i ∈ own.map (·.2))
    (hg : ∀ (s : Shared) (H : Hp) (C : Addr) (cl : List (Str × Addr)) (fp : List Addr), PG (X.blk s H scope (compEnvC scope cl C X.env) fp) tg (gOf X.K T)) (ht : ∀ (s : Shared) (H : Hp) (C : Addr) (cl : List (Str × Addr)) (fp : List Addr), PTs (X.blk s H scope (compEnvC scope cl C X.env) fp) ifs (tDT X.K X.mg W0 tt))
    (he : ∀ (s : Shared) (H : Hp) (C : Addr) (cl : List (Str × Addr)) (fp : List Addr), PE (X.blk s H scope (compEnvC scope cl C X.env) fp) elt (tD X.K X.mg W0 te)) (hs : ∀ x, foldedSetIterable iter X.env x = pure x := by intro _; rfl) :
    PS X (.Assign [.Name y py] (.ListComp elt [⟨tg, iter, ifs, 0⟩] scope pos) spos) (tS X.K X.mg W (sSetL i (dLcL it T (own.map (·.2)) tt te))) := PSimp (ps_setLc hc hN hy hyl hsw hi ok hg ht he hs) fun D σ H ⟨G, ρ, S, r, q⟩ => by
  refine lc_of hT r ?_
  unfold sSetL sE at q
  cases z : dLcL it T (own.map (·.2)) tt te ρ with
  | ok ds =>
    rw [z] at q
    exact fun D' S' H' xs e hD hS hH hr => q _ S' H' e.sub (r.newO (x := .l ds) e hD hS rfl ⟨xs, hH, hr⟩ i)
  | ex c => rw [z] at q; exact fun cls S' H' m e => q cls σ S' H' m e.sub (r.ext e)
  | no => rw [z] at q; exact q
end

/-! ### f(e, .., k = v, ..) -/
theorem KBn.mk1 {K : PySem.W.Frag} {x qual : Str} {params : Arguments} {body : List Stmt} {scope : Scope} {dvs : List V} {kws : List (Str × V)} {f : Addr} {fd : FuncData} {ps : List Str} (Fn : FunD K x qual params body scope dvs kws f fd) (n : Nat) (ks : List Str) (g : {α : Type} → List α → List α → List α → List α) (hd : dvs ≠ [])
    (hrel : ∀ {vs ds zs : List V} {us its ws : List Value}, Vals vs us → Vals ds its → Vals zs ws → Vals (g vs ds zs) (g us its ws))
    (h : ∀ (T : Addr) (kV doc pm : Value) (an : Option Addr) (cdv ct : Value) (us its ws : List Value), us.length = n → its.length = dvs.length → ws.length = ks.length →
      ∃ k, bindArgs (PySem.W.fnOf x qual params body scope (.ref T) kV doc pm an cdv ct) ⟨us, ks.zip ws⟩ = seqItems? (.ref T) >>= k ∧ k (some its.toArray) = pure (ps.zip (g us its ws))) :
    ∃ its : List Value, KBn K fd ps n ks (fun us ws => g us its ws) (fun vs zs => g vs dvs zs) := by
  obtain ⟨oc, od, dV, kV, doc, pm, an, cdv, ct, osl, rfl, lk, hcd, hD, hK⟩ := Fn.ex
  rcases hD with ⟨e, _⟩ | ⟨_, T, o, its, m, rfl, lT, oT, rT⟩
  · exact absurd e hd
  · refine ⟨its, ⟨fun s us ws X l1 l2 => ?_, fun r1 r2 => hrel r1 rT r2⟩⟩
    obtain ⟨k, e1, e2⟩ := h T kV doc pm an cdv ct us its ws l1 rT.length.symm l2
    refine BindsTo.of_looks fun M => ?_
    rw [e1]
    exact looks_items X lT oT (.of_pure e2)
/-- called by np positional values and keywords ks: arr puts them (data) in the parameters' order -/
structure KwAt (P : Program) (w : World) (K : PySem.W.Frag) (mg : MG) (base : Heap) (x : Str) (k n : Nat) (np : Nat) (ks : List Str) (arr : List PD → List PD → List PD) (g : List PD → R PD) : Prop where
  ex : ∃ (f : Addr) (fd : FuncData) (ps : List Str) (gv : List Value → List Value → List Value) (gV : List V → List V → List V), FnOk P w K mg base (L2.CX P w) k f fd ps (spD K mg n g) ∧ mg x = some (.ref f) ∧ PySem.W.keepIn K (.ref f) = true ∧ KBn K fd ps np ks gv gV ∧
    ∀ S vs zs ds es, RpA K S vs ds → RpA K S zs es → RpA K S (gV vs zs) (arr ds es)
def gKw (n np nk : Nat) (arr : List PD → List PD → List PD) (g : List PD → R PD) (as bs : List PD) : R PD := if as.length = np ∧ bs.length = nk ∧ (arr as bs).length = n then g (arr as bs) else .no
def dKw (g : List PD → List PD → R PD) (f1 f2 : En → R (List PD)) : En → R PD := fun ρ => (f1 ρ).bind fun as => (f2 ρ).bind fun bs => g as bs
theorem passL' {X : Cx} {W : WX} {E : XK} (tk : Takes X W) (h : ∀ cls d σ H, E cls d H → W cls d σ H) : Passes (L2.CX X.prog X.w) X E := fun pins σ H s e s' I c => passes_call tk h pins σ H s e s' I c
section
variable {X : Cx} {fs gs : En → R (List PD)} {e : Expr} {es : List Expr} {kws : List Keyword} {pos p kpos : Pos} {x : Str} {k n np : Nat} {ks : List Str} {arr : List PD → List PD → List PD} {g : List PD → R PD} {E : XK} {nm : Option Str} {f : En → R PD} {W : WX}
abbrev tDK := @tDA
theorem PKimp {kws : List Keyword} {t t' : TA} (h : PK X kws t) (i : ∀ σ H Q, t' σ H Q → t σ H Q) : PK X kws t' := ⟨fun pos pins s σ H Q I q => h.run pos pins s σ H Q I (i σ H Q q)⟩
theorem pkd_nil : PK X [] (tDA X.K X.mg W dNil) := PKimp pk_nil fun σ H Q ⟨G, ρ, S, r, h⟩ => h [] S H (Ext.refl r.inn) .nil
theorem pkd_cons (ha : PE X e (tD X.K X.mg W f)) (hr : PK X kws (tDA X.K X.mg W fs)) : PK X (⟨nm, e, kpos⟩ :: kws) (tDA X.K X.mg W (dCons f fs)) :=
  PKimp (pk_cons ha hr) fun σ H Q ⟨G, ρ, S, rel, h⟩ => by
    refine tG.mk rel (wG.imp ?_ (wG.bind (rp := Rp X.K) h))
    rintro x H1 ⟨S1, a, e1, ra, h1⟩
    refine tG.mk (rel.ext e1) (wG.imp ?_ (wG.bind (rp := RpA X.K) h1))
    rintro xs H2 ⟨S2, as, e2, ras, h2⟩
    exact h2 (x :: xs) S2 H2 (Ext.refl e2.inn) (.cons (Rp.mono e2.sub _ _ ra) ras)
/-- W hangs not on the slots here (a def's own body) -/
theorem pd_kw (Fn : KwAt X.prog X.w X.K X.mg X.base x k n np ks arr g) (hr : Room k X.A) (tk : Takes X (fun cls d _ H => E cls d H)) (ha : PA X (e :: es) (tDA X.K X.mg (fun cls d _ H => E cls d H) fs)) (hkw : PK X kws (tDA X.K X.mg (fun cls d _ H => E cls d H) gs)) (hg : Gl X x := by rfl)
    (hall : (backToKw pos (keywordEach kws X.env)).all (·.1.isSome) = true := by rfl) (hks : (backToKw pos (keywordEach kws X.env)).filterMap (·.1) = ks := by rfl)
    (hdb : (x == ("__debug__" : Str)) = false := by decide) (he : starEach (e :: es) X.env = (false, eval e X.env) :: starEach es X.env := by rfl)
    (hpl : ((backTo pos (starEach (e :: es) X.env)).any (·.1) || (backToKw pos (keywordEach kws X.env)).any (·.1.isNone)) = false := by rfl) {nk : Nat} (hnk : ks.length = nk := by rfl) :
    PE X (.Call (.Name x p) (e :: es) kws pos) (tD X.K X.mg (fun cls d _ H => E cls d H) (dKw (gKw n np nk arr g) fs gs)) := by
  subst hnk
  obtain ⟨f, fd, ps, gv, gV, hF, hm, hk, hb, hR⟩ := Fn.ex
  refine PEimp (pe_callN hF hr hg hm hk hb (E := E) (passL' tk fun _ _ _ _ h => h) ha hkw hall hks hdb he hpl) ?_
  rintro σ H Q ⟨G, ρ, S, rel, h⟩
  refine tG.mk rel (wG.imp ?_ (wG.bind (rp := RpA X.K) h))
  rintro vs H1 ⟨S1, as, e1, ra, h1⟩
  refine tG.mk (rel.ext e1) (wG.imp ?_ (wG.bind (rp := RpA X.K) h1))
  rintro zs H2 ⟨S2, bs, e2, rb, h2⟩
  unfold gKw at h2
  by_cases hl : as.length = np ∧ bs.length = ks.length ∧ (arr as bs).length = n
  · rw [if_pos hl] at h2
    refine ⟨ra.length.trans hl.1, rb.length.trans hl.2.1, S2, _, e2.inn, hR S2 vs zs as bs (RpA.mono e2.sub _ _ ra) rb, hl.2.2, ?_⟩
    cases q : g (arr as bs) with
    | ok d => rw [q] at h2; exact h2
    | ex c => rw [q] at h2; exact h2
    | no => rw [q] at h2; exact h2
  · rw [if_neg hl] at h2; exact h2.elim
end

/-! ### the end of a law -/
theorem scr_rp {K : PySem.W.Frag} {S : Hp} : ∀ ns : List Int, RpA K S (ns.map V.int) (ns.map PyData.int)
  | [] => .nil
  | n :: ns => .cons (.int n) (scr_rp ns)
theorem walkD {l : PySem.W.OpenLaw} {n k : Nat} {q : Program} {loose : List Str} {XP : (Str → Option Value) → Heap → Prop} {YP : World → Heap → Prop} {d : DefRec} {x : Str} {g : List PD → R PD}
    (hn : l.most = some n) (hn2 : n ≤ sizeLine) (hdf : d.params.defaults = []) (hr : Room k PySem.callerA)
    (F : ∀ (w : World) (mg : Str → Option Value) (fa : Addr) (h : Heap), YP w h → h.Ns mainGlobals mg → mg d.name = some (.ref fa) →
      ∃ (K : PySem.W.Frag) (fd : FuncData), K.In h ∧ (∀ (s : Shared) (u : Value), BindsTo s fd ⟨[u], []⟩ [(x, u)]) ∧
        ∀ base : Heap, K.In base → base.Ns mainGlobals mg → FnOk l.prog w K mg base (L2.CX l.prog w) k fa fd [x] (spD K mg 1 g))
    (hg : ∀ ns : List Int, ns.length ≤ n → (∀ z ∈ ns, Builtin.Int.intBits z ≤ 1048576) → g [.list (ns.map PyData.int)] = .ok (.bool true)) :
    PySem.W.WalkO q loose XP YP l.row.toRowW d [] (fun f vs => PySem.call f vs) := by
  refine Att.attach_callB hn hdf fun w s₀ s₁ mg mb fa o pm cd doc a vs ns G Y ho hd hcd hmg hobj hints hlen hbits hgen => ?_
  obtain ⟨K, fd, KX, hb, hF⟩ := F w mg fa _ Y G.T.g hmg
  refine law_call KX G.T.g G.T.b G.T.builtins G.T.nolimit hgen hobj hints (Nat.le_trans hlen hn2) hr hF hb (fun H hO hS => ?_) fun H e s' z => ?_
  · refine ⟨H, [.list (ns.map PyData.int)], Same.refl _, .cons (.lst hS (scr_rp ns)) .nil, rfl, ?_⟩
    rw [hg ns hlen hbits]
    intro v S' H' _ r
    cases r
    rfl
  · obtain ⟨_, _, _, _, _, _, _, _, _, _, _, _, z⟩ := z
    exact z
end DL
namespace DL
open PySem L2
theorem mem0 {α : Type} {a : α} {l : List α} : a ∈ a :: l := List.mem_cons_self
theorem mem1 {α : Type} {a b : α} {l : List α} : b ∈ a :: b :: l := List.mem_cons_of_mem _ List.mem_cons_self
theorem mem2 {α : Type} {a b c : α} {l : List α} : c ∈ a :: b :: c :: l := List.mem_cons_of_mem _ (List.mem_cons_of_mem _ List.mem_cons_self)
theorem un65 {k : Nat} {A : Around} (r : Room k A) : A.units + 65 < cLine := by have := r.un; omega
end DL

set_option Elab.async false
set_option linter.all false
set_option maxRecDepth 100000
set_option maxHeartbeats 4000000
set_option autoImplicit false
/-! the data layer 8: ranges with a step, bit_length, a store into a list of one's own, str -/
namespace DL
open PySem L2
def rng3 (lo c : Int) (n : Nat) : List PD := (List.range n).map fun i => .int (lo + (i : Nat) * c)
def gR3 : List PD → R (List PD)
  | [.int i, .int j, .int c] => if c ≠ 0 ∧ c.natAbs < 1073741824 ∧ Builtin.Range.small i j c = true ∧ 0 ≤ Builtin.Range.rangeSize i j c then .ok (rng3 i c (Builtin.Range.rangeSize i j c).toNat) else .no
  | _ => .no
theorem itc_ok {K : PySem.W.Frag} {S : Hp} {lo c : Int} {n : Nat} : ItOk K S (Itc lo c n) (rng3 lo c n) := by
  intro S1 H1 s1 s2 i
  refine ⟨fun d hd => ?_, fun hl => by show n ≤ i; simpa [rng3] using hl⟩
  unfold rng3 at hd
  rw [List.getElem?_map] at hd
  by_cases h : i < n
  · rw [List.getElem?_range h] at hd
    cases hd
    exact ⟨h, fun x H2 ⟨e, y⟩ => by subst e y; exact ⟨S1, Ext.refl s2, .int _⟩⟩
  · rw [List.getElem?_eq_none (by simpa using h)] at hd
    cases hd
section
variable {X : Cx} {W : WX} {tg : Expr} {f f1 f2 : En → R PD} {fs : En → R (List PD)} {p pos apos : Pos} {e o : Expr} {x : Str}
theorem pi_r3 {a b c : Expr} (hg : Gl X "range") (hm : X.mg "range" = none) (ha : PA X [a, b, c] (tDA X.K X.mg W fs))
    (hs : starEach [a, b, c] X.env = (false, eval a X.env) :: starEach [b, c] X.env := by rfl) (hpl : (backTo pos (starEach [b, c] X.env)).any (·.1) = false := by rfl) : PI X tg (.Call (.Name "range" p) [a, b, c] [] pos) (tI X.K X.mg W (iA gR3 fs)) :=
  PIimp (pi_range3 hg hm ha hs hpl) fun σ H Q ⟨G, ρ, S, rel, h⟩ => by
    refine tG.mk rel (wG.imp ?_ (wG.bind (rp := RpA X.K) h))
    rintro xs H1 ⟨S1, as, e1, ra, h1⟩
    unfold gR3 at h1
    split at h1
    · rename_i i j c
      cases ra with
      | cons r1 r2 =>
        cases r2 with
        | cons r2 r3 =>
          cases r3 with
          | cons r3 r4 =>
            cases r4
            cases r1
            cases r2
            cases r3
            split at h1
            · rename_i hb
              refine ⟨i, j, c, _, rfl, ⟨hb.1, hb.2.1, hb.2.2.1, ?_⟩, h1 _ S1 H1 (Ext.refl e1.inn) itc_ok⟩
              exact (Int.toNat_of_nonneg hb.2.2.2).symm
            · exact h1.elim
    · exact h1.elim
def gm_bit_length : PD → R PD
  | .int i => .ok (.int (Builtin.Int.intBits i : Nat))
  | _ => .no
theorem pd_m_bit_length (ho : PE X o (tD X.K X.mg W f)) (hbase : attributeBase o "bit_length" X.env (eval o X.env) = eval o X.env := by rfl) (hline : (apos.endLine == pos.line) = true := by rfl) : PE X (.Call (.Attribute o "bit_length" apos) [] [] pos) (tD X.K X.mg W (d1 gm_bit_length f)) :=
  PEimp (pe_bits ho hbase hline) fun σ H Q ⟨G, ρ, S, rel, h⟩ => by
    refine tG.mk rel (wG.imp ?_ (wG.bind (rp := Rp X.K) h))
    rintro v H1 ⟨S1, d, e1, ra, h1⟩
    cases d with
    | int i => cases ra; exact ⟨i, rfl, h1 _ S1 H1 (Ext.refl e1.inn) (.int _)⟩
    | _ => exact h1.elim
def gStr : List PD → R PD
  | [.int i] => if i.natAbs.log2 < 1920 then .ok (.str (toString i)) else .no
  | _ => .no
theorem nx_str : NoExL gStr := fun a c h => by unfold gStr at h; split at h <;> first | (split at h <;> cases h) | cases h
theorem cd_str : CallD X (.type "str") gStr := by
  refine CallD_ofX fun pins s σ H vs us Q S ds d I r hS ra q h => ?_
  unfold gStr at q
  split at q
  · cases ra with
    | cons r1 r2 =>
      cases r2
      cases r1
      split at q
      · rename_i hl
        cases q
        exact call_str_int pins s σ H _ us Q I r ⟨_, rfl, hl, h _ S H (Ext.refl hS) (.str _)⟩
      · cases q
  · cases q
/-- x[k] = e, x a list of one's own -/
def sPut (i : Nat) (fk fe : En → R PD) : En → Fl := fun ρ => match ρ[i]? with
  | some (some (.l xs)) => sE fe (fun d => sE fk fun k ρ => match k with
    | .int z => (match ixN xs.length z with
      | some j => .nx (ρ.set i (some (.l (xs.set j d))))
      | none => .no)
    | _ => .no) ρ
  | _ => .no
theorem sd_put (i : Nat) {px pt : Pos} {kx : Expr} {fk fe : En → R PD} (hk : PE X kx (tD X.K X.mg W fk)) (he : PE X e (tD X.K X.mg W fe)) (hN : X.N[i]? = some x := by rfl) (hv : Vis X.env.scope x := by first | exact Or.inl rfl | exact Or.inr (Or.inl rfl) | exact Or.inr (Or.inr rfl))
    (hd : (x == ("__debug__" : Str)) = false := by decide) (hcd : (x == ("__classdict__" : Str)) = false := by decide)
    (ha : ∀ v, assign (.Subscript (.Name x px) kx pt) X.env v = (do
      let ov ← holding [v] (eval (.Name x px) X.env)
      let iv ← holding [v, ov] (eval kx X.env)
      standAt pt
      holding [v, ov, iv] (setItem ov iv v)
      release [v, ov, iv] []) := by intro _; rfl)
    (hs : swapsWithSole [.Subscript (.Name x px) kx pt] e pos.line X.env = pure false := by rfl) (hw : swappedStores [.Subscript (.Name x px) kx pt] e X.env = pure none := by rfl)
    (h1 : (assignEach [.Subscript (.Name x px) kx pt] X.env).map (·.2) = [assign (.Subscript (.Name x px) kx pt) X.env] := by rfl) :
    PS X (.Assign [.Subscript (.Name x px) kx pt] e pos) (tS X.K X.mg W (sPut i fk fe)) :=
  PSimp (ps_asg he (pg_sub (pe_var hN hv hd hcd) hk set_list ha) hs hw h1) fun D σ H ⟨G, ρ, S, r, q⟩ => by
    unfold sPut at q
    split at q
    · rename_i xs e
      obtain ⟨a, vs, h1, h2, h3, h4, h5, h6⟩ := r.known e
      refine tG.mk r (wG.imp ?_ (wS.ofE (rp := Rp X.K) r q))
      rintro v H1 ⟨S1, d, e1, ra, r1, q1⟩
      refine ⟨_, h1, tG.mk r1 (wG.imp ?_ (wS.ofE (rp := Rp X.K) r1 q1))⟩
      rintro kv H2 ⟨S2, k, e2, rk, r2, q2⟩
      cases k with
      | int z =>
        cases rk
        dsimp only at q2
        split at q2
        · rename_i j hj
          have e12 := e1.trans e2
          have hS2 : S2 a = none := by
            cases z : S2 a with
            | none => rfl
            | some o =>
              rcases e12.new a o z with w | w
              · rw [h2] at w; cases w
              · rw [h4] at w; cases w
          exact ⟨a, vs, z, j, rfl, rfl, e12.all _ _ h4, by rw [h5.length]; exact hj, q2 σ S2 _ (Same.refl _) (r2.change e rfl rfl h1 hS2 h3 ⟨_, upd_same, RpA.set (Rp.mono e2.sub _ _ ra) j (RpA.mono e12.sub _ _ h5)⟩)⟩
        · exact q2.elim
      | _ => exact q2.elim
    · exact q.elim
end
end DL

set_option Elab.async false
set_option linter.all false
set_option maxRecDepth 100000
set_option maxHeartbeats 4000000
set_option autoImplicit false
/-! reckoning of dens by simp -/
namespace DL
open PySem L2

/-! ### bounds -/
class Bd (i : Int) (n : outParam Nat) : Prop where
  h : i.natAbs < 2 ^ n
theorem Bd.le {i : Int} {n m : Nat} [b : Bd i n] (h : n ≤ m) : i.natAbs < 2 ^ m := Nat.lt_of_lt_of_le b.h (Nat.pow_le_pow_right (by decide) h)
theorem ib_le {i : Int} {n : Nat} (h : i.natAbs < 2 ^ n) : ib i ≤ n := by
  unfold DL.ib Builtin.Int.intBits
  by_cases e : i = 0
  · subst e; simp
  · have : (i == 0) = false := by simpa using e
    rw [this]
    have h2 : i.natAbs ≠ 0 := by omega
    have := (Nat.log2_lt h2).mpr h
    simp only [Bool.false_eq_true, if_false]
    omega
theorem lt_of_ib {i : Int} {n : Nat} (h : Builtin.Int.intBits i ≤ n) : i.natAbs < 2 ^ n := by
  unfold Builtin.Int.intBits at h
  by_cases e : i = 0
  · subst e; exact Nat.two_pow_pos n
  · have h1 : (i == 0) = false := by simpa using e
    rw [h1] at h
    simp only [Bool.false_eq_true, if_false] at h
    have h2 : i.natAbs ≠ 0 := by omega
    exact (Nat.log2_lt h2).mp (by omega)
theorem Bd.ib {i : Int} {n : Nat} [b : Bd i n] : ib i ≤ n := ib_le b.h
instance bd_mul {i j : Int} {n m : Nat} [a : Bd i n] [b : Bd j m] : Bd (i * j) (n + m) := ⟨by
  rw [Int.natAbs_mul, Nat.pow_add]
  exact Nat.mul_lt_mul'' a.h b.h⟩
theorem two_pow_max {n m : Nat} : 2 ^ n ≤ 2 ^ (max n m) ∧ 2 ^ m ≤ 2 ^ (max n m) := ⟨Nat.pow_le_pow_right (by decide) (Nat.le_max_left _ _), Nat.pow_le_pow_right (by decide) (Nat.le_max_right _ _)⟩
instance bd_add {i j : Int} {n m : Nat} [a : Bd i n] [b : Bd j m] : Bd (i + j) (max n m + 1) := ⟨by
  have h1 := a.h
  have h2 := b.h
  have h3 := @two_pow_max n m
  rw [Nat.pow_succ]
  omega⟩
instance bd_sub {i j : Int} {n m : Nat} [a : Bd i n] [b : Bd j m] : Bd (i - j) (max n m + 1) := ⟨by
  have h1 := a.h
  have h2 := b.h
  have h3 := @two_pow_max n m
  rw [Nat.pow_succ]
  omega⟩
instance bd_neg {i : Int} {n : Nat} [a : Bd i n] : Bd (-i) n := ⟨by rw [Int.natAbs_neg]; exact a.h⟩
instance bd_lit {k : Nat} : Bd (no_index (OfNat.ofNat k : Int)) ((OfNat.ofNat k : Nat).log2 + 1) := ⟨by
  show (Int.natAbs ((k : Nat) : Int)) < _
  rw [Int.natAbs_natCast]
  exact Nat.lt_log2_self⟩
theorem natAbs_fdiv_le (i j : Int) : (i.fdiv j).natAbs ≤ i.natAbs := by
  match i, j with
  | 0, j => simp
  | .ofNat (m+1), .ofNat n =>
    show ((m+1)/n : Nat) ≤ m+1
    exact Nat.div_le_self _ _
  | .ofNat (m+1), .negSucc n =>
    show m / (n+1) + 1 ≤ m + 1
    exact Nat.succ_le_succ (Nat.div_le_self _ _)
  | .negSucc m, .ofNat 0 => simp
  | .negSucc m, .ofNat (n+1) =>
    show m / (n+1) + 1 ≤ m + 1
    exact Nat.succ_le_succ (Nat.div_le_self _ _)
  | .negSucc m, .negSucc n =>
    show (m+1)/(n+1) ≤ m+1
    exact Nat.div_le_self _ _
theorem natAbs_fmod_lt (a : Int) {b : Int} (hb : b ≠ 0) : (a.fmod b).natAbs < b.natAbs := by
  have h1 := Int.emod_nonneg a hb
  have h2 := Int.emod_lt a hb
  rw [Int.fmod_eq_emod]
  split
  · omega
  · rename_i h
    have h3 : ¬ b ∣ a := fun z => h (.inr z)
    have h4 : a % b ≠ 0 := fun z => h3 (Int.dvd_of_emod_eq_zero z)
    have h5 : ¬ 0 ≤ b := fun z => h (.inl z)
    omega
instance bd_fdiv {i j : Int} {n : Nat} [a : Bd i n] : Bd (i.fdiv j) n := ⟨Nat.lt_of_le_of_lt (natAbs_fdiv_le i j) a.h⟩
class NZ (j : Int) : Prop where
  h : j ≠ 0
instance nz_lit {k : Nat} [h : NeZero k] : NZ (no_index (OfNat.ofNat k : Int)) := ⟨by
  have := h.out
  show ((k : Nat) : Int) ≠ 0
  omega⟩
instance bd_fmod {i j : Int} {m : Nat} [b : Bd j m] [z : NZ j] : Bd (i.fmod j) m := ⟨Nat.lt_trans (natAbs_fmod_lt i z.h) b.h⟩
instance bd_emod {i j : Int} {m : Nat} [b : Bd j m] [z : NZ j] : Bd (i % j) m := ⟨by
  have h1 := Int.emod_nonneg i z.h
  have h2 := Int.emod_lt i z.h
  have h3 := b.h
  omega⟩
instance bd_ediv {i j : Int} {n : Nat} [a : Bd i n] : Bd (i / j) n := ⟨Nat.lt_of_le_of_lt (Int.natAbs_ediv_le_natAbs i j) a.h⟩
instance bd_pow {i : Int} {n k : Nat} [a : Bd i n] : Bd (i ^ k) (n * k + 1) := ⟨by
  rw [Int.natAbs_pow]
  have h := a.h
  have : i.natAbs ^ k ≤ (2 ^ n) ^ k := Nat.pow_le_pow_left (Nat.le_of_lt h) k
  rw [← Nat.pow_mul] at this
  rw [Nat.pow_succ]
  have := Nat.two_pow_pos (n * k)
  omega⟩
theorem Bd.mono {i : Int} {n m : Nat} (b : Bd i n) (h : n ≤ m) : Bd i m := ⟨Bd.le h⟩
theorem bd_of {i : Int} {n : Nat} (h : i.natAbs < 2 ^ n) : Bd i n := ⟨h⟩
theorem pylong_of {i j : Int} {m : Nat} [b : Bd j m] (h : m ≤ 9000) : Builtin.divisionGoesByPylong i j = false := by
  unfold Builtin.divisionGoesByPylong
  have hd : (if (j == 0) = true then 0 else j.natAbs.log2 / 30 + 1) ≤ 300 := by
    by_cases e : j = 0
    · subst e; simp
    · have h1 : (j == 0) = false := by simpa using e
      rw [h1]
      simp only [Bool.false_eq_true, if_false]
      have h2 : j.natAbs ≠ 0 := by omega
      have := (Nat.log2_lt h2).mpr (Bd.le (i := j) h)
      omega
  simp only [Bool.and_eq_false_iff, decide_eq_false_iff_not]
  exact .inl (by omega)
theorem pylong_of' {i j : Int} {m : Nat} [b : Bd i m] (h : m ≤ 4500) : Builtin.divisionGoesByPylong i j = false := by
  unfold Builtin.divisionGoesByPylong
  have hd : (if (i == 0) = true then 0 else i.natAbs.log2 / 30 + 1) ≤ 150 := by
    by_cases e : i = 0
    · subst e; simp
    · have h1 : (i == 0) = false := by simpa using e
      rw [h1]
      simp only [Bool.false_eq_true, if_false]
      have h2 : i.natAbs ≠ 0 := by omega
      have := (Nat.log2_lt h2).mpr (Bd.le (i := i) h)
      omega
  simp only [Bool.and_eq_false_iff, decide_eq_false_iff_not]
  exact .inr (by omega)

/-! ### operators on numbers -/
section
variable {i j : Int} {n m : Nat}
theorem gAdd_i : gAdd (.int i) (.int j) = .ok (.int (i + j)) := rfl
theorem gSub_i : gSub (.int i) (.int j) = .ok (.int (i - j)) := rfl
theorem gMul_i [a : Bd i n] [b : Bd j m] (h : n + m ≤ 134217728) : gMul (.int i) (.int j) = .ok (.int (i * j)) := by
  have h1 := Bd.ib (i := i)
  have h2 := Bd.ib (i := j)
  unfold gMul
  exact if_pos (by omega)
theorem gDiv_i [b : Bd j m] (hj : j ≠ 0) (h : m ≤ 9000) : gDiv (.int i) (.int j) = .ok (.int (i.fdiv j)) := by
  unfold gDiv
  exact if_pos ⟨hj, pylong_of h⟩
theorem gMod_i (hj : j ≠ 0) : gMod (.int i) (.int j) = .ok (.int (i.fmod j)) := by
  unfold gMod
  exact if_pos hj
theorem gDiv_p [b : Bd j m] (hj : 0 < j) (h : m ≤ 9000) : gDiv (.int i) (.int j) = .ok (.int (i / j)) := by
  rw [gDiv_i (by omega) h, Int.fdiv_eq_ediv_of_nonneg _ (by omega)]
theorem gMod_p (hj : 0 < j) : gMod (.int i) (.int j) = .ok (.int (i % j)) := by
  rw [gMod_i (by omega), Int.fmod_eq_emod_of_nonneg _ (by omega)]
theorem gPow_i [a : Bd i n] (hj : 0 ≤ j) (h : (n : Int) * j ≤ 134217728) : gPow (.int i) (.int j) = .ok (.int (i ^ j.toNat)) := by
  unfold gPow
  have h1 := Bd.ib (i := i)
  exact if_pos ⟨hj, Int.le_trans (Int.mul_le_mul_of_nonneg_right (by omega) hj) h⟩
theorem gPow_l {k : Nat} [a : Bd i n] (h : n * k ≤ 134217728) : gPow (.int i) (.int (no_index (OfNat.ofNat k : Int))) = .ok (.int (i ^ (OfNat.ofNat k : Nat))) := by
  rw [gPow_i (j := (OfNat.ofNat k : Int)) (by show (0 : Int) ≤ ((k : Nat) : Int); omega) (by
    show (n : Int) * ((k : Nat) : Int) ≤ 134217728
    have : ((n * k : Nat) : Int) = (n : Int) * (k : Int) := Int.natCast_mul n k
    omega)]
  rfl
theorem gShl_l {k : Nat} [a : Bd i n] (h : n + k ≤ 134217728) : gShl (.int i) (.int (no_index (OfNat.ofNat k : Int))) = .ok (.int (i * 2 ^ (OfNat.ofNat k : Nat))) := by
  have h1 := Bd.ib (i := i)
  unfold gShl
  exact if_pos ⟨(by show (0 : Int) ≤ ((k : Nat) : Int); omega), (by show (DL.ib i : Int) + ((k : Nat) : Int) ≤ _; omega)⟩
theorem gShr_l {k : Nat} : gShr (.int i) (.int (no_index (OfNat.ofNat k : Int))) = .ok (.int (i / 2 ^ (OfNat.ofNat k : Nat))) := by
  unfold gShr
  exact if_pos (by show (0 : Int) ≤ ((k : Nat) : Int); omega)
theorem gShl_i [a : Bd i n] (hj : 0 ≤ j) (h : (n : Int) + j ≤ 134217728) : gShl (.int i) (.int j) = .ok (.int (i * 2 ^ j.toNat)) := by
  unfold gShl
  have h1 := Bd.ib (i := i)
  exact if_pos ⟨hj, by omega⟩
theorem gShr_i (hj : 0 ≤ j) : gShr (.int i) (.int j) = .ok (.int (i / 2 ^ j.toNat)) := if_pos hj
theorem gLt_i : gLt (.int i) (.int j) = .ok (.bool (decide (i < j))) := rfl
theorem gLe_i : gLe (.int i) (.int j) = .ok (.bool (decide (i ≤ j))) := rfl
theorem gGt_i : gGt (.int i) (.int j) = .ok (.bool (decide (j < i))) := rfl
theorem gGe_i : gGe (.int i) (.int j) = .ok (.bool (decide (j ≤ i))) := rfl
theorem gEq_i : gEq (.int i) (.int j) = .ok (.bool (decide (i = j))) := rfl
theorem gNe_i : gNe (.int i) (.int j) = .ok (.bool (!decide (i = j))) := rfl
theorem gNeg_i : gNeg (.int i) = .ok (.int (-i)) := rfl
theorem gAbs_i : gAbs [.int i] = .ok (.int (i.natAbs : Int)) := by
  show R.ok (PyData.int (if i < 0 then -i else i)) = _
  congr 2
  split <;> omega
theorem gInt_i : gInt [.int i] = .ok (.int i) := rfl
theorem gInt_b {b : Bool} : gInt [.bool b] = .ok (.int (if b = true then 1 else 0)) := rfl
theorem gEq_s {x y : Str} : gEq (.str x) (.str y) = .ok (.bool (decide (x = y))) := rfl
theorem gNe_s {x y : Str} : gNe (.str x) (.str y) = .ok (.bool (!decide (x = y))) := rfl
theorem gEq_b {x y : Bool} : gEq (.bool x) (.bool y) = .ok (.bool (x == y)) := rfl
theorem gNe_b {x y : Bool} : gNe (.bool x) (.bool y) = .ok (.bool (!(x == y))) := rfl
instance bd_abs [a : Bd i n] : Bd ((i.natAbs : Nat) : Int) n := ⟨by rw [Int.natAbs_natCast]; exact a.h⟩
instance bd_ite {p : Prop} [Decidable p] [a : Bd i n] [b : Bd j m] : Bd (if p then i else j) (max n m) := ⟨by
  have h1 := a.h
  have h2 := b.h
  have h3 := @two_pow_max n m
  split <;> omega⟩
end

/-! ### flow -/
def Fl.seq (r : Fl) (g : En → Fl) : Fl := match r with
  | .nx ρ => g ρ
  | r => r
def R.fl {A : Type} (r : R A) (ρ : En) (k : A → Fl) : Fl := match r with
  | .ok a => k a
  | .ex c => .ex c ρ
  | .no => .no
def R.bind2 {A B C : Type} (g : A → B → R C) (x : R A) (y : R B) : R C := match x with
  | .ok a => (match y with
    | .ok b => g a b
    | .ex c => .ex c
    | .no => .no)
  | .ex c => .ex c
  | .no => .no
def kSet (i : Nat) (ρ : En) (d : PD) : Fl := .nx (ρ.set i (some (.d d)))
def kIf (f g : En → Fl) (ρ : En) (b : Bool) : Fl := if b = true then f ρ else g ρ
def kPar (i j : Nat) (ρ : En) (a b : PD) : R Fl := .ok (.nx ((ρ.set i (some (.d a))).set j (some (.d b))))
def kAsg (tg : Tg) (ρ : En) (d : PD) : Fl := match tg.put d ρ with
  | some ρ' => .nx ρ'
  | none => .no
def kFor (tg : Tg) (body : En → Fl) (ρ : En) (ds : List PD) : Fl := sForL tg body ds ρ
def kNx (ρ : En) (_ : PD) : Fl := .nx ρ
def kId (x : Fl) : Fl := x
section
variable {A B : Type} {f f1 f2 : En → R PD} {fl : En → R (List PD)} {t t1 t2 : En → R Bool} {g h : En → Fl} {ρ : En} {i j : Nat} {r : Fl} {d e : PD} {ds : List PD} {c : Str} {b : Bool}
theorem ev_seq : sSeq g h ρ = (g ρ).seq h := rfl
theorem seq_nx : (Fl.nx ρ).seq h = h ρ := rfl
theorem seq_rt : (Fl.rt d).seq h = .rt d := rfl
theorem seq_ex : (Fl.ex c ρ).seq h = .ex c ρ := rfl
theorem seq_bk : (Fl.bk ρ).seq h = .bk ρ := rfl
theorem seq_ct : (Fl.ct ρ).seq h = .ct ρ := rfl
theorem seq_ite {p : Prop} [Decidable p] {x y : Fl} : (if p then x else y).seq h = if p then x.seq h else y.seq h := by split <;> rfl
theorem fl_ok {a : A} {k : A → Fl} : (R.ok a).fl ρ k = k a := rfl
theorem fl_ex {k : A → Fl} : (R.ex c : R A).fl ρ k = .ex c ρ := rfl
theorem fl_ite {p : Prop} [Decidable p] {x y : R A} {k : A → Fl} : (if p then x else y).fl ρ k = if p then x.fl ρ k else y.fl ρ k := by split <;> rfl
theorem ev_set : sSet i f ρ = (f ρ).fl ρ (kSet i ρ) := rfl
theorem kSet_ev : kSet i ρ d = .nx (ρ.set i (some (.d d))) := rfl
theorem ev_ret : sRet f ρ = (f ρ).fl ρ Fl.rt := rfl
theorem ev_retN : sRetN ρ = .rt .none := rfl
theorem ev_nx : sNx ρ = .nx ρ := rfl
theorem ev_bk : sBk ρ = .bk ρ := rfl
theorem ev_ct : sCt ρ = .ct ρ := rfl
theorem ev_raise : sRaise c ρ = .ex c ρ := rfl
theorem ev_if : sIf t g h ρ = (t ρ).fl ρ (kIf g h ρ) := rfl
theorem kIf_ev : kIf g h ρ b = if b = true then g ρ else h ρ := rfl
theorem ev_drop : sDrop f ρ = (f ρ).fl ρ (kNx ρ) := rfl
theorem kNx_ev : kNx ρ d = .nx ρ := rfl
theorem ev_par : sPar i j f1 f2 ρ = (R.bind2 (kPar i j ρ) (f1 ρ) (f2 ρ)).fl ρ kId := by
  unfold sPar sE R.bind2 R.fl
  cases e1 : f1 ρ with
  | ok a => cases e2 : f2 ρ <;> simp only [e2] <;> rfl
  | ex c => rfl
  | no => rfl
theorem kPar_ev : kPar i j ρ d e = .ok (.nx ((ρ.set i (some (.d d))).set j (some (.d e)))) := rfl
theorem kId_ev : kId r = r := rfl
theorem ev_asg {tg : Tg} : sAsg tg f ρ = (f ρ).fl ρ (kAsg tg ρ) := rfl
theorem kAsg_ev {tg : Tg} : kAsg tg ρ d = match tg.put d ρ with
  | some ρ' => .nx ρ'
  | none => .no := rfl
theorem ev_for {it : En → R (List PD)} {tg : Tg} : sFor it tg g ρ = (it ρ).fl ρ (kFor tg g ρ) := rfl
theorem kFor_ev {tg : Tg} : kFor tg g ρ ds = sForL tg g ds ρ := rfl
/-! values -/
def dVg : Option (Option SV) → R PD
  | some (some (.d d)) => .ok d
  | _ => .no
theorem ev_V : dV i ρ = dVg ρ[i]? := rfl
theorem dVg_ok : dVg (some (some (.d d))) = .ok d := rfl
theorem ev_C : dC d ρ = .ok d := rfl
theorem ev_1 {g : PD → R PD} : d1 g f ρ = (f ρ).bind g := rfl
theorem ev_2 {g : PD → PD → R PD} : d2 g f1 f2 ρ = R.bind2 g (f1 ρ) (f2 ρ) := by
  unfold d2 R.bind2 R.bind
  cases f1 ρ with
  | ok a => cases f2 ρ <;> rfl
  | ex c => rfl
  | no => rfl
theorem bind2_ok {C : Type} {g : A → B → R C} {a : A} {b : B} : R.bind2 g (.ok a) (.ok b) = g a b := rfl
theorem bind2_ite1 {C : Type} {g : A → B → R C} {p : Prop} [Decidable p] {x y : R A} {z : R B} : R.bind2 g (if p then x else y) z = if p then R.bind2 g x z else R.bind2 g y z := by split <;> rfl
theorem bind2_ite2 {C : Type} {g : A → B → R C} {p : Prop} [Decidable p] {x y : R B} {a : A} : R.bind2 g (.ok a) (if p then x else y) = if p then R.bind2 g (.ok a) x else R.bind2 g (.ok a) y := by split <;> rfl
theorem bind_ite {C : Type} {g : A → R C} {p : Prop} [Decidable p] {x y : R A} : R.bind (if p then x else y) g = if p then x.bind g else y.bind g := by split <;> rfl
theorem ev_A {g : List PD → R PD} : dA g fl ρ = (fl ρ).bind g := rfl
theorem ev_nil : dNil ρ = .ok [] := rfl
def kCons (d : PD) (ds : List PD) : R (List PD) := .ok (d :: ds)
theorem ev_cons : dCons f fl ρ = R.bind2 kCons (f ρ) (fl ρ) := by
  unfold dCons R.bind2 R.bind kCons
  cases f ρ with
  | ok a => cases fl ρ <;> rfl
  | ex c => rfl
  | no => rfl
theorem kCons_ev : kCons d ds = .ok (d :: ds) := rfl
theorem ev_T : dT f ρ = (f ρ).bind toB := rfl
theorem toB_ev : toB (.bool b) = .ok b := rfl
def kAnd (t : En → R Bool) (ρ : En) (a : Bool) : R Bool := if a = true then t ρ else .ok false
def kOr (t : En → R Bool) (ρ : En) (a : Bool) : R Bool := if a = true then .ok true else t ρ
def kNot (a : Bool) : R Bool := .ok (!a)
theorem ev_and : dAnd t1 t2 ρ = (t1 ρ).bind (kAnd t2 ρ) := rfl
theorem ev_or : dOr t1 t2 ρ = (t1 ρ).bind (kOr t2 ρ) := rfl
theorem ev_not : dNot t ρ = (t ρ).bind kNot := rfl
theorem kAnd_ev : kAnd t ρ b = if b = true then t ρ else .ok false := rfl
theorem kOr_ev : kOr t ρ b = if b = true then .ok true else t ρ := rfl
theorem kNot_ev : kNot b = .ok (!b) := rfl
def kAndV (f : En → R PD) (ρ : En) (a : PD) : R PD := (toB a).bind fun c => if c = true then f ρ else .ok (.bool false)
def kOrV (f : En → R PD) (ρ : En) (a : PD) : R PD := (toB a).bind fun c => if c = true then .ok (.bool true) else f ρ
def kNotV (a : PD) : R PD := (toB a).bind fun c => .ok (.bool (!c))
theorem ev_andV : dAndV f1 f2 ρ = (f1 ρ).bind (kAndV f2 ρ) := rfl
theorem ev_orV : dOrV f1 f2 ρ = (f1 ρ).bind (kOrV f2 ρ) := rfl
theorem ev_notV : dNotV f ρ = (f ρ).bind kNotV := rfl
theorem kAndV_ev : kAndV f ρ (.bool b) = if b = true then f ρ else .ok (.bool false) := rfl
theorem kOrV_ev : kOrV f ρ (.bool b) = if b = true then .ok (.bool true) else f ρ := rfl
theorem kNotV_ev : kNotV (.bool b) = .ok (.bool (!b)) := rfl
def kIfE (f1 f2 : En → R PD) (ρ : En) (a : Bool) : R PD := if a = true then f1 ρ else f2 ρ
theorem ev_ife : dIf t f1 f2 ρ = (t ρ).bind (kIfE f1 f2 ρ) := rfl
theorem kIfE_ev : kIfE f1 f2 ρ b = if b = true then f1 ρ else f2 ρ := rfl
def kCh (g g' : PD → PD → R PD) (f3 : En → R PD) (ρ : En) (a b : PD) : R PD := (g a b).bind fun z => (toB z).bind fun k => if k = true then (f3 ρ).bind (g' b) else .ok (.bool false)
theorem ev_ch {g g' : PD → PD → R PD} {f3 : En → R PD} : dCh g g' f1 f2 f3 ρ = R.bind2 (kCh g g' f3 ρ) (f1 ρ) (f2 ρ) := by
  unfold dCh R.bind2 kCh R.bind
  cases f1 ρ with
  | ok a => cases f2 ρ <;> rfl
  | ex c => rfl
  | no => rfl
theorem tup_ev (h : ds.length ≤ 1000) : gTupD ds = .ok (.tuple ds) := if_pos h
theorem lst_ev (h : ds.length ≤ 1000) : gLstD ds = .ok (.list ds) := if_pos h
theorem call_ev {n : Nat} {es : List PD} {m : List PD → R PD} (h : (ds ++ es).length = n) : gCall n es m ds = m (ds ++ es) := if_pos h
theorem kw_ev {m : List PD → R PD} {n np nk : Nat} {arr : List PD → List PD → List PD} {as bs : List PD} (h : as.length = np ∧ bs.length = nk ∧ (arr as bs).length = n) : gKw n np nk arr m as bs = m (arr as bs) := if_pos h
theorem ev_kw {g : List PD → List PD → R PD} {f1 f2 : En → R (List PD)} : dKw g f1 f2 ρ = R.bind2 g (f1 ρ) (f2 ρ) := by
  unfold dKw R.bind2 R.bind
  cases f1 ρ with
  | ok a => cases f2 ρ <;> rfl
  | ex c => rfl
  | no => rfl
/-! a def -/
def startE : Nat → List PD → En
  | 0, _ => []
  | m + 1, [] => none :: startE m []
  | m + 1, d :: ds => some (.d d) :: startE m ds
def Fl.fin : Fl → R PD
  | .rt d => .ok d
  | .nx _ => .ok .none
  | .ex c _ => .ex c
  | _ => .no
theorem startE_nil : ∀ m, startE m [] = List.replicate m none
  | 0 => rfl
  | m + 1 => by show none :: startE m [] = _; rw [startE_nil m]; rfl
theorem startE_eq : ∀ (m : Nat) (ds : List PD), ds.length ≤ m → ds.map (fun d => some (SV.d d)) ++ List.replicate (m - ds.length) none = startE m ds
  | m, [], _ => by rw [startE_nil]; simp
  | 0, _ :: _, h => by simp at h
  | m + 1, d :: ds, h => by
    show some (SV.d d) :: (ds.map (fun d => some (SV.d d)) ++ List.replicate (m + 1 - (ds.length + 1)) none) = some (.d d) :: startE m ds
    rw [← startE_eq m ds (by simpa using h)]
    congr 3
    omega
theorem ev_fn {m : Nat} {den : En → Fl} (h : ds.length ≤ m) : fnD m den ds = (den (startE m ds)).fin := by
  unfold fnD
  rw [startE_eq m ds h]
  rfl
theorem startE_0 {ds : List PD} : startE 0 ds = [] := by cases ds <;> rfl
theorem startE_s {m : Nat} : startE (m + 1) [] = none :: startE m [] := rfl
theorem startE_c {m : Nat} : startE (m + 1) (d :: ds) = some (.d d) :: startE m ds := rfl
theorem fin_rt : (Fl.rt d).fin = .ok d := rfl
theorem fin_nx : (Fl.nx ρ).fin = .ok .none := rfl
theorem fin_ex : (Fl.ex c ρ).fin = .ex c := rfl
theorem fin_ite {p : Prop} [Decidable p] {x y : Fl} : (if p then x else y).fin = if p then x.fin else y.fin := by split <;> rfl
/-! subscripts -/
theorem ix_t {k : Nat} (h : ds[k]? = some d) : gIx (.tuple ds) (.int (k : Int)) = .ok d := by
  unfold gIx atI
  have hk : k < ds.length := (List.getElem?_eq_some_iff.mp h).1
  have : ixN ds.length (k : Int) = some k := by
    unfold ixN
    rw [if_pos (by omega), if_pos (by omega)]
    rfl
  simp only [this, Option.bind_some, h]
theorem ix_l {k : Nat} (h : ds[k]? = some d) : gIx (.list ds) (.int (k : Int)) = .ok d := by
  unfold gIx atI
  have hk : k < ds.length := (List.getElem?_eq_some_iff.mp h).1
  have : ixN ds.length (k : Int) = some k := by
    unfold ixN
    rw [if_pos (by omega), if_pos (by omega)]
    rfl
  simp only [this, Option.bind_some, h]
variable {x0 x1 x2 x3 : PD}
theorem ix_t0 : gIx (.tuple (x0 :: ds)) (.int 0) = .ok x0 := ix_t (k := 0) rfl
theorem ix_t1 : gIx (.tuple (x0 :: x1 :: ds)) (.int 1) = .ok x1 := ix_t (k := 1) rfl
theorem ix_t2 : gIx (.tuple (x0 :: x1 :: x2 :: ds)) (.int 2) = .ok x2 := ix_t (k := 2) rfl
theorem ix_t3 : gIx (.tuple (x0 :: x1 :: x2 :: x3 :: ds)) (.int 3) = .ok x3 := ix_t (k := 3) rfl
theorem ix_l0 : gIx (.list (x0 :: ds)) (.int 0) = .ok x0 := ix_l (k := 0) rfl
theorem ix_l1 : gIx (.list (x0 :: x1 :: ds)) (.int 1) = .ok x1 := ix_l (k := 1) rfl
theorem ix_l2 : gIx (.list (x0 :: x1 :: x2 :: ds)) (.int 2) = .ok x2 := ix_l (k := 2) rfl
theorem ix_ints {zs : List Int} {k : Int} (h0 : 0 ≤ k) (h1 : k < zs.length) : gIx (.list (zs.map PyData.int)) (.int k) = .ok (.int (zs.getD k.toNat 0)) := by
  obtain ⟨n, rfl⟩ := Int.eq_ofNat_of_zero_le h0
  refine ix_l ?_
  have : n < zs.length := by omega
  rw [List.getElem?_map, List.getElem?_eq_getElem this]
  simp [this]
theorem len_l : gLen [.list ds] = .ok (.int ds.length) := rfl
theorem len_t : gLen [.tuple ds] = .ok (.int ds.length) := rfl
/-! iteration -/
theorem ev_iL : iL f ρ = (f ρ).bind asL := rfl
theorem ev_iT : iT f ρ = (f ρ).bind asT := rfl
theorem asL_ev : asL (.list ds) = .ok ds := rfl
theorem asT_ev : asT (.tuple ds) = .ok ds := rfl
theorem ev_iA {g : List PD → R (List PD)} : iA g fl ρ = (fl ρ).bind g := rfl
theorem ev_P : dP f ρ = (f ρ).bind toI := rfl
theorem toI_ev {k : Int} : toI (.int k) = .ok (some k) := rfl
theorem ev_P0 : dP0 ρ = .ok none := rfl
def kSl (hi : R (Option Int)) (d : PD) (lo : Option Int) : R PD := hi.bind (gSl d lo)
theorem ev_sl {lo hi : En → R (Option Int)} : dSl f lo hi ρ = R.bind2 (kSl (hi ρ)) (f ρ) (lo ρ) := by
  unfold dSl R.bind2 kSl R.bind
  cases f ρ with
  | ok a => cases lo ρ <;> rfl
  | ex c => rfl
  | no => rfl
theorem kSl_ev {hi lo : Option Int} : kSl (.ok hi) d lo = gSl d lo hi := rfl
theorem sl_hi {k : Nat} : gSl (.list ds) none (some (k : Int)) = .ok (.list (ds.take k)) := by
  unfold gSl cutD
  have h1 : HT.sIx ds.length 0 none = 0 := rfl
  have h2 : HT.sIx ds.length ds.length (some (k : Int)) = min k ds.length := HT.sIx_nat _ _ _
  simp only [h1, h2, Nat.sub_zero, List.drop_zero]
  congr 2
  rw [List.take_eq_take_iff]
  omega
theorem sl_lo {k : Nat} : gSl (.list ds) (some (k : Int)) none = .ok (.list (ds.drop k)) := by
  unfold gSl cutD
  have h1 : HT.sIx ds.length ds.length none = ds.length := rfl
  have h2 : HT.sIx ds.length 0 (some (k : Int)) = min k ds.length := HT.sIx_nat _ _ _
  simp only [h1, h2]
  congr 2
  have : (ds.drop (min k ds.length)) = ds.drop k := by
    by_cases h : k ≤ ds.length
    · rw [Nat.min_eq_left h]
    · rw [Nat.min_eq_right (by omega), List.drop_length, List.drop_eq_nil_of_le (by omega)]
  rw [this]
  apply List.take_of_length_le
  rw [List.length_drop]
  omega
theorem sl_lohi {k l : Nat} : gSl (.list ds) (some (k : Int)) (some (l : Int)) = .ok (.list ((ds.take l).drop k)) := by
  unfold gSl cutD
  have h1 : HT.sIx ds.length ds.length (some (l : Int)) = min l ds.length := HT.sIx_nat _ _ _
  have h2 : HT.sIx ds.length 0 (some (k : Int)) = min k ds.length := HT.sIx_nat _ _ _
  simp only [h1, h2]
  congr 2
  rw [List.drop_take]
  by_cases h : k ≤ ds.length
  · rw [Nat.min_eq_left h]
    rw [List.take_eq_take_iff, List.length_drop]
    omega
  · have e : min k ds.length = ds.length := Nat.min_eq_right (by omega)
    rw [e, List.drop_length, List.drop_eq_nil_of_le (by omega)]
    simp
theorem add_l {xs ys : List PD} (h : xs.length + ys.length ≤ 16777216) : gAdd (.list xs) (.list ys) = .ok (.list (xs ++ ys)) := if_pos h
theorem put_1 : (Tg.one i).put d ρ = some (ρ.set i (some (.d d))) := rfl
/-- a loop that keeps an invariant and never leaves -/
theorem for_inv {tg : Tg} (I : List PD → En → Prop) : ∀ (ds pre : List PD) (ρ : En), I pre ρ →
    (∀ pre d post ρ, ds = pre ++ d :: post ∨ True → I pre ρ → d ∈ ds → ∃ ρ1, tg.put d ρ = some ρ1 ∧ ∃ ρ2, (g ρ1 = .nx ρ2 ∨ g ρ1 = .ct ρ2) ∧ I (pre ++ [d]) ρ2) →
    ∃ ρ', sForL tg g ds ρ = .nx ρ' ∧ I (pre ++ ds) ρ'
  | [], pre, ρ, h, _ => ⟨ρ, rfl, by simpa using h⟩
  | d :: ds, pre, ρ, h, st => by
    obtain ⟨ρ1, e1, ρ2, e2, h2⟩ := st pre d ds ρ (.inr trivial) h List.mem_cons_self
    obtain ⟨ρ', e3, h3⟩ := for_inv I ds (pre ++ [d]) ρ2 h2 fun pre d post ρ _ hI hm => st pre d post ρ (.inr trivial) hI (List.mem_cons_of_mem _ hm)
    refine ⟨ρ', ?_, by simpa using h3⟩
    unfold sForL
    rw [e1]
    rcases e2 with e2 | e2 <;> (dsimp only; rw [e2]; exact e3)
/-! a while's turn -/
def Fl.turn (r : Fl) (g : En → Fl) : Fl := match r with
  | .nx ρ => g ρ
  | .ct ρ => g ρ
  | .bk ρ => .nx ρ
  | r => r
noncomputable def kWh (t : En → R Bool) (g : En → Fl) (ρ : En) (b : Bool) : Fl := if b = true then (g ρ).turn (sWhile t g) else .nx ρ
theorem ev_while : sWhile t g ρ = (t ρ).fl ρ (kWh t g ρ) := by
  rw [sWhile_eq]
  unfold sE R.fl kWh Fl.turn
  cases t ρ with
  | ok b => cases b <;> simp only [if_true, if_false, Bool.false_eq_true] <;> cases g ρ <;> rfl
  | ex c => rfl
  | no => rfl
theorem kWh_ev : kWh t g ρ b = if b = true then (g ρ).turn (sWhile t g) else .nx ρ := rfl
theorem turn_nx : (Fl.nx ρ).turn h = h ρ := rfl
theorem turn_ct : (Fl.ct ρ).turn h = h ρ := rfl
theorem turn_bk : (Fl.bk ρ).turn h = .nx ρ := rfl
theorem turn_rt : (Fl.rt d).turn h = .rt d := rfl
theorem turn_ite {p : Prop} [Decidable p] {x y : Fl} : (if p then x else y).turn h = if p then x.turn h else y.turn h := by split <;> rfl
/-! kinds -/
theorem isi_ev {T : String} {b : Bool} (h : kitB (tyD d) T = some b) : gIsi T d = .ok (.bool b) := by
  unfold gIsi
  rw [h]
theorem isi_int_int {z : Int} : gIsi "int" (.int z) = .ok (.bool true) := isi_ev (by show kitB "int" "int" = some true; decide +kernel)
theorem isi_bool_int {z : Int} : gIsi "bool" (.int z) = .ok (.bool false) := isi_ev (by show kitB "int" "bool" = some false; decide +kernel)
theorem isi_int_bool : gIsi "int" (.bool b) = .ok (.bool true) := isi_ev (by show kitB "bool" "int" = some true; decide +kernel)
theorem isi_bool_bool : gIsi "bool" (.bool b) = .ok (.bool true) := isi_ev (by show kitB "bool" "bool" = some true; decide +kernel)
theorem isi_int_str {z : Str} : gIsi "int" (.str z) = .ok (.bool false) := isi_ev (by show kitB "str" "int" = some false; decide +kernel)
theorem isi_int_none : gIsi "int" .none = .ok (.bool false) := isi_ev (by show kitB "NoneType" "int" = some false; decide +kernel)
theorem isi_int_list : gIsi "int" (.list ds) = .ok (.bool false) := isi_ev (by show kitB "list" "int" = some false; decide +kernel)
theorem isi_int_tup : gIsi "int" (.tuple ds) = .ok (.bool false) := isi_ev (by show kitB "tuple" "int" = some false; decide +kernel)
theorem isi_bool_str {z : Str} : gIsi "bool" (.str z) = .ok (.bool false) := isi_ev (by show kitB "str" "bool" = some false; decide +kernel)
theorem isi_bool_none : gIsi "bool" .none = .ok (.bool false) := isi_ev (by show kitB "NoneType" "bool" = some false; decide +kernel)
theorem isi_bool_list : gIsi "bool" (.list ds) = .ok (.bool false) := isi_ev (by show kitB "list" "bool" = some false; decide +kernel)
theorem isi_bool_tup : gIsi "bool" (.tuple ds) = .ok (.bool false) := isi_ev (by show kitB "tuple" "bool" = some false; decide +kernel)
theorem isi_tup_tup : gIsi "tuple" (.tuple ds) = .ok (.bool true) := isi_ev (by show kitB "tuple" "tuple" = some true; decide +kernel)
theorem isi_tup_int {z : Int} : gIsi "tuple" (.int z) = .ok (.bool false) := isi_ev (by show kitB "int" "tuple" = some false; decide +kernel)
theorem isi_tup_bool : gIsi "tuple" (.bool b) = .ok (.bool false) := isi_ev (by show kitB "bool" "tuple" = some false; decide +kernel)
theorem isi_tup_str {z : Str} : gIsi "tuple" (.str z) = .ok (.bool false) := isi_ev (by show kitB "str" "tuple" = some false; decide +kernel)
theorem isi_tup_none : gIsi "tuple" .none = .ok (.bool false) := isi_ev (by show kitB "NoneType" "tuple" = some false; decide +kernel)
theorem isi_tup_list : gIsi "tuple" (.list ds) = .ok (.bool false) := isi_ev (by show kitB "list" "tuple" = some false; decide +kernel)
theorem isi_list_list : gIsi "list" (.list ds) = .ok (.bool true) := isi_ev (by show kitB "list" "list" = some true; decide +kernel)
theorem isi_list_tup : gIsi "list" (.tuple ds) = .ok (.bool false) := isi_ev (by show kitB "tuple" "list" = some false; decide +kernel)
theorem isi_list_int {z : Int} : gIsi "list" (.int z) = .ok (.bool false) := isi_ev (by show kitB "int" "list" = some false; decide +kernel)
theorem isi_list_bool : gIsi "list" (.bool b) = .ok (.bool false) := isi_ev (by show kitB "bool" "list" = some false; decide +kernel)
theorem isi_list_str {z : Str} : gIsi "list" (.str z) = .ok (.bool false) := isi_ev (by show kitB "str" "list" = some false; decide +kernel)
theorem isi_list_none : gIsi "list" .none = .ok (.bool false) := isi_ev (by show kitB "NoneType" "list" = some false; decide +kernel)
theorem isi_str_str {z : Str} : gIsi "str" (.str z) = .ok (.bool true) := isi_ev (by show kitB "str" "str" = some true; decide +kernel)
theorem isi_str_int {z : Int} : gIsi "str" (.int z) = .ok (.bool false) := isi_ev (by show kitB "int" "str" = some false; decide +kernel)
theorem isi_str_bool : gIsi "str" (.bool b) = .ok (.bool false) := isi_ev (by show kitB "bool" "str" = some false; decide +kernel)
theorem isi_str_none : gIsi "str" .none = .ok (.bool false) := isi_ev (by show kitB "NoneType" "str" = some false; decide +kernel)
theorem isi_str_list : gIsi "str" (.list ds) = .ok (.bool false) := isi_ev (by show kitB "list" "str" = some false; decide +kernel)
theorem isi_str_tup : gIsi "str" (.tuple ds) = .ok (.bool false) := isi_ev (by show kitB "tuple" "str" = some false; decide +kernel)
/-! loops whose turns leave the first slots as they are -/
def Keeps (pre : En) (n : Nat) (r : Fl) : Prop := ∃ ys : En, ys.length = n ∧ r = .nx (pre ++ ys)
theorem for_keep {pre : En} {n : Nat} {i : Nat} (hi : pre.length ≤ i) : ∀ (ds : List PD) (ys : En), ys.length = n → (∀ d ∈ ds, ∀ ys : En, ys.length = n → Keeps pre n (g (pre ++ ys.set (i - pre.length) (some (.d d))))) → Keeps pre n (sForL (.one i) g ds (pre ++ ys))
  | [], ys, hy, _ => ⟨ys, hy, rfl⟩
  | d :: ds, ys, hy, h => by
    unfold sForL
    obtain ⟨zs, hz, e⟩ := h d List.mem_cons_self ys hy
    have e0 : (pre ++ ys).set i (some (.d d)) = pre ++ ys.set (i - pre.length) (some (.d d)) := List.set_append_right _ _ hi
    simp only [put_1, e0, e]
    exact for_keep hi ds zs hz fun d hd => h d (List.mem_cons_of_mem _ hd)
end
instance nz_pow {i : Int} {k : Nat} [h : NZ i] : NZ (i ^ k) := ⟨Int.pow_ne_zero h.h⟩
/-! equality of plain data -/
mutual
def plain : PD → Bool
  | .int _ => true
  | .str _ => true
  | .list xs => plainA xs
  | .tuple xs => plainA xs
  | _ => false
def plainA : List PD → Bool
  | [] => true
  | x :: xs => plain x && plainA xs
end
mutual
theorem eqv_plain : ∀ (d e : PD), plain d = true → plain e = true → (PyData.eqv d e = true ↔ d = e)
  | .int i, .int j, _, _ => by simp [PyData.eqv]
  | .str i, .str j, _, _ => by simp [PyData.eqv]
  | .list xs, .list ys, h, g => by
    have := eqvA_plain xs ys (by simpa [plain] using h) (by simpa [plain] using g)
    simp [PyData.eqv, this]
  | .tuple xs, .tuple ys, h, g => by
    have := eqvA_plain xs ys (by simpa [plain] using h) (by simpa [plain] using g)
    simp [PyData.eqv, this]
  | .int _, .str _, _, _ => by simp [PyData.eqv]
  | .int _, .list _, _, _ => by simp [PyData.eqv]
  | .int _, .tuple _, _, _ => by simp [PyData.eqv]
  | .str _, .int _, _, _ => by simp [PyData.eqv]
  | .str _, .list _, _, _ => by simp [PyData.eqv]
  | .str _, .tuple _, _, _ => by simp [PyData.eqv]
  | .list _, .int _, _, _ => by simp [PyData.eqv]
  | .list _, .str _, _, _ => by simp [PyData.eqv]
  | .list _, .tuple _, _, _ => by simp [PyData.eqv]
  | .tuple _, .int _, _, _ => by simp [PyData.eqv]
  | .tuple _, .str _, _, _ => by simp [PyData.eqv]
  | .tuple _, .list _, _, _ => by simp [PyData.eqv]
  | .none, _, h, _ => by simp [plain] at h
  | .bool _, _, h, _ => by simp [plain] at h
  | .dict _, _, h, _ => by simp [plain] at h
  | .int _, .none, _, g => by simp [plain] at g
  | .int _, .bool _, _, g => by simp [plain] at g
  | .int _, .dict _, _, g => by simp [plain] at g
  | .str _, .none, _, g => by simp [plain] at g
  | .str _, .bool _, _, g => by simp [plain] at g
  | .str _, .dict _, _, g => by simp [plain] at g
  | .list _, .none, _, g => by simp [plain] at g
  | .list _, .bool _, _, g => by simp [plain] at g
  | .list _, .dict _, _, g => by simp [plain] at g
  | .tuple _, .none, _, g => by simp [plain] at g
  | .tuple _, .bool _, _, g => by simp [plain] at g
  | .tuple _, .dict _, _, g => by simp [plain] at g
theorem eqvA_plain : ∀ (xs ys : List PD), plainA xs = true → plainA ys = true → (PyData.eqvAll xs ys = true ↔ xs = ys)
  | [], [], _, _ => by simp [PyData.eqvAll]
  | x :: xs, y :: ys, h, g => by
    have h1 : plain x = true ∧ plainA xs = true := by simpa [plainA] using h
    have g1 : plain y = true ∧ plainA ys = true := by simpa [plainA] using g
    simp [PyData.eqvAll, eqv_plain x y h1.1 g1.1, eqvA_plain xs ys h1.2 g1.2]
  | [], _ :: _, _, _ => by simp [PyData.eqvAll]
  | _ :: _, [], _, _ => by simp [PyData.eqvAll]
end
theorem gEq_t {xs ys : List PD} {b : Bool} (h1 : SeqAt.shaped (.tuple xs) = true) (h2 : SeqAt.shaped (.tuple ys) = true) (h3 : PyData.eqv (.tuple xs) (.tuple ys) = b) : gEq (.tuple xs) (.tuple ys) = .ok (.bool b) := by
  subst h3
  exact if_pos ⟨h1, h2⟩
theorem gNe_t {xs ys : List PD} {b : Bool} (h1 : SeqAt.shaped (.tuple xs) = true) (h2 : SeqAt.shaped (.tuple ys) = true) (h3 : PyData.eqv (.tuple xs) (.tuple ys) = b) : gNe (.tuple xs) (.tuple ys) = .ok (.bool (!b)) := by
  subst h3
  exact if_pos ⟨h1, h2⟩
theorem gEq_l {xs ys : List PD} {b : Bool} (h1 : SeqAt.shaped (.list xs) = true) (h2 : SeqAt.shaped (.list ys) = true) (h3 : PyData.eqv (.list xs) (.list ys) = b) : gEq (.list xs) (.list ys) = .ok (.bool b) := by
  subst h3
  exact if_pos ⟨h1, h2⟩
theorem gNe_l {xs ys : List PD} {b : Bool} (h1 : SeqAt.shaped (.list xs) = true) (h2 : SeqAt.shaped (.list ys) = true) (h3 : PyData.eqv (.list xs) (.list ys) = b) : gNe (.list xs) (.list ys) = .ok (.bool (!b)) := by
  subst h3
  exact if_pos ⟨h1, h2⟩
theorem gEq_tself {xs : List PD} (h1 : SeqAt.shaped (.tuple xs) = true) (h2 : plainA xs = true) : gEq (.tuple xs) (.tuple xs) = .ok (.bool true) :=
  gEq_t h1 h1 ((eqv_plain _ _ (by simpa [plain] using h2) (by simpa [plain] using h2)).mpr rfl)
theorem gNe_tself {xs : List PD} (h1 : SeqAt.shaped (.tuple xs) = true) (h2 : plainA xs = true) : gNe (.tuple xs) (.tuple xs) = .ok (.bool false) :=
  gNe_t h1 h1 ((eqv_plain _ _ (by simpa [plain] using h2) (by simpa [plain] using h2)).mpr rfl)
section
variable {a b c a' b' c' : Int}
theorem sh2 : SeqAt.shaped (.tuple [.int a, .int b]) = true := rfl
theorem sh3 : SeqAt.shaped (.tuple [.int a, .int b, .int c]) = true := rfl
theorem gEq_2 : gEq (.tuple [.int a, .int b]) (.tuple [.int a', .int b']) = .ok (.bool (decide (a = a' ∧ b = b'))) := gEq_t sh2 sh2 (by simp only [PyData.eqv, PyData.eqvAll, Bool.decide_and, Bool.and_true]; rfl)
theorem gNe_2 : gNe (.tuple [.int a, .int b]) (.tuple [.int a', .int b']) = .ok (.bool (!decide (a = a' ∧ b = b'))) := gNe_t sh2 sh2 (by simp only [PyData.eqv, PyData.eqvAll, Bool.decide_and, Bool.and_true]; rfl)
theorem gEq_3 : gEq (.tuple [.int a, .int b, .int c]) (.tuple [.int a', .int b', .int c']) = .ok (.bool (decide (a = a' ∧ b = b' ∧ c = c'))) := gEq_t sh3 sh3 (by simp only [PyData.eqv, PyData.eqvAll, Bool.decide_and, Bool.and_true]; rfl)
theorem gNe_3 : gNe (.tuple [.int a, .int b, .int c]) (.tuple [.int a', .int b', .int c']) = .ok (.bool (!decide (a = a' ∧ b = b' ∧ c = c'))) := gNe_t sh3 sh3 (by simp only [PyData.eqv, PyData.eqvAll, Bool.decide_and, Bool.and_true]; rfl)
end
/-! ### lists of one's own, loops, comprehensions -/
def kSetL (i : Nat) (ρ : En) (ds : List PD) : Fl := .nx (ρ.set i (some (.l ds)))
def kDisp (ds : List PD) : R (List PD) := if ds.length ≤ 1000 then .ok ds else .no
def kFrz (i : Nat) (g : En → Fl) (ρ : En) : Option (Option SV) → Fl
  | some (some (.l xs)) => g (ρ.set i (some (.d (.list xs))))
  | _ => g ρ
def kLend (i : Nat) (f : En → R PD) (ρ : En) : Option (Option SV) → R PD
  | some (some (.l xs)) => (f (ρ.set i (some (.d (.list xs))))).bind atomD
  | _ => f ρ
def kLendB (i : Nat) (f : En → R Bool) (ρ : En) : Option (Option SV) → R Bool
  | some (some (.l xs)) => f (ρ.set i (some (.d (.list xs))))
  | _ => f ρ
def kApp (i : Nat) (xs : List PD) (ρ : En) (d : PD) : Fl := if xs.length < 16777216 then .nx (ρ.set i (some (.l (xs ++ [d])))) else .no
def kAppO (i : Nat) (f : En → R PD) (ρ : En) : Option (Option SV) → Fl
  | some (some (.l xs)) => (f ρ).fl ρ (kApp i xs ρ)
  | _ => .no
def kPut2 (i : Nat) (xs : List PD) (ρ : En) (d k : PD) : R Fl := match k with
  | .int z => (match ixN xs.length z with
    | some j => .ok (.nx (ρ.set i (some (.l (xs.set j d)))))
    | none => .no)
  | _ => .no
def kPutO (i : Nat) (fk fe : En → R PD) (ρ : En) : Option (Option SV) → Fl
  | some (some (.l xs)) => (R.bind2 (kPut2 i xs ρ) (fe ρ) (fk ρ)).fl ρ kId
  | _ => .no
def kIxO (f : En → R PD) (ρ : En) : Option (Option SV) → R PD
  | some (some (.l xs)) => (f ρ).bind (gIx (.list xs))
  | some (some (.d d)) => (f ρ).bind (gIx d)
  | _ => .no
def kLst (ds : List PD) : R PD := .ok (.list ds)
def kLcL (tg : Tg) (vs : List Nat) (tt : En → R Bool) (te : En → R PD) (ρ : En) (ds : List PD) : R (List PD) := if ds.length ≤ 1000000 then lcL tg tt te (wipeE ρ vs) ds else .no
section
variable {f fk fe : En → R PD} {fl : En → R (List PD)} {t : En → R Bool} {g : En → Fl} {ρ ρ1 : En} {i : Nat} {d e : PD} {ds xs : List PD} {x : PD}
theorem ev_setL : sSetL i fl ρ = (fl ρ).fl ρ (kSetL i ρ) := rfl
theorem kSetL_ev : kSetL i ρ ds = .nx (ρ.set i (some (.l ds))) := rfl
theorem ev_lDisp : lDisp fl ρ = (fl ρ).bind kDisp := rfl
theorem kDisp_ev (h : ds.length ≤ 1000) : kDisp ds = .ok ds := if_pos h
theorem ev_lList : lList f ρ = (f ρ).bind lOf := rfl
theorem lOf_l : lOf (.list ds) = .ok ds := rfl
theorem lOf_t : lOf (.tuple ds) = .ok ds := rfl
theorem ev_frz : sFrz i g ρ = kFrz i g ρ ρ[i]? := by
  unfold sFrz kFrz
  cases h : ρ[i]? with
  | none => rfl
  | some o =>
    cases o with
    | none => rfl
    | some v => cases v <;> rfl
theorem frz_l : kFrz i g ρ (some (some (.l xs))) = g (ρ.set i (some (.d (.list xs)))) := rfl
theorem frz_d : kFrz i g ρ (some (some (.d x))) = g ρ := rfl
theorem frz_n : kFrz i g ρ (some none) = g ρ := rfl
theorem ev_lend : dLend i f ρ = kLend i f ρ ρ[i]? := by
  unfold dLend kLend
  cases h : ρ[i]? with
  | none => rfl
  | some o =>
    cases o with
    | none => rfl
    | some v => cases v <;> rfl
theorem lend_l : kLend i f ρ (some (some (.l xs))) = (f (ρ.set i (some (.d (.list xs))))).bind atomD := rfl
theorem lend_d : kLend i f ρ (some (some (.d x))) = f ρ := rfl
theorem atom_i {z : Int} : atomD (.int z) = .ok (.int z) := rfl
theorem atom_b {z : Bool} : atomD (.bool z) = .ok (.bool z) := rfl
theorem atom_s {z : Str} : atomD (.str z) = .ok (.str z) := rfl
theorem ev_lendB : dLendB i t ρ = kLendB i t ρ ρ[i]? := by
  unfold dLendB kLendB
  cases h : ρ[i]? with
  | none => rfl
  | some o =>
    cases o with
    | none => rfl
    | some v => cases v <;> rfl
theorem lendB_l : kLendB i t ρ (some (some (.l xs))) = t (ρ.set i (some (.d (.list xs)))) := rfl
theorem lendB_d : kLendB i t ρ (some (some (.d x))) = t ρ := rfl
theorem ev_app : sApp i f ρ = kAppO i f ρ ρ[i]? := by
  unfold sApp kAppO
  cases h : ρ[i]? with
  | none => rfl
  | some o =>
    cases o with
    | none => rfl
    | some v => cases v <;> rfl
theorem app_l : kAppO i f ρ (some (some (.l xs))) = (f ρ).fl ρ (kApp i xs ρ) := rfl
theorem kApp_ev (h : xs.length < 16777216) : kApp i xs ρ d = .nx (ρ.set i (some (.l (xs ++ [d])))) := if_pos h
theorem ev_put : sPut i fk fe ρ = kPutO i fk fe ρ ρ[i]? := by
  unfold sPut kPutO
  cases h : ρ[i]? with
  | none => rfl
  | some o =>
    cases o with
    | none => rfl
    | some v =>
      cases v with
      | d x => rfl
      | k x => rfl
      | l xs =>
        show sE fe _ ρ = (R.bind2 (kPut2 i xs ρ) (fe ρ) (fk ρ)).fl ρ kId
        unfold sE R.bind2 R.fl kPut2
        cases h1 : fe ρ with
        | ok a =>
          cases h2 : fk ρ with
          | ok b =>
            simp only [h2]
            cases b with
            | int z =>
              show _ = _
              cases hj : ixN xs.length z with
              | none => simp only [hj]
              | some j => simp only [hj]; rfl
            | _ => rfl
          | ex c => simp only [h2]
          | no => simp only [h2]
        | ex c => rfl
        | no => rfl
theorem put_l : kPutO i fk fe ρ (some (some (.l xs))) = (R.bind2 (kPut2 i xs ρ) (fe ρ) (fk ρ)).fl ρ kId := rfl
theorem kPut2_ev {z : Int} {j : Nat} (h : ixN xs.length z = some j) : kPut2 i xs ρ d (.int z) = .ok (.nx (ρ.set i (some (.l (xs.set j d))))) := by
  unfold kPut2
  simp only [h]
theorem ev_ixO : dIxO i f ρ = kIxO f ρ ρ[i]? := by
  unfold dIxO kIxO
  cases h : ρ[i]? with
  | none => rfl
  | some o =>
    cases o with
    | none => rfl
    | some v =>
      cases v with
      | d x => rfl
      | k x => rfl
      | l xs =>
        show R.bind (f ρ) _ = R.bind (f ρ) _
        congr 1
        funext d
        cases d <;> rfl
theorem ixO_l : kIxO f ρ (some (some (.l xs))) = (f ρ).bind (gIx (.list xs)) := rfl
theorem ixO_d : kIxO f ρ (some (some (.d x))) = (f ρ).bind (gIx x) := rfl
theorem forL_nil {tg : Tg} : sForL tg g [] ρ = .nx ρ := rfl
theorem forL_1 : sForL (.one i) g (d :: ds) ρ = (g (ρ.set i (some (.d d)))).turn (sForL (.one i) g ds) := by
  rw [sForL]
  show (match g (ρ.set i (some (.d d))) with
      | .nx ρ2 => sForL (.one i) g ds ρ2
      | .ct ρ2 => sForL (.one i) g ds ρ2
      | .bk ρ2 => .nx ρ2
      | r => r) = _
  unfold Fl.turn
  cases g (ρ.set i (some (.d d))) <;> rfl
theorem forL_m {is : List Nat} (h : xs.length = is.length) : sForL (.many is) g (.tuple xs :: ds) ρ = (g (putAll is xs ρ)).turn (sForL (.many is) g ds) := by
  rw [sForL]
  have : Tg.put (.many is) (.tuple xs) ρ = some (putAll is xs ρ) := if_pos h
  rw [this]
  show (match g (putAll is xs ρ) with
      | .nx ρ2 => sForL (.many is) g ds ρ2
      | .ct ρ2 => sForL (.many is) g ds ρ2
      | .bk ρ2 => .nx ρ2
      | r => r) = _
  unfold Fl.turn
  cases g (putAll is xs ρ) <;> rfl
theorem put_m {is : List Nat} (h : xs.length = is.length) : Tg.put (.many is) (.tuple xs) ρ = some (putAll is xs ρ) := if_pos h
theorem putAll_c {is : List Nat} : putAll (i :: is) (d :: ds) ρ = putAll is ds (ρ.set i (some (.d d))) := rfl
theorem putAll_n : putAll [] ds ρ = ρ := by cases ds <;> rfl
theorem ev_lc {it : En → R (List PD)} {tg : Tg} {vs : List Nat} : dLc it tg vs t f ρ = (dLcL it tg vs t f ρ).bind kLst := rfl
theorem kLst_ev : kLst ds = .ok (.list ds) := rfl
theorem ev_lcL {it : En → R (List PD)} {tg : Tg} {vs : List Nat} : dLcL it tg vs t f ρ = (it ρ).bind (kLcL tg vs t f ρ) := rfl
theorem kLcL_ev {tg : Tg} {vs : List Nat} (h : ds.length ≤ 1000000) : kLcL tg vs t f ρ ds = lcL tg t f (wipeE ρ vs) ds := if_pos h
theorem wipe_n : wipeE ρ [] = ρ := rfl
theorem wipe_c {vs : List Nat} : wipeE ρ (i :: vs) = (wipeE ρ vs).set i none := rfl
/-- a comprehension without a test -/
theorem lcL_map {tg : Tg} (h : PD → PD) : ∀ (ds : List PD), (∀ d ∈ ds, ∃ ρ1, tg.put d ρ = some ρ1 ∧ f ρ1 = .ok (h d)) → lcL tg bYes f ρ ds = .ok (ds.map h)
  | [], _ => rfl
  | d :: ds, k => by
    obtain ⟨ρ1, e1, e2⟩ := k d List.mem_cons_self
    rw [lcL, e1]
    show (match bYes ρ1 with
      | .ok true => (match f ρ1 with
        | .ok y => (match lcL tg bYes f ρ ds with
          | .ok ys => R.ok (y :: ys)
          | _ => .no)
        | _ => .no)
      | .ok false => lcL tg bYes f ρ ds
      | _ => .no) = _
    rw [lcL_map h ds fun d hd => k d (List.mem_cons_of_mem _ hd), e2]
    rfl
/-- a comprehension with a test -/
theorem lcL_filter {tg : Tg} (q : PD → Bool) (h : PD → PD) : ∀ (ds : List PD), (∀ d ∈ ds, ∃ ρ1, tg.put d ρ = some ρ1 ∧ t ρ1 = .ok (q d) ∧ (q d = true → f ρ1 = .ok (h d))) → lcL tg t f ρ ds = .ok ((ds.filter q).map h)
  | [], _ => rfl
  | d :: ds, k => by
    obtain ⟨ρ1, e1, e2, e3⟩ := k d List.mem_cons_self
    have ih := lcL_filter q h ds fun d hd => k d (List.mem_cons_of_mem _ hd)
    rw [lcL, e1]
    show (match t ρ1 with
      | .ok true => (match f ρ1 with
        | .ok y => (match lcL tg t f ρ ds with
          | .ok ys => R.ok (y :: ys)
          | _ => .no)
        | _ => .no)
      | .ok false => lcL tg t f ρ ds
      | _ => .no) = _
    rw [ih, e2]
    cases z : q d with
    | true =>
      rw [e3 z, List.filter_cons_of_pos z]
      rfl
    | false =>
      rw [List.filter_cons_of_neg (by simp [z])]
end
theorem r1_2 : gR1 [.int 2] = .ok [.int 0, .int 1] := rfl
theorem r1_3 : gR1 [.int 3] = .ok [.int 0, .int 1, .int 2] := rfl
theorem bits_ev {z : Int} : gm_bit_length (.int z) = .ok (.int (Builtin.Int.intBits z : Nat)) := rfl
section
variable {a b c d a' b' c' d' : Int}
theorem gEq_22 : gEq (.tuple [.tuple [.int a, .int b], .tuple [.int c, .int d]]) (.tuple [.tuple [.int a', .int b'], .tuple [.int c', .int d']]) = .ok (.bool (decide ((a = a' ∧ b = b') ∧ c = c' ∧ d = d'))) :=
  gEq_t rfl rfl (by simp only [PyData.eqv, PyData.eqvAll, Bool.decide_and, Bool.and_true]; rfl)
theorem gNe_22 : gNe (.tuple [.tuple [.int a, .int b], .tuple [.int c, .int d]]) (.tuple [.tuple [.int a', .int b'], .tuple [.int c', .int d']]) = .ok (.bool (!decide ((a = a' ∧ b = b') ∧ c = c' ∧ d = d'))) :=
  gNe_t rfl rfl (by simp only [PyData.eqv, PyData.eqvAll, Bool.decide_and, Bool.and_true]; rfl)
end
section
variable {a b c d e : PD}
theorem len_t2 : gLen [.tuple [a, b]] = .ok (.int 2) := rfl
theorem len_t3 : gLen [.tuple [a, b, c]] = .ok (.int 3) := rfl
theorem len_t1 : gLen [.tuple [a]] = .ok (.int 1) := rfl
theorem len_t4 : gLen [.tuple [a, b, c, d]] = .ok (.int 4) := rfl
end
/-- range(0, n, 2) -/
theorem r3_2 {n : Int} (h0 : 0 ≤ n) (h1 : n < 2 ^ 40) : ∃ m : Nat, gR3 [.int 0, .int n, .int 2] = .ok (rng3 0 2 m) ∧ ∀ i : Nat, i < m → 2 * (i : Int) < n := by
  have hs : Builtin.Range.small 0 n 2 = true := by
    unfold Builtin.Range.small Builtin.Range.rangeSize Builtin.Range.rangeFitsLong
    by_cases h : 0 < n
    · simp [h]
      omega
    · have : n = 0 := by omega
      subst this
      decide
  have hz : 0 ≤ Builtin.Range.rangeSize 0 n 2 := by
    unfold Builtin.Range.rangeSize
    simp
    split <;> omega
  refine ⟨(Builtin.Range.rangeSize 0 n 2).toNat, ?_, fun i hi => ?_⟩
  · unfold gR3
    exact if_pos ⟨by decide, by decide, hs, hz⟩
  · unfold Builtin.Range.rangeSize at hi
    simp at hi
    split at hi <;> omega
/-! in, of numbers -/
theorem eqvI_any {d : Int} : ∀ zs : List Int, ((zs.map PyData.int).any fun y => PyData.eqv y (.int d)) = zs.any fun y => y == d
  | [] => rfl
  | z :: zs => by
    show (PyData.eqv (.int z) (.int d) || (zs.map PyData.int).any fun y => PyData.eqv y (.int d)) = (z == d || zs.any fun y => y == d)
    rw [eqvI_any zs]
    rfl
theorem flatI_all : ∀ zs : List Int, (zs.map PyData.int).all flatD = true
  | [] => rfl
  | z :: zs => flatI_all zs
theorem in_t {d : Int} {zs : List Int} {neg : Bool} : gIn neg (.int d) (.tuple (zs.map PyData.int)) = .ok (.bool ((zs.any fun y => y == d) != neg)) := by
  have : inL (.int d) (zs.map PyData.int) = .ok (zs.any fun y => y == d) := by
    unfold inL
    rw [if_pos ⟨rfl, flatI_all zs⟩, eqvI_any]
  show (inL (.int d) (zs.map PyData.int)).bind _ = _
  rw [this]
  rfl
theorem in_l {d : Int} {zs : List Int} {neg : Bool} : gIn neg (.int d) (.list (zs.map PyData.int)) = .ok (.bool ((zs.any fun y => y == d) != neg)) := by
  have : inL (.int d) (zs.map PyData.int) = .ok (zs.any fun y => y == d) := by
    unfold inL
    rw [if_pos ⟨rfl, flatI_all zs⟩, eqvI_any]
  show (inL (.int d) (zs.map PyData.int)).bind _ = _
  rw [this]
  rfl
/-- the ninety roots -/
def rootsL : List Int := ((List.range 98).map fun i => (2 : Int) + (i : Nat)).filter fun d => !([4, 9, 16, 25, 36, 49, 64, 81].any fun y => y == d)
theorem roots_lc {i : Nat} {f : En → R PD} {t : En → R Bool} {ρ : En} (hf : ∀ d : Int, f (ρ.set i (some (.d (.int d)))) = .ok (.int d)) (ht : ∀ d : Int, t (ρ.set i (some (.d (.int d)))) = .ok (([4, 9, 16, 25, 36, 49, 64, 81].any fun y => y == d) != true)) :
    lcL (.one i) t f ρ (rng 2 98) = .ok (rootsL.map PyData.int) := by
  rw [lcL_filter (fun d => match d with
    | .int z => !([4, 9, 16, 25, 36, 49, 64, 81].any fun y => y == z)
    | _ => false) id]
  · rw [List.map_id]
    unfold rng rootsL
    rw [List.filter_map, List.filter_map]
    rw [List.map_map]
    rfl
  · intro d hd
    unfold rng at hd
    obtain ⟨k, _, rfl⟩ := List.mem_map.mp hd
    refine ⟨_, rfl, ?_, fun _ => hf _⟩
    rw [ht]
    simp
theorem r2_roots : gR2 [.int 2, .int 100] = .ok (rng 2 98) := rfl
theorem rootsL_len : rootsL.length = 90 := by decide
end DL

set_option Elab.async false
set_option linter.all false
set_option maxRecDepth 100000
set_option maxHeartbeats 4000000
set_option autoImplicit false
namespace DL
open PySem L2
noncomputable def den_shown_fraction : En → Fl := sSeq (sIf (dT (d2 gEq (d2 gIx (dV 0) (dC (.int 1))) (dC (.int 1)))) (sRet (dA gStr (dCons (d2 gIx (dV 0) (dC (.int 0))) (dNil)))) (sNx)) (sRet (d2 gAdd (d2 gAdd (dA gStr (dCons (d2 gIx (dV 0) (dC (.int 0))) (dNil))) (dC (.str "/"))) (dA gStr (dCons (d2 gIx (dV 0) (dC (.int 1))) (dNil)))))
noncomputable def m_shown_fraction : List PD → R PD := fnD 1 den_shown_fraction
theorem mm_shown_fraction : m_shown_fraction = fnD 1 den_shown_fraction := rfl
noncomputable def den_law_mixed : En → Fl := sRet (d2 gMod (d2 gMul (d2 gAdd (d2 gMod (dV 0) (dC (.int 2147483647))) (dC (.int 11))) (d2 gAdd (dC (.int 48271)) (d2 gMul (d2 gMul (dC (.int 2)) (dV 1)) (dV 1)))) (dC (.int 2147483629)))
noncomputable def m_law_mixed : List PD → R PD := fnD 2 den_law_mixed
theorem mm_law_mixed : m_law_mixed = fnD 2 den_law_mixed := rfl
noncomputable def lt1_law_divisor_v2 : En → R Bool := dT (d2 gNe (dV 1) (dC (.int 0)))
noncomputable def lb1_law_divisor_v2 : En → Fl := sPar 0 1 (dV 1) (d2 gMod (dV 0) (dV 1))
noncomputable def den_law_divisor_v2 : En → Fl := sSeq (sWhile lt1_law_divisor_v2 lb1_law_divisor_v2) (sRet (dV 0))
noncomputable def m_law_divisor_v2 : List PD → R PD := fnD 2 den_law_divisor_v2
theorem mm_law_divisor_v2 : m_law_divisor_v2 = fnD 2 den_law_divisor_v2 := rfl
noncomputable def den_law_fraction_v2 : En → Fl := sSeq (sSet 2 (d2 gSub (d2 gMod (d2 gDiv (dV 0) (dC (.int 7))) (dC (.int 41))) (dC (.int 20)))) (sSeq (sSet 3 (d2 gIx (dA gLstD (dCons (dC (.int 1)) (dCons (dC (.int 1)) (dCons (dC (.int 2)) (dCons (dC (.int 3)) (dCons (dC (.int 4)) (dCons (dC (.int 6)) (dCons (dC (.int 12)) (dNil))))))))) (d2 gMod (dV 0) (dC (.int 7))))) (sSeq (sIf (dAnd (dT (dV 1)) (dT (d2 gEq (d2 gMod (d2 gDiv (dV 0) (dC (.int 287))) (dC (.int 3))) (dC (.int 0))))) (sSeq (sSet 2 (d2 gMul (d2 gSub (d2 gMul (dV 0) (dC (.int 465661287))) (d2 gPow (dC (.int 10)) (dC (.int 18)))) (d2 gAdd (d2 gPow (dC (.int 10)) (dC (.int 12))) (d2 gMod (dV 0) (dC (.int 7919)))))) (sSet 3 (d2 gAdd (dC (.int 1)) (d2 gMod (d2 gMul (dV 0) (dC (.int 69621))) (d2 gPow (dC (.int 10)) (dC (.int 12))))))) (sNx)) (sSeq (sSet 4 (dA (gCall 2 [] m_law_divisor_v2) (dCons (dA gAbs (dCons (dV 2) (dNil))) (dCons (dV 3) (dNil))))) (sRet (dA gTupD (dCons (d2 gDiv (dV 2) (dV 4)) (dCons (d2 gDiv (dV 3) (dV 4)) (dNil))))))))
noncomputable def m_law_fraction_v2 : List PD → R PD := fnD 5 den_law_fraction_v2
theorem mm_law_fraction_v2 : m_law_fraction_v2 = fnD 5 den_law_fraction_v2 := rfl
noncomputable def lt1_law_digits_v2 : En → R Bool := dT (d2 gGt (dV 0) (dC (.int 9)))
noncomputable def lb1_law_digits_v2 : En → Fl := sSeq (sSet 1 (d2 gAdd (d2 gIx (dC (.str "0123456789")) (d2 gMod (dV 0) (dC (.int 10)))) (dV 1))) (sSet 0 (d2 gDiv (dV 0) (dC (.int 10))))
noncomputable def den_law_digits_v2 : En → Fl := sSeq (sSet 1 (dC (.str ""))) (sSeq (sWhile lt1_law_digits_v2 lb1_law_digits_v2) (sRet (d2 gAdd (d2 gIx (dC (.str "0123456789")) (dV 0)) (dV 1))))
noncomputable def m_law_digits_v2 : List PD → R PD := fnD 2 den_law_digits_v2
theorem mm_law_digits_v2 : m_law_digits_v2 = fnD 2 den_law_digits_v2 := rfl
noncomputable def lb1_law_k21 : En → Fl := sSeq (sAsg (.many [2, 3]) (dA (gCall 2 [] m_law_fraction_v2) (dCons (dA (gCall 2 [] m_law_mixed) (dCons (d2 gIx (dV 0) (dV 1)) (dCons (dV 1) (dNil)))) (dCons (dC (.bool true)) (dNil))))) (sSeq (sSet 4 (d2 gAdd (d2 gIx (dA gLstD (dCons (dC (.str "")) (dCons (dC (.str "-")) (dNil)))) (dA gInt (dCons (d2 gLt (dV 2) (dC (.int 0))) (dNil)))) (dA (gCall 1 [] m_law_digits_v2) (dCons (dA gAbs (dCons (dV 2) (dNil))) (dNil))))) (sSeq (sIf (dT (d2 gGt (dV 3) (dC (.int 1)))) (sSet 4 (d2 gAdd (d2 gAdd (dV 4) (dC (.str "/"))) (dA (gCall 1 [] m_law_digits_v2) (dCons (dV 3) (dNil))))) (sNx)) (sSeq (sSet 5 (dA (gCall 1 [] m_shown_fraction) (dCons (dA gTupD (dCons (dV 2) (dCons (dV 3) (dNil)))) (dNil)))) (sIf (dOr (dNot (dT (d1 (gIsi "str") (dV 5)))) (dT (d2 gNe (dV 5) (dV 4)))) (sRet (dC (.bool false))) (sNx)))))
noncomputable def den_law_k21 : En → Fl := sSeq (sFor (iA gR1 (dCons (dA gMin (dCons (dA gLen (dCons (dV 0) (dNil))) (dCons (dC (.int 84)) (dNil)))) (dNil))) (.one 1) lb1_law_k21) (sRet (dAndV (d2 gEq (dA (gCall 1 [] m_shown_fraction) (dCons (dA gTupD (dCons (dC (.int 0)) (dCons (dC (.int 1)) (dNil)))) (dNil))) (dC (.str "0"))) (d2 gEq (dA (gCall 1 [] m_shown_fraction) (dCons (dA gTupD (dCons (d1 gNeg (dC (.int 1))) (dCons (dC (.int 2)) (dNil)))) (dNil))) (dC (.str "-1/2")))))
noncomputable def m_law_k21 : List PD → R PD := fnD 6 den_law_k21
theorem mm_law_k21 : m_law_k21 = fnD 6 den_law_k21 := rfl
noncomputable def den_is_whole : En → Fl := sRet (dAndV (d1 (gIsi "int") (dV 0)) (dNotV (d1 (gIsi "bool") (dV 0))))
noncomputable def m_is_whole : List PD → R PD := fnD 1 den_is_whole
theorem mm_is_whole : m_is_whole = fnD 1 den_is_whole := rfl
noncomputable def lt1_divisor : En → R Bool := dT (d2 gNe (dV 1) (dC (.int 0)))
noncomputable def lb1_divisor : En → Fl := sPar 0 1 (dV 1) (d2 gMod (dV 0) (dV 1))
noncomputable def den_divisor : En → Fl := sSeq (sWhile lt1_divisor lb1_divisor) (sRet (dA gAbs (dCons (dV 0) (dNil))))
noncomputable def m_divisor : List PD → R PD := fnD 2 den_divisor
theorem mm_divisor : m_divisor = fnD 2 den_divisor := rfl
noncomputable def den_lowest : En → Fl := sSeq (sSet 3 (dA (gCall 2 [] m_divisor) (dCons (dA (gCall 2 [] m_divisor) (dCons (dV 0) (dCons (dV 1) (dNil)))) (dCons (dV 2) (dNil))))) (sSeq (sIf (dT (d2 gLt (dV 2) (dC (.int 0)))) (sSet 3 (d2 gSub (dC (.int 0)) (dV 3))) (sNx)) (sRet (dA gTupD (dCons (d2 gDiv (dV 0) (dV 3)) (dCons (d2 gDiv (dV 1) (dV 3)) (dCons (d2 gDiv (dV 2) (dV 3)) (dNil)))))))
noncomputable def m_lowest : List PD → R PD := fnD 4 den_lowest
theorem mm_lowest : m_lowest = fnD 4 den_lowest := rfl
noncomputable def den_length : En → Fl := sSeq (sIf (dOr (dNot (dT (dA (gCall 1 [] m_is_whole) (dCons (dV 0) (dNil))))) (dOr (dNot (dT (dA (gCall 1 [] m_is_whole) (dCons (dV 1) (dNil))))) (dOr (dNot (dT (dA (gCall 1 [] m_is_whole) (dCons (dV 2) (dNil))))) (dT (d2 gEq (dV 2) (dC (.int 0))))))) (sRaise "NoLength") (sNx)) (sRet (dA (gCall 3 [] m_lowest) (dCons (dV 0) (dCons (dV 1) (dCons (dV 2) (dNil))))))
noncomputable def m_length : List PD → R PD := fnD 3 den_length
theorem mm_length : m_length = fnD 3 den_length := rfl
noncomputable def den_law_whole : En → Fl := sRet (dAndV (d1 (gIsi "int") (dV 0)) (dNotV (d1 (gIsi "bool") (dV 0))))
noncomputable def m_law_whole : List PD → R PD := fnD 1 den_law_whole
theorem mm_law_whole : m_law_whole = fnD 1 den_law_whole := rfl
noncomputable def den_law_great : En → Fl := sSeq (sSet 2 (d2 gMul (d2 gAdd (d2 gAdd (dV 0) (dV 1)) (dC (.int 1))) (dC (.int 105152070229383420083013462309641843003)))) (sRet (d2 gMod (dV 2) (dC (.int 170141183460469231731687303715884105727))))
noncomputable def m_law_great : List PD → R PD := fnD 3 den_law_great
theorem mm_law_great : m_law_great = fnD 3 den_law_great := rfl
noncomputable def lt1_law_divisor : En → R Bool := dT (d2 gGt (dV 1) (dC (.int 0)))
noncomputable def lb1_law_divisor : En → Fl := sPar 0 1 (dV 1) (d2 gMod (dV 0) (dV 1))
noncomputable def den_law_divisor : En → Fl := sSeq (sSet 0 (dA gAbs (dCons (dV 0) (dNil)))) (sSeq (sSet 1 (dA gAbs (dCons (dV 1) (dNil)))) (sSeq (sWhile lt1_law_divisor lb1_law_divisor) (sRet (dV 0))))
noncomputable def m_law_divisor : List PD → R PD := fnD 2 den_law_divisor
theorem mm_law_divisor : m_law_divisor = fnD 2 den_law_divisor := rfl
noncomputable def den_law_number : En → Fl := sSeq (sSet 3 (dA (gCall 2 [] m_law_great) (dCons (dV 0) (dCons (dV 1) (dNil))))) (sSeq (sIf (dT (d2 gEq (d2 gMod (dV 3) (dC (.int 40))) (dC (.int 0)))) (sSeq (sSet 4 (d2 gMul (d2 gPow (dC (.int 10)) (dC (.int 40))) (d2 gPow (dV 2) (dC (.int 8))))) (sRet (d2 gAdd (d2 gSub (d2 gMod (d2 gPow (d2 gDiv (dV 3) (dC (.int 40))) (dC (.int 10))) (d2 gSub (d2 gMul (dC (.int 2)) (dV 4)) (dC (.int 1)))) (dV 4)) (dC (.int 1))))) (sNx)) (sSeq (sIf (dT (d2 gEq (d2 gMod (dV 3) (dC (.int 5))) (dC (.int 0)))) (sRet (d2 gSub (d2 gMod (d2 gMul (d2 gDiv (dV 3) (dC (.int 5))) (dV 3)) (d2 gSub (d2 gMul (dC (.int 2)) (dV 2)) (dC (.int 1)))) (d2 gSub (dV 2) (dC (.int 1))))) (sNx)) (sSeq (sIf (dT (d2 gEq (d2 gMod (dV 3) (dC (.int 5))) (dC (.int 1)))) (sRet (d2 gSub (d2 gMod (d2 gDiv (dV 3) (dC (.int 5))) (dC (.int 2001))) (dC (.int 1000)))) (sNx)) (sSeq (sIf (dT (d2 gEq (d2 gMod (dV 3) (dC (.int 5))) (dC (.int 2)))) (sRet (d2 gIx (dA gLstD (dCons (dC (.int 0)) (dCons (dC (.int 1)) (dCons (d1 gNeg (dC (.int 1))) (dCons (dC (.int 12)) (dCons (d1 gNeg (dC (.int 60))) (dCons (d2 gDiv (dV 2) (dC (.int 10))) (dNil)))))))) (d2 gMod (d2 gDiv (dV 3) (dC (.int 5))) (dC (.int 6))))) (sNx)) (sRet (d2 gSub (d2 gMod (d2 gDiv (dV 3) (dC (.int 5))) (dC (.int 25))) (dC (.int 12))))))))
noncomputable def m_law_number : List PD → R PD := fnD 5 den_law_number
theorem mm_law_number : m_law_number = fnD 5 den_law_number := rfl
noncomputable def den_law_stands : En → Fl := sSeq (sIf (dOr (dNot (dT (d1 (gIsi "tuple") (dV 0)))) (dT (d2 gNe (dA gLen (dCons (dV 0) (dNil))) (dC (.int 3))))) (sRet (dC (.bool false))) (sNx)) (sSeq (sIf (dOr (dNot (dT (dA (gCall 1 [] m_law_whole) (dCons (d2 gIx (dV 0) (dC (.int 0))) (dNil))))) (dOr (dNot (dT (dA (gCall 1 [] m_law_whole) (dCons (d2 gIx (dV 0) (dC (.int 1))) (dNil))))) (dOr (dNot (dT (dA (gCall 1 [] m_law_whole) (dCons (d2 gIx (dV 0) (dC (.int 2))) (dNil))))) (dT (d2 gLt (d2 gIx (dV 0) (dC (.int 2))) (dC (.int 1))))))) (sRet (dC (.bool false))) (sNx)) (sSeq (sIf (dT (d2 gNe (dA (gCall 2 [] m_law_divisor) (dCons (dA (gCall 2 [] m_law_divisor) (dCons (d2 gIx (dV 0) (dC (.int 0))) (dCons (d2 gIx (dV 0) (dC (.int 1))) (dNil)))) (dCons (d2 gIx (dV 0) (dC (.int 2))) (dNil)))) (dC (.int 1)))) (sRet (dC (.bool false))) (sNx)) (sRet (dAndV (d2 gEq (d2 gMul (d2 gIx (dV 0) (dC (.int 0))) (dV 3)) (d2 gMul (dV 1) (d2 gIx (dV 0) (dC (.int 2))))) (d2 gEq (d2 gMul (d2 gIx (dV 0) (dC (.int 1))) (dV 3)) (d2 gMul (dV 2) (d2 gIx (dV 0) (dC (.int 2)))))))))
noncomputable def m_law_stands : List PD → R PD := fnD 4 den_law_stands
theorem mm_law_stands : m_law_stands = fnD 4 den_law_stands := rfl
noncomputable def den_added : En → Fl := sSeq (sSet 2 (d2 gMul (d2 gIx (dV 0) (dC (.int 2))) (d2 gIx (dV 1) (dC (.int 2))))) (sRet (dA (gCall 3 [] m_lowest) (dCons (d2 gAdd (d2 gMul (d2 gIx (dV 0) (dC (.int 0))) (d2 gIx (dV 1) (dC (.int 2)))) (d2 gMul (d2 gIx (dV 1) (dC (.int 0))) (d2 gIx (dV 0) (dC (.int 2))))) (dCons (d2 gAdd (d2 gMul (d2 gIx (dV 0) (dC (.int 1))) (d2 gIx (dV 1) (dC (.int 2)))) (d2 gMul (d2 gIx (dV 1) (dC (.int 1))) (d2 gIx (dV 0) (dC (.int 2))))) (dCons (dV 2) (dNil))))))
noncomputable def m_added : List PD → R PD := fnD 3 den_added
theorem mm_added : m_added = fnD 3 den_added := rfl
noncomputable def den_taken : En → Fl := sRet (dA (gCall 2 [] m_added) (dCons (dV 0) (dCons (dA gTupD (dCons (d2 gSub (dC (.int 0)) (d2 gIx (dV 1) (dC (.int 0)))) (dCons (d2 gSub (dC (.int 0)) (d2 gIx (dV 1) (dC (.int 1)))) (dCons (d2 gIx (dV 1) (dC (.int 2))) (dNil))))) (dNil))))
noncomputable def m_taken : List PD → R PD := fnD 2 den_taken
theorem mm_taken : m_taken = fnD 2 den_taken := rfl
noncomputable def den_law_lowest : En → Fl := sSeq (sSet 3 (dA (gCall 2 [] m_law_divisor) (dCons (dA (gCall 2 [] m_law_divisor) (dCons (dV 0) (dCons (dV 1) (dNil)))) (dCons (dV 2) (dNil))))) (sSeq (sIf (dT (d2 gLt (dV 2) (dC (.int 0)))) (sSet 3 (d2 gSub (dC (.int 0)) (dV 3))) (sNx)) (sRet (dA gTupD (dCons (d2 gDiv (dV 0) (dV 3)) (dCons (d2 gDiv (dV 1) (dV 3)) (dCons (d2 gDiv (dV 2) (dV 3)) (dNil)))))))
noncomputable def m_law_lowest : List PD → R PD := fnD 4 den_law_lowest
theorem mm_law_lowest : m_law_lowest = fnD 4 den_law_lowest := rfl
noncomputable def den_law_same : En → Fl := sSeq (sIf (dOr (dNot (dT (d1 (gIsi "tuple") (dV 0)))) (dT (d2 gNe (dA gLen (dCons (dV 0) (dNil))) (dC (.int 3))))) (sRet (dC (.bool false))) (sNx)) (sSeq (sIf (dOr (dNot (dT (dA (gCall 1 [] m_law_whole) (dCons (d2 gIx (dV 0) (dC (.int 0))) (dNil))))) (dOr (dNot (dT (dA (gCall 1 [] m_law_whole) (dCons (d2 gIx (dV 0) (dC (.int 1))) (dNil))))) (dNot (dT (dA (gCall 1 [] m_law_whole) (dCons (d2 gIx (dV 0) (dC (.int 2))) (dNil))))))) (sRet (dC (.bool false))) (sNx)) (sRet (d2 gEq (dV 0) (dV 1))))
noncomputable def m_law_same : List PD → R PD := fnD 2 den_law_same
theorem mm_law_same : m_law_same = fnD 2 den_law_same := rfl
noncomputable def den_law_length : En → Fl := sSeq (sSet 3 (dA (gCall 3 [] m_law_number) (dCons (dV 0) (dCons (dV 1) (dCons (dV 2) (dNil)))))) (sSeq (sSet 4 (dA (gCall 3 [] m_law_number) (dCons (dV 0) (dCons (d2 gAdd (dV 1) (dC (.int 10))) (dCons (dV 2) (dNil)))))) (sSeq (sSet 5 (d2 gAdd (dC (.int 1)) (dA gAbs (dCons (dA (gCall 3 [] m_law_number) (dCons (dV 0) (dCons (d2 gAdd (dV 1) (dC (.int 20))) (dCons (d2 gDiv (dV 2) (dC (.int 10))) (dNil))))) (dNil))))) (sRet (dA (gCall 3 [] m_law_lowest) (dCons (dV 3) (dCons (dV 4) (dCons (dV 5) (dNil))))))))
noncomputable def m_law_length : List PD → R PD := fnD 6 den_law_length
theorem mm_law_length : m_law_length = fnD 6 den_law_length := rfl
noncomputable def den_law_sum : En → Fl := sSeq (sSet 3 (d2 gAdd (d2 gMul (d2 gIx (dV 0) (dC (.int 0))) (d2 gIx (dV 1) (dC (.int 2)))) (d2 gMul (d2 gMul (dV 2) (d2 gIx (dV 1) (dC (.int 0)))) (d2 gIx (dV 0) (dC (.int 2)))))) (sSeq (sSet 4 (d2 gAdd (d2 gMul (d2 gIx (dV 0) (dC (.int 1))) (d2 gIx (dV 1) (dC (.int 2)))) (d2 gMul (d2 gMul (dV 2) (d2 gIx (dV 1) (dC (.int 1)))) (d2 gIx (dV 0) (dC (.int 2)))))) (sRet (dA (gCall 3 [] m_law_lowest) (dCons (dV 3) (dCons (dV 4) (dCons (d2 gMul (d2 gIx (dV 0) (dC (.int 2))) (d2 gIx (dV 1) (dC (.int 2)))) (dNil)))))))
noncomputable def m_law_sum : List PD → R PD := fnD 5 den_law_sum
theorem mm_law_sum : m_law_sum = fnD 5 den_law_sum := rfl
noncomputable def den_fraction : En → Fl := sSeq (sSet 2 (dA (gCall 2 [] m_divisor) (dCons (dV 0) (dCons (dV 1) (dNil))))) (sSeq (sIf (dT (d2 gLt (dV 1) (dC (.int 0)))) (sSet 2 (d2 gSub (dC (.int 0)) (dV 2))) (sNx)) (sRet (dA gTupD (dCons (d2 gDiv (dV 0) (dV 2)) (dCons (d2 gDiv (dV 1) (dV 2)) (dNil))))))
noncomputable def m_fraction : List PD → R PD := fnD 3 den_fraction
theorem mm_fraction : m_fraction = fnD 3 den_fraction := rfl
noncomputable def den_parts : En → Fl := sRet (dA gTupD (dCons (dA (gCall 2 [] m_fraction) (dCons (d2 gIx (dV 0) (dC (.int 0))) (dCons (d2 gIx (dV 0) (dC (.int 2))) (dNil)))) (dCons (dA (gCall 2 [] m_fraction) (dCons (d2 gIx (dV 0) (dC (.int 1))) (dCons (d2 gIx (dV 0) (dC (.int 2))) (dNil)))) (dNil))))
noncomputable def m_parts : List PD → R PD := fnD 1 den_parts
theorem mm_parts : m_parts = fnD 1 den_parts := rfl
noncomputable def den_by_parts : En → Fl := sRet (dA (gCall 3 [] m_lowest) (dCons (d2 gMul (d2 gIx (dV 0) (dC (.int 0))) (d2 gIx (dV 1) (dC (.int 1)))) (dCons (d2 gMul (d2 gIx (dV 1) (dC (.int 0))) (d2 gIx (dV 0) (dC (.int 1)))) (dCons (d2 gMul (d2 gIx (dV 0) (dC (.int 1))) (d2 gIx (dV 1) (dC (.int 1)))) (dNil)))))
noncomputable def m_by_parts : List PD → R PD := fnD 2 den_by_parts
theorem mm_by_parts : m_by_parts = fnD 2 den_by_parts := rfl
noncomputable def den_law_is_fraction : En → Fl := sSeq (sIf (dOr (dNot (dT (d1 (gIsi "tuple") (dV 0)))) (dOr (dT (d2 gNe (dA gLen (dCons (dV 0) (dNil))) (dC (.int 2)))) (dOr (dNot (dT (dA (gCall 1 [] m_law_whole) (dCons (d2 gIx (dV 0) (dC (.int 0))) (dNil))))) (dNot (dT (dA (gCall 1 [] m_law_whole) (dCons (d2 gIx (dV 0) (dC (.int 1))) (dNil)))))))) (sRet (dC (.bool false))) (sNx)) (sSeq (sIf (dOr (dT (d2 gLt (d2 gIx (dV 0) (dC (.int 1))) (dC (.int 1)))) (dT (d2 gNe (dA (gCall 2 [] m_law_divisor) (dCons (d2 gIx (dV 0) (dC (.int 0))) (dCons (d2 gIx (dV 0) (dC (.int 1))) (dNil)))) (dC (.int 1))))) (sRet (dC (.bool false))) (sNx)) (sRet (d2 gEq (d2 gMul (d2 gIx (dV 0) (dC (.int 0))) (dV 2)) (d2 gMul (dV 1) (d2 gIx (dV 0) (dC (.int 1)))))))
noncomputable def m_law_is_fraction : List PD → R PD := fnD 3 den_law_is_fraction
theorem mm_law_is_fraction : m_law_is_fraction = fnD 3 den_law_is_fraction := rfl
end DL

set_option autoImplicit false
set_option linter.all false
/-! plain arithmetic: fractions and lengths in lowest terms -/
namespace MB
theorem ratne {b : Int} (h : b ≠ 0) : (b : Rat) ≠ 0 := by
  intro e
  exact h (by exact_mod_cast e)
theorem rnum (q : Rat) : (q.num : Rat) = q * ((q.den : Int) : Rat) := by
  have h : ((q.den : Int) : Rat) ≠ 0 := ratne (by have := q.den_nz; omega)
  have h1 := Rat.num_divInt_den q
  rw [Rat.divInt_eq_div] at h1
  grind
theorem rdpos (q : Rat) : 0 < (q.den : Int) := by exact_mod_cast q.den_pos
theorem rgcd (q : Rat) : Int.gcd q.num q.den = 1 := by
  have := q.reduced
  simpa [Int.gcd, Nat.Coprime] using this
theorem dvd_of_gcd {a b c : Int} (h : a ∣ b * c) (g : Int.gcd a c = 1) : a ∣ b := by
  have : a ∣ (Int.gcd a c : Int) * b := Int.dvd_gcd_mul_iff_dvd_mul.mpr (by rw [Int.mul_comm]; exact h)
  rw [g] at this
  simpa using this
/-- two fractions in lowest terms, of one worth, are one -/
theorem fr_uniq {a b : Int} {q : Rat} (hb : 0 < b) (hg : Int.gcd a b = 1) (h : q = (a : Rat) / (b : Rat)) : q.num = a ∧ (q.den : Int) = b := by
  have hb0 : (b : Rat) ≠ 0 := ratne (by omega)
  have h1 : q * (b : Rat) = a := by grind
  have h2 := rnum q
  have e : q.num * b = a * q.den := by
    have : ((q.num * b : Int) : Rat) = ((a * (q.den : Int) : Int) : Rat) := by
      rw [Rat.intCast_mul, Rat.intCast_mul, h2]
      grind
    exact_mod_cast this
  have hq := rdpos q
  have hq1 := rgcd q
  have d1 : (q.den : Int) ∣ b := by
    have : (q.den : Int) ∣ b * q.num := ⟨a, by rw [Int.mul_comm, e, Int.mul_comm]⟩
    exact dvd_of_gcd this (by rw [Int.gcd_comm]; exact hq1)
  have d2 : b ∣ (q.den : Int) := by
    have : b ∣ q.den * a := ⟨q.num, by rw [Int.mul_comm, ← e, Int.mul_comm]⟩
    exact dvd_of_gcd this (by rw [Int.gcd_comm]; exact hg)
  have eb : (q.den : Int) = b := Int.dvd_antisymm (by omega) (by omega) d1 d2
  refine ⟨?_, eb⟩
  rw [eb] at e
  exact Int.eq_of_mul_eq_mul_right (by omega) e
/-- divided by a divisor -/
theorem fdiv_dvd {a g : Int} (hg : g ≠ 0) (h : g ∣ a) : a.fdiv g * g = a := by
  rw [Int.fdiv_eq_ediv_of_dvd h]
  exact Int.ediv_mul_cancel h
/-- the sign's share -/
def shr (g : Nat) (n : Int) : Int := if n < 0 then 0 - (g : Int) else g
theorem shr_ne {g : Nat} {n : Int} (h : g ≠ 0) : shr g n ≠ 0 := by unfold shr; split <;> omega
theorem shr_dvd {g : Nat} {n a : Int} (h : (g : Int) ∣ a) : shr g n ∣ a := by
  unfold shr
  split
  · rw [Int.zero_sub]; exact Int.neg_dvd.mpr h
  · exact h
theorem gcd_fdiv {a b : Int} {g : Nat} {n : Int} (hg : g ≠ 0) (ha : (g : Int) ∣ a) (hb : (g : Int) ∣ b) : Int.gcd (a.fdiv (shr g n)) (b.fdiv (shr g n)) * g = Int.gcd a b := by
  have e1 := fdiv_dvd (shr_ne (n := n) hg) (shr_dvd (n := n) ha)
  have e2 := fdiv_dvd (shr_ne (n := n) hg) (shr_dvd (n := n) hb)
  have : Int.gcd (a.fdiv (shr g n) * shr g n) (b.fdiv (shr g n) * shr g n) = Int.gcd a b := by rw [e1, e2]
  rw [Int.gcd_mul_right] at this
  have hs : (shr g n).natAbs = g := by unfold shr; split <;> omega
  rw [hs] at this
  exact this
theorem fdiv_pos {n : Int} {g : Nat} (hg : g ≠ 0) (hn : n ≠ 0) (h : (g : Int) ∣ n) : 0 < n.fdiv (shr g n) := by
  have e := fdiv_dvd (shr_ne (n := n) hg) (shr_dvd (n := n) h)
  generalize n.fdiv (shr g n) = k at e
  unfold shr at e
  have hg' : (0 : Int) < g := by omega
  rcases Int.lt_trichotomy k 0 with hk | hk | hk
  · exfalso
    split at e
    · have : 0 < k * (0 - (g : Int)) := Int.mul_pos_of_neg_of_neg hk (by omega)
      omega
    · have := Int.mul_neg_of_neg_of_pos hk hg'
      omega
  · subst hk
    exfalso
    rw [Int.zero_mul] at e
    omega
  · exact hk
/-- a fraction brought to lowest terms -/
theorem fr_of {a b : Int} (hb : b ≠ 0) : a.fdiv (shr (Int.gcd a b) b) = ((a : Rat) / (b : Rat)).num ∧ b.fdiv (shr (Int.gcd a b) b) = (((a : Rat) / (b : Rat)).den : Int) := by
  have hg : Int.gcd a b ≠ 0 := by
    intro e
    exact hb (Int.gcd_eq_zero_iff.mp e).2
  have ha' := Int.gcd_dvd_left a b
  have hb' := Int.gcd_dvd_right a b
  have e1 := fdiv_dvd (shr_ne (n := b) hg) (shr_dvd (n := b) ha')
  have e2 := fdiv_dvd (shr_ne (n := b) hg) (shr_dvd (n := b) hb')
  have hp := fdiv_pos hg hb hb'
  have hs := shr_ne (n := b) hg
  have hgg := gcd_fdiv (n := b) hg ha' hb'
  generalize shr (Int.gcd a b) b = s at *
  generalize a.fdiv s = A at *
  generalize b.fdiv s = B at *
  have hone : Int.gcd A B = 1 := by
    have : Int.gcd A B * Int.gcd a b = 1 * Int.gcd a b := by rw [hgg, Nat.one_mul]
    exact Nat.eq_of_mul_eq_mul_right (by omega) this
  have hB : (B : Rat) ≠ 0 := ratne (by omega)
  have hS : (s : Rat) ≠ 0 := ratne hs
  have h := fr_uniq (q := (a : Rat) / (b : Rat)) hp hone (by
    rw [← e1, ← e2, Rat.intCast_mul, Rat.intCast_mul]
    grind)
  exact ⟨h.1.symm, h.2.symm⟩

/-! ### lengths -/
structure Ln where
  a : Int
  b : Int
  n : Int
/-- in lowest terms -/
def Low (a b n : Int) : Prop := 0 < n ∧ Int.gcd (Int.gcd a b) n = 1
theorem gcd3_mul {a b n : Int} {k : Int} : Int.gcd (Int.gcd (a * k) (b * k)) (n * k) = Int.gcd (Int.gcd a b) n * k.natAbs := by
  rw [Int.gcd_mul_right]
  have : ((Int.gcd a b * k.natAbs : Nat) : Int) = (Int.gcd a b : Int) * (k.natAbs : Int) := by push_cast; rfl
  rw [this]
  have e : Int.gcd ((Int.gcd a b : Int) * (k.natAbs : Int)) (n * k) = Int.gcd ((Int.gcd a b : Int) * k) (n * k) := by
    simp only [Int.gcd, Int.natAbs_mul, Int.natAbs_natCast]
  rw [e, Int.gcd_mul_right]
theorem low_uniq {a b n a' b' n' : Int} (h : Low a b n) (h' : Low a' b' n') (e1 : a * n' = a' * n) (e2 : b * n' = b' * n) : a = a' ∧ b = b' ∧ n = n' := by
  have g1 := gcd3_mul (a := a) (b := b) (n := n) (k := n')
  have g2 := gcd3_mul (a := a') (b := b') (n := n') (k := n)
  rw [h.2] at g1
  rw [h'.2] at g2
  rw [e1, e2, Int.mul_comm n n'] at g1
  have : n'.natAbs = n.natAbs := by omega
  have hn := h.1
  have hn' := h'.1
  have en : n = n' := by omega
  subst en
  exact ⟨Int.eq_of_mul_eq_mul_right (by omega) e1, Int.eq_of_mul_eq_mul_right (by omega) e2, rfl⟩
/-- the number that all three are divided by -/
def g3 (a b n : Int) : Nat := Int.gcd (Int.gcd a b) n
def lA (a b n : Int) : Int := a.fdiv (shr (g3 a b n) n)
def lB (a b n : Int) : Int := b.fdiv (shr (g3 a b n) n)
def lN (a b n : Int) : Int := n.fdiv (shr (g3 a b n) n)
theorem g3_ne {a b n : Int} (hn : n ≠ 0) : g3 a b n ≠ 0 := by
  intro e
  exact hn (Int.gcd_eq_zero_iff.mp e).2
theorem g3_dvd {a b n : Int} : (g3 a b n : Int) ∣ a ∧ (g3 a b n : Int) ∣ b ∧ (g3 a b n : Int) ∣ n := by
  have h1 : (g3 a b n : Int) ∣ (Int.gcd a b : Int) := Int.gcd_dvd_left _ _
  exact ⟨Int.dvd_trans h1 (Int.gcd_dvd_left _ _), Int.dvd_trans h1 (Int.gcd_dvd_right _ _), Int.gcd_dvd_right _ _⟩
theorem lmul {a b n : Int} (hn : n ≠ 0) : lA a b n * shr (g3 a b n) n = a ∧ lB a b n * shr (g3 a b n) n = b ∧ lN a b n * shr (g3 a b n) n = n := by
  obtain ⟨h1, h2, h3⟩ := g3_dvd (a := a) (b := b) (n := n)
  have hs := shr_ne (n := n) (g3_ne (a := a) (b := b) hn)
  exact ⟨fdiv_dvd hs (shr_dvd h1), fdiv_dvd hs (shr_dvd h2), fdiv_dvd hs (shr_dvd h3)⟩
theorem low_of {a b n : Int} (hn : n ≠ 0) : Low (lA a b n) (lB a b n) (lN a b n) := by
  have hg := g3_ne (a := a) (b := b) hn
  refine ⟨fdiv_pos hg hn g3_dvd.2.2, ?_⟩
  obtain ⟨e1, e2, e3⟩ := lmul (a := a) (b := b) hn
  have h := gcd3_mul (a := lA a b n) (b := lB a b n) (n := lN a b n) (k := shr (g3 a b n) n)
  rw [e1, e2, e3] at h
  have hs : (shr (g3 a b n) n).natAbs = g3 a b n := by unfold shr; split <;> omega
  rw [hs] at h
  have h' : 1 * g3 a b n = Int.gcd (Int.gcd (lA a b n) (lB a b n)) (lN a b n) * g3 a b n := by rw [Nat.one_mul]; exact h
  exact (Nat.eq_of_mul_eq_mul_right (by omega) h').symm
theorem lcross {a b n : Int} (hn : n ≠ 0) : lA a b n * n = a * lN a b n ∧ lB a b n * n = b * lN a b n := by
  obtain ⟨e1, e2, e3⟩ := lmul (a := a) (b := b) hn
  generalize lA a b n = A at *
  generalize lB a b n = B at *
  generalize lN a b n = N at *
  generalize shr (g3 a b n) n = s at *
  subst e1 e2 e3
  constructor <;> grind
/-- lowest depends on the two fractions alone -/
theorem low_eq {a b n a' b' n' : Int} (hn : n ≠ 0) (hn' : n' ≠ 0) (e1 : a * n' = a' * n) (e2 : b * n' = b' * n) : lA a b n = lA a' b' n' ∧ lB a b n = lB a' b' n' ∧ lN a b n = lN a' b' n' := by
  obtain ⟨c1, c2⟩ := lcross (a := a) (b := b) hn
  obtain ⟨c1', c2'⟩ := lcross (a := a') (b := b') hn'
  refine low_uniq (low_of hn) (low_of hn') ?_ ?_
  · have : lA a b n * lN a' b' n' * (n * n') = lA a' b' n' * lN a b n * (n * n') := by grind
    exact Int.eq_of_mul_eq_mul_right (Int.mul_ne_zero hn hn') this
  · have : lB a b n * lN a' b' n' * (n * n') = lB a' b' n' * lN a b n * (n * n') := by grind
    exact Int.eq_of_mul_eq_mul_right (Int.mul_ne_zero hn hn') this
theorem low_self {a b n : Int} (h : Low a b n) : lA a b n = a ∧ lB a b n = b ∧ lN a b n = n := by
  have hn : n ≠ 0 := by have := h.1; omega
  have c := lcross (a := a) (b := b) hn
  exact low_uniq (low_of hn) h c.1 c.2
/-! fractions, as lengths whose second part is 0 -/
def fT (a b : Int) : Int := lA a 0 b
def fB (a b : Int) : Int := lN a 0 b
def LowF (a b : Int) : Prop := 0 < b ∧ Int.gcd a b = 1
theorem g3_zero {a b : Int} : g3 a 0 b = Int.gcd a b := by unfold g3; rw [Int.gcd_zero]; simp [Int.gcd]
theorem fT_eq {a b : Int} : fT a b = a.fdiv (shr (Int.gcd a b) b) := by unfold fT lA; rw [g3_zero]
theorem fB_eq {a b : Int} : fB a b = b.fdiv (shr (Int.gcd a b) b) := by unfold fB lN; rw [g3_zero]
theorem lowF_low {a b : Int} : LowF a b ↔ Low a 0 b := by
  unfold LowF Low
  have : Int.gcd (Int.gcd a 0) b = Int.gcd a b := g3_zero
  rw [this]
theorem lowF_of {a b : Int} (hb : b ≠ 0) : LowF (fT a b) (fB a b) := by
  rw [lowF_low]
  have h := low_of (a := a) (b := 0) hb
  have e : lB a 0 b = 0 := by unfold lB; exact Int.zero_fdiv _
  rw [e] at h
  exact h
theorem fcross {a b : Int} (hb : b ≠ 0) : fT a b * b = a * fB a b := (lcross (a := a) (b := 0) hb).1
theorem lowF_uniq {a b a' b' : Int} (h : LowF a b) (h' : LowF a' b') (e : a * b' = a' * b) : a = a' ∧ b = b' := by
  have := low_uniq (lowF_low.mp h) (lowF_low.mp h') e (by simp)
  exact ⟨this.1, this.2.2⟩
theorem lowF_eq {a b a' b' : Int} (hb : b ≠ 0) (hb' : b' ≠ 0) (e : a * b' = a' * b) : fT a b = fT a' b' ∧ fB a b = fB a' b' := by
  have := low_eq (b := 0) (b' := 0) hb hb' e (by simp)
  exact ⟨this.1, this.2.2⟩
theorem lowF_self {a b : Int} (h : LowF a b) : fT a b = a ∧ fB a b = b := by
  have := low_self (lowF_low.mp h)
  exact ⟨this.1, this.2.2⟩
theorem lowF_is {a b a' b' : Int} (hb : b ≠ 0) (h : LowF a' b') (e : a * b' = a' * b) : fT a b = a' ∧ fB a b = b' := by
  have hb' : b' ≠ 0 := by have := h.1; omega
  have h1 := lowF_eq hb hb' e
  have h2 := lowF_self h
  exact ⟨h1.1.trans h2.1, h1.2.trans h2.2⟩
theorem fB_pos {a b : Int} (hb : b ≠ 0) : 0 < fB a b := (lowF_of hb).1
/-- a length put together of its parts is itself -/
theorem by_parts_self {a b n : Int} (h : Low a b n) : lA (fT a n * fB b n) (fT b n * fB a n) (fB a n * fB b n) = a ∧ lB (fT a n * fB b n) (fT b n * fB a n) (fB a n * fB b n) = b ∧ lN (fT a n * fB b n) (fT b n * fB a n) (fB a n * fB b n) = n := by
  have hn : n ≠ 0 := by have := h.1; omega
  have p1 := fB_pos (a := a) hn
  have p2 := fB_pos (a := b) hn
  have c1 := fcross (a := a) hn
  have c2 := fcross (a := b) hn
  have e := low_eq (a := fT a n * fB b n) (b := fT b n * fB a n) (n := fB a n * fB b n) (a' := a) (b' := b) (n' := n) (Int.mul_ne_zero (by omega) (by omega)) hn (by grind) (by grind)
  have s := low_self h
  exact ⟨e.1.trans s.1, e.2.1.trans s.2.1, e.2.2.trans s.2.2⟩
/-- the parts of a length put together of two fractions -/
theorem parts_by {p q r s : Int} (hf : LowF p q) (hg : LowF r s) : fT (lA (p * s) (r * q) (q * s)) (lN (p * s) (r * q) (q * s)) = p ∧ fB (lA (p * s) (r * q) (q * s)) (lN (p * s) (r * q) (q * s)) = q ∧
    fT (lB (p * s) (r * q) (q * s)) (lN (p * s) (r * q) (q * s)) = r ∧ fB (lB (p * s) (r * q) (q * s)) (lN (p * s) (r * q) (q * s)) = s := by
  have hq := hf.1
  have hs := hg.1
  have hn : q * s ≠ 0 := Int.mul_ne_zero (by omega) (by omega)
  have c := lcross (a := p * s) (b := r * q) hn
  have hN : lN (p * s) (r * q) (q * s) ≠ 0 := by have := (low_of (a := p * s) (b := r * q) hn).1; omega
  have e1 : lA (p * s) (r * q) (q * s) * q = p * lN (p * s) (r * q) (q * s) := by
    have : (lA (p * s) (r * q) (q * s) * q) * s = (p * lN (p * s) (r * q) (q * s)) * s := by grind
    exact Int.eq_of_mul_eq_mul_right (by omega) this
  have e2 : lB (p * s) (r * q) (q * s) * s = r * lN (p * s) (r * q) (q * s) := by
    have : (lB (p * s) (r * q) (q * s) * s) * q = (r * lN (p * s) (r * q) (q * s)) * q := by grind
    exact Int.eq_of_mul_eq_mul_right (by omega) this
  have h1 := lowF_is hN hf e1
  have h2 := lowF_is hN hg e2
  exact ⟨h1.1, h1.2, h2.1, h2.2⟩
end MB

set_option Elab.async false
set_option linter.all false
set_option maxRecDepth 100000
set_option maxHeartbeats 1000000
set_option autoImplicit false
/-! what the defs of the lengths are worth -/
namespace DL
open PySem L2 MB
theorem divisor_loop : ∀ (k : Nat) (a b : Int), b.natAbs ≤ k → ∃ g : Int, g.natAbs = Int.gcd a b ∧ sWhile lt1_divisor lb1_divisor [some (.d (.int a)), some (.d (.int b))] = .nx [some (.d (.int g)), some (.d (.int 0))] := by
  intro k
  induction k with
  | zero =>
    intro a b h
    have hb : b = 0 := by omega
    subst hb
    refine ⟨a, by simp, ?_⟩
    rw [ev_while]
    simp only [lt1_divisor, ev_seq, seq_nx, seq_rt, seq_ex, seq_bk, seq_ct, seq_ite, fl_ok, fl_ex, fl_ite, ev_set, kSet_ev, ev_ret, ev_retN, ev_nx, ev_bk, ev_ct, ev_raise, ev_if, kIf_ev, ev_drop, kNx_ev, ev_par, kPar_ev, kId_ev, ev_asg, kAsg_ev, ev_for, kFor_ev, ev_V, dVg_ok, ev_C, ev_1, ev_2, bind2_ok, bind2_ite1, bind2_ite2, bind_ite, ev_A, ev_nil, ev_cons, kCons_ev, ev_T, toB_ev, ev_and, ev_or, ev_not, kAnd_ev, kOr_ev, kNot_ev, ev_andV, ev_orV, ev_notV, kAndV_ev, kOrV_ev, kNotV_ev, ev_ife, kIfE_ev, ev_ch, kCh, tup_ev, lst_ev, call_ev, kw_ev, ev_kw, ev_fn, startE_0, startE_s, startE_c, fin_rt, fin_nx, fin_ex, fin_ite, ix_t0, ix_t1, ix_t2, ix_t3, ix_l0, ix_l1, ix_l2, len_l, len_t1, len_t2, len_t3, len_t4, beq_self_eq_true, ev_iL, ev_iT, asL_ev, asT_ev, ev_iA, ev_P, toI_ev, ev_P0, ev_sl, kSl_ev, put_1, gAdd_i, gSub_i, gMul_i, gDiv_p, gMod_p, gPow_l, gShl_l, gShr_l, gLt_i, gLe_i, gGt_i, gGe_i, gEq_i, gNe_i, gNeg_i, gAbs_i, gInt_i, gInt_b, gEq_s, gNe_s, gEq_b, gNe_b, gEq_2, gNe_2, gEq_3, gNe_3, gEq_22, gNe_22, DL.R.bind_ok, DL.R.bind_ex, ev_setL, kSetL_ev, ev_lDisp, kDisp_ev, ev_lList, lOf_l, lOf_t, ev_frz, frz_l, frz_d, frz_n, ev_lend, lend_l, lend_d, atom_i, atom_b, atom_s, ev_lendB, lendB_l, lendB_d, ev_app, app_l, kApp_ev, ev_put, put_l, ev_ixO, ixO_l, ixO_d, put_m, putAll_c, putAll_n, ev_lc, kLst_ev, ev_lcL, wipe_n, wipe_c, r1_2, r1_3, bits_ev, List.getElem?_cons_zero, List.getElem?_cons_succ, List.set_cons_zero, List.set_cons_succ, List.length_cons, List.length_nil, List.length_map, List.append_nil, List.cons_append, List.nil_append, ev_if, turn_nx, turn_ct, turn_bk, turn_rt, turn_ite, kWh_ev, isi_int_int, isi_bool_int, isi_int_bool, isi_bool_bool, isi_int_str, isi_int_none, isi_int_list, isi_int_tup, isi_bool_str, isi_bool_none, isi_bool_list, isi_bool_tup, isi_tup_tup, isi_tup_int, isi_tup_bool, isi_tup_str, isi_tup_none, isi_tup_list, isi_list_list, isi_list_tup, isi_list_int, isi_list_bool, isi_list_str, isi_list_none, isi_str_str, isi_str_int, isi_str_bool, isi_str_none, isi_str_list, isi_str_tup, decide_true, decide_false, not_true_eq_false, not_false_eq_true, ne_eq, decide_eq_true_eq, Bool.not_eq_true', decide_eq_false_iff_not, Bool.not_true, Bool.not_false, Bool.false_eq_true, if_true, if_false, reduceIte]
  | succ k ih =>
    intro a b h
    by_cases hb : b = 0
    · subst hb
      refine ⟨a, by simp, ?_⟩
      rw [ev_while]
      simp only [lt1_divisor, ev_seq, seq_nx, seq_rt, seq_ex, seq_bk, seq_ct, seq_ite, fl_ok, fl_ex, fl_ite, ev_set, kSet_ev, ev_ret, ev_retN, ev_nx, ev_bk, ev_ct, ev_raise, ev_if, kIf_ev, ev_drop, kNx_ev, ev_par, kPar_ev, kId_ev, ev_asg, kAsg_ev, ev_for, kFor_ev, ev_V, dVg_ok, ev_C, ev_1, ev_2, bind2_ok, bind2_ite1, bind2_ite2, bind_ite, ev_A, ev_nil, ev_cons, kCons_ev, ev_T, toB_ev, ev_and, ev_or, ev_not, kAnd_ev, kOr_ev, kNot_ev, ev_andV, ev_orV, ev_notV, kAndV_ev, kOrV_ev, kNotV_ev, ev_ife, kIfE_ev, ev_ch, kCh, tup_ev, lst_ev, call_ev, kw_ev, ev_kw, ev_fn, startE_0, startE_s, startE_c, fin_rt, fin_nx, fin_ex, fin_ite, ix_t0, ix_t1, ix_t2, ix_t3, ix_l0, ix_l1, ix_l2, len_l, len_t1, len_t2, len_t3, len_t4, beq_self_eq_true, ev_iL, ev_iT, asL_ev, asT_ev, ev_iA, ev_P, toI_ev, ev_P0, ev_sl, kSl_ev, put_1, gAdd_i, gSub_i, gMul_i, gDiv_p, gMod_p, gPow_l, gShl_l, gShr_l, gLt_i, gLe_i, gGt_i, gGe_i, gEq_i, gNe_i, gNeg_i, gAbs_i, gInt_i, gInt_b, gEq_s, gNe_s, gEq_b, gNe_b, gEq_2, gNe_2, gEq_3, gNe_3, gEq_22, gNe_22, DL.R.bind_ok, DL.R.bind_ex, ev_setL, kSetL_ev, ev_lDisp, kDisp_ev, ev_lList, lOf_l, lOf_t, ev_frz, frz_l, frz_d, frz_n, ev_lend, lend_l, lend_d, atom_i, atom_b, atom_s, ev_lendB, lendB_l, lendB_d, ev_app, app_l, kApp_ev, ev_put, put_l, ev_ixO, ixO_l, ixO_d, put_m, putAll_c, putAll_n, ev_lc, kLst_ev, ev_lcL, wipe_n, wipe_c, r1_2, r1_3, bits_ev, List.getElem?_cons_zero, List.getElem?_cons_succ, List.set_cons_zero, List.set_cons_succ, List.length_cons, List.length_nil, List.length_map, List.append_nil, List.cons_append, List.nil_append, ev_if, turn_nx, turn_ct, turn_bk, turn_rt, turn_ite, kWh_ev, isi_int_int, isi_bool_int, isi_int_bool, isi_bool_bool, isi_int_str, isi_int_none, isi_int_list, isi_int_tup, isi_bool_str, isi_bool_none, isi_bool_list, isi_bool_tup, isi_tup_tup, isi_tup_int, isi_tup_bool, isi_tup_str, isi_tup_none, isi_tup_list, isi_list_list, isi_list_tup, isi_list_int, isi_list_bool, isi_list_str, isi_list_none, isi_str_str, isi_str_int, isi_str_bool, isi_str_none, isi_str_list, isi_str_tup, decide_true, decide_false, not_true_eq_false, not_false_eq_true, ne_eq, decide_eq_true_eq, Bool.not_eq_true', decide_eq_false_iff_not, Bool.not_true, Bool.not_false, Bool.false_eq_true, if_true, if_false, reduceIte]
    · obtain ⟨g, hg, e⟩ := ih b (a.fmod b) (by
        have h1 := natAbs_fmod_lt a hb
        omega)
      refine ⟨g, ?_, ?_⟩
      · rw [hg]
        have e1 : a = b * a.fdiv b + a.fmod b := (Int.mul_fdiv_add_fmod a b).symm
        have : Int.gcd b (b * a.fdiv b + a.fmod b) = Int.gcd b (a.fmod b) := Int.gcd_mul_left_add_right _ _ _
        rw [← e1] at this
        rw [← this, Int.gcd_comm]
      · rw [ev_while]
        simp only [lt1_divisor, lb1_divisor, ev_seq, seq_nx, seq_rt, seq_ex, seq_bk, seq_ct, seq_ite, fl_ok, fl_ex, fl_ite, ev_set, kSet_ev, ev_ret, ev_retN, ev_nx, ev_bk, ev_ct, ev_raise, ev_if, kIf_ev, ev_drop, kNx_ev, ev_par, kPar_ev, kId_ev, ev_asg, kAsg_ev, ev_for, kFor_ev, ev_V, dVg_ok, ev_C, ev_1, ev_2, bind2_ok, bind2_ite1, bind2_ite2, bind_ite, ev_A, ev_nil, ev_cons, kCons_ev, ev_T, toB_ev, ev_and, ev_or, ev_not, kAnd_ev, kOr_ev, kNot_ev, ev_andV, ev_orV, ev_notV, kAndV_ev, kOrV_ev, kNotV_ev, ev_ife, kIfE_ev, ev_ch, kCh, tup_ev, lst_ev, call_ev, kw_ev, ev_kw, ev_fn, startE_0, startE_s, startE_c, fin_rt, fin_nx, fin_ex, fin_ite, ix_t0, ix_t1, ix_t2, ix_t3, ix_l0, ix_l1, ix_l2, len_l, len_t1, len_t2, len_t3, len_t4, beq_self_eq_true, ev_iL, ev_iT, asL_ev, asT_ev, ev_iA, ev_P, toI_ev, ev_P0, ev_sl, kSl_ev, put_1, gAdd_i, gSub_i, gMul_i, gDiv_p, gMod_p, gPow_l, gShl_l, gShr_l, gLt_i, gLe_i, gGt_i, gGe_i, gEq_i, gNe_i, gNeg_i, gAbs_i, gInt_i, gInt_b, gEq_s, gNe_s, gEq_b, gNe_b, gEq_2, gNe_2, gEq_3, gNe_3, gEq_22, gNe_22, DL.R.bind_ok, DL.R.bind_ex, ev_setL, kSetL_ev, ev_lDisp, kDisp_ev, ev_lList, lOf_l, lOf_t, ev_frz, frz_l, frz_d, frz_n, ev_lend, lend_l, lend_d, atom_i, atom_b, atom_s, ev_lendB, lendB_l, lendB_d, ev_app, app_l, kApp_ev, ev_put, put_l, ev_ixO, ixO_l, ixO_d, put_m, putAll_c, putAll_n, ev_lc, kLst_ev, ev_lcL, wipe_n, wipe_c, r1_2, r1_3, bits_ev, List.getElem?_cons_zero, List.getElem?_cons_succ, List.set_cons_zero, List.set_cons_succ, List.length_cons, List.length_nil, List.length_map, List.append_nil, List.cons_append, List.nil_append, ev_if, turn_nx, turn_ct, turn_bk, turn_rt, turn_ite, kWh_ev, isi_int_int, isi_bool_int, isi_int_bool, isi_bool_bool, isi_int_str, isi_int_none, isi_int_list, isi_int_tup, isi_bool_str, isi_bool_none, isi_bool_list, isi_bool_tup, isi_tup_tup, isi_tup_int, isi_tup_bool, isi_tup_str, isi_tup_none, isi_tup_list, isi_list_list, isi_list_tup, isi_list_int, isi_list_bool, isi_list_str, isi_list_none, isi_str_str, isi_str_int, isi_str_bool, isi_str_none, isi_str_list, isi_str_tup, decide_true, decide_false, not_true_eq_false, not_false_eq_true, ne_eq, decide_eq_true_eq, Bool.not_eq_true', decide_eq_false_iff_not, Bool.not_true, Bool.not_false, Bool.false_eq_true, if_true, if_false, reduceIte, gMod_i, hb]
        exact e
theorem divisor_eq (a b : Int) : m_divisor [.int a, .int b] = .ok (.int (Int.gcd a b : Int)) := by
  obtain ⟨g, hg, e⟩ := divisor_loop b.natAbs a b (Nat.le_refl _)
  simp +decide only [m_divisor, den_divisor, ev_seq, seq_nx, seq_rt, seq_ex, seq_bk, seq_ct, seq_ite, fl_ok, fl_ex, fl_ite, ev_set, kSet_ev, ev_ret, ev_retN, ev_nx, ev_bk, ev_ct, ev_raise, ev_if, kIf_ev, ev_drop, kNx_ev, ev_par, kPar_ev, kId_ev, ev_asg, kAsg_ev, ev_for, kFor_ev, ev_V, dVg_ok, ev_C, ev_1, ev_2, bind2_ok, bind2_ite1, bind2_ite2, bind_ite, ev_A, ev_nil, ev_cons, kCons_ev, ev_T, toB_ev, ev_and, ev_or, ev_not, kAnd_ev, kOr_ev, kNot_ev, ev_andV, ev_orV, ev_notV, kAndV_ev, kOrV_ev, kNotV_ev, ev_ife, kIfE_ev, ev_ch, kCh, tup_ev, lst_ev, call_ev, kw_ev, ev_kw, ev_fn, startE_0, startE_s, startE_c, fin_rt, fin_nx, fin_ex, fin_ite, ix_t0, ix_t1, ix_t2, ix_t3, ix_l0, ix_l1, ix_l2, len_l, len_t1, len_t2, len_t3, len_t4, beq_self_eq_true, ev_iL, ev_iT, asL_ev, asT_ev, ev_iA, ev_P, toI_ev, ev_P0, ev_sl, kSl_ev, put_1, gAdd_i, gSub_i, gMul_i, gDiv_p, gMod_p, gPow_l, gShl_l, gShr_l, gLt_i, gLe_i, gGt_i, gGe_i, gEq_i, gNe_i, gNeg_i, gAbs_i, gInt_i, gInt_b, gEq_s, gNe_s, gEq_b, gNe_b, gEq_2, gNe_2, gEq_3, gNe_3, gEq_22, gNe_22, DL.R.bind_ok, DL.R.bind_ex, ev_setL, kSetL_ev, ev_lDisp, kDisp_ev, ev_lList, lOf_l, lOf_t, ev_frz, frz_l, frz_d, frz_n, ev_lend, lend_l, lend_d, atom_i, atom_b, atom_s, ev_lendB, lendB_l, lendB_d, ev_app, app_l, kApp_ev, ev_put, put_l, ev_ixO, ixO_l, ixO_d, put_m, putAll_c, putAll_n, ev_lc, kLst_ev, ev_lcL, wipe_n, wipe_c, r1_2, r1_3, bits_ev, List.getElem?_cons_zero, List.getElem?_cons_succ, List.set_cons_zero, List.set_cons_succ, List.length_cons, List.length_nil, List.length_map, List.append_nil, List.cons_append, List.nil_append, ev_if, turn_nx, turn_ct, turn_bk, turn_rt, turn_ite, kWh_ev, isi_int_int, isi_bool_int, isi_int_bool, isi_bool_bool, isi_int_str, isi_int_none, isi_int_list, isi_int_tup, isi_bool_str, isi_bool_none, isi_bool_list, isi_bool_tup, isi_tup_tup, isi_tup_int, isi_tup_bool, isi_tup_str, isi_tup_none, isi_tup_list, isi_list_list, isi_list_tup, isi_list_int, isi_list_bool, isi_list_str, isi_list_none, isi_str_str, isi_str_int, isi_str_bool, isi_str_none, isi_str_list, isi_str_tup, decide_true, decide_false, not_true_eq_false, not_false_eq_true, ne_eq, decide_eq_true_eq, Bool.not_eq_true', decide_eq_false_iff_not, Bool.not_true, Bool.not_false, Bool.false_eq_true, if_true, if_false, reduceIte, e, hg]
theorem bd_shr {a b n : Int} (hn : n ≠ 0) {k : Nat} (h : Bd n k) : Bd (shr (g3 a b n) n) k := ⟨by
  have hd : (g3 a b n : Int) ∣ n := g3_dvd.2.2
  have h1 : (shr (g3 a b n) n).natAbs = g3 a b n := by unfold shr; split <;> omega
  rw [h1]
  have h2 : g3 a b n ∣ n.natAbs := by have := Int.natAbs_dvd_natAbs.mpr hd; simpa using this
  exact Nat.lt_of_le_of_lt (Nat.le_of_dvd (by omega) h2) h.h⟩
theorem lowest_eq (a b n : Int) (hn : n ≠ 0) {k : Nat} [h3 : Bd n k] (hk : k ≤ 9000) : m_lowest [.int a, .int b, .int n] = .ok (.tuple [.int (lA a b n), .int (lB a b n), .int (lN a b n)]) := by
  have hs : shr (g3 a b n) n ≠ 0 := shr_ne (g3_ne hn)
  have bs : Bd (shr (g3 a b n) n) k := bd_shr hn h3
  have e2 : Int.gcd (Int.gcd a b) n = g3 a b n := rfl
  by_cases h : n < 0
  · have e : 0 - ((g3 a b n : Nat) : Int) = shr (g3 a b n) n := by unfold shr; rw [if_pos h]
    simp +decide only [m_lowest, den_lowest, ev_seq, seq_nx, seq_rt, seq_ex, seq_bk, seq_ct, seq_ite, fl_ok, fl_ex, fl_ite, ev_set, kSet_ev, ev_ret, ev_retN, ev_nx, ev_bk, ev_ct, ev_raise, ev_if, kIf_ev, ev_drop, kNx_ev, ev_par, kPar_ev, kId_ev, ev_asg, kAsg_ev, ev_for, kFor_ev, ev_V, dVg_ok, ev_C, ev_1, ev_2, bind2_ok, bind2_ite1, bind2_ite2, bind_ite, ev_A, ev_nil, ev_cons, kCons_ev, ev_T, toB_ev, ev_and, ev_or, ev_not, kAnd_ev, kOr_ev, kNot_ev, ev_andV, ev_orV, ev_notV, kAndV_ev, kOrV_ev, kNotV_ev, ev_ife, kIfE_ev, ev_ch, kCh, tup_ev, lst_ev, call_ev, kw_ev, ev_kw, ev_fn, startE_0, startE_s, startE_c, fin_rt, fin_nx, fin_ex, fin_ite, ix_t0, ix_t1, ix_t2, ix_t3, ix_l0, ix_l1, ix_l2, len_l, len_t1, len_t2, len_t3, len_t4, beq_self_eq_true, ev_iL, ev_iT, asL_ev, asT_ev, ev_iA, ev_P, toI_ev, ev_P0, ev_sl, kSl_ev, put_1, gAdd_i, gSub_i, gMul_i, gDiv_p, gMod_p, gPow_l, gShl_l, gShr_l, gLt_i, gLe_i, gGt_i, gGe_i, gEq_i, gNe_i, gNeg_i, gAbs_i, gInt_i, gInt_b, gEq_s, gNe_s, gEq_b, gNe_b, gEq_2, gNe_2, gEq_3, gNe_3, gEq_22, gNe_22, DL.R.bind_ok, DL.R.bind_ex, ev_setL, kSetL_ev, ev_lDisp, kDisp_ev, ev_lList, lOf_l, lOf_t, ev_frz, frz_l, frz_d, frz_n, ev_lend, lend_l, lend_d, atom_i, atom_b, atom_s, ev_lendB, lendB_l, lendB_d, ev_app, app_l, kApp_ev, ev_put, put_l, ev_ixO, ixO_l, ixO_d, put_m, putAll_c, putAll_n, ev_lc, kLst_ev, ev_lcL, wipe_n, wipe_c, r1_2, r1_3, bits_ev, List.getElem?_cons_zero, List.getElem?_cons_succ, List.set_cons_zero, List.set_cons_succ, List.length_cons, List.length_nil, List.length_map, List.append_nil, List.cons_append, List.nil_append, ev_if, turn_nx, turn_ct, turn_bk, turn_rt, turn_ite, kWh_ev, isi_int_int, isi_bool_int, isi_int_bool, isi_bool_bool, isi_int_str, isi_int_none, isi_int_list, isi_int_tup, isi_bool_str, isi_bool_none, isi_bool_list, isi_bool_tup, isi_tup_tup, isi_tup_int, isi_tup_bool, isi_tup_str, isi_tup_none, isi_tup_list, isi_list_list, isi_list_tup, isi_list_int, isi_list_bool, isi_list_str, isi_list_none, isi_str_str, isi_str_int, isi_str_bool, isi_str_none, isi_str_list, isi_str_tup, decide_true, decide_false, not_true_eq_false, not_false_eq_true, ne_eq, decide_eq_true_eq, Bool.not_eq_true', decide_eq_false_iff_not, Bool.not_true, Bool.not_false, Bool.false_eq_true, if_true, if_false, reduceIte, gDiv_i, divisor_eq, e2, h, e, hs, hk, lA, lB, lN]
  · have e : ((g3 a b n : Nat) : Int) = shr (g3 a b n) n := by unfold shr; rw [if_neg h]
    simp +decide only [m_lowest, den_lowest, ev_seq, seq_nx, seq_rt, seq_ex, seq_bk, seq_ct, seq_ite, fl_ok, fl_ex, fl_ite, ev_set, kSet_ev, ev_ret, ev_retN, ev_nx, ev_bk, ev_ct, ev_raise, ev_if, kIf_ev, ev_drop, kNx_ev, ev_par, kPar_ev, kId_ev, ev_asg, kAsg_ev, ev_for, kFor_ev, ev_V, dVg_ok, ev_C, ev_1, ev_2, bind2_ok, bind2_ite1, bind2_ite2, bind_ite, ev_A, ev_nil, ev_cons, kCons_ev, ev_T, toB_ev, ev_and, ev_or, ev_not, kAnd_ev, kOr_ev, kNot_ev, ev_andV, ev_orV, ev_notV, kAndV_ev, kOrV_ev, kNotV_ev, ev_ife, kIfE_ev, ev_ch, kCh, tup_ev, lst_ev, call_ev, kw_ev, ev_kw, ev_fn, startE_0, startE_s, startE_c, fin_rt, fin_nx, fin_ex, fin_ite, ix_t0, ix_t1, ix_t2, ix_t3, ix_l0, ix_l1, ix_l2, len_l, len_t1, len_t2, len_t3, len_t4, beq_self_eq_true, ev_iL, ev_iT, asL_ev, asT_ev, ev_iA, ev_P, toI_ev, ev_P0, ev_sl, kSl_ev, put_1, gAdd_i, gSub_i, gMul_i, gDiv_p, gMod_p, gPow_l, gShl_l, gShr_l, gLt_i, gLe_i, gGt_i, gGe_i, gEq_i, gNe_i, gNeg_i, gAbs_i, gInt_i, gInt_b, gEq_s, gNe_s, gEq_b, gNe_b, gEq_2, gNe_2, gEq_3, gNe_3, gEq_22, gNe_22, DL.R.bind_ok, DL.R.bind_ex, ev_setL, kSetL_ev, ev_lDisp, kDisp_ev, ev_lList, lOf_l, lOf_t, ev_frz, frz_l, frz_d, frz_n, ev_lend, lend_l, lend_d, atom_i, atom_b, atom_s, ev_lendB, lendB_l, lendB_d, ev_app, app_l, kApp_ev, ev_put, put_l, ev_ixO, ixO_l, ixO_d, put_m, putAll_c, putAll_n, ev_lc, kLst_ev, ev_lcL, wipe_n, wipe_c, r1_2, r1_3, bits_ev, List.getElem?_cons_zero, List.getElem?_cons_succ, List.set_cons_zero, List.set_cons_succ, List.length_cons, List.length_nil, List.length_map, List.append_nil, List.cons_append, List.nil_append, ev_if, turn_nx, turn_ct, turn_bk, turn_rt, turn_ite, kWh_ev, isi_int_int, isi_bool_int, isi_int_bool, isi_bool_bool, isi_int_str, isi_int_none, isi_int_list, isi_int_tup, isi_bool_str, isi_bool_none, isi_bool_list, isi_bool_tup, isi_tup_tup, isi_tup_int, isi_tup_bool, isi_tup_str, isi_tup_none, isi_tup_list, isi_list_list, isi_list_tup, isi_list_int, isi_list_bool, isi_list_str, isi_list_none, isi_str_str, isi_str_int, isi_str_bool, isi_str_none, isi_str_list, isi_str_tup, decide_true, decide_false, not_true_eq_false, not_false_eq_true, ne_eq, decide_eq_true_eq, Bool.not_eq_true', decide_eq_false_iff_not, Bool.not_true, Bool.not_false, Bool.false_eq_true, if_true, if_false, reduceIte, gDiv_i, divisor_eq, e2, h, e, hs, hk, lA, lB, lN]
theorem is_whole_int (z : Int) : m_is_whole [.int z] = .ok (.bool true) := by
  simp +decide only [m_is_whole, den_is_whole, ev_seq, seq_nx, seq_rt, seq_ex, seq_bk, seq_ct, seq_ite, fl_ok, fl_ex, fl_ite, ev_set, kSet_ev, ev_ret, ev_retN, ev_nx, ev_bk, ev_ct, ev_raise, ev_if, kIf_ev, ev_drop, kNx_ev, ev_par, kPar_ev, kId_ev, ev_asg, kAsg_ev, ev_for, kFor_ev, ev_V, dVg_ok, ev_C, ev_1, ev_2, bind2_ok, bind2_ite1, bind2_ite2, bind_ite, ev_A, ev_nil, ev_cons, kCons_ev, ev_T, toB_ev, ev_and, ev_or, ev_not, kAnd_ev, kOr_ev, kNot_ev, ev_andV, ev_orV, ev_notV, kAndV_ev, kOrV_ev, kNotV_ev, ev_ife, kIfE_ev, ev_ch, kCh, tup_ev, lst_ev, call_ev, kw_ev, ev_kw, ev_fn, startE_0, startE_s, startE_c, fin_rt, fin_nx, fin_ex, fin_ite, ix_t0, ix_t1, ix_t2, ix_t3, ix_l0, ix_l1, ix_l2, len_l, len_t1, len_t2, len_t3, len_t4, beq_self_eq_true, ev_iL, ev_iT, asL_ev, asT_ev, ev_iA, ev_P, toI_ev, ev_P0, ev_sl, kSl_ev, put_1, gAdd_i, gSub_i, gMul_i, gDiv_p, gMod_p, gPow_l, gShl_l, gShr_l, gLt_i, gLe_i, gGt_i, gGe_i, gEq_i, gNe_i, gNeg_i, gAbs_i, gInt_i, gInt_b, gEq_s, gNe_s, gEq_b, gNe_b, gEq_2, gNe_2, gEq_3, gNe_3, gEq_22, gNe_22, DL.R.bind_ok, DL.R.bind_ex, ev_setL, kSetL_ev, ev_lDisp, kDisp_ev, ev_lList, lOf_l, lOf_t, ev_frz, frz_l, frz_d, frz_n, ev_lend, lend_l, lend_d, atom_i, atom_b, atom_s, ev_lendB, lendB_l, lendB_d, ev_app, app_l, kApp_ev, ev_put, put_l, ev_ixO, ixO_l, ixO_d, put_m, putAll_c, putAll_n, ev_lc, kLst_ev, ev_lcL, wipe_n, wipe_c, r1_2, r1_3, bits_ev, List.getElem?_cons_zero, List.getElem?_cons_succ, List.set_cons_zero, List.set_cons_succ, List.length_cons, List.length_nil, List.length_map, List.append_nil, List.cons_append, List.nil_append, ev_if, turn_nx, turn_ct, turn_bk, turn_rt, turn_ite, kWh_ev, isi_int_int, isi_bool_int, isi_int_bool, isi_bool_bool, isi_int_str, isi_int_none, isi_int_list, isi_int_tup, isi_bool_str, isi_bool_none, isi_bool_list, isi_bool_tup, isi_tup_tup, isi_tup_int, isi_tup_bool, isi_tup_str, isi_tup_none, isi_tup_list, isi_list_list, isi_list_tup, isi_list_int, isi_list_bool, isi_list_str, isi_list_none, isi_str_str, isi_str_int, isi_str_bool, isi_str_none, isi_str_list, isi_str_tup, decide_true, decide_false, not_true_eq_false, not_false_eq_true, ne_eq, decide_eq_true_eq, Bool.not_eq_true', decide_eq_false_iff_not, Bool.not_true, Bool.not_false, Bool.false_eq_true, if_true, if_false, reduceIte]
theorem law_whole_int (z : Int) : m_law_whole [.int z] = .ok (.bool true) := by
  simp +decide only [m_law_whole, den_law_whole, ev_seq, seq_nx, seq_rt, seq_ex, seq_bk, seq_ct, seq_ite, fl_ok, fl_ex, fl_ite, ev_set, kSet_ev, ev_ret, ev_retN, ev_nx, ev_bk, ev_ct, ev_raise, ev_if, kIf_ev, ev_drop, kNx_ev, ev_par, kPar_ev, kId_ev, ev_asg, kAsg_ev, ev_for, kFor_ev, ev_V, dVg_ok, ev_C, ev_1, ev_2, bind2_ok, bind2_ite1, bind2_ite2, bind_ite, ev_A, ev_nil, ev_cons, kCons_ev, ev_T, toB_ev, ev_and, ev_or, ev_not, kAnd_ev, kOr_ev, kNot_ev, ev_andV, ev_orV, ev_notV, kAndV_ev, kOrV_ev, kNotV_ev, ev_ife, kIfE_ev, ev_ch, kCh, tup_ev, lst_ev, call_ev, kw_ev, ev_kw, ev_fn, startE_0, startE_s, startE_c, fin_rt, fin_nx, fin_ex, fin_ite, ix_t0, ix_t1, ix_t2, ix_t3, ix_l0, ix_l1, ix_l2, len_l, len_t1, len_t2, len_t3, len_t4, beq_self_eq_true, ev_iL, ev_iT, asL_ev, asT_ev, ev_iA, ev_P, toI_ev, ev_P0, ev_sl, kSl_ev, put_1, gAdd_i, gSub_i, gMul_i, gDiv_p, gMod_p, gPow_l, gShl_l, gShr_l, gLt_i, gLe_i, gGt_i, gGe_i, gEq_i, gNe_i, gNeg_i, gAbs_i, gInt_i, gInt_b, gEq_s, gNe_s, gEq_b, gNe_b, gEq_2, gNe_2, gEq_3, gNe_3, gEq_22, gNe_22, DL.R.bind_ok, DL.R.bind_ex, ev_setL, kSetL_ev, ev_lDisp, kDisp_ev, ev_lList, lOf_l, lOf_t, ev_frz, frz_l, frz_d, frz_n, ev_lend, lend_l, lend_d, atom_i, atom_b, atom_s, ev_lendB, lendB_l, lendB_d, ev_app, app_l, kApp_ev, ev_put, put_l, ev_ixO, ixO_l, ixO_d, put_m, putAll_c, putAll_n, ev_lc, kLst_ev, ev_lcL, wipe_n, wipe_c, r1_2, r1_3, bits_ev, List.getElem?_cons_zero, List.getElem?_cons_succ, List.set_cons_zero, List.set_cons_succ, List.length_cons, List.length_nil, List.length_map, List.append_nil, List.cons_append, List.nil_append, ev_if, turn_nx, turn_ct, turn_bk, turn_rt, turn_ite, kWh_ev, isi_int_int, isi_bool_int, isi_int_bool, isi_bool_bool, isi_int_str, isi_int_none, isi_int_list, isi_int_tup, isi_bool_str, isi_bool_none, isi_bool_list, isi_bool_tup, isi_tup_tup, isi_tup_int, isi_tup_bool, isi_tup_str, isi_tup_none, isi_tup_list, isi_list_list, isi_list_tup, isi_list_int, isi_list_bool, isi_list_str, isi_list_none, isi_str_str, isi_str_int, isi_str_bool, isi_str_none, isi_str_list, isi_str_tup, decide_true, decide_false, not_true_eq_false, not_false_eq_true, ne_eq, decide_eq_true_eq, Bool.not_eq_true', decide_eq_false_iff_not, Bool.not_true, Bool.not_false, Bool.false_eq_true, if_true, if_false, reduceIte]
theorem length_eq (a b n : Int) (hn : n ≠ 0) {k : Nat} [h3 : Bd n k] (hk : k ≤ 9000) : m_length [.int a, .int b, .int n] = .ok (.tuple [.int (lA a b n), .int (lB a b n), .int (lN a b n)]) := by
  simp +decide only [m_length, den_length, ev_seq, seq_nx, seq_rt, seq_ex, seq_bk, seq_ct, seq_ite, fl_ok, fl_ex, fl_ite, ev_set, kSet_ev, ev_ret, ev_retN, ev_nx, ev_bk, ev_ct, ev_raise, ev_if, kIf_ev, ev_drop, kNx_ev, ev_par, kPar_ev, kId_ev, ev_asg, kAsg_ev, ev_for, kFor_ev, ev_V, dVg_ok, ev_C, ev_1, ev_2, bind2_ok, bind2_ite1, bind2_ite2, bind_ite, ev_A, ev_nil, ev_cons, kCons_ev, ev_T, toB_ev, ev_and, ev_or, ev_not, kAnd_ev, kOr_ev, kNot_ev, ev_andV, ev_orV, ev_notV, kAndV_ev, kOrV_ev, kNotV_ev, ev_ife, kIfE_ev, ev_ch, kCh, tup_ev, lst_ev, call_ev, kw_ev, ev_kw, ev_fn, startE_0, startE_s, startE_c, fin_rt, fin_nx, fin_ex, fin_ite, ix_t0, ix_t1, ix_t2, ix_t3, ix_l0, ix_l1, ix_l2, len_l, len_t1, len_t2, len_t3, len_t4, beq_self_eq_true, ev_iL, ev_iT, asL_ev, asT_ev, ev_iA, ev_P, toI_ev, ev_P0, ev_sl, kSl_ev, put_1, gAdd_i, gSub_i, gMul_i, gDiv_p, gMod_p, gPow_l, gShl_l, gShr_l, gLt_i, gLe_i, gGt_i, gGe_i, gEq_i, gNe_i, gNeg_i, gAbs_i, gInt_i, gInt_b, gEq_s, gNe_s, gEq_b, gNe_b, gEq_2, gNe_2, gEq_3, gNe_3, gEq_22, gNe_22, DL.R.bind_ok, DL.R.bind_ex, ev_setL, kSetL_ev, ev_lDisp, kDisp_ev, ev_lList, lOf_l, lOf_t, ev_frz, frz_l, frz_d, frz_n, ev_lend, lend_l, lend_d, atom_i, atom_b, atom_s, ev_lendB, lendB_l, lendB_d, ev_app, app_l, kApp_ev, ev_put, put_l, ev_ixO, ixO_l, ixO_d, put_m, putAll_c, putAll_n, ev_lc, kLst_ev, ev_lcL, wipe_n, wipe_c, r1_2, r1_3, bits_ev, List.getElem?_cons_zero, List.getElem?_cons_succ, List.set_cons_zero, List.set_cons_succ, List.length_cons, List.length_nil, List.length_map, List.append_nil, List.cons_append, List.nil_append, ev_if, turn_nx, turn_ct, turn_bk, turn_rt, turn_ite, kWh_ev, isi_int_int, isi_bool_int, isi_int_bool, isi_bool_bool, isi_int_str, isi_int_none, isi_int_list, isi_int_tup, isi_bool_str, isi_bool_none, isi_bool_list, isi_bool_tup, isi_tup_tup, isi_tup_int, isi_tup_bool, isi_tup_str, isi_tup_none, isi_tup_list, isi_list_list, isi_list_tup, isi_list_int, isi_list_bool, isi_list_str, isi_list_none, isi_str_str, isi_str_int, isi_str_bool, isi_str_none, isi_str_list, isi_str_tup, decide_true, decide_false, not_true_eq_false, not_false_eq_true, ne_eq, decide_eq_true_eq, Bool.not_eq_true', decide_eq_false_iff_not, Bool.not_true, Bool.not_false, Bool.false_eq_true, if_true, if_false, reduceIte, is_whole_int, hn, lowest_eq, hk]
theorem law_divisor_loop : ∀ (k : Nat) (a b : Int), 0 ≤ b → 0 ≤ a → b.natAbs ≤ k → sWhile lt1_law_divisor lb1_law_divisor [some (.d (.int a)), some (.d (.int b))] = .nx [some (.d (.int (Int.gcd a b : Int))), some (.d (.int 0))] := by
  intro k
  induction k with
  | zero =>
    intro a b h0 ha h
    have hb : b = 0 := by omega
    subst hb
    rw [ev_while]
    have : (a.natAbs : Int) = a := by omega
    simp +decide only [lt1_law_divisor, ev_seq, seq_nx, seq_rt, seq_ex, seq_bk, seq_ct, seq_ite, fl_ok, fl_ex, fl_ite, ev_set, kSet_ev, ev_ret, ev_retN, ev_nx, ev_bk, ev_ct, ev_raise, ev_if, kIf_ev, ev_drop, kNx_ev, ev_par, kPar_ev, kId_ev, ev_asg, kAsg_ev, ev_for, kFor_ev, ev_V, dVg_ok, ev_C, ev_1, ev_2, bind2_ok, bind2_ite1, bind2_ite2, bind_ite, ev_A, ev_nil, ev_cons, kCons_ev, ev_T, toB_ev, ev_and, ev_or, ev_not, kAnd_ev, kOr_ev, kNot_ev, ev_andV, ev_orV, ev_notV, kAndV_ev, kOrV_ev, kNotV_ev, ev_ife, kIfE_ev, ev_ch, kCh, tup_ev, lst_ev, call_ev, kw_ev, ev_kw, ev_fn, startE_0, startE_s, startE_c, fin_rt, fin_nx, fin_ex, fin_ite, ix_t0, ix_t1, ix_t2, ix_t3, ix_l0, ix_l1, ix_l2, len_l, len_t1, len_t2, len_t3, len_t4, beq_self_eq_true, ev_iL, ev_iT, asL_ev, asT_ev, ev_iA, ev_P, toI_ev, ev_P0, ev_sl, kSl_ev, put_1, gAdd_i, gSub_i, gMul_i, gDiv_p, gMod_p, gPow_l, gShl_l, gShr_l, gLt_i, gLe_i, gGt_i, gGe_i, gEq_i, gNe_i, gNeg_i, gAbs_i, gInt_i, gInt_b, gEq_s, gNe_s, gEq_b, gNe_b, gEq_2, gNe_2, gEq_3, gNe_3, gEq_22, gNe_22, DL.R.bind_ok, DL.R.bind_ex, ev_setL, kSetL_ev, ev_lDisp, kDisp_ev, ev_lList, lOf_l, lOf_t, ev_frz, frz_l, frz_d, frz_n, ev_lend, lend_l, lend_d, atom_i, atom_b, atom_s, ev_lendB, lendB_l, lendB_d, ev_app, app_l, kApp_ev, ev_put, put_l, ev_ixO, ixO_l, ixO_d, put_m, putAll_c, putAll_n, ev_lc, kLst_ev, ev_lcL, wipe_n, wipe_c, r1_2, r1_3, bits_ev, List.getElem?_cons_zero, List.getElem?_cons_succ, List.set_cons_zero, List.set_cons_succ, List.length_cons, List.length_nil, List.length_map, List.append_nil, List.cons_append, List.nil_append, ev_if, turn_nx, turn_ct, turn_bk, turn_rt, turn_ite, kWh_ev, isi_int_int, isi_bool_int, isi_int_bool, isi_bool_bool, isi_int_str, isi_int_none, isi_int_list, isi_int_tup, isi_bool_str, isi_bool_none, isi_bool_list, isi_bool_tup, isi_tup_tup, isi_tup_int, isi_tup_bool, isi_tup_str, isi_tup_none, isi_tup_list, isi_list_list, isi_list_tup, isi_list_int, isi_list_bool, isi_list_str, isi_list_none, isi_str_str, isi_str_int, isi_str_bool, isi_str_none, isi_str_list, isi_str_tup, decide_true, decide_false, not_true_eq_false, not_false_eq_true, ne_eq, decide_eq_true_eq, Bool.not_eq_true', decide_eq_false_iff_not, Bool.not_true, Bool.not_false, Bool.false_eq_true, if_true, if_false, reduceIte, Int.gcd_zero, this]
  | succ k ih =>
    intro a b h0 ha h
    by_cases hb : b = 0
    · subst hb
      rw [ev_while]
      have : (a.natAbs : Int) = a := by omega
      simp +decide only [lt1_law_divisor, ev_seq, seq_nx, seq_rt, seq_ex, seq_bk, seq_ct, seq_ite, fl_ok, fl_ex, fl_ite, ev_set, kSet_ev, ev_ret, ev_retN, ev_nx, ev_bk, ev_ct, ev_raise, ev_if, kIf_ev, ev_drop, kNx_ev, ev_par, kPar_ev, kId_ev, ev_asg, kAsg_ev, ev_for, kFor_ev, ev_V, dVg_ok, ev_C, ev_1, ev_2, bind2_ok, bind2_ite1, bind2_ite2, bind_ite, ev_A, ev_nil, ev_cons, kCons_ev, ev_T, toB_ev, ev_and, ev_or, ev_not, kAnd_ev, kOr_ev, kNot_ev, ev_andV, ev_orV, ev_notV, kAndV_ev, kOrV_ev, kNotV_ev, ev_ife, kIfE_ev, ev_ch, kCh, tup_ev, lst_ev, call_ev, kw_ev, ev_kw, ev_fn, startE_0, startE_s, startE_c, fin_rt, fin_nx, fin_ex, fin_ite, ix_t0, ix_t1, ix_t2, ix_t3, ix_l0, ix_l1, ix_l2, len_l, len_t1, len_t2, len_t3, len_t4, beq_self_eq_true, ev_iL, ev_iT, asL_ev, asT_ev, ev_iA, ev_P, toI_ev, ev_P0, ev_sl, kSl_ev, put_1, gAdd_i, gSub_i, gMul_i, gDiv_p, gMod_p, gPow_l, gShl_l, gShr_l, gLt_i, gLe_i, gGt_i, gGe_i, gEq_i, gNe_i, gNeg_i, gAbs_i, gInt_i, gInt_b, gEq_s, gNe_s, gEq_b, gNe_b, gEq_2, gNe_2, gEq_3, gNe_3, gEq_22, gNe_22, DL.R.bind_ok, DL.R.bind_ex, ev_setL, kSetL_ev, ev_lDisp, kDisp_ev, ev_lList, lOf_l, lOf_t, ev_frz, frz_l, frz_d, frz_n, ev_lend, lend_l, lend_d, atom_i, atom_b, atom_s, ev_lendB, lendB_l, lendB_d, ev_app, app_l, kApp_ev, ev_put, put_l, ev_ixO, ixO_l, ixO_d, put_m, putAll_c, putAll_n, ev_lc, kLst_ev, ev_lcL, wipe_n, wipe_c, r1_2, r1_3, bits_ev, List.getElem?_cons_zero, List.getElem?_cons_succ, List.set_cons_zero, List.set_cons_succ, List.length_cons, List.length_nil, List.length_map, List.append_nil, List.cons_append, List.nil_append, ev_if, turn_nx, turn_ct, turn_bk, turn_rt, turn_ite, kWh_ev, isi_int_int, isi_bool_int, isi_int_bool, isi_bool_bool, isi_int_str, isi_int_none, isi_int_list, isi_int_tup, isi_bool_str, isi_bool_none, isi_bool_list, isi_bool_tup, isi_tup_tup, isi_tup_int, isi_tup_bool, isi_tup_str, isi_tup_none, isi_tup_list, isi_list_list, isi_list_tup, isi_list_int, isi_list_bool, isi_list_str, isi_list_none, isi_str_str, isi_str_int, isi_str_bool, isi_str_none, isi_str_list, isi_str_tup, decide_true, decide_false, not_true_eq_false, not_false_eq_true, ne_eq, decide_eq_true_eq, Bool.not_eq_true', decide_eq_false_iff_not, Bool.not_true, Bool.not_false, Bool.false_eq_true, if_true, if_false, reduceIte, Int.gcd_zero, this]
    · have e := ih b (a.fmod b) (Int.fmod_nonneg_of_pos a (by omega)) h0 (by
        have h1 := natAbs_fmod_lt a hb
        omega)
      rw [ev_while]
      have hp : 0 < b := by omega
      have e1 : a = b * a.fdiv b + a.fmod b := (Int.mul_fdiv_add_fmod a b).symm
      have e2 : Int.gcd b (b * a.fdiv b + a.fmod b) = Int.gcd b (a.fmod b) := Int.gcd_mul_left_add_right _ _ _
      rw [← e1] at e2
      rw [Int.gcd_comm a b, e2]
      rw [Int.fmod_eq_emod_of_nonneg _ h0] at e ⊢
      simp +decide only [lt1_law_divisor, lb1_law_divisor, ev_seq, seq_nx, seq_rt, seq_ex, seq_bk, seq_ct, seq_ite, fl_ok, fl_ex, fl_ite, ev_set, kSet_ev, ev_ret, ev_retN, ev_nx, ev_bk, ev_ct, ev_raise, ev_if, kIf_ev, ev_drop, kNx_ev, ev_par, kPar_ev, kId_ev, ev_asg, kAsg_ev, ev_for, kFor_ev, ev_V, dVg_ok, ev_C, ev_1, ev_2, bind2_ok, bind2_ite1, bind2_ite2, bind_ite, ev_A, ev_nil, ev_cons, kCons_ev, ev_T, toB_ev, ev_and, ev_or, ev_not, kAnd_ev, kOr_ev, kNot_ev, ev_andV, ev_orV, ev_notV, kAndV_ev, kOrV_ev, kNotV_ev, ev_ife, kIfE_ev, ev_ch, kCh, tup_ev, lst_ev, call_ev, kw_ev, ev_kw, ev_fn, startE_0, startE_s, startE_c, fin_rt, fin_nx, fin_ex, fin_ite, ix_t0, ix_t1, ix_t2, ix_t3, ix_l0, ix_l1, ix_l2, len_l, len_t1, len_t2, len_t3, len_t4, beq_self_eq_true, ev_iL, ev_iT, asL_ev, asT_ev, ev_iA, ev_P, toI_ev, ev_P0, ev_sl, kSl_ev, put_1, gAdd_i, gSub_i, gMul_i, gDiv_p, gMod_p, gPow_l, gShl_l, gShr_l, gLt_i, gLe_i, gGt_i, gGe_i, gEq_i, gNe_i, gNeg_i, gAbs_i, gInt_i, gInt_b, gEq_s, gNe_s, gEq_b, gNe_b, gEq_2, gNe_2, gEq_3, gNe_3, gEq_22, gNe_22, DL.R.bind_ok, DL.R.bind_ex, ev_setL, kSetL_ev, ev_lDisp, kDisp_ev, ev_lList, lOf_l, lOf_t, ev_frz, frz_l, frz_d, frz_n, ev_lend, lend_l, lend_d, atom_i, atom_b, atom_s, ev_lendB, lendB_l, lendB_d, ev_app, app_l, kApp_ev, ev_put, put_l, ev_ixO, ixO_l, ixO_d, put_m, putAll_c, putAll_n, ev_lc, kLst_ev, ev_lcL, wipe_n, wipe_c, r1_2, r1_3, bits_ev, List.getElem?_cons_zero, List.getElem?_cons_succ, List.set_cons_zero, List.set_cons_succ, List.length_cons, List.length_nil, List.length_map, List.append_nil, List.cons_append, List.nil_append, ev_if, turn_nx, turn_ct, turn_bk, turn_rt, turn_ite, kWh_ev, isi_int_int, isi_bool_int, isi_int_bool, isi_bool_bool, isi_int_str, isi_int_none, isi_int_list, isi_int_tup, isi_bool_str, isi_bool_none, isi_bool_list, isi_bool_tup, isi_tup_tup, isi_tup_int, isi_tup_bool, isi_tup_str, isi_tup_none, isi_tup_list, isi_list_list, isi_list_tup, isi_list_int, isi_list_bool, isi_list_str, isi_list_none, isi_str_str, isi_str_int, isi_str_bool, isi_str_none, isi_str_list, isi_str_tup, decide_true, decide_false, not_true_eq_false, not_false_eq_true, ne_eq, decide_eq_true_eq, Bool.not_eq_true', decide_eq_false_iff_not, Bool.not_true, Bool.not_false, Bool.false_eq_true, if_true, if_false, reduceIte, hb, hp]
      exact e
theorem law_divisor_eq (a b : Int) : m_law_divisor [.int a, .int b] = .ok (.int (Int.gcd a b : Int)) := by
  have e := law_divisor_loop _ (a.natAbs : Int) (b.natAbs : Int) (by omega) (by omega) (Nat.le_refl _)
  have e2 : Int.gcd (a.natAbs : Int) (b.natAbs : Int) = Int.gcd a b := by simp [Int.gcd]
  simp +decide only [m_law_divisor, den_law_divisor, ev_seq, seq_nx, seq_rt, seq_ex, seq_bk, seq_ct, seq_ite, fl_ok, fl_ex, fl_ite, ev_set, kSet_ev, ev_ret, ev_retN, ev_nx, ev_bk, ev_ct, ev_raise, ev_if, kIf_ev, ev_drop, kNx_ev, ev_par, kPar_ev, kId_ev, ev_asg, kAsg_ev, ev_for, kFor_ev, ev_V, dVg_ok, ev_C, ev_1, ev_2, bind2_ok, bind2_ite1, bind2_ite2, bind_ite, ev_A, ev_nil, ev_cons, kCons_ev, ev_T, toB_ev, ev_and, ev_or, ev_not, kAnd_ev, kOr_ev, kNot_ev, ev_andV, ev_orV, ev_notV, kAndV_ev, kOrV_ev, kNotV_ev, ev_ife, kIfE_ev, ev_ch, kCh, tup_ev, lst_ev, call_ev, kw_ev, ev_kw, ev_fn, startE_0, startE_s, startE_c, fin_rt, fin_nx, fin_ex, fin_ite, ix_t0, ix_t1, ix_t2, ix_t3, ix_l0, ix_l1, ix_l2, len_l, len_t1, len_t2, len_t3, len_t4, beq_self_eq_true, ev_iL, ev_iT, asL_ev, asT_ev, ev_iA, ev_P, toI_ev, ev_P0, ev_sl, kSl_ev, put_1, gAdd_i, gSub_i, gMul_i, gDiv_p, gMod_p, gPow_l, gShl_l, gShr_l, gLt_i, gLe_i, gGt_i, gGe_i, gEq_i, gNe_i, gNeg_i, gAbs_i, gInt_i, gInt_b, gEq_s, gNe_s, gEq_b, gNe_b, gEq_2, gNe_2, gEq_3, gNe_3, gEq_22, gNe_22, DL.R.bind_ok, DL.R.bind_ex, ev_setL, kSetL_ev, ev_lDisp, kDisp_ev, ev_lList, lOf_l, lOf_t, ev_frz, frz_l, frz_d, frz_n, ev_lend, lend_l, lend_d, atom_i, atom_b, atom_s, ev_lendB, lendB_l, lendB_d, ev_app, app_l, kApp_ev, ev_put, put_l, ev_ixO, ixO_l, ixO_d, put_m, putAll_c, putAll_n, ev_lc, kLst_ev, ev_lcL, wipe_n, wipe_c, r1_2, r1_3, bits_ev, List.getElem?_cons_zero, List.getElem?_cons_succ, List.set_cons_zero, List.set_cons_succ, List.length_cons, List.length_nil, List.length_map, List.append_nil, List.cons_append, List.nil_append, ev_if, turn_nx, turn_ct, turn_bk, turn_rt, turn_ite, kWh_ev, isi_int_int, isi_bool_int, isi_int_bool, isi_bool_bool, isi_int_str, isi_int_none, isi_int_list, isi_int_tup, isi_bool_str, isi_bool_none, isi_bool_list, isi_bool_tup, isi_tup_tup, isi_tup_int, isi_tup_bool, isi_tup_str, isi_tup_none, isi_tup_list, isi_list_list, isi_list_tup, isi_list_int, isi_list_bool, isi_list_str, isi_list_none, isi_str_str, isi_str_int, isi_str_bool, isi_str_none, isi_str_list, isi_str_tup, decide_true, decide_false, not_true_eq_false, not_false_eq_true, ne_eq, decide_eq_true_eq, Bool.not_eq_true', decide_eq_false_iff_not, Bool.not_true, Bool.not_false, Bool.false_eq_true, if_true, if_false, reduceIte, e, e2]
/-- crosswise -/
def Cross (A B N t m u : Int) : Prop := A * u = t * N ∧ B * u = m * N
theorem law_stands_eq (A B N t m u : Int) (hL : Low A B N) (hC : Cross A B N t m u) {k1 k2 k3 k4 k5 k6 : Nat} [Bd A k1] [Bd B k2] [Bd N k3] [Bd t k4] [Bd m k5] [Bd u k6] (h1 : k1 + k6 ≤ 134217728) (h2 : k4 + k3 ≤ 134217728) (h3 : k2 + k6 ≤ 134217728) (h4 : k5 + k3 ≤ 134217728) :
    m_law_stands [.tuple [.int A, .int B, .int N], .int t, .int m, .int u] = .ok (.bool true) := by
  have g : ((Int.gcd (Int.gcd A B) N : Nat) : Int) = 1 := by rw [hL.2]; rfl
  have p : ¬ N < 1 := by have := hL.1; omega
  simp +decide only [m_law_stands, den_law_stands, ev_seq, seq_nx, seq_rt, seq_ex, seq_bk, seq_ct, seq_ite, fl_ok, fl_ex, fl_ite, ev_set, kSet_ev, ev_ret, ev_retN, ev_nx, ev_bk, ev_ct, ev_raise, ev_if, kIf_ev, ev_drop, kNx_ev, ev_par, kPar_ev, kId_ev, ev_asg, kAsg_ev, ev_for, kFor_ev, ev_V, dVg_ok, ev_C, ev_1, ev_2, bind2_ok, bind2_ite1, bind2_ite2, bind_ite, ev_A, ev_nil, ev_cons, kCons_ev, ev_T, toB_ev, ev_and, ev_or, ev_not, kAnd_ev, kOr_ev, kNot_ev, ev_andV, ev_orV, ev_notV, kAndV_ev, kOrV_ev, kNotV_ev, ev_ife, kIfE_ev, ev_ch, kCh, tup_ev, lst_ev, call_ev, kw_ev, ev_kw, ev_fn, startE_0, startE_s, startE_c, fin_rt, fin_nx, fin_ex, fin_ite, ix_t0, ix_t1, ix_t2, ix_t3, ix_l0, ix_l1, ix_l2, len_l, len_t1, len_t2, len_t3, len_t4, beq_self_eq_true, ev_iL, ev_iT, asL_ev, asT_ev, ev_iA, ev_P, toI_ev, ev_P0, ev_sl, kSl_ev, put_1, gAdd_i, gSub_i, gMul_i, gDiv_p, gMod_p, gPow_l, gShl_l, gShr_l, gLt_i, gLe_i, gGt_i, gGe_i, gEq_i, gNe_i, gNeg_i, gAbs_i, gInt_i, gInt_b, gEq_s, gNe_s, gEq_b, gNe_b, gEq_2, gNe_2, gEq_3, gNe_3, gEq_22, gNe_22, DL.R.bind_ok, DL.R.bind_ex, ev_setL, kSetL_ev, ev_lDisp, kDisp_ev, ev_lList, lOf_l, lOf_t, ev_frz, frz_l, frz_d, frz_n, ev_lend, lend_l, lend_d, atom_i, atom_b, atom_s, ev_lendB, lendB_l, lendB_d, ev_app, app_l, kApp_ev, ev_put, put_l, ev_ixO, ixO_l, ixO_d, put_m, putAll_c, putAll_n, ev_lc, kLst_ev, ev_lcL, wipe_n, wipe_c, r1_2, r1_3, bits_ev, List.getElem?_cons_zero, List.getElem?_cons_succ, List.set_cons_zero, List.set_cons_succ, List.length_cons, List.length_nil, List.length_map, List.append_nil, List.cons_append, List.nil_append, ev_if, turn_nx, turn_ct, turn_bk, turn_rt, turn_ite, kWh_ev, isi_int_int, isi_bool_int, isi_int_bool, isi_bool_bool, isi_int_str, isi_int_none, isi_int_list, isi_int_tup, isi_bool_str, isi_bool_none, isi_bool_list, isi_bool_tup, isi_tup_tup, isi_tup_int, isi_tup_bool, isi_tup_str, isi_tup_none, isi_tup_list, isi_list_list, isi_list_tup, isi_list_int, isi_list_bool, isi_list_str, isi_list_none, isi_str_str, isi_str_int, isi_str_bool, isi_str_none, isi_str_list, isi_str_tup, decide_true, decide_false, not_true_eq_false, not_false_eq_true, ne_eq, decide_eq_true_eq, Bool.not_eq_true', decide_eq_false_iff_not, Bool.not_true, Bool.not_false, Bool.false_eq_true, if_true, if_false, reduceIte, law_whole_int, law_divisor_eq, g, p, h1, h2, h3, h4, hC.1, hC.2]
/-- the great number drawn -/
def gr (c k : Int) : Int := (c + k + 1) * 105152070229383420083013462309641843003 % 170141183460469231731687303715884105727
instance bd_gr {c k : Int} : Bd (gr c k) 127 := (bd_emod : Bd (gr c k) _).mono (by decide)
theorem gr_nonneg (c k : Int) : 0 ≤ gr c k := Int.emod_nonneg _ (by decide)
theorem law_great_eq (c k : Int) {n : Nat} [Bd (c + k + 1) n] (h : n ≤ 134217000) : m_law_great [.int c, .int k] = .ok (.int (gr c k)) := by
  have h' : n + (Nat.log2 105152070229383420083013462309641843003 + 1) ≤ 134217728 := by
    have : Nat.log2 105152070229383420083013462309641843003 = 126 := by decide
    omega
  simp +decide only [m_law_great, den_law_great, ev_seq, seq_nx, seq_rt, seq_ex, seq_bk, seq_ct, seq_ite, fl_ok, fl_ex, fl_ite, ev_set, kSet_ev, ev_ret, ev_retN, ev_nx, ev_bk, ev_ct, ev_raise, ev_if, kIf_ev, ev_drop, kNx_ev, ev_par, kPar_ev, kId_ev, ev_asg, kAsg_ev, ev_for, kFor_ev, ev_V, dVg_ok, ev_C, ev_1, ev_2, bind2_ok, bind2_ite1, bind2_ite2, bind_ite, ev_A, ev_nil, ev_cons, kCons_ev, ev_T, toB_ev, ev_and, ev_or, ev_not, kAnd_ev, kOr_ev, kNot_ev, ev_andV, ev_orV, ev_notV, kAndV_ev, kOrV_ev, kNotV_ev, ev_ife, kIfE_ev, ev_ch, kCh, tup_ev, lst_ev, call_ev, kw_ev, ev_kw, ev_fn, startE_0, startE_s, startE_c, fin_rt, fin_nx, fin_ex, fin_ite, ix_t0, ix_t1, ix_t2, ix_t3, ix_l0, ix_l1, ix_l2, len_l, len_t1, len_t2, len_t3, len_t4, beq_self_eq_true, ev_iL, ev_iT, asL_ev, asT_ev, ev_iA, ev_P, toI_ev, ev_P0, ev_sl, kSl_ev, put_1, gAdd_i, gSub_i, gMul_i, gDiv_p, gMod_p, gPow_l, gShl_l, gShr_l, gLt_i, gLe_i, gGt_i, gGe_i, gEq_i, gNe_i, gNeg_i, gAbs_i, gInt_i, gInt_b, gEq_s, gNe_s, gEq_b, gNe_b, gEq_2, gNe_2, gEq_3, gNe_3, gEq_22, gNe_22, DL.R.bind_ok, DL.R.bind_ex, ev_setL, kSetL_ev, ev_lDisp, kDisp_ev, ev_lList, lOf_l, lOf_t, ev_frz, frz_l, frz_d, frz_n, ev_lend, lend_l, lend_d, atom_i, atom_b, atom_s, ev_lendB, lendB_l, lendB_d, ev_app, app_l, kApp_ev, ev_put, put_l, ev_ixO, ixO_l, ixO_d, put_m, putAll_c, putAll_n, ev_lc, kLst_ev, ev_lcL, wipe_n, wipe_c, r1_2, r1_3, bits_ev, List.getElem?_cons_zero, List.getElem?_cons_succ, List.set_cons_zero, List.set_cons_succ, List.length_cons, List.length_nil, List.length_map, List.append_nil, List.cons_append, List.nil_append, ev_if, turn_nx, turn_ct, turn_bk, turn_rt, turn_ite, kWh_ev, isi_int_int, isi_bool_int, isi_int_bool, isi_bool_bool, isi_int_str, isi_int_none, isi_int_list, isi_int_tup, isi_bool_str, isi_bool_none, isi_bool_list, isi_bool_tup, isi_tup_tup, isi_tup_int, isi_tup_bool, isi_tup_str, isi_tup_none, isi_tup_list, isi_list_list, isi_list_tup, isi_list_int, isi_list_bool, isi_list_str, isi_list_none, isi_str_str, isi_str_int, isi_str_bool, isi_str_none, isi_str_list, isi_str_tup, decide_true, decide_false, not_true_eq_false, not_false_eq_true, ne_eq, decide_eq_true_eq, Bool.not_eq_true', decide_eq_false_iff_not, Bool.not_true, Bool.not_false, Bool.false_eq_true, if_true, if_false, reduceIte, h', gr]
theorem getD_bd {zs : List Int} {k n : Nat} (h : ∀ z ∈ zs, z.natAbs < 2 ^ n) : Bd (zs.getD k 0) n := by
  constructor
  rw [List.getD_eq_getElem?_getD]
  cases e : zs[k]? with
  | none => exact Nat.two_pow_pos n
  | some z => exact h z (List.mem_of_getElem? e)
theorem law_number_ok (c k most : Int) {n : Nat} [Bd (c + k + 1) n] (hn : n ≤ 134217000) [bm : Bd most 140] (hm : 1 ≤ most) : ∃ z : Int, m_law_number [.int c, .int k, .int most] = .ok (.int z) ∧ Bd z 1400 := by
  have hg := gr_nonneg c k
  have bg := @bd_gr c k
  have e := law_great_eq c k hn
  generalize gr c k = g at *
  have hp8 : 1 ≤ most ^ 8 := Int.pow_pos (by omega)
  by_cases c1 : g % 40 = 0
  · have hw : (0 : Int) < 2 * (10 ^ 40 * most ^ 8) - 1 := by omega
    have nz : NZ (2 * (10 ^ 40 * most ^ 8) - 1) := ⟨by omega⟩
    refine ⟨(g / 40) ^ 10 % (2 * (10 ^ 40 * most ^ 8) - 1) - 10 ^ 40 * most ^ 8 + 1, ?_, Bd.mono inferInstance (by decide)⟩
    simp +decide only [m_law_number, den_law_number, ev_seq, seq_nx, seq_rt, seq_ex, seq_bk, seq_ct, seq_ite, fl_ok, fl_ex, fl_ite, ev_set, kSet_ev, ev_ret, ev_retN, ev_nx, ev_bk, ev_ct, ev_raise, ev_if, kIf_ev, ev_drop, kNx_ev, ev_par, kPar_ev, kId_ev, ev_asg, kAsg_ev, ev_for, kFor_ev, ev_V, dVg_ok, ev_C, ev_1, ev_2, bind2_ok, bind2_ite1, bind2_ite2, bind_ite, ev_A, ev_nil, ev_cons, kCons_ev, ev_T, toB_ev, ev_and, ev_or, ev_not, kAnd_ev, kOr_ev, kNot_ev, ev_andV, ev_orV, ev_notV, kAndV_ev, kOrV_ev, kNotV_ev, ev_ife, kIfE_ev, ev_ch, kCh, tup_ev, lst_ev, call_ev, kw_ev, ev_kw, ev_fn, startE_0, startE_s, startE_c, fin_rt, fin_nx, fin_ex, fin_ite, ix_t0, ix_t1, ix_t2, ix_t3, ix_l0, ix_l1, ix_l2, len_l, len_t1, len_t2, len_t3, len_t4, beq_self_eq_true, ev_iL, ev_iT, asL_ev, asT_ev, ev_iA, ev_P, toI_ev, ev_P0, ev_sl, kSl_ev, put_1, gAdd_i, gSub_i, gMul_i, gDiv_p, gMod_p, gPow_l, gShl_l, gShr_l, gLt_i, gLe_i, gGt_i, gGe_i, gEq_i, gNe_i, gNeg_i, gAbs_i, gInt_i, gInt_b, gEq_s, gNe_s, gEq_b, gNe_b, gEq_2, gNe_2, gEq_3, gNe_3, gEq_22, gNe_22, DL.R.bind_ok, DL.R.bind_ex, ev_setL, kSetL_ev, ev_lDisp, kDisp_ev, ev_lList, lOf_l, lOf_t, ev_frz, frz_l, frz_d, frz_n, ev_lend, lend_l, lend_d, atom_i, atom_b, atom_s, ev_lendB, lendB_l, lendB_d, ev_app, app_l, kApp_ev, ev_put, put_l, ev_ixO, ixO_l, ixO_d, put_m, putAll_c, putAll_n, ev_lc, kLst_ev, ev_lcL, wipe_n, wipe_c, r1_2, r1_3, bits_ev, List.getElem?_cons_zero, List.getElem?_cons_succ, List.set_cons_zero, List.set_cons_succ, List.length_cons, List.length_nil, List.length_map, List.append_nil, List.cons_append, List.nil_append, ev_if, turn_nx, turn_ct, turn_bk, turn_rt, turn_ite, kWh_ev, isi_int_int, isi_bool_int, isi_int_bool, isi_bool_bool, isi_int_str, isi_int_none, isi_int_list, isi_int_tup, isi_bool_str, isi_bool_none, isi_bool_list, isi_bool_tup, isi_tup_tup, isi_tup_int, isi_tup_bool, isi_tup_str, isi_tup_none, isi_tup_list, isi_list_list, isi_list_tup, isi_list_int, isi_list_bool, isi_list_str, isi_list_none, isi_str_str, isi_str_int, isi_str_bool, isi_str_none, isi_str_list, isi_str_tup, decide_true, decide_false, not_true_eq_false, not_false_eq_true, ne_eq, decide_eq_true_eq, Bool.not_eq_true', decide_eq_false_iff_not, Bool.not_true, Bool.not_false, Bool.false_eq_true, if_true, if_false, reduceIte, e, c1, hw]
  by_cases c2 : g % 5 = 0
  · have hw : (0 : Int) < 2 * most - 1 := by omega
    have nz : NZ (2 * most - 1) := ⟨by omega⟩
    refine ⟨g / 5 * g % (2 * most - 1) - (most - 1), ?_, Bd.mono inferInstance (by decide)⟩
    simp +decide only [m_law_number, den_law_number, ev_seq, seq_nx, seq_rt, seq_ex, seq_bk, seq_ct, seq_ite, fl_ok, fl_ex, fl_ite, ev_set, kSet_ev, ev_ret, ev_retN, ev_nx, ev_bk, ev_ct, ev_raise, ev_if, kIf_ev, ev_drop, kNx_ev, ev_par, kPar_ev, kId_ev, ev_asg, kAsg_ev, ev_for, kFor_ev, ev_V, dVg_ok, ev_C, ev_1, ev_2, bind2_ok, bind2_ite1, bind2_ite2, bind_ite, ev_A, ev_nil, ev_cons, kCons_ev, ev_T, toB_ev, ev_and, ev_or, ev_not, kAnd_ev, kOr_ev, kNot_ev, ev_andV, ev_orV, ev_notV, kAndV_ev, kOrV_ev, kNotV_ev, ev_ife, kIfE_ev, ev_ch, kCh, tup_ev, lst_ev, call_ev, kw_ev, ev_kw, ev_fn, startE_0, startE_s, startE_c, fin_rt, fin_nx, fin_ex, fin_ite, ix_t0, ix_t1, ix_t2, ix_t3, ix_l0, ix_l1, ix_l2, len_l, len_t1, len_t2, len_t3, len_t4, beq_self_eq_true, ev_iL, ev_iT, asL_ev, asT_ev, ev_iA, ev_P, toI_ev, ev_P0, ev_sl, kSl_ev, put_1, gAdd_i, gSub_i, gMul_i, gDiv_p, gMod_p, gPow_l, gShl_l, gShr_l, gLt_i, gLe_i, gGt_i, gGe_i, gEq_i, gNe_i, gNeg_i, gAbs_i, gInt_i, gInt_b, gEq_s, gNe_s, gEq_b, gNe_b, gEq_2, gNe_2, gEq_3, gNe_3, gEq_22, gNe_22, DL.R.bind_ok, DL.R.bind_ex, ev_setL, kSetL_ev, ev_lDisp, kDisp_ev, ev_lList, lOf_l, lOf_t, ev_frz, frz_l, frz_d, frz_n, ev_lend, lend_l, lend_d, atom_i, atom_b, atom_s, ev_lendB, lendB_l, lendB_d, ev_app, app_l, kApp_ev, ev_put, put_l, ev_ixO, ixO_l, ixO_d, put_m, putAll_c, putAll_n, ev_lc, kLst_ev, ev_lcL, wipe_n, wipe_c, r1_2, r1_3, bits_ev, List.getElem?_cons_zero, List.getElem?_cons_succ, List.set_cons_zero, List.set_cons_succ, List.length_cons, List.length_nil, List.length_map, List.append_nil, List.cons_append, List.nil_append, ev_if, turn_nx, turn_ct, turn_bk, turn_rt, turn_ite, kWh_ev, isi_int_int, isi_bool_int, isi_int_bool, isi_bool_bool, isi_int_str, isi_int_none, isi_int_list, isi_int_tup, isi_bool_str, isi_bool_none, isi_bool_list, isi_bool_tup, isi_tup_tup, isi_tup_int, isi_tup_bool, isi_tup_str, isi_tup_none, isi_tup_list, isi_list_list, isi_list_tup, isi_list_int, isi_list_bool, isi_list_str, isi_list_none, isi_str_str, isi_str_int, isi_str_bool, isi_str_none, isi_str_list, isi_str_tup, decide_true, decide_false, not_true_eq_false, not_false_eq_true, ne_eq, decide_eq_true_eq, Bool.not_eq_true', decide_eq_false_iff_not, Bool.not_true, Bool.not_false, Bool.false_eq_true, if_true, if_false, reduceIte, e, c1, c2, hw]
  by_cases c3 : g % 5 = 1
  · refine ⟨g / 5 % 2001 - 1000, ?_, Bd.mono inferInstance (by decide)⟩
    simp +decide only [m_law_number, den_law_number, ev_seq, seq_nx, seq_rt, seq_ex, seq_bk, seq_ct, seq_ite, fl_ok, fl_ex, fl_ite, ev_set, kSet_ev, ev_ret, ev_retN, ev_nx, ev_bk, ev_ct, ev_raise, ev_if, kIf_ev, ev_drop, kNx_ev, ev_par, kPar_ev, kId_ev, ev_asg, kAsg_ev, ev_for, kFor_ev, ev_V, dVg_ok, ev_C, ev_1, ev_2, bind2_ok, bind2_ite1, bind2_ite2, bind_ite, ev_A, ev_nil, ev_cons, kCons_ev, ev_T, toB_ev, ev_and, ev_or, ev_not, kAnd_ev, kOr_ev, kNot_ev, ev_andV, ev_orV, ev_notV, kAndV_ev, kOrV_ev, kNotV_ev, ev_ife, kIfE_ev, ev_ch, kCh, tup_ev, lst_ev, call_ev, kw_ev, ev_kw, ev_fn, startE_0, startE_s, startE_c, fin_rt, fin_nx, fin_ex, fin_ite, ix_t0, ix_t1, ix_t2, ix_t3, ix_l0, ix_l1, ix_l2, len_l, len_t1, len_t2, len_t3, len_t4, beq_self_eq_true, ev_iL, ev_iT, asL_ev, asT_ev, ev_iA, ev_P, toI_ev, ev_P0, ev_sl, kSl_ev, put_1, gAdd_i, gSub_i, gMul_i, gDiv_p, gMod_p, gPow_l, gShl_l, gShr_l, gLt_i, gLe_i, gGt_i, gGe_i, gEq_i, gNe_i, gNeg_i, gAbs_i, gInt_i, gInt_b, gEq_s, gNe_s, gEq_b, gNe_b, gEq_2, gNe_2, gEq_3, gNe_3, gEq_22, gNe_22, DL.R.bind_ok, DL.R.bind_ex, ev_setL, kSetL_ev, ev_lDisp, kDisp_ev, ev_lList, lOf_l, lOf_t, ev_frz, frz_l, frz_d, frz_n, ev_lend, lend_l, lend_d, atom_i, atom_b, atom_s, ev_lendB, lendB_l, lendB_d, ev_app, app_l, kApp_ev, ev_put, put_l, ev_ixO, ixO_l, ixO_d, put_m, putAll_c, putAll_n, ev_lc, kLst_ev, ev_lcL, wipe_n, wipe_c, r1_2, r1_3, bits_ev, List.getElem?_cons_zero, List.getElem?_cons_succ, List.set_cons_zero, List.set_cons_succ, List.length_cons, List.length_nil, List.length_map, List.append_nil, List.cons_append, List.nil_append, ev_if, turn_nx, turn_ct, turn_bk, turn_rt, turn_ite, kWh_ev, isi_int_int, isi_bool_int, isi_int_bool, isi_bool_bool, isi_int_str, isi_int_none, isi_int_list, isi_int_tup, isi_bool_str, isi_bool_none, isi_bool_list, isi_bool_tup, isi_tup_tup, isi_tup_int, isi_tup_bool, isi_tup_str, isi_tup_none, isi_tup_list, isi_list_list, isi_list_tup, isi_list_int, isi_list_bool, isi_list_str, isi_list_none, isi_str_str, isi_str_int, isi_str_bool, isi_str_none, isi_str_list, isi_str_tup, decide_true, decide_false, not_true_eq_false, not_false_eq_true, ne_eq, decide_eq_true_eq, Bool.not_eq_true', decide_eq_false_iff_not, Bool.not_true, Bool.not_false, Bool.false_eq_true, if_true, if_false, reduceIte, e, c1, c2, c3]
  by_cases c4 : g % 5 = 2
  · have hl : [PyData.int 0, .int 1, .int (-1), .int 12, .int (-60), .int (most / 10)] = [0, 1, -1, 12, -60, most / 10].map PyData.int := rfl
    refine ⟨[0, 1, -1, 12, -60, most / 10].getD (g / 5 % 6).toNat 0, ?_, Bd.mono (getD_bd (n := 140) ?_) (by decide)⟩
    · have h0 : 0 ≤ g / 5 % 6 := by omega
      have h1 : g / 5 % 6 < (([0, 1, -1, 12, -60, most / 10] : List Int).length : Nat) := by show g / 5 % 6 < 6; omega
      simp +decide only [m_law_number, den_law_number, ev_seq, seq_nx, seq_rt, seq_ex, seq_bk, seq_ct, seq_ite, fl_ok, fl_ex, fl_ite, ev_set, kSet_ev, ev_ret, ev_retN, ev_nx, ev_bk, ev_ct, ev_raise, ev_if, kIf_ev, ev_drop, kNx_ev, ev_par, kPar_ev, kId_ev, ev_asg, kAsg_ev, ev_for, kFor_ev, ev_V, dVg_ok, ev_C, ev_1, ev_2, bind2_ok, bind2_ite1, bind2_ite2, bind_ite, ev_A, ev_nil, ev_cons, kCons_ev, ev_T, toB_ev, ev_and, ev_or, ev_not, kAnd_ev, kOr_ev, kNot_ev, ev_andV, ev_orV, ev_notV, kAndV_ev, kOrV_ev, kNotV_ev, ev_ife, kIfE_ev, ev_ch, kCh, tup_ev, lst_ev, call_ev, kw_ev, ev_kw, ev_fn, startE_0, startE_s, startE_c, fin_rt, fin_nx, fin_ex, fin_ite, ix_t0, ix_t1, ix_t2, ix_t3, ix_l0, ix_l1, ix_l2, len_l, len_t1, len_t2, len_t3, len_t4, beq_self_eq_true, ev_iL, ev_iT, asL_ev, asT_ev, ev_iA, ev_P, toI_ev, ev_P0, ev_sl, kSl_ev, put_1, gAdd_i, gSub_i, gMul_i, gDiv_p, gMod_p, gPow_l, gShl_l, gShr_l, gLt_i, gLe_i, gGt_i, gGe_i, gEq_i, gNe_i, gNeg_i, gAbs_i, gInt_i, gInt_b, gEq_s, gNe_s, gEq_b, gNe_b, gEq_2, gNe_2, gEq_3, gNe_3, gEq_22, gNe_22, DL.R.bind_ok, DL.R.bind_ex, ev_setL, kSetL_ev, ev_lDisp, kDisp_ev, ev_lList, lOf_l, lOf_t, ev_frz, frz_l, frz_d, frz_n, ev_lend, lend_l, lend_d, atom_i, atom_b, atom_s, ev_lendB, lendB_l, lendB_d, ev_app, app_l, kApp_ev, ev_put, put_l, ev_ixO, ixO_l, ixO_d, put_m, putAll_c, putAll_n, ev_lc, kLst_ev, ev_lcL, wipe_n, wipe_c, r1_2, r1_3, bits_ev, List.getElem?_cons_zero, List.getElem?_cons_succ, List.set_cons_zero, List.set_cons_succ, List.length_cons, List.length_nil, List.length_map, List.append_nil, List.cons_append, List.nil_append, ev_if, turn_nx, turn_ct, turn_bk, turn_rt, turn_ite, kWh_ev, isi_int_int, isi_bool_int, isi_int_bool, isi_bool_bool, isi_int_str, isi_int_none, isi_int_list, isi_int_tup, isi_bool_str, isi_bool_none, isi_bool_list, isi_bool_tup, isi_tup_tup, isi_tup_int, isi_tup_bool, isi_tup_str, isi_tup_none, isi_tup_list, isi_list_list, isi_list_tup, isi_list_int, isi_list_bool, isi_list_str, isi_list_none, isi_str_str, isi_str_int, isi_str_bool, isi_str_none, isi_str_list, isi_str_tup, decide_true, decide_false, not_true_eq_false, not_false_eq_true, ne_eq, decide_eq_true_eq, Bool.not_eq_true', decide_eq_false_iff_not, Bool.not_true, Bool.not_false, Bool.false_eq_true, if_true, if_false, reduceIte, e, c1, c2, c3, c4, hl, ix_ints h0 h1]
    · have := bm.h
      intro z hz
      simp only [List.mem_cons, List.not_mem_nil, or_false] at hz
      rcases hz with rfl | rfl | rfl | rfl | rfl | rfl
      · decide
      · decide
      · decide
      · decide
      · decide
      · exact (bd_ediv (i := most)).h
  · refine ⟨g / 5 % 25 - 12, ?_, Bd.mono inferInstance (by decide)⟩
    simp +decide only [m_law_number, den_law_number, ev_seq, seq_nx, seq_rt, seq_ex, seq_bk, seq_ct, seq_ite, fl_ok, fl_ex, fl_ite, ev_set, kSet_ev, ev_ret, ev_retN, ev_nx, ev_bk, ev_ct, ev_raise, ev_if, kIf_ev, ev_drop, kNx_ev, ev_par, kPar_ev, kId_ev, ev_asg, kAsg_ev, ev_for, kFor_ev, ev_V, dVg_ok, ev_C, ev_1, ev_2, bind2_ok, bind2_ite1, bind2_ite2, bind_ite, ev_A, ev_nil, ev_cons, kCons_ev, ev_T, toB_ev, ev_and, ev_or, ev_not, kAnd_ev, kOr_ev, kNot_ev, ev_andV, ev_orV, ev_notV, kAndV_ev, kOrV_ev, kNotV_ev, ev_ife, kIfE_ev, ev_ch, kCh, tup_ev, lst_ev, call_ev, kw_ev, ev_kw, ev_fn, startE_0, startE_s, startE_c, fin_rt, fin_nx, fin_ex, fin_ite, ix_t0, ix_t1, ix_t2, ix_t3, ix_l0, ix_l1, ix_l2, len_l, len_t1, len_t2, len_t3, len_t4, beq_self_eq_true, ev_iL, ev_iT, asL_ev, asT_ev, ev_iA, ev_P, toI_ev, ev_P0, ev_sl, kSl_ev, put_1, gAdd_i, gSub_i, gMul_i, gDiv_p, gMod_p, gPow_l, gShl_l, gShr_l, gLt_i, gLe_i, gGt_i, gGe_i, gEq_i, gNe_i, gNeg_i, gAbs_i, gInt_i, gInt_b, gEq_s, gNe_s, gEq_b, gNe_b, gEq_2, gNe_2, gEq_3, gNe_3, gEq_22, gNe_22, DL.R.bind_ok, DL.R.bind_ex, ev_setL, kSetL_ev, ev_lDisp, kDisp_ev, ev_lList, lOf_l, lOf_t, ev_frz, frz_l, frz_d, frz_n, ev_lend, lend_l, lend_d, atom_i, atom_b, atom_s, ev_lendB, lendB_l, lendB_d, ev_app, app_l, kApp_ev, ev_put, put_l, ev_ixO, ixO_l, ixO_d, put_m, putAll_c, putAll_n, ev_lc, kLst_ev, ev_lcL, wipe_n, wipe_c, r1_2, r1_3, bits_ev, List.getElem?_cons_zero, List.getElem?_cons_succ, List.set_cons_zero, List.set_cons_succ, List.length_cons, List.length_nil, List.length_map, List.append_nil, List.cons_append, List.nil_append, ev_if, turn_nx, turn_ct, turn_bk, turn_rt, turn_ite, kWh_ev, isi_int_int, isi_bool_int, isi_int_bool, isi_bool_bool, isi_int_str, isi_int_none, isi_int_list, isi_int_tup, isi_bool_str, isi_bool_none, isi_bool_list, isi_bool_tup, isi_tup_tup, isi_tup_int, isi_tup_bool, isi_tup_str, isi_tup_none, isi_tup_list, isi_list_list, isi_list_tup, isi_list_int, isi_list_bool, isi_list_str, isi_list_none, isi_str_str, isi_str_int, isi_str_bool, isi_str_none, isi_str_list, isi_str_tup, decide_true, decide_false, not_true_eq_false, not_false_eq_true, ne_eq, decide_eq_true_eq, Bool.not_eq_true', decide_eq_false_iff_not, Bool.not_true, Bool.not_false, Bool.false_eq_true, if_true, if_false, reduceIte, e, c1, c2, c3, c4]

theorem cell_bd {z : Int} (h : Builtin.Int.intBits z ≤ 1048576) : Bd z 1048576 := ⟨lt_of_ib h⟩
instance bd_lA {a b n : Int} {k : Nat} [Bd a k] : Bd (lA a b n) k := bd_fdiv
instance bd_lB {a b n : Int} {k : Nat} [Bd b k] : Bd (lB a b n) k := bd_fdiv
instance bd_lN {a b n : Int} {k : Nat} [Bd n k] : Bd (lN a b n) k := bd_fdiv
theorem stands_of (a b n : Int) (hn : n ≠ 0) {k1 k2 k3 : Nat} [Bd a k1] [Bd b k2] [Bd n k3] (h1 : k1 + k3 ≤ 134217728) (h2 : k2 + k3 ≤ 134217728) :
    m_law_stands [.tuple [.int (lA a b n), .int (lB a b n), .int (lN a b n)], .int a, .int b, .int n] = .ok (.bool true) :=
  law_stands_eq _ _ _ _ _ _ (low_of hn) (lcross hn) h1 h1 h2 h2
/-! lengths as data -/
@[reducible] def L3 (a b n : Int) : PD := .tuple [.int a, .int b, .int n]
@[reducible] def F2 (a b : Int) : PD := .tuple [.int a, .int b]
theorem law_lowest_eq (a b n : Int) (hn : n ≠ 0) {k : Nat} [h3 : Bd n k] (hk : k ≤ 9000) : m_law_lowest [.int a, .int b, .int n] = .ok (.tuple [.int (lA a b n), .int (lB a b n), .int (lN a b n)]) := by
  have hs : shr (g3 a b n) n ≠ 0 := shr_ne (g3_ne hn)
  have bs : Bd (shr (g3 a b n) n) k := bd_shr hn h3
  have e2 : Int.gcd (Int.gcd a b) n = g3 a b n := rfl
  by_cases h : n < 0
  · have e : 0 - ((g3 a b n : Nat) : Int) = shr (g3 a b n) n := by unfold shr; rw [if_pos h]
    simp +decide only [m_law_lowest, den_law_lowest, ev_seq, seq_nx, seq_rt, seq_ex, seq_bk, seq_ct, seq_ite, fl_ok, fl_ex, fl_ite, ev_set, kSet_ev, ev_ret, ev_retN, ev_nx, ev_bk, ev_ct, ev_raise, ev_if, kIf_ev, ev_drop, kNx_ev, ev_par, kPar_ev, kId_ev, ev_asg, kAsg_ev, ev_for, kFor_ev, ev_V, dVg_ok, ev_C, ev_1, ev_2, bind2_ok, bind2_ite1, bind2_ite2, bind_ite, ev_A, ev_nil, ev_cons, kCons_ev, ev_T, toB_ev, ev_and, ev_or, ev_not, kAnd_ev, kOr_ev, kNot_ev, ev_andV, ev_orV, ev_notV, kAndV_ev, kOrV_ev, kNotV_ev, ev_ife, kIfE_ev, ev_ch, kCh, tup_ev, lst_ev, call_ev, kw_ev, ev_kw, ev_fn, startE_0, startE_s, startE_c, fin_rt, fin_nx, fin_ex, fin_ite, ix_t0, ix_t1, ix_t2, ix_t3, ix_l0, ix_l1, ix_l2, len_l, len_t1, len_t2, len_t3, len_t4, beq_self_eq_true, ev_iL, ev_iT, asL_ev, asT_ev, ev_iA, ev_P, toI_ev, ev_P0, ev_sl, kSl_ev, put_1, gAdd_i, gSub_i, gMul_i, gDiv_p, gMod_p, gPow_l, gShl_l, gShr_l, gLt_i, gLe_i, gGt_i, gGe_i, gEq_i, gNe_i, gNeg_i, gAbs_i, gInt_i, gInt_b, gEq_s, gNe_s, gEq_b, gNe_b, gEq_2, gNe_2, gEq_3, gNe_3, gEq_22, gNe_22, DL.R.bind_ok, DL.R.bind_ex, ev_setL, kSetL_ev, ev_lDisp, kDisp_ev, ev_lList, lOf_l, lOf_t, ev_frz, frz_l, frz_d, frz_n, ev_lend, lend_l, lend_d, atom_i, atom_b, atom_s, ev_lendB, lendB_l, lendB_d, ev_app, app_l, kApp_ev, ev_put, put_l, ev_ixO, ixO_l, ixO_d, put_m, putAll_c, putAll_n, ev_lc, kLst_ev, ev_lcL, wipe_n, wipe_c, r1_2, r1_3, bits_ev, List.getElem?_cons_zero, List.getElem?_cons_succ, List.set_cons_zero, List.set_cons_succ, List.length_cons, List.length_nil, List.length_map, List.append_nil, List.cons_append, List.nil_append, ev_if, turn_nx, turn_ct, turn_bk, turn_rt, turn_ite, kWh_ev, isi_int_int, isi_bool_int, isi_int_bool, isi_bool_bool, isi_int_str, isi_int_none, isi_int_list, isi_int_tup, isi_bool_str, isi_bool_none, isi_bool_list, isi_bool_tup, isi_tup_tup, isi_tup_int, isi_tup_bool, isi_tup_str, isi_tup_none, isi_tup_list, isi_list_list, isi_list_tup, isi_list_int, isi_list_bool, isi_list_str, isi_list_none, isi_str_str, isi_str_int, isi_str_bool, isi_str_none, isi_str_list, isi_str_tup, decide_true, decide_false, not_true_eq_false, not_false_eq_true, ne_eq, decide_eq_true_eq, Bool.not_eq_true', decide_eq_false_iff_not, Bool.not_true, Bool.not_false, Bool.false_eq_true, if_true, if_false, reduceIte, gDiv_i, law_divisor_eq, e2, h, e, hs, hk, lA, lB, lN]
  · have e : ((g3 a b n : Nat) : Int) = shr (g3 a b n) n := by unfold shr; rw [if_neg h]
    simp +decide only [m_law_lowest, den_law_lowest, ev_seq, seq_nx, seq_rt, seq_ex, seq_bk, seq_ct, seq_ite, fl_ok, fl_ex, fl_ite, ev_set, kSet_ev, ev_ret, ev_retN, ev_nx, ev_bk, ev_ct, ev_raise, ev_if, kIf_ev, ev_drop, kNx_ev, ev_par, kPar_ev, kId_ev, ev_asg, kAsg_ev, ev_for, kFor_ev, ev_V, dVg_ok, ev_C, ev_1, ev_2, bind2_ok, bind2_ite1, bind2_ite2, bind_ite, ev_A, ev_nil, ev_cons, kCons_ev, ev_T, toB_ev, ev_and, ev_or, ev_not, kAnd_ev, kOr_ev, kNot_ev, ev_andV, ev_orV, ev_notV, kAndV_ev, kOrV_ev, kNotV_ev, ev_ife, kIfE_ev, ev_ch, kCh, tup_ev, lst_ev, call_ev, kw_ev, ev_kw, ev_fn, startE_0, startE_s, startE_c, fin_rt, fin_nx, fin_ex, fin_ite, ix_t0, ix_t1, ix_t2, ix_t3, ix_l0, ix_l1, ix_l2, len_l, len_t1, len_t2, len_t3, len_t4, beq_self_eq_true, ev_iL, ev_iT, asL_ev, asT_ev, ev_iA, ev_P, toI_ev, ev_P0, ev_sl, kSl_ev, put_1, gAdd_i, gSub_i, gMul_i, gDiv_p, gMod_p, gPow_l, gShl_l, gShr_l, gLt_i, gLe_i, gGt_i, gGe_i, gEq_i, gNe_i, gNeg_i, gAbs_i, gInt_i, gInt_b, gEq_s, gNe_s, gEq_b, gNe_b, gEq_2, gNe_2, gEq_3, gNe_3, gEq_22, gNe_22, DL.R.bind_ok, DL.R.bind_ex, ev_setL, kSetL_ev, ev_lDisp, kDisp_ev, ev_lList, lOf_l, lOf_t, ev_frz, frz_l, frz_d, frz_n, ev_lend, lend_l, lend_d, atom_i, atom_b, atom_s, ev_lendB, lendB_l, lendB_d, ev_app, app_l, kApp_ev, ev_put, put_l, ev_ixO, ixO_l, ixO_d, put_m, putAll_c, putAll_n, ev_lc, kLst_ev, ev_lcL, wipe_n, wipe_c, r1_2, r1_3, bits_ev, List.getElem?_cons_zero, List.getElem?_cons_succ, List.set_cons_zero, List.set_cons_succ, List.length_cons, List.length_nil, List.length_map, List.append_nil, List.cons_append, List.nil_append, ev_if, turn_nx, turn_ct, turn_bk, turn_rt, turn_ite, kWh_ev, isi_int_int, isi_bool_int, isi_int_bool, isi_bool_bool, isi_int_str, isi_int_none, isi_int_list, isi_int_tup, isi_bool_str, isi_bool_none, isi_bool_list, isi_bool_tup, isi_tup_tup, isi_tup_int, isi_tup_bool, isi_tup_str, isi_tup_none, isi_tup_list, isi_list_list, isi_list_tup, isi_list_int, isi_list_bool, isi_list_str, isi_list_none, isi_str_str, isi_str_int, isi_str_bool, isi_str_none, isi_str_list, isi_str_tup, decide_true, decide_false, not_true_eq_false, not_false_eq_true, ne_eq, decide_eq_true_eq, Bool.not_eq_true', decide_eq_false_iff_not, Bool.not_true, Bool.not_false, Bool.false_eq_true, if_true, if_false, reduceIte, gDiv_i, law_divisor_eq, e2, h, e, hs, hk, lA, lB, lN]
theorem law_same_eq (a b n : Int) : m_law_same [.tuple [.int a, .int b, .int n], .tuple [.int a, .int b, .int n]] = .ok (.bool true) := by
  simp +decide only [m_law_same, den_law_same, ev_seq, seq_nx, seq_rt, seq_ex, seq_bk, seq_ct, seq_ite, fl_ok, fl_ex, fl_ite, ev_set, kSet_ev, ev_ret, ev_retN, ev_nx, ev_bk, ev_ct, ev_raise, ev_if, kIf_ev, ev_drop, kNx_ev, ev_par, kPar_ev, kId_ev, ev_asg, kAsg_ev, ev_for, kFor_ev, ev_V, dVg_ok, ev_C, ev_1, ev_2, bind2_ok, bind2_ite1, bind2_ite2, bind_ite, ev_A, ev_nil, ev_cons, kCons_ev, ev_T, toB_ev, ev_and, ev_or, ev_not, kAnd_ev, kOr_ev, kNot_ev, ev_andV, ev_orV, ev_notV, kAndV_ev, kOrV_ev, kNotV_ev, ev_ife, kIfE_ev, ev_ch, kCh, tup_ev, lst_ev, call_ev, kw_ev, ev_kw, ev_fn, startE_0, startE_s, startE_c, fin_rt, fin_nx, fin_ex, fin_ite, ix_t0, ix_t1, ix_t2, ix_t3, ix_l0, ix_l1, ix_l2, len_l, len_t1, len_t2, len_t3, len_t4, beq_self_eq_true, ev_iL, ev_iT, asL_ev, asT_ev, ev_iA, ev_P, toI_ev, ev_P0, ev_sl, kSl_ev, put_1, gAdd_i, gSub_i, gMul_i, gDiv_p, gMod_p, gPow_l, gShl_l, gShr_l, gLt_i, gLe_i, gGt_i, gGe_i, gEq_i, gNe_i, gNeg_i, gAbs_i, gInt_i, gInt_b, gEq_s, gNe_s, gEq_b, gNe_b, gEq_2, gNe_2, gEq_3, gNe_3, gEq_22, gNe_22, DL.R.bind_ok, DL.R.bind_ex, ev_setL, kSetL_ev, ev_lDisp, kDisp_ev, ev_lList, lOf_l, lOf_t, ev_frz, frz_l, frz_d, frz_n, ev_lend, lend_l, lend_d, atom_i, atom_b, atom_s, ev_lendB, lendB_l, lendB_d, ev_app, app_l, kApp_ev, ev_put, put_l, ev_ixO, ixO_l, ixO_d, put_m, putAll_c, putAll_n, ev_lc, kLst_ev, ev_lcL, wipe_n, wipe_c, r1_2, r1_3, bits_ev, List.getElem?_cons_zero, List.getElem?_cons_succ, List.set_cons_zero, List.set_cons_succ, List.length_cons, List.length_nil, List.length_map, List.append_nil, List.cons_append, List.nil_append, ev_if, turn_nx, turn_ct, turn_bk, turn_rt, turn_ite, kWh_ev, isi_int_int, isi_bool_int, isi_int_bool, isi_bool_bool, isi_int_str, isi_int_none, isi_int_list, isi_int_tup, isi_bool_str, isi_bool_none, isi_bool_list, isi_bool_tup, isi_tup_tup, isi_tup_int, isi_tup_bool, isi_tup_str, isi_tup_none, isi_tup_list, isi_list_list, isi_list_tup, isi_list_int, isi_list_bool, isi_list_str, isi_list_none, isi_str_str, isi_str_int, isi_str_bool, isi_str_none, isi_str_list, isi_str_tup, decide_true, decide_false, not_true_eq_false, not_false_eq_true, ne_eq, decide_eq_true_eq, Bool.not_eq_true', decide_eq_false_iff_not, Bool.not_true, Bool.not_false, Bool.false_eq_true, if_true, if_false, reduceIte, law_whole_int, and_self]
theorem added_eq (a b n a' b' n' : Int) (hn : n * n' ≠ 0) {k1 k2 k3 k4 k5 k6 : Nat} [Bd a k1] [Bd b k2] [Bd n k3] [Bd a' k4] [Bd b' k5] [Bd n' k6] (h1 : k1 ≤ 4000000) (h2 : k2 ≤ 4000000) (h3 : k3 ≤ 4000) (h4 : k4 ≤ 4000000) (h5 : k5 ≤ 4000000) (h6 : k6 ≤ 4000) :
    m_added [.tuple [.int a, .int b, .int n], .tuple [.int a', .int b', .int n']] = .ok (.tuple [.int (lA (a * n' + a' * n) (b * n' + b' * n) (n * n')), .int (lB (a * n' + a' * n) (b * n' + b' * n) (n * n')), .int (lN (a * n' + a' * n) (b * n' + b' * n) (n * n'))]) := by
  have i1 : k3 + k6 ≤ 134217728 := by omega
  have i2 : k1 + k6 ≤ 134217728 := by omega
  have i3 : k4 + k3 ≤ 134217728 := by omega
  have i4 : k2 + k6 ≤ 134217728 := by omega
  have i5 : k5 + k3 ≤ 134217728 := by omega
  have i6 : k3 + k6 ≤ 9000 := by omega
  simp +decide only [m_added, den_added, ev_seq, seq_nx, seq_rt, seq_ex, seq_bk, seq_ct, seq_ite, fl_ok, fl_ex, fl_ite, ev_set, kSet_ev, ev_ret, ev_retN, ev_nx, ev_bk, ev_ct, ev_raise, ev_if, kIf_ev, ev_drop, kNx_ev, ev_par, kPar_ev, kId_ev, ev_asg, kAsg_ev, ev_for, kFor_ev, ev_V, dVg_ok, ev_C, ev_1, ev_2, bind2_ok, bind2_ite1, bind2_ite2, bind_ite, ev_A, ev_nil, ev_cons, kCons_ev, ev_T, toB_ev, ev_and, ev_or, ev_not, kAnd_ev, kOr_ev, kNot_ev, ev_andV, ev_orV, ev_notV, kAndV_ev, kOrV_ev, kNotV_ev, ev_ife, kIfE_ev, ev_ch, kCh, tup_ev, lst_ev, call_ev, kw_ev, ev_kw, ev_fn, startE_0, startE_s, startE_c, fin_rt, fin_nx, fin_ex, fin_ite, ix_t0, ix_t1, ix_t2, ix_t3, ix_l0, ix_l1, ix_l2, len_l, len_t1, len_t2, len_t3, len_t4, beq_self_eq_true, ev_iL, ev_iT, asL_ev, asT_ev, ev_iA, ev_P, toI_ev, ev_P0, ev_sl, kSl_ev, put_1, gAdd_i, gSub_i, gMul_i, gDiv_p, gMod_p, gPow_l, gShl_l, gShr_l, gLt_i, gLe_i, gGt_i, gGe_i, gEq_i, gNe_i, gNeg_i, gAbs_i, gInt_i, gInt_b, gEq_s, gNe_s, gEq_b, gNe_b, gEq_2, gNe_2, gEq_3, gNe_3, gEq_22, gNe_22, DL.R.bind_ok, DL.R.bind_ex, ev_setL, kSetL_ev, ev_lDisp, kDisp_ev, ev_lList, lOf_l, lOf_t, ev_frz, frz_l, frz_d, frz_n, ev_lend, lend_l, lend_d, atom_i, atom_b, atom_s, ev_lendB, lendB_l, lendB_d, ev_app, app_l, kApp_ev, ev_put, put_l, ev_ixO, ixO_l, ixO_d, put_m, putAll_c, putAll_n, ev_lc, kLst_ev, ev_lcL, wipe_n, wipe_c, r1_2, r1_3, bits_ev, List.getElem?_cons_zero, List.getElem?_cons_succ, List.set_cons_zero, List.set_cons_succ, List.length_cons, List.length_nil, List.length_map, List.append_nil, List.cons_append, List.nil_append, ev_if, turn_nx, turn_ct, turn_bk, turn_rt, turn_ite, kWh_ev, isi_int_int, isi_bool_int, isi_int_bool, isi_bool_bool, isi_int_str, isi_int_none, isi_int_list, isi_int_tup, isi_bool_str, isi_bool_none, isi_bool_list, isi_bool_tup, isi_tup_tup, isi_tup_int, isi_tup_bool, isi_tup_str, isi_tup_none, isi_tup_list, isi_list_list, isi_list_tup, isi_list_int, isi_list_bool, isi_list_str, isi_list_none, isi_str_str, isi_str_int, isi_str_bool, isi_str_none, isi_str_list, isi_str_tup, decide_true, decide_false, not_true_eq_false, not_false_eq_true, ne_eq, decide_eq_true_eq, Bool.not_eq_true', decide_eq_false_iff_not, Bool.not_true, Bool.not_false, Bool.false_eq_true, if_true, if_false, reduceIte, i1, i2, i3, i4, i5, i6, lowest_eq, hn]
theorem taken_eq (a b n a' b' n' : Int) (hn : n * n' ≠ 0) {k1 k2 k3 k4 k5 k6 : Nat} [Bd a k1] [Bd b k2] [Bd n k3] [Bd a' k4] [Bd b' k5] [Bd n' k6] (h1 : k1 ≤ 3900000) (h2 : k2 ≤ 3900000) (h3 : k3 ≤ 4000) (h4 : k4 ≤ 3900000) (h5 : k5 ≤ 3900000) (h6 : k6 ≤ 4000) :
    m_taken [.tuple [.int a, .int b, .int n], .tuple [.int a', .int b', .int n']] = .ok (.tuple [.int (lA (a * n' - a' * n) (b * n' - b' * n) (n * n')), .int (lB (a * n' - a' * n) (b * n' - b' * n) (n * n')), .int (lN (a * n' - a' * n) (b * n' - b' * n) (n * n'))]) := by
  have b1 : Bd (0 - a') k4 := by rw [Int.zero_sub]; infer_instance
  have b2 : Bd (0 - b') k5 := by rw [Int.zero_sub]; infer_instance
  have e := added_eq a b n (0 - a') (0 - b') n' hn (by omega) (by omega) h3 (by omega) (by omega) h6
  have e1 : a * n' + (0 - a') * n = a * n' - a' * n := by grind
  have e2 : b * n' + (0 - b') * n = b * n' - b' * n := by grind
  rw [e1, e2] at e
  simp +decide only [m_taken, den_taken, ev_seq, seq_nx, seq_rt, seq_ex, seq_bk, seq_ct, seq_ite, fl_ok, fl_ex, fl_ite, ev_set, kSet_ev, ev_ret, ev_retN, ev_nx, ev_bk, ev_ct, ev_raise, ev_if, kIf_ev, ev_drop, kNx_ev, ev_par, kPar_ev, kId_ev, ev_asg, kAsg_ev, ev_for, kFor_ev, ev_V, dVg_ok, ev_C, ev_1, ev_2, bind2_ok, bind2_ite1, bind2_ite2, bind_ite, ev_A, ev_nil, ev_cons, kCons_ev, ev_T, toB_ev, ev_and, ev_or, ev_not, kAnd_ev, kOr_ev, kNot_ev, ev_andV, ev_orV, ev_notV, kAndV_ev, kOrV_ev, kNotV_ev, ev_ife, kIfE_ev, ev_ch, kCh, tup_ev, lst_ev, call_ev, kw_ev, ev_kw, ev_fn, startE_0, startE_s, startE_c, fin_rt, fin_nx, fin_ex, fin_ite, ix_t0, ix_t1, ix_t2, ix_t3, ix_l0, ix_l1, ix_l2, len_l, len_t1, len_t2, len_t3, len_t4, beq_self_eq_true, ev_iL, ev_iT, asL_ev, asT_ev, ev_iA, ev_P, toI_ev, ev_P0, ev_sl, kSl_ev, put_1, gAdd_i, gSub_i, gMul_i, gDiv_p, gMod_p, gPow_l, gShl_l, gShr_l, gLt_i, gLe_i, gGt_i, gGe_i, gEq_i, gNe_i, gNeg_i, gAbs_i, gInt_i, gInt_b, gEq_s, gNe_s, gEq_b, gNe_b, gEq_2, gNe_2, gEq_3, gNe_3, gEq_22, gNe_22, DL.R.bind_ok, DL.R.bind_ex, ev_setL, kSetL_ev, ev_lDisp, kDisp_ev, ev_lList, lOf_l, lOf_t, ev_frz, frz_l, frz_d, frz_n, ev_lend, lend_l, lend_d, atom_i, atom_b, atom_s, ev_lendB, lendB_l, lendB_d, ev_app, app_l, kApp_ev, ev_put, put_l, ev_ixO, ixO_l, ixO_d, put_m, putAll_c, putAll_n, ev_lc, kLst_ev, ev_lcL, wipe_n, wipe_c, r1_2, r1_3, bits_ev, List.getElem?_cons_zero, List.getElem?_cons_succ, List.set_cons_zero, List.set_cons_succ, List.length_cons, List.length_nil, List.length_map, List.append_nil, List.cons_append, List.nil_append, ev_if, turn_nx, turn_ct, turn_bk, turn_rt, turn_ite, kWh_ev, isi_int_int, isi_bool_int, isi_int_bool, isi_bool_bool, isi_int_str, isi_int_none, isi_int_list, isi_int_tup, isi_bool_str, isi_bool_none, isi_bool_list, isi_bool_tup, isi_tup_tup, isi_tup_int, isi_tup_bool, isi_tup_str, isi_tup_none, isi_tup_list, isi_list_list, isi_list_tup, isi_list_int, isi_list_bool, isi_list_str, isi_list_none, isi_str_str, isi_str_int, isi_str_bool, isi_str_none, isi_str_list, isi_str_tup, decide_true, decide_false, not_true_eq_false, not_false_eq_true, ne_eq, decide_eq_true_eq, Bool.not_eq_true', decide_eq_false_iff_not, Bool.not_true, Bool.not_false, Bool.false_eq_true, if_true, if_false, reduceIte, e]
theorem lg1 : Nat.log2 1 = 0 := by decide
/-- a length drawn -/
theorem law_length_ok (c k most : Int) [Bd c 1048576] {m : Nat} [Bd k m] (hm : m ≤ 1000000) [bm : Bd most 140] (h1 : 10 ≤ most) : ∃ a b t : Int, m_law_length [.int c, .int k, .int most] = .ok (.tuple [.int a, .int b, .int t]) ∧ Low a b t ∧ Bd a 1400 ∧ Bd b 1400 ∧ Bd t 1401 := by
  have l10 : Nat.log2 10 = 3 := by decide
  have l20 : Nat.log2 20 = 4 := by decide
  have := lg1
  obtain ⟨a, ea, ba⟩ := law_number_ok c k most (by omega) (by omega)
  obtain ⟨b, eb, bb⟩ := law_number_ok c (k + 10) most (by omega) (by omega)
  obtain ⟨u, eu, bu⟩ := law_number_ok c (k + 20) (most / 10) (by omega) (by omega)
  have hn : (1 : Int) + (u.natAbs : Int) ≠ 0 := by omega
  have hbn : Bd ((1 : Int) + (u.natAbs : Int)) 1401 := Bd.mono inferInstance (by decide)
  refine ⟨_, _, _, ?_, low_of (a := a) (b := b) hn, inferInstance, inferInstance, inferInstance⟩
  simp +decide only [m_law_length, den_law_length, ev_seq, seq_nx, seq_rt, seq_ex, seq_bk, seq_ct, seq_ite, fl_ok, fl_ex, fl_ite, ev_set, kSet_ev, ev_ret, ev_retN, ev_nx, ev_bk, ev_ct, ev_raise, ev_if, kIf_ev, ev_drop, kNx_ev, ev_par, kPar_ev, kId_ev, ev_asg, kAsg_ev, ev_for, kFor_ev, ev_V, dVg_ok, ev_C, ev_1, ev_2, bind2_ok, bind2_ite1, bind2_ite2, bind_ite, ev_A, ev_nil, ev_cons, kCons_ev, ev_T, toB_ev, ev_and, ev_or, ev_not, kAnd_ev, kOr_ev, kNot_ev, ev_andV, ev_orV, ev_notV, kAndV_ev, kOrV_ev, kNotV_ev, ev_ife, kIfE_ev, ev_ch, kCh, tup_ev, lst_ev, call_ev, kw_ev, ev_kw, ev_fn, startE_0, startE_s, startE_c, fin_rt, fin_nx, fin_ex, fin_ite, ix_t0, ix_t1, ix_t2, ix_t3, ix_l0, ix_l1, ix_l2, len_l, len_t1, len_t2, len_t3, len_t4, beq_self_eq_true, ev_iL, ev_iT, asL_ev, asT_ev, ev_iA, ev_P, toI_ev, ev_P0, ev_sl, kSl_ev, put_1, gAdd_i, gSub_i, gMul_i, gDiv_p, gMod_p, gPow_l, gShl_l, gShr_l, gLt_i, gLe_i, gGt_i, gGe_i, gEq_i, gNe_i, gNeg_i, gAbs_i, gInt_i, gInt_b, gEq_s, gNe_s, gEq_b, gNe_b, gEq_2, gNe_2, gEq_3, gNe_3, gEq_22, gNe_22, DL.R.bind_ok, DL.R.bind_ex, ev_setL, kSetL_ev, ev_lDisp, kDisp_ev, ev_lList, lOf_l, lOf_t, ev_frz, frz_l, frz_d, frz_n, ev_lend, lend_l, lend_d, atom_i, atom_b, atom_s, ev_lendB, lendB_l, lendB_d, ev_app, app_l, kApp_ev, ev_put, put_l, ev_ixO, ixO_l, ixO_d, put_m, putAll_c, putAll_n, ev_lc, kLst_ev, ev_lcL, wipe_n, wipe_c, r1_2, r1_3, bits_ev, List.getElem?_cons_zero, List.getElem?_cons_succ, List.set_cons_zero, List.set_cons_succ, List.length_cons, List.length_nil, List.length_map, List.append_nil, List.cons_append, List.nil_append, ev_if, turn_nx, turn_ct, turn_bk, turn_rt, turn_ite, kWh_ev, isi_int_int, isi_bool_int, isi_int_bool, isi_bool_bool, isi_int_str, isi_int_none, isi_int_list, isi_int_tup, isi_bool_str, isi_bool_none, isi_bool_list, isi_bool_tup, isi_tup_tup, isi_tup_int, isi_tup_bool, isi_tup_str, isi_tup_none, isi_tup_list, isi_list_list, isi_list_tup, isi_list_int, isi_list_bool, isi_list_str, isi_list_none, isi_str_str, isi_str_int, isi_str_bool, isi_str_none, isi_str_list, isi_str_tup, decide_true, decide_false, not_true_eq_false, not_false_eq_true, ne_eq, decide_eq_true_eq, Bool.not_eq_true', decide_eq_false_iff_not, Bool.not_true, Bool.not_false, Bool.false_eq_true, if_true, if_false, reduceIte, ea, eb, eu, law_lowest_eq, hn]
theorem law_sum_eq (a b n a' b' n' s : Int) (hn : n * n' ≠ 0) {k1 k2 k3 k4 k5 k6 k7 : Nat} [Bd a k1] [Bd b k2] [Bd n k3] [Bd a' k4] [Bd b' k5] [Bd n' k6] [Bd s k7] (h1 : k1 ≤ 4000000) (h2 : k2 ≤ 4000000) (h3 : k3 ≤ 4000) (h4 : k4 ≤ 4000000) (h5 : k5 ≤ 4000000) (h6 : k6 ≤ 4000) (h7 : k7 ≤ 100) :
    m_law_sum [.tuple [.int a, .int b, .int n], .tuple [.int a', .int b', .int n'], .int s] = .ok (.tuple [.int (lA (a * n' + s * a' * n) (b * n' + s * b' * n) (n * n')), .int (lB (a * n' + s * a' * n) (b * n' + s * b' * n) (n * n')), .int (lN (a * n' + s * a' * n) (b * n' + s * b' * n) (n * n'))]) := by
  have i1 : k3 + k6 ≤ 134217728 := by omega
  have i2 : k1 + k6 ≤ 134217728 := by omega
  have i3 : k7 + k4 ≤ 134217728 := by omega
  have i3' : k7 + k4 + k3 ≤ 134217728 := by omega
  have i4 : k2 + k6 ≤ 134217728 := by omega
  have i5 : k7 + k5 ≤ 134217728 := by omega
  have i5' : k7 + k5 + k3 ≤ 134217728 := by omega
  have i6 : k3 + k6 ≤ 9000 := by omega
  simp +decide only [m_law_sum, den_law_sum, ev_seq, seq_nx, seq_rt, seq_ex, seq_bk, seq_ct, seq_ite, fl_ok, fl_ex, fl_ite, ev_set, kSet_ev, ev_ret, ev_retN, ev_nx, ev_bk, ev_ct, ev_raise, ev_if, kIf_ev, ev_drop, kNx_ev, ev_par, kPar_ev, kId_ev, ev_asg, kAsg_ev, ev_for, kFor_ev, ev_V, dVg_ok, ev_C, ev_1, ev_2, bind2_ok, bind2_ite1, bind2_ite2, bind_ite, ev_A, ev_nil, ev_cons, kCons_ev, ev_T, toB_ev, ev_and, ev_or, ev_not, kAnd_ev, kOr_ev, kNot_ev, ev_andV, ev_orV, ev_notV, kAndV_ev, kOrV_ev, kNotV_ev, ev_ife, kIfE_ev, ev_ch, kCh, tup_ev, lst_ev, call_ev, kw_ev, ev_kw, ev_fn, startE_0, startE_s, startE_c, fin_rt, fin_nx, fin_ex, fin_ite, ix_t0, ix_t1, ix_t2, ix_t3, ix_l0, ix_l1, ix_l2, len_l, len_t1, len_t2, len_t3, len_t4, beq_self_eq_true, ev_iL, ev_iT, asL_ev, asT_ev, ev_iA, ev_P, toI_ev, ev_P0, ev_sl, kSl_ev, put_1, gAdd_i, gSub_i, gMul_i, gDiv_p, gMod_p, gPow_l, gShl_l, gShr_l, gLt_i, gLe_i, gGt_i, gGe_i, gEq_i, gNe_i, gNeg_i, gAbs_i, gInt_i, gInt_b, gEq_s, gNe_s, gEq_b, gNe_b, gEq_2, gNe_2, gEq_3, gNe_3, gEq_22, gNe_22, DL.R.bind_ok, DL.R.bind_ex, ev_setL, kSetL_ev, ev_lDisp, kDisp_ev, ev_lList, lOf_l, lOf_t, ev_frz, frz_l, frz_d, frz_n, ev_lend, lend_l, lend_d, atom_i, atom_b, atom_s, ev_lendB, lendB_l, lendB_d, ev_app, app_l, kApp_ev, ev_put, put_l, ev_ixO, ixO_l, ixO_d, put_m, putAll_c, putAll_n, ev_lc, kLst_ev, ev_lcL, wipe_n, wipe_c, r1_2, r1_3, bits_ev, List.getElem?_cons_zero, List.getElem?_cons_succ, List.set_cons_zero, List.set_cons_succ, List.length_cons, List.length_nil, List.length_map, List.append_nil, List.cons_append, List.nil_append, ev_if, turn_nx, turn_ct, turn_bk, turn_rt, turn_ite, kWh_ev, isi_int_int, isi_bool_int, isi_int_bool, isi_bool_bool, isi_int_str, isi_int_none, isi_int_list, isi_int_tup, isi_bool_str, isi_bool_none, isi_bool_list, isi_bool_tup, isi_tup_tup, isi_tup_int, isi_tup_bool, isi_tup_str, isi_tup_none, isi_tup_list, isi_list_list, isi_list_tup, isi_list_int, isi_list_bool, isi_list_str, isi_list_none, isi_str_str, isi_str_int, isi_str_bool, isi_str_none, isi_str_list, isi_str_tup, decide_true, decide_false, not_true_eq_false, not_false_eq_true, ne_eq, decide_eq_true_eq, Bool.not_eq_true', decide_eq_false_iff_not, Bool.not_true, Bool.not_false, Bool.false_eq_true, if_true, if_false, reduceIte, i1, i2, i3, i3', i4, i5, i5', i6, law_lowest_eq, hn]
/-- the cells that a law's loop goes over -/
theorem cells_of {ns : List Int} {zs : List Int} {k : Nat} (hb : ∀ z ∈ ns, PySem.Builtin.Int.intBits z ≤ 1048576) {b : Nat} (hz : ∀ z ∈ zs, z.natAbs < 2 ^ 200) {d : PD} (hd : d ∈ zs.map PyData.int ++ (ns.map PyData.int).take k) : ∃ z : Int, d = .int z ∧ Bd z 1048576 := by
  rw [List.mem_append] at hd
  rcases hd with hd | hd
  · obtain ⟨z, h, rfl⟩ := List.mem_map.mp hd
    exact ⟨z, rfl, Bd.mono ⟨hz z h⟩ (by decide)⟩
  · obtain ⟨z, h, rfl⟩ := List.mem_map.mp (List.mem_of_mem_take hd)
    exact ⟨z, rfl, cell_bd (hb z h)⟩
/-! fractions -/
instance bd_fT {a b : Int} {k : Nat} [Bd a k] : Bd (fT a b) k := bd_lA
instance bd_fB {a b : Int} {k : Nat} [Bd b k] : Bd (fB a b) k := bd_lN
theorem bd_shrF {a b : Int} (hb : b ≠ 0) {k : Nat} (h : Bd b k) : Bd (shr (Int.gcd a b) b) k := by
  have := bd_shr (a := a) (b := 0) hb h
  rw [g3_zero] at this
  exact this
theorem gcd_ne {a b : Int} (hb : b ≠ 0) : Int.gcd a b ≠ 0 := fun e => hb (Int.gcd_eq_zero_iff.mp e).2
theorem fraction_eq (t b : Int) (hb : b ≠ 0) {k : Nat} [h3 : Bd b k] (hk : k ≤ 9000) : m_fraction [.int t, .int b] = .ok (.tuple [.int (fT t b), .int (fB t b)]) := by
  have hs : shr (Int.gcd t b) b ≠ 0 := shr_ne (gcd_ne hb)
  have bs : Bd (shr (Int.gcd t b) b) k := bd_shrF hb h3
  by_cases h : b < 0
  · have e : 0 - ((Int.gcd t b : Nat) : Int) = shr (Int.gcd t b) b := by unfold shr; rw [if_pos h]
    simp +decide only [m_fraction, den_fraction, ev_seq, seq_nx, seq_rt, seq_ex, seq_bk, seq_ct, seq_ite, fl_ok, fl_ex, fl_ite, ev_set, kSet_ev, ev_ret, ev_retN, ev_nx, ev_bk, ev_ct, ev_raise, ev_if, kIf_ev, ev_drop, kNx_ev, ev_par, kPar_ev, kId_ev, ev_asg, kAsg_ev, ev_for, kFor_ev, ev_V, dVg_ok, ev_C, ev_1, ev_2, bind2_ok, bind2_ite1, bind2_ite2, bind_ite, ev_A, ev_nil, ev_cons, kCons_ev, ev_T, toB_ev, ev_and, ev_or, ev_not, kAnd_ev, kOr_ev, kNot_ev, ev_andV, ev_orV, ev_notV, kAndV_ev, kOrV_ev, kNotV_ev, ev_ife, kIfE_ev, ev_ch, kCh, tup_ev, lst_ev, call_ev, kw_ev, ev_kw, ev_fn, startE_0, startE_s, startE_c, fin_rt, fin_nx, fin_ex, fin_ite, ix_t0, ix_t1, ix_t2, ix_t3, ix_l0, ix_l1, ix_l2, len_l, len_t1, len_t2, len_t3, len_t4, beq_self_eq_true, ev_iL, ev_iT, asL_ev, asT_ev, ev_iA, ev_P, toI_ev, ev_P0, ev_sl, kSl_ev, put_1, gAdd_i, gSub_i, gMul_i, gDiv_p, gMod_p, gPow_l, gShl_l, gShr_l, gLt_i, gLe_i, gGt_i, gGe_i, gEq_i, gNe_i, gNeg_i, gAbs_i, gInt_i, gInt_b, gEq_s, gNe_s, gEq_b, gNe_b, gEq_2, gNe_2, gEq_3, gNe_3, gEq_22, gNe_22, DL.R.bind_ok, DL.R.bind_ex, ev_setL, kSetL_ev, ev_lDisp, kDisp_ev, ev_lList, lOf_l, lOf_t, ev_frz, frz_l, frz_d, frz_n, ev_lend, lend_l, lend_d, atom_i, atom_b, atom_s, ev_lendB, lendB_l, lendB_d, ev_app, app_l, kApp_ev, ev_put, put_l, ev_ixO, ixO_l, ixO_d, put_m, putAll_c, putAll_n, ev_lc, kLst_ev, ev_lcL, wipe_n, wipe_c, r1_2, r1_3, bits_ev, List.getElem?_cons_zero, List.getElem?_cons_succ, List.set_cons_zero, List.set_cons_succ, List.length_cons, List.length_nil, List.length_map, List.append_nil, List.cons_append, List.nil_append, ev_if, turn_nx, turn_ct, turn_bk, turn_rt, turn_ite, kWh_ev, isi_int_int, isi_bool_int, isi_int_bool, isi_bool_bool, isi_int_str, isi_int_none, isi_int_list, isi_int_tup, isi_bool_str, isi_bool_none, isi_bool_list, isi_bool_tup, isi_tup_tup, isi_tup_int, isi_tup_bool, isi_tup_str, isi_tup_none, isi_tup_list, isi_list_list, isi_list_tup, isi_list_int, isi_list_bool, isi_list_str, isi_list_none, isi_str_str, isi_str_int, isi_str_bool, isi_str_none, isi_str_list, isi_str_tup, decide_true, decide_false, not_true_eq_false, not_false_eq_true, ne_eq, decide_eq_true_eq, Bool.not_eq_true', decide_eq_false_iff_not, Bool.not_true, Bool.not_false, Bool.false_eq_true, if_true, if_false, reduceIte, gDiv_i, divisor_eq, h, e, hs, hk, fT_eq, fB_eq]
  · have e : ((Int.gcd t b : Nat) : Int) = shr (Int.gcd t b) b := by unfold shr; rw [if_neg h]
    simp +decide only [m_fraction, den_fraction, ev_seq, seq_nx, seq_rt, seq_ex, seq_bk, seq_ct, seq_ite, fl_ok, fl_ex, fl_ite, ev_set, kSet_ev, ev_ret, ev_retN, ev_nx, ev_bk, ev_ct, ev_raise, ev_if, kIf_ev, ev_drop, kNx_ev, ev_par, kPar_ev, kId_ev, ev_asg, kAsg_ev, ev_for, kFor_ev, ev_V, dVg_ok, ev_C, ev_1, ev_2, bind2_ok, bind2_ite1, bind2_ite2, bind_ite, ev_A, ev_nil, ev_cons, kCons_ev, ev_T, toB_ev, ev_and, ev_or, ev_not, kAnd_ev, kOr_ev, kNot_ev, ev_andV, ev_orV, ev_notV, kAndV_ev, kOrV_ev, kNotV_ev, ev_ife, kIfE_ev, ev_ch, kCh, tup_ev, lst_ev, call_ev, kw_ev, ev_kw, ev_fn, startE_0, startE_s, startE_c, fin_rt, fin_nx, fin_ex, fin_ite, ix_t0, ix_t1, ix_t2, ix_t3, ix_l0, ix_l1, ix_l2, len_l, len_t1, len_t2, len_t3, len_t4, beq_self_eq_true, ev_iL, ev_iT, asL_ev, asT_ev, ev_iA, ev_P, toI_ev, ev_P0, ev_sl, kSl_ev, put_1, gAdd_i, gSub_i, gMul_i, gDiv_p, gMod_p, gPow_l, gShl_l, gShr_l, gLt_i, gLe_i, gGt_i, gGe_i, gEq_i, gNe_i, gNeg_i, gAbs_i, gInt_i, gInt_b, gEq_s, gNe_s, gEq_b, gNe_b, gEq_2, gNe_2, gEq_3, gNe_3, gEq_22, gNe_22, DL.R.bind_ok, DL.R.bind_ex, ev_setL, kSetL_ev, ev_lDisp, kDisp_ev, ev_lList, lOf_l, lOf_t, ev_frz, frz_l, frz_d, frz_n, ev_lend, lend_l, lend_d, atom_i, atom_b, atom_s, ev_lendB, lendB_l, lendB_d, ev_app, app_l, kApp_ev, ev_put, put_l, ev_ixO, ixO_l, ixO_d, put_m, putAll_c, putAll_n, ev_lc, kLst_ev, ev_lcL, wipe_n, wipe_c, r1_2, r1_3, bits_ev, List.getElem?_cons_zero, List.getElem?_cons_succ, List.set_cons_zero, List.set_cons_succ, List.length_cons, List.length_nil, List.length_map, List.append_nil, List.cons_append, List.nil_append, ev_if, turn_nx, turn_ct, turn_bk, turn_rt, turn_ite, kWh_ev, isi_int_int, isi_bool_int, isi_int_bool, isi_bool_bool, isi_int_str, isi_int_none, isi_int_list, isi_int_tup, isi_bool_str, isi_bool_none, isi_bool_list, isi_bool_tup, isi_tup_tup, isi_tup_int, isi_tup_bool, isi_tup_str, isi_tup_none, isi_tup_list, isi_list_list, isi_list_tup, isi_list_int, isi_list_bool, isi_list_str, isi_list_none, isi_str_str, isi_str_int, isi_str_bool, isi_str_none, isi_str_list, isi_str_tup, decide_true, decide_false, not_true_eq_false, not_false_eq_true, ne_eq, decide_eq_true_eq, Bool.not_eq_true', decide_eq_false_iff_not, Bool.not_true, Bool.not_false, Bool.false_eq_true, if_true, if_false, reduceIte, gDiv_i, divisor_eq, h, e, hs, hk, fT_eq, fB_eq]
theorem parts_eq (a b n : Int) (hn : n ≠ 0) {k : Nat} [h3 : Bd n k] (hk : k ≤ 9000) : m_parts [.tuple [.int a, .int b, .int n]] = .ok (.tuple [.tuple [.int (fT a n), .int (fB a n)], .tuple [.int (fT b n), .int (fB b n)]]) := by
  simp +decide only [m_parts, den_parts, ev_seq, seq_nx, seq_rt, seq_ex, seq_bk, seq_ct, seq_ite, fl_ok, fl_ex, fl_ite, ev_set, kSet_ev, ev_ret, ev_retN, ev_nx, ev_bk, ev_ct, ev_raise, ev_if, kIf_ev, ev_drop, kNx_ev, ev_par, kPar_ev, kId_ev, ev_asg, kAsg_ev, ev_for, kFor_ev, ev_V, dVg_ok, ev_C, ev_1, ev_2, bind2_ok, bind2_ite1, bind2_ite2, bind_ite, ev_A, ev_nil, ev_cons, kCons_ev, ev_T, toB_ev, ev_and, ev_or, ev_not, kAnd_ev, kOr_ev, kNot_ev, ev_andV, ev_orV, ev_notV, kAndV_ev, kOrV_ev, kNotV_ev, ev_ife, kIfE_ev, ev_ch, kCh, tup_ev, lst_ev, call_ev, kw_ev, ev_kw, ev_fn, startE_0, startE_s, startE_c, fin_rt, fin_nx, fin_ex, fin_ite, ix_t0, ix_t1, ix_t2, ix_t3, ix_l0, ix_l1, ix_l2, len_l, len_t1, len_t2, len_t3, len_t4, beq_self_eq_true, ev_iL, ev_iT, asL_ev, asT_ev, ev_iA, ev_P, toI_ev, ev_P0, ev_sl, kSl_ev, put_1, gAdd_i, gSub_i, gMul_i, gDiv_p, gMod_p, gPow_l, gShl_l, gShr_l, gLt_i, gLe_i, gGt_i, gGe_i, gEq_i, gNe_i, gNeg_i, gAbs_i, gInt_i, gInt_b, gEq_s, gNe_s, gEq_b, gNe_b, gEq_2, gNe_2, gEq_3, gNe_3, gEq_22, gNe_22, DL.R.bind_ok, DL.R.bind_ex, ev_setL, kSetL_ev, ev_lDisp, kDisp_ev, ev_lList, lOf_l, lOf_t, ev_frz, frz_l, frz_d, frz_n, ev_lend, lend_l, lend_d, atom_i, atom_b, atom_s, ev_lendB, lendB_l, lendB_d, ev_app, app_l, kApp_ev, ev_put, put_l, ev_ixO, ixO_l, ixO_d, put_m, putAll_c, putAll_n, ev_lc, kLst_ev, ev_lcL, wipe_n, wipe_c, r1_2, r1_3, bits_ev, List.getElem?_cons_zero, List.getElem?_cons_succ, List.set_cons_zero, List.set_cons_succ, List.length_cons, List.length_nil, List.length_map, List.append_nil, List.cons_append, List.nil_append, ev_if, turn_nx, turn_ct, turn_bk, turn_rt, turn_ite, kWh_ev, isi_int_int, isi_bool_int, isi_int_bool, isi_bool_bool, isi_int_str, isi_int_none, isi_int_list, isi_int_tup, isi_bool_str, isi_bool_none, isi_bool_list, isi_bool_tup, isi_tup_tup, isi_tup_int, isi_tup_bool, isi_tup_str, isi_tup_none, isi_tup_list, isi_list_list, isi_list_tup, isi_list_int, isi_list_bool, isi_list_str, isi_list_none, isi_str_str, isi_str_int, isi_str_bool, isi_str_none, isi_str_list, isi_str_tup, decide_true, decide_false, not_true_eq_false, not_false_eq_true, ne_eq, decide_eq_true_eq, Bool.not_eq_true', decide_eq_false_iff_not, Bool.not_true, Bool.not_false, Bool.false_eq_true, if_true, if_false, reduceIte, fraction_eq, hn, hk]
theorem by_parts_eq (p q r s : Int) (hn : q * s ≠ 0) {k1 k2 k3 k4 : Nat} [Bd p k1] [Bd q k2] [Bd r k3] [Bd s k4] (h1 : k1 ≤ 4000) (h2 : k2 ≤ 4000) (h3 : k3 ≤ 4000) (h4 : k4 ≤ 4000) :
    m_by_parts [.tuple [.int p, .int q], .tuple [.int r, .int s]] = .ok (.tuple [.int (lA (p * s) (r * q) (q * s)), .int (lB (p * s) (r * q) (q * s)), .int (lN (p * s) (r * q) (q * s))]) := by
  have i1 : k2 + k4 ≤ 134217728 := by omega
  have i2 : k1 + k4 ≤ 134217728 := by omega
  have i3 : k3 + k2 ≤ 134217728 := by omega
  have i6 : k2 + k4 ≤ 9000 := by omega
  simp +decide only [m_by_parts, den_by_parts, ev_seq, seq_nx, seq_rt, seq_ex, seq_bk, seq_ct, seq_ite, fl_ok, fl_ex, fl_ite, ev_set, kSet_ev, ev_ret, ev_retN, ev_nx, ev_bk, ev_ct, ev_raise, ev_if, kIf_ev, ev_drop, kNx_ev, ev_par, kPar_ev, kId_ev, ev_asg, kAsg_ev, ev_for, kFor_ev, ev_V, dVg_ok, ev_C, ev_1, ev_2, bind2_ok, bind2_ite1, bind2_ite2, bind_ite, ev_A, ev_nil, ev_cons, kCons_ev, ev_T, toB_ev, ev_and, ev_or, ev_not, kAnd_ev, kOr_ev, kNot_ev, ev_andV, ev_orV, ev_notV, kAndV_ev, kOrV_ev, kNotV_ev, ev_ife, kIfE_ev, ev_ch, kCh, tup_ev, lst_ev, call_ev, kw_ev, ev_kw, ev_fn, startE_0, startE_s, startE_c, fin_rt, fin_nx, fin_ex, fin_ite, ix_t0, ix_t1, ix_t2, ix_t3, ix_l0, ix_l1, ix_l2, len_l, len_t1, len_t2, len_t3, len_t4, beq_self_eq_true, ev_iL, ev_iT, asL_ev, asT_ev, ev_iA, ev_P, toI_ev, ev_P0, ev_sl, kSl_ev, put_1, gAdd_i, gSub_i, gMul_i, gDiv_p, gMod_p, gPow_l, gShl_l, gShr_l, gLt_i, gLe_i, gGt_i, gGe_i, gEq_i, gNe_i, gNeg_i, gAbs_i, gInt_i, gInt_b, gEq_s, gNe_s, gEq_b, gNe_b, gEq_2, gNe_2, gEq_3, gNe_3, gEq_22, gNe_22, DL.R.bind_ok, DL.R.bind_ex, ev_setL, kSetL_ev, ev_lDisp, kDisp_ev, ev_lList, lOf_l, lOf_t, ev_frz, frz_l, frz_d, frz_n, ev_lend, lend_l, lend_d, atom_i, atom_b, atom_s, ev_lendB, lendB_l, lendB_d, ev_app, app_l, kApp_ev, ev_put, put_l, ev_ixO, ixO_l, ixO_d, put_m, putAll_c, putAll_n, ev_lc, kLst_ev, ev_lcL, wipe_n, wipe_c, r1_2, r1_3, bits_ev, List.getElem?_cons_zero, List.getElem?_cons_succ, List.set_cons_zero, List.set_cons_succ, List.length_cons, List.length_nil, List.length_map, List.append_nil, List.cons_append, List.nil_append, ev_if, turn_nx, turn_ct, turn_bk, turn_rt, turn_ite, kWh_ev, isi_int_int, isi_bool_int, isi_int_bool, isi_bool_bool, isi_int_str, isi_int_none, isi_int_list, isi_int_tup, isi_bool_str, isi_bool_none, isi_bool_list, isi_bool_tup, isi_tup_tup, isi_tup_int, isi_tup_bool, isi_tup_str, isi_tup_none, isi_tup_list, isi_list_list, isi_list_tup, isi_list_int, isi_list_bool, isi_list_str, isi_list_none, isi_str_str, isi_str_int, isi_str_bool, isi_str_none, isi_str_list, isi_str_tup, decide_true, decide_false, not_true_eq_false, not_false_eq_true, ne_eq, decide_eq_true_eq, Bool.not_eq_true', decide_eq_false_iff_not, Bool.not_true, Bool.not_false, Bool.false_eq_true, if_true, if_false, reduceIte, lowest_eq, hn, i1, i2, i3, i6]
theorem law_is_fraction_eq (A B t u : Int) (h : LowF A B) (hc : A * u = t * B) {k1 k2 k3 k4 : Nat} [Bd A k1] [Bd B k2] [Bd t k3] [Bd u k4] (h1 : k1 ≤ 4000000) (h2 : k2 ≤ 4000000) (h3 : k3 ≤ 4000000) (h4 : k4 ≤ 4000000) :
    m_law_is_fraction [.tuple [.int A, .int B], .int t, .int u] = .ok (.bool true) := by
  have g : ((Int.gcd A B : Nat) : Int) = 1 := by rw [h.2]; rfl
  have p : ¬ B < 1 := by have := h.1; omega
  have i1 : k1 + k4 ≤ 134217728 := by omega
  have i2 : k3 + k2 ≤ 134217728 := by omega
  simp +decide only [m_law_is_fraction, den_law_is_fraction, ev_seq, seq_nx, seq_rt, seq_ex, seq_bk, seq_ct, seq_ite, fl_ok, fl_ex, fl_ite, ev_set, kSet_ev, ev_ret, ev_retN, ev_nx, ev_bk, ev_ct, ev_raise, ev_if, kIf_ev, ev_drop, kNx_ev, ev_par, kPar_ev, kId_ev, ev_asg, kAsg_ev, ev_for, kFor_ev, ev_V, dVg_ok, ev_C, ev_1, ev_2, bind2_ok, bind2_ite1, bind2_ite2, bind_ite, ev_A, ev_nil, ev_cons, kCons_ev, ev_T, toB_ev, ev_and, ev_or, ev_not, kAnd_ev, kOr_ev, kNot_ev, ev_andV, ev_orV, ev_notV, kAndV_ev, kOrV_ev, kNotV_ev, ev_ife, kIfE_ev, ev_ch, kCh, tup_ev, lst_ev, call_ev, kw_ev, ev_kw, ev_fn, startE_0, startE_s, startE_c, fin_rt, fin_nx, fin_ex, fin_ite, ix_t0, ix_t1, ix_t2, ix_t3, ix_l0, ix_l1, ix_l2, len_l, len_t1, len_t2, len_t3, len_t4, beq_self_eq_true, ev_iL, ev_iT, asL_ev, asT_ev, ev_iA, ev_P, toI_ev, ev_P0, ev_sl, kSl_ev, put_1, gAdd_i, gSub_i, gMul_i, gDiv_p, gMod_p, gPow_l, gShl_l, gShr_l, gLt_i, gLe_i, gGt_i, gGe_i, gEq_i, gNe_i, gNeg_i, gAbs_i, gInt_i, gInt_b, gEq_s, gNe_s, gEq_b, gNe_b, gEq_2, gNe_2, gEq_3, gNe_3, gEq_22, gNe_22, DL.R.bind_ok, DL.R.bind_ex, ev_setL, kSetL_ev, ev_lDisp, kDisp_ev, ev_lList, lOf_l, lOf_t, ev_frz, frz_l, frz_d, frz_n, ev_lend, lend_l, lend_d, atom_i, atom_b, atom_s, ev_lendB, lendB_l, lendB_d, ev_app, app_l, kApp_ev, ev_put, put_l, ev_ixO, ixO_l, ixO_d, put_m, putAll_c, putAll_n, ev_lc, kLst_ev, ev_lcL, wipe_n, wipe_c, r1_2, r1_3, bits_ev, List.getElem?_cons_zero, List.getElem?_cons_succ, List.set_cons_zero, List.set_cons_succ, List.length_cons, List.length_nil, List.length_map, List.append_nil, List.cons_append, List.nil_append, ev_if, turn_nx, turn_ct, turn_bk, turn_rt, turn_ite, kWh_ev, isi_int_int, isi_bool_int, isi_int_bool, isi_bool_bool, isi_int_str, isi_int_none, isi_int_list, isi_int_tup, isi_bool_str, isi_bool_none, isi_bool_list, isi_bool_tup, isi_tup_tup, isi_tup_int, isi_tup_bool, isi_tup_str, isi_tup_none, isi_tup_list, isi_list_list, isi_list_tup, isi_list_int, isi_list_bool, isi_list_str, isi_list_none, isi_str_str, isi_str_int, isi_str_bool, isi_str_none, isi_str_list, isi_str_tup, decide_true, decide_false, not_true_eq_false, not_false_eq_true, ne_eq, decide_eq_true_eq, Bool.not_eq_true', decide_eq_false_iff_not, Bool.not_true, Bool.not_false, Bool.false_eq_true, if_true, if_false, reduceIte, law_whole_int, law_divisor_eq, g, p, i1, i2, hc]
end DL

set_option Elab.async false
set_option linter.all false
set_option maxRecDepth 100000
set_option maxHeartbeats 1000000
set_option autoImplicit false
/-! texts -/
namespace DL
open PySem L2 MB
@[reducible] def St (l : List Nat) : Str := ⟨l.toArray⟩
def Tn (n : Nat) : List Nat := (Nat.toDigits 10 n).map Char.toNat
theorem dig_nat : ∀ n : Nat, n < 10 → (Nat.digitChar n).toNat = 48 + n := by decide
theorem Tn_small {n : Nat} (h : n < 10) : Tn n = [48 + n] := by
  unfold Tn
  rw [Nat.toDigits_of_lt_base h]
  simp only [List.map_cons, List.map_nil, dig_nat n h]
theorem Tn_big {n : Nat} (h : 10 ≤ n) : Tn n = Tn (n / 10) ++ [48 + n % 10] := by
  unfold Tn
  rw [Nat.toDigits_of_base_le (by decide) h, List.map_append]
  simp only [List.map_cons, List.map_nil, dig_nat (n % 10) (Nat.mod_lt _ (by decide))]
theorem Tn_len : ∀ (k n : Nat), n < 10 ^ (k + 1) → (Tn n).length ≤ k + 1
  | 0, n, h => by rw [Tn_small (by simpa using h)]; simp
  | k + 1, n, h => by
    by_cases h1 : n < 10
    · rw [Tn_small h1]; simp
    · rw [Tn_big (by omega), List.length_append]
      have := Tn_len k (n / 10) (by rw [Nat.pow_succ] at h; omega)
      simp
      omega
def Ti (i : Int) : List Nat := (if i < 0 then [45] else []) ++ Tn i.natAbs
theorem str_int (i : Int) : Str.ofString (toString i) = St (Ti i) := by
  rw [Str.ofString_eq_toList]
  unfold St Ti Tn
  cases i with
  | ofNat n =>
    have h : ¬ (Int.ofNat n < 0) := by simp
    rw [if_neg h]
    have e : toString (Int.ofNat n) = String.ofList (Nat.toDigits 10 n) := rfl
    rw [e, String.toList_ofList]
    rfl
  | negSucc n =>
    have h : Int.negSucc n < 0 := Int.negSucc_lt_zero n
    rw [if_pos h]
    have e : toString (Int.negSucc n) = "-" ++ String.ofList (Nat.toDigits 10 (n + 1)) := rfl
    rw [e, String.toList_append, String.toList_ofList, String.toList_ofList]
    rfl
theorem gStr_i {i : Int} (h : i.natAbs.log2 < 1920) : gStr [.int i] = .ok (.str (St (Ti i))) := by
  unfold gStr
  simp only [h, if_true, str_int]
theorem log_lt {n k : Nat} (h : n < 2 ^ k) (hk : 0 < k) : n.log2 < k := by
  by_cases h0 : n = 0
  · subst h0; simpa using hk
  · exact (Nat.log2_lt h0).mpr h
theorem gAdd_st {a b : List Nat} (h : a.length + b.length ≤ 16777216) : gAdd (.str (St a)) (.str (St b)) = .ok (.str (St (a ++ b))) := by
  have e1 : (St a).length + (St b).length ≤ 16777216 := h
  have e2 : (St a).append (St b) = St (a ++ b) := by
    unfold St Str.append
    simp
  show (if (St a).length + (St b).length ≤ 16777216 then R.ok (PyData.str ((St a).append (St b))) else R.no) = _
  rw [if_pos e1, e2]
theorem digs : ("0123456789" : Str) = St [48, 49, 50, 51, 52, 53, 54, 55, 56, 57] := by decide
theorem ix_digs (n : Nat) (h : n < 10) : gIx (.str ("0123456789" : Str)) (.int (n : Int)) = .ok (.str (St [48 + n])) := by
  rw [digs]
  have c : n = 0 ∨ n = 1 ∨ n = 2 ∨ n = 3 ∨ n = 4 ∨ n = 5 ∨ n = 6 ∨ n = 7 ∨ n = 8 ∨ n = 9 := by omega
  rcases c with rfl | rfl | rfl | rfl | rfl | rfl | rfl | rfl | rfl | rfl <;> rfl
theorem st_nil : ("" : Str) = St [] := by decide
theorem st_minus : ("-" : Str) = St [45] := by decide
theorem st_slash : ("/" : Str) = St [47] := by decide
end DL

set_option Elab.async false
set_option linter.all false
set_option maxRecDepth 100000
set_option maxHeartbeats 1000000
set_option autoImplicit false
namespace DL
open PySem L2 MB
theorem law_divisor_v2_loop : ∀ (k : Nat) (a b : Int), 0 ≤ b → 0 ≤ a → b.natAbs ≤ k → sWhile lt1_law_divisor_v2 lb1_law_divisor_v2 [some (.d (.int a)), some (.d (.int b))] = .nx [some (.d (.int (Int.gcd a b : Int))), some (.d (.int 0))] := by
  intro k
  induction k with
  | zero =>
    intro a b h0 ha h
    have hb : b = 0 := by omega
    subst hb
    rw [ev_while]
    have : (a.natAbs : Int) = a := by omega
    simp +decide only [lt1_law_divisor_v2, ev_seq, seq_nx, seq_rt, seq_ex, seq_bk, seq_ct, seq_ite, fl_ok, fl_ex, fl_ite, ev_set, kSet_ev, ev_ret, ev_retN, ev_nx, ev_bk, ev_ct, ev_raise, ev_if, kIf_ev, ev_drop, kNx_ev, ev_par, kPar_ev, kId_ev, ev_asg, kAsg_ev, ev_for, kFor_ev, ev_V, dVg_ok, ev_C, ev_1, ev_2, bind2_ok, bind2_ite1, bind2_ite2, bind_ite, ev_A, ev_nil, ev_cons, kCons_ev, ev_T, toB_ev, ev_and, ev_or, ev_not, kAnd_ev, kOr_ev, kNot_ev, ev_andV, ev_orV, ev_notV, kAndV_ev, kOrV_ev, kNotV_ev, ev_ife, kIfE_ev, ev_ch, kCh, tup_ev, lst_ev, call_ev, kw_ev, ev_kw, ev_fn, startE_0, startE_s, startE_c, fin_rt, fin_nx, fin_ex, fin_ite, ix_t0, ix_t1, ix_t2, ix_t3, ix_l0, ix_l1, ix_l2, len_l, len_t1, len_t2, len_t3, len_t4, beq_self_eq_true, ev_iL, ev_iT, asL_ev, asT_ev, ev_iA, ev_P, toI_ev, ev_P0, ev_sl, kSl_ev, put_1, gAdd_i, gSub_i, gMul_i, gDiv_p, gMod_p, gPow_l, gShl_l, gShr_l, gLt_i, gLe_i, gGt_i, gGe_i, gEq_i, gNe_i, gNeg_i, gAbs_i, gInt_i, gInt_b, gEq_s, gNe_s, gEq_b, gNe_b, gEq_2, gNe_2, gEq_3, gNe_3, gEq_22, gNe_22, DL.R.bind_ok, DL.R.bind_ex, ev_setL, kSetL_ev, ev_lDisp, kDisp_ev, ev_lList, lOf_l, lOf_t, ev_frz, frz_l, frz_d, frz_n, ev_lend, lend_l, lend_d, atom_i, atom_b, atom_s, ev_lendB, lendB_l, lendB_d, ev_app, app_l, kApp_ev, ev_put, put_l, ev_ixO, ixO_l, ixO_d, put_m, putAll_c, putAll_n, ev_lc, kLst_ev, ev_lcL, wipe_n, wipe_c, r1_2, r1_3, bits_ev, List.getElem?_cons_zero, List.getElem?_cons_succ, List.set_cons_zero, List.set_cons_succ, List.length_cons, List.length_nil, List.length_map, List.append_nil, List.cons_append, List.nil_append, ev_if, turn_nx, turn_ct, turn_bk, turn_rt, turn_ite, kWh_ev, isi_int_int, isi_bool_int, isi_int_bool, isi_bool_bool, isi_int_str, isi_int_none, isi_int_list, isi_int_tup, isi_bool_str, isi_bool_none, isi_bool_list, isi_bool_tup, isi_tup_tup, isi_tup_int, isi_tup_bool, isi_tup_str, isi_tup_none, isi_tup_list, isi_list_list, isi_list_tup, isi_list_int, isi_list_bool, isi_list_str, isi_list_none, isi_str_str, isi_str_int, isi_str_bool, isi_str_none, isi_str_list, isi_str_tup, decide_true, decide_false, not_true_eq_false, not_false_eq_true, ne_eq, decide_eq_true_eq, Bool.not_eq_true', decide_eq_false_iff_not, Bool.not_true, Bool.not_false, Bool.false_eq_true, if_true, if_false, reduceIte, Int.gcd_zero, this]
  | succ k ih =>
    intro a b h0 ha h
    by_cases hb : b = 0
    · subst hb
      rw [ev_while]
      have : (a.natAbs : Int) = a := by omega
      simp +decide only [lt1_law_divisor_v2, ev_seq, seq_nx, seq_rt, seq_ex, seq_bk, seq_ct, seq_ite, fl_ok, fl_ex, fl_ite, ev_set, kSet_ev, ev_ret, ev_retN, ev_nx, ev_bk, ev_ct, ev_raise, ev_if, kIf_ev, ev_drop, kNx_ev, ev_par, kPar_ev, kId_ev, ev_asg, kAsg_ev, ev_for, kFor_ev, ev_V, dVg_ok, ev_C, ev_1, ev_2, bind2_ok, bind2_ite1, bind2_ite2, bind_ite, ev_A, ev_nil, ev_cons, kCons_ev, ev_T, toB_ev, ev_and, ev_or, ev_not, kAnd_ev, kOr_ev, kNot_ev, ev_andV, ev_orV, ev_notV, kAndV_ev, kOrV_ev, kNotV_ev, ev_ife, kIfE_ev, ev_ch, kCh, tup_ev, lst_ev, call_ev, kw_ev, ev_kw, ev_fn, startE_0, startE_s, startE_c, fin_rt, fin_nx, fin_ex, fin_ite, ix_t0, ix_t1, ix_t2, ix_t3, ix_l0, ix_l1, ix_l2, len_l, len_t1, len_t2, len_t3, len_t4, beq_self_eq_true, ev_iL, ev_iT, asL_ev, asT_ev, ev_iA, ev_P, toI_ev, ev_P0, ev_sl, kSl_ev, put_1, gAdd_i, gSub_i, gMul_i, gDiv_p, gMod_p, gPow_l, gShl_l, gShr_l, gLt_i, gLe_i, gGt_i, gGe_i, gEq_i, gNe_i, gNeg_i, gAbs_i, gInt_i, gInt_b, gEq_s, gNe_s, gEq_b, gNe_b, gEq_2, gNe_2, gEq_3, gNe_3, gEq_22, gNe_22, DL.R.bind_ok, DL.R.bind_ex, ev_setL, kSetL_ev, ev_lDisp, kDisp_ev, ev_lList, lOf_l, lOf_t, ev_frz, frz_l, frz_d, frz_n, ev_lend, lend_l, lend_d, atom_i, atom_b, atom_s, ev_lendB, lendB_l, lendB_d, ev_app, app_l, kApp_ev, ev_put, put_l, ev_ixO, ixO_l, ixO_d, put_m, putAll_c, putAll_n, ev_lc, kLst_ev, ev_lcL, wipe_n, wipe_c, r1_2, r1_3, bits_ev, List.getElem?_cons_zero, List.getElem?_cons_succ, List.set_cons_zero, List.set_cons_succ, List.length_cons, List.length_nil, List.length_map, List.append_nil, List.cons_append, List.nil_append, ev_if, turn_nx, turn_ct, turn_bk, turn_rt, turn_ite, kWh_ev, isi_int_int, isi_bool_int, isi_int_bool, isi_bool_bool, isi_int_str, isi_int_none, isi_int_list, isi_int_tup, isi_bool_str, isi_bool_none, isi_bool_list, isi_bool_tup, isi_tup_tup, isi_tup_int, isi_tup_bool, isi_tup_str, isi_tup_none, isi_tup_list, isi_list_list, isi_list_tup, isi_list_int, isi_list_bool, isi_list_str, isi_list_none, isi_str_str, isi_str_int, isi_str_bool, isi_str_none, isi_str_list, isi_str_tup, decide_true, decide_false, not_true_eq_false, not_false_eq_true, ne_eq, decide_eq_true_eq, Bool.not_eq_true', decide_eq_false_iff_not, Bool.not_true, Bool.not_false, Bool.false_eq_true, if_true, if_false, reduceIte, Int.gcd_zero, this]
    · have e := ih b (a.fmod b) (Int.fmod_nonneg_of_pos a (by omega)) h0 (by
        have h1 := natAbs_fmod_lt a hb
        omega)
      rw [ev_while]
      have hp : 0 < b := by omega
      have e1 : a = b * a.fdiv b + a.fmod b := (Int.mul_fdiv_add_fmod a b).symm
      have e2 : Int.gcd b (b * a.fdiv b + a.fmod b) = Int.gcd b (a.fmod b) := Int.gcd_mul_left_add_right _ _ _
      rw [← e1] at e2
      rw [Int.gcd_comm a b, e2]
      rw [Int.fmod_eq_emod_of_nonneg _ h0] at e ⊢
      simp +decide only [lt1_law_divisor_v2, lb1_law_divisor_v2, ev_seq, seq_nx, seq_rt, seq_ex, seq_bk, seq_ct, seq_ite, fl_ok, fl_ex, fl_ite, ev_set, kSet_ev, ev_ret, ev_retN, ev_nx, ev_bk, ev_ct, ev_raise, ev_if, kIf_ev, ev_drop, kNx_ev, ev_par, kPar_ev, kId_ev, ev_asg, kAsg_ev, ev_for, kFor_ev, ev_V, dVg_ok, ev_C, ev_1, ev_2, bind2_ok, bind2_ite1, bind2_ite2, bind_ite, ev_A, ev_nil, ev_cons, kCons_ev, ev_T, toB_ev, ev_and, ev_or, ev_not, kAnd_ev, kOr_ev, kNot_ev, ev_andV, ev_orV, ev_notV, kAndV_ev, kOrV_ev, kNotV_ev, ev_ife, kIfE_ev, ev_ch, kCh, tup_ev, lst_ev, call_ev, kw_ev, ev_kw, ev_fn, startE_0, startE_s, startE_c, fin_rt, fin_nx, fin_ex, fin_ite, ix_t0, ix_t1, ix_t2, ix_t3, ix_l0, ix_l1, ix_l2, len_l, len_t1, len_t2, len_t3, len_t4, beq_self_eq_true, ev_iL, ev_iT, asL_ev, asT_ev, ev_iA, ev_P, toI_ev, ev_P0, ev_sl, kSl_ev, put_1, gAdd_i, gSub_i, gMul_i, gDiv_p, gMod_p, gPow_l, gShl_l, gShr_l, gLt_i, gLe_i, gGt_i, gGe_i, gEq_i, gNe_i, gNeg_i, gAbs_i, gInt_i, gInt_b, gEq_s, gNe_s, gEq_b, gNe_b, gEq_2, gNe_2, gEq_3, gNe_3, gEq_22, gNe_22, DL.R.bind_ok, DL.R.bind_ex, ev_setL, kSetL_ev, ev_lDisp, kDisp_ev, ev_lList, lOf_l, lOf_t, ev_frz, frz_l, frz_d, frz_n, ev_lend, lend_l, lend_d, atom_i, atom_b, atom_s, ev_lendB, lendB_l, lendB_d, ev_app, app_l, kApp_ev, ev_put, put_l, ev_ixO, ixO_l, ixO_d, put_m, putAll_c, putAll_n, ev_lc, kLst_ev, ev_lcL, wipe_n, wipe_c, r1_2, r1_3, bits_ev, List.getElem?_cons_zero, List.getElem?_cons_succ, List.set_cons_zero, List.set_cons_succ, List.length_cons, List.length_nil, List.length_map, List.append_nil, List.cons_append, List.nil_append, ev_if, turn_nx, turn_ct, turn_bk, turn_rt, turn_ite, kWh_ev, isi_int_int, isi_bool_int, isi_int_bool, isi_bool_bool, isi_int_str, isi_int_none, isi_int_list, isi_int_tup, isi_bool_str, isi_bool_none, isi_bool_list, isi_bool_tup, isi_tup_tup, isi_tup_int, isi_tup_bool, isi_tup_str, isi_tup_none, isi_tup_list, isi_list_list, isi_list_tup, isi_list_int, isi_list_bool, isi_list_str, isi_list_none, isi_str_str, isi_str_int, isi_str_bool, isi_str_none, isi_str_list, isi_str_tup, decide_true, decide_false, not_true_eq_false, not_false_eq_true, ne_eq, decide_eq_true_eq, Bool.not_eq_true', decide_eq_false_iff_not, Bool.not_true, Bool.not_false, Bool.false_eq_true, if_true, if_false, reduceIte, hb, hp]
      exact e
theorem law_divisor_v2_eq (a b : Int) (ha : 0 ≤ a) (hb : 0 ≤ b) : m_law_divisor_v2 [.int a, .int b] = .ok (.int (Int.gcd a b : Int)) := by
  have e := law_divisor_v2_loop _ a b hb ha (Nat.le_refl _)
  simp +decide only [m_law_divisor_v2, den_law_divisor_v2, ev_seq, seq_nx, seq_rt, seq_ex, seq_bk, seq_ct, seq_ite, fl_ok, fl_ex, fl_ite, ev_set, kSet_ev, ev_ret, ev_retN, ev_nx, ev_bk, ev_ct, ev_raise, ev_if, kIf_ev, ev_drop, kNx_ev, ev_par, kPar_ev, kId_ev, ev_asg, kAsg_ev, ev_for, kFor_ev, ev_V, dVg_ok, ev_C, ev_1, ev_2, bind2_ok, bind2_ite1, bind2_ite2, bind_ite, ev_A, ev_nil, ev_cons, kCons_ev, ev_T, toB_ev, ev_and, ev_or, ev_not, kAnd_ev, kOr_ev, kNot_ev, ev_andV, ev_orV, ev_notV, kAndV_ev, kOrV_ev, kNotV_ev, ev_ife, kIfE_ev, ev_ch, kCh, tup_ev, lst_ev, call_ev, kw_ev, ev_kw, ev_fn, startE_0, startE_s, startE_c, fin_rt, fin_nx, fin_ex, fin_ite, ix_t0, ix_t1, ix_t2, ix_t3, ix_l0, ix_l1, ix_l2, len_l, len_t1, len_t2, len_t3, len_t4, beq_self_eq_true, ev_iL, ev_iT, asL_ev, asT_ev, ev_iA, ev_P, toI_ev, ev_P0, ev_sl, kSl_ev, put_1, gAdd_i, gSub_i, gMul_i, gDiv_p, gMod_p, gPow_l, gShl_l, gShr_l, gLt_i, gLe_i, gGt_i, gGe_i, gEq_i, gNe_i, gNeg_i, gAbs_i, gInt_i, gInt_b, gEq_s, gNe_s, gEq_b, gNe_b, gEq_2, gNe_2, gEq_3, gNe_3, gEq_22, gNe_22, DL.R.bind_ok, DL.R.bind_ex, ev_setL, kSetL_ev, ev_lDisp, kDisp_ev, ev_lList, lOf_l, lOf_t, ev_frz, frz_l, frz_d, frz_n, ev_lend, lend_l, lend_d, atom_i, atom_b, atom_s, ev_lendB, lendB_l, lendB_d, ev_app, app_l, kApp_ev, ev_put, put_l, ev_ixO, ixO_l, ixO_d, put_m, putAll_c, putAll_n, ev_lc, kLst_ev, ev_lcL, wipe_n, wipe_c, r1_2, r1_3, bits_ev, List.getElem?_cons_zero, List.getElem?_cons_succ, List.set_cons_zero, List.set_cons_succ, List.length_cons, List.length_nil, List.length_map, List.append_nil, List.cons_append, List.nil_append, ev_if, turn_nx, turn_ct, turn_bk, turn_rt, turn_ite, kWh_ev, isi_int_int, isi_bool_int, isi_int_bool, isi_bool_bool, isi_int_str, isi_int_none, isi_int_list, isi_int_tup, isi_bool_str, isi_bool_none, isi_bool_list, isi_bool_tup, isi_tup_tup, isi_tup_int, isi_tup_bool, isi_tup_str, isi_tup_none, isi_tup_list, isi_list_list, isi_list_tup, isi_list_int, isi_list_bool, isi_list_str, isi_list_none, isi_str_str, isi_str_int, isi_str_bool, isi_str_none, isi_str_list, isi_str_tup, decide_true, decide_false, not_true_eq_false, not_false_eq_true, ne_eq, decide_eq_true_eq, Bool.not_eq_true', decide_eq_false_iff_not, Bool.not_true, Bool.not_false, Bool.false_eq_true, if_true, if_false, reduceIte, e]
theorem law_mixed_ok (c k : Int) [bk : Bd k 40] : ∃ z : Int, m_law_mixed [.int c, .int k] = .ok (.int z) ∧ 0 ≤ z ∧ Bd z 31 := by
  refine ⟨(c % 2147483647 + 11) * (48271 + 2 * k * k) % 2147483629, ?_, Int.emod_nonneg _ (by decide), (bd_emod : Bd _ _).mono (by decide)⟩
  simp +decide only [m_law_mixed, den_law_mixed, ev_seq, seq_nx, seq_rt, seq_ex, seq_bk, seq_ct, seq_ite, fl_ok, fl_ex, fl_ite, ev_set, kSet_ev, ev_ret, ev_retN, ev_nx, ev_bk, ev_ct, ev_raise, ev_if, kIf_ev, ev_drop, kNx_ev, ev_par, kPar_ev, kId_ev, ev_asg, kAsg_ev, ev_for, kFor_ev, ev_V, dVg_ok, ev_C, ev_1, ev_2, bind2_ok, bind2_ite1, bind2_ite2, bind_ite, ev_A, ev_nil, ev_cons, kCons_ev, ev_T, toB_ev, ev_and, ev_or, ev_not, kAnd_ev, kOr_ev, kNot_ev, ev_andV, ev_orV, ev_notV, kAndV_ev, kOrV_ev, kNotV_ev, ev_ife, kIfE_ev, ev_ch, kCh, tup_ev, lst_ev, call_ev, kw_ev, ev_kw, ev_fn, startE_0, startE_s, startE_c, fin_rt, fin_nx, fin_ex, fin_ite, ix_t0, ix_t1, ix_t2, ix_t3, ix_l0, ix_l1, ix_l2, len_l, len_t1, len_t2, len_t3, len_t4, beq_self_eq_true, ev_iL, ev_iT, asL_ev, asT_ev, ev_iA, ev_P, toI_ev, ev_P0, ev_sl, kSl_ev, put_1, gAdd_i, gSub_i, gMul_i, gDiv_p, gMod_p, gPow_l, gShl_l, gShr_l, gLt_i, gLe_i, gGt_i, gGe_i, gEq_i, gNe_i, gNeg_i, gAbs_i, gInt_i, gInt_b, gEq_s, gNe_s, gEq_b, gNe_b, gEq_2, gNe_2, gEq_3, gNe_3, gEq_22, gNe_22, DL.R.bind_ok, DL.R.bind_ex, ev_setL, kSetL_ev, ev_lDisp, kDisp_ev, ev_lList, lOf_l, lOf_t, ev_frz, frz_l, frz_d, frz_n, ev_lend, lend_l, lend_d, atom_i, atom_b, atom_s, ev_lendB, lendB_l, lendB_d, ev_app, app_l, kApp_ev, ev_put, put_l, ev_ixO, ixO_l, ixO_d, put_m, putAll_c, putAll_n, ev_lc, kLst_ev, ev_lcL, wipe_n, wipe_c, r1_2, r1_3, bits_ev, List.getElem?_cons_zero, List.getElem?_cons_succ, List.set_cons_zero, List.set_cons_succ, List.length_cons, List.length_nil, List.length_map, List.append_nil, List.cons_append, List.nil_append, ev_if, turn_nx, turn_ct, turn_bk, turn_rt, turn_ite, kWh_ev, isi_int_int, isi_bool_int, isi_int_bool, isi_bool_bool, isi_int_str, isi_int_none, isi_int_list, isi_int_tup, isi_bool_str, isi_bool_none, isi_bool_list, isi_bool_tup, isi_tup_tup, isi_tup_int, isi_tup_bool, isi_tup_str, isi_tup_none, isi_tup_list, isi_list_list, isi_list_tup, isi_list_int, isi_list_bool, isi_list_str, isi_list_none, isi_str_str, isi_str_int, isi_str_bool, isi_str_none, isi_str_list, isi_str_tup, decide_true, decide_false, not_true_eq_false, not_false_eq_true, ne_eq, decide_eq_true_eq, Bool.not_eq_true', decide_eq_false_iff_not, Bool.not_true, Bool.not_false, Bool.false_eq_true, if_true, if_false, reduceIte]
theorem low2 (a b : Int) (hb : 0 < b) : ∃ g : Int, (Int.gcd a b : Int) = g ∧ 0 < g ∧ (∃ q : Int, 1 ≤ q ∧ b / g = q ∧ b = q * g) ∧ (∃ p : Int, a / g = p ∧ a = p * g) := by
  have d1 : (Int.gcd a b : Int) ∣ b := Int.gcd_dvd_right ..
  have d2 : (Int.gcd a b : Int) ∣ a := Int.gcd_dvd_left ..
  have h0 : 0 < (Int.gcd a b : Int) := by
    have : Int.gcd a b ≠ 0 := fun e => by have := (Int.gcd_eq_zero_iff.mp e).2; omega
    omega
  obtain ⟨q, hq⟩ := d1
  obtain ⟨p, hp⟩ := d2
  generalize (Int.gcd a b : Int) = g at *
  refine ⟨g, rfl, h0, ⟨q, ?_, ?_, by rw [hq]; exact Int.mul_comm ..⟩, ⟨p, ?_, by rw [hp]; exact Int.mul_comm ..⟩⟩
  · rcases Int.lt_or_le 0 q with w | w
    · omega
    · have := Int.mul_nonneg_of_nonpos_of_nonpos (a := -g) (b := q) (by omega) w
      have e : -g * q = -(g * q) := by grind
      omega
  · rw [hq]; exact Int.mul_ediv_cancel_left _ (by omega)
  · rw [hp]; exact Int.mul_ediv_cancel_left _ (by omega)
theorem pow12 : (10 : Int) ^ (12 : Nat) = 1000000000000 := by decide
theorem pow18 : (10 : Int) ^ (18 : Nat) = 1000000000000000000 := by decide
theorem bot_ok (j : Int) (h0 : 0 ≤ j) (h1 : j < 7) : ∃ b : Int, gIx (.list [.int 1, .int 1, .int 2, .int 3, .int 4, .int 6, .int 12]) (.int j) = .ok (.int b) ∧ 1 ≤ b ∧ b ≤ 12 := by
  have c : j = 0 ∨ j = 1 ∨ j = 2 ∨ j = 3 ∨ j = 4 ∨ j = 5 ∨ j = 6 := by omega
  rcases c with rfl | rfl | rfl | rfl | rfl | rfl | rfl
  · exact ⟨1, rfl, by decide⟩
  · exact ⟨1, rfl, by decide⟩
  · exact ⟨2, rfl, by decide⟩
  · exact ⟨3, rfl, by decide⟩
  · exact ⟨4, rfl, by decide⟩
  · exact ⟨6, rfl, by decide⟩
  · exact ⟨12, rfl, by decide⟩
/-- a drawn fraction -/
theorem law_fraction_v2_ok (n : Int) (h0 : 0 ≤ n) [bn : Bd n 31] (great : Bool) : ∃ p q : Int, m_law_fraction_v2 [.int n, .bool great] = .ok (.tuple [.int p, .int q]) ∧ LowF p q ∧ p.natAbs < 10 ^ 33 ∧ q.natAbs < 10 ^ 33 ∧ (great = false → p.natAbs ≤ 20 ∧ q ≤ 12) := by
  have t : (2 : Nat) ^ 31 = 2147483648 := by decide
  have hn := bn.h
  have fin : ∀ a b : Int, 0 < b → ∃ g : Int, (Int.gcd (a.natAbs : Int) b : Int) = g ∧ 0 < g ∧ LowF (a / g) (b / g) ∧ (a / g).natAbs ≤ a.natAbs ∧ b / g ≤ b := by
    intro a b hb
    have e0 : Int.gcd (a.natAbs : Int) b = Int.gcd a b := by simp [Int.gcd]
    obtain ⟨g, e1, e2, ⟨q, q1, q2, q3⟩, ⟨p, p1, p2⟩⟩ := low2 a b hb
    refine ⟨g, by rw [e0, e1], e2, ?_, ?_, ?_⟩
    · rw [q2, p1]
      refine ⟨by omega, ?_⟩
      have h := e1
      rw [p2, q3, Int.gcd_mul_right] at h
      have h2 : (Int.gcd p q : Int) * (g.natAbs : Int) = g := by exact_mod_cast h
      have h3 : (g.natAbs : Int) = g := by omega
      rw [h3] at h2
      have : (Int.gcd p q : Int) = 1 := by
        have : ((Int.gcd p q : Int) - 1) * g = 0 := by rw [Int.sub_mul, h2]; omega
        rcases Int.mul_eq_zero.mp this with w | w <;> omega
      omega
    · rw [p1]
      have : p.natAbs ≤ (p * g).natAbs := by
        rw [Int.natAbs_mul]
        exact Nat.le_mul_of_pos_right _ (by omega)
      rw [← p2] at this
      exact this
    · rw [q2]
      have : q * 1 ≤ q * g := Int.mul_le_mul_of_nonneg_left (by omega) (by omega)
      omega
  obtain ⟨b, eb, hb1, hb2⟩ := bot_ok (n % 7) (by omega) (by omega)
  cases great with
  | false =>
    obtain ⟨g, e1, e2, e3, e4, e5⟩ := fin (n / 7 % 41 - 20) b (by omega)
    have ed := law_divisor_v2_eq ((n / 7 % 41 - 20).natAbs : Int) b (by omega) (by omega)
    rw [e1] at ed
    have bg : Bd g 10 := ⟨by
      have : g ≤ b := by
        have : (Int.gcd ((n / 7 % 41 - 20).natAbs : Int) b : Int) ∣ b := Int.gcd_dvd_right ..
        rw [e1] at this
        exact Int.le_of_dvd (by omega) this
      have : (2 : Nat) ^ 10 = 1024 := by decide
      omega⟩
    have h33 : (10 : Nat) ^ 33 = 1000000000000000000000000000000000 := by decide
    refine ⟨_, _, ?_, e3, by omega, by have := e3.1; omega, fun _ => ⟨by omega, by omega⟩⟩
    simp +decide only [m_law_fraction_v2, den_law_fraction_v2, ev_seq, seq_nx, seq_rt, seq_ex, seq_bk, seq_ct, seq_ite, fl_ok, fl_ex, fl_ite, ev_set, kSet_ev, ev_ret, ev_retN, ev_nx, ev_bk, ev_ct, ev_raise, ev_if, kIf_ev, ev_drop, kNx_ev, ev_par, kPar_ev, kId_ev, ev_asg, kAsg_ev, ev_for, kFor_ev, ev_V, dVg_ok, ev_C, ev_1, ev_2, bind2_ok, bind2_ite1, bind2_ite2, bind_ite, ev_A, ev_nil, ev_cons, kCons_ev, ev_T, toB_ev, ev_and, ev_or, ev_not, kAnd_ev, kOr_ev, kNot_ev, ev_andV, ev_orV, ev_notV, kAndV_ev, kOrV_ev, kNotV_ev, ev_ife, kIfE_ev, ev_ch, kCh, tup_ev, lst_ev, call_ev, kw_ev, ev_kw, ev_fn, startE_0, startE_s, startE_c, fin_rt, fin_nx, fin_ex, fin_ite, ix_t0, ix_t1, ix_t2, ix_t3, ix_l0, ix_l1, ix_l2, len_l, len_t1, len_t2, len_t3, len_t4, beq_self_eq_true, ev_iL, ev_iT, asL_ev, asT_ev, ev_iA, ev_P, toI_ev, ev_P0, ev_sl, kSl_ev, put_1, gAdd_i, gSub_i, gMul_i, gDiv_p, gMod_p, gPow_l, gShl_l, gShr_l, gLt_i, gLe_i, gGt_i, gGe_i, gEq_i, gNe_i, gNeg_i, gAbs_i, gInt_i, gInt_b, gEq_s, gNe_s, gEq_b, gNe_b, gEq_2, gNe_2, gEq_3, gNe_3, gEq_22, gNe_22, DL.R.bind_ok, DL.R.bind_ex, ev_setL, kSetL_ev, ev_lDisp, kDisp_ev, ev_lList, lOf_l, lOf_t, ev_frz, frz_l, frz_d, frz_n, ev_lend, lend_l, lend_d, atom_i, atom_b, atom_s, ev_lendB, lendB_l, lendB_d, ev_app, app_l, kApp_ev, ev_put, put_l, ev_ixO, ixO_l, ixO_d, put_m, putAll_c, putAll_n, ev_lc, kLst_ev, ev_lcL, wipe_n, wipe_c, r1_2, r1_3, bits_ev, List.getElem?_cons_zero, List.getElem?_cons_succ, List.set_cons_zero, List.set_cons_succ, List.length_cons, List.length_nil, List.length_map, List.append_nil, List.cons_append, List.nil_append, ev_if, turn_nx, turn_ct, turn_bk, turn_rt, turn_ite, kWh_ev, isi_int_int, isi_bool_int, isi_int_bool, isi_bool_bool, isi_int_str, isi_int_none, isi_int_list, isi_int_tup, isi_bool_str, isi_bool_none, isi_bool_list, isi_bool_tup, isi_tup_tup, isi_tup_int, isi_tup_bool, isi_tup_str, isi_tup_none, isi_tup_list, isi_list_list, isi_list_tup, isi_list_int, isi_list_bool, isi_list_str, isi_list_none, isi_str_str, isi_str_int, isi_str_bool, isi_str_none, isi_str_list, isi_str_tup, decide_true, decide_false, not_true_eq_false, not_false_eq_true, ne_eq, decide_eq_true_eq, Bool.not_eq_true', decide_eq_false_iff_not, Bool.not_true, Bool.not_false, Bool.false_eq_true, if_true, if_false, reduceIte, eb, ed, e2]
  | true =>
    by_cases hc : n / 287 % 3 = 0
    · have tp : ((n * 465661287 - 1000000000000000000) * (1000000000000 + n % 7919)).natAbs < 10 ^ 33 := by
        rw [Int.natAbs_mul]
        have h1 : (n * 465661287 - 1000000000000000000).natAbs < 10 ^ 19 := by
          have : (10 : Nat) ^ 19 = 10000000000000000000 := by decide
          omega
        have h2 : (1000000000000 + n % 7919).natAbs < 10 ^ 13 := by
          have : (10 : Nat) ^ 13 = 10000000000000 := by decide
          omega
        have := Nat.mul_le_mul (Nat.le_of_lt h1) (Nat.le_of_lt h2)
        have e : (10 : Nat) ^ 19 * 10 ^ 13 < 10 ^ 33 := by decide
        omega
      have bt : (0 : Int) < 1 + n * 69621 % 1000000000000 := by omega
      obtain ⟨g, e1, e2, e3, e4, e5⟩ := fin ((n * 465661287 - 1000000000000000000) * (1000000000000 + n % 7919)) (1 + n * 69621 % 1000000000000) bt
      have ed := law_divisor_v2_eq (((n * 465661287 - 1000000000000000000) * (1000000000000 + n % 7919)).natAbs : Int) (1 + n * 69621 % 1000000000000) (by omega) (by omega)
      have hg : g ≤ 1 + n * 69621 % 1000000000000 := by
        have : (Int.gcd (((n * 465661287 - 1000000000000000000) * (1000000000000 + n % 7919)).natAbs : Int) (1 + n * 69621 % 1000000000000) : Int) ∣ 1 + n * 69621 % 1000000000000 := Int.gcd_dvd_right ..
        rw [e1] at this
        exact Int.le_of_dvd bt this
      rw [e1] at ed
      have bg : Bd g 41 := ⟨by
        have : (2 : Nat) ^ 41 = 2199023255552 := by decide
        omega⟩
      have h33 : (10 : Nat) ^ 33 = 1000000000000000000000000000000000 := by decide
      refine ⟨_, _, ?_, e3, by omega, by have := e3.1; omega, fun h => absurd h (by decide)⟩
      simp +decide only [m_law_fraction_v2, den_law_fraction_v2, ev_seq, seq_nx, seq_rt, seq_ex, seq_bk, seq_ct, seq_ite, fl_ok, fl_ex, fl_ite, ev_set, kSet_ev, ev_ret, ev_retN, ev_nx, ev_bk, ev_ct, ev_raise, ev_if, kIf_ev, ev_drop, kNx_ev, ev_par, kPar_ev, kId_ev, ev_asg, kAsg_ev, ev_for, kFor_ev, ev_V, dVg_ok, ev_C, ev_1, ev_2, bind2_ok, bind2_ite1, bind2_ite2, bind_ite, ev_A, ev_nil, ev_cons, kCons_ev, ev_T, toB_ev, ev_and, ev_or, ev_not, kAnd_ev, kOr_ev, kNot_ev, ev_andV, ev_orV, ev_notV, kAndV_ev, kOrV_ev, kNotV_ev, ev_ife, kIfE_ev, ev_ch, kCh, tup_ev, lst_ev, call_ev, kw_ev, ev_kw, ev_fn, startE_0, startE_s, startE_c, fin_rt, fin_nx, fin_ex, fin_ite, ix_t0, ix_t1, ix_t2, ix_t3, ix_l0, ix_l1, ix_l2, len_l, len_t1, len_t2, len_t3, len_t4, beq_self_eq_true, ev_iL, ev_iT, asL_ev, asT_ev, ev_iA, ev_P, toI_ev, ev_P0, ev_sl, kSl_ev, put_1, gAdd_i, gSub_i, gMul_i, gDiv_p, gMod_p, gPow_l, gShl_l, gShr_l, gLt_i, gLe_i, gGt_i, gGe_i, gEq_i, gNe_i, gNeg_i, gAbs_i, gInt_i, gInt_b, gEq_s, gNe_s, gEq_b, gNe_b, gEq_2, gNe_2, gEq_3, gNe_3, gEq_22, gNe_22, DL.R.bind_ok, DL.R.bind_ex, ev_setL, kSetL_ev, ev_lDisp, kDisp_ev, ev_lList, lOf_l, lOf_t, ev_frz, frz_l, frz_d, frz_n, ev_lend, lend_l, lend_d, atom_i, atom_b, atom_s, ev_lendB, lendB_l, lendB_d, ev_app, app_l, kApp_ev, ev_put, put_l, ev_ixO, ixO_l, ixO_d, put_m, putAll_c, putAll_n, ev_lc, kLst_ev, ev_lcL, wipe_n, wipe_c, r1_2, r1_3, bits_ev, List.getElem?_cons_zero, List.getElem?_cons_succ, List.set_cons_zero, List.set_cons_succ, List.length_cons, List.length_nil, List.length_map, List.append_nil, List.cons_append, List.nil_append, ev_if, turn_nx, turn_ct, turn_bk, turn_rt, turn_ite, kWh_ev, isi_int_int, isi_bool_int, isi_int_bool, isi_bool_bool, isi_int_str, isi_int_none, isi_int_list, isi_int_tup, isi_bool_str, isi_bool_none, isi_bool_list, isi_bool_tup, isi_tup_tup, isi_tup_int, isi_tup_bool, isi_tup_str, isi_tup_none, isi_tup_list, isi_list_list, isi_list_tup, isi_list_int, isi_list_bool, isi_list_str, isi_list_none, isi_str_str, isi_str_int, isi_str_bool, isi_str_none, isi_str_list, isi_str_tup, decide_true, decide_false, not_true_eq_false, not_false_eq_true, ne_eq, decide_eq_true_eq, Bool.not_eq_true', decide_eq_false_iff_not, Bool.not_true, Bool.not_false, Bool.false_eq_true, if_true, if_false, reduceIte, eb, hc, pow12, pow18, ed, e2]
    · obtain ⟨g, e1, e2, e3, e4, e5⟩ := fin (n / 7 % 41 - 20) b (by omega)
      have ed := law_divisor_v2_eq ((n / 7 % 41 - 20).natAbs : Int) b (by omega) (by omega)
      rw [e1] at ed
      have bg : Bd g 10 := ⟨by
        have : g ≤ b := by
          have : (Int.gcd ((n / 7 % 41 - 20).natAbs : Int) b : Int) ∣ b := Int.gcd_dvd_right ..
          rw [e1] at this
          exact Int.le_of_dvd (by omega) this
        have : (2 : Nat) ^ 10 = 1024 := by decide
        omega⟩
      have h33 : (10 : Nat) ^ 33 = 1000000000000000000000000000000000 := by decide
      refine ⟨_, _, ?_, e3, by omega, by have := e3.1; omega, fun h => absurd h (by decide)⟩
      simp +decide only [m_law_fraction_v2, den_law_fraction_v2, ev_seq, seq_nx, seq_rt, seq_ex, seq_bk, seq_ct, seq_ite, fl_ok, fl_ex, fl_ite, ev_set, kSet_ev, ev_ret, ev_retN, ev_nx, ev_bk, ev_ct, ev_raise, ev_if, kIf_ev, ev_drop, kNx_ev, ev_par, kPar_ev, kId_ev, ev_asg, kAsg_ev, ev_for, kFor_ev, ev_V, dVg_ok, ev_C, ev_1, ev_2, bind2_ok, bind2_ite1, bind2_ite2, bind_ite, ev_A, ev_nil, ev_cons, kCons_ev, ev_T, toB_ev, ev_and, ev_or, ev_not, kAnd_ev, kOr_ev, kNot_ev, ev_andV, ev_orV, ev_notV, kAndV_ev, kOrV_ev, kNotV_ev, ev_ife, kIfE_ev, ev_ch, kCh, tup_ev, lst_ev, call_ev, kw_ev, ev_kw, ev_fn, startE_0, startE_s, startE_c, fin_rt, fin_nx, fin_ex, fin_ite, ix_t0, ix_t1, ix_t2, ix_t3, ix_l0, ix_l1, ix_l2, len_l, len_t1, len_t2, len_t3, len_t4, beq_self_eq_true, ev_iL, ev_iT, asL_ev, asT_ev, ev_iA, ev_P, toI_ev, ev_P0, ev_sl, kSl_ev, put_1, gAdd_i, gSub_i, gMul_i, gDiv_p, gMod_p, gPow_l, gShl_l, gShr_l, gLt_i, gLe_i, gGt_i, gGe_i, gEq_i, gNe_i, gNeg_i, gAbs_i, gInt_i, gInt_b, gEq_s, gNe_s, gEq_b, gNe_b, gEq_2, gNe_2, gEq_3, gNe_3, gEq_22, gNe_22, DL.R.bind_ok, DL.R.bind_ex, ev_setL, kSetL_ev, ev_lDisp, kDisp_ev, ev_lList, lOf_l, lOf_t, ev_frz, frz_l, frz_d, frz_n, ev_lend, lend_l, lend_d, atom_i, atom_b, atom_s, ev_lendB, lendB_l, lendB_d, ev_app, app_l, kApp_ev, ev_put, put_l, ev_ixO, ixO_l, ixO_d, put_m, putAll_c, putAll_n, ev_lc, kLst_ev, ev_lcL, wipe_n, wipe_c, r1_2, r1_3, bits_ev, List.getElem?_cons_zero, List.getElem?_cons_succ, List.set_cons_zero, List.set_cons_succ, List.length_cons, List.length_nil, List.length_map, List.append_nil, List.cons_append, List.nil_append, ev_if, turn_nx, turn_ct, turn_bk, turn_rt, turn_ite, kWh_ev, isi_int_int, isi_bool_int, isi_int_bool, isi_bool_bool, isi_int_str, isi_int_none, isi_int_list, isi_int_tup, isi_bool_str, isi_bool_none, isi_bool_list, isi_bool_tup, isi_tup_tup, isi_tup_int, isi_tup_bool, isi_tup_str, isi_tup_none, isi_tup_list, isi_list_list, isi_list_tup, isi_list_int, isi_list_bool, isi_list_str, isi_list_none, isi_str_str, isi_str_int, isi_str_bool, isi_str_none, isi_str_list, isi_str_tup, decide_true, decide_false, not_true_eq_false, not_false_eq_true, ne_eq, decide_eq_true_eq, Bool.not_eq_true', decide_eq_false_iff_not, Bool.not_true, Bool.not_false, Bool.false_eq_true, if_true, if_false, reduceIte, eb, hc, ed, e2]
theorem digits_loop : ∀ (k n : Nat) (t : List Nat), n < 10 ^ (k + 1) → t.length + k ≤ 1000 → ∃ (n' : Nat) (t' : List Nat), n' < 10 ∧ t'.length ≤ 1000 ∧ [48 + n'] ++ t' = Tn n ++ t ∧
    sWhile lt1_law_digits_v2 lb1_law_digits_v2 [some (.d (.int (n : Int))), some (.d (.str (St t)))] = .nx [some (.d (.int (n' : Int))), some (.d (.str (St t')))]
  | 0, n, t, h, ht => by
    have hn : n < 10 := by simpa using h
    refine ⟨n, t, hn, by omega, by rw [Tn_small hn], ?_⟩
    rw [ev_while]
    have : ¬ (9 : Int) < (n : Int) := by omega
    simp +decide only [lt1_law_digits_v2, ev_seq, seq_nx, seq_rt, seq_ex, seq_bk, seq_ct, seq_ite, fl_ok, fl_ex, fl_ite, ev_set, kSet_ev, ev_ret, ev_retN, ev_nx, ev_bk, ev_ct, ev_raise, ev_if, kIf_ev, ev_drop, kNx_ev, ev_par, kPar_ev, kId_ev, ev_asg, kAsg_ev, ev_for, kFor_ev, ev_V, dVg_ok, ev_C, ev_1, ev_2, bind2_ok, bind2_ite1, bind2_ite2, bind_ite, ev_A, ev_nil, ev_cons, kCons_ev, ev_T, toB_ev, ev_and, ev_or, ev_not, kAnd_ev, kOr_ev, kNot_ev, ev_andV, ev_orV, ev_notV, kAndV_ev, kOrV_ev, kNotV_ev, ev_ife, kIfE_ev, ev_ch, kCh, tup_ev, lst_ev, call_ev, kw_ev, ev_kw, ev_fn, startE_0, startE_s, startE_c, fin_rt, fin_nx, fin_ex, fin_ite, ix_t0, ix_t1, ix_t2, ix_t3, ix_l0, ix_l1, ix_l2, len_l, len_t1, len_t2, len_t3, len_t4, beq_self_eq_true, ev_iL, ev_iT, asL_ev, asT_ev, ev_iA, ev_P, toI_ev, ev_P0, ev_sl, kSl_ev, put_1, gAdd_i, gSub_i, gMul_i, gDiv_p, gMod_p, gPow_l, gShl_l, gShr_l, gLt_i, gLe_i, gGt_i, gGe_i, gEq_i, gNe_i, gNeg_i, gAbs_i, gInt_i, gInt_b, gEq_s, gNe_s, gEq_b, gNe_b, gEq_2, gNe_2, gEq_3, gNe_3, gEq_22, gNe_22, DL.R.bind_ok, DL.R.bind_ex, ev_setL, kSetL_ev, ev_lDisp, kDisp_ev, ev_lList, lOf_l, lOf_t, ev_frz, frz_l, frz_d, frz_n, ev_lend, lend_l, lend_d, atom_i, atom_b, atom_s, ev_lendB, lendB_l, lendB_d, ev_app, app_l, kApp_ev, ev_put, put_l, ev_ixO, ixO_l, ixO_d, put_m, putAll_c, putAll_n, ev_lc, kLst_ev, ev_lcL, wipe_n, wipe_c, r1_2, r1_3, bits_ev, List.getElem?_cons_zero, List.getElem?_cons_succ, List.set_cons_zero, List.set_cons_succ, List.length_cons, List.length_nil, List.length_map, List.append_nil, List.cons_append, List.nil_append, ev_if, turn_nx, turn_ct, turn_bk, turn_rt, turn_ite, kWh_ev, isi_int_int, isi_bool_int, isi_int_bool, isi_bool_bool, isi_int_str, isi_int_none, isi_int_list, isi_int_tup, isi_bool_str, isi_bool_none, isi_bool_list, isi_bool_tup, isi_tup_tup, isi_tup_int, isi_tup_bool, isi_tup_str, isi_tup_none, isi_tup_list, isi_list_list, isi_list_tup, isi_list_int, isi_list_bool, isi_list_str, isi_list_none, isi_str_str, isi_str_int, isi_str_bool, isi_str_none, isi_str_list, isi_str_tup, decide_true, decide_false, not_true_eq_false, not_false_eq_true, ne_eq, decide_eq_true_eq, Bool.not_eq_true', decide_eq_false_iff_not, Bool.not_true, Bool.not_false, Bool.false_eq_true, if_true, if_false, reduceIte, this]
  | k + 1, n, t, h, ht => by
    by_cases hn : n < 10
    · refine ⟨n, t, hn, by omega, by rw [Tn_small hn], ?_⟩
      rw [ev_while]
      have : ¬ (9 : Int) < (n : Int) := by omega
      simp +decide only [lt1_law_digits_v2, ev_seq, seq_nx, seq_rt, seq_ex, seq_bk, seq_ct, seq_ite, fl_ok, fl_ex, fl_ite, ev_set, kSet_ev, ev_ret, ev_retN, ev_nx, ev_bk, ev_ct, ev_raise, ev_if, kIf_ev, ev_drop, kNx_ev, ev_par, kPar_ev, kId_ev, ev_asg, kAsg_ev, ev_for, kFor_ev, ev_V, dVg_ok, ev_C, ev_1, ev_2, bind2_ok, bind2_ite1, bind2_ite2, bind_ite, ev_A, ev_nil, ev_cons, kCons_ev, ev_T, toB_ev, ev_and, ev_or, ev_not, kAnd_ev, kOr_ev, kNot_ev, ev_andV, ev_orV, ev_notV, kAndV_ev, kOrV_ev, kNotV_ev, ev_ife, kIfE_ev, ev_ch, kCh, tup_ev, lst_ev, call_ev, kw_ev, ev_kw, ev_fn, startE_0, startE_s, startE_c, fin_rt, fin_nx, fin_ex, fin_ite, ix_t0, ix_t1, ix_t2, ix_t3, ix_l0, ix_l1, ix_l2, len_l, len_t1, len_t2, len_t3, len_t4, beq_self_eq_true, ev_iL, ev_iT, asL_ev, asT_ev, ev_iA, ev_P, toI_ev, ev_P0, ev_sl, kSl_ev, put_1, gAdd_i, gSub_i, gMul_i, gDiv_p, gMod_p, gPow_l, gShl_l, gShr_l, gLt_i, gLe_i, gGt_i, gGe_i, gEq_i, gNe_i, gNeg_i, gAbs_i, gInt_i, gInt_b, gEq_s, gNe_s, gEq_b, gNe_b, gEq_2, gNe_2, gEq_3, gNe_3, gEq_22, gNe_22, DL.R.bind_ok, DL.R.bind_ex, ev_setL, kSetL_ev, ev_lDisp, kDisp_ev, ev_lList, lOf_l, lOf_t, ev_frz, frz_l, frz_d, frz_n, ev_lend, lend_l, lend_d, atom_i, atom_b, atom_s, ev_lendB, lendB_l, lendB_d, ev_app, app_l, kApp_ev, ev_put, put_l, ev_ixO, ixO_l, ixO_d, put_m, putAll_c, putAll_n, ev_lc, kLst_ev, ev_lcL, wipe_n, wipe_c, r1_2, r1_3, bits_ev, List.getElem?_cons_zero, List.getElem?_cons_succ, List.set_cons_zero, List.set_cons_succ, List.length_cons, List.length_nil, List.length_map, List.append_nil, List.cons_append, List.nil_append, ev_if, turn_nx, turn_ct, turn_bk, turn_rt, turn_ite, kWh_ev, isi_int_int, isi_bool_int, isi_int_bool, isi_bool_bool, isi_int_str, isi_int_none, isi_int_list, isi_int_tup, isi_bool_str, isi_bool_none, isi_bool_list, isi_bool_tup, isi_tup_tup, isi_tup_int, isi_tup_bool, isi_tup_str, isi_tup_none, isi_tup_list, isi_list_list, isi_list_tup, isi_list_int, isi_list_bool, isi_list_str, isi_list_none, isi_str_str, isi_str_int, isi_str_bool, isi_str_none, isi_str_list, isi_str_tup, decide_true, decide_false, not_true_eq_false, not_false_eq_true, ne_eq, decide_eq_true_eq, Bool.not_eq_true', decide_eq_false_iff_not, Bool.not_true, Bool.not_false, Bool.false_eq_true, if_true, if_false, reduceIte, this]
    · obtain ⟨n', t', h1, h2, h3, e⟩ := digits_loop k (n / 10) ([48 + n % 10] ++ t) (by rw [Nat.pow_succ] at h; omega) (by simp; omega)
      refine ⟨n', t', h1, h2, by rw [h3, Tn_big (n := n) (by omega), List.append_assoc], ?_⟩
      rw [ev_while]
      have c : (9 : Int) < (n : Int) := by omega
      have d1 : (n : Int) % 10 = ((n % 10 : Nat) : Int) := by omega
      have d2 : (n : Int) / 10 = ((n / 10 : Nat) : Int) := by omega
      have ei := ix_digs (n % 10) (by omega)
      have ea := gAdd_st (a := [48 + n % 10]) (b := t) (by simp; omega)
      simp +decide only [lt1_law_digits_v2, lb1_law_digits_v2, ev_seq, seq_nx, seq_rt, seq_ex, seq_bk, seq_ct, seq_ite, fl_ok, fl_ex, fl_ite, ev_set, kSet_ev, ev_ret, ev_retN, ev_nx, ev_bk, ev_ct, ev_raise, ev_if, kIf_ev, ev_drop, kNx_ev, ev_par, kPar_ev, kId_ev, ev_asg, kAsg_ev, ev_for, kFor_ev, ev_V, dVg_ok, ev_C, ev_1, ev_2, bind2_ok, bind2_ite1, bind2_ite2, bind_ite, ev_A, ev_nil, ev_cons, kCons_ev, ev_T, toB_ev, ev_and, ev_or, ev_not, kAnd_ev, kOr_ev, kNot_ev, ev_andV, ev_orV, ev_notV, kAndV_ev, kOrV_ev, kNotV_ev, ev_ife, kIfE_ev, ev_ch, kCh, tup_ev, lst_ev, call_ev, kw_ev, ev_kw, ev_fn, startE_0, startE_s, startE_c, fin_rt, fin_nx, fin_ex, fin_ite, ix_t0, ix_t1, ix_t2, ix_t3, ix_l0, ix_l1, ix_l2, len_l, len_t1, len_t2, len_t3, len_t4, beq_self_eq_true, ev_iL, ev_iT, asL_ev, asT_ev, ev_iA, ev_P, toI_ev, ev_P0, ev_sl, kSl_ev, put_1, gAdd_i, gSub_i, gMul_i, gDiv_p, gMod_p, gPow_l, gShl_l, gShr_l, gLt_i, gLe_i, gGt_i, gGe_i, gEq_i, gNe_i, gNeg_i, gAbs_i, gInt_i, gInt_b, gEq_s, gNe_s, gEq_b, gNe_b, gEq_2, gNe_2, gEq_3, gNe_3, gEq_22, gNe_22, DL.R.bind_ok, DL.R.bind_ex, ev_setL, kSetL_ev, ev_lDisp, kDisp_ev, ev_lList, lOf_l, lOf_t, ev_frz, frz_l, frz_d, frz_n, ev_lend, lend_l, lend_d, atom_i, atom_b, atom_s, ev_lendB, lendB_l, lendB_d, ev_app, app_l, kApp_ev, ev_put, put_l, ev_ixO, ixO_l, ixO_d, put_m, putAll_c, putAll_n, ev_lc, kLst_ev, ev_lcL, wipe_n, wipe_c, r1_2, r1_3, bits_ev, List.getElem?_cons_zero, List.getElem?_cons_succ, List.set_cons_zero, List.set_cons_succ, List.length_cons, List.length_nil, List.length_map, List.append_nil, List.cons_append, List.nil_append, ev_if, turn_nx, turn_ct, turn_bk, turn_rt, turn_ite, kWh_ev, isi_int_int, isi_bool_int, isi_int_bool, isi_bool_bool, isi_int_str, isi_int_none, isi_int_list, isi_int_tup, isi_bool_str, isi_bool_none, isi_bool_list, isi_bool_tup, isi_tup_tup, isi_tup_int, isi_tup_bool, isi_tup_str, isi_tup_none, isi_tup_list, isi_list_list, isi_list_tup, isi_list_int, isi_list_bool, isi_list_str, isi_list_none, isi_str_str, isi_str_int, isi_str_bool, isi_str_none, isi_str_list, isi_str_tup, decide_true, decide_false, not_true_eq_false, not_false_eq_true, ne_eq, decide_eq_true_eq, Bool.not_eq_true', decide_eq_false_iff_not, Bool.not_true, Bool.not_false, Bool.false_eq_true, if_true, if_false, reduceIte, c, d1, d2, ei, ea]
      exact e
theorem law_digits_v2_eq (n : Nat) (h : n < 10 ^ 900) : m_law_digits_v2 [.int (n : Int)] = .ok (.str (St (Tn n))) := by
  obtain ⟨n', t', h1, h2, h3, e⟩ := digits_loop 899 n [] h (by simp)
  have ei := ix_digs n' h1
  have ea := gAdd_st (a := [48 + n']) (b := t') (by simp; omega)
  rw [List.append_nil] at h3
  rw [h3] at ea
  rw [← st_nil] at e
  simp +decide only [m_law_digits_v2, den_law_digits_v2, ev_seq, seq_nx, seq_rt, seq_ex, seq_bk, seq_ct, seq_ite, fl_ok, fl_ex, fl_ite, ev_set, kSet_ev, ev_ret, ev_retN, ev_nx, ev_bk, ev_ct, ev_raise, ev_if, kIf_ev, ev_drop, kNx_ev, ev_par, kPar_ev, kId_ev, ev_asg, kAsg_ev, ev_for, kFor_ev, ev_V, dVg_ok, ev_C, ev_1, ev_2, bind2_ok, bind2_ite1, bind2_ite2, bind_ite, ev_A, ev_nil, ev_cons, kCons_ev, ev_T, toB_ev, ev_and, ev_or, ev_not, kAnd_ev, kOr_ev, kNot_ev, ev_andV, ev_orV, ev_notV, kAndV_ev, kOrV_ev, kNotV_ev, ev_ife, kIfE_ev, ev_ch, kCh, tup_ev, lst_ev, call_ev, kw_ev, ev_kw, ev_fn, startE_0, startE_s, startE_c, fin_rt, fin_nx, fin_ex, fin_ite, ix_t0, ix_t1, ix_t2, ix_t3, ix_l0, ix_l1, ix_l2, len_l, len_t1, len_t2, len_t3, len_t4, beq_self_eq_true, ev_iL, ev_iT, asL_ev, asT_ev, ev_iA, ev_P, toI_ev, ev_P0, ev_sl, kSl_ev, put_1, gAdd_i, gSub_i, gMul_i, gDiv_p, gMod_p, gPow_l, gShl_l, gShr_l, gLt_i, gLe_i, gGt_i, gGe_i, gEq_i, gNe_i, gNeg_i, gAbs_i, gInt_i, gInt_b, gEq_s, gNe_s, gEq_b, gNe_b, gEq_2, gNe_2, gEq_3, gNe_3, gEq_22, gNe_22, DL.R.bind_ok, DL.R.bind_ex, ev_setL, kSetL_ev, ev_lDisp, kDisp_ev, ev_lList, lOf_l, lOf_t, ev_frz, frz_l, frz_d, frz_n, ev_lend, lend_l, lend_d, atom_i, atom_b, atom_s, ev_lendB, lendB_l, lendB_d, ev_app, app_l, kApp_ev, ev_put, put_l, ev_ixO, ixO_l, ixO_d, put_m, putAll_c, putAll_n, ev_lc, kLst_ev, ev_lcL, wipe_n, wipe_c, r1_2, r1_3, bits_ev, List.getElem?_cons_zero, List.getElem?_cons_succ, List.set_cons_zero, List.set_cons_succ, List.length_cons, List.length_nil, List.length_map, List.append_nil, List.cons_append, List.nil_append, ev_if, turn_nx, turn_ct, turn_bk, turn_rt, turn_ite, kWh_ev, isi_int_int, isi_bool_int, isi_int_bool, isi_bool_bool, isi_int_str, isi_int_none, isi_int_list, isi_int_tup, isi_bool_str, isi_bool_none, isi_bool_list, isi_bool_tup, isi_tup_tup, isi_tup_int, isi_tup_bool, isi_tup_str, isi_tup_none, isi_tup_list, isi_list_list, isi_list_tup, isi_list_int, isi_list_bool, isi_list_str, isi_list_none, isi_str_str, isi_str_int, isi_str_bool, isi_str_none, isi_str_list, isi_str_tup, decide_true, decide_false, not_true_eq_false, not_false_eq_true, ne_eq, decide_eq_true_eq, Bool.not_eq_true', decide_eq_false_iff_not, Bool.not_true, Bool.not_false, Bool.false_eq_true, if_true, if_false, reduceIte, e, ei, ea]
def Tf (p q : Int) : List Nat := if q = 1 then Ti p else Ti p ++ [47] ++ Ti q
theorem Ti_len {i : Int} (h : i.natAbs < 10 ^ 33) : (Ti i).length ≤ 40 := by
  unfold Ti
  rw [List.length_append]
  have := Tn_len 32 i.natAbs h
  split <;> simp <;> omega
theorem log33 {i : Int} (h : i.natAbs < 10 ^ 33) : i.natAbs.log2 < 1920 := by
  refine log_lt (Nat.lt_of_lt_of_le h ?_) (by decide)
  exact Nat.le_trans (show 10 ^ 33 ≤ 2 ^ 110 by decide) (Nat.pow_le_pow_right (by decide) (by decide))
theorem shown_fraction_eq (p q : Int) (hp : p.natAbs < 10 ^ 33) (hq : q.natAbs < 10 ^ 33) : m_shown_fraction [.tuple [.int p, .int q]] = .ok (.str (St (Tf p q))) := by
  have e1 := gStr_i (log33 hp)
  have e2 := gStr_i (log33 hq)
  have l1 := Ti_len hp
  have l2 := Ti_len hq
  unfold Tf
  by_cases h : q = 1
  · subst h
    rw [if_pos rfl]
    simp +decide only [m_shown_fraction, den_shown_fraction, ev_seq, seq_nx, seq_rt, seq_ex, seq_bk, seq_ct, seq_ite, fl_ok, fl_ex, fl_ite, ev_set, kSet_ev, ev_ret, ev_retN, ev_nx, ev_bk, ev_ct, ev_raise, ev_if, kIf_ev, ev_drop, kNx_ev, ev_par, kPar_ev, kId_ev, ev_asg, kAsg_ev, ev_for, kFor_ev, ev_V, dVg_ok, ev_C, ev_1, ev_2, bind2_ok, bind2_ite1, bind2_ite2, bind_ite, ev_A, ev_nil, ev_cons, kCons_ev, ev_T, toB_ev, ev_and, ev_or, ev_not, kAnd_ev, kOr_ev, kNot_ev, ev_andV, ev_orV, ev_notV, kAndV_ev, kOrV_ev, kNotV_ev, ev_ife, kIfE_ev, ev_ch, kCh, tup_ev, lst_ev, call_ev, kw_ev, ev_kw, ev_fn, startE_0, startE_s, startE_c, fin_rt, fin_nx, fin_ex, fin_ite, ix_t0, ix_t1, ix_t2, ix_t3, ix_l0, ix_l1, ix_l2, len_l, len_t1, len_t2, len_t3, len_t4, beq_self_eq_true, ev_iL, ev_iT, asL_ev, asT_ev, ev_iA, ev_P, toI_ev, ev_P0, ev_sl, kSl_ev, put_1, gAdd_i, gSub_i, gMul_i, gDiv_p, gMod_p, gPow_l, gShl_l, gShr_l, gLt_i, gLe_i, gGt_i, gGe_i, gEq_i, gNe_i, gNeg_i, gAbs_i, gInt_i, gInt_b, gEq_s, gNe_s, gEq_b, gNe_b, gEq_2, gNe_2, gEq_3, gNe_3, gEq_22, gNe_22, DL.R.bind_ok, DL.R.bind_ex, ev_setL, kSetL_ev, ev_lDisp, kDisp_ev, ev_lList, lOf_l, lOf_t, ev_frz, frz_l, frz_d, frz_n, ev_lend, lend_l, lend_d, atom_i, atom_b, atom_s, ev_lendB, lendB_l, lendB_d, ev_app, app_l, kApp_ev, ev_put, put_l, ev_ixO, ixO_l, ixO_d, put_m, putAll_c, putAll_n, ev_lc, kLst_ev, ev_lcL, wipe_n, wipe_c, r1_2, r1_3, bits_ev, List.getElem?_cons_zero, List.getElem?_cons_succ, List.set_cons_zero, List.set_cons_succ, List.length_cons, List.length_nil, List.length_map, List.append_nil, List.cons_append, List.nil_append, ev_if, turn_nx, turn_ct, turn_bk, turn_rt, turn_ite, kWh_ev, isi_int_int, isi_bool_int, isi_int_bool, isi_bool_bool, isi_int_str, isi_int_none, isi_int_list, isi_int_tup, isi_bool_str, isi_bool_none, isi_bool_list, isi_bool_tup, isi_tup_tup, isi_tup_int, isi_tup_bool, isi_tup_str, isi_tup_none, isi_tup_list, isi_list_list, isi_list_tup, isi_list_int, isi_list_bool, isi_list_str, isi_list_none, isi_str_str, isi_str_int, isi_str_bool, isi_str_none, isi_str_list, isi_str_tup, decide_true, decide_false, not_true_eq_false, not_false_eq_true, ne_eq, decide_eq_true_eq, Bool.not_eq_true', decide_eq_false_iff_not, Bool.not_true, Bool.not_false, Bool.false_eq_true, if_true, if_false, reduceIte, e1]
  · rw [if_neg h]
    have a1 := gAdd_st (a := Ti p) (b := [47]) (by simp; omega)
    have a2 := gAdd_st (a := Ti p ++ [47]) (b := Ti q) (by simp; omega)
    simp +decide only [m_shown_fraction, den_shown_fraction, ev_seq, seq_nx, seq_rt, seq_ex, seq_bk, seq_ct, seq_ite, fl_ok, fl_ex, fl_ite, ev_set, kSet_ev, ev_ret, ev_retN, ev_nx, ev_bk, ev_ct, ev_raise, ev_if, kIf_ev, ev_drop, kNx_ev, ev_par, kPar_ev, kId_ev, ev_asg, kAsg_ev, ev_for, kFor_ev, ev_V, dVg_ok, ev_C, ev_1, ev_2, bind2_ok, bind2_ite1, bind2_ite2, bind_ite, ev_A, ev_nil, ev_cons, kCons_ev, ev_T, toB_ev, ev_and, ev_or, ev_not, kAnd_ev, kOr_ev, kNot_ev, ev_andV, ev_orV, ev_notV, kAndV_ev, kOrV_ev, kNotV_ev, ev_ife, kIfE_ev, ev_ch, kCh, tup_ev, lst_ev, call_ev, kw_ev, ev_kw, ev_fn, startE_0, startE_s, startE_c, fin_rt, fin_nx, fin_ex, fin_ite, ix_t0, ix_t1, ix_t2, ix_t3, ix_l0, ix_l1, ix_l2, len_l, len_t1, len_t2, len_t3, len_t4, beq_self_eq_true, ev_iL, ev_iT, asL_ev, asT_ev, ev_iA, ev_P, toI_ev, ev_P0, ev_sl, kSl_ev, put_1, gAdd_i, gSub_i, gMul_i, gDiv_p, gMod_p, gPow_l, gShl_l, gShr_l, gLt_i, gLe_i, gGt_i, gGe_i, gEq_i, gNe_i, gNeg_i, gAbs_i, gInt_i, gInt_b, gEq_s, gNe_s, gEq_b, gNe_b, gEq_2, gNe_2, gEq_3, gNe_3, gEq_22, gNe_22, DL.R.bind_ok, DL.R.bind_ex, ev_setL, kSetL_ev, ev_lDisp, kDisp_ev, ev_lList, lOf_l, lOf_t, ev_frz, frz_l, frz_d, frz_n, ev_lend, lend_l, lend_d, atom_i, atom_b, atom_s, ev_lendB, lendB_l, lendB_d, ev_app, app_l, kApp_ev, ev_put, put_l, ev_ixO, ixO_l, ixO_d, put_m, putAll_c, putAll_n, ev_lc, kLst_ev, ev_lcL, wipe_n, wipe_c, r1_2, r1_3, bits_ev, List.getElem?_cons_zero, List.getElem?_cons_succ, List.set_cons_zero, List.set_cons_succ, List.length_cons, List.length_nil, List.length_map, List.append_nil, List.cons_append, List.nil_append, ev_if, turn_nx, turn_ct, turn_bk, turn_rt, turn_ite, kWh_ev, isi_int_int, isi_bool_int, isi_int_bool, isi_bool_bool, isi_int_str, isi_int_none, isi_int_list, isi_int_tup, isi_bool_str, isi_bool_none, isi_bool_list, isi_bool_tup, isi_tup_tup, isi_tup_int, isi_tup_bool, isi_tup_str, isi_tup_none, isi_tup_list, isi_list_list, isi_list_tup, isi_list_int, isi_list_bool, isi_list_str, isi_list_none, isi_str_str, isi_str_int, isi_str_bool, isi_str_none, isi_str_list, isi_str_tup, decide_true, decide_false, not_true_eq_false, not_false_eq_true, ne_eq, decide_eq_true_eq, Bool.not_eq_true', decide_eq_false_iff_not, Bool.not_true, Bool.not_false, Bool.false_eq_true, if_true, if_false, reduceIte, e1, e2, h, st_slash, a1, a2]
theorem k21_turn (s0 : PD) (k : Nat) (hk : ∃ ns : List Int, s0 = .list (ns.map PyData.int) ∧ k < ns.length) (hk2 : k < 84) (x2 x3 x4 x5 : Option SV) : Keeps [some (.d s0)] 5 (lb1_law_k21 [some (.d s0), some (.d (.int (k : Int))), x2, x3, x4, x5]) := by
  obtain ⟨ns, rfl, hk⟩ := hk
  have bk : Bd (k : Int) 40 := ⟨by have : (2 : Nat) ^ 40 = 1099511627776 := by decide
                                   omega⟩
  have ex := ix_ints (zs := ns) (k := (k : Int)) (by omega) (by omega)
  obtain ⟨z, ez, z0, bz⟩ := law_mixed_ok (ns.getD ((k : Int).toNat) 0) (k : Int)
  obtain ⟨p, q, ef, hl, hp, hq, _⟩ := law_fraction_v2_ok z z0 true
  have hq0 := hl.1
  have es := shown_fraction_eq p q hp hq
  have hbig : (10 : Nat) ^ 33 ≤ 10 ^ 900 := Nat.pow_le_pow_right (by decide) (by decide)
  have d1 := law_digits_v2_eq p.natAbs (by omega)
  have d2 := law_digits_v2_eq q.natAbs (by omega)
  have hqq : (q.natAbs : Int) = q := by omega
  rw [hqq] at d2
  have tq : Ti q = Tn q.natAbs := by
    unfold Ti
    rw [if_neg (by omega)]
    rfl
  have l1 := Tn_len 32 p.natAbs hp
  have l2 := Ti_len hq
  have a2 := gAdd_st (a := Ti p) (b := [47]) (by have := Ti_len hp; simp; omega)
  have a3 := gAdd_st (a := Ti p ++ [47]) (b := Tn q.natAbs) (by have := Ti_len hp; rw [← tq]; simp; omega)
  unfold Tf at es
  rw [tq] at es
  by_cases c : p < 0
  · have tp : Ti p = [45] ++ Tn p.natAbs := by unfold Ti; rw [if_pos c]
    have a1 := gAdd_st (a := [45]) (b := Tn p.natAbs) (by simp; omega)
    rw [← tp] at a1
    by_cases h : q = 1
    · subst h
      rw [if_pos rfl] at es
      refine ⟨[some (.d (.int (k : Int))), some (.d (.int p)), some (.d (.int 1)), some (.d (.str (St (Ti p)))), some (.d (.str (St (Ti p))))], rfl, ?_⟩
      simp +decide only [lb1_law_k21, ev_seq, seq_nx, seq_rt, seq_ex, seq_bk, seq_ct, seq_ite, fl_ok, fl_ex, fl_ite, ev_set, kSet_ev, ev_ret, ev_retN, ev_nx, ev_bk, ev_ct, ev_raise, ev_if, kIf_ev, ev_drop, kNx_ev, ev_par, kPar_ev, kId_ev, ev_asg, kAsg_ev, ev_for, kFor_ev, ev_V, dVg_ok, ev_C, ev_1, ev_2, bind2_ok, bind2_ite1, bind2_ite2, bind_ite, ev_A, ev_nil, ev_cons, kCons_ev, ev_T, toB_ev, ev_and, ev_or, ev_not, kAnd_ev, kOr_ev, kNot_ev, ev_andV, ev_orV, ev_notV, kAndV_ev, kOrV_ev, kNotV_ev, ev_ife, kIfE_ev, ev_ch, kCh, tup_ev, lst_ev, call_ev, kw_ev, ev_kw, ev_fn, startE_0, startE_s, startE_c, fin_rt, fin_nx, fin_ex, fin_ite, ix_t0, ix_t1, ix_t2, ix_t3, ix_l0, ix_l1, ix_l2, len_l, len_t1, len_t2, len_t3, len_t4, beq_self_eq_true, ev_iL, ev_iT, asL_ev, asT_ev, ev_iA, ev_P, toI_ev, ev_P0, ev_sl, kSl_ev, put_1, gAdd_i, gSub_i, gMul_i, gDiv_p, gMod_p, gPow_l, gShl_l, gShr_l, gLt_i, gLe_i, gGt_i, gGe_i, gEq_i, gNe_i, gNeg_i, gAbs_i, gInt_i, gInt_b, gEq_s, gNe_s, gEq_b, gNe_b, gEq_2, gNe_2, gEq_3, gNe_3, gEq_22, gNe_22, DL.R.bind_ok, DL.R.bind_ex, ev_setL, kSetL_ev, ev_lDisp, kDisp_ev, ev_lList, lOf_l, lOf_t, ev_frz, frz_l, frz_d, frz_n, ev_lend, lend_l, lend_d, atom_i, atom_b, atom_s, ev_lendB, lendB_l, lendB_d, ev_app, app_l, kApp_ev, ev_put, put_l, ev_ixO, ixO_l, ixO_d, put_m, putAll_c, putAll_n, ev_lc, kLst_ev, ev_lcL, wipe_n, wipe_c, r1_2, r1_3, bits_ev, List.getElem?_cons_zero, List.getElem?_cons_succ, List.set_cons_zero, List.set_cons_succ, List.length_cons, List.length_nil, List.length_map, List.append_nil, List.cons_append, List.nil_append, ev_if, turn_nx, turn_ct, turn_bk, turn_rt, turn_ite, kWh_ev, isi_int_int, isi_bool_int, isi_int_bool, isi_bool_bool, isi_int_str, isi_int_none, isi_int_list, isi_int_tup, isi_bool_str, isi_bool_none, isi_bool_list, isi_bool_tup, isi_tup_tup, isi_tup_int, isi_tup_bool, isi_tup_str, isi_tup_none, isi_tup_list, isi_list_list, isi_list_tup, isi_list_int, isi_list_bool, isi_list_str, isi_list_none, isi_str_str, isi_str_int, isi_str_bool, isi_str_none, isi_str_list, isi_str_tup, decide_true, decide_false, not_true_eq_false, not_false_eq_true, ne_eq, decide_eq_true_eq, Bool.not_eq_true', decide_eq_false_iff_not, Bool.not_true, Bool.not_false, Bool.false_eq_true, if_true, if_false, reduceIte, ex, ez, ef, c, d1, st_nil, st_minus, a1, es]
    · rw [if_neg h] at es
      have h1 : 1 < q := by omega
      refine ⟨[some (.d (.int (k : Int))), some (.d (.int p)), some (.d (.int q)), some (.d (.str (St (Ti p ++ [47] ++ Tn q.natAbs)))), some (.d (.str (St (Ti p ++ [47] ++ Tn q.natAbs))))], rfl, ?_⟩
      simp +decide only [lb1_law_k21, ev_seq, seq_nx, seq_rt, seq_ex, seq_bk, seq_ct, seq_ite, fl_ok, fl_ex, fl_ite, ev_set, kSet_ev, ev_ret, ev_retN, ev_nx, ev_bk, ev_ct, ev_raise, ev_if, kIf_ev, ev_drop, kNx_ev, ev_par, kPar_ev, kId_ev, ev_asg, kAsg_ev, ev_for, kFor_ev, ev_V, dVg_ok, ev_C, ev_1, ev_2, bind2_ok, bind2_ite1, bind2_ite2, bind_ite, ev_A, ev_nil, ev_cons, kCons_ev, ev_T, toB_ev, ev_and, ev_or, ev_not, kAnd_ev, kOr_ev, kNot_ev, ev_andV, ev_orV, ev_notV, kAndV_ev, kOrV_ev, kNotV_ev, ev_ife, kIfE_ev, ev_ch, kCh, tup_ev, lst_ev, call_ev, kw_ev, ev_kw, ev_fn, startE_0, startE_s, startE_c, fin_rt, fin_nx, fin_ex, fin_ite, ix_t0, ix_t1, ix_t2, ix_t3, ix_l0, ix_l1, ix_l2, len_l, len_t1, len_t2, len_t3, len_t4, beq_self_eq_true, ev_iL, ev_iT, asL_ev, asT_ev, ev_iA, ev_P, toI_ev, ev_P0, ev_sl, kSl_ev, put_1, gAdd_i, gSub_i, gMul_i, gDiv_p, gMod_p, gPow_l, gShl_l, gShr_l, gLt_i, gLe_i, gGt_i, gGe_i, gEq_i, gNe_i, gNeg_i, gAbs_i, gInt_i, gInt_b, gEq_s, gNe_s, gEq_b, gNe_b, gEq_2, gNe_2, gEq_3, gNe_3, gEq_22, gNe_22, DL.R.bind_ok, DL.R.bind_ex, ev_setL, kSetL_ev, ev_lDisp, kDisp_ev, ev_lList, lOf_l, lOf_t, ev_frz, frz_l, frz_d, frz_n, ev_lend, lend_l, lend_d, atom_i, atom_b, atom_s, ev_lendB, lendB_l, lendB_d, ev_app, app_l, kApp_ev, ev_put, put_l, ev_ixO, ixO_l, ixO_d, put_m, putAll_c, putAll_n, ev_lc, kLst_ev, ev_lcL, wipe_n, wipe_c, r1_2, r1_3, bits_ev, List.getElem?_cons_zero, List.getElem?_cons_succ, List.set_cons_zero, List.set_cons_succ, List.length_cons, List.length_nil, List.length_map, List.append_nil, List.cons_append, List.nil_append, ev_if, turn_nx, turn_ct, turn_bk, turn_rt, turn_ite, kWh_ev, isi_int_int, isi_bool_int, isi_int_bool, isi_bool_bool, isi_int_str, isi_int_none, isi_int_list, isi_int_tup, isi_bool_str, isi_bool_none, isi_bool_list, isi_bool_tup, isi_tup_tup, isi_tup_int, isi_tup_bool, isi_tup_str, isi_tup_none, isi_tup_list, isi_list_list, isi_list_tup, isi_list_int, isi_list_bool, isi_list_str, isi_list_none, isi_str_str, isi_str_int, isi_str_bool, isi_str_none, isi_str_list, isi_str_tup, decide_true, decide_false, not_true_eq_false, not_false_eq_true, ne_eq, decide_eq_true_eq, Bool.not_eq_true', decide_eq_false_iff_not, Bool.not_true, Bool.not_false, Bool.false_eq_true, if_true, if_false, reduceIte, ex, ez, ef, c, d1, d2, st_nil, st_minus, st_slash, a1, a2, a3, h1, es]
  · have tp : Ti p = [] ++ Tn p.natAbs := by unfold Ti; rw [if_neg c]
    have a1 := gAdd_st (a := []) (b := Tn p.natAbs) (by simp; omega)
    rw [← tp] at a1
    by_cases h : q = 1
    · subst h
      rw [if_pos rfl] at es
      refine ⟨[some (.d (.int (k : Int))), some (.d (.int p)), some (.d (.int 1)), some (.d (.str (St (Ti p)))), some (.d (.str (St (Ti p))))], rfl, ?_⟩
      simp +decide only [lb1_law_k21, ev_seq, seq_nx, seq_rt, seq_ex, seq_bk, seq_ct, seq_ite, fl_ok, fl_ex, fl_ite, ev_set, kSet_ev, ev_ret, ev_retN, ev_nx, ev_bk, ev_ct, ev_raise, ev_if, kIf_ev, ev_drop, kNx_ev, ev_par, kPar_ev, kId_ev, ev_asg, kAsg_ev, ev_for, kFor_ev, ev_V, dVg_ok, ev_C, ev_1, ev_2, bind2_ok, bind2_ite1, bind2_ite2, bind_ite, ev_A, ev_nil, ev_cons, kCons_ev, ev_T, toB_ev, ev_and, ev_or, ev_not, kAnd_ev, kOr_ev, kNot_ev, ev_andV, ev_orV, ev_notV, kAndV_ev, kOrV_ev, kNotV_ev, ev_ife, kIfE_ev, ev_ch, kCh, tup_ev, lst_ev, call_ev, kw_ev, ev_kw, ev_fn, startE_0, startE_s, startE_c, fin_rt, fin_nx, fin_ex, fin_ite, ix_t0, ix_t1, ix_t2, ix_t3, ix_l0, ix_l1, ix_l2, len_l, len_t1, len_t2, len_t3, len_t4, beq_self_eq_true, ev_iL, ev_iT, asL_ev, asT_ev, ev_iA, ev_P, toI_ev, ev_P0, ev_sl, kSl_ev, put_1, gAdd_i, gSub_i, gMul_i, gDiv_p, gMod_p, gPow_l, gShl_l, gShr_l, gLt_i, gLe_i, gGt_i, gGe_i, gEq_i, gNe_i, gNeg_i, gAbs_i, gInt_i, gInt_b, gEq_s, gNe_s, gEq_b, gNe_b, gEq_2, gNe_2, gEq_3, gNe_3, gEq_22, gNe_22, DL.R.bind_ok, DL.R.bind_ex, ev_setL, kSetL_ev, ev_lDisp, kDisp_ev, ev_lList, lOf_l, lOf_t, ev_frz, frz_l, frz_d, frz_n, ev_lend, lend_l, lend_d, atom_i, atom_b, atom_s, ev_lendB, lendB_l, lendB_d, ev_app, app_l, kApp_ev, ev_put, put_l, ev_ixO, ixO_l, ixO_d, put_m, putAll_c, putAll_n, ev_lc, kLst_ev, ev_lcL, wipe_n, wipe_c, r1_2, r1_3, bits_ev, List.getElem?_cons_zero, List.getElem?_cons_succ, List.set_cons_zero, List.set_cons_succ, List.length_cons, List.length_nil, List.length_map, List.append_nil, List.cons_append, List.nil_append, ev_if, turn_nx, turn_ct, turn_bk, turn_rt, turn_ite, kWh_ev, isi_int_int, isi_bool_int, isi_int_bool, isi_bool_bool, isi_int_str, isi_int_none, isi_int_list, isi_int_tup, isi_bool_str, isi_bool_none, isi_bool_list, isi_bool_tup, isi_tup_tup, isi_tup_int, isi_tup_bool, isi_tup_str, isi_tup_none, isi_tup_list, isi_list_list, isi_list_tup, isi_list_int, isi_list_bool, isi_list_str, isi_list_none, isi_str_str, isi_str_int, isi_str_bool, isi_str_none, isi_str_list, isi_str_tup, decide_true, decide_false, not_true_eq_false, not_false_eq_true, ne_eq, decide_eq_true_eq, Bool.not_eq_true', decide_eq_false_iff_not, Bool.not_true, Bool.not_false, Bool.false_eq_true, if_true, if_false, reduceIte, ex, ez, ef, c, d1, st_nil, st_minus, a1, es]
    · rw [if_neg h] at es
      have h1 : 1 < q := by omega
      refine ⟨[some (.d (.int (k : Int))), some (.d (.int p)), some (.d (.int q)), some (.d (.str (St (Ti p ++ [47] ++ Tn q.natAbs)))), some (.d (.str (St (Ti p ++ [47] ++ Tn q.natAbs))))], rfl, ?_⟩
      simp +decide only [lb1_law_k21, ev_seq, seq_nx, seq_rt, seq_ex, seq_bk, seq_ct, seq_ite, fl_ok, fl_ex, fl_ite, ev_set, kSet_ev, ev_ret, ev_retN, ev_nx, ev_bk, ev_ct, ev_raise, ev_if, kIf_ev, ev_drop, kNx_ev, ev_par, kPar_ev, kId_ev, ev_asg, kAsg_ev, ev_for, kFor_ev, ev_V, dVg_ok, ev_C, ev_1, ev_2, bind2_ok, bind2_ite1, bind2_ite2, bind_ite, ev_A, ev_nil, ev_cons, kCons_ev, ev_T, toB_ev, ev_and, ev_or, ev_not, kAnd_ev, kOr_ev, kNot_ev, ev_andV, ev_orV, ev_notV, kAndV_ev, kOrV_ev, kNotV_ev, ev_ife, kIfE_ev, ev_ch, kCh, tup_ev, lst_ev, call_ev, kw_ev, ev_kw, ev_fn, startE_0, startE_s, startE_c, fin_rt, fin_nx, fin_ex, fin_ite, ix_t0, ix_t1, ix_t2, ix_t3, ix_l0, ix_l1, ix_l2, len_l, len_t1, len_t2, len_t3, len_t4, beq_self_eq_true, ev_iL, ev_iT, asL_ev, asT_ev, ev_iA, ev_P, toI_ev, ev_P0, ev_sl, kSl_ev, put_1, gAdd_i, gSub_i, gMul_i, gDiv_p, gMod_p, gPow_l, gShl_l, gShr_l, gLt_i, gLe_i, gGt_i, gGe_i, gEq_i, gNe_i, gNeg_i, gAbs_i, gInt_i, gInt_b, gEq_s, gNe_s, gEq_b, gNe_b, gEq_2, gNe_2, gEq_3, gNe_3, gEq_22, gNe_22, DL.R.bind_ok, DL.R.bind_ex, ev_setL, kSetL_ev, ev_lDisp, kDisp_ev, ev_lList, lOf_l, lOf_t, ev_frz, frz_l, frz_d, frz_n, ev_lend, lend_l, lend_d, atom_i, atom_b, atom_s, ev_lendB, lendB_l, lendB_d, ev_app, app_l, kApp_ev, ev_put, put_l, ev_ixO, ixO_l, ixO_d, put_m, putAll_c, putAll_n, ev_lc, kLst_ev, ev_lcL, wipe_n, wipe_c, r1_2, r1_3, bits_ev, List.getElem?_cons_zero, List.getElem?_cons_succ, List.set_cons_zero, List.set_cons_succ, List.length_cons, List.length_nil, List.length_map, List.append_nil, List.cons_append, List.nil_append, ev_if, turn_nx, turn_ct, turn_bk, turn_rt, turn_ite, kWh_ev, isi_int_int, isi_bool_int, isi_int_bool, isi_bool_bool, isi_int_str, isi_int_none, isi_int_list, isi_int_tup, isi_bool_str, isi_bool_none, isi_bool_list, isi_bool_tup, isi_tup_tup, isi_tup_int, isi_tup_bool, isi_tup_str, isi_tup_none, isi_tup_list, isi_list_list, isi_list_tup, isi_list_int, isi_list_bool, isi_list_str, isi_list_none, isi_str_str, isi_str_int, isi_str_bool, isi_str_none, isi_str_list, isi_str_tup, decide_true, decide_false, not_true_eq_false, not_false_eq_true, ne_eq, decide_eq_true_eq, Bool.not_eq_true', decide_eq_false_iff_not, Bool.not_true, Bool.not_false, Bool.false_eq_true, if_true, if_false, reduceIte, ex, ez, ef, c, d1, d2, st_nil, st_minus, st_slash, a1, a2, a3, h1, es]
theorem r1_z (z : Int) (h0 : -4611686018427387904 ≤ z) (h1 : z < 4611686018427387904) : gR1 [.int z] = .ok (rng 0 z.toNat) := by
  unfold gR1
  have c : -(2 ^ 62) ≤ z ∧ z < 2 ^ 62 := ⟨by omega, by omega⟩
  exact if_pos c
theorem r1_n (n : Nat) (h : n < 1000) : gR1 [.int (n : Int)] = .ok (rng 0 n) := by
  have e := r1_z (n : Int) (by omega) (by omega)
  rw [Int.toNat_natCast] at e
  exact e
theorem k21_q : m_shown_fraction [.tuple [.int 0, .int 1]] = .ok (.str (St (Tf 0 1))) ∧ m_shown_fraction [.tuple [.int (-1), .int 2]] = .ok (.str (St (Tf (-1) 2))) := by
  have h33 : (10 : Nat) ^ 33 = 1000000000000000000000000000000000 := by decide
  have q1 := shown_fraction_eq 0 1 (by omega) (by omega)
  have q2 := shown_fraction_eq (-1) 2 (by omega) (by omega)
  exact ⟨q1, q2⟩
theorem k21_w1 : ("0" : Str) = St (Tf 0 1) := by
  have t : Tf 0 1 = [48] := by
    unfold Tf Ti
    rw [if_pos rfl, if_neg (by decide)]
    exact Tn_small (n := 0) (by decide)
  rw [t]
  decide
theorem k21_w2 : ("-1/2" : Str) = St (Tf (-1) 2) := by
  have t : Tf (-1) 2 = [45, 49, 47, 50] := by
    unfold Tf Ti
    rw [if_neg (by decide), if_pos (by decide), if_neg (by decide)]
    have t1 : Tn (-1 : Int).natAbs = [49] := Tn_small (n := 1) (by decide)
    have t2 : Tn (2 : Int).natAbs = [50] := Tn_small (n := 2) (by decide)
    rw [t1, t2]
    rfl
  rw [t]
  decide
theorem k21_it (ns : List Int) (L : Int) (ρ : En) (hln : gLen [.list (ns.map PyData.int)] = .ok (.int L)) (hm : gMin [.int L, .int 84] = .ok (.int L)) (hr : gR1 [.int L] = .ok (rng 0 ns.length)) : (iA gR1 (dCons (dA gMin (dCons (dA gLen (dCons (dV 0) (dNil))) (dCons (dC (.int 84)) (dNil)))) (dNil))) (some (.d (.list (ns.map PyData.int))) :: ρ) = .ok (rng 0 ns.length) := by
  simp +decide only [ev_seq, seq_nx, seq_rt, seq_ex, seq_bk, seq_ct, seq_ite, fl_ok, fl_ex, fl_ite, ev_set, kSet_ev, ev_ret, ev_retN, ev_nx, ev_bk, ev_ct, ev_raise, ev_if, kIf_ev, ev_drop, kNx_ev, ev_par, kPar_ev, kId_ev, ev_asg, kAsg_ev, ev_for, kFor_ev, ev_V, dVg_ok, ev_C, ev_1, ev_2, bind2_ok, bind2_ite1, bind2_ite2, bind_ite, ev_A, ev_nil, ev_cons, kCons_ev, ev_T, toB_ev, ev_and, ev_or, ev_not, kAnd_ev, kOr_ev, kNot_ev, ev_andV, ev_orV, ev_notV, kAndV_ev, kOrV_ev, kNotV_ev, ev_ife, kIfE_ev, ev_ch, kCh, tup_ev, lst_ev, call_ev, kw_ev, ev_kw, ev_fn, startE_0, startE_s, startE_c, fin_rt, fin_nx, fin_ex, fin_ite, ix_t0, ix_t1, ix_t2, ix_t3, ix_l0, ix_l1, ix_l2, len_l, len_t1, len_t2, len_t3, len_t4, beq_self_eq_true, ev_iL, ev_iT, asL_ev, asT_ev, ev_iA, ev_P, toI_ev, ev_P0, ev_sl, kSl_ev, put_1, gAdd_i, gSub_i, gMul_i, gDiv_p, gMod_p, gPow_l, gShl_l, gShr_l, gLt_i, gLe_i, gGt_i, gGe_i, gEq_i, gNe_i, gNeg_i, gAbs_i, gInt_i, gInt_b, gEq_s, gNe_s, gEq_b, gNe_b, gEq_2, gNe_2, gEq_3, gNe_3, gEq_22, gNe_22, DL.R.bind_ok, DL.R.bind_ex, ev_setL, kSetL_ev, ev_lDisp, kDisp_ev, ev_lList, lOf_l, lOf_t, ev_frz, frz_l, frz_d, frz_n, ev_lend, lend_l, lend_d, atom_i, atom_b, atom_s, ev_lendB, lendB_l, lendB_d, ev_app, app_l, kApp_ev, ev_put, put_l, ev_ixO, ixO_l, ixO_d, put_m, putAll_c, putAll_n, ev_lc, kLst_ev, ev_lcL, wipe_n, wipe_c, r1_2, r1_3, bits_ev, List.getElem?_cons_zero, List.getElem?_cons_succ, List.set_cons_zero, List.set_cons_succ, List.length_cons, List.length_nil, List.length_map, List.append_nil, List.cons_append, List.nil_append, ev_if, turn_nx, turn_ct, turn_bk, turn_rt, turn_ite, kWh_ev, isi_int_int, isi_bool_int, isi_int_bool, isi_bool_bool, isi_int_str, isi_int_none, isi_int_list, isi_int_tup, isi_bool_str, isi_bool_none, isi_bool_list, isi_bool_tup, isi_tup_tup, isi_tup_int, isi_tup_bool, isi_tup_str, isi_tup_none, isi_tup_list, isi_list_list, isi_list_tup, isi_list_int, isi_list_bool, isi_list_str, isi_list_none, isi_str_str, isi_str_int, isi_str_bool, isi_str_none, isi_str_list, isi_str_tup, decide_true, decide_false, not_true_eq_false, not_false_eq_true, ne_eq, decide_eq_true_eq, Bool.not_eq_true', decide_eq_false_iff_not, Bool.not_true, Bool.not_false, Bool.false_eq_true, if_true, if_false, reduceIte, hln, hm, hr]
theorem law_k21_true (ns : List Int) (hl : ns.length ≤ 63) (hb : ∀ z ∈ ns, PySem.Builtin.Int.intBits z ≤ 1048576) : DL.m_law_k21 [.list (ns.map PySem.PyData.int)] = .ok (.bool true) := by
  have hln : gLen [.list (ns.map PyData.int)] = .ok (.int (ns.length : Int)) := by rw [len_l, List.length_map]
  have hm : gMin [.int (ns.length : Int), .int 84] = .ok (.int (ns.length : Int)) := by
    show R.ok (PyData.int (if (84 : Int) < (ns.length : Int) then 84 else (ns.length : Int))) = _
    rw [if_neg (by omega)]
  have hr := r1_n ns.length (by omega)
  generalize (ns.length : Int) = L at hln hm hr
  have K := for_keep (g := lb1_law_k21) (pre := [some (.d (.list (ns.map PyData.int)))]) (n := 5) (i := 1) (Nat.le_refl 1) (rng 0 ns.length) [none, none, none, none, none] rfl (by
    intro d hd ys hy
    unfold rng at hd
    obtain ⟨i, hi, rfl⟩ := List.mem_map.mp hd
    have hi' := List.mem_range.mp hi
    have ei : (0 : Int) + (i : Nat) = (i : Int) := by omega
    rw [ei]
    match ys, hy with
    | [x1, x2, x3, x4, x5], _ => exact k21_turn _ i ⟨ns, rfl, hi'⟩ (by omega) x2 x3 x4 x5)
  obtain ⟨ys, hy, e⟩ := K
  simp only [List.cons_append, List.nil_append] at e
  have ⟨q1, q2⟩ := k21_q
  rw [← k21_w1] at q1
  rw [← k21_w2] at q2
  have hi := k21_it ns L [none, none, none, none, none] hln hm hr
  have hf : sFor (iA gR1 (dCons (dA gMin (dCons (dA gLen (dCons (dV 0) (dNil))) (dCons (dC (.int 84)) (dNil)))) (dNil))) (.one 1) lb1_law_k21 [some (.d (.list (ns.map PyData.int))), none, none, none, none, none] = .nx (some (.d (.list (ns.map PyData.int))) :: ys) := by
    rw [ev_for, hi]
    exact e
  have ht : (sRet (dAndV (d2 gEq (dA (gCall 1 [] m_shown_fraction) (dCons (dA gTupD (dCons (dC (.int 0)) (dCons (dC (.int 1)) (dNil)))) (dNil))) (dC (.str "0"))) (d2 gEq (dA (gCall 1 [] m_shown_fraction) (dCons (dA gTupD (dCons (d1 gNeg (dC (.int 1))) (dCons (dC (.int 2)) (dNil)))) (dNil))) (dC (.str "-1/2"))))) (some (.d (.list (ns.map PyData.int))) :: ys) = .rt (.bool true) := by
    simp +decide only [ev_seq, seq_nx, seq_rt, seq_ex, seq_bk, seq_ct, seq_ite, fl_ok, fl_ex, fl_ite, ev_set, kSet_ev, ev_ret, ev_retN, ev_nx, ev_bk, ev_ct, ev_raise, ev_if, kIf_ev, ev_drop, kNx_ev, ev_par, kPar_ev, kId_ev, ev_asg, kAsg_ev, ev_for, kFor_ev, ev_V, dVg_ok, ev_C, ev_1, ev_2, bind2_ok, bind2_ite1, bind2_ite2, bind_ite, ev_A, ev_nil, ev_cons, kCons_ev, ev_T, toB_ev, ev_and, ev_or, ev_not, kAnd_ev, kOr_ev, kNot_ev, ev_andV, ev_orV, ev_notV, kAndV_ev, kOrV_ev, kNotV_ev, ev_ife, kIfE_ev, ev_ch, kCh, tup_ev, lst_ev, call_ev, kw_ev, ev_kw, ev_fn, startE_0, startE_s, startE_c, fin_rt, fin_nx, fin_ex, fin_ite, ix_t0, ix_t1, ix_t2, ix_t3, ix_l0, ix_l1, ix_l2, len_l, len_t1, len_t2, len_t3, len_t4, beq_self_eq_true, ev_iL, ev_iT, asL_ev, asT_ev, ev_iA, ev_P, toI_ev, ev_P0, ev_sl, kSl_ev, put_1, gAdd_i, gSub_i, gMul_i, gDiv_p, gMod_p, gPow_l, gShl_l, gShr_l, gLt_i, gLe_i, gGt_i, gGe_i, gEq_i, gNe_i, gNeg_i, gAbs_i, gInt_i, gInt_b, gEq_s, gNe_s, gEq_b, gNe_b, gEq_2, gNe_2, gEq_3, gNe_3, gEq_22, gNe_22, DL.R.bind_ok, DL.R.bind_ex, ev_setL, kSetL_ev, ev_lDisp, kDisp_ev, ev_lList, lOf_l, lOf_t, ev_frz, frz_l, frz_d, frz_n, ev_lend, lend_l, lend_d, atom_i, atom_b, atom_s, ev_lendB, lendB_l, lendB_d, ev_app, app_l, kApp_ev, ev_put, put_l, ev_ixO, ixO_l, ixO_d, put_m, putAll_c, putAll_n, ev_lc, kLst_ev, ev_lcL, wipe_n, wipe_c, r1_2, r1_3, bits_ev, List.getElem?_cons_zero, List.getElem?_cons_succ, List.set_cons_zero, List.set_cons_succ, List.length_cons, List.length_nil, List.length_map, List.append_nil, List.cons_append, List.nil_append, ev_if, turn_nx, turn_ct, turn_bk, turn_rt, turn_ite, kWh_ev, isi_int_int, isi_bool_int, isi_int_bool, isi_bool_bool, isi_int_str, isi_int_none, isi_int_list, isi_int_tup, isi_bool_str, isi_bool_none, isi_bool_list, isi_bool_tup, isi_tup_tup, isi_tup_int, isi_tup_bool, isi_tup_str, isi_tup_none, isi_tup_list, isi_list_list, isi_list_tup, isi_list_int, isi_list_bool, isi_list_str, isi_list_none, isi_str_str, isi_str_int, isi_str_bool, isi_str_none, isi_str_list, isi_str_tup, decide_true, decide_false, not_true_eq_false, not_false_eq_true, ne_eq, decide_eq_true_eq, Bool.not_eq_true', decide_eq_false_iff_not, Bool.not_true, Bool.not_false, Bool.false_eq_true, if_true, if_false, reduceIte, q1, q2]
  have hd : den_law_k21 [some (.d (.list (ns.map PyData.int))), none, none, none, none, none] = .rt (.bool true) := by
    unfold den_law_k21
    rw [ev_seq, hf]
    exact ht
  have h1 : [PyData.list (ns.map PyData.int)].length ≤ 6 := by simp
  rw [mm_law_k21, ev_fn h1]
  show (den_law_k21 [some (.d (.list (ns.map PyData.int))), none, none, none, none, none]).fin = _
  rw [hd]
  rfl
end DL

set_option Elab.async false
set_option linter.all false
set_option maxRecDepth 100000
set_option maxHeartbeats 4000000
set_option autoImplicit false
namespace DL
section
open PySem L2
def top (i : Nat) : Stmt := PySem.Challenge.pw_boardglue_k21_fractions_shown.main.body.getD i (.Pass ⟨0, 0, 0, 0⟩)
abbrev s_shown_fraction : Stmt := top 1
theorem sc_shown_fraction : FnScope ["one"] ["one"] (defScope s_shown_fraction) := ⟨rfl, rfl, rfl, by decide +kernel, rfl, by decide +kernel, by decide +kernel⟩
def d_shown_fraction : He.DefD := ⟨("shown_fraction", none), "shown_fraction", "shown_fraction", defArgs s_shown_fraction, defBody s_shown_fraction, defScope s_shown_fraction, [], []⟩
abbrev s_law_mixed : Stmt := top 3
theorem sc_law_mixed : FnScope ["_law_cell", "_law_k"] ["_law_cell", "_law_k"] (defScope s_law_mixed) := ⟨rfl, rfl, rfl, by decide +kernel, rfl, by decide +kernel, by decide +kernel⟩
def d_law_mixed : He.DefD := ⟨("_law_mixed", none), "_law_mixed", "_law_mixed", defArgs s_law_mixed, defBody s_law_mixed, defScope s_law_mixed, [], []⟩
abbrev s_law_divisor : Stmt := top 4
theorem sc_law_divisor : FnScope ["_law_one", "_law_other"] ["_law_one", "_law_other"] (defScope s_law_divisor) := ⟨rfl, rfl, rfl, by decide +kernel, rfl, by decide +kernel, by decide +kernel⟩
def d_law_divisor : He.DefD := ⟨("_law_divisor", none), "_law_divisor", "_law_divisor", defArgs s_law_divisor, defBody s_law_divisor, defScope s_law_divisor, [], []⟩
abbrev s_law_fraction : Stmt := top 5
theorem sc_law_fraction : FnScope ["_law_number", "_law_great", "_law_top", "_law_bottom", "_law_share"] ["_law_number", "_law_great"] (defScope s_law_fraction) := ⟨rfl, rfl, rfl, by decide +kernel, rfl, by decide +kernel, by decide +kernel⟩
def d_law_fraction : He.DefD := ⟨("_law_fraction", none), "_law_fraction", "_law_fraction", defArgs s_law_fraction, defBody s_law_fraction, defScope s_law_fraction, [], []⟩
abbrev s_law_digits : Stmt := top 6
theorem sc_law_digits : FnScope ["_law_number", "_law_text"] ["_law_number"] (defScope s_law_digits) := ⟨rfl, rfl, rfl, by decide +kernel, rfl, by decide +kernel, by decide +kernel⟩
def d_law_digits : He.DefD := ⟨("_law_digits", none), "_law_digits", "_law_digits", defArgs s_law_digits, defBody s_law_digits, defScope s_law_digits, [], []⟩
abbrev s_law : Stmt := top 7
theorem sc_law : FnScope ["_law_script", "_law_k", "_law_top", "_law_bottom", "_law_due", "_law_found"] ["_law_script"] (defScope s_law) := ⟨rfl, rfl, rfl, by decide +kernel, rfl, by decide +kernel, by decide +kernel⟩
def d_law : He.DefD := ⟨("law", none), "law", "law", defArgs s_law, defBody s_law, defScope s_law, [], []⟩
def fn : List He.DefD := [d_shown_fraction, d_law_mixed, d_law_divisor, d_law_fraction, d_law_digits, d_law]
def fa : List He.Fa := [.glo "shown_fraction", .glo "_law_mixed", .glo "_law_divisor", .glo "_law_fraction", .glo "_law_digits", .glo "law", .free "abs", .free "int", .free "isinstance", .free "len", .free "min", .free "range", .free "str"]
def ex (K : PySem.W.Frag) : Bool := true
section
variable {P : Program} {w : World} {K : PySem.W.Frag} {mg : MG} {base : Heap} {h : Heap}
theorem fo_shown_fraction (KX : K.In h) (GN : h.Ns mainGlobals mg) (c : He.SaysX fa fn [] [] ex w h K)  {fd : FuncData} (F : FunD K d_shown_fraction.name d_shown_fraction.qual d_shown_fraction.params d_shown_fraction.body d_shown_fraction.scope (d_shown_fraction.dvs K) (d_shown_fraction.kws K) (He.fAd K d_shown_fraction.at_) fd) : FnOk P w K mg base (L2.CX P w) 1 (He.fAd K d_shown_fraction.at_) fd ["one"] (spD K mg 1 m_shown_fraction) := by
  have b_str : mg "str" = none := He.free_ok KX GN (c.t.d.fact 12 (f := .free "str") rfl)
  have S := sc_shown_fraction
  rw [mm_shown_fraction]
  have Z := okD (P := P) (w := w) (mg := mg) (base := base) (n := 1) (k := 0) (den := den_shown_fraction) F S rfl
  refine Z ?_
  intro cdv A outer s H E hr
  have tk : Takes (cxOf (L2.CX P w) P w K mg base ["one"] "shown_fraction" (defScope s_shown_fraction) (He.fAd K d_shown_fraction.at_) cdv A outer s H E) (fun cls d _ H => E cls d H) := takes_of rfl rfl rfl rfl
  have hp : PassesOwn (model P w) (cxOf (L2.CX P w) P w K mg base ["one"] "shown_fraction" (defScope s_shown_fraction) (He.fAd K d_shown_fraction.at_) cdv A outer s H E).A (cxOf (L2.CX P w) P w K mg base ["one"] "shown_fraction" (defScope s_shown_fraction) (He.fAd K d_shown_fraction.at_) cdv A outer s H E).env (cxOf (L2.CX P w) P w K mg base ["one"] "shown_fraction" (defScope s_shown_fraction) (He.fAd K d_shown_fraction.at_) cdv A outer s H E).xe := passes_of rfl
  exact sd_cons (sd_if (pt_cmpd (od_eq hr.units) noEx_eq (pd_ix (pd_v 0) (pd_int)) (pd_int)) (sd_one (sd_ret (pd_bt cd_str nx_str b_str (by decide +kernel) (pad_cons (pd_ix (pd_v 0) (pd_int)) (pad_nil))))) (sd_nil)) (sd_one (sd_ret (pd_bin od_add noEx_add (pd_bin od_add noEx_add (pd_bt cd_str nx_str b_str (by decide +kernel) (pad_cons (pd_ix (pd_v 0) (pd_int)) (pad_nil))) (pd_str)) (pd_bt cd_str nx_str b_str (by decide +kernel) (pad_cons (pd_ix (pd_v 0) (pd_int)) (pad_nil))))))
theorem ok_shown_fraction (KX : K.In h) (GN : h.Ns mainGlobals mg) (c : He.SaysX fa fn [] [] ex w h K)  : FnAt P w K mg base "shown_fraction" 1 1 [[]] m_shown_fraction := by
  obtain ⟨fd, F⟩ := c.t.d.def_ 0 (d := d_shown_fraction) rfl
  refine ⟨_, fd, ["one"], fo_shown_fraction KX GN c  F, He.glo_ok KX GN (c.t.d.fact 0 (f := .glo "shown_fraction") rfl), F.kp, ?_⟩
  · intro ds hd
    rw [List.mem_singleton] at hd
    subst hd
    exact ⟨[], [], FunD.bindsN F fun _ _ _ _ _ _ us hl => match us, hl with | [_], _ => rfl, .nil, fun _ => .nil⟩
theorem fo_law_mixed (KX : K.In h) (GN : h.Ns mainGlobals mg) (c : He.SaysX fa fn [] [] ex w h K)  {fd : FuncData} (F : FunD K d_law_mixed.name d_law_mixed.qual d_law_mixed.params d_law_mixed.body d_law_mixed.scope (d_law_mixed.dvs K) (d_law_mixed.kws K) (He.fAd K d_law_mixed.at_) fd) : FnOk P w K mg base (L2.CX P w) 1 (He.fAd K d_law_mixed.at_) fd ["_law_cell", "_law_k"] (spD K mg 2 m_law_mixed) := by
  have S := sc_law_mixed
  rw [mm_law_mixed]
  have Z := okD (P := P) (w := w) (mg := mg) (base := base) (n := 2) (k := 0) (den := den_law_mixed) F S rfl
  refine Z ?_
  intro cdv A outer s H E hr
  have tk : Takes (cxOf (L2.CX P w) P w K mg base ["_law_cell", "_law_k"] "_law_mixed" (defScope s_law_mixed) (He.fAd K d_law_mixed.at_) cdv A outer s H E) (fun cls d _ H => E cls d H) := takes_of rfl rfl rfl rfl
  have hp : PassesOwn (model P w) (cxOf (L2.CX P w) P w K mg base ["_law_cell", "_law_k"] "_law_mixed" (defScope s_law_mixed) (He.fAd K d_law_mixed.at_) cdv A outer s H E).A (cxOf (L2.CX P w) P w K mg base ["_law_cell", "_law_k"] "_law_mixed" (defScope s_law_mixed) (He.fAd K d_law_mixed.at_) cdv A outer s H E).env (cxOf (L2.CX P w) P w K mg base ["_law_cell", "_law_k"] "_law_mixed" (defScope s_law_mixed) (He.fAd K d_law_mixed.at_) cdv A outer s H E).xe := passes_of rfl
  exact sd_one (sd_ret (pd_bin od_mod noEx_mod (pd_bin od_mul noEx_mul (pd_bin od_add noEx_add (pd_bin od_mod noEx_mod (pd_v 0) (pd_int)) (pd_int)) (pd_bin od_add noEx_add (pd_int) (pd_bin od_mul noEx_mul (pd_bin od_mul noEx_mul (pd_int) (pd_v 1)) (pd_v 1)))) (pd_int)))
theorem ok_law_mixed (KX : K.In h) (GN : h.Ns mainGlobals mg) (c : He.SaysX fa fn [] [] ex w h K)  : FnAt P w K mg base "_law_mixed" 1 2 [[]] m_law_mixed := by
  obtain ⟨fd, F⟩ := c.t.d.def_ 1 (d := d_law_mixed) rfl
  refine ⟨_, fd, ["_law_cell", "_law_k"], fo_law_mixed KX GN c  F, He.glo_ok KX GN (c.t.d.fact 1 (f := .glo "_law_mixed") rfl), F.kp, ?_⟩
  · intro ds hd
    rw [List.mem_singleton] at hd
    subst hd
    exact ⟨[], [], FunD.bindsN F fun _ _ _ _ _ _ us hl => match us, hl with | [_, _], _ => rfl, .nil, fun _ => .nil⟩
theorem fo_law_divisor (KX : K.In h) (GN : h.Ns mainGlobals mg) (c : He.SaysX fa fn [] [] ex w h K)  {fd : FuncData} (F : FunD K d_law_divisor.name d_law_divisor.qual d_law_divisor.params d_law_divisor.body d_law_divisor.scope (d_law_divisor.dvs K) (d_law_divisor.kws K) (He.fAd K d_law_divisor.at_) fd) : FnOk P w K mg base (L2.CX P w) 1 (He.fAd K d_law_divisor.at_) fd ["_law_one", "_law_other"] (spD K mg 2 m_law_divisor_v2) := by
  have S := sc_law_divisor
  rw [mm_law_divisor_v2]
  have Z := okD (P := P) (w := w) (mg := mg) (base := base) (n := 2) (k := 0) (den := den_law_divisor_v2) F S rfl
  refine Z ?_
  intro cdv A outer s H E hr
  have tk : Takes (cxOf (L2.CX P w) P w K mg base ["_law_one", "_law_other"] "_law_divisor" (defScope s_law_divisor) (He.fAd K d_law_divisor.at_) cdv A outer s H E) (fun cls d _ H => E cls d H) := takes_of rfl rfl rfl rfl
  have hp : PassesOwn (model P w) (cxOf (L2.CX P w) P w K mg base ["_law_one", "_law_other"] "_law_divisor" (defScope s_law_divisor) (He.fAd K d_law_divisor.at_) cdv A outer s H E).A (cxOf (L2.CX P w) P w K mg base ["_law_one", "_law_other"] "_law_divisor" (defScope s_law_divisor) (He.fAd K d_law_divisor.at_) cdv A outer s H E).env (cxOf (L2.CX P w) P w K mg base ["_law_one", "_law_other"] "_law_divisor" (defScope s_law_divisor) (He.fAd K d_law_divisor.at_) cdv A outer s H E).xe := passes_of rfl
  exact sd_cons (sd_while hp (pt_cmpd (od_ne hr.units) noEx_ne (pd_v 1) (pd_int)) (sd_one (sd_par 0 1 rfl S.nd rfl rfl (by decide) rfl rfl (pd_v 1) (pd_bin od_mod noEx_mod (pd_v 0) (pd_v 1)) rfl))) (sd_one (sd_ret (pd_v 0)))
theorem ok_law_divisor (KX : K.In h) (GN : h.Ns mainGlobals mg) (c : He.SaysX fa fn [] [] ex w h K)  : FnAt P w K mg base "_law_divisor" 1 2 [[]] m_law_divisor_v2 := by
  obtain ⟨fd, F⟩ := c.t.d.def_ 2 (d := d_law_divisor) rfl
  refine ⟨_, fd, ["_law_one", "_law_other"], fo_law_divisor KX GN c  F, He.glo_ok KX GN (c.t.d.fact 2 (f := .glo "_law_divisor") rfl), F.kp, ?_⟩
  · intro ds hd
    rw [List.mem_singleton] at hd
    subst hd
    exact ⟨[], [], FunD.bindsN F fun _ _ _ _ _ _ us hl => match us, hl with | [_, _], _ => rfl, .nil, fun _ => .nil⟩
theorem fo_law_fraction (KX : K.In h) (GN : h.Ns mainGlobals mg) (c : He.SaysX fa fn [] [] ex w h K) (F_law_divisor : FnAt P w K mg base "_law_divisor" 1 2 [[]] m_law_divisor_v2) {fd : FuncData} (F : FunD K d_law_fraction.name d_law_fraction.qual d_law_fraction.params d_law_fraction.body d_law_fraction.scope (d_law_fraction.dvs K) (d_law_fraction.kws K) (He.fAd K d_law_fraction.at_) fd) : FnOk P w K mg base (L2.CX P w) 2 (He.fAd K d_law_fraction.at_) fd ["_law_number", "_law_great"] (spD K mg 2 m_law_fraction_v2) := by
  have b_abs : mg "abs" = none := He.free_ok KX GN (c.t.d.fact 6 (f := .free "abs") rfl)
  have S := sc_law_fraction
  rw [mm_law_fraction_v2]
  have Z := okD (P := P) (w := w) (mg := mg) (base := base) (n := 2) (k := 1) (den := den_law_fraction_v2) F S rfl
  refine Z ?_
  intro cdv A outer s H E hr
  have tk : Takes (cxOf (L2.CX P w) P w K mg base ["_law_number", "_law_great", "_law_top", "_law_bottom", "_law_share"] "_law_fraction" (defScope s_law_fraction) (He.fAd K d_law_fraction.at_) cdv A outer s H E) (fun cls d _ H => E cls d H) := takes_of rfl rfl rfl rfl
  have hp : PassesOwn (model P w) (cxOf (L2.CX P w) P w K mg base ["_law_number", "_law_great", "_law_top", "_law_bottom", "_law_share"] "_law_fraction" (defScope s_law_fraction) (He.fAd K d_law_fraction.at_) cdv A outer s H E).A (cxOf (L2.CX P w) P w K mg base ["_law_number", "_law_great", "_law_top", "_law_bottom", "_law_share"] "_law_fraction" (defScope s_law_fraction) (He.fAd K d_law_fraction.at_) cdv A outer s H E).env (cxOf (L2.CX P w) P w K mg base ["_law_number", "_law_great", "_law_top", "_law_bottom", "_law_share"] "_law_fraction" (defScope s_law_fraction) (He.fAd K d_law_fraction.at_) cdv A outer s H E).xe := passes_of rfl
  exact sd_cons (sd_set 2 S.nd rfl (.inl rfl) (pd_bin od_sub noEx_sub (pd_bin od_mod noEx_mod (pd_bin od_div noEx_div (pd_v 0) (pd_int)) (pd_int)) (pd_int))) (sd_cons (sd_set 3 S.nd rfl (.inl rfl) (pd_ix (pd_lst (pad_cons (pd_int) (pad_cons (pd_int) (pad_cons (pd_int) (pad_cons (pd_int) (pad_cons (pd_int) (pad_cons (pd_int) (pad_cons (pd_int) (pad_nil))))))))) (pd_bin od_mod noEx_mod (pd_v 0) (pd_int)))) (sd_cons (sd_if (PW.pt (pw_dand (pt_d (pd_v 1)) (pw_d1 (pt_cmpd (od_eq hr.units) noEx_eq (pd_bin od_mod noEx_mod (pd_bin od_div noEx_div (pd_v 0) (pd_int)) (pd_int)) (pd_int))))) (sd_cons (sd_set 2 S.nd rfl (.inl rfl) (pd_bin od_mul noEx_mul (pd_bin od_sub noEx_sub (pd_bin od_mul noEx_mul (pd_v 0) (pd_int)) (pd_bin od_pow noEx_pow (pd_int) (pd_int))) (pd_bin od_add noEx_add (pd_bin od_pow noEx_pow (pd_int) (pd_int)) (pd_bin od_mod noEx_mod (pd_v 0) (pd_int))))) (sd_one (sd_set 3 S.nd rfl (.inl rfl) (pd_bin od_add noEx_add (pd_int) (pd_bin od_mod noEx_mod (pd_bin od_mul noEx_mul (pd_v 0) (pd_int)) (pd_bin od_pow noEx_pow (pd_int) (pd_int))))))) (sd_nil)) (sd_cons (sd_set 4 S.nd rfl (.inl rfl) (pd_call F_law_divisor mem0 (hr.mono (by decide)) tk rfl (pad_cons (pd_b cd_abs nx_abs b_abs (by decide +kernel) (pad_cons (pd_v 2) (pad_nil))) (pad_cons (pd_v 3) (pad_nil))))) (sd_one (sd_ret (pd_tup (pad_cons (pd_bin od_div noEx_div (pd_v 2) (pd_v 4)) (pad_cons (pd_bin od_div noEx_div (pd_v 3) (pd_v 4)) (pad_nil)))))))))
theorem ok_law_fraction (KX : K.In h) (GN : h.Ns mainGlobals mg) (c : He.SaysX fa fn [] [] ex w h K) (F_law_divisor : FnAt P w K mg base "_law_divisor" 1 2 [[]] m_law_divisor_v2) : FnAt P w K mg base "_law_fraction" 2 2 [[]] m_law_fraction_v2 := by
  obtain ⟨fd, F⟩ := c.t.d.def_ 3 (d := d_law_fraction) rfl
  refine ⟨_, fd, ["_law_number", "_law_great"], fo_law_fraction KX GN c F_law_divisor F, He.glo_ok KX GN (c.t.d.fact 3 (f := .glo "_law_fraction") rfl), F.kp, ?_⟩
  · intro ds hd
    rw [List.mem_singleton] at hd
    subst hd
    exact ⟨[], [], FunD.bindsN F fun _ _ _ _ _ _ us hl => match us, hl with | [_, _], _ => rfl, .nil, fun _ => .nil⟩
theorem fo_law_digits (KX : K.In h) (GN : h.Ns mainGlobals mg) (c : He.SaysX fa fn [] [] ex w h K)  {fd : FuncData} (F : FunD K d_law_digits.name d_law_digits.qual d_law_digits.params d_law_digits.body d_law_digits.scope (d_law_digits.dvs K) (d_law_digits.kws K) (He.fAd K d_law_digits.at_) fd) : FnOk P w K mg base (L2.CX P w) 1 (He.fAd K d_law_digits.at_) fd ["_law_number"] (spD K mg 1 m_law_digits_v2) := by
  have S := sc_law_digits
  rw [mm_law_digits_v2]
  have Z := okD (P := P) (w := w) (mg := mg) (base := base) (n := 1) (k := 0) (den := den_law_digits_v2) F S rfl
  refine Z ?_
  intro cdv A outer s H E hr
  have tk : Takes (cxOf (L2.CX P w) P w K mg base ["_law_number", "_law_text"] "_law_digits" (defScope s_law_digits) (He.fAd K d_law_digits.at_) cdv A outer s H E) (fun cls d _ H => E cls d H) := takes_of rfl rfl rfl rfl
  have hp : PassesOwn (model P w) (cxOf (L2.CX P w) P w K mg base ["_law_number", "_law_text"] "_law_digits" (defScope s_law_digits) (He.fAd K d_law_digits.at_) cdv A outer s H E).A (cxOf (L2.CX P w) P w K mg base ["_law_number", "_law_text"] "_law_digits" (defScope s_law_digits) (He.fAd K d_law_digits.at_) cdv A outer s H E).env (cxOf (L2.CX P w) P w K mg base ["_law_number", "_law_text"] "_law_digits" (defScope s_law_digits) (He.fAd K d_law_digits.at_) cdv A outer s H E).xe := passes_of rfl
  exact sd_cons (sd_set 1 S.nd rfl (.inl rfl) (pd_str)) (sd_cons (sd_while hp (pt_cmpd od_gt noEx_cI (pd_v 0) (pd_int)) (sd_cons (sd_set 1 S.nd rfl (.inl rfl) (pd_bin od_add noEx_add (pd_ix (pd_str) (pd_bin od_mod noEx_mod (pd_v 0) (pd_int))) (pd_v 1))) (sd_one (sd_set 0 S.nd rfl (.inl rfl) (pd_bin od_div noEx_div (pd_v 0) (pd_int)))))) (sd_one (sd_ret (pd_bin od_add noEx_add (pd_ix (pd_str) (pd_v 0)) (pd_v 1)))))
theorem ok_law_digits (KX : K.In h) (GN : h.Ns mainGlobals mg) (c : He.SaysX fa fn [] [] ex w h K)  : FnAt P w K mg base "_law_digits" 1 1 [[]] m_law_digits_v2 := by
  obtain ⟨fd, F⟩ := c.t.d.def_ 4 (d := d_law_digits) rfl
  refine ⟨_, fd, ["_law_number"], fo_law_digits KX GN c  F, He.glo_ok KX GN (c.t.d.fact 4 (f := .glo "_law_digits") rfl), F.kp, ?_⟩
  · intro ds hd
    rw [List.mem_singleton] at hd
    subst hd
    exact ⟨[], [], FunD.bindsN F fun _ _ _ _ _ _ us hl => match us, hl with | [_], _ => rfl, .nil, fun _ => .nil⟩
theorem fo_law (KX : K.In h) (GN : h.Ns mainGlobals mg) (c : He.SaysX fa fn [] [] ex w h K) (F_law_fraction : FnAt P w K mg base "_law_fraction" 2 2 [[]] m_law_fraction_v2) (F_shown_fraction : FnAt P w K mg base "shown_fraction" 1 1 [[]] m_shown_fraction) (F_law_mixed : FnAt P w K mg base "_law_mixed" 1 2 [[]] m_law_mixed) (F_law_digits : FnAt P w K mg base "_law_digits" 1 1 [[]] m_law_digits_v2) {fd : FuncData} (F : FunD K d_law.name d_law.qual d_law.params d_law.body d_law.scope (d_law.dvs K) (d_law.kws K) (He.fAd K d_law.at_) fd) : FnOk P w K mg base (L2.CX P w) 3 (He.fAd K d_law.at_) fd ["_law_script"] (spD K mg 1 m_law_k21) := by
  have b_abs : mg "abs" = none := He.free_ok KX GN (c.t.d.fact 6 (f := .free "abs") rfl)
  have b_int : mg "int" = none := He.free_ok KX GN (c.t.d.fact 7 (f := .free "int") rfl)
  have b_isinstance : mg "isinstance" = none := He.free_ok KX GN (c.t.d.fact 8 (f := .free "isinstance") rfl)
  have b_len : mg "len" = none := He.free_ok KX GN (c.t.d.fact 9 (f := .free "len") rfl)
  have b_min : mg "min" = none := He.free_ok KX GN (c.t.d.fact 10 (f := .free "min") rfl)
  have b_range : mg "range" = none := He.free_ok KX GN (c.t.d.fact 11 (f := .free "range") rfl)
  have b_str : mg "str" = none := He.free_ok KX GN (c.t.d.fact 12 (f := .free "str") rfl)
  have S := sc_law
  rw [mm_law_k21]
  have Z := okD (P := P) (w := w) (mg := mg) (base := base) (n := 1) (k := 2) (den := den_law_k21) F S rfl
  refine Z ?_
  intro cdv A outer s H E hr
  have tk : Takes (cxOf (L2.CX P w) P w K mg base ["_law_script", "_law_k", "_law_top", "_law_bottom", "_law_due", "_law_found"] "law" (defScope s_law) (He.fAd K d_law.at_) cdv A outer s H E) (fun cls d _ H => E cls d H) := takes_of rfl rfl rfl rfl
  have hp : PassesOwn (model P w) (cxOf (L2.CX P w) P w K mg base ["_law_script", "_law_k", "_law_top", "_law_bottom", "_law_due", "_law_found"] "law" (defScope s_law) (He.fAd K d_law.at_) cdv A outer s H E).A (cxOf (L2.CX P w) P w K mg base ["_law_script", "_law_k", "_law_top", "_law_bottom", "_law_due", "_law_found"] "law" (defScope s_law) (He.fAd K d_law.at_) cdv A outer s H E).env (cxOf (L2.CX P w) P w K mg base ["_law_script", "_law_k", "_law_top", "_law_bottom", "_law_due", "_law_found"] "law" (defScope s_law) (He.fAd K d_law.at_) cdv A outer s H E).xe := passes_of rfl
  exact sd_cons (sd_for hp rfl (pi_r1 rfl b_range (pad_cons (pd_b (cd_min rfl) nx_min b_min (by decide +kernel) (pad_cons (pd_b cd_len nx_len b_len (by decide +kernel) (pad_cons (pd_v 0) (pad_nil))) (pad_cons (pd_int) (pad_nil)))) (pad_nil))) (pg_name (i := 1) S.nd rfl (.inl rfl)) (sd_cons (sd_asg (pg_tup rfl (pgs_cons (pg_name (i := 2) S.nd rfl (.inl rfl)) (pgs_cons (pg_name (i := 3) S.nd rfl (.inl rfl)) (pgs_nil)))) (pd_call F_law_fraction mem0 (hr.mono (by decide)) tk rfl (pad_cons (pd_call F_law_mixed mem0 (hr.mono (by decide)) tk rfl (pad_cons (pd_ix (pd_v 0) (pd_v 1)) (pad_cons (pd_v 1) (pad_nil)))) (pad_cons (pd_bl) (pad_nil))))) (sd_cons (sd_set 4 S.nd rfl (.inl rfl) (pd_bin od_add noEx_add (pd_ix (pd_lst (pad_cons (pd_str) (pad_cons (pd_str) (pad_nil)))) (pd_bt cd_int nx_int b_int (by decide +kernel) (pad_cons (pd_cmp od_lt noEx_cI (pd_v 2) (pd_int)) (pad_nil)))) (pd_call F_law_digits mem0 (hr.mono (by decide)) tk rfl (pad_cons (pd_b cd_abs nx_abs b_abs (by decide +kernel) (pad_cons (pd_v 2) (pad_nil))) (pad_nil))))) (sd_cons (sd_if (pt_cmpd od_gt noEx_cI (pd_v 3) (pd_int)) (sd_one (sd_set 4 S.nd rfl (.inl rfl) (pd_bin od_add noEx_add (pd_bin od_add noEx_add (pd_v 4) (pd_str)) (pd_call F_law_digits mem0 (hr.mono (by decide)) tk rfl (pad_cons (pd_v 3) (pad_nil)))))) (sd_nil)) (sd_cons (sd_set 5 S.nd rfl (.inl rfl) (pd_call F_shown_fraction mem0 (hr.mono (by decide)) tk rfl (pad_cons (pd_tup (pad_cons (pd_v 2) (pad_cons (pd_v 3) (pad_nil)))) (pad_nil)))) (sd_one (sd_if (PW.pt (pw_dor (pt_dnot (pt_d (pd_isi (T := "str") b_isinstance b_str (by decide +kernel) (pd_v 5)))) (pw_o1 (pt_cmpd (od_ne hr.units) noEx_ne (pd_v 5) (pd_v 4))))) (sd_one (sd_ret (pd_bl))) (sd_nil)))))))) (sd_one (sd_ret (pe_dand (pd_cmp (od_eq hr.units) noEx_eq (pd_call F_shown_fraction mem0 (hr.mono (by decide)) tk rfl (pad_cons (pd_tup (pad_cons (pd_int) (pad_cons (pd_int) (pad_nil)))) (pad_nil))) (pd_str)) (pe_d1 (pd_cmp (od_eq hr.units) noEx_eq (pd_call F_shown_fraction mem0 (hr.mono (by decide)) tk rfl (pad_cons (pd_tup (pad_cons (pd_neg (pd_int)) (pad_cons (pd_int) (pad_nil)))) (pad_nil))) (pd_str))))))
theorem ok_law (KX : K.In h) (GN : h.Ns mainGlobals mg) (c : He.SaysX fa fn [] [] ex w h K) (F_law_fraction : FnAt P w K mg base "_law_fraction" 2 2 [[]] m_law_fraction_v2) (F_shown_fraction : FnAt P w K mg base "shown_fraction" 1 1 [[]] m_shown_fraction) (F_law_mixed : FnAt P w K mg base "_law_mixed" 1 2 [[]] m_law_mixed) (F_law_digits : FnAt P w K mg base "_law_digits" 1 1 [[]] m_law_digits_v2) : FnAt P w K mg base "law" 3 1 [[]] m_law_k21 := by
  obtain ⟨fd, F⟩ := c.t.d.def_ 5 (d := d_law) rfl
  refine ⟨_, fd, ["_law_script"], fo_law KX GN c F_law_fraction F_shown_fraction F_law_mixed F_law_digits F, He.glo_ok KX GN (c.t.d.fact 5 (f := .glo "law") rfl), F.kp, ?_⟩
  · intro ds hd
    rw [List.mem_singleton] at hd
    subst hd
    exact ⟨[], [], FunD.bindsN F fun _ _ _ _ _ _ us hl => match us, hl with | [_], _ => rfl, .nil, fun _ => .nil⟩
end
def names0 : List PySem.Str := ["shown_fraction", "_law_mixed", "_law_divisor", "_law_fraction", "_law_digits"]
def names : List PySem.Str := names0
abbrev Rw : PySem.W.OpenRow := PySem.W.OpenLaw.row PySem.Challenge.rw_boardglue_k21_fractions_shown
abbrev hk : PySem.W.Hook := He.hookX 5 fa fn [] [] ex
def ob (s : PySem.W.SharedT) : He.AlX := He.obsX 5 fa fn [] [] ex (HandSHeadRun.getT s)
theorem ob_eq (s : PySem.W.SharedT) : ob s = hk.obs s.abs := He.obsX_eq (HandSHeadRun.getT_eq s)
theorem run (w : World) : HandSHeadRun.RunEq Rw (PySem.W.view Rw.prog [7]) hk ob 2000 names w := by
  intro os
  kernel_rfl
theorem facts {P : Program} {w : World} {K : PySem.W.Frag} {h : Heap} {mg : MG} {f : Addr} (KX : K.In h) (GN : h.Ns mainGlobals mg) (hfa : mg ("law" : Str) = some (.ref f)) (c : He.SaysX fa fn [] [] ex w h K) :
    ∃ fd : FuncData, (∀ (s : Shared) (v : Value), BindsTo s fd ⟨[v], []⟩ [("_law_script", v)]) ∧ ∀ base : Heap, K.In base → base.Ns mainGlobals mg → FnOk P w K mg base (L2.CX P w) 3 f fd ["_law_script"] (spD K mg 1 m_law_k21) := by
  obtain ⟨fd, F⟩ := c.t.d.def_ 5 (d := d_law) rfl
  refine ⟨fd, fun s v => FunD.bindsA (ps := ["_law_script"]) F (fun _ _ _ _ _ _ us hl => match us, hl with | [_], _ => rfl) s [v] rfl, fun base hb hg => ?_⟩
  have F_shown_fraction := ok_shown_fraction (P := P) (w := w) (base := base) KX GN c 
  have F_law_mixed := ok_law_mixed (P := P) (w := w) (base := base) KX GN c 
  have F_law_divisor := ok_law_divisor (P := P) (w := w) (base := base) KX GN c 
  have F_law_fraction := ok_law_fraction (P := P) (w := w) (base := base) KX GN c F_law_divisor
  have F_law_digits := ok_law_digits (P := P) (w := w) (base := base) KX GN c 
  have e := hfa.symm.trans (He.glo_ok KX GN (c.t.d.fact 5 (f := .glo "law") rfl))
  cases e
  exact fo_law KX GN c F_law_fraction F_shown_fraction F_law_mixed F_law_digits F
end
end DL
open PySem PySem.W PySem.Calls PyProof.Rows
theorem PySem.Challenge.cw_boardglue_k21_fractions_shown_holds : PySem.Challenge.rw_boardglue_k21_fractions_shown.Holds := by
  w_on; o_law
  refine HandSHeadRun.head_any (r := OpenLaw.row PySem.Challenge.rw_boardglue_k21_fractions_shown) (q := view (OpenLaw.row PySem.Challenge.rw_boardglue_k21_fractions_shown).prog [7]) (H := DL.hk) (ob := DL.ob) (M := 2000) (loose := DL.names) (d := HandSHeadRun.topDef (OpenLaw.row PySem.Challenge.rw_boardglue_k21_fractions_shown).prog 7) (kwd := []) DL.ob_eq
    (by kernel_rfl) (fun s => by kernel_rfl) DL.run (by kernel_rfl) (by kernel_rfl) (by kernel_rfl) (by rfl) (by first | assumption | decide +kernel) (by decide +kernel) ⟨rfl, rfl, rfl, rfl, rfl, by decide +kernel⟩ ?hw ?hc
  case hw => w_witness2
  case hc =>
    refine DL.walkD (l := PySem.Challenge.rw_boardglue_k21_fractions_shown) (n := 63) (k := 3) (x := "_law_script") (g := DL.m_law_k21) rfl (by decide) (by kernel_rfl) ⟨rfl, by decide, by decide⟩ ?F DL.law_k21_true
    intro w mg fa h Y G hmg0
    obtain ⟨K, KX, c⟩ := Y
    have hmg : mg ("law" : PySem.Str) = some (.ref fa) := by
      have e : (HandSHeadRun.topDef (OpenLaw.row PySem.Challenge.rw_boardglue_k21_fractions_shown).prog 7).name = ("law" : PySem.Str) := by kernel_rfl
      rw [← e]
      exact hmg0
    obtain ⟨fd, hb, hF⟩ := DL.facts (P := (PySem.Challenge.rw_boardglue_k21_fractions_shown).prog) (w := w) KX G hmg c
    exact ⟨K, fd, KX, hb, hF⟩

