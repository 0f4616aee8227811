import PyProof.Rows.All
import Wide.All
import OpenK.AllK
import Wide.FinOn
import HandS.Exc
import HandS.TryOnly
import HandS.ForMost
import HandS.ForExc
import HandS.Deep
import HandS.Wide
import HandS.WideBits
import HandS.HeadHook1
import HandS.CallSlots
import HandS.Defaults
import HandS.Iter
import HandS.Zip
import HandS.Rev
import HandS.TupAny
import HandS.Comp
import HandS.Text
import HandS.IsInst
import HandS.HeadHook2
import PyProof.Rows.RuleB_pow
import HandS.EndBits
import HandS.Sort
import HandS.ExcIs
import HandS.RevTup
import PyProof.ListStr
import HandS.Style
import HandS.SetFor
import HandS.More
import HandS.SortInts
import HandS.WordsDict
import HandS.MakeKw
import HandS.Conv
import HandS.HeadHook4
import PySem.Challenge.RW_boardglue_k51_normal_heaps
import HandS.Head2
import KE.KStateDown
import HandS.Head0
import HandS.Head1
import HandS.HeadEnd
set_option Elab.async false
set_option linter.all false
set_option maxRecDepth 100000
set_option maxHeartbeats 4000000
set_option autoImplicit false
/-! exceptions that are kept: tracked from the end of the suite on -/
namespace DL
open PySem PySem.Spec PyProof.Rows L2
/-- an exception object of the class cls that was caught -/
def ExK (cls : Value) (a : Addr) : HO := .ext fun h => ∃ (oe : Obj) (vs : Array Value), h.get? a = some oe ∧ Zc cls none oe ∧ oe.data = .fields vs
section
variable {X : Cx} {pins : List (Addr × Obj)} {σ : L2.St} {H : Hp} {s : Shared}
end
section
variable {X : Cx} {x n : Str} {c : Value} {i : Nat} {body suite : List Stmt} {b₀ : Stmt} {np pos pos' : Pos} {tb : WX → TS} {ts : Addr → Value → Option Addr → TS} {Wout : WX}
end
end DL

set_option Elab.async false
set_option linter.all false
set_option maxRecDepth 100000
set_option maxHeartbeats 4000000
set_option autoImplicit false
/-! the data layer: what a def computes, as a function of plain data -/
namespace DL
open PySem L2
abbrev PD := PyData

/-- an outcome: a value, an exception by its class's name, or no claim -/
inductive R (α : Type) where
  | ok (a : α)
  | ex (c : Str)
  | no
def R.bind {α β : Type} (r : R α) (k : α → R β) : R β := match r with
  | .ok a => k a
  | .ex c => .ex c
  | .no => .no
@[simp] theorem R.bind_ok {α β : Type} (a : α) (k : α → R β) : (R.ok a).bind k = k a := rfl
@[simp] theorem R.bind_ex {α β : Type} (c : Str) (k : α → R β) : (R.ex c : R α).bind k = .ex c := rfl
@[simp] theorem R.bind_no {α β : Type} (k : α → R β) : (R.no : R α).bind k = .no := rfl

/-- a field of an object of one's own: data that stands still; a list of its own; a dict of its own -/
inductive FV where
  | d (x : PD)
  | l (xs : List PD)
  | k (kvs : List (L2.Key × PD))
abbrev Fs := List (Str × FV)
/-- a told tuple's parts: data that stands still; a list of one's own; an object of one's own -/
inductive TP where
  | d (x : PD)
  | l (xs : List PD)
  | o (c : Str) (fs : Fs)
/-- what a local holds: data that stands still; a list of its own; a dict of its own; a list of lists of its own; an object of its own; the object whose method runs; an object that is looked at alone; a tuple of data and of lists of its own; a list of its own that stands still for a while -/
inductive SV where
  | d (x : PD)
  | l (xs : List PD)
  | k (kvs : List (L2.Key × PD))
  | ll (xss : List (List PD))
  | o (c : Str) (fs : Fs)
  | me (c : Str) (fs : Fs)
  | ro (c : Str) (fs : Fs)
  | tp (ps : List TP)
  | pl (xs : List PD)
abbrev En := List (Option SV)
def SV.own : SV → Bool
  | .d _ => false
  | _ => true

/-! ### values that bear data in a heap -/
/-- a dict's key as data -/
def KeyD : L2.Key → PD → Prop
  | .inl i, .int j => i = j
  | .inr x, .str y => x = y
  | _, _ => False
mutual
inductive Rp (K : PySem.W.Frag) (S : Hp) : V → PD → Prop
  | non : Rp K S .non .none
  | bl (b : Bool) : Rp K S (.bl b) (.bool b)
  | int (i : Int) : Rp K S (.int i) (.int i)
  | str (x : Str) : Rp K S (.str x) (.str x)
  | lst {a : Addr} {xs : List V} {ds : List PD} : SqL K S a xs → RpA K S xs ds → Rp K S (.ref a) (.list ds)
  | tup {a : Addr} {xs : List V} {ds : List PD} : SqT K S a xs → RpA K S xs ds → Rp K S (.ref a) (.tuple ds)
  | exc {a : Addr} {c : Str} : S a = some (ExK (.ref (He.ga K c)) a) → Rp K S (.ref a) (.dict [(.none, .str c)])
  | dct {a : Addr} {o : Obj} {kvs : List (L2.Key × V)} {ds : List (PD × PD)} : S a = some (.frz o (.dK kvs)) → RpK K S kvs ds → Rp K S (.ref a) (.dict ds)
inductive RpA (K : PySem.W.Frag) (S : Hp) : List V → List PD → Prop
  | nil : RpA K S [] []
  | cons {v : V} {vs : List V} {d : PD} {ds : List PD} : Rp K S v d → RpA K S vs ds → RpA K S (v :: vs) (d :: ds)
inductive RpK (K : PySem.W.Frag) (S : Hp) : List (L2.Key × V) → List (PD × PD) → Prop
  | nil : RpK K S [] []
  | cons {k : L2.Key} {v : V} {kvs : List (L2.Key × V)} {kd d : PD} {ds : List (PD × PD)} : KeyD k kd → Rp K S v d → RpK K S kvs ds → RpK K S ((k, v) :: kvs) ((kd, d) :: ds)
end

section
variable {K : PySem.W.Frag} {S S' H H' : Hp}
theorem Same.seqT {a : Addr} {xs : List V} (e : Same S S') (h : SqT K S a xs) : SqT K S' a xs := by
  rcases h with (h | ⟨o, h⟩) | h
  · exact .inl (.inl (e _ _ h))
  · exact .inl (.inr ⟨o, e _ _ h⟩)
  · exact .inr h
mutual
theorem Rp.mono0 (e : Same S S') : ∀ {v : V} {d : PD}, Rp K S v d → Rp K S' v d
  | _, _, .non => .non
  | _, _, .bl b => .bl b
  | _, _, .int i => .int i
  | _, _, .str x => .str x
  | _, _, .lst hs ha => .lst (Same.seq e hs) (RpA.mono0 e ha)
  | _, _, .tup hs ha => .tup (Same.seqT e hs) (RpA.mono0 e ha)
  | _, _, .exc h => .exc (e _ _ h)
  | _, _, .dct h hk => .dct (e _ _ h) (RpK.mono0 e hk)
theorem RpA.mono0 (e : Same S S') : ∀ {vs : List V} {ds : List PD}, RpA K S vs ds → RpA K S' vs ds
  | _, _, .nil => .nil
  | _, _, .cons h1 h2 => .cons (Rp.mono0 e h1) (RpA.mono0 e h2)
theorem RpK.mono0 (e : Same S S') : ∀ {vs : List (L2.Key × V)} {ds : List (PD × PD)}, RpK K S vs ds → RpK K S' vs ds
  | _, _, .nil => .nil
  | _, _, .cons h1 h2 h3 => .cons h1 (Rp.mono0 e h2) (RpK.mono0 e h3)
end
theorem Rp.mono (e : Same S S') (d : PD) (v : V) (h : Rp K S v d) : Rp K S' v d := Rp.mono0 e h
theorem RpA.mono (e : Same S S') (ds : List PD) (vs : List V) (h : RpA K S vs ds) : RpA K S' vs ds := RpA.mono0 e h
mutual
theorem Rp.dp : ∀ (d : PD) (v : V), d.canLay0 = true → Rp K S v d → Dp K S v d
  | .none, _, _, h => by cases h; exact .non
  | .bool b, _, _, h => by cases h; exact .bl b
  | .int i, _, _, h => by cases h; exact .int i
  | .str x, _, _, h => by cases h; exact .str x
  | .list ds, _, c, h => by
    cases h with
    | lst hs ha => exact .lst hs (RpA.dp ds _ c ha)
  | .tuple ds, _, c, h => by
    cases h with
    | tup hs ha => exact .tup hs (RpA.dp ds _ c ha)
  | .dict _, _, c, h => by cases c
theorem RpA.dp : ∀ (ds : List PD) (vs : List V), PyData.canLayAll0 ds = true → RpA K S vs ds → DpAll K S vs ds
  | [], _, _, h => by cases h; exact .nil
  | d :: ds, _, c, h => by
    have c' : (d.canLay0 && PyData.canLayAll0 ds) = true := c
    rw [Bool.and_eq_true] at c'
    cases h with
    | cons h1 h2 => exact .cons (Rp.dp d _ c'.1 h1) (RpA.dp ds _ c'.2 h2)
end
theorem RpA.length : ∀ {ds : List PD} {vs : List V}, RpA K S vs ds → vs.length = ds.length
  | [], _, h => by cases h; rfl
  | d :: ds, _, h => by
    cases h with
    | cons h1 h2 => simp only [List.length_cons, RpA.length h2]
theorem RpA.get : ∀ {ds : List PD} {vs : List V} {i : Nat} {d : PD}, RpA K S vs ds → ds[i]? = some d → ∃ v, vs[i]? = some v ∧ Rp K S v d
  | [], _, _, _, _, e => by simp at e
  | d :: ds, _, i, x, h, e => by
    cases h with
    | cons h1 h2 =>
      cases i with
      | zero =>
        simp at e
        subst e
        exact ⟨_, rfl, h1⟩
      | succ i => simpa using RpA.get h2 (by simpa using e)
theorem RpA.append : ∀ {ds es : List PD} {vs us : List V}, RpA K S vs ds → RpA K S us es → RpA K S (vs ++ us) (ds ++ es)
  | [], _, _, _, h, g => by cases h; exact g
  | d :: ds, _, _, _, h, g => by
    cases h with
    | cons h1 h2 => exact .cons h1 (RpA.append h2 g)
theorem RpA.take : ∀ {ds : List PD} {vs : List V} (n : Nat), RpA K S vs ds → RpA K S (vs.take n) (ds.take n)
  | [], _, n, h => by cases h; simpa using RpA.nil
  | d :: ds, _, n, h => by
    cases h with
    | cons h1 h2 =>
      cases n with
      | zero => exact .nil
      | succ n => exact .cons h1 (RpA.take n h2)
theorem RpA.drop : ∀ {ds : List PD} {vs : List V} (n : Nat), RpA K S vs ds → RpA K S (vs.drop n) (ds.drop n)
  | [], _, n, h => by cases h; simpa using RpA.nil
  | d :: ds, _, n, h => by
    cases h with
    | cons h1 h2 =>
      cases n with
      | zero => exact .cons h1 h2
      | succ n => exact RpA.drop n h2
theorem RpA.set {v : V} {d : PD} (r : Rp K S v d) : ∀ {ds : List PD} {vs : List V} (i : Nat), RpA K S vs ds → RpA K S (vs.set i v) (ds.set i d)
  | [], _, _, h => by cases h; exact .nil
  | e :: ds, _, i, h => by
    cases h with
    | cons h1 h2 =>
      cases i with
      | zero => exact .cons r h2
      | succ i => exact .cons h1 (RpA.set r i h2)
theorem RpA.snoc {ds : List PD} {vs : List V} {v : V} {d : PD} (h : RpA K S vs ds) (r : Rp K S v d) : RpA K S (vs ++ [v]) (ds ++ [d]) := h.append (.cons r .nil)

/-- a heap grows: S, what is known of it, grows too, by new things alone -/
structure Ext (S H S' H' : Hp) : Prop where
  sub : Same S S'
  all : Same H H'
  inn : Same S' H'
  new : ∀ a o, S' a = some o → S a = some o ∨ H a = none
theorem Ext.refl (h : Same S H) : Ext S H S H := ⟨Same.refl _, Same.refl _, h, fun _ _ e => .inl e⟩
theorem Ext.trans {S1 S2 S3 H1 H2 H3 : Hp} (a : Ext S1 H1 S2 H2) (b : Ext S2 H2 S3 H3) : Ext S1 H1 S3 H3 :=
  ⟨a.sub.trans b.sub, a.all.trans b.all, b.inn, fun x o e => by
    rcases b.new x o e with h | h
    · exact a.new x o h
    · exact .inr (a.all.free h)⟩
/-- a new thing, known -/
theorem Ext.known {p : Addr} {o : HO} (h : Same S H) (hp : H p = none) : Ext S H (upd S p o) (upd H p o) := by
  have hs : S p = none := h.free hp
  refine ⟨fun a x e => by rw [upd_ne (ne_of_none e hs)]; exact e, fun a x e => by rw [upd_ne (ne_of_none e hp)]; exact e, fun a x e => ?_, fun a x e => ?_⟩
  · by_cases ha : a = p
    · subst ha; rw [upd_same] at e ⊢; exact e
    · rw [upd_ne ha] at e ⊢; exact h a x e
  · by_cases ha : a = p
    · subst ha; exact .inr hp
    · rw [upd_ne ha] at e; exact .inl e
/-- a new thing, not known -/
theorem Ext.fresh {p : Addr} {o : HO} (h : Same S H) (hp : H p = none) : Ext S H S (upd H p o) := by
  refine ⟨Same.refl _, fun a x e => by rw [upd_ne (ne_of_none e hp)]; exact e, fun a x e => ?_, fun a x e => .inl e⟩
  have := h a x e
  rw [upd_ne (ne_of_none this hp)]; exact this
theorem Ext.grow (h : Same S H) (g : Same H H') : Ext S H S H' := ⟨Same.refl _, g, h.trans g, fun _ _ e => .inl e⟩
end

/-! ### the state: F, the entry's known part and heap (without the footprint P of the object at a whose method runs) -/
structure F where
  S : Hp
  H : Hp
  a : Addr
  P : List Addr
  q : List Addr
def kvRel (K : PySem.W.Frag) (S : Hp) : List (L2.Key × V) → List (L2.Key × PD) → Prop
  | [], [] => True
  | (a, v) :: r, (b, d) :: q => a = b ∧ Rp K S v d ∧ kvRel K S r q
  | _, _ => False
theorem kvRel.mono {K : PySem.W.Frag} {S S' : Hp} (e : Same S S') : ∀ {l : List (L2.Key × V)} {m : List (L2.Key × PD)}, kvRel K S l m → kvRel K S' l m
  | [], [], _ => trivial
  | (a, v) :: r, (b, d) :: q, h => ⟨h.1, Rp.mono e _ _ h.2.1, kvRel.mono e h.2.2⟩
  | [], _ :: _, h => h.elim
  | _ :: _, [], h => h.elim
/-- lists of one's own at addresses -/
def LLs (K : PySem.W.Frag) (S H : Hp) : List Addr → List (List PD) → Prop
  | [], [] => True
  | b :: bs, xs :: xss => (∃ vs, H b = some (.lst vs) ∧ RpA K S vs xs) ∧ LLs K S H bs xss
  | _, _ => False
/-- a field's value; the addresses of what it owns -/
def FldV (K : PySem.W.Frag) (S H : Hp) (v : V) (bs : List Addr) : FV → Prop
  | .d x => bs = [] ∧ Rp K S v x
  | .l xs => ∃ b vs, v = .ref b ∧ bs = [b] ∧ H b = some (.lst vs) ∧ RpA K S vs xs
  | .k kvs => ∃ b vs, v = .ref b ∧ bs = [b] ∧ H b = some (.dK vs) ∧ kvRel K S vs kvs
def FldR (K : PySem.W.Frag) (S H : Hp) : List (Str × V) → Fs → List Addr → Prop
  | [], [], bs => bs = []
  | (n, v) :: vs, (m, x) :: fs, bs => n = m ∧ ∃ b1 b2, bs = b1 ++ b2 ∧ FldV K S H v b1 x ∧ FldR K S H vs fs b2
  | _, _, _ => False
def OwnI (K : PySem.W.Frag) (S H : Hp) (a : Addr) (fp : List Addr) (c : Str) (fs : Fs) : Prop := ∃ dx vs bs, fp = a :: dx :: bs ∧ fp.Nodup ∧ H a = some (.ins (He.ga K c) dx vs) ∧ H dx = some (.own a) ∧ FldR K S H vs fs bs
/-- a tuple's parts: data, and lists and objects of one's own at addresses -/
def TpR (K : PySem.W.Frag) (S H : Hp) : List V → List TP → List Addr → Prop
  | [], [], bs => bs = []
  | v :: vs, .d d :: ps, bs => Rp K S v d ∧ TpR K S H vs ps bs
  | v :: vs, .l xs :: ps, bs => ∃ b b2 us, bs = b :: b2 ∧ v = .ref b ∧ H b = some (.lst us) ∧ RpA K S us xs ∧ TpR K S H vs ps b2
  | v :: vs, .o c fs :: ps, bs => ∃ b b1 b2, bs = b1 ++ b2 ∧ v = .ref b ∧ OwnI K S H b b1 c fs ∧ TpR K S H vs ps b2
  | _, _, _ => False
def Own (K : PySem.W.Frag) (S H : Hp) (a : Addr) (fp : List Addr) : SV → Prop
  | .d _ => False
  | .l ds => fp = [a] ∧ ∃ vs, H a = some (.lst vs) ∧ RpA K S vs ds
  | .k kvs => fp = [a] ∧ ∃ vs, H a = some (.dK vs) ∧ kvRel K S vs kvs
  | .ll xss => ∃ bs, fp = a :: bs ∧ fp.Nodup ∧ H a = some (.lst (bs.map V.ref)) ∧ LLs K S H bs xss
  | .o c fs => OwnI K S H a fp c fs
  | .me c fs => OwnI K S H a fp c fs
  | .ro _ _ => False
  | .tp ps => ∃ bs vs, fp = a :: bs ∧ fp.Nodup ∧ H a = some (.tup vs) ∧ TpR K S H vs ps bs
  | .pl _ => False
def Sl (K : PySem.W.Frag) (G : F) (S H : Hp) (v : V) (fp : List Addr) : SV → Prop
  | .d x => Rp K S v x
  | .me c fs => v = .ref G.a ∧ Own K S H G.a fp (.me c fs)
  | .ro c fs => fp = [] ∧ ∃ a f0, v = .ref a ∧ OwnI K S G.H a f0 c fs ∧ ∀ b ∈ f0, S b = none ∧ G.H b ≠ none ∧ b ∉ G.q
  | .pl xs => fp = [] ∧ ∃ a vs, v = .ref a ∧ G.q.head? = some a ∧ S a = none ∧ G.H a = some (.lst vs) ∧ RpA K S vs xs
  | x => ∃ a, v = .ref a ∧ Own K S H a fp x
structure RelF (K : PySem.W.Frag) (G : F) (φ : Nat → List Addr) (S : Hp) (σ : St) (ρ : En) (H : Hp) : Prop where
  len : σ.length = ρ.length
  inn : Same S H
  ent : Same G.H H
  entS : Same G.S S
  new : ∀ a o, S a = some o → G.S a = some o ∨ (G.H a = none ∧ a ∉ G.P)
  gp : ∀ a, a ∈ G.P → G.H a = none ∧ S a = none ∧ H a ≠ none
  slot : ∀ (i : Nat) (x : SV), ρ[i]? = some (some x) → ∃ v, σ[i]? = some (some v) ∧ Sl K G S H v (φ i) x
  fr : ∀ i a, a ∈ φ i → S a = none ∧ G.H a = none ∧ H a ≠ none
  dj : ∀ i j a, i ≠ j → a ∈ φ i → a ∉ φ j
  pp : ∀ i a, a ∈ φ i → a ∈ G.P → ∃ c fs, ρ[i]? = some (some (.me c fs))
def Rel (K : PySem.W.Frag) (G : F) (S : Hp) (σ : St) (ρ : En) (H : Hp) : Prop := ∃ φ, RelF K G φ S σ ρ H

section
variable {K : PySem.W.Frag} {G : F} {S S' H H' : Hp} {σ : St} {ρ : En} {φ : Nat → List Addr}
theorem Rel.len (r : Rel K G S σ ρ H) : σ.length = ρ.length := let ⟨_, r⟩ := r; r.len
theorem Rel.inn (r : Rel K G S σ ρ H) : Same S H := let ⟨_, r⟩ := r; r.inn
theorem Rel.ent (r : Rel K G S σ ρ H) : Same G.H H := let ⟨_, r⟩ := r; r.ent
theorem Rel.entS (r : Rel K G S σ ρ H) : Same G.S S := let ⟨_, r⟩ := r; r.entS
theorem Rel.new (r : Rel K G S σ ρ H) : ∀ a o, S a = some o → G.S a = some o ∨ (G.H a = none ∧ a ∉ G.P) := let ⟨_, r⟩ := r; r.new
theorem Rel.slot (r : Rel K G S σ ρ H) (i : Nat) (x : SV) (h : ρ[i]? = some (some x)) : ∃ v fp, σ[i]? = some (some v) ∧ Sl K G S H v fp x := by
  obtain ⟨φ, r⟩ := r
  obtain ⟨v, h1, h2⟩ := r.slot i x h
  exact ⟨v, φ i, h1, h2⟩
theorem Rel.slotD (r : Rel K G S σ ρ H) (i : Nat) (x : PD) (h : ρ[i]? = some (some (.d x))) : ∃ v, σ[i]? = some (some v) ∧ Rp K S v x := by
  obtain ⟨φ, r⟩ := r
  exact r.slot i _ h
/-! what is kept where the addresses of a footprint keep their things -/
theorem LLs.keep (e : Same S S') : ∀ {bs : List Addr} {xss : List (List PD)}, (∀ a ∈ bs, ∀ o, H a = some o → H' a = some o) → LLs K S H bs xss → LLs K S' H' bs xss
  | [], [], _, _ => trivial
  | b :: bs, xs :: xss, k, ⟨⟨vs, h1, h2⟩, h⟩ => ⟨⟨vs, k b (.head _) _ h1, RpA.mono e _ _ h2⟩, LLs.keep e (fun a ha => k a (.tail _ ha)) h⟩
  | [], _ :: _, _, h => h.elim
  | _ :: _, [], _, h => h.elim
theorem FldV.keep (e : Same S S') {v : V} {bs : List Addr} (k : ∀ a ∈ bs, ∀ o, H a = some o → H' a = some o) : ∀ {x : FV}, FldV K S H v bs x → FldV K S' H' v bs x
  | .d _, ⟨h1, h2⟩ => ⟨h1, Rp.mono e _ _ h2⟩
  | .l _, ⟨b, vs, h1, h2, h3, h4⟩ => ⟨b, vs, h1, h2, k b (by rw [h2]; exact .head _) _ h3, RpA.mono e _ _ h4⟩
  | .k _, ⟨b, vs, h1, h2, h3, h4⟩ => ⟨b, vs, h1, h2, k b (by rw [h2]; exact .head _) _ h3, kvRel.mono e h4⟩
theorem FldR.keep (e : Same S S') : ∀ {vs : List (Str × V)} {fs : Fs} {bs : List Addr}, (∀ a ∈ bs, ∀ o, H a = some o → H' a = some o) → FldR K S H vs fs bs → FldR K S' H' vs fs bs
  | [], [], _, _, h => h
  | (n, v) :: vs, (m, x) :: fs, bs, k, ⟨h1, b1, b2, h2, h3, h4⟩ => ⟨h1, b1, b2, h2, FldV.keep e (fun a ha => k a (by rw [h2]; exact List.mem_append_left _ ha)) h3, FldR.keep e (fun a ha => k a (by rw [h2]; exact List.mem_append_right _ ha)) h4⟩
  | [], _ :: _, _, _, h => h.elim
  | _ :: _, [], _, _, h => h.elim
theorem OwnI.keep (e : Same S S') {a : Addr} {fp : List Addr} {c : Str} {fs : Fs} (k : ∀ a ∈ fp, ∀ o, H a = some o → H' a = some o) (h : OwnI K S H a fp c fs) : OwnI K S' H' a fp c fs := by
  obtain ⟨dx, vs, bs, h1, h2, h3, h4, h5⟩ := h
  exact ⟨dx, vs, bs, h1, h2, k a (by rw [h1]; exact .head _) _ h3, k dx (by rw [h1]; exact .tail _ (.head _)) _ h4, FldR.keep e (fun a ha => k a (by rw [h1]; exact .tail _ (.tail _ ha))) h5⟩
theorem TpR.keep (e : Same S S') : ∀ {vs : List V} {ps : List TP} {bs : List Addr}, (∀ a ∈ bs, ∀ o, H a = some o → H' a = some o) → TpR K S H vs ps bs → TpR K S' H' vs ps bs
  | [], [], _, _, h => h
  | v :: vs, .d d :: ps, bs, k, ⟨h1, h2⟩ => ⟨Rp.mono e _ _ h1, TpR.keep e k h2⟩
  | v :: vs, .l xs :: ps, bs, k, ⟨b, b2, us, h1, h2, h3, h4, h5⟩ => ⟨b, b2, us, h1, h2, k b (by rw [h1]; exact .head _) _ h3, RpA.mono e _ _ h4, TpR.keep e (fun a ha => k a (by rw [h1]; exact .tail _ ha)) h5⟩
  | v :: vs, .o c fs :: ps, bs, k, ⟨b, b1, b2, h1, h2, h3, h4⟩ => ⟨b, b1, b2, h1, h2, OwnI.keep e (fun a ha => k a (by rw [h1]; exact List.mem_append_left _ ha)) h3, TpR.keep e (fun a ha => k a (by rw [h1]; exact List.mem_append_right _ ha)) h4⟩
  | [], .d _ :: _, _, _, h => h.elim
  | [], .l _ :: _, _, _, h => h.elim
  | [], .o _ _ :: _, _, _, h => h.elim
  | _ :: _, [], _, _, h => h.elim
theorem Own.keep (e : Same S S') {a : Addr} {fp : List Addr} {x : SV} (k : ∀ a ∈ fp, ∀ o, H a = some o → H' a = some o) (h : Own K S H a fp x) : Own K S' H' a fp x := by
  cases x with
  | d x => exact h
  | l ds => obtain ⟨h0, vs, h1, h2⟩ := h; exact ⟨h0, vs, k a (by rw [h0]; exact .head _) _ h1, RpA.mono e _ _ h2⟩
  | k kvs => obtain ⟨h0, vs, h1, h2⟩ := h; exact ⟨h0, vs, k a (by rw [h0]; exact .head _) _ h1, kvRel.mono e h2⟩
  | ll xss =>
    obtain ⟨bs, h1, h2, h3, h4⟩ := h
    exact ⟨bs, h1, h2, k a (by rw [h1]; exact .head _) _ h3, LLs.keep e (fun a ha => k a (by rw [h1]; exact .tail _ ha)) h4⟩
  | o c fs => exact OwnI.keep e k h
  | me c fs => exact OwnI.keep e k h
  | ro c fs => exact h
  | pl xs => exact h
  | tp ps => obtain ⟨bs, vs, h1, h2, h3, h4⟩ := h; exact ⟨bs, vs, h1, h2, k a (by rw [h1]; exact .head _) _ h3, TpR.keep e (fun a ha => k a (by rw [h1]; exact .tail _ ha)) h4⟩
theorem Sl.keep (e : Same S S') {v : V} {fp : List Addr} {x : SV} (k : ∀ a ∈ fp, ∀ o, H a = some o → H' a = some o) (n : ∀ b, G.H b ≠ none → S b = none → S' b = none) (h : Sl K G S H v fp x) : Sl K G S' H' v fp x := by
  cases x with
  | ro c fs => obtain ⟨h0, a, f0, h1, h2, h3⟩ := h; exact ⟨h0, a, f0, h1, OwnI.keep e (fun _ _ _ q => q) h2, fun b hb => ⟨n b (h3 b hb).2.1 (h3 b hb).1, (h3 b hb).2⟩⟩
  | tp ds => obtain ⟨a, h1, h2⟩ := h; exact ⟨a, h1, h2.keep e k⟩
  | pl xs => obtain ⟨h0, a, vs, h1, h2, h3, h4, h5⟩ := h; exact ⟨h0, a, vs, h1, h2, n _ (by rw [h4]; intro z; cases z) h3, h4, RpA.mono e _ _ h5⟩
  | d x => exact Rp.mono e _ _ h
  | me c fs => exact ⟨h.1, Own.keep e k h.2⟩
  | l ds => obtain ⟨a, h1, h2⟩ := h; exact ⟨a, h1, h2.keep e k⟩
  | k ds => obtain ⟨a, h1, h2⟩ := h; exact ⟨a, h1, h2.keep e k⟩
  | ll ds => obtain ⟨a, h1, h2⟩ := h; exact ⟨a, h1, h2.keep e k⟩
  | o c ds => obtain ⟨a, h1, h2⟩ := h; exact ⟨a, h1, h2.keep e k⟩
theorem Ext.none (e : Ext S H S' H') {a : Addr} (hs : S a = none) (hh : H a ≠ .none) : S' a = .none := by
  cases q : S' a with
  | none => rfl
  | some o =>
    rcases e.new a o q with z | z
    · rw [hs] at z; cases z
    · exact absurd z hh
theorem same_ne (e : Same H H') {a : Addr} (h : H a ≠ none) : H' a ≠ none := by
  cases q : H a with
  | none => exact absurd q h
  | some o => rw [e a o q]; intro z; cases z
theorem RelF.ext (r : RelF K G φ S σ ρ H) (e : Ext S H S' H') : RelF K G φ S' σ ρ H' where
  len := r.len
  inn := e.inn
  ent := r.ent.trans e.all
  entS := r.entS.trans e.sub
  new := fun a o h => by
    rcases e.new a o h with z | z
    · exact r.new a o z
    · exact .inr ⟨r.ent.free z, fun hp => (r.gp a hp).2.2 z⟩
  gp := fun a ha => ⟨(r.gp a ha).1, e.none (r.gp a ha).2.1 (r.gp a ha).2.2, same_ne e.all (r.gp a ha).2.2⟩
  slot := fun i x h => by
    obtain ⟨v, h1, h2⟩ := r.slot i x h
    exact ⟨v, h1, h2.keep e.sub (fun a _ o q => e.all a o q) fun b hb hn => e.none hn (same_ne r.ent hb)⟩
  fr := fun i a ha => ⟨e.none (r.fr i a ha).1 (r.fr i a ha).2.2, (r.fr i a ha).2.1, same_ne e.all (r.fr i a ha).2.2⟩
  dj := r.dj
  pp := r.pp
theorem Rel.ext (r : Rel K G S σ ρ H) (e : Ext S H S' H') : Rel K G S' σ ρ H' := let ⟨φ, r⟩ := r; ⟨φ, r.ext e⟩
def φset (φ : Nat → List Addr) (i : Nat) (fp : List Addr) : Nat → List Addr := fun j => if j = i then fp else φ j
theorem φset_same {i : Nat} {fp : List Addr} : φset φ i fp i = fp := if_pos rfl
theorem φset_ne {i j : Nat} {fp : List Addr} (h : i ≠ j) : φset φ i fp j = φ j := if_neg fun e => h e.symm
/-- a slot gets another value; what it owns from then on was its own before, or is new -/
theorem RelF.set (r : RelF K G φ S σ ρ H) {i : Nat} {x : SV} {v : V} {fp : List Addr} (k : ∀ a o, a ∉ φ i → H a = some o → H' a = some o) (sub : Same S S') (inn : Same S' H')
    (new : ∀ a o, S' a = some o → S a = some o ∨ (H a = none ∧ a ∉ φ i) ∨ (a ∈ φ i ∧ a ∉ G.P)) (there : ∀ a ∈ φ i, H' a ≠ none) (hfp : ∀ a ∈ fp, S' a = none ∧ H' a ≠ none ∧ (a ∈ φ i ∨ H a = none))
    (hq : ∀ a ∈ fp, a ∈ G.P → i < ρ.length ∧ ∃ c fs, x = .me c fs)
    (hs : Sl K G S' H' v fp x) : RelF K G (φset φ i fp) S' (σ.set i (some v)) (ρ.set i (some x)) H' where
  len := by simp only [List.length_set]; exact r.len
  inn := inn
  ent := fun a o q => k a o (fun ha => by rw [(r.fr i a ha).2.1] at q; cases q) (r.ent a o q)
  entS := r.entS.trans sub
  new := fun a o h => by
    rcases new a o h with z | ⟨z, _⟩ | ⟨z, z'⟩
    · exact r.new a o z
    · exact .inr ⟨r.ent.free z, fun hp => (r.gp a hp).2.2 z⟩
    · exact .inr ⟨(r.fr i a z).2.1, z'⟩
  gp := fun a ha => by
    obtain ⟨g1, g2, g3⟩ := r.gp a ha
    refine ⟨g1, ?_, ?_⟩
    · cases q : S' a with
      | none => rfl
      | some o =>
        rcases new a o q with z | ⟨z, _⟩ | ⟨z, z'⟩
        · rw [g2] at z; cases z
        · exact absurd z g3
        · exact absurd ha z'
    · by_cases hm : a ∈ φ i
      · exact there a hm
      · cases q : H a with
        | none => exact absurd q g3
        | some o => rw [k a o hm q]; intro z; cases z
  slot := fun j y hj => by
    by_cases e : i = j
    · subst e
      by_cases hl : i < ρ.length
      · rw [List.getElem?_set_self hl] at hj
        cases hj
        exact ⟨v, List.getElem?_set_self (by rw [r.len]; exact hl), by rw [φset_same]; exact hs⟩
      · rw [List.getElem?_eq_none (by simpa using hl)] at hj; cases hj
    · rw [List.getElem?_set_ne e] at hj ⊢
      rw [φset_ne e]
      obtain ⟨u, h1, h2⟩ := r.slot j y hj
      exact ⟨u, h1, h2.keep sub (fun a ha o q => k a o (r.dj j i a (fun z => e z.symm) ha) q) fun b hb hn => by
        cases q : S' b with
        | none => rfl
        | some o =>
          rcases new b o q with z | ⟨z, _⟩ | ⟨z, _⟩
          · rw [hn] at z; cases z
          · exact absurd z (same_ne r.ent hb)
          · exact absurd (r.fr i b z).2.1 hb⟩
  fr := fun j a ha => by
    by_cases e : i = j
    · subst e
      rw [φset_same] at ha
      obtain ⟨h1, h2, h3⟩ := hfp a ha
      refine ⟨h1, ?_, h2⟩
      rcases h3 with z | z
      · exact (r.fr i a z).2.1
      · exact r.ent.free z
    · rw [φset_ne e] at ha
      obtain ⟨h1, h2, h3⟩ := r.fr j a ha
      have hn : a ∉ φ i := r.dj j i a (fun z => e z.symm) ha
      refine ⟨?_, h2, ?_⟩
      · cases q : S' a with
        | none => rfl
        | some o =>
          rcases new a o q with z | ⟨z, _⟩ | ⟨z, _⟩
          · rw [h1] at z; cases z
          · exact absurd z h3
          · exact absurd z hn
      · cases q : H a with
        | none => exact absurd q h3
        | some o => rw [k a o hn q]; intro z; cases z
  dj := fun j l a hjl hj hl => by
    by_cases e1 : i = j
    · subst e1
      rw [φset_same] at hj
      rw [φset_ne hjl] at hl
      rcases (hfp a hj).2.2 with z | z
      · exact r.dj i l a hjl z hl
      · exact (r.fr l a hl).2.2 z
    · by_cases e2 : i = l
      · subst e2
        rw [φset_same] at hl
        rw [φset_ne e1] at hj
        rcases (hfp a hl).2.2 with z | z
        · exact r.dj j i a hjl hj z
        · exact (r.fr j a hj).2.2 z
      · rw [φset_ne e1] at hj
        rw [φset_ne e2] at hl
        exact r.dj j l a hjl hj hl
  pp := fun j a hj hp => by
    by_cases e1 : i = j
    · subst e1
      rw [φset_same] at hj
      obtain ⟨hl, c, fs, rfl⟩ := hq a hj hp
      exact ⟨c, fs, List.getElem?_set_self hl⟩
    · rw [φset_ne e1] at hj
      rw [List.getElem?_set_ne e1]
      exact r.pp j a hj hp
/-- data is put at a slot -/
theorem Rel.setD (r : Rel K G S σ ρ H) {v : V} {x : PD} (h : Rp K S v x) (i : Nat) : Rel K G S (σ.set i (some v)) (ρ.set i (some (.d x))) H := by
  obtain ⟨φ, r⟩ := r
  exact ⟨_, r.set (fp := []) (fun _ _ _ q => q) (Same.refl _) r.inn (fun _ _ q => .inl q) (fun a ha => (r.fr i a ha).2.2) (fun a ha => nomatch ha) (fun a ha => nomatch ha) h⟩
/-- a slot is forgotten -/
theorem Rel.forget (r : Rel K G S σ ρ H) (i : Nat) (w : Option V) : Rel K G S (σ.set i w) (ρ.set i none) H := by
  obtain ⟨φ, r⟩ := r
  have hm : ∀ j a, a ∈ φset φ i [] j → j ≠ i ∧ a ∈ φ j := fun j a ha => by
    by_cases e : i = j
    · subst e; rw [φset_same] at ha; cases ha
    · rw [φset_ne e] at ha; exact ⟨fun z => e z.symm, ha⟩
  refine ⟨φset φ i [], ?_, r.inn, r.ent, r.entS, r.new, r.gp, fun j y hj => ?_, fun j a ha => r.fr j a (hm j a ha).2, fun j l a e h1 h2 => r.dj j l a e (hm j a h1).2 (hm l a h2).2, fun j a ha hp => ?_⟩
  · simp only [List.length_set]; exact r.len
  · by_cases e : i = j
    · subst e
      by_cases hl : i < ρ.length
      · rw [List.getElem?_set_self hl] at hj; cases hj
      · rw [List.getElem?_eq_none (by simpa using hl)] at hj; cases hj
    · rw [List.getElem?_set_ne e] at hj ⊢
      rw [φset_ne e]
      exact r.slot j y hj
  · obtain ⟨h1, h2⟩ := hm j a ha
    rw [List.getElem?_set_ne (fun z => h1 z.symm)]
    exact r.pp j a h2 hp
/-- a new thing of one's own is put at a slot -/
theorem Rel.newP (r : Rel K G S σ ρ H) (e : Ext S H S' H') {v : V} {x : SV} {fp : List Addr} (hfp : ∀ a ∈ fp, H a = none ∧ S' a = none ∧ H' a ≠ none) (hs : Sl K G S' H' v fp x) (i : Nat) : Rel K G S' (σ.set i (some v)) (ρ.set i (some x)) H' := by
  obtain ⟨φ, r⟩ := r
  exact ⟨_, r.set (fun a o _ q => e.all a o q) e.sub e.inn (fun a o q => by
    rcases e.new a o q with z | z
    · exact .inl z
    · exact .inr (.inl ⟨z, fun hm => (r.fr i a hm).2.2 z⟩)) (fun a ha => same_ne e.all (r.fr i a ha).2.2) (fun a ha => ⟨(hfp a ha).2.1, (hfp a ha).2.2, .inr (hfp a ha).1⟩)
    (fun a ha hp => absurd (hfp a ha).1 (r.gp a hp).2.2) hs⟩
theorem ne_some {o : HO} {x : Option HO} (h : x = some o) : x ≠ none := by rw [h]; intro z; cases z
theorem Rel.newO (r : Rel K G S σ ρ H) {D : Addr} {x : SV} (e : Ext S H S' H') (hD : H D = none) (hS : S' D = none) (hH : H' D ≠ none) (ho : Sl K G S' H' (.ref D) [D] x) (i : Nat) : Rel K G S' (σ.set i (some (.ref D))) (ρ.set i (some x)) H' :=
  r.newP e (fun a ha => by rw [List.mem_singleton] at ha; subst ha; exact ⟨hD, hS, hH⟩) ho i
theorem set_self {α : Type} {l : List α} {i : Nat} {x : α} (h : l[i]? = some x) : l.set i x = l := by
  apply List.ext_getElem?
  intro j
  by_cases e : i = j
  · subst e
    rw [List.getElem?_set_self (List.getElem?_eq_some_iff.mp h).1, h]
  · rw [List.getElem?_set_ne e]
/-- what a slot owns that is not the running method's own -/
theorem RelF.nop (r : RelF K G φ S σ ρ H) {i : Nat} {x : SV} (hi : ρ[i]? = some (some x)) (hx : ∀ c fs, x ≠ .me c fs) : ∀ a ∈ φ i, a ∉ G.P := fun a ha hp => by
  obtain ⟨c, fs, e⟩ := r.pp i a ha hp
  rw [hi] at e
  cases e
  exact hx c fs rfl
/-- a list of one's own changes -/
theorem Rel.changeL (r : Rel K G S σ ρ H) {i : Nat} {ds es : List PD} {vs : List V} (hi : ρ[i]? = some (some (.l ds))) {p : Addr} (hp : σ[i]? = some (some (.ref p))) (ho : RpA K S vs es) : Rel K G S σ (ρ.set i (some (.l es))) (upd H p (.lst vs)) := by
  obtain ⟨φ, r⟩ := r
  obtain ⟨v, h1, a, rfl, hf, us, ha, hr⟩ := r.slot i _ hi
  rw [hp] at h1
  cases h1
  have hm : p ∈ φ i := by rw [hf]; exact .head _
  have z := r.set (i := i) (x := .l es) (v := .ref p) (fp := [p]) (S' := S) (H' := upd H p (.lst vs)) (fun a o hn q => by rw [upd_ne (fun e => hn (by rw [e]; exact hm))]; exact q) (Same.refl _)
    (fun a o q => by rw [upd_ne (ne_of_none q (r.fr i p hm).1)]; exact r.inn a o q) (fun _ _ q => .inl q) (fun a ha => by
      rw [hf, List.mem_singleton] at ha; subst ha; rw [upd_same]; intro z; cases z) (fun a ha => by
      rw [List.mem_singleton] at ha; subst ha; exact ⟨(r.fr i a hm).1, ne_some upd_same, .inl hm⟩) (fun a ha hP => by
      rw [List.mem_singleton] at ha; subst ha; exact absurd hP (r.nop hi (fun _ _ z => by cases z) a hm)) ⟨p, rfl, rfl, vs, upd_same, ho⟩
  rw [set_self hp] at z
  exact ⟨_, z⟩
/-- a list of one's own is known from here on -/
theorem Rel.known {ds : List PD} {i : Nat} (r : Rel K G S σ ρ H) (hi : ρ[i]? = some (some (.l ds))) : ∃ a vs, σ[i]? = some (some (.ref a)) ∧ S a = none ∧ H a = some (.lst vs) ∧ RpA K S vs ds ∧ Rel K G (upd S a (.lst vs)) σ (ρ.set i (some (.d (.list ds)))) H := by
  obtain ⟨φ, r⟩ := r
  obtain ⟨v, h1, a, rfl, hf, vs, ha, hr⟩ := r.slot i _ hi
  have hm : a ∈ φ i := by rw [hf]; exact .head _
  obtain ⟨f1, f2, f3⟩ := r.fr i a hm
  have hP := r.nop hi (fun _ _ z => by cases z) a hm
  have sub : Same S (upd S a (.lst vs)) := fun b o e => by rw [upd_ne (ne_of_none e f1)]; exact e
  refine ⟨a, vs, h1, f1, ha, hr, φset φ i [], ?_⟩
  have z := r.set (i := i) (x := .d (.list ds)) (v := .ref a) (fp := []) (S' := upd S a (.lst vs)) (H' := H) (fun _ _ _ q => q) sub (fun b o e => by
      by_cases hb : b = a
      · subst hb; rw [upd_same] at e; cases e; exact ha
      · rw [upd_ne hb] at e; exact r.inn b o e) (fun b o e => by
      by_cases hb : b = a
      · subst hb; exact .inr (.inr ⟨hm, hP⟩)
      · rw [upd_ne hb] at e; exact .inl e) (fun b hb => (r.fr i b hb).2.2) (fun b hb => nomatch hb) (fun b hb => nomatch hb) (.lst (SqL.of upd_same) (RpA.mono sub _ _ hr))
  rw [set_self h1] at z
  exact z
end
end DL

set_option Elab.async false
set_option linter.all false
set_option maxRecDepth 100000
set_option maxHeartbeats 4000000
set_option autoImplicit false
/-! the data layer 2: readings that compute -/
namespace DL
open PySem L2

/-! ### weaker readings -/
section
variable {X : Cx}
theorem PEimp {e : Expr} {t t' : TE} (h : PE X e t) (i : ∀ σ H Q, t' σ H Q → t σ H Q) : PE X e t' := ⟨fun pins s σ H Q I q => h.run pins s σ H Q I (i σ H Q q)⟩
theorem PTimp {e : Expr} {t t' : TT} (h : PT X e t) (i : ∀ σ H Q, t' σ H Q → t σ H Q) : PT X e t' := ⟨fun pins s σ H Q I q => h.run pins s σ H Q I (i σ H Q q)⟩
theorem PWimp {e : Expr} {t t' : TT} (h : PW X e t) (i : ∀ σ H Q, t' σ H Q → t σ H Q) : PW X e t' := ⟨fun w pins s σ H Q I q => h.run w pins s σ H Q I (i σ H Q q)⟩
theorem PAimp {e : List Expr} {t t' : TA} (h : PA X e t) (i : ∀ σ H Q, t' σ H Q → t σ H Q) : PA X e t' := ⟨fun pos pins s σ H Q I q => h.run pos pins s σ H Q I (i σ H Q q)⟩
theorem PSimp {e : Stmt} {t t' : TS} (h : PS X e t) (i : ∀ D σ H, t' D σ H → t D σ H) : PS X e t' := ⟨fun pins s σ H D I q => h.run pins s σ H D I (i D σ H q)⟩
theorem PSsimp {e : List Stmt} {t t' : TS} (h : PSs X e t) (i : ∀ D σ H, t' D σ H → t D σ H) : PSs X e t' := ⟨fun pins s σ H D I q => h.run pins s σ H D I (i D σ H q)⟩
theorem PIimp {tg e : Expr} {t t' : TI} (h : PI X tg e t) (i : ∀ σ H Q, t' σ H Q → t σ H Q) : PI X tg e t' := ⟨fun pins s σ H Q I q => h.run pins s σ H Q I (i σ H Q q)⟩
end

/-! ### what is wanted of an outcome -/
abbrev MG := Str → Option Value
def wG {A B : Type} (rp : Hp → B → A → Prop) (mg : MG) (W : WX) (σ : St) (S H : Hp) (Q : B → Hp → Prop) : R A → Prop
  | .ok a => ∀ b S' H', Ext S H S' H' → rp S' b a → Q b H'
  | .ex c => ∀ cls S' H', mg c = some cls → Ext S H S' H' → W cls none σ H'
  | .no => False
theorem wG.mono {A B : Type} {rp : Hp → B → A → Prop} {mg : MG} {W : WX} {σ : St} {S H S1 H1 : Hp} {Q : B → Hp → Prop} {r : R A} (e : Ext S H S1 H1) (h : wG rp mg W σ S H Q r) : wG rp mg W σ S1 H1 Q r := by
  cases r with
  | ok a => exact fun b S' H' e' x => h b S' H' (e.trans e') x
  | ex c => exact fun cls S' H' m e' => h cls S' H' m (e.trans e')
  | no => exact h
theorem wG.imp {A B : Type} {rp : Hp → B → A → Prop} {mg : MG} {W : WX} {σ : St} {S H : Hp} {Q Q' : B → Hp → Prop} {r : R A} (i : ∀ b H, Q b H → Q' b H) (h : wG rp mg W σ S H Q r) : wG rp mg W σ S H Q' r := by
  cases r with
  | ok a => exact fun b S' H' e' x => i b H' (h b S' H' e' x)
  | ex c => exact h
  | no => exact h
theorem wG.bind {A B A' B' : Type} {rp : Hp → B → A → Prop} {rp' : Hp → B' → A' → Prop} {mg : MG} {W : WX} {σ : St} {S H : Hp} {Q : B' → Hp → Prop} {r : R A} {k : A → R A'} (h : wG rp' mg W σ S H Q (r.bind k)) :
    wG rp mg W σ S H (fun b H1 => ∃ S1 a, Ext S H S1 H1 ∧ rp S1 b a ∧ wG rp' mg W σ S1 H1 Q (k a)) r := by
  cases r with
  | ok a => exact fun b S' H' e x => ⟨S', a, e, x, h.mono e⟩
  | ex c => exact h
  | no => exact h
def tG {A B : Type} (rp : Hp → B → A → Prop) (K : PySem.W.Frag) (mg : MG) (W : WX) (f : En → R A) : St → Hp → (B → Hp → Prop) → Prop := fun σ H Q => ∃ G ρ S, Rel K G S σ ρ H ∧ wG rp mg W σ S H Q (f ρ)
abbrev tD (K : PySem.W.Frag) (mg : MG) (W : WX) (f : En → R PD) : TE := tG (Rp K) K mg W f
def rpB : Hp → Bool → Bool → Prop := fun _ b a => b = a
abbrev tDT (K : PySem.W.Frag) (mg : MG) (W : WX) (f : En → R Bool) : TT := tG rpB K mg W f
abbrev tDA (K : PySem.W.Frag) (mg : MG) (W : WX) (f : En → R (List PD)) : TA := tG (RpA K) K mg W f
theorem tG.mk {A B : Type} {rp : Hp → B → A → Prop} {K : PySem.W.Frag} {mg : MG} {W : WX} {f : En → R A} {G : F} {ρ : En} {S H : Hp} {σ : St} {Q : B → Hp → Prop} (r : Rel K G S σ ρ H) (h : wG rp mg W σ S H Q (f ρ)) : tG rp K mg W f σ H Q := ⟨G, ρ, S, r, h⟩

/-! ### combinators of computations -/
def dC (d : PD) : En → R PD := fun _ => .ok d
def dV (i : Nat) : En → R PD := fun ρ => match ρ[i]? with
  | some (some (.d d)) => .ok d
  | _ => .no
def d1 (g : PD → R PD) (f : En → R PD) : En → R PD := fun ρ => (f ρ).bind g
def d2 (g : PD → PD → R PD) (f1 f2 : En → R PD) : En → R PD := fun ρ => (f1 ρ).bind fun a => (f2 ρ).bind fun b => g a b
def dNil : En → R (List PD) := fun _ => .ok []
def dCons (f : En → R PD) (g : En → R (List PD)) : En → R (List PD) := fun ρ => (f ρ).bind fun a => (g ρ).bind fun as => .ok (a :: as)
def dA (g : List PD → R PD) (f : En → R (List PD)) : En → R PD := fun ρ => (f ρ).bind g
def toB : PD → R Bool
  | .bool b => .ok b
  | _ => .no
def dT (f : En → R PD) : En → R Bool := fun ρ => (f ρ).bind toB
def dAnd (f g : En → R Bool) : En → R Bool := fun ρ => (f ρ).bind fun a => if a = true then g ρ else .ok false
def dOr (f g : En → R Bool) : En → R Bool := fun ρ => (f ρ).bind fun a => if a = true then .ok true else g ρ
def dNot (f : En → R Bool) : En → R Bool := fun ρ => (f ρ).bind fun a => .ok (!a)
section
variable {X : Cx} {W : WX} {f f1 f2 : En → R PD} {a b e : Expr} {pos : Pos}
theorem pd_int {i : Int} {j} : PE X (.Constant (.int i) j pos) (tD X.K X.mg W (dC (.int i))) := PEimp pe_int fun σ H Q ⟨G, ρ, S, r, h⟩ => h (.int i) S H (Ext.refl r.inn) (.int i)
theorem pd_bl {i : Bool} {j} : PE X (.Constant (.bool i) j pos) (tD X.K X.mg W (dC (.bool i))) := PEimp pe_bl fun σ H Q ⟨G, ρ, S, r, h⟩ => h (.bl i) S H (Ext.refl r.inn) (.bl i)
theorem tVar_of {i : Nat} {σ : St} {H : Hp} {Q : VK} (h : tD X.K X.mg W (dV i) σ H Q) : tVar i σ H Q := by
  obtain ⟨G, ρ, S, r, h⟩ := h
  unfold dV at h
  split at h
  · rename_i d e
    obtain ⟨v, h1, h2⟩ := r.slotD i _ e
    exact ⟨v, h1, h v S H (Ext.refl r.inn) h2⟩
  · exact h.elim
theorem pd_v (i : Nat) {x : Str} (hN : X.N[i]? = some x := by rfl) (hv : Vis X.env.scope x := by first | exact Or.inl rfl | exact Or.inr (Or.inl rfl) | exact Or.inr (Or.inr rfl)) (hd : (x == ("__debug__" : Str)) = false := by decide)
    (hcd : (x == ("__classdict__" : Str)) = false := by decide) : PE X (.Name x pos) (tD X.K X.mg W (dV i)) := PEimp (pe_var hN hv hd hcd) fun _ _ _ h => tVar_of h
/-- a two-place operator, by its work on data -/
def OpD (X : Cx) (fn : Value → Value → Sem Value) (g : PD → PD → R PD) : Prop :=
  OpR X fn fun x y H Q => ∃ S a b, Same S H ∧ Rp X.K S x a ∧ Rp X.K S y b ∧ match g a b with
    | .ok d => ∀ v S' H', Ext S H S' H' → Rp X.K S' v d → Q v H'
    | _ => False
theorem d2_of {r : R2} {g : PD → PD → R PD} (hr : ∀ x y H Q, (∃ S a b, Same S H ∧ Rp X.K S x a ∧ Rp X.K S y b ∧ match g a b with
    | .ok d => ∀ v S' H', Ext S H S' H' → Rp X.K S' v d → Q v H'
    | _ => False) → r x y H Q) (hn : ∀ a b c, g a b ≠ .ex c) : ∀ σ H Q, tD X.K X.mg W (d2 g f1 f2) σ H Q → tOp r (tD X.K X.mg W f1) (tD X.K X.mg W f2) σ H Q := by
  rintro σ H Q ⟨G, ρ, S, rel, h⟩
  refine tG.mk rel (wG.imp ?_ (wG.bind (rp := Rp X.K) h))
  rintro x H1 ⟨S1, a, e1, ra, h1⟩
  refine tG.mk (rel.ext e1) (wG.imp ?_ (wG.bind (rp := Rp X.K) h1))
  rintro y H2 ⟨S2, b, e2, rb, h2⟩
  refine hr x y H2 Q ⟨S2, a, b, e2.inn, Rp.mono e2.sub _ _ ra, rb, ?_⟩
  cases q : g a b with
  | ok d => rw [q] at h2; exact h2
  | ex c => exact absurd q (hn a b c)
  | no => rw [q] at h2; exact h2
/-- g never raises -/
def NoEx (g : PD → PD → R PD) : Prop := ∀ a b c, g a b ≠ .ex c
theorem pd_bin {op : Operator} {g : PD → PD → R PD} (ho : OpD X (binaryOp op) g) (hn : NoEx g) (ha : PE X a (tD X.K X.mg W f1)) (hb : PE X b (tD X.K X.mg W f2)) : PE X (.BinOp a op b pos) (tD X.K X.mg W (d2 g f1 f2)) :=
  PEimp (pe_op ho ha hb) (d2_of (fun _ _ _ _ h => h) hn)
theorem pd_cmp {op : CmpOp} {g : PD → PD → R PD} (ho : OpD X (compareOp op) g) (hn : NoEx g) (ha : PE X a (tD X.K X.mg W f1)) (hb : PE X b (tD X.K X.mg W f2)) (h1 : behindInMarks op b = false := by first | exact nobehind _ (by decide) (by decide) | rfl) :
    PE X (.Compare a [op] [b] pos) (tD X.K X.mg W (d2 g f1 f2)) := PEimp (pe_cmpR ho ha hb h1) (d2_of (fun _ _ _ _ h => h) hn)

/-! tests -/
theorem dT_of {t : TE} (ht : ∀ σ H Q, tD X.K X.mg W f σ H Q → t σ H Q) : ∀ σ H Q, tDT X.K X.mg W (dT f) σ H Q → tB t σ H Q := by
  rintro σ H Q ⟨G, ρ, S, rel, h⟩
  refine ht σ H _ (tG.mk rel (wG.imp ?_ (wG.bind (rp := Rp X.K) h)))
  rintro x H1 ⟨S1, a, e1, ra, h1⟩
  cases a with
  | bool c =>
    cases ra
    exact ⟨c, rfl, h1 c S1 H1 (Ext.refl e1.inn) rfl⟩
  | _ => exact h1.elim
/-- any expression that gives a bool, as a test -/
theorem pt_d (h : PE X e (tD X.K X.mg W f)) (he : ∀ whole, isTrue e X.env whole = (do let v ← whole; standAt e.pos; holding [v] (truthy v)) := by intro _; rfl) : PT X e (tDT X.K X.mg W (dT f)) := PTimp (pt_val h he) (dT_of fun _ _ _ h => h)
theorem pt_cmpd {op : CmpOp} {g : PD → PD → R PD} (ho : OpD X (compareOp op) g) (hn : NoEx g) (ha : PE X a (tD X.K X.mg W f1)) (hb : PE X b (tD X.K X.mg W f2)) (h1 : behindInMarks op b = false := by first | exact nobehind _ (by decide) (by decide) | rfl) :
    PT X (.Compare a [op] [b] pos) (tDT X.K X.mg W (dT (d2 g f1 f2))) := PTimp (pt_cmpR ho ha hb h1) (dT_of (d2_of (fun _ _ _ _ h => h) hn))
variable {t1 t2 : En → R Bool} {rest : List Expr}
theorem tAnd_of : ∀ σ H Q, tDT X.K X.mg W (dAnd t1 t2) σ H Q → tAnd (tDT X.K X.mg W t1) (tDT X.K X.mg W t2) σ H Q := by
  rintro σ H Q ⟨G, ρ, S, rel, h⟩
  refine tG.mk rel (wG.imp ?_ (wG.bind (rp := rpB) h))
  rintro x H1 ⟨S1, a, e1, ra, h1⟩
  cases ra
  cases x with
  | true => exact tG.mk (rel.ext e1) h1
  | false => exact h1 false S1 H1 (Ext.refl e1.inn) rfl
theorem tOr_of : ∀ σ H Q, tDT X.K X.mg W (dOr t1 t2) σ H Q → tOr (tDT X.K X.mg W t1) (tDT X.K X.mg W t2) σ H Q := by
  rintro σ H Q ⟨G, ρ, S, rel, h⟩
  refine tG.mk rel (wG.imp ?_ (wG.bind (rp := rpB) h))
  rintro x H1 ⟨S1, a, e1, ra, h1⟩
  cases ra
  cases x with
  | false => exact tG.mk (rel.ext e1) h1
  | true => exact h1 true S1 H1 (Ext.refl e1.inn) rfl
theorem pw_d1 (ha : PT X a (tDT X.K X.mg W t1)) : PW X (.BoolOp .And [a] pos) (tDT X.K X.mg W t1) := pw_and1 ha
theorem pw_o1 (ha : PT X a (tDT X.K X.mg W t1)) : PW X (.BoolOp .Or [a] pos) (tDT X.K X.mg W t1) := pw_or1 ha
theorem pw_dand (ha : PT X a (tDT X.K X.mg W t1)) (hb : PW X (.BoolOp .And (b :: rest) pos) (tDT X.K X.mg W t2)) : PW X (.BoolOp .And (a :: b :: rest) pos) (tDT X.K X.mg W (dAnd t1 t2)) := PWimp (pw_and ha hb) tAnd_of
theorem pw_dor (ha : PT X a (tDT X.K X.mg W t1)) (hb : PW X (.BoolOp .Or (b :: rest) pos) (tDT X.K X.mg W t2)) : PW X (.BoolOp .Or (a :: b :: rest) pos) (tDT X.K X.mg W (dOr t1 t2)) := PWimp (pw_or ha hb) tOr_of
theorem pt_dnot (ha : PT X a (tDT X.K X.mg W t1)) : PT X (.UnaryOp .Not a pos) (tDT X.K X.mg W (dNot t1)) := PTimp (pt_not ha) fun σ H Q ⟨G, ρ, S, rel, h⟩ =>
  tG.mk rel (wG.imp (fun x H1 ⟨S1, a, e1, ra, h1⟩ => by cases ra; exact h1 (!x) S1 H1 (Ext.refl e1.inn) rfl) (wG.bind (rp := rpB) h))
/-! the same as values: each operand a bool -/
theorem pe_d1 {op} (ha : PE X a (tD X.K X.mg W f)) : PE X (.BoolOp op [a] pos) (tD X.K X.mg W f) := pe_one ha
def dAndV (f g : En → R PD) : En → R PD := fun ρ => (f ρ).bind fun a => (toB a).bind fun c => if c = true then g ρ else .ok (.bool false)
def dNotV (f : En → R PD) : En → R PD := fun ρ => (f ρ).bind fun a => (toB a).bind fun c => .ok (.bool (!c))
theorem pe_dand (ha : PE X a (tD X.K X.mg W f1)) (hb : PE X (.BoolOp .And (b :: rest) pos) (tD X.K X.mg W f2)) : PE X (.BoolOp .And (a :: b :: rest) pos) (tD X.K X.mg W (dAndV f1 f2)) := PEimp (pe_and ha hb) fun σ H Q ⟨G, ρ, S, rel, h⟩ =>
  tG.mk rel (wG.imp (fun x H1 ⟨S1, a, e1, ra, h1⟩ => by
    cases a with
    | bool c =>
      cases ra
      refine ⟨c, rfl, ?_⟩
      cases c with
      | true => exact tG.mk (rel.ext e1) h1
      | false => exact h1 (.bl false) S1 H1 (Ext.refl e1.inn) (.bl false)
    | _ => exact h1.elim) (wG.bind (rp := Rp X.K) h))
theorem pe_dnot (ha : PE X a (tD X.K X.mg W f)) : PE X (.UnaryOp .Not a pos) (tD X.K X.mg W (dNotV f)) := PEimp (pe_not ha) fun σ H Q ⟨G, ρ, S, rel, h⟩ =>
  tG.mk rel (wG.imp (fun x H1 ⟨S1, a, e1, ra, h1⟩ => by
    cases a with
    | bool c =>
      cases ra
      exact ⟨c, rfl, h1 (.bl (!c)) S1 H1 (Ext.refl e1.inn) (.bl _)⟩
    | _ => exact h1.elim) (wG.bind (rp := Rp X.K) h))
/-! argument lists -/
variable {fs : En → R (List PD)} {es : List Expr}
theorem pad_nil : PA X [] (tDA X.K X.mg W dNil) := PAimp pa_nil fun σ H Q ⟨G, ρ, S, r, h⟩ => h [] S H (Ext.refl r.inn) .nil
theorem pad_cons (ha : PE X e (tD X.K X.mg W f)) (hr : PA X es (tDA X.K X.mg W fs)) (hs : starEach (e :: es) X.env = (false, eval e X.env) :: starEach es X.env := by rfl) : PA X (e :: es) (tDA X.K X.mg W (dCons f fs)) :=
  PAimp (pa_cons ha hr hs) fun σ H Q ⟨G, ρ, S, rel, h⟩ => by
    refine tG.mk rel (wG.imp ?_ (wG.bind (rp := Rp X.K) h))
    rintro x H1 ⟨S1, a, e1, ra, h1⟩
    refine tG.mk (rel.ext e1) (wG.imp ?_ (wG.bind (rp := RpA X.K) h1))
    rintro xs H2 ⟨S2, as, e2, ras, h2⟩
    exact h2 (x :: xs) S2 H2 (Ext.refl e2.inn) (.cons (Rp.mono e2.sub _ _ ra) ras)
/-- (a, b, ..) -/
def gTupD (ds : List PD) : R PD := if ds.length ≤ 1000 then .ok (.tuple ds) else .no
def gLstD (ds : List PD) : R PD := if ds.length ≤ 1000 then .ok (.list ds) else .no
theorem le_line {n : Nat} (h : n ≤ 1000) : n ≤ sizeLine := Nat.le_trans h (by decide)
theorem pd_tup {x1} (h : PA X es (tDA X.K X.mg W fs)) : PE X (.Tuple es x1 pos) (tD X.K X.mg W (dA gTupD fs)) := PEimp (pe_tup h) fun σ H Q ⟨G, ρ, S, rel, h⟩ => by
  refine tG.mk rel (wG.imp ?_ (wG.bind (rp := RpA X.K) h))
  rintro xs H1 ⟨S1, as, e1, ra, h1⟩
  unfold gTupD at h1
  by_cases hl : as.length ≤ 1000
  · rw [if_pos hl] at h1
    refine ⟨by rw [ra.length]; exact le_line hl, fun p hp => ?_⟩
    have e2 : Ext S1 H1 (upd S1 p (.tup xs)) (upd H1 p (.tup xs)) := Ext.known e1.inn hp
    exact h1 _ _ _ e2 (.tup (SqT.of upd_same) (RpA.mono e2.sub _ _ ra))
  · rw [if_neg hl] at h1; exact h1.elim
theorem pd_lst (h : PA X es (tDA X.K X.mg W fs)) : PE X (.List es pos) (tD X.K X.mg W (dA gLstD fs)) := PEimp (pe_lst h) fun σ H Q ⟨G, ρ, S, rel, h⟩ => by
  refine tG.mk rel (wG.imp ?_ (wG.bind (rp := RpA X.K) h))
  rintro xs H1 ⟨S1, as, e1, ra, h1⟩
  unfold gLstD at h1
  by_cases hl : as.length ≤ 1000
  · rw [if_pos hl] at h1
    refine ⟨by rw [ra.length]; exact le_line hl, fun p hp => ?_⟩
    have e2 : Ext S1 H1 (upd S1 p (.lst xs)) (upd H1 p (.lst xs)) := Ext.known e1.inn hp
    exact h1 _ _ _ e2 (.lst (SqL.of upd_same) (RpA.mono e2.sub _ _ ra))
  · rw [if_neg hl] at h1; exact h1.elim

/-! calls -/
/-- a def's promise by its work on data: n arguments -/
def spD (K : PySem.W.Frag) (mg : MG) (n : Nat) (g : List PD → R PD) : Sp := fun vs H Q E => ∃ S ds, Same S H ∧ RpA K S vs ds ∧ ds.length = n ∧ match g ds with
  | .ok d => ∀ v S' H', Ext S H S' H' → Rp K S' v d → Q v H'
  | .ex c => ∀ cls S' H', mg c = some cls → Ext S H S' H' → E cls none H'
  | .no => False
def gCall (n : Nat) (ds : List PD) (g : List PD → R PD) (as : List PD) : R PD := if (as ++ ds).length = n then g (as ++ ds) else .no
theorem tCallD_of {n : Nat} {ds : List PD} {dvs : List V} {g : List PD → R PD} (hd : ∀ S, RpA X.K S dvs ds) : ∀ σ H Q, tD X.K X.mg W (dA (gCall n ds g) fs) σ H Q → tCallSD (spD X.K X.mg n g) dvs (fun σ => L2.WE W σ) (tDA X.K X.mg W fs) σ H Q := by
  rintro σ H Q ⟨G, ρ, S, rel, h⟩
  refine tG.mk rel (wG.imp ?_ (wG.bind (rp := RpA X.K) h))
  rintro xs H1 ⟨S1, as, e1, ra, h1⟩
  unfold gCall at h1
  by_cases hl : (as ++ ds).length = n
  · rw [if_pos hl] at h1
    refine ⟨S1, as ++ ds, e1.inn, ra.append (hd S1), hl, ?_⟩
    cases q : g (as ++ ds) with
    | ok d => rw [q] at h1; exact h1
    | ex c => rw [q] at h1; exact h1
    | no => rw [q] at h1; exact h1
  · rw [if_neg hl] at h1; exact h1.elim
end
end DL

set_option Elab.async false
set_option linter.all false
set_option maxRecDepth 100000
set_option maxHeartbeats 4000000
set_option autoImplicit false
/-! the data layer 3: calls, statements, defs -/
namespace DL
open PySem L2

/-- a def that stands by a name of the module, with its promise: k its level, n its parameters, Bs what its defaults may fill up -/
structure FnAt (P : Program) (w : World) (K : PySem.W.Frag) (mg : MG) (base : Heap) (x : Str) (k n : Nat) (Bs : List (List PD)) (g : List PD → R PD) : Prop where
  ex : ∃ (f : Addr) (fd : FuncData) (ps : List Str), FnOk P w K mg base (L2.CX P w) k f fd ps (spD K mg n g) ∧ mg x = some (.ref f) ∧ PySem.W.keepIn K (.ref f) = true ∧
    ∀ ds, ds ∈ Bs → ∃ (us : List Value) (dvs : List V), Binds K fd ps us ∧ Vals dvs us ∧ ∀ S, RpA K S dvs ds
section
variable {X : Cx} {W : WX} {f : En → R PD} {fs : En → R (List PD)} {a b e : Expr} {es : List Expr} {pos p : Pos} {x : Str} {k n : Nat} {Bs : List (List PD)} {ds : List PD} {g : List PD → R PD}
theorem pd_call (Fn : FnAt X.prog X.w X.K X.mg X.base x k n Bs g) (hB : ds ∈ Bs) (hr : Room k X.A) (tk : Takes X W) (hg : Gl X x) (ha : PA X (e :: es) (tDA X.K X.mg W fs))
    (hdb : (x == ("__debug__" : Str)) = false := by decide) (he : starEach (e :: es) X.env = (false, eval e X.env) :: starEach es X.env := by rfl) (hpl : (backTo pos (starEach es X.env)).any (·.1) = false := by rfl) :
    PE X (.Call (.Name x p) (e :: es) [] pos) (tD X.K X.mg W (dA (gCall n ds g) fs)) := by
  obtain ⟨f, fd, ps, hF, hm, hk, hb⟩ := Fn.ex
  obtain ⟨us, dvs, b1, b2, b3⟩ := hb ds hB
  exact PEimp (pe_callSD hF hr hg hm hk b1 b2 (fun σ => passAt tk σ) ha hdb he hpl) (tCallD_of b3)
end

/-! ### statements -/
inductive Fl where
  | nx (ρ : En)
  | rt (d : PD)
  | rm (d : PD) (ρ : En)
  | rv (x : SV)
  | bk (ρ : En)
  | ct (ρ : En)
  | ex (c : Str) (ρ : En)
  | no
def wS (K : PySem.W.Frag) (mg : MG) (W : WX) (G : F) (S : Hp) (D : Ends) : Fl → Prop
  | .nx ρ => ∀ σ S' H, Same S S' → Rel K G S' σ ρ H → D.nx σ H
  | .bk ρ => ∀ σ S' H, Same S S' → Rel K G S' σ ρ H → D.bk σ H
  | .ct ρ => ∀ σ S' H, Same S S' → Rel K G S' σ ρ H → D.ct σ H
  | .rt d => ∀ v S' H, Ext G.S G.H S' H → Rp K S' v d → D.rt v H
  | .rm d ρ => ∀ v σ S' H, Same S S' → Rel K G S' σ ρ H → Rp K S' v d → D.rt v H
  | .rv x => ∀ v fp S' H, Ext G.S G.H S' H → (∀ a ∈ fp, G.H a = none ∧ S' a = none ∧ H a ≠ none) → (∃ a, v = .ref a ∧ Own K S' H a fp x) → D.rt v H
  | .ex c ρ => ∀ cls σ S' H, mg c = some cls → Same S S' → Rel K G S' σ ρ H → W cls none σ H
  | .no => False
def tS (K : PySem.W.Frag) (mg : MG) (W : WX) (f : En → Fl) : TS := fun D σ H => ∃ G ρ S, Rel K G S σ ρ H ∧ wS K mg W G S D (f ρ)
theorem Rel.fin {K : PySem.W.Frag} {G : F} {S H : Hp} {σ : St} {ρ : En} (r : Rel K G S σ ρ H) : Ext G.S G.H S H := ⟨r.entS, r.ent, r.inn, fun a o h => (r.new a o h).imp id (·.1)⟩
theorem wS.mono {K : PySem.W.Frag} {mg : MG} {W : WX} {G : F} {S S1 : Hp} {D : Ends} {r : Fl} (e : Same S S1) (h : wS K mg W G S D r) : wS K mg W G S1 D r := by
  cases r with
  | nx ρ => exact fun σ S' H s q => h σ S' H (e.trans s) q
  | bk ρ => exact fun σ S' H s q => h σ S' H (e.trans s) q
  | ct ρ => exact fun σ S' H s q => h σ S' H (e.trans s) q
  | rt d => exact h
  | rm d ρ => exact fun v σ S' H s q => h v σ S' H (e.trans s) q
  | rv x => exact h
  | ex c ρ => exact fun cls σ S' H m s q => h cls σ S' H m (e.trans s) q
  | no => exact h
/-- other ends -/
theorem wS.imp {K : PySem.W.Frag} {mg : MG} {W : WX} {G : F} {S : Hp} {D D' : Ends} {r : Fl} (h : wS K mg W G S D r) (i1 : ∀ σ H, D.nx σ H → D'.nx σ H) (i2 : ∀ v H, D.rt v H → D'.rt v H) (i3 : ∀ σ H, D.bk σ H → D'.bk σ H) (i4 : ∀ σ H, D.ct σ H → D'.ct σ H) : wS K mg W G S D' r := by
  cases r with
  | nx ρ => exact fun σ S' H s q => i1 _ _ (h σ S' H s q)
  | bk ρ => exact fun σ S' H s q => i3 _ _ (h σ S' H s q)
  | ct ρ => exact fun σ S' H s q => i4 _ _ (h σ S' H s q)
  | rt d => exact fun v S' H s q => i2 _ _ (h v S' H s q)
  | rm d ρ => exact fun v σ S' H s q z => i2 _ _ (h v σ S' H s q z)
  | rv x => exact fun v fp S' H s q z => i2 _ _ (h v fp S' H s q z)
  | ex c ρ => exact h
  | no => exact h
/-- an expression, then what a statement makes of it -/
def sE {A : Type} (f : En → R A) (k : A → En → Fl) : En → Fl := fun ρ => match f ρ with
  | .ok a => k a ρ
  | .ex c => .ex c ρ
  | .no => .no
theorem wS.ofE {A B : Type} {rp : Hp → B → A → Prop} {K : PySem.W.Frag} {mg : MG} {W : WX} {G : F} {S H : Hp} {D : Ends} {σ : St} {ρ : En} {f : En → R A} {k : A → En → Fl} (rel : Rel K G S σ ρ H) (h : wS K mg W G S D (sE f k ρ)) :
    wG rp mg W σ S H (fun b H1 => ∃ S1 a, Ext S H S1 H1 ∧ rp S1 b a ∧ Rel K G S1 σ ρ H1 ∧ wS K mg W G S1 D (k a ρ)) (f ρ) := by
  unfold sE at h
  cases q : f ρ with
  | ok a => rw [q] at h; exact fun b S' H' e x => ⟨S', a, e, x, rel.ext e, h.mono e.sub⟩
  | ex c => rw [q] at h; exact fun cls S' H' m e => h cls σ S' H' m e.sub (rel.ext e)
  | no => rw [q] at h; exact h
def sNx : En → Fl := .nx
def sSeq (f g : En → Fl) : En → Fl := fun ρ => match f ρ with
  | .nx ρ' => g ρ'
  | r => r
def sSet (i : Nat) (f : En → R PD) : En → Fl := sE f fun d ρ => .nx (ρ.set i (some (.d d)))
def sRet (f : En → R PD) : En → Fl := sE f fun d _ => .rt d
def sIf (c : En → R Bool) (f g : En → Fl) : En → Fl := sE c fun b ρ => if b = true then f ρ else g ρ
def sRaise (c : Str) : En → Fl := fun ρ => .ex c ρ
def sPar (i j : Nat) (f g : En → R PD) : En → Fl := sE f fun a => sE g fun b ρ => .nx ((ρ.set i (some (.d a))).set j (some (.d b)))
def whileN (c : En → R Bool) (f : En → Fl) : Nat → En → Fl
  | 0, _ => .no
  | n + 1, ρ => sE c (fun b ρ => if b = true then (match f ρ with
    | .nx ρ' => whileN c f n ρ'
    | .ct ρ' => whileN c f n ρ'
    | .bk ρ' => .nx ρ'
    | r => r) else .nx ρ) ρ
open Classical in
noncomputable def sWhile (c : En → R Bool) (f : En → Fl) : En → Fl := fun ρ => if h : ∃ n, whileN c f n ρ ≠ .no then whileN c f (Classical.choose h) ρ else .no
theorem whileN_more {c : En → R Bool} {f : En → Fl} : ∀ {n m : Nat} {ρ : En}, n ≤ m → whileN c f n ρ ≠ .no → whileN c f m ρ = whileN c f n ρ
  | 0, _, _, _, h => absurd rfl h
  | n + 1, 0, _, h, _ => absurd h (by omega)
  | n + 1, m + 1, ρ, hl, h => by
    have ih : ∀ ρ', whileN c f n ρ' ≠ .no → whileN c f m ρ' = whileN c f n ρ' := fun ρ' => whileN_more (by omega)
    unfold whileN sE at h ⊢
    cases q : c ρ with
    | ok b =>
      rw [q] at h
      cases b with
      | true =>
        simp only [if_true] at h ⊢
        cases q2 : f ρ with
        | nx ρ' => rw [q2] at h; exact ih ρ' h
        | ct ρ' => rw [q2] at h; exact ih ρ' h
        | bk ρ' => rfl
        | rt d => rfl
        | rm d ρ' => rfl
        | rv x => rfl
        | ex c ρ' => rfl
        | no => rfl
      | false => rfl
    | ex c => rfl
    | no => rfl
theorem sWhile_of {c : En → R Bool} {f : En → Fl} {ρ : En} (n : Nat) {r : Fl} (h : whileN c f n ρ = r) (hr : r ≠ .no) : sWhile c f ρ = r := by
  have hx : ∃ n, whileN c f n ρ ≠ .no := ⟨n, by rw [h]; exact hr⟩
  unfold sWhile
  rw [dif_pos hx]
  have h1 := Classical.choose_spec hx
  have h2 : whileN c f n ρ ≠ .no := by rw [h]; exact hr
  rcases Nat.le_total n (Classical.choose hx) with z | z
  · rw [whileN_more z h2, h]
  · rw [← whileN_more z h1, h]
theorem sWhile_at {c : En → R Bool} {f : En → Fl} {ρ : En} (h : sWhile c f ρ ≠ .no) : ∃ n, whileN c f n ρ = sWhile c f ρ := by
  by_cases hx : ∃ n, whileN c f n ρ ≠ .no
  · exact ⟨Classical.choose hx, by unfold sWhile; rw [dif_pos hx]⟩
  · unfold sWhile at h
    rw [dif_neg hx] at h
    exact absurd rfl h
/-- one turn more -/
theorem sWhile_eq {c : En → R Bool} {f : En → Fl} {ρ : En} : sWhile c f ρ = sE c (fun b ρ => if b = true then (match f ρ with
    | .nx ρ' => sWhile c f ρ'
    | .ct ρ' => sWhile c f ρ'
    | .bk ρ' => .nx ρ'
    | r => r) else .nx ρ) ρ := by
  have key : ∀ n, whileN c f (n + 1) ρ ≠ .no → whileN c f (n + 1) ρ = sE c (fun b ρ => if b = true then (match f ρ with
    | .nx ρ' => sWhile c f ρ'
    | .ct ρ' => sWhile c f ρ'
    | .bk ρ' => .nx ρ'
    | r => r) else .nx ρ) ρ := by
    intro n h
    unfold whileN sE at h ⊢
    cases q : c ρ with
    | ok b =>
      rw [q] at h
      cases b with
      | true =>
        simp only [if_true] at h ⊢
        cases q2 : f ρ with
        | nx ρ' => rw [q2] at h; exact (sWhile_of n rfl h).symm
        | ct ρ' => rw [q2] at h; exact (sWhile_of n rfl h).symm
        | bk ρ' => rfl
        | rt d => rfl
        | rm d ρ' => rfl
        | rv x => rfl
        | ex c ρ' => rfl
        | no => rfl
      | false => rfl
    | ex c => rfl
    | no => rfl
  by_cases h : sWhile c f ρ = .no
  · -- neither runs
    rw [h]
    cases q : sE c (fun b ρ => if b = true then (match f ρ with
      | .nx ρ' => sWhile c f ρ'
      | .ct ρ' => sWhile c f ρ'
      | .bk ρ' => .nx ρ'
      | r => r) else .nx ρ) ρ with
    | no => rfl
    | _ =>
      exfalso
      have hx : ∃ n, whileN c f (n + 1) ρ ≠ .no := by
        unfold sE at q
        cases q1 : c ρ with
        | ok b =>
          rw [q1] at q
          cases b with
          | true =>
            simp only [if_true] at q
            cases q2 : f ρ with
            | nx ρ' =>
              rw [q2] at q
              dsimp only at q
              obtain ⟨n, hn⟩ := sWhile_at (c := c) (f := f) (ρ := ρ') (by rw [q]; intro z; cases z)
              refine ⟨n, ?_⟩
              unfold whileN sE
              rw [q1]
              simp only [if_true, q2]
              rw [hn, q]
              intro z; cases z
            | ct ρ' =>
              rw [q2] at q
              dsimp only at q
              obtain ⟨n, hn⟩ := sWhile_at (c := c) (f := f) (ρ := ρ') (by rw [q]; intro z; cases z)
              refine ⟨n, ?_⟩
              unfold whileN sE
              rw [q1]
              simp only [if_true, q2]
              rw [hn, q]
              intro z; cases z
            | bk ρ' => exact ⟨0, by unfold whileN sE; rw [q1]; simp only [if_true, q2]; intro z; cases z⟩
            | rt d => exact ⟨0, by unfold whileN sE; rw [q1]; simp only [if_true, q2]; intro z; cases z⟩
            | rm d ρ' => exact ⟨0, by unfold whileN sE; rw [q1]; simp only [if_true, q2]; intro z; cases z⟩
            | rv x => exact ⟨0, by unfold whileN sE; rw [q1]; simp only [if_true, q2]; intro z; cases z⟩
            | ex c ρ' => exact ⟨0, by unfold whileN sE; rw [q1]; simp only [if_true, q2]; intro z; cases z⟩
            | no => rw [q2] at q; cases q
          | false => exact ⟨0, by unfold whileN sE; rw [q1]; intro z; cases z⟩
        | ex c => exact ⟨0, by unfold whileN sE; rw [q1]; intro z; cases z⟩
        | no => rw [q1] at q; cases q
      obtain ⟨n, hn⟩ := hx
      rw [sWhile_of (n + 1) rfl hn] at h
      exact hn h
  · obtain ⟨n, hn⟩ := sWhile_at h
    cases n with
    | zero => exact absurd hn.symm h
    | succ n => rw [← hn]; exact key n (by rw [hn]; exact h)
section
variable {X : Cx} {W : WX} {f f1 f2 : En → R PD} {c e e2 : Expr} {pos pos' : Pos} {t : En → R Bool} {g h : En → Fl} {st : Stmt} {sts a b : List Stmt} {i j : Nat} {x y : Str}
theorem sd_nil : PSs X [] (tS X.K X.mg W sNx) := PSsimp pss_nil fun D σ H ⟨G, ρ, S, r, q⟩ => q σ S H (Same.refl _) r
theorem tSeq_of {t1 t2 : TS} (i1 : ∀ D σ H, tS X.K X.mg W g D σ H → t1 D σ H) (i2 : ∀ D σ H, tS X.K X.mg W h D σ H → t2 D σ H) : ∀ D σ H, tS X.K X.mg W (sSeq g h) D σ H → tSeq t1 t2 D σ H := by
  rintro D σ H ⟨G, ρ, S, r, q⟩
  refine i1 _ σ H ⟨G, ρ, S, r, ?_⟩
  unfold sSeq at q
  cases z : g ρ with
  | nx ρ' => rw [z] at q; exact fun σ' S' H' s r' => i2 D σ' H' ⟨G, ρ', S', r', q.mono s⟩
  | bk ρ' => rw [z] at q; exact q
  | ct ρ' => rw [z] at q; exact q
  | rt d => rw [z] at q; exact q
  | rm d ρ' => rw [z] at q; exact q
  | rv x => rw [z] at q; exact q
  | ex c ρ' => rw [z] at q; exact q
  | no => rw [z] at q; exact q
theorem sd_cons (h1 : PS X st (tS X.K X.mg W g)) (h2 : PSs X sts (tS X.K X.mg W h)) : PSs X (st :: sts) (tS X.K X.mg W (sSeq g h)) := PSsimp (pss_cons h1 h2) (tSeq_of (fun _ _ _ q => q) fun _ _ _ q => q)
theorem sd_one (h1 : PS X st (tS X.K X.mg W g)) : PSs X [st] (tS X.K X.mg W g) := pss_one h1
theorem sd_set (i : Nat) (hN : X.N.Nodup) (hi : X.N[i]? = some x) (hx : Loc X.env.scope x) (he : PE X e (tD X.K X.mg W f)) (hs : swapsWith e (some (.Name x pos')) pos.line X.env = pure false := by rfl) (hf : X.fn x = true ∨ X.env.scope.names.lookup x = some .local := by first | exact .inl rfl | exact .inr rfl | assumption)
    (hw : swappedStores [.Name x pos'] e X.env = pure none := by rfl) :
    PS X (.Assign [.Name x pos'] e pos) (tS X.K X.mg W (sSet i f)) := PSimp (ps_asg he (pg_name hN hi hx hf) hs hw) fun D σ H ⟨G, ρ, S, r, q⟩ =>
  tG.mk r (wG.imp (fun v H1 ⟨S1, a, e1, ra, r1, q1⟩ => q1 _ S1 H1 (Same.refl _) (r1.setD ra i)) (wS.ofE (rp := Rp X.K) r q))
theorem sd_ret (he : PE X e (tD X.K X.mg W f)) : PS X (.Return (some e) pos) (tS X.K X.mg W (sRet f)) := PSimp (ps_ret he) fun D σ H ⟨G, ρ, S, r, q⟩ =>
  tG.mk r (wG.imp (fun v H1 ⟨S1, a, e1, ra, r1, q1⟩ => q1 v S1 H1 r1.fin ra) (wS.ofE (rp := Rp X.K) r q))
theorem sd_if (hc : PT X c (tDT X.K X.mg W t)) (ha : PSs X a (tS X.K X.mg W g)) (hb : PSs X b (tS X.K X.mg W h)) : PS X (.If c a b pos) (tS X.K X.mg W (sIf t g h)) := PSimp (ps_if hc ha hb) fun D σ H ⟨G, ρ, S, r, q⟩ =>
  tG.mk r (wG.imp (fun v H1 ⟨S1, a, e1, ra, r1, q1⟩ => by
    cases ra
    cases v with
    | true => exact ⟨G, ρ, S1, r1, q1⟩
    | false => exact ⟨G, ρ, S1, r1, q1⟩) (wS.ofE (rp := rpB) r q))
/-- a, b = e, e2 -/
theorem sd_par {px py pt : Pos} {kt k2 pt2} (i j : Nat) (hc : X.calm = true) (hN : X.N.Nodup) (hi : X.N[i]? = some x) (hj : X.N[j]? = some y) (hij : i ≠ j) (hx : X.env.scope.names.lookup x = some .local) (hy : X.env.scope.names.lookup y = some .local)
    (ha : PE X e (tD X.K X.mg W f1)) (hb : PE X e2 (tD X.K X.mg W f2)) (hw : swappedStores [.Tuple [.Name x px, .Name y py] kt pt] (.Tuple [e, e2] k2 pt2) X.env = pure (some [x, y]))
    (hs : swapsWithSole [.Tuple [.Name x px, .Name y py] kt pt] (.Tuple [e, e2] k2 pt2) pos.line X.env = pure false := by rfl)
    (hse : starEach [e, e2] X.env = (false, eval e X.env) :: starEach [e2] X.env := by rfl) (hse2 : starEach [e2] X.env = (false, eval e2 X.env) :: starEach [] X.env := by rfl) :
    PS X (.Assign [.Tuple [.Name x px, .Name y py] kt pt] (.Tuple [e, e2] k2 pt2) pos) (tS X.K X.mg W (sPar i j f1 f2)) := PSimp (ps_par hc hN hi hj hij hx hy (pa_cons ha (pa_cons hb pa_nil hse2) hse) hw hs) fun D σ H ⟨G, ρ, S, r, q⟩ => by
  refine tG.mk r (wG.imp ?_ (wS.ofE (rp := Rp X.K) r q))
  rintro v H1 ⟨S1, a, e1, ra, r1, q1⟩
  refine tG.mk r1 (wG.imp ?_ (wS.ofE (rp := Rp X.K) r1 q1))
  rintro v2 H2 ⟨S2, b, e2, rb, r2, q2⟩
  exact ⟨v, v2, rfl, q2 _ S2 H2 (Same.refl _) ((r2.setD (Rp.mono e2.sub _ _ ra) i).setD rb j)⟩
theorem sd_while (hp : PassesOwn (model X.prog X.w) X.A X.env X.xe) (hc : PT X c (tDT X.K X.mg W t)) (hb : PSs X a (tS X.K X.mg W g)) : PS X (.While c a [] pos) (tS X.K X.mg W (sWhile t g)) := PSimp (ps_while hp hc hb) fun D σ H ⟨G, ρ, S, r, q⟩ => by
  by_cases hn : sWhile t g ρ = .no
  · rw [hn] at q; exact q.elim
  · obtain ⟨n, en⟩ := sWhile_at hn
    refine ⟨fun m σ H => ∃ ρ S', Same S S' ∧ Rel X.K G S' σ ρ H ∧ wS X.K X.mg W G S' D (whileN t g m ρ), ⟨n, ρ, S, Same.refl _, r, by rw [en]; exact q⟩, ?_⟩
    rintro m σ H ⟨ρ, S', s, r, q⟩
    cases m with
    | zero => exact q.elim
    | succ m =>
      unfold whileN at q
      refine tG.mk r (wG.imp ?_ (wS.ofE (rp := rpB) r q))
      rintro v H1 ⟨S1, a, e1, ra, r1, q1⟩
      cases ra
      cases v with
      | true =>
        simp only [if_true] at q1 ⊢
        refine ⟨fun σ' H' => ∃ ρ S', Same S S' ∧ Rel X.K G S' σ' ρ H' ∧ wS X.K X.mg W G S' D (whileN t g m ρ), fun σ' H' h => ⟨m, Nat.lt_succ_self m, h⟩, G, ρ, S1, r1, ?_⟩
        cases z : g ρ with
        | nx ρ' => rw [z] at q1; exact fun σ' S2 H2 s2 r2 => ⟨ρ', S2, s.trans (e1.sub.trans s2), r2, q1.mono s2⟩
        | ct ρ' => rw [z] at q1; exact fun σ' S2 H2 s2 r2 => ⟨ρ', S2, s.trans (e1.sub.trans s2), r2, q1.mono s2⟩
        | bk ρ' => rw [z] at q1; exact q1
        | rt d => rw [z] at q1; exact q1
        | rm d ρ' => rw [z] at q1; exact q1
        | rv x => rw [z] at q1; exact q1
        | ex c ρ' => rw [z] at q1; exact q1
        | no => rw [z] at q1; exact q1
      | false =>
        simp only [Bool.false_eq_true, if_false] at q1 ⊢
        exact q1 σ S1 H1 (Same.refl _) r1
end
end DL

set_option Elab.async false
set_option linter.all false
set_option maxRecDepth 100000
set_option maxHeartbeats 4000000
set_option autoImplicit false
/-! the data layer 4: targets, loops, comprehensions -/
namespace DL
open PySem L2

/-! ### targets -/
inductive Tg where
  | one (i : Nat)
  | many (is : List Nat)
  | manyL (is : List Nat)
def Tg.slots : Tg → List Nat
  | .one i => [i]
  | .many is => is
  | .manyL is => is
def putAll : List Nat → List PD → En → En
  | i :: is, d :: ds, ρ => putAll is ds (ρ.set i (some (.d d)))
  | _, _, ρ => ρ
def Tg.put : Tg → PD → En → Option En
  | .one i, d, ρ => some (ρ.set i (some (.d d)))
  | .many is, .tuple ds, ρ => if ds.length = is.length then some (putAll is ds ρ) else none
  | .manyL is, .list ds, ρ => if ds.length = is.length then some (putAll is ds ρ) else none
  | _, _, _ => none
def gNames : List Nat → TGs
  | [] => gNil
  | i :: is => gCons (gName i) (gNames is)
def gOf (K : PySem.W.Frag) : Tg → TG
  | .one i => gName i
  | .many is => gTup K is.length (gNames is)
  | .manyL is => gLst K is.length (gNames is)
theorem wipe_at : ∀ {vs : List Nat} {σ : St} {i : Nat}, (wipe σ vs)[i]? = if i ∈ vs then (if i < σ.length then some none else none) else σ[i]?
  | [], σ, i => by simp [wipe]
  | v :: vs, σ, i => by
    unfold wipe
    by_cases h : v = i
    · subst h
      by_cases hl : v < σ.length
      · rw [List.getElem?_set_self (by rw [wipe_length]; exact hl), if_pos (List.mem_cons_self), if_pos hl]
      · rw [List.getElem?_eq_none (by rw [List.length_set, wipe_length]; omega), if_pos (List.mem_cons_self), if_neg hl]
    · rw [List.getElem?_set_ne h, wipe_at]
      by_cases hm : i ∈ vs
      · rw [if_pos hm, if_pos (List.mem_cons_of_mem _ hm)]
      · rw [if_neg hm, if_neg (by simp only [List.mem_cons, not_or]; exact ⟨fun e => h e.symm, hm⟩)]
theorem wipe_set {vs : List Nat} {σ : St} {i : Nat} {w : Option V} (h : i ∈ vs) : wipe (σ.set i w) vs = wipe σ vs := by
  apply List.ext_getElem?
  intro j
  rw [wipe_at, wipe_at, List.length_set]
  by_cases hm : j ∈ vs
  · rw [if_pos hm, if_pos hm]
  · rw [if_neg hm, if_neg hm]
    exact List.getElem?_set_ne (fun e => hm (by rw [← e]; exact h))
section
variable {K : PySem.W.Frag} {G : F} {S H : Hp} {σ : St} {ρ ρ' : En}
theorem gNames_ok : ∀ {is : List Nat} {vs : List V} {ds : List PD} {σ : St} {ρ : En} {Q : St → Hp → Prop}, RpA K S vs ds → ds.length = is.length → Rel K G S σ ρ H →
    (∀ σ', Rel K G S σ' (putAll is ds ρ) H → (∀ us : List Nat, (∀ i ∈ is, i ∈ us) → wipe σ' us = wipe σ us) → Q σ' H) → gNames is vs σ H Q
  | [], _, [], σ, ρ, Q, h, hl, r, q => by
    cases h
    exact ⟨rfl, q σ r fun _ _ => rfl⟩
  | i :: is, _, d :: ds, σ, ρ, Q, h, hl, r, q => by
    cases h with
    | cons h1 h2 =>
      refine ⟨_, _, rfl, ?_⟩
      refine gNames_ok h2 (by simpa using hl) (r.setD h1 i) fun σ' r' w' => ?_
      refine q σ' r' fun us hu => ?_
      rw [w' us fun j hj => hu j (List.mem_cons_of_mem _ hj), wipe_set (hu i List.mem_cons_self)]
  | [], _, _ :: _, _, _, _, _, hl, _, _ => by cases hl
  | _ :: _, _, [], _, _, _, _, hl, _, _ => by cases hl
theorem gOf_ok {tg : Tg} {v : V} {d : PD} {Q : St → Hp → Prop} (r : Rel K G S σ ρ H) (h : Rp K S v d) (hp : tg.put d ρ = some ρ') (q : ∀ σ', Rel K G S σ' ρ' H → (∀ us : List Nat, (∀ i ∈ tg.slots, i ∈ us) → wipe σ' us = wipe σ us) → Q σ' H) : gOf K tg v σ H Q := by
  cases tg with
  | one i =>
    have e : some (ρ.set i (some (.d d))) = some ρ' := hp
    cases e
    exact q _ (r.setD h i) fun us hu => wipe_set (hu i (by simp [Tg.slots]))
  | many is =>
    cases d with
    | tuple ds =>
      have e : (if ds.length = is.length then some (putAll is ds ρ) else none) = some ρ' := hp
      by_cases hl : ds.length = is.length
      · rw [if_pos hl] at e
        cases e
        cases h with
        | tup hs ha =>
          exact ⟨_, _, rfl, Same.seqT r.inn hs, by rw [ha.length]; exact hl, gNames_ok ha hl r q⟩
      · rw [if_neg hl] at e; cases e
    | _ => cases hp
  | manyL is =>
    cases d with
    | list ds =>
      have e : (if ds.length = is.length then some (putAll is ds ρ) else none) = some ρ' := hp
      by_cases hl : ds.length = is.length
      · rw [if_pos hl] at e
        cases e
        cases h with
        | lst hs ha =>
          exact ⟨_, _, rfl, Same.seq r.inn hs, by rw [ha.length]; exact hl, gNames_ok ha hl r q⟩
      · rw [if_neg hl] at e; cases e
    | _ => cases hp
end

/-! ### what is walked -/
def ItOk (K : PySem.W.Frag) (S : Hp) (J : It) (ds : List PD) : Prop := ∀ S1 H1, Same S S1 → Same S1 H1 → ∀ i : Nat,
  (∀ d, ds[i]? = some d → J.go i H1 ∧ ∀ x H2, J.yld i H1 x H2 → ∃ S2, Ext S1 H1 S2 H2 ∧ Rp K S2 x d) ∧ (ds.length ≤ i → J.stop i H1)
abbrev tI (K : PySem.W.Frag) (mg : MG) (W : WX) (f : En → R (List PD)) : TI := tG (ItOk K) K mg W f
theorem ItOk.mono {K : PySem.W.Frag} {S S' : Hp} {J : It} {ds : List PD} (e : Same S S') (h : ItOk K S J ds) : ItOk K S' J ds := fun S1 H1 s1 s2 => h S1 H1 (e.trans s1) s2

/-- a list's items, a tuple's -/
def asL : PD → R (List PD)
  | .list ds => .ok ds
  | _ => .no
def asT : PD → R (List PD)
  | .tuple ds => .ok ds
  | _ => .no
def iL (f : En → R PD) : En → R (List PD) := fun ρ => (f ρ).bind asL
def iT (f : En → R PD) : En → R (List PD) := fun ρ => (f ρ).bind asT
theorem itl_ok {K : PySem.W.Frag} {S : Hp} {a : Addr} {xs : List V} {ds : List PD} (hs : SqL K S a xs) (ha : RpA K S xs ds) : ItOk K S (Itl K a) ds := by
  intro S1 H1 s1 s2 i
  have h1 : SqL K H1 a xs := Same.seq (s1.trans s2) hs
  refine ⟨fun d hd => ?_, fun hl => ⟨xs, h1, by rw [ha.length]; exact hl⟩⟩
  obtain ⟨v, hv, hr⟩ := ha.get hd
  exact ⟨⟨xs, v, h1, hv⟩, fun x H2 ⟨e, y⟩ => by
    subst e
    have := y xs h1
    rw [hv] at this
    cases this
    exact ⟨S1, Ext.refl s2, Rp.mono s1 _ _ hr⟩⟩
theorem itt_ok {K : PySem.W.Frag} {S : Hp} {a : Addr} {xs : List V} {ds : List PD} (hs : SqT K S a xs) (ha : RpA K S xs ds) : ItOk K S (Itt K a) ds := by
  intro S1 H1 s1 s2 i
  have h1 : SqT K H1 a xs := Same.seqT (s1.trans s2) hs
  refine ⟨fun d hd => ?_, fun hl => ⟨xs, h1, by rw [ha.length]; exact hl⟩⟩
  obtain ⟨v, hv, hr⟩ := ha.get hd
  exact ⟨⟨xs, v, h1, hv⟩, fun x H2 ⟨e, y⟩ => by
    subst e
    have := y xs h1
    rw [hv] at this
    cases this
    exact ⟨S1, Ext.refl s2, Rp.mono s1 _ _ hr⟩⟩
section
variable {X : Cx} {W : WX} {tg l : Expr} {f f1 f2 : En → R PD} {p pos : Pos}
theorem pi_l (hl : PE X l (tD X.K X.mg W f)) : PI X tg l (tI X.K X.mg W (iL f)) := PIimp (pi_list hl) fun σ H Q ⟨G, ρ, S, rel, h⟩ => by
  refine tG.mk rel (wG.imp ?_ (wG.bind (rp := Rp X.K) h))
  rintro x H1 ⟨S1, a, e1, ra, h1⟩
  cases a with
  | list ds =>
    cases ra with
    | lst hs ha => exact ⟨_, rfl, ⟨_, Same.seq e1.inn hs⟩, h1 _ S1 H1 (Ext.refl e1.inn) (itl_ok hs ha)⟩
  | _ => exact h1.elim
theorem pi_t (hl : PE X l (tD X.K X.mg W f)) : PI X tg l (tI X.K X.mg W (iT f)) := PIimp (pi_tup hl) fun σ H Q ⟨G, ρ, S, rel, h⟩ => by
  refine tG.mk rel (wG.imp ?_ (wG.bind (rp := Rp X.K) h))
  rintro x H1 ⟨S1, a, e1, ra, h1⟩
  cases a with
  | tuple ds =>
    cases ra with
    | tup hs ha => exact ⟨_, rfl, ⟨_, Same.seqT e1.inn hs⟩, h1 _ S1 H1 (Ext.refl e1.inn) (itt_ok hs ha)⟩
  | _ => exact h1.elim
/-- range(n), range(a, b) -/
def rng (lo : Int) (n : Nat) : List PD := (List.range n).map fun i => .int (lo + (i : Nat))
def gR1 : List PD → R (List PD)
  | [.int j] => if -(2 ^ 62) ≤ j ∧ j < 2 ^ 62 then .ok (rng 0 j.toNat) else .no
  | _ => .no
def gR2 : List PD → R (List PD)
  | [.int i, .int j] => if -(2 ^ 62) ≤ i ∧ i < 2 ^ 62 ∧ -(2 ^ 62) ≤ j ∧ j < 2 ^ 62 then .ok (rng i (j - i).toNat) else .no
  | _ => .no
def iA (g : List PD → R (List PD)) (f : En → R (List PD)) : En → R (List PD) := fun ρ => (f ρ).bind g
theorem itr_ok {K : PySem.W.Frag} {S : Hp} {lo : Int} {n : Nat} : ItOk K S (Itr lo n) (rng lo n) := by
  intro S1 H1 s1 s2 i
  refine ⟨fun d hd => ?_, fun hl => by show n ≤ i; simpa [rng] using hl⟩
  unfold rng at hd
  rw [List.getElem?_map] at hd
  by_cases h : i < n
  · rw [List.getElem?_range h] at hd
    cases hd
    exact ⟨h, fun x H2 ⟨e, y⟩ => by subst e y; exact ⟨S1, Ext.refl s2, .int _⟩⟩
  · rw [List.getElem?_eq_none (by simpa using h)] at hd
    cases hd
theorem pi_r1 {a : Expr} {fs : En → R (List PD)} (hg : Gl X "range") (hm : X.mg "range" = none) (ha : PA X [a] (tDA X.K X.mg W fs)) (hs : starEach [a] X.env = [(false, eval a X.env)] := by rfl) : PI X tg (.Call (.Name "range" p) [a] [] pos) (tI X.K X.mg W (iA gR1 fs)) :=
  PIimp (pi_range1 hg hm ha hs) fun σ H Q ⟨G, ρ, S, rel, h⟩ => by
    refine tG.mk rel (wG.imp ?_ (wG.bind (rp := RpA X.K) h))
    rintro xs H1 ⟨S1, as, e1, ra, h1⟩
    unfold gR1 at h1
    split at h1
    · rename_i j
      cases ra with
      | cons r1 r2 =>
        cases r2
        cases r1
        split at h1
        · rename_i hb
          exact ⟨j, rfl, hb.1, hb.2, h1 _ S1 H1 (Ext.refl e1.inn) itr_ok⟩
        · exact h1.elim
    · exact h1.elim
theorem pi_r2 {a b : Expr} {fs : En → R (List PD)} (hg : Gl X "range") (hm : X.mg "range" = none) (ha : PA X [a, b] (tDA X.K X.mg W fs)) (hs : starEach [a, b] X.env = [(false, eval a X.env), (false, eval b X.env)] := by rfl)
    (hs2 : starEach [b] X.env = [(false, eval b X.env)] := by rfl) : PI X tg (.Call (.Name "range" p) [a, b] [] pos) (tI X.K X.mg W (iA gR2 fs)) :=
  PIimp (pi_range2 hg hm ha hs hs2) fun σ H Q ⟨G, ρ, S, rel, h⟩ => by
    refine tG.mk rel (wG.imp ?_ (wG.bind (rp := RpA X.K) h))
    rintro xs H1 ⟨S1, as, e1, ra, h1⟩
    unfold gR2 at h1
    split at h1
    · rename_i i j
      cases ra with
      | cons r1 r2 =>
        cases r2 with
        | cons r2 r3 =>
          cases r3
          cases r1
          cases r2
          split at h1
          · rename_i hb
            exact ⟨i, j, rfl, hb, h1 _ S1 H1 (Ext.refl e1.inn) itr_ok⟩
          · exact h1.elim
    · exact h1.elim
/-- zip of two lists, of two tuples -/
def zipD : List PD → List PD → List PD
  | a :: as, b :: bs => .tuple [a, b] :: zipD as bs
  | _, _ => []
theorem zipD_get : ∀ {as bs : List PD} {i : Nat} {e : PD}, (zipD as bs)[i]? = some e → ∃ a b, as[i]? = some a ∧ bs[i]? = some b ∧ e = .tuple [a, b]
  | [], _, _, _, h => by simp [zipD] at h
  | _ :: _, [], _, _, h => by simp [zipD] at h
  | a :: as, b :: bs, 0, e, h => by
    have : some (PyData.tuple [a, b]) = some e := h
    cases this
    exact ⟨a, b, rfl, rfl, rfl⟩
  | a :: as, b :: bs, i + 1, e, h => zipD_get (as := as) (bs := bs) h
theorem zipD_stop : ∀ {as bs : List PD} {i : Nat}, (zipD as bs).length ≤ i → as.length ≤ i ∨ bs.length ≤ i
  | [], _, _, _ => .inl (Nat.zero_le _)
  | _ :: _, [], _, _ => .inr (Nat.zero_le _)
  | a :: as, b :: bs, 0, h => by simp [zipD] at h
  | a :: as, b :: bs, i + 1, h => by
    have h' : (zipD as bs).length ≤ i := by simpa [zipD] using h
    rcases zipD_stop h' with z | z
    · exact .inl (by simpa using z)
    · exact .inr (by simpa using z)
def gZip : List PD → R (List PD)
  | [.list as, .list bs] => .ok (zipD as bs)
  | [.tuple as, .tuple bs] => .ok (zipD as bs)
  | _ => .no
theorem pi_zp {e e2 : Expr} {fs : En → R (List PD)} {tpos : Pos} {elts : List Expr} {kk : Nat} (hg : Gl X "zip") (hm : X.mg "zip" = none) (ha : PA X [e, e2] (tDA X.K X.mg W fs)) (hs : starEach [e, e2] X.env = (false, eval e X.env) :: starEach [e2] X.env := by rfl)
    (hpl : (backTo pos (starEach [e2] X.env)).any (·.1) = false := by rfl) :
    PI X (.Tuple elts kk tpos) (.Call (.Name "zip" p) [e, e2] [] pos) (tI X.K X.mg W (iA gZip fs)) :=
  PIimp (RZ.pi_zipA hg hm ha hs hpl) fun σ H Q ⟨G, ρ, S, rel, h⟩ => by
    refine tG.mk rel (wG.imp ?_ (wG.bind (rp := RpA X.K) h))
    rintro xs H1 ⟨S1, as, e1, ra, h1⟩
    unfold gZip at h1
    split at h1
    · rename_i as bs
      cases ra with
      | cons r1 r2 =>
        cases r2 with
        | cons r2 r3 =>
          cases r3
          cases r1 with
          | lst hs ha =>
            cases r2 with
            | lst hs2 ha2 =>
              refine ⟨_, _, _, _, rfl, .inl ⟨Same.seq e1.inn hs, Same.seq e1.inn hs2, h1 _ S1 H1 (Ext.refl e1.inn) ?_⟩⟩
              intro S2 H2 s1 s2 i
              have q1 := Same.seq (s1.trans s2) hs
              have q2 := Same.seq (s1.trans s2) hs2
              refine ⟨fun d hd => ?_, fun hl => ⟨_, _, q1, q2, by rw [ha.length, ha2.length]; exact zipD_stop hl⟩⟩
              obtain ⟨a, b, z1, z2, z3⟩ := zipD_get hd
              obtain ⟨v, hv, hr⟩ := ha.get z1
              obtain ⟨u, hu, hr2⟩ := ha2.get z2
              refine ⟨⟨_, _, v, u, q1, q2, hv, hu⟩, ?_⟩
              rintro x H3 ⟨T, y, y2, rfl, hT, rfl, hy, hy2⟩
              have w1 := hy _ q1
              have w2 := hy2 _ q2
              rw [hv] at w1
              rw [hu] at w2
              cases w1
              cases w2
              have e2 : Ext S2 H2 (upd S2 T (.tup [v, u])) (upd H2 T (.tup [v, u])) := Ext.known s2 hT
              refine ⟨_, e2, ?_⟩
              rw [z3]
              exact .tup (SqT.of upd_same) (.cons (Rp.mono (s1.trans e2.sub) _ _ hr) (.cons (Rp.mono (s1.trans e2.sub) _ _ hr2) .nil))
    · rename_i as bs
      cases ra with
      | cons r1 r2 =>
        cases r2 with
        | cons r2 r3 =>
          cases r3
          cases r1 with
          | tup hs ha =>
            cases r2 with
            | tup hs2 ha2 =>
              refine ⟨_, _, _, _, rfl, .inr ⟨Same.seqT e1.inn hs, Same.seqT e1.inn hs2, h1 _ S1 H1 (Ext.refl e1.inn) ?_⟩⟩
              intro S2 H2 s1 s2 i
              have q1 := Same.seqT (s1.trans s2) hs
              have q2 := Same.seqT (s1.trans s2) hs2
              refine ⟨fun d hd => ?_, fun hl => ⟨_, _, q1, q2, by rw [ha.length, ha2.length]; exact zipD_stop hl⟩⟩
              obtain ⟨a, b, z1, z2, z3⟩ := zipD_get hd
              obtain ⟨v, hv, hr⟩ := ha.get z1
              obtain ⟨u, hu, hr2⟩ := ha2.get z2
              refine ⟨⟨_, _, v, u, q1, q2, hv, hu⟩, ?_⟩
              rintro x H3 ⟨T, y, y2, rfl, hT, rfl, hy, hy2⟩
              have w1 := hy _ q1
              have w2 := hy2 _ q2
              rw [hv] at w1
              rw [hu] at w2
              cases w1
              cases w2
              have e2 : Ext S2 H2 (upd S2 T (.tup [v, u])) (upd H2 T (.tup [v, u])) := Ext.known s2 hT
              refine ⟨_, e2, ?_⟩
              rw [z3]
              exact .tup (SqT.of upd_same) (.cons (Rp.mono (s1.trans e2.sub) _ _ hr) (.cons (Rp.mono (s1.trans e2.sub) _ _ hr2) .nil))
    · exact h1.elim
end

/-! ### for -/
def sForL (tg : Tg) (body : En → Fl) : List PD → En → Fl
  | [], ρ => .nx ρ
  | d :: ds, ρ => match tg.put d ρ with
    | none => .no
    | some ρ1 => match body ρ1 with
      | .nx ρ2 => sForL tg body ds ρ2
      | .ct ρ2 => sForL tg body ds ρ2
      | .bk ρ2 => .nx ρ2
      | r => r
def sFor (it : En → R (List PD)) (tg : Tg) (body : En → Fl) : En → Fl := sE it fun ds ρ => sForL tg body ds ρ
section
variable {X : Cx} {W : WX} {tg iter : Expr} {it : En → R (List PD)} {T : Tg} {g : En → Fl} {body : List Stmt} {pos : Pos}
theorem sd_for (hp : PassesOwn (model X.prog X.w) X.A X.env X.xe) (hc : X.calm = true) (hi : PI X tg iter (tI X.K X.mg W it)) (hg : PG X tg (gOf X.K T)) (hb : PSs X body (tS X.K X.mg W g)) (hs : ∀ x, foldedSetIterable iter X.env x = pure x := by intro _; rfl) :
    PS X (.For tg iter body [] pos) (tS X.K X.mg W (sFor it T g)) := PSimp (ps_for hp hc hi hg hb hs) fun D σ H ⟨G, ρ, S, r, q⟩ => by
  refine tG.mk r (wG.imp ?_ (wS.ofE (rp := ItOk X.K) r q))
  rintro J H1 ⟨S1, ds, e1, hJ, r1, q1⟩
  refine ⟨fun i m σ H => m = ds.length - i ∧ i ≤ ds.length ∧ ∃ ρ S2, Same S1 S2 ∧ Rel X.K G S2 σ ρ H ∧ wS X.K X.mg W G S2 D (sForL T g (ds.drop i) ρ), ⟨ds.length, by simp, Nat.zero_le _, ρ, S1, Same.refl _, r1, by simpa using q1⟩, ?_⟩
  rintro i m σ H ⟨rfl, hi, ρ, S2, s2, r2, q2⟩
  obtain ⟨go, stop⟩ := hJ S2 H s2 r2.inn i
  by_cases hlt : i < ds.length
  · have hd : ds[i]? = some ds[i] := List.getElem?_eq_getElem hlt
    obtain ⟨g1, g2⟩ := go _ hd
    refine .inr ⟨g1, fun σ H => i + 1 ≤ ds.length ∧ ∃ ρ S2, Same S1 S2 ∧ Rel X.K G S2 σ ρ H ∧ wS X.K X.mg W G S2 D (sForL T g (ds.drop (i + 1)) ρ), fun σ' H' h => ⟨ds.length - (i + 1), by omega, rfl, h⟩, ?_⟩
    intro x H3 y
    obtain ⟨S3, e3, rx⟩ := g2 x H3 y
    have r3 := r2.ext e3
    rw [List.drop_eq_getElem_cons hlt] at q2
    unfold sForL at q2
    cases z : T.put ds[i] ρ with
    | none => rw [z] at q2; exact q2.elim
    | some ρ1 =>
      rw [z] at q2
      refine gOf_ok r3 rx z fun σ' r' _ => ⟨G, ρ1, S3, r', ?_⟩
      dsimp only at q2
      cases z2 : g ρ1 with
      | nx ρ2 => rw [z2] at q2; exact fun σ'' S4 H4 s4 r4 => ⟨hlt, ρ2, S4, s2.trans (e3.sub.trans s4), r4, q2.mono (e3.sub.trans s4)⟩
      | ct ρ2 => rw [z2] at q2; exact fun σ'' S4 H4 s4 r4 => ⟨hlt, ρ2, S4, s2.trans (e3.sub.trans s4), r4, q2.mono (e3.sub.trans s4)⟩
      | bk ρ2 => rw [z2] at q2; exact q2.mono (r := .nx ρ2) e3.sub
      | rt d => rw [z2] at q2; exact q2
      | rm d ρ2 => rw [z2] at q2; exact q2.mono (r := .rm d ρ2) e3.sub
      | rv x => rw [z2] at q2; exact q2.mono (r := .rv x) e3.sub
      | ex c ρ2 => rw [z2] at q2; exact q2.mono (r := .ex c ρ2) e3.sub
      | no => rw [z2] at q2; exact q2
  · have e : i = ds.length := by omega
    subst e
    rw [List.drop_length] at q2
    exact .inl ⟨stop (Nat.le_refl _), q2 σ S2 H (Same.refl _) r2⟩
end

/-! ### comprehensions -/
def wipeE (ρ : En) : List Nat → En
  | [] => ρ
  | v :: vs => (wipeE ρ vs).set v none
theorem Rel.wipe {K : PySem.W.Frag} {G : F} {S H : Hp} {σ : St} {ρ : En} (r : Rel K G S σ ρ H) : ∀ vs : List Nat, Rel K G S (wipe σ vs) (wipeE ρ vs) H
  | [] => r
  | v :: vs => (Rel.wipe r vs).forget v none
def lcL (tg : Tg) (tt : En → R Bool) (te : En → R PD) (ρ : En) : List PD → R (List PD)
  | [] => .ok []
  | d :: ds => match tg.put d ρ with
    | none => .no
    | some ρ1 => match tt ρ1 with
      | .ok true => (match te ρ1 with
        | .ok y => (match lcL tg tt te ρ ds with
          | .ok ys => .ok (y :: ys)
          | _ => .no)
        | _ => .no)
      | .ok false => lcL tg tt te ρ ds
      | _ => .no
def dLcL (it : En → R (List PD)) (tg : Tg) (vs : List Nat) (tt : En → R Bool) (te : En → R PD) : En → R (List PD) := fun ρ => (it ρ).bind fun ds => if ds.length ≤ 1000000 then lcL tg tt te (wipeE ρ vs) ds else .no
def dLc (it : En → R (List PD)) (tg : Tg) (vs : List Nat) (tt : En → R Bool) (te : En → R PD) : En → R PD := fun ρ => (dLcL it tg vs tt te ρ).bind fun ds => .ok (.list ds)
def bYes : En → R Bool := fun _ => .ok true
abbrev W0 : WX := fun _ _ _ _ => False
theorem tYes_of {K : PySem.W.Frag} {mg : MG} : ∀ σ H Q, tDT K mg W0 bYes σ H Q → tYes σ H Q := fun σ H Q ⟨G, ρ, S, rel, h⟩ => h true S H (Ext.refl rel.inn) rfl
theorem ptd_nil {X : Cx} : PTs X [] (tDT X.K X.mg W0 bYes) := ⟨fun pins s σ H Q I q => pts_nil.run pins s σ H Q I (tYes_of σ H Q q)⟩
/-- what a comprehension leaves: a new list at D, not yet known -/
theorem lc_of {K : PySem.W.Frag} {mg : MG} {W : WX} {it : En → R (List PD)} {T : Tg} {vs : List Nat} {tt : En → R Bool} {te : En → R PD} (hT : ∀ i ∈ T.slots, i ∈ vs) {σ : St} {H : Hp} {Q : VK} {G : F} {ρ : En} {S : Hp} (rel : Rel K G S σ ρ H)
    (h : match dLcL it T vs tt te ρ with
      | .ok ds => ∀ D S' H' xs, Ext S H S' H' → H D = none → S' D = none → H' D = some (.lst xs) → RpA K S' xs ds → Q (.ref D) H'
      | .ex c => ∀ cls S' H', mg c = some cls → Ext S H S' H' → W cls none σ H'
      | .no => False) : tLc (tI K mg W it) (gOf K T) (tDT K mg W0 tt) (tD K mg W0 te) vs σ H Q := by
  unfold dLcL at h
  have h2 : wG (ItOk K) mg W σ S H (fun J H1 => ∃ S1 ds, Ext S H S1 H1 ∧ ItOk K S1 J ds ∧ ds.length ≤ 1000000 ∧ ∃ ys, lcL T tt te (wipeE ρ vs) ds = .ok ys ∧ ∀ D S' H' xs, Ext S1 H1 S' H' → H1 D = none → S' D = none → H' D = some (.lst xs) → RpA K S' xs ys → Q (.ref D) H') (it ρ) := by
    cases q : it ρ with
    | ok ds =>
      rw [q] at h
      intro J S1 H1 e1 hJ
      simp only [R.bind_ok] at h
      by_cases hl : ds.length ≤ 1000000
      · rw [if_pos hl] at h
        cases q2 : lcL T tt te (wipeE ρ vs) ds with
        | ok ys =>
          rw [q2] at h
          exact ⟨S1, ds, e1, hJ, hl, ys, q2, fun D S' H' xs e a b c d => h D S' H' xs (e1.trans e) (e1.all.free a) b c d⟩
        | ex c =>
          exfalso
          have : ∀ ds, lcL T tt te (wipeE ρ vs) ds ≠ .ex c := by
            intro ds
            induction ds with
            | nil => unfold lcL; intro z; cases z
            | cons d ds ih =>
              unfold lcL
              intro z
              split at z
              · cases z
              · split at z
                · split at z
                  · split at z <;> cases z
                  · cases z
                · exact ih z
                · cases z
          exact this ds q2
        | no => rw [q2] at h; exact h.elim
      · rw [if_neg hl] at h; exact h.elim
    | ex c => rw [q] at h; exact h
    | no => rw [q] at h; exact h
  refine tG.mk rel (wG.imp ?_ h2)
  rintro J H1 ⟨S1, ds, e1, hJ, hlen, ys, hys, hq⟩ D hD
  have rel1 := rel.ext e1
  have hS1D : S1 D = none := e1.inn.free hD
  refine ⟨fun i m H => m = ds.length - i ∧ i ≤ ds.length ∧ ∃ S2 acc accd rest, Ext S1 H1 S2 H ∧ S2 D = none ∧ H D = some (.lst acc) ∧ RpA K S2 acc accd ∧ acc.length ≤ i ∧ lcL T tt te (wipeE ρ vs) (ds.drop i) = .ok rest ∧ accd ++ rest = ys,
    ⟨ds.length, by simp, Nat.zero_le _, S1, [], [], ys, Ext.fresh e1.inn hD, hS1D, upd_same, .nil, Nat.le_refl _, by simpa using hys, rfl⟩, ?_⟩
  rintro i m H2 ⟨rfl, hi, S2, acc, accd, rest, e2, hD2, hacc, racc, hal, hrest, htot⟩
  have rel2 := rel1.ext e2
  obtain ⟨go, stop⟩ := hJ S2 H2 e2.sub e2.inn i
  by_cases hlt : i < ds.length
  · have hd : ds[i]? = some ds[i] := List.getElem?_eq_getElem hlt
    obtain ⟨g1, g2⟩ := go _ hd
    refine .inr ⟨g1, fun H => i + 1 ≤ ds.length ∧ ∃ S2 acc accd rest, Ext S1 H1 S2 H ∧ S2 D = none ∧ H D = some (.lst acc) ∧ RpA K S2 acc accd ∧ acc.length ≤ i + 1 ∧ lcL T tt te (wipeE ρ vs) (ds.drop (i + 1)) = .ok rest ∧ accd ++ rest = ys,
      fun H' h => ⟨ds.length - (i + 1), by omega, rfl, h⟩, ?_⟩
    intro x H3 y
    obtain ⟨S3, e3, rx⟩ := g2 x H3 y
    have rel3 := (rel2.ext e3).wipe vs
    have new3 : ∀ {S4 H4 : Hp}, Ext S2 H2 S4 H4 → S4 D = none := fun {S4 H4} e => by
      cases q : S4 D with
      | none => rfl
      | some o =>
        rcases e.new D o q with z | z
        · rw [hD2] at z; cases z
        · rw [hacc] at z; cases z
    rw [List.drop_eq_getElem_cons hlt] at hrest
    unfold lcL at hrest
    cases z : T.put ds[i] (wipeE ρ vs) with
    | none => rw [z] at hrest; cases hrest
    | some ρ1 =>
      rw [z] at hrest
      dsimp only at hrest
      refine gOf_ok rel3 rx z fun σ' r' hw => ⟨?_, ?_⟩
      · rw [hw vs hT]
        apply List.ext_getElem?
        intro j
        rw [wipe_at, wipe_at, wipe_length]
        by_cases hm : j ∈ vs
        · rw [if_pos hm, if_pos hm]
        · rw [if_neg hm, if_neg hm]
      · refine tG.mk r' ?_
        cases zt : tt ρ1 with
        | ok b =>
          rw [zt] at hrest
          rintro b' S4 H4 e4 rfl
          cases b' with
          | true =>
            dsimp only at hrest
            rw [if_pos rfl]
            refine tG.mk (r'.ext e4) ?_
            cases ze : te ρ1 with
            | ok yd =>
              rw [ze] at hrest
              dsimp only at hrest
              cases zr : lcL T tt te (wipeE ρ vs) (ds.drop (i + 1)) with
              | ok rest' =>
                rw [zr] at hrest
                cases hrest
                intro yv S5 H5 e5 ry
                have e25 := (e3.trans e4).trans e5
                have hn := new3 e25
                refine ⟨acc, e25.all _ _ hacc, Nat.lt_of_le_of_lt (Nat.le_trans hal (Nat.le_trans (Nat.le_of_lt hlt) hlen)) (by decide), hlt, S5, acc ++ [yv], accd ++ [yd], rest', ?_, hn, upd_same, (RpA.mono e25.sub _ _ racc).snoc ry, by simp; omega, rfl, by rw [← htot]; simp⟩
                have e15 := e2.trans e25
                refine ⟨e15.sub, fun a o h => ?_, fun a o h => ?_, e15.new⟩
                · rw [upd_ne (ne_of_none h hD)]; exact e15.all a o h
                · rw [upd_ne (ne_of_none h hn)]; exact e15.inn a o h
              | ex c => rw [zr] at hrest; cases hrest
              | no => rw [zr] at hrest; cases hrest
            | ex c => rw [ze] at hrest; cases hrest
            | no => rw [ze] at hrest; cases hrest
          | false =>
            dsimp only at hrest
            rw [if_neg Bool.false_ne_true]
            have e24 := e3.trans e4
            exact ⟨hlt, S4, acc, accd, rest, e2.trans e24, new3 e24, e24.all _ _ hacc, RpA.mono e24.sub _ _ racc, by omega, hrest, htot⟩
        | ex c => rw [zt] at hrest; cases hrest
        | no => rw [zt] at hrest; cases hrest
  · have e : i = ds.length := by omega
    subst e
    rw [List.drop_length] at hrest
    have : (R.ok [] : R (List PD)) = .ok rest := hrest
    cases this
    refine .inl ⟨stop (Nat.le_refl _), hq D S2 H2 acc e2 hD hD2 hacc ?_⟩
    rw [← htot]
    simpa using racc
section
variable {X : Cx} {W : WX} {elt tg iter : Expr} {ifs : List Expr} {scope : Scope} {own : List (Str × Nat)} {pos : Pos} {it : En → R (List PD)} {T : Tg} {tt : En → R Bool} {te : En → R PD}
theorem pd_lc (own : List (Str × Nat)) (hc : X.calm = true) (hN : X.N.Nodup) (hi : PI X tg iter (tI X.K X.mg W it)) (ok : BlkOk X.N X.env.scope scope own) (hT : ∀ i ∈ T.slots, i ∈ own.map (·.2))
    (hg : ∀ (s : Shared) (H : Hp) (C : Addr) (cl : List (Str × Addr)) (fp : List Addr), PG (X.blk s H scope (compEnvC scope cl C X.env) fp) tg (gOf X.K T)) (ht : ∀ (s : Shared) (H : Hp) (C : Addr) (cl : List (Str × Addr)) (fp : List Addr), PTs (X.blk s H scope (compEnvC scope cl C X.env) fp) ifs (tDT X.K X.mg W0 tt))
    (he : ∀ (s : Shared) (H : Hp) (C : Addr) (cl : List (Str × Addr)) (fp : List Addr), PE (X.blk s H scope (compEnvC scope cl C X.env) fp) elt (tD X.K X.mg W0 te)) (hs : ∀ x, foldedSetIterable iter X.env x = pure x := by intro _; rfl) :
    PE X (.ListComp elt [⟨tg, iter, ifs, 0⟩] scope pos) (tD X.K X.mg W (dLc it T (own.map (·.2)) tt te)) := PEimp (pe_lc hc hN hi ok hg ht he hs) fun σ H Q ⟨G, ρ, S, rel, h⟩ => by
  refine lc_of hT rel ?_
  unfold dLc at h
  cases q : dLcL it T (own.map (·.2)) tt te ρ with
  | ok ds =>
    rw [q] at h
    intro D S' H' xs e hD hS hH hr
    have e2 : Ext S H (upd S' D (.lst xs)) H' := ⟨fun a o z => by rw [upd_ne (ne_of_none (e.sub _ _ z) hS)]; exact e.sub _ _ z, e.all, fun a o z => by
      by_cases ha : a = D
      · subst ha; rw [upd_same] at z; rw [hH]; exact z
      · rw [upd_ne ha] at z; exact e.inn a o z, fun a o z => by
      by_cases ha : a = D
      · subst ha; exact .inr hD
      · rw [upd_ne ha] at z; exact e.new a o z⟩
    refine h (.ref D) _ H' e2 (.lst (SqL.of upd_same) (RpA.mono (fun a o z => ?_) _ _ hr))
    rw [upd_ne (ne_of_none z hS)]; exact z
  | ex c => rw [q] at h; exact h
  | no => rw [q] at h; exact h
end
end DL

set_option Elab.async false
set_option linter.all false
set_option maxRecDepth 100000
set_option maxHeartbeats 4000000
set_option autoImplicit false
/-! the data layer 5: operators, built-ins, subscripts; raise; a def's promise -/
namespace DL
open PySem L2
abbrev ib (i : Int) : Nat := Builtin.Int.intBits i

/-! ### operators -/
theorem Rp.newL {K : PySem.W.Frag} {S H : Hp} {p : Addr} {vs : List V} {ds : List PD} (hS : Same S H) (hp : H p = none) (r : RpA K S vs ds) : Ext S H (upd S p (.lst vs)) (upd H p (.lst vs)) ∧ Rp K (upd S p (.lst vs)) (.ref p) (.list ds) := by
  have e : Ext S H (upd S p (.lst vs)) (upd H p (.lst vs)) := Ext.known hS hp
  exact ⟨e, .lst (SqL.of upd_same) (RpA.mono e.sub _ _ r)⟩
theorem Rp.newT {K : PySem.W.Frag} {S H : Hp} {p : Addr} {vs : List V} {ds : List PD} (hS : Same S H) (hp : H p = none) (r : RpA K S vs ds) : Ext S H (upd S p (.tup vs)) (upd H p (.tup vs)) ∧ Rp K (upd S p (.tup vs)) (.ref p) (.tuple ds) := by
  have e : Ext S H (upd S p (.tup vs)) (upd H p (.tup vs)) := Ext.known hS hp
  exact ⟨e, .tup (SqT.of upd_same) (RpA.mono e.sub _ _ r)⟩
theorem OpD_of {X : Cx} {fn : Value → Value → Sem Value} {g : PD → PD → R PD} (k : ∀ (pins : List (Addr × Obj)) (s : Shared) (σ : St) (H : Hp) (x y : V) (v u : Value) (Q : VK) (S : Hp) (a b d : PD), Inv X pins σ H s → RelV x v → RelV y u → Same S H → Rp X.K S x a → Rp X.K S y b → g a b = .ok d →
    (∀ v S' H', Ext S H S' H' → Rp X.K S' v d → Q v H') → wpAny (model X.prog X.w) X.A (fn v u) (EP X pins σ Q) X.xe s) : OpD X fn g := by
  intro pins s σ H x y v u Q I rx ry h
  obtain ⟨S, a, b, hS, ra, rb, h⟩ := h
  cases q : g a b with
  | ok d => rw [q] at h; exact k pins s σ H x y v u Q S a b d I rx ry hS ra rb q h
  | ex c => rw [q] at h; exact h.elim
  | no => rw [q] at h; exact h.elim
theorem CallD_ofX {X : Cx} {fv : Value} {g : List PD → R PD} (k : ∀ (pins : List (Addr × Obj)) (s : Shared) (σ : St) (H : Hp) (vs : List V) (us : List Value) (Q : VK) (S : Hp) (ds : List PD) (d : PD), Inv X pins σ H s → Vals vs us → Same S H → RpA X.K S vs ds → g ds = .ok d →
    (∀ v S' H', Ext S H S' H' → Rp X.K S' v d → Q v H') → wpAny (model X.prog X.w) X.A (call fv us) (EP X pins σ Q) X.xe s) : CallR X fv fun vs H Q => ∃ S ds, Same S H ∧ RpA X.K S vs ds ∧ match g ds with
  | .ok d => ∀ v S' H', Ext S H S' H' → Rp X.K S' v d → Q v H'
  | _ => False := by
  intro pins s σ H vs us Q I r h
  obtain ⟨S, ds, hS, ra, h⟩ := h
  cases q : g ds with
  | ok d => rw [q] at h; exact k pins s σ H vs us Q S ds d I r hS ra q h
  | ex c => rw [q] at h; exact h.elim
  | no => rw [q] at h; exact h.elim
def gAdd : PD → PD → R PD
  | .int i, .int j => .ok (.int (i + j))
  | .str x, .str y => if x.length + y.length ≤ 16777216 then .ok (.str (x.append y)) else .no
  | .list xs, .list ys => if xs.length + ys.length ≤ 16777216 then .ok (.list (xs ++ ys)) else .no
  | .tuple xs, .tuple ys => if xs.length + ys.length ≤ 16777216 then .ok (.tuple (xs ++ ys)) else .no
  | _, _ => .no
def gSub : PD → PD → R PD
  | .int i, .int j => .ok (.int (i - j))
  | _, _ => .no
def gMul : PD → PD → R PD
  | .int i, .int j => if ib i + ib j ≤ 134217728 then .ok (.int (i * j)) else .no
  | _, _ => .no
def gDiv : PD → PD → R PD
  | .int i, .int j => if j ≠ 0 ∧ Builtin.divisionGoesByPylong i j = false then .ok (.int (i.fdiv j)) else .no
  | _, _ => .no
def gMod : PD → PD → R PD
  | .int i, .int j => if j ≠ 0 then .ok (.int (i.fmod j)) else .no
  | _, _ => .no
def gPow : PD → PD → R PD
  | .int i, .int j => if 0 ≤ j ∧ (ib i : Int) * j ≤ 134217728 then .ok (.int (i ^ j.toNat)) else .no
  | _, _ => .no
def gShl : PD → PD → R PD
  | .int i, .int j => if 0 ≤ j ∧ (ib i : Int) + j ≤ 134217728 then .ok (.int (i * 2 ^ j.toNat)) else .no
  | _, _ => .no
def gShr : PD → PD → R PD
  | .int i, .int j => if 0 ≤ j then .ok (.int (i / 2 ^ j.toNat)) else .no
  | _, _ => .no
theorem noEx_add : NoEx gAdd := fun a b c h => by unfold gAdd at h; split at h <;> first | (split at h <;> cases h) | cases h
theorem noEx_sub : NoEx gSub := fun a b c h => by unfold gSub at h; split at h <;> cases h
theorem noEx_mul : NoEx gMul := fun a b c h => by unfold gMul at h; split at h <;> first | (split at h <;> cases h) | cases h
theorem noEx_div : NoEx gDiv := fun a b c h => by unfold gDiv at h; split at h <;> first | (split at h <;> cases h) | cases h
theorem noEx_mod : NoEx gMod := fun a b c h => by unfold gMod at h; split at h <;> first | (split at h <;> cases h) | cases h
theorem noEx_pow : NoEx gPow := fun a b c h => by unfold gPow at h; split at h <;> first | (split at h <;> cases h) | cases h
section
variable {X : Cx}
/-- list + list, whatever the lists are -/
theorem op_catL : OpR X (binaryOp .Add) (fun x y H Q => ∃ a b xs ys, x = .ref a ∧ y = .ref b ∧ SqL X.K H a xs ∧ SqL X.K H b ys ∧ xs.length + ys.length ≤ sizeLine ∧ ∀ p, H p = none → Q (.ref p) (upd H p (.lst (xs ++ ys)))) := by
  intro pins s σ H x y v u Q I rx ry h
  obtain ⟨a, b, xs, ys, rfl, rfl, ha, hb, hz, q⟩ := h
  cases rx
  cases ry
  obtain ⟨its, r1, ⟨⟨c1, d1, dt1, sl1⟩, n1, e1, q1, w1, z1⟩, _⟩ := I.list ha
  obtain ⟨its2, r2, ⟨⟨c2, d2, dt2, sl2⟩, n2, e2, q2, w2, z2⟩, _⟩ := I.list hb
  simp only at q1 z1 q2 z2
  subst q1 z1 q2 z2
  have l1 := r1.length
  have l2 := r2.length
  refine PySem.concat_meets ⟨_, e1, rfl⟩ ⟨_, e2, rfl⟩ PySem.noFill_list_add PySem.seq_list_add F.slot_list_add F.entry_list_add (F.args_list_add_2 _ _) (PyProof.Rows.list_addW a b its.toArray its2.toArray n1 n2 d1 d2 sl1 sl2 (by rw [List.size_toArray, List.size_toArray, ← l1, ← l2]; exact hz)) ⟨e1, e2, ?_⟩
  have ea : its.toArray ++ its2.toArray = (its ++ its2).toArray := by simp
  rw [ea]
  exact ⟨.ref _, _, I.lnew (t' := s.toks) (r1.append r2) (by rw [List.length_append]; exact hz), rfl, q _ I.fresh⟩
theorem od_add : OpD X (binaryOp .Add) gAdd := by
  refine OpD_of fun pins s σ H x y v u Q S a b d I rx ry hS ra rb q h => ?_
  unfold gAdd at q
  split at q
  · cases ra; cases rb
    cases q
    exact op_add pins s σ H _ _ v u Q I rx ry ⟨_, _, rfl, rfl, h _ S H (Ext.refl hS) (.int _)⟩
  · cases ra; cases rb
    split at q
    · rename_i hl
      cases q
      exact op_add_str pins s σ H _ _ v u Q I rx ry ⟨_, _, rfl, rfl, hl, h _ S H (Ext.refl hS) (.str _)⟩
    · cases q
  · cases ra with
    | lst h1 a1 =>
      cases rb with
      | lst h2 a2 =>
        split at q
        · rename_i hl
          cases q
          refine op_catL pins s σ H _ _ v u Q I rx ry ⟨_, _, _, _, rfl, rfl, Same.seq hS h1, Same.seq hS h2, by rw [a1.length, a2.length]; exact hl, fun p hp => ?_⟩
          have z := Rp.newL hS hp (a1.append a2)
          exact h _ _ _ z.1 z.2
        · cases q
  · cases ra with
    | tup h1 a1 =>
      cases rb with
      | tup h2 a2 =>
        split at q
        · rename_i hl
          cases q
          refine op_catA pins s σ H _ _ v u Q I rx ry ⟨_, _, _, _, rfl, rfl, Same.seqT hS h1, Same.seqT hS h2, by rw [a1.length, a2.length]; exact hl, fun e => ?_, fun _ e => ?_, fun _ _ p hp => ?_⟩
          · subst e
            cases a1
            exact h _ S H (Ext.refl hS) (.tup h2 a2)
          · subst e
            cases a2
            rw [List.append_nil] at h
            exact h _ S H (Ext.refl hS) (.tup h1 a1)
          · have z := Rp.newT hS hp (a1.append a2)
            exact h _ _ _ z.1 z.2
        · cases q
  · cases q
theorem od_sub : OpD X (binaryOp .Sub) gSub := by
  refine OpD_of fun pins s σ H x y v u Q S a b d I rx ry hS ra rb q h => ?_
  unfold gSub at q
  split at q
  · cases ra; cases rb
    cases q
    exact op_sub pins s σ H _ _ v u Q I rx ry ⟨_, _, rfl, rfl, h _ S H (Ext.refl hS) (.int _)⟩
  · cases q
theorem od_mul : OpD X (binaryOp .Mult) gMul := by
  refine OpD_of fun pins s σ H x y v u Q S a b d I rx ry hS ra rb q h => ?_
  unfold gMul at q
  split at q
  · cases ra; cases rb
    split at q
    · rename_i hl
      cases q
      exact op_mulX pins s σ H _ _ v u Q I rx ry ⟨_, _, rfl, rfl, by unfold CMulX; have h2 : Builtin.Int.intBits _ + Builtin.Int.intBits _ ≤ 134217728 := hl; omega, h _ S H (Ext.refl hS) (.int _)⟩
    · cases q
  · cases q
theorem op_fdivP : OpR X (binaryOp .FloorDiv) (rI (fun i j => j ≠ 0 ∧ Builtin.divisionGoesByPylong i j = false) fun i j => .int (i.fdiv j)) := opI fun _ _ _ _ _ _ _ hc q => PyProof.Rows.floordiv_int hc.1 q (.inl hc.2)
theorem op_powP : OpR X (binaryOp .Pow) (rI (fun i j => 0 ≤ j ∧ (ib i : Int) * j ≤ 134217728) fun i j => .int (i ^ j.toNat)) := opI fun _ _ _ _ _ _ _ hc q => PyProof.Rows.pow_int hc.1 (by
  have h2 := hc.2
  have e : (2 : Int) ^ 27 = 134217728 := by decide
  rw [e]
  exact h2) q
theorem od_div : OpD X (binaryOp .FloorDiv) gDiv := by
  refine OpD_of fun pins s σ H x y v u Q S a b d I rx ry hS ra rb q h => ?_
  unfold gDiv at q
  split at q
  · cases ra; cases rb
    split at q
    · rename_i hl
      cases q
      exact op_fdivP pins s σ H _ _ v u Q I rx ry ⟨_, _, rfl, rfl, hl, h _ S H (Ext.refl hS) (.int _)⟩
    · cases q
  · cases q
theorem od_mod : OpD X (binaryOp .Mod) gMod := by
  refine OpD_of fun pins s σ H x y v u Q S a b d I rx ry hS ra rb q h => ?_
  unfold gMod at q
  split at q
  · cases ra; cases rb
    split at q
    · rename_i hl
      cases q
      exact op_modN pins s σ H _ _ v u Q I rx ry ⟨_, _, rfl, rfl, hl, h _ S H (Ext.refl hS) (.int _)⟩
    · cases q
  · cases q
theorem od_pow : OpD X (binaryOp .Pow) gPow := by
  refine OpD_of fun pins s σ H x y v u Q S a b d I rx ry hS ra rb q h => ?_
  unfold gPow at q
  split at q
  · cases ra; cases rb
    split at q
    · rename_i hl
      cases q
      exact op_powP pins s σ H _ _ v u Q I rx ry ⟨_, _, rfl, rfl, hl, h _ S H (Ext.refl hS) (.int _)⟩
    · cases q
  · cases q
/-! ### comparisons -/
def cI (p : Int → Int → Bool) : PD → PD → R PD
  | .int i, .int j => .ok (.bool (p i j))
  | _, _ => .no
def gLt : PD → PD → R PD := cI fun i j => decide (i < j)
def gLe : PD → PD → R PD := cI fun i j => decide (i ≤ j)
def gGt : PD → PD → R PD := cI fun i j => decide (j < i)
def gGe : PD → PD → R PD := cI fun i j => decide (j ≤ i)
theorem noEx_cI {p : Int → Int → Bool} : NoEx (cI p) := fun a b c h => by unfold cI at h; split at h <;> cases h
theorem od_cI {op : CmpOp} {p : Int → Int → Bool} (ho : OpR X (compareOp op) (rI0 fun i j => .bl (p i j))) : OpD X (compareOp op) (cI p) := by
  refine OpD_of fun pins s σ H x y v u Q S a b d I rx ry hS ra rb q h => ?_
  unfold cI at q
  split at q
  · cases ra; cases rb
    cases q
    exact ho pins s σ H _ _ v u Q I rx ry ⟨_, _, rfl, rfl, h _ S H (Ext.refl hS) (.bl _)⟩
  · cases q
theorem od_lt : OpD X (compareOp .Lt) gLt := od_cI op_lt
theorem od_le : OpD X (compareOp .LtE) gLe := od_cI op_le
theorem od_gt : OpD X (compareOp .Gt) gGt := od_cI op_gt
theorem od_ge : OpD X (compareOp .GtE) gGe := od_cI op_ge
def gEq : PD → PD → R PD
  | .int i, .int j => .ok (.bool (decide (i = j)))
  | .str x, .str y => .ok (.bool (decide (x = y)))
  | a, b => if SeqAt.shaped a = true ∧ SeqAt.shaped b = true then .ok (.bool (PyData.eqv a b)) else .no
def gNe : PD → PD → R PD
  | .int i, .int j => .ok (.bool (!decide (i = j)))
  | .str x, .str y => .ok (.bool (!decide (x = y)))
  | a, b => if SeqAt.shaped a = true ∧ SeqAt.shaped b = true then .ok (.bool (!PyData.eqv a b)) else .no
theorem noEx_eq : NoEx gEq := fun a b c h => by unfold gEq at h; split at h <;> first | (split at h <;> cases h) | cases h
theorem noEx_ne : NoEx gNe := fun a b c h => by unfold gNe at h; split at h <;> first | (split at h <;> cases h) | cases h
theorem decV_int {i j : Int} : decide (V.int i = V.int j) = decide (i = j) := by
  by_cases h : i = j
  · subst h; simp
  · rw [decide_eq_false h, decide_eq_false (fun e => h (by cases e; rfl))]
theorem decV_str {i j : Str} : decide (V.str i = V.str j) = decide (i = j) := by
  by_cases h : i = j
  · subst h; simp
  · rw [decide_eq_false h, decide_eq_false (fun e => h (by cases e; rfl))]
theorem od_eq (hu : X.A.units + 64 < cLine) : OpD X (compareOp .Eq) gEq := by
  refine OpD_of fun pins s σ H x y v u Q S a b d I rx ry hS ra rb q h => ?_
  unfold gEq at q
  split at q
  · cases ra; cases rb
    cases q
    exact op_eq pins s σ H _ _ v u Q I rx ry ⟨rfl, by rw [decV_int]; exact h _ S H (Ext.refl hS) (.bl _)⟩
  · cases ra; cases rb
    cases q
    exact op_eq pins s σ H _ _ v u Q I rx ry ⟨rfl, by rw [decV_str]; exact h _ S H (Ext.refl hS) (.bl _)⟩
  · split at q
    · rename_i hl
      cases q
      exact op_eqD hu pins s σ H _ _ v u Q I rx ry ⟨a, b, Rp.dp _ _ (SeqAt.canLay_of_shaped hl.1) (Rp.mono hS _ _ ra), Rp.dp _ _ (SeqAt.canLay_of_shaped hl.2) (Rp.mono hS _ _ rb), hl.1, hl.2, h _ S H (Ext.refl hS) (.bl _)⟩
    · cases q
theorem od_ne (hu : X.A.units + 64 < cLine) : OpD X (compareOp .NotEq) gNe := by
  refine OpD_of fun pins s σ H x y v u Q S a b d I rx ry hS ra rb q h => ?_
  unfold gNe at q
  split at q
  · cases ra; cases rb
    cases q
    exact op_ne pins s σ H _ _ v u Q I rx ry ⟨rfl, by rw [decV_int]; exact h _ S H (Ext.refl hS) (.bl _)⟩
  · cases ra; cases rb
    cases q
    exact op_ne pins s σ H _ _ v u Q I rx ry ⟨rfl, by rw [decV_str]; exact h _ S H (Ext.refl hS) (.bl _)⟩
  · split at q
    · rename_i hl
      cases q
      exact op_neD hu pins s σ H _ _ v u Q I rx ry ⟨a, b, Rp.dp _ _ (SeqAt.canLay_of_shaped hl.1) (Rp.mono hS _ _ ra), Rp.dp _ _ (SeqAt.canLay_of_shaped hl.2) (Rp.mono hS _ _ rb), hl.1, hl.2, h _ S H (Ext.refl hS) (.bl _)⟩
    · cases q
end

/-! ### unary -/
section
variable {X : Cx} {W : WX} {f f1 f2 : En → R PD} {fs : En → R (List PD)} {a b e : Expr} {es : List Expr} {pos p : Pos} {x : Str}
/-! ### subscripts -/
def gIx : PD → PD → R PD
  | .list ds, .int i => (match atI ds i with
    | some d => .ok d
    | none => .no)
  | .tuple ds, .int i => (match atI ds i with
    | some d => .ok d
    | none => .no)
  | .str z, .int i => if z.length ≤ 16777216 then (match atI z.cps.toList i with
    | some c => .ok (.str ⟨#[c]⟩)
    | none => .no) else .no
  | _, _ => .no
theorem noEx_ix : NoEx gIx := fun a b c h => by
  unfold gIx at h
  split at h
  · split at h <;> cases h
  · split at h <;> cases h
  · split at h
    · split at h <;> cases h
    · cases h
  · cases h
theorem atI_rp {K : PySem.W.Frag} {S : Hp} {vs : List V} {ds : List PD} {i : Int} {d : PD} (h : RpA K S vs ds) (e : atI ds i = some d) : ∃ v, atI vs i = some v ∧ Rp K S v d := by
  unfold atI at e ⊢
  rw [h.length]
  cases q : ixN ds.length i with
  | none => rw [q] at e; cases e
  | some j =>
    rw [q] at e
    exact h.get e
theorem pd_ix (ha : PE X a (tD X.K X.mg W f1)) (hb : PE X b (tD X.K X.mg W f2)) (hs : PlainIx b := by exact fun _ _ => rfl) : PE X (.Subscript a b pos) (tD X.K X.mg W (d2 gIx f1 f2)) :=
  PEimp (pe_ix (ix_seq (X := X)) ha hb hs) (d2_of (fun x y H Q ⟨S, a, b, hS, ra, rb, h⟩ => by
    cases q : gIx a b with
    | ex c => rw [q] at h; exact h.elim
    | no => rw [q] at h; exact h.elim
    | ok d =>
      rw [q] at h
      dsimp only at h
      unfold gIx at q
      split at q
      · cases rb
        cases ra with
        | lst h1 a1 =>
          split at q
          · rename_i d e
            cases q
            obtain ⟨v, hv, hr⟩ := atI_rp a1 e
            exact .inl ⟨_, _, _, v, rfl, rfl, Same.seq hS h1, hv, h v S H (Ext.refl hS) hr⟩
          · cases q
      · cases rb
        cases ra with
        | tup h1 a1 =>
          split at q
          · rename_i d e
            cases q
            obtain ⟨v, hv, hr⟩ := atI_rp a1 e
            exact .inr (.inl ⟨_, _, _, v, rfl, rfl, Same.seqT hS h1, hv, h v S H (Ext.refl hS) hr⟩)
          · cases q
      · cases rb
        cases ra
        split at q
        · rename_i hl
          split at q
          · rename_i c e
            cases q
            exact .inr (.inr ⟨_, _, c, rfl, rfl, hl, e, h _ S H (Ext.refl hS) (.str _)⟩)
          · cases q
        · cases q
      · cases q) noEx_ix)
def cutD {α : Type} (xs : List α) (lo hi : Option Int) : List α := (xs.drop (HT.sIx xs.length 0 lo)).take (HT.sIx xs.length xs.length hi - HT.sIx xs.length 0 lo)
def gSl (d : PD) (lo hi : Option Int) : R PD := match d with
  | .list ds => .ok (.list (cutD ds lo hi))
  | .tuple ds => .ok (.tuple (cutD ds lo hi))
  | .str z => if z.length ≤ 16777216 then .ok (.str (cutS z lo hi)) else .no
  | _ => .no
def toI : PD → R (Option Int)
  | .int i => .ok (some i)
  | _ => .no
def dP (f : En → R PD) : En → R (Option Int) := fun ρ => (f ρ).bind toI
def dP0 : En → R (Option Int) := fun _ => .ok none
def dSl (f : En → R PD) (lo hi : En → R (Option Int)) : En → R PD := fun ρ => (f ρ).bind fun d => (lo ρ).bind fun l => (hi ρ).bind fun h => gSl d l h
def rpO : Hp → Option Int → Option Int → Prop := fun _ b a => b = a
abbrev tDO (K : PySem.W.Frag) (mg : MG) (W : WX) (f : En → R (Option Int)) : TO := tG rpO K mg W f
theorem POimp {o : Option Expr} {t t' : TO} (h : PO X o t) (i : ∀ σ H Q, t' σ H Q → t σ H Q) : PO X o t' := ⟨fun pins s σ H Q I q => h.run pins s σ H Q I (i σ H Q q)⟩
theorem po_d0 : PO X none (tDO X.K X.mg W dP0) := POimp po_none fun σ H Q ⟨G, ρ, S, rel, h⟩ => h none S H (Ext.refl rel.inn) rfl
theorem po_d (he : PE X e (tD X.K X.mg W f)) : PO X (some e) (tDO X.K X.mg W (dP f)) := POimp (po_some he) fun σ H Q ⟨G, ρ, S, rel, h⟩ => by
  refine tG.mk rel (wG.imp ?_ (wG.bind (rp := Rp X.K) h))
  rintro v H1 ⟨S1, d, e1, ra, h1⟩
  cases d with
  | int i => cases ra; exact ⟨i, rfl, h1 (some i) S1 H1 (Ext.refl e1.inn) rfl⟩
  | _ => exact h1.elim
theorem cut_rp {K : PySem.W.Frag} {S : Hp} {vs : List V} {ds : List PD} {lo hi : Option Int} (h : RpA K S vs ds) : RpA K S (cutV vs lo hi) (cutD ds lo hi) := by
  unfold cutV cutD
  rw [h.length]
  exact (h.drop _).take _
theorem cut_all {α : Type} {xs : List α} {lo hi : Option Int} (h : HT.sIx xs.length 0 lo = 0 ∧ HT.sIx xs.length xs.length hi = xs.length) : cutD xs lo hi = xs := by
  unfold cutD
  rw [h.1, h.2]
  simp
theorem pd_sl {lo hi : Option Expr} {p2 : Pos} {l h : En → R (Option Int)} (ha : PE X a (tD X.K X.mg W f)) (hl : PO X lo (tDO X.K X.mg W l)) (hh : PO X hi (tDO X.K X.mg W h)) : PE X (.Subscript a (.Slice lo hi none p2) pos) (tD X.K X.mg W (dSl f l h)) :=
  PEimp (pe_slice (sl_list.or (sl_tupA.or sl_str)) ha hl hh) fun σ H Q ⟨G, ρ, S, rel, q⟩ => by
    refine tG.mk rel (wG.imp ?_ (wG.bind (rp := Rp X.K) q))
    rintro v H1 ⟨S1, d, e1, ra, q1⟩
    refine tG.mk (rel.ext e1) (wG.imp ?_ (wG.bind (rp := rpO) q1))
    rintro l H2 ⟨S2, l', e2, rl, q2⟩
    refine tG.mk ((rel.ext e1).ext e2) (wG.imp ?_ (wG.bind (rp := rpO) q2))
    rintro h H3 ⟨S3, h', e3, rh, q3⟩
    cases rl
    cases rh
    have ra3 := Rp.mono (e2.sub.trans e3.sub) _ _ ra
    have hS := e3.inn
    cases d with
    | list ds =>
      cases ra3 with
      | lst h1 a1 =>
        refine .inl ⟨_, _, rfl, Same.seq hS h1, fun p hp => ?_⟩
        have z := Rp.newL hS hp (cut_rp (lo := l) (hi := h) a1)
        exact q3 _ _ _ z.1 z.2
    | tuple ds =>
      cases ra3 with
      | tup h1 a1 =>
        refine .inr (.inl ⟨_, _, rfl, Same.seqT hS h1, fun hw => ?_, fun _ p hp => ?_⟩)
        · rw [a1.length] at hw
          have q4 : wG (Rp X.K) X.mg W σ S3 H3 Q (.ok (.tuple (cutD ds l h))) := q3
          rw [cut_all hw] at q4
          exact q4 _ S3 H3 (Ext.refl hS) (.tup h1 a1)
        · have z := Rp.newT hS hp (cut_rp (lo := l) (hi := h) a1)
          exact q3 _ _ _ z.1 z.2
    | str z =>
      cases ra3
      have q4 : wG (Rp X.K) X.mg W σ S3 H3 Q (if z.length ≤ 16777216 then .ok (.str (cutS z l h)) else .no) := q3
      by_cases hz : z.length ≤ 16777216
      · rw [if_pos hz] at q4
        exact .inr (.inr ⟨_, rfl, hz, q4 _ S3 H3 (Ext.refl hS) (.str _)⟩)
      · rw [if_neg hz] at q4
        exact q4.elim
    | _ => exact q3.elim

/-! ### built-ins by name -/
def CallD (X : Cx) (fv : Value) (g : List PD → R PD) : Prop := CallR X fv fun vs H Q => ∃ S ds, Same S H ∧ RpA X.K S vs ds ∧ match g ds with
  | .ok d => ∀ v S' H', Ext S H S' H' → Rp X.K S' v d → Q v H'
  | _ => False
def NoExL (g : List PD → R PD) : Prop := ∀ a c, g a ≠ .ex c
theorem cd_of {fv : Value} {g : List PD → R PD} (hn : NoExL g) : ∀ σ H Q, tD X.K X.mg W (dA g fs) σ H Q → tCB (fun vs H Q => ∃ S ds, Same S H ∧ RpA X.K S vs ds ∧ match g ds with
  | .ok d => ∀ v S' H', Ext S H S' H' → Rp X.K S' v d → Q v H'
  | _ => False) (tDA X.K X.mg W fs) σ H Q := by
  rintro σ H Q ⟨G, ρ, S, rel, h⟩
  refine tG.mk rel (wG.imp ?_ (wG.bind (rp := RpA X.K) h))
  rintro vs H1 ⟨S1, ds, e1, ra, h1⟩
  refine ⟨S1, ds, e1.inn, ra, ?_⟩
  cases q : g ds with
  | ok d => rw [q] at h1; exact h1
  | ex c => exact absurd q (hn ds c)
  | no => rw [q] at h1; exact h1
theorem pd_b {id : String} {g : List PD → R PD} (hc : CallD X (.builtin id) g) (hn : NoExL g) (hm : X.mg x = none) (hv : bootBuiltins x = some (.builtin id)) (ha : PA X (e :: es) (tDA X.K X.mg W fs)) (hg : Gl X x := by rfl) (hnn : x ≠ "__name__" := by decide) (hdb : (x == ("__debug__" : Str)) = false := by decide)
    (he : starEach (e :: es) X.env = (false, eval e X.env) :: starEach es X.env := by rfl) (hpl : (backTo pos (starEach es X.env)).any (·.1) = false := by rfl) : PE X (.Call (.Name x p) (e :: es) [] pos) (tD X.K X.mg W (dA g fs)) :=
  PEimp (pe_callB hc hg hm hv ha hnn hdb he hpl) (cd_of (fv := .builtin id) hn)
theorem pd_bt {T : String} {g : List PD → R PD} (hc : CallD X (.type T) g) (hn : NoExL g) (hm : X.mg x = none) (hv : bootBuiltins x = some (.type T)) (ha : PA X (e :: es) (tDA X.K X.mg W fs)) (hg : Gl X x := by rfl) (hnn : x ≠ "__name__" := by decide) (hdb : (x == ("__debug__" : Str)) = false := by decide)
    (he : starEach (e :: es) X.env = (false, eval e X.env) :: starEach es X.env := by rfl) (hpl : (backTo pos (starEach es X.env)).any (·.1) = false := by rfl) : PE X (.Call (.Name x p) (e :: es) [] pos) (tD X.K X.mg W (dA g fs)) :=
  PEimp (pe_callTy hc hg hm hv ha hnn hdb he hpl) (cd_of (fv := .type T) hn)
def gLen : List PD → R PD
  | [.list ds] => .ok (.int ds.length)
  | [.tuple ds] => .ok (.int ds.length)
  | [.str z] => if z.length ≤ 16777216 then .ok (.int z.length) else .no
  | _ => .no
theorem nx_len : NoExL gLen := fun a c h => by unfold gLen at h; split at h <;> first | (split at h <;> cases h) | cases h
theorem cd_len : CallD X (.builtin "len") gLen := by
  refine CallD_ofX fun pins s σ H vs us Q S ds d I r hS ra q h => ?_
  unfold gLen at q
  split at q
  · cases ra with
    | cons r1 r2 =>
      cases r2
      cases r1 with
      | lst h1 a1 =>
        cases q
        exact call_len pins s σ H _ us Q I r ⟨_, _, rfl, .inl ⟨_, Same.seq hS h1, rfl⟩, by rw [a1.length]; exact h _ S H (Ext.refl hS) (.int _)⟩
  · cases ra with
    | cons r1 r2 =>
      cases r2
      cases r1 with
      | tup h1 a1 =>
        cases q
        exact call_len pins s σ H _ us Q I r ⟨_, _, rfl, .inr ⟨_, Same.seqT hS h1, rfl⟩, by rw [a1.length]; exact h _ S H (Ext.refl hS) (.int _)⟩
  · cases ra with
    | cons r1 r2 =>
      cases r2
      cases r1
      split at q
      · rename_i hl
        cases q
        exact call_len pins s σ H _ us Q I r ⟨_, _, rfl, ⟨hl, rfl⟩, h _ S H (Ext.refl hS) (.int _)⟩
      · cases q
  · cases q
def gAbs : List PD → R PD
  | [.int i] => .ok (.int (if i < 0 then -i else i))
  | _ => .no
theorem nx_abs : NoExL gAbs := fun a c h => by unfold gAbs at h; split at h <;> cases h
theorem cd_abs : CallD X (.builtin "abs") gAbs := by
  refine CallD_ofX fun pins s σ H vs us Q S ds d I r hS ra q h => ?_
  unfold gAbs at q
  split at q
  · cases ra with
    | cons r1 r2 =>
      cases r2
      cases r1
      cases q
      exact call_abs pins s σ H _ us Q I r ⟨_, rfl, h _ S H (Ext.refl hS) (.int _)⟩
  · cases q
def gInt : List PD → R PD
  | [.int i] => .ok (.int i)
  | [.bool b] => .ok (.int (if b then 1 else 0))
  | _ => .no
theorem nx_int : NoExL gInt := fun a c h => by unfold gInt at h; split at h <;> cases h
theorem cd_int : CallD X (.type "int") gInt := by
  refine CallD_ofX fun pins s σ H vs us Q S ds d I r hS ra q h => ?_
  unfold gInt at q
  split at q
  · cases ra with
    | cons r1 r2 =>
      cases r2
      cases r1
      cases q
      exact call_int1 pins s σ H _ us Q I r (.inl ⟨_, rfl, h _ S H (Ext.refl hS) (.int _)⟩)
  · cases ra with
    | cons r1 r2 =>
      cases r2
      cases r1
      cases q
      exact call_int1 pins s σ H _ us Q I r (.inr ⟨_, rfl, h _ S H (Ext.refl hS) (.int _)⟩)
  · cases q
def gListOf : List PD → R PD
  | [.list ds] => .ok (.list ds)
  | [.tuple ds] => .ok (.list ds)
  | _ => .no
theorem nx_listOf : NoExL gListOf := fun a c h => by unfold gListOf at h; split at h <;> cases h
theorem cd_listOf : CallD X (.type "list") gListOf := by
  refine CallD_ofX fun pins s σ H vs us Q S ds d I r hS ra q h => ?_
  unfold gListOf at q
  split at q
  · cases ra with
    | cons r1 r2 =>
      cases r2
      cases r1 with
      | lst h1 a1 =>
        cases q
        refine call_list_of pins s σ H _ us Q I r ⟨_, _, rfl, .inl (Same.seq hS h1), fun p hp => ?_⟩
        have z := Rp.newL hS hp a1
        exact h _ _ _ z.1 z.2
  · cases ra with
    | cons r1 r2 =>
      cases r2
      cases r1 with
      | tup h1 a1 =>
        cases q
        refine call_list_of pins s σ H _ us Q I r ⟨_, _, rfl, .inr (Same.seqT hS h1), fun p hp => ?_⟩
        have z := Rp.newL hS hp a1
        exact h _ _ _ z.1 z.2
  · cases q
/-! isinstance(x, T), T a built-in type -/
def tyD : PD → String
  | .none => "NoneType"
  | .bool _ => "bool"
  | .int _ => "int"
  | .str _ => "str"
  | .list _ => "list"
  | .tuple _ => "tuple"
  | .dict _ => "dict"
def isExc : PD → Bool
  | .dict ((.none, _) :: _) => true
  | _ => false
theorem tyx_rp {K : PySem.W.Frag} {S H : Hp} {v : V} {d : PD} (hS : Same S H) (r : Rp K S v d) (hx : isExc d = false) : TyX K H v (.type (tyD d)) := by
  cases r with
  | non => exact .base .non
  | bl b => exact .base (.bl b)
  | int i => exact .base (.int i)
  | str x => exact .base (.str x)
  | lst h a =>
    rcases h with (h | ⟨o, h⟩) | ⟨o, its, n, h1, h2, _⟩
    · exact .base (.lst (hS _ _ h))
    · exact .base (.frz (hS _ _ h))
    · exact .kList h1 h2
  | tup h a =>
    rcases h with (h | ⟨o, h⟩) | ⟨o, its, n, h1, h2, _⟩
    · exact .base (.tup (hS _ _ h))
    · exact .fTuple (hS _ _ h)
    · exact .kTuple h1 h2
  | exc h => cases hx
  | dct h _ => exact .fDict (hS _ _ h)
def gIsi (T : String) (d : PD) : R PD := if isExc d = true then .no else match kitB (tyD d) T with
  | some b => .ok (.bool b)
  | none => .no
theorem pd_isi {T : String} {t : Str} {pt : Pos} (hm : X.mg "isinstance" = none) (hmt : X.mg t = none) (hv : bootBuiltins t = some (.type T)) (ha : PE X e (tD X.K X.mg W f)) (hg : Gl X "isinstance" := by rfl) (hgt : Gl X t := by rfl) (hnn : t ≠ "__name__" := by decide) (hdb : (t == ("__debug__" : Str)) = false := by decide)
    (he : starEach [e, .Name t pt] X.env = (false, eval e X.env) :: starEach [.Name t pt] X.env := by rfl) (he2 : starEach [.Name t pt] X.env = (false, eval (.Name t pt) X.env) :: starEach [] X.env := by rfl) (hpl : (backTo pos (starEach [.Name t pt] X.env)).any (·.1) = false := by rfl) :
    PE X (.Call (.Name "isinstance" p) [e, .Name t pt] [] pos) (tD X.K X.mg W (d1 (gIsi T) f)) :=
  PEimp (pe_callB call_isi hg hm (by decide +kernel) (pa_cons ha (pa_cons (pe_bltn (v := .ty T) hgt hmt hv rfl hnn hdb) pa_nil he2) he) (by decide) (by decide) he hpl) fun σ H Q ⟨G, ρ, S, rel, h⟩ => by
    refine tG.mk rel (wG.imp ?_ (wG.bind (rp := Rp X.K) h))
    rintro v H1 ⟨S1, d, e1, ra, h1⟩
    unfold gIsi at h1
    split at h1
    · exact h1.elim
    · rename_i hx
      split at h1
      · rename_i b hb
        exact ⟨v, .ty T, _, _, b, rfl, .ty T, tyx_rp e1.inn ra (by simpa using hx), kit_ty hb, h1 _ S1 H1 (Ext.refl e1.inn) (.bl b)⟩
      · exact h1.elim
end

/-! ### raise -/
structure ExAt (K : PySem.W.Frag) (mg : MG) (x : Str) : Prop where
  ex : ∃ C, mg x = some (.ref C) ∧ PySem.W.excIn K C He.veBase "ValueError.__new__" = true ∧ PySem.W.keepIn K (.ref C) = true ∧ PySem.W.subIn K (.ref C) (.type "BaseException") = some true ∧ PySem.W.typeIn K (.ref C) = some (.type "type")
section
variable {X : Cx} {W : WX} {x m : Str} {p p2 pos pos' : Pos} {j : Nat}
theorem sd_raise (hc : X.calm = true) (tk : Takes X W) (E : ExAt X.K X.mg x) (hg : Gl X x := by rfl) (hdb : (x == ("__debug__" : Str)) = false := by decide) : PS X (.Raise (some (.Call (.Name x p) [.Constant (.str m) j p2] [] pos)) none pos') (tS X.K X.mg W (sRaise x)) := by
  obtain ⟨C, h1, h2, h3, h4, h5⟩ := E.ex
  exact PSimp (ps_raise hc tk (pmk_own PySem.F.excBase_ValueError h2 h1 h3 (raises_own h4 h5) hg hdb)) fun D σ H ⟨G, ρ, S, r, q⟩ => q _ σ S H h1 (Same.refl _) r
end

/-! ### a def -/
def fnD (m : Nat) (den : En → Fl) (ds : List PD) : R PD := match den (ds.map (fun d => some (.d d)) ++ List.replicate (m - ds.length) none) with
  | .rt d => .ok d
  | .nx _ => .ok .none
  | .ex c _ => .ex c
  | _ => .no
theorem getL {α β : Type} {f : α → β} {l : List α} {m : Nat} {i : Nat} {b : β} {c : β} (h : (l.map f ++ List.replicate m c)[i]? = some b) (hb : b ≠ c) : ∃ a, l[i]? = some a ∧ b = f a := by
  by_cases hi : i < l.length
  · rw [List.getElem?_append_left (by simpa using hi), List.getElem?_map] at h
    cases e : l[i]? with
    | none => rw [e] at h; cases h
    | some a => rw [e] at h; cases h; exact ⟨a, rfl, rfl⟩
  · rw [List.getElem?_append_right (by simpa using hi), List.getElem?_replicate] at h
    split at h
    · cases h; exact absurd rfl hb
    · cases h
theorem Rel.start {K : PySem.W.Frag} {S H : Hp} {vs : List V} {ds : List PD} {N : List Str} (hS : Same S H) (r : RpA K S vs ds) : Rel K ⟨S, H, 0, [], []⟩ S (start N vs) (ds.map (fun d => some (.d d)) ++ List.replicate (N.length - ds.length) none) H := by
  refine ⟨fun _ => [], ⟨?_, hS, Same.refl _, Same.refl _, fun _ _ h => .inl h, (fun _ h => nomatch h), fun i x h => ?_, (fun _ _ h => nomatch h), (fun _ _ _ _ h => nomatch h), (fun _ _ h => nomatch h)⟩⟩
  · unfold L2.start; simp [r.length]
  · obtain ⟨d, h1, h2⟩ := getL h (by intro z; cases z)
    cases h2
    obtain ⟨v, hv, hr⟩ := r.get h1
    refine ⟨v, ?_, hr⟩
    unfold L2.start
    have hi : i < vs.length := (List.getElem?_eq_some_iff.mp hv).1
    rw [List.getElem?_append_left (by simpa using hi), List.getElem?_map, hv]
    rfl
section
variable {P : Program} {w : World} {K : PySem.W.Frag} {mg : MG} {base : Heap}
theorem okD {x qual : Str} {params : Arguments} {body : List Stmt} {scope : Scope} {dvs : List V} {kws : List (Str × V)} {f : Addr} {fd : FuncData} {N ps : List Str} {k n : Nat} {den : En → Fl} (F : FunD K x qual params body scope dvs kws f fd) (S : FnScope N ps scope) (hn : ps.length = n)
    (hb : ∀ (cdv : Value) (A : Around) (outer : List Env) (s : Shared) (H : Hp) (E : XK), Room k (A.deeper (PyProof.Rows.envOfC qual scope s.heap.objs.size f cdv)) → PSs (cxOf (L2.CX P w) P w K mg base N qual scope f cdv A outer s H E) body (tS K mg (fun cls d _ H => E cls d H) den)) :
    FnOk P w K mg base (L2.CX P w) (k + 1) f fd ps (spD K mg n (fnD N.length den)) := by
  refine F.ok S (fun vs H Q E h => ?_) (fun cdv A outer s H vs Q E hr h => ⟨_, hb cdv A outer s H E hr, ?_⟩)
  · obtain ⟨S', ds, _, hr, hl, _⟩ := h
    rw [hr.length, hl, hn]
  · obtain ⟨S', ds, hS, hr2, hl, h⟩ := h
    refine ⟨⟨S', H, 0, [], []⟩, _, S', Rel.start hS hr2, ?_⟩
    unfold fnD at h
    cases q : den (ds.map (fun d => some (.d d)) ++ List.replicate (N.length - ds.length) none) with
    | nx ρ => rw [q] at h; exact fun σ S2 H2 s2 r => h .non S2 H2 r.fin .non
    | rt d => rw [q] at h; exact fun v S2 H2 e r => h v S2 H2 e r
    | rm d ρ => rw [q] at h; exact h.elim
    | rv x => rw [q] at h; exact h.elim
    | ex c ρ => rw [q] at h; exact fun cls σ S2 H2 m s2 r => h cls S2 H2 m r.fin
    | bk ρ => rw [q] at h; exact h.elim
    | ct ρ => rw [q] at h; exact h.elim
    | no => rw [q] at h; exact h.elim
theorem FnAt.imp {x : Str} {k n : Nat} {Bs : List (List PD)} {g g' : List PD → R PD} (F : FnAt P w K mg base x k n Bs g) (h : ∀ ds, g' ds = .no ∨ g' ds = g ds) : FnAt P w K mg base x k n Bs g' := by
  obtain ⟨f, fd, ps, h1, h2, h3, h4⟩ := F.ex
  refine ⟨f, fd, ps, h1.imp fun vs H Q E q => ?_, h2, h3, h4⟩
  obtain ⟨S, ds, a, b, c, q⟩ := q
  refine ⟨S, ds, a, b, c, ?_⟩
  rcases h ds with e | e
  · rw [e] at q; exact q.elim
  · rw [e] at q; exact q
end
end DL

set_option Elab.async false
set_option linter.all false
set_option maxRecDepth 100000
set_option maxHeartbeats 4000000
set_option autoImplicit false
/-! the data layer 6: in, is None, chains; lists of one's own; keyword calls; targets of an assignment -/
namespace DL
open PySem L2

/-! ### in, not in -/
def flatD : PD → Bool
  | .none => true
  | .bool _ => true
  | .int _ => true
  | .str _ => true
  | _ => false
def inL (d : PD) (ds : List PD) : R Bool := if flatD d = true ∧ ds.all flatD = true then .ok (ds.any fun y => PyData.eqv y d) else
  if SeqAt.shaped d = true ∧ SeqAt.shaped (.list ds) = true then .ok (ds.any fun y => PyData.eqv y d) else .no
def gIn (neg : Bool) : PD → PD → R PD
  | d, .list ds => (inL d ds).bind fun b => .ok (.bool (b != neg))
  | d, .tuple ds => (inL d ds).bind fun b => .ok (.bool (b != neg))
  | .str x, .str z => .ok (.bool ((!(Builtin.Str.occurrences z x 0 z.length 1).isEmpty) != neg))
  | _, _ => .no
theorem noEx_in {neg : Bool} : NoEx (gIn neg) := fun a b c h => by
  have no : ∀ d ds c, inL d ds ≠ .ex c := fun d ds c h => by
    unfold inL at h
    split at h
    · cases h
    · split at h <;> cases h
  unfold gIn at h
  split at h
  · rename_i ds
    cases q : inL a ds with
    | ok b => rw [q] at h; cases h
    | ex c => exact no _ _ _ q
    | no => rw [q] at h; cases h
  · rename_i ds
    cases q : inL a ds with
    | ok b => rw [q] at h; cases h
    | ex c => exact no _ _ _ q
    | no => rw [q] at h; cases h
  · cases h
  · cases h
theorem flat_rp {K : PySem.W.Frag} {S : Hp} {v : V} {d : PD} (r : Rp K S v d) (h : flatD d = true) : flatV v = true := by
  cases r <;> first | rfl | cases h
theorem eqv_rp {K : PySem.W.Frag} {S : Hp} {v u : V} {d e : PD} (r : Rp K S v d) (r2 : Rp K S u e) (h : flatD d = true) (h2 : flatD e = true) : eqV v u = PyData.eqv d e := by
  cases r <;> first | (cases h; done) | (cases r2 <;> first | (cases h2; done) | simp only [eqV, PyData.eqv])
theorem flatA_rp {K : PySem.W.Frag} {S : Hp} : ∀ {ds : List PD} {vs : List V}, RpA K S vs ds → ds.all flatD = true → vs.all flatV = true
  | [], _, h, _ => by cases h; rfl
  | d :: ds, _, h, f => by
    cases h with
    | cons h1 h2 =>
      rw [List.all_cons, Bool.and_eq_true] at f ⊢
      exact ⟨flat_rp h1 f.1, flatA_rp h2 f.2⟩
theorem inV_rp {K : PySem.W.Frag} {S : Hp} {v : V} {d : PD} (r : Rp K S v d) (hd : flatD d = true) : ∀ {ds : List PD} {vs : List V}, RpA K S vs ds → ds.all flatD = true → inV v vs = ds.any fun y => PyData.eqv y d
  | [], _, h, _ => by cases h; rfl
  | e :: ds, _, h, f => by
    cases h with
    | cons h1 h2 =>
      rw [List.all_cons, Bool.and_eq_true] at f
      have := inV_rp r hd h2 f.2
      unfold inV at this ⊢
      rw [List.any_cons, List.any_cons, eqv_rp h1 r f.1 hd, this]
section
variable {X : Cx}
def rInT (K : PySem.W.Frag) (neg : Bool) : R2 := fun x y H Q => ∃ d ds, Dp K H x d ∧ Dp K H y (.tuple ds) ∧ SeqAt.shaped d = true ∧ SeqAt.shaped (.list ds) = true ∧ Q (.bl ((ds.any fun z => PyData.eqv z d) != neg)) H
theorem op_inT (hu : X.A.units + 65 < cLine) : OpR X (compareOp .In) (rInT X.K false) := by
  intro pins s σ H x y v u Q I rx ry h
  obtain ⟨d, ds, hd, he, sd, se, q⟩ := h
  obtain ⟨as, r1⟩ := Dp.reads I d x v hd rx
  obtain ⟨bs, r2⟩ := Dp.reads I (.tuple ds) y u he ry
  refine SeqAt.in_tuple_reads r2 r1 (SeqAt.canLay_of_shaped se) (SeqAt.canLay_of_shaped sd) (PyProof.Rows.room_in_shaped sd hu) ⟨.bl _, H, I, rfl, ?_⟩
  simpa using q
theorem inL_cases {d : PD} {ds : List PD} {b : Bool} (h : inL d ds = .ok b) : b = (ds.any fun y => PyData.eqv y d) ∧ ((flatD d = true ∧ ds.all flatD = true) ∨ (SeqAt.shaped d = true ∧ SeqAt.shaped (.list ds) = true)) := by
  unfold inL at h
  split at h
  · rename_i hf
    cases h
    exact ⟨rfl, .inl hf⟩
  · split at h
    · rename_i hf
      cases h
      exact ⟨rfl, .inr hf⟩
    · cases h
theorem od_in (hu : X.A.units + 65 < cLine) : OpD X (compareOp .In) (gIn false) := by
  refine OpD_of fun pins s σ H x y v u Q S a b d I rx ry hS ra rb q h => ?_
  unfold gIn at q
  split at q
  · rename_i ds
    cases e : inL a ds with
    | ok k =>
      rw [e] at q
      cases q
      obtain ⟨rfl, hc⟩ := inL_cases e
      cases rb with
      | lst h1 a1 =>
        rcases hc with ⟨f1, f2⟩ | ⟨f1, f2⟩
        · exact op_in_seq pins s σ H _ _ v u Q I rx ry ⟨_, _, rfl, .inl (Same.seq hS h1), flat_rp ra f1, flatA_rp a1 f2, by rw [if_neg Bool.false_ne_true, inV_rp ra f1 a1 f2]; exact h _ S H (Ext.refl hS) (by simpa using Rp.bl _)⟩
        · exact op_inD hu pins s σ H _ _ v u Q I rx ry ⟨_, _, Rp.dp _ _ (SeqAt.canLay_of_shaped f1) (Rp.mono hS _ _ ra), Rp.dp _ _ (SeqAt.canLay_of_shaped f2) (Rp.mono hS _ _ (.lst h1 a1)), f1, f2, h _ S H (Ext.refl hS) (by simpa using Rp.bl _)⟩
    | ex c => rw [e] at q; cases q
    | no => rw [e] at q; cases q
  · rename_i ds
    cases e : inL a ds with
    | ok k =>
      rw [e] at q
      cases q
      obtain ⟨rfl, hc⟩ := inL_cases e
      cases rb with
      | tup h1 a1 =>
        rcases hc with ⟨f1, f2⟩ | ⟨f1, f2⟩
        · exact op_in_seq pins s σ H _ _ v u Q I rx ry ⟨_, _, rfl, .inr (Same.seqT hS h1), flat_rp ra f1, flatA_rp a1 f2, by rw [if_neg Bool.false_ne_true, inV_rp ra f1 a1 f2]; exact h _ S H (Ext.refl hS) (by simpa using Rp.bl _)⟩
        · exact op_inT hu pins s σ H _ _ v u Q I rx ry ⟨_, _, Rp.dp _ _ (SeqAt.canLay_of_shaped f1) (Rp.mono hS _ _ ra), Rp.dp _ _ (SeqAt.canLay_of_shaped f2) (Rp.mono hS _ _ (.tup h1 a1)), f1, f2, h _ S H (Ext.refl hS) (.bl _)⟩
    | ex c => rw [e] at q; cases q
    | no => rw [e] at q; cases q
  · cases ra
    cases rb
    cases q
    exact op_in_str pins s σ H _ _ v u Q I rx ry ⟨_, _, rfl, rfl, h _ S H (Ext.refl hS) (by simpa using Rp.bl _)⟩
  · cases q
end

/-! ### is None; chains -/
section
variable {X : Cx} {W : WX} {f f1 f2 f3 : En → R PD} {a b c e : Expr} {pos pos' p : Pos} {j : Nat}
end

/-! ### tuple targets -/
def sAsg (tg : Tg) (f : En → R PD) : En → Fl := sE f fun d ρ => match tg.put d ρ with
  | some ρ' => .nx ρ'
  | none => .no
section
variable {X : Cx} {W : WX} {f : En → R PD} {tg e : Expr} {T : Tg} {pos : Pos}
theorem sd_asg (hg : PG X tg (gOf X.K T)) (he : PE X e (tD X.K X.mg W f)) (hs : swapsWithSole [tg] e pos.line X.env = pure false := by rfl) (hw : swappedStores [tg] e X.env = pure none := by rfl) (h1 : (assignEach [tg] X.env).map (·.2) = [assign tg X.env] := by rfl) : PS X (.Assign [tg] e pos) (tS X.K X.mg W (sAsg T f)) :=
  PSimp (ps_asg he hg hs hw h1) fun D σ H ⟨G, ρ, S, r, q⟩ => tG.mk r (wG.imp (fun v H1 ⟨S1, a, e1, ra, r1, q1⟩ => by
    cases z : T.put a ρ with
    | none => rw [z] at q1; exact q1.elim
    | some ρ' => rw [z] at q1; exact gOf_ok r1 ra z fun σ' r' _ => q1 σ' S1 H1 (Same.refl _) r') (wS.ofE (rp := Rp X.K) r q))
end

/-! ### lists of one's own -/
/-- an expression that makes a new list, held by no one -/
def tL (K : PySem.W.Frag) (mg : MG) (W : WX) (f : En → R (List PD)) : TE := fun σ H Q => ∃ G ρ S, Rel K G S σ ρ H ∧ match f ρ with
  | .ok ds => ∀ D S' H' xs, Ext S H S' H' → H D = none → S' D = none → H' D = some (.lst xs) → RpA K S' xs ds → Q (.ref D) H'
  | .ex c => ∀ cls S' H', mg c = some cls → Ext S H S' H' → W cls none σ H'
  | .no => False
def sSetL (i : Nat) (f : En → R (List PD)) : En → Fl := sE f fun ds ρ => .nx (ρ.set i (some (.l ds)))
section
variable {X : Cx} {W : WX} {f f1 f2 : En → R PD} {fl : En → R (List PD)} {e : Expr} {es : List Expr} {pos pos' : Pos} {x : Str} {g : En → Fl} {sts : List Stmt}
theorem sd_setL (i : Nat) (hN : X.N.Nodup) (hi : X.N[i]? = some x) (hx : Loc X.env.scope x) (he : PE X e (tL X.K X.mg W fl)) (hs : swapsWith e (some (.Name x pos')) pos.line X.env = pure false := by rfl) (hf : X.fn x = true ∨ X.env.scope.names.lookup x = some .local := by first | exact .inl rfl | exact .inr rfl | assumption)
    (hw : swappedStores [.Name x pos'] e X.env = pure none := by rfl) :
    PS X (.Assign [.Name x pos'] e pos) (tS X.K X.mg W (sSetL i fl)) := PSimp (ps_asg he (pg_name hN hi hx hf) hs hw) fun D σ H ⟨G, ρ, S, r, q⟩ => by
  refine ⟨G, ρ, S, r, ?_⟩
  unfold sSetL sE at q
  cases z : fl ρ with
  | ok ds => rw [z] at q; exact fun D' S' H' xs e hD hS hH hr => q _ S' H' e.sub (r.newO (x := .l ds) e hD hS (ne_some hH) ⟨D', rfl, rfl, xs, hH, hr⟩ i)
  | ex c => rw [z] at q; exact fun cls S' H' m e => q cls σ S' H' m e.sub (r.ext e)
  | no => rw [z] at q; exact q
/-- a display -/
def lDisp (fl : En → R (List PD)) : En → R (List PD) := fun ρ => (fl ρ).bind fun ds => if ds.length ≤ 1000 then .ok ds else .no
theorem pl_lst (h : PA X es (tDA X.K X.mg W fl)) : PE X (.List es pos) (tL X.K X.mg W (lDisp fl)) := PEimp (pe_lst h) fun σ H Q ⟨G, ρ, S, rel, q⟩ => by
  unfold lDisp at q
  refine tG.mk rel ?_
  cases z : fl ρ with
  | ok ds =>
    rw [z] at q
    intro xs S1 H1 e1 ra
    simp only [R.bind_ok] at q
    by_cases hl : ds.length ≤ 1000
    · rw [if_pos hl] at q
      refine ⟨by rw [ra.length]; exact le_line hl, fun p hp => ?_⟩
      have e2 := e1.trans (Ext.fresh (o := .lst xs) e1.inn hp)
      exact q p S1 _ xs e2 (e1.all.free hp) (e1.inn.free hp) upd_same ra
    · rw [if_neg hl] at q; exact q.elim
  | ex c => rw [z] at q; exact q
  | no => rw [z] at q; exact q
theorem pl_lc {elt tg iter : Expr} {ifs : List Expr} {scope : Scope} {it : En → R (List PD)} {T : Tg} {tt : En → R Bool} {te : En → R PD} (own : List (Str × Nat)) (hc : X.calm = true) (hN : X.N.Nodup) (hi : PI X tg iter (tI X.K X.mg W it)) (ok : BlkOk X.N X.env.scope scope own) (hT : ∀ i ∈ T.slots, i ∈ own.map (·.2))
    (hg : ∀ (s : Shared) (H : Hp) (C : Addr) (cl : List (Str × Addr)) (fp : List Addr), PG (X.blk s H scope (compEnvC scope cl C X.env) fp) tg (gOf X.K T)) (ht : ∀ (s : Shared) (H : Hp) (C : Addr) (cl : List (Str × Addr)) (fp : List Addr), PTs (X.blk s H scope (compEnvC scope cl C X.env) fp) ifs (tDT X.K X.mg W0 tt))
    (he : ∀ (s : Shared) (H : Hp) (C : Addr) (cl : List (Str × Addr)) (fp : List Addr), PE (X.blk s H scope (compEnvC scope cl C X.env) fp) elt (tD X.K X.mg W0 te)) (hs : ∀ x, foldedSetIterable iter X.env x = pure x := by intro _; rfl) :
    PE X (.ListComp elt [⟨tg, iter, ifs, 0⟩] scope pos) (tL X.K X.mg W (dLcL it T (own.map (·.2)) tt te)) := PEimp (pe_lc hc hN hi ok hg ht he hs) fun σ H Q ⟨G, ρ, S, rel, h⟩ => lc_of hT rel h
/-- list(e) -/
def lOf : PD → R (List PD)
  | .list ds => .ok ds
  | .tuple ds => .ok ds
  | _ => .no
def lList (f : En → R PD) : En → R (List PD) := fun ρ => (f ρ).bind lOf
theorem pl_of {p : Pos} (hm : X.mg "list" = none) (ha : PE X e (tD X.K X.mg W f)) (hg : Gl X "list" := by rfl) (hs : starEach [e] X.env = (false, eval e X.env) :: starEach [] X.env := by rfl) (hpl : (backTo pos (starEach [] X.env)).any (·.1) = false := by rfl) :
    PE X (.Call (.Name "list" p) [e] [] pos) (tL X.K X.mg W (lList f)) := PEimp (pe_callTy call_list_of hg hm (by decide +kernel) (pa_cons ha pa_nil hs) (by decide) (by decide) hs hpl) fun σ H Q ⟨G, ρ, S, rel, q⟩ => by
  unfold lList at q
  refine tG.mk rel ?_
  cases z : f ρ with
  | ok d =>
    rw [z] at q
    intro v S1 H1 e1 ra
    cases d with
    | list ds =>
      cases ra with
      | lst h1 a1 => exact ⟨_, _, rfl, .inl (Same.seq e1.inn h1), fun p hp => q p S1 _ _ (e1.trans (Ext.fresh e1.inn hp)) (e1.all.free hp) (e1.inn.free hp) upd_same a1⟩
    | tuple ds =>
      cases ra with
      | tup h1 a1 => exact ⟨_, _, rfl, .inr (Same.seqT e1.inn h1), fun p hp => q p S1 _ _ (e1.trans (Ext.fresh e1.inn hp)) (e1.all.free hp) (e1.inn.free hp) upd_same a1⟩
    | _ => exact q.elim
  | ex c => rw [z] at q; exact q
  | no => rw [z] at q; exact q
/-- it is known from here on -/
def sFrz (i : Nat) (g : En → Fl) : En → Fl := fun ρ => match ρ[i]? with
  | some (some (.l xs)) => g (ρ.set i (some (.d (.list xs))))
  | _ => g ρ
theorem sd_frz (i : Nat) (h : PSs X sts (tS X.K X.mg W g)) : PSs X sts (tS X.K X.mg W (sFrz i g)) := PSsimp h fun D σ H ⟨G, ρ, S, r, q⟩ => by
  unfold sFrz at q
  split at q
  · rename_i xs e
    obtain ⟨a, vs, h1, h2, h4, h5, h6⟩ := r.known e
    refine ⟨G, _, _, h6, q.mono fun b o e => ?_⟩
    rw [upd_ne (ne_of_none e h2)]; exact e
  · exact ⟨G, ρ, S, r, q⟩
/-- an expression that looks at a list of one's own, its value no list or tuple -/
def atomD : PD → R PD
  | .none => .ok .none
  | .bool b => .ok (.bool b)
  | .int i => .ok (.int i)
  | .str x => .ok (.str x)
  | _ => .no
def dLend (i : Nat) (f : En → R PD) : En → R PD := fun ρ => match ρ[i]? with
  | some (some (.l xs)) => (f (ρ.set i (some (.d (.list xs))))).bind atomD
  | _ => f ρ
def dLendB (i : Nat) (f : En → R Bool) : En → R Bool := fun ρ => match ρ[i]? with
  | some (some (.l xs)) => f (ρ.set i (some (.d (.list xs))))
  | _ => f ρ
theorem pd_lend (i : Nat) (h : PE X e (tD X.K X.mg W f)) : PE X e (tD X.K X.mg W (dLend i f)) := PEimp h fun σ H Q ⟨G, ρ, S, r, q⟩ => by
  unfold dLend at q
  split at q
  · rename_i xs e
    obtain ⟨a, vs, h1, h2, h4, h5, h6⟩ := r.known e
    refine tG.mk h6 ?_
    cases z : f (ρ.set i (some (.d (.list xs)))) with
    | ok d =>
      rw [z] at q
      intro v S' H' e' ra
      cases d with
      | none => cases ra; exact q _ S H' (Ext.grow r.inn e'.all) .non
      | bool b => cases ra; exact q _ S H' (Ext.grow r.inn e'.all) (.bl b)
      | int b => cases ra; exact q _ S H' (Ext.grow r.inn e'.all) (.int b)
      | str b => cases ra; exact q _ S H' (Ext.grow r.inn e'.all) (.str b)
      | _ => exact q.elim
    | ex c => rw [z] at q; exact fun cls S' H' m e' => q cls S H' m (Ext.grow r.inn e'.all)
    | no => rw [z] at q; exact q
  · exact ⟨G, ρ, S, r, q⟩
theorem pt_lend {t : En → R Bool} (i : Nat) (h : PT X e (tDT X.K X.mg W t)) : PT X e (tDT X.K X.mg W (dLendB i t)) := PTimp h fun σ H Q ⟨G, ρ, S, r, q⟩ => by
  unfold dLendB at q
  split at q
  · rename_i xs e
    obtain ⟨a, vs, h1, h2, h4, h5, h6⟩ := r.known e
    refine tG.mk h6 ?_
    cases z : t (ρ.set i (some (.d (.list xs)))) with
    | ok d => rw [z] at q; exact fun v S' H' e' ra => q v S H' (Ext.grow r.inn e'.all) ra
    | ex c => rw [z] at q; exact fun cls S' H' m e' => q cls S H' m (Ext.grow r.inn e'.all)
    | no => rw [z] at q; exact q
  · exact ⟨G, ρ, S, r, q⟩
/-- its item -/
def dIxO (i : Nat) (f : En → R PD) : En → R PD := fun ρ => match ρ[i]? with
  | some (some (.l xs)) => (f ρ).bind fun d => match d with
    | .int k => (match atI xs k with
      | some d => .ok d
      | none => .no)
    | _ => .no
  | some (some (.d d)) => (f ρ).bind fun k => gIx d k
  | _ => .no
theorem pd_ixO (i : Nat) {p : Pos} (hb : PE X e (tD X.K X.mg W f)) (hN : X.N[i]? = some x := by rfl) (hv : Vis X.env.scope x := by first | exact Or.inl rfl | exact Or.inr (Or.inl rfl) | exact Or.inr (Or.inr rfl)) (hd : (x == ("__debug__" : Str)) = false := by decide)
    (hcd : (x == ("__classdict__" : Str)) = false := by decide) (hs : PlainIx e := by exact fun _ _ => rfl) : PE X (.Subscript (.Name x p) e pos) (tD X.K X.mg W (dIxO i f)) := PEimp (pe_ix (ix_seq (X := X)) (pe_var hN hv hd hcd) hb hs) fun σ H Q ⟨G, ρ, S, r, q⟩ => by
  unfold dIxO at q
  split at q
  · rename_i xs e
    obtain ⟨a, vs, h1, h2, h4, h5, h6⟩ := r.known e
    refine ⟨_, h1, tG.mk r (wG.imp ?_ (wG.bind (rp := Rp X.K) q))⟩
    rintro v H1 ⟨S1, d, e1, ra, q1⟩
    cases d with
    | int k =>
      cases ra
      dsimp only at q1
      split at q1
      · rename_i d e
        obtain ⟨v, hv, hr⟩ := atI_rp h5 e
        exact .inl ⟨_, _, _, v, rfl, rfl, SqL.of (e1.all _ _ h4), hv, q1 v S1 H1 (Ext.refl e1.inn) (Rp.mono e1.sub _ _ hr)⟩
      · exact q1.elim
    | _ => exact q1.elim
  · rename_i d e
    have hq : tD X.K X.mg W (d2 gIx (dV i) f) σ H Q := ⟨G, ρ, S, r, by
      unfold d2 dV
      rw [e]
      exact q⟩
    obtain ⟨v, h1, h2⟩ := r.slotD i _ e
    refine ⟨v, h1, tG.mk r (wG.imp ?_ (wG.bind (rp := Rp X.K) q))⟩
    rintro w H1 ⟨S1, k, e1, rk, q1⟩
    have h3 := Rp.mono e1.sub _ _ h2
    cases z : gIx d k with
    | ok y =>
      rw [z] at q1
      unfold gIx at z
      split at z
      · cases rk
        cases h3 with
        | lst s1 a1 =>
          split at z
          · rename_i d e
            cases z
            obtain ⟨v, hv, hr⟩ := atI_rp a1 e
            exact .inl ⟨_, _, _, v, rfl, rfl, Same.seq e1.inn s1, hv, q1 v S1 H1 (Ext.refl e1.inn) hr⟩
          · cases z
      · cases rk
        cases h3 with
        | tup s1 a1 =>
          split at z
          · rename_i d e
            cases z
            obtain ⟨v, hv, hr⟩ := atI_rp a1 e
            exact .inr (.inl ⟨_, _, _, v, rfl, rfl, Same.seqT e1.inn s1, hv, q1 v S1 H1 (Ext.refl e1.inn) hr⟩)
          · cases z
      · cases rk
        cases h3
        split at z
        · rename_i hl
          split at z
          · rename_i c e
            cases z
            exact .inr (.inr ⟨_, _, c, rfl, rfl, hl, e, q1 _ S1 H1 (Ext.refl e1.inn) (.str _)⟩)
          · cases z
        · cases z
      · cases z
    | ex c => exact absurd z (noEx_ix _ _ _)
    | no => rw [z] at q1; exact q1.elim
  · exact q.elim
/-- x.append(e) -/
def sApp (i : Nat) (f : En → R PD) : En → Fl := fun ρ => match ρ[i]? with
  | some (some (.l xs)) => sE f (fun d ρ => if xs.length < 16777216 then .nx (ρ.set i (some (.l (xs ++ [d])))) else .no) ρ
  | _ => .no
theorem sd_app (i : Nat) {p apos cpos : Pos} (hb : PE X e (tD X.K X.mg W f)) (hN : X.N[i]? = some x := by rfl) (hv : Vis X.env.scope x := by first | exact Or.inl rfl | exact Or.inr (Or.inl rfl) | exact Or.inr (Or.inr rfl)) (hd : (x == ("__debug__" : Str)) = false := by decide)
    (hcd : (x == ("__classdict__" : Str)) = false := by decide) (hse : starEach [e] X.env = (false, eval e X.env) :: starEach [] X.env := by rfl)
    (hbase : attributeBase (.Name x p) "append" X.env (eval (.Name x p) X.env) = eval (.Name x p) X.env := by rfl)
    (hfew : ((backTo cpos (starEach [e] X.env)).all (fun x => !x.1) && (backToKw cpos (keywordEach [] X.env)).all (fun x => x.1.isSome)
      && decide (([e] : List Expr).length + ([] : List Keyword).length + (if ([] : List Keyword).isEmpty then 0 else 1) < 30)) = true := by rfl)
    (hline : (apos.endLine == cpos.line) = true := by rfl) (hplain : (backTo cpos (starEach [] X.env)).any (·.1) = false := by rfl) (hsw : swapsWith (.Call (.Attribute (.Name x p) "append" apos) [e] [] cpos) none pos.line X.env = pure false := by rfl) :
    PS X (.Expr (.Call (.Attribute (.Name x p) "append" apos) [e] [] cpos) pos) (tS X.K X.mg W (sApp i f)) :=
  PSimp (ps_expr (pe_bm PySem.F.plainAttrs_list PySem.F.slot_list_append PySem.F.type_list_append mt_append (pe_var hN hv hd hcd) (pa_cons hb pa_nil hse) hbase hfew hline hse hplain) hsw) fun D σ H ⟨G, ρ, S, r, q⟩ => by
    unfold sApp at q
    split at q
    · rename_i xs e
      obtain ⟨a, vs, h1, h2, h4, h5, h6⟩ := r.known e
      refine ⟨_, h1, .inl ⟨rfl, _, SqL.of h4⟩, tG.mk r (wG.imp ?_ (wS.ofE (rp := Rp X.K) r q))⟩
      rintro v H1 ⟨S1, d, e1, ra, r1, q1⟩
      by_cases hl : xs.length < 16777216
      · rw [if_pos hl] at q1
        refine ⟨a, vs, v, rfl, rfl, e1.all _ _ h4, by rw [h5.length]; exact hl, q1 σ S1 _ (Same.refl _) ?_⟩
        have hS1 : S1 a = none := by
          cases z : S1 a with
          | none => rfl
          | some o =>
            rcases e1.new a o z with w | w
            · rw [h2] at w; cases w
            · rw [h4] at w; cases w
        exact r1.changeL e h1 ((RpA.mono e1.sub _ _ h5).snoc ra)
      · rw [if_neg hl] at q1; exact q1.elim
    · exact q.elim
end
end DL

set_option Elab.async false
set_option linter.all false
set_option maxRecDepth 100000
set_option maxHeartbeats 4000000
set_option autoImplicit false
/-! the data layer 7: a comprehension given to a name; keyword calls; the end of a law -/
namespace DL
open PySem L2
theorem lcKnown {K : PySem.W.Frag} {S H S' H' : Hp} {D : Addr} {xs : List V} {ds : List PD} (e : Ext S H S' H') (hD : H D = none) (hS : S' D = none) (hH : H' D = some (.lst xs)) (hr : RpA K S' xs ds) : Ext S H (upd S' D (.lst xs)) H' ∧ Rp K (upd S' D (.lst xs)) (.ref D) (.list ds) := by
  have e2 : Ext S H (upd S' D (.lst xs)) H' := ⟨fun a o z => by rw [upd_ne (ne_of_none (e.sub _ _ z) hS)]; exact e.sub _ _ z, e.all, fun a o z => by
    by_cases ha : a = D
    · subst ha; rw [upd_same] at z; rw [hH]; exact z
    · rw [upd_ne ha] at z; exact e.inn a o z, fun a o z => by
    by_cases ha : a = D
    · subst ha; exact .inr hD
    · rw [upd_ne ha] at z; exact e.new a o z⟩
  refine ⟨e2, .lst (SqL.of upd_same) (RpA.mono (fun a o z => ?_) _ _ hr)⟩
  rw [upd_ne (ne_of_none z hS)]; exact z
section
variable {X : Cx} {W : WX} {elt tg iter : Expr} {ifs : List Expr} {scope : Scope} {pos spos py : Pos} {it : En → R (List PD)} {T : Tg} {tt : En → R Bool} {te : En → R PD} {y : Str}
theorem sd_setLc (i : Nat) (own : List (Str × Nat)) (hc : X.calm = true) (hN : X.N.Nodup) (hy : X.N[i]? = some y) (hyl : X.env.scope.names.lookup y = some .local)
    (hsw : swapsWith (.ListComp elt [⟨tg, iter, ifs, 0⟩] scope pos) (some (.Name y py)) spos.line X.env = pure true) (hi : PI X tg iter (tI X.K X.mg W it)) (ok : BlkOk X.N X.env.scope scope own) (hT : ∀ i ∈ T.slots, i ∈ own.map (·.2))
    (hg : ∀ (s : Shared) (H : Hp) (C : Addr) (cl : List (Str × Addr)) (fp : List Addr), PG (X.blk s H scope (compEnvC scope cl C X.env) fp) tg (gOf X.K T)) (ht : ∀ (s : Shared) (H : Hp) (C : Addr) (cl : List (Str × Addr)) (fp : List Addr), PTs (X.blk s H scope (compEnvC scope cl C X.env) fp) ifs (tDT X.K X.mg W0 tt))
    (he : ∀ (s : Shared) (H : Hp) (C : Addr) (cl : List (Str × Addr)) (fp : List Addr), PE (X.blk s H scope (compEnvC scope cl C X.env) fp) elt (tD X.K X.mg W0 te)) (hs : ∀ x, foldedSetIterable iter X.env x = pure x := by intro _; rfl) :
    PS X (.Assign [.Name y py] (.ListComp elt [⟨tg, iter, ifs, 0⟩] scope pos) spos) (tS X.K X.mg W (sSet i (dLc it T (own.map (·.2)) tt te))) := PSimp (ps_setLc hc hN hy hyl hsw hi ok hg ht he hs) fun D σ H ⟨G, ρ, S, r, q⟩ => by
  refine lc_of hT r ?_
  unfold sSet sE dLc at q
  cases z : dLcL it T (own.map (·.2)) tt te ρ with
  | ok ds =>
    rw [z] at q
    intro D' S' H' xs e hD hS hH hr
    have k := lcKnown e hD hS hH hr
    exact q _ _ H' k.1.sub ((r.ext k.1).setD k.2 i)
  | ex c => rw [z] at q; exact fun cls S' H' m e => q cls σ S' H' m e.sub (r.ext e)
  | no => rw [z] at q; exact q
end

/-! ### f(e, .., k = v, ..) -/
/-- called by np positional values and keywords ks: arr puts them (data) in the parameters' order -/
structure KwAt (P : Program) (w : World) (K : PySem.W.Frag) (mg : MG) (base : Heap) (x : Str) (k n : Nat) (np : Nat) (ks : List Str) (arr : List PD → List PD → List PD) (g : List PD → R PD) : Prop where
  ex : ∃ (f : Addr) (fd : FuncData) (ps : List Str) (gv : List Value → List Value → List Value) (gV : List V → List V → List V), FnOk P w K mg base (L2.CX P w) k f fd ps (spD K mg n g) ∧ mg x = some (.ref f) ∧ PySem.W.keepIn K (.ref f) = true ∧ KBn K fd ps np ks gv gV ∧
    ∀ S vs zs ds es, RpA K S vs ds → RpA K S zs es → RpA K S (gV vs zs) (arr ds es)
section
variable {X : Cx} {fs gs : En → R (List PD)} {e : Expr} {es : List Expr} {kws : List Keyword} {pos p kpos : Pos} {x : Str} {k n np : Nat} {ks : List Str} {arr : List PD → List PD → List PD} {g : List PD → R PD} {E : XK} {nm : Option Str} {f : En → R PD} {W : WX}
end

/-! ### the end of a law -/
theorem scr_rp {K : PySem.W.Frag} {S : Hp} : ∀ ns : List Int, RpA K S (ns.map V.int) (ns.map PyData.int)
  | [] => .nil
  | n :: ns => .cons (.int n) (scr_rp ns)
theorem walkD {l : PySem.W.OpenLaw} {n k : Nat} {q : Program} {loose : List Str} {XP : (Str → Option Value) → Heap → Prop} {YP : World → Heap → Prop} {d : DefRec} {x : Str} {g : List PD → R PD}
    (hn : l.most = some n) (hn2 : n ≤ sizeLine) (hdf : d.params.defaults = []) (hr : Room k PySem.callerA)
    (F : ∀ (w : World) (mg : Str → Option Value) (fa : Addr) (h : Heap), YP w h → h.Ns mainGlobals mg → mg d.name = some (.ref fa) →
      ∃ (K : PySem.W.Frag) (fd : FuncData), K.In h ∧ (∀ (s : Shared) (u : Value), BindsTo s fd ⟨[u], []⟩ [(x, u)]) ∧
        ∀ base : Heap, K.In base → base.Ns mainGlobals mg → FnOk l.prog w K mg base (L2.CX l.prog w) k fa fd [x] (spD K mg 1 g))
    (hg : ∀ ns : List Int, ns.length ≤ n → (∀ z ∈ ns, Builtin.Int.intBits z ≤ 1048576) → g [.list (ns.map PyData.int)] = .ok (.bool true)) :
    PySem.W.WalkO q loose XP YP l.row.toRowW d [] (fun f vs => PySem.call f vs) := by
  refine Att.attach_callB hn hdf fun w s₀ s₁ mg mb fa o pm cd doc a vs ns G Y ho hd hcd hmg hobj hints hlen hbits hgen => ?_
  obtain ⟨K, fd, KX, hb, hF⟩ := F w mg fa _ Y G.T.g hmg
  refine law_call KX G.T.g G.T.b G.T.builtins G.T.nolimit hgen hobj hints (Nat.le_trans hlen hn2) hr hF hb (fun H hO hS => ?_) fun H e s' z => ?_
  · refine ⟨H, [.list (ns.map PyData.int)], Same.refl _, .cons (.lst hS (scr_rp ns)) .nil, rfl, ?_⟩
    rw [hg ns hlen hbits]
    intro v S' H' _ r
    cases r
    rfl
  · obtain ⟨_, _, _, _, _, _, _, _, _, _, _, _, z⟩ := z
    exact z
end DL
namespace DL
open PySem L2
theorem mem0 {α : Type} {a : α} {l : List α} : a ∈ a :: l := List.mem_cons_self
theorem mem2 {α : Type} {a b c : α} {l : List α} : c ∈ a :: b :: c :: l := List.mem_cons_of_mem _ (List.mem_cons_of_mem _ List.mem_cons_self)
theorem un65 {k : Nat} {A : Around} (r : Room k A) : A.units + 65 < cLine := by have := r.un; omega
end DL

set_option Elab.async false
set_option linter.all false
set_option maxRecDepth 100000
set_option maxHeartbeats 4000000
set_option autoImplicit false
/-! the data layer 8: ranges with a step, bit_length, a store into a list of one's own, str -/
namespace DL
open PySem L2
section
variable {X : Cx} {W : WX} {tg : Expr} {f f1 f2 : En → R PD} {fs : En → R (List PD)} {p pos apos : Pos} {e o : Expr} {x : Str}
def gm_bit_length : PD → R PD
  | .int i => .ok (.int (Builtin.Int.intBits i : Nat))
  | _ => .no
/-- x[k] = e, x a list of one's own -/
def sPut (i : Nat) (fk fe : En → R PD) : En → Fl := fun ρ => match ρ[i]? with
  | some (some (.l xs)) => sE fe (fun d => sE fk fun k ρ => match k with
    | .int z => (match ixN xs.length z with
      | some j => .nx (ρ.set i (some (.l (xs.set j d))))
      | none => .no)
    | _ => .no) ρ
  | _ => .no
theorem sd_put (i : Nat) {px pt : Pos} {kx : Expr} {fk fe : En → R PD} (hk : PE X kx (tD X.K X.mg W fk)) (he : PE X e (tD X.K X.mg W fe)) (hN : X.N[i]? = some x := by rfl) (hv : Vis X.env.scope x := by first | exact Or.inl rfl | exact Or.inr (Or.inl rfl) | exact Or.inr (Or.inr rfl))
    (hd : (x == ("__debug__" : Str)) = false := by decide) (hcd : (x == ("__classdict__" : Str)) = false := by decide)
    (ha : ∀ v, assign (.Subscript (.Name x px) kx pt) X.env v = (do
      let ov ← holding [v] (eval (.Name x px) X.env)
      let iv ← holding [v, ov] (eval kx X.env)
      standAt pt
      holding [v, ov, iv] (setItem ov iv v)
      release [v, ov, iv] []) := by intro _; rfl)
    (hs : swapsWithSole [.Subscript (.Name x px) kx pt] e pos.line X.env = pure false := by rfl) (hw : swappedStores [.Subscript (.Name x px) kx pt] e X.env = pure none := by rfl)
    (h1 : (assignEach [.Subscript (.Name x px) kx pt] X.env).map (·.2) = [assign (.Subscript (.Name x px) kx pt) X.env] := by rfl) :
    PS X (.Assign [.Subscript (.Name x px) kx pt] e pos) (tS X.K X.mg W (sPut i fk fe)) :=
  PSimp (ps_asg he (pg_sub (pe_var hN hv hd hcd) hk set_list ha) hs hw h1) fun D σ H ⟨G, ρ, S, r, q⟩ => by
    unfold sPut at q
    split at q
    · rename_i xs e
      obtain ⟨a, vs, h1, h2, h4, h5, h6⟩ := r.known e
      refine tG.mk r (wG.imp ?_ (wS.ofE (rp := Rp X.K) r q))
      rintro v H1 ⟨S1, d, e1, ra, r1, q1⟩
      refine ⟨_, h1, tG.mk r1 (wG.imp ?_ (wS.ofE (rp := Rp X.K) r1 q1))⟩
      rintro kv H2 ⟨S2, k, e2, rk, r2, q2⟩
      cases k with
      | int z =>
        cases rk
        dsimp only at q2
        split at q2
        · rename_i j hj
          have e12 := e1.trans e2
          have hS2 : S2 a = none := by
            cases z : S2 a with
            | none => rfl
            | some o =>
              rcases e12.new a o z with w | w
              · rw [h2] at w; cases w
              · rw [h4] at w; cases w
          exact ⟨a, vs, z, j, rfl, rfl, e12.all _ _ h4, by rw [h5.length]; exact hj, q2 σ S2 _ (Same.refl _) (r2.changeL e h1 (RpA.set (Rp.mono e2.sub _ _ ra) j (RpA.mono e12.sub _ _ h5)))⟩
        · exact q2.elim
      | _ => exact q2.elim
    · exact q.elim
end
end DL

set_option Elab.async false
set_option linter.all false
set_option maxRecDepth 100000
set_option maxHeartbeats 4000000
set_option autoImplicit false
/-! the data layer 9: a list times a number -/
namespace DL
open PySem L2 PySem.Spec PyProof.Rows
theorem q_mul_int (l : Addr) (items : Array Value) (n : Nat) (d : Option Addr) (sl : Array (Option Value)) (x : Int) (u : Tok) (hc0 : ¬(!Builtin.List.listFitsIndex x) = true)
    (hc1 : ¬items.size * x.toNat > (2 ^ 63 - 1) / 8) (hc2 : ¬Builtin.List.listTooLong (items.size * x.toNat) = true) :
    Meets (Builtin.«list.__mul__» ⟨[.ref l, .int x u], []⟩) (fun _ R s => s.heap.get? l = some { cls := .type "list", dict := d, data := .seq items n, slots := sl } ∧ R (.ok (.ret (Value.ref s.heap.objs.size))) { s with heap := s.heap.push { cls := Value.type "list", data := Data.seq (List.foldl (fun x1 x2 => x1 ++ x2) #[] (List.replicate (if items.isEmpty = true then 0 else x.toNat) items)) }, toks := s.toks }) :=
  .of_wp fun prog w A R s h => by
    obtain ⟨hp, g, d, tk, os⟩ := s; obtain ⟨hl, h⟩ := h
    have hsz := AutoListH.joined_fits hc2
    wp_walk; refine wpAny_ite_false (decide_eq_false (Nat.not_lt.mpr hsz)) ?_; wp_walk; exact ⟨_, rfl, h⟩
theorem q_rmul_int (a : Int) (t : Tok) (l : Addr) (items : Array Value) (n : Nat) (d : Option Addr) (sl : Array (Option Value)) :
    Meets (Builtin.«int.__rmul__» ⟨[.int a t, .ref l], []⟩) (fun _ R s => s.heap.get? l = some { cls := .type "list", dict := d, data := .seq items n, slots := sl } ∧ R (.ok (.ret Value.notImplemented)) s) :=
  .of_wp fun prog w A R s h => by obtain ⟨hp, g, d, tk, os⟩ := s; obtain ⟨hl, h⟩ := h; wp_walk; exact ⟨_, rfl, h⟩
section
variable {X : Cx}
theorem op_repS : OpR X (binaryOp .Mult) (fun x y H Q => ∃ a k xs, x = V.ref a ∧ y = V.int k ∧ SqL X.K H a xs ∧ -(2 ^ 63) ≤ k ∧ k < 2 ^ 63 ∧ xs.length * k.toNat ≤ sizeLine ∧ ∀ p, H p = none → Q (.ref p) (upd H p (.lst (List.replicate k.toNat xs).flatten))) := by
  intro pins s σ H x y v u Q I rx ry h
  obtain ⟨a, k, xs, rfl, rfl, hs, h1, h2, hzz, q⟩ := h
  obtain rfl : v = Value.ref a := rx
  obtain ⟨t, rfl⟩ := ry
  obtain ⟨its, rv, ⟨⟨cls, dd, data, sl⟩, n, ho, hc, hdn, hd⟩, hlen⟩ := I.list hs
  have hc1 : cls = Value.type "list" := hc
  have hd1 : data = Data.seq its.toArray n := hd
  subst hc1 hd1
  have hlen2 : its.toArray.size * k.toNat ≤ sizeLine := by rw [List.size_toArray, ← rv.length]; exact hzz
  have hcap : ¬ its.toArray.size * k.toNat > (2 ^ 63 - 1) / 8 := by
    have : (sizeLine : Nat) ≤ (2 ^ 63 - 1) / 8 := by decide
    omega
  have hfit : ¬ (!Builtin.List.listFitsIndex k) = true := by
    rw [fitsIndex_both h1 h2]
    exact Bool.false_ne_true
  have hlong : ¬ Builtin.List.listTooLong (its.toArray.size * k.toNat) = true := by
    rw [notLongL hlen2]
    exact Bool.false_ne_true
  have hnew : List.foldl (fun x1 x2 => x1 ++ x2) #[] (List.replicate (if its.toArray.isEmpty = true then 0 else k.toNat) its.toArray) = (List.replicate k.toNat its).flatten.toArray := by
    have f0 : ∀ m : Nat, List.foldl (fun x1 x2 => x1 ++ x2) #[] (List.replicate m its.toArray) = (List.replicate m its).flatten.toArray := fun m => by
      have := foldl_rep its m []
      rw [List.nil_append] at this
      exact this
    rw [f0]
    cases its with
    | nil => simp
    | cons a r' => rw [if_neg (by simp)]
  refine wpAny_binaryOp_repeat_ref (T := "list") (U := "int") (by decide) ⟨_, ho, rfl⟩ (fun s' => typeIs_int s' k t) noFill_list_mul F.fills_int_mul F.slot_int_rmul repeat_list F.slot_int_index.lookup
    (call_meets F.slot_int_rmul (typeIs_int s k t) F.entry_int_rmul (F.args_int_rmul_2 _ _) (q_rmul_int k t a its.toArray n dd sl)
      ⟨ho, rfl, ⟨_, ho, rfl⟩, call_meets F.slot_list_mul ⟨_, ho, rfl⟩ F.entry_list_mul (F.args_list_mul_2 _ _) (q_mul_int a its.toArray n dd sl k t hfit hcap hlong) ⟨ho, ?_⟩⟩)
  rw [hnew]
  refine ⟨.ref s.heap.objs.size, upd H s.heap.objs.size (.lst (List.replicate k.toNat xs).flatten), I.laid (t' := s.toks) (fun b o e => Heap.get?_push_of_some _ e) (Nat.le_refl _) ⟨?_, _, 0, rv.rep k.toNat, Heap.get?_push_size _ rfl⟩, rfl, q _ (I.hok.fresh (Nat.le_refl _))⟩
  rw [PyProof.Rows.lm_len_rep_flat, Nat.mul_comm]
  exact hzz
def gMulL : PD → PD → R PD
  | .list ds, .int k => if -(2 ^ 63) ≤ k ∧ k < 2 ^ 63 ∧ ds.length * k.toNat ≤ 16777216 then .ok (.list (List.replicate k.toNat ds).flatten) else .no
  | _, _ => .no
theorem noEx_mulL : NoEx gMulL := fun a b c h => by unfold gMulL at h; split at h <;> first | (split at h <;> cases h) | cases h
theorem RpA.rep {K : PySem.W.Frag} {S : Hp} {ds : List PD} {vs : List V} (h : RpA K S vs ds) : ∀ k : Nat, RpA K S (List.replicate k vs).flatten (List.replicate k ds).flatten
  | 0 => .nil
  | k + 1 => by
    rw [List.replicate_succ, List.replicate_succ, List.flatten_cons, List.flatten_cons]
    exact h.append (RpA.rep h k)
theorem od_mulL : OpD X (binaryOp .Mult) gMulL := by
  refine OpD_of fun pins s σ H x y v u Q S a b d I rx ry hS ra rb q h => ?_
  unfold gMulL at q
  split at q
  · cases ra with
    | lst h1 a1 =>
      cases rb
      split at q
      · rename_i hl
        cases q
        refine op_repS pins s σ H _ _ v u Q I rx ry ⟨_, _, _, rfl, rfl, Same.seq hS h1, hl.1, hl.2.1, by rw [a1.length]; exact hl.2.2, fun p hp => ?_⟩
        exact h _ _ _ (Rp.newL hS hp (a1.rep _)).1 (Rp.newL hS hp (a1.rep _)).2
      · cases q
  · cases q
end
end DL

set_option Elab.async false
set_option linter.all false
set_option maxRecDepth 100000
set_option maxHeartbeats 4000000
set_option autoImplicit false
/-! the data layer 10: lists of lists of one's own -/
namespace DL
open PySem L2
section
variable {K : PySem.W.Frag} {G : F} {S S' H H' : Hp} {σ : St} {ρ : En}
theorem LLs.length : ∀ {bs : List Addr} {xss : List (List PD)}, LLs K S H bs xss → bs.length = xss.length
  | [], [], _ => rfl
  | b :: bs, xs :: xss, ⟨_, h⟩ => by simp [LLs.length h]
  | [], _ :: _, h => h.elim
  | _ :: _, [], h => h.elim
theorem LLs.get : ∀ {bs : List Addr} {xss : List (List PD)} {k : Nat} {xs : List PD}, LLs K S H bs xss → xss[k]? = some xs → ∃ b vs, bs[k]? = some b ∧ H b = some (.lst vs) ∧ RpA K S vs xs
  | [], [], _, _, _, e => by simp at e
  | b :: bs, xs :: xss, 0, ys, ⟨⟨vs, h1, h2⟩, h⟩, e => by
    simp at e
    subst e
    exact ⟨b, vs, rfl, h1, h2⟩
  | b :: bs, xs :: xss, k + 1, ys, ⟨_, h⟩, e => by simpa using LLs.get h (by simpa using e)
  | [], _ :: _, _, _, h, _ => h.elim
  | _ :: _, [], _, _, h, _ => h.elim
theorem LLs.set {vs : List V} {ys : List PD} (hr : RpA K S vs ys) : ∀ {bs : List Addr} {xss : List (List PD)} {k : Nat} {b : Addr}, bs.Nodup → LLs K S H bs xss → bs[k]? = some b → LLs K S (upd H b (.lst vs)) bs (xss.set k ys)
  | [], [], _, _, _, h, _ => trivial
  | c :: bs, xs :: xss, 0, b, nd, ⟨_, h⟩, e => by
    simp at e
    subst e
    have hn := List.nodup_cons.mp nd
    refine ⟨⟨vs, upd_same, hr⟩, LLs.keep (Same.refl _) (fun a ha o q => ?_) h⟩
    rw [upd_ne (fun z => hn.1 (by rw [← z]; exact ha))]; exact q
  | c :: bs, xs :: xss, k + 1, b, nd, ⟨⟨us, h1, h2⟩, h⟩, e => by
    have hn := List.nodup_cons.mp nd
    have e' : bs[k]? = some b := by simpa using e
    refine ⟨⟨us, ?_, h2⟩, LLs.set hr hn.2 h e'⟩
    rw [upd_ne (fun z => hn.1 (by rw [z]; exact List.mem_of_getElem? e'))]; exact h1
  | [], _ :: _, _, _, _, h, _ => h.elim
  | _ :: _, [], _, _, _, h, _ => h.elim
/-- what is known once the lists at addresses are known -/
def updAll (S H : Hp) (as : List Addr) : Hp := fun b => if b ∈ as then H b else S b
end
section
variable {X : Cx} {W : WX} {f f1 f2 : En → R PD} {fl fl1 fl2 : En → R (List PD)} {e : Expr} {es es1 es2 : List Expr} {pos pos' : Pos} {x : Str} {g : En → Fl} {sts : List Stmt}
theorem atI_nth {α : Type} {xs : List α} {k : Int} {y : α} (h : atI xs k = some y) : ∃ j, ixN xs.length k = some j ∧ xs[j]? = some y := by
  unfold atI at h
  cases e : ixN xs.length k with
  | none => rw [e] at h; cases h
  | some j =>
    rw [e] at h
    exact ⟨j, rfl, h⟩
theorem LLs.at {K : PySem.W.Frag} {S H : Hp} {bs : List Addr} {xss : List (List PD)} {k : Int} {xs : List PD} (h : LLs K S H bs xss) (e : atI xss k = some xs) : ∃ j b vs, ixN xss.length k = some j ∧ bs[j]? = some b ∧ atI (bs.map V.ref) k = some (.ref b) ∧ H b = some (.lst vs) ∧ RpA K S vs xs := by
  obtain ⟨j, h1, h2⟩ := atI_nth e
  obtain ⟨b, vs, q1, q2, q3⟩ := h.get h2
  refine ⟨j, b, vs, h1, q1, ?_, q2, q3⟩
  unfold atI
  rw [List.length_map, h.length, h1]
  simp only [Option.bind_some, List.getElem?_map, q1]
  rfl
end
end DL

set_option Elab.async false
set_option linter.all false
set_option maxRecDepth 100000
set_option maxHeartbeats 4000000
set_option autoImplicit false
/-! the data layer 11: exceptions that are caught and kept -/
namespace DL
open PySem L2
/-- whether a class of the program's errors is, or is under, T -/
def subX (c T : Str) : Bool := decide (T = "YardError") || (decide (T = "ValueError") || decide (c = T))
structure XAt (K : PySem.W.Frag) (mg : MG) (es : List Str) (T : Str) : Prop where
  nm : mg T = some (.ref (He.ga K T))
  ex : ∀ c ∈ es, mg c = some (.ref (He.ga K c)) ∧ PySem.W.exmOne K (.ref (He.ga K c)) (.ref (He.ga K T)) = some (subX c T)
section
variable {X : Cx} {W : WX} {f : En → Fl} {g : En → Fl} {es : List Str} {T n y : Str} {i j : Nat} {body suite : List Stmt} {b₀ : Stmt} {np py pn' pa pos pos' : Pos}
end
/-! isinstance(e, T) of a kept error -/
structure XIs (K : PySem.W.Frag) (es : List Str) (T : Str) (cv : Value) : Prop where
  ex : ∀ c ∈ es, ExcC K (He.ga K c) ∧ PySem.W.kitOne K (.ref (He.ga K c)) cv = some (subX c T)
theorem keyD_none {k : L2.Key} (h : KeyD k .none) : False := by cases k <;> exact h
def gIsE (es : List Str) (T : Str) : PD → R PD
  | .dict [(.none, .str c)] => if c ∈ es then .ok (.bool (subX c T)) else .no
  | _ => .no
theorem call_isK {X : Cx} : CallR X (.builtin "isinstance") (fun xs H Q => ∃ (a : Addr) (c : V) (cv : Value) (b : Bool) (D : Addr), xs = [.ref a, c] ∧ H a = some (ExK (.ref D) a) ∧ ExcC X.K D ∧ (∀ u, RelV c u → u = cv) ∧ PySem.W.kitOne X.K (.ref D) cv = some b ∧ Q (.bl b) H) := by
  intro pins s σ H xs us Q I r h
  obtain ⟨a, c, cv, b, D, rfl, ha, C, hcv, e, q⟩ := h
  cases r with
  | cons rx rr =>
    cases rr with
    | cons rt rr =>
      cases rr
      cases rx
      have ec := hcv _ rt
      subst ec
      obtain ⟨⟨oe, vs, hget, hz, hv⟩, _, _⟩ := I.hok a _ ha
      have J : PySem.W.InstAt s.heap a oe D none := by
        obtain ⟨oc, od, oda, osl⟩ := oe
        obtain ⟨h1, h2⟩ := hz
        dsimp only at h1 h2 hv
        subst h1 h2 hv
        exact ⟨hget, rfl, rfl, trivial⟩
      exact PySem.W.kia_one (PySem.W.handS_kitx_exc C.hg C.hk C.hs C.hd C.ha C.hn C.ht C.hm) I.kIn J e (fun z => nomatch z) fun tk => ⟨.bl b, H, I.kept (t' := tk) fun _ _ z => z, rfl, q⟩
section
variable {X : Cx} {W : WX} {f : En → R PD} {es : List Str} {T : Str} {e : Expr} {p pt pos : Pos}
theorem isE_of {cv : Value} {c : V} (F : XIs X.K es T cv) (hc : ∀ u, RelV c u → u = cv) {te : TE} (ht : ∀ σ H Q, Q c H → te σ H Q) : ∀ σ H Q, tD X.K X.mg W (d1 (gIsE es T) f) σ H Q → (tD X.K X.mg W f) σ H fun x H1 => te σ H1 fun y H2 => (fun xs H Q => ∃ (a : Addr) (c : V) (cv : Value) (b : Bool) (D : Addr), xs = [V.ref a, c] ∧ H a = some (ExK (.ref D) a) ∧ ExcC X.K D ∧ (∀ u, RelV c u → u = cv) ∧ PySem.W.kitOne X.K (.ref D) cv = some b ∧ Q (V.bl b) H) [x, y] H2 Q := by
  rintro σ H Q ⟨G, ρ, S, rel, h⟩
  refine tG.mk rel (wG.imp ?_ (wG.bind (rp := Rp X.K) h))
  rintro v H1 ⟨S1, d, e1, ra, h1⟩
  refine ht _ _ _ ?_
  unfold gIsE at h1
  split at h1
  · rename_i c'
    cases ra with
    | exc hh =>
      split at h1
      · rename_i hm
        obtain ⟨f1, f2⟩ := F.ex _ hm
        exact ⟨_, c, cv, _, _, rfl, e1.inn _ _ hh, f1, hc, f2, h1 _ S1 H1 (Ext.refl e1.inn) (.bl _)⟩
      · exact h1.elim
    | dct hh hk =>
      cases hk with
      | cons hkd _ _ => exact (keyD_none hkd).elim
  · exact h1.elim
theorem pd_isE (F : XIs X.K es T (.ref (He.ga X.K T))) (hm : X.mg "isinstance" = none) (hT : X.mg T = some (.ref (He.ga X.K T))) (ha : PE X e (tD X.K X.mg W f)) (hg : Gl X "isinstance" := by rfl) (hgt : Gl X T := by rfl) (hdb : (T == ("__debug__" : Str)) = false := by decide)
    (he : starEach [e, .Name T pt] X.env = (false, eval e X.env) :: starEach [.Name T pt] X.env := by rfl) (he2 : starEach [.Name T pt] X.env = (false, eval (.Name T pt) X.env) :: starEach [] X.env := by rfl) (hpl : (backTo pos (starEach [.Name T pt] X.env)).any (·.1) = false := by rfl) :
    PE X (.Call (.Name "isinstance" p) [e, .Name T pt] [] pos) (tD X.K X.mg W (d1 (gIsE es T) f)) :=
  PEimp (pe_callB call_isK hg hm (by decide +kernel) (pa_cons ha (pa_cons (pe_glob (v := .ref (He.ga X.K T)) hgt hT rfl hdb) pa_nil he2) he) (by decide) (by decide) he hpl) fun σ H Q h => isE_of (c := .ref (He.ga X.K T)) (te := fun σ H Q => Q (.ref (He.ga X.K T)) H) F (fun u hu => hu) (fun _ _ _ q => q) σ H Q h
theorem pd_isV {B : String} (F : XIs X.K es T (.type B)) (hm : X.mg "isinstance" = none) (hmt : X.mg T = none) (hv : bootBuiltins T = some (.type B)) (ha : PE X e (tD X.K X.mg W f)) (hg : Gl X "isinstance" := by rfl) (hgt : Gl X T := by rfl) (hnn : T ≠ "__name__" := by decide) (hdb : (T == ("__debug__" : Str)) = false := by decide)
    (he : starEach [e, .Name T pt] X.env = (false, eval e X.env) :: starEach [.Name T pt] X.env := by rfl) (he2 : starEach [.Name T pt] X.env = (false, eval (.Name T pt) X.env) :: starEach [] X.env := by rfl) (hpl : (backTo pos (starEach [.Name T pt] X.env)).any (·.1) = false := by rfl) :
    PE X (.Call (.Name "isinstance" p) [e, .Name T pt] [] pos) (tD X.K X.mg W (d1 (gIsE es T) f)) :=
  PEimp (pe_callB call_isK hg hm (by decide +kernel) (pa_cons ha (pa_cons (pe_bltn (v := .ty B) hgt hmt hv rfl hnn hdb) pa_nil he2) he) (by decide) (by decide) he hpl) fun σ H Q h => isE_of (c := .ty B) (te := fun σ H Q => Q (.ty B) H) F (fun u hu => hu) (fun _ _ _ q => q) σ H Q h
end
end DL

set_option Elab.async false
set_option linter.all false
set_option maxRecDepth 100000
set_option maxHeartbeats 4000000
set_option autoImplicit false
/-! list(reversed(a list)) -/
namespace DXb
open PySem PySem.Spec PyProof.Rows RT
section
variable {prog : Program} {w : World} {A : Around} {E : Value → Shared → Prop} {s : Shared}
end
end DXb
namespace DL
open PySem PySem.Spec PyProof.Rows L2 DXb
section
variable {X : Cx}
end
end DL

set_option Elab.async false
set_option linter.all false
set_option maxRecDepth 100000
set_option maxHeartbeats 4000000
set_option autoImplicit false
/-! the data layer 12: dict displays, list.count, list.index, list(reversed(x)), x[::-1] -/
namespace DL
open PySem L2
section
variable {X : Cx} {W : WX} {f f1 f2 : En → R PD} {o e : Expr} {p p2 pk pos pos2 apos cpos : Pos} {j : Nat}
/-! methods of lists -/
/-! turned about -/
end
/-! max, min of a list of ints -/
section
open PyProof.Rows
variable {prog : Program} {w : World} {A : Around} {E : Value → Shared → Prop} {s : Shared} {l : Addr} {xs : Array (Int × Tok)} {its : List Value} {ns : List Int} {Q : Value → Shared → Prop}
end
end DL

set_option Elab.async false
set_option linter.all false
set_option maxRecDepth 100000
set_option maxHeartbeats 4000000
set_option autoImplicit false
/-! the data layer 13: dicts of one's own, dicts that are known; sorted -/
namespace DL
open PySem PySem.Spec PyProof.Rows L2
/-! ### dicts as lists of keys and data -/
abbrev Kv := List (L2.Key × PD)
def kGet (m : Kv) (k : L2.Key) : Option PD := (m.find? fun kv => decide (kv.1 = k)).map (·.2)
def kPut (m : Kv) (k : L2.Key) (d : PD) : Kv := if (m.any fun kv => decide (kv.1 = k)) = true then m.map (fun kv => if kv.1 = k then (kv.1, d) else kv) else m ++ [(k, d)]
def kDrop (m : Kv) (k : L2.Key) : Kv := m.filter fun kv => decide (kv.1 ≠ k)
def keyOf : PD → Option L2.Key
  | .int i => some (.inl i)
  | .str x => some (.inr x)
  | _ => none
def keyD : L2.Key → PD
  | .inl i => .int i
  | .inr x => .str x
def kvD (m : Kv) : List (PD × PD) := m.map fun p => (keyD p.1, p.2)
def kvOf : List (PD × PD) → Option Kv
  | [] => some []
  | (k, d) :: r => (keyOf k).bind fun k => (kvOf r).map ((k, d) :: ·)
theorem keyOf_keyD (k : L2.Key) : keyOf (keyD k) = some k := by cases k <;> rfl
theorem kvOf_kvD : ∀ m : Kv, kvOf (kvD m) = some m
  | [] => rfl
  | (k, d) :: m => by
    show (keyOf (keyD k)).bind _ = _
    rw [keyOf_keyD, Option.bind_some]
    show (kvOf (kvD m)).map _ = _
    rw [kvOf_kvD m]; rfl
section
variable {K : PySem.W.Frag} {S S' H H' : Hp}
theorem KeyD.eq {k : L2.Key} {d : PD} (h : KeyD k d) : d = keyD k := by
  cases k <;> cases d <;> first | (exact h.elim) | (have e := h; subst e; rfl)
theorem KeyD.of (k : L2.Key) : KeyD k (keyD k) := by cases k <;> exact rfl
theorem RpK.kv : ∀ {l : List (L2.Key × V)} {ds : List (PD × PD)}, RpK K S l ds → ∃ m : Kv, kvRel K S l m ∧ ds = kvD m
  | _, _, .nil => ⟨[], trivial, rfl⟩
  | _, _, .cons hk hr h => by
    obtain ⟨m, h1, h2⟩ := RpK.kv h
    exact ⟨(_, _) :: m, ⟨rfl, hr, h1⟩, by rw [h2, hk.eq]; rfl⟩
theorem kvRel.rp : ∀ {l : List (L2.Key × V)} {m : Kv}, kvRel K S l m → RpK K S l (kvD m)
  | [], [], _ => .nil
  | (a, v) :: r, (b, d) :: q, ⟨h1, h2, h3⟩ => by
    subst h1
    exact .cons (KeyD.of _) h2 (kvRel.rp h3)
  | [], _ :: _, h => h.elim
  | _ :: _, [], h => h.elim
theorem kvRel.length : ∀ {l : List (L2.Key × V)} {m : Kv}, kvRel K S l m → l.length = m.length
  | [], [], _ => rfl
  | _ :: r, _ :: q, ⟨_, _, h⟩ => by simp [kvRel.length h]
  | [], _ :: _, h => h.elim
  | _ :: _, [], h => h.elim
theorem kvRel.get {k : L2.Key} : ∀ {l : List (L2.Key × V)} {m : Kv} {d : PD}, kvRel K S l m → kGet m k = some d → ∃ v, valV l k = some v ∧ Rp K S v d
  | [], [], _, _, h => by cases h
  | (a, v) :: r, (b, e) :: q, d, ⟨h1, h2, h3⟩, h => by
    subst h1
    by_cases c : a = k
    · unfold kGet at h
      rw [List.find?_cons_of_pos (by simpa using c)] at h
      cases h
      exact ⟨v, valV_pos c, h2⟩
    · unfold kGet at h
      rw [List.find?_cons_of_neg (by simpa using c)] at h
      obtain ⟨u, e1, e2⟩ := kvRel.get h3 h
      exact ⟨u, by rw [valV_neg c]; exact e1, e2⟩
  | [], _ :: _, _, h, _ => h.elim
  | _ :: _, [], _, h, _ => h.elim
theorem kvRel.none {k : L2.Key} : ∀ {l : List (L2.Key × V)} {m : Kv}, kvRel K S l m → kGet m k = Option.none → valV l k = Option.none
  | [], [], _, _ => rfl
  | (a, v) :: r, (b, e) :: q, ⟨h1, h2, h3⟩, h => by
    subst h1
    by_cases c : a = k
    · unfold kGet at h
      rw [List.find?_cons_of_pos (by simpa using c)] at h
      cases h
    · unfold kGet at h
      rw [List.find?_cons_of_neg (by simpa using c)] at h
      rw [valV_neg c]; exact kvRel.none h3 h
  | [], _ :: _, h, _ => h.elim
  | _ :: _, [], h, _ => h.elim
theorem kvRel.is {k : L2.Key} {l : List (L2.Key × V)} {m : Kv} (h : kvRel K S l m) : (valV l k).isSome = (kGet m k).isSome := by
  cases e : kGet m k with
  | none => rw [h.none e]; rfl
  | some d => obtain ⟨v, e1, _⟩ := h.get e; rw [e1]; rfl
theorem kvRel.any {k : L2.Key} : ∀ {l : List (L2.Key × V)} {m : Kv}, kvRel K S l m → (l.any fun kv => decide (kv.1 = k)) = (m.any fun kv => decide (kv.1 = k))
  | [], [], _ => rfl
  | (a, v) :: r, (b, e) :: q, ⟨h1, _, h3⟩ => by rw [List.any_cons, List.any_cons, kvRel.any h3, h1]
  | [], _ :: _, h => h.elim
  | _ :: _, [], h => h.elim
theorem kvRel.app : ∀ {l l' : List (L2.Key × V)} {m m' : Kv}, kvRel K S l m → kvRel K S l' m' → kvRel K S (l ++ l') (m ++ m')
  | [], _, [], _, _, h => h
  | (a, v) :: r, _, (b, e) :: q, _, ⟨h1, h2, h3⟩, h => ⟨h1, h2, kvRel.app h3 h⟩
  | [], _, _ :: _, _, h, _ => h.elim
  | _ :: _, _, [], _, h, _ => h.elim
theorem kvRel.upd {k : L2.Key} {v : V} {d : PD} (r : Rp K S v d) : ∀ {l : List (L2.Key × V)} {m : Kv}, kvRel K S l m → kvRel K S (l.map fun kv => if kv.1 = k then (kv.1, v) else kv) (m.map fun kv => if kv.1 = k then (kv.1, d) else kv)
  | [], [], _ => trivial
  | (a, u) :: l, (b, e) :: q, ⟨h1, h2, h3⟩ => by
    subst h1
    rw [List.map_cons, List.map_cons]
    by_cases c : a = k
    · rw [if_pos c, if_pos c]; exact ⟨rfl, r, kvRel.upd r h3⟩
    · rw [if_neg c, if_neg c]; exact ⟨rfl, h2, kvRel.upd r h3⟩
  | [], _ :: _, h => h.elim
  | _ :: _, [], h => h.elim
theorem kvRel.put {k : L2.Key} {v : V} {d : PD} (r : Rp K S v d) {l : List (L2.Key × V)} {m : Kv} (h : kvRel K S l m) : kvRel K S (putK l k v) (kPut m k d) := by
  unfold putK kPut
  rw [kvRel.any h]
  split
  · exact h.upd r
  · exact h.app ⟨rfl, r, trivial⟩
theorem kvRel.drop {k : L2.Key} : ∀ {l : List (L2.Key × V)} {m : Kv}, kvRel K S l m → kvRel K S (dropK l k) (kDrop m k)
  | [], [], _ => trivial
  | (a, u) :: l, (b, e) :: q, ⟨h1, h2, h3⟩ => by
    subst h1
    unfold dropK kDrop
    by_cases c : a = k
    · rw [List.filter_cons_of_neg (by simpa using c), List.filter_cons_of_neg (by simpa using c)]; exact kvRel.drop h3
    · rw [List.filter_cons_of_pos (by simpa using c), List.filter_cons_of_pos (by simpa using c)]; exact ⟨rfl, h2, kvRel.drop h3⟩
  | [], _ :: _, h => h.elim
  | _ :: _, [], h => h.elim
end
/-! ### the slots -/
section
variable {K : PySem.W.Frag} {G : F} {S H : Hp} {σ : L2.St} {ρ : En}
end
/-! ### rules -/
section
variable {X : Cx} {W : WX} {f f1 f2 fk fe : En → R PD} {e ek : Expr} {pos pos' p : Pos} {x : Str} {g : En → Fl} {sts : List Stmt}
theorem Rp.dict {K : PySem.W.Frag} {S : Hp} {v : V} {ds : List (PD × PD)} {m : Kv} (h : Rp K S v (.dict ds)) (hk : kvOf ds = some m) : ∃ a o vs, v = .ref a ∧ S a = some (.frz o (.dK vs)) ∧ kvRel K S vs m := by
  cases h with
  | exc _ => cases hk
  | dct hs hr =>
    obtain ⟨m', q1, q2⟩ := hr.kv
    rw [q2, kvOf_kvD] at hk
    cases hk
    exact ⟨_, _, _, rfl, hs, q1⟩
/-! known dicts: data -/
/-! dict(pairs), dict(d): new, known -/
end
/-! ### sorted -/
section
variable {X : Cx} {W : WX} {f : En → R PD} {e : Expr} {pos p : Pos} {x : Str}
end
end DL

set_option Elab.async false
set_option linter.all false
set_option maxRecDepth 100000
set_option maxHeartbeats 4000000
set_option autoImplicit false
/-! the data layer 14: fields of objects -/
namespace DL
open PySem L2
def fPut (f : Str) (x : FV) : Fs → Fs
  | [] => [(f, x)]
  | (g, y) :: r => if g = f then (g, x) :: r else (g, y) :: fPut f x r
def fGet (f : Str) : Fs → Option FV
  | [] => none
  | (g, y) :: r => if g = f then some y else fGet f r
/-- .. that is one's own, or the running method's -/
def oOwn : Option (Option SV) → Option (Str × Fs)
  | some (some (.o c fs)) => some (c, fs)
  | some (some (.me c fs)) => some (c, fs)
  | _ => none
def oPut (ρ : En) (i : Nat) (fs : Fs) : En := match ρ[i]? with
  | some (some (.o c _)) => ρ.set i (some (.o c fs))
  | some (some (.me c _)) => ρ.set i (some (.me c fs))
  | _ => ρ
section
variable {K : PySem.W.Frag} {G : F} {S S' H H' : Hp} {σ : L2.St} {ρ : En}
theorem lookup_cons {α : Type} {f g : Str} {v : α} {r : List (Str × α)} : List.lookup f ((g, v) :: r) = if g = f then some v else List.lookup f r := by
  by_cases h : g = f
  · subst h
    rw [if_pos rfl]
    simp [List.lookup]
  · rw [if_neg h]
    have : (f == g) = false := by simpa using fun e => h e.symm
    simp [List.lookup, this]
theorem FldR.len : ∀ {vs : List (Str × V)} {fs : Fs} {bs : List Addr}, FldR K S H vs fs bs → vs.length = fs.length
  | [], [], _, _ => rfl
  | (n, v) :: vs, (m, x) :: fs, bs, ⟨_, b1, b2, _, _, h⟩ => by simp [FldR.len h]
  | [], _ :: _, _, h => h.elim
  | _ :: _, [], _, h => h.elim
theorem FldR.none {f : Str} : ∀ {vs : List (Str × V)} {fs : Fs} {bs : List Addr}, FldR K S H vs fs bs → fGet f fs = Option.none → vs.lookup f = Option.none
  | [], [], _, _, _ => rfl
  | (n, v) :: vs, (m, x) :: fs, bs, ⟨h1, b1, b2, _, _, h⟩, e => by
    subst h1
    unfold fGet at e
    rw [lookup_cons]
    by_cases c : n = f
    · rw [if_pos c] at e; cases e
    · rw [if_neg c] at e ⊢; exact FldR.none h e
  | [], _ :: _, _, h, _ => h.elim
  | _ :: _, [], _, h, _ => h.elim
/-- a field: its value, and what becomes of the fields where it alone changes -/
theorem FldR.get {f : Str} : ∀ {vs : List (Str × V)} {fs : Fs} {bs : List Addr} {x : FV}, FldR K S H vs fs bs → fGet f fs = some x → ∃ v b1, vs.lookup f = some v ∧ FldV K S H v b1 x ∧ (∀ b ∈ b1, b ∈ bs) ∧
    ∀ (S' H' : Hp) (x' : FV), bs.Nodup → Same S S' → (∀ b o, b ∈ bs → b ∉ b1 → H b = some o → H' b = some o) → (FldV K S' H' v b1 x' → FldR K S' H' vs (fPut f x' fs) bs) ∧ (∀ v', b1 = [] → FldV K S' H' v' [] x' → FldR K S' H' (putF f v' vs) (fPut f x' fs) bs)
  | [], [], _, _, _, e => by cases e
  | (n, v) :: vs, (m, y) :: fs, bs, x, ⟨h1, b1, b2, h2, h3, h⟩, e => by
    subst h1
    unfold fGet at e
    rw [lookup_cons]
    by_cases c : n = f
    · rw [if_pos c] at e
      cases e
      rw [if_pos c]
      refine ⟨v, b1, rfl, h3, fun b hb => by rw [h2]; exact List.mem_append_left _ hb, fun S' H' x' nd s k => ⟨fun h3' => ?_, fun v' hb h3' => ?_⟩⟩
      · unfold fPut
        rw [if_pos c]
        refine ⟨rfl, b1, b2, h2, h3', FldR.keep s (fun a ha o q => k a o (by rw [h2]; exact List.mem_append_right _ ha) (fun z => ?_) q) h⟩
        rw [h2] at nd
        exact (List.nodup_append.mp nd).2.2 a z a ha rfl
      · unfold fPut putF
        rw [if_pos c, if_pos c]
        subst hb
        exact ⟨rfl, [], b2, h2, h3', FldR.keep s (fun a ha o q => k a o (by rw [h2]; exact List.mem_append_right _ ha) (fun z => by cases z) q) h⟩
    · rw [if_neg c] at e
      rw [if_neg c]
      obtain ⟨u, c1, q1, q2, q3, q4⟩ := FldR.get h e
      refine ⟨u, c1, q1, q2, fun b hb => by rw [h2]; exact List.mem_append_right _ (q3 b hb), fun S' H' x' nd s k => ?_⟩
      have nd' := nd
      rw [h2] at nd'
      obtain ⟨n1, n2, n3⟩ := List.nodup_append.mp nd'
      obtain ⟨z1, z2⟩ := q4 S' H' x' n2 s (fun b o hb hn q => k b o (by rw [h2]; exact List.mem_append_right _ hb) hn q)
      have hk : FldV K S' H' v b1 y := FldV.keep s (fun a ha o q => k a o (by rw [h2]; exact List.mem_append_left _ ha) (fun z => n3 a ha a (q3 a z) rfl) q) h3
      refine ⟨fun h3' => ?_, fun v' hb h3' => ?_⟩
      · unfold fPut
        rw [if_neg c]
        exact ⟨rfl, b1, b2, h2, hk, z1 h3'⟩
      · unfold fPut putF
        rw [if_neg c, if_neg c]
        exact ⟨rfl, b1, b2, h2, hk, z2 v' hb h3'⟩
  | [], _ :: _, _, _, h, _ => h.elim
  | _ :: _, [], _, _, h, _ => h.elim
/-- a new field -/
theorem FldR.new {f : Str} {v : V} {b1 : List Addr} {x : FV} (s : Same S S') : ∀ {vs : List (Str × V)} {fs : Fs} {bs : List Addr}, FldR K S H vs fs bs → fGet f fs = Option.none → (∀ b ∈ bs, ∀ o, H b = some o → H' b = some o) → FldV K S' H' v b1 x → FldR K S' H' (putF f v vs) (fPut f x fs) (bs ++ b1)
  | [], [], bs, h, _, _, hx => by
    have h' : bs = [] := h
    subst h'
    exact ⟨rfl, b1, [], by simp, hx, rfl⟩
  | (n, u) :: vs, (m, y) :: fs, bs, ⟨h1, c1, c2, h2, h3, h⟩, e, k, hx => by
    subst h1
    unfold fGet at e
    by_cases c : n = f
    · rw [if_pos c] at e; cases e
    · rw [if_neg c] at e
      unfold fPut putF
      rw [if_neg c, if_neg c]
      exact ⟨rfl, c1, c2 ++ b1, by rw [h2, List.append_assoc], FldV.keep s (fun a ha => k a (by rw [h2]; exact List.mem_append_left _ ha)) h3, FldR.new s h e (fun a ha => k a (by rw [h2]; exact List.mem_append_right _ ha)) hx⟩
  | [], _ :: _, _, h, _, _, _ => h.elim
  | _ :: _, [], _, h, _, _, _ => h.elim
theorem FldR.there : ∀ {vs : List (Str × V)} {fs : Fs} {bs : List Addr}, FldR K S H vs fs bs → ∀ b ∈ bs, H b ≠ Option.none
  | [], [], bs, h, b, hb => by
    have h' : bs = [] := h
    subst h'
    cases hb
  | (n, v) :: vs, (m, x) :: fs, bs, ⟨_, b1, b2, h2, h3, h⟩, b, hb => by
    rw [h2] at hb
    rcases List.mem_append.mp hb with hb | hb
    · cases x with
      | d x => rw [h3.1] at hb; cases hb
      | l x => obtain ⟨c, us, _, e, q, _⟩ := h3; rw [e, List.mem_singleton] at hb; subst hb; exact ne_some q
      | k x => obtain ⟨c, us, _, e, q, _⟩ := h3; rw [e, List.mem_singleton] at hb; subst hb; exact ne_some q
    · exact FldR.there h b hb
  | [], _ :: _, _, h, _, _ => h.elim
  | _ :: _, [], _, h, _, _ => h.elim
/-- an object of one's own (or the running method's) changes within its footprint -/
theorem Rel.setO (r : Rel K G S σ ρ H) {i : Nat} {c : Str} {fs : Fs} (hi : oOwn ρ[i]? = some (c, fs)) : ∃ a fp, σ[i]? = some (some (.ref a)) ∧ OwnI K S H a fp c fs ∧ (∀ b ∈ fp, S b = none ∧ H b ≠ none) ∧
    ∀ (S' H' : Hp) (fs' : Fs), (∀ b o, b ∉ fp → H b = some o → H' b = some o) → Same S S' → Same S' H' → (∀ b o, S' b = some o → S b = some o ∨ H b = none) → (∀ b ∈ fp, H' b ≠ none) → OwnI K S' H' a fp c fs' → Rel K G S' σ (oPut ρ i fs') H' := by
  obtain ⟨φ, r⟩ := r
  unfold oOwn at hi
  split at hi
  · rename_i c' fs0 e
    cases hi
    obtain ⟨v, h1, a, rfl, h2⟩ := r.slot i _ e
    refine ⟨a, φ i, h1, h2, fun b hb => ⟨(r.fr i b hb).1, (r.fr i b hb).2.2⟩, fun S' H' fs' k s inn new there own => ?_⟩
    have z := r.set (i := i) (x := .o c fs') (v := .ref a) (fp := φ i) (S' := S') (H' := H') k s inn (fun b o q => by
        rcases new b o q with w | w
        · exact .inl w
        · exact .inr (.inl ⟨w, fun hm => (r.fr i b hm).2.2 w⟩)) there (fun b hb => ⟨by
          cases q : S' b with
          | none => rfl
          | some o =>
            rcases new b o q with w | w
            · rw [(r.fr i b hb).1] at w; cases w
            · exact absurd w (r.fr i b hb).2.2, there b hb, .inl hb⟩) (fun b hb hP => absurd hP (r.nop e (fun _ _ z => by cases z) b hb)) ⟨a, rfl, own⟩
    rw [set_self h1] at z
    unfold oPut
    rw [e]
    exact ⟨_, z⟩
  · rename_i c' fs0 e
    cases hi
    obtain ⟨v, h1, rfl, h2⟩ := r.slot i _ e
    refine ⟨_, φ i, h1, h2, fun b hb => ⟨(r.fr i b hb).1, (r.fr i b hb).2.2⟩, fun S' H' fs' k s inn new there own => ?_⟩
    have z := r.set (i := i) (x := .me c fs') (v := .ref G.a) (fp := φ i) (S' := S') (H' := H') k s inn (fun b o q => by
        rcases new b o q with w | w
        · exact .inl w
        · exact .inr (.inl ⟨w, fun hm => (r.fr i b hm).2.2 w⟩)) there (fun b hb => ⟨by
          cases q : S' b with
          | none => rfl
          | some o =>
            rcases new b o q with w | w
            · rw [(r.fr i b hb).1] at w; cases w
            · exact absurd w (r.fr i b hb).2.2, there b hb, .inl hb⟩) (fun b hb _ => ⟨(List.getElem?_eq_some_iff.mp e).1, c, fs', rfl⟩) ⟨rfl, own⟩
    rw [set_self h1] at z
    unfold oPut
    rw [e]
    exact ⟨_, z⟩
  · cases hi
end
/-! ### class facts -/
structure ClsF (K : PySem.W.Frag) (c : Str) (fl : List Str) : Prop where
  cls : Cls K (He.ga K c)
  no : ∀ f ∈ fl, NoAttr K (He.ga K c) f
/-! ### reading fields -/
section
variable {K : PySem.W.Frag} {G : F} {S H : Hp} {σ : L2.St} {ρ : En} {c f : Str} {i : Nat} {fl : List Str}
end
section
variable {X : Cx} {W : WX} {fk fe : En → R PD} {e ek : Expr} {pos pos' p pf : Pos} {x c f : Str} {fl : List Str} {i : Nat}
end
/-! ### storing -/
def fOwn (c : Str) (f : Str) : Option (Str × Fs) → Option (FV × Fs)
  | some (c', fs) => if c' = c then (fGet f fs).map fun x => (x, fs) else none
  | none => none
section
variable {K : PySem.W.Frag} {S S' H H' : Hp} {a : Addr} {fp : List Addr} {c : Str} {fs : Fs}
/-- a data field is stored -/
theorem OwnI.setD {f : Str} {v : V} {d : PD} (h : OwnI K S H a fp c fs) (r : Rp K S v d) (hg : (∃ x, fGet f fs = some (.d x)) ∨ fGet f fs = none) : ∃ dx vs, H a = some (.ins (He.ga K c) dx vs) ∧ OwnI K S (upd H a (.ins (He.ga K c) dx (putF f v vs))) a fp c (fPut f (.d d) fs) := by
  obtain ⟨dx, vs, bs, h1, h2, h3, h4, h5⟩ := h
  have nd := h2
  rw [h1] at nd
  obtain ⟨n1, n2⟩ := List.nodup_cons.mp nd
  obtain ⟨n3, n4⟩ := List.nodup_cons.mp n2
  have ne : ∀ b ∈ bs, b ≠ a := fun b hb e => n1 (by rw [← e]; exact .tail _ hb)
  have nx : dx ≠ a := fun e => n1 (by rw [← e]; exact .head _)
  refine ⟨dx, vs, h3, dx, _, bs, h1, h2, upd_same, by rw [upd_ne nx]; exact h4, ?_⟩
  rcases hg with ⟨x, hg⟩ | hg
  · obtain ⟨u, b1, q1, q2, q3, q4⟩ := h5.get hg
    obtain ⟨rfl, q2⟩ := q2
    exact (q4 S (upd H a (.ins (He.ga K c) dx (putF f v vs))) (.d d) n4 (Same.refl _) (fun b o hb _ q => by rw [upd_ne (ne b hb)]; exact q)).2 v rfl ⟨rfl, r⟩
  · have z := FldR.new (f := f) (v := v) (b1 := []) (x := .d d) (S' := S) (H' := upd H a (.ins (He.ga K c) dx (putF f v vs))) (Same.refl _) h5 hg (fun b hb o q => by rw [upd_ne (ne b hb)]; exact q) ⟨rfl, r⟩
    rw [List.append_nil] at z
    exact z
/-- a dict's, a list's field changes -/
theorem OwnI.setF {f : Str} {x x' : FV} (h : OwnI K S H a fp c fs) (hg : fGet f fs = some x) : ∃ dx vs v b1, H a = some (.ins (He.ga K c) dx vs) ∧ vs.lookup f = some v ∧ FldV K S H v b1 x ∧ (∀ b ∈ b1, b ∈ fp) ∧
    ∀ (b : Addr) (o : HO), b1 = [b] → FldV K S (upd H b o) v b1 x' → OwnI K S (upd H b o) a fp c (fPut f x' fs) := by
  obtain ⟨dx, vs, bs, h1, h2, h3, h4, h5⟩ := h
  have nd := h2
  rw [h1] at nd
  obtain ⟨n1, n2⟩ := List.nodup_cons.mp nd
  obtain ⟨n3, n4⟩ := List.nodup_cons.mp n2
  obtain ⟨v, b1, q1, q2, q3, q4⟩ := h5.get hg
  refine ⟨dx, vs, v, b1, h3, q1, q2, fun b hb => by rw [h1]; exact .tail _ (.tail _ (q3 b hb)), fun b o hb hx => ?_⟩
  subst hb
  have hbm := q3 b (.head _)
  have na : a ≠ b := fun e => n1 (by rw [e]; exact .tail _ hbm)
  have nx : dx ≠ b := fun e => n3 (by rw [e]; exact hbm)
  exact ⟨dx, vs, bs, h1, h2, by rw [upd_ne na]; exact h3, by rw [upd_ne nx]; exact h4, (q4 S (upd H b o) x' n4 (Same.refl _) (fun b' o' hb' hn q => by
    rw [upd_ne (fun e => hn (by rw [e]; exact .head _))]; exact q)).1 hx⟩
theorem OwnI.there (h : OwnI K S H a fp c fs) : ∀ b ∈ fp, H b ≠ none := by
  obtain ⟨dx, vs, bs, h1, h2, h3, h4, h5⟩ := h
  intro b hb
  rw [h1] at hb
  rcases List.mem_cons.mp hb with rfl | hb
  · exact ne_some h3
  · rcases List.mem_cons.mp hb with rfl | hb
    · exact ne_some h4
    · exact h5.there b hb
theorem OwnI.fl (h : OwnI K S H a fp c fs) : ∃ dx vs, H a = some (.ins (He.ga K c) dx vs) ∧ vs.length = fs.length ∧ (∀ f, fGet f fs = none → vs.lookup f = none) := by
  obtain ⟨dx, vs, bs, h1, h2, h3, h4, h5⟩ := h
  exact ⟨dx, vs, h3, h5.len, fun f hf => h5.none hf⟩
end
section
variable {X : Cx} {W : WX} {fk fe : En → R PD} {e ek : Expr} {pos pos' p pf : Pos} {x c f : Str} {fl : List Str} {i : Nat}
/-- a field of an object of one's own: what it is, and how it changes -/
theorem Rel.fOwn {K : PySem.W.Frag} {G : F} {S H : Hp} {σ : L2.St} {ρ : En} {fs : Fs} {y : FV} (r : Rel K G S σ ρ H) (h : DL.fOwn c f (oOwn ρ[i]?) = some (y, fs)) : ∃ a dx vs v b1, σ[i]? = some (some (.ref a)) ∧ H a = some (.ins (He.ga K c) dx vs) ∧ vs.lookup f = some v ∧ FldV K S H v b1 y ∧ (∀ b ∈ b1, S b = none) := by
  unfold DL.fOwn at h
  split at h
  · rename_i c' fs' eo
    split at h
    · rename_i hc
      subst hc
      cases hg : fGet f fs' with
      | none => rw [hg] at h; cases h
      | some y' =>
        rw [hg] at h
        cases h
        obtain ⟨a, fp, z1, z2, z3, z4⟩ := r.setO eo
        obtain ⟨dx, vs, v, b1, w1, w2, w3, w4, w5⟩ := z2.setF (x' := y) hg
        exact ⟨a, dx, vs, v, b1, z1, w1, w2, w3, fun b hb => (z3 b (w4 b hb)).1⟩
    · cases h
  · cases h
end
end DL

set_option Elab.async false
set_option linter.all false
set_option maxRecDepth 100000
set_option maxHeartbeats 4000000
set_option autoImplicit false
/-! the data layer 15: objects' methods; defs that get an object; what is new is told -/
namespace DL
open PySem L2
/-! ### promises -/
inductive RM where
  | ok (d : PD) (fs : Fs)
  | ex (c : Str) (fs : Fs)
  | no
structure ExtM (fp : List Addr) (S H S' H' : Hp) : Prop where
  sub : Same S S'
  all : ∀ a o, a ∉ fp → H a = some o → H' a = some o
  inn : Same S' H'
  new : ∀ a o, S' a = some o → S a = some o ∨ H a = none
  there : ∀ a ∈ fp, H' a ≠ none
/-- one that looks at it alone -/
def spP (K : PySem.W.Frag) (mg : MG) (c : Str) (n j : Nat) (g : Fs → List PD → R PD) : Sp := fun vs H Q E => ∃ S a fp fs ds, Same S H ∧ vs[j]? = some (.ref a) ∧ RpA K S (vs.set j .non) ds ∧ ds.length = n ∧ OwnI K S H a fp c fs ∧ (∀ b ∈ fp, S b = none) ∧ match g fs ds with
  | .ok d => ∀ v S' H', Ext S H S' H' → Rp K S' v d → Q v H'
  | .ex cc => ∀ cls S' H', mg cc = some cls → Ext S H S' H' → E cls none H'
  | .no => False
/-- what is new and one's own -/
def NewV (K : PySem.W.Frag) (S H S' H' : Hp) (v : V) (x : SV) : Prop := ∃ fp a, (∀ b ∈ fp, H b = none ∧ S' b = none ∧ H' b ≠ none) ∧ v = .ref a ∧ Own K S' H' a fp x
def spPV (K : PySem.W.Frag) (mg : MG) (c : Str) (n j : Nat) (g : Fs → List PD → R SV) : Sp := fun vs H Q E => ∃ S a fp fs ds, Same S H ∧ vs[j]? = some (.ref a) ∧ RpA K S (vs.set j .non) ds ∧ ds.length = n ∧ OwnI K S H a fp c fs ∧ (∀ b ∈ fp, S b = none) ∧ match g fs ds with
  | .ok x => ∀ v S' H', Ext S H S' H' → NewV K S H S' H' v x → Q v H'
  | .ex cc => ∀ cls S' H', mg cc = some cls → Ext S H S' H' → E cls none H'
  | .no => False
def spV (K : PySem.W.Frag) (mg : MG) (n : Nat) (g : List PD → R SV) : Sp := fun vs H Q E => ∃ S ds, Same S H ∧ RpA K S vs ds ∧ ds.length = n ∧ match g ds with
  | .ok x => ∀ v S' H', Ext S H S' H' → NewV K S H S' H' v x → Q v H'
  | .ex c => ∀ cls S' H', mg c = some cls → Ext S H S' H' → E cls none H'
  | .no => False
/-! ### what is one's own as data -/
def tpD : List TP → List PD
  | [] => []
  | .d d :: r => d :: tpD r
  | .l xs :: r => .list xs :: tpD r
  | .o _ _ :: r => .none :: tpD r
def noObj : List TP → Bool
  | [] => true
  | .o _ _ :: _ => false
  | _ :: r => noObj r
def frzV : SV → R PD
  | .l xs => .ok (.list xs)
  | .k m => .no
  | .tp ps => if noObj ps = true then .ok (.tuple (tpD ps)) else .no
  | _ => .no
theorem frzV_nex {x : SV} {c : Str} : frzV x ≠ .ex c := by
  intro h
  cases x with
  | tp ps =>
    have h' : (if noObj ps = true then R.ok (PyData.tuple (tpD ps)) else .no) = .ex c := h
    split at h' <;> cases h'
  | _ => cases h
theorem tpR_rp {K : PySem.W.Frag} {S H : Hp} (A : List Addr) (hA : ∀ b ∈ A, S b = none) : ∀ {vs : List V} {ps : List TP} {bs : List Addr}, noObj ps = true → (∀ b ∈ bs, b ∈ A) → TpR K S H vs ps bs → RpA K (updAll S H A) vs (tpD ps)
  | [], [], _, _, _, _ => .nil
  | v :: vs, .d d :: ps, bs, n, k, ⟨h1, h2⟩ => .cons (Rp.mono (fun b o e => by
      unfold updAll
      split
      · rename_i hb; rw [hA b hb] at e; cases e
      · exact e) _ _ h1) (tpR_rp A hA n k h2)
  | v :: vs, .l xs :: ps, bs, n, k, ⟨b, b2, us, h1, h2, h3, h4, h5⟩ => by
    subst h2
    refine .cons (.lst (SqL.of ?_) (RpA.mono (fun b o e => by
      unfold updAll
      split
      · rename_i hb; rw [hA b hb] at e; cases e
      · exact e) _ _ h4)) (tpR_rp A hA n (fun c hc => k c (by rw [h1]; exact .tail _ hc)) h5)
    unfold updAll
    rw [if_pos (k b (by rw [h1]; exact .head _))]
    exact h3
  | _ :: _, .o _ _ :: _, _, n, _, _ => by cases n
  | [], .d _ :: _, _, _, _, h => h.elim
  | [], .l _ :: _, _, _, _, h => h.elim
  | [], .o _ _ :: _, _, _, _, h => h.elim
  | _ :: _, [], _, _, _, h => h.elim
theorem NewV.frz {K : PySem.W.Frag} {S H S' H' : Hp} {v : V} {x : SV} {d : PD} (e : Ext S H S' H') (h : NewV K S H S' H' v x) (hd : frzV x = .ok d) : ∃ S2, Ext S H S2 H' ∧ Rp K S2 v d := by
  obtain ⟨fp, a, hfp, rfl, ho⟩ := h
  have ext : Ext S H (updAll S' H' fp) H' := ⟨fun b o w => by
      unfold updAll
      split
      · rename_i hb; exact e.all _ _ (by rw [← w]; have := (hfp b hb).1; cases z : S b with
        | none => rw [z] at w; cases w
        | some o' => exact absurd (e.inn _ _ (e.sub _ _ z)) (by intro q; have q2 := (hfp b hb).2.1; rw [e.sub _ _ z] at q2; cases q2))
      · exact e.sub _ _ w, e.all, fun b o w => by
      unfold updAll at w
      split at w
      · exact w
      · exact e.inn _ _ w, fun b o w => by
      unfold updAll at w
      split at w
      · rename_i hb; exact .inr (hfp b hb).1
      · exact e.new _ _ w⟩
  have sub : Same S' (updAll S' H' fp) := fun b o w => by
    unfold updAll
    split
    · rename_i hb; rw [(hfp b hb).2.1] at w; cases w
    · exact w
  refine ⟨_, ext, ?_⟩
  cases x with
  | l xs =>
    cases hd
    obtain ⟨rfl, vs, h1, h2⟩ := ho
    refine .lst (SqL.of ?_) (RpA.mono sub _ _ h2)
    unfold updAll
    rw [if_pos (.head _)]
    exact h1
  | tp ps =>
    have hd' : (if noObj ps = true then R.ok (PyData.tuple (tpD ps)) else .no) = .ok d := hd
    by_cases hn : noObj ps = true
    · rw [if_pos hn] at hd'
      cases hd'
      obtain ⟨bs, vs, rfl, _, h1, h2⟩ := ho
      refine .tup (SqT.of ?_) (tpR_rp (a :: bs) (fun b hb => (hfp b hb).2.1) hn (fun b hb => .tail _ hb) h2)
      unfold updAll
      rw [if_pos (.head _)]
      exact h1
    · rw [if_neg hn] at hd'; cases hd'
  | _ => cases hd
theorem spV_spD {K : PySem.W.Frag} {mg : MG} {n : Nat} {g : List PD → R SV} {vs : List V} {H : Hp} {Q : VK} {E : XK} (h : spD K mg n (fun ds => (g ds).bind frzV) vs H Q E) : spV K mg n g vs H Q E := by
  obtain ⟨S, ds, hS, hr, hl, h⟩ := h
  replace h : (match (g ds).bind frzV with
    | .ok d => ∀ v S' H', Ext S H S' H' → Rp K S' v d → Q v H'
    | .ex c => ∀ cls S' H', mg c = some cls → Ext S H S' H' → E cls none H'
    | .no => False) := h
  refine ⟨S, ds, hS, hr, hl, ?_⟩
  cases q : g ds with
  | ok x =>
    rw [q] at h
    cases q2 : frzV x with
    | ok d =>
      simp only [R.bind_ok, q2] at h
      intro v S' H' e hn
      obtain ⟨S2, e2, r2⟩ := hn.frz e q2
      exact h v S2 H' e2 r2
    | ex c => exact absurd q2 frzV_nex
    | no => simp only [R.bind_ok, q2] at h
  | ex c => rw [q] at h; exact h
  | no => rw [q] at h; exact h
theorem spPV_spP {K : PySem.W.Frag} {mg : MG} {c : Str} {n j : Nat} {g : Fs → List PD → R SV} {vs : List V} {H : Hp} {Q : VK} {E : XK} (h : spP K mg c n j (fun fs ds => (g fs ds).bind frzV) vs H Q E) : spPV K mg c n j g vs H Q E := by
  obtain ⟨S, a, fp, fs, ds, hS, ha, hr, hl, ho, hf, h⟩ := h
  replace h : (match (g fs ds).bind frzV with
    | .ok d => ∀ v S' H', Ext S H S' H' → Rp K S' v d → Q v H'
    | .ex c => ∀ cls S' H', mg c = some cls → Ext S H S' H' → E cls none H'
    | .no => False) := h
  refine ⟨S, a, fp, fs, ds, hS, ha, hr, hl, ho, hf, ?_⟩
  cases q : g fs ds with
  | ok x =>
    rw [q] at h
    cases q2 : frzV x with
    | ok d =>
      simp only [R.bind_ok, q2] at h
      intro v S' H' e hn
      obtain ⟨S2, e2, r2⟩ := hn.frz e q2
      exact h v S2 H' e2 r2
    | ex c => exact absurd q2 frzV_nex
    | no => simp only [R.bind_ok, q2] at h
  | ex c => rw [q] at h; exact h
  | no => rw [q] at h; exact h
/-! ### bodies -/
def stE (m : Nat) (ds : List PD) : En := ds.map (fun d => some (.d d)) ++ List.replicate (m - ds.length) none
def fnV (m : Nat) (den : En → Fl) (ds : List PD) : R SV := match den (stE m ds) with
  | .rv x => .ok x
  | .ex c _ => .ex c
  | _ => .no
section
variable {K : PySem.W.Frag} {S H : Hp} {vs : List V} {ds : List PD} {N : List Str}
end
section
variable {P : Program} {w : World} {K : PySem.W.Frag} {mg : MG} {base : Heap}
theorem okV {x qual : Str} {params : Arguments} {body : List Stmt} {scope : Scope} {dvs : List V} {kws : List (Str × V)} {f : Addr} {fd : FuncData} {N ps : List Str} {k n : Nat} {den : En → Fl} (F : FunD K x qual params body scope dvs kws f fd) (S : FnScope N ps scope) (hn : ps.length = n)
    (hb : ∀ (cdv : Value) (A : Around) (outer : List Env) (s : Shared) (H : Hp) (E : XK), Room k (A.deeper (PyProof.Rows.envOfC qual scope s.heap.objs.size f cdv)) → PSs (cxOf (L2.CX P w) P w K mg base N qual scope f cdv A outer s H E) body (tS K mg (fun cls d _ H => E cls d H) den)) :
    FnOk P w K mg base (L2.CX P w) (k + 1) f fd ps (spV K mg n (fnV N.length den)) := by
  refine F.ok S (fun vs H Q E h => ?_) (fun cdv A outer s H vs Q E hr h => ⟨_, hb cdv A outer s H E hr, ?_⟩)
  · obtain ⟨S', ds, _, hr, hl, _⟩ := h
    rw [hr.length, hl, hn]
  · obtain ⟨S', ds, hS, hr2, hl, h⟩ := h
    refine ⟨⟨S', H, 0, [], []⟩, _, S', Rel.start hS hr2, ?_⟩
    unfold fnV stE at h
    cases q : den (ds.map (fun d => some (.d d)) ++ List.replicate (N.length - ds.length) none) with
    | rv x => rw [q] at h; exact fun v fp' S2 H2 e hf ⟨a, ev, r⟩ => h v S2 H2 e ⟨fp', a, hf, ev, r⟩
    | ex c ρ => rw [q] at h; exact fun cls σ S2 H2 m s2 r => h cls S2 H2 m r.fin
    | nx ρ => rw [q] at h; exact h.elim
    | rt d => rw [q] at h; exact h.elim
    | rm d ρ => rw [q] at h; exact h.elim
    | bk ρ => rw [q] at h; exact h.elim
    | ct ρ => rw [q] at h; exact h.elim
    | no => rw [q] at h; exact h.elim
end
/-! ### expressions whose value is new and one's own -/
def tV (K : PySem.W.Frag) (mg : MG) (W : WX) (f : En → R SV) : TE := fun σ H Q => ∃ G ρ S, Rel K G S σ ρ H ∧ match f ρ with
  | .ok x => ∀ v S' H', Ext S H S' H' → NewV K S H S' H' v x → Q v H'
  | .ex c => ∀ cls S' H', mg c = some cls → Ext S H S' H' → W cls none σ H'
  | .no => False
def vL (f : En → R (List PD)) : En → R SV := fun ρ => (f ρ).bind fun xs => .ok (.l xs)
def sRetV (f : En → R SV) : En → Fl := sE f fun x _ => .rv x
def notMe : SV → Bool
  | .me _ _ => false
  | _ => true
def sSetV (i : Nat) (f : En → R SV) : En → Fl := sE f fun x ρ => if notMe x = true then .nx (ρ.set i (some x)) else .no
section
variable {X : Cx} {W : WX} {f f1 f2 : En → R SV} {fl : En → R (List PD)} {e a b c : Expr} {pos pos' : Pos} {x : Str} {t1 : En → R Bool}
theorem pv_l (h : PE X e (tL X.K X.mg W fl)) : PE X e (tV X.K X.mg W (vL fl)) := PEimp h fun σ H Q ⟨G, ρ, S, rel, q⟩ => by
  refine ⟨G, ρ, S, rel, ?_⟩
  unfold vL at q
  cases z : fl ρ with
  | ok xs =>
    rw [z] at q
    exact fun D S' H' vs e hD hS hH hr => q (.ref D) S' H' e ⟨[D], D, fun b hb => by rw [List.mem_singleton] at hb; subst hb; exact ⟨hD, hS, ne_some hH⟩, rfl, rfl, vs, hH, hr⟩
  | ex c => rw [z] at q; exact q
  | no => rw [z] at q; exact q
theorem sd_retV (he : PE X e (tV X.K X.mg W f)) : PS X (.Return (some e) pos) (tS X.K X.mg W (sRetV f)) := PSimp (ps_ret he) fun D σ H ⟨G, ρ, S, r, q⟩ => by
  refine ⟨G, ρ, S, r, ?_⟩
  unfold sRetV sE at q
  cases z : f ρ with
  | ok y =>
    rw [z] at q
    intro v S' H' e ⟨fp, a, hfp, ev, ho⟩
    exact q v fp S' H' ((r.ext e).fin) (fun b hb => ⟨r.ent.free (hfp b hb).1, (hfp b hb).2.1, (hfp b hb).2.2⟩) ⟨a, ev, ho⟩
  | ex c => rw [z] at q; exact fun cls S' H' m e => q cls σ S' H' m e.sub (r.ext e)
  | no => rw [z] at q; exact q
theorem Own.sl {K : PySem.W.Frag} {G : F} {S H : Hp} {a : Addr} {fp : List Addr} {x : SV} (h : Own K S H a fp x) (hm : ∀ c fs, x ≠ .me c fs) : Sl K G S H (.ref a) fp x := by
  cases x with
  | d _ => exact h.elim
  | ro _ _ => exact h.elim
  | me c fs => exact absurd rfl (hm c fs)
  | l _ => exact ⟨a, rfl, h⟩
  | k _ => exact ⟨a, rfl, h⟩
  | ll _ => exact ⟨a, rfl, h⟩
  | o _ _ => exact ⟨a, rfl, h⟩
  | tp _ => exact ⟨a, rfl, h⟩
  | pl _ => exact h.elim
theorem sd_setV (i : Nat) (hN : X.N.Nodup) (hi : X.N[i]? = some x) (hx : Loc X.env.scope x) (he : PE X e (tV X.K X.mg W f)) (hs : swapsWith e (some (.Name x pos')) pos.line X.env = pure false := by rfl) (hf : X.fn x = true ∨ X.env.scope.names.lookup x = some .local := by first | exact .inl rfl | exact .inr rfl | assumption)
    (hw : swappedStores [.Name x pos'] e X.env = pure none := by rfl) :
    PS X (.Assign [.Name x pos'] e pos) (tS X.K X.mg W (sSetV i f)) := PSimp (ps_asg he (pg_name hN hi hx hf) hs hw) fun D σ H ⟨G, ρ, S, r, q⟩ => by
  refine ⟨G, ρ, S, r, ?_⟩
  unfold sSetV sE at q
  cases z : f ρ with
  | ok y =>
    rw [z] at q
    intro v S' H' e ⟨fp, a, hfp, ev, ho⟩
    subst ev
    by_cases hm : notMe y = true
    · simp only [if_pos hm] at q
      exact q _ S' H' e.sub (r.newP e hfp (ho.sl fun c fs h => by rw [h] at hm; cases hm) i)
    · simp only [if_neg hm] at q; exact q.elim
  | ex c => rw [z] at q; exact fun cls S' H' m e => q cls σ S' H' m e.sub (r.ext e)
  | no => rw [z] at q; exact q
end
/-! ### calls -/
structure FnAtG (P : Program) (w : World) (K : PySem.W.Frag) (mg : MG) (base : Heap) (x : Str) (k : Nat) (Bs : List (List PD)) (sp : Sp) : Prop where
  ex : ∃ (f : Addr) (fd : FuncData) (ps : List Str), FnOk P w K mg base (L2.CX P w) k f fd ps sp ∧ mg x = some (.ref f) ∧ PySem.W.keepIn K (.ref f) = true ∧
    ∀ ds, ds ∈ Bs → ∃ (us : List Value) (dvs : List V), Binds K fd ps us ∧ Vals dvs us ∧ ∀ S, RpA K S dvs ds
structure MethAt (P : Program) (w : World) (K : PySem.W.Frag) (mg : MG) (base : Heap) (c m : Str) (k : Nat) (Bs : List (List PD)) (sp : Sp) : Prop where
  ex : ∃ (f : Addr) (fd : FuncData) (ps : List Str), FnOk P w K mg base (L2.CX P w) k f fd ps sp ∧ Meth K (He.ga K c) m f ∧
    ∀ ds, ds ∈ Bs → ∃ (us : List Value) (dvs : List V), Binds K fd ps us ∧ Vals dvs us ∧ ∀ S, RpA K S dvs ds
structure MkAt (P : Program) (w : World) (K : PySem.W.Frag) (mg : MG) (base : Heap) (c : Str) (k : Nat) (Bs : List (List PD)) (sp : Sp) : Prop where
  ex : ∃ (f : Addr) (fd : FuncData) (ps : List Str), FnOk P w K mg base (L2.CX P w) k f fd ps sp ∧ Mk K (He.ga K c) f ∧ mg c = some (.ref (He.ga K c)) ∧
    ∀ ds, ds ∈ Bs → ∃ (us : List Value) (dvs : List V), Binds K fd ps us ∧ Vals dvs us ∧ ∀ S, RpA K S dvs ds
theorem FnAt.ofV {P : Program} {w : World} {K : PySem.W.Frag} {mg : MG} {base : Heap} {x : Str} {k n : Nat} {Bs : List (List PD)} {g : List PD → R SV} (F : FnAtG P w K mg base x k Bs (spV K mg n g)) : FnAt P w K mg base x k n Bs (fun ds => (g ds).bind frzV) := by
  obtain ⟨f, fd, ps, h1, h2, h3, h4⟩ := F.ex
  exact ⟨f, fd, ps, h1.imp fun vs H Q E h => spV_spD h, h2, h3, h4⟩
theorem MethAt.ofV {P : Program} {w : World} {K : PySem.W.Frag} {mg : MG} {base : Heap} {c m : Str} {k n j : Nat} {Bs : List (List PD)} {g : Fs → List PD → R SV} (F : MethAt P w K mg base c m k Bs (spPV K mg c n j g)) : MethAt P w K mg base c m k Bs (spP K mg c n j (fun fs ds => (g fs ds).bind frzV)) := by
  obtain ⟨f, fd, ps, h1, h2, h3⟩ := F.ex
  exact ⟨f, fd, ps, h1.imp fun vs H Q E h => spPV_spP h, h2, h3⟩
def gCallV (n : Nat) (ds : List PD) (g : List PD → R SV) (as : List PD) : R SV := if (as ++ ds).length = n then g (as ++ ds) else .no
def dAV (g : List PD → R SV) (f : En → R (List PD)) : En → R SV := fun ρ => (f ρ).bind g
section
variable {X : Cx} {W : WX} {f : En → R PD} {fs0 fa : En → R (List PD)} {e o : Expr} {es : List Expr} {pos p apos : Pos} {x c m : Str} {k n i : Nat} {Bs : List (List PD)} {ds : List PD}
/-! the readings of a method's call -/
end
section
variable {X : Cx} {W : WX} {f : En → R PD} {fs0 fa : En → R (List PD)} {e o : Expr} {es : List Expr} {pos p apos spos py : Pos} {x y c m : Str} {k n i : Nat} {Bs : List (List PD)} {ds : List PD} {fl : List Str}
/-! o.m(..), a look -/
/-! o.m(..), a change: as a statement, given to a name, returned -/
/-! f(..), what is new is told -/
theorem pv_call {g : List PD → R SV} (Fn : FnAtG X.prog X.w X.K X.mg X.base x k Bs (spV X.K X.mg n g)) (hB : ds ∈ Bs) (hr : Room k X.A) (tk : Takes X W) (hg : Gl X x) (ha : PA X (e :: es) (tDA X.K X.mg W fa))
    (hdb : (x == ("__debug__" : Str)) = false := by decide) (he : starEach (e :: es) X.env = (false, eval e X.env) :: starEach es X.env := by rfl) (hpl : (backTo pos (starEach es X.env)).any (·.1) = false := by rfl) :
    PE X (.Call (.Name x p) (e :: es) [] pos) (tV X.K X.mg W (dAV (gCallV n ds g) fa)) := by
  obtain ⟨f, fd, ps, hF, hm, hk, hb⟩ := Fn.ex
  obtain ⟨us, dvs, b1, b2, b3⟩ := hb ds hB
  refine PEimp (pe_callSD hF hr hg hm hk b1 b2 (fun σ => passAt tk σ) ha hdb he hpl) ?_
  rintro σ H Q ⟨G, ρ, S, rel, h⟩
  refine tG.mk rel ?_
  unfold dAV at h
  cases z : fa ρ with
  | ok as =>
    rw [z] at h
    intro vs S1 H1 e1 ra
    simp only [R.bind_ok] at h
    unfold gCallV at h
    by_cases hl : (as ++ ds).length = n
    · rw [if_pos hl] at h
      refine ⟨S1, as ++ ds, e1.inn, ra.append (b3 S1), hl, ?_⟩
      cases q : g (as ++ ds) with
      | ok y => rw [q] at h; exact fun v S' H' e2 hn => h v S' H' (e1.trans e2) (by
          obtain ⟨fp', a', hfp, q⟩ := hn
          exact ⟨fp', a', fun b hb => ⟨e1.all.free (hfp b hb).1, (hfp b hb).2⟩, q⟩)
      | ex cc => rw [q] at h; exact fun cls S' H' hm e2 => h cls S' H' hm (e1.trans e2)
      | no => rw [q] at h; exact h
    · rw [if_neg hl] at h; exact h.elim
  | ex cc => rw [z] at h; exact fun cls S' H' hm e2 => h cls S' H' hm e2
  | no => rw [z] at h; exact h
/-! C(..) -/
end
end DL

set_option Elab.async false
set_option linter.all false
set_option maxRecDepth 100000
set_option maxHeartbeats 4000000
set_option autoImplicit false
/-! the data layer 16: defs that are handed an object -/
namespace DL
open PySem L2
/-- arguments, the object at a stands at the place j -/
def RpO (K : PySem.W.Frag) (a : Addr) (j : Nat) : Hp → List V → List PD → Prop := fun S vs ds => vs[j]? = some (.ref a) ∧ RpA K S (vs.set j .non) ds
section
variable {X : Cx} {W : WX} {f : En → R PD} {fa : En → R (List PD)} {e : Expr} {es : List Expr} {pos p spos py : Pos} {x y o c : Str} {k n i j : Nat} {Bs : List (List PD)} {ds : List PD}
theorem RpO.app {K : PySem.W.Frag} {a : Addr} {S : Hp} {vs dvs : List V} {as : List PD} (h : RpO K a j S vs as) (hd : RpA K S dvs ds) : (vs ++ dvs)[j]? = some (.ref a) ∧ RpA K S ((vs ++ dvs).set j .non) (as ++ ds) := by
  have hj : j < vs.length := (List.getElem?_eq_some_iff.mp h.1).1
  refine ⟨by rw [List.getElem?_append_left hj]; exact h.1, ?_⟩
  rw [List.set_append_left _ _ hj]
  exact h.2.append hd
/-! f(.., o, ..), a look -/
/-! .., a change -/
end
/-! ### what is new is told, called by keywords -/
structure KwAtG (P : Program) (w : World) (K : PySem.W.Frag) (mg : MG) (base : Heap) (x : Str) (k : Nat) (np : Nat) (ks : List Str) (arr : List PD → List PD → List PD) (sp : Sp) : Prop where
  ex : ∃ (f : Addr) (fd : FuncData) (ps : List Str) (gv : List Value → List Value → List Value) (gV : List V → List V → List V), FnOk P w K mg base (L2.CX P w) k f fd ps sp ∧ mg x = some (.ref f) ∧ PySem.W.keepIn K (.ref f) = true ∧ KBn K fd ps np ks gv gV ∧
    ∀ S vs zs ds es, RpA K S vs ds → RpA K S zs es → RpA K S (gV vs zs) (arr ds es)
theorem KwAt.ofV {P : Program} {w : World} {K : PySem.W.Frag} {mg : MG} {base : Heap} {x : Str} {k n np : Nat} {ks : List Str} {arr : List PD → List PD → List PD} {g : List PD → R SV} (F : KwAtG P w K mg base x k np ks arr (spV K mg n g)) : KwAt P w K mg base x k n np ks arr (fun ds => (g ds).bind frzV) := by
  obtain ⟨f, fd, ps, gv, gV, h1, h2⟩ := F.ex
  exact ⟨f, fd, ps, gv, gV, h1.imp fun vs H Q E h => spV_spD h, h2⟩
section
variable {X : Cx} {fs gs : En → R (List PD)} {e : Expr} {es : List Expr} {kws : List Keyword} {pos p : Pos} {x : Str} {k n np : Nat} {ks : List Str} {arr : List PD → List PD → List PD} {g : List PD → R SV} {E : XK}
end
/-! ### {"s": e} -/
section
variable {X : Cx} {W : WX} {f : En → R PD} {e : Expr} {pos pk : Pos} {j : Nat}
end
/-! ### if f(.., o, ..): with a change -/
section
variable {X : Cx} {W : WX} {fa : En → R (List PD)} {e : Expr} {es : List Expr} {pos p spos npos : Pos} {x c : Str} {k n i j : Nat} {Bs : List (List PD)} {ds : List PD} {a b : List Stmt} {h1 h2 : En → Fl}
end
end DL

set_option Elab.async false
set_option linter.all false
set_option maxRecDepth 100000
set_option maxHeartbeats 4000000
set_option autoImplicit false
/-! the data layer 17: a list of one's own that stands still while a statement runs; clear; what is made and dropped; C(.., k = v); if o.m(..) is not None -/
namespace DL
open PySem L2
/-! ### a list that stands still -/
section
variable {K : PySem.W.Frag} {G : F} {S H : Hp} {σ : L2.St} {ρ : En}
end
section
variable {X : Cx} {W : WX} {g : En → Fl} {st : Stmt}
/-! ### walks over it -/
variable {tg e : Expr} {x : Str} {p pos tpos : Pos} {f : En → R PD} {elts : List Expr} {kk : Nat}
end
/-! ### x.clear() -/
def sClr (i : Nat) : En → Fl := fun ρ => match ρ[i]? with
  | some (some (.l _)) => .nx (ρ.set i (some (.l [])))
  | _ => .no
section
variable {X : Cx} {W : WX} {x : Str} {p apos cpos pos : Pos}
theorem sd_clr (i : Nat) (hN : X.N[i]? = some x := by rfl) (hv : Vis X.env.scope x := by first | exact Or.inl rfl | exact Or.inr (Or.inl rfl) | exact Or.inr (Or.inr rfl)) (hd : (x == ("__debug__" : Str)) = false := by decide)
    (hcd : (x == ("__classdict__" : Str)) = false := by decide) (hbase : attributeBase (.Name x p) "clear" X.env (eval (.Name x p) X.env) = eval (.Name x p) X.env := by rfl)
    (hline : (apos.endLine == cpos.line) = true := by rfl) (hsw : swapsWith (.Call (.Attribute (.Name x p) "clear" apos) [] [] cpos) none pos.line X.env = pure false := by rfl) :
    PS X (.Expr (.Call (.Attribute (.Name x p) "clear" apos) [] [] cpos) pos) (tS X.K X.mg W (sClr i)) :=
  PSimp (ps_expr (pe_bm0 PySem.F.plainAttrs_list PySem.F.slot_list_clear PySem.F.type_list_clear mt_clear (pe_var hN hv hd hcd) hbase hline) hsw) fun D σ H ⟨G, ρ, S, r, q⟩ => by
    unfold sClr at q
    split at q
    · rename_i xs e
      obtain ⟨a, vs, h1, h2, h4, h5, h6⟩ := r.known e
      exact ⟨_, h1, .inl ⟨rfl, _, SqL.of h4⟩, a, vs, rfl, rfl, h4, q σ S _ (Same.refl _) (r.changeL e h1 .nil)⟩
    · exact q.elim
end
/-! ### (a new list).append(e), dropped -/
section
variable {X : Cx} {W : WX} {fv : En → R SV} {fe : En → R PD} {o e : Expr} {apos cpos pos : Pos}
end
/-! ### if o.m(..) is not None: (a change) -/
section
variable {X : Cx} {W : WX} {fa : En → R (List PD)} {e : Expr} {es : List Expr} {pos p apos spos cpos npos : Pos} {x c m : Str} {k n i : Nat} {Bs : List (List PD)} {ds : List PD} {fl : List Str} {a b : List Stmt} {h1 h2 : En → Fl} {jj : Option Str}
end
/-! ### C(e, .., k = v, ..) -/
structure MkKw (P : Program) (w : World) (K : PySem.W.Frag) (mg : MG) (base : Heap) (c : Str) (k np : Nat) (ks : List Str) (arr : List PD → List PD → List PD) (sp : Sp) : Prop where
  ex : ∃ (f : Addr) (fd : FuncData) (ps : List Str) (gv : List Value → List Value → List Value) (gV : List V → List V → List V), FnOk P w K mg base (L2.CX P w) k f fd ps sp ∧ Mk K (He.ga K c) f ∧ mg c = some (.ref (He.ga K c)) ∧ KBn K fd ps (np + 1) ks gv gV ∧
    ∀ S a vs zs ds es, RpA K S vs ds → RpA K S zs es → ∃ r, gV (.ref a :: vs) zs = .ref a :: r ∧ RpA K S (.non :: r) (arr (.none :: ds) es)
section
variable {X : Cx} {W : WX} {fa fb : En → R (List PD)} {e : Expr} {es : List Expr} {kws : List Keyword} {pos p : Pos} {c : Str} {k n np : Nat} {ks : List Str} {arr : List PD → List PD → List PD}
end
/-! ### a list of one's own is looked at while something without a list in it is made -/
mutual
def noLst : PD → Bool
  | .list _ => false
  | .tuple ds => noLstA ds
  | .dict ks => noLstK ks
  | _ => true
def noLstA : List PD → Bool
  | [] => true
  | d :: ds => noLst d && noLstA ds
def noLstK : List (PD × PD) → Bool
  | [] => true
  | (_, d) :: ds => noLst d && noLstK ds
end
def noLstFV : FV → Bool
  | .d x => noLst x
  | .l xs => noLstA xs
  | .k kvs => kvs.all fun p => noLst p.2
def noLstV : SV → Bool
  | .l xs => noLstA xs
  | .o _ fs => fs.all fun p => noLstFV p.2
  | _ => false
def offA (S : Hp) (a : Addr) : Hp := fun b => if b = a then none else S b
theorem offA_ne {S : Hp} {a b : Addr} (h : b ≠ a) : offA S a b = S b := if_neg h
theorem offA_at {S : Hp} {a b : Addr} {o : HO} {xs : List V} (hS : S a = some (.lst xs)) (h : S b = some o) (hn : ∀ xs, o ≠ .lst xs) : offA S a b = some o := by
  rw [offA_ne (fun e => by subst e; rw [hS] at h; cases h; exact hn _ rfl)]; exact h
section
variable {K : PySem.W.Frag} {S : Hp} {a : Addr} {vs : List V}
theorem seqT_off (hS : S a = some (.lst vs)) {b : Addr} {xs : List V} (h : SqT K S b xs) : SqT K (offA S a) b xs := by
  rcases h with (h | ⟨o, h⟩) | h
  · exact .inl (.inl (offA_at hS h (by intro _ z; cases z)))
  · exact .inl (.inr ⟨o, offA_at hS h (by intro _ z; cases z)⟩)
  · exact .inr h
mutual
theorem Rp.off (hS : S a = some (.lst vs)) : ∀ {v : V} {d : PD}, noLst d = true → Rp K S v d → Rp K (offA S a) v d
  | _, _, _, .non => .non
  | _, _, _, .bl b => .bl b
  | _, _, _, .int i => .int i
  | _, _, _, .str x => .str x
  | _, _, h, .lst _ _ => by cases h
  | _, _, h, .tup hs ha => .tup (seqT_off hS hs) (RpA.off hS (by unfold noLst at h; exact h) ha)
  | _, _, _, .exc h => .exc (offA_at hS h (by intro _ z; cases z))
  | _, _, h, .dct h2 hk => .dct (offA_at hS h2 (by intro _ z; cases z)) (RpK.off hS (by unfold noLst at h; exact h) hk)
theorem RpA.off (hS : S a = some (.lst vs)) : ∀ {us : List V} {ds : List PD}, noLstA ds = true → RpA K S us ds → RpA K (offA S a) us ds
  | _, _, _, .nil => .nil
  | _, _, h, .cons h1 h2 => by
    unfold noLstA at h
    rw [Bool.and_eq_true] at h
    exact .cons (Rp.off hS h.1 h1) (RpA.off hS h.2 h2)
theorem RpK.off (hS : S a = some (.lst vs)) : ∀ {us : List (L2.Key × V)} {ds : List (PD × PD)}, noLstK ds = true → RpK K S us ds → RpK K (offA S a) us ds
  | _, _, _, .nil => .nil
  | _, _, h, .cons h0 h1 h2 => by
    unfold noLstK at h
    rw [Bool.and_eq_true] at h
    exact .cons h0 (Rp.off hS h.1 h1) (RpK.off hS h.2 h2)
end
theorem kvRel.off (hS : S a = some (.lst vs)) : ∀ {l : List (L2.Key × V)} {m : List (L2.Key × PD)}, (m.all fun p => noLst p.2) = true → kvRel K S l m → kvRel K (offA S a) l m
  | [], [], _, _ => trivial
  | (_, v) :: r, (_, d) :: q, h, h2 => by
    rw [List.all_cons, Bool.and_eq_true] at h
    exact ⟨h2.1, Rp.off hS h.1 h2.2.1, kvRel.off hS h.2 h2.2.2⟩
  | [], _ :: _, _, h => h.elim
  | _ :: _, [], _, h => h.elim
theorem FldV.off (hS : S a = some (.lst vs)) {H : Hp} {v : V} {bs : List Addr} : ∀ {x : FV}, noLstFV x = true → FldV K S H v bs x → FldV K (offA S a) H v bs x
  | .d _, h, ⟨h1, h2⟩ => ⟨h1, Rp.off hS h h2⟩
  | .l _, h, ⟨b, us, h1, h2, h3, h4⟩ => ⟨b, us, h1, h2, h3, RpA.off hS h h4⟩
  | .k _, h, ⟨b, us, h1, h2, h3, h4⟩ => ⟨b, us, h1, h2, h3, kvRel.off hS h h4⟩
theorem FldR.off (hS : S a = some (.lst vs)) {H : Hp} : ∀ {us : List (Str × V)} {fs : Fs} {bs : List Addr}, (fs.all fun p => noLstFV p.2) = true → FldR K S H us fs bs → FldR K (offA S a) H us fs bs
  | [], [], _, _, h => h
  | (n, v) :: us, (m, x) :: fs, bs, h, ⟨h1, b1, b2, h2, h3, h4⟩ => by
    rw [List.all_cons, Bool.and_eq_true] at h
    exact ⟨h1, b1, b2, h2, FldV.off hS h.1 h3, FldR.off hS h.2 h4⟩
  | [], _ :: _, _, _, h => h.elim
  | _ :: _, [], _, _, h => h.elim
theorem Own.off (hS : S a = some (.lst vs)) {H : Hp} {b : Addr} {fp : List Addr} {x : SV} (h : noLstV x = true) (ho : Own K S H b fp x) : Own K (offA S a) H b fp x := by
  cases x with
  | l ds => obtain ⟨h0, us, h1, h2⟩ := ho; exact ⟨h0, us, h1, RpA.off hS h h2⟩
  | o c fs => obtain ⟨dx, us, bs, h1, h2, h3, h4, h5⟩ := ho; exact ⟨dx, us, bs, h1, h2, h3, h4, FldR.off hS h h5⟩
  | _ => cases h
theorem Ext.off {H S' H' : Hp} (hS : S a = Option.none) (r : Same S H) (e : Ext (upd S a (.lst vs)) H S' H') : Ext S H (offA S' a) H' ∧ S' a = some (.lst vs) := by
  have h1 : S' a = some (.lst vs) := e.sub _ _ upd_same
  refine ⟨⟨fun b o z => ?_, e.all, fun b o z => ?_, fun b o z => ?_⟩, h1⟩
  · have hb := ne_of_none z hS
    rw [offA_ne hb]; exact e.sub _ _ (by rw [upd_ne hb]; exact z)
  · unfold offA at z
    split at z
    · cases z
    · exact e.inn _ _ z
  · unfold offA at z
    split at z
    · cases z
    · rename_i hb
      rcases e.new b o z with w | w
      · rw [upd_ne hb] at w; exact .inl w
      · exact .inr w
end
def cleanV (x : SV) : R SV := if noLstV x = true then .ok x else .no
def vLend (i : Nat) (f : En → R SV) : En → R SV := fun ρ => match ρ[i]? with
  | some (some (.l xs)) => (f (ρ.set i (some (.d (.list xs))))).bind cleanV
  | _ => f ρ
section
variable {X : Cx} {W : WX} {e : Expr}
theorem vLend_at {i : Nat} {f : En → R SV} {ρ : En} : (∃ xs, ρ[i]? = some (some (.l xs)) ∧ vLend i f ρ = (f (ρ.set i (some (.d (.list xs))))).bind cleanV) ∨ vLend i f ρ = f ρ := by
  unfold vLend
  split
  · rename_i xs e; exact .inl ⟨xs, e, rfl⟩
  · exact .inr rfl
theorem pv_lend {f : En → R SV} (i : Nat) (h : PE X e (tV X.K X.mg W f)) : PE X e (tV X.K X.mg W (vLend i f)) := PEimp h fun σ H Q ⟨G, ρ, S, r, q⟩ => by
  rcases vLend_at (i := i) (f := f) (ρ := ρ) with ⟨xs, e, ev⟩ | ev
  · rw [ev] at q
    obtain ⟨a, vs, h1, h2, h4, h5, h6⟩ := r.known e
    refine ⟨G, _, _, h6, ?_⟩
    cases z : f (ρ.set i (some (.d (.list xs)))) with
    | ok x =>
      rw [z] at q
      intro v S' H' e' ⟨fp, b, hfp, ev, ho⟩
      simp only [R.bind_ok] at q
      unfold cleanV at q
      by_cases hc : noLstV x = true
      · rw [if_pos hc] at q
        obtain ⟨e2, hS⟩ := Ext.off h2 r.inn e'
        refine q v _ H' e2 ⟨fp, b, fun c hcf => ⟨(hfp c hcf).1, ?_, (hfp c hcf).2.2⟩, ev, Own.off hS hc ho⟩
        unfold offA
        split
        · rfl
        · exact (hfp c hcf).2.1
      · rw [if_neg hc] at q; exact q.elim
    | ex c => rw [z] at q; exact fun cls S' H' m e' => q cls S H' m (Ext.grow r.inn e'.all)
    | no => rw [z] at q; exact q
  · rw [ev] at q
    exact ⟨G, ρ, S, r, q⟩
end
end DL

set_option Elab.async false
set_option linter.all false
set_option maxRecDepth 100000
set_option maxHeartbeats 4000000
set_option autoImplicit false
/-! the data layer 18: told tuples with parts of one's own; x = a + b of lists; constant dicts; in range -/
namespace DL
open PySem L2
/-! ### parts -/
def newP : SV → Option TP
  | .l xs => some (.l xs)
  | .o c fs => some (.o c fs)
  | _ => none
section
variable {K : PySem.W.Frag} {S H : Hp}
/-- a part ahead of others -/
theorem TpR.app {a : Addr} {fp bs : List Addr} {x : SV} {p : TP} {vs : List V} {ps : List TP} (hp : newP x = some p) (h : Own K S H a fp x) (t : TpR K S H vs ps bs) : TpR K S H (.ref a :: vs) (p :: ps) (fp ++ bs) := by
  cases x with
  | l xs => cases hp; obtain ⟨rfl, us, h1, h2⟩ := h; exact ⟨a, bs, us, rfl, rfl, h1, h2, t⟩
  | o c fs => cases hp; exact ⟨a, fp, bs, rfl, rfl, h, t⟩
  | _ => cases hp
theorem Sl.own {G : F} {v : V} {fp : List Addr} {x : SV} {p : TP} (hp : newP x = some p) (h : Sl K G S H v fp x) : ∃ a, v = .ref a ∧ Own K S H a fp x := by
  cases x with
  | l xs => exact h
  | o c fs => exact h
  | _ => cases hp
end
section
variable {X : Cx} {W : WX} {f : En → R PD} {fv : En → R SV} {g : En → R (List TP)} {e : Expr} {es : List Expr} {is : List Nat} {x : Str} {pos p : Pos}
theorem TpR.length {K : PySem.W.Frag} {S H : Hp} : ∀ {vs : List V} {ps : List TP} {bs : List Addr}, TpR K S H vs ps bs → vs.length = ps.length
  | [], [], _, _ => rfl
  | v :: vs, .d _ :: ps, bs, ⟨_, h⟩ => congrArg Nat.succ (TpR.length h)
  | v :: vs, .l _ :: ps, bs, ⟨_, _, _, _, _, _, _, h⟩ => congrArg Nat.succ (TpR.length h)
  | v :: vs, .o _ _ :: ps, bs, ⟨_, _, _, _, _, _, h⟩ => congrArg Nat.succ (TpR.length h)
  | [], .d _ :: _, _, h => h.elim
  | [], .l _ :: _, _, h => h.elim
  | [], .o _ _ :: _, _, h => h.elim
  | _ :: _, [], _, h => h.elim
end
/-! ### a, b = (what is told) -/
def TP.sv : TP → SV
  | .d x => .d x
  | .l xs => .l xs
  | .o c fs => .o c fs
section
variable {K : PySem.W.Frag} {G : F} {S H : Hp} {σ : L2.St} {ρ : En} {φ : Nat → List Addr}
/-- a slot gets what is there and nobody's -/
theorem RelF.put (r : RelF K G φ S σ ρ H) {i : Nat} {x : SV} {v : V} {fp : List Addr} (hfp : ∀ a ∈ fp, S a = none ∧ H a ≠ none ∧ G.H a = none ∧ a ∉ G.P ∧ ∀ j, a ∉ φ j) (hs : Sl K G S H v fp x) : RelF K G (φset φ i fp) S (σ.set i (some v)) (ρ.set i (some x)) H where
  len := by simp only [List.length_set]; exact r.len
  inn := r.inn
  ent := r.ent
  entS := r.entS
  new := r.new
  gp := r.gp
  slot := fun j y hj => by
    by_cases e : i = j
    · subst e
      by_cases hl : i < ρ.length
      · rw [List.getElem?_set_self hl] at hj
        cases hj
        exact ⟨v, List.getElem?_set_self (by rw [r.len]; exact hl), by rw [φset_same]; exact hs⟩
      · rw [List.getElem?_eq_none (by simpa using hl)] at hj; cases hj
    · rw [List.getElem?_set_ne e] at hj ⊢
      rw [φset_ne e]
      exact r.slot j y hj
  fr := fun j a ha => by
    by_cases e : i = j
    · subst e
      rw [φset_same] at ha
      exact ⟨(hfp a ha).1, (hfp a ha).2.2.1, (hfp a ha).2.1⟩
    · rw [φset_ne e] at ha
      exact r.fr j a ha
  dj := fun j l a hjl hj hl => by
    by_cases e1 : i = j
    · subst e1
      rw [φset_same] at hj
      rw [φset_ne hjl] at hl
      exact (hfp a hj).2.2.2.2 l hl
    · by_cases e2 : i = l
      · subst e2
        rw [φset_same] at hl
        rw [φset_ne e1] at hj
        exact (hfp a hl).2.2.2.2 j hj
      · rw [φset_ne e1] at hj
        rw [φset_ne e2] at hl
        exact r.dj j l a hjl hj hl
  pp := fun j a hj hp => by
    by_cases e1 : i = j
    · subst e1
      rw [φset_same] at hj
      exact absurd hp (hfp a hj).2.2.2.1
    · rw [φset_ne e1] at hj
      rw [List.getElem?_set_ne e1]
      exact r.pp j a hj hp
end
section
variable {X : Cx} {W : WX} {f : En → R SV} {e tg : Expr} {pos : Pos} {is : List Nat}
end
/-! ### a told tuple is looked at -/
section
variable {K : PySem.W.Frag} {G : F} {S H : Hp} {σ : L2.St} {ρ : En}
end
section
variable {X : Cx} {W : WX} {e : Expr}
end
/-! ### x[k].clear() of a told tuple's list -/
section
variable {K : PySem.W.Frag} {S H : Hp}
/-- a list among a tuple's parts, and the tuple when it changes -/
theorem TpR.at : ∀ {vs : List V} {ps : List TP} {bs : List Addr} {k : Nat} {xs : List PD}, bs.Nodup → TpR K S H vs ps bs → ps[k]? = some (.l xs) → ∃ b us, vs[k]? = some (.ref b) ∧ b ∈ bs ∧ H b = some (.lst us) ∧ TpR K S (upd H b (.lst [])) vs (ps.set k (.l [])) bs
  | [], [], _, _, _, _, _, e => by simp at e
  | v :: vs, .d d :: ps, bs, k, xs, nd, ⟨h1, h2⟩, e => by
    cases k with
    | zero => simp at e
    | succ k =>
      obtain ⟨b, us, q1, q2, q3, q4⟩ := TpR.at nd h2 (k := k) (by simpa using e)
      exact ⟨b, us, by simpa using q1, q2, q3, h1, q4⟩
  | v :: vs, .l ys :: ps, bs, k, xs, nd, ⟨b0, b2, us0, h1, h2, h3, h4, h5⟩, e => by
    subst h1 h2
    obtain ⟨nd1, nd2⟩ := List.nodup_cons.mp nd
    cases k with
    | zero =>
      refine ⟨b0, us0, rfl, .head _, h3, b0, b2, [], rfl, rfl, upd_same, .nil, TpR.keep (Same.refl _) (fun a ha o q => ?_) h5⟩
      rw [upd_ne (fun w => nd1 (by rw [← w]; exact ha))]; exact q
    | succ k =>
      obtain ⟨b, us, q1, q2, q3, q4⟩ := TpR.at nd2 h5 (k := k) (by simpa using e)
      refine ⟨b, us, by simpa using q1, .tail _ q2, q3, b0, b2, us0, rfl, rfl, ?_, h4, q4⟩
      rw [upd_ne (fun w => nd1 (by rw [w]; exact q2))]; exact h3
  | v :: vs, .o c fs :: ps, bs, k, xs, nd, ⟨b0, b1, b2, h1, h2, h3, h4⟩, e => by
    subst h1 h2
    obtain ⟨nd1, nd2, nd3⟩ := List.nodup_append.mp nd
    cases k with
    | zero => simp at e
    | succ k =>
      obtain ⟨b, us, q1, q2, q3, q4⟩ := TpR.at nd2 h4 (k := k) (by simpa using e)
      refine ⟨b, us, by simpa using q1, List.mem_append_right _ q2, q3, b0, b1, b2, rfl, rfl, OwnI.keep (Same.refl _) (fun a ha o q => ?_) h3, q4⟩
      rw [upd_ne (fun w => nd3 a ha b q2 w)]; exact q
  | [], .d _ :: _, _, _, _, _, h, _ => h.elim
  | [], .l _ :: _, _, _, _, _, h, _ => h.elim
  | [], .o _ _ :: _, _, _, _, _, h, _ => h.elim
  | _ :: _, [], _, _, _, _, h, _ => h.elim
end
section
variable {X : Cx} {W : WX} {x : Str} {p apos cpos pos spos ipos : Pos}
end
/-! ### x = a + b, a list of one's own -/
section
variable {X : Cx} {W : WX} {f1 f2 : En → R PD} {a b : Expr} {pos p : Pos} {x : Str}
end
section
variable {X : Cx} {W : WX} {f2 : En → R PD} {b : Expr} {pos p : Pos} {x : Str}
end
/-! ### (what is told)[k] -/
section
variable {X : Cx} {W : WX} {f : En → R SV} {e : Expr} {pos ipos : Pos}
end
/-! ### a constant dict of texts -/
section
variable {X : Cx} {W : WX} {f : En → R PD} {e : Expr} {p pos : Pos} {x : Str} {kvs : List (Str × Str)} {ks : List Str}
end
/-! ### in range(n) -/
section
variable {X : Cx} {W : WX} {f g : En → R PD} {a b : Expr} {p pos pos2 : Pos}
end
/-! ### list(range(..)) -/
section
variable {X : Cx} {W : WX} {f g : En → R PD} {a b : Expr} {p pos p2 pos2 : Pos}
end
/-! ### reversed(xs) -/
section
variable {X : Cx} {W : WX} {f : En → R PD} {e tg : Expr} {p pos : Pos}
end
end DL

set_option Elab.async false
set_option linter.all false
set_option maxRecDepth 100000
set_option maxHeartbeats 4000000
set_option autoImplicit false
/-! the data layer 19: x[k].append(o.m(..)) -/
namespace DL
open PySem L2
section
variable {K : PySem.W.Frag} {G : F} {S H : Hp} {σ : L2.St} {ρ : En}
end
section
variable {X : Cx} {W : WX} {fa : En → R (List PD)} {c m : Str} {n i : Nat} {ds : List PD}
end
section
variable {X : Cx} {W : WX} {f : En → R PD} {fs0 fa : En → R (List PD)} {e o : Expr} {es : List Expr} {pos p p2 px apos mpos cpos : Pos} {x y c m : Str} {k n : Nat} {Bs : List (List PD)} {ds : List PD} {fl : List Str}
end
/-! ### return o.f, a list of an object of one's own, as one's own -/
section
variable {X : Cx} {W : WX} {pos p pf : Pos} {x c f : Str} {fl : List Str}
end
end DL

set_option Elab.async false
set_option linter.all false
set_option maxRecDepth 100000
set_option maxHeartbeats 4000000
set_option autoImplicit false
/-! the data layer 20: x.reverse() -/
namespace DL
open PySem L2
section
variable {X : Cx} {W : WX} {x : Str} {p apos cpos pos : Pos}
end
end DL

set_option Elab.async false
set_option linter.all false
set_option maxRecDepth 100000
set_option maxHeartbeats 4000000
set_option autoImplicit false
/-! reckoning of dens by simp -/
namespace DL
open PySem L2

/-! ### bounds -/
class Bd (i : Int) (n : outParam Nat) : Prop where
  h : i.natAbs < 2 ^ n
theorem Bd.le {i : Int} {n m : Nat} [b : Bd i n] (h : n ≤ m) : i.natAbs < 2 ^ m := Nat.lt_of_lt_of_le b.h (Nat.pow_le_pow_right (by decide) h)
theorem ib_le {i : Int} {n : Nat} (h : i.natAbs < 2 ^ n) : ib i ≤ n := by
  unfold DL.ib Builtin.Int.intBits
  by_cases e : i = 0
  · subst e; simp
  · have : (i == 0) = false := by simpa using e
    rw [this]
    have h2 : i.natAbs ≠ 0 := by omega
    have := (Nat.log2_lt h2).mpr h
    simp only [Bool.false_eq_true, if_false]
    omega
theorem lt_of_ib {i : Int} {n : Nat} (h : Builtin.Int.intBits i ≤ n) : i.natAbs < 2 ^ n := by
  unfold Builtin.Int.intBits at h
  by_cases e : i = 0
  · subst e; exact Nat.two_pow_pos n
  · have h1 : (i == 0) = false := by simpa using e
    rw [h1] at h
    simp only [Bool.false_eq_true, if_false] at h
    have h2 : i.natAbs ≠ 0 := by omega
    exact (Nat.log2_lt h2).mp (by omega)
theorem Bd.ib {i : Int} {n : Nat} [b : Bd i n] : ib i ≤ n := ib_le b.h
instance bd_mul {i j : Int} {n m : Nat} [a : Bd i n] [b : Bd j m] : Bd (i * j) (n + m) := ⟨by
  rw [Int.natAbs_mul, Nat.pow_add]
  exact Nat.mul_lt_mul'' a.h b.h⟩
theorem two_pow_max {n m : Nat} : 2 ^ n ≤ 2 ^ (max n m) ∧ 2 ^ m ≤ 2 ^ (max n m) := ⟨Nat.pow_le_pow_right (by decide) (Nat.le_max_left _ _), Nat.pow_le_pow_right (by decide) (Nat.le_max_right _ _)⟩
instance bd_add {i j : Int} {n m : Nat} [a : Bd i n] [b : Bd j m] : Bd (i + j) (max n m + 1) := ⟨by
  have h1 := a.h
  have h2 := b.h
  have h3 := @two_pow_max n m
  rw [Nat.pow_succ]
  omega⟩
instance bd_sub {i j : Int} {n m : Nat} [a : Bd i n] [b : Bd j m] : Bd (i - j) (max n m + 1) := ⟨by
  have h1 := a.h
  have h2 := b.h
  have h3 := @two_pow_max n m
  rw [Nat.pow_succ]
  omega⟩
instance bd_neg {i : Int} {n : Nat} [a : Bd i n] : Bd (-i) n := ⟨by rw [Int.natAbs_neg]; exact a.h⟩
instance bd_lit {k : Nat} : Bd (no_index (OfNat.ofNat k : Int)) ((OfNat.ofNat k : Nat).log2 + 1) := ⟨by
  show (Int.natAbs ((k : Nat) : Int)) < _
  rw [Int.natAbs_natCast]
  exact Nat.lt_log2_self⟩
theorem natAbs_fdiv_le (i j : Int) : (i.fdiv j).natAbs ≤ i.natAbs := by
  match i, j with
  | 0, j => simp
  | .ofNat (m+1), .ofNat n =>
    show ((m+1)/n : Nat) ≤ m+1
    exact Nat.div_le_self _ _
  | .ofNat (m+1), .negSucc n =>
    show m / (n+1) + 1 ≤ m + 1
    exact Nat.succ_le_succ (Nat.div_le_self _ _)
  | .negSucc m, .ofNat 0 => simp
  | .negSucc m, .ofNat (n+1) =>
    show m / (n+1) + 1 ≤ m + 1
    exact Nat.succ_le_succ (Nat.div_le_self _ _)
  | .negSucc m, .negSucc n =>
    show (m+1)/(n+1) ≤ m+1
    exact Nat.div_le_self _ _
theorem natAbs_fmod_lt (a : Int) {b : Int} (hb : b ≠ 0) : (a.fmod b).natAbs < b.natAbs := by
  have h1 := Int.emod_nonneg a hb
  have h2 := Int.emod_lt a hb
  rw [Int.fmod_eq_emod]
  split
  · omega
  · rename_i h
    have h3 : ¬ b ∣ a := fun z => h (.inr z)
    have h4 : a % b ≠ 0 := fun z => h3 (Int.dvd_of_emod_eq_zero z)
    have h5 : ¬ 0 ≤ b := fun z => h (.inl z)
    omega
instance bd_fdiv {i j : Int} {n : Nat} [a : Bd i n] : Bd (i.fdiv j) n := ⟨Nat.lt_of_le_of_lt (natAbs_fdiv_le i j) a.h⟩
class NZ (j : Int) : Prop where
  h : j ≠ 0
instance nz_lit {k : Nat} [h : NeZero k] : NZ (no_index (OfNat.ofNat k : Int)) := ⟨by
  have := h.out
  show ((k : Nat) : Int) ≠ 0
  omega⟩
instance bd_fmod {i j : Int} {m : Nat} [b : Bd j m] [z : NZ j] : Bd (i.fmod j) m := ⟨Nat.lt_trans (natAbs_fmod_lt i z.h) b.h⟩
instance bd_emod {i j : Int} {m : Nat} [b : Bd j m] [z : NZ j] : Bd (i % j) m := ⟨by
  have h1 := Int.emod_nonneg i z.h
  have h2 := Int.emod_lt i z.h
  have h3 := b.h
  omega⟩
instance bd_ediv {i j : Int} {n : Nat} [a : Bd i n] : Bd (i / j) n := ⟨Nat.lt_of_le_of_lt (Int.natAbs_ediv_le_natAbs i j) a.h⟩
instance bd_pow {i : Int} {n k : Nat} [a : Bd i n] : Bd (i ^ k) (n * k + 1) := ⟨by
  rw [Int.natAbs_pow]
  have h := a.h
  have : i.natAbs ^ k ≤ (2 ^ n) ^ k := Nat.pow_le_pow_left (Nat.le_of_lt h) k
  rw [← Nat.pow_mul] at this
  rw [Nat.pow_succ]
  have := Nat.two_pow_pos (n * k)
  omega⟩
theorem Bd.mono {i : Int} {n m : Nat} (b : Bd i n) (h : n ≤ m) : Bd i m := ⟨Bd.le h⟩
theorem pylong_of {i j : Int} {m : Nat} [b : Bd j m] (h : m ≤ 9000) : Builtin.divisionGoesByPylong i j = false := by
  unfold Builtin.divisionGoesByPylong
  have hd : (if (j == 0) = true then 0 else j.natAbs.log2 / 30 + 1) ≤ 300 := by
    by_cases e : j = 0
    · subst e; simp
    · have h1 : (j == 0) = false := by simpa using e
      rw [h1]
      simp only [Bool.false_eq_true, if_false]
      have h2 : j.natAbs ≠ 0 := by omega
      have := (Nat.log2_lt h2).mpr (Bd.le (i := j) h)
      omega
  simp only [Bool.and_eq_false_iff, decide_eq_false_iff_not]
  exact .inl (by omega)
/-! ### operators on numbers -/
section
variable {i j : Int} {n m : Nat}
theorem gAdd_i : gAdd (.int i) (.int j) = .ok (.int (i + j)) := rfl
theorem gSub_i : gSub (.int i) (.int j) = .ok (.int (i - j)) := rfl
theorem gMul_i [a : Bd i n] [b : Bd j m] (h : n + m ≤ 134217728) : gMul (.int i) (.int j) = .ok (.int (i * j)) := by
  have h1 := Bd.ib (i := i)
  have h2 := Bd.ib (i := j)
  unfold gMul
  exact if_pos (by omega)
theorem gDiv_i [b : Bd j m] (hj : j ≠ 0) (h : m ≤ 9000) : gDiv (.int i) (.int j) = .ok (.int (i.fdiv j)) := by
  unfold gDiv
  exact if_pos ⟨hj, pylong_of h⟩
theorem gMod_i (hj : j ≠ 0) : gMod (.int i) (.int j) = .ok (.int (i.fmod j)) := by
  unfold gMod
  exact if_pos hj
theorem gDiv_p [b : Bd j m] (hj : 0 < j) (h : m ≤ 9000) : gDiv (.int i) (.int j) = .ok (.int (i / j)) := by
  rw [gDiv_i (by omega) h, Int.fdiv_eq_ediv_of_nonneg _ (by omega)]
theorem gMod_p (hj : 0 < j) : gMod (.int i) (.int j) = .ok (.int (i % j)) := by
  rw [gMod_i (by omega), Int.fmod_eq_emod_of_nonneg _ (by omega)]
theorem gPow_i [a : Bd i n] (hj : 0 ≤ j) (h : (n : Int) * j ≤ 134217728) : gPow (.int i) (.int j) = .ok (.int (i ^ j.toNat)) := by
  unfold gPow
  have h1 := Bd.ib (i := i)
  exact if_pos ⟨hj, Int.le_trans (Int.mul_le_mul_of_nonneg_right (by omega) hj) h⟩
theorem gPow_l {k : Nat} [a : Bd i n] (h : n * k ≤ 134217728) : gPow (.int i) (.int (no_index (OfNat.ofNat k : Int))) = .ok (.int (i ^ (OfNat.ofNat k : Nat))) := by
  rw [gPow_i (j := (OfNat.ofNat k : Int)) (by show (0 : Int) ≤ ((k : Nat) : Int); omega) (by
    show (n : Int) * ((k : Nat) : Int) ≤ 134217728
    have : ((n * k : Nat) : Int) = (n : Int) * (k : Int) := Int.natCast_mul n k
    omega)]
  rfl
theorem gShl_l {k : Nat} [a : Bd i n] (h : n + k ≤ 134217728) : gShl (.int i) (.int (no_index (OfNat.ofNat k : Int))) = .ok (.int (i * 2 ^ (OfNat.ofNat k : Nat))) := by
  have h1 := Bd.ib (i := i)
  unfold gShl
  exact if_pos ⟨(by show (0 : Int) ≤ ((k : Nat) : Int); omega), (by show (DL.ib i : Int) + ((k : Nat) : Int) ≤ _; omega)⟩
theorem gShr_l {k : Nat} : gShr (.int i) (.int (no_index (OfNat.ofNat k : Int))) = .ok (.int (i / 2 ^ (OfNat.ofNat k : Nat))) := by
  unfold gShr
  exact if_pos (by show (0 : Int) ≤ ((k : Nat) : Int); omega)
theorem gLt_i : gLt (.int i) (.int j) = .ok (.bool (decide (i < j))) := rfl
theorem gLe_i : gLe (.int i) (.int j) = .ok (.bool (decide (i ≤ j))) := rfl
theorem gGt_i : gGt (.int i) (.int j) = .ok (.bool (decide (j < i))) := rfl
theorem gGe_i : gGe (.int i) (.int j) = .ok (.bool (decide (j ≤ i))) := rfl
theorem gEq_i : gEq (.int i) (.int j) = .ok (.bool (decide (i = j))) := rfl
theorem gNe_i : gNe (.int i) (.int j) = .ok (.bool (!decide (i = j))) := rfl
theorem gAbs_i : gAbs [.int i] = .ok (.int (i.natAbs : Int)) := by
  show R.ok (PyData.int (if i < 0 then -i else i)) = _
  congr 2
  split <;> omega
theorem gInt_i : gInt [.int i] = .ok (.int i) := rfl
theorem gInt_b {b : Bool} : gInt [.bool b] = .ok (.int (if b = true then 1 else 0)) := rfl
theorem gEq_s {x y : Str} : gEq (.str x) (.str y) = .ok (.bool (decide (x = y))) := rfl
theorem gNe_s {x y : Str} : gNe (.str x) (.str y) = .ok (.bool (!decide (x = y))) := rfl
theorem gEq_b {x y : Bool} : gEq (.bool x) (.bool y) = .ok (.bool (x == y)) := rfl
theorem gNe_b {x y : Bool} : gNe (.bool x) (.bool y) = .ok (.bool (!(x == y))) := rfl
instance bd_abs [a : Bd i n] : Bd ((i.natAbs : Nat) : Int) n := ⟨by rw [Int.natAbs_natCast]; exact a.h⟩
instance bd_ite {p : Prop} [Decidable p] [a : Bd i n] [b : Bd j m] : Bd (if p then i else j) (max n m) := ⟨by
  have h1 := a.h
  have h2 := b.h
  have h3 := @two_pow_max n m
  split <;> omega⟩
end

/-! ### flow -/
def Fl.seq (r : Fl) (g : En → Fl) : Fl := match r with
  | .nx ρ => g ρ
  | r => r
def R.fl {A : Type} (r : R A) (ρ : En) (k : A → Fl) : Fl := match r with
  | .ok a => k a
  | .ex c => .ex c ρ
  | .no => .no
def R.bind2 {A B C : Type} (g : A → B → R C) (x : R A) (y : R B) : R C := match x with
  | .ok a => (match y with
    | .ok b => g a b
    | .ex c => .ex c
    | .no => .no)
  | .ex c => .ex c
  | .no => .no
def kSet (i : Nat) (ρ : En) (d : PD) : Fl := .nx (ρ.set i (some (.d d)))
def kIf (f g : En → Fl) (ρ : En) (b : Bool) : Fl := if b = true then f ρ else g ρ
def kPar (i j : Nat) (ρ : En) (a b : PD) : R Fl := .ok (.nx ((ρ.set i (some (.d a))).set j (some (.d b))))
def kAsg (tg : Tg) (ρ : En) (d : PD) : Fl := match tg.put d ρ with
  | some ρ' => .nx ρ'
  | none => .no
def kFor (tg : Tg) (body : En → Fl) (ρ : En) (ds : List PD) : Fl := sForL tg body ds ρ
def kId (x : Fl) : Fl := x
section
variable {A B : Type} {f f1 f2 : En → R PD} {fl : En → R (List PD)} {t t1 t2 : En → R Bool} {g h : En → Fl} {ρ : En} {i j : Nat} {r : Fl} {d e : PD} {ds : List PD} {c : Str} {b : Bool}
theorem ev_seq : sSeq g h ρ = (g ρ).seq h := rfl
theorem seq_nx : (Fl.nx ρ).seq h = h ρ := rfl
theorem seq_rt : (Fl.rt d).seq h = .rt d := rfl
theorem seq_ex : (Fl.ex c ρ).seq h = .ex c ρ := rfl
theorem seq_bk : (Fl.bk ρ).seq h = .bk ρ := rfl
theorem seq_ct : (Fl.ct ρ).seq h = .ct ρ := rfl
theorem seq_ite {p : Prop} [Decidable p] {x y : Fl} : (if p then x else y).seq h = if p then x.seq h else y.seq h := by split <;> rfl
theorem fl_ok {a : A} {k : A → Fl} : (R.ok a).fl ρ k = k a := rfl
theorem fl_ex {k : A → Fl} : (R.ex c : R A).fl ρ k = .ex c ρ := rfl
theorem fl_ite {p : Prop} [Decidable p] {x y : R A} {k : A → Fl} : (if p then x else y).fl ρ k = if p then x.fl ρ k else y.fl ρ k := by split <;> rfl
theorem ev_set : sSet i f ρ = (f ρ).fl ρ (kSet i ρ) := rfl
theorem kSet_ev : kSet i ρ d = .nx (ρ.set i (some (.d d))) := rfl
theorem ev_ret : sRet f ρ = (f ρ).fl ρ Fl.rt := rfl
theorem ev_nx : sNx ρ = .nx ρ := rfl
theorem ev_raise : sRaise c ρ = .ex c ρ := rfl
theorem ev_if : sIf t g h ρ = (t ρ).fl ρ (kIf g h ρ) := rfl
theorem kIf_ev : kIf g h ρ b = if b = true then g ρ else h ρ := rfl
theorem ev_par : sPar i j f1 f2 ρ = (R.bind2 (kPar i j ρ) (f1 ρ) (f2 ρ)).fl ρ kId := by
  unfold sPar sE R.bind2 R.fl
  cases e1 : f1 ρ with
  | ok a => cases e2 : f2 ρ <;> simp only [e2] <;> rfl
  | ex c => rfl
  | no => rfl
theorem kPar_ev : kPar i j ρ d e = .ok (.nx ((ρ.set i (some (.d d))).set j (some (.d e)))) := rfl
theorem kId_ev : kId r = r := rfl
theorem ev_asg {tg : Tg} : sAsg tg f ρ = (f ρ).fl ρ (kAsg tg ρ) := rfl
theorem kAsg_ev {tg : Tg} : kAsg tg ρ d = match tg.put d ρ with
  | some ρ' => .nx ρ'
  | none => .no := rfl
theorem ev_for {it : En → R (List PD)} {tg : Tg} : sFor it tg g ρ = (it ρ).fl ρ (kFor tg g ρ) := rfl
theorem kFor_ev {tg : Tg} : kFor tg g ρ ds = sForL tg g ds ρ := rfl
/-! values -/
def dVg : Option (Option SV) → R PD
  | some (some (.d d)) => .ok d
  | _ => .no
theorem ev_V : dV i ρ = dVg ρ[i]? := rfl
theorem dVg_ok : dVg (some (some (.d d))) = .ok d := rfl
theorem ev_C : dC d ρ = .ok d := rfl
theorem ev_1 {g : PD → R PD} : d1 g f ρ = (f ρ).bind g := rfl
theorem ev_2 {g : PD → PD → R PD} : d2 g f1 f2 ρ = R.bind2 g (f1 ρ) (f2 ρ) := by
  unfold d2 R.bind2 R.bind
  cases f1 ρ with
  | ok a => cases f2 ρ <;> rfl
  | ex c => rfl
  | no => rfl
theorem bind2_ok {C : Type} {g : A → B → R C} {a : A} {b : B} : R.bind2 g (.ok a) (.ok b) = g a b := rfl
theorem bind2_ite1 {C : Type} {g : A → B → R C} {p : Prop} [Decidable p] {x y : R A} {z : R B} : R.bind2 g (if p then x else y) z = if p then R.bind2 g x z else R.bind2 g y z := by split <;> rfl
theorem bind2_ite2 {C : Type} {g : A → B → R C} {p : Prop} [Decidable p] {x y : R B} {a : A} : R.bind2 g (.ok a) (if p then x else y) = if p then R.bind2 g (.ok a) x else R.bind2 g (.ok a) y := by split <;> rfl
theorem bind_ite {C : Type} {g : A → R C} {p : Prop} [Decidable p] {x y : R A} : R.bind (if p then x else y) g = if p then x.bind g else y.bind g := by split <;> rfl
theorem ev_A {g : List PD → R PD} : dA g fl ρ = (fl ρ).bind g := rfl
theorem ev_nil : dNil ρ = .ok [] := rfl
def kCons (d : PD) (ds : List PD) : R (List PD) := .ok (d :: ds)
theorem ev_cons : dCons f fl ρ = R.bind2 kCons (f ρ) (fl ρ) := by
  unfold dCons R.bind2 R.bind kCons
  cases f ρ with
  | ok a => cases fl ρ <;> rfl
  | ex c => rfl
  | no => rfl
theorem kCons_ev : kCons d ds = .ok (d :: ds) := rfl
theorem ev_T : dT f ρ = (f ρ).bind toB := rfl
theorem toB_ev : toB (.bool b) = .ok b := rfl
def kAnd (t : En → R Bool) (ρ : En) (a : Bool) : R Bool := if a = true then t ρ else .ok false
def kOr (t : En → R Bool) (ρ : En) (a : Bool) : R Bool := if a = true then .ok true else t ρ
def kNot (a : Bool) : R Bool := .ok (!a)
theorem ev_and : dAnd t1 t2 ρ = (t1 ρ).bind (kAnd t2 ρ) := rfl
theorem ev_or : dOr t1 t2 ρ = (t1 ρ).bind (kOr t2 ρ) := rfl
theorem ev_not : dNot t ρ = (t ρ).bind kNot := rfl
theorem kAnd_ev : kAnd t ρ b = if b = true then t ρ else .ok false := rfl
theorem kOr_ev : kOr t ρ b = if b = true then .ok true else t ρ := rfl
theorem kNot_ev : kNot b = .ok (!b) := rfl
def kAndV (f : En → R PD) (ρ : En) (a : PD) : R PD := (toB a).bind fun c => if c = true then f ρ else .ok (.bool false)
def kNotV (a : PD) : R PD := (toB a).bind fun c => .ok (.bool (!c))
theorem ev_andV : dAndV f1 f2 ρ = (f1 ρ).bind (kAndV f2 ρ) := rfl
theorem ev_notV : dNotV f ρ = (f ρ).bind kNotV := rfl
theorem kAndV_ev : kAndV f ρ (.bool b) = if b = true then f ρ else .ok (.bool false) := rfl
theorem kNotV_ev : kNotV (.bool b) = .ok (.bool (!b)) := rfl
theorem tup_ev (h : ds.length ≤ 1000) : gTupD ds = .ok (.tuple ds) := if_pos h
theorem lst_ev (h : ds.length ≤ 1000) : gLstD ds = .ok (.list ds) := if_pos h
theorem call_ev {n : Nat} {es : List PD} {m : List PD → R PD} (h : (ds ++ es).length = n) : gCall n es m ds = m (ds ++ es) := if_pos h
/-! a def -/
def startE : Nat → List PD → En
  | 0, _ => []
  | m + 1, [] => none :: startE m []
  | m + 1, d :: ds => some (.d d) :: startE m ds
def Fl.fin : Fl → R PD
  | .rt d => .ok d
  | .nx _ => .ok .none
  | .ex c _ => .ex c
  | _ => .no
theorem startE_nil : ∀ m, startE m [] = List.replicate m none
  | 0 => rfl
  | m + 1 => by show none :: startE m [] = _; rw [startE_nil m]; rfl
theorem startE_eq : ∀ (m : Nat) (ds : List PD), ds.length ≤ m → ds.map (fun d => some (SV.d d)) ++ List.replicate (m - ds.length) none = startE m ds
  | m, [], _ => by rw [startE_nil]; simp
  | 0, _ :: _, h => by simp at h
  | m + 1, d :: ds, h => by
    show some (SV.d d) :: (ds.map (fun d => some (SV.d d)) ++ List.replicate (m + 1 - (ds.length + 1)) none) = some (.d d) :: startE m ds
    rw [← startE_eq m ds (by simpa using h)]
    congr 3
    omega
theorem ev_fn {m : Nat} {den : En → Fl} (h : ds.length ≤ m) : fnD m den ds = (den (startE m ds)).fin := by
  unfold fnD
  rw [startE_eq m ds h]
  rfl
theorem startE_0 {ds : List PD} : startE 0 ds = [] := by cases ds <;> rfl
theorem startE_s {m : Nat} : startE (m + 1) [] = none :: startE m [] := rfl
theorem startE_c {m : Nat} : startE (m + 1) (d :: ds) = some (.d d) :: startE m ds := rfl
theorem fin_rt : (Fl.rt d).fin = .ok d := rfl
theorem fin_nx : (Fl.nx ρ).fin = .ok .none := rfl
theorem fin_ex : (Fl.ex c ρ).fin = .ex c := rfl
theorem fin_ite {p : Prop} [Decidable p] {x y : Fl} : (if p then x else y).fin = if p then x.fin else y.fin := by split <;> rfl
/-! subscripts -/
theorem ix_t {k : Nat} (h : ds[k]? = some d) : gIx (.tuple ds) (.int (k : Int)) = .ok d := by
  unfold gIx atI
  have hk : k < ds.length := (List.getElem?_eq_some_iff.mp h).1
  have : ixN ds.length (k : Int) = some k := by
    unfold ixN
    rw [if_pos (by omega), if_pos (by omega)]
    rfl
  simp only [this, Option.bind_some, h]
theorem ix_l {k : Nat} (h : ds[k]? = some d) : gIx (.list ds) (.int (k : Int)) = .ok d := by
  unfold gIx atI
  have hk : k < ds.length := (List.getElem?_eq_some_iff.mp h).1
  have : ixN ds.length (k : Int) = some k := by
    unfold ixN
    rw [if_pos (by omega), if_pos (by omega)]
    rfl
  simp only [this, Option.bind_some, h]
variable {x0 x1 x2 x3 : PD}
theorem ix_t0 : gIx (.tuple (x0 :: ds)) (.int 0) = .ok x0 := ix_t (k := 0) rfl
theorem ix_t1 : gIx (.tuple (x0 :: x1 :: ds)) (.int 1) = .ok x1 := ix_t (k := 1) rfl
theorem ix_t2 : gIx (.tuple (x0 :: x1 :: x2 :: ds)) (.int 2) = .ok x2 := ix_t (k := 2) rfl
theorem ix_t3 : gIx (.tuple (x0 :: x1 :: x2 :: x3 :: ds)) (.int 3) = .ok x3 := ix_t (k := 3) rfl
theorem ix_l0 : gIx (.list (x0 :: ds)) (.int 0) = .ok x0 := ix_l (k := 0) rfl
theorem ix_l1 : gIx (.list (x0 :: x1 :: ds)) (.int 1) = .ok x1 := ix_l (k := 1) rfl
theorem ix_l2 : gIx (.list (x0 :: x1 :: x2 :: ds)) (.int 2) = .ok x2 := ix_l (k := 2) rfl
theorem ix_ints {zs : List Int} {k : Int} (h0 : 0 ≤ k) (h1 : k < zs.length) : gIx (.list (zs.map PyData.int)) (.int k) = .ok (.int (zs.getD k.toNat 0)) := by
  obtain ⟨n, rfl⟩ := Int.eq_ofNat_of_zero_le h0
  refine ix_l ?_
  have : n < zs.length := by omega
  rw [List.getElem?_map, List.getElem?_eq_getElem this]
  simp [this]
theorem len_l : gLen [.list ds] = .ok (.int ds.length) := rfl
/-! iteration -/
theorem ev_iL : iL f ρ = (f ρ).bind asL := rfl
theorem ev_iT : iT f ρ = (f ρ).bind asT := rfl
theorem asL_ev : asL (.list ds) = .ok ds := rfl
theorem asT_ev : asT (.tuple ds) = .ok ds := rfl
theorem ev_iA {g : List PD → R (List PD)} : iA g fl ρ = (fl ρ).bind g := rfl
theorem ev_P : dP f ρ = (f ρ).bind toI := rfl
theorem toI_ev {k : Int} : toI (.int k) = .ok (some k) := rfl
theorem ev_P0 : dP0 ρ = .ok none := rfl
def kSl (hi : R (Option Int)) (d : PD) (lo : Option Int) : R PD := hi.bind (gSl d lo)
theorem ev_sl {lo hi : En → R (Option Int)} : dSl f lo hi ρ = R.bind2 (kSl (hi ρ)) (f ρ) (lo ρ) := by
  unfold dSl R.bind2 kSl R.bind
  cases f ρ with
  | ok a => cases lo ρ <;> rfl
  | ex c => rfl
  | no => rfl
theorem kSl_ev {hi lo : Option Int} : kSl (.ok hi) d lo = gSl d lo hi := rfl
theorem sl_hi {k : Nat} : gSl (.list ds) none (some (k : Int)) = .ok (.list (ds.take k)) := by
  unfold gSl cutD
  have h1 : HT.sIx ds.length 0 none = 0 := rfl
  have h2 : HT.sIx ds.length ds.length (some (k : Int)) = min k ds.length := HT.sIx_nat _ _ _
  simp only [h1, h2, Nat.sub_zero, List.drop_zero]
  congr 2
  rw [List.take_eq_take_iff]
  omega
theorem sl_lo {k : Nat} : gSl (.list ds) (some (k : Int)) none = .ok (.list (ds.drop k)) := by
  unfold gSl cutD
  have h1 : HT.sIx ds.length ds.length none = ds.length := rfl
  have h2 : HT.sIx ds.length 0 (some (k : Int)) = min k ds.length := HT.sIx_nat _ _ _
  simp only [h1, h2]
  congr 2
  have : (ds.drop (min k ds.length)) = ds.drop k := by
    by_cases h : k ≤ ds.length
    · rw [Nat.min_eq_left h]
    · rw [Nat.min_eq_right (by omega), List.drop_length, List.drop_eq_nil_of_le (by omega)]
  rw [this]
  apply List.take_of_length_le
  rw [List.length_drop]
  omega
theorem sl_lohi {k l : Nat} : gSl (.list ds) (some (k : Int)) (some (l : Int)) = .ok (.list ((ds.take l).drop k)) := by
  unfold gSl cutD
  have h1 : HT.sIx ds.length ds.length (some (l : Int)) = min l ds.length := HT.sIx_nat _ _ _
  have h2 : HT.sIx ds.length 0 (some (k : Int)) = min k ds.length := HT.sIx_nat _ _ _
  simp only [h1, h2]
  congr 2
  rw [List.drop_take]
  by_cases h : k ≤ ds.length
  · rw [Nat.min_eq_left h]
    rw [List.take_eq_take_iff, List.length_drop]
    omega
  · have e : min k ds.length = ds.length := Nat.min_eq_right (by omega)
    rw [e, List.drop_length, List.drop_eq_nil_of_le (by omega)]
    simp
theorem put_1 : (Tg.one i).put d ρ = some (ρ.set i (some (.d d))) := rfl
/-! a while's turn -/
def Fl.turn (r : Fl) (g : En → Fl) : Fl := match r with
  | .nx ρ => g ρ
  | .ct ρ => g ρ
  | .bk ρ => .nx ρ
  | r => r
noncomputable def kWh (t : En → R Bool) (g : En → Fl) (ρ : En) (b : Bool) : Fl := if b = true then (g ρ).turn (sWhile t g) else .nx ρ
theorem ev_while : sWhile t g ρ = (t ρ).fl ρ (kWh t g ρ) := by
  rw [sWhile_eq]
  unfold sE R.fl kWh Fl.turn
  cases t ρ with
  | ok b => cases b <;> simp only [if_true, if_false, Bool.false_eq_true] <;> cases g ρ <;> rfl
  | ex c => rfl
  | no => rfl
theorem kWh_ev : kWh t g ρ b = if b = true then (g ρ).turn (sWhile t g) else .nx ρ := rfl
theorem turn_nx : (Fl.nx ρ).turn h = h ρ := rfl
theorem turn_ct : (Fl.ct ρ).turn h = h ρ := rfl
theorem turn_bk : (Fl.bk ρ).turn h = .nx ρ := rfl
theorem turn_rt : (Fl.rt d).turn h = .rt d := rfl
theorem turn_ite {p : Prop} [Decidable p] {x y : Fl} : (if p then x else y).turn h = if p then x.turn h else y.turn h := by split <;> rfl
/-! kinds -/
theorem isi_ev {T : String} {b : Bool} (h : kitB (tyD d) T = some b) (hx : isExc d = false := by rfl) : gIsi T d = .ok (.bool b) := by
  unfold gIsi
  rw [if_neg (by rw [hx]; exact Bool.false_ne_true), h]
theorem isi_int_int {z : Int} : gIsi "int" (.int z) = .ok (.bool true) := isi_ev (by show kitB "int" "int" = some true; decide +kernel)
theorem isi_bool_int {z : Int} : gIsi "bool" (.int z) = .ok (.bool false) := isi_ev (by show kitB "int" "bool" = some false; decide +kernel)
theorem isi_int_bool : gIsi "int" (.bool b) = .ok (.bool true) := isi_ev (by show kitB "bool" "int" = some true; decide +kernel)
theorem isi_bool_bool : gIsi "bool" (.bool b) = .ok (.bool true) := isi_ev (by show kitB "bool" "bool" = some true; decide +kernel)
theorem isi_int_str {z : Str} : gIsi "int" (.str z) = .ok (.bool false) := isi_ev (by show kitB "str" "int" = some false; decide +kernel)
theorem isi_int_none : gIsi "int" .none = .ok (.bool false) := isi_ev (by show kitB "NoneType" "int" = some false; decide +kernel)
theorem isi_int_list : gIsi "int" (.list ds) = .ok (.bool false) := isi_ev (by show kitB "list" "int" = some false; decide +kernel)
theorem isi_int_tup : gIsi "int" (.tuple ds) = .ok (.bool false) := isi_ev (by show kitB "tuple" "int" = some false; decide +kernel)
theorem isi_bool_str {z : Str} : gIsi "bool" (.str z) = .ok (.bool false) := isi_ev (by show kitB "str" "bool" = some false; decide +kernel)
theorem isi_bool_none : gIsi "bool" .none = .ok (.bool false) := isi_ev (by show kitB "NoneType" "bool" = some false; decide +kernel)
theorem isi_bool_list : gIsi "bool" (.list ds) = .ok (.bool false) := isi_ev (by show kitB "list" "bool" = some false; decide +kernel)
theorem isi_bool_tup : gIsi "bool" (.tuple ds) = .ok (.bool false) := isi_ev (by show kitB "tuple" "bool" = some false; decide +kernel)
theorem isi_tup_tup : gIsi "tuple" (.tuple ds) = .ok (.bool true) := isi_ev (by show kitB "tuple" "tuple" = some true; decide +kernel)
theorem isi_tup_int {z : Int} : gIsi "tuple" (.int z) = .ok (.bool false) := isi_ev (by show kitB "int" "tuple" = some false; decide +kernel)
theorem isi_tup_bool : gIsi "tuple" (.bool b) = .ok (.bool false) := isi_ev (by show kitB "bool" "tuple" = some false; decide +kernel)
theorem isi_tup_str {z : Str} : gIsi "tuple" (.str z) = .ok (.bool false) := isi_ev (by show kitB "str" "tuple" = some false; decide +kernel)
theorem isi_tup_none : gIsi "tuple" .none = .ok (.bool false) := isi_ev (by show kitB "NoneType" "tuple" = some false; decide +kernel)
theorem isi_tup_list : gIsi "tuple" (.list ds) = .ok (.bool false) := isi_ev (by show kitB "list" "tuple" = some false; decide +kernel)
theorem isi_list_list : gIsi "list" (.list ds) = .ok (.bool true) := isi_ev (by show kitB "list" "list" = some true; decide +kernel)
theorem isi_list_tup : gIsi "list" (.tuple ds) = .ok (.bool false) := isi_ev (by show kitB "tuple" "list" = some false; decide +kernel)
theorem isi_list_int {z : Int} : gIsi "list" (.int z) = .ok (.bool false) := isi_ev (by show kitB "int" "list" = some false; decide +kernel)
theorem isi_list_bool : gIsi "list" (.bool b) = .ok (.bool false) := isi_ev (by show kitB "bool" "list" = some false; decide +kernel)
theorem isi_list_str {z : Str} : gIsi "list" (.str z) = .ok (.bool false) := isi_ev (by show kitB "str" "list" = some false; decide +kernel)
theorem isi_list_none : gIsi "list" .none = .ok (.bool false) := isi_ev (by show kitB "NoneType" "list" = some false; decide +kernel)
theorem isi_str_str {z : Str} : gIsi "str" (.str z) = .ok (.bool true) := isi_ev (by show kitB "str" "str" = some true; decide +kernel)
theorem isi_str_int {z : Int} : gIsi "str" (.int z) = .ok (.bool false) := isi_ev (by show kitB "int" "str" = some false; decide +kernel)
theorem isi_str_bool : gIsi "str" (.bool b) = .ok (.bool false) := isi_ev (by show kitB "bool" "str" = some false; decide +kernel)
theorem isi_str_none : gIsi "str" .none = .ok (.bool false) := isi_ev (by show kitB "NoneType" "str" = some false; decide +kernel)
theorem isi_str_list : gIsi "str" (.list ds) = .ok (.bool false) := isi_ev (by show kitB "list" "str" = some false; decide +kernel)
theorem isi_str_tup : gIsi "str" (.tuple ds) = .ok (.bool false) := isi_ev (by show kitB "tuple" "str" = some false; decide +kernel)
/-! loops whose turns leave the first slots as they are -/
end
instance nz_pow {i : Int} {k : Nat} [h : NZ i] : NZ (i ^ k) := ⟨Int.pow_ne_zero h.h⟩
/-! equality of plain data -/
mutual
def plain : PD → Bool
  | .int _ => true
  | .str _ => true
  | .list xs => plainA xs
  | .tuple xs => plainA xs
  | _ => false
def plainA : List PD → Bool
  | [] => true
  | x :: xs => plain x && plainA xs
end
mutual
theorem eqv_plain : ∀ (d e : PD), plain d = true → plain e = true → (PyData.eqv d e = true ↔ d = e)
  | .int i, .int j, _, _ => by simp [PyData.eqv]
  | .str i, .str j, _, _ => by simp [PyData.eqv]
  | .list xs, .list ys, h, g => by
    have := eqvA_plain xs ys (by simpa [plain] using h) (by simpa [plain] using g)
    simp [PyData.eqv, this]
  | .tuple xs, .tuple ys, h, g => by
    have := eqvA_plain xs ys (by simpa [plain] using h) (by simpa [plain] using g)
    simp [PyData.eqv, this]
  | .int _, .str _, _, _ => by simp [PyData.eqv]
  | .int _, .list _, _, _ => by simp [PyData.eqv]
  | .int _, .tuple _, _, _ => by simp [PyData.eqv]
  | .str _, .int _, _, _ => by simp [PyData.eqv]
  | .str _, .list _, _, _ => by simp [PyData.eqv]
  | .str _, .tuple _, _, _ => by simp [PyData.eqv]
  | .list _, .int _, _, _ => by simp [PyData.eqv]
  | .list _, .str _, _, _ => by simp [PyData.eqv]
  | .list _, .tuple _, _, _ => by simp [PyData.eqv]
  | .tuple _, .int _, _, _ => by simp [PyData.eqv]
  | .tuple _, .str _, _, _ => by simp [PyData.eqv]
  | .tuple _, .list _, _, _ => by simp [PyData.eqv]
  | .none, _, h, _ => by simp [plain] at h
  | .bool _, _, h, _ => by simp [plain] at h
  | .dict _, _, h, _ => by simp [plain] at h
  | .int _, .none, _, g => by simp [plain] at g
  | .int _, .bool _, _, g => by simp [plain] at g
  | .int _, .dict _, _, g => by simp [plain] at g
  | .str _, .none, _, g => by simp [plain] at g
  | .str _, .bool _, _, g => by simp [plain] at g
  | .str _, .dict _, _, g => by simp [plain] at g
  | .list _, .none, _, g => by simp [plain] at g
  | .list _, .bool _, _, g => by simp [plain] at g
  | .list _, .dict _, _, g => by simp [plain] at g
  | .tuple _, .none, _, g => by simp [plain] at g
  | .tuple _, .bool _, _, g => by simp [plain] at g
  | .tuple _, .dict _, _, g => by simp [plain] at g
theorem eqvA_plain : ∀ (xs ys : List PD), plainA xs = true → plainA ys = true → (PyData.eqvAll xs ys = true ↔ xs = ys)
  | [], [], _, _ => by simp [PyData.eqvAll]
  | x :: xs, y :: ys, h, g => by
    have h1 : plain x = true ∧ plainA xs = true := by simpa [plainA] using h
    have g1 : plain y = true ∧ plainA ys = true := by simpa [plainA] using g
    simp [PyData.eqvAll, eqv_plain x y h1.1 g1.1, eqvA_plain xs ys h1.2 g1.2]
  | [], _ :: _, _, _ => by simp [PyData.eqvAll]
  | _ :: _, [], _, _ => by simp [PyData.eqvAll]
end
theorem gEq_t {xs ys : List PD} {b : Bool} (h1 : SeqAt.shaped (.tuple xs) = true) (h2 : SeqAt.shaped (.tuple ys) = true) (h3 : PyData.eqv (.tuple xs) (.tuple ys) = b) : gEq (.tuple xs) (.tuple ys) = .ok (.bool b) := by
  subst h3
  exact if_pos ⟨h1, h2⟩
theorem gNe_t {xs ys : List PD} {b : Bool} (h1 : SeqAt.shaped (.tuple xs) = true) (h2 : SeqAt.shaped (.tuple ys) = true) (h3 : PyData.eqv (.tuple xs) (.tuple ys) = b) : gNe (.tuple xs) (.tuple ys) = .ok (.bool (!b)) := by
  subst h3
  exact if_pos ⟨h1, h2⟩
theorem gEq_l {xs ys : List PD} {b : Bool} (h1 : SeqAt.shaped (.list xs) = true) (h2 : SeqAt.shaped (.list ys) = true) (h3 : PyData.eqv (.list xs) (.list ys) = b) : gEq (.list xs) (.list ys) = .ok (.bool b) := by
  subst h3
  exact if_pos ⟨h1, h2⟩
theorem gNe_l {xs ys : List PD} {b : Bool} (h1 : SeqAt.shaped (.list xs) = true) (h2 : SeqAt.shaped (.list ys) = true) (h3 : PyData.eqv (.list xs) (.list ys) = b) : gNe (.list xs) (.list ys) = .ok (.bool (!b)) := by
  subst h3
  exact if_pos ⟨h1, h2⟩
section
variable {a b c a' b' c' : Int}
theorem sh2 : SeqAt.shaped (.tuple [.int a, .int b]) = true := rfl
theorem sh3 : SeqAt.shaped (.tuple [.int a, .int b, .int c]) = true := rfl
theorem gEq_2 : gEq (.tuple [.int a, .int b]) (.tuple [.int a', .int b']) = .ok (.bool (decide (a = a' ∧ b = b'))) := gEq_t sh2 sh2 (by simp only [PyData.eqv, PyData.eqvAll, Bool.decide_and, Bool.and_true]; rfl)
theorem gNe_2 : gNe (.tuple [.int a, .int b]) (.tuple [.int a', .int b']) = .ok (.bool (!decide (a = a' ∧ b = b'))) := gNe_t sh2 sh2 (by simp only [PyData.eqv, PyData.eqvAll, Bool.decide_and, Bool.and_true]; rfl)
theorem gEq_3 : gEq (.tuple [.int a, .int b, .int c]) (.tuple [.int a', .int b', .int c']) = .ok (.bool (decide (a = a' ∧ b = b' ∧ c = c'))) := gEq_t sh3 sh3 (by simp only [PyData.eqv, PyData.eqvAll, Bool.decide_and, Bool.and_true]; rfl)
theorem gNe_3 : gNe (.tuple [.int a, .int b, .int c]) (.tuple [.int a', .int b', .int c']) = .ok (.bool (!decide (a = a' ∧ b = b' ∧ c = c'))) := gNe_t sh3 sh3 (by simp only [PyData.eqv, PyData.eqvAll, Bool.decide_and, Bool.and_true]; rfl)
end
/-! ### lists of one's own, loops, comprehensions -/
def kSetL (i : Nat) (ρ : En) (ds : List PD) : Fl := .nx (ρ.set i (some (.l ds)))
def kDisp (ds : List PD) : R (List PD) := if ds.length ≤ 1000 then .ok ds else .no
def kFrz (i : Nat) (g : En → Fl) (ρ : En) : Option (Option SV) → Fl
  | some (some (.l xs)) => g (ρ.set i (some (.d (.list xs))))
  | _ => g ρ
def kLend (i : Nat) (f : En → R PD) (ρ : En) : Option (Option SV) → R PD
  | some (some (.l xs)) => (f (ρ.set i (some (.d (.list xs))))).bind atomD
  | _ => f ρ
def kLendB (i : Nat) (f : En → R Bool) (ρ : En) : Option (Option SV) → R Bool
  | some (some (.l xs)) => f (ρ.set i (some (.d (.list xs))))
  | _ => f ρ
def kApp (i : Nat) (xs : List PD) (ρ : En) (d : PD) : Fl := if xs.length < 16777216 then .nx (ρ.set i (some (.l (xs ++ [d])))) else .no
def kAppO (i : Nat) (f : En → R PD) (ρ : En) : Option (Option SV) → Fl
  | some (some (.l xs)) => (f ρ).fl ρ (kApp i xs ρ)
  | _ => .no
def kPut2 (i : Nat) (xs : List PD) (ρ : En) (d k : PD) : R Fl := match k with
  | .int z => (match ixN xs.length z with
    | some j => .ok (.nx (ρ.set i (some (.l (xs.set j d)))))
    | none => .no)
  | _ => .no
def kPutO (i : Nat) (fk fe : En → R PD) (ρ : En) : Option (Option SV) → Fl
  | some (some (.l xs)) => (R.bind2 (kPut2 i xs ρ) (fe ρ) (fk ρ)).fl ρ kId
  | _ => .no
def kIxO (f : En → R PD) (ρ : En) : Option (Option SV) → R PD
  | some (some (.l xs)) => (f ρ).bind (gIx (.list xs))
  | some (some (.d d)) => (f ρ).bind (gIx d)
  | _ => .no
def kLst (ds : List PD) : R PD := .ok (.list ds)
def kLcL (tg : Tg) (vs : List Nat) (tt : En → R Bool) (te : En → R PD) (ρ : En) (ds : List PD) : R (List PD) := if ds.length ≤ 1000000 then lcL tg tt te (wipeE ρ vs) ds else .no
section
variable {f fk fe : En → R PD} {fl : En → R (List PD)} {t : En → R Bool} {g : En → Fl} {ρ ρ1 : En} {i : Nat} {d e : PD} {ds xs : List PD} {x : PD}
theorem ev_setL : sSetL i fl ρ = (fl ρ).fl ρ (kSetL i ρ) := rfl
theorem kSetL_ev : kSetL i ρ ds = .nx (ρ.set i (some (.l ds))) := rfl
theorem ev_lDisp : lDisp fl ρ = (fl ρ).bind kDisp := rfl
theorem kDisp_ev (h : ds.length ≤ 1000) : kDisp ds = .ok ds := if_pos h
theorem ev_lList : lList f ρ = (f ρ).bind lOf := rfl
theorem lOf_l : lOf (.list ds) = .ok ds := rfl
theorem lOf_t : lOf (.tuple ds) = .ok ds := rfl
theorem ev_frz : sFrz i g ρ = kFrz i g ρ ρ[i]? := by
  unfold sFrz kFrz
  cases h : ρ[i]? with
  | none => rfl
  | some o =>
    cases o with
    | none => rfl
    | some v => cases v <;> rfl
theorem frz_l : kFrz i g ρ (some (some (.l xs))) = g (ρ.set i (some (.d (.list xs)))) := rfl
theorem frz_d : kFrz i g ρ (some (some (.d x))) = g ρ := rfl
theorem frz_n : kFrz i g ρ (some none) = g ρ := rfl
theorem ev_lend : dLend i f ρ = kLend i f ρ ρ[i]? := by
  unfold dLend kLend
  cases h : ρ[i]? with
  | none => rfl
  | some o =>
    cases o with
    | none => rfl
    | some v => cases v <;> rfl
theorem lend_l : kLend i f ρ (some (some (.l xs))) = (f (ρ.set i (some (.d (.list xs))))).bind atomD := rfl
theorem lend_d : kLend i f ρ (some (some (.d x))) = f ρ := rfl
theorem atom_i {z : Int} : atomD (.int z) = .ok (.int z) := rfl
theorem atom_b {z : Bool} : atomD (.bool z) = .ok (.bool z) := rfl
theorem atom_s {z : Str} : atomD (.str z) = .ok (.str z) := rfl
theorem ev_lendB : dLendB i t ρ = kLendB i t ρ ρ[i]? := by
  unfold dLendB kLendB
  cases h : ρ[i]? with
  | none => rfl
  | some o =>
    cases o with
    | none => rfl
    | some v => cases v <;> rfl
theorem lendB_l : kLendB i t ρ (some (some (.l xs))) = t (ρ.set i (some (.d (.list xs)))) := rfl
theorem lendB_d : kLendB i t ρ (some (some (.d x))) = t ρ := rfl
theorem ev_app : sApp i f ρ = kAppO i f ρ ρ[i]? := by
  unfold sApp kAppO
  cases h : ρ[i]? with
  | none => rfl
  | some o =>
    cases o with
    | none => rfl
    | some v => cases v <;> rfl
theorem app_l : kAppO i f ρ (some (some (.l xs))) = (f ρ).fl ρ (kApp i xs ρ) := rfl
theorem kApp_ev (h : xs.length < 16777216) : kApp i xs ρ d = .nx (ρ.set i (some (.l (xs ++ [d])))) := if_pos h
theorem ev_put : sPut i fk fe ρ = kPutO i fk fe ρ ρ[i]? := by
  unfold sPut kPutO
  cases h : ρ[i]? with
  | none => rfl
  | some o =>
    cases o with
    | none => rfl
    | some v =>
      cases v with
      | d x => rfl
      | k x => rfl
      | ll x => rfl
      | o c x => rfl
      | me c x => rfl
      | ro c x => rfl
      | tp x => rfl
      | pl x => rfl
      | l xs =>
        show sE fe _ ρ = (R.bind2 (kPut2 i xs ρ) (fe ρ) (fk ρ)).fl ρ kId
        unfold sE R.bind2 R.fl kPut2
        cases h1 : fe ρ with
        | ok a =>
          cases h2 : fk ρ with
          | ok b =>
            simp only [h2]
            cases b with
            | int z =>
              show _ = _
              cases hj : ixN xs.length z with
              | none => simp only [hj]
              | some j => simp only [hj]; rfl
            | _ => rfl
          | ex c => simp only [h2]
          | no => simp only [h2]
        | ex c => rfl
        | no => rfl
theorem put_l : kPutO i fk fe ρ (some (some (.l xs))) = (R.bind2 (kPut2 i xs ρ) (fe ρ) (fk ρ)).fl ρ kId := rfl
theorem ev_ixO : dIxO i f ρ = kIxO f ρ ρ[i]? := by
  unfold dIxO kIxO
  cases h : ρ[i]? with
  | none => rfl
  | some o =>
    cases o with
    | none => rfl
    | some v =>
      cases v with
      | d x => rfl
      | k x => rfl
      | ll x => rfl
      | o c x => rfl
      | me c x => rfl
      | ro c x => rfl
      | tp x => rfl
      | pl x => rfl
      | l xs =>
        show R.bind (f ρ) _ = R.bind (f ρ) _
        congr 1
        funext d
        cases d <;> rfl
theorem ixO_l : kIxO f ρ (some (some (.l xs))) = (f ρ).bind (gIx (.list xs)) := rfl
theorem ixO_d : kIxO f ρ (some (some (.d x))) = (f ρ).bind (gIx x) := rfl
theorem forL_nil {tg : Tg} : sForL tg g [] ρ = .nx ρ := rfl
theorem forL_1 : sForL (.one i) g (d :: ds) ρ = (g (ρ.set i (some (.d d)))).turn (sForL (.one i) g ds) := by
  rw [sForL]
  show (match g (ρ.set i (some (.d d))) with
      | .nx ρ2 => sForL (.one i) g ds ρ2
      | .ct ρ2 => sForL (.one i) g ds ρ2
      | .bk ρ2 => .nx ρ2
      | r => r) = _
  unfold Fl.turn
  cases g (ρ.set i (some (.d d))) <;> rfl
theorem forL_m {is : List Nat} (h : xs.length = is.length) : sForL (.many is) g (.tuple xs :: ds) ρ = (g (putAll is xs ρ)).turn (sForL (.many is) g ds) := by
  rw [sForL]
  have : Tg.put (.many is) (.tuple xs) ρ = some (putAll is xs ρ) := if_pos h
  rw [this]
  show (match g (putAll is xs ρ) with
      | .nx ρ2 => sForL (.many is) g ds ρ2
      | .ct ρ2 => sForL (.many is) g ds ρ2
      | .bk ρ2 => .nx ρ2
      | r => r) = _
  unfold Fl.turn
  cases g (putAll is xs ρ) <;> rfl
theorem put_m {is : List Nat} (h : xs.length = is.length) : Tg.put (.many is) (.tuple xs) ρ = some (putAll is xs ρ) := if_pos h
theorem putAll_c {is : List Nat} : putAll (i :: is) (d :: ds) ρ = putAll is ds (ρ.set i (some (.d d))) := rfl
theorem putAll_n : putAll [] ds ρ = ρ := by cases ds <;> rfl
theorem ev_lc {it : En → R (List PD)} {tg : Tg} {vs : List Nat} : dLc it tg vs t f ρ = (dLcL it tg vs t f ρ).bind kLst := rfl
theorem kLst_ev : kLst ds = .ok (.list ds) := rfl
theorem ev_lcL {it : En → R (List PD)} {tg : Tg} {vs : List Nat} : dLcL it tg vs t f ρ = (it ρ).bind (kLcL tg vs t f ρ) := rfl
theorem kLcL_ev {tg : Tg} {vs : List Nat} (h : ds.length ≤ 1000000) : kLcL tg vs t f ρ ds = lcL tg t f (wipeE ρ vs) ds := if_pos h
theorem wipe_n : wipeE ρ [] = ρ := rfl
theorem wipe_c {vs : List Nat} : wipeE ρ (i :: vs) = (wipeE ρ vs).set i none := rfl
end
theorem r1_2 : gR1 [.int 2] = .ok [.int 0, .int 1] := rfl
theorem r1_3 : gR1 [.int 3] = .ok [.int 0, .int 1, .int 2] := rfl
theorem bits_ev {z : Int} : gm_bit_length (.int z) = .ok (.int (Builtin.Int.intBits z : Nat)) := rfl
section
variable {a b c d a' b' c' d' : Int}
theorem gEq_22 : gEq (.tuple [.tuple [.int a, .int b], .tuple [.int c, .int d]]) (.tuple [.tuple [.int a', .int b'], .tuple [.int c', .int d']]) = .ok (.bool (decide ((a = a' ∧ b = b') ∧ c = c' ∧ d = d'))) :=
  gEq_t rfl rfl (by simp only [PyData.eqv, PyData.eqvAll, Bool.decide_and, Bool.and_true]; rfl)
theorem gNe_22 : gNe (.tuple [.tuple [.int a, .int b], .tuple [.int c, .int d]]) (.tuple [.tuple [.int a', .int b'], .tuple [.int c', .int d']]) = .ok (.bool (!decide ((a = a' ∧ b = b') ∧ c = c' ∧ d = d'))) :=
  gNe_t rfl rfl (by simp only [PyData.eqv, PyData.eqvAll, Bool.decide_and, Bool.and_true]; rfl)
end
section
variable {a b c d e : PD}
theorem len_t2 : gLen [.tuple [a, b]] = .ok (.int 2) := rfl
theorem len_t3 : gLen [.tuple [a, b, c]] = .ok (.int 3) := rfl
theorem len_t1 : gLen [.tuple [a]] = .ok (.int 1) := rfl
theorem len_t4 : gLen [.tuple [a, b, c, d]] = .ok (.int 4) := rfl
end
/-! in, of numbers -/
theorem eqvI_any {d : Int} : ∀ zs : List Int, ((zs.map PyData.int).any fun y => PyData.eqv y (.int d)) = zs.any fun y => y == d
  | [] => rfl
  | z :: zs => by
    show (PyData.eqv (.int z) (.int d) || (zs.map PyData.int).any fun y => PyData.eqv y (.int d)) = (z == d || zs.any fun y => y == d)
    rw [eqvI_any zs]
    rfl
theorem flatI_all : ∀ zs : List Int, (zs.map PyData.int).all flatD = true
  | [] => rfl
  | z :: zs => flatI_all zs
theorem in_l {d : Int} {zs : List Int} {neg : Bool} : gIn neg (.int d) (.list (zs.map PyData.int)) = .ok (.bool ((zs.any fun y => y == d) != neg)) := by
  have : inL (.int d) (zs.map PyData.int) = .ok (zs.any fun y => y == d) := by
    unfold inL
    rw [if_pos ⟨rfl, flatI_all zs⟩, eqvI_any]
  show (inL (.int d) (zs.map PyData.int)).bind _ = _
  rw [this]
  rfl
/-- the ninety roots -/
def rootsL : List Int := ((List.range 98).map fun i => (2 : Int) + (i : Nat)).filter fun d => !([4, 9, 16, 25, 36, 49, 64, 81].any fun y => y == d)
end DL

set_option Elab.async false
set_option linter.all false
set_option maxRecDepth 100000
set_option maxHeartbeats 4000000
set_option autoImplicit false
/-! reckoning: dicts, objects, what is new -/
namespace DL
open PySem L2
section
variable {ρ : En} {f fk fe : En → R PD} {fa : En → R (List PD)} {fv : En → R SV} {h g : En → Fl} {d e : PD} {ds xs : List PD} {i j : Nat} {c m : Str} {fs : Fs} {x : SV} {mm : Kv}
/-! flow -/
theorem bind_okM {A B : Type} {a : A} {k : A → R B} : (R.ok a).bind k = k a := by rw [R.bind_ok]
theorem ev_iAM {gg : List PD → R (List PD)} : iA gg fa ρ = (fa ρ).bind gg := by rw [ev_iA]
theorem ev_forM {it : En → R (List PD)} {tg : Tg} : sFor it tg g ρ = (it ρ).fl ρ (kFor tg g ρ) := by rw [ev_for]
theorem fl_okM {A : Type} {a : A} {k : A → Fl} : (R.ok a).fl ρ k = k a := by rw [fl_ok]
theorem seq_rm : (Fl.rm d ρ).seq h = .rm d ρ := rfl
theorem seq_rv : (Fl.rv x).seq h = .rv x := rfl
theorem turn_rm : (Fl.rm d ρ).turn h = .rm d ρ := rfl
theorem turn_rv : (Fl.rv x).turn h = .rv x := rfl
theorem turn_ex {cc : Str} : (Fl.ex cc ρ).turn h = .ex cc ρ := rfl
theorem ev_retV : sRetV fv ρ = (fv ρ).fl ρ Fl.rv := rfl
def kVL (xs : List PD) : R SV := .ok (.l xs)
theorem ev_vL : vL fa ρ = (fa ρ).bind kVL := rfl
theorem kVL_ev : kVL xs = .ok (.l xs) := rfl
theorem frzV_l : frzV (.l xs) = .ok (.list xs) := rfl
def kSetV (i : Nat) (ρ : En) (x : SV) : Fl := if notMe x = true then .nx (ρ.set i (some x)) else .no
theorem ev_setV : sSetV i fv ρ = (fv ρ).fl ρ (kSetV i ρ) := rfl
theorem kSetV_l : kSetV i ρ (.l xs) = .nx (ρ.set i (some (.l xs))) := rfl
theorem kSetV_o : kSetV i ρ (.o c fs) = .nx (ρ.set i (some (.o c fs))) := rfl
/-! dicts -/
/-! objects' fields -/
def oPutO (ρ : En) (i : Nat) (o : Option (Option SV)) (fs : Fs) : En := match o with
  | some (some (.o c _)) => ρ.set i (some (.o c fs))
  | some (some (.me c _)) => ρ.set i (some (.me c fs))
  | _ => ρ
theorem oPut_ev : oPut ρ i fs = oPutO ρ i ρ[i]? fs := rfl
theorem oPutO_o {fs' : Fs} : oPutO ρ i (some (some (.o c fs))) fs' = ρ.set i (some (.o c fs')) := rfl
theorem oPutO_me {fs' : Fs} : oPutO ρ i (some (some (.me c fs))) fs' = ρ.set i (some (.me c fs')) := rfl
theorem oOwn_o : oOwn (some (some (.o c fs))) = some (c, fs) := rfl
theorem oOwn_me : oOwn (some (some (.me c fs))) = some (c, fs) := rfl
theorem fOwn_ev {f : Str} {y : FV} (h : fGet f fs = some y) : fOwn c f (some (c, fs)) = some (y, fs) := by
  unfold fOwn
  simp only [h, if_true, Option.map_some]
/-! methods -/
theorem gCallV_ev {n : Nat} {g : List PD → R SV} (h : (xs ++ ds).length = n) : gCallV n ds g xs = g (xs ++ ds) := if_pos h
theorem ev_AV {g : List PD → R SV} : dAV g fa ρ = (fa ρ).bind g := rfl
/-! defs that are handed an object -/
/-! defs -/
def Fl.finV : Fl → R SV
  | .rv x => .ok x
  | .ex cc _ => .ex cc
  | _ => .no
theorem ev_fnV {n : Nat} {den : En → Fl} (h : ds.length ≤ n) : fnV n den ds = (den (startE n ds)).finV := by
  unfold fnV stE
  rw [startE_eq n ds h]
  rfl
theorem finV_rv : (Fl.rv x).finV = .ok x := rfl
/-! a list that stands still; clear; made and dropped -/
def kClr (i : Nat) (ρ : En) : Option (Option SV) → Fl
  | some (some (.l _)) => .nx (ρ.set i (some (.l [])))
  | _ => .no
theorem ev_clr : sClr i ρ = kClr i ρ ρ[i]? := by
  unfold sClr kClr
  cases ρ[i]? with
  | none => rfl
  | some o =>
    cases o with
    | none => rfl
    | some v => cases v <;> rfl
theorem kClr_l : kClr i ρ (some (some (.l xs))) = .nx (ρ.set i (some (.l []))) := rfl
def kVLend (f : En → R SV) (ρ : En) (i : Nat) : Option (Option SV) → R SV
  | some (some (.l xs)) => (f (ρ.set i (some (.d (.list xs))))).bind cleanV
  | _ => f ρ
theorem ev_vlend {f : En → R SV} : vLend i f ρ = kVLend f ρ i ρ[i]? := by
  unfold vLend kVLend
  cases ρ[i]? with
  | none => rfl
  | some o =>
    cases o with
    | none => rfl
    | some v => cases v <;> rfl
theorem kVLend_l {f : En → R SV} : kVLend f ρ i (some (some (.l xs))) = (f (ρ.set i (some (.d (.list xs))))).bind cleanV := rfl
theorem cleanV_ev (h : noLstV x = true) : cleanV x = .ok x := if_pos h
/-! DL18 -/
theorem sv_d : TP.sv (.d d) = .d d := rfl
theorem sv_l : TP.sv (.l xs) = .l xs := rfl
theorem sv_o : TP.sv (.o c fs) = .o c fs := rfl
theorem tpD_d {ps : List TP} : tpD (.d d :: ps) = d :: tpD ps := rfl
theorem tpD_l {ps : List TP} : tpD (.l xs :: ps) = .list xs :: tpD ps := rfl
theorem tpD_n : tpD [] = [] := rfl
/-! DL19 -/
end
end DL

set_option Elab.async false
set_option linter.all false
set_option maxRecDepth 100000
set_option maxHeartbeats 4000000
set_option autoImplicit false
namespace DL
open PySem L2
noncomputable def den_is_whole : En → Fl := sRet (dAndV (d1 (gIsi "int") (dV 0)) (dNotV (d1 (gIsi "bool") (dV 0))))
noncomputable def m_is_whole : List PD → R PD := fnD 1 den_is_whole
theorem mm_is_whole : m_is_whole = fnD 1 den_is_whole := rfl
noncomputable def lt1_divisor : En → R Bool := dT (d2 gNe (dV 1) (dC (.int 0)))
noncomputable def lb1_divisor : En → Fl := sPar 0 1 (dV 1) (d2 gMod (dV 0) (dV 1))
noncomputable def den_divisor : En → Fl := sSeq (sWhile lt1_divisor lb1_divisor) (sRet (dA gAbs (dCons (dV 0) (dNil))))
noncomputable def m_divisor : List PD → R PD := fnD 2 den_divisor
theorem mm_divisor : m_divisor = fnD 2 den_divisor := rfl
noncomputable def den_lowest : En → Fl := sSeq (sSet 3 (dA (gCall 2 [] m_divisor) (dCons (dA (gCall 2 [] m_divisor) (dCons (dV 0) (dCons (dV 1) (dNil)))) (dCons (dV 2) (dNil))))) (sSeq (sIf (dT (d2 gLt (dV 2) (dC (.int 0)))) (sSet 3 (d2 gSub (dC (.int 0)) (dV 3))) (sNx)) (sRet (dA gTupD (dCons (d2 gDiv (dV 0) (dV 3)) (dCons (d2 gDiv (dV 1) (dV 3)) (dCons (d2 gDiv (dV 2) (dV 3)) (dNil)))))))
noncomputable def m_lowest : List PD → R PD := fnD 4 den_lowest
theorem mm_lowest : m_lowest = fnD 4 den_lowest := rfl
noncomputable def den_length : En → Fl := sSeq (sIf (dOr (dNot (dT (dA (gCall 1 [] m_is_whole) (dCons (dV 0) (dNil))))) (dOr (dNot (dT (dA (gCall 1 [] m_is_whole) (dCons (dV 1) (dNil))))) (dOr (dNot (dT (dA (gCall 1 [] m_is_whole) (dCons (dV 2) (dNil))))) (dT (d2 gEq (dV 2) (dC (.int 0))))))) (sRaise "NoLength") (sNx)) (sRet (dA (gCall 3 [] m_lowest) (dCons (dV 0) (dCons (dV 1) (dCons (dV 2) (dNil))))))
noncomputable def m_length : List PD → R PD := fnD 3 den_length
theorem mm_length : m_length = fnD 3 den_length := rfl
noncomputable def den_added : En → Fl := sSeq (sSet 2 (d2 gMul (d2 gIx (dV 0) (dC (.int 2))) (d2 gIx (dV 1) (dC (.int 2))))) (sRet (dA (gCall 3 [] m_lowest) (dCons (d2 gAdd (d2 gMul (d2 gIx (dV 0) (dC (.int 0))) (d2 gIx (dV 1) (dC (.int 2)))) (d2 gMul (d2 gIx (dV 1) (dC (.int 0))) (d2 gIx (dV 0) (dC (.int 2))))) (dCons (d2 gAdd (d2 gMul (d2 gIx (dV 0) (dC (.int 1))) (d2 gIx (dV 1) (dC (.int 2)))) (d2 gMul (d2 gIx (dV 1) (dC (.int 1))) (d2 gIx (dV 0) (dC (.int 2))))) (dCons (dV 2) (dNil))))))
noncomputable def m_added : List PD → R PD := fnD 3 den_added
theorem mm_added : m_added = fnD 3 den_added := rfl
noncomputable def den_taken : En → Fl := sRet (dA (gCall 2 [] m_added) (dCons (dV 0) (dCons (dA gTupD (dCons (d2 gSub (dC (.int 0)) (d2 gIx (dV 1) (dC (.int 0)))) (dCons (d2 gSub (dC (.int 0)) (d2 gIx (dV 1) (dC (.int 1)))) (dCons (d2 gIx (dV 1) (dC (.int 2))) (dNil))))) (dNil))))
noncomputable def m_taken : List PD → R PD := fnD 2 den_taken
theorem mm_taken : m_taken = fnD 2 den_taken := rfl
noncomputable def den_timed : En → Fl := sSeq (sSet 3 (d2 gAdd (d2 gMul (d2 gIx (dV 1) (dC (.int 0))) (d2 gIx (dV 2) (dC (.int 0)))) (d2 gMul (d2 gMul (dV 0) (d2 gIx (dV 1) (dC (.int 1)))) (d2 gIx (dV 2) (dC (.int 1)))))) (sRet (dA (gCall 3 [] m_lowest) (dCons (dV 3) (dCons (d2 gAdd (d2 gMul (d2 gIx (dV 1) (dC (.int 0))) (d2 gIx (dV 2) (dC (.int 1)))) (d2 gMul (d2 gIx (dV 1) (dC (.int 1))) (d2 gIx (dV 2) (dC (.int 0))))) (dCons (d2 gMul (d2 gIx (dV 1) (dC (.int 2))) (d2 gIx (dV 2) (dC (.int 2)))) (dNil))))))
noncomputable def m_timed : List PD → R PD := fnD 4 den_timed
theorem mm_timed : m_timed = fnD 4 den_timed := rfl
noncomputable def den_sign_of : En → Fl := sSeq (sIf (dOr (dT (d2 gEq (dV 1) (dC (.int 0)))) (dOr (dT (d2 gEq (dV 2) (dC (.int 0)))) (dT (d2 gEq (d2 gGt (dV 1) (dC (.int 0))) (d2 gGt (dV 2) (dC (.int 0))))))) (sRet (d2 gAdd (dV 1) (dV 2))) (sNx)) (sSeq (sIf (dT (d2 gGt (dV 1) (dC (.int 0)))) (sRet (d2 gSub (d2 gMul (dV 1) (dV 1)) (d2 gMul (d2 gMul (dV 0) (dV 2)) (dV 2)))) (sNx)) (sRet (d2 gSub (d2 gMul (d2 gMul (dV 0) (dV 2)) (dV 2)) (d2 gMul (dV 1) (dV 1)))))
noncomputable def m_sign_of : List PD → R PD := fnD 3 den_sign_of
theorem mm_sign_of : m_sign_of = fnD 3 den_sign_of := rfl
noncomputable def den_under : En → Fl := sSeq (sSet 3 (dA (gCall 2 [] m_taken) (dCons (dV 1) (dCons (dV 2) (dNil))))) (sRet (d2 gLt (dA (gCall 3 [] m_sign_of) (dCons (dV 0) (dCons (d2 gIx (dV 3) (dC (.int 0))) (dCons (d2 gIx (dV 3) (dC (.int 1))) (dNil))))) (dC (.int 0))))
noncomputable def m_under : List PD → R PD := fnD 4 den_under
theorem mm_under : m_under = fnD 4 den_under := rfl
noncomputable def den_fraction : En → Fl := sSeq (sSet 2 (dA (gCall 2 [] m_divisor) (dCons (dV 0) (dCons (dV 1) (dNil))))) (sSeq (sIf (dT (d2 gLt (dV 1) (dC (.int 0)))) (sSet 2 (d2 gSub (dC (.int 0)) (dV 2))) (sNx)) (sRet (dA gTupD (dCons (d2 gDiv (dV 0) (dV 2)) (dCons (d2 gDiv (dV 1) (dV 2)) (dNil))))))
noncomputable def m_fraction : List PD → R PD := fnD 3 den_fraction
theorem mm_fraction : m_fraction = fnD 3 den_fraction := rfl
noncomputable def den_parts : En → Fl := sRet (dA gTupD (dCons (dA (gCall 2 [] m_fraction) (dCons (d2 gIx (dV 0) (dC (.int 0))) (dCons (d2 gIx (dV 0) (dC (.int 2))) (dNil)))) (dCons (dA (gCall 2 [] m_fraction) (dCons (d2 gIx (dV 0) (dC (.int 1))) (dCons (d2 gIx (dV 0) (dC (.int 2))) (dNil)))) (dNil))))
noncomputable def m_parts : List PD → R PD := fnD 1 den_parts
theorem mm_parts : m_parts = fnD 1 den_parts := rfl
noncomputable def den_by_parts : En → Fl := sRet (dA (gCall 3 [] m_lowest) (dCons (d2 gMul (d2 gIx (dV 0) (dC (.int 0))) (d2 gIx (dV 1) (dC (.int 1)))) (dCons (d2 gMul (d2 gIx (dV 1) (dC (.int 0))) (d2 gIx (dV 0) (dC (.int 1)))) (dCons (d2 gMul (d2 gIx (dV 0) (dC (.int 1))) (d2 gIx (dV 1) (dC (.int 1)))) (dNil)))))
noncomputable def m_by_parts : List PD → R PD := fnD 2 den_by_parts
theorem mm_by_parts : m_by_parts = fnD 2 den_by_parts := rfl
noncomputable def den_minus : En → Fl := sRet (dA (gCall 2 [] m_fraction) (dCons (d2 gSub (d2 gMul (d2 gIx (dV 0) (dC (.int 0))) (d2 gIx (dV 1) (dC (.int 1)))) (d2 gMul (d2 gIx (dV 1) (dC (.int 0))) (d2 gIx (dV 0) (dC (.int 1))))) (dCons (d2 gMul (d2 gIx (dV 0) (dC (.int 1))) (d2 gIx (dV 1) (dC (.int 1)))) (dNil))))
noncomputable def m_minus : List PD → R PD := fnD 2 den_minus
theorem mm_minus : m_minus = fnD 2 den_minus := rfl
noncomputable def den_times : En → Fl := sRet (dA (gCall 2 [] m_fraction) (dCons (d2 gMul (d2 gIx (dV 0) (dC (.int 0))) (d2 gIx (dV 1) (dC (.int 0)))) (dCons (d2 gMul (d2 gIx (dV 0) (dC (.int 1))) (d2 gIx (dV 1) (dC (.int 1)))) (dNil))))
noncomputable def m_times : List PD → R PD := fnD 2 den_times
theorem mm_times : m_times = fnD 2 den_times := rfl
noncomputable def den_by : En → Fl := sRet (dA (gCall 2 [] m_fraction) (dCons (d2 gMul (d2 gIx (dV 0) (dC (.int 0))) (d2 gIx (dV 1) (dC (.int 1)))) (dCons (d2 gMul (d2 gIx (dV 0) (dC (.int 1))) (d2 gIx (dV 1) (dC (.int 0)))) (dNil))))
noncomputable def m_by : List PD → R PD := fnD 2 den_by
theorem mm_by : m_by = fnD 2 den_by := rfl
noncomputable def den_first_base : En → Fl := sRet (dA gTupD (dCons (dA (gCall 3 [] m_length) (dCons (dC (.int 0)) (dCons (dC (.int 1)) (dCons (dV 1) (dNil))))) (dCons (dA (gCall 3 [] m_length) (dCons (dC (.int 1)) (dCons (dC (.int 0)) (dCons (dV 1) (dNil))))) (dNil))))
noncomputable def m_first_base : List PD → R PD := fnD 2 den_first_base
theorem mm_first_base : m_first_base = fnD 2 den_first_base := rfl
noncomputable def den_next_base : En → Fl := sSeq (sAsg (.many [2, 3]) (dV 1)) (sSeq (sIf (dT (dA (gCall 3 [] m_under) (dCons (dV 0) (dCons (dV 3) (dCons (dV 2) (dNil)))))) (sRet (dA gTupD (dCons (dA (gCall 2 [] m_taken) (dCons (dV 2) (dCons (dV 3) (dNil)))) (dCons (dV 3) (dNil))))) (sNx)) (sRet (dA gTupD (dCons (dV 2) (dCons (dA (gCall 2 [] m_taken) (dCons (dV 3) (dCons (dV 2) (dNil)))) (dNil))))))
noncomputable def m_next_base : List PD → R PD := fnD 4 den_next_base
theorem mm_next_base : m_next_base = fnD 4 den_next_base := rfl
noncomputable def den_cross : En → Fl := sRet (dA (gCall 2 [] m_minus) (dCons (dA (gCall 2 [] m_times) (dCons (d2 gIx (dV 0) (dC (.int 0))) (dCons (d2 gIx (dV 1) (dC (.int 1))) (dNil)))) (dCons (dA (gCall 2 [] m_times) (dCons (d2 gIx (dV 0) (dC (.int 1))) (dCons (d2 gIx (dV 1) (dC (.int 0))) (dNil)))) (dNil))))
noncomputable def m_cross : List PD → R PD := fnD 2 den_cross
theorem mm_cross : m_cross = fnD 2 den_cross := rfl
noncomputable def den_counts : En → Fl := sSeq (sPar 3 4 (dA (gCall 1 [] m_parts) (dCons (d2 gIx (dV 1) (dC (.int 0))) (dNil))) (dA (gCall 1 [] m_parts) (dCons (d2 gIx (dV 1) (dC (.int 1))) (dNil)))) (sSeq (sSet 5 (dA (gCall 2 [] m_cross) (dCons (dV 3) (dCons (dV 4) (dNil))))) (sSeq (sSet 6 (dA (gCall 1 [] m_parts) (dCons (dV 2) (dNil)))) (sSeq (sSet 7 (dA (gCall 2 [] m_by) (dCons (dA (gCall 2 [] m_cross) (dCons (dV 6) (dCons (dV 4) (dNil)))) (dCons (dV 5) (dNil))))) (sSeq (sSet 8 (dA (gCall 2 [] m_by) (dCons (dA (gCall 2 [] m_cross) (dCons (dV 3) (dCons (dV 6) (dNil)))) (dCons (dV 5) (dNil))))) (sRet (dA gTupD (dCons (d2 gIx (dV 7) (dC (.int 0))) (dCons (d2 gIx (dV 8) (dC (.int 0))) (dNil)))))))))
noncomputable def m_counts : List PD → R PD := fnD 9 den_counts
theorem mm_counts : m_counts = fnD 9 den_counts := rfl
noncomputable def lb1_is_served : En → Fl := sIf (dOr (dT (d2 gLt (dV 1) (dC (.int 0)))) (dT (d2 gLt (dV 2) (dC (.int 0))))) (sRet (dC (.bool false))) (sNx)
noncomputable def den_is_served : En → Fl := sSeq (sFor (iL (dV 0)) (.many [1, 2]) lb1_is_served) (sRet (dC (.bool true)))
noncomputable def m_is_served : List PD → R PD := fnD 3 den_is_served
theorem mm_is_served : m_is_served = fnD 3 den_is_served := rfl
noncomputable def lb1_common : En → Fl := sSet 1 (d2 gMul (dV 1) (d2 gIx (dA (gCall 2 [] m_fraction) (dCons (dV 1) (dCons (d2 gIx (dV 2) (dC (.int 2))) (dNil)))) (dC (.int 1))))
noncomputable def den_common : En → Fl := sSeq (sSet 1 (dC (.int 1))) (sSeq (sFor (iL (dV 0)) (.one 2) lb1_common) (sRet (dV 1)))
noncomputable def m_common : List PD → R PD := fnD 3 den_common
theorem mm_common : m_common = fnD 3 den_common := rfl
noncomputable def le1_serving : En → R PD := dA (gCall 3 [] m_counts) (dCons (dV 0) (dCons (dV 2) (dCons (dV 4) (dNil))))
noncomputable def le2_serving : En → R PD := dA gTupD (dCons (dV 6) (dCons (d2 gAdd (dV 6) (dV 7)) (dNil)))
noncomputable def le3_serving : En → R PD := dA gTupD (dCons (d2 gAdd (dV 6) (dV 7)) (dCons (dV 7) (dNil)))
noncomputable def lt4_serving : En → R Bool := dNot (dT (dA (gCall 1 [] m_is_served) (dCons (dV 3) (dNil))))
noncomputable def lb4_serving : En → Fl := sSeq (sSet 5 (dA (gCall 2 [] m_next_base) (dCons (dV 0) (dCons (dV 2) (dNil))))) (sSeq (sIf (dT (d2 gEq (d2 gIx (dV 5) (dC (.int 1))) (d2 gIx (dV 2) (dC (.int 1))))) (sSet 3 (dLc (iL (dV 3)) (.many [6, 7]) [6, 7] bYes le2_serving)) (sSet 3 (dLc (iL (dV 3)) (.many [6, 7]) [6, 7] bYes le3_serving))) (sSet 2 (dV 5)))
noncomputable def den_serving : En → Fl := sSeq (sSet 2 (dA (gCall 2 [] m_first_base) (dCons (dV 0) (dCons (dA (gCall 1 [] m_common) (dCons (dV 1) (dNil))) (dNil))))) (sSeq (sSet 3 (dLc (iL (dV 1)) (.one 4) [4] bYes le1_serving)) (sSeq (sWhile lt4_serving lb4_serving) (sRet (dV 2))))
noncomputable def m_serving : List PD → R PD := fnD 8 den_serving
theorem mm_serving : m_serving = fnD 8 den_serving := rfl
noncomputable def lb1_heights_of : En → Fl := sPut 3 (dV 7) (dA (gCall 2 [] m_added) (dCons (dIxO 3 (dV 7)) (dCons (dA (gCall 3 [] m_timed) (dCons (dV 0) (dCons (dV 5) (dCons (dA (gCall 3 [(.int 0), (.int 1)] m_length) (dCons (d2 gIx (dV 6) (dV 7)) (dNil))) (dNil))))) (dNil))))
noncomputable def lb2_heights_of : En → Fl := sSeq (sSet 6 (dA (gCall 3 [] m_counts) (dCons (dV 0) (dCons (dV 2) (dCons (dV 4) (dNil)))))) (sFor (iA gR1 (dCons (dC (.int 2)) (dNil))) (.one 7) lb1_heights_of)
noncomputable def den_heights_of : En → Fl := sSeq (sSetL 3 (lDisp (dCons (dA gTupD (dCons (dC (.int 0)) (dCons (dC (.int 0)) (dCons (dC (.int 1)) (dNil))))) (dCons (dA gTupD (dCons (dC (.int 0)) (dCons (dC (.int 0)) (dCons (dC (.int 1)) (dNil))))) (dNil))))) (sSeq (sFor (iL (dV 1)) (.many [4, 5]) lb2_heights_of) (sFrz 3 (sRet (dV 3))))
noncomputable def m_heights_of : List PD → R PD := fnD 8 den_heights_of
theorem mm_heights_of : m_heights_of = fnD 8 den_heights_of := rfl
noncomputable def lq1_normal_heap_v2 : En → R Bool := dT (d2 gNe (d2 gIx (dV 3) (dV 4)) (dA gTupD (dCons (dC (.int 0)) (dCons (dC (.int 0)) (dCons (dC (.int 1)) (dNil))))))
noncomputable def le1_normal_heap_v2 : En → R PD := dA gTupD (dCons (d2 gIx (dV 2) (dV 4)) (dCons (d2 gIx (dV 3) (dV 4)) (dNil)))
noncomputable def den_normal_heap_v2 : En → Fl := sSeq (sSet 3 (dA (gCall 3 [] m_heights_of) (dCons (dV 0) (dCons (dV 1) (dCons (dV 2) (dNil)))))) (sRetV (vL (dLcL (iA gR1 (dCons (dC (.int 2)) (dNil))) (.one 4) [4] lq1_normal_heap_v2 le1_normal_heap_v2)))
noncomputable def mV_normal_heap_v2 : List PD → R SV := fnV 5 den_normal_heap_v2
noncomputable def m_normal_heap_v2 : List PD → R PD := fun ds => (mV_normal_heap_v2 ds).bind frzV
theorem mm_normal_heap_v2 : mV_normal_heap_v2 = fnV 5 den_normal_heap_v2 := rfl
noncomputable def den_law_cell : En → Fl := sSeq (sIf (dT (d2 gLt (dV 1) (dA gLen (dCons (dV 0) (dNil))))) (sRet (d2 gIx (dV 0) (dV 1))) (sNx)) (sRet (dC (.int 0)))
noncomputable def m_law_cell : List PD → R PD := fnD 2 den_law_cell
theorem mm_law_cell : m_law_cell = fnD 2 den_law_cell := rfl
noncomputable def den_law_whole : En → Fl := sRet (dAndV (d1 (gIsi "int") (dV 0)) (dNotV (d1 (gIsi "bool") (dV 0))))
noncomputable def m_law_whole : List PD → R PD := fnD 1 den_law_whole
theorem mm_law_whole : m_law_whole = fnD 1 den_law_whole := rfl
noncomputable def lt1_law_digits_v3 : En → R Bool := dLendB 3 (dAnd (dT (d2 gGt (dV 4) (dC (.int 0)))) (dT (d2 gLt (dA gLen (dCons (dV 3) (dNil))) (dV 2))))
noncomputable def lb1_law_digits_v3 : En → Fl := sSeq (sApp 3 (d2 gMod (dV 4) (d2 gPow (dC (.int 10)) (dC (.int 6))))) (sSet 4 (d2 gDiv (dV 4) (d2 gPow (dC (.int 10)) (dC (.int 6)))))
noncomputable def lb2_law_digits_v3 : En → Fl := sSeq (sSet 5 (d2 gMod (d2 gAdd (d2 gAdd (d2 gMul (dV 5) (dC (.int 1181783497276652981))) (d2 gMul (dV 6) (dV 6))) (dV 1)) (dC (.int 2305843009213693951)))) (sApp 3 (d2 gMod (d2 gDiv (d2 gMod (d2 gMul (dV 5) (dV 5)) (dC (.int 2305843009213693921))) (dC (.int 1048576))) (d2 gPow (dC (.int 10)) (dC (.int 6)))))
noncomputable def den_law_digits_v3 : En → Fl := sSeq (sSetL 3 (lDisp (dNil))) (sSeq (sSet 4 (d2 gMul (d2 gDiv (dA gAbs (dCons (dV 0) (dNil))) (dC (.int 2))) (d2 gSub (dC (.int 1)) (d2 gMod (dV 0) (dC (.int 2)))))) (sSeq (sWhile lt1_law_digits_v3 lb1_law_digits_v3) (sSeq (sSet 5 (d2 gAdd (d2 gAdd (d2 gMod (dV 0) (dC (.int 2305843009213693951))) (d2 gMul (dV 1) (dV 1))) (dC (.int 7)))) (sSeq (sFor (iA gR2 (dCons (dLend 3 (dA gLen (dCons (dV 3) (dNil)))) (dCons (dV 2) (dNil)))) (.one 6) lb2_law_digits_v3) (sFrz 3 (sRet (dV 3)))))))
noncomputable def m_law_digits_v3 : List PD → R PD := fnD 7 den_law_digits_v3
theorem mm_law_digits_v3 : m_law_digits_v3 = fnD 7 den_law_digits_v3 := rfl
noncomputable def lt1_law_divisor_v2 : En → R Bool := dT (d2 gNe (dV 1) (dC (.int 0)))
noncomputable def lb1_law_divisor_v2 : En → Fl := sPar 0 1 (dV 1) (d2 gMod (dV 0) (dV 1))
noncomputable def den_law_divisor_v2 : En → Fl := sSeq (sWhile lt1_law_divisor_v2 lb1_law_divisor_v2) (sRet (dV 0))
noncomputable def m_law_divisor_v2 : List PD → R PD := fnD 2 den_law_divisor_v2
theorem mm_law_divisor_v2 : m_law_divisor_v2 = fnD 2 den_law_divisor_v2 := rfl
noncomputable def den_law_root_v5 : En → Fl := sSeq (sSet 1 (d2 gAdd (dC (.int 2)) (d2 gMod (d2 gIx (dA (gCall 3 [] m_law_digits_v3) (dCons (dA (gCall 2 [] m_law_cell) (dCons (dV 0) (dCons (dC (.int 0)) (dNil)))) (dCons (dC (.int 0)) (dCons (dC (.int 1)) (dNil))))) (dC (.int 0))) (dC (.int 98))))) (sSeq (sIf (dT (d2 (gIn false) (dV 1) (dA gLstD (dCons (dC (.int 4)) (dCons (dC (.int 9)) (dCons (dC (.int 16)) (dCons (dC (.int 25)) (dCons (dC (.int 36)) (dCons (dC (.int 49)) (dCons (dC (.int 64)) (dCons (dC (.int 81)) (dNil)))))))))))) (sRet (d2 gAdd (dV 1) (dC (.int 1)))) (sNx)) (sRet (dV 1)))
noncomputable def m_law_root_v5 : List PD → R PD := fnD 2 den_law_root_v5
theorem mm_law_root_v5 : m_law_root_v5 = fnD 2 den_law_root_v5 := rfl
noncomputable def den_law_fraction_v3 : En → Fl := sSeq (sSet 2 (d2 gSub (d2 gMod (d2 gIx (dV 0) (dC (.int 0))) (dC (.int 41))) (dC (.int 20)))) (sSeq (sSet 3 (d2 gIx (dA gLstD (dCons (dC (.int 1)) (dCons (dC (.int 1)) (dCons (dC (.int 2)) (dCons (dC (.int 3)) (dCons (dC (.int 4)) (dCons (dC (.int 6)) (dCons (dC (.int 12)) (dNil))))))))) (d2 gMod (d2 gIx (dV 0) (dC (.int 1))) (dC (.int 7))))) (sSeq (sIf (dT (d2 gEq (d2 gMod (d2 gIx (dV 0) (dC (.int 2))) (dC (.int 4))) (dC (.int 2)))) (sSeq (sSet 2 (d2 gSub (d2 gMod (d2 gIx (dV 0) (dC (.int 0))) (dC (.int 2001))) (dC (.int 1000)))) (sSet 3 (d2 gAdd (dC (.int 1)) (d2 gMod (d2 gIx (dV 0) (dC (.int 1))) (dC (.int 60)))))) (sNx)) (sSeq (sIf (dAnd (dT (d2 gEq (d2 gMod (d2 gIx (dV 0) (dC (.int 2))) (dC (.int 4))) (dC (.int 3)))) (dT (dV 1))) (sSeq (sSet 2 (d2 gAdd (d2 gMul (d2 gSub (d2 gAdd (d2 gMul (d2 gIx (dV 0) (dC (.int 0))) (d2 gPow (dC (.int 10)) (dC (.int 6)))) (d2 gIx (dV 0) (dC (.int 1)))) (d2 gMul (dC (.int 5)) (d2 gPow (dC (.int 10)) (dC (.int 11))))) (d2 gPow (dC (.int 10)) (dC (.int 18)))) (d2 gIx (dV 0) (dC (.int 2))))) (sSet 3 (d2 gAdd (d2 gAdd (dC (.int 1)) (d2 gMul (d2 gIx (dV 0) (dC (.int 1))) (d2 gPow (dC (.int 10)) (dC (.int 6))))) (d2 gIx (dV 0) (dC (.int 2)))))) (sNx)) (sSeq (sSet 4 (dA (gCall 2 [] m_law_divisor_v2) (dCons (dA gAbs (dCons (dV 2) (dNil))) (dCons (dV 3) (dNil))))) (sRet (dA gTupD (dCons (d2 gDiv (dV 2) (dV 4)) (dCons (d2 gDiv (dV 3) (dV 4)) (dNil)))))))))
noncomputable def m_law_fraction_v3 : List PD → R PD := fnD 5 den_law_fraction_v3
theorem mm_law_fraction_v3 : m_law_fraction_v3 = fnD 5 den_law_fraction_v3 := rfl
noncomputable def den_law_above : En → Fl := sSeq (sSet 3 (d2 gMul (d2 gIx (dV 1) (dC (.int 0))) (d2 gIx (dV 2) (dC (.int 1))))) (sSeq (sSet 4 (d2 gMul (d2 gIx (dV 2) (dC (.int 0))) (d2 gIx (dV 1) (dC (.int 1))))) (sSeq (sIf (dAnd (dT (d2 gGe (dV 3) (dC (.int 0)))) (dT (d2 gGe (dV 4) (dC (.int 0))))) (sRet (d2 gGt (d2 gAdd (dV 3) (dV 4)) (dC (.int 0)))) (sNx)) (sSeq (sIf (dAnd (dT (d2 gLe (dV 3) (dC (.int 0)))) (dT (d2 gLe (dV 4) (dC (.int 0))))) (sRet (dC (.bool false))) (sNx)) (sRet (d2 gEq (d2 gGt (dV 3) (dC (.int 0))) (d2 gGt (d2 gMul (dV 3) (dV 3)) (d2 gMul (d2 gMul (dV 0) (dV 4)) (dV 4))))))))
noncomputable def m_law_above : List PD → R PD := fnD 5 den_law_above
theorem mm_law_above : m_law_above = fnD 5 den_law_above := rfl
noncomputable def den_law_side_v5 : En → Fl := sSeq (sSet 3 (dA (gCall 2 [] m_law_fraction_v3) (dCons (dSl (dV 1) (dP0) (dP (dC (.int 3)))) (dCons (dV 2) (dNil))))) (sSeq (sSet 4 (dA (gCall 2 [] m_law_fraction_v3) (dCons (dSl (dV 1) (dP (dC (.int 3))) (dP (dC (.int 6)))) (dCons (dV 2) (dNil))))) (sSeq (sIf (dT (d2 gEq (d2 gMod (d2 gIx (dV 1) (dC (.int 6))) (dC (.int 4))) (dC (.int 0)))) (sSet 4 (dA gTupD (dCons (dC (.int 0)) (dCons (dC (.int 1)) (dNil))))) (sNx)) (sSeq (sIf (dT (d2 gEq (d2 gMod (d2 gIx (dV 1) (dC (.int 6))) (dC (.int 4))) (dC (.int 1)))) (sSet 3 (dA gTupD (dCons (dC (.int 0)) (dCons (dC (.int 1)) (dNil))))) (sNx)) (sSeq (sIf (dAnd (dT (d2 gEq (d2 gIx (dV 3) (dC (.int 0))) (dC (.int 0)))) (dT (d2 gEq (d2 gIx (dV 4) (dC (.int 0))) (dC (.int 0))))) (sRet (dA gTupD (dCons (dA gTupD (dCons (dC (.int 1)) (dCons (dC (.int 1)) (dNil)))) (dCons (dA gTupD (dCons (dC (.int 0)) (dCons (dC (.int 1)) (dNil)))) (dNil))))) (sNx)) (sSeq (sIf (dNot (dT (dA (gCall 3 [] m_law_above) (dCons (dV 0) (dCons (dV 3) (dCons (dV 4) (dNil))))))) (sRet (dA gTupD (dCons (dA gTupD (dCons (d2 gSub (dC (.int 0)) (d2 gIx (dV 3) (dC (.int 0)))) (dCons (d2 gIx (dV 3) (dC (.int 1))) (dNil)))) (dCons (dA gTupD (dCons (d2 gSub (dC (.int 0)) (d2 gIx (dV 4) (dC (.int 0)))) (dCons (d2 gIx (dV 4) (dC (.int 1))) (dNil)))) (dNil))))) (sNx)) (sRet (dA gTupD (dCons (dV 3) (dCons (dV 4) (dNil))))))))))
noncomputable def m_law_side_v5 : List PD → R PD := fnD 5 den_law_side_v5
theorem mm_law_side_v5 : m_law_side_v5 = fnD 5 den_law_side_v5 := rfl
noncomputable def den_law_length_v3 : En → Fl := sSeq (sSet 2 (dA (gCall 3 [] m_law_side_v5) (dCons (dV 0) (dCons (dV 1) (dCons (dC (.bool false)) (dNil)))))) (sRet (dA (gCall 2 [] m_by_parts) (dCons (d2 gIx (dV 2) (dC (.int 0))) (dCons (d2 gIx (dV 2) (dC (.int 1))) (dNil)))))
noncomputable def m_law_length_v3 : List PD → R PD := fnD 3 den_law_length_v3
theorem mm_law_length_v3 : m_law_length_v3 = fnD 3 den_law_length_v3 := rfl
noncomputable def lb1_law_heap_v4 : En → Fl := sSeq (sSet 4 (dA (gCall 3 [] m_law_digits_v3) (dCons (d2 gIx (dV 1) (dV 3)) (dCons (d2 gAdd (dV 3) (dC (.int 3))) (dCons (dC (.int 14)) (dNil)))))) (sApp 2 (dA gTupD (dCons (dA (gCall 2 [] m_law_length_v3) (dCons (dV 0) (dCons (dSl (dV 4) (dP0) (dP (dC (.int 7)))) (dNil)))) (dCons (dA (gCall 2 [] m_law_length_v3) (dCons (dV 0) (dCons (dSl (dV 4) (dP (dC (.int 7))) (dP0)) (dNil)))) (dNil)))))
noncomputable def den_law_heap_v4 : En → Fl := sSeq (sSetL 2 (lDisp (dNil))) (sSeq (sFor (iA gR1 (dCons (dA gLen (dCons (dV 1) (dNil))) (dNil))) (.one 3) lb1_law_heap_v4) (sFrz 2 (sRet (dV 2))))
noncomputable def m_law_heap_v4 : List PD → R PD := fnD 5 den_law_heap_v4
theorem mm_law_heap_v4 : m_law_heap_v4 = fnD 5 den_law_heap_v4 := rfl
noncomputable def lq1_law_is_side_v4 : En → R Bool := dT (dA (gCall 1 [] m_law_whole) (dCons (dV 2) (dNil)))
noncomputable def le1_law_is_side_v4 : En → R PD := dV 2
noncomputable def den_law_is_side_v4 : En → Fl := sSeq (sIf (dOr (dNot (dT (d1 (gIsi "tuple") (dV 1)))) (dOr (dT (d2 gNe (dA gLen (dCons (dV 1) (dNil))) (dC (.int 3)))) (dT (d2 gNe (dA gLen (dCons (dLc (iT (dV 1)) (.one 2) [2] lq1_law_is_side_v4 le1_law_is_side_v4) (dNil))) (dC (.int 3)))))) (sRet (dC (.bool false))) (sNx)) (sSeq (sAsg (.many [3, 4, 5]) (dV 1)) (sSeq (sIf (dOr (dT (d2 gLt (dV 5) (dC (.int 1)))) (dT (d2 gNe (dA (gCall 2 [] m_law_divisor_v2) (dCons (dA (gCall 2 [] m_law_divisor_v2) (dCons (dA gAbs (dCons (dV 3) (dNil))) (dCons (dA gAbs (dCons (dV 4) (dNil))) (dNil)))) (dCons (dV 5) (dNil)))) (dC (.int 1))))) (sRet (dC (.bool false))) (sNx)) (sRet (dA (gCall 3 [] m_law_above) (dCons (dV 0) (dCons (dA gTupD (dCons (dV 3) (dCons (dC (.int 1)) (dNil)))) (dCons (dA gTupD (dCons (dV 4) (dCons (dC (.int 1)) (dNil)))) (dNil))))))))
noncomputable def m_law_is_side_v4 : List PD → R PD := fnD 6 den_law_is_side_v4
theorem mm_law_is_side_v4 : m_law_is_side_v4 = fnD 6 den_law_is_side_v4 := rfl
noncomputable def lb1_law_tab : En → Fl := sSet 1 (d2 gMul (d2 gMul (dV 1) (d2 gIx (dV 2) (dC (.int 2)))) (d2 gIx (dV 3) (dC (.int 2))))
noncomputable def lb2_law_tab : En → Fl := sPut 4 (dV 6) (d2 gAdd (dIxO 4 (dV 6)) (d2 gMul (d2 gMul (d2 gIx (dV 2) (d2 gDiv (dV 6) (dC (.int 2)))) (d2 gIx (dV 3) (d2 gMod (dV 6) (dC (.int 2))))) (dV 5)))
noncomputable def lb3_law_tab : En → Fl := sSeq (sSet 5 (d2 gDiv (dV 1) (d2 gMul (d2 gIx (dV 2) (dC (.int 2))) (d2 gIx (dV 3) (dC (.int 2)))))) (sFor (iA gR1 (dCons (dC (.int 4)) (dNil))) (.one 6) lb2_law_tab)
noncomputable def den_law_tab : En → Fl := sSeq (sSet 1 (dC (.int 1))) (sSeq (sFor (iL (dV 0)) (.many [2, 3]) lb1_law_tab) (sSeq (sSetL 4 (lDisp (dCons (dC (.int 0)) (dCons (dC (.int 0)) (dCons (dC (.int 0)) (dCons (dC (.int 0)) (dNil))))))) (sSeq (sFor (iL (dV 0)) (.many [2, 3]) lb3_law_tab) (sFrz 4 (sRet (dA gLstD (dCons (dV 4) (dCons (dV 1) (dNil)))))))))
noncomputable def m_law_tab : List PD → R PD := fnD 7 den_law_tab
theorem mm_law_tab : m_law_tab = fnD 7 den_law_tab := rfl
noncomputable def le1_law_like : En → R PD := d2 gMul (dV 4) (d2 gIx (dV 3) (dC (.int 1)))
noncomputable def le2_law_like : En → R PD := d2 gMul (dV 4) (d2 gIx (dV 2) (dC (.int 1)))
noncomputable def den_law_like : En → Fl := sSeq (sSet 2 (dA (gCall 1 [] m_law_tab) (dCons (dV 0) (dNil)))) (sSeq (sSet 3 (dA (gCall 1 [] m_law_tab) (dCons (dV 1) (dNil)))) (sRet (d2 gEq (dLc (iL (d2 gIx (dV 2) (dC (.int 0)))) (.one 4) [4] bYes le1_law_like) (dLc (iL (d2 gIx (dV 3) (dC (.int 0)))) (.one 4) [4] bYes le2_law_like))))
noncomputable def m_law_like : List PD → R PD := fnD 5 den_law_like
theorem mm_law_like : m_law_like = fnD 5 den_law_like := rfl
noncomputable def lb1_law_due_v4 : En → Fl := sSeq (sSet 10 (d2 gIx (dA (gCall 3 [] m_counts) (dCons (dV 0) (dCons (dV 2) (dCons (dV 8) (dNil))))) (dV 4))) (sSeq (sSet 6 (d2 gAdd (d2 gMul (dV 6) (d2 gIx (dV 9) (dC (.int 2)))) (d2 gMul (d2 gMul (dV 10) (d2 gIx (dV 9) (dC (.int 0)))) (dV 5)))) (sSeq (sSet 7 (d2 gAdd (d2 gMul (dV 7) (d2 gIx (dV 9) (dC (.int 2)))) (d2 gMul (d2 gMul (dV 10) (d2 gIx (dV 9) (dC (.int 1)))) (dV 5)))) (sSet 5 (d2 gMul (dV 5) (d2 gIx (dV 9) (dC (.int 2)))))))
noncomputable def lb2_law_due_v4 : En → Fl := sSeq (sSet 5 (dC (.int 1))) (sSeq (sSet 6 (dC (.int 0))) (sSeq (sSet 7 (dC (.int 0))) (sSeq (sFor (iL (dV 1)) (.many [8, 9]) lb1_law_due_v4) (sIf (dOr (dT (d2 gNe (dV 6) (dC (.int 0)))) (dT (d2 gNe (dV 7) (dC (.int 0))))) (sApp 3 (dA gTupD (dCons (d2 gIx (dV 2) (dV 4)) (dCons (dV 6) (dCons (dV 7) (dCons (dV 5) (dNil))))))) (sNx)))))
noncomputable def den_law_due_v4 : En → Fl := sSeq (sSetL 3 (lDisp (dNil))) (sSeq (sFor (iA gR1 (dCons (dC (.int 2)) (dNil))) (.one 4) lb2_law_due_v4) (sFrz 3 (sRet (dV 3))))
noncomputable def m_law_due_v4 : List PD → R PD := fnD 11 den_law_due_v4
theorem mm_law_due_v4 : m_law_due_v4 = fnD 11 den_law_due_v4 := rfl
noncomputable def lb1_law_right_v12 : En → Fl := sSeq (sIf (dOr (dNot (dT (d1 (gIsi "tuple") (dV 3)))) (dOr (dT (d2 gNe (dA gLen (dCons (dV 3) (dNil))) (dC (.int 2)))) (dOr (dNot (dT (dA (gCall 2 [] m_law_is_side_v4) (dCons (dV 0) (dCons (d2 gIx (dV 3) (dC (.int 0))) (dNil)))))) (dNot (dT (dA (gCall 2 [] m_law_is_side_v4) (dCons (dV 0) (dCons (d2 gIx (dV 3) (dC (.int 1))) (dNil))))))))) (sRet (dC (.bool false))) (sNx)) (sSeq (sSet 5 (d2 gIx (dV 3) (dC (.int 1)))) (sSeq (sIf (dOr (dT (d2 gNe (d2 gIx (dV 3) (dC (.int 0))) (d2 gIx (dV 4) (dC (.int 0))))) (dT (d2 gNe (d2 gMul (d2 gIx (dV 5) (dC (.int 0))) (d2 gIx (dV 4) (dC (.int 3)))) (d2 gMul (d2 gIx (dV 4) (dC (.int 1))) (d2 gIx (dV 5) (dC (.int 2))))))) (sRet (dC (.bool false))) (sNx)) (sIf (dT (d2 gNe (d2 gMul (d2 gIx (dV 5) (dC (.int 1))) (d2 gIx (dV 4) (dC (.int 3)))) (d2 gMul (d2 gIx (dV 4) (dC (.int 2))) (d2 gIx (dV 5) (dC (.int 2)))))) (sRet (dC (.bool false))) (sNx))))
noncomputable def den_law_right_v12 : En → Fl := sSeq (sIf (dOr (dNot (dT (d1 (gIsi "list") (dV 1)))) (dT (d2 gNe (dA gLen (dCons (dV 1) (dNil))) (dA gLen (dCons (dV 2) (dNil)))))) (sRet (dC (.bool false))) (sNx)) (sSeq (sFor (iA gZip (dCons (dV 1) (dCons (dV 2) (dNil)))) (.many [3, 4]) lb1_law_right_v12) (sRet (dC (.bool true))))
noncomputable def m_law_right_v12 : List PD → R PD := fnD 6 den_law_right_v12
theorem mm_law_right_v12 : m_law_right_v12 = fnD 6 den_law_right_v12 := rfl
noncomputable def le1_law_k51 : En → R PD := dV 4
noncomputable def lb2_law_k51 : En → Fl := sSet 3 (dA (gCall 2 [] m_next_base) (dCons (dV 1) (dCons (dV 3) (dNil))))
noncomputable def den_law_k51 : En → Fl := sSeq (sSet 1 (dA (gCall 1 [] m_law_root_v5) (dCons (dV 0) (dNil)))) (sSeq (sSet 2 (dA (gCall 2 [] m_law_heap_v4) (dCons (dV 1) (dCons (d2 gAdd (dSl (dV 0) (dP (dC (.int 1))) (dP (dC (.int 17)))) (d2 gMulL (dA gLstD (dCons (dC (.int 7)) (dNil))) (dA gInt (dCons (d2 gLt (dA gLen (dCons (dV 0) (dNil))) (dC (.int 2))) (dNil))))) (dNil))))) (sSeq (sSet 3 (dA (gCall 2 [] m_serving) (dCons (dV 1) (dCons (dLc (iL (dV 2)) (.many [4, 5]) [4, 5] bYes le1_law_k51) (dNil))))) (sSeq (sFor (iA gR1 (dCons (d2 gMod (d2 gIx (dA (gCall 3 [] m_law_digits_v3) (dCons (dA (gCall 2 [] m_law_cell) (dCons (dV 0) (dCons (dC (.int 0)) (dNil)))) (dCons (dC (.int 0)) (dCons (dC (.int 2)) (dNil))))) (dC (.int 1))) (dC (.int 4))) (dNil))) (.one 6) lb2_law_k51) (sSeq (sSet 7 (dA gListOf (dCons (dV 2) (dNil)))) (sSeq (sSetV 8 (dAV (gCallV 3 [] mV_normal_heap_v2) (dCons (dV 1) (dCons (dV 7) (dCons (dV 3) (dNil)))))) (sSeq (sIf (dLendB 8 (dOr (dNot (dT (dA (gCall 3 [] m_law_right_v12) (dCons (dV 1) (dCons (dV 8) (dCons (dA (gCall 3 [] m_law_due_v4) (dCons (dV 1) (dCons (dV 2) (dCons (dV 3) (dNil))))) (dNil))))))) (dOr (dT (d2 gNe (dV 7) (dV 2))) (dNot (dT (dA (gCall 2 [] m_law_like) (dCons (dV 2) (dCons (dV 8) (dNil))))))))) (sRet (dC (.bool false))) (sNx)) (sSeq (sSetV 9 (vLend 8 (vL (lList (dV 8))))) (sFrz 9 (sSeq (sClr 8) (sRet (d2 gEq (dA (gCall 3 [] m_normal_heap_v2) (dCons (dV 1) (dCons (dV 7) (dCons (dV 3) (dNil))))) (dV 9))))))))))))
noncomputable def m_law_k51 : List PD → R PD := fnD 10 den_law_k51
theorem mm_law_k51 : m_law_k51 = fnD 10 den_law_k51 := rfl
end DL

set_option Elab.async false
set_option linter.all false
set_option maxRecDepth 100000
set_option maxHeartbeats 4000000
set_option autoImplicit false
namespace DL
section
open PySem L2
def top (i : Nat) : Stmt := PySem.Challenge.pw_boardglue_k51_normal_heaps.main.body.getD i (.Pass ⟨0, 0, 0, 0⟩)
abbrev s_is_whole : Stmt := top 4
theorem sc_is_whole : FnScope ["thing"] ["thing"] (defScope s_is_whole) := ⟨rfl, rfl, rfl, by decide +kernel, rfl, by decide +kernel, by decide +kernel⟩
def d_is_whole : He.DefD := ⟨("is_whole", none), "is_whole", "is_whole", defArgs s_is_whole, defBody s_is_whole, defScope s_is_whole, [], []⟩
abbrev s_divisor : Stmt := top 5
theorem sc_divisor : FnScope ["one", "other"] ["one", "other"] (defScope s_divisor) := ⟨rfl, rfl, rfl, by decide +kernel, rfl, by decide +kernel, by decide +kernel⟩
def d_divisor : He.DefD := ⟨("divisor", none), "divisor", "divisor", defArgs s_divisor, defBody s_divisor, defScope s_divisor, [], []⟩
abbrev s_lowest : Stmt := top 6
theorem sc_lowest : FnScope ["a", "b", "n", "share"] ["a", "b", "n"] (defScope s_lowest) := ⟨rfl, rfl, rfl, by decide +kernel, rfl, by decide +kernel, by decide +kernel⟩
def d_lowest : He.DefD := ⟨("lowest", none), "lowest", "lowest", defArgs s_lowest, defBody s_lowest, defScope s_lowest, [], []⟩
abbrev s_length : Stmt := top 7
theorem sc_length : FnScope ["a", "b", "n"] ["a", "b", "n"] (defScope s_length) := ⟨rfl, rfl, rfl, by decide +kernel, rfl, by decide +kernel, by decide +kernel⟩
def d_length : He.DefD := ⟨("length", none), "length", "length", defArgs s_length, defBody s_length, defScope s_length, [(He.Dv.int 0), (He.Dv.int 1)], []⟩
abbrev s_added : Stmt := top 8
theorem sc_added : FnScope ["one", "other", "bottom"] ["one", "other"] (defScope s_added) := ⟨rfl, rfl, rfl, by decide +kernel, rfl, by decide +kernel, by decide +kernel⟩
def d_added : He.DefD := ⟨("added", none), "added", "added", defArgs s_added, defBody s_added, defScope s_added, [], []⟩
abbrev s_taken : Stmt := top 9
theorem sc_taken : FnScope ["one", "other"] ["one", "other"] (defScope s_taken) := ⟨rfl, rfl, rfl, by decide +kernel, rfl, by decide +kernel, by decide +kernel⟩
def d_taken : He.DefD := ⟨("taken", none), "taken", "taken", defArgs s_taken, defBody s_taken, defScope s_taken, [], []⟩
abbrev s_timed : Stmt := top 10
theorem sc_timed : FnScope ["d", "one", "other", "whole"] ["d", "one", "other"] (defScope s_timed) := ⟨rfl, rfl, rfl, by decide +kernel, rfl, by decide +kernel, by decide +kernel⟩
def d_timed : He.DefD := ⟨("timed", none), "timed", "timed", defArgs s_timed, defBody s_timed, defScope s_timed, [], []⟩
abbrev s_sign_of : Stmt := top 11
theorem sc_sign_of : FnScope ["d", "a", "b"] ["d", "a", "b"] (defScope s_sign_of) := ⟨rfl, rfl, rfl, by decide +kernel, rfl, by decide +kernel, by decide +kernel⟩
def d_sign_of : He.DefD := ⟨("sign_of", none), "sign_of", "sign_of", defArgs s_sign_of, defBody s_sign_of, defScope s_sign_of, [], []⟩
abbrev s_under : Stmt := top 12
theorem sc_under : FnScope ["d", "one", "other", "left"] ["d", "one", "other"] (defScope s_under) := ⟨rfl, rfl, rfl, by decide +kernel, rfl, by decide +kernel, by decide +kernel⟩
def d_under : He.DefD := ⟨("under", none), "under", "under", defArgs s_under, defBody s_under, defScope s_under, [], []⟩
abbrev s_fraction : Stmt := top 13
theorem sc_fraction : FnScope ["top", "bottom", "share"] ["top", "bottom"] (defScope s_fraction) := ⟨rfl, rfl, rfl, by decide +kernel, rfl, by decide +kernel, by decide +kernel⟩
def d_fraction : He.DefD := ⟨("fraction", none), "fraction", "fraction", defArgs s_fraction, defBody s_fraction, defScope s_fraction, [(He.Dv.int 1)], []⟩
abbrev s_parts : Stmt := top 14
theorem sc_parts : FnScope ["one"] ["one"] (defScope s_parts) := ⟨rfl, rfl, rfl, by decide +kernel, rfl, by decide +kernel, by decide +kernel⟩
def d_parts : He.DefD := ⟨("parts", none), "parts", "parts", defArgs s_parts, defBody s_parts, defScope s_parts, [], []⟩
abbrev s_by_parts : Stmt := top 15
theorem sc_by_parts : FnScope ["f", "g"] ["f", "g"] (defScope s_by_parts) := ⟨rfl, rfl, rfl, by decide +kernel, rfl, by decide +kernel, by decide +kernel⟩
def d_by_parts : He.DefD := ⟨("by_parts", none), "by_parts", "by_parts", defArgs s_by_parts, defBody s_by_parts, defScope s_by_parts, [], []⟩
abbrev s_minus : Stmt := top 17
theorem sc_minus : FnScope ["one", "other"] ["one", "other"] (defScope s_minus) := ⟨rfl, rfl, rfl, by decide +kernel, rfl, by decide +kernel, by decide +kernel⟩
def d_minus : He.DefD := ⟨("minus", none), "minus", "minus", defArgs s_minus, defBody s_minus, defScope s_minus, [], []⟩
abbrev s_times : Stmt := top 18
theorem sc_times : FnScope ["one", "other"] ["one", "other"] (defScope s_times) := ⟨rfl, rfl, rfl, by decide +kernel, rfl, by decide +kernel, by decide +kernel⟩
def d_times : He.DefD := ⟨("times", none), "times", "times", defArgs s_times, defBody s_times, defScope s_times, [], []⟩
abbrev s_by : Stmt := top 19
theorem sc_by : FnScope ["one", "other"] ["one", "other"] (defScope s_by) := ⟨rfl, rfl, rfl, by decide +kernel, rfl, by decide +kernel, by decide +kernel⟩
def d_by : He.DefD := ⟨("by", none), "by", "by", defArgs s_by, defBody s_by, defScope s_by, [], []⟩
abbrev s_first_base : Stmt := top 21
theorem sc_first_base : FnScope ["d", "n"] ["d", "n"] (defScope s_first_base) := ⟨rfl, rfl, rfl, by decide +kernel, rfl, by decide +kernel, by decide +kernel⟩
def d_first_base : He.DefD := ⟨("first_base", none), "first_base", "first_base", defArgs s_first_base, defBody s_first_base, defScope s_first_base, [], []⟩
abbrev s_next_base : Stmt := top 22
theorem sc_next_base : FnScope ["d", "base", "p", "q"] ["d", "base"] (defScope s_next_base) := ⟨rfl, rfl, rfl, by decide +kernel, rfl, by decide +kernel, by decide +kernel⟩
def d_next_base : He.DefD := ⟨("next_base", none), "next_base", "next_base", defArgs s_next_base, defBody s_next_base, defScope s_next_base, [], []⟩
abbrev s_cross : Stmt := top 23
theorem sc_cross : FnScope ["one", "other"] ["one", "other"] (defScope s_cross) := ⟨rfl, rfl, rfl, by decide +kernel, rfl, by decide +kernel, by decide +kernel⟩
def d_cross : He.DefD := ⟨("cross", none), "cross", "cross", defArgs s_cross, defBody s_cross, defScope s_cross, [], []⟩
abbrev s_counts : Stmt := top 24
theorem sc_counts : FnScope ["d", "base", "one", "p", "q", "whole", "found", "i", "j"] ["d", "base", "one"] (defScope s_counts) := ⟨rfl, rfl, rfl, by decide +kernel, rfl, by decide +kernel, by decide +kernel⟩
def d_counts : He.DefD := ⟨("counts", none), "counts", "counts", defArgs s_counts, defBody s_counts, defScope s_counts, [], []⟩
abbrev s_is_served : Stmt := top 25
theorem sc_is_served : FnScope ["pairs", "i", "j"] ["pairs"] (defScope s_is_served) := ⟨rfl, rfl, rfl, by decide +kernel, rfl, by decide +kernel, by decide +kernel⟩
def d_is_served : He.DefD := ⟨("is_served", none), "is_served", "is_served", defArgs s_is_served, defBody s_is_served, defScope s_is_served, [], []⟩
abbrev s_common : Stmt := top 26
theorem sc_common : FnScope ["lengths", "n", "one"] ["lengths"] (defScope s_common) := ⟨rfl, rfl, rfl, by decide +kernel, rfl, by decide +kernel, by decide +kernel⟩
def d_common : He.DefD := ⟨("common", none), "common", "common", defArgs s_common, defBody s_common, defScope s_common, [], []⟩
abbrev s_serving : Stmt := top 27
theorem sc_serving : FnScope ["d", "lengths", "base", "pairs", "one", "later", "i", "j"] ["d", "lengths"] (defScope s_serving) := ⟨rfl, rfl, rfl, by decide +kernel, rfl, by decide +kernel, by decide +kernel⟩
def d_serving : He.DefD := ⟨("serving", none), "serving", "serving", defArgs s_serving, defBody s_serving, defScope s_serving, [], []⟩
abbrev s_heights_of : Stmt := top 29
theorem sc_heights_of : FnScope ["d", "heap", "base", "found", "width", "height", "many", "k"] ["d", "heap", "base"] (defScope s_heights_of) := ⟨rfl, rfl, rfl, by decide +kernel, rfl, by decide +kernel, by decide +kernel⟩
def d_heights_of : He.DefD := ⟨("heights_of", none), "heights_of", "heights_of", defArgs s_heights_of, defBody s_heights_of, defScope s_heights_of, [], []⟩
abbrev s_normal_heap : Stmt := top 30
theorem sc_normal_heap : FnScope ["d", "heap", "base", "found", "k"] ["d", "heap", "base"] (defScope s_normal_heap) := ⟨rfl, rfl, rfl, by decide +kernel, rfl, by decide +kernel, by decide +kernel⟩
def d_normal_heap : He.DefD := ⟨("normal_heap", none), "normal_heap", "normal_heap", defArgs s_normal_heap, defBody s_normal_heap, defScope s_normal_heap, [], []⟩
abbrev s_law_cell : Stmt := top 32
theorem sc_law_cell : FnScope ["_law_script", "_law_k"] ["_law_script", "_law_k"] (defScope s_law_cell) := ⟨rfl, rfl, rfl, by decide +kernel, rfl, by decide +kernel, by decide +kernel⟩
def d_law_cell : He.DefD := ⟨("_law_cell", none), "_law_cell", "_law_cell", defArgs s_law_cell, defBody s_law_cell, defScope s_law_cell, [], []⟩
abbrev s_law_whole : Stmt := top 33
theorem sc_law_whole : FnScope ["_law_found"] ["_law_found"] (defScope s_law_whole) := ⟨rfl, rfl, rfl, by decide +kernel, rfl, by decide +kernel, by decide +kernel⟩
def d_law_whole : He.DefD := ⟨("_law_whole", none), "_law_whole", "_law_whole", defArgs s_law_whole, defBody s_law_whole, defScope s_law_whole, [], []⟩
abbrev s_law_digits : Stmt := top 34
theorem sc_law_digits : FnScope ["_law_cell_here", "_law_k", "_law_many", "_law_found", "_law_rest", "_law_number", "_law_j"] ["_law_cell_here", "_law_k", "_law_many"] (defScope s_law_digits) := ⟨rfl, rfl, rfl, by decide +kernel, rfl, by decide +kernel, by decide +kernel⟩
def d_law_digits : He.DefD := ⟨("_law_digits", none), "_law_digits", "_law_digits", defArgs s_law_digits, defBody s_law_digits, defScope s_law_digits, [], []⟩
abbrev s_law_divisor : Stmt := top 35
theorem sc_law_divisor : FnScope ["_law_one", "_law_other"] ["_law_one", "_law_other"] (defScope s_law_divisor) := ⟨rfl, rfl, rfl, by decide +kernel, rfl, by decide +kernel, by decide +kernel⟩
def d_law_divisor : He.DefD := ⟨("_law_divisor", none), "_law_divisor", "_law_divisor", defArgs s_law_divisor, defBody s_law_divisor, defScope s_law_divisor, [], []⟩
abbrev s_law_root : Stmt := top 36
theorem sc_law_root : FnScope ["_law_script", "_law_d"] ["_law_script"] (defScope s_law_root) := ⟨rfl, rfl, rfl, by decide +kernel, rfl, by decide +kernel, by decide +kernel⟩
def d_law_root : He.DefD := ⟨("_law_root", none), "_law_root", "_law_root", defArgs s_law_root, defBody s_law_root, defScope s_law_root, [], []⟩
abbrev s_law_fraction : Stmt := top 37
theorem sc_law_fraction : FnScope ["_law_some", "_law_great", "_law_top", "_law_bottom", "_law_thing"] ["_law_some", "_law_great"] (defScope s_law_fraction) := ⟨rfl, rfl, rfl, by decide +kernel, rfl, by decide +kernel, by decide +kernel⟩
def d_law_fraction : He.DefD := ⟨("_law_fraction", none), "_law_fraction", "_law_fraction", defArgs s_law_fraction, defBody s_law_fraction, defScope s_law_fraction, [], []⟩
abbrev s_law_above : Stmt := top 38
theorem sc_law_above : FnScope ["_law_d", "_law_first", "_law_second", "_law_a", "_law_b"] ["_law_d", "_law_first", "_law_second"] (defScope s_law_above) := ⟨rfl, rfl, rfl, by decide +kernel, rfl, by decide +kernel, by decide +kernel⟩
def d_law_above : He.DefD := ⟨("_law_above", none), "_law_above", "_law_above", defArgs s_law_above, defBody s_law_above, defScope s_law_above, [], []⟩
abbrev s_law_side : Stmt := top 39
theorem sc_law_side : FnScope ["_law_d", "_law_some", "_law_great", "_law_first", "_law_second"] ["_law_d", "_law_some", "_law_great"] (defScope s_law_side) := ⟨rfl, rfl, rfl, by decide +kernel, rfl, by decide +kernel, by decide +kernel⟩
def d_law_side : He.DefD := ⟨("_law_side", none), "_law_side", "_law_side", defArgs s_law_side, defBody s_law_side, defScope s_law_side, [], []⟩
abbrev s_law_length : Stmt := top 40
theorem sc_law_length : FnScope ["_law_d", "_law_some", "_law_parts_of_it"] ["_law_d", "_law_some"] (defScope s_law_length) := ⟨rfl, rfl, rfl, by decide +kernel, rfl, by decide +kernel, by decide +kernel⟩
def d_law_length : He.DefD := ⟨("_law_length", none), "_law_length", "_law_length", defArgs s_law_length, defBody s_law_length, defScope s_law_length, [], []⟩
abbrev s_law_heap : Stmt := top 41
theorem sc_law_heap : FnScope ["_law_d", "_law_cells", "_law_found", "_law_k", "_law_some"] ["_law_d", "_law_cells"] (defScope s_law_heap) := ⟨rfl, rfl, rfl, by decide +kernel, rfl, by decide +kernel, by decide +kernel⟩
def d_law_heap : He.DefD := ⟨("_law_heap", none), "_law_heap", "_law_heap", defArgs s_law_heap, defBody s_law_heap, defScope s_law_heap, [], []⟩
abbrev s_law_is_side : Stmt := top 42
theorem sc_law_is_side : FnScope ["_law_d", "_law_thing", "_law_one", "_law_a", "_law_b", "_law_n"] ["_law_d", "_law_thing"] (defScope s_law_is_side) := ⟨rfl, rfl, rfl, by decide +kernel, rfl, by decide +kernel, by decide +kernel⟩
def d_law_is_side : He.DefD := ⟨("_law_is_side", none), "_law_is_side", "_law_is_side", defArgs s_law_is_side, defBody s_law_is_side, defScope s_law_is_side, [], []⟩
abbrev s_law_tab : Stmt := top 43
theorem sc_law_tab : FnScope ["_law_heap_here", "_law_bottom", "_law_width", "_law_height", "_law_places", "_law_share", "_law_k"] ["_law_heap_here"] (defScope s_law_tab) := ⟨rfl, rfl, rfl, by decide +kernel, rfl, by decide +kernel, by decide +kernel⟩
def d_law_tab : He.DefD := ⟨("_law_tab", none), "_law_tab", "_law_tab", defArgs s_law_tab, defBody s_law_tab, defScope s_law_tab, [], []⟩
abbrev s_law_like : Stmt := top 44
theorem sc_law_like : FnScope ["_law_one", "_law_other", "_law_first", "_law_second", "_law_place"] ["_law_one", "_law_other"] (defScope s_law_like) := ⟨rfl, rfl, rfl, by decide +kernel, rfl, by decide +kernel, by decide +kernel⟩
def d_law_like : He.DefD := ⟨("_law_like", none), "_law_like", "_law_like", defArgs s_law_like, defBody s_law_like, defScope s_law_like, [], []⟩
abbrev s_law_due : Stmt := top 45
theorem sc_law_due : FnScope ["_law_d", "_law_heap_here", "_law_base", "_law_due_here", "_law_k", "_law_bottom", "_law_a", "_law_b", "_law_width", "_law_height", "_law_many"] ["_law_d", "_law_heap_here", "_law_base"] (defScope s_law_due) := ⟨rfl, rfl, rfl, by decide +kernel, rfl, by decide +kernel, by decide +kernel⟩
def d_law_due : He.DefD := ⟨("_law_due", none), "_law_due", "_law_due", defArgs s_law_due, defBody s_law_due, defScope s_law_due, [], []⟩
abbrev s_law_right : Stmt := top 46
theorem sc_law_right : FnScope ["_law_d", "_law_found", "_law_due_here", "_law_one", "_law_wanted", "_law_height"] ["_law_d", "_law_found", "_law_due_here"] (defScope s_law_right) := ⟨rfl, rfl, rfl, by decide +kernel, rfl, by decide +kernel, by decide +kernel⟩
def d_law_right : He.DefD := ⟨("_law_right", none), "_law_right", "_law_right", defArgs s_law_right, defBody s_law_right, defScope s_law_right, [], []⟩
abbrev s_law : Stmt := top 47
theorem sc_law : FnScope ["_law_script", "_law_d", "_law_heap_here", "_law_base", "_law_width", "_law_height", "_law_k", "_law_handed", "_law_found", "_law_kept"] ["_law_script"] (defScope s_law) := ⟨rfl, rfl, rfl, by decide +kernel, rfl, by decide +kernel, by decide +kernel⟩
def d_law : He.DefD := ⟨("law", none), "law", "law", defArgs s_law, defBody s_law, defScope s_law, [], []⟩
def fn : List He.DefD := [d_is_whole, d_divisor, d_lowest, d_length, d_added, d_taken, d_timed, d_sign_of, d_under, d_fraction, d_parts, d_by_parts, d_minus, d_times, d_by, d_first_base, d_next_base, d_cross, d_counts, d_is_served, d_common, d_serving, d_heights_of, d_normal_heap, d_law_cell, d_law_whole, d_law_digits, d_law_divisor, d_law_root, d_law_fraction, d_law_above, d_law_side, d_law_length, d_law_heap, d_law_is_side, d_law_tab, d_law_like, d_law_due, d_law_right, d_law]
def ts : List He.Tab := []
def fa : List He.Fa := [.glo "is_whole", .glo "divisor", .glo "lowest", .glo "length", .glo "added", .glo "taken", .glo "timed", .glo "sign_of", .glo "under", .glo "fraction", .glo "parts", .glo "by_parts", .glo "minus", .glo "times", .glo "by", .glo "first_base", .glo "next_base", .glo "cross", .glo "counts", .glo "is_served", .glo "common", .glo "serving", .glo "heights_of", .glo "normal_heap", .glo "_law_cell", .glo "_law_whole", .glo "_law_digits", .glo "_law_divisor", .glo "_law_root", .glo "_law_fraction", .glo "_law_above", .glo "_law_side", .glo "_law_length", .glo "_law_heap", .glo "_law_is_side", .glo "_law_tab", .glo "_law_like", .glo "_law_due", .glo "_law_right", .glo "law", .free "abs", .free "bool", .free "int", .free "isinstance", .free "len", .free "list", .free "range", .free "tuple", .free "zip", .glo "NoLength", .exc "NoLength"]
def ex (K : PySem.W.Frag) : Bool := true
def names0 : List PySem.Str := ["YardError", "NoLength", "is_whole", "divisor", "lowest", "length", "added", "taken", "timed", "sign_of", "under", "fraction", "parts", "by_parts", "minus", "times", "by", "first_base", "next_base", "cross"]
def names1 : List PySem.Str := ["counts", "is_served", "common", "serving", "heights_of", "normal_heap", "_law_cell", "_law_whole", "_law_digits", "_law_divisor", "_law_root", "_law_fraction", "_law_above", "_law_side", "_law_length", "_law_heap", "_law_is_side", "_law_tab", "_law_like", "_law_due"]
def names2 : List PySem.Str := ["_law_right"]
def names : List PySem.Str := names0 ++ names1 ++ names2
abbrev Rw : PySem.W.OpenRow := PySem.W.OpenLaw.row PySem.Challenge.rw_boardglue_k51_normal_heaps
abbrev hk : PySem.W.Hook := He.hookX 5 fa fn ts [] ex
def ob (s : PySem.W.SharedT) : He.AlX := He.obsX 5 fa fn ts [] ex (HandSHeadRun.getT s)
theorem ob_eq (s : PySem.W.SharedT) : ob s = hk.obs s.abs := He.obsX_eq (HandSHeadRun.getT_eq s)
theorem run (w : World) : HandSHeadRun.RunEq Rw (PySem.W.view Rw.prog [47]) hk ob 20000 names w := by
  intro os
  kernel_rfl
end
end DL

set_option autoImplicit false
set_option linter.all false
/-! plain arithmetic: fractions and lengths in lowest terms -/
namespace MB
theorem ratne {b : Int} (h : b ≠ 0) : (b : Rat) ≠ 0 := by
  intro e
  exact h (by exact_mod_cast e)
theorem rnum (q : Rat) : (q.num : Rat) = q * ((q.den : Int) : Rat) := by
  have h : ((q.den : Int) : Rat) ≠ 0 := ratne (by have := q.den_nz; omega)
  have h1 := Rat.num_divInt_den q
  rw [Rat.divInt_eq_div] at h1
  grind
theorem rdpos (q : Rat) : 0 < (q.den : Int) := by exact_mod_cast q.den_pos
theorem rgcd (q : Rat) : Int.gcd q.num q.den = 1 := by
  have := q.reduced
  simpa [Int.gcd, Nat.Coprime] using this
theorem dvd_of_gcd {a b c : Int} (h : a ∣ b * c) (g : Int.gcd a c = 1) : a ∣ b := by
  have : a ∣ (Int.gcd a c : Int) * b := Int.dvd_gcd_mul_iff_dvd_mul.mpr (by rw [Int.mul_comm]; exact h)
  rw [g] at this
  simpa using this
/-- two fractions in lowest terms, of one worth, are one -/
theorem fr_uniq {a b : Int} {q : Rat} (hb : 0 < b) (hg : Int.gcd a b = 1) (h : q = (a : Rat) / (b : Rat)) : q.num = a ∧ (q.den : Int) = b := by
  have hb0 : (b : Rat) ≠ 0 := ratne (by omega)
  have h1 : q * (b : Rat) = a := by grind
  have h2 := rnum q
  have e : q.num * b = a * q.den := by
    have : ((q.num * b : Int) : Rat) = ((a * (q.den : Int) : Int) : Rat) := by
      rw [Rat.intCast_mul, Rat.intCast_mul, h2]
      grind
    exact_mod_cast this
  have hq := rdpos q
  have hq1 := rgcd q
  have d1 : (q.den : Int) ∣ b := by
    have : (q.den : Int) ∣ b * q.num := ⟨a, by rw [Int.mul_comm, e, Int.mul_comm]⟩
    exact dvd_of_gcd this (by rw [Int.gcd_comm]; exact hq1)
  have d2 : b ∣ (q.den : Int) := by
    have : b ∣ q.den * a := ⟨q.num, by rw [Int.mul_comm, ← e, Int.mul_comm]⟩
    exact dvd_of_gcd this (by rw [Int.gcd_comm]; exact hg)
  have eb : (q.den : Int) = b := Int.dvd_antisymm (by omega) (by omega) d1 d2
  refine ⟨?_, eb⟩
  rw [eb] at e
  exact Int.eq_of_mul_eq_mul_right (by omega) e
/-- divided by a divisor -/
theorem fdiv_dvd {a g : Int} (hg : g ≠ 0) (h : g ∣ a) : a.fdiv g * g = a := by
  rw [Int.fdiv_eq_ediv_of_dvd h]
  exact Int.ediv_mul_cancel h
/-- the sign's share -/
def shr (g : Nat) (n : Int) : Int := if n < 0 then 0 - (g : Int) else g
theorem shr_ne {g : Nat} {n : Int} (h : g ≠ 0) : shr g n ≠ 0 := by unfold shr; split <;> omega
theorem shr_dvd {g : Nat} {n a : Int} (h : (g : Int) ∣ a) : shr g n ∣ a := by
  unfold shr
  split
  · rw [Int.zero_sub]; exact Int.neg_dvd.mpr h
  · exact h
theorem gcd_fdiv {a b : Int} {g : Nat} {n : Int} (hg : g ≠ 0) (ha : (g : Int) ∣ a) (hb : (g : Int) ∣ b) : Int.gcd (a.fdiv (shr g n)) (b.fdiv (shr g n)) * g = Int.gcd a b := by
  have e1 := fdiv_dvd (shr_ne (n := n) hg) (shr_dvd (n := n) ha)
  have e2 := fdiv_dvd (shr_ne (n := n) hg) (shr_dvd (n := n) hb)
  have : Int.gcd (a.fdiv (shr g n) * shr g n) (b.fdiv (shr g n) * shr g n) = Int.gcd a b := by rw [e1, e2]
  rw [Int.gcd_mul_right] at this
  have hs : (shr g n).natAbs = g := by unfold shr; split <;> omega
  rw [hs] at this
  exact this
theorem fdiv_pos {n : Int} {g : Nat} (hg : g ≠ 0) (hn : n ≠ 0) (h : (g : Int) ∣ n) : 0 < n.fdiv (shr g n) := by
  have e := fdiv_dvd (shr_ne (n := n) hg) (shr_dvd (n := n) h)
  generalize n.fdiv (shr g n) = k at e
  unfold shr at e
  have hg' : (0 : Int) < g := by omega
  rcases Int.lt_trichotomy k 0 with hk | hk | hk
  · exfalso
    split at e
    · have : 0 < k * (0 - (g : Int)) := Int.mul_pos_of_neg_of_neg hk (by omega)
      omega
    · have := Int.mul_neg_of_neg_of_pos hk hg'
      omega
  · subst hk
    exfalso
    rw [Int.zero_mul] at e
    omega
  · exact hk
/-- a fraction brought to lowest terms -/
theorem fr_of {a b : Int} (hb : b ≠ 0) : a.fdiv (shr (Int.gcd a b) b) = ((a : Rat) / (b : Rat)).num ∧ b.fdiv (shr (Int.gcd a b) b) = (((a : Rat) / (b : Rat)).den : Int) := by
  have hg : Int.gcd a b ≠ 0 := by
    intro e
    exact hb (Int.gcd_eq_zero_iff.mp e).2
  have ha' := Int.gcd_dvd_left a b
  have hb' := Int.gcd_dvd_right a b
  have e1 := fdiv_dvd (shr_ne (n := b) hg) (shr_dvd (n := b) ha')
  have e2 := fdiv_dvd (shr_ne (n := b) hg) (shr_dvd (n := b) hb')
  have hp := fdiv_pos hg hb hb'
  have hs := shr_ne (n := b) hg
  have hgg := gcd_fdiv (n := b) hg ha' hb'
  generalize shr (Int.gcd a b) b = s at *
  generalize a.fdiv s = A at *
  generalize b.fdiv s = B at *
  have hone : Int.gcd A B = 1 := by
    have : Int.gcd A B * Int.gcd a b = 1 * Int.gcd a b := by rw [hgg, Nat.one_mul]
    exact Nat.eq_of_mul_eq_mul_right (by omega) this
  have hB : (B : Rat) ≠ 0 := ratne (by omega)
  have hS : (s : Rat) ≠ 0 := ratne hs
  have h := fr_uniq (q := (a : Rat) / (b : Rat)) hp hone (by
    rw [← e1, ← e2, Rat.intCast_mul, Rat.intCast_mul]
    grind)
  exact ⟨h.1.symm, h.2.symm⟩

/-! ### lengths -/
structure Ln where
  a : Int
  b : Int
  n : Int
/-- in lowest terms -/
def Low (a b n : Int) : Prop := 0 < n ∧ Int.gcd (Int.gcd a b) n = 1
theorem gcd3_mul {a b n : Int} {k : Int} : Int.gcd (Int.gcd (a * k) (b * k)) (n * k) = Int.gcd (Int.gcd a b) n * k.natAbs := by
  rw [Int.gcd_mul_right]
  have : ((Int.gcd a b * k.natAbs : Nat) : Int) = (Int.gcd a b : Int) * (k.natAbs : Int) := by push_cast; rfl
  rw [this]
  have e : Int.gcd ((Int.gcd a b : Int) * (k.natAbs : Int)) (n * k) = Int.gcd ((Int.gcd a b : Int) * k) (n * k) := by
    simp only [Int.gcd, Int.natAbs_mul, Int.natAbs_natCast]
  rw [e, Int.gcd_mul_right]
theorem low_uniq {a b n a' b' n' : Int} (h : Low a b n) (h' : Low a' b' n') (e1 : a * n' = a' * n) (e2 : b * n' = b' * n) : a = a' ∧ b = b' ∧ n = n' := by
  have g1 := gcd3_mul (a := a) (b := b) (n := n) (k := n')
  have g2 := gcd3_mul (a := a') (b := b') (n := n') (k := n)
  rw [h.2] at g1
  rw [h'.2] at g2
  rw [e1, e2, Int.mul_comm n n'] at g1
  have : n'.natAbs = n.natAbs := by omega
  have hn := h.1
  have hn' := h'.1
  have en : n = n' := by omega
  subst en
  exact ⟨Int.eq_of_mul_eq_mul_right (by omega) e1, Int.eq_of_mul_eq_mul_right (by omega) e2, rfl⟩
/-- the number that all three are divided by -/
def g3 (a b n : Int) : Nat := Int.gcd (Int.gcd a b) n
def lA (a b n : Int) : Int := a.fdiv (shr (g3 a b n) n)
def lB (a b n : Int) : Int := b.fdiv (shr (g3 a b n) n)
def lN (a b n : Int) : Int := n.fdiv (shr (g3 a b n) n)
theorem g3_ne {a b n : Int} (hn : n ≠ 0) : g3 a b n ≠ 0 := by
  intro e
  exact hn (Int.gcd_eq_zero_iff.mp e).2
theorem g3_dvd {a b n : Int} : (g3 a b n : Int) ∣ a ∧ (g3 a b n : Int) ∣ b ∧ (g3 a b n : Int) ∣ n := by
  have h1 : (g3 a b n : Int) ∣ (Int.gcd a b : Int) := Int.gcd_dvd_left _ _
  exact ⟨Int.dvd_trans h1 (Int.gcd_dvd_left _ _), Int.dvd_trans h1 (Int.gcd_dvd_right _ _), Int.gcd_dvd_right _ _⟩
theorem lmul {a b n : Int} (hn : n ≠ 0) : lA a b n * shr (g3 a b n) n = a ∧ lB a b n * shr (g3 a b n) n = b ∧ lN a b n * shr (g3 a b n) n = n := by
  obtain ⟨h1, h2, h3⟩ := g3_dvd (a := a) (b := b) (n := n)
  have hs := shr_ne (n := n) (g3_ne (a := a) (b := b) hn)
  exact ⟨fdiv_dvd hs (shr_dvd h1), fdiv_dvd hs (shr_dvd h2), fdiv_dvd hs (shr_dvd h3)⟩
theorem low_of {a b n : Int} (hn : n ≠ 0) : Low (lA a b n) (lB a b n) (lN a b n) := by
  have hg := g3_ne (a := a) (b := b) hn
  refine ⟨fdiv_pos hg hn g3_dvd.2.2, ?_⟩
  obtain ⟨e1, e2, e3⟩ := lmul (a := a) (b := b) hn
  have h := gcd3_mul (a := lA a b n) (b := lB a b n) (n := lN a b n) (k := shr (g3 a b n) n)
  rw [e1, e2, e3] at h
  have hs : (shr (g3 a b n) n).natAbs = g3 a b n := by unfold shr; split <;> omega
  rw [hs] at h
  have h' : 1 * g3 a b n = Int.gcd (Int.gcd (lA a b n) (lB a b n)) (lN a b n) * g3 a b n := by rw [Nat.one_mul]; exact h
  exact (Nat.eq_of_mul_eq_mul_right (by omega) h').symm
theorem lcross {a b n : Int} (hn : n ≠ 0) : lA a b n * n = a * lN a b n ∧ lB a b n * n = b * lN a b n := by
  obtain ⟨e1, e2, e3⟩ := lmul (a := a) (b := b) hn
  generalize lA a b n = A at *
  generalize lB a b n = B at *
  generalize lN a b n = N at *
  generalize shr (g3 a b n) n = s at *
  subst e1 e2 e3
  constructor <;> grind
/-- lowest depends on the two fractions alone -/
theorem low_eq {a b n a' b' n' : Int} (hn : n ≠ 0) (hn' : n' ≠ 0) (e1 : a * n' = a' * n) (e2 : b * n' = b' * n) : lA a b n = lA a' b' n' ∧ lB a b n = lB a' b' n' ∧ lN a b n = lN a' b' n' := by
  obtain ⟨c1, c2⟩ := lcross (a := a) (b := b) hn
  obtain ⟨c1', c2'⟩ := lcross (a := a') (b := b') hn'
  refine low_uniq (low_of hn) (low_of hn') ?_ ?_
  · have : lA a b n * lN a' b' n' * (n * n') = lA a' b' n' * lN a b n * (n * n') := by grind
    exact Int.eq_of_mul_eq_mul_right (Int.mul_ne_zero hn hn') this
  · have : lB a b n * lN a' b' n' * (n * n') = lB a' b' n' * lN a b n * (n * n') := by grind
    exact Int.eq_of_mul_eq_mul_right (Int.mul_ne_zero hn hn') this
theorem low_self {a b n : Int} (h : Low a b n) : lA a b n = a ∧ lB a b n = b ∧ lN a b n = n := by
  have hn : n ≠ 0 := by have := h.1; omega
  have c := lcross (a := a) (b := b) hn
  exact low_uniq (low_of hn) h c.1 c.2
/-! fractions, as lengths whose second part is 0 -/
def fT (a b : Int) : Int := lA a 0 b
def fB (a b : Int) : Int := lN a 0 b
def LowF (a b : Int) : Prop := 0 < b ∧ Int.gcd a b = 1
theorem g3_zero {a b : Int} : g3 a 0 b = Int.gcd a b := by unfold g3; rw [Int.gcd_zero]; simp [Int.gcd]
theorem fT_eq {a b : Int} : fT a b = a.fdiv (shr (Int.gcd a b) b) := by unfold fT lA; rw [g3_zero]
theorem fB_eq {a b : Int} : fB a b = b.fdiv (shr (Int.gcd a b) b) := by unfold fB lN; rw [g3_zero]
theorem lowF_low {a b : Int} : LowF a b ↔ Low a 0 b := by
  unfold LowF Low
  have : Int.gcd (Int.gcd a 0) b = Int.gcd a b := g3_zero
  rw [this]
theorem lowF_of {a b : Int} (hb : b ≠ 0) : LowF (fT a b) (fB a b) := by
  rw [lowF_low]
  have h := low_of (a := a) (b := 0) hb
  have e : lB a 0 b = 0 := by unfold lB; exact Int.zero_fdiv _
  rw [e] at h
  exact h
theorem lowF_self {a b : Int} (h : LowF a b) : fT a b = a ∧ fB a b = b := by
  have := low_self (lowF_low.mp h)
  exact ⟨this.1, this.2.2⟩
theorem fB_pos {a b : Int} (hb : b ≠ 0) : 0 < fB a b := (lowF_of hb).1
end MB

set_option Elab.async false
set_option linter.all false
set_option maxRecDepth 100000
set_option maxHeartbeats 1000000
set_option autoImplicit false
/-! what the defs of the lengths are worth -/
namespace DL
open PySem L2 MB
theorem divisor_loop : ∀ (k : Nat) (a b : Int), b.natAbs ≤ k → ∃ g : Int, g.natAbs = Int.gcd a b ∧ sWhile lt1_divisor lb1_divisor [some (.d (.int a)), some (.d (.int b))] = .nx [some (.d (.int g)), some (.d (.int 0))] := by
  intro k
  induction k with
  | zero =>
    intro a b h
    have hb : b = 0 := by omega
    subst hb
    refine ⟨a, by simp, ?_⟩
    rw [ev_while]
    simp only [lt1_divisor, ev_seq, seq_nx, seq_rt, seq_ex, seq_bk, seq_ct, seq_ite, fl_ok, fl_ex, fl_ite, ev_set, kSet_ev, ev_ret, ev_nx, ev_raise, ev_if, kIf_ev, ev_par, kPar_ev, kId_ev, ev_asg, kAsg_ev, ev_for, kFor_ev, ev_V, dVg_ok, ev_C, ev_1, ev_2, bind2_ok, bind2_ite1, bind2_ite2, bind_ite, ev_A, ev_nil, ev_cons, kCons_ev, ev_T, toB_ev, ev_and, ev_or, ev_not, kAnd_ev, kOr_ev, kNot_ev, ev_andV, ev_notV, kAndV_ev, kNotV_ev, tup_ev, lst_ev, call_ev, ev_fn, startE_0, startE_s, startE_c, fin_rt, fin_nx, fin_ex, fin_ite, ix_t0, ix_t1, ix_t2, ix_t3, ix_l0, ix_l1, ix_l2, len_l, len_t1, len_t2, len_t3, len_t4, beq_self_eq_true, ev_iL, ev_iT, asL_ev, asT_ev, ev_iA, ev_P, toI_ev, ev_P0, ev_sl, kSl_ev, put_1, gAdd_i, gSub_i, gMul_i, gDiv_p, gMod_p, gPow_l, gShl_l, gShr_l, gLt_i, gLe_i, gGt_i, gGe_i, gEq_i, gNe_i, gAbs_i, gInt_i, gInt_b, gEq_s, gNe_s, gEq_b, gNe_b, gEq_2, gNe_2, gEq_3, gNe_3, gEq_22, gNe_22, DL.R.bind_ok, DL.R.bind_ex, ev_setL, kSetL_ev, ev_lDisp, kDisp_ev, ev_lList, lOf_l, lOf_t, ev_frz, frz_l, frz_d, frz_n, ev_lend, lend_l, lend_d, atom_i, atom_b, atom_s, ev_lendB, lendB_l, lendB_d, ev_app, app_l, kApp_ev, ev_put, put_l, ev_ixO, ixO_l, ixO_d, put_m, putAll_c, putAll_n, ev_lc, kLst_ev, ev_lcL, wipe_n, wipe_c, r1_2, r1_3, bits_ev, List.getElem?_cons_zero, List.getElem?_cons_succ, List.set_cons_zero, List.set_cons_succ, List.length_cons, List.length_nil, List.length_map, List.append_nil, List.cons_append, List.nil_append, ev_if, turn_nx, turn_ct, turn_bk, turn_rt, turn_ite, kWh_ev, isi_int_int, isi_bool_int, isi_int_bool, isi_bool_bool, isi_int_str, isi_int_none, isi_int_list, isi_int_tup, isi_bool_str, isi_bool_none, isi_bool_list, isi_bool_tup, isi_tup_tup, isi_tup_int, isi_tup_bool, isi_tup_str, isi_tup_none, isi_tup_list, isi_list_list, isi_list_tup, isi_list_int, isi_list_bool, isi_list_str, isi_list_none, isi_str_str, isi_str_int, isi_str_bool, isi_str_none, isi_str_list, isi_str_tup, decide_true, decide_false, not_true_eq_false, not_false_eq_true, ne_eq, decide_eq_true_eq, Bool.not_eq_true', decide_eq_false_iff_not, Bool.not_true, Bool.not_false, Bool.false_eq_true, if_true, if_false, reduceIte]
  | succ k ih =>
    intro a b h
    by_cases hb : b = 0
    · subst hb
      refine ⟨a, by simp, ?_⟩
      rw [ev_while]
      simp only [lt1_divisor, ev_seq, seq_nx, seq_rt, seq_ex, seq_bk, seq_ct, seq_ite, fl_ok, fl_ex, fl_ite, ev_set, kSet_ev, ev_ret, ev_nx, ev_raise, ev_if, kIf_ev, ev_par, kPar_ev, kId_ev, ev_asg, kAsg_ev, ev_for, kFor_ev, ev_V, dVg_ok, ev_C, ev_1, ev_2, bind2_ok, bind2_ite1, bind2_ite2, bind_ite, ev_A, ev_nil, ev_cons, kCons_ev, ev_T, toB_ev, ev_and, ev_or, ev_not, kAnd_ev, kOr_ev, kNot_ev, ev_andV, ev_notV, kAndV_ev, kNotV_ev, tup_ev, lst_ev, call_ev, ev_fn, startE_0, startE_s, startE_c, fin_rt, fin_nx, fin_ex, fin_ite, ix_t0, ix_t1, ix_t2, ix_t3, ix_l0, ix_l1, ix_l2, len_l, len_t1, len_t2, len_t3, len_t4, beq_self_eq_true, ev_iL, ev_iT, asL_ev, asT_ev, ev_iA, ev_P, toI_ev, ev_P0, ev_sl, kSl_ev, put_1, gAdd_i, gSub_i, gMul_i, gDiv_p, gMod_p, gPow_l, gShl_l, gShr_l, gLt_i, gLe_i, gGt_i, gGe_i, gEq_i, gNe_i, gAbs_i, gInt_i, gInt_b, gEq_s, gNe_s, gEq_b, gNe_b, gEq_2, gNe_2, gEq_3, gNe_3, gEq_22, gNe_22, DL.R.bind_ok, DL.R.bind_ex, ev_setL, kSetL_ev, ev_lDisp, kDisp_ev, ev_lList, lOf_l, lOf_t, ev_frz, frz_l, frz_d, frz_n, ev_lend, lend_l, lend_d, atom_i, atom_b, atom_s, ev_lendB, lendB_l, lendB_d, ev_app, app_l, kApp_ev, ev_put, put_l, ev_ixO, ixO_l, ixO_d, put_m, putAll_c, putAll_n, ev_lc, kLst_ev, ev_lcL, wipe_n, wipe_c, r1_2, r1_3, bits_ev, List.getElem?_cons_zero, List.getElem?_cons_succ, List.set_cons_zero, List.set_cons_succ, List.length_cons, List.length_nil, List.length_map, List.append_nil, List.cons_append, List.nil_append, ev_if, turn_nx, turn_ct, turn_bk, turn_rt, turn_ite, kWh_ev, isi_int_int, isi_bool_int, isi_int_bool, isi_bool_bool, isi_int_str, isi_int_none, isi_int_list, isi_int_tup, isi_bool_str, isi_bool_none, isi_bool_list, isi_bool_tup, isi_tup_tup, isi_tup_int, isi_tup_bool, isi_tup_str, isi_tup_none, isi_tup_list, isi_list_list, isi_list_tup, isi_list_int, isi_list_bool, isi_list_str, isi_list_none, isi_str_str, isi_str_int, isi_str_bool, isi_str_none, isi_str_list, isi_str_tup, decide_true, decide_false, not_true_eq_false, not_false_eq_true, ne_eq, decide_eq_true_eq, Bool.not_eq_true', decide_eq_false_iff_not, Bool.not_true, Bool.not_false, Bool.false_eq_true, if_true, if_false, reduceIte]
    · obtain ⟨g, hg, e⟩ := ih b (a.fmod b) (by
        have h1 := natAbs_fmod_lt a hb
        omega)
      refine ⟨g, ?_, ?_⟩
      · rw [hg]
        have e1 : a = b * a.fdiv b + a.fmod b := (Int.mul_fdiv_add_fmod a b).symm
        have : Int.gcd b (b * a.fdiv b + a.fmod b) = Int.gcd b (a.fmod b) := Int.gcd_mul_left_add_right _ _ _
        rw [← e1] at this
        rw [← this, Int.gcd_comm]
      · rw [ev_while]
        simp only [lt1_divisor, lb1_divisor, ev_seq, seq_nx, seq_rt, seq_ex, seq_bk, seq_ct, seq_ite, fl_ok, fl_ex, fl_ite, ev_set, kSet_ev, ev_ret, ev_nx, ev_raise, ev_if, kIf_ev, ev_par, kPar_ev, kId_ev, ev_asg, kAsg_ev, ev_for, kFor_ev, ev_V, dVg_ok, ev_C, ev_1, ev_2, bind2_ok, bind2_ite1, bind2_ite2, bind_ite, ev_A, ev_nil, ev_cons, kCons_ev, ev_T, toB_ev, ev_and, ev_or, ev_not, kAnd_ev, kOr_ev, kNot_ev, ev_andV, ev_notV, kAndV_ev, kNotV_ev, tup_ev, lst_ev, call_ev, ev_fn, startE_0, startE_s, startE_c, fin_rt, fin_nx, fin_ex, fin_ite, ix_t0, ix_t1, ix_t2, ix_t3, ix_l0, ix_l1, ix_l2, len_l, len_t1, len_t2, len_t3, len_t4, beq_self_eq_true, ev_iL, ev_iT, asL_ev, asT_ev, ev_iA, ev_P, toI_ev, ev_P0, ev_sl, kSl_ev, put_1, gAdd_i, gSub_i, gMul_i, gDiv_p, gMod_p, gPow_l, gShl_l, gShr_l, gLt_i, gLe_i, gGt_i, gGe_i, gEq_i, gNe_i, gAbs_i, gInt_i, gInt_b, gEq_s, gNe_s, gEq_b, gNe_b, gEq_2, gNe_2, gEq_3, gNe_3, gEq_22, gNe_22, DL.R.bind_ok, DL.R.bind_ex, ev_setL, kSetL_ev, ev_lDisp, kDisp_ev, ev_lList, lOf_l, lOf_t, ev_frz, frz_l, frz_d, frz_n, ev_lend, lend_l, lend_d, atom_i, atom_b, atom_s, ev_lendB, lendB_l, lendB_d, ev_app, app_l, kApp_ev, ev_put, put_l, ev_ixO, ixO_l, ixO_d, put_m, putAll_c, putAll_n, ev_lc, kLst_ev, ev_lcL, wipe_n, wipe_c, r1_2, r1_3, bits_ev, List.getElem?_cons_zero, List.getElem?_cons_succ, List.set_cons_zero, List.set_cons_succ, List.length_cons, List.length_nil, List.length_map, List.append_nil, List.cons_append, List.nil_append, ev_if, turn_nx, turn_ct, turn_bk, turn_rt, turn_ite, kWh_ev, isi_int_int, isi_bool_int, isi_int_bool, isi_bool_bool, isi_int_str, isi_int_none, isi_int_list, isi_int_tup, isi_bool_str, isi_bool_none, isi_bool_list, isi_bool_tup, isi_tup_tup, isi_tup_int, isi_tup_bool, isi_tup_str, isi_tup_none, isi_tup_list, isi_list_list, isi_list_tup, isi_list_int, isi_list_bool, isi_list_str, isi_list_none, isi_str_str, isi_str_int, isi_str_bool, isi_str_none, isi_str_list, isi_str_tup, decide_true, decide_false, not_true_eq_false, not_false_eq_true, ne_eq, decide_eq_true_eq, Bool.not_eq_true', decide_eq_false_iff_not, Bool.not_true, Bool.not_false, Bool.false_eq_true, if_true, if_false, reduceIte, gMod_i, hb]
        exact e
theorem divisor_eq (a b : Int) : m_divisor [.int a, .int b] = .ok (.int (Int.gcd a b : Int)) := by
  obtain ⟨g, hg, e⟩ := divisor_loop b.natAbs a b (Nat.le_refl _)
  simp +decide only [m_divisor, den_divisor, ev_seq, seq_nx, seq_rt, seq_ex, seq_bk, seq_ct, seq_ite, fl_ok, fl_ex, fl_ite, ev_set, kSet_ev, ev_ret, ev_nx, ev_raise, ev_if, kIf_ev, ev_par, kPar_ev, kId_ev, ev_asg, kAsg_ev, ev_for, kFor_ev, ev_V, dVg_ok, ev_C, ev_1, ev_2, bind2_ok, bind2_ite1, bind2_ite2, bind_ite, ev_A, ev_nil, ev_cons, kCons_ev, ev_T, toB_ev, ev_and, ev_or, ev_not, kAnd_ev, kOr_ev, kNot_ev, ev_andV, ev_notV, kAndV_ev, kNotV_ev, tup_ev, lst_ev, call_ev, ev_fn, startE_0, startE_s, startE_c, fin_rt, fin_nx, fin_ex, fin_ite, ix_t0, ix_t1, ix_t2, ix_t3, ix_l0, ix_l1, ix_l2, len_l, len_t1, len_t2, len_t3, len_t4, beq_self_eq_true, ev_iL, ev_iT, asL_ev, asT_ev, ev_iA, ev_P, toI_ev, ev_P0, ev_sl, kSl_ev, put_1, gAdd_i, gSub_i, gMul_i, gDiv_p, gMod_p, gPow_l, gShl_l, gShr_l, gLt_i, gLe_i, gGt_i, gGe_i, gEq_i, gNe_i, gAbs_i, gInt_i, gInt_b, gEq_s, gNe_s, gEq_b, gNe_b, gEq_2, gNe_2, gEq_3, gNe_3, gEq_22, gNe_22, DL.R.bind_ok, DL.R.bind_ex, ev_setL, kSetL_ev, ev_lDisp, kDisp_ev, ev_lList, lOf_l, lOf_t, ev_frz, frz_l, frz_d, frz_n, ev_lend, lend_l, lend_d, atom_i, atom_b, atom_s, ev_lendB, lendB_l, lendB_d, ev_app, app_l, kApp_ev, ev_put, put_l, ev_ixO, ixO_l, ixO_d, put_m, putAll_c, putAll_n, ev_lc, kLst_ev, ev_lcL, wipe_n, wipe_c, r1_2, r1_3, bits_ev, List.getElem?_cons_zero, List.getElem?_cons_succ, List.set_cons_zero, List.set_cons_succ, List.length_cons, List.length_nil, List.length_map, List.append_nil, List.cons_append, List.nil_append, ev_if, turn_nx, turn_ct, turn_bk, turn_rt, turn_ite, kWh_ev, isi_int_int, isi_bool_int, isi_int_bool, isi_bool_bool, isi_int_str, isi_int_none, isi_int_list, isi_int_tup, isi_bool_str, isi_bool_none, isi_bool_list, isi_bool_tup, isi_tup_tup, isi_tup_int, isi_tup_bool, isi_tup_str, isi_tup_none, isi_tup_list, isi_list_list, isi_list_tup, isi_list_int, isi_list_bool, isi_list_str, isi_list_none, isi_str_str, isi_str_int, isi_str_bool, isi_str_none, isi_str_list, isi_str_tup, decide_true, decide_false, not_true_eq_false, not_false_eq_true, ne_eq, decide_eq_true_eq, Bool.not_eq_true', decide_eq_false_iff_not, Bool.not_true, Bool.not_false, Bool.false_eq_true, if_true, if_false, reduceIte, e, hg]
theorem bd_shr {a b n : Int} (hn : n ≠ 0) {k : Nat} (h : Bd n k) : Bd (shr (g3 a b n) n) k := ⟨by
  have hd : (g3 a b n : Int) ∣ n := g3_dvd.2.2
  have h1 : (shr (g3 a b n) n).natAbs = g3 a b n := by unfold shr; split <;> omega
  rw [h1]
  have h2 : g3 a b n ∣ n.natAbs := by have := Int.natAbs_dvd_natAbs.mpr hd; simpa using this
  exact Nat.lt_of_le_of_lt (Nat.le_of_dvd (by omega) h2) h.h⟩
theorem lowest_eq (a b n : Int) (hn : n ≠ 0) {k : Nat} [h3 : Bd n k] (hk : k ≤ 9000) : m_lowest [.int a, .int b, .int n] = .ok (.tuple [.int (lA a b n), .int (lB a b n), .int (lN a b n)]) := by
  have hs : shr (g3 a b n) n ≠ 0 := shr_ne (g3_ne hn)
  have bs : Bd (shr (g3 a b n) n) k := bd_shr hn h3
  have e2 : Int.gcd (Int.gcd a b) n = g3 a b n := rfl
  by_cases h : n < 0
  · have e : 0 - ((g3 a b n : Nat) : Int) = shr (g3 a b n) n := by unfold shr; rw [if_pos h]
    simp +decide only [m_lowest, den_lowest, ev_seq, seq_nx, seq_rt, seq_ex, seq_bk, seq_ct, seq_ite, fl_ok, fl_ex, fl_ite, ev_set, kSet_ev, ev_ret, ev_nx, ev_raise, ev_if, kIf_ev, ev_par, kPar_ev, kId_ev, ev_asg, kAsg_ev, ev_for, kFor_ev, ev_V, dVg_ok, ev_C, ev_1, ev_2, bind2_ok, bind2_ite1, bind2_ite2, bind_ite, ev_A, ev_nil, ev_cons, kCons_ev, ev_T, toB_ev, ev_and, ev_or, ev_not, kAnd_ev, kOr_ev, kNot_ev, ev_andV, ev_notV, kAndV_ev, kNotV_ev, tup_ev, lst_ev, call_ev, ev_fn, startE_0, startE_s, startE_c, fin_rt, fin_nx, fin_ex, fin_ite, ix_t0, ix_t1, ix_t2, ix_t3, ix_l0, ix_l1, ix_l2, len_l, len_t1, len_t2, len_t3, len_t4, beq_self_eq_true, ev_iL, ev_iT, asL_ev, asT_ev, ev_iA, ev_P, toI_ev, ev_P0, ev_sl, kSl_ev, put_1, gAdd_i, gSub_i, gMul_i, gDiv_p, gMod_p, gPow_l, gShl_l, gShr_l, gLt_i, gLe_i, gGt_i, gGe_i, gEq_i, gNe_i, gAbs_i, gInt_i, gInt_b, gEq_s, gNe_s, gEq_b, gNe_b, gEq_2, gNe_2, gEq_3, gNe_3, gEq_22, gNe_22, DL.R.bind_ok, DL.R.bind_ex, ev_setL, kSetL_ev, ev_lDisp, kDisp_ev, ev_lList, lOf_l, lOf_t, ev_frz, frz_l, frz_d, frz_n, ev_lend, lend_l, lend_d, atom_i, atom_b, atom_s, ev_lendB, lendB_l, lendB_d, ev_app, app_l, kApp_ev, ev_put, put_l, ev_ixO, ixO_l, ixO_d, put_m, putAll_c, putAll_n, ev_lc, kLst_ev, ev_lcL, wipe_n, wipe_c, r1_2, r1_3, bits_ev, List.getElem?_cons_zero, List.getElem?_cons_succ, List.set_cons_zero, List.set_cons_succ, List.length_cons, List.length_nil, List.length_map, List.append_nil, List.cons_append, List.nil_append, ev_if, turn_nx, turn_ct, turn_bk, turn_rt, turn_ite, kWh_ev, isi_int_int, isi_bool_int, isi_int_bool, isi_bool_bool, isi_int_str, isi_int_none, isi_int_list, isi_int_tup, isi_bool_str, isi_bool_none, isi_bool_list, isi_bool_tup, isi_tup_tup, isi_tup_int, isi_tup_bool, isi_tup_str, isi_tup_none, isi_tup_list, isi_list_list, isi_list_tup, isi_list_int, isi_list_bool, isi_list_str, isi_list_none, isi_str_str, isi_str_int, isi_str_bool, isi_str_none, isi_str_list, isi_str_tup, decide_true, decide_false, not_true_eq_false, not_false_eq_true, ne_eq, decide_eq_true_eq, Bool.not_eq_true', decide_eq_false_iff_not, Bool.not_true, Bool.not_false, Bool.false_eq_true, if_true, if_false, reduceIte, gDiv_i, divisor_eq, e2, h, e, hs, hk, lA, lB, lN]
  · have e : ((g3 a b n : Nat) : Int) = shr (g3 a b n) n := by unfold shr; rw [if_neg h]
    simp +decide only [m_lowest, den_lowest, ev_seq, seq_nx, seq_rt, seq_ex, seq_bk, seq_ct, seq_ite, fl_ok, fl_ex, fl_ite, ev_set, kSet_ev, ev_ret, ev_nx, ev_raise, ev_if, kIf_ev, ev_par, kPar_ev, kId_ev, ev_asg, kAsg_ev, ev_for, kFor_ev, ev_V, dVg_ok, ev_C, ev_1, ev_2, bind2_ok, bind2_ite1, bind2_ite2, bind_ite, ev_A, ev_nil, ev_cons, kCons_ev, ev_T, toB_ev, ev_and, ev_or, ev_not, kAnd_ev, kOr_ev, kNot_ev, ev_andV, ev_notV, kAndV_ev, kNotV_ev, tup_ev, lst_ev, call_ev, ev_fn, startE_0, startE_s, startE_c, fin_rt, fin_nx, fin_ex, fin_ite, ix_t0, ix_t1, ix_t2, ix_t3, ix_l0, ix_l1, ix_l2, len_l, len_t1, len_t2, len_t3, len_t4, beq_self_eq_true, ev_iL, ev_iT, asL_ev, asT_ev, ev_iA, ev_P, toI_ev, ev_P0, ev_sl, kSl_ev, put_1, gAdd_i, gSub_i, gMul_i, gDiv_p, gMod_p, gPow_l, gShl_l, gShr_l, gLt_i, gLe_i, gGt_i, gGe_i, gEq_i, gNe_i, gAbs_i, gInt_i, gInt_b, gEq_s, gNe_s, gEq_b, gNe_b, gEq_2, gNe_2, gEq_3, gNe_3, gEq_22, gNe_22, DL.R.bind_ok, DL.R.bind_ex, ev_setL, kSetL_ev, ev_lDisp, kDisp_ev, ev_lList, lOf_l, lOf_t, ev_frz, frz_l, frz_d, frz_n, ev_lend, lend_l, lend_d, atom_i, atom_b, atom_s, ev_lendB, lendB_l, lendB_d, ev_app, app_l, kApp_ev, ev_put, put_l, ev_ixO, ixO_l, ixO_d, put_m, putAll_c, putAll_n, ev_lc, kLst_ev, ev_lcL, wipe_n, wipe_c, r1_2, r1_3, bits_ev, List.getElem?_cons_zero, List.getElem?_cons_succ, List.set_cons_zero, List.set_cons_succ, List.length_cons, List.length_nil, List.length_map, List.append_nil, List.cons_append, List.nil_append, ev_if, turn_nx, turn_ct, turn_bk, turn_rt, turn_ite, kWh_ev, isi_int_int, isi_bool_int, isi_int_bool, isi_bool_bool, isi_int_str, isi_int_none, isi_int_list, isi_int_tup, isi_bool_str, isi_bool_none, isi_bool_list, isi_bool_tup, isi_tup_tup, isi_tup_int, isi_tup_bool, isi_tup_str, isi_tup_none, isi_tup_list, isi_list_list, isi_list_tup, isi_list_int, isi_list_bool, isi_list_str, isi_list_none, isi_str_str, isi_str_int, isi_str_bool, isi_str_none, isi_str_list, isi_str_tup, decide_true, decide_false, not_true_eq_false, not_false_eq_true, ne_eq, decide_eq_true_eq, Bool.not_eq_true', decide_eq_false_iff_not, Bool.not_true, Bool.not_false, Bool.false_eq_true, if_true, if_false, reduceIte, gDiv_i, divisor_eq, e2, h, e, hs, hk, lA, lB, lN]
theorem is_whole_int (z : Int) : m_is_whole [.int z] = .ok (.bool true) := by
  simp +decide only [m_is_whole, den_is_whole, ev_seq, seq_nx, seq_rt, seq_ex, seq_bk, seq_ct, seq_ite, fl_ok, fl_ex, fl_ite, ev_set, kSet_ev, ev_ret, ev_nx, ev_raise, ev_if, kIf_ev, ev_par, kPar_ev, kId_ev, ev_asg, kAsg_ev, ev_for, kFor_ev, ev_V, dVg_ok, ev_C, ev_1, ev_2, bind2_ok, bind2_ite1, bind2_ite2, bind_ite, ev_A, ev_nil, ev_cons, kCons_ev, ev_T, toB_ev, ev_and, ev_or, ev_not, kAnd_ev, kOr_ev, kNot_ev, ev_andV, ev_notV, kAndV_ev, kNotV_ev, tup_ev, lst_ev, call_ev, ev_fn, startE_0, startE_s, startE_c, fin_rt, fin_nx, fin_ex, fin_ite, ix_t0, ix_t1, ix_t2, ix_t3, ix_l0, ix_l1, ix_l2, len_l, len_t1, len_t2, len_t3, len_t4, beq_self_eq_true, ev_iL, ev_iT, asL_ev, asT_ev, ev_iA, ev_P, toI_ev, ev_P0, ev_sl, kSl_ev, put_1, gAdd_i, gSub_i, gMul_i, gDiv_p, gMod_p, gPow_l, gShl_l, gShr_l, gLt_i, gLe_i, gGt_i, gGe_i, gEq_i, gNe_i, gAbs_i, gInt_i, gInt_b, gEq_s, gNe_s, gEq_b, gNe_b, gEq_2, gNe_2, gEq_3, gNe_3, gEq_22, gNe_22, DL.R.bind_ok, DL.R.bind_ex, ev_setL, kSetL_ev, ev_lDisp, kDisp_ev, ev_lList, lOf_l, lOf_t, ev_frz, frz_l, frz_d, frz_n, ev_lend, lend_l, lend_d, atom_i, atom_b, atom_s, ev_lendB, lendB_l, lendB_d, ev_app, app_l, kApp_ev, ev_put, put_l, ev_ixO, ixO_l, ixO_d, put_m, putAll_c, putAll_n, ev_lc, kLst_ev, ev_lcL, wipe_n, wipe_c, r1_2, r1_3, bits_ev, List.getElem?_cons_zero, List.getElem?_cons_succ, List.set_cons_zero, List.set_cons_succ, List.length_cons, List.length_nil, List.length_map, List.append_nil, List.cons_append, List.nil_append, ev_if, turn_nx, turn_ct, turn_bk, turn_rt, turn_ite, kWh_ev, isi_int_int, isi_bool_int, isi_int_bool, isi_bool_bool, isi_int_str, isi_int_none, isi_int_list, isi_int_tup, isi_bool_str, isi_bool_none, isi_bool_list, isi_bool_tup, isi_tup_tup, isi_tup_int, isi_tup_bool, isi_tup_str, isi_tup_none, isi_tup_list, isi_list_list, isi_list_tup, isi_list_int, isi_list_bool, isi_list_str, isi_list_none, isi_str_str, isi_str_int, isi_str_bool, isi_str_none, isi_str_list, isi_str_tup, decide_true, decide_false, not_true_eq_false, not_false_eq_true, ne_eq, decide_eq_true_eq, Bool.not_eq_true', decide_eq_false_iff_not, Bool.not_true, Bool.not_false, Bool.false_eq_true, if_true, if_false, reduceIte]
theorem law_whole_int (z : Int) : m_law_whole [.int z] = .ok (.bool true) := by
  simp +decide only [m_law_whole, den_law_whole, ev_seq, seq_nx, seq_rt, seq_ex, seq_bk, seq_ct, seq_ite, fl_ok, fl_ex, fl_ite, ev_set, kSet_ev, ev_ret, ev_nx, ev_raise, ev_if, kIf_ev, ev_par, kPar_ev, kId_ev, ev_asg, kAsg_ev, ev_for, kFor_ev, ev_V, dVg_ok, ev_C, ev_1, ev_2, bind2_ok, bind2_ite1, bind2_ite2, bind_ite, ev_A, ev_nil, ev_cons, kCons_ev, ev_T, toB_ev, ev_and, ev_or, ev_not, kAnd_ev, kOr_ev, kNot_ev, ev_andV, ev_notV, kAndV_ev, kNotV_ev, tup_ev, lst_ev, call_ev, ev_fn, startE_0, startE_s, startE_c, fin_rt, fin_nx, fin_ex, fin_ite, ix_t0, ix_t1, ix_t2, ix_t3, ix_l0, ix_l1, ix_l2, len_l, len_t1, len_t2, len_t3, len_t4, beq_self_eq_true, ev_iL, ev_iT, asL_ev, asT_ev, ev_iA, ev_P, toI_ev, ev_P0, ev_sl, kSl_ev, put_1, gAdd_i, gSub_i, gMul_i, gDiv_p, gMod_p, gPow_l, gShl_l, gShr_l, gLt_i, gLe_i, gGt_i, gGe_i, gEq_i, gNe_i, gAbs_i, gInt_i, gInt_b, gEq_s, gNe_s, gEq_b, gNe_b, gEq_2, gNe_2, gEq_3, gNe_3, gEq_22, gNe_22, DL.R.bind_ok, DL.R.bind_ex, ev_setL, kSetL_ev, ev_lDisp, kDisp_ev, ev_lList, lOf_l, lOf_t, ev_frz, frz_l, frz_d, frz_n, ev_lend, lend_l, lend_d, atom_i, atom_b, atom_s, ev_lendB, lendB_l, lendB_d, ev_app, app_l, kApp_ev, ev_put, put_l, ev_ixO, ixO_l, ixO_d, put_m, putAll_c, putAll_n, ev_lc, kLst_ev, ev_lcL, wipe_n, wipe_c, r1_2, r1_3, bits_ev, List.getElem?_cons_zero, List.getElem?_cons_succ, List.set_cons_zero, List.set_cons_succ, List.length_cons, List.length_nil, List.length_map, List.append_nil, List.cons_append, List.nil_append, ev_if, turn_nx, turn_ct, turn_bk, turn_rt, turn_ite, kWh_ev, isi_int_int, isi_bool_int, isi_int_bool, isi_bool_bool, isi_int_str, isi_int_none, isi_int_list, isi_int_tup, isi_bool_str, isi_bool_none, isi_bool_list, isi_bool_tup, isi_tup_tup, isi_tup_int, isi_tup_bool, isi_tup_str, isi_tup_none, isi_tup_list, isi_list_list, isi_list_tup, isi_list_int, isi_list_bool, isi_list_str, isi_list_none, isi_str_str, isi_str_int, isi_str_bool, isi_str_none, isi_str_list, isi_str_tup, decide_true, decide_false, not_true_eq_false, not_false_eq_true, ne_eq, decide_eq_true_eq, Bool.not_eq_true', decide_eq_false_iff_not, Bool.not_true, Bool.not_false, Bool.false_eq_true, if_true, if_false, reduceIte]
theorem length_eq (a b n : Int) (hn : n ≠ 0) {k : Nat} [h3 : Bd n k] (hk : k ≤ 9000) : m_length [.int a, .int b, .int n] = .ok (.tuple [.int (lA a b n), .int (lB a b n), .int (lN a b n)]) := by
  simp +decide only [m_length, den_length, ev_seq, seq_nx, seq_rt, seq_ex, seq_bk, seq_ct, seq_ite, fl_ok, fl_ex, fl_ite, ev_set, kSet_ev, ev_ret, ev_nx, ev_raise, ev_if, kIf_ev, ev_par, kPar_ev, kId_ev, ev_asg, kAsg_ev, ev_for, kFor_ev, ev_V, dVg_ok, ev_C, ev_1, ev_2, bind2_ok, bind2_ite1, bind2_ite2, bind_ite, ev_A, ev_nil, ev_cons, kCons_ev, ev_T, toB_ev, ev_and, ev_or, ev_not, kAnd_ev, kOr_ev, kNot_ev, ev_andV, ev_notV, kAndV_ev, kNotV_ev, tup_ev, lst_ev, call_ev, ev_fn, startE_0, startE_s, startE_c, fin_rt, fin_nx, fin_ex, fin_ite, ix_t0, ix_t1, ix_t2, ix_t3, ix_l0, ix_l1, ix_l2, len_l, len_t1, len_t2, len_t3, len_t4, beq_self_eq_true, ev_iL, ev_iT, asL_ev, asT_ev, ev_iA, ev_P, toI_ev, ev_P0, ev_sl, kSl_ev, put_1, gAdd_i, gSub_i, gMul_i, gDiv_p, gMod_p, gPow_l, gShl_l, gShr_l, gLt_i, gLe_i, gGt_i, gGe_i, gEq_i, gNe_i, gAbs_i, gInt_i, gInt_b, gEq_s, gNe_s, gEq_b, gNe_b, gEq_2, gNe_2, gEq_3, gNe_3, gEq_22, gNe_22, DL.R.bind_ok, DL.R.bind_ex, ev_setL, kSetL_ev, ev_lDisp, kDisp_ev, ev_lList, lOf_l, lOf_t, ev_frz, frz_l, frz_d, frz_n, ev_lend, lend_l, lend_d, atom_i, atom_b, atom_s, ev_lendB, lendB_l, lendB_d, ev_app, app_l, kApp_ev, ev_put, put_l, ev_ixO, ixO_l, ixO_d, put_m, putAll_c, putAll_n, ev_lc, kLst_ev, ev_lcL, wipe_n, wipe_c, r1_2, r1_3, bits_ev, List.getElem?_cons_zero, List.getElem?_cons_succ, List.set_cons_zero, List.set_cons_succ, List.length_cons, List.length_nil, List.length_map, List.append_nil, List.cons_append, List.nil_append, ev_if, turn_nx, turn_ct, turn_bk, turn_rt, turn_ite, kWh_ev, isi_int_int, isi_bool_int, isi_int_bool, isi_bool_bool, isi_int_str, isi_int_none, isi_int_list, isi_int_tup, isi_bool_str, isi_bool_none, isi_bool_list, isi_bool_tup, isi_tup_tup, isi_tup_int, isi_tup_bool, isi_tup_str, isi_tup_none, isi_tup_list, isi_list_list, isi_list_tup, isi_list_int, isi_list_bool, isi_list_str, isi_list_none, isi_str_str, isi_str_int, isi_str_bool, isi_str_none, isi_str_list, isi_str_tup, decide_true, decide_false, not_true_eq_false, not_false_eq_true, ne_eq, decide_eq_true_eq, Bool.not_eq_true', decide_eq_false_iff_not, Bool.not_true, Bool.not_false, Bool.false_eq_true, if_true, if_false, reduceIte, is_whole_int, hn, lowest_eq, hk]
/-- the great number drawn -/
def gr (c k : Int) : Int := (c + k + 1) * 105152070229383420083013462309641843003 % 170141183460469231731687303715884105727
instance bd_gr {c k : Int} : Bd (gr c k) 127 := (bd_emod : Bd (gr c k) _).mono (by decide)
theorem cell_bd {z : Int} (h : Builtin.Int.intBits z ≤ 1048576) : Bd z 1048576 := ⟨lt_of_ib h⟩
instance bd_lA {a b n : Int} {k : Nat} [Bd a k] : Bd (lA a b n) k := bd_fdiv
instance bd_lB {a b n : Int} {k : Nat} [Bd b k] : Bd (lB a b n) k := bd_fdiv
instance bd_lN {a b n : Int} {k : Nat} [Bd n k] : Bd (lN a b n) k := bd_fdiv
/-! lengths as data -/
theorem added_eq (a b n a' b' n' : Int) (hn : n * n' ≠ 0) {k1 k2 k3 k4 k5 k6 : Nat} [Bd a k1] [Bd b k2] [Bd n k3] [Bd a' k4] [Bd b' k5] [Bd n' k6] (h1 : k1 ≤ 4000000) (h2 : k2 ≤ 4000000) (h3 : k3 ≤ 4000) (h4 : k4 ≤ 4000000) (h5 : k5 ≤ 4000000) (h6 : k6 ≤ 4000) :
    m_added [.tuple [.int a, .int b, .int n], .tuple [.int a', .int b', .int n']] = .ok (.tuple [.int (lA (a * n' + a' * n) (b * n' + b' * n) (n * n')), .int (lB (a * n' + a' * n) (b * n' + b' * n) (n * n')), .int (lN (a * n' + a' * n) (b * n' + b' * n) (n * n'))]) := by
  have i1 : k3 + k6 ≤ 134217728 := by omega
  have i2 : k1 + k6 ≤ 134217728 := by omega
  have i3 : k4 + k3 ≤ 134217728 := by omega
  have i4 : k2 + k6 ≤ 134217728 := by omega
  have i5 : k5 + k3 ≤ 134217728 := by omega
  have i6 : k3 + k6 ≤ 9000 := by omega
  simp +decide only [m_added, den_added, ev_seq, seq_nx, seq_rt, seq_ex, seq_bk, seq_ct, seq_ite, fl_ok, fl_ex, fl_ite, ev_set, kSet_ev, ev_ret, ev_nx, ev_raise, ev_if, kIf_ev, ev_par, kPar_ev, kId_ev, ev_asg, kAsg_ev, ev_for, kFor_ev, ev_V, dVg_ok, ev_C, ev_1, ev_2, bind2_ok, bind2_ite1, bind2_ite2, bind_ite, ev_A, ev_nil, ev_cons, kCons_ev, ev_T, toB_ev, ev_and, ev_or, ev_not, kAnd_ev, kOr_ev, kNot_ev, ev_andV, ev_notV, kAndV_ev, kNotV_ev, tup_ev, lst_ev, call_ev, ev_fn, startE_0, startE_s, startE_c, fin_rt, fin_nx, fin_ex, fin_ite, ix_t0, ix_t1, ix_t2, ix_t3, ix_l0, ix_l1, ix_l2, len_l, len_t1, len_t2, len_t3, len_t4, beq_self_eq_true, ev_iL, ev_iT, asL_ev, asT_ev, ev_iA, ev_P, toI_ev, ev_P0, ev_sl, kSl_ev, put_1, gAdd_i, gSub_i, gMul_i, gDiv_p, gMod_p, gPow_l, gShl_l, gShr_l, gLt_i, gLe_i, gGt_i, gGe_i, gEq_i, gNe_i, gAbs_i, gInt_i, gInt_b, gEq_s, gNe_s, gEq_b, gNe_b, gEq_2, gNe_2, gEq_3, gNe_3, gEq_22, gNe_22, DL.R.bind_ok, DL.R.bind_ex, ev_setL, kSetL_ev, ev_lDisp, kDisp_ev, ev_lList, lOf_l, lOf_t, ev_frz, frz_l, frz_d, frz_n, ev_lend, lend_l, lend_d, atom_i, atom_b, atom_s, ev_lendB, lendB_l, lendB_d, ev_app, app_l, kApp_ev, ev_put, put_l, ev_ixO, ixO_l, ixO_d, put_m, putAll_c, putAll_n, ev_lc, kLst_ev, ev_lcL, wipe_n, wipe_c, r1_2, r1_3, bits_ev, List.getElem?_cons_zero, List.getElem?_cons_succ, List.set_cons_zero, List.set_cons_succ, List.length_cons, List.length_nil, List.length_map, List.append_nil, List.cons_append, List.nil_append, ev_if, turn_nx, turn_ct, turn_bk, turn_rt, turn_ite, kWh_ev, isi_int_int, isi_bool_int, isi_int_bool, isi_bool_bool, isi_int_str, isi_int_none, isi_int_list, isi_int_tup, isi_bool_str, isi_bool_none, isi_bool_list, isi_bool_tup, isi_tup_tup, isi_tup_int, isi_tup_bool, isi_tup_str, isi_tup_none, isi_tup_list, isi_list_list, isi_list_tup, isi_list_int, isi_list_bool, isi_list_str, isi_list_none, isi_str_str, isi_str_int, isi_str_bool, isi_str_none, isi_str_list, isi_str_tup, decide_true, decide_false, not_true_eq_false, not_false_eq_true, ne_eq, decide_eq_true_eq, Bool.not_eq_true', decide_eq_false_iff_not, Bool.not_true, Bool.not_false, Bool.false_eq_true, if_true, if_false, reduceIte, i1, i2, i3, i4, i5, i6, lowest_eq, hn]
theorem taken_eq (a b n a' b' n' : Int) (hn : n * n' ≠ 0) {k1 k2 k3 k4 k5 k6 : Nat} [Bd a k1] [Bd b k2] [Bd n k3] [Bd a' k4] [Bd b' k5] [Bd n' k6] (h1 : k1 ≤ 3900000) (h2 : k2 ≤ 3900000) (h3 : k3 ≤ 4000) (h4 : k4 ≤ 3900000) (h5 : k5 ≤ 3900000) (h6 : k6 ≤ 4000) :
    m_taken [.tuple [.int a, .int b, .int n], .tuple [.int a', .int b', .int n']] = .ok (.tuple [.int (lA (a * n' - a' * n) (b * n' - b' * n) (n * n')), .int (lB (a * n' - a' * n) (b * n' - b' * n) (n * n')), .int (lN (a * n' - a' * n) (b * n' - b' * n) (n * n'))]) := by
  have b1 : Bd (0 - a') k4 := by rw [Int.zero_sub]; infer_instance
  have b2 : Bd (0 - b') k5 := by rw [Int.zero_sub]; infer_instance
  have e := added_eq a b n (0 - a') (0 - b') n' hn (by omega) (by omega) h3 (by omega) (by omega) h6
  have e1 : a * n' + (0 - a') * n = a * n' - a' * n := by grind
  have e2 : b * n' + (0 - b') * n = b * n' - b' * n := by grind
  rw [e1, e2] at e
  simp +decide only [m_taken, den_taken, ev_seq, seq_nx, seq_rt, seq_ex, seq_bk, seq_ct, seq_ite, fl_ok, fl_ex, fl_ite, ev_set, kSet_ev, ev_ret, ev_nx, ev_raise, ev_if, kIf_ev, ev_par, kPar_ev, kId_ev, ev_asg, kAsg_ev, ev_for, kFor_ev, ev_V, dVg_ok, ev_C, ev_1, ev_2, bind2_ok, bind2_ite1, bind2_ite2, bind_ite, ev_A, ev_nil, ev_cons, kCons_ev, ev_T, toB_ev, ev_and, ev_or, ev_not, kAnd_ev, kOr_ev, kNot_ev, ev_andV, ev_notV, kAndV_ev, kNotV_ev, tup_ev, lst_ev, call_ev, ev_fn, startE_0, startE_s, startE_c, fin_rt, fin_nx, fin_ex, fin_ite, ix_t0, ix_t1, ix_t2, ix_t3, ix_l0, ix_l1, ix_l2, len_l, len_t1, len_t2, len_t3, len_t4, beq_self_eq_true, ev_iL, ev_iT, asL_ev, asT_ev, ev_iA, ev_P, toI_ev, ev_P0, ev_sl, kSl_ev, put_1, gAdd_i, gSub_i, gMul_i, gDiv_p, gMod_p, gPow_l, gShl_l, gShr_l, gLt_i, gLe_i, gGt_i, gGe_i, gEq_i, gNe_i, gAbs_i, gInt_i, gInt_b, gEq_s, gNe_s, gEq_b, gNe_b, gEq_2, gNe_2, gEq_3, gNe_3, gEq_22, gNe_22, DL.R.bind_ok, DL.R.bind_ex, ev_setL, kSetL_ev, ev_lDisp, kDisp_ev, ev_lList, lOf_l, lOf_t, ev_frz, frz_l, frz_d, frz_n, ev_lend, lend_l, lend_d, atom_i, atom_b, atom_s, ev_lendB, lendB_l, lendB_d, ev_app, app_l, kApp_ev, ev_put, put_l, ev_ixO, ixO_l, ixO_d, put_m, putAll_c, putAll_n, ev_lc, kLst_ev, ev_lcL, wipe_n, wipe_c, r1_2, r1_3, bits_ev, List.getElem?_cons_zero, List.getElem?_cons_succ, List.set_cons_zero, List.set_cons_succ, List.length_cons, List.length_nil, List.length_map, List.append_nil, List.cons_append, List.nil_append, ev_if, turn_nx, turn_ct, turn_bk, turn_rt, turn_ite, kWh_ev, isi_int_int, isi_bool_int, isi_int_bool, isi_bool_bool, isi_int_str, isi_int_none, isi_int_list, isi_int_tup, isi_bool_str, isi_bool_none, isi_bool_list, isi_bool_tup, isi_tup_tup, isi_tup_int, isi_tup_bool, isi_tup_str, isi_tup_none, isi_tup_list, isi_list_list, isi_list_tup, isi_list_int, isi_list_bool, isi_list_str, isi_list_none, isi_str_str, isi_str_int, isi_str_bool, isi_str_none, isi_str_list, isi_str_tup, decide_true, decide_false, not_true_eq_false, not_false_eq_true, ne_eq, decide_eq_true_eq, Bool.not_eq_true', decide_eq_false_iff_not, Bool.not_true, Bool.not_false, Bool.false_eq_true, if_true, if_false, reduceIte, e]
/-! fractions -/
instance bd_fT {a b : Int} {k : Nat} [Bd a k] : Bd (fT a b) k := bd_lA
instance bd_fB {a b : Int} {k : Nat} [Bd b k] : Bd (fB a b) k := bd_lN
theorem bd_shrF {a b : Int} (hb : b ≠ 0) {k : Nat} (h : Bd b k) : Bd (shr (Int.gcd a b) b) k := by
  have := bd_shr (a := a) (b := 0) hb h
  rw [g3_zero] at this
  exact this
theorem gcd_ne {a b : Int} (hb : b ≠ 0) : Int.gcd a b ≠ 0 := fun e => hb (Int.gcd_eq_zero_iff.mp e).2
theorem fraction_eq (t b : Int) (hb : b ≠ 0) {k : Nat} [h3 : Bd b k] (hk : k ≤ 9000) : m_fraction [.int t, .int b] = .ok (.tuple [.int (fT t b), .int (fB t b)]) := by
  have hs : shr (Int.gcd t b) b ≠ 0 := shr_ne (gcd_ne hb)
  have bs : Bd (shr (Int.gcd t b) b) k := bd_shrF hb h3
  by_cases h : b < 0
  · have e : 0 - ((Int.gcd t b : Nat) : Int) = shr (Int.gcd t b) b := by unfold shr; rw [if_pos h]
    simp +decide only [m_fraction, den_fraction, ev_seq, seq_nx, seq_rt, seq_ex, seq_bk, seq_ct, seq_ite, fl_ok, fl_ex, fl_ite, ev_set, kSet_ev, ev_ret, ev_nx, ev_raise, ev_if, kIf_ev, ev_par, kPar_ev, kId_ev, ev_asg, kAsg_ev, ev_for, kFor_ev, ev_V, dVg_ok, ev_C, ev_1, ev_2, bind2_ok, bind2_ite1, bind2_ite2, bind_ite, ev_A, ev_nil, ev_cons, kCons_ev, ev_T, toB_ev, ev_and, ev_or, ev_not, kAnd_ev, kOr_ev, kNot_ev, ev_andV, ev_notV, kAndV_ev, kNotV_ev, tup_ev, lst_ev, call_ev, ev_fn, startE_0, startE_s, startE_c, fin_rt, fin_nx, fin_ex, fin_ite, ix_t0, ix_t1, ix_t2, ix_t3, ix_l0, ix_l1, ix_l2, len_l, len_t1, len_t2, len_t3, len_t4, beq_self_eq_true, ev_iL, ev_iT, asL_ev, asT_ev, ev_iA, ev_P, toI_ev, ev_P0, ev_sl, kSl_ev, put_1, gAdd_i, gSub_i, gMul_i, gDiv_p, gMod_p, gPow_l, gShl_l, gShr_l, gLt_i, gLe_i, gGt_i, gGe_i, gEq_i, gNe_i, gAbs_i, gInt_i, gInt_b, gEq_s, gNe_s, gEq_b, gNe_b, gEq_2, gNe_2, gEq_3, gNe_3, gEq_22, gNe_22, DL.R.bind_ok, DL.R.bind_ex, ev_setL, kSetL_ev, ev_lDisp, kDisp_ev, ev_lList, lOf_l, lOf_t, ev_frz, frz_l, frz_d, frz_n, ev_lend, lend_l, lend_d, atom_i, atom_b, atom_s, ev_lendB, lendB_l, lendB_d, ev_app, app_l, kApp_ev, ev_put, put_l, ev_ixO, ixO_l, ixO_d, put_m, putAll_c, putAll_n, ev_lc, kLst_ev, ev_lcL, wipe_n, wipe_c, r1_2, r1_3, bits_ev, List.getElem?_cons_zero, List.getElem?_cons_succ, List.set_cons_zero, List.set_cons_succ, List.length_cons, List.length_nil, List.length_map, List.append_nil, List.cons_append, List.nil_append, ev_if, turn_nx, turn_ct, turn_bk, turn_rt, turn_ite, kWh_ev, isi_int_int, isi_bool_int, isi_int_bool, isi_bool_bool, isi_int_str, isi_int_none, isi_int_list, isi_int_tup, isi_bool_str, isi_bool_none, isi_bool_list, isi_bool_tup, isi_tup_tup, isi_tup_int, isi_tup_bool, isi_tup_str, isi_tup_none, isi_tup_list, isi_list_list, isi_list_tup, isi_list_int, isi_list_bool, isi_list_str, isi_list_none, isi_str_str, isi_str_int, isi_str_bool, isi_str_none, isi_str_list, isi_str_tup, decide_true, decide_false, not_true_eq_false, not_false_eq_true, ne_eq, decide_eq_true_eq, Bool.not_eq_true', decide_eq_false_iff_not, Bool.not_true, Bool.not_false, Bool.false_eq_true, if_true, if_false, reduceIte, gDiv_i, divisor_eq, h, e, hs, hk, fT_eq, fB_eq]
  · have e : ((Int.gcd t b : Nat) : Int) = shr (Int.gcd t b) b := by unfold shr; rw [if_neg h]
    simp +decide only [m_fraction, den_fraction, ev_seq, seq_nx, seq_rt, seq_ex, seq_bk, seq_ct, seq_ite, fl_ok, fl_ex, fl_ite, ev_set, kSet_ev, ev_ret, ev_nx, ev_raise, ev_if, kIf_ev, ev_par, kPar_ev, kId_ev, ev_asg, kAsg_ev, ev_for, kFor_ev, ev_V, dVg_ok, ev_C, ev_1, ev_2, bind2_ok, bind2_ite1, bind2_ite2, bind_ite, ev_A, ev_nil, ev_cons, kCons_ev, ev_T, toB_ev, ev_and, ev_or, ev_not, kAnd_ev, kOr_ev, kNot_ev, ev_andV, ev_notV, kAndV_ev, kNotV_ev, tup_ev, lst_ev, call_ev, ev_fn, startE_0, startE_s, startE_c, fin_rt, fin_nx, fin_ex, fin_ite, ix_t0, ix_t1, ix_t2, ix_t3, ix_l0, ix_l1, ix_l2, len_l, len_t1, len_t2, len_t3, len_t4, beq_self_eq_true, ev_iL, ev_iT, asL_ev, asT_ev, ev_iA, ev_P, toI_ev, ev_P0, ev_sl, kSl_ev, put_1, gAdd_i, gSub_i, gMul_i, gDiv_p, gMod_p, gPow_l, gShl_l, gShr_l, gLt_i, gLe_i, gGt_i, gGe_i, gEq_i, gNe_i, gAbs_i, gInt_i, gInt_b, gEq_s, gNe_s, gEq_b, gNe_b, gEq_2, gNe_2, gEq_3, gNe_3, gEq_22, gNe_22, DL.R.bind_ok, DL.R.bind_ex, ev_setL, kSetL_ev, ev_lDisp, kDisp_ev, ev_lList, lOf_l, lOf_t, ev_frz, frz_l, frz_d, frz_n, ev_lend, lend_l, lend_d, atom_i, atom_b, atom_s, ev_lendB, lendB_l, lendB_d, ev_app, app_l, kApp_ev, ev_put, put_l, ev_ixO, ixO_l, ixO_d, put_m, putAll_c, putAll_n, ev_lc, kLst_ev, ev_lcL, wipe_n, wipe_c, r1_2, r1_3, bits_ev, List.getElem?_cons_zero, List.getElem?_cons_succ, List.set_cons_zero, List.set_cons_succ, List.length_cons, List.length_nil, List.length_map, List.append_nil, List.cons_append, List.nil_append, ev_if, turn_nx, turn_ct, turn_bk, turn_rt, turn_ite, kWh_ev, isi_int_int, isi_bool_int, isi_int_bool, isi_bool_bool, isi_int_str, isi_int_none, isi_int_list, isi_int_tup, isi_bool_str, isi_bool_none, isi_bool_list, isi_bool_tup, isi_tup_tup, isi_tup_int, isi_tup_bool, isi_tup_str, isi_tup_none, isi_tup_list, isi_list_list, isi_list_tup, isi_list_int, isi_list_bool, isi_list_str, isi_list_none, isi_str_str, isi_str_int, isi_str_bool, isi_str_none, isi_str_list, isi_str_tup, decide_true, decide_false, not_true_eq_false, not_false_eq_true, ne_eq, decide_eq_true_eq, Bool.not_eq_true', decide_eq_false_iff_not, Bool.not_true, Bool.not_false, Bool.false_eq_true, if_true, if_false, reduceIte, gDiv_i, divisor_eq, h, e, hs, hk, fT_eq, fB_eq]
theorem parts_eq (a b n : Int) (hn : n ≠ 0) {k : Nat} [h3 : Bd n k] (hk : k ≤ 9000) : m_parts [.tuple [.int a, .int b, .int n]] = .ok (.tuple [.tuple [.int (fT a n), .int (fB a n)], .tuple [.int (fT b n), .int (fB b n)]]) := by
  simp +decide only [m_parts, den_parts, ev_seq, seq_nx, seq_rt, seq_ex, seq_bk, seq_ct, seq_ite, fl_ok, fl_ex, fl_ite, ev_set, kSet_ev, ev_ret, ev_nx, ev_raise, ev_if, kIf_ev, ev_par, kPar_ev, kId_ev, ev_asg, kAsg_ev, ev_for, kFor_ev, ev_V, dVg_ok, ev_C, ev_1, ev_2, bind2_ok, bind2_ite1, bind2_ite2, bind_ite, ev_A, ev_nil, ev_cons, kCons_ev, ev_T, toB_ev, ev_and, ev_or, ev_not, kAnd_ev, kOr_ev, kNot_ev, ev_andV, ev_notV, kAndV_ev, kNotV_ev, tup_ev, lst_ev, call_ev, ev_fn, startE_0, startE_s, startE_c, fin_rt, fin_nx, fin_ex, fin_ite, ix_t0, ix_t1, ix_t2, ix_t3, ix_l0, ix_l1, ix_l2, len_l, len_t1, len_t2, len_t3, len_t4, beq_self_eq_true, ev_iL, ev_iT, asL_ev, asT_ev, ev_iA, ev_P, toI_ev, ev_P0, ev_sl, kSl_ev, put_1, gAdd_i, gSub_i, gMul_i, gDiv_p, gMod_p, gPow_l, gShl_l, gShr_l, gLt_i, gLe_i, gGt_i, gGe_i, gEq_i, gNe_i, gAbs_i, gInt_i, gInt_b, gEq_s, gNe_s, gEq_b, gNe_b, gEq_2, gNe_2, gEq_3, gNe_3, gEq_22, gNe_22, DL.R.bind_ok, DL.R.bind_ex, ev_setL, kSetL_ev, ev_lDisp, kDisp_ev, ev_lList, lOf_l, lOf_t, ev_frz, frz_l, frz_d, frz_n, ev_lend, lend_l, lend_d, atom_i, atom_b, atom_s, ev_lendB, lendB_l, lendB_d, ev_app, app_l, kApp_ev, ev_put, put_l, ev_ixO, ixO_l, ixO_d, put_m, putAll_c, putAll_n, ev_lc, kLst_ev, ev_lcL, wipe_n, wipe_c, r1_2, r1_3, bits_ev, List.getElem?_cons_zero, List.getElem?_cons_succ, List.set_cons_zero, List.set_cons_succ, List.length_cons, List.length_nil, List.length_map, List.append_nil, List.cons_append, List.nil_append, ev_if, turn_nx, turn_ct, turn_bk, turn_rt, turn_ite, kWh_ev, isi_int_int, isi_bool_int, isi_int_bool, isi_bool_bool, isi_int_str, isi_int_none, isi_int_list, isi_int_tup, isi_bool_str, isi_bool_none, isi_bool_list, isi_bool_tup, isi_tup_tup, isi_tup_int, isi_tup_bool, isi_tup_str, isi_tup_none, isi_tup_list, isi_list_list, isi_list_tup, isi_list_int, isi_list_bool, isi_list_str, isi_list_none, isi_str_str, isi_str_int, isi_str_bool, isi_str_none, isi_str_list, isi_str_tup, decide_true, decide_false, not_true_eq_false, not_false_eq_true, ne_eq, decide_eq_true_eq, Bool.not_eq_true', decide_eq_false_iff_not, Bool.not_true, Bool.not_false, Bool.false_eq_true, if_true, if_false, reduceIte, fraction_eq, hn, hk]
end DL

set_option Elab.async false
set_option linter.all false
set_option maxRecDepth 100000
set_option maxHeartbeats 1000000
set_option autoImplicit false
/-! texts -/
namespace DL
open PySem L2 MB
@[reducible] def St (l : List Nat) : Str := ⟨l.toArray⟩
end DL

set_option Elab.async false
set_option linter.all false
set_option maxRecDepth 100000
set_option maxHeartbeats 1000000
set_option autoImplicit false
namespace DL
open PySem L2 MB
theorem law_divisor_v2_loop : ∀ (k : Nat) (a b : Int), 0 ≤ b → 0 ≤ a → b.natAbs ≤ k → sWhile lt1_law_divisor_v2 lb1_law_divisor_v2 [some (.d (.int a)), some (.d (.int b))] = .nx [some (.d (.int (Int.gcd a b : Int))), some (.d (.int 0))] := by
  intro k
  induction k with
  | zero =>
    intro a b h0 ha h
    have hb : b = 0 := by omega
    subst hb
    rw [ev_while]
    have : (a.natAbs : Int) = a := by omega
    simp +decide only [lt1_law_divisor_v2, ev_seq, seq_nx, seq_rt, seq_ex, seq_bk, seq_ct, seq_ite, fl_ok, fl_ex, fl_ite, ev_set, kSet_ev, ev_ret, ev_nx, ev_raise, ev_if, kIf_ev, ev_par, kPar_ev, kId_ev, ev_asg, kAsg_ev, ev_for, kFor_ev, ev_V, dVg_ok, ev_C, ev_1, ev_2, bind2_ok, bind2_ite1, bind2_ite2, bind_ite, ev_A, ev_nil, ev_cons, kCons_ev, ev_T, toB_ev, ev_and, ev_or, ev_not, kAnd_ev, kOr_ev, kNot_ev, ev_andV, ev_notV, kAndV_ev, kNotV_ev, tup_ev, lst_ev, call_ev, ev_fn, startE_0, startE_s, startE_c, fin_rt, fin_nx, fin_ex, fin_ite, ix_t0, ix_t1, ix_t2, ix_t3, ix_l0, ix_l1, ix_l2, len_l, len_t1, len_t2, len_t3, len_t4, beq_self_eq_true, ev_iL, ev_iT, asL_ev, asT_ev, ev_iA, ev_P, toI_ev, ev_P0, ev_sl, kSl_ev, put_1, gAdd_i, gSub_i, gMul_i, gDiv_p, gMod_p, gPow_l, gShl_l, gShr_l, gLt_i, gLe_i, gGt_i, gGe_i, gEq_i, gNe_i, gAbs_i, gInt_i, gInt_b, gEq_s, gNe_s, gEq_b, gNe_b, gEq_2, gNe_2, gEq_3, gNe_3, gEq_22, gNe_22, DL.R.bind_ok, DL.R.bind_ex, ev_setL, kSetL_ev, ev_lDisp, kDisp_ev, ev_lList, lOf_l, lOf_t, ev_frz, frz_l, frz_d, frz_n, ev_lend, lend_l, lend_d, atom_i, atom_b, atom_s, ev_lendB, lendB_l, lendB_d, ev_app, app_l, kApp_ev, ev_put, put_l, ev_ixO, ixO_l, ixO_d, put_m, putAll_c, putAll_n, ev_lc, kLst_ev, ev_lcL, wipe_n, wipe_c, r1_2, r1_3, bits_ev, List.getElem?_cons_zero, List.getElem?_cons_succ, List.set_cons_zero, List.set_cons_succ, List.length_cons, List.length_nil, List.length_map, List.append_nil, List.cons_append, List.nil_append, ev_if, turn_nx, turn_ct, turn_bk, turn_rt, turn_ite, kWh_ev, isi_int_int, isi_bool_int, isi_int_bool, isi_bool_bool, isi_int_str, isi_int_none, isi_int_list, isi_int_tup, isi_bool_str, isi_bool_none, isi_bool_list, isi_bool_tup, isi_tup_tup, isi_tup_int, isi_tup_bool, isi_tup_str, isi_tup_none, isi_tup_list, isi_list_list, isi_list_tup, isi_list_int, isi_list_bool, isi_list_str, isi_list_none, isi_str_str, isi_str_int, isi_str_bool, isi_str_none, isi_str_list, isi_str_tup, decide_true, decide_false, not_true_eq_false, not_false_eq_true, ne_eq, decide_eq_true_eq, Bool.not_eq_true', decide_eq_false_iff_not, Bool.not_true, Bool.not_false, Bool.false_eq_true, if_true, if_false, reduceIte, Int.gcd_zero, this]
  | succ k ih =>
    intro a b h0 ha h
    by_cases hb : b = 0
    · subst hb
      rw [ev_while]
      have : (a.natAbs : Int) = a := by omega
      simp +decide only [lt1_law_divisor_v2, ev_seq, seq_nx, seq_rt, seq_ex, seq_bk, seq_ct, seq_ite, fl_ok, fl_ex, fl_ite, ev_set, kSet_ev, ev_ret, ev_nx, ev_raise, ev_if, kIf_ev, ev_par, kPar_ev, kId_ev, ev_asg, kAsg_ev, ev_for, kFor_ev, ev_V, dVg_ok, ev_C, ev_1, ev_2, bind2_ok, bind2_ite1, bind2_ite2, bind_ite, ev_A, ev_nil, ev_cons, kCons_ev, ev_T, toB_ev, ev_and, ev_or, ev_not, kAnd_ev, kOr_ev, kNot_ev, ev_andV, ev_notV, kAndV_ev, kNotV_ev, tup_ev, lst_ev, call_ev, ev_fn, startE_0, startE_s, startE_c, fin_rt, fin_nx, fin_ex, fin_ite, ix_t0, ix_t1, ix_t2, ix_t3, ix_l0, ix_l1, ix_l2, len_l, len_t1, len_t2, len_t3, len_t4, beq_self_eq_true, ev_iL, ev_iT, asL_ev, asT_ev, ev_iA, ev_P, toI_ev, ev_P0, ev_sl, kSl_ev, put_1, gAdd_i, gSub_i, gMul_i, gDiv_p, gMod_p, gPow_l, gShl_l, gShr_l, gLt_i, gLe_i, gGt_i, gGe_i, gEq_i, gNe_i, gAbs_i, gInt_i, gInt_b, gEq_s, gNe_s, gEq_b, gNe_b, gEq_2, gNe_2, gEq_3, gNe_3, gEq_22, gNe_22, DL.R.bind_ok, DL.R.bind_ex, ev_setL, kSetL_ev, ev_lDisp, kDisp_ev, ev_lList, lOf_l, lOf_t, ev_frz, frz_l, frz_d, frz_n, ev_lend, lend_l, lend_d, atom_i, atom_b, atom_s, ev_lendB, lendB_l, lendB_d, ev_app, app_l, kApp_ev, ev_put, put_l, ev_ixO, ixO_l, ixO_d, put_m, putAll_c, putAll_n, ev_lc, kLst_ev, ev_lcL, wipe_n, wipe_c, r1_2, r1_3, bits_ev, List.getElem?_cons_zero, List.getElem?_cons_succ, List.set_cons_zero, List.set_cons_succ, List.length_cons, List.length_nil, List.length_map, List.append_nil, List.cons_append, List.nil_append, ev_if, turn_nx, turn_ct, turn_bk, turn_rt, turn_ite, kWh_ev, isi_int_int, isi_bool_int, isi_int_bool, isi_bool_bool, isi_int_str, isi_int_none, isi_int_list, isi_int_tup, isi_bool_str, isi_bool_none, isi_bool_list, isi_bool_tup, isi_tup_tup, isi_tup_int, isi_tup_bool, isi_tup_str, isi_tup_none, isi_tup_list, isi_list_list, isi_list_tup, isi_list_int, isi_list_bool, isi_list_str, isi_list_none, isi_str_str, isi_str_int, isi_str_bool, isi_str_none, isi_str_list, isi_str_tup, decide_true, decide_false, not_true_eq_false, not_false_eq_true, ne_eq, decide_eq_true_eq, Bool.not_eq_true', decide_eq_false_iff_not, Bool.not_true, Bool.not_false, Bool.false_eq_true, if_true, if_false, reduceIte, Int.gcd_zero, this]
    · have e := ih b (a.fmod b) (Int.fmod_nonneg_of_pos a (by omega)) h0 (by
        have h1 := natAbs_fmod_lt a hb
        omega)
      rw [ev_while]
      have hp : 0 < b := by omega
      have e1 : a = b * a.fdiv b + a.fmod b := (Int.mul_fdiv_add_fmod a b).symm
      have e2 : Int.gcd b (b * a.fdiv b + a.fmod b) = Int.gcd b (a.fmod b) := Int.gcd_mul_left_add_right _ _ _
      rw [← e1] at e2
      rw [Int.gcd_comm a b, e2]
      rw [Int.fmod_eq_emod_of_nonneg _ h0] at e ⊢
      simp +decide only [lt1_law_divisor_v2, lb1_law_divisor_v2, ev_seq, seq_nx, seq_rt, seq_ex, seq_bk, seq_ct, seq_ite, fl_ok, fl_ex, fl_ite, ev_set, kSet_ev, ev_ret, ev_nx, ev_raise, ev_if, kIf_ev, ev_par, kPar_ev, kId_ev, ev_asg, kAsg_ev, ev_for, kFor_ev, ev_V, dVg_ok, ev_C, ev_1, ev_2, bind2_ok, bind2_ite1, bind2_ite2, bind_ite, ev_A, ev_nil, ev_cons, kCons_ev, ev_T, toB_ev, ev_and, ev_or, ev_not, kAnd_ev, kOr_ev, kNot_ev, ev_andV, ev_notV, kAndV_ev, kNotV_ev, tup_ev, lst_ev, call_ev, ev_fn, startE_0, startE_s, startE_c, fin_rt, fin_nx, fin_ex, fin_ite, ix_t0, ix_t1, ix_t2, ix_t3, ix_l0, ix_l1, ix_l2, len_l, len_t1, len_t2, len_t3, len_t4, beq_self_eq_true, ev_iL, ev_iT, asL_ev, asT_ev, ev_iA, ev_P, toI_ev, ev_P0, ev_sl, kSl_ev, put_1, gAdd_i, gSub_i, gMul_i, gDiv_p, gMod_p, gPow_l, gShl_l, gShr_l, gLt_i, gLe_i, gGt_i, gGe_i, gEq_i, gNe_i, gAbs_i, gInt_i, gInt_b, gEq_s, gNe_s, gEq_b, gNe_b, gEq_2, gNe_2, gEq_3, gNe_3, gEq_22, gNe_22, DL.R.bind_ok, DL.R.bind_ex, ev_setL, kSetL_ev, ev_lDisp, kDisp_ev, ev_lList, lOf_l, lOf_t, ev_frz, frz_l, frz_d, frz_n, ev_lend, lend_l, lend_d, atom_i, atom_b, atom_s, ev_lendB, lendB_l, lendB_d, ev_app, app_l, kApp_ev, ev_put, put_l, ev_ixO, ixO_l, ixO_d, put_m, putAll_c, putAll_n, ev_lc, kLst_ev, ev_lcL, wipe_n, wipe_c, r1_2, r1_3, bits_ev, List.getElem?_cons_zero, List.getElem?_cons_succ, List.set_cons_zero, List.set_cons_succ, List.length_cons, List.length_nil, List.length_map, List.append_nil, List.cons_append, List.nil_append, ev_if, turn_nx, turn_ct, turn_bk, turn_rt, turn_ite, kWh_ev, isi_int_int, isi_bool_int, isi_int_bool, isi_bool_bool, isi_int_str, isi_int_none, isi_int_list, isi_int_tup, isi_bool_str, isi_bool_none, isi_bool_list, isi_bool_tup, isi_tup_tup, isi_tup_int, isi_tup_bool, isi_tup_str, isi_tup_none, isi_tup_list, isi_list_list, isi_list_tup, isi_list_int, isi_list_bool, isi_list_str, isi_list_none, isi_str_str, isi_str_int, isi_str_bool, isi_str_none, isi_str_list, isi_str_tup, decide_true, decide_false, not_true_eq_false, not_false_eq_true, ne_eq, decide_eq_true_eq, Bool.not_eq_true', decide_eq_false_iff_not, Bool.not_true, Bool.not_false, Bool.false_eq_true, if_true, if_false, reduceIte, hb, hp]
      exact e
theorem law_divisor_v2_eq (a b : Int) (ha : 0 ≤ a) (hb : 0 ≤ b) : m_law_divisor_v2 [.int a, .int b] = .ok (.int (Int.gcd a b : Int)) := by
  have e := law_divisor_v2_loop _ a b hb ha (Nat.le_refl _)
  simp +decide only [m_law_divisor_v2, den_law_divisor_v2, ev_seq, seq_nx, seq_rt, seq_ex, seq_bk, seq_ct, seq_ite, fl_ok, fl_ex, fl_ite, ev_set, kSet_ev, ev_ret, ev_nx, ev_raise, ev_if, kIf_ev, ev_par, kPar_ev, kId_ev, ev_asg, kAsg_ev, ev_for, kFor_ev, ev_V, dVg_ok, ev_C, ev_1, ev_2, bind2_ok, bind2_ite1, bind2_ite2, bind_ite, ev_A, ev_nil, ev_cons, kCons_ev, ev_T, toB_ev, ev_and, ev_or, ev_not, kAnd_ev, kOr_ev, kNot_ev, ev_andV, ev_notV, kAndV_ev, kNotV_ev, tup_ev, lst_ev, call_ev, ev_fn, startE_0, startE_s, startE_c, fin_rt, fin_nx, fin_ex, fin_ite, ix_t0, ix_t1, ix_t2, ix_t3, ix_l0, ix_l1, ix_l2, len_l, len_t1, len_t2, len_t3, len_t4, beq_self_eq_true, ev_iL, ev_iT, asL_ev, asT_ev, ev_iA, ev_P, toI_ev, ev_P0, ev_sl, kSl_ev, put_1, gAdd_i, gSub_i, gMul_i, gDiv_p, gMod_p, gPow_l, gShl_l, gShr_l, gLt_i, gLe_i, gGt_i, gGe_i, gEq_i, gNe_i, gAbs_i, gInt_i, gInt_b, gEq_s, gNe_s, gEq_b, gNe_b, gEq_2, gNe_2, gEq_3, gNe_3, gEq_22, gNe_22, DL.R.bind_ok, DL.R.bind_ex, ev_setL, kSetL_ev, ev_lDisp, kDisp_ev, ev_lList, lOf_l, lOf_t, ev_frz, frz_l, frz_d, frz_n, ev_lend, lend_l, lend_d, atom_i, atom_b, atom_s, ev_lendB, lendB_l, lendB_d, ev_app, app_l, kApp_ev, ev_put, put_l, ev_ixO, ixO_l, ixO_d, put_m, putAll_c, putAll_n, ev_lc, kLst_ev, ev_lcL, wipe_n, wipe_c, r1_2, r1_3, bits_ev, List.getElem?_cons_zero, List.getElem?_cons_succ, List.set_cons_zero, List.set_cons_succ, List.length_cons, List.length_nil, List.length_map, List.append_nil, List.cons_append, List.nil_append, ev_if, turn_nx, turn_ct, turn_bk, turn_rt, turn_ite, kWh_ev, isi_int_int, isi_bool_int, isi_int_bool, isi_bool_bool, isi_int_str, isi_int_none, isi_int_list, isi_int_tup, isi_bool_str, isi_bool_none, isi_bool_list, isi_bool_tup, isi_tup_tup, isi_tup_int, isi_tup_bool, isi_tup_str, isi_tup_none, isi_tup_list, isi_list_list, isi_list_tup, isi_list_int, isi_list_bool, isi_list_str, isi_list_none, isi_str_str, isi_str_int, isi_str_bool, isi_str_none, isi_str_list, isi_str_tup, decide_true, decide_false, not_true_eq_false, not_false_eq_true, ne_eq, decide_eq_true_eq, Bool.not_eq_true', decide_eq_false_iff_not, Bool.not_true, Bool.not_false, Bool.false_eq_true, if_true, if_false, reduceIte, e]
theorem low2 (a b : Int) (hb : 0 < b) : ∃ g : Int, (Int.gcd a b : Int) = g ∧ 0 < g ∧ (∃ q : Int, 1 ≤ q ∧ b / g = q ∧ b = q * g) ∧ (∃ p : Int, a / g = p ∧ a = p * g) := by
  have d1 : (Int.gcd a b : Int) ∣ b := Int.gcd_dvd_right ..
  have d2 : (Int.gcd a b : Int) ∣ a := Int.gcd_dvd_left ..
  have h0 : 0 < (Int.gcd a b : Int) := by
    have : Int.gcd a b ≠ 0 := fun e => by have := (Int.gcd_eq_zero_iff.mp e).2; omega
    omega
  obtain ⟨q, hq⟩ := d1
  obtain ⟨p, hp⟩ := d2
  generalize (Int.gcd a b : Int) = g at *
  refine ⟨g, rfl, h0, ⟨q, ?_, ?_, by rw [hq]; exact Int.mul_comm ..⟩, ⟨p, ?_, by rw [hp]; exact Int.mul_comm ..⟩⟩
  · rcases Int.lt_or_le 0 q with w | w
    · omega
    · have := Int.mul_nonneg_of_nonpos_of_nonpos (a := -g) (b := q) (by omega) w
      have e : -g * q = -(g * q) := by grind
      omega
  · rw [hq]; exact Int.mul_ediv_cancel_left _ (by omega)
  · rw [hp]; exact Int.mul_ediv_cancel_left _ (by omega)
theorem pow18 : (10 : Int) ^ (18 : Nat) = 1000000000000000000 := by decide
theorem bot_ok (j : Int) (h0 : 0 ≤ j) (h1 : j < 7) : ∃ b : Int, gIx (.list [.int 1, .int 1, .int 2, .int 3, .int 4, .int 6, .int 12]) (.int j) = .ok (.int b) ∧ 1 ≤ b ∧ b ≤ 12 := by
  have c : j = 0 ∨ j = 1 ∨ j = 2 ∨ j = 3 ∨ j = 4 ∨ j = 5 ∨ j = 6 := by omega
  rcases c with rfl | rfl | rfl | rfl | rfl | rfl | rfl
  · exact ⟨1, rfl, by decide⟩
  · exact ⟨1, rfl, by decide⟩
  · exact ⟨2, rfl, by decide⟩
  · exact ⟨3, rfl, by decide⟩
  · exact ⟨4, rfl, by decide⟩
  · exact ⟨6, rfl, by decide⟩
  · exact ⟨12, rfl, by decide⟩
end DL

set_option Elab.async false
set_option linter.all false
set_option maxRecDepth 100000
set_option maxHeartbeats 1000000
set_option autoImplicit false
/-! what the defs of fractions are worth -/
namespace DL
open PySem L2 MB
section
variable (a b c d : Int) {k1 k2 k3 k4 : Nat} [Bd a k1] [Bd b k2] [Bd c k3] [Bd d k4]
end
end DL

set_option autoImplicit false
set_option linter.all false
/-! plain arithmetic: roots, and the sign of a + b * root d -/
namespace MB
/-- d lies between two squares -/
def Root (d : Int) : Prop := ∃ k : Int, 0 < k ∧ k * k < d ∧ d < (k + 1) * (k + 1)
theorem Root.pos {d : Int} (h : Root d) : 0 < d := by
  obtain ⟨k, h1, h2, _⟩ := h
  have : 0 ≤ k * k := Int.mul_nonneg (by omega) (by omega)
  omega
theorem sq_lt {x y : Int} (hx : 0 ≤ x) (h : x * x < y * y) (hy : 0 ≤ y) : x < y := by
  rcases Int.lt_or_le x y with z | z
  · exact z
  · exfalso
    have := Int.mul_self_le_mul_self hy z
    omega
theorem irr_nat {d : Int} (h : Root d) : ∀ (n : Nat) (a b : Int), 0 ≤ a → 0 ≤ b → b.toNat ≤ n → a * a = d * (b * b) → b = 0 := by
  obtain ⟨k, hk, h1, h2⟩ := h
  have hd : 0 < d := by
    have : 0 ≤ k * k := Int.mul_nonneg (by omega) (by omega)
    omega
  intro n
  induction n with
  | zero => intro a b _ hb hn _; omega
  | succ n ih =>
    intro a b ha hb hn e
    by_cases hb0 : b = 0
    · exact hb0
    exfalso
    have hbp : 0 < b := by omega
    have hbb : 0 < b * b := Int.mul_pos hbp hbp
    -- k b < a < (k + 1) b
    have l1 : k * b < a := sq_lt (Int.mul_nonneg (by omega) hb) (by
      have := Int.mul_lt_mul_of_pos_right h1 hbb
      have e2 : k * b * (k * b) = k * k * (b * b) := by grind
      omega) ha
    have l2 : a < (k + 1) * b := sq_lt ha (by
      have := Int.mul_lt_mul_of_pos_right h2 hbb
      have e2 : (k + 1) * b * ((k + 1) * b) = (k + 1) * (k + 1) * (b * b) := by grind
      omega) (Int.mul_nonneg (by omega) hb)
    have e3 : (k + 1) * b = k * b + b := by grind
    have e4 : (d * b - k * a) * (d * b - k * a) = d * ((a - k * b) * (a - k * b)) := by grind
    have p1 : 0 ≤ d * b - k * a := by
      -- k a < (k (k + 1)) b ... from squares
      rcases Int.lt_or_le (d * b - k * a) 0 with z | z
      · exfalso
        have z1 : d * b < k * a := by omega
        have z2 := Int.mul_self_le_mul_self (Int.mul_nonneg (by omega) hb) (Int.le_of_lt z1)
        have z3 : k * a * (k * a) = k * k * (d * (b * b)) := by rw [← e]; grind
        have z4 : d * b * (d * b) = d * (d * (b * b)) := by grind
        have z5 : 0 < d * (b * b) := Int.mul_pos hd hbb
        have z6 := Int.mul_lt_mul_of_pos_right h1 z5
        omega
      · exact z
    have := ih (d * b - k * a) (a - k * b) p1 (by omega) (by omega) e4
    omega
theorem irr {d : Int} (h : Root d) {a b : Int} (e : a * a = d * b * b) : b = 0 := by
  have e2 : (a.natAbs : Int) * (a.natAbs : Int) = d * ((b.natAbs : Int) * (b.natAbs : Int)) := by
    have f1 : (a.natAbs : Int) * (a.natAbs : Int) = a * a := by rw [← Int.natCast_mul, Int.natAbs_mul_self]
    have f2 : (b.natAbs : Int) * (b.natAbs : Int) = b * b := by rw [← Int.natCast_mul, Int.natAbs_mul_self]
    rw [f1, f2, e, Int.mul_assoc]
  have := irr_nat h _ _ _ (by omega) (by omega) (Nat.le_refl _) e2
  omega
/-- a + b * root d is below 0 -/
def Lt0 (d a b : Int) : Prop := (a ≤ 0 ∧ b ≤ 0 ∧ ¬(a = 0 ∧ b = 0)) ∨ (0 < a ∧ b < 0 ∧ a * a < d * b * b) ∨ (a < 0 ∧ 0 < b ∧ d * b * b < a * a)
instance (d a b : Int) : Decidable (Lt0 d a b) := by unfold Lt0; infer_instance
theorem lt0_scale {d a b s : Int} (hs : 0 < s) : Lt0 d (a * s) (b * s) ↔ Lt0 d a b := by
  have q1 : a * s * (a * s) = a * a * (s * s) := by grind
  have q2 : d * (b * s) * (b * s) = d * b * b * (s * s) := by grind
  have hss : 0 < s * s := Int.mul_pos hs hs
  have pos (x : Int) : 0 < x * s ↔ 0 < x := ⟨fun h => by
    rcases Int.lt_or_le 0 x with z | z
    · exact z
    · have := Int.mul_le_mul_of_nonneg_right z (Int.le_of_lt hs); omega, fun h => Int.mul_pos h hs⟩
  have neg (x : Int) : x * s < 0 ↔ x < 0 := by
    have := pos (-x)
    have e : -x * s = -(x * s) := by grind
    rw [e] at this
    omega
  unfold Lt0
  rw [q1, q2]
  have pa := pos a
  have pb := pos b
  have na := neg a
  have nb := neg b
  have m1 : a * a * (s * s) < d * b * b * (s * s) ↔ a * a < d * b * b := ⟨fun h => Int.lt_of_mul_lt_mul_right h (Int.le_of_lt hss), fun h => Int.mul_lt_mul_of_pos_right h hss⟩
  have m2 : d * b * b * (s * s) < a * a * (s * s) ↔ d * b * b < a * a := ⟨fun h => Int.lt_of_mul_lt_mul_right h (Int.le_of_lt hss), fun h => Int.mul_lt_mul_of_pos_right h hss⟩
  rw [m1, m2]
  generalize a * s = x at *
  generalize b * s = y at *
  omega
end MB

set_option Elab.async false
set_option linter.all false
set_option maxRecDepth 100000
set_option maxHeartbeats 1000000
set_option autoImplicit false
/-! what the defs of roots and of the order are worth -/
namespace DL
open PySem L2 MB
theorem sign_of_eq (d a b : Int) (hd : 0 < d) {k1 k2 k3 : Nat} [Bd d k1] [Bd a k2] [Bd b k3] (h1 : k1 ≤ 1000000) (h2 : k2 ≤ 1000000) (h3 : k3 ≤ 1000000) : ∃ v : Int, m_sign_of [.int d, .int a, .int b] = .ok (.int v) ∧ (v < 0 ↔ Lt0 d a b) := by
  have i1 : k2 + k2 ≤ 134217728 := by omega
  have i2 : k1 + k3 ≤ 134217728 := by omega
  have i3 : k1 + k3 + k3 ≤ 134217728 := by omega
  by_cases ha : a = 0
  · refine ⟨a + b, ?_, by unfold Lt0; omega⟩
    simp +decide only [m_sign_of, den_sign_of, ev_seq, seq_nx, seq_rt, seq_ex, seq_bk, seq_ct, seq_ite, fl_ok, fl_ex, fl_ite, ev_set, kSet_ev, ev_ret, ev_nx, ev_raise, ev_if, kIf_ev, ev_par, kPar_ev, kId_ev, ev_asg, kAsg_ev, ev_for, kFor_ev, ev_V, dVg_ok, ev_C, ev_1, ev_2, bind2_ok, bind2_ite1, bind2_ite2, bind_ite, ev_A, ev_nil, ev_cons, kCons_ev, ev_T, toB_ev, ev_and, ev_or, ev_not, kAnd_ev, kOr_ev, kNot_ev, ev_andV, ev_notV, kAndV_ev, kNotV_ev, tup_ev, lst_ev, call_ev, ev_fn, startE_0, startE_s, startE_c, fin_rt, fin_nx, fin_ex, fin_ite, ix_t0, ix_t1, ix_t2, ix_t3, ix_l0, ix_l1, ix_l2, len_l, len_t1, len_t2, len_t3, len_t4, beq_self_eq_true, ev_iL, ev_iT, asL_ev, asT_ev, ev_iA, ev_P, toI_ev, ev_P0, ev_sl, kSl_ev, put_1, gAdd_i, gSub_i, gMul_i, gDiv_p, gMod_p, gPow_l, gShl_l, gShr_l, gLt_i, gLe_i, gGt_i, gGe_i, gEq_i, gNe_i, gAbs_i, gInt_i, gInt_b, gEq_s, gNe_s, gEq_b, gNe_b, gEq_2, gNe_2, gEq_3, gNe_3, gEq_22, gNe_22, DL.R.bind_ok, DL.R.bind_ex, ev_setL, kSetL_ev, ev_lDisp, kDisp_ev, ev_lList, lOf_l, lOf_t, ev_frz, frz_l, frz_d, frz_n, ev_lend, lend_l, lend_d, atom_i, atom_b, atom_s, ev_lendB, lendB_l, lendB_d, ev_app, app_l, kApp_ev, ev_put, put_l, ev_ixO, ixO_l, ixO_d, put_m, putAll_c, putAll_n, ev_lc, kLst_ev, ev_lcL, wipe_n, wipe_c, r1_2, r1_3, bits_ev, List.getElem?_cons_zero, List.getElem?_cons_succ, List.set_cons_zero, List.set_cons_succ, List.length_cons, List.length_nil, List.length_map, List.append_nil, List.cons_append, List.nil_append, ev_if, turn_nx, turn_ct, turn_bk, turn_rt, turn_ite, kWh_ev, isi_int_int, isi_bool_int, isi_int_bool, isi_bool_bool, isi_int_str, isi_int_none, isi_int_list, isi_int_tup, isi_bool_str, isi_bool_none, isi_bool_list, isi_bool_tup, isi_tup_tup, isi_tup_int, isi_tup_bool, isi_tup_str, isi_tup_none, isi_tup_list, isi_list_list, isi_list_tup, isi_list_int, isi_list_bool, isi_list_str, isi_list_none, isi_str_str, isi_str_int, isi_str_bool, isi_str_none, isi_str_list, isi_str_tup, decide_true, decide_false, not_true_eq_false, not_false_eq_true, ne_eq, decide_eq_true_eq, Bool.not_eq_true', decide_eq_false_iff_not, Bool.not_true, Bool.not_false, Bool.false_eq_true, if_true, if_false, reduceIte, ha]
  by_cases hb : b = 0
  · refine ⟨a + b, ?_, by unfold Lt0; omega⟩
    simp +decide only [m_sign_of, den_sign_of, ev_seq, seq_nx, seq_rt, seq_ex, seq_bk, seq_ct, seq_ite, fl_ok, fl_ex, fl_ite, ev_set, kSet_ev, ev_ret, ev_nx, ev_raise, ev_if, kIf_ev, ev_par, kPar_ev, kId_ev, ev_asg, kAsg_ev, ev_for, kFor_ev, ev_V, dVg_ok, ev_C, ev_1, ev_2, bind2_ok, bind2_ite1, bind2_ite2, bind_ite, ev_A, ev_nil, ev_cons, kCons_ev, ev_T, toB_ev, ev_and, ev_or, ev_not, kAnd_ev, kOr_ev, kNot_ev, ev_andV, ev_notV, kAndV_ev, kNotV_ev, tup_ev, lst_ev, call_ev, ev_fn, startE_0, startE_s, startE_c, fin_rt, fin_nx, fin_ex, fin_ite, ix_t0, ix_t1, ix_t2, ix_t3, ix_l0, ix_l1, ix_l2, len_l, len_t1, len_t2, len_t3, len_t4, beq_self_eq_true, ev_iL, ev_iT, asL_ev, asT_ev, ev_iA, ev_P, toI_ev, ev_P0, ev_sl, kSl_ev, put_1, gAdd_i, gSub_i, gMul_i, gDiv_p, gMod_p, gPow_l, gShl_l, gShr_l, gLt_i, gLe_i, gGt_i, gGe_i, gEq_i, gNe_i, gAbs_i, gInt_i, gInt_b, gEq_s, gNe_s, gEq_b, gNe_b, gEq_2, gNe_2, gEq_3, gNe_3, gEq_22, gNe_22, DL.R.bind_ok, DL.R.bind_ex, ev_setL, kSetL_ev, ev_lDisp, kDisp_ev, ev_lList, lOf_l, lOf_t, ev_frz, frz_l, frz_d, frz_n, ev_lend, lend_l, lend_d, atom_i, atom_b, atom_s, ev_lendB, lendB_l, lendB_d, ev_app, app_l, kApp_ev, ev_put, put_l, ev_ixO, ixO_l, ixO_d, put_m, putAll_c, putAll_n, ev_lc, kLst_ev, ev_lcL, wipe_n, wipe_c, r1_2, r1_3, bits_ev, List.getElem?_cons_zero, List.getElem?_cons_succ, List.set_cons_zero, List.set_cons_succ, List.length_cons, List.length_nil, List.length_map, List.append_nil, List.cons_append, List.nil_append, ev_if, turn_nx, turn_ct, turn_bk, turn_rt, turn_ite, kWh_ev, isi_int_int, isi_bool_int, isi_int_bool, isi_bool_bool, isi_int_str, isi_int_none, isi_int_list, isi_int_tup, isi_bool_str, isi_bool_none, isi_bool_list, isi_bool_tup, isi_tup_tup, isi_tup_int, isi_tup_bool, isi_tup_str, isi_tup_none, isi_tup_list, isi_list_list, isi_list_tup, isi_list_int, isi_list_bool, isi_list_str, isi_list_none, isi_str_str, isi_str_int, isi_str_bool, isi_str_none, isi_str_list, isi_str_tup, decide_true, decide_false, not_true_eq_false, not_false_eq_true, ne_eq, decide_eq_true_eq, Bool.not_eq_true', decide_eq_false_iff_not, Bool.not_true, Bool.not_false, Bool.false_eq_true, if_true, if_false, reduceIte, ha, hb]
  by_cases pa : 0 < a
  · by_cases pb : 0 < b
    · refine ⟨a + b, ?_, by unfold Lt0; omega⟩
      simp +decide only [m_sign_of, den_sign_of, ev_seq, seq_nx, seq_rt, seq_ex, seq_bk, seq_ct, seq_ite, fl_ok, fl_ex, fl_ite, ev_set, kSet_ev, ev_ret, ev_nx, ev_raise, ev_if, kIf_ev, ev_par, kPar_ev, kId_ev, ev_asg, kAsg_ev, ev_for, kFor_ev, ev_V, dVg_ok, ev_C, ev_1, ev_2, bind2_ok, bind2_ite1, bind2_ite2, bind_ite, ev_A, ev_nil, ev_cons, kCons_ev, ev_T, toB_ev, ev_and, ev_or, ev_not, kAnd_ev, kOr_ev, kNot_ev, ev_andV, ev_notV, kAndV_ev, kNotV_ev, tup_ev, lst_ev, call_ev, ev_fn, startE_0, startE_s, startE_c, fin_rt, fin_nx, fin_ex, fin_ite, ix_t0, ix_t1, ix_t2, ix_t3, ix_l0, ix_l1, ix_l2, len_l, len_t1, len_t2, len_t3, len_t4, beq_self_eq_true, ev_iL, ev_iT, asL_ev, asT_ev, ev_iA, ev_P, toI_ev, ev_P0, ev_sl, kSl_ev, put_1, gAdd_i, gSub_i, gMul_i, gDiv_p, gMod_p, gPow_l, gShl_l, gShr_l, gLt_i, gLe_i, gGt_i, gGe_i, gEq_i, gNe_i, gAbs_i, gInt_i, gInt_b, gEq_s, gNe_s, gEq_b, gNe_b, gEq_2, gNe_2, gEq_3, gNe_3, gEq_22, gNe_22, DL.R.bind_ok, DL.R.bind_ex, ev_setL, kSetL_ev, ev_lDisp, kDisp_ev, ev_lList, lOf_l, lOf_t, ev_frz, frz_l, frz_d, frz_n, ev_lend, lend_l, lend_d, atom_i, atom_b, atom_s, ev_lendB, lendB_l, lendB_d, ev_app, app_l, kApp_ev, ev_put, put_l, ev_ixO, ixO_l, ixO_d, put_m, putAll_c, putAll_n, ev_lc, kLst_ev, ev_lcL, wipe_n, wipe_c, r1_2, r1_3, bits_ev, List.getElem?_cons_zero, List.getElem?_cons_succ, List.set_cons_zero, List.set_cons_succ, List.length_cons, List.length_nil, List.length_map, List.append_nil, List.cons_append, List.nil_append, ev_if, turn_nx, turn_ct, turn_bk, turn_rt, turn_ite, kWh_ev, isi_int_int, isi_bool_int, isi_int_bool, isi_bool_bool, isi_int_str, isi_int_none, isi_int_list, isi_int_tup, isi_bool_str, isi_bool_none, isi_bool_list, isi_bool_tup, isi_tup_tup, isi_tup_int, isi_tup_bool, isi_tup_str, isi_tup_none, isi_tup_list, isi_list_list, isi_list_tup, isi_list_int, isi_list_bool, isi_list_str, isi_list_none, isi_str_str, isi_str_int, isi_str_bool, isi_str_none, isi_str_list, isi_str_tup, decide_true, decide_false, not_true_eq_false, not_false_eq_true, ne_eq, decide_eq_true_eq, Bool.not_eq_true', decide_eq_false_iff_not, Bool.not_true, Bool.not_false, Bool.false_eq_true, if_true, if_false, reduceIte, ha, hb, pa, pb]
    · refine ⟨a * a - d * b * b, ?_, by unfold Lt0; omega⟩
      simp +decide only [m_sign_of, den_sign_of, ev_seq, seq_nx, seq_rt, seq_ex, seq_bk, seq_ct, seq_ite, fl_ok, fl_ex, fl_ite, ev_set, kSet_ev, ev_ret, ev_nx, ev_raise, ev_if, kIf_ev, ev_par, kPar_ev, kId_ev, ev_asg, kAsg_ev, ev_for, kFor_ev, ev_V, dVg_ok, ev_C, ev_1, ev_2, bind2_ok, bind2_ite1, bind2_ite2, bind_ite, ev_A, ev_nil, ev_cons, kCons_ev, ev_T, toB_ev, ev_and, ev_or, ev_not, kAnd_ev, kOr_ev, kNot_ev, ev_andV, ev_notV, kAndV_ev, kNotV_ev, tup_ev, lst_ev, call_ev, ev_fn, startE_0, startE_s, startE_c, fin_rt, fin_nx, fin_ex, fin_ite, ix_t0, ix_t1, ix_t2, ix_t3, ix_l0, ix_l1, ix_l2, len_l, len_t1, len_t2, len_t3, len_t4, beq_self_eq_true, ev_iL, ev_iT, asL_ev, asT_ev, ev_iA, ev_P, toI_ev, ev_P0, ev_sl, kSl_ev, put_1, gAdd_i, gSub_i, gMul_i, gDiv_p, gMod_p, gPow_l, gShl_l, gShr_l, gLt_i, gLe_i, gGt_i, gGe_i, gEq_i, gNe_i, gAbs_i, gInt_i, gInt_b, gEq_s, gNe_s, gEq_b, gNe_b, gEq_2, gNe_2, gEq_3, gNe_3, gEq_22, gNe_22, DL.R.bind_ok, DL.R.bind_ex, ev_setL, kSetL_ev, ev_lDisp, kDisp_ev, ev_lList, lOf_l, lOf_t, ev_frz, frz_l, frz_d, frz_n, ev_lend, lend_l, lend_d, atom_i, atom_b, atom_s, ev_lendB, lendB_l, lendB_d, ev_app, app_l, kApp_ev, ev_put, put_l, ev_ixO, ixO_l, ixO_d, put_m, putAll_c, putAll_n, ev_lc, kLst_ev, ev_lcL, wipe_n, wipe_c, r1_2, r1_3, bits_ev, List.getElem?_cons_zero, List.getElem?_cons_succ, List.set_cons_zero, List.set_cons_succ, List.length_cons, List.length_nil, List.length_map, List.append_nil, List.cons_append, List.nil_append, ev_if, turn_nx, turn_ct, turn_bk, turn_rt, turn_ite, kWh_ev, isi_int_int, isi_bool_int, isi_int_bool, isi_bool_bool, isi_int_str, isi_int_none, isi_int_list, isi_int_tup, isi_bool_str, isi_bool_none, isi_bool_list, isi_bool_tup, isi_tup_tup, isi_tup_int, isi_tup_bool, isi_tup_str, isi_tup_none, isi_tup_list, isi_list_list, isi_list_tup, isi_list_int, isi_list_bool, isi_list_str, isi_list_none, isi_str_str, isi_str_int, isi_str_bool, isi_str_none, isi_str_list, isi_str_tup, decide_true, decide_false, not_true_eq_false, not_false_eq_true, ne_eq, decide_eq_true_eq, Bool.not_eq_true', decide_eq_false_iff_not, Bool.not_true, Bool.not_false, Bool.false_eq_true, if_true, if_false, reduceIte, ha, hb, pa, pb, i1, i2, i3]
  · by_cases pb : 0 < b
    · refine ⟨d * b * b - a * a, ?_, by unfold Lt0; omega⟩
      simp +decide only [m_sign_of, den_sign_of, ev_seq, seq_nx, seq_rt, seq_ex, seq_bk, seq_ct, seq_ite, fl_ok, fl_ex, fl_ite, ev_set, kSet_ev, ev_ret, ev_nx, ev_raise, ev_if, kIf_ev, ev_par, kPar_ev, kId_ev, ev_asg, kAsg_ev, ev_for, kFor_ev, ev_V, dVg_ok, ev_C, ev_1, ev_2, bind2_ok, bind2_ite1, bind2_ite2, bind_ite, ev_A, ev_nil, ev_cons, kCons_ev, ev_T, toB_ev, ev_and, ev_or, ev_not, kAnd_ev, kOr_ev, kNot_ev, ev_andV, ev_notV, kAndV_ev, kNotV_ev, tup_ev, lst_ev, call_ev, ev_fn, startE_0, startE_s, startE_c, fin_rt, fin_nx, fin_ex, fin_ite, ix_t0, ix_t1, ix_t2, ix_t3, ix_l0, ix_l1, ix_l2, len_l, len_t1, len_t2, len_t3, len_t4, beq_self_eq_true, ev_iL, ev_iT, asL_ev, asT_ev, ev_iA, ev_P, toI_ev, ev_P0, ev_sl, kSl_ev, put_1, gAdd_i, gSub_i, gMul_i, gDiv_p, gMod_p, gPow_l, gShl_l, gShr_l, gLt_i, gLe_i, gGt_i, gGe_i, gEq_i, gNe_i, gAbs_i, gInt_i, gInt_b, gEq_s, gNe_s, gEq_b, gNe_b, gEq_2, gNe_2, gEq_3, gNe_3, gEq_22, gNe_22, DL.R.bind_ok, DL.R.bind_ex, ev_setL, kSetL_ev, ev_lDisp, kDisp_ev, ev_lList, lOf_l, lOf_t, ev_frz, frz_l, frz_d, frz_n, ev_lend, lend_l, lend_d, atom_i, atom_b, atom_s, ev_lendB, lendB_l, lendB_d, ev_app, app_l, kApp_ev, ev_put, put_l, ev_ixO, ixO_l, ixO_d, put_m, putAll_c, putAll_n, ev_lc, kLst_ev, ev_lcL, wipe_n, wipe_c, r1_2, r1_3, bits_ev, List.getElem?_cons_zero, List.getElem?_cons_succ, List.set_cons_zero, List.set_cons_succ, List.length_cons, List.length_nil, List.length_map, List.append_nil, List.cons_append, List.nil_append, ev_if, turn_nx, turn_ct, turn_bk, turn_rt, turn_ite, kWh_ev, isi_int_int, isi_bool_int, isi_int_bool, isi_bool_bool, isi_int_str, isi_int_none, isi_int_list, isi_int_tup, isi_bool_str, isi_bool_none, isi_bool_list, isi_bool_tup, isi_tup_tup, isi_tup_int, isi_tup_bool, isi_tup_str, isi_tup_none, isi_tup_list, isi_list_list, isi_list_tup, isi_list_int, isi_list_bool, isi_list_str, isi_list_none, isi_str_str, isi_str_int, isi_str_bool, isi_str_none, isi_str_list, isi_str_tup, decide_true, decide_false, not_true_eq_false, not_false_eq_true, ne_eq, decide_eq_true_eq, Bool.not_eq_true', decide_eq_false_iff_not, Bool.not_true, Bool.not_false, Bool.false_eq_true, if_true, if_false, reduceIte, ha, hb, pa, pb, i1, i2, i3]
    · refine ⟨a + b, ?_, by unfold Lt0; omega⟩
      simp +decide only [m_sign_of, den_sign_of, ev_seq, seq_nx, seq_rt, seq_ex, seq_bk, seq_ct, seq_ite, fl_ok, fl_ex, fl_ite, ev_set, kSet_ev, ev_ret, ev_nx, ev_raise, ev_if, kIf_ev, ev_par, kPar_ev, kId_ev, ev_asg, kAsg_ev, ev_for, kFor_ev, ev_V, dVg_ok, ev_C, ev_1, ev_2, bind2_ok, bind2_ite1, bind2_ite2, bind_ite, ev_A, ev_nil, ev_cons, kCons_ev, ev_T, toB_ev, ev_and, ev_or, ev_not, kAnd_ev, kOr_ev, kNot_ev, ev_andV, ev_notV, kAndV_ev, kNotV_ev, tup_ev, lst_ev, call_ev, ev_fn, startE_0, startE_s, startE_c, fin_rt, fin_nx, fin_ex, fin_ite, ix_t0, ix_t1, ix_t2, ix_t3, ix_l0, ix_l1, ix_l2, len_l, len_t1, len_t2, len_t3, len_t4, beq_self_eq_true, ev_iL, ev_iT, asL_ev, asT_ev, ev_iA, ev_P, toI_ev, ev_P0, ev_sl, kSl_ev, put_1, gAdd_i, gSub_i, gMul_i, gDiv_p, gMod_p, gPow_l, gShl_l, gShr_l, gLt_i, gLe_i, gGt_i, gGe_i, gEq_i, gNe_i, gAbs_i, gInt_i, gInt_b, gEq_s, gNe_s, gEq_b, gNe_b, gEq_2, gNe_2, gEq_3, gNe_3, gEq_22, gNe_22, DL.R.bind_ok, DL.R.bind_ex, ev_setL, kSetL_ev, ev_lDisp, kDisp_ev, ev_lList, lOf_l, lOf_t, ev_frz, frz_l, frz_d, frz_n, ev_lend, lend_l, lend_d, atom_i, atom_b, atom_s, ev_lendB, lendB_l, lendB_d, ev_app, app_l, kApp_ev, ev_put, put_l, ev_ixO, ixO_l, ixO_d, put_m, putAll_c, putAll_n, ev_lc, kLst_ev, ev_lcL, wipe_n, wipe_c, r1_2, r1_3, bits_ev, List.getElem?_cons_zero, List.getElem?_cons_succ, List.set_cons_zero, List.set_cons_succ, List.length_cons, List.length_nil, List.length_map, List.append_nil, List.cons_append, List.nil_append, ev_if, turn_nx, turn_ct, turn_bk, turn_rt, turn_ite, kWh_ev, isi_int_int, isi_bool_int, isi_int_bool, isi_bool_bool, isi_int_str, isi_int_none, isi_int_list, isi_int_tup, isi_bool_str, isi_bool_none, isi_bool_list, isi_bool_tup, isi_tup_tup, isi_tup_int, isi_tup_bool, isi_tup_str, isi_tup_none, isi_tup_list, isi_list_list, isi_list_tup, isi_list_int, isi_list_bool, isi_list_str, isi_list_none, isi_str_str, isi_str_int, isi_str_bool, isi_str_none, isi_str_list, isi_str_tup, decide_true, decide_false, not_true_eq_false, not_false_eq_true, ne_eq, decide_eq_true_eq, Bool.not_eq_true', decide_eq_false_iff_not, Bool.not_true, Bool.not_false, Bool.false_eq_true, if_true, if_false, reduceIte, ha, hb, pa, pb]
theorem roots_ok : ∀ d ∈ rootsL, Root d ∧ 2 ≤ d ∧ d ≤ 99 := by
  have h : ∀ d ∈ rootsL, ((1 * 1 < d ∧ d < 2 * 2) ∨ (2 * 2 < d ∧ d < 3 * 3) ∨ (3 * 3 < d ∧ d < 4 * 4) ∨ (4 * 4 < d ∧ d < 5 * 5) ∨ (5 * 5 < d ∧ d < 6 * 6) ∨ (6 * 6 < d ∧ d < 7 * 7) ∨ (7 * 7 < d ∧ d < 8 * 8) ∨ (8 * 8 < d ∧ d < 9 * 9) ∨ (9 * 9 < d ∧ d < 10 * 10)) ∧ 2 ≤ d ∧ d ≤ 99 := by decide +kernel
  intro d hd
  obtain ⟨h1, h2⟩ := h d hd
  refine ⟨?_, h2⟩
  rcases h1 with ⟨a, b⟩ | ⟨a, b⟩ | ⟨a, b⟩ | ⟨a, b⟩ | ⟨a, b⟩ | ⟨a, b⟩ | ⟨a, b⟩ | ⟨a, b⟩ | ⟨a, b⟩
  · exact ⟨1, by decide, a, b⟩
  · exact ⟨2, by decide, a, b⟩
  · exact ⟨3, by decide, a, b⟩
  · exact ⟨4, by decide, a, b⟩
  · exact ⟨5, by decide, a, b⟩
  · exact ⟨6, by decide, a, b⟩
  · exact ⟨7, by decide, a, b⟩
  · exact ⟨8, by decide, a, b⟩
  · exact ⟨9, by decide, a, b⟩
theorem under_eq (d a b n a' b' n' : Int) (hd : 0 < d) (hn : 0 < n) (hn' : 0 < n') [Bd d 7] {k1 k2 k3 k4 k5 k6 : Nat} [Bd a k1] [Bd b k2] [Bd n k3] [Bd a' k4] [Bd b' k5] [Bd n' k6] (h1 : k1 ≤ 3900) (h2 : k2 ≤ 3900) (h3 : k3 ≤ 3900) (h4 : k4 ≤ 3900) (h5 : k5 ≤ 3900) (h6 : k6 ≤ 3900) :
    m_under [.int d, .tuple [.int a, .int b, .int n], .tuple [.int a', .int b', .int n']] = .ok (.bool (decide (Lt0 d (a * n' - a' * n) (b * n' - b' * n)))) := by
  have hm : n * n' ≠ 0 := Int.mul_ne_zero (by omega) (by omega)
  have e := taken_eq a b n a' b' n' hm (by omega) (by omega) (by omega) (by omega) (by omega) (by omega)
  obtain ⟨m1, m2, m3⟩ := lmul (a := a * n' - a' * n) (b := b * n' - b' * n) hm
  have hs : 0 < shr (g3 (a * n' - a' * n) (b * n' - b' * n) (n * n')) (n * n') := by
    have h0 := g3_ne (a := a * n' - a' * n) (b := b * n' - b' * n) hm
    have : ¬ n * n' < 0 := by have := Int.mul_pos hn hn'; omega
    unfold shr
    rw [if_neg this]
    omega
  have sc := lt0_scale (d := d) (a := lA (a * n' - a' * n) (b * n' - b' * n) (n * n')) (b := lB (a * n' - a' * n) (b * n' - b' * n) (n * n')) hs
  rw [m1, m2] at sc
  obtain ⟨v, ev, hv⟩ := sign_of_eq d (lA (a * n' - a' * n) (b * n' - b' * n) (n * n')) (lB (a * n' - a' * n) (b * n' - b' * n) (n * n')) hd (by decide) (show max (k1 + k6) (k4 + k3) + 1 ≤ 1000000 by omega) (show max (k2 + k6) (k5 + k3) + 1 ≤ 1000000 by omega)
  have hb : decide (v < 0) = decide (Lt0 d (a * n' - a' * n) (b * n' - b' * n)) := by rw [decide_eq_decide, hv, sc]
  simp +decide only [m_under, den_under, ev_seq, seq_nx, seq_rt, seq_ex, seq_bk, seq_ct, seq_ite, fl_ok, fl_ex, fl_ite, ev_set, kSet_ev, ev_ret, ev_nx, ev_raise, ev_if, kIf_ev, ev_par, kPar_ev, kId_ev, ev_asg, kAsg_ev, ev_for, kFor_ev, ev_V, dVg_ok, ev_C, ev_1, ev_2, bind2_ok, bind2_ite1, bind2_ite2, bind_ite, ev_A, ev_nil, ev_cons, kCons_ev, ev_T, toB_ev, ev_and, ev_or, ev_not, kAnd_ev, kOr_ev, kNot_ev, ev_andV, ev_notV, kAndV_ev, kNotV_ev, tup_ev, lst_ev, call_ev, ev_fn, startE_0, startE_s, startE_c, fin_rt, fin_nx, fin_ex, fin_ite, ix_t0, ix_t1, ix_t2, ix_t3, ix_l0, ix_l1, ix_l2, len_l, len_t1, len_t2, len_t3, len_t4, beq_self_eq_true, ev_iL, ev_iT, asL_ev, asT_ev, ev_iA, ev_P, toI_ev, ev_P0, ev_sl, kSl_ev, put_1, gAdd_i, gSub_i, gMul_i, gDiv_p, gMod_p, gPow_l, gShl_l, gShr_l, gLt_i, gLe_i, gGt_i, gGe_i, gEq_i, gNe_i, gAbs_i, gInt_i, gInt_b, gEq_s, gNe_s, gEq_b, gNe_b, gEq_2, gNe_2, gEq_3, gNe_3, gEq_22, gNe_22, DL.R.bind_ok, DL.R.bind_ex, ev_setL, kSetL_ev, ev_lDisp, kDisp_ev, ev_lList, lOf_l, lOf_t, ev_frz, frz_l, frz_d, frz_n, ev_lend, lend_l, lend_d, atom_i, atom_b, atom_s, ev_lendB, lendB_l, lendB_d, ev_app, app_l, kApp_ev, ev_put, put_l, ev_ixO, ixO_l, ixO_d, put_m, putAll_c, putAll_n, ev_lc, kLst_ev, ev_lcL, wipe_n, wipe_c, r1_2, r1_3, bits_ev, List.getElem?_cons_zero, List.getElem?_cons_succ, List.set_cons_zero, List.set_cons_succ, List.length_cons, List.length_nil, List.length_map, List.append_nil, List.cons_append, List.nil_append, ev_if, turn_nx, turn_ct, turn_bk, turn_rt, turn_ite, kWh_ev, isi_int_int, isi_bool_int, isi_int_bool, isi_bool_bool, isi_int_str, isi_int_none, isi_int_list, isi_int_tup, isi_bool_str, isi_bool_none, isi_bool_list, isi_bool_tup, isi_tup_tup, isi_tup_int, isi_tup_bool, isi_tup_str, isi_tup_none, isi_tup_list, isi_list_list, isi_list_tup, isi_list_int, isi_list_bool, isi_list_str, isi_list_none, isi_str_str, isi_str_int, isi_str_bool, isi_str_none, isi_str_list, isi_str_tup, decide_true, decide_false, not_true_eq_false, not_false_eq_true, ne_eq, decide_eq_true_eq, Bool.not_eq_true', decide_eq_false_iff_not, Bool.not_true, Bool.not_false, Bool.false_eq_true, if_true, if_false, reduceIte, e, ev, hb]
end DL

set_option autoImplicit false
set_option linter.all false
/-! plain arithmetic: fractions and lengths as rationals -/
namespace MB
theorem fT_num {a b : Int} (hb : b ≠ 0) : fT a b = ((a : Rat) / (b : Rat)).num := by rw [fT_eq]; exact (fr_of hb).1
theorem fB_den {a b : Int} (hb : b ≠ 0) : fB a b = (((a : Rat) / (b : Rat)).den : Int) := by rw [fB_eq]; exact (fr_of hb).2
theorem rat_of_lowF {a b : Int} (h : LowF a b) : ((a : Rat) / (b : Rat)).num = a ∧ (((a : Rat) / (b : Rat)).den : Int) = b := by
  have hb : b ≠ 0 := by have := h.1; omega
  have s := lowF_self h
  exact ⟨by rw [← fT_num hb, s.1], by rw [← fB_den hb, s.2]⟩
/-- the length of two fractions -/
def qA (x y : Rat) : Int := lA (x.num * y.den) (y.num * x.den) (x.den * y.den)
def qB (x y : Rat) : Int := lB (x.num * y.den) (y.num * x.den) (x.den * y.den)
def qN (x y : Rat) : Int := lN (x.num * y.den) (y.num * x.den) (x.den * y.den)
theorem qden (x y : Rat) : (x.den : Int) * (y.den : Int) ≠ 0 := Int.mul_ne_zero (by have := x.den_nz; omega) (by have := y.den_nz; omega)
theorem q_low (x y : Rat) : Low (qA x y) (qB x y) (qN x y) := low_of (qden x y)
theorem qN_pos (x y : Rat) : 0 < qN x y := (q_low x y).1
theorem qN_ne (x y : Rat) : ((qN x y : Int) : Rat) ≠ 0 := ratne (by have := qN_pos x y; omega)
theorem q_val (x y : Rat) : ((qA x y : Int) : Rat) = x * ((qN x y : Int) : Rat) ∧ ((qB x y : Int) : Rat) = y * ((qN x y : Int) : Rat) := by
  have c := lcross (a := x.num * y.den) (b := y.num * x.den) (qden x y)
  have hx : ((x.den : Int) : Rat) ≠ 0 := ratne (by have := x.den_nz; omega)
  have hy : ((y.den : Int) : Rat) ≠ 0 := ratne (by have := y.den_nz; omega)
  have nx := rnum x
  have ny := rnum y
  have c1 : ((qA x y * (x.den * y.den) : Int) : Rat) = ((x.num * y.den * qN x y : Int) : Rat) := congrArg _ c.1
  have c2 : ((qB x y * (x.den * y.den) : Int) : Rat) = ((y.num * x.den * qN x y : Int) : Rat) := congrArg _ c.2
  simp only [Rat.intCast_mul] at c1 c2
  constructor <;> grind
/-- a length by its numbers -/
theorem q_of {a b n : Int} (hn : n ≠ 0) : lA a b n = qA ((a : Rat) / n) ((b : Rat) / n) ∧ lB a b n = qB ((a : Rat) / n) ((b : Rat) / n) ∧ lN a b n = qN ((a : Rat) / n) ((b : Rat) / n) := by
  have hn' : (n : Rat) ≠ 0 := ratne hn
  generalize hx : (a : Rat) / n = x
  generalize hy : (b : Rat) / n = y
  have nx := rnum x
  have ny := rnum y
  have e1 : a * (x.den * y.den) = x.num * y.den * n := by
    have : ((a * (x.den * y.den) : Int) : Rat) = ((x.num * y.den * n : Int) : Rat) := by
      simp only [Rat.intCast_mul]
      grind
    exact_mod_cast this
  have e2 : b * (x.den * y.den) = y.num * x.den * n := by
    have : ((b * (x.den * y.den) : Int) : Rat) = ((y.num * x.den * n : Int) : Rat) := by
      simp only [Rat.intCast_mul]
      grind
    exact_mod_cast this
  exact low_eq hn (qden x y) e1 e2
theorem q_self {a b n : Int} (h : Low a b n) : qA ((a : Rat) / n) ((b : Rat) / n) = a ∧ qB ((a : Rat) / n) ((b : Rat) / n) = b ∧ qN ((a : Rat) / n) ((b : Rat) / n) = n := by
  have hn : n ≠ 0 := by have := h.1; omega
  have e := q_of (a := a) (b := b) hn
  have s := low_self h
  exact ⟨e.1.symm.trans s.1, e.2.1.symm.trans s.2.1, e.2.2.symm.trans s.2.2⟩
/-- the parts of a length -/
theorem q_parts (x y : Rat) : fT (qA x y) (qN x y) = x.num ∧ fB (qA x y) (qN x y) = x.den ∧ fT (qB x y) (qN x y) = y.num ∧ fB (qB x y) (qN x y) = y.den := by
  have hn : qN x y ≠ 0 := by have := qN_pos x y; omega
  have hn' := qN_ne x y
  have v := q_val x y
  have ex : ((qA x y : Int) : Rat) / ((qN x y : Int) : Rat) = x := by grind
  have ey : ((qB x y : Int) : Rat) / ((qN x y : Int) : Rat) = y := by grind
  refine ⟨?_, ?_, ?_, ?_⟩
  · rw [fT_num hn, ex]
  · rw [fB_den hn, ex]
  · rw [fT_num hn, ey]
  · rw [fB_den hn, ey]
end MB

set_option Elab.async false
set_option linter.all false
set_option maxRecDepth 100000
set_option maxHeartbeats 1000000
set_option autoImplicit false
/-! fractions, lengths and tables as rationals -/
namespace DL
open PySem L2 MB
class BR (q : Rat) (n m : outParam Nat) : Prop where
  num : q.num.natAbs < 2 ^ n
  den : q.den < 2 ^ m
theorem BR.mono {q : Rat} {n m n' m' : Nat} (b : BR q n m) (h : n ≤ n') (h' : m ≤ m') : BR q n' m' := ⟨Nat.lt_of_lt_of_le b.num (Nat.pow_le_pow_right (by decide) h), Nat.lt_of_lt_of_le b.den (Nat.pow_le_pow_right (by decide) h')⟩
instance bd_num {q : Rat} {n m : Nat} [b : BR q n m] : Bd q.num n := ⟨b.num⟩
instance bd_den {q : Rat} {n m : Nat} [b : BR q n m] : Bd (q.den : Int) m := ⟨by rw [Int.natAbs_natCast]; exact b.den⟩
theorem br_frac {a b : Int} (hb : b ≠ 0) {n m : Nat} (h1 : Bd a n) (h2 : Bd b m) : BR ((a : Rat) / (b : Rat)) n m := by
  have e1 := fT_num (a := a) hb
  have e2 := fB_den (a := a) hb
  have b1 : Bd (fT a b) n := bd_fT
  have b2 : Bd (fB a b) m := bd_fB
  rw [e1] at b1
  rw [e2] at b2
  exact ⟨b1.h, by have := b2.h; rw [Int.natAbs_natCast] at this; exact this⟩
theorem add_val (p q : Rat) : p + q = ((p.num * q.den + q.num * p.den : Int) : Rat) / ((p.den * q.den : Int) : Rat) := by
  have h1 : ((p.den : Int) : Rat) ≠ 0 := ratne (by have := p.den_nz; omega)
  have h2 : ((q.den : Int) : Rat) ≠ 0 := ratne (by have := q.den_nz; omega)
  have e1 := rnum p
  have e2 := rnum q
  simp only [Rat.intCast_mul, Rat.intCast_add]
  grind
theorem sub_val (p q : Rat) : p - q = ((p.num * q.den - q.num * p.den : Int) : Rat) / ((p.den * q.den : Int) : Rat) := by
  have h1 : ((p.den : Int) : Rat) ≠ 0 := ratne (by have := p.den_nz; omega)
  have h2 : ((q.den : Int) : Rat) ≠ 0 := ratne (by have := q.den_nz; omega)
  have e1 := rnum p
  have e2 := rnum q
  simp only [Rat.intCast_mul, Rat.intCast_sub]
  grind
theorem mul_val (p q : Rat) : p * q = ((p.num * q.num : Int) : Rat) / ((p.den * q.den : Int) : Rat) := by
  have h1 : ((p.den : Int) : Rat) ≠ 0 := ratne (by have := p.den_nz; omega)
  have h2 : ((q.den : Int) : Rat) ≠ 0 := ratne (by have := q.den_nz; omega)
  have e1 := rnum p
  have e2 := rnum q
  simp only [Rat.intCast_mul]
  grind
theorem div_val (p q : Rat) (hq : q ≠ 0) : p / q = ((p.num * q.den : Int) : Rat) / ((p.den * q.num : Int) : Rat) := by
  have h1 : ((p.den : Int) : Rat) ≠ 0 := ratne (by have := p.den_nz; omega)
  have h2 : ((q.den : Int) : Rat) ≠ 0 := ratne (by have := q.den_nz; omega)
  have e1 := rnum p
  have e2 := rnum q
  simp only [Rat.intCast_mul]
  rw [e1, e2]
  grind
theorem den_ne (p q : Rat) : (p.den : Int) * (q.den : Int) ≠ 0 := qden p q
section
variable {p q : Rat} {n m n' m' : Nat} [a : BR p n m] [b : BR q n' m']
instance br_add : BR (p + q) (n + n' + m + m' + 1) (m + m') := by
  rw [add_val]
  exact br_frac (den_ne p q) (Bd.mono (inferInstance : Bd (p.num * q.den + q.num * p.den) (max (n + m') (n' + m) + 1)) (by omega)) inferInstance
instance br_sub : BR (p - q) (n + n' + m + m' + 1) (m + m') := by
  rw [sub_val]
  exact br_frac (den_ne p q) (Bd.mono (inferInstance : Bd (p.num * q.den - q.num * p.den) (max (n + m') (n' + m) + 1)) (by omega)) inferInstance
instance br_mul : BR (p * q) (n + n') (m + m') := by
  rw [mul_val]
  exact br_frac (den_ne p q) inferInstance inferInstance
omit b in
instance br_neg : BR (-p) n m := ⟨by rw [Rat.neg_num, Int.natAbs_neg]; exact a.num, by rw [Rat.neg_den]; exact a.den⟩
end
instance br_int {a : Int} {n : Nat} [b : Bd a n] : BR (a : Rat) n 1 := ⟨b.h, by show 1 < 2 ^ 1; decide⟩
instance br_zero : BR (0 : Rat) 1 1 := ⟨by decide, by decide⟩
/-! data -/
@[reducible] def frD (q : Rat) : PD := .tuple [.int q.num, .int (q.den : Int)]
@[reducible] def lnD (x y : Rat) : PD := .tuple [.int (qA x y), .int (qB x y), .int (qN x y)]
theorem fraction_fr (a b : Int) (hb : b ≠ 0) {k : Nat} [Bd b k] (hk : k ≤ 9000) : m_fraction [.int a, .int b] = .ok (frD ((a : Rat) / (b : Rat))) := by
  rw [fraction_eq a b hb hk, fT_num hb, fB_den hb]
section
variable (p q : Rat) {n m n' m' : Nat} [BR p n m] [BR q n' m']
theorem minus_fr (h : m + m' ≤ 9000) (h1 : n ≤ 60000000) (h2 : n' ≤ 60000000) : m_minus [frD p, frD q] = .ok (frD (p - q)) := by
  have i1 : n + m' ≤ 134217728 := by omega
  have i2 : n' + m ≤ 134217728 := by omega
  have i3 : m + m' ≤ 134217728 := by omega
  have e := fraction_fr (p.num * q.den - q.num * p.den) (p.den * q.den) (den_ne p q) h
  rw [← sub_val] at e
  simp +decide only [m_minus, den_minus, ev_seq, seq_nx, seq_rt, seq_ex, seq_bk, seq_ct, seq_ite, fl_ok, fl_ex, fl_ite, ev_set, kSet_ev, ev_ret, ev_nx, ev_raise, ev_if, kIf_ev, ev_par, kPar_ev, kId_ev, ev_asg, kAsg_ev, ev_for, kFor_ev, ev_V, dVg_ok, ev_C, ev_1, ev_2, bind2_ok, bind2_ite1, bind2_ite2, bind_ite, ev_A, ev_nil, ev_cons, kCons_ev, ev_T, toB_ev, ev_and, ev_or, ev_not, kAnd_ev, kOr_ev, kNot_ev, ev_andV, ev_notV, kAndV_ev, kNotV_ev, tup_ev, lst_ev, call_ev, ev_fn, startE_0, startE_s, startE_c, fin_rt, fin_nx, fin_ex, fin_ite, ix_t0, ix_t1, ix_t2, ix_t3, ix_l0, ix_l1, ix_l2, len_l, len_t1, len_t2, len_t3, len_t4, beq_self_eq_true, ev_iL, ev_iT, asL_ev, asT_ev, ev_iA, ev_P, toI_ev, ev_P0, ev_sl, kSl_ev, put_1, gAdd_i, gSub_i, gMul_i, gDiv_p, gMod_p, gPow_l, gShl_l, gShr_l, gLt_i, gLe_i, gGt_i, gGe_i, gEq_i, gNe_i, gAbs_i, gInt_i, gInt_b, gEq_s, gNe_s, gEq_b, gNe_b, gEq_2, gNe_2, gEq_3, gNe_3, gEq_22, gNe_22, DL.R.bind_ok, DL.R.bind_ex, ev_setL, kSetL_ev, ev_lDisp, kDisp_ev, ev_lList, lOf_l, lOf_t, ev_frz, frz_l, frz_d, frz_n, ev_lend, lend_l, lend_d, atom_i, atom_b, atom_s, ev_lendB, lendB_l, lendB_d, ev_app, app_l, kApp_ev, ev_put, put_l, ev_ixO, ixO_l, ixO_d, put_m, putAll_c, putAll_n, ev_lc, kLst_ev, ev_lcL, wipe_n, wipe_c, r1_2, r1_3, bits_ev, List.getElem?_cons_zero, List.getElem?_cons_succ, List.set_cons_zero, List.set_cons_succ, List.length_cons, List.length_nil, List.length_map, List.append_nil, List.cons_append, List.nil_append, ev_if, turn_nx, turn_ct, turn_bk, turn_rt, turn_ite, kWh_ev, isi_int_int, isi_bool_int, isi_int_bool, isi_bool_bool, isi_int_str, isi_int_none, isi_int_list, isi_int_tup, isi_bool_str, isi_bool_none, isi_bool_list, isi_bool_tup, isi_tup_tup, isi_tup_int, isi_tup_bool, isi_tup_str, isi_tup_none, isi_tup_list, isi_list_list, isi_list_tup, isi_list_int, isi_list_bool, isi_list_str, isi_list_none, isi_str_str, isi_str_int, isi_str_bool, isi_str_none, isi_str_list, isi_str_tup, decide_true, decide_false, not_true_eq_false, not_false_eq_true, ne_eq, decide_eq_true_eq, Bool.not_eq_true', decide_eq_false_iff_not, Bool.not_true, Bool.not_false, Bool.false_eq_true, if_true, if_false, reduceIte, i1, i2, i3, e]
theorem times_fr (h : m + m' ≤ 9000) (h1 : n ≤ 60000000) (h2 : n' ≤ 60000000) : m_times [frD p, frD q] = .ok (frD (p * q)) := by
  have i1 : n + n' ≤ 134217728 := by omega
  have i3 : m + m' ≤ 134217728 := by omega
  have e := fraction_fr (p.num * q.num) (p.den * q.den) (den_ne p q) h
  rw [← mul_val] at e
  simp +decide only [m_times, den_times, ev_seq, seq_nx, seq_rt, seq_ex, seq_bk, seq_ct, seq_ite, fl_ok, fl_ex, fl_ite, ev_set, kSet_ev, ev_ret, ev_nx, ev_raise, ev_if, kIf_ev, ev_par, kPar_ev, kId_ev, ev_asg, kAsg_ev, ev_for, kFor_ev, ev_V, dVg_ok, ev_C, ev_1, ev_2, bind2_ok, bind2_ite1, bind2_ite2, bind_ite, ev_A, ev_nil, ev_cons, kCons_ev, ev_T, toB_ev, ev_and, ev_or, ev_not, kAnd_ev, kOr_ev, kNot_ev, ev_andV, ev_notV, kAndV_ev, kNotV_ev, tup_ev, lst_ev, call_ev, ev_fn, startE_0, startE_s, startE_c, fin_rt, fin_nx, fin_ex, fin_ite, ix_t0, ix_t1, ix_t2, ix_t3, ix_l0, ix_l1, ix_l2, len_l, len_t1, len_t2, len_t3, len_t4, beq_self_eq_true, ev_iL, ev_iT, asL_ev, asT_ev, ev_iA, ev_P, toI_ev, ev_P0, ev_sl, kSl_ev, put_1, gAdd_i, gSub_i, gMul_i, gDiv_p, gMod_p, gPow_l, gShl_l, gShr_l, gLt_i, gLe_i, gGt_i, gGe_i, gEq_i, gNe_i, gAbs_i, gInt_i, gInt_b, gEq_s, gNe_s, gEq_b, gNe_b, gEq_2, gNe_2, gEq_3, gNe_3, gEq_22, gNe_22, DL.R.bind_ok, DL.R.bind_ex, ev_setL, kSetL_ev, ev_lDisp, kDisp_ev, ev_lList, lOf_l, lOf_t, ev_frz, frz_l, frz_d, frz_n, ev_lend, lend_l, lend_d, atom_i, atom_b, atom_s, ev_lendB, lendB_l, lendB_d, ev_app, app_l, kApp_ev, ev_put, put_l, ev_ixO, ixO_l, ixO_d, put_m, putAll_c, putAll_n, ev_lc, kLst_ev, ev_lcL, wipe_n, wipe_c, r1_2, r1_3, bits_ev, List.getElem?_cons_zero, List.getElem?_cons_succ, List.set_cons_zero, List.set_cons_succ, List.length_cons, List.length_nil, List.length_map, List.append_nil, List.cons_append, List.nil_append, ev_if, turn_nx, turn_ct, turn_bk, turn_rt, turn_ite, kWh_ev, isi_int_int, isi_bool_int, isi_int_bool, isi_bool_bool, isi_int_str, isi_int_none, isi_int_list, isi_int_tup, isi_bool_str, isi_bool_none, isi_bool_list, isi_bool_tup, isi_tup_tup, isi_tup_int, isi_tup_bool, isi_tup_str, isi_tup_none, isi_tup_list, isi_list_list, isi_list_tup, isi_list_int, isi_list_bool, isi_list_str, isi_list_none, isi_str_str, isi_str_int, isi_str_bool, isi_str_none, isi_str_list, isi_str_tup, decide_true, decide_false, not_true_eq_false, not_false_eq_true, ne_eq, decide_eq_true_eq, Bool.not_eq_true', decide_eq_false_iff_not, Bool.not_true, Bool.not_false, Bool.false_eq_true, if_true, if_false, reduceIte, i1, i3, e]
theorem by_fr (hq : q ≠ 0) (h : m + n' ≤ 9000) (h1 : n ≤ 60000000) (h2 : m' ≤ 60000000) : m_by [frD p, frD q] = .ok (frD (p / q)) := by
  have i1 : n + m' ≤ 134217728 := by omega
  have i3 : m + n' ≤ 134217728 := by omega
  have hn : (p.den : Int) * q.num ≠ 0 := Int.mul_ne_zero (by have := p.den_nz; omega) (fun e => hq (Rat.num_eq_zero.mp e))
  have e := fraction_fr (p.num * q.den) (p.den * q.num) hn h
  rw [← div_val p q hq] at e
  simp +decide only [m_by, den_by, ev_seq, seq_nx, seq_rt, seq_ex, seq_bk, seq_ct, seq_ite, fl_ok, fl_ex, fl_ite, ev_set, kSet_ev, ev_ret, ev_nx, ev_raise, ev_if, kIf_ev, ev_par, kPar_ev, kId_ev, ev_asg, kAsg_ev, ev_for, kFor_ev, ev_V, dVg_ok, ev_C, ev_1, ev_2, bind2_ok, bind2_ite1, bind2_ite2, bind_ite, ev_A, ev_nil, ev_cons, kCons_ev, ev_T, toB_ev, ev_and, ev_or, ev_not, kAnd_ev, kOr_ev, kNot_ev, ev_andV, ev_notV, kAndV_ev, kNotV_ev, tup_ev, lst_ev, call_ev, ev_fn, startE_0, startE_s, startE_c, fin_rt, fin_nx, fin_ex, fin_ite, ix_t0, ix_t1, ix_t2, ix_t3, ix_l0, ix_l1, ix_l2, len_l, len_t1, len_t2, len_t3, len_t4, beq_self_eq_true, ev_iL, ev_iT, asL_ev, asT_ev, ev_iA, ev_P, toI_ev, ev_P0, ev_sl, kSl_ev, put_1, gAdd_i, gSub_i, gMul_i, gDiv_p, gMod_p, gPow_l, gShl_l, gShr_l, gLt_i, gLe_i, gGt_i, gGe_i, gEq_i, gNe_i, gAbs_i, gInt_i, gInt_b, gEq_s, gNe_s, gEq_b, gNe_b, gEq_2, gNe_2, gEq_3, gNe_3, gEq_22, gNe_22, DL.R.bind_ok, DL.R.bind_ex, ev_setL, kSetL_ev, ev_lDisp, kDisp_ev, ev_lList, lOf_l, lOf_t, ev_frz, frz_l, frz_d, frz_n, ev_lend, lend_l, lend_d, atom_i, atom_b, atom_s, ev_lendB, lendB_l, lendB_d, ev_app, app_l, kApp_ev, ev_put, put_l, ev_ixO, ixO_l, ixO_d, put_m, putAll_c, putAll_n, ev_lc, kLst_ev, ev_lcL, wipe_n, wipe_c, r1_2, r1_3, bits_ev, List.getElem?_cons_zero, List.getElem?_cons_succ, List.set_cons_zero, List.set_cons_succ, List.length_cons, List.length_nil, List.length_map, List.append_nil, List.cons_append, List.nil_append, ev_if, turn_nx, turn_ct, turn_bk, turn_rt, turn_ite, kWh_ev, isi_int_int, isi_bool_int, isi_int_bool, isi_bool_bool, isi_int_str, isi_int_none, isi_int_list, isi_int_tup, isi_bool_str, isi_bool_none, isi_bool_list, isi_bool_tup, isi_tup_tup, isi_tup_int, isi_tup_bool, isi_tup_str, isi_tup_none, isi_tup_list, isi_list_list, isi_list_tup, isi_list_int, isi_list_bool, isi_list_str, isi_list_none, isi_str_str, isi_str_int, isi_str_bool, isi_str_none, isi_str_list, isi_str_tup, decide_true, decide_false, not_true_eq_false, not_false_eq_true, ne_eq, decide_eq_true_eq, Bool.not_eq_true', decide_eq_false_iff_not, Bool.not_true, Bool.not_false, Bool.false_eq_true, if_true, if_false, reduceIte, i1, i3, e]
end
instance bd_qA {x y : Rat} {n m n' m' : Nat} [BR x n m] [BR y n' m'] : Bd (qA x y) (n + m') := bd_lA
instance bd_qB {x y : Rat} {n m n' m' : Nat} [BR x n m] [BR y n' m'] : Bd (qB x y) (n' + m) := bd_lB
instance bd_qN {x y : Rat} {n m n' m' : Nat} [BR x n m] [BR y n' m'] : Bd (qN x y) (m + m') := bd_lN
theorem parts_ln (x y : Rat) {n m n' m' : Nat} [BR x n m] [BR y n' m'] (h : m + m' ≤ 9000) : m_parts [lnD x y] = .ok (.tuple [frD x, frD y]) := by
  have hn : qN x y ≠ 0 := by have := qN_pos x y; omega
  have e := parts_eq (qA x y) (qB x y) (qN x y) hn h
  have q := q_parts x y
  rw [q.1, q.2.1, q.2.2.1, q.2.2.2] at e
  exact e
theorem by_parts_ln (x y : Rat) {n m n' m' : Nat} [BR x n m] [BR y n' m'] (h : m + m' ≤ 9000) (h1 : n ≤ 60000000) (h2 : n' ≤ 60000000) : m_by_parts [frD x, frD y] = .ok (lnD x y) := by
  have i1 : n + m' ≤ 134217728 := by omega
  have i2 : n' + m ≤ 134217728 := by omega
  have i3 : m + m' ≤ 134217728 := by omega
  simp +decide only [m_by_parts, den_by_parts, ev_seq, seq_nx, seq_rt, seq_ex, seq_bk, seq_ct, seq_ite, fl_ok, fl_ex, fl_ite, ev_set, kSet_ev, ev_ret, ev_nx, ev_raise, ev_if, kIf_ev, ev_par, kPar_ev, kId_ev, ev_asg, kAsg_ev, ev_for, kFor_ev, ev_V, dVg_ok, ev_C, ev_1, ev_2, bind2_ok, bind2_ite1, bind2_ite2, bind_ite, ev_A, ev_nil, ev_cons, kCons_ev, ev_T, toB_ev, ev_and, ev_or, ev_not, kAnd_ev, kOr_ev, kNot_ev, ev_andV, ev_notV, kAndV_ev, kNotV_ev, tup_ev, lst_ev, call_ev, ev_fn, startE_0, startE_s, startE_c, fin_rt, fin_nx, fin_ex, fin_ite, ix_t0, ix_t1, ix_t2, ix_t3, ix_l0, ix_l1, ix_l2, len_l, len_t1, len_t2, len_t3, len_t4, beq_self_eq_true, ev_iL, ev_iT, asL_ev, asT_ev, ev_iA, ev_P, toI_ev, ev_P0, ev_sl, kSl_ev, put_1, gAdd_i, gSub_i, gMul_i, gDiv_p, gMod_p, gPow_l, gShl_l, gShr_l, gLt_i, gLe_i, gGt_i, gGe_i, gEq_i, gNe_i, gAbs_i, gInt_i, gInt_b, gEq_s, gNe_s, gEq_b, gNe_b, gEq_2, gNe_2, gEq_3, gNe_3, gEq_22, gNe_22, DL.R.bind_ok, DL.R.bind_ex, ev_setL, kSetL_ev, ev_lDisp, kDisp_ev, ev_lList, lOf_l, lOf_t, ev_frz, frz_l, frz_d, frz_n, ev_lend, lend_l, lend_d, atom_i, atom_b, atom_s, ev_lendB, lendB_l, lendB_d, ev_app, app_l, kApp_ev, ev_put, put_l, ev_ixO, ixO_l, ixO_d, put_m, putAll_c, putAll_n, ev_lc, kLst_ev, ev_lcL, wipe_n, wipe_c, r1_2, r1_3, bits_ev, List.getElem?_cons_zero, List.getElem?_cons_succ, List.set_cons_zero, List.set_cons_succ, List.length_cons, List.length_nil, List.length_map, List.append_nil, List.cons_append, List.nil_append, ev_if, turn_nx, turn_ct, turn_bk, turn_rt, turn_ite, kWh_ev, isi_int_int, isi_bool_int, isi_int_bool, isi_bool_bool, isi_int_str, isi_int_none, isi_int_list, isi_int_tup, isi_bool_str, isi_bool_none, isi_bool_list, isi_bool_tup, isi_tup_tup, isi_tup_int, isi_tup_bool, isi_tup_str, isi_tup_none, isi_tup_list, isi_list_list, isi_list_tup, isi_list_int, isi_list_bool, isi_list_str, isi_list_none, isi_str_str, isi_str_int, isi_str_bool, isi_str_none, isi_str_list, isi_str_tup, decide_true, decide_false, not_true_eq_false, not_false_eq_true, ne_eq, decide_eq_true_eq, Bool.not_eq_true', decide_eq_false_iff_not, Bool.not_true, Bool.not_false, Bool.false_eq_true, if_true, if_false, reduceIte, lowest_eq, qden x y, i1, i2, i3, h]
  rfl
/-! tables -/
structure Tab where
  a : Rat
  b : Rat
  c : Rat
  d : Rat
def Tab.add (s t : Tab) : Tab := ⟨s.a + t.a, s.b + t.b, s.c + t.c, s.d + t.d⟩
def Tab.sub (s t : Tab) : Tab := ⟨s.a - t.a, s.b - t.b, s.c - t.c, s.d - t.d⟩
def Tab.over (s : Tab) : Tab := ⟨s.a, s.c, s.b, s.d⟩
def Tab.zero : Tab := ⟨0, 0, 0, 0⟩
/-- a board: its sides' parts -/
structure Bo where
  x : Rat
  y : Rat
  u : Rat
  v : Rat
@[reducible] def boD (b : Bo) : PD := .tuple [lnD b.x b.y, lnD b.u b.v]
def Bo.tab (b : Bo) : Tab := ⟨b.x * b.u, b.x * b.v, b.y * b.u, b.y * b.v⟩
class BT (t : Tab) (n m : outParam Nat) : Prop where
  a : BR t.a n m
  b : BR t.b n m
  c : BR t.c n m
  d : BR t.d n m
class BB (t : Bo) (n m : outParam Nat) : Prop where
  x : BR t.x n m
  y : BR t.y n m
  u : BR t.u n m
  v : BR t.v n m
theorem BT.mono {t : Tab} {n m n' m' : Nat} (h : BT t n m) (e : n ≤ n') (e' : m ≤ m') : BT t n' m' := ⟨h.a.mono e e', h.b.mono e e', h.c.mono e e', h.d.mono e e'⟩
section
variable {s t : Tab} {n m n' m' : Nat} [i : BT s n m] [j : BT t n' m']
instance bt_add : BT (s.add t) (n + n' + m + m' + 1) (m + m') := ⟨@br_add _ _ _ _ _ _ i.a j.a, @br_add _ _ _ _ _ _ i.b j.b, @br_add _ _ _ _ _ _ i.c j.c, @br_add _ _ _ _ _ _ i.d j.d⟩
instance bt_sub : BT (s.sub t) (n + n' + m + m' + 1) (m + m') := ⟨@br_sub _ _ _ _ _ _ i.a j.a, @br_sub _ _ _ _ _ _ i.b j.b, @br_sub _ _ _ _ _ _ i.c j.c, @br_sub _ _ _ _ _ _ i.d j.d⟩
omit j in
instance bt_over : BT s.over n m := ⟨i.a, i.c, i.b, i.d⟩
end
instance bt_tab {b : Bo} {n m : Nat} [i : BB b n m] : BT b.tab (n + n) (m + m) := ⟨@br_mul _ _ _ _ _ _ i.x i.u, @br_mul _ _ _ _ _ _ i.x i.v, @br_mul _ _ _ _ _ _ i.y i.u, @br_mul _ _ _ _ _ _ i.y i.v⟩
instance bt_zero : BT Tab.zero 1 1 := ⟨br_zero, br_zero, br_zero, br_zero⟩
theorem lcL_n {tg : Tg} {t : En → R Bool} {f : En → R PD} {ρ : En} : lcL tg t f ρ [] = .ok [] := rfl
theorem lcL_2 {i j : Nat} {x y : PD} {ds : List PD} {f : En → R PD} {ρ : En} {v : PD} {vs : List PD} (h1 : f ((ρ.set i (some (.d x))).set j (some (.d y))) = .ok v) (h2 : lcL (.many [i, j]) bYes f ρ ds = .ok vs) : lcL (.many [i, j]) bYes f ρ (.tuple [x, y] :: ds) = .ok (v :: vs) := by
  rw [lcL]
  have : Tg.put (.many [i, j]) (.tuple [x, y]) ρ = some ((ρ.set i (some (.d x))).set j (some (.d y))) := rfl
  rw [this]
  simp only [bYes, h1, h2]
theorem lcL_1 {i : Nat} {x : PD} {ds : List PD} {f : En → R PD} {ρ : En} {v : PD} {vs : List PD} (h1 : f (ρ.set i (some (.d x))) = .ok v) (h2 : lcL (.one i) bYes f ρ ds = .ok vs) : lcL (.one i) bYes f ρ (x :: ds) = .ok (v :: vs) := by
  rw [lcL]
  have : Tg.put (.one i) x ρ = some (ρ.set i (some (.d x))) := rfl
  rw [this]
  simp only [bYes, h1, h2]
end DL

set_option Elab.async false
set_option linter.all false
set_option maxRecDepth 100000
set_option maxHeartbeats 1000000
set_option autoImplicit false
/-! sides drawn, and what is a length -/
namespace DL
open PySem L2 MB
/-- above nought -/
def Pos (d a b : Int) : Prop := Lt0 d (-a) (-b)
/-- what a side is: in lowest terms, above nought, not too great -/
structure Side (d a b n : Int) : Prop where
  low : Low a b n
  pos : Pos d a b
  ba : Bd a 100
  bb : Bd b 100
  bn : Bd n 31
end DL

set_option autoImplicit false
set_option linter.all false
/-! plain arithmetic: the numbers x + y * root d above nought -/
namespace MB
theorem irrQ {d : Int} (h : Root d) {x y : Rat} (e : x * x = (d : Rat) * y * y) : y = 0 := by
  have nx := rnum x
  have ny := rnum y
  have hx : ((x.den : Int) : Rat) ≠ 0 := ratne (by have := x.den_nz; omega)
  have hy : ((y.den : Int) : Rat) ≠ 0 := ratne (by have := y.den_nz; omega)
  have key : (x.num * y.den) * (x.num * y.den) = d * (y.num * x.den) * (y.num * x.den) := by
    have : (((x.num * y.den) * (x.num * y.den) : Int) : Rat) = ((d * (y.num * x.den) * (y.num * x.den) : Int) : Rat) := by
      simp only [Rat.intCast_mul]
      rw [nx, ny]
      grind
    exact_mod_cast this
  have z := irr h key
  have hn : y.num = 0 := by
    rcases Int.mul_eq_zero.mp z with w | w
    · exact w
    · have := x.den_nz; omega
  exact Rat.num_eq_zero.mp hn
theorem sq_mono {a b : Rat} (h0 : 0 ≤ b) (h : b ≤ a) : b * b ≤ a * a := by
  have h1 := Rat.mul_le_mul_of_nonneg_left h h0
  have h2 := Rat.mul_le_mul_of_nonneg_right h (Rat.le_trans h0 h)
  grind
theorem sq_nonneg (a : Rat) : 0 ≤ a * a := by
  rcases (Rat.le_total : a ≤ 0 ∨ 0 ≤ a) with h | h
  · have := Rat.mul_nonneg (show 0 ≤ -a by grind) (show 0 ≤ -a by grind)
    grind
  · exact Rat.mul_nonneg h h
theorem abs_lt {a b : Rat} (ha : 0 < a) (h : b * b < a * a) : -a < b ∧ b < a := by
  constructor
  · by_cases z : -a < b
    · exact z
    · have := sq_mono (Rat.le_of_lt ha) (show a ≤ -b by grind)
      grind
  · by_cases z : b < a
    · exact z
    · have := sq_mono (Rat.le_of_lt ha) (show a ≤ b by grind)
      grind
def PosQ (d : Int) (x y : Rat) : Prop := ((d : Rat) * y * y < x * x ∧ 0 < x) ∨ (x * x < (d : Rat) * y * y ∧ 0 < y)
theorem Root.posQ {d : Int} (h : Root d) : (0 : Rat) < (d : Rat) := Rat.intCast_pos.mpr h.pos
theorem posQ_mul {d : Int} (hd : Root d) {x y u v : Rat} (h : PosQ d x y) (g : PosQ d u v) : PosQ d (x * u + d * y * v) (x * v + y * u) := by
  have hD := hd.posQ
  unfold PosQ at *
  generalize (d : Rat) = D at *
  have q1 := sq_nonneg u
  have q2 := sq_nonneg v
  have q3 := sq_nonneg x
  have q4 := sq_nonneg y
  rcases h with ⟨h1, h2⟩ | ⟨h1, h2⟩ <;> rcases g with ⟨g1, g2⟩ | ⟨g1, g2⟩
  · left
    have p1 := Rat.mul_pos (show 0 < x * x - D * y * y by grind) (show 0 < u * u - D * v * v by grind)
    have p2 := Rat.mul_pos (show 0 < x * x - D * y * y by grind) (Rat.mul_pos g2 g2)
    have p3 := Rat.mul_nonneg (Rat.mul_nonneg (Rat.le_of_lt hD) q4) (show 0 ≤ u * u - D * v * v by grind)
    have p4 := Rat.mul_pos h2 g2
    have p5 := (abs_lt p4 (b := D * y * v) (by grind)).1
    constructor <;> grind
  · right
    have p1 := Rat.mul_pos (show 0 < x * x - D * y * y by grind) (show 0 < D * v * v - u * u by grind)
    have p2 := Rat.mul_pos (Rat.mul_pos h2 h2) (show 0 < D * v * v - u * u by grind)
    have p3 := Rat.mul_nonneg q1 (show 0 ≤ x * x - D * y * y by grind)
    have p4 := Rat.mul_pos h2 g2
    have p6 : D * ((y * u) * (y * u)) < D * ((x * v) * (x * v)) := by grind
    have p7 := Rat.lt_of_mul_lt_mul_left p6 (Rat.le_of_lt hD)
    have p5 := (abs_lt p4 (b := y * u) p7).1
    constructor <;> grind
  · right
    have p1 := Rat.mul_pos (show 0 < D * y * y - x * x by grind) (show 0 < u * u - D * v * v by grind)
    have p2 := Rat.mul_pos (Rat.mul_pos g2 g2) (show 0 < D * y * y - x * x by grind)
    have p3 := Rat.mul_nonneg q3 (show 0 ≤ u * u - D * v * v by grind)
    have p4 := Rat.mul_pos g2 h2
    have p6 : D * ((x * v) * (x * v)) < D * ((u * y) * (u * y)) := by grind
    have p7 := Rat.lt_of_mul_lt_mul_left p6 (Rat.le_of_lt hD)
    have p5 := (abs_lt p4 (b := x * v) p7).1
    constructor <;> grind
  · left
    have p1 := Rat.mul_pos (show 0 < D * y * y - x * x by grind) (show 0 < D * v * v - u * u by grind)
    have p2 := Rat.mul_pos (Rat.mul_pos hD (Rat.mul_pos h2 h2)) (show 0 < D * v * v - u * u by grind)
    have p3 := Rat.mul_nonneg q1 (show 0 ≤ D * y * y - x * x by grind)
    have p4 := Rat.mul_pos hD (Rat.mul_pos h2 g2)
    have p5 := (abs_lt p4 (b := x * u) (by grind)).1
    constructor <;> grind
theorem posQ_one {d : Int} (hd : Root d) {x y : Rat} (h : PosQ d x y) : PosQ d (1 + x) y := by
  have ir : ((1 + x) * (1 + x) = (d : Rat) * y * y → y = 0) := irrQ hd
  unfold PosQ at *
  generalize (d : Rat) = D at *
  rcases h with ⟨h1, h2⟩ | ⟨h1, h2⟩
  · left
    constructor <;> grind
  · by_cases c : D * y * y < (1 + x) * (1 + x)
    · left
      refine ⟨c, ?_⟩
      by_cases c2 : 0 < 1 + x
      · exact c2
      · have := sq_mono (show 0 ≤ -(1 + x) by grind) (show -(1 + x) ≤ -x by grind)
        grind
    · by_cases c2 : (1 + x) * (1 + x) = D * y * y
      · have := ir c2
        grind
      · right
        constructor <;> grind
theorem posQ_inv {d : Int} {x y N : Rat} (hN : N = x * x - d * y * y) (h : PosQ d x y) : PosQ d (x / N) (-y / N) ∧ N ≠ 0 := by
  unfold PosQ at *
  generalize (d : Rat) = D at *
  rw [Rat.div_def, Rat.div_def]
  have e : x * N⁻¹ * (x * N⁻¹) - D * (-y * N⁻¹) * (-y * N⁻¹) = N⁻¹ * N⁻¹ * (x * x - D * y * y) := by grind
  rcases h with ⟨h1, h2⟩ | ⟨h1, h2⟩
  · have hp : 0 < N := by grind
    have hi := Rat.inv_pos.mpr hp
    have p := Rat.mul_pos h2 hi
    have q := Rat.mul_pos (Rat.mul_pos hi hi) (show 0 < x * x - D * y * y by grind)
    refine ⟨.inl ⟨?_, p⟩, by grind⟩
    grind
  · have hp : 0 < -N := by grind
    have hi := Rat.inv_pos.mpr hp
    have en : (-N)⁻¹ = -N⁻¹ := by grind
    rw [en] at hi
    have p := Rat.mul_pos h2 hi
    have q := Rat.mul_pos (Rat.mul_pos hi hi) (show 0 < D * y * y - x * x by grind)
    refine ⟨.inr ⟨?_, by grind⟩, by grind⟩
    grind
theorem posQ_add {d : Int} (hd : Root d) {x y u v : Rat} (h : PosQ d x y) (g : PosQ d u v) : PosQ d (x + u) (y + v) := by
  obtain ⟨hi, hN⟩ := posQ_inv rfl h
  have t := posQ_one hd (posQ_mul hd hi g)
  have s := posQ_mul hd h t
  generalize hNe : x * x - (d : Rat) * y * y = N at *
  generalize (d : Rat) = D at *
  have e1 : x * (1 + (x / N * u + D * (-y / N) * v)) + D * y * (x / N * v + -y / N * u) = x + u := by grind
  have e2 : x * (x / N * v + -y / N * u) + y * (1 + (x / N * u + D * (-y / N) * v)) = y + v := by grind
  rw [e1, e2] at s
  exact s
end MB
namespace MB
theorem posQ_scale {d : Int} (hd : Root d) {x y m : Rat} (hm : 0 < m) : PosQ d (x * m) (y * m) ↔ PosQ d x y := by
  have g (m : Rat) (hm : 0 < m) : PosQ d m 0 := .inl ⟨by have := Rat.mul_pos hm hm; grind, hm⟩
  constructor
  · intro h
    have hi := Rat.inv_pos.mpr hm
    have := posQ_mul hd h (g _ hi)
    have e1 : x * m * m⁻¹ + d * (y * m) * 0 = x := by grind
    have e2 : x * m * 0 + y * m * m⁻¹ = y := by grind
    rw [e1, e2] at this
    exact this
  · intro h
    have := posQ_mul hd h (g _ hm)
    have e1 : x * m + d * y * 0 = x * m := by grind
    have e2 : x * 0 + y * m = y * m := by grind
    rw [e1, e2] at this
    exact this
/-- the sign's law, of whole numbers -/
theorem lt0_posQ {d : Int} (hd : Root d) {a b : Int} : Lt0 d a b ↔ PosQ d (-(a : Rat)) (-(b : Rat)) := by
  have ea : ((a * a : Int) : Rat) = -(a : Rat) * -(a : Rat) := by rw [Rat.intCast_mul]; grind
  have eb : ((d * b * b : Int) : Rat) = d * -(b : Rat) * -(b : Rat) := by simp only [Rat.intCast_mul]; grind
  have n1 : (0 : Rat) < -(a : Rat) ↔ a < 0 := by
    rw [← Rat.intCast_neg, Rat.intCast_pos]; omega
  have n2 : (0 : Rat) < -(b : Rat) ↔ b < 0 := by
    rw [← Rat.intCast_neg, Rat.intCast_pos]; omega
  unfold PosQ
  rw [← ea, ← eb, Rat.intCast_lt_intCast, Rat.intCast_lt_intCast, n1, n2]
  unfold Lt0
  have z1 : a = 0 → a * a = 0 := fun h => by rw [h]; rfl
  have z2 : b = 0 → d * b * b = 0 := fun h => by rw [h]; simp
  have s1 : 0 ≤ a * a := by
    rcases Int.le_total 0 a with w | w
    · exact Int.mul_nonneg w w
    · exact Int.mul_nonneg_of_nonpos_of_nonpos w w
  have s2 : 0 ≤ d * b * b := by
    rw [Int.mul_assoc]
    refine Int.mul_nonneg (by have := hd.pos; omega) ?_
    rcases Int.le_total 0 b with w | w
    · exact Int.mul_nonneg w w
    · exact Int.mul_nonneg_of_nonpos_of_nonpos w w
  have z3 : a * a = d * b * b → a = 0 ∧ b = 0 := fun h => by
    have hb := irr hd h
    refine ⟨?_, hb⟩
    subst hb
    have : a * a = 0 := by simpa using h
    rcases Int.mul_eq_zero.mp this with z | z <;> exact z
  constructor
  · rintro (⟨p1, p2, p3⟩ | ⟨p1, p2, p3⟩ | ⟨p1, p2, p3⟩)
    · rcases Int.lt_trichotomy (a * a) (d * b * b) with w | w | w
      · right; refine ⟨w, ?_⟩; by_cases hb : b = 0
        · have := z2 hb; omega
        · omega
      · exact absurd (z3 w) p3
      · left; refine ⟨w, ?_⟩; by_cases ha : a = 0
        · have := z1 ha; omega
        · omega
    · right; exact ⟨p3, by omega⟩
    · left; exact ⟨p3, by omega⟩
  · rintro (⟨p1, p2⟩ | ⟨p1, p2⟩)
    · by_cases hb : b ≤ 0
      · left; omega
      · right; right; omega
    · by_cases ha : a ≤ 0
      · left; omega
      · right; left; omega
theorem posQ_tri {d : Int} (hd : Root d) {x y : Rat} (h : ¬ PosQ d x y) (h2 : ¬ (x = 0 ∧ y = 0)) : PosQ d (-x) (-y) := by
  have ir : x * x = d * y * y → y = 0 := irrQ hd
  have hD := hd.posQ
  unfold PosQ at *
  have e1 : -x * -x = x * x := by grind
  have e2 : d * -y * -y = d * y * y := by grind
  rw [e1, e2]
  generalize (d : Rat) = D at *
  by_cases c : D * y * y < x * x
  · left
    refine ⟨c, ?_⟩
    by_cases z : x = 0
    · exfalso
      subst z
      have := Rat.mul_nonneg (Rat.le_of_lt hD) (sq_nonneg y)
      grind
    · grind
  · by_cases c2 : x * x = D * y * y
    · have hy := ir c2
      subst hy
      exfalso
      have hx : x * x = 0 := by grind
      rcases Rat.mul_eq_zero.mp hx with z | z <;> exact h2 ⟨z, rfl⟩
    · right
      refine ⟨by grind, ?_⟩
      by_cases z : y = 0
      · exfalso
        subst z
        have := sq_nonneg x
        grind
      · grind
end MB

set_option Elab.async false
set_option linter.all false
set_option maxRecDepth 100000
set_option maxHeartbeats 2000000
set_option autoImplicit false
/-! lengths as rationals: sums, order; bases -/
namespace DL
open PySem L2 MB
theorem cross_lt {d : Int} (hd : Root d) (x y u v : Rat) : Lt0 d (qA x y * qN u v - qA u v * qN x y) (qB x y * qN u v - qB u v * qN x y) ↔ PosQ d (u - x) (v - y) := by
  rw [lt0_posQ hd]
  have v1 := q_val x y
  have v2 := q_val u v
  have hm : (0 : Rat) < ((qN x y : Int) : Rat) * ((qN u v : Int) : Rat) := Rat.mul_pos (Rat.intCast_pos.mpr (qN_pos x y)) (Rat.intCast_pos.mpr (qN_pos u v))
  rw [← posQ_scale hd (x := u - x) (y := v - y) hm]
  have e1 : -((qA x y * qN u v - qA u v * qN x y : Int) : Rat) = (u - x) * (((qN x y : Int) : Rat) * ((qN u v : Int) : Rat)) := by
    simp only [Rat.intCast_mul, Rat.intCast_sub]; rw [v1.1, v2.1]; grind
  have e2 : -((qB x y * qN u v - qB u v * qN x y : Int) : Rat) = (v - y) * (((qN x y : Int) : Rat) * ((qN u v : Int) : Rat)) := by
    simp only [Rat.intCast_mul, Rat.intCast_sub]; rw [v1.2, v2.2]; grind
  rw [e1, e2]
theorem sub_ln (x y u v : Rat) : lA (qA x y * qN u v - qA u v * qN x y) (qB x y * qN u v - qB u v * qN x y) (qN x y * qN u v) = qA (x - u) (y - v) ∧ lB (qA x y * qN u v - qA u v * qN x y) (qB x y * qN u v - qB u v * qN x y) (qN x y * qN u v) = qB (x - u) (y - v) ∧ lN (qA x y * qN u v - qA u v * qN x y) (qB x y * qN u v - qB u v * qN x y) (qN x y * qN u v) = qN (x - u) (y - v) := by
  have h1 := qN_pos x y
  have h2 := qN_pos u v
  have v1 := q_val x y
  have v2 := q_val u v
  have n1 := qN_ne x y
  have n2 := qN_ne u v
  have e := q_of (a := qA x y * qN u v - qA u v * qN x y) (b := qB x y * qN u v - qB u v * qN x y) (n := qN x y * qN u v) (Int.mul_ne_zero (by omega) (by omega))
  have e1 : ((qA x y * qN u v - qA u v * qN x y : Int) : Rat) / ((qN x y * qN u v : Int) : Rat) = x - u := by
    simp only [Rat.intCast_mul, Rat.intCast_sub]; rw [v1.1, v2.1]; grind
  have e2 : ((qB x y * qN u v - qB u v * qN x y : Int) : Rat) / ((qN x y * qN u v : Int) : Rat) = y - v := by
    simp only [Rat.intCast_mul, Rat.intCast_sub]; rw [v1.2, v2.2]; grind
  rw [e1, e2] at e
  exact e
theorem add_ln (x y u v : Rat) : lA (qA x y * qN u v + qA u v * qN x y) (qB x y * qN u v + qB u v * qN x y) (qN x y * qN u v) = qA (x + u) (y + v) ∧ lB (qA x y * qN u v + qA u v * qN x y) (qB x y * qN u v + qB u v * qN x y) (qN x y * qN u v) = qB (x + u) (y + v) ∧ lN (qA x y * qN u v + qA u v * qN x y) (qB x y * qN u v + qB u v * qN x y) (qN x y * qN u v) = qN (x + u) (y + v) := by
  have h1 := qN_pos x y
  have h2 := qN_pos u v
  have v1 := q_val x y
  have v2 := q_val u v
  have n1 := qN_ne x y
  have n2 := qN_ne u v
  have e := q_of (a := qA x y * qN u v + qA u v * qN x y) (b := qB x y * qN u v + qB u v * qN x y) (n := qN x y * qN u v) (Int.mul_ne_zero (by omega) (by omega))
  have e1 : ((qA x y * qN u v + qA u v * qN x y : Int) : Rat) / ((qN x y * qN u v : Int) : Rat) = x + u := by
    simp only [Rat.intCast_mul, Rat.intCast_add]; rw [v1.1, v2.1]; grind
  have e2 : ((qB x y * qN u v + qB u v * qN x y : Int) : Rat) / ((qN x y * qN u v : Int) : Rat) = y + v := by
    simp only [Rat.intCast_mul, Rat.intCast_add]; rw [v1.2, v2.2]; grind
  rw [e1, e2] at e
  exact e
section
variable (x y u v : Rat) {n m n' m' : Nat} [BR x n m] [BR y n m] [BR u n' m'] [BR v n' m'] (h : m + m' ≤ 1900) (h1 : n ≤ 1900000) (h2 : n' ≤ 1900000)
include h h1 h2
end
/-! a base: its lengths' parts by N, positive, of the cross 1 or -1 -/
structure BaseOk (d N : Int) (k : Nat) (x y u v : Rat) : Prop where
  ex : ∃ X Y U V : Int, x = (X : Rat) / N ∧ y = (Y : Rat) / N ∧ u = (U : Rat) / N ∧ v = (V : Rat) / N ∧ X.natAbs < 2 ^ k ∧ Y.natAbs < 2 ^ k ∧ U.natAbs < 2 ^ k ∧ V.natAbs < 2 ^ k ∧ (X * V - Y * U = 1 ∨ X * V - Y * U = -1)
  p : PosQ d x y
  q : PosQ d u v
theorem BaseOk.br {d N : Int} {k : Nat} {x y u v : Rat} (h : BaseOk d N k x y u v) (hN : N ≠ 0) (bN : Bd N 40) : BR x k 40 ∧ BR y k 40 ∧ BR u k 40 ∧ BR v k 40 := by
  obtain ⟨X, Y, U, V, rfl, rfl, rfl, rfl, h1, h2, h3, h4, _⟩ := h.ex
  exact ⟨br_frac hN ⟨h1⟩ bN, br_frac hN ⟨h2⟩ bN, br_frac hN ⟨h3⟩ bN, br_frac hN ⟨h4⟩ bN⟩
theorem BaseOk.ne {d N : Int} {k : Nat} {x y u v : Rat} (h : BaseOk d N k x y u v) : ¬ (x - u = 0 ∧ y - v = 0) := by
  obtain ⟨X, Y, U, V, e1, e2, e3, e4, h1, h2, h3, h4, hc⟩ := h.ex
  rintro ⟨z1, z2⟩
  by_cases hN : (N : Rat) = 0
  · have : x = 0 := by rw [e1, hN]; grind
    have hy : y = 0 := by rw [e2, hN]; grind
    have hp := h.p
    rw [this, hy] at hp
    unfold PosQ at hp
    grind
  · have eX : X = U := by
      have : (X : Rat) = (U : Rat) := by grind
      exact_mod_cast this
    have eY : Y = V := by
      have : (Y : Rat) = (V : Rat) := by grind
      exact_mod_cast this
    subst eX eY
    have : X * Y - Y * X = 0 := by grind
    omega
theorem BaseOk.first {d N : Int} (hd : Root d) (hN : 0 < N) : BaseOk d N 1 0 (1 / (N : Rat)) (1 / (N : Rat)) 0 := by
  have hN' : (0 : Rat) < (N : Rat) := Rat.intCast_pos.mpr hN
  have hi := Rat.inv_pos.mpr hN'
  have h1 : (0 : Rat) < 1 / (N : Rat) := by rw [Rat.div_def]; grind
  have hD := hd.posQ
  refine ⟨⟨0, 1, 1, 0, ?_, ?_, ?_, ?_, by decide, by decide, by decide, by decide, .inr (by decide)⟩, ?_, ?_⟩
  · have : ((0 : Int) : Rat) = 0 := rfl
    rw [this]; grind
  · have : ((1 : Int) : Rat) = 1 := rfl
    rw [this]
  · have : ((1 : Int) : Rat) = 1 := rfl
    rw [this]
  · have : ((0 : Int) : Rat) = 0 := rfl
    rw [this]; grind
  · right
    have := Rat.mul_pos hD (Rat.mul_pos h1 h1)
    exact ⟨by grind, h1⟩
  · left
    have := Rat.mul_pos h1 h1
    exact ⟨by grind, h1⟩
/-! the defs of bases -/
theorem length_ln (a b n : Int) (hn : n ≠ 0) {k : Nat} [Bd n k] (hk : k ≤ 9000) : m_length [.int a, .int b, .int n] = .ok (lnD ((a : Rat) / n) ((b : Rat) / n)) := by
  have e := length_eq a b n hn hk
  have q := q_of (a := a) (b := b) hn
  rw [q.1, q.2.1, q.2.2] at e
  exact e
theorem BaseOk.det {d N : Int} {k : Nat} {x y u v : Rat} (hN : N ≠ 0) (h : BaseOk d N k x y u v) : x * v - y * u ≠ 0 := by
  obtain ⟨X, Y, U, V, e1, e2, e3, e4, _, _, _, _, hc⟩ := h.ex
  have hN' := ratne hN
  have e : (x * v - y * u) * N * N = ((X * V - Y * U : Int) : Rat) := by
    rw [e1, e2, e3, e4]
    simp only [Rat.intCast_mul, Rat.intCast_sub]
    grind
  intro z
  rw [z] at e
  have : ((X * V - Y * U : Int) : Rat) = 0 := by rw [← e]; grind
  have : X * V - Y * U = 0 := by exact_mod_cast this
  omega
/-- whole counts of what N divides -/
theorem BaseOk.whole {d N : Int} {k : Nat} {x y u v : Rat} (hN : N ≠ 0) (h : BaseOk d N k x y u v) (A B : Int) {l : Nat} (bA : Bd A l) (bB : Bd B l) : ∃ I J : Int, (A : Rat) / N = I * x + J * u ∧ (B : Rat) / N = I * y + J * v ∧ Bd I (l + k + 1) ∧ Bd J (l + k + 1) := by
  obtain ⟨X, Y, U, V, e1, e2, e3, e4, h1, h2, h3, h4, hc⟩ := h.ex
  have hN' := ratne hN
  have bX : Bd X k := ⟨h1⟩
  have bY : Bd Y k := ⟨h2⟩
  have bU : Bd U k := ⟨h3⟩
  have bV : Bd V k := ⟨h4⟩
  have bI : Bd (A * V - B * U) (l + k + 1) := Bd.mono inferInstance (by omega)
  have bJ : Bd (X * B - Y * A) (l + k + 1) := Bd.mono inferInstance (by omega)
  rcases hc with hc | hc
  · refine ⟨A * V - B * U, X * B - Y * A, ?_, ?_, bI, bJ⟩
    · have : A = (A * V - B * U) * X + (X * B - Y * A) * U := by
        have : (A * V - B * U) * X + (X * B - Y * A) * U = A * (X * V - Y * U) := by grind
        rw [this, hc]; omega
      rw [e1, e3]
      have c : (A : Rat) = (((A * V - B * U) * X + (X * B - Y * A) * U : Int) : Rat) := congrArg _ this
      rw [c]
      simp only [Rat.intCast_mul, Rat.intCast_sub, Rat.intCast_add]
      grind
    · have : B = (A * V - B * U) * Y + (X * B - Y * A) * V := by
        have : (A * V - B * U) * Y + (X * B - Y * A) * V = B * (X * V - Y * U) := by grind
        rw [this, hc]; omega
      rw [e2, e4]
      have c : (B : Rat) = (((A * V - B * U) * Y + (X * B - Y * A) * V : Int) : Rat) := congrArg _ this
      rw [c]
      simp only [Rat.intCast_mul, Rat.intCast_sub, Rat.intCast_add]
      grind
  · refine ⟨-(A * V - B * U), -(X * B - Y * A), ?_, ?_, bd_neg, bd_neg⟩
    · have : A = -(A * V - B * U) * X + -(X * B - Y * A) * U := by
        have : -(A * V - B * U) * X + -(X * B - Y * A) * U = -(A * (X * V - Y * U)) := by grind
        rw [this, hc]; omega
      rw [e1, e3]
      have c : (A : Rat) = ((-(A * V - B * U) * X + -(X * B - Y * A) * U : Int) : Rat) := congrArg _ this
      rw [c]
      simp only [Rat.intCast_mul, Rat.intCast_sub, Rat.intCast_add, Rat.intCast_neg]
      grind
    · have : B = -(A * V - B * U) * Y + -(X * B - Y * A) * V := by
        have : -(A * V - B * U) * Y + -(X * B - Y * A) * V = -(B * (X * V - Y * U)) := by grind
        rw [this, hc]; omega
      rw [e2, e4]
      have c : (B : Rat) = ((-(A * V - B * U) * Y + -(X * B - Y * A) * V : Int) : Rat) := congrArg _ this
      rw [c]
      simp only [Rat.intCast_mul, Rat.intCast_sub, Rat.intCast_add, Rat.intCast_neg]
      grind
end DL

set_option Elab.async false
set_option linter.all false
set_option maxRecDepth 100000
set_option maxHeartbeats 2000000
set_option autoImplicit false
/-! products, quotients, signs -/
namespace DL
open PySem L2 MB
theorem lz00 : (PyData.tuple [.int 0, .int 0, .int 1] : PD) = lnD 0 0 := by
  have q := q_self (a := 0) (b := 0) (n := 1) (by unfold Low; decide)
  have e : ((0 : Int) : Rat) / ((1 : Int) : Rat) = 0 := by
    have e0 : ((0 : Int) : Rat) = 0 := rfl
    rw [e0]
    grind
  rw [e] at q
  unfold lnD
  rw [q.1, q.2.1, q.2.2]
/-! the sign -/
end DL

set_option Elab.async false
set_option linter.all false
set_option maxRecDepth 100000
set_option maxHeartbeats 2000000
set_option autoImplicit false
namespace DL
open PySem L2 MB
theorem pw6 : (10 : Int) ^ (6 : Nat) = 1000000 := by decide
theorem pw11 : (10 : Int) ^ (11 : Nat) = 100000000000 := by decide
theorem pq11 : (5 : Int) * 100000000000 = 500000000000 := by decide
end DL

set_option Elab.async false
set_option linter.all false
set_option maxRecDepth 100000
set_option maxHeartbeats 1000000
set_option autoImplicit false
/-! lengths by the bits of their three numbers -/
namespace DL
open PySem L2 MB
class BL (x y : Rat) (n m : outParam Nat) : Prop where
  a : Bd (qA x y) n
  b : Bd (qB x y) n
  c : Bd (qN x y) m
theorem BL.mono {x y : Rat} {n m n' m' : Nat} (h : BL x y n m) (h1 : n ≤ n') (h2 : m ≤ m') : BL x y n' m' := ⟨h.a.mono h1, h.b.mono h1, h.c.mono h2⟩
/-- parts over one bottom -/
theorem bl_of {a b t : Int} (ht : t ≠ 0) {n m : Nat} (ha : Bd a n) (hb : Bd b n) (hc : Bd t m) : BL ((a : Rat) / t) ((b : Rat) / t) n m := by
  have q := q_of (a := a) (b := b) ht
  refine ⟨?_, ?_, ?_⟩
  · rw [← q.1]; exact bd_lA
  · rw [← q.2.1]; exact bd_lB
  · rw [← q.2.2]; exact bd_lN
section
variable (x y u v : Rat) {n m n' m' : Nat} [i : BL x y n m] [j : BL u v n' m']
theorem added_bl (h : m + m' ≤ 3900) (h1 : n ≤ 3900000) (h2 : n' ≤ 3900000) : m_added [lnD x y, lnD u v] = .ok (lnD (x + u) (y + v)) ∧ BL (x + u) (y + v) (n + m' + (n' + m) + 1) (m + m') := by
  have b1 := i.a; have b2 := i.b; have b3 := i.c; have b4 := j.a; have b5 := j.b; have b6 := j.c
  have p1 := qN_pos x y
  have p2 := qN_pos u v
  have hn : qN x y * qN u v ≠ 0 := Int.mul_ne_zero (by omega) (by omega)
  have e := added_eq (qA x y) (qB x y) (qN x y) (qA u v) (qB u v) (qN u v) hn (by omega) (by omega) (by omega) (by omega) (by omega) (by omega)
  have s := add_ln x y u v
  have c1 : Bd (qA x y * qN u v + qA u v * qN x y) (n + m' + (n' + m) + 1) := Bd.mono inferInstance (by omega)
  have c2 : Bd (qB x y * qN u v + qB u v * qN x y) (n + m' + (n' + m) + 1) := Bd.mono inferInstance (by omega)
  have c3 : Bd (qN x y * qN u v) (m + m') := inferInstance
  refine ⟨?_, ?_, ?_, ?_⟩
  · rw [s.1, s.2.1, s.2.2] at e
    exact e
  · rw [← s.1]; exact bd_lA
  · rw [← s.2.1]; exact bd_lB
  · rw [← s.2.2]; exact bd_lN
theorem taken_bl (h : m + m' ≤ 3900) (h1 : n ≤ 3900000) (h2 : n' ≤ 3900000) : m_taken [lnD x y, lnD u v] = .ok (lnD (x - u) (y - v)) ∧ BL (x - u) (y - v) (n + m' + (n' + m) + 1) (m + m') := by
  have b1 := i.a; have b2 := i.b; have b3 := i.c; have b4 := j.a; have b5 := j.b; have b6 := j.c
  have p1 := qN_pos x y
  have p2 := qN_pos u v
  have hn : qN x y * qN u v ≠ 0 := Int.mul_ne_zero (by omega) (by omega)
  have e := taken_eq (qA x y) (qB x y) (qN x y) (qA u v) (qB u v) (qN u v) hn (by omega) (by omega) (by omega) (by omega) (by omega) (by omega)
  have s := sub_ln x y u v
  have c1 : Bd (qA x y * qN u v - qA u v * qN x y) (n + m' + (n' + m) + 1) := Bd.mono inferInstance (by omega)
  have c2 : Bd (qB x y * qN u v - qB u v * qN x y) (n + m' + (n' + m) + 1) := Bd.mono inferInstance (by omega)
  have c3 : Bd (qN x y * qN u v) (m + m') := inferInstance
  refine ⟨?_, ?_, ?_, ?_⟩
  · rw [s.1, s.2.1, s.2.2] at e
    exact e
  · rw [← s.1]; exact bd_lA
  · rw [← s.2.1]; exact bd_lB
  · rw [← s.2.2]; exact bd_lN
theorem under_bl (h : m ≤ 3900) (h' : m' ≤ 3900) (h1 : n ≤ 3900) (h2 : n' ≤ 3900) (d : Int) (hd : Root d) [Bd d 7] : ∃ b : Bool, m_under [.int d, lnD x y, lnD u v] = .ok (.bool b) ∧ (b = true ↔ PosQ d (u - x) (v - y)) := by
  have b1 := i.a; have b2 := i.b; have b3 := i.c; have b4 := j.a; have b5 := j.b; have b6 := j.c
  have p1 := qN_pos x y
  have p2 := qN_pos u v
  have e := under_eq d (qA x y) (qB x y) (qN x y) (qA u v) (qB u v) (qN u v) hd.pos p1 p2 h1 h1 h h2 h2 h'
  refine ⟨_, e, ?_⟩
  rw [decide_eq_true_iff, cross_lt hd]
theorem times_val (d : Int) : ((qA x y * qA u v + d * qB x y * qB u v : Int) : Rat) / ((qN x y * qN u v : Int) : Rat) = x * u + d * y * v ∧ ((qA x y * qB u v + qB x y * qA u v : Int) : Rat) / ((qN x y * qN u v : Int) : Rat) = x * v + y * u := by
  have v1 := q_val x y
  have v2 := q_val u v
  have n1 := qN_ne x y
  have n2 := qN_ne u v
  constructor
  · simp only [Rat.intCast_mul, Rat.intCast_add]; rw [v1.1, v1.2, v2.1, v2.2]; grind
  · simp only [Rat.intCast_mul, Rat.intCast_add]; rw [v1.1, v1.2, v2.1, v2.2]; grind
theorem timed_bl (d : Int) [Bd d 7] (h : m + m' ≤ 9000) (h1 : n ≤ 1000000) (h2 : n' ≤ 1000000) : m_timed [.int d, lnD x y, lnD u v] = .ok (lnD (x * u + d * y * v) (x * v + y * u)) ∧ BL (x * u + d * y * v) (x * v + y * u) (n + n' + 8) (m + m') := by
  have b1 := i.a; have b2 := i.b; have b3 := i.c; have b4 := j.a; have b5 := j.b; have b6 := j.c
  have p1 := qN_pos x y
  have p2 := qN_pos u v
  have hne : qN x y * qN u v ≠ 0 := Int.mul_ne_zero (by omega) (by omega)
  have e := lowest_eq (qA x y * qA u v + d * qB x y * qB u v) (qA x y * qB u v + qB x y * qA u v) (qN x y * qN u v) hne (show m + m' ≤ 9000 by omega)
  have q := q_of (a := qA x y * qA u v + d * qB x y * qB u v) (b := qA x y * qB u v + qB x y * qA u v) hne
  have t := times_val x y u v d
  rw [t.1, t.2] at q
  rw [q.1, q.2.1, q.2.2] at e
  have i1 : n + n' ≤ 134217728 := by omega
  have i2 : 7 + n ≤ 134217728 := by omega
  have i3 : 7 + n + n' ≤ 134217728 := by omega
  have i4 : m + m' ≤ 134217728 := by omega
  refine ⟨by simp +decide only [m_timed, den_timed, ev_seq, seq_nx, seq_rt, seq_ex, seq_bk, seq_ct, seq_ite, fl_ok, fl_ex, fl_ite, ev_set, kSet_ev, ev_ret, ev_nx, ev_raise, ev_if, kIf_ev, ev_par, kPar_ev, kId_ev, ev_asg, kAsg_ev, ev_for, kFor_ev, ev_V, dVg_ok, ev_C, ev_1, ev_2, bind2_ok, bind2_ite1, bind2_ite2, bind_ite, ev_A, ev_nil, ev_cons, kCons_ev, ev_T, toB_ev, ev_and, ev_or, ev_not, kAnd_ev, kOr_ev, kNot_ev, ev_andV, ev_notV, kAndV_ev, kNotV_ev, tup_ev, lst_ev, call_ev, ev_fn, startE_0, startE_s, startE_c, fin_rt, fin_nx, fin_ex, fin_ite, ix_t0, ix_t1, ix_t2, ix_t3, ix_l0, ix_l1, ix_l2, len_l, len_t1, len_t2, len_t3, len_t4, beq_self_eq_true, ev_iL, ev_iT, asL_ev, asT_ev, ev_iA, ev_P, toI_ev, ev_P0, ev_sl, kSl_ev, put_1, gAdd_i, gSub_i, gMul_i, gDiv_p, gMod_p, gPow_l, gShl_l, gShr_l, gLt_i, gLe_i, gGt_i, gGe_i, gEq_i, gNe_i, gAbs_i, gInt_i, gInt_b, gEq_s, gNe_s, gEq_b, gNe_b, gEq_2, gNe_2, gEq_3, gNe_3, gEq_22, gNe_22, DL.R.bind_ok, DL.R.bind_ex, ev_setL, kSetL_ev, ev_lDisp, kDisp_ev, ev_lList, lOf_l, lOf_t, ev_frz, frz_l, frz_d, frz_n, ev_lend, lend_l, lend_d, atom_i, atom_b, atom_s, ev_lendB, lendB_l, lendB_d, ev_app, app_l, kApp_ev, ev_put, put_l, ev_ixO, ixO_l, ixO_d, put_m, putAll_c, putAll_n, ev_lc, kLst_ev, ev_lcL, wipe_n, wipe_c, r1_2, r1_3, bits_ev, List.getElem?_cons_zero, List.getElem?_cons_succ, List.set_cons_zero, List.set_cons_succ, List.length_cons, List.length_nil, List.length_map, List.append_nil, List.cons_append, List.nil_append, ev_if, turn_nx, turn_ct, turn_bk, turn_rt, turn_ite, kWh_ev, isi_int_int, isi_bool_int, isi_int_bool, isi_bool_bool, isi_int_str, isi_int_none, isi_int_list, isi_int_tup, isi_bool_str, isi_bool_none, isi_bool_list, isi_bool_tup, isi_tup_tup, isi_tup_int, isi_tup_bool, isi_tup_str, isi_tup_none, isi_tup_list, isi_list_list, isi_list_tup, isi_list_int, isi_list_bool, isi_list_str, isi_list_none, isi_str_str, isi_str_int, isi_str_bool, isi_str_none, isi_str_list, isi_str_tup, decide_true, decide_false, not_true_eq_false, not_false_eq_true, ne_eq, decide_eq_true_eq, Bool.not_eq_true', decide_eq_false_iff_not, Bool.not_true, Bool.not_false, Bool.false_eq_true, if_true, if_false, reduceIte, i1, i2, i3, i4, e], ?_⟩
  have c1 : Bd (qA x y * qA u v + d * qB x y * qB u v) (n + n' + 8) := Bd.mono inferInstance (show max (n + n') (7 + n + n') + 1 ≤ n + n' + 8 by omega)
  have c2 : Bd (qA x y * qB u v + qB x y * qA u v) (n + n' + 8) := Bd.mono inferInstance (show max (n + n') (n + n') + 1 ≤ n + n' + 8 by omega)
  have c3 : Bd (qN x y * qN u v) (m + m') := inferInstance
  have z := bl_of hne c1 c2 c3
  rw [t.1, t.2] at z
  exact z
end
end DL

set_option Elab.async false
set_option linter.all false
set_option maxRecDepth 100000
set_option maxHeartbeats 1000000
set_option autoImplicit false
/-! lengths over one bottom, boards -/
namespace DL
open PySem L2 MB
/-! ### lengths over one bottom -/
def Ov (D : Int) (n : Nat) (x y : Rat) : Prop := ∃ A B : Int, Bd A n ∧ Bd B n ∧ x = (A : Rat) / D ∧ y = (B : Rat) / D
theorem Ov.bl {D : Int} {n j : Nat} {x y : Rat} (hD : 0 < D) (bD : Bd D j) (h : Ov D n x y) : BL x y n j := by
  obtain ⟨A, B, h1, h2, rfl, rfl⟩ := h
  exact bl_of (by omega) h1 h2 bD
theorem Ov.mono {D : Int} {n n' : Nat} {x y : Rat} (h : Ov D n x y) (hn : n ≤ n') : Ov D n' x y := by
  obtain ⟨A, B, h1, h2, h3⟩ := h
  exact ⟨A, B, h1.mono hn, h2.mono hn, h3⟩
theorem rdiv_mul {A D k : Int} (hD : D ≠ 0) (hk : k ≠ 0) : (A : Rat) / D = ((A * k : Int) : Rat) / ((D * k : Int) : Rat) := by
  have h1 := ratne hD
  have h2 := ratne hk
  rw [Rat.intCast_mul, Rat.intCast_mul]
  grind
theorem Ov.scale {D k : Int} {n b : Nat} {x y : Rat} (hD : D ≠ 0) (hk : k ≠ 0) (bk : Bd k b) (h : Ov D n x y) : Ov (D * k) (n + b) x y := by
  obtain ⟨A, B, h1, h2, rfl, rfl⟩ := h
  exact ⟨A * k, B * k, inferInstance, inferInstance, rdiv_mul hD hk, rdiv_mul hD hk⟩
theorem Ov.add {D : Int} {n : Nat} {x y u v : Rat} (h : Ov D n x y) (g : Ov D n u v) : Ov D (n + 1) (x + u) (y + v) := by
  obtain ⟨A, B, h1, h2, rfl, rfl⟩ := h
  obtain ⟨A', B', g1, g2, rfl, rfl⟩ := g
  refine ⟨A + A', B + B', Bd.mono inferInstance (by omega), Bd.mono inferInstance (by omega), ?_, ?_⟩
  · rw [Rat.intCast_add]; grind
  · rw [Rat.intCast_add]; grind
theorem Ov.sub {D : Int} {n : Nat} {x y u v : Rat} (h : Ov D n x y) (g : Ov D n u v) : Ov D (n + 1) (x - u) (y - v) := by
  obtain ⟨A, B, h1, h2, rfl, rfl⟩ := h
  obtain ⟨A', B', g1, g2, rfl, rfl⟩ := g
  refine ⟨A - A', B - B', Bd.mono inferInstance (by omega), Bd.mono inferInstance (by omega), ?_, ?_⟩
  · rw [Rat.intCast_sub]; grind
  · rw [Rat.intCast_sub]; grind
theorem Ov.mul {D k : Int} {n b : Nat} {x y : Rat} (bk : Bd k b) (h : Ov D n x y) : Ov D (n + b) (x * k) (y * k) := by
  obtain ⟨A, B, h1, h2, rfl, rfl⟩ := h
  refine ⟨A * k, B * k, inferInstance, inferInstance, ?_, ?_⟩
  · rw [Rat.intCast_mul]; grind
  · rw [Rat.intCast_mul]; grind
theorem Ov.div {D k : Int} {n : Nat} {x y : Rat} (hD : D ≠ 0) (hk : k ≠ 0) (h : Ov D n x y) : Ov (D * k) n (x / k) (y / k) := by
  obtain ⟨A, B, h1, h2, rfl, rfl⟩ := h
  have z1 := ratne hD
  have z2 := ratne hk
  refine ⟨A, B, h1, h2, ?_, ?_⟩
  · rw [Rat.intCast_mul]; grind
  · rw [Rat.intCast_mul]; grind
structure PosB (d : Int) (b : Bo) : Prop where
  w : PosQ d b.x b.y
  h : PosQ d b.u b.v
def sumB (f : Bo → Rat) : List Bo → Rat
  | [] => 0
  | b :: bs => f b + sumB f bs
/-- a board's lengths, over one bottom -/
structure OvB (D : Int) (n : Nat) (b : Bo) : Prop where
  w : Ov D n b.x b.y
  h : Ov D n b.u b.v
theorem bd_one {k : Nat} (h : 1 ≤ k) : Bd (1 : Int) k := Bd.mono (show Bd (1 : Int) 1 from ⟨by decide⟩) h
theorem posQ_by {d : Int} (hd : Root d) {x y : Rat} (h : PosQ d x y) {m : Int} (hm : 0 < m) : PosQ d (x / m) (y / m) := by
  have hw0 : (0 : Rat) < (m : Rat) := Rat.intCast_pos.mpr hm
  have hi : (0 : Rat) < 1 / (m : Rat) := by rw [Rat.div_def, Rat.one_mul]; exact Rat.inv_pos.mpr hw0
  have e : ∀ a : Rat, a / m = a * (1 / (m : Rat)) := fun a => by grind
  rw [e x, e y]
  exact (posQ_scale hd hi).mpr h
theorem posQ_times {d : Int} (hd : Root d) {x y : Rat} (h : PosQ d x y) {m : Int} (hm : 0 < m) : PosQ d (x * m) (y * m) := (posQ_scale hd (Rat.intCast_pos.mpr hm)).mpr h
/-- the four products -/
def pr : Fin 4 → Bo → Rat
  | 0, b => b.x * b.u
  | 1, b => b.x * b.v
  | 2, b => b.y * b.u
  | 3, b => b.y * b.v
theorem sumB_app (f : Bo → Rat) : ∀ a b : List Bo, sumB f (a ++ b) = sumB f a + sumB f b
  | [], b => by rw [List.nil_append, sumB]; grind
  | c :: a, b => by rw [List.cons_append, sumB, sumB, sumB_app f a b]; grind
end DL

set_option Elab.async false
set_option linter.all false
set_option maxRecDepth 100000
set_option maxHeartbeats 1000000
set_option autoImplicit false
/-! the yard -/
namespace DL
open PySem L2 MB
/-! ### boards by names -/
abbrev Lst := List (Int × Bo)
def getB (L : Lst) (i : Int) : Option Bo := (L.find? fun p => decide (p.1 = i)).map (·.2)
def delB (L : Lst) (i : Int) : Lst := L.filter fun p => decide (p.1 ≠ i)
def numB : Int → List Bo → Lst
  | _, [] => []
  | u, b :: bs => (u, b) :: numB (u + 1) bs
theorem numB_len : ∀ (bs : List Bo) (u : Int), (numB u bs).length = bs.length
  | [], _ => rfl
  | b :: bs, u => by simp [numB, numB_len bs]
theorem numB_mem : ∀ (bs : List Bo) (u : Int) (p : Int × Bo), p ∈ numB u bs → u ≤ p.1 ∧ p.1 < u + bs.length ∧ p.2 ∈ bs
  | b :: bs, u, p, h => by
    unfold numB at h
    rcases List.mem_cons.mp h with rfl | h
    · exact ⟨Int.le_refl _, by simp only [List.length_cons]; omega, .head _⟩
    · obtain ⟨h1, h2, h3⟩ := numB_mem bs (u + 1) p h
      refine ⟨by omega, ?_, .tail _ h3⟩
      rw [List.length_cons]
      omega
/-- names rise, below u -/
def Asc (L : Lst) (u : Int) : Prop := L.Pairwise (fun p q => p.1 < q.1) ∧ ∀ p ∈ L, 0 ≤ p.1 ∧ p.1 < u
theorem numB_asc : ∀ (bs : List Bo) (u : Int), (numB u bs).Pairwise (fun p q => p.1 < q.1)
  | [], _ => .nil
  | b :: bs, u => by
    refine List.pairwise_cons.mpr ⟨fun q hq => ?_, numB_asc bs (u + 1)⟩
    obtain ⟨h1, _, _⟩ := numB_mem bs (u + 1) q hq
    show u < q.1
    omega
theorem Asc.put {L : Lst} {u : Int} (h : Asc L u) (hu : 0 ≤ u) (bs : List Bo) : Asc (L ++ numB u bs) (u + bs.length) := by
  refine ⟨List.pairwise_append.mpr ⟨h.1, numB_asc bs u, fun p hp q hq => ?_⟩, fun p hp => ?_⟩
  · have := (h.2 p hp).2
    have := (numB_mem bs u q hq).1
    omega
  · rcases List.mem_append.mp hp with hp | hp
    · have := h.2 p hp
      omega
    · obtain ⟨h1, h2, _⟩ := numB_mem bs u p hp
      omega
theorem Asc.del {L : Lst} {u : Int} (h : Asc L u) (i : Int) : Asc (delB L i) u := ⟨h.1.filter _, fun p hp => h.2 p (List.mem_filter.mp hp).1⟩
theorem getB_of {L : Lst} {u : Int} (h : Asc L u) {p : Int × Bo} (hp : p ∈ L) : getB L p.1 = some p.2 := by
  have h1 := h.1
  clear h
  unfold getB
  induction L with
  | nil => cases hp
  | cons q L ih =>
    obtain ⟨q1, q2⟩ := List.pairwise_cons.mp h1
    rcases List.mem_cons.mp hp with rfl | hp
    · rw [List.find?_cons_of_pos (by simp)]; rfl
    · have : q.1 < p.1 := q1 p hp
      rw [List.find?_cons_of_neg (by simp; omega)]
      exact ih hp q2
theorem getB_mem {L : Lst} {i : Int} {b : Bo} (h : getB L i = some b) : (i, b) ∈ L := by
  unfold getB at h
  cases e : L.find? (fun p => decide (p.1 = i)) with
  | none => rw [e] at h; cases h
  | some p =>
    rw [e] at h
    cases h
    have h1 := List.find?_some e
    have h2 := List.mem_of_find?_eq_some e
    simp at h1
    subst h1
    exact h2
/-! ### the yard's fields -/
structure Ya where
  t : Bool
  L : Lst
  u : Int
  g : List PD
section
variable {d : Int} {Y : Ya}
end
/-! ### put -/
/-! ### __init__ -/
end DL

set_option Elab.async false
set_option linter.all false
set_option maxRecDepth 100000
set_option maxHeartbeats 1000000
set_option autoImplicit false
/-! the yard: deeds -/
namespace DL
open PySem L2 MB
inductive De where
  | cr (al : Bool) (i : Int) (p q : Rat)
  | gl (tp : Bool) (i j : Int)
  | sh (sp : Bool) (i m : Int)
  | tu (i : Int)
def De.names : De → List Int
  | .cr _ i _ _ => [i]
  | .gl _ i j => [i, j]
  | .sh _ i _ => [i]
  | .tu i => [i]
def cutB (al : Bool) (p q : Rat) (b : Bo) : List Bo := if al = true then [⟨b.x, b.y, p, q⟩, ⟨b.x, b.y, b.u - p, b.v - q⟩] else [⟨p, q, b.u, b.v⟩, ⟨b.x - p, b.y - q, b.u, b.v⟩]
def glB (tp : Bool) (b c : Bo) : Bo := if tp = true then ⟨b.x, b.y, b.u + c.u, b.v + c.v⟩ else ⟨b.x + c.x, b.y + c.y, b.u, b.v⟩
def shB (sp : Bool) (m : Int) (b : Bo) : Bo := if sp = true then ⟨b.x * m, b.y * m, b.u / m, b.v / m⟩ else ⟨b.x / m, b.y / m, b.u * m, b.v * m⟩
def tuB (b : Bo) : Bo := ⟨b.u, b.v, b.x, b.y⟩
/-- the boards that a deed puts -/
def De.new : De → List Bo → List Bo
  | .cr al _ p q, b :: _ => cutB al p q b
  | .gl tp _ _, b :: c :: _ => [glB tp b c]
  | .sh sp _ m, b :: _ => [shB sp m b]
  | .tu _, b :: _ => [tuB b]
  | _, _ => []
/-- bits of a board's lengths -/
structure BW (b : Bo) (n m : Nat) : Prop where
  w : BL b.x b.y n m
  h : BL b.u b.v n m
/-- a deed fits boards -/
def De.fit (d : Int) : De → List Bo → Prop
  | .cr al _ p q, [b] => PosQ d p q ∧ if al = true then PosQ d (b.u - p) (b.v - q) else PosQ d (b.x - p) (b.y - q)
  | .gl tp _ _, [b, c] => if tp = true then b.x = c.x ∧ b.y = c.y else b.u = c.u ∧ b.v = c.v
  | .sh _ _ m, [_] => 0 < m
  | .tu _, [_] => True
  | _, _ => False
/-- the length of a cut has few enough bits, a share's number is above 0 -/
def De.ok (n m : Nat) : De → Prop
  | .cr _ _ p q => BL p q n m
  | .sh _ _ k => 0 < k
  | _ => True
instance bl_00 : BL 0 0 1 1 := ⟨⟨by decide⟩, ⟨by decide⟩, ⟨by decide⟩⟩
theorem bl_int {m : Int} {k : Nat} (b : Bd m k) : BL (m : Rat) 0 k 1 := by
  have e := q_self (a := m) (b := 0) (n := 1) ⟨by decide, by simp⟩
  have z1 : ((m : Int) : Rat) / ((1 : Int) : Rat) = (m : Rat) := by grind
  have z2 : ((0 : Int) : Rat) / ((1 : Int) : Rat) = 0 := by grind
  rw [z1, z2] at e
  refine ⟨by rw [e.1]; exact b, by rw [e.2.1]; exact ⟨Nat.two_pow_pos k⟩, by rw [e.2.2]; exact ⟨by decide⟩⟩
theorem length_int (m : Int) : m_length [.int m, .int 0, .int 1] = .ok (lnD (m : Rat) 0) := by
  have e := length_ln m 0 1 (by decide) (k := 1) (by decide)
  have z1 : ((m : Int) : Rat) / ((1 : Int) : Rat) = (m : Rat) := by grind
  have z2 : ((0 : Int) : Rat) / ((1 : Int) : Rat) = 0 := by grind
  rw [z1, z2] at e
  exact e
end DL

set_option Elab.async false
set_option linter.all false
set_option maxRecDepth 100000
set_option maxHeartbeats 2000000
set_option autoImplicit false
/-! the yard: deeds are done -/
namespace DL
open PySem L2 MB
/-- bits of what a deed brings along -/
def De.bits (n m : Nat) : De → Prop
  | .cr _ _ p q => BL p q n m
  | .sh _ _ k => Bd k 1500
  | _ => True
/-! ### do -/
def delAll (L : Lst) (is : List Int) : Lst := is.foldl delB L
theorem getB_del {L : Lst} {i j : Int} (h : i ≠ j) : getB (delB L i) j = getB L j := by
  unfold getB delB
  congr 1
  induction L with
  | nil => rfl
  | cons p L ih =>
    by_cases c : p.1 = i
    · rw [List.filter_cons_of_neg (by simpa using c), List.find?_cons_of_neg (by simp; omega)]
      exact ih
    · rw [List.filter_cons_of_pos (by simpa using c)]
      by_cases c2 : p.1 = j
      · rw [List.find?_cons_of_pos (by simpa using c2), List.find?_cons_of_pos (by simpa using c2)]
      · rw [List.find?_cons_of_neg (by simpa using c2), List.find?_cons_of_neg (by simpa using c2)]
        exact ih
end DL

set_option Elab.async false
set_option linter.all false
set_option maxRecDepth 100000
set_option maxHeartbeats 2000000
set_option autoImplicit false
/-! the yard: all deeds; what it tells; the law's own walk -/
namespace DL
open PySem L2 MB
/-- the boards that a deed names -/
def De.at_ (δ : De) (L : Lst) (bs : List Bo) : Prop := match δ.names, bs with
  | [i], [b] => getB L i = some b
  | [i, j], [b, c] => getB L i = some b ∧ getB L j = some c ∧ i ≠ j
  | _, _ => False
/-! ### the law's own walk -/
section
variable (x y u v : Rat) {n m n' m' : Nat} [i : BL x y n m] [j : BL u v n' m']
end
end DL

set_option Elab.async false
set_option linter.all false
set_option maxRecDepth 100000
set_option maxHeartbeats 2000000
set_option autoImplicit false
/-! the yard: the law's own walk -/
namespace DL
open PySem L2 MB
theorem gR1_n (n : Nat) (h : n < 4611686018427387904) : gR1 [.int (n : Nat)] = .ok ((List.range' 0 n).map fun i => PyData.int ((i : Nat) : Int)) := by
  have e : (2 : Int) ^ 62 = 4611686018427387904 := by decide
  unfold gR1
  dsimp only
  rw [if_pos ⟨by omega, by omega⟩]
  unfold rng
  rw [List.range_eq_range']
  simp
end DL

set_option Elab.async false
set_option linter.all false
set_option maxRecDepth 100000
set_option maxHeartbeats 2000000
set_option autoImplicit false
/-! what the laws on yards draw -/
namespace DL
open PySem L2 MB
/-- a digit of six figures -/
abbrev Dg (z : Int) : Prop := 0 ≤ z ∧ z < 1000000
theorem dg_bd {z : Int} (h : Dg z) : Bd z 20 := ⟨by
  have : (2 : Nat) ^ 20 = 1048576 := by decide
  have := h.1; have := h.2; omega⟩
theorem dg_at {zs : List Int} (h : ∀ z ∈ zs, Dg z) {k : Nat} (hk : k < zs.length) : gIx (.list (zs.map PyData.int)) (.int (k : Int)) = .ok (.int (zs.getD k 0)) ∧ Dg (zs.getD k 0) := by
  have e := ix_ints (zs := zs) (k := (k : Int)) (by omega) (by omega)
  refine ⟨by simpa using e, ?_⟩
  rw [List.getD_eq_getElem?_getD, List.getElem?_eq_getElem hk]
  exact h _ (List.getElem_mem hk)
theorem law_cell_v (ns : List Int) (hb : ∀ z ∈ ns, PySem.Builtin.Int.intBits z ≤ 1048576) (k : Nat) : ∃ c : Int, m_law_cell [.list (ns.map PyData.int), .int (k : Nat)] = .ok (.int c) ∧ Bd c 1048576 := by
  have hl : gLen [.list (ns.map PyData.int)] = .ok (.int (ns.length : Int)) := by rw [len_l, List.length_map]
  by_cases h : ((k : Nat) : Int) < (ns.length : Int)
  · have e := ix_ints (zs := ns) (k := (k : Nat)) (by omega) h
    have hk : k < ns.length := by omega
    have hm : ns.getD ((k : Nat) : Int).toNat 0 ∈ ns := by
      rw [Int.toNat_natCast, List.getD_eq_getElem?_getD, List.getElem?_eq_getElem hk]
      exact List.getElem_mem hk
    refine ⟨ns.getD ((k : Nat) : Int).toNat 0, ?_, cell_bd (hb _ hm)⟩
    simp +decide only [m_law_cell, den_law_cell, ev_seq, seq_nx, seq_rt, seq_ex, seq_bk, seq_ct, seq_ite, fl_ok, fl_ex, fl_ite, ev_set, kSet_ev, ev_ret, ev_nx, ev_raise, ev_if, kIf_ev, ev_par, kPar_ev, kId_ev, ev_asg, kAsg_ev, ev_for, kFor_ev, ev_V, dVg_ok, ev_C, ev_1, ev_2, bind2_ok, bind2_ite1, bind2_ite2, bind_ite, ev_A, ev_nil, ev_cons, kCons_ev, ev_T, toB_ev, ev_and, ev_or, ev_not, kAnd_ev, kOr_ev, kNot_ev, ev_andV, ev_notV, kAndV_ev, kNotV_ev, tup_ev, lst_ev, call_ev, ev_fn, startE_0, startE_s, startE_c, fin_rt, fin_nx, fin_ex, fin_ite, ix_t0, ix_t1, ix_t2, ix_t3, ix_l0, ix_l1, ix_l2, len_l, len_t1, len_t2, len_t3, len_t4, beq_self_eq_true, ev_iL, ev_iT, asL_ev, asT_ev, ev_iA, ev_P, toI_ev, ev_P0, ev_sl, kSl_ev, put_1, gAdd_i, gSub_i, gMul_i, gDiv_p, gMod_p, gPow_l, gShl_l, gShr_l, gLt_i, gLe_i, gGt_i, gGe_i, gEq_i, gNe_i, gAbs_i, gInt_i, gInt_b, gEq_s, gNe_s, gEq_b, gNe_b, gEq_2, gNe_2, gEq_3, gNe_3, gEq_22, gNe_22, DL.R.bind_ok, DL.R.bind_ex, ev_setL, kSetL_ev, ev_lDisp, kDisp_ev, ev_lList, lOf_l, lOf_t, ev_frz, frz_l, frz_d, frz_n, ev_lend, lend_l, lend_d, atom_i, atom_b, atom_s, ev_lendB, lendB_l, lendB_d, ev_app, app_l, kApp_ev, ev_put, put_l, ev_ixO, ixO_l, ixO_d, put_m, putAll_c, putAll_n, ev_lc, kLst_ev, ev_lcL, wipe_n, wipe_c, r1_2, r1_3, bits_ev, List.getElem?_cons_zero, List.getElem?_cons_succ, List.set_cons_zero, List.set_cons_succ, List.length_cons, List.length_nil, List.length_map, List.append_nil, List.cons_append, List.nil_append, ev_if, turn_nx, turn_ct, turn_bk, turn_rt, turn_ite, kWh_ev, isi_int_int, isi_bool_int, isi_int_bool, isi_bool_bool, isi_int_str, isi_int_none, isi_int_list, isi_int_tup, isi_bool_str, isi_bool_none, isi_bool_list, isi_bool_tup, isi_tup_tup, isi_tup_int, isi_tup_bool, isi_tup_str, isi_tup_none, isi_tup_list, isi_list_list, isi_list_tup, isi_list_int, isi_list_bool, isi_list_str, isi_list_none, isi_str_str, isi_str_int, isi_str_bool, isi_str_none, isi_str_list, isi_str_tup, decide_true, decide_false, not_true_eq_false, not_false_eq_true, ne_eq, decide_eq_true_eq, Bool.not_eq_true', decide_eq_false_iff_not, Bool.not_true, Bool.not_false, Bool.false_eq_true, if_true, if_false, reduceIte, hl, h, e]
  · refine ⟨0, ?_, Bd.mono (show Bd (0 : Int) 1 from ⟨by decide⟩) (by decide)⟩
    simp +decide only [m_law_cell, den_law_cell, ev_seq, seq_nx, seq_rt, seq_ex, seq_bk, seq_ct, seq_ite, fl_ok, fl_ex, fl_ite, ev_set, kSet_ev, ev_ret, ev_nx, ev_raise, ev_if, kIf_ev, ev_par, kPar_ev, kId_ev, ev_asg, kAsg_ev, ev_for, kFor_ev, ev_V, dVg_ok, ev_C, ev_1, ev_2, bind2_ok, bind2_ite1, bind2_ite2, bind_ite, ev_A, ev_nil, ev_cons, kCons_ev, ev_T, toB_ev, ev_and, ev_or, ev_not, kAnd_ev, kOr_ev, kNot_ev, ev_andV, ev_notV, kAndV_ev, kNotV_ev, tup_ev, lst_ev, call_ev, ev_fn, startE_0, startE_s, startE_c, fin_rt, fin_nx, fin_ex, fin_ite, ix_t0, ix_t1, ix_t2, ix_t3, ix_l0, ix_l1, ix_l2, len_l, len_t1, len_t2, len_t3, len_t4, beq_self_eq_true, ev_iL, ev_iT, asL_ev, asT_ev, ev_iA, ev_P, toI_ev, ev_P0, ev_sl, kSl_ev, put_1, gAdd_i, gSub_i, gMul_i, gDiv_p, gMod_p, gPow_l, gShl_l, gShr_l, gLt_i, gLe_i, gGt_i, gGe_i, gEq_i, gNe_i, gAbs_i, gInt_i, gInt_b, gEq_s, gNe_s, gEq_b, gNe_b, gEq_2, gNe_2, gEq_3, gNe_3, gEq_22, gNe_22, DL.R.bind_ok, DL.R.bind_ex, ev_setL, kSetL_ev, ev_lDisp, kDisp_ev, ev_lList, lOf_l, lOf_t, ev_frz, frz_l, frz_d, frz_n, ev_lend, lend_l, lend_d, atom_i, atom_b, atom_s, ev_lendB, lendB_l, lendB_d, ev_app, app_l, kApp_ev, ev_put, put_l, ev_ixO, ixO_l, ixO_d, put_m, putAll_c, putAll_n, ev_lc, kLst_ev, ev_lcL, wipe_n, wipe_c, r1_2, r1_3, bits_ev, List.getElem?_cons_zero, List.getElem?_cons_succ, List.set_cons_zero, List.set_cons_succ, List.length_cons, List.length_nil, List.length_map, List.append_nil, List.cons_append, List.nil_append, ev_if, turn_nx, turn_ct, turn_bk, turn_rt, turn_ite, kWh_ev, isi_int_int, isi_bool_int, isi_int_bool, isi_bool_bool, isi_int_str, isi_int_none, isi_int_list, isi_int_tup, isi_bool_str, isi_bool_none, isi_bool_list, isi_bool_tup, isi_tup_tup, isi_tup_int, isi_tup_bool, isi_tup_str, isi_tup_none, isi_tup_list, isi_list_list, isi_list_tup, isi_list_int, isi_list_bool, isi_list_str, isi_list_none, isi_str_str, isi_str_int, isi_str_bool, isi_str_none, isi_str_list, isi_str_tup, decide_true, decide_false, not_true_eq_false, not_false_eq_true, ne_eq, decide_eq_true_eq, Bool.not_eq_true', decide_eq_false_iff_not, Bool.not_true, Bool.not_false, Bool.false_eq_true, if_true, if_false, reduceIte, hl, h]
/-! ### a drawn side -/
/-- a length above 0, its numbers of few bits -/
def Dr (d : Int) (p : Rat × Rat) : Prop := PosQ d p.1 p.2 ∧ ∃ n : Int, 0 < n ∧ Bd n 21 ∧ Ov n 42 p.1 p.2
theorem Dr.one {d : Int} (hd : Root d) : Dr d (1, 0) := by
  refine ⟨?_, 1, by decide, ⟨by decide⟩, 1, 0, ⟨by decide⟩, ⟨by decide⟩, by grind, by grind⟩
  left
  have : (0 : Rat) < 1 := by decide
  constructor
  · show (d : Rat) * 0 * 0 < 1 * 1
    grind
  · exact this
end DL

set_option Elab.async false
set_option linter.all false
set_option maxRecDepth 100000
set_option maxHeartbeats 2000000
set_option autoImplicit false
namespace DL
open PySem L2 MB
/-! ### which is less -/
theorem posQ_over {d : Int} (hd : Root d) {x y : Rat} (h : PosQ d x y) : PosQ d ((qA x y : Int) : Rat) ((qB x y : Int) : Rat) := by
  have v := q_val x y
  rw [v.1, v.2]
  exact (posQ_scale hd (Rat.intCast_pos.mpr (qN_pos x y))).mpr h
/-- where a cut is -/
structure Cut (d : Int) (pool : List (Rat × Rat)) (x y p q : Rat) : Prop where
  pos : PosQ d p q
  less : PosQ d (x - p) (y - q)
  from_ : (p, q) ∈ pool ∨ ∃ t b : Int, 0 < t ∧ t < b ∧ b ≤ 1001 ∧ p = x * t / b ∧ q = y * t / b
end DL

set_option Elab.async false
set_option linter.all false
set_option maxRecDepth 100000
set_option maxHeartbeats 2000000
set_option autoImplicit false
/-! what k25, k27, k51-k54, k73-k76 draw: digits, root, fractions, sides, heaps -/
namespace DL
open PySem L2 MB
/-! ### digits -/
theorem dig3_while (c k : PD) (m : Nat) (hm : m ≤ 31) : ∀ (f : Nat) (xs : List Int) (r : Int), Bd r 1048577 → xs.length + f = m → (∀ z ∈ xs, Dg z) → ∃ (zs : List Int) (r' : Int), sWhile lt1_law_digits_v3 lb1_law_digits_v3 [some (.d c), some (.d k), some (.d (.int (m : Nat))), some (.l (xs.map .int)), some (.d (.int r)), none, none] = .nx [some (.d c), some (.d k), some (.d (.int (m : Nat))), some (.l (zs.map .int)), some (.d (.int r')), none, none] ∧ zs.length ≤ m ∧ ∀ z ∈ zs, Dg z
  | 0, xs, r, br, hl, hx => by
    have gl : gLen [.list (xs.map PyData.int)] = .ok (.int (xs.length : Nat)) := by rw [len_l, List.length_map]
    have h2 : ¬ ((xs.length : Nat) : Int) < (m : Nat) := by omega
    refine ⟨xs, r, ?_, by omega, hx⟩
    rw [ev_while]
    generalize xs.map PyData.int = q at *
    by_cases h : 0 < r
    · simp +decide only [lt1_law_digits_v3, ev_seq, seq_nx, seq_rt, seq_ex, seq_bk, seq_ct, seq_ite, fl_ok, fl_ex, fl_ite, ev_set, kSet_ev, ev_ret, ev_nx, ev_raise, ev_if, kIf_ev, ev_par, kPar_ev, kId_ev, ev_asg, kAsg_ev, ev_for, kFor_ev, ev_V, dVg_ok, ev_C, ev_1, ev_2, bind2_ok, bind2_ite1, bind2_ite2, bind_ite, ev_A, ev_nil, ev_cons, kCons_ev, ev_T, toB_ev, ev_and, ev_or, ev_not, kAnd_ev, kOr_ev, kNot_ev, ev_andV, ev_notV, kAndV_ev, kNotV_ev, tup_ev, lst_ev, call_ev, ev_fn, startE_0, startE_s, startE_c, fin_rt, fin_nx, fin_ex, fin_ite, ix_t0, ix_t1, ix_t2, ix_t3, ix_l0, ix_l1, ix_l2, len_l, len_t1, len_t2, len_t3, len_t4, beq_self_eq_true, ev_iL, ev_iT, asL_ev, asT_ev, ev_iA, ev_P, toI_ev, ev_P0, ev_sl, kSl_ev, put_1, gAdd_i, gSub_i, gMul_i, gDiv_p, gMod_p, gPow_l, gShl_l, gShr_l, gLt_i, gLe_i, gGt_i, gGe_i, gEq_i, gNe_i, gAbs_i, gInt_i, gInt_b, gEq_s, gNe_s, gEq_b, gNe_b, gEq_2, gNe_2, gEq_3, gNe_3, gEq_22, gNe_22, DL.R.bind_ok, DL.R.bind_ex, ev_setL, kSetL_ev, ev_lDisp, kDisp_ev, ev_lList, lOf_l, lOf_t, ev_frz, frz_l, frz_d, frz_n, ev_lend, lend_l, lend_d, atom_i, atom_b, atom_s, ev_lendB, lendB_l, lendB_d, ev_app, app_l, kApp_ev, ev_put, put_l, ev_ixO, ixO_l, ixO_d, put_m, putAll_c, putAll_n, ev_lc, kLst_ev, ev_lcL, wipe_n, wipe_c, r1_2, r1_3, bits_ev, List.getElem?_cons_zero, List.getElem?_cons_succ, List.set_cons_zero, List.set_cons_succ, List.length_cons, List.length_nil, List.length_map, List.append_nil, List.cons_append, List.nil_append, ev_if, turn_nx, turn_ct, turn_bk, turn_rt, turn_ite, kWh_ev, isi_int_int, isi_bool_int, isi_int_bool, isi_bool_bool, isi_int_str, isi_int_none, isi_int_list, isi_int_tup, isi_bool_str, isi_bool_none, isi_bool_list, isi_bool_tup, isi_tup_tup, isi_tup_int, isi_tup_bool, isi_tup_str, isi_tup_none, isi_tup_list, isi_list_list, isi_list_tup, isi_list_int, isi_list_bool, isi_list_str, isi_list_none, isi_str_str, isi_str_int, isi_str_bool, isi_str_none, isi_str_list, isi_str_tup, decide_true, decide_false, not_true_eq_false, not_false_eq_true, ne_eq, decide_eq_true_eq, Bool.not_eq_true', decide_eq_false_iff_not, Bool.not_true, Bool.not_false, Bool.false_eq_true, if_true, if_false, reduceIte, seq_rm, seq_rv, turn_rm, turn_rv, turn_ex, ev_retV, ev_vL, kVL_ev, frzV_l, ev_setV, kSetV_l, kSetV_o, oPut_ev, oPutO_o, oPutO_me, oOwn_o, oOwn_me, fOwn_ev, gCallV_ev, ev_AV, ev_fnV, finV_rv, ev_clr, kClr_l, ev_vlend, kVLend_l, sv_d, sv_l, sv_o, tpD_d, tpD_l, tpD_n, h, gl, h2]
    · simp +decide only [lt1_law_digits_v3, ev_seq, seq_nx, seq_rt, seq_ex, seq_bk, seq_ct, seq_ite, fl_ok, fl_ex, fl_ite, ev_set, kSet_ev, ev_ret, ev_nx, ev_raise, ev_if, kIf_ev, ev_par, kPar_ev, kId_ev, ev_asg, kAsg_ev, ev_for, kFor_ev, ev_V, dVg_ok, ev_C, ev_1, ev_2, bind2_ok, bind2_ite1, bind2_ite2, bind_ite, ev_A, ev_nil, ev_cons, kCons_ev, ev_T, toB_ev, ev_and, ev_or, ev_not, kAnd_ev, kOr_ev, kNot_ev, ev_andV, ev_notV, kAndV_ev, kNotV_ev, tup_ev, lst_ev, call_ev, ev_fn, startE_0, startE_s, startE_c, fin_rt, fin_nx, fin_ex, fin_ite, ix_t0, ix_t1, ix_t2, ix_t3, ix_l0, ix_l1, ix_l2, len_l, len_t1, len_t2, len_t3, len_t4, beq_self_eq_true, ev_iL, ev_iT, asL_ev, asT_ev, ev_iA, ev_P, toI_ev, ev_P0, ev_sl, kSl_ev, put_1, gAdd_i, gSub_i, gMul_i, gDiv_p, gMod_p, gPow_l, gShl_l, gShr_l, gLt_i, gLe_i, gGt_i, gGe_i, gEq_i, gNe_i, gAbs_i, gInt_i, gInt_b, gEq_s, gNe_s, gEq_b, gNe_b, gEq_2, gNe_2, gEq_3, gNe_3, gEq_22, gNe_22, DL.R.bind_ok, DL.R.bind_ex, ev_setL, kSetL_ev, ev_lDisp, kDisp_ev, ev_lList, lOf_l, lOf_t, ev_frz, frz_l, frz_d, frz_n, ev_lend, lend_l, lend_d, atom_i, atom_b, atom_s, ev_lendB, lendB_l, lendB_d, ev_app, app_l, kApp_ev, ev_put, put_l, ev_ixO, ixO_l, ixO_d, put_m, putAll_c, putAll_n, ev_lc, kLst_ev, ev_lcL, wipe_n, wipe_c, r1_2, r1_3, bits_ev, List.getElem?_cons_zero, List.getElem?_cons_succ, List.set_cons_zero, List.set_cons_succ, List.length_cons, List.length_nil, List.length_map, List.append_nil, List.cons_append, List.nil_append, ev_if, turn_nx, turn_ct, turn_bk, turn_rt, turn_ite, kWh_ev, isi_int_int, isi_bool_int, isi_int_bool, isi_bool_bool, isi_int_str, isi_int_none, isi_int_list, isi_int_tup, isi_bool_str, isi_bool_none, isi_bool_list, isi_bool_tup, isi_tup_tup, isi_tup_int, isi_tup_bool, isi_tup_str, isi_tup_none, isi_tup_list, isi_list_list, isi_list_tup, isi_list_int, isi_list_bool, isi_list_str, isi_list_none, isi_str_str, isi_str_int, isi_str_bool, isi_str_none, isi_str_list, isi_str_tup, decide_true, decide_false, not_true_eq_false, not_false_eq_true, ne_eq, decide_eq_true_eq, Bool.not_eq_true', decide_eq_false_iff_not, Bool.not_true, Bool.not_false, Bool.false_eq_true, if_true, if_false, reduceIte, seq_rm, seq_rv, turn_rm, turn_rv, turn_ex, ev_retV, ev_vL, kVL_ev, frzV_l, ev_setV, kSetV_l, kSetV_o, oPut_ev, oPutO_o, oPutO_me, oOwn_o, oOwn_me, fOwn_ev, gCallV_ev, ev_AV, ev_fnV, finV_rv, ev_clr, kClr_l, ev_vlend, kVLend_l, sv_d, sv_l, sv_o, tpD_d, tpD_l, tpD_n, h]
  | f + 1, xs, r, br, hl, hx => by
    have gl : gLen [.list (xs.map PyData.int)] = .ok (.int (xs.length : Nat)) := by rw [len_l, List.length_map]
    have h2 : ((xs.length : Nat) : Int) < (m : Nat) := by omega
    have h3 : (xs.map PyData.int).length < 16777216 := by rw [List.length_map]; omega
    by_cases h : 0 < r
    · obtain ⟨zs, r', e, hl', hz⟩ := dig3_while c k m hm f (xs ++ [r % 1000000]) (r / 1000000) (Bd.mono inferInstance (Nat.le_refl _)) (by rw [List.length_append]; simp only [List.length_cons, List.length_nil]; omega) (fun w hw => by
        rcases List.mem_append.mp hw with hw | hw
        · exact hx w hw
        · rw [List.mem_singleton] at hw; subst hw; exact ⟨by omega, by omega⟩)
      refine ⟨zs, r', ?_, hl', hz⟩
      rw [ev_while]
      rw [List.map_append] at e
      simp only [List.map_cons, List.map_nil] at e
      generalize xs.map PyData.int = q at *
      simp +decide only [lt1_law_digits_v3, lb1_law_digits_v3, ev_seq, seq_nx, seq_rt, seq_ex, seq_bk, seq_ct, seq_ite, fl_ok, fl_ex, fl_ite, ev_set, kSet_ev, ev_ret, ev_nx, ev_raise, ev_if, kIf_ev, ev_par, kPar_ev, kId_ev, ev_asg, kAsg_ev, ev_for, kFor_ev, ev_V, dVg_ok, ev_C, ev_1, ev_2, bind2_ok, bind2_ite1, bind2_ite2, bind_ite, ev_A, ev_nil, ev_cons, kCons_ev, ev_T, toB_ev, ev_and, ev_or, ev_not, kAnd_ev, kOr_ev, kNot_ev, ev_andV, ev_notV, kAndV_ev, kNotV_ev, tup_ev, lst_ev, call_ev, ev_fn, startE_0, startE_s, startE_c, fin_rt, fin_nx, fin_ex, fin_ite, ix_t0, ix_t1, ix_t2, ix_t3, ix_l0, ix_l1, ix_l2, len_l, len_t1, len_t2, len_t3, len_t4, beq_self_eq_true, ev_iL, ev_iT, asL_ev, asT_ev, ev_iA, ev_P, toI_ev, ev_P0, ev_sl, kSl_ev, put_1, gAdd_i, gSub_i, gMul_i, gDiv_p, gMod_p, gPow_l, gShl_l, gShr_l, gLt_i, gLe_i, gGt_i, gGe_i, gEq_i, gNe_i, gAbs_i, gInt_i, gInt_b, gEq_s, gNe_s, gEq_b, gNe_b, gEq_2, gNe_2, gEq_3, gNe_3, gEq_22, gNe_22, DL.R.bind_ok, DL.R.bind_ex, ev_setL, kSetL_ev, ev_lDisp, kDisp_ev, ev_lList, lOf_l, lOf_t, ev_frz, frz_l, frz_d, frz_n, ev_lend, lend_l, lend_d, atom_i, atom_b, atom_s, ev_lendB, lendB_l, lendB_d, ev_app, app_l, kApp_ev, ev_put, put_l, ev_ixO, ixO_l, ixO_d, put_m, putAll_c, putAll_n, ev_lc, kLst_ev, ev_lcL, wipe_n, wipe_c, r1_2, r1_3, bits_ev, List.getElem?_cons_zero, List.getElem?_cons_succ, List.set_cons_zero, List.set_cons_succ, List.length_cons, List.length_nil, List.length_map, List.append_nil, List.cons_append, List.nil_append, ev_if, turn_nx, turn_ct, turn_bk, turn_rt, turn_ite, kWh_ev, isi_int_int, isi_bool_int, isi_int_bool, isi_bool_bool, isi_int_str, isi_int_none, isi_int_list, isi_int_tup, isi_bool_str, isi_bool_none, isi_bool_list, isi_bool_tup, isi_tup_tup, isi_tup_int, isi_tup_bool, isi_tup_str, isi_tup_none, isi_tup_list, isi_list_list, isi_list_tup, isi_list_int, isi_list_bool, isi_list_str, isi_list_none, isi_str_str, isi_str_int, isi_str_bool, isi_str_none, isi_str_list, isi_str_tup, decide_true, decide_false, not_true_eq_false, not_false_eq_true, ne_eq, decide_eq_true_eq, Bool.not_eq_true', decide_eq_false_iff_not, Bool.not_true, Bool.not_false, Bool.false_eq_true, if_true, if_false, reduceIte, seq_rm, seq_rv, turn_rm, turn_rv, turn_ex, ev_retV, ev_vL, kVL_ev, frzV_l, ev_setV, kSetV_l, kSetV_o, oPut_ev, oPutO_o, oPutO_me, oOwn_o, oOwn_me, fOwn_ev, gCallV_ev, ev_AV, ev_fnV, finV_rv, ev_clr, kClr_l, ev_vlend, kVLend_l, sv_d, sv_l, sv_o, tpD_d, tpD_l, tpD_n, h, gl, h2, h3, pw6]
      exact e
    · refine ⟨xs, r, ?_, by omega, hx⟩
      rw [ev_while]
      generalize xs.map PyData.int = q at *
      simp +decide only [lt1_law_digits_v3, ev_seq, seq_nx, seq_rt, seq_ex, seq_bk, seq_ct, seq_ite, fl_ok, fl_ex, fl_ite, ev_set, kSet_ev, ev_ret, ev_nx, ev_raise, ev_if, kIf_ev, ev_par, kPar_ev, kId_ev, ev_asg, kAsg_ev, ev_for, kFor_ev, ev_V, dVg_ok, ev_C, ev_1, ev_2, bind2_ok, bind2_ite1, bind2_ite2, bind_ite, ev_A, ev_nil, ev_cons, kCons_ev, ev_T, toB_ev, ev_and, ev_or, ev_not, kAnd_ev, kOr_ev, kNot_ev, ev_andV, ev_notV, kAndV_ev, kNotV_ev, tup_ev, lst_ev, call_ev, ev_fn, startE_0, startE_s, startE_c, fin_rt, fin_nx, fin_ex, fin_ite, ix_t0, ix_t1, ix_t2, ix_t3, ix_l0, ix_l1, ix_l2, len_l, len_t1, len_t2, len_t3, len_t4, beq_self_eq_true, ev_iL, ev_iT, asL_ev, asT_ev, ev_iA, ev_P, toI_ev, ev_P0, ev_sl, kSl_ev, put_1, gAdd_i, gSub_i, gMul_i, gDiv_p, gMod_p, gPow_l, gShl_l, gShr_l, gLt_i, gLe_i, gGt_i, gGe_i, gEq_i, gNe_i, gAbs_i, gInt_i, gInt_b, gEq_s, gNe_s, gEq_b, gNe_b, gEq_2, gNe_2, gEq_3, gNe_3, gEq_22, gNe_22, DL.R.bind_ok, DL.R.bind_ex, ev_setL, kSetL_ev, ev_lDisp, kDisp_ev, ev_lList, lOf_l, lOf_t, ev_frz, frz_l, frz_d, frz_n, ev_lend, lend_l, lend_d, atom_i, atom_b, atom_s, ev_lendB, lendB_l, lendB_d, ev_app, app_l, kApp_ev, ev_put, put_l, ev_ixO, ixO_l, ixO_d, put_m, putAll_c, putAll_n, ev_lc, kLst_ev, ev_lcL, wipe_n, wipe_c, r1_2, r1_3, bits_ev, List.getElem?_cons_zero, List.getElem?_cons_succ, List.set_cons_zero, List.set_cons_succ, List.length_cons, List.length_nil, List.length_map, List.append_nil, List.cons_append, List.nil_append, ev_if, turn_nx, turn_ct, turn_bk, turn_rt, turn_ite, kWh_ev, isi_int_int, isi_bool_int, isi_int_bool, isi_bool_bool, isi_int_str, isi_int_none, isi_int_list, isi_int_tup, isi_bool_str, isi_bool_none, isi_bool_list, isi_bool_tup, isi_tup_tup, isi_tup_int, isi_tup_bool, isi_tup_str, isi_tup_none, isi_tup_list, isi_list_list, isi_list_tup, isi_list_int, isi_list_bool, isi_list_str, isi_list_none, isi_str_str, isi_str_int, isi_str_bool, isi_str_none, isi_str_list, isi_str_tup, decide_true, decide_false, not_true_eq_false, not_false_eq_true, ne_eq, decide_eq_true_eq, Bool.not_eq_true', decide_eq_false_iff_not, Bool.not_true, Bool.not_false, Bool.false_eq_true, if_true, if_false, reduceIte, seq_rm, seq_rv, turn_rm, turn_rv, turn_ex, ev_retV, ev_vL, kVL_ev, frzV_l, ev_setV, kSetV_l, kSetV_o, oPut_ev, oPutO_o, oPutO_me, oOwn_o, oOwn_me, fOwn_ev, gCallV_ev, ev_AV, ev_fnV, finV_rv, ev_clr, kClr_l, ev_vlend, kVLend_l, sv_d, sv_l, sv_o, tpD_d, tpD_l, tpD_n, h]
theorem dig3_turn (c m r : PD) (k j w : Int) [Bd k 8] [Bd j 8] [Bd w 70] (xs : List PD) (hx : xs.length < 16777216) : ∃ z w' : Int, Dg z ∧ Bd w' 70 ∧ lb2_law_digits_v3 [some (.d c), some (.d (.int k)), some (.d m), some (.l xs), some (.d r), some (.d (.int w)), some (.d (.int j))] = .nx [some (.d c), some (.d (.int k)), some (.d m), some (.l (xs ++ [.int z])), some (.d r), some (.d (.int w')), some (.d (.int j))] := by
  refine ⟨(w * 1181783497276652981 + j * j + k) % 2305843009213693951 * ((w * 1181783497276652981 + j * j + k) % 2305843009213693951) % 2305843009213693921 / 1048576 % 1000000, (w * 1181783497276652981 + j * j + k) % 2305843009213693951, ⟨by omega, by omega⟩, (bd_emod : Bd _ _).mono (by decide), ?_⟩
  simp +decide only [lb2_law_digits_v3, ev_seq, seq_nx, seq_rt, seq_ex, seq_bk, seq_ct, seq_ite, fl_ok, fl_ex, fl_ite, ev_set, kSet_ev, ev_ret, ev_nx, ev_raise, ev_if, kIf_ev, ev_par, kPar_ev, kId_ev, ev_asg, kAsg_ev, ev_for, kFor_ev, ev_V, dVg_ok, ev_C, ev_1, ev_2, bind2_ok, bind2_ite1, bind2_ite2, bind_ite, ev_A, ev_nil, ev_cons, kCons_ev, ev_T, toB_ev, ev_and, ev_or, ev_not, kAnd_ev, kOr_ev, kNot_ev, ev_andV, ev_notV, kAndV_ev, kNotV_ev, tup_ev, lst_ev, call_ev, ev_fn, startE_0, startE_s, startE_c, fin_rt, fin_nx, fin_ex, fin_ite, ix_t0, ix_t1, ix_t2, ix_t3, ix_l0, ix_l1, ix_l2, len_l, len_t1, len_t2, len_t3, len_t4, beq_self_eq_true, ev_iL, ev_iT, asL_ev, asT_ev, ev_iA, ev_P, toI_ev, ev_P0, ev_sl, kSl_ev, put_1, gAdd_i, gSub_i, gMul_i, gDiv_p, gMod_p, gPow_l, gShl_l, gShr_l, gLt_i, gLe_i, gGt_i, gGe_i, gEq_i, gNe_i, gAbs_i, gInt_i, gInt_b, gEq_s, gNe_s, gEq_b, gNe_b, gEq_2, gNe_2, gEq_3, gNe_3, gEq_22, gNe_22, DL.R.bind_ok, DL.R.bind_ex, ev_setL, kSetL_ev, ev_lDisp, kDisp_ev, ev_lList, lOf_l, lOf_t, ev_frz, frz_l, frz_d, frz_n, ev_lend, lend_l, lend_d, atom_i, atom_b, atom_s, ev_lendB, lendB_l, lendB_d, ev_app, app_l, kApp_ev, ev_put, put_l, ev_ixO, ixO_l, ixO_d, put_m, putAll_c, putAll_n, ev_lc, kLst_ev, ev_lcL, wipe_n, wipe_c, r1_2, r1_3, bits_ev, List.getElem?_cons_zero, List.getElem?_cons_succ, List.set_cons_zero, List.set_cons_succ, List.length_cons, List.length_nil, List.length_map, List.append_nil, List.cons_append, List.nil_append, ev_if, turn_nx, turn_ct, turn_bk, turn_rt, turn_ite, kWh_ev, isi_int_int, isi_bool_int, isi_int_bool, isi_bool_bool, isi_int_str, isi_int_none, isi_int_list, isi_int_tup, isi_bool_str, isi_bool_none, isi_bool_list, isi_bool_tup, isi_tup_tup, isi_tup_int, isi_tup_bool, isi_tup_str, isi_tup_none, isi_tup_list, isi_list_list, isi_list_tup, isi_list_int, isi_list_bool, isi_list_str, isi_list_none, isi_str_str, isi_str_int, isi_str_bool, isi_str_none, isi_str_list, isi_str_tup, decide_true, decide_false, not_true_eq_false, not_false_eq_true, ne_eq, decide_eq_true_eq, Bool.not_eq_true', decide_eq_false_iff_not, Bool.not_true, Bool.not_false, Bool.false_eq_true, if_true, if_false, reduceIte, seq_rm, seq_rv, turn_rm, turn_rv, turn_ex, ev_retV, ev_vL, kVL_ev, frzV_l, ev_setV, kSetV_l, kSetV_o, oPut_ev, oPutO_o, oPutO_me, oOwn_o, oOwn_me, fOwn_ev, gCallV_ev, ev_AV, ev_fnV, finV_rv, ev_clr, kClr_l, ev_vlend, kVLend_l, sv_d, sv_l, sv_o, tpD_d, tpD_l, tpD_n, hx, pw6]
theorem dig3_loop (c m r : PD) (k : Int) [Bd k 8] : ∀ (n a : Nat) (xs : List Int) (w : Int) (x6 : Option SV), a + n ≤ 31 → xs.length ≤ a → Bd w 70 → (∀ z ∈ xs, Dg z) → ∃ (zs : List Int) (w' : Int) (y6 : Option SV), sForL (.one 6) lb2_law_digits_v3 ((List.range' a n).map fun i => PyData.int ((i : Nat) : Int)) [some (.d c), some (.d (.int k)), some (.d m), some (.l (xs.map .int)), some (.d r), some (.d (.int w)), x6] = .nx [some (.d c), some (.d (.int k)), some (.d m), some (.l (zs.map .int)), some (.d r), some (.d (.int w')), y6] ∧ zs.length = xs.length + n ∧ ∀ z ∈ zs, Dg z
  | 0, a, xs, w, x6, _, _, _, hx => ⟨xs, w, x6, by simp [forL_nil], by simp, hx⟩
  | n + 1, a, xs, w, x6, hk, hl, bw, hx => by
    have ba : Bd ((a : Nat) : Int) 8 := ⟨by rw [Int.natAbs_natCast]; have : (2 : Nat) ^ 8 = 256 := by decide
                                            omega⟩
    obtain ⟨z, w', hz, bw', e⟩ := dig3_turn c m r k a w (xs.map .int) (by rw [List.length_map]; omega)
    obtain ⟨zs, w2, y6, e2, hl2, hz2⟩ := dig3_loop c m r k n (a + 1) (xs ++ [z]) w' (some (.d (.int (a : Nat)))) (by omega) (by simp; omega) bw' (fun v hv => by
      rcases List.mem_append.mp hv with hv | hv
      · exact hx v hv
      · rw [List.mem_singleton] at hv; subst hv; exact hz)
    refine ⟨zs, w2, y6, ?_, by rw [hl2]; simp; omega, hz2⟩
    rw [List.range'_succ, List.map_cons, forL_1]
    simp only [List.set_cons_succ, List.set_cons_zero, e, turn_nx]
    rw [List.map_append] at e2
    exact e2
theorem dig3_fin (c k n : Int) (m : PD) (XS ZS RR : List PD) (r' w' : Int) (y6 : Option SV) [Bd c 1048576] [Bd k 8] (ew : sWhile lt1_law_digits_v3 lb1_law_digits_v3 [some (.d (.int c)), some (.d (.int k)), some (.d m), some (.l []), some (.d (.int ((c.natAbs : Int) / 2 * (1 - c % 2)))), none, none] = .nx [some (.d (.int c)), some (.d (.int k)), some (.d m), some (.l XS), some (.d (.int r')), none, none])
    (gl : gLen [.list XS] = .ok (.int n)) (gr : gR2 [.int n, m] = .ok RR) (ef : sForL (.one 6) lb2_law_digits_v3 RR [some (.d (.int c)), some (.d (.int k)), some (.d m), some (.l XS), some (.d (.int r')), some (.d (.int (c % 2305843009213693951 + k * k + 7))), none] = .nx [some (.d (.int c)), some (.d (.int k)), some (.d m), some (.l ZS), some (.d (.int r')), some (.d (.int w')), y6]) :
    m_law_digits_v3 [.int c, .int k, m] = .ok (.list ZS) := by
  simp +decide only [m_law_digits_v3, den_law_digits_v3, ev_seq, seq_nx, seq_rt, seq_ex, seq_bk, seq_ct, seq_ite, fl_okM, fl_ex, fl_ite, ev_set, kSet_ev, ev_ret, ev_nx, ev_raise, ev_if, kIf_ev, ev_par, kPar_ev, kId_ev, ev_asg, kAsg_ev, ev_forM, kFor_ev, ev_V, dVg_ok, ev_C, ev_1, ev_2, bind2_ok, bind2_ite1, bind2_ite2, bind_ite, ev_A, ev_nil, ev_cons, kCons_ev, ev_T, toB_ev, ev_and, ev_or, ev_not, kAnd_ev, kOr_ev, kNot_ev, ev_andV, ev_notV, kAndV_ev, kNotV_ev, tup_ev, lst_ev, call_ev, ev_fn, startE_0, startE_s, startE_c, fin_rt, fin_nx, fin_ex, fin_ite, ix_t0, ix_t1, ix_t2, ix_t3, ix_l0, ix_l1, ix_l2, len_l, len_t1, len_t2, len_t3, len_t4, beq_self_eq_true, ev_iL, ev_iT, asL_ev, asT_ev, ev_iAM, ev_P, toI_ev, ev_P0, ev_sl, kSl_ev, put_1, gAdd_i, gSub_i, gMul_i, gDiv_p, gMod_p, gPow_l, gShl_l, gShr_l, gLt_i, gLe_i, gGt_i, gGe_i, gEq_i, gNe_i, gAbs_i, gInt_i, gInt_b, gEq_s, gNe_s, gEq_b, gNe_b, gEq_2, gNe_2, gEq_3, gNe_3, gEq_22, gNe_22, bind_okM, DL.R.bind_ex, ev_setL, kSetL_ev, ev_lDisp, kDisp_ev, ev_lList, lOf_l, lOf_t, ev_frz, frz_l, frz_d, frz_n, ev_lend, lend_l, lend_d, atom_i, atom_b, atom_s, ev_lendB, lendB_l, lendB_d, ev_app, app_l, kApp_ev, ev_put, put_l, ev_ixO, ixO_l, ixO_d, put_m, putAll_c, putAll_n, ev_lc, kLst_ev, ev_lcL, wipe_n, wipe_c, r1_2, r1_3, bits_ev, List.getElem?_cons_zero, List.getElem?_cons_succ, List.set_cons_zero, List.set_cons_succ, List.length_cons, List.length_nil, List.length_map, List.append_nil, List.cons_append, List.nil_append, ev_if, turn_nx, turn_ct, turn_bk, turn_rt, turn_ite, kWh_ev, isi_int_int, isi_bool_int, isi_int_bool, isi_bool_bool, isi_int_str, isi_int_none, isi_int_list, isi_int_tup, isi_bool_str, isi_bool_none, isi_bool_list, isi_bool_tup, isi_tup_tup, isi_tup_int, isi_tup_bool, isi_tup_str, isi_tup_none, isi_tup_list, isi_list_list, isi_list_tup, isi_list_int, isi_list_bool, isi_list_str, isi_list_none, isi_str_str, isi_str_int, isi_str_bool, isi_str_none, isi_str_list, isi_str_tup, decide_true, decide_false, not_true_eq_false, not_false_eq_true, ne_eq, decide_eq_true_eq, Bool.not_eq_true', decide_eq_false_iff_not, Bool.not_true, Bool.not_false, Bool.false_eq_true, if_true, if_false, reduceIte, seq_rm, seq_rv, turn_rm, turn_rv, turn_ex, ev_retV, ev_vL, kVL_ev, frzV_l, ev_setV, kSetV_l, kSetV_o, oPut_ev, oPutO_o, oPutO_me, oOwn_o, oOwn_me, fOwn_ev, gCallV_ev, ev_AV, ev_fnV, finV_rv, ev_clr, kClr_l, ev_vlend, kVLend_l, sv_d, sv_l, sv_o, tpD_d, tpD_l, tpD_n, ew, gl, gr, ef]
theorem gR2_ft {a n : Int} (h0 : 0 ≤ a) (h1 : n < 2 ^ 62) (h2 : a < 2 ^ 62) (h3 : 0 ≤ n) : gR2 [.int a, .int n] = .ok (rng a (n - a).toNat) := if_pos ⟨by omega, h2, by omega, h1⟩
theorem law_digits3_ok (c k : Int) [bc : Bd c 1048576] [bk : Bd k 8] (m : Nat) (hm : m ≤ 31) : ∃ zs : List Int, m_law_digits_v3 [.int c, .int k, .int (m : Nat)] = .ok (.list (zs.map .int)) ∧ zs.length = m ∧ ∀ z ∈ zs, Dg z := by
  have b0 : Bd ((c.natAbs : Int) / 2 * (1 - c % 2)) 1048577 := by
    have h := bc.h
    refine ⟨?_⟩
    have hp : (2 : Nat) ^ 1048577 = 2 * 2 ^ 1048576 := by rw [Nat.pow_succ]; omega
    rw [hp]
    generalize (2 : Nat) ^ 1048576 = T at *
    have : 1 - c % 2 = 0 ∨ 1 - c % 2 = 1 := by omega
    rcases this with e | e
    · rw [e, Int.mul_zero]
      show 0 < 2 * T
      omega
    · rw [e, Int.mul_one]
      omega
  obtain ⟨xs, r', ew, hl, hx⟩ := dig3_while (.int c) (.int k) m hm m [] _ b0 (by simp) (fun z hz => nomatch hz)
  have bw : Bd (c % 2305843009213693951 + k * k + 7) 70 := Bd.mono inferInstance (show _ ≤ 70 by decide)
  obtain ⟨zs, w', y6, ef, hl2, hz⟩ := dig3_loop (.int c) (.int (m : Nat)) (.int r') k (m - xs.length) xs.length xs _ none (by omega) (Nat.le_refl _) bw hx
  have gr : gR2 [.int (xs.length : Nat), .int (m : Nat)] = .ok ((List.range' xs.length (m - xs.length)).map fun i => PyData.int ((i : Nat) : Int)) := by
    rw [gR2_ft (by omega) (by omega) (by omega) (by omega)]
    unfold rng
    rw [show (((m : Nat) : Int) - (xs.length : Nat)).toNat = m - xs.length by omega, List.range'_eq_map_range, List.map_map]
    congr 1
  exact ⟨zs, dig3_fin c k (xs.length : Nat) (.int (m : Nat)) _ _ _ r' w' y6 ew (by rw [len_l, List.length_map]) gr ef, by omega, hz⟩
end DL

set_option Elab.async false
set_option linter.all false
set_option maxRecDepth 100000
set_option maxHeartbeats 2000000
set_option autoImplicit false
namespace DL
open PySem L2 MB
theorem roots98f : ∀ n : Fin 98, ((([4, 9, 16, 25, 36, 49, 64, 81] : List Int).any fun y => y == 2 + (n.val : Int)) = true ∧ 2 + (n.val : Int) + 1 ∈ rootsL) ∨ ((([4, 9, 16, 25, 36, 49, 64, 81] : List Int).any fun y => y == 2 + (n.val : Int)) = false ∧ 2 + (n.val : Int) ∈ rootsL) := by decide
theorem lst8f : (PyData.list [.int 4, .int 9, .int 16, .int 25, .int 36, .int 49, .int 64, .int 81] : PD) = .list (([4, 9, 16, 25, 36, 49, 64, 81] : List Int).map .int) := rfl
theorem law_root5_ok (ns : List Int) (hb : ∀ z ∈ ns, PySem.Builtin.Int.intBits z ≤ 1048576) : ∃ d : Int, m_law_root_v5 [.list (ns.map PyData.int)] = .ok (.int d) ∧ Root d ∧ Bd d 7 := by
  obtain ⟨c, ec, bc⟩ := law_cell_v ns hb 0
  have ec' : m_law_cell [.list (ns.map PyData.int), .int 0] = .ok (.int c) := ec
  obtain ⟨zs, ez, hl, hz⟩ := law_digits3_ok c 0 (bk := ⟨by decide⟩) 1 (by decide)
  have ez' : m_law_digits_v3 [.int c, .int 0, .int 1] = .ok (.list (zs.map .int)) := ez
  obtain ⟨e0, g0⟩ := dg_at hz (k := 0) (by omega)
  have e0' : gIx (.list (zs.map PyData.int)) (.int 0) = .ok (.int (zs.getD 0 0)) := e0
  generalize zs.getD 0 0 = z at *
  have bz := dg_bd g0
  have hz : z % 98 = ((z % 98).toNat : Int) := by omega
  have hf := roots98f ⟨(z % 98).toNat, by omega⟩
  simp only [← hz] at hf
  have t7 : (2 : Nat) ^ 7 = 128 := by decide
  have hin : gIn false (.int (2 + z % 98)) (.list [.int 4, .int 9, .int 16, .int 25, .int 36, .int 49, .int 64, .int 81]) = .ok (.bool ((([4, 9, 16, 25, 36, 49, 64, 81] : List Int).any fun y => y == 2 + z % 98) != false)) := by
    rw [lst8f]; exact in_l
  rcases hf with ⟨h1, h2⟩ | ⟨h1, h2⟩
  · have r := roots_ok _ h2
    refine ⟨2 + z % 98 + 1, ?_, r.1, ⟨by omega⟩⟩
    rw [h1] at hin
    simp +decide only [m_law_root_v5, den_law_root_v5, ev_seq, seq_nx, seq_rt, seq_ex, seq_bk, seq_ct, seq_ite, fl_okM, fl_ex, fl_ite, ev_set, kSet_ev, ev_ret, ev_nx, ev_raise, ev_if, kIf_ev, ev_par, kPar_ev, kId_ev, ev_asg, kAsg_ev, ev_forM, kFor_ev, ev_V, dVg_ok, ev_C, ev_1, ev_2, bind2_ok, bind2_ite1, bind2_ite2, bind_ite, ev_A, ev_nil, ev_cons, kCons_ev, ev_T, toB_ev, ev_and, ev_or, ev_not, kAnd_ev, kOr_ev, kNot_ev, ev_andV, ev_notV, kAndV_ev, kNotV_ev, tup_ev, lst_ev, call_ev, ev_fn, startE_0, startE_s, startE_c, fin_rt, fin_nx, fin_ex, fin_ite, ix_t0, ix_t1, ix_t2, ix_t3, ix_l0, ix_l1, ix_l2, len_l, len_t1, len_t2, len_t3, len_t4, beq_self_eq_true, ev_iL, ev_iT, asL_ev, asT_ev, ev_iAM, ev_P, toI_ev, ev_P0, ev_sl, kSl_ev, put_1, gAdd_i, gSub_i, gMul_i, gDiv_p, gMod_p, gPow_l, gShl_l, gShr_l, gLt_i, gLe_i, gGt_i, gGe_i, gEq_i, gNe_i, gAbs_i, gInt_i, gInt_b, gEq_s, gNe_s, gEq_b, gNe_b, gEq_2, gNe_2, gEq_3, gNe_3, gEq_22, gNe_22, bind_okM, DL.R.bind_ex, ev_setL, kSetL_ev, ev_lDisp, kDisp_ev, ev_lList, lOf_l, lOf_t, ev_frz, frz_l, frz_d, frz_n, ev_lend, lend_l, lend_d, atom_i, atom_b, atom_s, ev_lendB, lendB_l, lendB_d, ev_app, app_l, kApp_ev, ev_put, put_l, ev_ixO, ixO_l, ixO_d, put_m, putAll_c, putAll_n, ev_lc, kLst_ev, ev_lcL, wipe_n, wipe_c, r1_2, r1_3, bits_ev, List.getElem?_cons_zero, List.getElem?_cons_succ, List.set_cons_zero, List.set_cons_succ, List.length_cons, List.length_nil, List.length_map, List.append_nil, List.cons_append, List.nil_append, ev_if, turn_nx, turn_ct, turn_bk, turn_rt, turn_ite, kWh_ev, isi_int_int, isi_bool_int, isi_int_bool, isi_bool_bool, isi_int_str, isi_int_none, isi_int_list, isi_int_tup, isi_bool_str, isi_bool_none, isi_bool_list, isi_bool_tup, isi_tup_tup, isi_tup_int, isi_tup_bool, isi_tup_str, isi_tup_none, isi_tup_list, isi_list_list, isi_list_tup, isi_list_int, isi_list_bool, isi_list_str, isi_list_none, isi_str_str, isi_str_int, isi_str_bool, isi_str_none, isi_str_list, isi_str_tup, decide_true, decide_false, not_true_eq_false, not_false_eq_true, ne_eq, decide_eq_true_eq, Bool.not_eq_true', decide_eq_false_iff_not, Bool.not_true, Bool.not_false, Bool.false_eq_true, if_true, if_false, reduceIte, seq_rm, seq_rv, turn_rm, turn_rv, turn_ex, ev_retV, ev_vL, kVL_ev, frzV_l, ev_setV, kSetV_l, kSetV_o, oPut_ev, oPutO_o, oPutO_me, oOwn_o, oOwn_me, fOwn_ev, gCallV_ev, ev_AV, ev_fnV, finV_rv, ev_clr, kClr_l, ev_vlend, kVLend_l, sv_d, sv_l, sv_o, tpD_d, tpD_l, tpD_n, ec', ez', e0', hin]
  · have r := roots_ok _ h2
    refine ⟨2 + z % 98, ?_, r.1, ⟨by omega⟩⟩
    rw [h1] at hin
    simp +decide only [m_law_root_v5, den_law_root_v5, ev_seq, seq_nx, seq_rt, seq_ex, seq_bk, seq_ct, seq_ite, fl_okM, fl_ex, fl_ite, ev_set, kSet_ev, ev_ret, ev_nx, ev_raise, ev_if, kIf_ev, ev_par, kPar_ev, kId_ev, ev_asg, kAsg_ev, ev_forM, kFor_ev, ev_V, dVg_ok, ev_C, ev_1, ev_2, bind2_ok, bind2_ite1, bind2_ite2, bind_ite, ev_A, ev_nil, ev_cons, kCons_ev, ev_T, toB_ev, ev_and, ev_or, ev_not, kAnd_ev, kOr_ev, kNot_ev, ev_andV, ev_notV, kAndV_ev, kNotV_ev, tup_ev, lst_ev, call_ev, ev_fn, startE_0, startE_s, startE_c, fin_rt, fin_nx, fin_ex, fin_ite, ix_t0, ix_t1, ix_t2, ix_t3, ix_l0, ix_l1, ix_l2, len_l, len_t1, len_t2, len_t3, len_t4, beq_self_eq_true, ev_iL, ev_iT, asL_ev, asT_ev, ev_iAM, ev_P, toI_ev, ev_P0, ev_sl, kSl_ev, put_1, gAdd_i, gSub_i, gMul_i, gDiv_p, gMod_p, gPow_l, gShl_l, gShr_l, gLt_i, gLe_i, gGt_i, gGe_i, gEq_i, gNe_i, gAbs_i, gInt_i, gInt_b, gEq_s, gNe_s, gEq_b, gNe_b, gEq_2, gNe_2, gEq_3, gNe_3, gEq_22, gNe_22, bind_okM, DL.R.bind_ex, ev_setL, kSetL_ev, ev_lDisp, kDisp_ev, ev_lList, lOf_l, lOf_t, ev_frz, frz_l, frz_d, frz_n, ev_lend, lend_l, lend_d, atom_i, atom_b, atom_s, ev_lendB, lendB_l, lendB_d, ev_app, app_l, kApp_ev, ev_put, put_l, ev_ixO, ixO_l, ixO_d, put_m, putAll_c, putAll_n, ev_lc, kLst_ev, ev_lcL, wipe_n, wipe_c, r1_2, r1_3, bits_ev, List.getElem?_cons_zero, List.getElem?_cons_succ, List.set_cons_zero, List.set_cons_succ, List.length_cons, List.length_nil, List.length_map, List.append_nil, List.cons_append, List.nil_append, ev_if, turn_nx, turn_ct, turn_bk, turn_rt, turn_ite, kWh_ev, isi_int_int, isi_bool_int, isi_int_bool, isi_bool_bool, isi_int_str, isi_int_none, isi_int_list, isi_int_tup, isi_bool_str, isi_bool_none, isi_bool_list, isi_bool_tup, isi_tup_tup, isi_tup_int, isi_tup_bool, isi_tup_str, isi_tup_none, isi_tup_list, isi_list_list, isi_list_tup, isi_list_int, isi_list_bool, isi_list_str, isi_list_none, isi_str_str, isi_str_int, isi_str_bool, isi_str_none, isi_str_list, isi_str_tup, decide_true, decide_false, not_true_eq_false, not_false_eq_true, ne_eq, decide_eq_true_eq, Bool.not_eq_true', decide_eq_false_iff_not, Bool.not_true, Bool.not_false, Bool.false_eq_true, if_true, if_false, reduceIte, seq_rm, seq_rv, turn_rm, turn_rv, turn_ex, ev_retV, ev_vL, kVL_ev, frzV_l, ev_setV, kSetV_l, kSetV_o, oPut_ev, oPutO_o, oPutO_me, oOwn_o, oOwn_me, fOwn_ev, gCallV_ev, ev_AV, ev_fnV, finV_rv, ev_clr, kClr_l, ev_vlend, kVLend_l, sv_d, sv_l, sv_o, tpD_d, tpD_l, tpD_n, ec', ez', e0', hin]
/-- lowest terms -/
theorem low3 (a b : Int) (hb : 0 < b) : ∃ g : Int, (Int.gcd (a.natAbs : Int) b : Int) = g ∧ 0 < g ∧ g ≤ b ∧ PyData.tuple [.int (a / g), .int (b / g)] = frD ((a : Rat) / (b : Rat)) := by
  have e0 : Int.gcd (a.natAbs : Int) b = Int.gcd a b := by simp [Int.gcd]
  obtain ⟨g, e1, e2, ⟨q, q1, q2, q3⟩, ⟨p, p1, p2⟩⟩ := low2 a b hb
  refine ⟨g, by rw [e0, e1], e2, ?_, ?_⟩
  · have : g ∣ b := ⟨q, by rw [q3]; exact Int.mul_comm ..⟩
    exact Int.le_of_dvd hb this
  · rw [q2, p1]
    have h := e1
    rw [p2, q3, Int.gcd_mul_right] at h
    have h2 : (Int.gcd p q : Int) * (g.natAbs : Int) = g := by exact_mod_cast h
    have h3 : (g.natAbs : Int) = g := by omega
    rw [h3] at h2
    have h4 : Int.gcd p q = 1 := by
      have : ((Int.gcd p q : Int) - 1) * g = 0 := by rw [Int.sub_mul, h2]; omega
      rcases Int.mul_eq_zero.mp this with w | w <;> omega
    have hl : LowF p q := ⟨by omega, h4⟩
    have e := rat_of_lowF hl
    have hv : (a : Rat) / (b : Rat) = (p : Rat) / (q : Rat) := by
      rw [p2, q3, Rat.intCast_mul, Rat.intCast_mul]
      have g0 : (g : Rat) ≠ 0 := ratne (by omega)
      have q0 : (q : Rat) ≠ 0 := ratne (by omega)
      grind
    rw [hv]
    unfold frD
    rw [e.1, e.2]
/-- a drawn fraction: what it is over -/
def Fq (great : Bool) (x : Rat) : Prop := ∃ a b : Int, 0 < b ∧ x = (a : Rat) / (b : Rat) ∧ (if great = true then Bd a 100 ∧ Bd b 41 else Bd a 10 ∧ Bd b 6)
theorem fraction3_fin (s : PD) (great : Bool) (z0 z1 z2 a b g : Int) (bot : Int) [Bd z0 20] [Bd z1 20] [Bd z2 20] [Bd a 100] [Bd b 41] [Bd g 41] (i0 : gIx s (.int 0) = .ok (.int z0)) (i1 : gIx s (.int 1) = .ok (.int z1)) (i2 : gIx s (.int 2) = .ok (.int z2)) (eb : gIx (.list [.int 1, .int 1, .int 2, .int 3, .int 4, .int 6, .int 12]) (.int (z1 % 7)) = .ok (.int bot))
    (h2 : z2 % 4 = 2 → a = z0 % 2001 - 1000 ∧ b = 1 + z1 % 60) (h3 : z2 % 4 = 3 → great = true → a = (z0 * 1000000 + z1 - 500000000000) * 1000000000000000000 + z2 ∧ b = 1 + z1 * 1000000 + z2) (h4 : ¬ z2 % 4 = 2 → ¬ (z2 % 4 = 3 ∧ great = true) → a = z0 % 41 - 20 ∧ b = bot)
    (ed : m_law_divisor_v2 [.int (a.natAbs : Int), .int b] = .ok (.int g)) (hg : 0 < g) : m_law_fraction_v3 [s, .bool great] = .ok (.tuple [.int (a / g), .int (b / g)]) := by
  by_cases c2 : z2 % 4 = 2
  · obtain ⟨ha, hb⟩ := h2 c2
    have c3 : ¬ z2 % 4 = 3 := by omega
    simp +decide only [m_law_fraction_v3, den_law_fraction_v3, ev_seq, seq_nx, seq_rt, seq_ex, seq_bk, seq_ct, seq_ite, fl_okM, fl_ex, fl_ite, ev_set, kSet_ev, ev_ret, ev_nx, ev_raise, ev_if, kIf_ev, ev_par, kPar_ev, kId_ev, ev_asg, kAsg_ev, ev_forM, kFor_ev, ev_V, dVg_ok, ev_C, ev_1, ev_2, bind2_ok, bind2_ite1, bind2_ite2, bind_ite, ev_A, ev_nil, ev_cons, kCons_ev, ev_T, toB_ev, ev_and, ev_or, ev_not, kAnd_ev, kOr_ev, kNot_ev, ev_andV, ev_notV, kAndV_ev, kNotV_ev, tup_ev, lst_ev, call_ev, ev_fn, startE_0, startE_s, startE_c, fin_rt, fin_nx, fin_ex, fin_ite, ix_t0, ix_t1, ix_t2, ix_t3, ix_l0, ix_l1, ix_l2, len_l, len_t1, len_t2, len_t3, len_t4, beq_self_eq_true, ev_iL, ev_iT, asL_ev, asT_ev, ev_iAM, ev_P, toI_ev, ev_P0, ev_sl, kSl_ev, put_1, gAdd_i, gSub_i, gMul_i, gDiv_p, gMod_p, gPow_l, gShl_l, gShr_l, gLt_i, gLe_i, gGt_i, gGe_i, gEq_i, gNe_i, gAbs_i, gInt_i, gInt_b, gEq_s, gNe_s, gEq_b, gNe_b, gEq_2, gNe_2, gEq_3, gNe_3, gEq_22, gNe_22, bind_okM, DL.R.bind_ex, ev_setL, kSetL_ev, ev_lDisp, kDisp_ev, ev_lList, lOf_l, lOf_t, ev_frz, frz_l, frz_d, frz_n, ev_lend, lend_l, lend_d, atom_i, atom_b, atom_s, ev_lendB, lendB_l, lendB_d, ev_app, app_l, kApp_ev, ev_put, put_l, ev_ixO, ixO_l, ixO_d, put_m, putAll_c, putAll_n, ev_lc, kLst_ev, ev_lcL, wipe_n, wipe_c, r1_2, r1_3, bits_ev, List.getElem?_cons_zero, List.getElem?_cons_succ, List.set_cons_zero, List.set_cons_succ, List.length_cons, List.length_nil, List.length_map, List.append_nil, List.cons_append, List.nil_append, ev_if, turn_nx, turn_ct, turn_bk, turn_rt, turn_ite, kWh_ev, isi_int_int, isi_bool_int, isi_int_bool, isi_bool_bool, isi_int_str, isi_int_none, isi_int_list, isi_int_tup, isi_bool_str, isi_bool_none, isi_bool_list, isi_bool_tup, isi_tup_tup, isi_tup_int, isi_tup_bool, isi_tup_str, isi_tup_none, isi_tup_list, isi_list_list, isi_list_tup, isi_list_int, isi_list_bool, isi_list_str, isi_list_none, isi_str_str, isi_str_int, isi_str_bool, isi_str_none, isi_str_list, isi_str_tup, decide_true, decide_false, not_true_eq_false, not_false_eq_true, ne_eq, decide_eq_true_eq, Bool.not_eq_true', decide_eq_false_iff_not, Bool.not_true, Bool.not_false, Bool.false_eq_true, if_true, if_false, reduceIte, seq_rm, seq_rv, turn_rm, turn_rv, turn_ex, ev_retV, ev_vL, kVL_ev, frzV_l, ev_setV, kSetV_l, kSetV_o, oPut_ev, oPutO_o, oPutO_me, oOwn_o, oOwn_me, fOwn_ev, gCallV_ev, ev_AV, ev_fnV, finV_rv, ev_clr, kClr_l, ev_vlend, kVLend_l, sv_d, sv_l, sv_o, tpD_d, tpD_l, tpD_n, i0, i1, i2, eb, c2, c3, ← ha, ← hb, ed, hg]
  · by_cases c3 : z2 % 4 = 3
    · cases great with
      | true =>
        obtain ⟨ha, hb⟩ := h3 c3 rfl
        simp +decide only [m_law_fraction_v3, den_law_fraction_v3, ev_seq, seq_nx, seq_rt, seq_ex, seq_bk, seq_ct, seq_ite, fl_okM, fl_ex, fl_ite, ev_set, kSet_ev, ev_ret, ev_nx, ev_raise, ev_if, kIf_ev, ev_par, kPar_ev, kId_ev, ev_asg, kAsg_ev, ev_forM, kFor_ev, ev_V, dVg_ok, ev_C, ev_1, ev_2, bind2_ok, bind2_ite1, bind2_ite2, bind_ite, ev_A, ev_nil, ev_cons, kCons_ev, ev_T, toB_ev, ev_and, ev_or, ev_not, kAnd_ev, kOr_ev, kNot_ev, ev_andV, ev_notV, kAndV_ev, kNotV_ev, tup_ev, lst_ev, call_ev, ev_fn, startE_0, startE_s, startE_c, fin_rt, fin_nx, fin_ex, fin_ite, ix_t0, ix_t1, ix_t2, ix_t3, ix_l0, ix_l1, ix_l2, len_l, len_t1, len_t2, len_t3, len_t4, beq_self_eq_true, ev_iL, ev_iT, asL_ev, asT_ev, ev_iAM, ev_P, toI_ev, ev_P0, ev_sl, kSl_ev, put_1, gAdd_i, gSub_i, gMul_i, gDiv_p, gMod_p, gPow_l, gShl_l, gShr_l, gLt_i, gLe_i, gGt_i, gGe_i, gEq_i, gNe_i, gAbs_i, gInt_i, gInt_b, gEq_s, gNe_s, gEq_b, gNe_b, gEq_2, gNe_2, gEq_3, gNe_3, gEq_22, gNe_22, bind_okM, DL.R.bind_ex, ev_setL, kSetL_ev, ev_lDisp, kDisp_ev, ev_lList, lOf_l, lOf_t, ev_frz, frz_l, frz_d, frz_n, ev_lend, lend_l, lend_d, atom_i, atom_b, atom_s, ev_lendB, lendB_l, lendB_d, ev_app, app_l, kApp_ev, ev_put, put_l, ev_ixO, ixO_l, ixO_d, put_m, putAll_c, putAll_n, ev_lc, kLst_ev, ev_lcL, wipe_n, wipe_c, r1_2, r1_3, bits_ev, List.getElem?_cons_zero, List.getElem?_cons_succ, List.set_cons_zero, List.set_cons_succ, List.length_cons, List.length_nil, List.length_map, List.append_nil, List.cons_append, List.nil_append, ev_if, turn_nx, turn_ct, turn_bk, turn_rt, turn_ite, kWh_ev, isi_int_int, isi_bool_int, isi_int_bool, isi_bool_bool, isi_int_str, isi_int_none, isi_int_list, isi_int_tup, isi_bool_str, isi_bool_none, isi_bool_list, isi_bool_tup, isi_tup_tup, isi_tup_int, isi_tup_bool, isi_tup_str, isi_tup_none, isi_tup_list, isi_list_list, isi_list_tup, isi_list_int, isi_list_bool, isi_list_str, isi_list_none, isi_str_str, isi_str_int, isi_str_bool, isi_str_none, isi_str_list, isi_str_tup, decide_true, decide_false, not_true_eq_false, not_false_eq_true, ne_eq, decide_eq_true_eq, Bool.not_eq_true', decide_eq_false_iff_not, Bool.not_true, Bool.not_false, Bool.false_eq_true, if_true, if_false, reduceIte, seq_rm, seq_rv, turn_rm, turn_rv, turn_ex, ev_retV, ev_vL, kVL_ev, frzV_l, ev_setV, kSetV_l, kSetV_o, oPut_ev, oPutO_o, oPutO_me, oOwn_o, oOwn_me, fOwn_ev, gCallV_ev, ev_AV, ev_fnV, finV_rv, ev_clr, kClr_l, ev_vlend, kVLend_l, sv_d, sv_l, sv_o, tpD_d, tpD_l, tpD_n, i0, i1, i2, eb, c2, c3, pw6, pw11, pq11, pow18, ← ha, ← hb, ed, hg]
      | false =>
        obtain ⟨ha, hb⟩ := h4 c2 (fun h => nomatch h.2)
        subst hb
        simp +decide only [m_law_fraction_v3, den_law_fraction_v3, ev_seq, seq_nx, seq_rt, seq_ex, seq_bk, seq_ct, seq_ite, fl_okM, fl_ex, fl_ite, ev_set, kSet_ev, ev_ret, ev_nx, ev_raise, ev_if, kIf_ev, ev_par, kPar_ev, kId_ev, ev_asg, kAsg_ev, ev_forM, kFor_ev, ev_V, dVg_ok, ev_C, ev_1, ev_2, bind2_ok, bind2_ite1, bind2_ite2, bind_ite, ev_A, ev_nil, ev_cons, kCons_ev, ev_T, toB_ev, ev_and, ev_or, ev_not, kAnd_ev, kOr_ev, kNot_ev, ev_andV, ev_notV, kAndV_ev, kNotV_ev, tup_ev, lst_ev, call_ev, ev_fn, startE_0, startE_s, startE_c, fin_rt, fin_nx, fin_ex, fin_ite, ix_t0, ix_t1, ix_t2, ix_t3, ix_l0, ix_l1, ix_l2, len_l, len_t1, len_t2, len_t3, len_t4, beq_self_eq_true, ev_iL, ev_iT, asL_ev, asT_ev, ev_iAM, ev_P, toI_ev, ev_P0, ev_sl, kSl_ev, put_1, gAdd_i, gSub_i, gMul_i, gDiv_p, gMod_p, gPow_l, gShl_l, gShr_l, gLt_i, gLe_i, gGt_i, gGe_i, gEq_i, gNe_i, gAbs_i, gInt_i, gInt_b, gEq_s, gNe_s, gEq_b, gNe_b, gEq_2, gNe_2, gEq_3, gNe_3, gEq_22, gNe_22, bind_okM, DL.R.bind_ex, ev_setL, kSetL_ev, ev_lDisp, kDisp_ev, ev_lList, lOf_l, lOf_t, ev_frz, frz_l, frz_d, frz_n, ev_lend, lend_l, lend_d, atom_i, atom_b, atom_s, ev_lendB, lendB_l, lendB_d, ev_app, app_l, kApp_ev, ev_put, put_l, ev_ixO, ixO_l, ixO_d, put_m, putAll_c, putAll_n, ev_lc, kLst_ev, ev_lcL, wipe_n, wipe_c, r1_2, r1_3, bits_ev, List.getElem?_cons_zero, List.getElem?_cons_succ, List.set_cons_zero, List.set_cons_succ, List.length_cons, List.length_nil, List.length_map, List.append_nil, List.cons_append, List.nil_append, ev_if, turn_nx, turn_ct, turn_bk, turn_rt, turn_ite, kWh_ev, isi_int_int, isi_bool_int, isi_int_bool, isi_bool_bool, isi_int_str, isi_int_none, isi_int_list, isi_int_tup, isi_bool_str, isi_bool_none, isi_bool_list, isi_bool_tup, isi_tup_tup, isi_tup_int, isi_tup_bool, isi_tup_str, isi_tup_none, isi_tup_list, isi_list_list, isi_list_tup, isi_list_int, isi_list_bool, isi_list_str, isi_list_none, isi_str_str, isi_str_int, isi_str_bool, isi_str_none, isi_str_list, isi_str_tup, decide_true, decide_false, not_true_eq_false, not_false_eq_true, ne_eq, decide_eq_true_eq, Bool.not_eq_true', decide_eq_false_iff_not, Bool.not_true, Bool.not_false, Bool.false_eq_true, if_true, if_false, reduceIte, seq_rm, seq_rv, turn_rm, turn_rv, turn_ex, ev_retV, ev_vL, kVL_ev, frzV_l, ev_setV, kSetV_l, kSetV_o, oPut_ev, oPutO_o, oPutO_me, oOwn_o, oOwn_me, fOwn_ev, gCallV_ev, ev_AV, ev_fnV, finV_rv, ev_clr, kClr_l, ev_vlend, kVLend_l, sv_d, sv_l, sv_o, tpD_d, tpD_l, tpD_n, i0, i1, i2, eb, c2, c3, ← ha, ed, hg]
    · obtain ⟨ha, hb⟩ := h4 c2 (fun h => c3 h.1)
      subst hb
      simp +decide only [m_law_fraction_v3, den_law_fraction_v3, ev_seq, seq_nx, seq_rt, seq_ex, seq_bk, seq_ct, seq_ite, fl_okM, fl_ex, fl_ite, ev_set, kSet_ev, ev_ret, ev_nx, ev_raise, ev_if, kIf_ev, ev_par, kPar_ev, kId_ev, ev_asg, kAsg_ev, ev_forM, kFor_ev, ev_V, dVg_ok, ev_C, ev_1, ev_2, bind2_ok, bind2_ite1, bind2_ite2, bind_ite, ev_A, ev_nil, ev_cons, kCons_ev, ev_T, toB_ev, ev_and, ev_or, ev_not, kAnd_ev, kOr_ev, kNot_ev, ev_andV, ev_notV, kAndV_ev, kNotV_ev, tup_ev, lst_ev, call_ev, ev_fn, startE_0, startE_s, startE_c, fin_rt, fin_nx, fin_ex, fin_ite, ix_t0, ix_t1, ix_t2, ix_t3, ix_l0, ix_l1, ix_l2, len_l, len_t1, len_t2, len_t3, len_t4, beq_self_eq_true, ev_iL, ev_iT, asL_ev, asT_ev, ev_iAM, ev_P, toI_ev, ev_P0, ev_sl, kSl_ev, put_1, gAdd_i, gSub_i, gMul_i, gDiv_p, gMod_p, gPow_l, gShl_l, gShr_l, gLt_i, gLe_i, gGt_i, gGe_i, gEq_i, gNe_i, gAbs_i, gInt_i, gInt_b, gEq_s, gNe_s, gEq_b, gNe_b, gEq_2, gNe_2, gEq_3, gNe_3, gEq_22, gNe_22, bind_okM, DL.R.bind_ex, ev_setL, kSetL_ev, ev_lDisp, kDisp_ev, ev_lList, lOf_l, lOf_t, ev_frz, frz_l, frz_d, frz_n, ev_lend, lend_l, lend_d, atom_i, atom_b, atom_s, ev_lendB, lendB_l, lendB_d, ev_app, app_l, kApp_ev, ev_put, put_l, ev_ixO, ixO_l, ixO_d, put_m, putAll_c, putAll_n, ev_lc, kLst_ev, ev_lcL, wipe_n, wipe_c, r1_2, r1_3, bits_ev, List.getElem?_cons_zero, List.getElem?_cons_succ, List.set_cons_zero, List.set_cons_succ, List.length_cons, List.length_nil, List.length_map, List.append_nil, List.cons_append, List.nil_append, ev_if, turn_nx, turn_ct, turn_bk, turn_rt, turn_ite, kWh_ev, isi_int_int, isi_bool_int, isi_int_bool, isi_bool_bool, isi_int_str, isi_int_none, isi_int_list, isi_int_tup, isi_bool_str, isi_bool_none, isi_bool_list, isi_bool_tup, isi_tup_tup, isi_tup_int, isi_tup_bool, isi_tup_str, isi_tup_none, isi_tup_list, isi_list_list, isi_list_tup, isi_list_int, isi_list_bool, isi_list_str, isi_list_none, isi_str_str, isi_str_int, isi_str_bool, isi_str_none, isi_str_list, isi_str_tup, decide_true, decide_false, not_true_eq_false, not_false_eq_true, ne_eq, decide_eq_true_eq, Bool.not_eq_true', decide_eq_false_iff_not, Bool.not_true, Bool.not_false, Bool.false_eq_true, if_true, if_false, reduceIte, seq_rm, seq_rv, turn_rm, turn_rv, turn_ex, ev_retV, ev_vL, kVL_ev, frzV_l, ev_setV, kSetV_l, kSetV_o, oPut_ev, oPutO_o, oPutO_me, oOwn_o, oOwn_me, fOwn_ev, gCallV_ev, ev_AV, ev_fnV, finV_rv, ev_clr, kClr_l, ev_vlend, kVLend_l, sv_d, sv_l, sv_o, tpD_d, tpD_l, tpD_n, i0, i1, i2, eb, c2, c3, ← ha, ed, hg]
theorem law_fraction3_ok (s : PD) (great : Bool) (z0 z1 z2 : Int) (h0 : Dg z0) (h1 : Dg z1) (h2 : Dg z2) (i0 : gIx s (.int 0) = .ok (.int z0)) (i1 : gIx s (.int 1) = .ok (.int z1)) (i2 : gIx s (.int 2) = .ok (.int z2)) : ∃ x : Rat, m_law_fraction_v3 [s, .bool great] = .ok (frD x) ∧ Fq great x := by
  obtain ⟨bot, eb, hb1, hb2⟩ := bot_ok (z1 % 7) (by omega) (by omega)
  have t100 : (2 : Nat) ^ 100 = 1267650600228229401496703205376 := by decide
  have t41 : (2 : Nat) ^ 41 = 2199023255552 := by decide
  have t10 : (2 : Nat) ^ 10 = 1024 := by decide
  have t6 : (2 : Nat) ^ 6 = 64 := by decide
  have c0 := dg_bd h0; have c1 := dg_bd h1; have c2 := dg_bd h2
  obtain ⟨d0, d0'⟩ := h0; obtain ⟨d1, d1'⟩ := h1; obtain ⟨d2, d2'⟩ := h2
  have key : ∃ a b : Int, 0 < b ∧ (z2 % 4 = 2 → a = z0 % 2001 - 1000 ∧ b = 1 + z1 % 60) ∧ (z2 % 4 = 3 → great = true → a = (z0 * 1000000 + z1 - 500000000000) * 1000000000000000000 + z2 ∧ b = 1 + z1 * 1000000 + z2) ∧ (¬ z2 % 4 = 2 → ¬ (z2 % 4 = 3 ∧ great = true) → a = z0 % 41 - 20 ∧ b = bot) ∧ (if great = true then a.natAbs < 2 ^ 100 ∧ b.natAbs < 2 ^ 41 else a.natAbs < 2 ^ 10 ∧ b.natAbs < 2 ^ 6) := by
    by_cases q2 : z2 % 4 = 2
    · refine ⟨_, _, ?_, fun _ => ⟨rfl, rfl⟩, fun q => absurd q (by omega), fun q => absurd q2 q, ?_⟩
      · omega
      · cases great
        · rw [if_neg (by decide)]; constructor <;> omega
        · rw [if_pos rfl]; constructor <;> omega
    · by_cases q3 : z2 % 4 = 3 ∧ great = true
      · refine ⟨_, _, ?_, fun q => absurd q q2, fun _ _ => ⟨rfl, rfl⟩, fun _ q => absurd q3 q, ?_⟩
        · omega
        · rw [if_pos q3.2]; constructor <;> omega
      · refine ⟨_, _, ?_, fun q => absurd q q2, fun a b => absurd ⟨a, b⟩ q3, fun _ _ => ⟨rfl, rfl⟩, ?_⟩
        · omega
        · cases great
          · rw [if_neg (by decide)]; constructor <;> omega
          · rw [if_pos rfl]; constructor <;> omega
  obtain ⟨a, b, hb, k2, k3, k4, k5⟩ := key
  obtain ⟨g, e1, e2, e3, e4⟩ := low3 a b hb
  have ed := law_divisor_v2_eq (a.natAbs : Int) b (by omega) (by omega)
  rw [e1] at ed
  have ba : Bd a 100 := ⟨by
    cases great
    · rw [if_neg (by decide)] at k5; omega
    · rw [if_pos rfl] at k5; omega⟩
  have bb : Bd b 41 := ⟨by
    cases great
    · rw [if_neg (by decide)] at k5; omega
    · rw [if_pos rfl] at k5; omega⟩
  have bg : Bd g 41 := ⟨by have := bb.h; omega⟩
  have F := fraction3_fin s great z0 z1 z2 a b g bot i0 i1 i2 eb k2 k3 k4 ed e2
  rw [e4] at F
  refine ⟨_, F, a, b, hb, rfl, ?_⟩
  cases great
  · rw [if_neg (by decide)] at k5 ⊢; exact ⟨⟨k5.1⟩, ⟨k5.2⟩⟩
  · rw [if_pos rfl] at k5 ⊢; exact ⟨⟨k5.1⟩, ⟨k5.2⟩⟩
end DL

set_option Elab.async false
set_option linter.all false
set_option maxRecDepth 100000
set_option maxHeartbeats 2000000
set_option autoImplicit false
namespace DL
open PySem L2 MB
theorem posI {d a b : Int} : PosQ d (a : Rat) (b : Rat) ↔ (d * b * b < a * a ∧ 0 < a) ∨ (a * a < d * b * b ∧ 0 < b) := by
  unfold PosQ
  constructor
  · rintro (⟨h1, h2⟩ | ⟨h1, h2⟩)
    · exact .inl ⟨by exact_mod_cast h1, by exact_mod_cast h2⟩
    · exact .inr ⟨by exact_mod_cast h1, by exact_mod_cast h2⟩
  · rintro (⟨h1, h2⟩ | ⟨h1, h2⟩)
    · exact .inl ⟨by exact_mod_cast h1, by exact_mod_cast h2⟩
    · exact .inr ⟨by exact_mod_cast h1, by exact_mod_cast h2⟩
theorem above_i (d p q r s : Int) (hd : Root d) [Bd d 7] [Bd p 5000] [Bd q 41] [Bd r 5000] [Bd s 41] : ∃ b : Bool, m_law_above [.int d, .tuple [.int p, .int q], .tuple [.int r, .int s]] = .ok (.bool b) ∧ (b = true ↔ PosQ d ((p * s : Int) : Rat) ((r * q : Int) : Rat)) := by
  have ne : ∀ a b : Int, b ≠ 0 → a * a ≠ d * b * b := fun a b h e => h (irr hd e)
  have sq : ∀ a : Int, a ≠ 0 → 0 < a * a := fun a h => by
    rcases Int.lt_or_lt_of_ne h with h | h
    · have := Int.mul_pos_of_neg_of_neg h h; omega
    · exact Int.mul_pos h h
  have hd0 := hd.pos
  have dq : ∀ b : Int, b ≠ 0 → 0 < d * b * b := fun b h => by
    have := Int.mul_pos hd0 (sq b h)
    rw [Int.mul_assoc]; exact this
  have e1 : m_law_above [.int d, .tuple [.int p, .int q], .tuple [.int r, .int s]] = .ok (.bool (if 0 ≤ p * s ∧ 0 ≤ r * q then decide (0 < p * s + r * q) else if p * s ≤ 0 ∧ r * q ≤ 0 then false else (decide (0 < p * s) == decide (d * (r * q) * (r * q) < p * s * (p * s))))) := by
    by_cases c1 : 0 ≤ p * s ∧ 0 ≤ r * q
    · rw [if_pos c1]
      simp +decide only [m_law_above, den_law_above, ev_seq, seq_nx, seq_rt, seq_ex, seq_bk, seq_ct, seq_ite, fl_okM, fl_ex, fl_ite, ev_set, kSet_ev, ev_ret, ev_nx, ev_raise, ev_if, kIf_ev, ev_par, kPar_ev, kId_ev, ev_asg, kAsg_ev, ev_forM, kFor_ev, ev_V, dVg_ok, ev_C, ev_1, ev_2, bind2_ok, bind2_ite1, bind2_ite2, bind_ite, ev_A, ev_nil, ev_cons, kCons_ev, ev_T, toB_ev, ev_and, ev_or, ev_not, kAnd_ev, kOr_ev, kNot_ev, ev_andV, ev_notV, kAndV_ev, kNotV_ev, tup_ev, lst_ev, call_ev, ev_fn, startE_0, startE_s, startE_c, fin_rt, fin_nx, fin_ex, fin_ite, ix_t0, ix_t1, ix_t2, ix_t3, ix_l0, ix_l1, ix_l2, len_l, len_t1, len_t2, len_t3, len_t4, beq_self_eq_true, ev_iL, ev_iT, asL_ev, asT_ev, ev_iAM, ev_P, toI_ev, ev_P0, ev_sl, kSl_ev, put_1, gAdd_i, gSub_i, gMul_i, gDiv_p, gMod_p, gPow_l, gShl_l, gShr_l, gLt_i, gLe_i, gGt_i, gGe_i, gEq_i, gNe_i, gAbs_i, gInt_i, gInt_b, gEq_s, gNe_s, gEq_b, gNe_b, gEq_2, gNe_2, gEq_3, gNe_3, gEq_22, gNe_22, bind_okM, DL.R.bind_ex, ev_setL, kSetL_ev, ev_lDisp, kDisp_ev, ev_lList, lOf_l, lOf_t, ev_frz, frz_l, frz_d, frz_n, ev_lend, lend_l, lend_d, atom_i, atom_b, atom_s, ev_lendB, lendB_l, lendB_d, ev_app, app_l, kApp_ev, ev_put, put_l, ev_ixO, ixO_l, ixO_d, put_m, putAll_c, putAll_n, ev_lc, kLst_ev, ev_lcL, wipe_n, wipe_c, r1_2, r1_3, bits_ev, List.getElem?_cons_zero, List.getElem?_cons_succ, List.set_cons_zero, List.set_cons_succ, List.length_cons, List.length_nil, List.length_map, List.append_nil, List.cons_append, List.nil_append, ev_if, turn_nx, turn_ct, turn_bk, turn_rt, turn_ite, kWh_ev, isi_int_int, isi_bool_int, isi_int_bool, isi_bool_bool, isi_int_str, isi_int_none, isi_int_list, isi_int_tup, isi_bool_str, isi_bool_none, isi_bool_list, isi_bool_tup, isi_tup_tup, isi_tup_int, isi_tup_bool, isi_tup_str, isi_tup_none, isi_tup_list, isi_list_list, isi_list_tup, isi_list_int, isi_list_bool, isi_list_str, isi_list_none, isi_str_str, isi_str_int, isi_str_bool, isi_str_none, isi_str_list, isi_str_tup, decide_true, decide_false, not_true_eq_false, not_false_eq_true, ne_eq, decide_eq_true_eq, Bool.not_eq_true', decide_eq_false_iff_not, Bool.not_true, Bool.not_false, Bool.false_eq_true, if_true, if_false, reduceIte, seq_rm, seq_rv, turn_rm, turn_rv, turn_ex, ev_retV, ev_vL, kVL_ev, frzV_l, ev_setV, kSetV_l, kSetV_o, oPut_ev, oPutO_o, oPutO_me, oOwn_o, oOwn_me, fOwn_ev, gCallV_ev, ev_AV, ev_fnV, finV_rv, ev_clr, kClr_l, ev_vlend, kVLend_l, sv_d, sv_l, sv_o, tpD_d, tpD_l, tpD_n, c1.1, c1.2]
    by_cases c2 : p * s ≤ 0 ∧ r * q ≤ 0
    · rw [if_neg c1, if_pos c2]
      by_cases c3 : 0 ≤ p * s
      · have c4 : ¬ 0 ≤ r * q := fun z => c1 ⟨c3, z⟩
        simp +decide only [m_law_above, den_law_above, ev_seq, seq_nx, seq_rt, seq_ex, seq_bk, seq_ct, seq_ite, fl_okM, fl_ex, fl_ite, ev_set, kSet_ev, ev_ret, ev_nx, ev_raise, ev_if, kIf_ev, ev_par, kPar_ev, kId_ev, ev_asg, kAsg_ev, ev_forM, kFor_ev, ev_V, dVg_ok, ev_C, ev_1, ev_2, bind2_ok, bind2_ite1, bind2_ite2, bind_ite, ev_A, ev_nil, ev_cons, kCons_ev, ev_T, toB_ev, ev_and, ev_or, ev_not, kAnd_ev, kOr_ev, kNot_ev, ev_andV, ev_notV, kAndV_ev, kNotV_ev, tup_ev, lst_ev, call_ev, ev_fn, startE_0, startE_s, startE_c, fin_rt, fin_nx, fin_ex, fin_ite, ix_t0, ix_t1, ix_t2, ix_t3, ix_l0, ix_l1, ix_l2, len_l, len_t1, len_t2, len_t3, len_t4, beq_self_eq_true, ev_iL, ev_iT, asL_ev, asT_ev, ev_iAM, ev_P, toI_ev, ev_P0, ev_sl, kSl_ev, put_1, gAdd_i, gSub_i, gMul_i, gDiv_p, gMod_p, gPow_l, gShl_l, gShr_l, gLt_i, gLe_i, gGt_i, gGe_i, gEq_i, gNe_i, gAbs_i, gInt_i, gInt_b, gEq_s, gNe_s, gEq_b, gNe_b, gEq_2, gNe_2, gEq_3, gNe_3, gEq_22, gNe_22, bind_okM, DL.R.bind_ex, ev_setL, kSetL_ev, ev_lDisp, kDisp_ev, ev_lList, lOf_l, lOf_t, ev_frz, frz_l, frz_d, frz_n, ev_lend, lend_l, lend_d, atom_i, atom_b, atom_s, ev_lendB, lendB_l, lendB_d, ev_app, app_l, kApp_ev, ev_put, put_l, ev_ixO, ixO_l, ixO_d, put_m, putAll_c, putAll_n, ev_lc, kLst_ev, ev_lcL, wipe_n, wipe_c, r1_2, r1_3, bits_ev, List.getElem?_cons_zero, List.getElem?_cons_succ, List.set_cons_zero, List.set_cons_succ, List.length_cons, List.length_nil, List.length_map, List.append_nil, List.cons_append, List.nil_append, ev_if, turn_nx, turn_ct, turn_bk, turn_rt, turn_ite, kWh_ev, isi_int_int, isi_bool_int, isi_int_bool, isi_bool_bool, isi_int_str, isi_int_none, isi_int_list, isi_int_tup, isi_bool_str, isi_bool_none, isi_bool_list, isi_bool_tup, isi_tup_tup, isi_tup_int, isi_tup_bool, isi_tup_str, isi_tup_none, isi_tup_list, isi_list_list, isi_list_tup, isi_list_int, isi_list_bool, isi_list_str, isi_list_none, isi_str_str, isi_str_int, isi_str_bool, isi_str_none, isi_str_list, isi_str_tup, decide_true, decide_false, not_true_eq_false, not_false_eq_true, ne_eq, decide_eq_true_eq, Bool.not_eq_true', decide_eq_false_iff_not, Bool.not_true, Bool.not_false, Bool.false_eq_true, if_true, if_false, reduceIte, seq_rm, seq_rv, turn_rm, turn_rv, turn_ex, ev_retV, ev_vL, kVL_ev, frzV_l, ev_setV, kSetV_l, kSetV_o, oPut_ev, oPutO_o, oPutO_me, oOwn_o, oOwn_me, fOwn_ev, gCallV_ev, ev_AV, ev_fnV, finV_rv, ev_clr, kClr_l, ev_vlend, kVLend_l, sv_d, sv_l, sv_o, tpD_d, tpD_l, tpD_n, c2.1, c2.2, c3, c4]
      · simp +decide only [m_law_above, den_law_above, ev_seq, seq_nx, seq_rt, seq_ex, seq_bk, seq_ct, seq_ite, fl_okM, fl_ex, fl_ite, ev_set, kSet_ev, ev_ret, ev_nx, ev_raise, ev_if, kIf_ev, ev_par, kPar_ev, kId_ev, ev_asg, kAsg_ev, ev_forM, kFor_ev, ev_V, dVg_ok, ev_C, ev_1, ev_2, bind2_ok, bind2_ite1, bind2_ite2, bind_ite, ev_A, ev_nil, ev_cons, kCons_ev, ev_T, toB_ev, ev_and, ev_or, ev_not, kAnd_ev, kOr_ev, kNot_ev, ev_andV, ev_notV, kAndV_ev, kNotV_ev, tup_ev, lst_ev, call_ev, ev_fn, startE_0, startE_s, startE_c, fin_rt, fin_nx, fin_ex, fin_ite, ix_t0, ix_t1, ix_t2, ix_t3, ix_l0, ix_l1, ix_l2, len_l, len_t1, len_t2, len_t3, len_t4, beq_self_eq_true, ev_iL, ev_iT, asL_ev, asT_ev, ev_iAM, ev_P, toI_ev, ev_P0, ev_sl, kSl_ev, put_1, gAdd_i, gSub_i, gMul_i, gDiv_p, gMod_p, gPow_l, gShl_l, gShr_l, gLt_i, gLe_i, gGt_i, gGe_i, gEq_i, gNe_i, gAbs_i, gInt_i, gInt_b, gEq_s, gNe_s, gEq_b, gNe_b, gEq_2, gNe_2, gEq_3, gNe_3, gEq_22, gNe_22, bind_okM, DL.R.bind_ex, ev_setL, kSetL_ev, ev_lDisp, kDisp_ev, ev_lList, lOf_l, lOf_t, ev_frz, frz_l, frz_d, frz_n, ev_lend, lend_l, lend_d, atom_i, atom_b, atom_s, ev_lendB, lendB_l, lendB_d, ev_app, app_l, kApp_ev, ev_put, put_l, ev_ixO, ixO_l, ixO_d, put_m, putAll_c, putAll_n, ev_lc, kLst_ev, ev_lcL, wipe_n, wipe_c, r1_2, r1_3, bits_ev, List.getElem?_cons_zero, List.getElem?_cons_succ, List.set_cons_zero, List.set_cons_succ, List.length_cons, List.length_nil, List.length_map, List.append_nil, List.cons_append, List.nil_append, ev_if, turn_nx, turn_ct, turn_bk, turn_rt, turn_ite, kWh_ev, isi_int_int, isi_bool_int, isi_int_bool, isi_bool_bool, isi_int_str, isi_int_none, isi_int_list, isi_int_tup, isi_bool_str, isi_bool_none, isi_bool_list, isi_bool_tup, isi_tup_tup, isi_tup_int, isi_tup_bool, isi_tup_str, isi_tup_none, isi_tup_list, isi_list_list, isi_list_tup, isi_list_int, isi_list_bool, isi_list_str, isi_list_none, isi_str_str, isi_str_int, isi_str_bool, isi_str_none, isi_str_list, isi_str_tup, decide_true, decide_false, not_true_eq_false, not_false_eq_true, ne_eq, decide_eq_true_eq, Bool.not_eq_true', decide_eq_false_iff_not, Bool.not_true, Bool.not_false, Bool.false_eq_true, if_true, if_false, reduceIte, seq_rm, seq_rv, turn_rm, turn_rv, turn_ex, ev_retV, ev_vL, kVL_ev, frzV_l, ev_setV, kSetV_l, kSetV_o, oPut_ev, oPutO_o, oPutO_me, oOwn_o, oOwn_me, fOwn_ev, gCallV_ev, ev_AV, ev_fnV, finV_rv, ev_clr, kClr_l, ev_vlend, kVLend_l, sv_d, sv_l, sv_o, tpD_d, tpD_l, tpD_n, c2.1, c2.2, c3]
    · rw [if_neg c1, if_neg c2]
      by_cases c3 : 0 ≤ p * s
      · have c4 : ¬ 0 ≤ r * q := fun z => c1 ⟨c3, z⟩
        have c5 : ¬ p * s ≤ 0 := fun z => c2 ⟨z, by omega⟩
        simp +decide only [m_law_above, den_law_above, ev_seq, seq_nx, seq_rt, seq_ex, seq_bk, seq_ct, seq_ite, fl_okM, fl_ex, fl_ite, ev_set, kSet_ev, ev_ret, ev_nx, ev_raise, ev_if, kIf_ev, ev_par, kPar_ev, kId_ev, ev_asg, kAsg_ev, ev_forM, kFor_ev, ev_V, dVg_ok, ev_C, ev_1, ev_2, bind2_ok, bind2_ite1, bind2_ite2, bind_ite, ev_A, ev_nil, ev_cons, kCons_ev, ev_T, toB_ev, ev_and, ev_or, ev_not, kAnd_ev, kOr_ev, kNot_ev, ev_andV, ev_notV, kAndV_ev, kNotV_ev, tup_ev, lst_ev, call_ev, ev_fn, startE_0, startE_s, startE_c, fin_rt, fin_nx, fin_ex, fin_ite, ix_t0, ix_t1, ix_t2, ix_t3, ix_l0, ix_l1, ix_l2, len_l, len_t1, len_t2, len_t3, len_t4, beq_self_eq_true, ev_iL, ev_iT, asL_ev, asT_ev, ev_iAM, ev_P, toI_ev, ev_P0, ev_sl, kSl_ev, put_1, gAdd_i, gSub_i, gMul_i, gDiv_p, gMod_p, gPow_l, gShl_l, gShr_l, gLt_i, gLe_i, gGt_i, gGe_i, gEq_i, gNe_i, gAbs_i, gInt_i, gInt_b, gEq_s, gNe_s, gEq_b, gNe_b, gEq_2, gNe_2, gEq_3, gNe_3, gEq_22, gNe_22, bind_okM, DL.R.bind_ex, ev_setL, kSetL_ev, ev_lDisp, kDisp_ev, ev_lList, lOf_l, lOf_t, ev_frz, frz_l, frz_d, frz_n, ev_lend, lend_l, lend_d, atom_i, atom_b, atom_s, ev_lendB, lendB_l, lendB_d, ev_app, app_l, kApp_ev, ev_put, put_l, ev_ixO, ixO_l, ixO_d, put_m, putAll_c, putAll_n, ev_lc, kLst_ev, ev_lcL, wipe_n, wipe_c, r1_2, r1_3, bits_ev, List.getElem?_cons_zero, List.getElem?_cons_succ, List.set_cons_zero, List.set_cons_succ, List.length_cons, List.length_nil, List.length_map, List.append_nil, List.cons_append, List.nil_append, ev_if, turn_nx, turn_ct, turn_bk, turn_rt, turn_ite, kWh_ev, isi_int_int, isi_bool_int, isi_int_bool, isi_bool_bool, isi_int_str, isi_int_none, isi_int_list, isi_int_tup, isi_bool_str, isi_bool_none, isi_bool_list, isi_bool_tup, isi_tup_tup, isi_tup_int, isi_tup_bool, isi_tup_str, isi_tup_none, isi_tup_list, isi_list_list, isi_list_tup, isi_list_int, isi_list_bool, isi_list_str, isi_list_none, isi_str_str, isi_str_int, isi_str_bool, isi_str_none, isi_str_list, isi_str_tup, decide_true, decide_false, not_true_eq_false, not_false_eq_true, ne_eq, decide_eq_true_eq, Bool.not_eq_true', decide_eq_false_iff_not, Bool.not_true, Bool.not_false, Bool.false_eq_true, if_true, if_false, reduceIte, seq_rm, seq_rv, turn_rm, turn_rv, turn_ex, ev_retV, ev_vL, kVL_ev, frzV_l, ev_setV, kSetV_l, kSetV_o, oPut_ev, oPutO_o, oPutO_me, oOwn_o, oOwn_me, fOwn_ev, gCallV_ev, ev_AV, ev_fnV, finV_rv, ev_clr, kClr_l, ev_vlend, kVLend_l, sv_d, sv_l, sv_o, tpD_d, tpD_l, tpD_n, c3, c4, c5]
      · have c5 : p * s ≤ 0 := by omega
        have c6 : ¬ r * q ≤ 0 := fun z => c2 ⟨c5, z⟩
        simp +decide only [m_law_above, den_law_above, ev_seq, seq_nx, seq_rt, seq_ex, seq_bk, seq_ct, seq_ite, fl_okM, fl_ex, fl_ite, ev_set, kSet_ev, ev_ret, ev_nx, ev_raise, ev_if, kIf_ev, ev_par, kPar_ev, kId_ev, ev_asg, kAsg_ev, ev_forM, kFor_ev, ev_V, dVg_ok, ev_C, ev_1, ev_2, bind2_ok, bind2_ite1, bind2_ite2, bind_ite, ev_A, ev_nil, ev_cons, kCons_ev, ev_T, toB_ev, ev_and, ev_or, ev_not, kAnd_ev, kOr_ev, kNot_ev, ev_andV, ev_notV, kAndV_ev, kNotV_ev, tup_ev, lst_ev, call_ev, ev_fn, startE_0, startE_s, startE_c, fin_rt, fin_nx, fin_ex, fin_ite, ix_t0, ix_t1, ix_t2, ix_t3, ix_l0, ix_l1, ix_l2, len_l, len_t1, len_t2, len_t3, len_t4, beq_self_eq_true, ev_iL, ev_iT, asL_ev, asT_ev, ev_iAM, ev_P, toI_ev, ev_P0, ev_sl, kSl_ev, put_1, gAdd_i, gSub_i, gMul_i, gDiv_p, gMod_p, gPow_l, gShl_l, gShr_l, gLt_i, gLe_i, gGt_i, gGe_i, gEq_i, gNe_i, gAbs_i, gInt_i, gInt_b, gEq_s, gNe_s, gEq_b, gNe_b, gEq_2, gNe_2, gEq_3, gNe_3, gEq_22, gNe_22, bind_okM, DL.R.bind_ex, ev_setL, kSetL_ev, ev_lDisp, kDisp_ev, ev_lList, lOf_l, lOf_t, ev_frz, frz_l, frz_d, frz_n, ev_lend, lend_l, lend_d, atom_i, atom_b, atom_s, ev_lendB, lendB_l, lendB_d, ev_app, app_l, kApp_ev, ev_put, put_l, ev_ixO, ixO_l, ixO_d, put_m, putAll_c, putAll_n, ev_lc, kLst_ev, ev_lcL, wipe_n, wipe_c, r1_2, r1_3, bits_ev, List.getElem?_cons_zero, List.getElem?_cons_succ, List.set_cons_zero, List.set_cons_succ, List.length_cons, List.length_nil, List.length_map, List.append_nil, List.cons_append, List.nil_append, ev_if, turn_nx, turn_ct, turn_bk, turn_rt, turn_ite, kWh_ev, isi_int_int, isi_bool_int, isi_int_bool, isi_bool_bool, isi_int_str, isi_int_none, isi_int_list, isi_int_tup, isi_bool_str, isi_bool_none, isi_bool_list, isi_bool_tup, isi_tup_tup, isi_tup_int, isi_tup_bool, isi_tup_str, isi_tup_none, isi_tup_list, isi_list_list, isi_list_tup, isi_list_int, isi_list_bool, isi_list_str, isi_list_none, isi_str_str, isi_str_int, isi_str_bool, isi_str_none, isi_str_list, isi_str_tup, decide_true, decide_false, not_true_eq_false, not_false_eq_true, ne_eq, decide_eq_true_eq, Bool.not_eq_true', decide_eq_false_iff_not, Bool.not_true, Bool.not_false, Bool.false_eq_true, if_true, if_false, reduceIte, seq_rm, seq_rv, turn_rm, turn_rv, turn_ex, ev_retV, ev_vL, kVL_ev, frzV_l, ev_setV, kSetV_l, kSetV_o, oPut_ev, oPutO_o, oPutO_me, oOwn_o, oOwn_me, fOwn_ev, gCallV_ev, ev_AV, ev_fnV, finV_rv, ev_clr, kClr_l, ev_vlend, kVLend_l, sv_d, sv_l, sv_o, tpD_d, tpD_l, tpD_n, c3, c5, c6]
  refine ⟨_, e1, ?_⟩
  rw [posI]
  generalize p * s = a at *
  generalize r * q = b at *
  by_cases c1 : 0 ≤ a ∧ 0 ≤ b
  · rw [if_pos c1, decide_eq_true_iff]
    by_cases hb : b = 0
    · subst hb
      have z : d * 0 * 0 = 0 := by rw [Int.mul_zero]
      rw [z]
      constructor
      · intro h
        exact .inl ⟨sq a (by omega), by omega⟩
      · rintro (⟨_, h⟩ | ⟨_, h⟩) <;> omega
    · have := ne a b hb
      constructor
      · intro _
        rcases Int.lt_or_lt_of_ne this with h | h
        · exact .inr ⟨h, by omega⟩
        · refine .inl ⟨h, ?_⟩
          have := dq b hb
          rcases Int.lt_or_le 0 a with h0 | h0
          · exact h0
          · have : a = 0 := by omega
            subst this
            omega
      · intro _; omega
  · rw [if_neg c1]
    by_cases c2 : a ≤ 0 ∧ b ≤ 0
    · rw [if_pos c2]
      constructor
      · intro h; cases h
      · rintro (⟨_, h⟩ | ⟨_, h⟩) <;> omega
    · rw [if_neg c2]
      have hb : b ≠ 0 := by omega
      have := ne a b hb
      by_cases h0 : 0 < a
      · rw [decide_eq_true h0]
        have : (true == decide (d * b * b < a * a)) = decide (d * b * b < a * a) := by cases decide (d * b * b < a * a) <;> rfl
        rw [this, decide_eq_true_iff]
        constructor
        · exact fun h => .inl ⟨h, h0⟩
        · rintro (⟨h, _⟩ | ⟨_, h⟩)
          · exact h
          · omega
      · rw [decide_eq_false h0]
        have : (false == decide (d * b * b < a * a)) = !decide (d * b * b < a * a) := by cases decide (d * b * b < a * a) <;> rfl
        rw [this]
        constructor
        · intro h
          have h2 : ¬ d * b * b < a * a := by simpa using h
          exact .inr ⟨by omega, by omega⟩
        · rintro (⟨_, h⟩ | ⟨h, _⟩)
          · omega
          · have : ¬ d * b * b < a * a := by omega
            simp [this]
theorem num_mul (x : Rat) : (x.num : Rat) = x * (x.den : Rat) := MB.rnum x
theorem above_q (d : Int) (x y : Rat) (hd : Root d) [Bd d 7] [Bd x.num 100] [Bd (x.den : Int) 41] [Bd y.num 100] [Bd (y.den : Int) 41] : ∃ b : Bool, m_law_above [.int d, frD x, frD y] = .ok (.bool b) ∧ (b = true ↔ PosQ d x y) := by
  have px : Bd x.num 5000 := Bd.mono (inferInstance : Bd x.num 100) (by decide)
  have py : Bd y.num 5000 := Bd.mono (inferInstance : Bd y.num 100) (by decide)
  obtain ⟨b, e, h⟩ := @above_i d x.num x.den y.num y.den hd _ px _ py _
  refine ⟨b, e, h.trans ?_⟩
  have k : (0 : Rat) < (x.den : Rat) * (y.den : Rat) := Rat.mul_pos (Rat.natCast_pos.mpr x.den_pos) (Rat.natCast_pos.mpr y.den_pos)
  rw [← posQ_scale (x := x) (y := y) hd k]
  have e1 : ((x.num * y.den : Int) : Rat) = x * ((x.den : Rat) * (y.den : Rat)) := by
    rw [Rat.intCast_mul, num_mul x]
    have c : ((y.den : Int) : Rat) = (y.den : Rat) := rfl
    rw [c]
    grind
  have e2 : ((y.num * x.den : Int) : Rat) = y * ((x.den : Rat) * (y.den : Rat)) := by
    rw [Rat.intCast_mul, num_mul y]
    have c : ((x.den : Int) : Rat) = (x.den : Rat) := rfl
    rw [c]
    grind
  rw [e1, e2]
theorem Fq.bd {great : Bool} {x : Rat} (h : Fq great x) : Bd x.num 100 ∧ Bd (x.den : Int) 41 := by
  obtain ⟨a, b, hb, rfl, h⟩ := h
  have ba : Bd a 100 ∧ Bd b 41 := by
    cases great
    · rw [if_neg (by decide)] at h; exact ⟨h.1.mono (by decide), h.2.mono (by decide)⟩
    · rw [if_pos rfl] at h; exact h
  have k := br_frac (by omega : b ≠ 0) ba.1 ba.2
  exact ⟨inferInstance, inferInstance⟩
theorem Fq.br {x : Rat} (h : Fq false x) : BR x 10 6 := by
  obtain ⟨a, b, hb, rfl, h⟩ := h
  rw [if_neg (by decide)] at h
  exact br_frac (by omega) h.1 h.2
theorem Fq.zero {great : Bool} : Fq great 0 := ⟨0, 1, by decide, by grind, by cases great <;> exact ⟨⟨by decide⟩, ⟨by decide⟩⟩⟩
theorem Fq.one {great : Bool} : Fq great 1 := ⟨1, 1, by decide, by
  have : ((1 : Int) : Rat) = 1 := rfl
  rw [this]; grind, by cases great <;> exact ⟨⟨by decide⟩, ⟨by decide⟩⟩⟩
theorem Fq.neg {great : Bool} {x : Rat} (h : Fq great x) : Fq great (-x) := by
  obtain ⟨a, b, hb, rfl, h⟩ := h
  refine ⟨-a, b, hb, by rw [Rat.intCast_neg]; grind, ?_⟩
  cases great
  · rw [if_neg (by decide)] at h ⊢
    have := h.1
    exact ⟨bd_neg, h.2⟩
  · rw [if_pos rfl] at h ⊢
    have := h.1
    exact ⟨bd_neg, h.2⟩
theorem fr_0 : (PyData.tuple [.int 0, .int 1] : PD) = frD 0 := rfl
theorem fr_1 : (PyData.tuple [.int 1, .int 1] : PD) = frD 1 := rfl
theorem fr_neg (x : Rat) : (PyData.tuple [.int (0 - x.num), .int (x.den : Int)] : PD) = frD (-x) := by
  unfold frD
  rw [Rat.neg_num, Rat.neg_den, Int.zero_sub]
/-- a drawn side -/
structure SdF (d : Int) (great : Bool) (x y : Rat) : Prop where
  fx : Fq great x
  fy : Fq great y
  pq : PosQ d x y
noncomputable def side5R : En → Fl := sSeq (sIf (dAnd (dT (d2 gEq (d2 gIx (dV 3) (dC (.int 0))) (dC (.int 0)))) (dT (d2 gEq (d2 gIx (dV 4) (dC (.int 0))) (dC (.int 0))))) (sRet (dA gTupD (dCons (dA gTupD (dCons (dC (.int 1)) (dCons (dC (.int 1)) (dNil)))) (dCons (dA gTupD (dCons (dC (.int 0)) (dCons (dC (.int 1)) (dNil)))) (dNil))))) (sNx)) (sSeq (sIf (dNot (dT (dA (gCall 3 [] m_law_above) (dCons (dV 0) (dCons (dV 3) (dCons (dV 4) (dNil))))))) (sRet (dA gTupD (dCons (dA gTupD (dCons (d2 gSub (dC (.int 0)) (d2 gIx (dV 3) (dC (.int 0)))) (dCons (d2 gIx (dV 3) (dC (.int 1))) (dNil)))) (dCons (dA gTupD (dCons (d2 gSub (dC (.int 0)) (d2 gIx (dV 4) (dC (.int 0)))) (dCons (d2 gIx (dV 4) (dC (.int 1))) (dNil)))) (dNil))))) (sNx)) (sRet (dA gTupD (dCons (dV 3) (dCons (dV 4) (dNil))))))
theorem side5_den : den_law_side_v5 = sSeq (sSet 3 (dA (gCall 2 [] m_law_fraction_v3) (dCons (dSl (dV 1) (dP0) (dP (dC (.int 3)))) (dCons (dV 2) (dNil))))) (sSeq (sSet 4 (dA (gCall 2 [] m_law_fraction_v3) (dCons (dSl (dV 1) (dP (dC (.int 3))) (dP (dC (.int 6)))) (dCons (dV 2) (dNil))))) (sSeq (sIf (dT (d2 gEq (d2 gMod (d2 gIx (dV 1) (dC (.int 6))) (dC (.int 4))) (dC (.int 0)))) (sSet 4 (dA gTupD (dCons (dC (.int 0)) (dCons (dC (.int 1)) (dNil))))) (sNx)) (sSeq (sIf (dT (d2 gEq (d2 gMod (d2 gIx (dV 1) (dC (.int 6))) (dC (.int 4))) (dC (.int 1)))) (sSet 3 (dA gTupD (dCons (dC (.int 0)) (dCons (dC (.int 1)) (dNil))))) (sNx)) side5R))) := rfl
theorem side5_rest (d : Int) (s : PD) (great : Bool) (b : Bool) [Bd d 7] (u v : Rat) [Bd u.num 100] [Bd (u.den : Int) 41] [Bd v.num 100] [Bd (v.den : Int) 41] (ha : m_law_above [.int d, frD u, frD v] = .ok (.bool b)) : side5R [some (.d (.int d)), some (.d s), some (.d (.bool great)), some (.d (frD u)), some (.d (frD v))] = .rt (if u.num = 0 ∧ v.num = 0 then .tuple [frD 1, frD 0] else if b = true then .tuple [frD u, frD v] else .tuple [frD (-u), frD (-v)]) := by
  have n1 := fr_neg u
  have n2 := fr_neg v
  by_cases hz : u.num = 0 ∧ v.num = 0
  · rw [if_pos hz, ← fr_1, ← fr_0]
    simp +decide only [side5R, ev_seq, seq_nx, seq_rt, seq_ex, seq_bk, seq_ct, seq_ite, fl_okM, fl_ex, fl_ite, ev_set, kSet_ev, ev_ret, ev_nx, ev_raise, ev_if, kIf_ev, ev_par, kPar_ev, kId_ev, ev_asg, kAsg_ev, ev_forM, kFor_ev, ev_V, dVg_ok, ev_C, ev_1, ev_2, bind2_ok, bind2_ite1, bind2_ite2, bind_ite, ev_A, ev_nil, ev_cons, kCons_ev, ev_T, toB_ev, ev_and, ev_or, ev_not, kAnd_ev, kOr_ev, kNot_ev, ev_andV, ev_notV, kAndV_ev, kNotV_ev, tup_ev, lst_ev, call_ev, ev_fn, startE_0, startE_s, startE_c, fin_rt, fin_nx, fin_ex, fin_ite, ix_t0, ix_t1, ix_t2, ix_t3, ix_l0, ix_l1, ix_l2, len_l, len_t1, len_t2, len_t3, len_t4, beq_self_eq_true, ev_iL, ev_iT, asL_ev, asT_ev, ev_iAM, ev_P, toI_ev, ev_P0, ev_sl, kSl_ev, put_1, gAdd_i, gSub_i, gMul_i, gDiv_p, gMod_p, gPow_l, gShl_l, gShr_l, gLt_i, gLe_i, gGt_i, gGe_i, gEq_i, gNe_i, gAbs_i, gInt_i, gInt_b, gEq_s, gNe_s, gEq_b, gNe_b, gEq_2, gNe_2, gEq_3, gNe_3, gEq_22, gNe_22, bind_okM, DL.R.bind_ex, ev_setL, kSetL_ev, ev_lDisp, kDisp_ev, ev_lList, lOf_l, lOf_t, ev_frz, frz_l, frz_d, frz_n, ev_lend, lend_l, lend_d, atom_i, atom_b, atom_s, ev_lendB, lendB_l, lendB_d, ev_app, app_l, kApp_ev, ev_put, put_l, ev_ixO, ixO_l, ixO_d, put_m, putAll_c, putAll_n, ev_lc, kLst_ev, ev_lcL, wipe_n, wipe_c, r1_2, r1_3, bits_ev, List.getElem?_cons_zero, List.getElem?_cons_succ, List.set_cons_zero, List.set_cons_succ, List.length_cons, List.length_nil, List.length_map, List.append_nil, List.cons_append, List.nil_append, ev_if, turn_nx, turn_ct, turn_bk, turn_rt, turn_ite, kWh_ev, isi_int_int, isi_bool_int, isi_int_bool, isi_bool_bool, isi_int_str, isi_int_none, isi_int_list, isi_int_tup, isi_bool_str, isi_bool_none, isi_bool_list, isi_bool_tup, isi_tup_tup, isi_tup_int, isi_tup_bool, isi_tup_str, isi_tup_none, isi_tup_list, isi_list_list, isi_list_tup, isi_list_int, isi_list_bool, isi_list_str, isi_list_none, isi_str_str, isi_str_int, isi_str_bool, isi_str_none, isi_str_list, isi_str_tup, decide_true, decide_false, not_true_eq_false, not_false_eq_true, ne_eq, decide_eq_true_eq, Bool.not_eq_true', decide_eq_false_iff_not, Bool.not_true, Bool.not_false, Bool.false_eq_true, if_true, if_false, reduceIte, seq_rm, seq_rv, turn_rm, turn_rv, turn_ex, ev_retV, ev_vL, kVL_ev, frzV_l, ev_setV, kSetV_l, kSetV_o, oPut_ev, oPutO_o, oPutO_me, oOwn_o, oOwn_me, fOwn_ev, gCallV_ev, ev_AV, ev_fnV, finV_rv, ev_clr, kClr_l, ev_vlend, kVLend_l, sv_d, sv_l, sv_o, tpD_d, tpD_l, tpD_n, hz.1, hz.2]
  · rw [if_neg hz]
    by_cases h1 : u.num = 0
    · have h2 : ¬ v.num = 0 := fun z => hz ⟨h1, z⟩
      cases b
      · rw [if_neg (by decide), ← n1, ← n2]
        simp +decide only [side5R, ev_seq, seq_nx, seq_rt, seq_ex, seq_bk, seq_ct, seq_ite, fl_okM, fl_ex, fl_ite, ev_set, kSet_ev, ev_ret, ev_nx, ev_raise, ev_if, kIf_ev, ev_par, kPar_ev, kId_ev, ev_asg, kAsg_ev, ev_forM, kFor_ev, ev_V, dVg_ok, ev_C, ev_1, ev_2, bind2_ok, bind2_ite1, bind2_ite2, bind_ite, ev_A, ev_nil, ev_cons, kCons_ev, ev_T, toB_ev, ev_and, ev_or, ev_not, kAnd_ev, kOr_ev, kNot_ev, ev_andV, ev_notV, kAndV_ev, kNotV_ev, tup_ev, lst_ev, call_ev, ev_fn, startE_0, startE_s, startE_c, fin_rt, fin_nx, fin_ex, fin_ite, ix_t0, ix_t1, ix_t2, ix_t3, ix_l0, ix_l1, ix_l2, len_l, len_t1, len_t2, len_t3, len_t4, beq_self_eq_true, ev_iL, ev_iT, asL_ev, asT_ev, ev_iAM, ev_P, toI_ev, ev_P0, ev_sl, kSl_ev, put_1, gAdd_i, gSub_i, gMul_i, gDiv_p, gMod_p, gPow_l, gShl_l, gShr_l, gLt_i, gLe_i, gGt_i, gGe_i, gEq_i, gNe_i, gAbs_i, gInt_i, gInt_b, gEq_s, gNe_s, gEq_b, gNe_b, gEq_2, gNe_2, gEq_3, gNe_3, gEq_22, gNe_22, bind_okM, DL.R.bind_ex, ev_setL, kSetL_ev, ev_lDisp, kDisp_ev, ev_lList, lOf_l, lOf_t, ev_frz, frz_l, frz_d, frz_n, ev_lend, lend_l, lend_d, atom_i, atom_b, atom_s, ev_lendB, lendB_l, lendB_d, ev_app, app_l, kApp_ev, ev_put, put_l, ev_ixO, ixO_l, ixO_d, put_m, putAll_c, putAll_n, ev_lc, kLst_ev, ev_lcL, wipe_n, wipe_c, r1_2, r1_3, bits_ev, List.getElem?_cons_zero, List.getElem?_cons_succ, List.set_cons_zero, List.set_cons_succ, List.length_cons, List.length_nil, List.length_map, List.append_nil, List.cons_append, List.nil_append, ev_if, turn_nx, turn_ct, turn_bk, turn_rt, turn_ite, kWh_ev, isi_int_int, isi_bool_int, isi_int_bool, isi_bool_bool, isi_int_str, isi_int_none, isi_int_list, isi_int_tup, isi_bool_str, isi_bool_none, isi_bool_list, isi_bool_tup, isi_tup_tup, isi_tup_int, isi_tup_bool, isi_tup_str, isi_tup_none, isi_tup_list, isi_list_list, isi_list_tup, isi_list_int, isi_list_bool, isi_list_str, isi_list_none, isi_str_str, isi_str_int, isi_str_bool, isi_str_none, isi_str_list, isi_str_tup, decide_true, decide_false, not_true_eq_false, not_false_eq_true, ne_eq, decide_eq_true_eq, Bool.not_eq_true', decide_eq_false_iff_not, Bool.not_true, Bool.not_false, Bool.false_eq_true, if_true, if_false, reduceIte, seq_rm, seq_rv, turn_rm, turn_rv, turn_ex, ev_retV, ev_vL, kVL_ev, frzV_l, ev_setV, kSetV_l, kSetV_o, oPut_ev, oPutO_o, oPutO_me, oOwn_o, oOwn_me, fOwn_ev, gCallV_ev, ev_AV, ev_fnV, finV_rv, ev_clr, kClr_l, ev_vlend, kVLend_l, sv_d, sv_l, sv_o, tpD_d, tpD_l, tpD_n, h1, h2, ha]
      · rw [if_pos rfl]
        simp +decide only [side5R, ev_seq, seq_nx, seq_rt, seq_ex, seq_bk, seq_ct, seq_ite, fl_okM, fl_ex, fl_ite, ev_set, kSet_ev, ev_ret, ev_nx, ev_raise, ev_if, kIf_ev, ev_par, kPar_ev, kId_ev, ev_asg, kAsg_ev, ev_forM, kFor_ev, ev_V, dVg_ok, ev_C, ev_1, ev_2, bind2_ok, bind2_ite1, bind2_ite2, bind_ite, ev_A, ev_nil, ev_cons, kCons_ev, ev_T, toB_ev, ev_and, ev_or, ev_not, kAnd_ev, kOr_ev, kNot_ev, ev_andV, ev_notV, kAndV_ev, kNotV_ev, tup_ev, lst_ev, call_ev, ev_fn, startE_0, startE_s, startE_c, fin_rt, fin_nx, fin_ex, fin_ite, ix_t0, ix_t1, ix_t2, ix_t3, ix_l0, ix_l1, ix_l2, len_l, len_t1, len_t2, len_t3, len_t4, beq_self_eq_true, ev_iL, ev_iT, asL_ev, asT_ev, ev_iAM, ev_P, toI_ev, ev_P0, ev_sl, kSl_ev, put_1, gAdd_i, gSub_i, gMul_i, gDiv_p, gMod_p, gPow_l, gShl_l, gShr_l, gLt_i, gLe_i, gGt_i, gGe_i, gEq_i, gNe_i, gAbs_i, gInt_i, gInt_b, gEq_s, gNe_s, gEq_b, gNe_b, gEq_2, gNe_2, gEq_3, gNe_3, gEq_22, gNe_22, bind_okM, DL.R.bind_ex, ev_setL, kSetL_ev, ev_lDisp, kDisp_ev, ev_lList, lOf_l, lOf_t, ev_frz, frz_l, frz_d, frz_n, ev_lend, lend_l, lend_d, atom_i, atom_b, atom_s, ev_lendB, lendB_l, lendB_d, ev_app, app_l, kApp_ev, ev_put, put_l, ev_ixO, ixO_l, ixO_d, put_m, putAll_c, putAll_n, ev_lc, kLst_ev, ev_lcL, wipe_n, wipe_c, r1_2, r1_3, bits_ev, List.getElem?_cons_zero, List.getElem?_cons_succ, List.set_cons_zero, List.set_cons_succ, List.length_cons, List.length_nil, List.length_map, List.append_nil, List.cons_append, List.nil_append, ev_if, turn_nx, turn_ct, turn_bk, turn_rt, turn_ite, kWh_ev, isi_int_int, isi_bool_int, isi_int_bool, isi_bool_bool, isi_int_str, isi_int_none, isi_int_list, isi_int_tup, isi_bool_str, isi_bool_none, isi_bool_list, isi_bool_tup, isi_tup_tup, isi_tup_int, isi_tup_bool, isi_tup_str, isi_tup_none, isi_tup_list, isi_list_list, isi_list_tup, isi_list_int, isi_list_bool, isi_list_str, isi_list_none, isi_str_str, isi_str_int, isi_str_bool, isi_str_none, isi_str_list, isi_str_tup, decide_true, decide_false, not_true_eq_false, not_false_eq_true, ne_eq, decide_eq_true_eq, Bool.not_eq_true', decide_eq_false_iff_not, Bool.not_true, Bool.not_false, Bool.false_eq_true, if_true, if_false, reduceIte, seq_rm, seq_rv, turn_rm, turn_rv, turn_ex, ev_retV, ev_vL, kVL_ev, frzV_l, ev_setV, kSetV_l, kSetV_o, oPut_ev, oPutO_o, oPutO_me, oOwn_o, oOwn_me, fOwn_ev, gCallV_ev, ev_AV, ev_fnV, finV_rv, ev_clr, kClr_l, ev_vlend, kVLend_l, sv_d, sv_l, sv_o, tpD_d, tpD_l, tpD_n, h1, h2, ha]
    · cases b
      · rw [if_neg (by decide), ← n1, ← n2]
        simp +decide only [side5R, ev_seq, seq_nx, seq_rt, seq_ex, seq_bk, seq_ct, seq_ite, fl_okM, fl_ex, fl_ite, ev_set, kSet_ev, ev_ret, ev_nx, ev_raise, ev_if, kIf_ev, ev_par, kPar_ev, kId_ev, ev_asg, kAsg_ev, ev_forM, kFor_ev, ev_V, dVg_ok, ev_C, ev_1, ev_2, bind2_ok, bind2_ite1, bind2_ite2, bind_ite, ev_A, ev_nil, ev_cons, kCons_ev, ev_T, toB_ev, ev_and, ev_or, ev_not, kAnd_ev, kOr_ev, kNot_ev, ev_andV, ev_notV, kAndV_ev, kNotV_ev, tup_ev, lst_ev, call_ev, ev_fn, startE_0, startE_s, startE_c, fin_rt, fin_nx, fin_ex, fin_ite, ix_t0, ix_t1, ix_t2, ix_t3, ix_l0, ix_l1, ix_l2, len_l, len_t1, len_t2, len_t3, len_t4, beq_self_eq_true, ev_iL, ev_iT, asL_ev, asT_ev, ev_iAM, ev_P, toI_ev, ev_P0, ev_sl, kSl_ev, put_1, gAdd_i, gSub_i, gMul_i, gDiv_p, gMod_p, gPow_l, gShl_l, gShr_l, gLt_i, gLe_i, gGt_i, gGe_i, gEq_i, gNe_i, gAbs_i, gInt_i, gInt_b, gEq_s, gNe_s, gEq_b, gNe_b, gEq_2, gNe_2, gEq_3, gNe_3, gEq_22, gNe_22, bind_okM, DL.R.bind_ex, ev_setL, kSetL_ev, ev_lDisp, kDisp_ev, ev_lList, lOf_l, lOf_t, ev_frz, frz_l, frz_d, frz_n, ev_lend, lend_l, lend_d, atom_i, atom_b, atom_s, ev_lendB, lendB_l, lendB_d, ev_app, app_l, kApp_ev, ev_put, put_l, ev_ixO, ixO_l, ixO_d, put_m, putAll_c, putAll_n, ev_lc, kLst_ev, ev_lcL, wipe_n, wipe_c, r1_2, r1_3, bits_ev, List.getElem?_cons_zero, List.getElem?_cons_succ, List.set_cons_zero, List.set_cons_succ, List.length_cons, List.length_nil, List.length_map, List.append_nil, List.cons_append, List.nil_append, ev_if, turn_nx, turn_ct, turn_bk, turn_rt, turn_ite, kWh_ev, isi_int_int, isi_bool_int, isi_int_bool, isi_bool_bool, isi_int_str, isi_int_none, isi_int_list, isi_int_tup, isi_bool_str, isi_bool_none, isi_bool_list, isi_bool_tup, isi_tup_tup, isi_tup_int, isi_tup_bool, isi_tup_str, isi_tup_none, isi_tup_list, isi_list_list, isi_list_tup, isi_list_int, isi_list_bool, isi_list_str, isi_list_none, isi_str_str, isi_str_int, isi_str_bool, isi_str_none, isi_str_list, isi_str_tup, decide_true, decide_false, not_true_eq_false, not_false_eq_true, ne_eq, decide_eq_true_eq, Bool.not_eq_true', decide_eq_false_iff_not, Bool.not_true, Bool.not_false, Bool.false_eq_true, if_true, if_false, reduceIte, seq_rm, seq_rv, turn_rm, turn_rv, turn_ex, ev_retV, ev_vL, kVL_ev, frzV_l, ev_setV, kSetV_l, kSetV_o, oPut_ev, oPutO_o, oPutO_me, oOwn_o, oOwn_me, fOwn_ev, gCallV_ev, ev_AV, ev_fnV, finV_rv, ev_clr, kClr_l, ev_vlend, kVLend_l, sv_d, sv_l, sv_o, tpD_d, tpD_l, tpD_n, h1, ha]
      · rw [if_pos rfl]
        simp +decide only [side5R, ev_seq, seq_nx, seq_rt, seq_ex, seq_bk, seq_ct, seq_ite, fl_okM, fl_ex, fl_ite, ev_set, kSet_ev, ev_ret, ev_nx, ev_raise, ev_if, kIf_ev, ev_par, kPar_ev, kId_ev, ev_asg, kAsg_ev, ev_forM, kFor_ev, ev_V, dVg_ok, ev_C, ev_1, ev_2, bind2_ok, bind2_ite1, bind2_ite2, bind_ite, ev_A, ev_nil, ev_cons, kCons_ev, ev_T, toB_ev, ev_and, ev_or, ev_not, kAnd_ev, kOr_ev, kNot_ev, ev_andV, ev_notV, kAndV_ev, kNotV_ev, tup_ev, lst_ev, call_ev, ev_fn, startE_0, startE_s, startE_c, fin_rt, fin_nx, fin_ex, fin_ite, ix_t0, ix_t1, ix_t2, ix_t3, ix_l0, ix_l1, ix_l2, len_l, len_t1, len_t2, len_t3, len_t4, beq_self_eq_true, ev_iL, ev_iT, asL_ev, asT_ev, ev_iAM, ev_P, toI_ev, ev_P0, ev_sl, kSl_ev, put_1, gAdd_i, gSub_i, gMul_i, gDiv_p, gMod_p, gPow_l, gShl_l, gShr_l, gLt_i, gLe_i, gGt_i, gGe_i, gEq_i, gNe_i, gAbs_i, gInt_i, gInt_b, gEq_s, gNe_s, gEq_b, gNe_b, gEq_2, gNe_2, gEq_3, gNe_3, gEq_22, gNe_22, bind_okM, DL.R.bind_ex, ev_setL, kSetL_ev, ev_lDisp, kDisp_ev, ev_lList, lOf_l, lOf_t, ev_frz, frz_l, frz_d, frz_n, ev_lend, lend_l, lend_d, atom_i, atom_b, atom_s, ev_lendB, lendB_l, lendB_d, ev_app, app_l, kApp_ev, ev_put, put_l, ev_ixO, ixO_l, ixO_d, put_m, putAll_c, putAll_n, ev_lc, kLst_ev, ev_lcL, wipe_n, wipe_c, r1_2, r1_3, bits_ev, List.getElem?_cons_zero, List.getElem?_cons_succ, List.set_cons_zero, List.set_cons_succ, List.length_cons, List.length_nil, List.length_map, List.append_nil, List.cons_append, List.nil_append, ev_if, turn_nx, turn_ct, turn_bk, turn_rt, turn_ite, kWh_ev, isi_int_int, isi_bool_int, isi_int_bool, isi_bool_bool, isi_int_str, isi_int_none, isi_int_list, isi_int_tup, isi_bool_str, isi_bool_none, isi_bool_list, isi_bool_tup, isi_tup_tup, isi_tup_int, isi_tup_bool, isi_tup_str, isi_tup_none, isi_tup_list, isi_list_list, isi_list_tup, isi_list_int, isi_list_bool, isi_list_str, isi_list_none, isi_str_str, isi_str_int, isi_str_bool, isi_str_none, isi_str_list, isi_str_tup, decide_true, decide_false, not_true_eq_false, not_false_eq_true, ne_eq, decide_eq_true_eq, Bool.not_eq_true', decide_eq_false_iff_not, Bool.not_true, Bool.not_false, Bool.false_eq_true, if_true, if_false, reduceIte, seq_rm, seq_rv, turn_rm, turn_rv, turn_ex, ev_retV, ev_vL, kVL_ev, frzV_l, ev_setV, kSetV_l, kSetV_o, oPut_ev, oPutO_o, oPutO_me, oOwn_o, oOwn_me, fOwn_ev, gCallV_ev, ev_AV, ev_fnV, finV_rv, ev_clr, kClr_l, ev_vlend, kVLend_l, sv_d, sv_l, sv_o, tpD_d, tpD_l, tpD_n, h1, ha]
theorem side5_fin (d : Int) (s sa sb x y u v r : PD) (great : Bool) (z6 : Int) [Bd d 7] [Bd z6 20] (s1 : gSl s none (some 3) = .ok sa) (s2 : gSl s (some 3) (some 6) = .ok sb) (f1 : m_law_fraction_v3 [sa, .bool great] = .ok x) (f2 : m_law_fraction_v3 [sb, .bool great] = .ok y) (i6 : gIx s (.int 6) = .ok (.int z6))
    (hv : v = if z6 % 4 = 0 then .tuple [.int 0, .int 1] else y) (hu : u = if z6 % 4 = 1 then .tuple [.int 0, .int 1] else x) (e : side5R [some (.d (.int d)), some (.d s), some (.d (.bool great)), some (.d u), some (.d v)] = .rt r) : m_law_side_v5 [.int d, s, .bool great] = .ok r := by
  by_cases h0 : z6 % 4 = 0
  · have h1 : ¬ z6 % 4 = 1 := by omega
    rw [if_pos h0] at hv
    rw [if_neg h1] at hu
    subst hv hu
    simp +decide only [m_law_side_v5, side5_den, ev_seq, seq_nx, seq_rt, seq_ex, seq_bk, seq_ct, seq_ite, fl_okM, fl_ex, fl_ite, ev_set, kSet_ev, ev_ret, ev_nx, ev_raise, ev_if, kIf_ev, ev_par, kPar_ev, kId_ev, ev_asg, kAsg_ev, ev_forM, kFor_ev, ev_V, dVg_ok, ev_C, ev_1, ev_2, bind2_ok, bind2_ite1, bind2_ite2, bind_ite, ev_A, ev_nil, ev_cons, kCons_ev, ev_T, toB_ev, ev_and, ev_or, ev_not, kAnd_ev, kOr_ev, kNot_ev, ev_andV, ev_notV, kAndV_ev, kNotV_ev, tup_ev, lst_ev, call_ev, ev_fn, startE_0, startE_s, startE_c, fin_rt, fin_nx, fin_ex, fin_ite, ix_t0, ix_t1, ix_t2, ix_t3, ix_l0, ix_l1, ix_l2, len_l, len_t1, len_t2, len_t3, len_t4, beq_self_eq_true, ev_iL, ev_iT, asL_ev, asT_ev, ev_iAM, ev_P, toI_ev, ev_P0, ev_sl, kSl_ev, put_1, gAdd_i, gSub_i, gMul_i, gDiv_p, gMod_p, gPow_l, gShl_l, gShr_l, gLt_i, gLe_i, gGt_i, gGe_i, gEq_i, gNe_i, gAbs_i, gInt_i, gInt_b, gEq_s, gNe_s, gEq_b, gNe_b, gEq_2, gNe_2, gEq_3, gNe_3, gEq_22, gNe_22, bind_okM, DL.R.bind_ex, ev_setL, kSetL_ev, ev_lDisp, kDisp_ev, ev_lList, lOf_l, lOf_t, ev_frz, frz_l, frz_d, frz_n, ev_lend, lend_l, lend_d, atom_i, atom_b, atom_s, ev_lendB, lendB_l, lendB_d, ev_app, app_l, kApp_ev, ev_put, put_l, ev_ixO, ixO_l, ixO_d, put_m, putAll_c, putAll_n, ev_lc, kLst_ev, ev_lcL, wipe_n, wipe_c, r1_2, r1_3, bits_ev, List.getElem?_cons_zero, List.getElem?_cons_succ, List.set_cons_zero, List.set_cons_succ, List.length_cons, List.length_nil, List.length_map, List.append_nil, List.cons_append, List.nil_append, ev_if, turn_nx, turn_ct, turn_bk, turn_rt, turn_ite, kWh_ev, isi_int_int, isi_bool_int, isi_int_bool, isi_bool_bool, isi_int_str, isi_int_none, isi_int_list, isi_int_tup, isi_bool_str, isi_bool_none, isi_bool_list, isi_bool_tup, isi_tup_tup, isi_tup_int, isi_tup_bool, isi_tup_str, isi_tup_none, isi_tup_list, isi_list_list, isi_list_tup, isi_list_int, isi_list_bool, isi_list_str, isi_list_none, isi_str_str, isi_str_int, isi_str_bool, isi_str_none, isi_str_list, isi_str_tup, decide_true, decide_false, not_true_eq_false, not_false_eq_true, ne_eq, decide_eq_true_eq, Bool.not_eq_true', decide_eq_false_iff_not, Bool.not_true, Bool.not_false, Bool.false_eq_true, if_true, if_false, reduceIte, seq_rm, seq_rv, turn_rm, turn_rv, turn_ex, ev_retV, ev_vL, kVL_ev, frzV_l, ev_setV, kSetV_l, kSetV_o, oPut_ev, oPutO_o, oPutO_me, oOwn_o, oOwn_me, fOwn_ev, gCallV_ev, ev_AV, ev_fnV, finV_rv, ev_clr, kClr_l, ev_vlend, kVLend_l, sv_d, sv_l, sv_o, tpD_d, tpD_l, tpD_n, s1, s2, f1, f2, i6, h0, h1, e]
  · rw [if_neg h0] at hv
    subst hv
    by_cases h1 : z6 % 4 = 1
    · rw [if_pos h1] at hu
      subst hu
      simp +decide only [m_law_side_v5, side5_den, ev_seq, seq_nx, seq_rt, seq_ex, seq_bk, seq_ct, seq_ite, fl_okM, fl_ex, fl_ite, ev_set, kSet_ev, ev_ret, ev_nx, ev_raise, ev_if, kIf_ev, ev_par, kPar_ev, kId_ev, ev_asg, kAsg_ev, ev_forM, kFor_ev, ev_V, dVg_ok, ev_C, ev_1, ev_2, bind2_ok, bind2_ite1, bind2_ite2, bind_ite, ev_A, ev_nil, ev_cons, kCons_ev, ev_T, toB_ev, ev_and, ev_or, ev_not, kAnd_ev, kOr_ev, kNot_ev, ev_andV, ev_notV, kAndV_ev, kNotV_ev, tup_ev, lst_ev, call_ev, ev_fn, startE_0, startE_s, startE_c, fin_rt, fin_nx, fin_ex, fin_ite, ix_t0, ix_t1, ix_t2, ix_t3, ix_l0, ix_l1, ix_l2, len_l, len_t1, len_t2, len_t3, len_t4, beq_self_eq_true, ev_iL, ev_iT, asL_ev, asT_ev, ev_iAM, ev_P, toI_ev, ev_P0, ev_sl, kSl_ev, put_1, gAdd_i, gSub_i, gMul_i, gDiv_p, gMod_p, gPow_l, gShl_l, gShr_l, gLt_i, gLe_i, gGt_i, gGe_i, gEq_i, gNe_i, gAbs_i, gInt_i, gInt_b, gEq_s, gNe_s, gEq_b, gNe_b, gEq_2, gNe_2, gEq_3, gNe_3, gEq_22, gNe_22, bind_okM, DL.R.bind_ex, ev_setL, kSetL_ev, ev_lDisp, kDisp_ev, ev_lList, lOf_l, lOf_t, ev_frz, frz_l, frz_d, frz_n, ev_lend, lend_l, lend_d, atom_i, atom_b, atom_s, ev_lendB, lendB_l, lendB_d, ev_app, app_l, kApp_ev, ev_put, put_l, ev_ixO, ixO_l, ixO_d, put_m, putAll_c, putAll_n, ev_lc, kLst_ev, ev_lcL, wipe_n, wipe_c, r1_2, r1_3, bits_ev, List.getElem?_cons_zero, List.getElem?_cons_succ, List.set_cons_zero, List.set_cons_succ, List.length_cons, List.length_nil, List.length_map, List.append_nil, List.cons_append, List.nil_append, ev_if, turn_nx, turn_ct, turn_bk, turn_rt, turn_ite, kWh_ev, isi_int_int, isi_bool_int, isi_int_bool, isi_bool_bool, isi_int_str, isi_int_none, isi_int_list, isi_int_tup, isi_bool_str, isi_bool_none, isi_bool_list, isi_bool_tup, isi_tup_tup, isi_tup_int, isi_tup_bool, isi_tup_str, isi_tup_none, isi_tup_list, isi_list_list, isi_list_tup, isi_list_int, isi_list_bool, isi_list_str, isi_list_none, isi_str_str, isi_str_int, isi_str_bool, isi_str_none, isi_str_list, isi_str_tup, decide_true, decide_false, not_true_eq_false, not_false_eq_true, ne_eq, decide_eq_true_eq, Bool.not_eq_true', decide_eq_false_iff_not, Bool.not_true, Bool.not_false, Bool.false_eq_true, if_true, if_false, reduceIte, seq_rm, seq_rv, turn_rm, turn_rv, turn_ex, ev_retV, ev_vL, kVL_ev, frzV_l, ev_setV, kSetV_l, kSetV_o, oPut_ev, oPutO_o, oPutO_me, oOwn_o, oOwn_me, fOwn_ev, gCallV_ev, ev_AV, ev_fnV, finV_rv, ev_clr, kClr_l, ev_vlend, kVLend_l, sv_d, sv_l, sv_o, tpD_d, tpD_l, tpD_n, s1, s2, f1, f2, i6, h0, h1, e]
    · rw [if_neg h1] at hu
      subst hu
      simp +decide only [m_law_side_v5, side5_den, ev_seq, seq_nx, seq_rt, seq_ex, seq_bk, seq_ct, seq_ite, fl_okM, fl_ex, fl_ite, ev_set, kSet_ev, ev_ret, ev_nx, ev_raise, ev_if, kIf_ev, ev_par, kPar_ev, kId_ev, ev_asg, kAsg_ev, ev_forM, kFor_ev, ev_V, dVg_ok, ev_C, ev_1, ev_2, bind2_ok, bind2_ite1, bind2_ite2, bind_ite, ev_A, ev_nil, ev_cons, kCons_ev, ev_T, toB_ev, ev_and, ev_or, ev_not, kAnd_ev, kOr_ev, kNot_ev, ev_andV, ev_notV, kAndV_ev, kNotV_ev, tup_ev, lst_ev, call_ev, ev_fn, startE_0, startE_s, startE_c, fin_rt, fin_nx, fin_ex, fin_ite, ix_t0, ix_t1, ix_t2, ix_t3, ix_l0, ix_l1, ix_l2, len_l, len_t1, len_t2, len_t3, len_t4, beq_self_eq_true, ev_iL, ev_iT, asL_ev, asT_ev, ev_iAM, ev_P, toI_ev, ev_P0, ev_sl, kSl_ev, put_1, gAdd_i, gSub_i, gMul_i, gDiv_p, gMod_p, gPow_l, gShl_l, gShr_l, gLt_i, gLe_i, gGt_i, gGe_i, gEq_i, gNe_i, gAbs_i, gInt_i, gInt_b, gEq_s, gNe_s, gEq_b, gNe_b, gEq_2, gNe_2, gEq_3, gNe_3, gEq_22, gNe_22, bind_okM, DL.R.bind_ex, ev_setL, kSetL_ev, ev_lDisp, kDisp_ev, ev_lList, lOf_l, lOf_t, ev_frz, frz_l, frz_d, frz_n, ev_lend, lend_l, lend_d, atom_i, atom_b, atom_s, ev_lendB, lendB_l, lendB_d, ev_app, app_l, kApp_ev, ev_put, put_l, ev_ixO, ixO_l, ixO_d, put_m, putAll_c, putAll_n, ev_lc, kLst_ev, ev_lcL, wipe_n, wipe_c, r1_2, r1_3, bits_ev, List.getElem?_cons_zero, List.getElem?_cons_succ, List.set_cons_zero, List.set_cons_succ, List.length_cons, List.length_nil, List.length_map, List.append_nil, List.cons_append, List.nil_append, ev_if, turn_nx, turn_ct, turn_bk, turn_rt, turn_ite, kWh_ev, isi_int_int, isi_bool_int, isi_int_bool, isi_bool_bool, isi_int_str, isi_int_none, isi_int_list, isi_int_tup, isi_bool_str, isi_bool_none, isi_bool_list, isi_bool_tup, isi_tup_tup, isi_tup_int, isi_tup_bool, isi_tup_str, isi_tup_none, isi_tup_list, isi_list_list, isi_list_tup, isi_list_int, isi_list_bool, isi_list_str, isi_list_none, isi_str_str, isi_str_int, isi_str_bool, isi_str_none, isi_str_list, isi_str_tup, decide_true, decide_false, not_true_eq_false, not_false_eq_true, ne_eq, decide_eq_true_eq, Bool.not_eq_true', decide_eq_false_iff_not, Bool.not_true, Bool.not_false, Bool.false_eq_true, if_true, if_false, reduceIte, seq_rm, seq_rv, turn_rm, turn_rv, turn_ex, ev_retV, ev_vL, kVL_ev, frzV_l, ev_setV, kSetV_l, kSetV_o, oPut_ev, oPutO_o, oPutO_me, oOwn_o, oOwn_me, fOwn_ev, gCallV_ev, ev_AV, ev_fnV, finV_rv, ev_clr, kClr_l, ev_vlend, kVLend_l, sv_d, sv_l, sv_o, tpD_d, tpD_l, tpD_n, s1, s2, f1, f2, i6, h0, h1, e]
theorem law_side5_ok (d : Int) (hd : Root d) [Bd d 7] (zs : List Int) (hl : 7 ≤ zs.length) (hz : ∀ z ∈ zs, Dg z) (great : Bool) : ∃ x y : Rat, m_law_side_v5 [.int d, .list (zs.map .int), .bool great] = .ok (.tuple [frD x, frD y]) ∧ SdF d great x y := by
  obtain ⟨z0, z1, z2, z3, z4, z5, z6, r, rfl⟩ : ∃ z0 z1 z2 z3 z4 z5 z6 r, zs = z0 :: z1 :: z2 :: z3 :: z4 :: z5 :: z6 :: r := by
    match zs, hl with
    | z0 :: z1 :: z2 :: z3 :: z4 :: z5 :: z6 :: r, _ => exact ⟨_, _, _, _, _, _, _, _, rfl⟩
  have g := fun z h => hz z h
  have h0 := hz z0 (by simp); have h1 := hz z1 (by simp); have h2 := hz z2 (by simp); have h3 := hz z3 (by simp); have h4 := hz z4 (by simp); have h5 := hz z5 (by simp); have h6 := hz z6 (by simp)
  have c6 := dg_bd h6
  obtain ⟨x, f1, qx⟩ := law_fraction3_ok (.list [.int z0, .int z1, .int z2]) great z0 z1 z2 h0 h1 h2 (ix_l (k := 0) rfl) (ix_l (k := 1) rfl) (ix_l (k := 2) rfl)
  obtain ⟨y, f2, qy⟩ := law_fraction3_ok (.list [.int z3, .int z4, .int z5]) great z3 z4 z5 h3 h4 h5 (ix_l (k := 0) rfl) (ix_l (k := 1) rfl) (ix_l (k := 2) rfl)
  have key : ∃ u v : Rat, Fq great u ∧ Fq great v ∧ frD v = (if z6 % 4 = 0 then .tuple [.int 0, .int 1] else frD y) ∧ frD u = (if z6 % 4 = 1 then .tuple [.int 0, .int 1] else frD x) := by
    by_cases q0 : z6 % 4 = 0
    · have q1 : ¬ z6 % 4 = 1 := by omega
      exact ⟨x, 0, qx, .zero, by rw [if_pos q0]; rfl, by rw [if_neg q1]⟩
    · by_cases q1 : z6 % 4 = 1
      · exact ⟨0, y, .zero, qy, by rw [if_neg q0], by rw [if_pos q1]; rfl⟩
      · exact ⟨x, y, qx, qy, by rw [if_neg q0], by rw [if_neg q1]⟩
  obtain ⟨u, v, qu, qv, ev, eu⟩ := key
  obtain ⟨bu1, bu2⟩ := qu.bd
  obtain ⟨bv1, bv2⟩ := qv.bd
  obtain ⟨b, ha, hb⟩ := above_q d u v hd
  have e := side5_rest d (.list ((z0 :: z1 :: z2 :: z3 :: z4 :: z5 :: z6 :: r).map .int)) great b u v ha
  have s1 : gSl (.list ((z0 :: z1 :: z2 :: z3 :: z4 :: z5 :: z6 :: r).map PyData.int)) none (some 3) = .ok (.list [.int z0, .int z1, .int z2]) := sl_hi (k := 3)
  have s2 : gSl (.list ((z0 :: z1 :: z2 :: z3 :: z4 :: z5 :: z6 :: r).map PyData.int)) (some 3) (some 6) = .ok (.list [.int z3, .int z4, .int z5]) := sl_lohi (k := 3) (l := 6)
  have i6 : gIx (.list ((z0 :: z1 :: z2 :: z3 :: z4 :: z5 :: z6 :: r).map PyData.int)) (.int 6) = .ok (.int z6) := ix_l (k := 6) rfl
  have F := side5_fin d _ _ _ _ _ _ _ _ great z6 s1 s2 f1 f2 i6 ev eu e
  rw [F]
  by_cases hz : u.num = 0 ∧ v.num = 0
  · rw [if_pos hz]
    exact ⟨1, 0, rfl, .one, .zero, (by
      left
      have : (0 : Rat) < 1 := by decide
      constructor
      · show (d : Rat) * 0 * 0 < 1 * 1
        grind
      · exact this)⟩
  · rw [if_neg hz]
    cases b with
    | true => exact ⟨u, v, by rw [if_pos rfl], qu, qv, hb.mp rfl⟩
    | false =>
      refine ⟨-u, -v, by rw [if_neg (by decide)], qu.neg, qv.neg, posQ_tri hd (fun h => by cases hb.mpr h) fun h => hz ⟨?_, ?_⟩⟩
      · rw [h.1]; rfl
      · rw [h.2]; rfl
/-! ### lengths, heaps -/
theorem law_length3_ok (d : Int) (hd : Root d) [Bd d 7] (zs : List Int) (hl : 7 ≤ zs.length) (hz : ∀ z ∈ zs, Dg z) : ∃ x y : Rat, m_law_length_v3 [.int d, .list (zs.map .int)] = .ok (lnD x y) ∧ SdF d false x y := by
  obtain ⟨x, y, e, h⟩ := law_side5_ok d hd zs hl hz false
  have bx := h.fx.br; have bu := h.fy.br
  have eb := by_parts_ln x y (by decide) (by decide) (by decide)
  refine ⟨x, y, ?_, h⟩
  generalize zs.map PyData.int = q at *
  generalize frD x = fx at *
  generalize frD y = fy at *
  generalize lnD x y = l at *
  have i0 : gIx (.tuple [fx, fy]) (.int 0) = .ok fx := ix_t0
  have i1 : gIx (.tuple [fx, fy]) (.int 1) = .ok fy := ix_t1
  simp +decide only [m_law_length_v3, den_law_length_v3, ev_seq, seq_nx, seq_rt, seq_ex, seq_bk, seq_ct, seq_ite, fl_okM, fl_ex, fl_ite, ev_set, kSet_ev, ev_ret, ev_nx, ev_raise, ev_if, kIf_ev, ev_par, kPar_ev, kId_ev, ev_asg, kAsg_ev, ev_forM, kFor_ev, ev_V, dVg_ok, ev_C, ev_1, ev_2, bind2_ok, bind2_ite1, bind2_ite2, bind_ite, ev_A, ev_nil, ev_cons, kCons_ev, ev_T, toB_ev, ev_and, ev_or, ev_not, kAnd_ev, kOr_ev, kNot_ev, ev_andV, ev_notV, kAndV_ev, kNotV_ev, tup_ev, lst_ev, call_ev, ev_fn, startE_0, startE_s, startE_c, fin_rt, fin_nx, fin_ex, fin_ite, ix_t0, ix_t1, ix_t2, ix_t3, ix_l0, ix_l1, ix_l2, len_l, len_t1, len_t2, len_t3, len_t4, beq_self_eq_true, ev_iL, ev_iT, asL_ev, asT_ev, ev_iAM, ev_P, toI_ev, ev_P0, ev_sl, kSl_ev, put_1, gAdd_i, gSub_i, gMul_i, gDiv_p, gMod_p, gPow_l, gShl_l, gShr_l, gLt_i, gLe_i, gGt_i, gGe_i, gEq_i, gNe_i, gAbs_i, gInt_i, gInt_b, gEq_s, gNe_s, gEq_b, gNe_b, gEq_2, gNe_2, gEq_3, gNe_3, gEq_22, gNe_22, bind_okM, DL.R.bind_ex, ev_setL, kSetL_ev, ev_lDisp, kDisp_ev, ev_lList, lOf_l, lOf_t, ev_frz, frz_l, frz_d, frz_n, ev_lend, lend_l, lend_d, atom_i, atom_b, atom_s, ev_lendB, lendB_l, lendB_d, ev_app, app_l, kApp_ev, ev_put, put_l, ev_ixO, ixO_l, ixO_d, put_m, putAll_c, putAll_n, ev_lc, kLst_ev, ev_lcL, wipe_n, wipe_c, r1_2, r1_3, bits_ev, List.getElem?_cons_zero, List.getElem?_cons_succ, List.set_cons_zero, List.set_cons_succ, List.length_cons, List.length_nil, List.length_map, List.append_nil, List.cons_append, List.nil_append, ev_if, turn_nx, turn_ct, turn_bk, turn_rt, turn_ite, kWh_ev, isi_int_int, isi_bool_int, isi_int_bool, isi_bool_bool, isi_int_str, isi_int_none, isi_int_list, isi_int_tup, isi_bool_str, isi_bool_none, isi_bool_list, isi_bool_tup, isi_tup_tup, isi_tup_int, isi_tup_bool, isi_tup_str, isi_tup_none, isi_tup_list, isi_list_list, isi_list_tup, isi_list_int, isi_list_bool, isi_list_str, isi_list_none, isi_str_str, isi_str_int, isi_str_bool, isi_str_none, isi_str_list, isi_str_tup, decide_true, decide_false, not_true_eq_false, not_false_eq_true, ne_eq, decide_eq_true_eq, Bool.not_eq_true', decide_eq_false_iff_not, Bool.not_true, Bool.not_false, Bool.false_eq_true, if_true, if_false, reduceIte, seq_rm, seq_rv, turn_rm, turn_rv, turn_ex, ev_retV, ev_vL, kVL_ev, frzV_l, ev_setV, kSetV_l, kSetV_o, oPut_ev, oPutO_o, oPutO_me, oOwn_o, oOwn_me, fOwn_ev, gCallV_ev, ev_AV, ev_fnV, finV_rv, ev_clr, kClr_l, ev_vlend, kVLend_l, sv_d, sv_l, sv_o, tpD_d, tpD_l, tpD_n, e, i0, i1, eb]
/-- a drawn board -/
def DF (d : Int) (b : Bo) : Prop := SdF d false b.x b.y ∧ SdF d false b.u b.v
theorem heap4_turn (d : Int) (hd : Root d) [Bd d 7] (cs : PD) (c : Int) [bc : Bd c 1048576] (k : Nat) (hk : k ≤ 100) (ic : gIx cs (.int (k : Nat)) = .ok (.int c)) (bs : List Bo) (hl : bs.length < 1000) (x4 : Option SV) : ∃ (b : Bo) (y4 : Option SV), DF d b ∧ lb1_law_heap_v4 [some (.d (.int d)), some (.d cs), some (.l (bs.map boD)), some (.d (.int (k : Nat))), x4] = .nx [some (.d (.int d)), some (.d cs), some (.l ((bs ++ [b]).map boD)), some (.d (.int (k : Nat))), y4] := by
  have t8 : (2 : Nat) ^ 8 = 256 := by decide
  obtain ⟨zs, ez, lz, hz⟩ := law_digits3_ok c ((k : Nat) + 3) (bk := ⟨by omega⟩) 14 (by decide)
  have ez' : m_law_digits_v3 [.int c, .int ((k : Nat) + 3), .int 14] = .ok (.list (zs.map .int)) := ez
  have s1 : gSl (.list (zs.map PyData.int)) none (some 7) = .ok (.list ((zs.take 7).map .int)) := by rw [List.map_take]; exact sl_hi (k := 7)
  have s2 : gSl (.list (zs.map PyData.int)) (some 7) none = .ok (.list ((zs.drop 7).map .int)) := by rw [List.map_drop]; exact sl_lo (k := 7)
  obtain ⟨x, y, e1, h1⟩ := law_length3_ok d hd (zs.take 7) (by rw [List.length_take]; omega) fun z h => hz z (List.mem_of_mem_take h)
  obtain ⟨u, v, e2, h2⟩ := law_length3_ok d hd (zs.drop 7) (by rw [List.length_drop]; omega) fun z h => hz z (List.mem_of_mem_drop h)
  refine ⟨⟨x, y, u, v⟩, some (.d (.list (zs.map .int))), ⟨h1, h2⟩, ?_⟩
  have hl2 : (bs.map boD).length < 16777216 := by rw [List.length_map]; omega
  rw [List.map_append]
  simp only [List.map_cons, List.map_nil, boD]
  generalize zs.map PyData.int = q at *
  generalize (zs.take 7).map PyData.int = q1 at *
  generalize (zs.drop 7).map PyData.int = q2 at *
  generalize lnD x y = lx at *
  generalize lnD u v = lu at *
  generalize bs.map boD = bl at *
  simp +decide only [lb1_law_heap_v4, ev_seq, seq_nx, seq_rt, seq_ex, seq_bk, seq_ct, seq_ite, fl_okM, fl_ex, fl_ite, ev_set, kSet_ev, ev_ret, ev_nx, ev_raise, ev_if, kIf_ev, ev_par, kPar_ev, kId_ev, ev_asg, kAsg_ev, ev_forM, kFor_ev, ev_V, dVg_ok, ev_C, ev_1, ev_2, bind2_ok, bind2_ite1, bind2_ite2, bind_ite, ev_A, ev_nil, ev_cons, kCons_ev, ev_T, toB_ev, ev_and, ev_or, ev_not, kAnd_ev, kOr_ev, kNot_ev, ev_andV, ev_notV, kAndV_ev, kNotV_ev, tup_ev, lst_ev, call_ev, ev_fn, startE_0, startE_s, startE_c, fin_rt, fin_nx, fin_ex, fin_ite, ix_t0, ix_t1, ix_t2, ix_t3, ix_l0, ix_l1, ix_l2, len_l, len_t1, len_t2, len_t3, len_t4, beq_self_eq_true, ev_iL, ev_iT, asL_ev, asT_ev, ev_iAM, ev_P, toI_ev, ev_P0, ev_sl, kSl_ev, put_1, gAdd_i, gSub_i, gMul_i, gDiv_p, gMod_p, gPow_l, gShl_l, gShr_l, gLt_i, gLe_i, gGt_i, gGe_i, gEq_i, gNe_i, gAbs_i, gInt_i, gInt_b, gEq_s, gNe_s, gEq_b, gNe_b, gEq_2, gNe_2, gEq_3, gNe_3, gEq_22, gNe_22, bind_okM, DL.R.bind_ex, ev_setL, kSetL_ev, ev_lDisp, kDisp_ev, ev_lList, lOf_l, lOf_t, ev_frz, frz_l, frz_d, frz_n, ev_lend, lend_l, lend_d, atom_i, atom_b, atom_s, ev_lendB, lendB_l, lendB_d, ev_app, app_l, kApp_ev, ev_put, put_l, ev_ixO, ixO_l, ixO_d, put_m, putAll_c, putAll_n, ev_lc, kLst_ev, ev_lcL, wipe_n, wipe_c, r1_2, r1_3, bits_ev, List.getElem?_cons_zero, List.getElem?_cons_succ, List.set_cons_zero, List.set_cons_succ, List.length_cons, List.length_nil, List.length_map, List.append_nil, List.cons_append, List.nil_append, ev_if, turn_nx, turn_ct, turn_bk, turn_rt, turn_ite, kWh_ev, isi_int_int, isi_bool_int, isi_int_bool, isi_bool_bool, isi_int_str, isi_int_none, isi_int_list, isi_int_tup, isi_bool_str, isi_bool_none, isi_bool_list, isi_bool_tup, isi_tup_tup, isi_tup_int, isi_tup_bool, isi_tup_str, isi_tup_none, isi_tup_list, isi_list_list, isi_list_tup, isi_list_int, isi_list_bool, isi_list_str, isi_list_none, isi_str_str, isi_str_int, isi_str_bool, isi_str_none, isi_str_list, isi_str_tup, decide_true, decide_false, not_true_eq_false, not_false_eq_true, ne_eq, decide_eq_true_eq, Bool.not_eq_true', decide_eq_false_iff_not, Bool.not_true, Bool.not_false, Bool.false_eq_true, if_true, if_false, reduceIte, seq_rm, seq_rv, turn_rm, turn_rv, turn_ex, ev_retV, ev_vL, kVL_ev, frzV_l, ev_setV, kSetV_l, kSetV_o, oPut_ev, oPutO_o, oPutO_me, oOwn_o, oOwn_me, fOwn_ev, gCallV_ev, ev_AV, ev_fnV, finV_rv, ev_clr, kClr_l, ev_vlend, kVLend_l, sv_d, sv_l, sv_o, tpD_d, tpD_l, tpD_n, ic, ez', s1, s2, e1, e2, hl2]
theorem heap4_loop (d : Int) (hd : Root d) [Bd d 7] (cs : List Int) (hc : ∀ c ∈ cs, Bd c 1048576) (hl : cs.length ≤ 100) : ∀ (n k : Nat) (bs : List Bo) (x3 x4 : Option SV), k + n = cs.length → bs.length = k → ∃ (bs' : List Bo) (y3 y4 : Option SV), bs'.length = n ∧ (∀ b ∈ bs', DF d b) ∧ sForL (.one 3) lb1_law_heap_v4 ((List.range' k n).map fun i => PyData.int ((i : Nat) : Int)) [some (.d (.int d)), some (.d (.list (cs.map .int))), some (.l (bs.map boD)), x3, x4] = .nx [some (.d (.int d)), some (.d (.list (cs.map .int))), some (.l ((bs ++ bs').map boD)), y3, y4]
  | 0, k, bs, x3, x4, _, _ => ⟨[], x3, x4, rfl, (fun b hb => nomatch hb), by simp [forL_nil]⟩
  | n + 1, k, bs, x3, x4, hk, hb => by
    have ic := ix_ints (zs := cs) (k := (k : Nat)) (by omega) (by omega)
    have bc : Bd (cs.getD ((k : Nat) : Int).toNat 0) 1048576 := by
      rw [Int.toNat_natCast, List.getD_eq_getElem?_getD, List.getElem?_eq_getElem (by omega)]
      exact hc _ (List.getElem_mem _)
    obtain ⟨b, y4, hB, e⟩ := heap4_turn d hd (.list (cs.map .int)) _ k (by omega) ic bs (by omega) x4
    obtain ⟨bs', y3, z4, hl2, hB2, e2⟩ := heap4_loop d hd cs hc hl n (k + 1) (bs ++ [b]) (some (.d (.int (k : Nat)))) y4 (by omega) (by simp; omega)
    refine ⟨b :: bs', y3, z4, by rw [List.length_cons, hl2], fun c hc => ?_, ?_⟩
    · rcases List.mem_cons.mp hc with rfl | hc
      · exact hB
      · exact hB2 c hc
    · rw [List.range'_succ, List.map_cons, forL_1]
      simp only [List.set_cons_succ, List.set_cons_zero, e, turn_nx, e2]
      rw [List.append_assoc]; rfl
theorem heap4_fin (d n : Int) (cs : PD) (RR ys : List PD) (y3 y4 : Option SV) (gl : gLen [cs] = .ok (.int n)) (gr : gR1 [.int n] = .ok RR) (e : sForL (.one 3) lb1_law_heap_v4 RR [some (.d (.int d)), some (.d cs), some (.l []), none, none] = .nx [some (.d (.int d)), some (.d cs), some (.l ys), y3, y4]) : m_law_heap_v4 [.int d, cs] = .ok (.list ys) := by
  simp +decide only [m_law_heap_v4, den_law_heap_v4, ev_seq, seq_nx, seq_rt, seq_ex, seq_bk, seq_ct, seq_ite, fl_okM, fl_ex, fl_ite, ev_set, kSet_ev, ev_ret, ev_nx, ev_raise, ev_if, kIf_ev, ev_par, kPar_ev, kId_ev, ev_asg, kAsg_ev, ev_forM, kFor_ev, ev_V, dVg_ok, ev_C, ev_1, ev_2, bind2_ok, bind2_ite1, bind2_ite2, bind_ite, ev_A, ev_nil, ev_cons, kCons_ev, ev_T, toB_ev, ev_and, ev_or, ev_not, kAnd_ev, kOr_ev, kNot_ev, ev_andV, ev_notV, kAndV_ev, kNotV_ev, tup_ev, lst_ev, call_ev, ev_fn, startE_0, startE_s, startE_c, fin_rt, fin_nx, fin_ex, fin_ite, ix_t0, ix_t1, ix_t2, ix_t3, ix_l0, ix_l1, ix_l2, len_l, len_t1, len_t2, len_t3, len_t4, beq_self_eq_true, ev_iL, ev_iT, asL_ev, asT_ev, ev_iAM, ev_P, toI_ev, ev_P0, ev_sl, kSl_ev, put_1, gAdd_i, gSub_i, gMul_i, gDiv_p, gMod_p, gPow_l, gShl_l, gShr_l, gLt_i, gLe_i, gGt_i, gGe_i, gEq_i, gNe_i, gAbs_i, gInt_i, gInt_b, gEq_s, gNe_s, gEq_b, gNe_b, gEq_2, gNe_2, gEq_3, gNe_3, gEq_22, gNe_22, bind_okM, DL.R.bind_ex, ev_setL, kSetL_ev, ev_lDisp, kDisp_ev, ev_lList, lOf_l, lOf_t, ev_frz, frz_l, frz_d, frz_n, ev_lend, lend_l, lend_d, atom_i, atom_b, atom_s, ev_lendB, lendB_l, lendB_d, ev_app, app_l, kApp_ev, ev_put, put_l, ev_ixO, ixO_l, ixO_d, put_m, putAll_c, putAll_n, ev_lc, kLst_ev, ev_lcL, wipe_n, wipe_c, r1_2, r1_3, bits_ev, List.getElem?_cons_zero, List.getElem?_cons_succ, List.set_cons_zero, List.set_cons_succ, List.length_cons, List.length_nil, List.length_map, List.append_nil, List.cons_append, List.nil_append, ev_if, turn_nx, turn_ct, turn_bk, turn_rt, turn_ite, kWh_ev, isi_int_int, isi_bool_int, isi_int_bool, isi_bool_bool, isi_int_str, isi_int_none, isi_int_list, isi_int_tup, isi_bool_str, isi_bool_none, isi_bool_list, isi_bool_tup, isi_tup_tup, isi_tup_int, isi_tup_bool, isi_tup_str, isi_tup_none, isi_tup_list, isi_list_list, isi_list_tup, isi_list_int, isi_list_bool, isi_list_str, isi_list_none, isi_str_str, isi_str_int, isi_str_bool, isi_str_none, isi_str_list, isi_str_tup, decide_true, decide_false, not_true_eq_false, not_false_eq_true, ne_eq, decide_eq_true_eq, Bool.not_eq_true', decide_eq_false_iff_not, Bool.not_true, Bool.not_false, Bool.false_eq_true, if_true, if_false, reduceIte, seq_rm, seq_rv, turn_rm, turn_rv, turn_ex, ev_retV, ev_vL, kVL_ev, frzV_l, ev_setV, kSetV_l, kSetV_o, oPut_ev, oPutO_o, oPutO_me, oOwn_o, oOwn_me, fOwn_ev, gCallV_ev, ev_AV, ev_fnV, finV_rv, ev_clr, kClr_l, ev_vlend, kVLend_l, sv_d, sv_l, sv_o, tpD_d, tpD_l, tpD_n, gl, gr, e]
theorem law_heap4_ok (d : Int) (hd : Root d) [Bd d 7] (cs : List Int) (hc : ∀ c ∈ cs, Bd c 1048576) (hl : cs.length ≤ 100) : ∃ bs : List Bo, m_law_heap_v4 [.int d, .list (cs.map .int)] = .ok (.list (bs.map boD)) ∧ bs.length = cs.length ∧ ∀ b ∈ bs, DF d b := by
  obtain ⟨bs, y3, y4, h1, h2, e⟩ := heap4_loop d hd cs hc hl cs.length 0 [] none none (by omega) rfl
  exact ⟨bs, heap4_fin d (cs.length : Nat) _ _ _ y3 y4 (by rw [len_l, List.length_map]) (gR1_n cs.length (by omega)) e, h1, h2⟩
end DL

set_option Elab.async false
set_option linter.all false
set_option maxRecDepth 100000
set_option maxHeartbeats 1000000
set_option autoImplicit false
namespace DL
open PySem L2 MB
/-! data that is plain and shallow -/
def FyD (k : Nat) (v : PD) : Prop := v.canLay0 = true ∧ v.depth ≤ k ∧ plain v = true
theorem fyD_list {k : Nat} : ∀ (vs : List PD), (∀ v ∈ vs, FyD k v) → PyData.canLayAll0 vs = true ∧ PyData.depthAll vs ≤ k ∧ plainA vs = true
  | [], _ => ⟨rfl, Nat.zero_le _, rfl⟩
  | v :: vs, h => by
    have a := h v (List.mem_cons_self ..)
    have b := fyD_list vs (fun u hu => h u (List.mem_cons_of_mem _ hu))
    refine ⟨?_, ?_, ?_⟩
    · simp [PyData.canLayAll0, a.1, b.1]
    · simp only [PyData.depthAll]
      have := a.2.1
      have := b.2.1
      omega
    · simp [plainA, a.2.2, b.2.2]
theorem fyD_l {vs : List PD} {k : Nat} (h : ∀ v ∈ vs, FyD k v) (hk : k ≤ 60) : FyD (k + 1) (.list vs) ∧ SeqAt.shaped (.list vs) = true := by
  have f := fyD_list vs h
  have c : (PyData.list vs).canLay0 = true := by simp only [PyData.canLay0]; exact f.1
  have d : (PyData.list vs).depth ≤ k + 1 := by simp only [PyData.depth]; have := f.2.1; omega
  have p : plain (.list vs) = true := by simpa [plain] using f.2.2
  refine ⟨⟨c, d, p⟩, ?_⟩
  unfold SeqAt.shaped
  rw [c, decide_eq_true (show (PyData.list vs).depth ≤ 64 by omega)]
  rfl
theorem fyD_int {i : Int} : FyD 1 (.int i) := ⟨rfl, by simp [PyData.depth], rfl⟩
theorem fyD_bo (b : Bo) : FyD 5 (boD b) := ⟨rfl, by simp [PyData.depth, PyData.depthAll, lnD], rfl⟩
theorem gEq_ly {vs : List PD} {k : Nat} (h : ∀ v ∈ vs, FyD k v) (hk : k ≤ 60) : gEq (.list vs) (.list vs) = .ok (.bool true) := by
  obtain ⟨⟨_, _, p⟩, s⟩ := fyD_l h hk
  exact gEq_l s s ((eqv_plain _ _ p p).mpr rfl)
theorem gNe_ly {vs : List PD} {k : Nat} (h : ∀ v ∈ vs, FyD k v) (hk : k ≤ 60) : gNe (.list vs) (.list vs) = .ok (.bool false) := by
  obtain ⟨⟨_, _, p⟩, s⟩ := fyD_l h hk
  exact gNe_l s s ((eqv_plain _ _ p p).mpr rfl)
theorem gEq_lyd {vs ws : List PD} {k : Nat} (h : ∀ v ∈ vs, FyD k v) (g : ∀ v ∈ ws, FyD k v) (hk : k ≤ 60) : ∃ b : Bool, gEq (.list vs) (.list ws) = .ok (.bool b) ∧ (b = true ↔ vs = ws) := by
  obtain ⟨⟨_, _, p⟩, s⟩ := fyD_l h hk
  obtain ⟨⟨_, _, p2⟩, s2⟩ := fyD_l g hk
  refine ⟨PyData.eqv (.list vs) (.list ws), gEq_l s s2 rfl, ?_⟩
  by_cases c : vs = ws
  · rw [(eqv_plain _ _ p p2).mpr (by rw [c])]
    simp [c]
  · have : PyData.eqv (.list vs) (.list ws) = false := by
      cases e : PyData.eqv (.list vs) (.list ws)
      · rfl
      · exact absurd (by have := (eqv_plain _ _ p p2).mp e; cases this; rfl) c
    rw [this]
    simp [c]
theorem fy_ints (zs : List Int) : ∀ v ∈ zs.map PyData.int, FyD 1 v := fun v hv => by
  obtain ⟨z, _, rfl⟩ := List.mem_map.mp hv
  exact fyD_int
/-- data that is shallow -/
def FyC (k : Nat) (v : PD) : Prop := v.canLay0 = true ∧ v.depth ≤ k
theorem FyC.sh {k : Nat} {v : PD} (h : FyC k v) (hk : k ≤ 60) : SeqAt.shaped v = true := by
  unfold SeqAt.shaped
  rw [h.1, decide_eq_true (show v.depth ≤ 64 by have := h.2; omega)]
  rfl
end DL

set_option Elab.async false
set_option linter.all false
set_option maxRecDepth 100000
set_option maxHeartbeats 2000000
set_option autoImplicit false
namespace DL
open PySem L2 MB
theorem law_cell_z (ns : List Int) (hb : ∀ z ∈ ns, PySem.Builtin.Int.intBits z ≤ 1048576) (z : Int) (hz : 0 ≤ z) : ∃ c : Int, m_law_cell [.list (ns.map PyData.int), .int z] = .ok (.int c) ∧ Bd c 1048576 := by
  obtain ⟨c, e, b⟩ := law_cell_v ns hb z.toNat
  rw [Int.toNat_of_nonneg hz] at e
  exact ⟨c, e, b⟩
/-- a drawn board -/
def DrB (d : Int) (b : Bo) : Prop := Dr d (b.x, b.y) ∧ Dr d (b.u, b.v)
end DL

set_option Elab.async false
set_option linter.all false
set_option maxRecDepth 100000
set_option maxHeartbeats 2000000
set_option autoImplicit false
namespace DL
open PySem L2 MB
/-- what is drawn of a deed -/
def De.drawn (d : Int) (pool : List (Rat × Rat)) : De → List Bo → Prop
  | .cr al _ p q, [b] => if al = true then Cut d pool b.u b.v p q else Cut d pool b.x b.y p q
  | .gl tp _ _, [b, c] => if tp = true then b.x = c.x ∧ b.y = c.y else b.u = c.u ∧ b.v = c.v
  | .sh _ _ m, [_] => 0 < m ∧ m ≤ 10000
  | .tu _, [_] => True
  | _, _ => False
section
variable (d : Int) (hd : Root d) [Bd d 7] (c : Int) [bc : Bd c 1048576] (L : Lst) (pl : PD) (zs : List Int)
end
end DL

set_option Elab.async false
set_option linter.all false
set_option maxRecDepth 100000
set_option maxHeartbeats 2000000
set_option autoImplicit false
/-! the law's own table -/
namespace DL
open PySem L2 MB
/-- what holds of a table's place -/
structure Pl (D : Int) (n : Nat) (i j : Int) (X U : Bo → Rat) (W H : Bo → Int) : Prop where
  hW : ∀ b : Bo, gIx (lnD b.x b.y) (.int i) = .ok (.int (W b))
  hH : ∀ b : Bo, gIx (lnD b.u b.v) (.int j) = .ok (.int (H b))
  vW : ∀ b : Bo, (W b : Rat) = X b * (qN b.x b.y : Rat)
  vH : ∀ b : Bo, (H b : Rat) = U b * (qN b.u b.v : Rat)
  cW : ∀ b : Bo, W b = qA b.x b.y ∨ W b = qB b.x b.y
  cH : ∀ b : Bo, H b = qA b.u b.v ∨ H b = qB b.u b.v
  oX : ∀ b : Bo, OvB D n b → ∃ A : Int, Bd A n ∧ X b = (A : Rat) / D
  oU : ∀ b : Bo, OvB D n b → ∃ A : Int, Bd A n ∧ U b = (A : Rat) / D
end DL

set_option Elab.async false
set_option linter.all false
set_option maxRecDepth 100000
set_option maxHeartbeats 2000000
set_option autoImplicit false
/-! what stays, from deed to deed -/
namespace DL
open PySem L2 MB
theorem Cut.ov {d : Int} {pool : List (Rat × Rat)} {x y p q : Rat} (hC : Cut d pool x y p q) {D : Int} {n : Nat} (hD : 0 < D) (hx : Ov D n x y) (hp : ∀ p ∈ pool, Ov D n p.1 p.2) : ∃ k : Int, 0 < k ∧ Bd k 14 ∧ Ov (D * k) (n + 14) p q := by
  rcases hC.from_ with h | ⟨t, b, h1, h2, h3, rfl, rfl⟩
  · exact ⟨1, by decide, bd_one (by decide), (hp _ h).scale (by omega) (by decide) (bd_one (by decide))⟩
  · have t10 : (2 : Nat) ^ 10 = 1024 := by decide
    have bb : Bd b 10 := ⟨by omega⟩
    have bt : Bd t 10 := ⟨by omega⟩
    exact ⟨b, by omega, bb.mono (by decide), ((hx.mul bt).div (by omega) (by omega)).mono (by omega)⟩
/-- what a deed puts -/
theorem step_new {d : Int} (hd : Root d) {pool : List (Rat × Rat)} {δ : De} {bs : List Bo} (h : δ.drawn d pool bs) {D : Int} {n j : Nat} (hD : 0 < D) (bD : Bd D j) (hb : ∀ b ∈ bs, PosB d b ∧ OvB D n b) (hp : ∀ p ∈ pool, Ov D n p.1 p.2) :
    ∃ k : Int, 0 < k ∧ Bd k 14 ∧ (∀ b ∈ δ.new bs, PosB d b ∧ OvB (D * k) (n + 28) b) ∧ δ.bits (n + 28) (j + 14) ∧ 1 ≤ (δ.new bs).length ∧ (δ.new bs).length ≤ 2 ∧ ((∀ i, δ ≠ .tu i) → ∀ c, sumB (pr c) (δ.new bs) = sumB (pr c) bs) := by
  have b1 : Bd (1 : Int) 14 := bd_one (by decide)
  cases δ with
  | cr al i p q =>
    match bs, h with
    | [b], h =>
      obtain ⟨P, O⟩ := hb b (.head _)
      cases al
      · have hC : Cut d pool b.x b.y p q := h
        obtain ⟨k, k0, bk, ok⟩ := hC.ov hD O.w hp
        have s1 := O.w.scale (k := k) (by omega) (by omega) bk
        have s2 := O.h.scale (k := k) (by omega) (by omega) bk
        have hDk : 0 < D * k := Int.mul_pos hD k0
        have bDk : Bd (D * k) (j + 14) := inferInstance
        refine ⟨k, k0, bk, fun c hc => ?_, (ok.mono (by omega)).bl hDk bDk, Nat.le_of_ble_eq_true rfl, Nat.le_of_ble_eq_true rfl, fun _ c => ?_⟩
        · have hc' : c ∈ [(⟨p, q, b.u, b.v⟩ : Bo), ⟨b.x - p, b.y - q, b.u, b.v⟩] := hc
          simp only [List.mem_cons, List.not_mem_nil, or_false] at hc'
          rcases hc' with rfl | rfl
          · exact ⟨⟨hC.pos, P.h⟩, ⟨ok.mono (by omega), s2.mono (by omega)⟩⟩
          · exact ⟨⟨hC.less, P.h⟩, ⟨(s1.sub ok).mono (by omega), s2.mono (by omega)⟩⟩
        · show sumB (pr c) [(⟨p, q, b.u, b.v⟩ : Bo), ⟨b.x - p, b.y - q, b.u, b.v⟩] = sumB (pr c) [b]
          match c with
          | 0 => simp only [sumB, pr]; grind
          | 1 => simp only [sumB, pr]; grind
          | 2 => simp only [sumB, pr]; grind
          | 3 => simp only [sumB, pr]; grind
      · have hC : Cut d pool b.u b.v p q := h
        obtain ⟨k, k0, bk, ok⟩ := hC.ov hD O.h hp
        have s1 := O.w.scale (k := k) (by omega) (by omega) bk
        have s2 := O.h.scale (k := k) (by omega) (by omega) bk
        have hDk : 0 < D * k := Int.mul_pos hD k0
        have bDk : Bd (D * k) (j + 14) := inferInstance
        refine ⟨k, k0, bk, fun c hc => ?_, (ok.mono (by omega)).bl hDk bDk, Nat.le_of_ble_eq_true rfl, Nat.le_of_ble_eq_true rfl, fun _ c => ?_⟩
        · have hc' : c ∈ [(⟨b.x, b.y, p, q⟩ : Bo), ⟨b.x, b.y, b.u - p, b.v - q⟩] := hc
          simp only [List.mem_cons, List.not_mem_nil, or_false] at hc'
          rcases hc' with rfl | rfl
          · exact ⟨⟨P.w, hC.pos⟩, ⟨s1.mono (by omega), ok.mono (by omega)⟩⟩
          · exact ⟨⟨P.w, hC.less⟩, ⟨s1.mono (by omega), (s2.sub ok).mono (by omega)⟩⟩
        · show sumB (pr c) [(⟨b.x, b.y, p, q⟩ : Bo), ⟨b.x, b.y, b.u - p, b.v - q⟩] = sumB (pr c) [b]
          match c with
          | 0 => simp only [sumB, pr]; grind
          | 1 => simp only [sumB, pr]; grind
          | 2 => simp only [sumB, pr]; grind
          | 3 => simp only [sumB, pr]; grind
  | gl tp i i2 =>
    match bs, h with
    | [b, c], h =>
      obtain ⟨P, O⟩ := hb b (.head _)
      obtain ⟨P2, O2⟩ := hb c (.tail _ (.head _))
      have s1 := O.w.scale (k := 1) (by omega) (by decide) b1
      have s2 := O.h.scale (k := 1) (by omega) (by decide) b1
      have s3 := O2.w.scale (k := 1) (by omega) (by decide) b1
      have s4 := O2.h.scale (k := 1) (by omega) (by decide) b1
      cases tp
      · have hq : b.u = c.u ∧ b.v = c.v := h
        refine ⟨1, by decide, b1, fun a ha => ?_, trivial, Nat.le_of_ble_eq_true rfl, Nat.le_of_ble_eq_true rfl, fun _ e => ?_⟩
        · have ha' : a ∈ [(⟨b.x + c.x, b.y + c.y, b.u, b.v⟩ : Bo)] := ha
          simp only [List.mem_cons, List.not_mem_nil, or_false] at ha'
          subst ha'
          exact ⟨⟨posQ_add hd P.w P2.w, P.h⟩, ⟨(s1.add s3).mono (by omega), s2.mono (by omega)⟩⟩
        · show sumB (pr e) [(⟨b.x + c.x, b.y + c.y, b.u, b.v⟩ : Bo)] = sumB (pr e) [b, c]
          match e with
          | 0 => simp only [sumB, pr, ← hq.1, ← hq.2]; grind
          | 1 => simp only [sumB, pr, ← hq.1, ← hq.2]; grind
          | 2 => simp only [sumB, pr, ← hq.1, ← hq.2]; grind
          | 3 => simp only [sumB, pr, ← hq.1, ← hq.2]; grind
      · have hq : b.x = c.x ∧ b.y = c.y := h
        refine ⟨1, by decide, b1, fun a ha => ?_, trivial, Nat.le_of_ble_eq_true rfl, Nat.le_of_ble_eq_true rfl, fun _ e => ?_⟩
        · have ha' : a ∈ [(⟨b.x, b.y, b.u + c.u, b.v + c.v⟩ : Bo)] := ha
          simp only [List.mem_cons, List.not_mem_nil, or_false] at ha'
          subst ha'
          exact ⟨⟨P.w, posQ_add hd P.h P2.h⟩, ⟨s1.mono (by omega), (s2.add s4).mono (by omega)⟩⟩
        · show sumB (pr e) [(⟨b.x, b.y, b.u + c.u, b.v + c.v⟩ : Bo)] = sumB (pr e) [b, c]
          match e with
          | 0 => simp only [sumB, pr, ← hq.1, ← hq.2]; grind
          | 1 => simp only [sumB, pr, ← hq.1, ← hq.2]; grind
          | 2 => simp only [sumB, pr, ← hq.1, ← hq.2]; grind
          | 3 => simp only [sumB, pr, ← hq.1, ← hq.2]; grind
  | sh sp i m =>
    match bs, h with
    | [b], h =>
      have hm : 0 < m ∧ m ≤ 10000 := h
      obtain ⟨P, O⟩ := hb b (.head _)
      have t14 : (2 : Nat) ^ 14 = 16384 := by decide
      have bm : Bd m 14 := ⟨by omega⟩
      have hm0 : (m : Rat) ≠ 0 := ratne (by omega)
      have w1 := (O.w.div (k := m) (by omega) (by omega))
      have w2 := (O.h.div (k := m) (by omega) (by omega))
      have w3 := (O.w.mul bm).scale (k := m) (by omega) (by omega) bm
      have w4 := (O.h.mul bm).scale (k := m) (by omega) (by omega) bm
      cases sp
      · refine ⟨m, hm.1, bm, fun a ha => ?_, bm.mono (by decide), Nat.le_of_ble_eq_true rfl, Nat.le_of_ble_eq_true rfl, fun _ e => ?_⟩
        · have ha' : a ∈ [(⟨b.x / m, b.y / m, b.u * m, b.v * m⟩ : Bo)] := ha
          simp only [List.mem_cons, List.not_mem_nil, or_false] at ha'
          subst ha'
          exact ⟨⟨posQ_by hd P.w hm.1, posQ_times hd P.h hm.1⟩, ⟨w1.mono (by omega), w4.mono (by omega)⟩⟩
        · show sumB (pr e) [(⟨b.x / m, b.y / m, b.u * m, b.v * m⟩ : Bo)] = sumB (pr e) [b]
          match e with
          | 0 => simp only [sumB, pr]; grind
          | 1 => simp only [sumB, pr]; grind
          | 2 => simp only [sumB, pr]; grind
          | 3 => simp only [sumB, pr]; grind
      · refine ⟨m, hm.1, bm, fun a ha => ?_, bm.mono (by decide), Nat.le_of_ble_eq_true rfl, Nat.le_of_ble_eq_true rfl, fun _ e => ?_⟩
        · have ha' : a ∈ [(⟨b.x * m, b.y * m, b.u / m, b.v / m⟩ : Bo)] := ha
          simp only [List.mem_cons, List.not_mem_nil, or_false] at ha'
          subst ha'
          exact ⟨⟨posQ_times hd P.w hm.1, posQ_by hd P.h hm.1⟩, ⟨w3.mono (by omega), w2.mono (by omega)⟩⟩
        · show sumB (pr e) [(⟨b.x * m, b.y * m, b.u / m, b.v / m⟩ : Bo)] = sumB (pr e) [b]
          match e with
          | 0 => simp only [sumB, pr]; grind
          | 1 => simp only [sumB, pr]; grind
          | 2 => simp only [sumB, pr]; grind
          | 3 => simp only [sumB, pr]; grind
  | tu i =>
    match bs, h with
    | [b], h =>
      obtain ⟨P, O⟩ := hb b (.head _)
      have s1 := O.w.scale (k := 1) (by omega) (by decide) b1
      have s2 := O.h.scale (k := 1) (by omega) (by decide) b1
      refine ⟨1, by decide, b1, fun a ha => ?_, trivial, Nat.le_of_ble_eq_true rfl, Nat.le_of_ble_eq_true rfl, fun g => absurd rfl (g i)⟩
      have ha' : a ∈ [(⟨b.u, b.v, b.x, b.y⟩ : Bo)] := ha
      simp only [List.mem_cons, List.not_mem_nil, or_false] at ha'
      subst ha'
      exact ⟨⟨P.h, P.w⟩, ⟨s2.mono (by omega), s1.mono (by omega)⟩⟩
/-! ### sums over a yard -/
theorem numB_bo : ∀ (bs : List Bo) (u : Int), (numB u bs).map (·.2) = bs
  | [], _ => rfl
  | b :: bs, u => by rw [numB, List.map_cons, numB_bo bs]
theorem sumB_del (f : Bo → Rat) {i : Int} {b : Bo} : ∀ L : Lst, L.Pairwise (fun p q => p.1 < q.1) → getB L i = some b → sumB f ((delB L i).map (·.2)) + f b = sumB f (L.map (·.2))
  | [], _, h => nomatch h
  | p :: L, hp, h => by
    obtain ⟨h1, h2⟩ := List.pairwise_cons.mp hp
    by_cases c : p.1 = i
    · have e : getB (p :: L) i = some p.2 := by
        unfold getB
        rw [List.find?_cons_of_pos (by simpa using c)]; rfl
      rw [e] at h
      cases h
      have d : delB (p :: L) i = L := by
        unfold delB
        rw [List.filter_cons_of_neg (by simpa using c)]
        exact List.filter_eq_self.mpr fun q hq => by
          have := h1 q hq
          simp
          omega
      rw [d, List.map_cons, sumB]
      grind
    · have e : getB (p :: L) i = getB L i := by
        unfold getB
        rw [List.find?_cons_of_neg (by simpa using c)]
      rw [e] at h
      have d : delB (p :: L) i = p :: delB L i := by
        unfold delB
        rw [List.filter_cons_of_pos (by simpa using c)]
      have ih := sumB_del f L h2 h
      rw [d, List.map_cons, List.map_cons, sumB, sumB]
      grind
theorem delB_len {i : Int} {b : Bo} : ∀ L : Lst, L.Pairwise (fun p q => p.1 < q.1) → getB L i = some b → (delB L i).length + 1 = L.length
  | [], _, h => nomatch h
  | p :: L, hp, h => by
    obtain ⟨h1, h2⟩ := List.pairwise_cons.mp hp
    by_cases c : p.1 = i
    · have d : delB (p :: L) i = L := by
        unfold delB
        rw [List.filter_cons_of_neg (by simpa using c)]
        exact List.filter_eq_self.mpr fun q hq => by
          have := h1 q hq
          simp
          omega
      rw [d, List.length_cons]
    · have e : getB (p :: L) i = getB L i := by
        unfold getB
        rw [List.find?_cons_of_neg (by simpa using c)]
      rw [e] at h
      have d : delB (p :: L) i = p :: delB L i := by
        unfold delB
        rw [List.filter_cons_of_pos (by simpa using c)]
      have ih := delB_len L h2 h
      rw [d, List.length_cons, List.length_cons]
      omega
def bosL (L : Lst) : List Bo := L.map (·.2)
theorem delAll_1 {L : Lst} {δ : De} {i : Int} (h : δ.names = [i]) : delAll L δ.names = delB L i := by rw [h]; rfl
theorem at_facts {L : Lst} {u : Int} (ha : Asc L u) {δ : De} {bs : List Bo} (h : δ.at_ L bs) : (∀ f : Bo → Rat, sumB f (bosL (delAll L δ.names)) + sumB f bs = sumB f (bosL L)) ∧ Asc (delAll L δ.names) u ∧ (∀ p ∈ delAll L δ.names, p ∈ L) ∧ (delAll L δ.names).length + bs.length = L.length ∧ (∀ b ∈ bs, ∃ i, (i, b) ∈ L) := by
  unfold De.at_ at h
  match hn : δ.names, bs, h with
  | [i], [b], h =>
    have h : getB L i = some b := h
    have e : delAll L [i] = delB L i := rfl
    rw [e]
    refine ⟨fun f => ?_, ha.del i, fun p hp => (List.mem_filter.mp hp).1, ?_, fun c hc => ?_⟩
    · have := sumB_del f L ha.1 h
      unfold bosL
      rw [sumB, sumB]
      grind
    · have := delB_len L ha.1 h
      simpa using this
    · rw [List.mem_singleton] at hc
      subst hc
      exact ⟨i, getB_mem h⟩
  | [i, j], [b, c], h =>
    obtain ⟨h1, h2, h3⟩ := h
    have h2' : getB (delB L i) j = some c := by rw [getB_del h3]; exact h2
    have e : delAll L [i, j] = delB (delB L i) j := rfl
    rw [e]
    refine ⟨fun f => ?_, (ha.del i).del j, fun p hp => (List.mem_filter.mp (List.mem_filter.mp hp).1).1, ?_, fun a hc => ?_⟩
    · have a1 := sumB_del f L ha.1 h1
      have a2 := sumB_del f (delB L i) (ha.del i).1 h2'
      unfold bosL
      rw [sumB, sumB, sumB]
      grind
    · have a1 := delB_len L ha.1 h1
      have a2 := delB_len (delB L i) (ha.del i).1 h2'
      simp only [List.length_cons, List.length_nil]
      omega
    · simp only [List.mem_cons, List.not_mem_nil, or_false] at hc
      rcases hc with rfl | rfl
      · exact ⟨i, getB_mem h1⟩
      · exact ⟨j, getB_mem h2⟩
/-- a yard whose boards are above 0, over one bottom -/
structure YI (d : Int) (pool : List (Rat × Rat)) (L : Lst) (u D : Int) (j n : Nat) : Prop where
  asc : Asc L u
  u0 : 0 ≤ u
  ne : L ≠ []
  D0 : 0 < D
  bD : Bd D j
  bos : ∀ p ∈ L, PosB d p.2 ∧ OvB D n p.2
  pool : ∀ p ∈ pool, PosQ d p.1 p.2 ∧ Ov D n p.1 p.2
/-- the yard behind a deed -/
def nextL (L : Lst) (u : Int) (δ : De) (bs : List Bo) : Lst := delAll L δ.names ++ numB u (δ.new bs)
theorem OvB.bw {D : Int} {n j : Nat} {b : Bo} (hD : 0 < D) (bD : Bd D j) (h : OvB D n b) : BW b n j := ⟨h.w.bl hD bD, h.h.bl hD bD⟩
theorem YI.step {d : Int} (hd : Root d) {pool : List (Rat × Rat)} {L : Lst} {u D : Int} {j n : Nat} (I : YI d pool L u D j n) {δ : De} {bs : List Bo} (hA : δ.at_ L bs) (hδ : δ.drawn d pool bs) :
    ∃ D' : Int, YI d pool (nextL L u δ bs) (u + (δ.new bs).length) D' (j + 14) (n + 28) ∧ δ.bits (n + 28) (j + 14) ∧ (∀ b ∈ bs, BW b (n + 28) (j + 14)) ∧ (nextL L u δ bs).length ≤ L.length + 1 ∧ ((∀ i, δ ≠ .tu i) → ∀ c, sumB (pr c) (bosL (nextL L u δ bs)) = sumB (pr c) (bosL L)) := by
  obtain ⟨f1, f2, f3, f4, f5⟩ := at_facts I.asc hA
  have hb : ∀ b ∈ bs, PosB d b ∧ OvB D n b := fun b hb => by
    obtain ⟨i, hi⟩ := f5 b hb
    exact I.bos _ hi
  obtain ⟨k, k0, bk, g1, g2, g3, g4, g5⟩ := step_new hd hδ I.D0 I.bD hb fun p hp => (I.pool p hp).2
  have hD0 := I.D0
  have hDk : 0 < D * k := Int.mul_pos hD0 k0
  have bD := I.bD
  have hbs : 1 ≤ bs.length := by
    cases bs with
    | nil => cases δ <;> exact absurd hδ id
    | cons b bs => simp
  have i1 : Asc (nextL L u δ bs) (u + (δ.new bs).length) := f2.put I.u0 _
  have i2 : ∀ p ∈ nextL L u δ bs, PosB d p.2 ∧ OvB (D * k) (n + 28) p.2 := fun p hp => by
    rcases List.mem_append.mp hp with hp | hp
    · obtain ⟨P, O⟩ := I.bos p (f3 p hp)
      exact ⟨P, ⟨(O.w.scale (by omega) (by omega) bk).mono (by omega), (O.h.scale (by omega) (by omega) bk).mono (by omega)⟩⟩
    · exact g1 _ (numB_mem _ _ _ hp).2.2
  refine ⟨D * k, ⟨i1, by have := I.u0; omega, ?_, hDk, inferInstance, i2, fun p hp => ⟨(I.pool p hp).1, ((I.pool p hp).2.scale (by omega) (by omega) bk).mono (by omega)⟩⟩, g2, fun b hb' => ?_, ?_, fun ht c => ?_⟩
  · intro e
    have := congrArg List.length e
    unfold nextL at this
    rw [List.length_append, numB_len] at this
    simp only [List.length_nil] at this
    omega
  · have w := OvB.bw I.D0 I.bD (hb b hb').2
    exact ⟨w.w.mono (by omega) (by omega), w.h.mono (by omega) (by omega)⟩
  · unfold nextL
    rw [List.length_append, numB_len]
    omega
  · have a1 := f1 (pr c)
    have a2 := g5 ht c
    have a3 := sumB_app (pr c) (bosL (delAll L δ.names)) (δ.new bs)
    have e : bosL (nextL L u δ bs) = bosL (delAll L δ.names) ++ δ.new bs := by
      unfold bosL nextL
      rw [List.map_append, numB_bo]
    rw [e, a3, a2]
    exact a1
end DL

set_option autoImplicit false
set_option linter.all false
/-! plain arithmetic: the row of bases, in whole numbers -/
namespace MB
def PZ (d a b : Int) : Prop := PosQ d (a : Rat) (b : Rat)
section
variable {d : Int} {a b a' b' m : Int}
theorem pz_add (hd : Root d) (h : PZ d a b) (g : PZ d a' b') : PZ d (a + a') (b + b') := by
  have := posQ_add hd h g
  unfold PZ
  rw [Rat.intCast_add, Rat.intCast_add]
  exact this
theorem pz_mul (hd : Root d) (hm : 0 < m) (h : PZ d a b) : PZ d (m * a) (m * b) := by
  have := (posQ_scale hd (x := (a : Rat)) (y := (b : Rat)) (Rat.intCast_pos.mpr hm)).mpr h
  unfold PZ
  rw [Rat.intCast_mul, Rat.intCast_mul, Rat.mul_comm, Rat.mul_comm (m : Rat)]
  exact this
theorem pz_zero : ¬ PZ d 0 0 := by
  intro h
  unfold PZ PosQ at h
  have e : ((0 : Int) : Rat) = 0 := rfl
  rw [e] at h
  rcases h with ⟨_, h⟩ | ⟨_, h⟩ <;> exact absurd h (by decide)
theorem pz_asym (hd : Root d) (h : PZ d a b) (g : PZ d (-a) (-b)) : False := by
  have := pz_add hd h g
  rw [Int.add_right_neg, Int.add_right_neg] at this
  exact pz_zero this
theorem pz_tri (hd : Root d) (h : ¬ PZ d a b) (h2 : ¬ (a = 0 ∧ b = 0)) : PZ d (-a) (-b) := by
  have := posQ_tri hd h (by
    rintro ⟨x, y⟩
    exact h2 ⟨by exact_mod_cast x, by exact_mod_cast y⟩)
  unfold PZ
  rw [Rat.intCast_neg, Rat.intCast_neg]
  exact this
/-- a sum with factors from 0 on, one above it -/
theorem pz_lin (hd : Root d) {i j x y u v : Int} (hp : PZ d x y) (hq : PZ d u v) (hi : 0 ≤ i) (hj : 0 ≤ j) (h : ¬ (i = 0 ∧ j = 0)) : PZ d (i * x + j * u) (i * y + j * v) := by
  by_cases i0 : i = 0
  · subst i0
    have := pz_mul hd (m := j) (by omega) hq
    simpa using this
  · by_cases j0 : j = 0
    · subst j0
      have := pz_mul hd (m := i) (by omega) hp
      simpa using this
    · exact pz_add hd (pz_mul hd (by omega) hp) (pz_mul hd (by omega) hq)
end
/-- a base by whole numbers: its lengths are (X + Y * root d) / N and (U + V * root d) / N -/
structure Ba where
  X : Int
  Y : Int
  U : Int
  V : Int
structure BaI (d : Int) (b : Ba) : Prop where
  x : b.X ≤ 0
  y : 0 < b.Y
  u : 0 < b.U
  v : b.V ≤ 0
  det : b.X * b.V - b.Y * b.U = -1
  p : PZ d b.X b.Y
  q : PZ d b.U b.V
open Classical in
noncomputable def Ba.nxt (d : Int) (b : Ba) : Ba := if PZ d (b.X - b.U) (b.Y - b.V) then ⟨b.X - b.U, b.Y - b.V, b.U, b.V⟩ else ⟨b.X, b.Y, b.U - b.X, b.V - b.Y⟩
def Ba.fst : Ba := ⟨0, 1, 1, 0⟩
noncomputable def Ba.at (d : Int) : Nat → Ba
  | 0 => .fst
  | n + 1 => (Ba.at d n).nxt d
/-- the counts -/
def Ba.I (b : Ba) (A B : Int) : Int := B * b.U - A * b.V
def Ba.J (b : Ba) (A B : Int) : Int := A * b.Y - B * b.X
section
variable {d : Int} {b : Ba} {A B : Int}
theorem BaI.fst (hd : Root d) : BaI d .fst := by
  have hD := hd.posQ
  refine ⟨by decide, by decide, by decide, by decide, by decide, ?_, ?_⟩
  · right
    show (((0 : Int) : Rat)) * ((0 : Int) : Rat) < (d : Rat) * ((1 : Int) : Rat) * ((1 : Int) : Rat) ∧ (0 : Rat) < ((1 : Int) : Rat)
    have e0 : ((0 : Int) : Rat) = 0 := rfl
    have e1 : ((1 : Int) : Rat) = 1 := rfl
    rw [e0, e1]
    constructor
    · grind
    · decide
  · left
    show (d : Rat) * ((0 : Int) : Rat) * ((0 : Int) : Rat) < ((1 : Int) : Rat) * ((1 : Int) : Rat) ∧ (0 : Rat) < ((1 : Int) : Rat)
    have e0 : ((0 : Int) : Rat) = 0 := rfl
    have e1 : ((1 : Int) : Rat) = 1 := rfl
    rw [e0, e1]
    constructor
    · grind
    · decide
theorem BaI.ne (h : BaI d b) : ¬ (b.X - b.U = 0 ∧ b.Y - b.V = 0) := by
  rintro ⟨z, _⟩
  have := h.x
  have := h.u
  omega
theorem nxt_pos (h : PZ d (b.X - b.U) (b.Y - b.V)) : b.nxt d = ⟨b.X - b.U, b.Y - b.V, b.U, b.V⟩ := if_pos h
theorem nxt_neg (h : ¬ PZ d (b.X - b.U) (b.Y - b.V)) : b.nxt d = ⟨b.X, b.Y, b.U - b.X, b.V - b.Y⟩ := if_neg h
theorem BaI.lt (hd : Root d) (h : BaI d b) (c : ¬ PZ d (b.X - b.U) (b.Y - b.V)) : PZ d (b.U - b.X) (b.V - b.Y) := by
  have := pz_tri hd c h.ne
  rw [Int.neg_sub, Int.neg_sub] at this
  exact this
theorem BaI.nxt (hd : Root d) (h : BaI d b) : BaI d (b.nxt d) := by
  obtain ⟨h1, h2, h3, h4, h5, h6, h7⟩ := h
  have h : BaI d b := ⟨h1, h2, h3, h4, h5, h6, h7⟩
  by_cases c : PZ d (b.X - b.U) (b.Y - b.V)
  · rw [nxt_pos c]
    refine ⟨by show b.X - b.U ≤ 0; omega, by show 0 < b.Y - b.V; omega, h3, h4, ?_, c, h7⟩
    show (b.X - b.U) * b.V - (b.Y - b.V) * b.U = -1
    grind
  · rw [nxt_neg c]
    refine ⟨h1, h2, by show 0 < b.U - b.X; omega, by show b.V - b.Y ≤ 0; omega, ?_, h6, h.lt hd c⟩
    show b.X * (b.V - b.Y) - b.Y * (b.U - b.X) = -1
    grind
theorem BaI.at (hd : Root d) : ∀ n, BaI d (Ba.at d n)
  | 0 => BaI.fst hd
  | n + 1 => (BaI.at hd n).nxt hd
theorem BaI.sumA (h : BaI d b) : A = b.I A B * b.X + b.J A B * b.U := by
  unfold Ba.I Ba.J
  have := h.det
  grind
theorem BaI.sumB (h : BaI d b) : B = b.I A B * b.Y + b.J A B * b.V := by
  unfold Ba.I Ba.J
  have := h.det
  grind
theorem nxt_pos_I (h : PZ d (b.X - b.U) (b.Y - b.V)) : (b.nxt d).I A B = b.I A B ∧ (b.nxt d).J A B = b.I A B + b.J A B := by
  rw [nxt_pos h]
  unfold Ba.I Ba.J
  dsimp only
  constructor <;> grind
theorem nxt_neg_I (h : ¬ PZ d (b.X - b.U) (b.Y - b.V)) : (b.nxt d).I A B = b.I A B + b.J A B ∧ (b.nxt d).J A B = b.J A B := by
  rw [nxt_neg h]
  unfold Ba.I Ba.J
  dsimp only
  constructor <;> grind
/-- it serves -/
def Sv (b : Ba) (A B : Int) : Prop := 0 ≤ b.I A B ∧ 0 ≤ b.J A B
instance : Decidable (Sv b A B) := by unfold Sv; infer_instance
theorem Sv.nxt (h : Sv b A B) : Sv (b.nxt d) A B := by
  obtain ⟨h1, h2⟩ := h
  by_cases c : PZ d (b.X - b.U) (b.Y - b.V)
  · have e := nxt_pos_I (A := A) (B := B) c
    exact ⟨by omega, by omega⟩
  · have e := nxt_neg_I (A := A) (B := B) c
    exact ⟨by omega, by omega⟩
/-- a length above nought has a count above nought -/
theorem BaI.some (hd : Root d) (h : BaI d b) (hp : PZ d A B) : 0 < b.I A B ∨ 0 < b.J A B := by
  by_cases c : 0 < b.I A B ∨ 0 < b.J A B
  · exact c
  · exfalso
    have eA := h.sumA (A := A) (B := B)
    have eB := h.sumB (A := A) (B := B)
    by_cases z : b.I A B = 0 ∧ b.J A B = 0
    · rw [z.1, z.2] at eA eB
      simp at eA eB
      subst eA eB
      exact pz_zero hp
    · have := pz_lin hd (i := - b.I A B) (j := - b.J A B) h.p h.q (by omega) (by omega) (by omega)
      refine pz_asym hd hp ?_
      have e1 : -A = -b.I A B * b.X + -b.J A B * b.U := by
        have : -b.I A B * b.X + -b.J A B * b.U = -(b.I A B * b.X + b.J A B * b.U) := by grind
        rw [this, ← eA]
      have e2 : -B = -b.I A B * b.Y + -b.J A B * b.V := by
        have : -b.I A B * b.Y + -b.J A B * b.V = -(b.I A B * b.Y + b.J A B * b.V) := by grind
        rw [this, ← eB]
      rw [e1, e2]
      exact this
/-- how far it is from being served -/
def ms (b : Ba) (A B : Int) : Nat := if Sv b A B then 0 else (b.I A B).natAbs + (b.J A B).natAbs
theorem ms_nxt (hd : Root d) (h : BaI d b) (hp : PZ d A B) : ms (b.nxt d) A B ≤ ms b A B ∧ (¬ Sv b A B → ms (b.nxt d) A B < ms b A B) := by
  by_cases s : Sv b A B
  · have s' := s.nxt (d := d)
    unfold ms
    rw [if_pos s, if_pos s']
    exact ⟨Nat.le_refl _, fun n => absurd s n⟩
  · have pos := h.some hd hp
    have eA := h.sumA (A := A) (B := B)
    have eB := h.sumB (A := A) (B := B)
    have key : ms (b.nxt d) A B < ms b A B := by
      unfold ms
      rw [if_neg s]
      unfold Sv at s
      by_cases c : PZ d (b.X - b.U) (b.Y - b.V)
      · obtain ⟨e1, e2⟩ := nxt_pos_I (A := A) (B := B) c
        split
        · omega
        · rename_i s'
          unfold Sv at s'
          rw [e1, e2] at s' ⊢
          by_cases hI : b.I A B < 0
          · -- the second one is greater
            have hJ : -b.I A B < b.J A B := by
              refine Int.lt_of_not_ge fun z => ?_
              have t := pz_lin hd (i := - b.I A B) (j := -b.I A B - b.J A B) c h.q (by omega) (by omega) (by omega)
              refine pz_asym hd hp ?_
              have z1 : -A = -b.I A B * (b.X - b.U) + (-b.I A B - b.J A B) * b.U := by
                have : -b.I A B * (b.X - b.U) + (-b.I A B - b.J A B) * b.U = -(b.I A B * b.X + b.J A B * b.U) := by grind
                rw [this, ← eA]
              have z2 : -B = -b.I A B * (b.Y - b.V) + (-b.I A B - b.J A B) * b.V := by
                have : -b.I A B * (b.Y - b.V) + (-b.I A B - b.J A B) * b.V = -(b.I A B * b.Y + b.J A B * b.V) := by grind
                rw [this, ← eB]
              rw [z1, z2]
              exact t
            omega
          · omega
      · obtain ⟨e1, e2⟩ := nxt_neg_I (A := A) (B := B) c
        have c' := h.lt hd c
        split
        · omega
        · rename_i s'
          unfold Sv at s'
          rw [e1, e2] at s' ⊢
          by_cases hJ : b.J A B < 0
          · have hI : -b.J A B < b.I A B := by
              refine Int.lt_of_not_ge fun z => ?_
              have t := pz_lin hd (i := - b.J A B) (j := -b.J A B - b.I A B) c' h.p (by omega) (by omega) (by omega)
              refine pz_asym hd hp ?_
              have z1 : -A = -b.J A B * (b.U - b.X) + (-b.J A B - b.I A B) * b.X := by
                have : -b.J A B * (b.U - b.X) + (-b.J A B - b.I A B) * b.X = -(b.I A B * b.X + b.J A B * b.U) := by grind
                rw [this, ← eA]
              have z2 : -B = -b.J A B * (b.V - b.Y) + (-b.J A B - b.I A B) * b.Y := by
                have : -b.J A B * (b.V - b.Y) + (-b.J A B - b.I A B) * b.Y = -(b.I A B * b.Y + b.J A B * b.V) := by grind
                rw [this, ← eB]
              rw [z1, z2]
              exact t
            omega
          · omega
    exact ⟨Nat.le_of_lt key, fun _ => key⟩
/-- while a length isn't served, the base's numbers are not above its own -/
theorem BaI.bnd (hd : Root d) (h : BaI d b) (hp : PZ d A B) (s : ¬ Sv b A B) : -b.X + b.U ≤ A.natAbs ∧ b.Y - b.V ≤ B.natAbs ∧ 0 ≤ -b.X ∧ 0 < b.U ∧ 0 < b.Y ∧ 0 ≤ -b.V := by
  have eA := h.sumA (A := A) (B := B)
  have eB := h.sumB (A := A) (B := B)
  have pos := h.some hd hp
  have h1 := h.x
  have h2 := h.y
  have h3 := h.u
  have h4 := h.v
  unfold Sv at s
  generalize b.I A B = I at *
  generalize b.J A B = J at *
  refine ⟨?_, ?_, by omega, h3, h2, by omega⟩
  · by_cases hI : I < 0
    · have g1 : 1 * (-b.X) ≤ (-I) * (-b.X) := Int.mul_le_mul_of_nonneg_right (by omega) (by omega)
      have g2 : 1 * b.U ≤ J * b.U := Int.mul_le_mul_of_nonneg_right (by omega) (by omega)
      have e : (-I) * (-b.X) = I * b.X := by grind
      omega
    · have g1 : 1 * (-b.X) ≤ I * (-b.X) := Int.mul_le_mul_of_nonneg_right (by omega) (by omega)
      have g2 : 1 * b.U ≤ (-J) * b.U := Int.mul_le_mul_of_nonneg_right (by omega) (by omega)
      have e : I * (-b.X) = -(I * b.X) := by grind
      have e2 : (-J) * b.U = -(J * b.U) := by grind
      omega
  · by_cases hI : I < 0
    · have g1 : 1 * b.Y ≤ (-I) * b.Y := Int.mul_le_mul_of_nonneg_right (by omega) (by omega)
      have g2 : 1 * (-b.V) ≤ J * (-b.V) := Int.mul_le_mul_of_nonneg_right (by omega) (by omega)
      have e : (-I) * b.Y = -(I * b.Y) := by grind
      have e2 : J * (-b.V) = -(J * b.V) := by grind
      omega
    · have g1 : 1 * b.Y ≤ I * b.Y := Int.mul_le_mul_of_nonneg_right (by omega) (by omega)
      have g2 : 1 * (-b.V) ≤ (-J) * (-b.V) := Int.mul_le_mul_of_nonneg_right (by omega) (by omega)
      have e : (-J) * (-b.V) = J * b.V := by grind
      omega
end
/-! several lengths -/
def SvA (b : Ba) (l : List (Int × Int)) : Prop := ∀ p ∈ l, Sv b p.1 p.2
def msA (b : Ba) (l : List (Int × Int)) : Nat := (l.map fun p => ms b p.1 p.2).sum
theorem sum_le {α : Type} {f g : α → Nat} : ∀ {l : List α}, (∀ x ∈ l, f x ≤ g x) → (l.map f).sum ≤ (l.map g).sum
  | [], _ => Nat.le_refl _
  | x :: l, h => by
    have h1 := h x (.head _)
    have h2 := sum_le (l := l) fun y hy => h y (.tail _ hy)
    simp only [List.map_cons, List.sum_cons]
    omega
theorem sum_lt {α : Type} {f g : α → Nat} : ∀ {l : List α}, (∀ x ∈ l, f x ≤ g x) → (∃ x ∈ l, f x < g x) → (l.map f).sum < (l.map g).sum
  | [], _, ⟨x, hx, _⟩ => nomatch hx
  | x :: l, h, ⟨y, hy, hlt⟩ => by
    have h1 := h x (.head _)
    simp only [List.map_cons, List.sum_cons]
    rcases List.mem_cons.mp hy with rfl | hy
    · have h2 := sum_le (l := l) fun y hy => h y (.tail _ hy)
      omega
    · have h2 := sum_lt (l := l) (fun y hy => h y (.tail _ hy)) ⟨y, hy, hlt⟩
      omega
section
variable {d : Int} {b : Ba} {l : List (Int × Int)}
theorem SvA.nxt (h : SvA b l) : SvA (b.nxt d) l := fun p hp => (h p hp).nxt
theorem SvA.at {n : Nat} (h : SvA (Ba.at d n) l) : ∀ m, n ≤ m → SvA (Ba.at d m) l := by
  intro m hm
  induction m with
  | zero => have : n = 0 := by omega
            subst this; exact h
  | succ m ih =>
    by_cases e : n = m + 1
    · subst e; exact h
    · exact SvA.nxt (d := d) (ih (by omega))
theorem msA_nxt (hd : Root d) (h : BaI d b) (hp : ∀ p ∈ l, PZ d p.1 p.2) (s : ¬ SvA b l) : msA (b.nxt d) l < msA b l := by
  refine sum_lt (fun p hm => (ms_nxt hd h (hp p hm)).1) ?_
  refine Classical.byContradiction fun n => s fun p hm => ?_
  refine Classical.byContradiction fun z => n ⟨p, hm, (ms_nxt hd h (hp p hm)).2 z⟩
/-- some base of the row serves -/
theorem serves_in (hd : Root d) (hp : ∀ p ∈ l, PZ d p.1 p.2) : ∀ (k n : Nat), msA (Ba.at d n) l ≤ k → ∃ m, SvA (Ba.at d (n + m)) l := by
  intro k
  induction k with
  | zero =>
    intro n hk
    refine ⟨0, Classical.byContradiction fun s => ?_⟩
    have := msA_nxt hd (BaI.at hd n) hp s
    omega
  | succ k ih =>
    intro n hk
    by_cases s : SvA (Ba.at d n) l
    · exact ⟨0, s⟩
    · have z := msA_nxt hd (BaI.at hd n) hp s
      obtain ⟨m, hm⟩ := ih (n + 1) (by show msA ((Ba.at d n).nxt d) l ≤ k; omega)
      exact ⟨m + 1, by rw [show n + (m + 1) = n + 1 + m by omega]; exact hm⟩
theorem serves (hd : Root d) (hp : ∀ p ∈ l, PZ d p.1 p.2) : ∃ n, SvA (Ba.at d n) l := by
  obtain ⟨m, hm⟩ := serves_in hd hp _ 0 (Nat.le_refl _)
  rw [Nat.zero_add] at hm
  exact ⟨m, hm⟩
end
/-- the least number at which a property holds -/
theorem least {P : Nat → Prop} (h : ∃ n, P n) : ∃ n, P n ∧ ∀ m, m < n → ¬ P m := by
  obtain ⟨n, hn⟩ := h
  induction n using Nat.strongRecOn with
  | ind n ih =>
    by_cases z : ∃ m, m < n ∧ P m
    · obtain ⟨m, h1, h2⟩ := z
      exact ih m h1 h2
    · exact ⟨n, hn, fun m hm hp => z ⟨m, hm, hp⟩⟩
open Classical in
/-- how far along the row the first base is that serves -/
noncomputable def far (d : Int) (l : List (Int × Int)) : Nat := if h : ∃ n, SvA (Ba.at d n) l then Classical.choose (least h) else 0
section
variable {d : Int} {l : List (Int × Int)}
theorem far_ok (hd : Root d) (hp : ∀ p ∈ l, PZ d p.1 p.2) : SvA (Ba.at d (far d l)) l ∧ ∀ m, m < far d l → ¬ SvA (Ba.at d m) l := by
  have h := serves hd hp
  unfold far
  rw [dif_pos h]
  exact Classical.choose_spec (least h)
/-- up to that base the row's numbers are bounded -/
theorem far_bnd (hd : Root d) (hp : ∀ p ∈ l, PZ d p.1 p.2) {K : Int} (hK : ∀ p ∈ l, (p.1.natAbs : Int) ≤ K ∧ (p.2.natAbs : Int) ≤ K) (hK1 : 1 ≤ K) {n : Nat} (hn : n ≤ far d l) :
    (Ba.at d n).X.natAbs ≤ 2 * K ∧ (Ba.at d n).Y.natAbs ≤ 2 * K ∧ (Ba.at d n).U.natAbs ≤ 2 * K ∧ (Ba.at d n).V.natAbs ≤ 2 * K := by
  cases n with
  | zero =>
    show ((0 : Int).natAbs : Int) ≤ 2 * K ∧ ((1 : Int).natAbs : Int) ≤ 2 * K ∧ ((1 : Int).natAbs : Int) ≤ 2 * K ∧ ((0 : Int).natAbs : Int) ≤ 2 * K
    simp
    omega
  | succ n =>
    have s := (far_ok hd hp).2 n (by omega)
    have hb := BaI.at hd n
    obtain ⟨p, hm, hs⟩ : ∃ p ∈ l, ¬ Sv (Ba.at d n) p.1 p.2 := Classical.byContradiction fun z => s fun p hm => Classical.byContradiction fun w => z ⟨p, hm, w⟩
    have t := hb.bnd hd (hp p hm) hs
    obtain ⟨k1, k2⟩ := hK p hm
    show (((Ba.at d n).nxt d).X.natAbs : Int) ≤ _ ∧ (((Ba.at d n).nxt d).Y.natAbs : Int) ≤ _ ∧ (((Ba.at d n).nxt d).U.natAbs : Int) ≤ _ ∧ (((Ba.at d n).nxt d).V.natAbs : Int) ≤ _
    by_cases c : PZ d ((Ba.at d n).X - (Ba.at d n).U) ((Ba.at d n).Y - (Ba.at d n).V)
    · rw [nxt_pos c]
      dsimp only
      omega
    · rw [nxt_neg c]
      dsimp only
      omega
end
end MB

set_option Elab.async false
set_option linter.all false
set_option maxRecDepth 100000
set_option maxHeartbeats 1000000
set_option autoImplicit false
/-! the first base that serves -/
namespace DL
open PySem L2 MB
theorem ln_inj' {x y u v : Rat} (h : qA x y = qA u v ∧ qB x y = qB u v ∧ qN x y = qN u v) : x = u ∧ y = v := by
  have v1 := q_val x y
  have v2 := q_val u v
  have n1 := qN_ne x y
  rw [h.1, h.2.2] at v1
  rw [h.2.1] at v1
  have n2 := qN_ne u v
  constructor <;> grind
theorem lnD_injb {x y u v : Rat} : (qA x y = qA u v ∧ qB x y = qB u v ∧ qN x y = qN u v) ↔ (x = u ∧ y = v) := ⟨ln_inj', fun ⟨h1, h2⟩ => by subst h1 h2; exact ⟨rfl, rfl, rfl⟩⟩
theorem gEq_ln (x y u v : Rat) : gEq (lnD x y) (lnD u v) = .ok (.bool (decide (x = u ∧ y = v))) := by
  show gEq (.tuple [.int _, .int _, .int _]) (.tuple [.int _, .int _, .int _]) = _
  rw [gEq_3]
  congr 2
  exact decide_eq_decide.mpr lnD_injb
theorem gNe_ln (x y u v : Rat) : gNe (lnD x y) (lnD u v) = .ok (.bool (!decide (x = u ∧ y = v))) := by
  show gNe (.tuple [.int _, .int _, .int _]) (.tuple [.int _, .int _, .int _]) = _
  rw [gNe_3]
  congr 3
  exact decide_eq_decide.mpr lnD_injb
@[reducible] def lqD (A B N : Int) : PD := lnD ((A : Rat) / N) ((B : Rat) / N)
theorem lq_inj {A B C D N : Int} (hN : N ≠ 0) : ((A : Rat) / N = (C : Rat) / N ∧ (B : Rat) / N = (D : Rat) / N) ↔ (A = C ∧ B = D) := by
  have h := ratne hN
  constructor
  · rintro ⟨h1, h2⟩
    have e1 : (A : Rat) = (C : Rat) := by grind
    have e2 : (B : Rat) = (D : Rat) := by grind
    exact ⟨by exact_mod_cast e1, by exact_mod_cast e2⟩
  · rintro ⟨rfl, rfl⟩; exact ⟨rfl, rfl⟩
theorem posQ_lq {d : Int} (hd : Root d) {A B N : Int} (hN : 0 < N) : PosQ d ((A : Rat) / N) ((B : Rat) / N) ↔ PZ d A B := by
  have h := Rat.inv_pos.mpr (Rat.intCast_pos.mpr hN)
  have := posQ_scale hd (x := (A : Rat)) (y := (B : Rat)) h
  rw [Rat.div_def, Rat.div_def]
  exact this
theorem sub_lq {A C N : Int} : (A : Rat) / N - (C : Rat) / N = ((A - C : Int) : Rat) / N := by
  rw [Rat.intCast_sub]; grind
/-- a base by its whole numbers -/
@[reducible] def bqD (N : Int) (b : Ba) : PD := .tuple [lqD b.X b.Y N, lqD b.U b.V N]
structure BaB (b : Ba) (k : Nat) : Prop where
  x : Bd b.X k
  y : Bd b.Y k
  u : Bd b.U k
  v : Bd b.V k
theorem BaB.mono {b : Ba} {k l : Nat} (h : BaB b k) (hk : k ≤ l) : BaB b l := ⟨h.x.mono hk, h.y.mono hk, h.u.mono hk, h.v.mono hk⟩
theorem first_base_bq (d N : Int) (hN : N ≠ 0) {j : Nat} [Bd N j] (hj : j ≤ 9000) : m_first_base [.int d, .int N] = .ok (bqD N Ba.fst) := by
  have e1 := length_ln 0 1 N hN hj
  have e2 := length_ln 1 0 N hN hj
  simp +decide only [m_first_base, den_first_base, ev_seq, seq_nx, seq_rt, seq_ex, seq_bk, seq_ct, seq_ite, fl_ok, fl_ex, fl_ite, ev_set, kSet_ev, ev_ret, ev_nx, ev_raise, ev_if, kIf_ev, ev_par, kPar_ev, kId_ev, ev_asg, kAsg_ev, ev_for, kFor_ev, ev_V, dVg_ok, ev_C, ev_1, ev_2, bind2_ok, bind2_ite1, bind2_ite2, bind_ite, ev_A, ev_nil, ev_cons, kCons_ev, ev_T, toB_ev, ev_and, ev_or, ev_not, kAnd_ev, kOr_ev, kNot_ev, ev_andV, ev_notV, kAndV_ev, kNotV_ev, tup_ev, lst_ev, call_ev, ev_fn, startE_0, startE_s, startE_c, fin_rt, fin_nx, fin_ex, fin_ite, ix_t0, ix_t1, ix_t2, ix_t3, ix_l0, ix_l1, ix_l2, len_l, len_t1, len_t2, len_t3, len_t4, beq_self_eq_true, ev_iL, ev_iT, asL_ev, asT_ev, ev_iA, ev_P, toI_ev, ev_P0, ev_sl, kSl_ev, put_1, gAdd_i, gSub_i, gMul_i, gDiv_p, gMod_p, gPow_l, gShl_l, gShr_l, gLt_i, gLe_i, gGt_i, gGe_i, gEq_i, gNe_i, gAbs_i, gInt_i, gInt_b, gEq_s, gNe_s, gEq_b, gNe_b, gEq_2, gNe_2, gEq_3, gNe_3, gEq_22, gNe_22, DL.R.bind_ok, DL.R.bind_ex, ev_setL, kSetL_ev, ev_lDisp, kDisp_ev, ev_lList, lOf_l, lOf_t, ev_frz, frz_l, frz_d, frz_n, ev_lend, lend_l, lend_d, atom_i, atom_b, atom_s, ev_lendB, lendB_l, lendB_d, ev_app, app_l, kApp_ev, ev_put, put_l, ev_ixO, ixO_l, ixO_d, put_m, putAll_c, putAll_n, ev_lc, kLst_ev, ev_lcL, wipe_n, wipe_c, r1_2, r1_3, bits_ev, List.getElem?_cons_zero, List.getElem?_cons_succ, List.set_cons_zero, List.set_cons_succ, List.length_cons, List.length_nil, List.length_map, List.append_nil, List.cons_append, List.nil_append, ev_if, turn_nx, turn_ct, turn_bk, turn_rt, turn_ite, kWh_ev, isi_int_int, isi_bool_int, isi_int_bool, isi_bool_bool, isi_int_str, isi_int_none, isi_int_list, isi_int_tup, isi_bool_str, isi_bool_none, isi_bool_list, isi_bool_tup, isi_tup_tup, isi_tup_int, isi_tup_bool, isi_tup_str, isi_tup_none, isi_tup_list, isi_list_list, isi_list_tup, isi_list_int, isi_list_bool, isi_list_str, isi_list_none, isi_str_str, isi_str_int, isi_str_bool, isi_str_none, isi_str_list, isi_str_tup, decide_true, decide_false, not_true_eq_false, not_false_eq_true, ne_eq, decide_eq_true_eq, Bool.not_eq_true', decide_eq_false_iff_not, Bool.not_true, Bool.not_false, Bool.false_eq_true, if_true, if_false, reduceIte, e1, e2]
  rfl
theorem next_base_bq (d N : Int) (hd : Root d) (hN : 0 < N) [Bd d 7] {j k : Nat} [bN : Bd N j] (b : Ba) (hb : BaB b k) (hj : j ≤ 1900) (hk : k ≤ 3900) : m_next_base [.int d, bqD N b] = .ok (bqD N (b.nxt d)) := by
  have l1 := bl_of (a := b.X) (b := b.Y) (t := N) (by omega) hb.x hb.y bN
  have l2 := bl_of (a := b.U) (b := b.V) (t := N) (by omega) hb.u hb.v bN
  obtain ⟨w, ew, hw⟩ := under_bl ((b.U : Rat) / N) ((b.V : Rat) / N) ((b.X : Rat) / N) ((b.Y : Rat) / N) (by omega) (by omega) hk hk d hd
  rw [sub_lq, sub_lq, posQ_lq hd hN] at hw
  by_cases c : PZ d (b.X - b.U) (b.Y - b.V)
  · have hwt := hw.mpr c
    subst hwt
    have t := (taken_bl ((b.X : Rat) / N) ((b.Y : Rat) / N) ((b.U : Rat) / N) ((b.V : Rat) / N) (by omega) (by omega) (by omega)).1
    rw [sub_lq, sub_lq] at t
    rw [nxt_pos c]
    simp +decide only [m_next_base, den_next_base, ev_seq, seq_nx, seq_rt, seq_ex, seq_bk, seq_ct, seq_ite, fl_ok, fl_ex, fl_ite, ev_set, kSet_ev, ev_ret, ev_nx, ev_raise, ev_if, kIf_ev, ev_par, kPar_ev, kId_ev, ev_asg, kAsg_ev, ev_for, kFor_ev, ev_V, dVg_ok, ev_C, ev_1, ev_2, bind2_ok, bind2_ite1, bind2_ite2, bind_ite, ev_A, ev_nil, ev_cons, kCons_ev, ev_T, toB_ev, ev_and, ev_or, ev_not, kAnd_ev, kOr_ev, kNot_ev, ev_andV, ev_notV, kAndV_ev, kNotV_ev, tup_ev, lst_ev, call_ev, ev_fn, startE_0, startE_s, startE_c, fin_rt, fin_nx, fin_ex, fin_ite, ix_t0, ix_t1, ix_t2, ix_t3, ix_l0, ix_l1, ix_l2, len_l, len_t1, len_t2, len_t3, len_t4, beq_self_eq_true, ev_iL, ev_iT, asL_ev, asT_ev, ev_iA, ev_P, toI_ev, ev_P0, ev_sl, kSl_ev, put_1, gAdd_i, gSub_i, gMul_i, gDiv_p, gMod_p, gPow_l, gShl_l, gShr_l, gLt_i, gLe_i, gGt_i, gGe_i, gEq_i, gNe_i, gAbs_i, gInt_i, gInt_b, gEq_s, gNe_s, gEq_b, gNe_b, gEq_2, gNe_2, gEq_3, gNe_3, gEq_22, gNe_22, DL.R.bind_ok, DL.R.bind_ex, ev_setL, kSetL_ev, ev_lDisp, kDisp_ev, ev_lList, lOf_l, lOf_t, ev_frz, frz_l, frz_d, frz_n, ev_lend, lend_l, lend_d, atom_i, atom_b, atom_s, ev_lendB, lendB_l, lendB_d, ev_app, app_l, kApp_ev, ev_put, put_l, ev_ixO, ixO_l, ixO_d, put_m, putAll_c, putAll_n, ev_lc, kLst_ev, ev_lcL, wipe_n, wipe_c, r1_2, r1_3, bits_ev, List.getElem?_cons_zero, List.getElem?_cons_succ, List.set_cons_zero, List.set_cons_succ, List.length_cons, List.length_nil, List.length_map, List.append_nil, List.cons_append, List.nil_append, ev_if, turn_nx, turn_ct, turn_bk, turn_rt, turn_ite, kWh_ev, isi_int_int, isi_bool_int, isi_int_bool, isi_bool_bool, isi_int_str, isi_int_none, isi_int_list, isi_int_tup, isi_bool_str, isi_bool_none, isi_bool_list, isi_bool_tup, isi_tup_tup, isi_tup_int, isi_tup_bool, isi_tup_str, isi_tup_none, isi_tup_list, isi_list_list, isi_list_tup, isi_list_int, isi_list_bool, isi_list_str, isi_list_none, isi_str_str, isi_str_int, isi_str_bool, isi_str_none, isi_str_list, isi_str_tup, decide_true, decide_false, not_true_eq_false, not_false_eq_true, ne_eq, decide_eq_true_eq, Bool.not_eq_true', decide_eq_false_iff_not, Bool.not_true, Bool.not_false, Bool.false_eq_true, if_true, if_false, reduceIte, ew, t]
  · have hwf : w = false := by
      cases w with
      | false => rfl
      | true => exact absurd (hw.mp rfl) c
    subst hwf
    have t := (taken_bl ((b.U : Rat) / N) ((b.V : Rat) / N) ((b.X : Rat) / N) ((b.Y : Rat) / N) (by omega) (by omega) (by omega)).1
    rw [sub_lq, sub_lq] at t
    rw [nxt_neg c]
    simp +decide only [m_next_base, den_next_base, ev_seq, seq_nx, seq_rt, seq_ex, seq_bk, seq_ct, seq_ite, fl_ok, fl_ex, fl_ite, ev_set, kSet_ev, ev_ret, ev_nx, ev_raise, ev_if, kIf_ev, ev_par, kPar_ev, kId_ev, ev_asg, kAsg_ev, ev_for, kFor_ev, ev_V, dVg_ok, ev_C, ev_1, ev_2, bind2_ok, bind2_ite1, bind2_ite2, bind_ite, ev_A, ev_nil, ev_cons, kCons_ev, ev_T, toB_ev, ev_and, ev_or, ev_not, kAnd_ev, kOr_ev, kNot_ev, ev_andV, ev_notV, kAndV_ev, kNotV_ev, tup_ev, lst_ev, call_ev, ev_fn, startE_0, startE_s, startE_c, fin_rt, fin_nx, fin_ex, fin_ite, ix_t0, ix_t1, ix_t2, ix_t3, ix_l0, ix_l1, ix_l2, len_l, len_t1, len_t2, len_t3, len_t4, beq_self_eq_true, ev_iL, ev_iT, asL_ev, asT_ev, ev_iA, ev_P, toI_ev, ev_P0, ev_sl, kSl_ev, put_1, gAdd_i, gSub_i, gMul_i, gDiv_p, gMod_p, gPow_l, gShl_l, gShr_l, gLt_i, gLe_i, gGt_i, gGe_i, gEq_i, gNe_i, gAbs_i, gInt_i, gInt_b, gEq_s, gNe_s, gEq_b, gNe_b, gEq_2, gNe_2, gEq_3, gNe_3, gEq_22, gNe_22, DL.R.bind_ok, DL.R.bind_ex, ev_setL, kSetL_ev, ev_lDisp, kDisp_ev, ev_lList, lOf_l, lOf_t, ev_frz, frz_l, frz_d, frz_n, ev_lend, lend_l, lend_d, atom_i, atom_b, atom_s, ev_lendB, lendB_l, lendB_d, ev_app, app_l, kApp_ev, ev_put, put_l, ev_ixO, ixO_l, ixO_d, put_m, putAll_c, putAll_n, ev_lc, kLst_ev, ev_lcL, wipe_n, wipe_c, r1_2, r1_3, bits_ev, List.getElem?_cons_zero, List.getElem?_cons_succ, List.set_cons_zero, List.set_cons_succ, List.length_cons, List.length_nil, List.length_map, List.append_nil, List.cons_append, List.nil_append, ev_if, turn_nx, turn_ct, turn_bk, turn_rt, turn_ite, kWh_ev, isi_int_int, isi_bool_int, isi_int_bool, isi_bool_bool, isi_int_str, isi_int_none, isi_int_list, isi_int_tup, isi_bool_str, isi_bool_none, isi_bool_list, isi_bool_tup, isi_tup_tup, isi_tup_int, isi_tup_bool, isi_tup_str, isi_tup_none, isi_tup_list, isi_list_list, isi_list_tup, isi_list_int, isi_list_bool, isi_list_str, isi_list_none, isi_str_str, isi_str_int, isi_str_bool, isi_str_none, isi_str_list, isi_str_tup, decide_true, decide_false, not_true_eq_false, not_false_eq_true, ne_eq, decide_eq_true_eq, Bool.not_eq_true', decide_eq_false_iff_not, Bool.not_true, Bool.not_false, Bool.false_eq_true, if_true, if_false, reduceIte, ew, t]
theorem cross_bq (a b c e : Rat) {n m n' m' : Nat} [BR a n m] [BR b n m] [BR c n' m'] [BR e n' m'] (h : m + m' ≤ 4400) (h1 : n ≤ 1000000) (h2 : n' ≤ 1000000) : m_cross [.tuple [frD a, frD b], .tuple [frD c, frD e]] = .ok (frD (a * e - b * c)) := by
  have e1 := times_fr a e (by omega) (by omega) (by omega)
  have e2 := times_fr b c (by omega) (by omega) (by omega)
  have e3 := minus_fr (a * e) (b * c) (show m + m' + (m + m') ≤ 9000 by omega) (by omega) (by omega)
  simp +decide only [m_cross, den_cross, ev_seq, seq_nx, seq_rt, seq_ex, seq_bk, seq_ct, seq_ite, fl_ok, fl_ex, fl_ite, ev_set, kSet_ev, ev_ret, ev_nx, ev_raise, ev_if, kIf_ev, ev_par, kPar_ev, kId_ev, ev_asg, kAsg_ev, ev_for, kFor_ev, ev_V, dVg_ok, ev_C, ev_1, ev_2, bind2_ok, bind2_ite1, bind2_ite2, bind_ite, ev_A, ev_nil, ev_cons, kCons_ev, ev_T, toB_ev, ev_and, ev_or, ev_not, kAnd_ev, kOr_ev, kNot_ev, ev_andV, ev_notV, kAndV_ev, kNotV_ev, tup_ev, lst_ev, call_ev, ev_fn, startE_0, startE_s, startE_c, fin_rt, fin_nx, fin_ex, fin_ite, ix_t0, ix_t1, ix_t2, ix_t3, ix_l0, ix_l1, ix_l2, len_l, len_t1, len_t2, len_t3, len_t4, beq_self_eq_true, ev_iL, ev_iT, asL_ev, asT_ev, ev_iA, ev_P, toI_ev, ev_P0, ev_sl, kSl_ev, put_1, gAdd_i, gSub_i, gMul_i, gDiv_p, gMod_p, gPow_l, gShl_l, gShr_l, gLt_i, gLe_i, gGt_i, gGe_i, gEq_i, gNe_i, gAbs_i, gInt_i, gInt_b, gEq_s, gNe_s, gEq_b, gNe_b, gEq_2, gNe_2, gEq_3, gNe_3, gEq_22, gNe_22, DL.R.bind_ok, DL.R.bind_ex, ev_setL, kSetL_ev, ev_lDisp, kDisp_ev, ev_lList, lOf_l, lOf_t, ev_frz, frz_l, frz_d, frz_n, ev_lend, lend_l, lend_d, atom_i, atom_b, atom_s, ev_lendB, lendB_l, lendB_d, ev_app, app_l, kApp_ev, ev_put, put_l, ev_ixO, ixO_l, ixO_d, put_m, putAll_c, putAll_n, ev_lc, kLst_ev, ev_lcL, wipe_n, wipe_c, r1_2, r1_3, bits_ev, List.getElem?_cons_zero, List.getElem?_cons_succ, List.set_cons_zero, List.set_cons_succ, List.length_cons, List.length_nil, List.length_map, List.append_nil, List.cons_append, List.nil_append, ev_if, turn_nx, turn_ct, turn_bk, turn_rt, turn_ite, kWh_ev, isi_int_int, isi_bool_int, isi_int_bool, isi_bool_bool, isi_int_str, isi_int_none, isi_int_list, isi_int_tup, isi_bool_str, isi_bool_none, isi_bool_list, isi_bool_tup, isi_tup_tup, isi_tup_int, isi_tup_bool, isi_tup_str, isi_tup_none, isi_tup_list, isi_list_list, isi_list_tup, isi_list_int, isi_list_bool, isi_list_str, isi_list_none, isi_str_str, isi_str_int, isi_str_bool, isi_str_none, isi_str_list, isi_str_tup, decide_true, decide_false, not_true_eq_false, not_false_eq_true, ne_eq, decide_eq_true_eq, Bool.not_eq_true', decide_eq_false_iff_not, Bool.not_true, Bool.not_false, Bool.false_eq_true, if_true, if_false, reduceIte, e1, e2, e3]
theorem counts_bq (d : PD) (N : Int) (hN : 0 < N) {j k l : Nat} [bN : Bd N j] (b : Ba) (hb : BaB b k) {d' : Int} (hB : BaI d' b) (A B : Int) [bA : Bd A l] [bB : Bd B l] (hj : j ≤ 2000) (hk : k ≤ 100000) (hl : l ≤ 100000) : m_counts [d, bqD N b, lqD A B N] = .ok (.tuple [.int (b.I A B), .int (b.J A B)]) := by
  have hN' : N ≠ 0 := by omega
  have hNN : N * N ≠ 0 := Int.mul_ne_zero hN' hN'
  have r1 := br_frac hN' hb.x bN
  have r2 := br_frac hN' hb.y bN
  have r3 := br_frac hN' hb.u bN
  have r4 := br_frac hN' hb.v bN
  have r5 := br_frac hN' bA bN
  have r6 := br_frac hN' bB bN
  have p1 := parts_ln ((b.X : Rat) / N) ((b.Y : Rat) / N) (show j + j ≤ 9000 by omega)
  have p2 := parts_ln ((b.U : Rat) / N) ((b.V : Rat) / N) (show j + j ≤ 9000 by omega)
  have p3 := parts_ln ((A : Rat) / N) ((B : Rat) / N) (show j + j ≤ 9000 by omega)
  have c1 := cross_bq ((b.X : Rat) / N) ((b.Y : Rat) / N) ((b.U : Rat) / N) ((b.V : Rat) / N) (show j + j ≤ 4400 by omega) (by omega) (by omega)
  have c2 := cross_bq ((A : Rat) / N) ((B : Rat) / N) ((b.U : Rat) / N) ((b.V : Rat) / N) (show j + j ≤ 4400 by omega) (by omega) (by omega)
  have c3 := cross_bq ((b.X : Rat) / N) ((b.Y : Rat) / N) ((A : Rat) / N) ((B : Rat) / N) (show j + j ≤ 4400 by omega) (by omega) (by omega)
  have hr := ratne hN'
  have w1 : (b.X : Rat) / N * ((b.V : Rat) / N) - (b.Y : Rat) / N * ((b.U : Rat) / N) = ((-1 : Int) : Rat) / ((N * N : Int) : Rat) := by
    rw [← hB.det]
    simp only [Rat.intCast_mul, Rat.intCast_sub]
    grind
  have w2 : (A : Rat) / N * ((b.V : Rat) / N) - (B : Rat) / N * ((b.U : Rat) / N) = ((A * b.V - B * b.U : Int) : Rat) / ((N * N : Int) : Rat) := by
    simp only [Rat.intCast_mul, Rat.intCast_sub]
    grind
  have w3 : (b.X : Rat) / N * ((B : Rat) / N) - (b.Y : Rat) / N * ((A : Rat) / N) = ((b.X * B - b.Y * A : Int) : Rat) / ((N * N : Int) : Rat) := by
    simp only [Rat.intCast_mul, Rat.intCast_sub]
    grind
  rw [w1] at c1
  rw [w2] at c2
  rw [w3] at c3
  have b1 := hb.x; have b2 := hb.y; have b3 := hb.u; have b4 := hb.v
  have bM1 : Bd (-1 : Int) 1 := ⟨by decide⟩
  have s1 := br_frac hNN bM1 (show Bd (N * N) (j + j) from inferInstance)
  have s2 := br_frac hNN (show Bd (A * b.V - B * b.U) (l + k + 1) from Bd.mono inferInstance (by omega)) (show Bd (N * N) (j + j) from inferInstance)
  have s3 := br_frac hNN (show Bd (b.X * B - b.Y * A) (l + k + 1) from Bd.mono inferInstance (show max (k + l) (k + l) + 1 ≤ l + k + 1 by omega)) (show Bd (N * N) (j + j) from inferInstance)
  have hr2 := ratne hNN
  have q0 : ((-1 : Int) : Rat) / ((N * N : Int) : Rat) ≠ 0 := by
    intro z
    have e1 : ((-1 : Int) : Rat) = -1 := rfl
    rw [e1] at z
    grind
  have y1 := by_fr (((A * b.V - B * b.U : Int) : Rat) / ((N * N : Int) : Rat)) (((-1 : Int) : Rat) / ((N * N : Int) : Rat)) q0 (show j + j + 1 ≤ 9000 by omega) (by omega) (by omega)
  have y2 := by_fr (((b.X * B - b.Y * A : Int) : Rat) / ((N * N : Int) : Rat)) (((-1 : Int) : Rat) / ((N * N : Int) : Rat)) q0 (show j + j + 1 ≤ 9000 by omega) (by omega) (by omega)
  have z1 : ((A * b.V - B * b.U : Int) : Rat) / ((N * N : Int) : Rat) / (((-1 : Int) : Rat) / ((N * N : Int) : Rat)) = ((b.I A B : Int) : Rat) := by
    unfold Ba.I
    have e1 : ((-1 : Int) : Rat) = -1 := rfl
    rw [e1]
    simp only [Rat.intCast_sub]
    grind
  have z2 : ((b.X * B - b.Y * A : Int) : Rat) / ((N * N : Int) : Rat) / (((-1 : Int) : Rat) / ((N * N : Int) : Rat)) = ((b.J A B : Int) : Rat) := by
    unfold Ba.J
    have e1 : ((-1 : Int) : Rat) = -1 := rfl
    have c1 : b.X * B = B * b.X := Int.mul_comm _ _
    have c2 : b.Y * A = A * b.Y := Int.mul_comm _ _
    rw [e1, c1, c2]
    simp only [Rat.intCast_sub]
    grind
  rw [z1] at y1
  rw [z2] at y2
  simp +decide only [m_counts, den_counts, ev_seq, seq_nx, seq_rt, seq_ex, seq_bk, seq_ct, seq_ite, fl_ok, fl_ex, fl_ite, ev_set, kSet_ev, ev_ret, ev_nx, ev_raise, ev_if, kIf_ev, ev_par, kPar_ev, kId_ev, ev_asg, kAsg_ev, ev_for, kFor_ev, ev_V, dVg_ok, ev_C, ev_1, ev_2, bind2_ok, bind2_ite1, bind2_ite2, bind_ite, ev_A, ev_nil, ev_cons, kCons_ev, ev_T, toB_ev, ev_and, ev_or, ev_not, kAnd_ev, kOr_ev, kNot_ev, ev_andV, ev_notV, kAndV_ev, kNotV_ev, tup_ev, lst_ev, call_ev, ev_fn, startE_0, startE_s, startE_c, fin_rt, fin_nx, fin_ex, fin_ite, ix_t0, ix_t1, ix_t2, ix_t3, ix_l0, ix_l1, ix_l2, len_l, len_t1, len_t2, len_t3, len_t4, beq_self_eq_true, ev_iL, ev_iT, asL_ev, asT_ev, ev_iA, ev_P, toI_ev, ev_P0, ev_sl, kSl_ev, put_1, gAdd_i, gSub_i, gMul_i, gDiv_p, gMod_p, gPow_l, gShl_l, gShr_l, gLt_i, gLe_i, gGt_i, gGe_i, gEq_i, gNe_i, gAbs_i, gInt_i, gInt_b, gEq_s, gNe_s, gEq_b, gNe_b, gEq_2, gNe_2, gEq_3, gNe_3, gEq_22, gNe_22, DL.R.bind_ok, DL.R.bind_ex, ev_setL, kSetL_ev, ev_lDisp, kDisp_ev, ev_lList, lOf_l, lOf_t, ev_frz, frz_l, frz_d, frz_n, ev_lend, lend_l, lend_d, atom_i, atom_b, atom_s, ev_lendB, lendB_l, lendB_d, ev_app, app_l, kApp_ev, ev_put, put_l, ev_ixO, ixO_l, ixO_d, put_m, putAll_c, putAll_n, ev_lc, kLst_ev, ev_lcL, wipe_n, wipe_c, r1_2, r1_3, bits_ev, List.getElem?_cons_zero, List.getElem?_cons_succ, List.set_cons_zero, List.set_cons_succ, List.length_cons, List.length_nil, List.length_map, List.append_nil, List.cons_append, List.nil_append, ev_if, turn_nx, turn_ct, turn_bk, turn_rt, turn_ite, kWh_ev, isi_int_int, isi_bool_int, isi_int_bool, isi_bool_bool, isi_int_str, isi_int_none, isi_int_list, isi_int_tup, isi_bool_str, isi_bool_none, isi_bool_list, isi_bool_tup, isi_tup_tup, isi_tup_int, isi_tup_bool, isi_tup_str, isi_tup_none, isi_tup_list, isi_list_list, isi_list_tup, isi_list_int, isi_list_bool, isi_list_str, isi_list_none, isi_str_str, isi_str_int, isi_str_bool, isi_str_none, isi_str_list, isi_str_tup, decide_true, decide_false, not_true_eq_false, not_false_eq_true, ne_eq, decide_eq_true_eq, Bool.not_eq_true', decide_eq_false_iff_not, Bool.not_true, Bool.not_false, Bool.false_eq_true, if_true, if_false, reduceIte, p1, p2, p3, c1, c2, c3, y1, y2]
  rfl
/-! the least number that all bottoms divide -/
def comN : Int → List (Rat × Rat) → Int
  | n, [] => n
  | n, p :: l => comN (n * fB n (qN p.1 p.2)) l
theorem fB_mul_dvd {n b : Int} (hb : 0 < b) : b ∣ n * fB n b ∧ ∀ M, n ∣ M → b ∣ M → n * fB n b ∣ M := by
  have hg : (Int.gcd n b : Int) ≠ 0 := by have := gcd_ne (a := n) (b := b) (by omega); omega
  have e : fB n b * (Int.gcd n b : Int) = b := by
    rw [fB_eq]
    have hs : shr (Int.gcd n b) b = (Int.gcd n b : Int) := by unfold shr; rw [if_neg (by omega)]
    rw [hs]
    exact fdiv_dvd hg (Int.gcd_dvd_right ..)
  constructor
  · obtain ⟨c, hc⟩ := Int.gcd_dvd_left (a := n) (b := b)
    refine ⟨c, ?_⟩
    have h1 : n * fB n b = (Int.gcd n b : Int) * c * fB n b := by rw [← hc]
    have h2 : (Int.gcd n b : Int) * c * fB n b = fB n b * (Int.gcd n b : Int) * c := by grind
    rw [h1, h2, e]
  · intro M hn hM
    obtain ⟨x, hx⟩ := hn
    obtain ⟨c, hc⟩ := Int.gcd_dvd_left (a := n) (b := b)
    -- b | n x, so fB | c x, fB and c coprime
    have hco : Int.gcd c (fB n b) = 1 := by
      have h := Int.gcd_mul_left (Int.gcd n b : Int) c (fB n b)
      have e' : (Int.gcd n b : Int) * fB n b = b := by rw [Int.mul_comm]; exact e
      rw [e', ← hc, Int.natAbs_natCast] at h
      have h0 : 0 < Int.gcd n b := by omega
      exact Nat.eq_of_mul_eq_mul_left h0 (by rw [Nat.mul_one]; exact h.symm)
    have h1 : fB n b ∣ x * c := by
      obtain ⟨y, hy⟩ := hM
      refine ⟨y, ?_⟩
      have z : (Int.gcd n b : Int) * (x * c) = (Int.gcd n b : Int) * (fB n b * y) := by
        have a1 : (Int.gcd n b : Int) * (x * c) = (Int.gcd n b : Int) * c * x := by grind
        have a2 : (Int.gcd n b : Int) * (fB n b * y) = fB n b * (Int.gcd n b : Int) * y := by grind
        rw [a1, a2, ← hc, e, ← hx, hy]
      exact Int.eq_of_mul_eq_mul_left hg z
    have h2 : fB n b ∣ x := dvd_of_gcd h1 (by rw [Int.gcd_comm]; exact hco)
    obtain ⟨w, hw⟩ := h2
    exact ⟨w, by rw [hx, hw, Int.mul_assoc]⟩
theorem comN_pos : ∀ (l : List (Rat × Rat)) {n : Int}, 0 < n → 0 < comN n l
  | [], _, h => h
  | p :: l, n, h => comN_pos l (Int.mul_pos h (fB_pos (by have := qN_pos p.1 p.2; omega)))
theorem comN_self : ∀ (l : List (Rat × Rat)) {n : Int}, n ∣ comN n l
  | [], _ => Int.dvd_refl _
  | p :: l, n => Int.dvd_trans (Int.dvd_mul_right n _) (comN_self l)
theorem comN_dvd : ∀ (l : List (Rat × Rat)) {n : Int}, 0 < n → ∀ p ∈ l, qN p.1 p.2 ∣ comN n l
  | [], _, _, p, h => nomatch h
  | q :: l, n, hn, p, h => by
    have hq := qN_pos q.1 q.2
    rcases List.mem_cons.mp h with rfl | h
    · exact Int.dvd_trans (fB_mul_dvd hq).1 (comN_self l)
    · exact comN_dvd l (Int.mul_pos hn (fB_pos (by omega))) p h
theorem comN_least : ∀ (l : List (Rat × Rat)) {n M : Int}, n ∣ M → (∀ p ∈ l, qN p.1 p.2 ∣ M) → comN n l ∣ M
  | [], _, _, h, _ => h
  | q :: l, n, M, h, hp => comN_least l ((fB_mul_dvd (qN_pos q.1 q.2)).2 M h (hp q (.head _))) fun p hm => hp p (.tail _ hm)
@[reducible] def lnp (p : Rat × Rat) : PD := lnD p.1 p.2
theorem bd_dvd {a b : Int} (h : a ∣ b) (hb : b ≠ 0) {j : Nat} (hj : Bd b j) : Bd a j := ⟨by
  obtain ⟨c, rfl⟩ := h
  have hc : c ≠ 0 := fun z => hb (by rw [z, Int.mul_zero])
  have := hj.h
  rw [Int.natAbs_mul] at this
  have h1 : 1 ≤ c.natAbs := by omega
  have h2 := Nat.mul_le_mul_left a.natAbs h1
  omega⟩
theorem common_loop : ∀ (l : List (Rat × Rat)) (n : Int) (j : Nat) (h0 : PD) (x2 : Option SV), 0 < n → Bd (comN n l) j → (∀ p ∈ l, Bd (qN p.1 p.2) j) → j ≤ 4000 → ∃ y2, sForL (.one 2) lb1_common (l.map lnp) [some (.d h0), some (.d (.int n)), x2] = .nx [some (.d h0), some (.d (.int (comN n l))), y2]
  | [], n, j, h0, x2, _, _, _, _ => ⟨x2, rfl⟩
  | p :: l, n, j, h0, x2, hn, bn, hp, hj => by
    have bq := hp p (.head _)
    have hq := qN_pos p.1 p.2
    have h1 : 0 < n * fB n (qN p.1 p.2) := Int.mul_pos hn (fB_pos (by omega))
    have bN : Bd n j := bd_dvd (Int.dvd_trans (Int.dvd_mul_right n _) (comN_self l)) (by have := comN_pos l h1; omega) bn
    have f := fraction_eq n (qN p.1 p.2) (by omega) (show j ≤ 9000 by omega)
    obtain ⟨y2, e⟩ := common_loop l (n * fB n (qN p.1 p.2)) j h0 (some (.d (lnp p))) h1 bn (fun q h => hp q (.tail _ h)) hj
    refine ⟨y2, ?_⟩
    have i1 : j + j ≤ 134217728 := by omega
    rw [List.map_cons, forL_1]
    have B : lb1_common [some (.d h0), some (.d (.int n)), some (.d (lnp p))] = .nx [some (.d h0), some (.d (.int (n * fB n (qN p.1 p.2)))), some (.d (lnp p))] := by
      simp +decide only [lb1_common, ev_seq, seq_nx, seq_rt, seq_ex, seq_bk, seq_ct, seq_ite, fl_ok, fl_ex, fl_ite, ev_set, kSet_ev, ev_ret, ev_nx, ev_raise, ev_if, kIf_ev, ev_par, kPar_ev, kId_ev, ev_asg, kAsg_ev, ev_for, kFor_ev, ev_V, dVg_ok, ev_C, ev_1, ev_2, bind2_ok, bind2_ite1, bind2_ite2, bind_ite, ev_A, ev_nil, ev_cons, kCons_ev, ev_T, toB_ev, ev_and, ev_or, ev_not, kAnd_ev, kOr_ev, kNot_ev, ev_andV, ev_notV, kAndV_ev, kNotV_ev, tup_ev, lst_ev, call_ev, ev_fn, startE_0, startE_s, startE_c, fin_rt, fin_nx, fin_ex, fin_ite, ix_t0, ix_t1, ix_t2, ix_t3, ix_l0, ix_l1, ix_l2, len_l, len_t1, len_t2, len_t3, len_t4, beq_self_eq_true, ev_iL, ev_iT, asL_ev, asT_ev, ev_iA, ev_P, toI_ev, ev_P0, ev_sl, kSl_ev, put_1, gAdd_i, gSub_i, gMul_i, gDiv_p, gMod_p, gPow_l, gShl_l, gShr_l, gLt_i, gLe_i, gGt_i, gGe_i, gEq_i, gNe_i, gAbs_i, gInt_i, gInt_b, gEq_s, gNe_s, gEq_b, gNe_b, gEq_2, gNe_2, gEq_3, gNe_3, gEq_22, gNe_22, DL.R.bind_ok, DL.R.bind_ex, ev_setL, kSetL_ev, ev_lDisp, kDisp_ev, ev_lList, lOf_l, lOf_t, ev_frz, frz_l, frz_d, frz_n, ev_lend, lend_l, lend_d, atom_i, atom_b, atom_s, ev_lendB, lendB_l, lendB_d, ev_app, app_l, kApp_ev, ev_put, put_l, ev_ixO, ixO_l, ixO_d, put_m, putAll_c, putAll_n, ev_lc, kLst_ev, ev_lcL, wipe_n, wipe_c, r1_2, r1_3, bits_ev, List.getElem?_cons_zero, List.getElem?_cons_succ, List.set_cons_zero, List.set_cons_succ, List.length_cons, List.length_nil, List.length_map, List.append_nil, List.cons_append, List.nil_append, ev_if, turn_nx, turn_ct, turn_bk, turn_rt, turn_ite, kWh_ev, isi_int_int, isi_bool_int, isi_int_bool, isi_bool_bool, isi_int_str, isi_int_none, isi_int_list, isi_int_tup, isi_bool_str, isi_bool_none, isi_bool_list, isi_bool_tup, isi_tup_tup, isi_tup_int, isi_tup_bool, isi_tup_str, isi_tup_none, isi_tup_list, isi_list_list, isi_list_tup, isi_list_int, isi_list_bool, isi_list_str, isi_list_none, isi_str_str, isi_str_int, isi_str_bool, isi_str_none, isi_str_list, isi_str_tup, decide_true, decide_false, not_true_eq_false, not_false_eq_true, ne_eq, decide_eq_true_eq, Bool.not_eq_true', decide_eq_false_iff_not, Bool.not_true, Bool.not_false, Bool.false_eq_true, if_true, if_false, reduceIte, f, i1]
    show (lb1_common [some (.d h0), some (.d (.int n)), some (.d (lnp p))]).turn _ = _
    rw [B]
    exact e
theorem comN_qN {l : List (Rat × Rat)} {j : Nat} (h : Bd (comN 1 l) j) : ∀ p ∈ l, Bd (qN p.1 p.2) j := fun p hp => bd_dvd (comN_dvd l (by decide) p hp) (by have := comN_pos l (n := 1) (by decide); omega) h
theorem common_eq (l : List (Rat × Rat)) {j : Nat} (h : Bd (comN 1 l) j) (hj : j ≤ 4000) : m_common [.list (l.map lnp)] = .ok (.int (comN 1 l)) := by
  obtain ⟨y2, e⟩ := common_loop l 1 j (.list (l.map lnp)) none (by decide) h (comN_qN h) hj
  simp +decide only [m_common, den_common, ev_seq, seq_nx, seq_rt, seq_ex, seq_bk, seq_ct, seq_ite, fl_ok, fl_ex, fl_ite, ev_set, kSet_ev, ev_ret, ev_nx, ev_raise, ev_if, kIf_ev, ev_par, kPar_ev, kId_ev, ev_asg, kAsg_ev, ev_for, kFor_ev, ev_V, dVg_ok, ev_C, ev_1, ev_2, bind2_ok, bind2_ite1, bind2_ite2, bind_ite, ev_A, ev_nil, ev_cons, kCons_ev, ev_T, toB_ev, ev_and, ev_or, ev_not, kAnd_ev, kOr_ev, kNot_ev, ev_andV, ev_notV, kAndV_ev, kNotV_ev, tup_ev, lst_ev, call_ev, ev_fn, startE_0, startE_s, startE_c, fin_rt, fin_nx, fin_ex, fin_ite, ix_t0, ix_t1, ix_t2, ix_t3, ix_l0, ix_l1, ix_l2, len_l, len_t1, len_t2, len_t3, len_t4, beq_self_eq_true, ev_iL, ev_iT, asL_ev, asT_ev, ev_iA, ev_P, toI_ev, ev_P0, ev_sl, kSl_ev, put_1, gAdd_i, gSub_i, gMul_i, gDiv_p, gMod_p, gPow_l, gShl_l, gShr_l, gLt_i, gLe_i, gGt_i, gGe_i, gEq_i, gNe_i, gAbs_i, gInt_i, gInt_b, gEq_s, gNe_s, gEq_b, gNe_b, gEq_2, gNe_2, gEq_3, gNe_3, gEq_22, gNe_22, DL.R.bind_ok, DL.R.bind_ex, ev_setL, kSetL_ev, ev_lDisp, kDisp_ev, ev_lList, lOf_l, lOf_t, ev_frz, frz_l, frz_d, frz_n, ev_lend, lend_l, lend_d, atom_i, atom_b, atom_s, ev_lendB, lendB_l, lendB_d, ev_app, app_l, kApp_ev, ev_put, put_l, ev_ixO, ixO_l, ixO_d, put_m, putAll_c, putAll_n, ev_lc, kLst_ev, ev_lcL, wipe_n, wipe_c, r1_2, r1_3, bits_ev, List.getElem?_cons_zero, List.getElem?_cons_succ, List.set_cons_zero, List.set_cons_succ, List.length_cons, List.length_nil, List.length_map, List.append_nil, List.cons_append, List.nil_append, ev_if, turn_nx, turn_ct, turn_bk, turn_rt, turn_ite, kWh_ev, isi_int_int, isi_bool_int, isi_int_bool, isi_bool_bool, isi_int_str, isi_int_none, isi_int_list, isi_int_tup, isi_bool_str, isi_bool_none, isi_bool_list, isi_bool_tup, isi_tup_tup, isi_tup_int, isi_tup_bool, isi_tup_str, isi_tup_none, isi_tup_list, isi_list_list, isi_list_tup, isi_list_int, isi_list_bool, isi_list_str, isi_list_none, isi_str_str, isi_str_int, isi_str_bool, isi_str_none, isi_str_list, isi_str_tup, decide_true, decide_false, not_true_eq_false, not_false_eq_true, ne_eq, decide_eq_true_eq, Bool.not_eq_true', decide_eq_false_iff_not, Bool.not_true, Bool.not_false, Bool.false_eq_true, if_true, if_false, reduceIte, e]
/-! the loop -/
def prI (b : Ba) (p : Int × Int) : PD := .tuple [.int (b.I p.1 p.2), .int (b.J p.1 p.2)]
theorem served_loop : ∀ (l : List (Int × Int)) (b : Ba) (h0 : PD) (x1 x2 : Option SV), (SvA b l → ∃ y1 y2, sForL (.many [1, 2]) lb1_is_served (l.map (prI b)) [some (.d h0), x1, x2] = .nx [some (.d h0), y1, y2]) ∧ (¬ SvA b l → sForL (.many [1, 2]) lb1_is_served (l.map (prI b)) [some (.d h0), x1, x2] = .rt (.bool false))
  | [], b, h0, x1, x2 => ⟨fun _ => ⟨x1, x2, rfl⟩, fun h => absurd (fun _ hp => nomatch hp) h⟩
  | p :: l, b, h0, x1, x2 => by
    obtain ⟨i1, i2⟩ := served_loop l b h0 (some (.d (.int (b.I p.1 p.2)))) (some (.d (.int (b.J p.1 p.2))))
    rw [List.map_cons]
    unfold prI
    rw [forL_m rfl]
    show (_ → ∃ y1 y2, (lb1_is_served [some (.d h0), some (.d (.int (b.I p.1 p.2))), some (.d (.int (b.J p.1 p.2)))]).turn _ = _) ∧ (_ → (lb1_is_served [some (.d h0), some (.d (.int (b.I p.1 p.2))), some (.d (.int (b.J p.1 p.2)))]).turn _ = _)
    by_cases c : Sv b p.1 p.2
    · have c1 : ¬ b.I p.1 p.2 < 0 := by have := c.1; omega
      have c2 : ¬ b.J p.1 p.2 < 0 := by have := c.2; omega
      have B : lb1_is_served [some (.d h0), some (.d (.int (b.I p.1 p.2))), some (.d (.int (b.J p.1 p.2)))] = .nx [some (.d h0), some (.d (.int (b.I p.1 p.2))), some (.d (.int (b.J p.1 p.2)))] := by
        simp +decide only [lb1_is_served, ev_seq, seq_nx, seq_rt, seq_ex, seq_bk, seq_ct, seq_ite, fl_ok, fl_ex, fl_ite, ev_set, kSet_ev, ev_ret, ev_nx, ev_raise, ev_if, kIf_ev, ev_par, kPar_ev, kId_ev, ev_asg, kAsg_ev, ev_for, kFor_ev, ev_V, dVg_ok, ev_C, ev_1, ev_2, bind2_ok, bind2_ite1, bind2_ite2, bind_ite, ev_A, ev_nil, ev_cons, kCons_ev, ev_T, toB_ev, ev_and, ev_or, ev_not, kAnd_ev, kOr_ev, kNot_ev, ev_andV, ev_notV, kAndV_ev, kNotV_ev, tup_ev, lst_ev, call_ev, ev_fn, startE_0, startE_s, startE_c, fin_rt, fin_nx, fin_ex, fin_ite, ix_t0, ix_t1, ix_t2, ix_t3, ix_l0, ix_l1, ix_l2, len_l, len_t1, len_t2, len_t3, len_t4, beq_self_eq_true, ev_iL, ev_iT, asL_ev, asT_ev, ev_iA, ev_P, toI_ev, ev_P0, ev_sl, kSl_ev, put_1, gAdd_i, gSub_i, gMul_i, gDiv_p, gMod_p, gPow_l, gShl_l, gShr_l, gLt_i, gLe_i, gGt_i, gGe_i, gEq_i, gNe_i, gAbs_i, gInt_i, gInt_b, gEq_s, gNe_s, gEq_b, gNe_b, gEq_2, gNe_2, gEq_3, gNe_3, gEq_22, gNe_22, DL.R.bind_ok, DL.R.bind_ex, ev_setL, kSetL_ev, ev_lDisp, kDisp_ev, ev_lList, lOf_l, lOf_t, ev_frz, frz_l, frz_d, frz_n, ev_lend, lend_l, lend_d, atom_i, atom_b, atom_s, ev_lendB, lendB_l, lendB_d, ev_app, app_l, kApp_ev, ev_put, put_l, ev_ixO, ixO_l, ixO_d, put_m, putAll_c, putAll_n, ev_lc, kLst_ev, ev_lcL, wipe_n, wipe_c, r1_2, r1_3, bits_ev, List.getElem?_cons_zero, List.getElem?_cons_succ, List.set_cons_zero, List.set_cons_succ, List.length_cons, List.length_nil, List.length_map, List.append_nil, List.cons_append, List.nil_append, ev_if, turn_nx, turn_ct, turn_bk, turn_rt, turn_ite, kWh_ev, isi_int_int, isi_bool_int, isi_int_bool, isi_bool_bool, isi_int_str, isi_int_none, isi_int_list, isi_int_tup, isi_bool_str, isi_bool_none, isi_bool_list, isi_bool_tup, isi_tup_tup, isi_tup_int, isi_tup_bool, isi_tup_str, isi_tup_none, isi_tup_list, isi_list_list, isi_list_tup, isi_list_int, isi_list_bool, isi_list_str, isi_list_none, isi_str_str, isi_str_int, isi_str_bool, isi_str_none, isi_str_list, isi_str_tup, decide_true, decide_false, not_true_eq_false, not_false_eq_true, ne_eq, decide_eq_true_eq, Bool.not_eq_true', decide_eq_false_iff_not, Bool.not_true, Bool.not_false, Bool.false_eq_true, if_true, if_false, reduceIte, c1, c2]
      rw [B]
      refine ⟨fun h => i1 fun q hq => h q (.tail _ hq), fun h => i2 fun z => h fun q hq => ?_⟩
      rcases List.mem_cons.mp hq with rfl | hq
      · exact c
      · exact z q hq
    · have B : lb1_is_served [some (.d h0), some (.d (.int (b.I p.1 p.2))), some (.d (.int (b.J p.1 p.2)))] = .rt (.bool false) := by
        by_cases c1 : b.I p.1 p.2 < 0
        · simp +decide only [lb1_is_served, ev_seq, seq_nx, seq_rt, seq_ex, seq_bk, seq_ct, seq_ite, fl_ok, fl_ex, fl_ite, ev_set, kSet_ev, ev_ret, ev_nx, ev_raise, ev_if, kIf_ev, ev_par, kPar_ev, kId_ev, ev_asg, kAsg_ev, ev_for, kFor_ev, ev_V, dVg_ok, ev_C, ev_1, ev_2, bind2_ok, bind2_ite1, bind2_ite2, bind_ite, ev_A, ev_nil, ev_cons, kCons_ev, ev_T, toB_ev, ev_and, ev_or, ev_not, kAnd_ev, kOr_ev, kNot_ev, ev_andV, ev_notV, kAndV_ev, kNotV_ev, tup_ev, lst_ev, call_ev, ev_fn, startE_0, startE_s, startE_c, fin_rt, fin_nx, fin_ex, fin_ite, ix_t0, ix_t1, ix_t2, ix_t3, ix_l0, ix_l1, ix_l2, len_l, len_t1, len_t2, len_t3, len_t4, beq_self_eq_true, ev_iL, ev_iT, asL_ev, asT_ev, ev_iA, ev_P, toI_ev, ev_P0, ev_sl, kSl_ev, put_1, gAdd_i, gSub_i, gMul_i, gDiv_p, gMod_p, gPow_l, gShl_l, gShr_l, gLt_i, gLe_i, gGt_i, gGe_i, gEq_i, gNe_i, gAbs_i, gInt_i, gInt_b, gEq_s, gNe_s, gEq_b, gNe_b, gEq_2, gNe_2, gEq_3, gNe_3, gEq_22, gNe_22, DL.R.bind_ok, DL.R.bind_ex, ev_setL, kSetL_ev, ev_lDisp, kDisp_ev, ev_lList, lOf_l, lOf_t, ev_frz, frz_l, frz_d, frz_n, ev_lend, lend_l, lend_d, atom_i, atom_b, atom_s, ev_lendB, lendB_l, lendB_d, ev_app, app_l, kApp_ev, ev_put, put_l, ev_ixO, ixO_l, ixO_d, put_m, putAll_c, putAll_n, ev_lc, kLst_ev, ev_lcL, wipe_n, wipe_c, r1_2, r1_3, bits_ev, List.getElem?_cons_zero, List.getElem?_cons_succ, List.set_cons_zero, List.set_cons_succ, List.length_cons, List.length_nil, List.length_map, List.append_nil, List.cons_append, List.nil_append, ev_if, turn_nx, turn_ct, turn_bk, turn_rt, turn_ite, kWh_ev, isi_int_int, isi_bool_int, isi_int_bool, isi_bool_bool, isi_int_str, isi_int_none, isi_int_list, isi_int_tup, isi_bool_str, isi_bool_none, isi_bool_list, isi_bool_tup, isi_tup_tup, isi_tup_int, isi_tup_bool, isi_tup_str, isi_tup_none, isi_tup_list, isi_list_list, isi_list_tup, isi_list_int, isi_list_bool, isi_list_str, isi_list_none, isi_str_str, isi_str_int, isi_str_bool, isi_str_none, isi_str_list, isi_str_tup, decide_true, decide_false, not_true_eq_false, not_false_eq_true, ne_eq, decide_eq_true_eq, Bool.not_eq_true', decide_eq_false_iff_not, Bool.not_true, Bool.not_false, Bool.false_eq_true, if_true, if_false, reduceIte, c1]
        · have c2 : b.J p.1 p.2 < 0 := by
            refine Classical.byContradiction fun c2 => c ⟨by omega, by omega⟩
          simp +decide only [lb1_is_served, ev_seq, seq_nx, seq_rt, seq_ex, seq_bk, seq_ct, seq_ite, fl_ok, fl_ex, fl_ite, ev_set, kSet_ev, ev_ret, ev_nx, ev_raise, ev_if, kIf_ev, ev_par, kPar_ev, kId_ev, ev_asg, kAsg_ev, ev_for, kFor_ev, ev_V, dVg_ok, ev_C, ev_1, ev_2, bind2_ok, bind2_ite1, bind2_ite2, bind_ite, ev_A, ev_nil, ev_cons, kCons_ev, ev_T, toB_ev, ev_and, ev_or, ev_not, kAnd_ev, kOr_ev, kNot_ev, ev_andV, ev_notV, kAndV_ev, kNotV_ev, tup_ev, lst_ev, call_ev, ev_fn, startE_0, startE_s, startE_c, fin_rt, fin_nx, fin_ex, fin_ite, ix_t0, ix_t1, ix_t2, ix_t3, ix_l0, ix_l1, ix_l2, len_l, len_t1, len_t2, len_t3, len_t4, beq_self_eq_true, ev_iL, ev_iT, asL_ev, asT_ev, ev_iA, ev_P, toI_ev, ev_P0, ev_sl, kSl_ev, put_1, gAdd_i, gSub_i, gMul_i, gDiv_p, gMod_p, gPow_l, gShl_l, gShr_l, gLt_i, gLe_i, gGt_i, gGe_i, gEq_i, gNe_i, gAbs_i, gInt_i, gInt_b, gEq_s, gNe_s, gEq_b, gNe_b, gEq_2, gNe_2, gEq_3, gNe_3, gEq_22, gNe_22, DL.R.bind_ok, DL.R.bind_ex, ev_setL, kSetL_ev, ev_lDisp, kDisp_ev, ev_lList, lOf_l, lOf_t, ev_frz, frz_l, frz_d, frz_n, ev_lend, lend_l, lend_d, atom_i, atom_b, atom_s, ev_lendB, lendB_l, lendB_d, ev_app, app_l, kApp_ev, ev_put, put_l, ev_ixO, ixO_l, ixO_d, put_m, putAll_c, putAll_n, ev_lc, kLst_ev, ev_lcL, wipe_n, wipe_c, r1_2, r1_3, bits_ev, List.getElem?_cons_zero, List.getElem?_cons_succ, List.set_cons_zero, List.set_cons_succ, List.length_cons, List.length_nil, List.length_map, List.append_nil, List.cons_append, List.nil_append, ev_if, turn_nx, turn_ct, turn_bk, turn_rt, turn_ite, kWh_ev, isi_int_int, isi_bool_int, isi_int_bool, isi_bool_bool, isi_int_str, isi_int_none, isi_int_list, isi_int_tup, isi_bool_str, isi_bool_none, isi_bool_list, isi_bool_tup, isi_tup_tup, isi_tup_int, isi_tup_bool, isi_tup_str, isi_tup_none, isi_tup_list, isi_list_list, isi_list_tup, isi_list_int, isi_list_bool, isi_list_str, isi_list_none, isi_str_str, isi_str_int, isi_str_bool, isi_str_none, isi_str_list, isi_str_tup, decide_true, decide_false, not_true_eq_false, not_false_eq_true, ne_eq, decide_eq_true_eq, Bool.not_eq_true', decide_eq_false_iff_not, Bool.not_true, Bool.not_false, Bool.false_eq_true, if_true, if_false, reduceIte, c1, c2]
      rw [B]
      exact ⟨fun h => absurd (h p (.head _)) c, fun _ => rfl⟩
theorem is_served_yes {l : List (Int × Int)} {b : Ba} (c : SvA b l) : m_is_served [.list (l.map (prI b))] = .ok (.bool true) := by
  obtain ⟨y1, y2, e⟩ := (served_loop l b (.list (l.map (prI b))) none none).1 c
  simp +decide only [m_is_served, den_is_served, ev_seq, seq_nx, seq_rt, seq_ex, seq_bk, seq_ct, seq_ite, fl_ok, fl_ex, fl_ite, ev_set, kSet_ev, ev_ret, ev_nx, ev_raise, ev_if, kIf_ev, ev_par, kPar_ev, kId_ev, ev_asg, kAsg_ev, ev_for, kFor_ev, ev_V, dVg_ok, ev_C, ev_1, ev_2, bind2_ok, bind2_ite1, bind2_ite2, bind_ite, ev_A, ev_nil, ev_cons, kCons_ev, ev_T, toB_ev, ev_and, ev_or, ev_not, kAnd_ev, kOr_ev, kNot_ev, ev_andV, ev_notV, kAndV_ev, kNotV_ev, tup_ev, lst_ev, call_ev, ev_fn, startE_0, startE_s, startE_c, fin_rt, fin_nx, fin_ex, fin_ite, ix_t0, ix_t1, ix_t2, ix_t3, ix_l0, ix_l1, ix_l2, len_l, len_t1, len_t2, len_t3, len_t4, beq_self_eq_true, ev_iL, ev_iT, asL_ev, asT_ev, ev_iA, ev_P, toI_ev, ev_P0, ev_sl, kSl_ev, put_1, gAdd_i, gSub_i, gMul_i, gDiv_p, gMod_p, gPow_l, gShl_l, gShr_l, gLt_i, gLe_i, gGt_i, gGe_i, gEq_i, gNe_i, gAbs_i, gInt_i, gInt_b, gEq_s, gNe_s, gEq_b, gNe_b, gEq_2, gNe_2, gEq_3, gNe_3, gEq_22, gNe_22, DL.R.bind_ok, DL.R.bind_ex, ev_setL, kSetL_ev, ev_lDisp, kDisp_ev, ev_lList, lOf_l, lOf_t, ev_frz, frz_l, frz_d, frz_n, ev_lend, lend_l, lend_d, atom_i, atom_b, atom_s, ev_lendB, lendB_l, lendB_d, ev_app, app_l, kApp_ev, ev_put, put_l, ev_ixO, ixO_l, ixO_d, put_m, putAll_c, putAll_n, ev_lc, kLst_ev, ev_lcL, wipe_n, wipe_c, r1_2, r1_3, bits_ev, List.getElem?_cons_zero, List.getElem?_cons_succ, List.set_cons_zero, List.set_cons_succ, List.length_cons, List.length_nil, List.length_map, List.append_nil, List.cons_append, List.nil_append, ev_if, turn_nx, turn_ct, turn_bk, turn_rt, turn_ite, kWh_ev, isi_int_int, isi_bool_int, isi_int_bool, isi_bool_bool, isi_int_str, isi_int_none, isi_int_list, isi_int_tup, isi_bool_str, isi_bool_none, isi_bool_list, isi_bool_tup, isi_tup_tup, isi_tup_int, isi_tup_bool, isi_tup_str, isi_tup_none, isi_tup_list, isi_list_list, isi_list_tup, isi_list_int, isi_list_bool, isi_list_str, isi_list_none, isi_str_str, isi_str_int, isi_str_bool, isi_str_none, isi_str_list, isi_str_tup, decide_true, decide_false, not_true_eq_false, not_false_eq_true, ne_eq, decide_eq_true_eq, Bool.not_eq_true', decide_eq_false_iff_not, Bool.not_true, Bool.not_false, Bool.false_eq_true, if_true, if_false, reduceIte, e]
theorem is_served_no {l : List (Int × Int)} {b : Ba} (c : ¬ SvA b l) : m_is_served [.list (l.map (prI b))] = .ok (.bool false) := by
  have e := (served_loop l b (.list (l.map (prI b))) none none).2 c
  simp +decide only [m_is_served, den_is_served, ev_seq, seq_nx, seq_rt, seq_ex, seq_bk, seq_ct, seq_ite, fl_ok, fl_ex, fl_ite, ev_set, kSet_ev, ev_ret, ev_nx, ev_raise, ev_if, kIf_ev, ev_par, kPar_ev, kId_ev, ev_asg, kAsg_ev, ev_for, kFor_ev, ev_V, dVg_ok, ev_C, ev_1, ev_2, bind2_ok, bind2_ite1, bind2_ite2, bind_ite, ev_A, ev_nil, ev_cons, kCons_ev, ev_T, toB_ev, ev_and, ev_or, ev_not, kAnd_ev, kOr_ev, kNot_ev, ev_andV, ev_notV, kAndV_ev, kNotV_ev, tup_ev, lst_ev, call_ev, ev_fn, startE_0, startE_s, startE_c, fin_rt, fin_nx, fin_ex, fin_ite, ix_t0, ix_t1, ix_t2, ix_t3, ix_l0, ix_l1, ix_l2, len_l, len_t1, len_t2, len_t3, len_t4, beq_self_eq_true, ev_iL, ev_iT, asL_ev, asT_ev, ev_iA, ev_P, toI_ev, ev_P0, ev_sl, kSl_ev, put_1, gAdd_i, gSub_i, gMul_i, gDiv_p, gMod_p, gPow_l, gShl_l, gShr_l, gLt_i, gLe_i, gGt_i, gGe_i, gEq_i, gNe_i, gAbs_i, gInt_i, gInt_b, gEq_s, gNe_s, gEq_b, gNe_b, gEq_2, gNe_2, gEq_3, gNe_3, gEq_22, gNe_22, DL.R.bind_ok, DL.R.bind_ex, ev_setL, kSetL_ev, ev_lDisp, kDisp_ev, ev_lList, lOf_l, lOf_t, ev_frz, frz_l, frz_d, frz_n, ev_lend, lend_l, lend_d, atom_i, atom_b, atom_s, ev_lendB, lendB_l, lendB_d, ev_app, app_l, kApp_ev, ev_put, put_l, ev_ixO, ixO_l, ixO_d, put_m, putAll_c, putAll_n, ev_lc, kLst_ev, ev_lcL, wipe_n, wipe_c, r1_2, r1_3, bits_ev, List.getElem?_cons_zero, List.getElem?_cons_succ, List.set_cons_zero, List.set_cons_succ, List.length_cons, List.length_nil, List.length_map, List.append_nil, List.cons_append, List.nil_append, ev_if, turn_nx, turn_ct, turn_bk, turn_rt, turn_ite, kWh_ev, isi_int_int, isi_bool_int, isi_int_bool, isi_bool_bool, isi_int_str, isi_int_none, isi_int_list, isi_int_tup, isi_bool_str, isi_bool_none, isi_bool_list, isi_bool_tup, isi_tup_tup, isi_tup_int, isi_tup_bool, isi_tup_str, isi_tup_none, isi_tup_list, isi_list_list, isi_list_tup, isi_list_int, isi_list_bool, isi_list_str, isi_list_none, isi_str_str, isi_str_int, isi_str_bool, isi_str_none, isi_str_list, isi_str_tup, decide_true, decide_false, not_true_eq_false, not_false_eq_true, ne_eq, decide_eq_true_eq, Bool.not_eq_true', decide_eq_false_iff_not, Bool.not_true, Bool.not_false, Bool.false_eq_true, if_true, if_false, reduceIte, e]
theorem pairs_pos {b : Ba} {d : Int} (c : PZ d (b.X - b.U) (b.Y - b.V)) (l : List (Int × Int)) (ρ0 ρ1 ρ2 ρ3 ρ4 ρ5 : Option SV) : lcL (.many [6, 7]) bYes le2_serving [ρ0, ρ1, ρ2, ρ3, ρ4, ρ5, none, none] (l.map (prI b)) = .ok (l.map (prI (b.nxt d))) := by
  induction l with
  | nil => rfl
  | cons p l ih =>
    obtain ⟨e1, e2⟩ := nxt_pos_I (A := p.1) (B := p.2) c
    rw [List.map_cons, List.map_cons]
    refine lcL_2 ?_ ih
    unfold prI
    rw [e1, e2]
    simp +decide only [le2_serving, ev_seq, seq_nx, seq_rt, seq_ex, seq_bk, seq_ct, seq_ite, fl_ok, fl_ex, fl_ite, ev_set, kSet_ev, ev_ret, ev_nx, ev_raise, ev_if, kIf_ev, ev_par, kPar_ev, kId_ev, ev_asg, kAsg_ev, ev_for, kFor_ev, ev_V, dVg_ok, ev_C, ev_1, ev_2, bind2_ok, bind2_ite1, bind2_ite2, bind_ite, ev_A, ev_nil, ev_cons, kCons_ev, ev_T, toB_ev, ev_and, ev_or, ev_not, kAnd_ev, kOr_ev, kNot_ev, ev_andV, ev_notV, kAndV_ev, kNotV_ev, tup_ev, lst_ev, call_ev, ev_fn, startE_0, startE_s, startE_c, fin_rt, fin_nx, fin_ex, fin_ite, ix_t0, ix_t1, ix_t2, ix_t3, ix_l0, ix_l1, ix_l2, len_l, len_t1, len_t2, len_t3, len_t4, beq_self_eq_true, ev_iL, ev_iT, asL_ev, asT_ev, ev_iA, ev_P, toI_ev, ev_P0, ev_sl, kSl_ev, put_1, gAdd_i, gSub_i, gMul_i, gDiv_p, gMod_p, gPow_l, gShl_l, gShr_l, gLt_i, gLe_i, gGt_i, gGe_i, gEq_i, gNe_i, gAbs_i, gInt_i, gInt_b, gEq_s, gNe_s, gEq_b, gNe_b, gEq_2, gNe_2, gEq_3, gNe_3, gEq_22, gNe_22, DL.R.bind_ok, DL.R.bind_ex, ev_setL, kSetL_ev, ev_lDisp, kDisp_ev, ev_lList, lOf_l, lOf_t, ev_frz, frz_l, frz_d, frz_n, ev_lend, lend_l, lend_d, atom_i, atom_b, atom_s, ev_lendB, lendB_l, lendB_d, ev_app, app_l, kApp_ev, ev_put, put_l, ev_ixO, ixO_l, ixO_d, put_m, putAll_c, putAll_n, ev_lc, kLst_ev, ev_lcL, wipe_n, wipe_c, r1_2, r1_3, bits_ev, List.getElem?_cons_zero, List.getElem?_cons_succ, List.set_cons_zero, List.set_cons_succ, List.length_cons, List.length_nil, List.length_map, List.append_nil, List.cons_append, List.nil_append, ev_if, turn_nx, turn_ct, turn_bk, turn_rt, turn_ite, kWh_ev, isi_int_int, isi_bool_int, isi_int_bool, isi_bool_bool, isi_int_str, isi_int_none, isi_int_list, isi_int_tup, isi_bool_str, isi_bool_none, isi_bool_list, isi_bool_tup, isi_tup_tup, isi_tup_int, isi_tup_bool, isi_tup_str, isi_tup_none, isi_tup_list, isi_list_list, isi_list_tup, isi_list_int, isi_list_bool, isi_list_str, isi_list_none, isi_str_str, isi_str_int, isi_str_bool, isi_str_none, isi_str_list, isi_str_tup, decide_true, decide_false, not_true_eq_false, not_false_eq_true, ne_eq, decide_eq_true_eq, Bool.not_eq_true', decide_eq_false_iff_not, Bool.not_true, Bool.not_false, Bool.false_eq_true, if_true, if_false, reduceIte]
theorem pairs_neg {b : Ba} {d : Int} (c : ¬ PZ d (b.X - b.U) (b.Y - b.V)) (l : List (Int × Int)) (ρ0 ρ1 ρ2 ρ3 ρ4 ρ5 : Option SV) : lcL (.many [6, 7]) bYes le3_serving [ρ0, ρ1, ρ2, ρ3, ρ4, ρ5, none, none] (l.map (prI b)) = .ok (l.map (prI (b.nxt d))) := by
  induction l with
  | nil => rfl
  | cons p l ih =>
    obtain ⟨e1, e2⟩ := nxt_neg_I (A := p.1) (B := p.2) c
    rw [List.map_cons, List.map_cons]
    refine lcL_2 ?_ ih
    unfold prI
    rw [e1, e2]
    simp +decide only [le3_serving, ev_seq, seq_nx, seq_rt, seq_ex, seq_bk, seq_ct, seq_ite, fl_ok, fl_ex, fl_ite, ev_set, kSet_ev, ev_ret, ev_nx, ev_raise, ev_if, kIf_ev, ev_par, kPar_ev, kId_ev, ev_asg, kAsg_ev, ev_for, kFor_ev, ev_V, dVg_ok, ev_C, ev_1, ev_2, bind2_ok, bind2_ite1, bind2_ite2, bind_ite, ev_A, ev_nil, ev_cons, kCons_ev, ev_T, toB_ev, ev_and, ev_or, ev_not, kAnd_ev, kOr_ev, kNot_ev, ev_andV, ev_notV, kAndV_ev, kNotV_ev, tup_ev, lst_ev, call_ev, ev_fn, startE_0, startE_s, startE_c, fin_rt, fin_nx, fin_ex, fin_ite, ix_t0, ix_t1, ix_t2, ix_t3, ix_l0, ix_l1, ix_l2, len_l, len_t1, len_t2, len_t3, len_t4, beq_self_eq_true, ev_iL, ev_iT, asL_ev, asT_ev, ev_iA, ev_P, toI_ev, ev_P0, ev_sl, kSl_ev, put_1, gAdd_i, gSub_i, gMul_i, gDiv_p, gMod_p, gPow_l, gShl_l, gShr_l, gLt_i, gLe_i, gGt_i, gGe_i, gEq_i, gNe_i, gAbs_i, gInt_i, gInt_b, gEq_s, gNe_s, gEq_b, gNe_b, gEq_2, gNe_2, gEq_3, gNe_3, gEq_22, gNe_22, DL.R.bind_ok, DL.R.bind_ex, ev_setL, kSetL_ev, ev_lDisp, kDisp_ev, ev_lList, lOf_l, lOf_t, ev_frz, frz_l, frz_d, frz_n, ev_lend, lend_l, lend_d, atom_i, atom_b, atom_s, ev_lendB, lendB_l, lendB_d, ev_app, app_l, kApp_ev, ev_put, put_l, ev_ixO, ixO_l, ixO_d, put_m, putAll_c, putAll_n, ev_lc, kLst_ev, ev_lcL, wipe_n, wipe_c, r1_2, r1_3, bits_ev, List.getElem?_cons_zero, List.getElem?_cons_succ, List.set_cons_zero, List.set_cons_succ, List.length_cons, List.length_nil, List.length_map, List.append_nil, List.cons_append, List.nil_append, ev_if, turn_nx, turn_ct, turn_bk, turn_rt, turn_ite, kWh_ev, isi_int_int, isi_bool_int, isi_int_bool, isi_bool_bool, isi_int_str, isi_int_none, isi_int_list, isi_int_tup, isi_bool_str, isi_bool_none, isi_bool_list, isi_bool_tup, isi_tup_tup, isi_tup_int, isi_tup_bool, isi_tup_str, isi_tup_none, isi_tup_list, isi_list_list, isi_list_tup, isi_list_int, isi_list_bool, isi_list_str, isi_list_none, isi_str_str, isi_str_int, isi_str_bool, isi_str_none, isi_str_list, isi_str_tup, decide_true, decide_false, not_true_eq_false, not_false_eq_true, ne_eq, decide_eq_true_eq, Bool.not_eq_true', decide_eq_false_iff_not, Bool.not_true, Bool.not_false, Bool.false_eq_true, if_true, if_false, reduceIte]
theorem bd_le {x : Int} {K : Nat} (h : (x.natAbs : Int) ≤ 2 * (2 ^ K : Nat)) : Bd x (K + 2) := ⟨by
  rw [Nat.pow_succ, Nat.pow_succ]
  have := Nat.two_pow_pos K
  omega⟩
theorem serving_loop (d N : Int) (hd : Root d) (hN : 0 < N) [Bd d 7] {j : Nat} [bN : Bd N j] (hj : j ≤ 1900) (l : List (Int × Int)) (hp : ∀ p ∈ l, PZ d p.1 p.2) {K : Nat} (hK : ∀ p ∈ l, p.1.natAbs ≤ 2 ^ K ∧ p.2.natAbs ≤ 2 ^ K) (hK2 : K ≤ 3800) (hlen : l.length ≤ 1000000) (s1 s4 : PD) :
    ∀ (m n : Nat) (x5 x6 x7 : Option SV), n + m = far d l → ∃ y5 y6 y7 : Option SV, sWhile lt4_serving lb4_serving [some (.d (.int d)), some (.d s1), some (.d (bqD N (Ba.at d n))), some (.d (.list (l.map (prI (Ba.at d n))))), none, x5, x6, x7] =
      .nx [some (.d (.int d)), some (.d s1), some (.d (bqD N (Ba.at d (far d l)))), some (.d (.list (l.map (prI (Ba.at d (far d l)))))), none, y5, y6, y7] := by
  intro m
  induction m with
  | zero =>
    intro n x5 x6 x7 h
    have hn : n = far d l := by omega
    subst hn
    have s := is_served_yes (far_ok hd hp).1
    refine ⟨x5, x6, x7, ?_⟩
    rw [ev_while]
    generalize (l.map (prI (Ba.at d (far d l)))) = L at *
    generalize bqD N (Ba.at d (far d l)) = B at *
    simp +decide only [lt4_serving, ev_seq, seq_nx, seq_rt, seq_ex, seq_bk, seq_ct, seq_ite, fl_ok, fl_ex, fl_ite, ev_set, kSet_ev, ev_ret, ev_nx, ev_raise, ev_if, kIf_ev, ev_par, kPar_ev, kId_ev, ev_asg, kAsg_ev, ev_for, kFor_ev, ev_V, dVg_ok, ev_C, ev_1, ev_2, bind2_ok, bind2_ite1, bind2_ite2, bind_ite, ev_A, ev_nil, ev_cons, kCons_ev, ev_T, toB_ev, ev_and, ev_or, ev_not, kAnd_ev, kOr_ev, kNot_ev, ev_andV, ev_notV, kAndV_ev, kNotV_ev, tup_ev, lst_ev, call_ev, ev_fn, startE_0, startE_s, startE_c, fin_rt, fin_nx, fin_ex, fin_ite, ix_t0, ix_t1, ix_t2, ix_t3, ix_l0, ix_l1, ix_l2, len_l, len_t1, len_t2, len_t3, len_t4, beq_self_eq_true, ev_iL, ev_iT, asL_ev, asT_ev, ev_iA, ev_P, toI_ev, ev_P0, ev_sl, kSl_ev, put_1, gAdd_i, gSub_i, gMul_i, gDiv_p, gMod_p, gPow_l, gShl_l, gShr_l, gLt_i, gLe_i, gGt_i, gGe_i, gEq_i, gNe_i, gAbs_i, gInt_i, gInt_b, gEq_s, gNe_s, gEq_b, gNe_b, gEq_2, gNe_2, gEq_3, gNe_3, gEq_22, gNe_22, DL.R.bind_ok, DL.R.bind_ex, ev_setL, kSetL_ev, ev_lDisp, kDisp_ev, ev_lList, lOf_l, lOf_t, ev_frz, frz_l, frz_d, frz_n, ev_lend, lend_l, lend_d, atom_i, atom_b, atom_s, ev_lendB, lendB_l, lendB_d, ev_app, app_l, kApp_ev, ev_put, put_l, ev_ixO, ixO_l, ixO_d, put_m, putAll_c, putAll_n, ev_lc, kLst_ev, ev_lcL, wipe_n, wipe_c, r1_2, r1_3, bits_ev, List.getElem?_cons_zero, List.getElem?_cons_succ, List.set_cons_zero, List.set_cons_succ, List.length_cons, List.length_nil, List.length_map, List.append_nil, List.cons_append, List.nil_append, ev_if, turn_nx, turn_ct, turn_bk, turn_rt, turn_ite, kWh_ev, isi_int_int, isi_bool_int, isi_int_bool, isi_bool_bool, isi_int_str, isi_int_none, isi_int_list, isi_int_tup, isi_bool_str, isi_bool_none, isi_bool_list, isi_bool_tup, isi_tup_tup, isi_tup_int, isi_tup_bool, isi_tup_str, isi_tup_none, isi_tup_list, isi_list_list, isi_list_tup, isi_list_int, isi_list_bool, isi_list_str, isi_list_none, isi_str_str, isi_str_int, isi_str_bool, isi_str_none, isi_str_list, isi_str_tup, decide_true, decide_false, not_true_eq_false, not_false_eq_true, ne_eq, decide_eq_true_eq, Bool.not_eq_true', decide_eq_false_iff_not, Bool.not_true, Bool.not_false, Bool.false_eq_true, if_true, if_false, reduceIte, s]
  | succ m ih =>
    intro n x5 x6 x7 h
    have hlt : n < far d l := by omega
    have s := is_served_no ((far_ok hd hp).2 n hlt)
    obtain ⟨b1, b2, b3, b4⟩ := far_bnd hd hp (K := ((2 ^ K : Nat) : Int)) (fun p hm => ⟨by have := (hK p hm).1; omega, by have := (hK p hm).2; omega⟩) (by have := Nat.two_pow_pos K; omega) (Nat.le_of_lt hlt)
    have hb : BaB (Ba.at d n) (K + 2) := ⟨bd_le b1, bd_le b2, bd_le b3, bd_le b4⟩
    have nb := next_base_bq d N hd hN (Ba.at d n) hb hj (by omega)
    have hBI := BaI.at hd n
    rw [ev_while]
    have hlen' : (l.map (prI (Ba.at d n))).length ≤ 1000000 := by rw [List.length_map]; exact hlen
    by_cases c : PZ d ((Ba.at d n).X - (Ba.at d n).U) ((Ba.at d n).Y - (Ba.at d n).V)
    · obtain ⟨y5, y6, y7, e⟩ := ih (n + 1) (some (.d (bqD N ((Ba.at d n).nxt d)))) x6 x7 (by omega)
      refine ⟨y5, y6, y7, ?_⟩
      have P := pairs_pos c l (some (.d (.int d))) (some (.d s1)) (some (.d (bqD N (Ba.at d n)))) (some (.d (.list (l.map (prI (Ba.at d n)))))) none (some (.d (bqD N ((Ba.at d n).nxt d))))
      have q : gEq (lqD ((Ba.at d n).nxt d).U ((Ba.at d n).nxt d).V N) (lqD (Ba.at d n).U (Ba.at d n).V N) = .ok (.bool true) := by
        rw [gEq_ln, nxt_pos c]
        simp
      have e' : sWhile lt4_serving lb4_serving [some (.d (.int d)), some (.d s1), some (.d (bqD N ((Ba.at d n).nxt d))), some (.d (.list (l.map (prI ((Ba.at d n).nxt d))))), none, some (.d (bqD N ((Ba.at d n).nxt d))), x6, x7] = _ := e
      generalize (Ba.at d n).nxt d = b' at *
      generalize Ba.at d n = b at *
      generalize l.map (prI b) = L at *
      generalize l.map (prI b') = L' at *
      simp +decide only [lt4_serving, lb4_serving, ev_seq, seq_nx, seq_rt, seq_ex, seq_bk, seq_ct, seq_ite, fl_ok, fl_ex, fl_ite, ev_set, kSet_ev, ev_ret, ev_nx, ev_raise, ev_if, kIf_ev, ev_par, kPar_ev, kId_ev, ev_asg, kAsg_ev, ev_for, kFor_ev, ev_V, dVg_ok, ev_C, ev_1, ev_2, bind2_ok, bind2_ite1, bind2_ite2, bind_ite, ev_A, ev_nil, ev_cons, kCons_ev, ev_T, toB_ev, ev_and, ev_or, ev_not, kAnd_ev, kOr_ev, kNot_ev, ev_andV, ev_notV, kAndV_ev, kNotV_ev, tup_ev, lst_ev, call_ev, ev_fn, startE_0, startE_s, startE_c, fin_rt, fin_nx, fin_ex, fin_ite, ix_t0, ix_t1, ix_t2, ix_t3, ix_l0, ix_l1, ix_l2, len_l, len_t1, len_t2, len_t3, len_t4, beq_self_eq_true, ev_iL, ev_iT, asL_ev, asT_ev, ev_iA, ev_P, toI_ev, ev_P0, ev_sl, kSl_ev, put_1, gAdd_i, gSub_i, gMul_i, gDiv_p, gMod_p, gPow_l, gShl_l, gShr_l, gLt_i, gLe_i, gGt_i, gGe_i, gEq_i, gNe_i, gAbs_i, gInt_i, gInt_b, gEq_s, gNe_s, gEq_b, gNe_b, gEq_2, gNe_2, gEq_3, gNe_3, gEq_22, gNe_22, DL.R.bind_ok, DL.R.bind_ex, ev_setL, kSetL_ev, ev_lDisp, kDisp_ev, ev_lList, lOf_l, lOf_t, ev_frz, frz_l, frz_d, frz_n, ev_lend, lend_l, lend_d, atom_i, atom_b, atom_s, ev_lendB, lendB_l, lendB_d, ev_app, app_l, kApp_ev, ev_put, put_l, ev_ixO, ixO_l, ixO_d, put_m, putAll_c, putAll_n, ev_lc, kLst_ev, ev_lcL, wipe_n, wipe_c, r1_2, r1_3, bits_ev, List.getElem?_cons_zero, List.getElem?_cons_succ, List.set_cons_zero, List.set_cons_succ, List.length_cons, List.length_nil, List.length_map, List.append_nil, List.cons_append, List.nil_append, ev_if, turn_nx, turn_ct, turn_bk, turn_rt, turn_ite, kWh_ev, isi_int_int, isi_bool_int, isi_int_bool, isi_bool_bool, isi_int_str, isi_int_none, isi_int_list, isi_int_tup, isi_bool_str, isi_bool_none, isi_bool_list, isi_bool_tup, isi_tup_tup, isi_tup_int, isi_tup_bool, isi_tup_str, isi_tup_none, isi_tup_list, isi_list_list, isi_list_tup, isi_list_int, isi_list_bool, isi_list_str, isi_list_none, isi_str_str, isi_str_int, isi_str_bool, isi_str_none, isi_str_list, isi_str_tup, decide_true, decide_false, not_true_eq_false, not_false_eq_true, ne_eq, decide_eq_true_eq, Bool.not_eq_true', decide_eq_false_iff_not, Bool.not_true, Bool.not_false, Bool.false_eq_true, if_true, if_false, reduceIte, s, nb, q, kLcL_ev hlen', P]
      exact e'
    · obtain ⟨y5, y6, y7, e⟩ := ih (n + 1) (some (.d (bqD N ((Ba.at d n).nxt d)))) x6 x7 (by omega)
      refine ⟨y5, y6, y7, ?_⟩
      have P := pairs_neg c l (some (.d (.int d))) (some (.d s1)) (some (.d (bqD N (Ba.at d n)))) (some (.d (.list (l.map (prI (Ba.at d n)))))) none (some (.d (bqD N ((Ba.at d n).nxt d))))
      have q : gEq (lqD ((Ba.at d n).nxt d).U ((Ba.at d n).nxt d).V N) (lqD (Ba.at d n).U (Ba.at d n).V N) = .ok (.bool false) := by
        rw [gEq_ln, nxt_neg c]
        have : ¬ ((Ba.at d n).U - (Ba.at d n).X = (Ba.at d n).U ∧ (Ba.at d n).V - (Ba.at d n).Y = (Ba.at d n).V) := by
          rintro ⟨_, z⟩
          have := hBI.y
          omega
        rw [decide_eq_false (fun z => this ((lq_inj (by omega)).mp z))]
      have e' : sWhile lt4_serving lb4_serving [some (.d (.int d)), some (.d s1), some (.d (bqD N ((Ba.at d n).nxt d))), some (.d (.list (l.map (prI ((Ba.at d n).nxt d))))), none, some (.d (bqD N ((Ba.at d n).nxt d))), x6, x7] = _ := e
      generalize (Ba.at d n).nxt d = b' at *
      generalize Ba.at d n = b at *
      generalize l.map (prI b) = L at *
      generalize l.map (prI b') = L' at *
      simp +decide only [lt4_serving, lb4_serving, ev_seq, seq_nx, seq_rt, seq_ex, seq_bk, seq_ct, seq_ite, fl_ok, fl_ex, fl_ite, ev_set, kSet_ev, ev_ret, ev_nx, ev_raise, ev_if, kIf_ev, ev_par, kPar_ev, kId_ev, ev_asg, kAsg_ev, ev_for, kFor_ev, ev_V, dVg_ok, ev_C, ev_1, ev_2, bind2_ok, bind2_ite1, bind2_ite2, bind_ite, ev_A, ev_nil, ev_cons, kCons_ev, ev_T, toB_ev, ev_and, ev_or, ev_not, kAnd_ev, kOr_ev, kNot_ev, ev_andV, ev_notV, kAndV_ev, kNotV_ev, tup_ev, lst_ev, call_ev, ev_fn, startE_0, startE_s, startE_c, fin_rt, fin_nx, fin_ex, fin_ite, ix_t0, ix_t1, ix_t2, ix_t3, ix_l0, ix_l1, ix_l2, len_l, len_t1, len_t2, len_t3, len_t4, beq_self_eq_true, ev_iL, ev_iT, asL_ev, asT_ev, ev_iA, ev_P, toI_ev, ev_P0, ev_sl, kSl_ev, put_1, gAdd_i, gSub_i, gMul_i, gDiv_p, gMod_p, gPow_l, gShl_l, gShr_l, gLt_i, gLe_i, gGt_i, gGe_i, gEq_i, gNe_i, gAbs_i, gInt_i, gInt_b, gEq_s, gNe_s, gEq_b, gNe_b, gEq_2, gNe_2, gEq_3, gNe_3, gEq_22, gNe_22, DL.R.bind_ok, DL.R.bind_ex, ev_setL, kSetL_ev, ev_lDisp, kDisp_ev, ev_lList, lOf_l, lOf_t, ev_frz, frz_l, frz_d, frz_n, ev_lend, lend_l, lend_d, atom_i, atom_b, atom_s, ev_lendB, lendB_l, lendB_d, ev_app, app_l, kApp_ev, ev_put, put_l, ev_ixO, ixO_l, ixO_d, put_m, putAll_c, putAll_n, ev_lc, kLst_ev, ev_lcL, wipe_n, wipe_c, r1_2, r1_3, bits_ev, List.getElem?_cons_zero, List.getElem?_cons_succ, List.set_cons_zero, List.set_cons_succ, List.length_cons, List.length_nil, List.length_map, List.append_nil, List.cons_append, List.nil_append, ev_if, turn_nx, turn_ct, turn_bk, turn_rt, turn_ite, kWh_ev, isi_int_int, isi_bool_int, isi_int_bool, isi_bool_bool, isi_int_str, isi_int_none, isi_int_list, isi_int_tup, isi_bool_str, isi_bool_none, isi_bool_list, isi_bool_tup, isi_tup_tup, isi_tup_int, isi_tup_bool, isi_tup_str, isi_tup_none, isi_tup_list, isi_list_list, isi_list_tup, isi_list_int, isi_list_bool, isi_list_str, isi_list_none, isi_str_str, isi_str_int, isi_str_bool, isi_str_none, isi_str_list, isi_str_tup, decide_true, decide_false, not_true_eq_false, not_false_eq_true, ne_eq, decide_eq_true_eq, Bool.not_eq_true', decide_eq_false_iff_not, Bool.not_true, Bool.not_false, Bool.false_eq_true, if_true, if_false, reduceIte, s, nb, q, kLcL_ev hlen', P]
      exact e'
/-- a length by whole numbers over N -/
def zof (N : Int) (p : Rat × Rat) : Int × Int := (qA p.1 p.2 * (N / qN p.1 p.2), qB p.1 p.2 * (N / qN p.1 p.2))
theorem zof_val {N : Int} {p : Rat × Rat} (hN : 0 < N) (h : qN p.1 p.2 ∣ N) : p.1 = ((zof N p).1 : Rat) / N ∧ p.2 = ((zof N p).2 : Rat) / N := by
  obtain ⟨c, hc⟩ := h
  have hq := qN_pos p.1 p.2
  have v := q_val p.1 p.2
  have e : N / qN p.1 p.2 = c := by rw [hc]; exact Int.mul_ediv_cancel_left _ (by omega)
  have hr := ratne (b := N) (by omega)
  have hr2 := qN_ne p.1 p.2
  have hNr : (N : Rat) = ((qN p.1 p.2 : Int) : Rat) * (c : Rat) := by rw [← Rat.intCast_mul, ← hc]
  unfold zof
  rw [e]
  simp only [Rat.intCast_mul]
  rw [v.1, v.2]
  constructor
  · rw [hNr] at hr ⊢; grind
  · rw [hNr] at hr ⊢; grind
theorem serving_eq (d : Int) (hd : Root d) [Bd d 7] (l : List (Rat × Rat)) (hp : ∀ p ∈ l, PosQ d p.1 p.2) {j K : Nat} (bN : Bd (comN 1 l) j) (hj : j ≤ 1900) (hK : ∀ p ∈ l, (zof (comN 1 l) p).1.natAbs ≤ 2 ^ K ∧ (zof (comN 1 l) p).2.natAbs ≤ 2 ^ K) (hK2 : K ≤ 3800) (hlen : l.length ≤ 1000000) :
    m_serving [.int d, .list (l.map lnp)] = .ok (bqD (comN 1 l) (Ba.at d (far d (l.map (zof (comN 1 l)))))) := by
  have hN := comN_pos l (n := 1) (by decide)
  have hdv := comN_dvd l (n := 1) (by decide)
  have ec := common_eq l bN (by omega)
  generalize hNe : comN 1 l = N at *
  have ef := first_base_bq d N (by omega) (show j ≤ 9000 by omega)
  have hpz : ∀ p ∈ l.map (zof N), PZ d p.1 p.2 := fun q hq => by
    obtain ⟨p, h, rfl⟩ := List.mem_map.mp hq
    obtain ⟨z1, z2⟩ := zof_val hN (hdv p h)
    rw [← posQ_lq hd hN, ← z1, ← z2]
    exact hp p h
  have hKz : ∀ p ∈ l.map (zof N), p.1.natAbs ≤ 2 ^ K ∧ p.2.natAbs ≤ 2 ^ K := fun q hq => by
    obtain ⟨p, h, rfl⟩ := List.mem_map.mp hq
    exact hK p h
  have b0 : BaB Ba.fst 1 := ⟨⟨by decide⟩, ⟨by decide⟩, ⟨by decide⟩, ⟨by decide⟩⟩
  have L : lcL (.one 4) bYes le1_serving [some (.d (.int d)), some (.d (.list (l.map lnp))), some (.d (bqD N Ba.fst)), none, none, none, none, none] (l.map lnp) = .ok ((l.map (zof N)).map (prI Ba.fst)) := by
    have G : ∀ l' : List (Rat × Rat), (∀ p ∈ l', p ∈ l) → ∀ s1 : PD, lcL (.one 4) bYes le1_serving [some (.d (.int d)), some (.d s1), some (.d (bqD N Ba.fst)), none, none, none, none, none] (l'.map lnp) = .ok ((l'.map (zof N)).map (prI Ba.fst)) := by
      intro l'
      induction l' with
      | nil => intro _ _; rfl
      | cons p l' ih =>
        intro hs s1
        refine lcL_1 ?_ (ih (fun q hq => hs q (.tail _ hq)) s1)
        have h := hs p (.head _)
        obtain ⟨z1, z2⟩ := zof_val hN (hdv p h)
        obtain ⟨k1, k2⟩ := hK p h
        have bA : Bd (zof N p).1 (K + 1) := ⟨by rw [Nat.pow_succ]; have := Nat.two_pow_pos K; omega⟩
        have bB : Bd (zof N p).2 (K + 1) := ⟨by rw [Nat.pow_succ]; have := Nat.two_pow_pos K; omega⟩
        have c := counts_bq (.int d) N hN (bN := bN) Ba.fst b0 (BaI.fst hd) (zof N p).1 (zof N p).2 (by omega) (by decide) (by omega)
        have e : (lnp p) = lqD (zof N p).1 (zof N p).2 N := by unfold lnp lqD; rw [← z1, ← z2]
        rw [← e] at c
        unfold prI
        generalize lnp p = P at *
        simp +decide only [le1_serving, ev_seq, seq_nx, seq_rt, seq_ex, seq_bk, seq_ct, seq_ite, fl_ok, fl_ex, fl_ite, ev_set, kSet_ev, ev_ret, ev_nx, ev_raise, ev_if, kIf_ev, ev_par, kPar_ev, kId_ev, ev_asg, kAsg_ev, ev_for, kFor_ev, ev_V, dVg_ok, ev_C, ev_1, ev_2, bind2_ok, bind2_ite1, bind2_ite2, bind_ite, ev_A, ev_nil, ev_cons, kCons_ev, ev_T, toB_ev, ev_and, ev_or, ev_not, kAnd_ev, kOr_ev, kNot_ev, ev_andV, ev_notV, kAndV_ev, kNotV_ev, tup_ev, lst_ev, call_ev, ev_fn, startE_0, startE_s, startE_c, fin_rt, fin_nx, fin_ex, fin_ite, ix_t0, ix_t1, ix_t2, ix_t3, ix_l0, ix_l1, ix_l2, len_l, len_t1, len_t2, len_t3, len_t4, beq_self_eq_true, ev_iL, ev_iT, asL_ev, asT_ev, ev_iA, ev_P, toI_ev, ev_P0, ev_sl, kSl_ev, put_1, gAdd_i, gSub_i, gMul_i, gDiv_p, gMod_p, gPow_l, gShl_l, gShr_l, gLt_i, gLe_i, gGt_i, gGe_i, gEq_i, gNe_i, gAbs_i, gInt_i, gInt_b, gEq_s, gNe_s, gEq_b, gNe_b, gEq_2, gNe_2, gEq_3, gNe_3, gEq_22, gNe_22, DL.R.bind_ok, DL.R.bind_ex, ev_setL, kSetL_ev, ev_lDisp, kDisp_ev, ev_lList, lOf_l, lOf_t, ev_frz, frz_l, frz_d, frz_n, ev_lend, lend_l, lend_d, atom_i, atom_b, atom_s, ev_lendB, lendB_l, lendB_d, ev_app, app_l, kApp_ev, ev_put, put_l, ev_ixO, ixO_l, ixO_d, put_m, putAll_c, putAll_n, ev_lc, kLst_ev, ev_lcL, wipe_n, wipe_c, r1_2, r1_3, bits_ev, List.getElem?_cons_zero, List.getElem?_cons_succ, List.set_cons_zero, List.set_cons_succ, List.length_cons, List.length_nil, List.length_map, List.append_nil, List.cons_append, List.nil_append, ev_if, turn_nx, turn_ct, turn_bk, turn_rt, turn_ite, kWh_ev, isi_int_int, isi_bool_int, isi_int_bool, isi_bool_bool, isi_int_str, isi_int_none, isi_int_list, isi_int_tup, isi_bool_str, isi_bool_none, isi_bool_list, isi_bool_tup, isi_tup_tup, isi_tup_int, isi_tup_bool, isi_tup_str, isi_tup_none, isi_tup_list, isi_list_list, isi_list_tup, isi_list_int, isi_list_bool, isi_list_str, isi_list_none, isi_str_str, isi_str_int, isi_str_bool, isi_str_none, isi_str_list, isi_str_tup, decide_true, decide_false, not_true_eq_false, not_false_eq_true, ne_eq, decide_eq_true_eq, Bool.not_eq_true', decide_eq_false_iff_not, Bool.not_true, Bool.not_false, Bool.false_eq_true, if_true, if_false, reduceIte, c]
    exact G l (fun _ h => h) _
  have hlen' : (l.map lnp).length ≤ 1000000 := by rw [List.length_map]; exact hlen
  obtain ⟨y5, y6, y7, e⟩ := serving_loop d N hd hN (bN := bN) (by omega) (l.map (zof N)) hpz hKz hK2 (by rw [List.length_map]; exact hlen) (.list (l.map lnp)) .none (far d (l.map (zof N))) 0 none none none (by omega)
  have e' : sWhile lt4_serving lb4_serving [some (.d (.int d)), some (.d (.list (l.map lnp))), some (.d (bqD N Ba.fst)), some (.d (.list ((l.map (zof N)).map (prI Ba.fst)))), none, none, none, none] = _ := e
  generalize l.map lnp = LL at *
  generalize (l.map (zof N)).map (prI Ba.fst) = PP at *
  generalize bqD N Ba.fst = BB at *
  simp +decide only [m_serving, den_serving, ev_seq, seq_nx, seq_rt, seq_ex, seq_bk, seq_ct, seq_ite, fl_ok, fl_ex, fl_ite, ev_set, kSet_ev, ev_ret, ev_nx, ev_raise, ev_if, kIf_ev, ev_par, kPar_ev, kId_ev, ev_asg, kAsg_ev, ev_for, kFor_ev, ev_V, dVg_ok, ev_C, ev_1, ev_2, bind2_ok, bind2_ite1, bind2_ite2, bind_ite, ev_A, ev_nil, ev_cons, kCons_ev, ev_T, toB_ev, ev_and, ev_or, ev_not, kAnd_ev, kOr_ev, kNot_ev, ev_andV, ev_notV, kAndV_ev, kNotV_ev, tup_ev, lst_ev, call_ev, ev_fn, startE_0, startE_s, startE_c, fin_rt, fin_nx, fin_ex, fin_ite, ix_t0, ix_t1, ix_t2, ix_t3, ix_l0, ix_l1, ix_l2, len_l, len_t1, len_t2, len_t3, len_t4, beq_self_eq_true, ev_iL, ev_iT, asL_ev, asT_ev, ev_iA, ev_P, toI_ev, ev_P0, ev_sl, kSl_ev, put_1, gAdd_i, gSub_i, gMul_i, gDiv_p, gMod_p, gPow_l, gShl_l, gShr_l, gLt_i, gLe_i, gGt_i, gGe_i, gEq_i, gNe_i, gAbs_i, gInt_i, gInt_b, gEq_s, gNe_s, gEq_b, gNe_b, gEq_2, gNe_2, gEq_3, gNe_3, gEq_22, gNe_22, DL.R.bind_ok, DL.R.bind_ex, ev_setL, kSetL_ev, ev_lDisp, kDisp_ev, ev_lList, lOf_l, lOf_t, ev_frz, frz_l, frz_d, frz_n, ev_lend, lend_l, lend_d, atom_i, atom_b, atom_s, ev_lendB, lendB_l, lendB_d, ev_app, app_l, kApp_ev, ev_put, put_l, ev_ixO, ixO_l, ixO_d, put_m, putAll_c, putAll_n, ev_lc, kLst_ev, ev_lcL, wipe_n, wipe_c, r1_2, r1_3, bits_ev, List.getElem?_cons_zero, List.getElem?_cons_succ, List.set_cons_zero, List.set_cons_succ, List.length_cons, List.length_nil, List.length_map, List.append_nil, List.cons_append, List.nil_append, ev_if, turn_nx, turn_ct, turn_bk, turn_rt, turn_ite, kWh_ev, isi_int_int, isi_bool_int, isi_int_bool, isi_bool_bool, isi_int_str, isi_int_none, isi_int_list, isi_int_tup, isi_bool_str, isi_bool_none, isi_bool_list, isi_bool_tup, isi_tup_tup, isi_tup_int, isi_tup_bool, isi_tup_str, isi_tup_none, isi_tup_list, isi_list_list, isi_list_tup, isi_list_int, isi_list_bool, isi_list_str, isi_list_none, isi_str_str, isi_str_int, isi_str_bool, isi_str_none, isi_str_list, isi_str_tup, decide_true, decide_false, not_true_eq_false, not_false_eq_true, ne_eq, decide_eq_true_eq, Bool.not_eq_true', decide_eq_false_iff_not, Bool.not_true, Bool.not_false, Bool.false_eq_true, if_true, if_false, reduceIte, ec, ef, kLcL_ev hlen', L, e']
/-! served, of rational parts -/
def SvR (b : Ba) (p : Rat × Rat) : Prop := 0 ≤ p.2 * b.U - p.1 * b.V ∧ 0 ≤ p.1 * b.Y - p.2 * b.X
theorem SvR.add {b : Ba} {p q : Rat × Rat} (h : SvR b p) (g : SvR b q) : SvR b (p.1 + q.1, p.2 + q.2) := by
  obtain ⟨h1, h2⟩ := h
  obtain ⟨g1, g2⟩ := g
  constructor
  · have := Rat.add_nonneg h1 g1
    show 0 ≤ (p.2 + q.2) * b.U - (p.1 + q.1) * b.V
    have e : (p.2 + q.2) * b.U - (p.1 + q.1) * b.V = p.2 * b.U - p.1 * b.V + (q.2 * b.U - q.1 * b.V) := by grind
    rw [e]; exact this
  · have := Rat.add_nonneg h2 g2
    show 0 ≤ (p.1 + q.1) * b.Y - (p.2 + q.2) * b.X
    have e : (p.1 + q.1) * b.Y - (p.2 + q.2) * b.X = p.1 * b.Y - p.2 * b.X + (q.1 * b.Y - q.2 * b.X) := by grind
    rw [e]; exact this
theorem SvR.mul {b : Ba} {p : Rat × Rat} {c : Rat} (hc : 0 ≤ c) (h : SvR b p) : SvR b (p.1 * c, p.2 * c) := by
  obtain ⟨h1, h2⟩ := h
  constructor
  · have := Rat.mul_nonneg h1 hc
    show 0 ≤ p.2 * c * b.U - p.1 * c * b.V
    have e : p.2 * c * b.U - p.1 * c * b.V = (p.2 * b.U - p.1 * b.V) * c := by grind
    rw [e]; exact this
  · have := Rat.mul_nonneg h2 hc
    show 0 ≤ p.1 * c * b.Y - p.2 * c * b.X
    have e : p.1 * c * b.Y - p.2 * c * b.X = (p.1 * b.Y - p.2 * b.X) * c := by grind
    rw [e]; exact this
theorem zof_pz {d : Int} (hd : Root d) {N : Int} (hN : 0 < N) {p : Rat × Rat} (h : qN p.1 p.2 ∣ N) (hp : PosQ d p.1 p.2) : PZ d (zof N p).1 (zof N p).2 := by
  obtain ⟨z1, z2⟩ := zof_val hN h
  rw [← posQ_lq hd hN, ← z1, ← z2]
  exact hp
theorem farQ_pz {d : Int} (hd : Root d) {l : List (Rat × Rat)} (hp : ∀ p ∈ l, PosQ d p.1 p.2) : ∀ q ∈ l.map (zof (comN 1 l)), PZ d q.1 q.2 := fun q hq => by
  obtain ⟨p, h, rfl⟩ := List.mem_map.mp hq
  exact zof_pz hd (comN_pos l (by decide)) (comN_dvd l (by decide) p h) (hp p h)
/-- a bottom that does divides -/
theorem qN_dvd {A B N : Int} (hN : N ≠ 0) : qN ((A : Rat) / N) ((B : Rat) / N) ∣ N := by
  have q := (q_of (a := A) (b := B) hN).2.2
  rw [← q]
  exact ⟨_, (lmul hN).2.2.symm⟩
end DL

set_option Elab.async false
set_option linter.all false
set_option maxRecDepth 100000
set_option maxHeartbeats 2000000
set_option autoImplicit false
/-! the law's tables, compared -/
namespace DL
open PySem L2 MB
def botP (B : Int) : List Bo → Int
  | [] => B
  | b :: bs => botP (B * qN b.x b.y * qN b.u b.v) bs
theorem botP_dvd0 : ∀ (bs : List Bo) (B : Int), B ∣ botP B bs
  | [], B => Int.dvd_refl B
  | b :: bs, B => Int.dvd_trans ⟨qN b.x b.y * qN b.u b.v, by rw [Int.mul_assoc]⟩ (botP_dvd0 bs _)
theorem botP_dvd : ∀ (bs : List Bo) (B : Int), ∀ b ∈ bs, qN b.x b.y * qN b.u b.v ∣ botP B bs
  | c :: bs, B, b, h => by
    rcases List.mem_cons.mp h with rfl | h
    · exact Int.dvd_trans ⟨B, by grind⟩ (botP_dvd0 bs _)
    · exact botP_dvd bs _ b h
theorem botP_pos : ∀ (bs : List Bo) (B : Int), 0 < B → 0 < botP B bs
  | [], B, h => h
  | b :: bs, B, h => botP_pos bs _ (Int.mul_pos (Int.mul_pos h (qN_pos _ _)) (qN_pos _ _))
theorem botP_bd {n m : Nat} : ∀ (bs : List Bo) (B : Int) (k : Nat), Bd B k → (∀ b ∈ bs, BW b n m) → Bd (botP B bs) (k + (m + m) * bs.length)
  | [], B, k, h, _ => by simpa [botP] using h
  | b :: bs, B, k, h, hb => by
    have bw := hb b (.head _)
    have b1 := bw.w.c; have b2 := bw.h.c
    have := botP_bd bs (B * qN b.x b.y * qN b.u b.v) (k + m + m) inferInstance fun c hc => hb c (.tail _ hc)
    rw [List.length_cons]
    exact this.mono (by rw [Nat.mul_add]; omega)
theorem tab_loop1 (h0 : PD) {n m : Nat} : ∀ (bs : List Bo) (B : Int) (k : Nat) (x2 x3 : Option SV), Bd B k → (∀ b ∈ bs, BW b n m) → k + (m + m) * bs.length ≤ 1000000 → ∃ y2 y3, sForL (.many [2, 3]) lb1_law_tab (bs.map boD) [some (.d h0), some (.d (.int B)), x2, x3, none, none, none] = .nx [some (.d h0), some (.d (.int (botP B bs))), y2, y3, none, none, none]
  | [], B, k, x2, x3, _, _, _ => ⟨x2, x3, rfl⟩
  | b :: bs, B, k, x2, x3, bB, hb, hl => by
    have bw := hb b (.head _)
    have b1 := bw.w.c; have b2 := bw.h.c
    rw [List.length_cons, Nat.mul_add] at hl
    obtain ⟨y2, y3, e⟩ := tab_loop1 h0 bs (B * qN b.x b.y * qN b.u b.v) (k + m + m) (some (.d (lnD b.x b.y))) (some (.d (lnD b.u b.v))) inferInstance (fun c hc => hb c (.tail _ hc)) (by omega)
    refine ⟨y2, y3, ?_⟩
    have t : lb1_law_tab [some (.d h0), some (.d (.int B)), some (.d (lnD b.x b.y)), some (.d (lnD b.u b.v)), none, none, none] = .nx [some (.d h0), some (.d (.int (B * qN b.x b.y * qN b.u b.v))), some (.d (lnD b.x b.y)), some (.d (lnD b.u b.v)), none, none, none] := by
      have l1 : k + m ≤ 134217728 := by omega
      have l2 : k + m + m ≤ 134217728 := by omega
      have g1 := gMul_i (i := B) (j := qN b.x b.y) l1
      have g2 := gMul_i (i := B * qN b.x b.y) (j := qN b.u b.v) l2
      simp +decide only [lb1_law_tab, ev_seq, seq_nx, seq_rt, seq_ex, seq_bk, seq_ct, seq_ite, fl_okM, fl_ex, fl_ite, ev_set, kSet_ev, ev_ret, ev_nx, ev_raise, ev_if, kIf_ev, ev_par, kPar_ev, kId_ev, ev_asg, kAsg_ev, ev_forM, kFor_ev, ev_V, dVg_ok, ev_C, ev_1, ev_2, bind2_ok, bind2_ite1, bind2_ite2, bind_ite, ev_A, ev_nil, ev_cons, kCons_ev, ev_T, toB_ev, ev_and, ev_or, ev_not, kAnd_ev, kOr_ev, kNot_ev, ev_andV, ev_notV, kAndV_ev, kNotV_ev, tup_ev, lst_ev, call_ev, ev_fn, startE_0, startE_s, startE_c, fin_rt, fin_nx, fin_ex, fin_ite, ix_t0, ix_t1, ix_t2, ix_t3, ix_l0, ix_l1, ix_l2, len_l, len_t1, len_t2, len_t3, len_t4, beq_self_eq_true, ev_iL, ev_iT, asL_ev, asT_ev, ev_iAM, ev_P, toI_ev, ev_P0, ev_sl, kSl_ev, put_1, gAdd_i, gSub_i, gMul_i, gDiv_p, gMod_p, gPow_l, gShl_l, gShr_l, gLt_i, gLe_i, gGt_i, gGe_i, gEq_i, gNe_i, gAbs_i, gInt_i, gInt_b, gEq_s, gNe_s, gEq_b, gNe_b, gEq_2, gNe_2, gEq_3, gNe_3, gEq_22, gNe_22, bind_okM, DL.R.bind_ex, ev_setL, kSetL_ev, ev_lDisp, kDisp_ev, ev_lList, lOf_l, lOf_t, ev_frz, frz_l, frz_d, frz_n, ev_lend, lend_l, lend_d, atom_i, atom_b, atom_s, ev_lendB, lendB_l, lendB_d, ev_app, app_l, kApp_ev, ev_put, put_l, ev_ixO, ixO_l, ixO_d, put_m, putAll_c, putAll_n, ev_lc, kLst_ev, ev_lcL, wipe_n, wipe_c, r1_2, r1_3, bits_ev, List.getElem?_cons_zero, List.getElem?_cons_succ, List.set_cons_zero, List.set_cons_succ, List.length_cons, List.length_nil, List.length_map, List.append_nil, List.cons_append, List.nil_append, ev_if, turn_nx, turn_ct, turn_bk, turn_rt, turn_ite, kWh_ev, isi_int_int, isi_bool_int, isi_int_bool, isi_bool_bool, isi_int_str, isi_int_none, isi_int_list, isi_int_tup, isi_bool_str, isi_bool_none, isi_bool_list, isi_bool_tup, isi_tup_tup, isi_tup_int, isi_tup_bool, isi_tup_str, isi_tup_none, isi_tup_list, isi_list_list, isi_list_tup, isi_list_int, isi_list_bool, isi_list_str, isi_list_none, isi_str_str, isi_str_int, isi_str_bool, isi_str_none, isi_str_list, isi_str_tup, decide_true, decide_false, not_true_eq_false, not_false_eq_true, ne_eq, decide_eq_true_eq, Bool.not_eq_true', decide_eq_false_iff_not, Bool.not_true, Bool.not_false, Bool.false_eq_true, if_true, if_false, reduceIte, seq_rm, seq_rv, turn_rm, turn_rv, turn_ex, ev_retV, ev_vL, kVL_ev, frzV_l, ev_setV, kSetV_l, kSetV_o, oPut_ev, oPutO_o, oPutO_me, oOwn_o, oOwn_me, fOwn_ev, gCallV_ev, ev_AV, ev_fnV, finV_rv, ev_clr, kClr_l, ev_vlend, kVLend_l, sv_d, sv_l, sv_o, tpD_d, tpD_l, tpD_n, g1, g2]
    rw [List.map_cons, show boD b = .tuple [lnD b.x b.y, lnD b.u b.v] from rfl, forL_m rfl]
    show (lb1_law_tab [some (.d h0), some (.d (.int B)), some (.d (lnD b.x b.y)), some (.d (lnD b.u b.v)), none, none, none]).turn _ = _
    rw [t, turn_nx, e]
    rfl
theorem tput_0 {i : Nat} {a b c e d : PD} {ρ : En} : kPut2 i [a, b, c, e] ρ d (.int 0) = .ok (.nx (ρ.set i (some (.l [d, b, c, e])))) := rfl
theorem tput_1 {i : Nat} {a b c e d : PD} {ρ : En} : kPut2 i [a, b, c, e] ρ d (.int 1) = .ok (.nx (ρ.set i (some (.l [a, d, c, e])))) := rfl
theorem tput_2 {i : Nat} {a b c e d : PD} {ρ : En} : kPut2 i [a, b, c, e] ρ d (.int 2) = .ok (.nx (ρ.set i (some (.l [a, b, d, e])))) := rfl
theorem tput_3 {i : Nat} {a b c e d : PD} {ρ : En} : kPut2 i [a, b, c, e] ρ d (.int 3) = .ok (.nx (ρ.set i (some (.l [a, b, c, d])))) := rfl
/-- one place -/
theorem tab_one4 (h0 bot w ht : PD) (s : Int) (P Q : List PD) (k i j z a b : Int) {ks ka kz : Nat} [Bd s ks] [Bd a ka] [Bd b ka] [Bd z kz] [bk : Bd k 3] (hb : ka + ka + ks ≤ 1000000) (hz : kz ≤ 1000000) (hi : k / 2 = i) (hj : k % 2 = j) (ia : gIx w (.int i) = .ok (.int a)) (ib : gIx ht (.int j) = .ok (.int b)) (ip : gIx (.list P) (.int k) = .ok (.int z))
    (ep : ∀ ρ : En, kPut2 4 P ρ (.int (z + a * b * s)) (.int k) = .ok (.nx (ρ.set 4 (some (.l Q))))) :
    lb2_law_tab [some (.d h0), some (.d bot), some (.d w), some (.d ht), some (.l P), some (.d (.int s)), some (.d (.int k))] = .nx [some (.d h0), some (.d bot), some (.d w), some (.d ht), some (.l Q), some (.d (.int s)), some (.d (.int k))] := by
  have g1 := gMul_i (i := a) (j := b) (by omega)
  have g2 := gMul_i (i := a * b) (j := s) (by omega)
  simp +decide only [lb2_law_tab, ev_seq, seq_nx, seq_rt, seq_ex, seq_bk, seq_ct, seq_ite, fl_okM, fl_ex, fl_ite, ev_set, kSet_ev, ev_ret, ev_nx, ev_raise, ev_if, kIf_ev, ev_par, kPar_ev, kId_ev, ev_asg, kAsg_ev, ev_forM, kFor_ev, ev_V, dVg_ok, ev_C, ev_1, ev_2, bind2_ok, bind2_ite1, bind2_ite2, bind_ite, ev_A, ev_nil, ev_cons, kCons_ev, ev_T, toB_ev, ev_and, ev_or, ev_not, kAnd_ev, kOr_ev, kNot_ev, ev_andV, ev_notV, kAndV_ev, kNotV_ev, tup_ev, lst_ev, call_ev, ev_fn, startE_0, startE_s, startE_c, fin_rt, fin_nx, fin_ex, fin_ite, ix_t0, ix_t1, ix_t2, ix_t3, ix_l0, ix_l1, ix_l2, len_l, len_t1, len_t2, len_t3, len_t4, beq_self_eq_true, ev_iL, ev_iT, asL_ev, asT_ev, ev_iAM, ev_P, toI_ev, ev_P0, ev_sl, kSl_ev, put_1, gAdd_i, gSub_i, gMul_i, gDiv_p, gMod_p, gPow_l, gShl_l, gShr_l, gLt_i, gLe_i, gGt_i, gGe_i, gEq_i, gNe_i, gAbs_i, gInt_i, gInt_b, gEq_s, gNe_s, gEq_b, gNe_b, gEq_2, gNe_2, gEq_3, gNe_3, gEq_22, gNe_22, bind_okM, DL.R.bind_ex, ev_setL, kSetL_ev, ev_lDisp, kDisp_ev, ev_lList, lOf_l, lOf_t, ev_frz, frz_l, frz_d, frz_n, ev_lend, lend_l, lend_d, atom_i, atom_b, atom_s, ev_lendB, lendB_l, lendB_d, ev_app, app_l, kApp_ev, ev_put, put_l, ev_ixO, ixO_l, ixO_d, put_m, putAll_c, putAll_n, ev_lc, kLst_ev, ev_lcL, wipe_n, wipe_c, r1_2, r1_3, bits_ev, List.getElem?_cons_zero, List.getElem?_cons_succ, List.set_cons_zero, List.set_cons_succ, List.length_cons, List.length_nil, List.length_map, List.append_nil, List.cons_append, List.nil_append, ev_if, turn_nx, turn_ct, turn_bk, turn_rt, turn_ite, kWh_ev, isi_int_int, isi_bool_int, isi_int_bool, isi_bool_bool, isi_int_str, isi_int_none, isi_int_list, isi_int_tup, isi_bool_str, isi_bool_none, isi_bool_list, isi_bool_tup, isi_tup_tup, isi_tup_int, isi_tup_bool, isi_tup_str, isi_tup_none, isi_tup_list, isi_list_list, isi_list_tup, isi_list_int, isi_list_bool, isi_list_str, isi_list_none, isi_str_str, isi_str_int, isi_str_bool, isi_str_none, isi_str_list, isi_str_tup, decide_true, decide_false, not_true_eq_false, not_false_eq_true, ne_eq, decide_eq_true_eq, Bool.not_eq_true', decide_eq_false_iff_not, Bool.not_true, Bool.not_false, Bool.false_eq_true, if_true, if_false, reduceIte, seq_rm, seq_rv, turn_rm, turn_rv, turn_ex, ev_retV, ev_vL, kVL_ev, frzV_l, ev_setV, kSetV_l, kSetV_o, oPut_ev, oPutO_o, oPutO_me, oOwn_o, oOwn_me, fOwn_ev, gCallV_ev, ev_AV, ev_fnV, finV_rv, ev_clr, kClr_l, ev_vlend, kVLend_l, sv_d, sv_l, sv_o, tpD_d, tpD_l, tpD_n, hi, hj, ia, ib, ip, g1, g2, ep]
theorem tab_turn4 (h0 bot w ht : PD) (B s p0 p1 p2 p3 a b n a' b' n' : Int) {ks ka kz kn kB : Nat} [Bd B kB] [Bd s ks] [Bd a ka] [Bd b ka] [Bd a' ka] [Bd b' ka] [Bd n kn] [Bd n' kn] [Bd p0 kz] [Bd p1 kz] [Bd p2 kz] [Bd p3 kz] (hb : ka + ka + ks ≤ 1000000) (hz : kz ≤ 1000000) (hkn : kn + kn ≤ 9000) (hn : 0 < n * n') (hs : B / (n * n') = s) (hbot : bot = .int B) (hw : w = .tuple [.int a, .int b, .int n]) (hh : ht = .tuple [.int a', .int b', .int n']) (x5 x6 : Option SV) :
    lb3_law_tab [some (.d h0), some (.d bot), some (.d w), some (.d ht), some (.l [.int p0, .int p1, .int p2, .int p3]), x5, x6] = .nx [some (.d h0), some (.d bot), some (.d w), some (.d ht), some (.l [.int (p0 + a * a' * s), .int (p1 + a * b' * s), .int (p2 + b * a' * s), .int (p3 + b * b' * s)]), some (.d (.int s)), some (.d (.int 3))] := by
  have g4 : gR1 [.int 4] = .ok [.int 0, .int 1, .int 2, .int 3] := gR1_n 4 (by decide)
  have w0 : gIx w (.int 0) = .ok (.int a) := by subst hw; exact ix_t0
  have w1 : gIx w (.int 1) = .ok (.int b) := by subst hw; exact ix_t1
  have w2 : gIx w (.int 2) = .ok (.int n) := by subst hw; exact ix_t2
  have v0 : gIx ht (.int 0) = .ok (.int a') := by subst hh; exact ix_t0
  have v1 : gIx ht (.int 1) = .ok (.int b') := by subst hh; exact ix_t1
  have v2 : gIx ht (.int 2) = .ok (.int n') := by subst hh; exact ix_t2
  have gm := gMul_i (i := n) (j := n') (by omega)
  have gd : gDiv bot (.int (n * n')) = .ok (.int s) := by
    have := gDiv_p (i := B) (j := n * n') hn (by omega)
    rw [hs] at this
    rw [hbot]
    exact this
  have t0 := tab_one4 h0 bot w ht s [.int p0, .int p1, .int p2, .int p3] _ 0 0 0 p0 a a' (bk := ⟨by decide⟩) hb hz rfl rfl w0 v0 (ix_l (k := 0) rfl) (fun ρ => tput_0)
  have t1 := tab_one4 h0 bot w ht s [.int (p0 + a * a' * s), .int p1, .int p2, .int p3] _ 1 0 1 p1 a b' (bk := ⟨by decide⟩) hb hz rfl rfl w0 v1 (ix_l (k := 1) rfl) (fun ρ => tput_1)
  have t2 := tab_one4 h0 bot w ht s [.int (p0 + a * a' * s), .int (p1 + a * b' * s), .int p2, .int p3] _ 2 1 0 p2 b a' (bk := ⟨by decide⟩) hb hz rfl rfl w1 v0 (ix_l (k := 2) rfl) (fun ρ => tput_2)
  have t3 := tab_one4 h0 bot w ht s [.int (p0 + a * a' * s), .int (p1 + a * b' * s), .int (p2 + b * a' * s), .int p3] _ 3 1 1 p3 b b' (bk := ⟨by decide⟩) hb hz rfl rfl w1 v1 (ix_l (k := 3) rfl) (fun ρ => tput_3)
  clear hbot hw hh
  simp +decide only [lb3_law_tab, ev_seq, seq_nx, seq_rt, seq_ex, seq_bk, seq_ct, seq_ite, fl_okM, fl_ex, fl_ite, ev_set, kSet_ev, ev_ret, ev_nx, ev_raise, ev_if, kIf_ev, ev_par, kPar_ev, kId_ev, ev_asg, kAsg_ev, ev_forM, kFor_ev, ev_V, dVg_ok, ev_C, ev_1, ev_2, bind2_ok, bind2_ite1, bind2_ite2, bind_ite, ev_A, ev_nil, ev_cons, kCons_ev, ev_T, toB_ev, ev_and, ev_or, ev_not, kAnd_ev, kOr_ev, kNot_ev, ev_andV, ev_notV, kAndV_ev, kNotV_ev, tup_ev, lst_ev, call_ev, ev_fn, startE_0, startE_s, startE_c, fin_rt, fin_nx, fin_ex, fin_ite, ix_t0, ix_t1, ix_t2, ix_t3, ix_l0, ix_l1, ix_l2, len_l, len_t1, len_t2, len_t3, len_t4, beq_self_eq_true, ev_iL, ev_iT, asL_ev, asT_ev, ev_iAM, ev_P, toI_ev, ev_P0, ev_sl, kSl_ev, put_1, gAdd_i, gSub_i, gMul_i, gDiv_p, gMod_p, gPow_l, gShl_l, gShr_l, gLt_i, gLe_i, gGt_i, gGe_i, gEq_i, gNe_i, gAbs_i, gInt_i, gInt_b, gEq_s, gNe_s, gEq_b, gNe_b, gEq_2, gNe_2, gEq_3, gNe_3, gEq_22, gNe_22, bind_okM, DL.R.bind_ex, ev_setL, kSetL_ev, ev_lDisp, kDisp_ev, ev_lList, lOf_l, lOf_t, ev_frz, frz_l, frz_d, frz_n, ev_lend, lend_l, lend_d, atom_i, atom_b, atom_s, ev_lendB, lendB_l, lendB_d, ev_app, app_l, kApp_ev, ev_put, put_l, ev_ixO, ixO_l, ixO_d, put_m, putAll_c, putAll_n, ev_lc, kLst_ev, ev_lcL, wipe_n, wipe_c, r1_2, r1_3, bits_ev, List.getElem?_cons_zero, List.getElem?_cons_succ, List.set_cons_zero, List.set_cons_succ, List.length_cons, List.length_nil, List.length_map, List.append_nil, List.cons_append, List.nil_append, ev_if, turn_nx, turn_ct, turn_bk, turn_rt, turn_ite, kWh_ev, isi_int_int, isi_bool_int, isi_int_bool, isi_bool_bool, isi_int_str, isi_int_none, isi_int_list, isi_int_tup, isi_bool_str, isi_bool_none, isi_bool_list, isi_bool_tup, isi_tup_tup, isi_tup_int, isi_tup_bool, isi_tup_str, isi_tup_none, isi_tup_list, isi_list_list, isi_list_tup, isi_list_int, isi_list_bool, isi_list_str, isi_list_none, isi_str_str, isi_str_int, isi_str_bool, isi_str_none, isi_str_list, isi_str_tup, decide_true, decide_false, not_true_eq_false, not_false_eq_true, ne_eq, decide_eq_true_eq, Bool.not_eq_true', decide_eq_false_iff_not, Bool.not_true, Bool.not_false, Bool.false_eq_true, if_true, if_false, reduceIte, seq_rm, seq_rv, turn_rm, turn_rv, turn_ex, ev_retV, ev_vL, kVL_ev, frzV_l, ev_setV, kSetV_l, kSetV_o, oPut_ev, oPutO_o, oPutO_me, oOwn_o, oOwn_me, fOwn_ev, gCallV_ev, ev_AV, ev_fnV, finV_rv, ev_clr, kClr_l, ev_vlend, kVLend_l, sv_d, sv_l, sv_o, tpD_d, tpD_l, tpD_n, w2, v2, gm, gd, g4, forL_1, forL_nil, t0, t1, t2, t3]
theorem tab_loop3 (h0 : PD) {n m kB : Nat} (B : Int) (bB : Bd B kB) (hB : 0 < B) (hn : n ≤ 5000) (hm : m ≤ 4000) (hk : kB ≤ 400000) : ∀ (bs : List Bo) (p0 p1 p2 p3 : Int) (q0 q1 q2 q3 : Rat) (kz : Nat) (x2 x3 x5 x6 : Option SV), (∀ b ∈ bs, BW b n m) → (∀ b ∈ bs, qN b.x b.y * qN b.u b.v ∣ B) → Bd p0 kz → Bd p1 kz → Bd p2 kz → Bd p3 kz → n + n + kB ≤ kz → kz + bs.length ≤ 900000 →
    (p0 : Rat) = B * q0 → (p1 : Rat) = B * q1 → (p2 : Rat) = B * q2 → (p3 : Rat) = B * q3 →
    ∃ (r0 r1 r2 r3 : Int) (y2 y3 y5 y6 : Option SV), sForL (.many [2, 3]) lb3_law_tab (bs.map boD) [some (.d h0), some (.d (.int B)), x2, x3, some (.l [.int p0, .int p1, .int p2, .int p3]), x5, x6] = .nx [some (.d h0), some (.d (.int B)), y2, y3, some (.l [.int r0, .int r1, .int r2, .int r3]), y5, y6] ∧
      (r0 : Rat) = B * (q0 + sumB (pr 0) bs) ∧ (r1 : Rat) = B * (q1 + sumB (pr 1) bs) ∧ (r2 : Rat) = B * (q2 + sumB (pr 2) bs) ∧ (r3 : Rat) = B * (q3 + sumB (pr 3) bs) ∧ Bd r0 (kz + bs.length) ∧ Bd r1 (kz + bs.length) ∧ Bd r2 (kz + bs.length) ∧ Bd r3 (kz + bs.length)
  | [], p0, p1, p2, p3, q0, q1, q2, q3, kz, x2, x3, x5, x6, _, _, b0, b1, b2, b3, _, _, e0, e1, e2, e3 => ⟨p0, p1, p2, p3, x2, x3, x5, x6, rfl, by rw [sumB, Rat.add_zero]; exact e0, by rw [sumB, Rat.add_zero]; exact e1, by rw [sumB, Rat.add_zero]; exact e2, by rw [sumB, Rat.add_zero]; exact e3, b0, b1, b2, b3⟩
  | b :: bs, p0, p1, p2, p3, q0, q1, q2, q3, kz, x2, x3, x5, x6, hb, hd, b0, b1, b2, b3, hz, hl, e0, e1, e2, e3 => by
    rw [List.length_cons] at hl
    have bw := hb b (.head _)
    have w1 := bw.w.a; have w2 := bw.w.b; have w3 := bw.w.c; have v1 := bw.h.a; have v2 := bw.h.b; have v3 := bw.h.c
    obtain ⟨s, hs⟩ := hd b (.head _)
    have hq : 0 < qN b.x b.y * qN b.u b.v := Int.mul_pos (qN_pos _ _) (qN_pos _ _)
    have es : B / (qN b.x b.y * qN b.u b.v) = s := by rw [hs]; exact Int.mul_ediv_cancel_left _ (by omega)
    have bs' : Bd s kB := bd_dvd (a := s) ⟨qN b.x b.y * qN b.u b.v, by rw [hs]; exact Int.mul_comm ..⟩ (by omega) bB
    have T := tab_turn4 h0 (.int B) (lnD b.x b.y) (lnD b.u b.v) B s p0 p1 p2 p3 (qA b.x b.y) (qB b.x b.y) (qN b.x b.y) (qA b.u b.v) (qB b.u b.v) (qN b.u b.v) (ks := kB) (ka := n) (kz := kz) (kn := m) (by omega) (by omega) (by omega) hq es rfl rfl rfl x5 x6
    have z1 := q_val b.x b.y
    have z2 := q_val b.u b.v
    have hB' : (B : Rat) = (qN b.x b.y : Rat) * (qN b.u b.v : Rat) * (s : Rat) := by rw [hs]; simp only [Rat.intCast_mul]
    have bt : ∀ {a a' : Int}, Bd a n → Bd a' n → Bd (a * a' * s) kz := fun {a a'} ha ha' => Bd.mono (inferInstance : Bd (a * a' * s) (n + n + kB)) hz
    have bt0 := bt w1 v1; have bt1 := bt w1 v2; have bt2 := bt w2 v1; have bt3 := bt w2 v2
    have add1 : ∀ {p t : Int}, Bd p kz → Bd t kz → Bd (p + t) (kz + 1) := fun {p t} h1 h2 => Bd.mono (inferInstance : Bd (p + t) (max kz kz + 1)) (by rw [Nat.max_self]; exact Nat.le_refl _)
    obtain ⟨r0, r1, r2, r3, y2, y3, y5, y6, e, f0, f1, f2, f3, c0, c1, c2, c3⟩ := tab_loop3 h0 B bB hB hn hm hk bs (p0 + qA b.x b.y * qA b.u b.v * s) (p1 + qA b.x b.y * qB b.u b.v * s) (p2 + qB b.x b.y * qA b.u b.v * s) (p3 + qB b.x b.y * qB b.u b.v * s) (q0 + pr 0 b) (q1 + pr 1 b) (q2 + pr 2 b) (q3 + pr 3 b) (kz + 1) (some (.d (lnD b.x b.y))) (some (.d (lnD b.u b.v))) (some (.d (.int s))) (some (.d (.int 3))) (fun c hc => hb c (.tail _ hc)) (fun c hc => hd c (.tail _ hc)) (add1 b0 bt0) (add1 b1 bt1) (add1 b2 bt2) (add1 b3 bt3) (by omega) (by omega)
      (by simp only [Rat.intCast_add, Rat.intCast_mul, e0, z1.1, z2.1, hB', pr]; grind) (by simp only [Rat.intCast_add, Rat.intCast_mul, e1, z1.1, z2.2, hB', pr]; grind) (by simp only [Rat.intCast_add, Rat.intCast_mul, e2, z1.2, z2.1, hB', pr]; grind) (by simp only [Rat.intCast_add, Rat.intCast_mul, e3, z1.2, z2.2, hB', pr]; grind)
    refine ⟨r0, r1, r2, r3, y2, y3, y5, y6, ?_, by rw [f0, sumB]; grind, by rw [f1, sumB]; grind, by rw [f2, sumB]; grind, by rw [f3, sumB]; grind, by rw [List.length_cons]; exact c0.mono (by omega), by rw [List.length_cons]; exact c1.mono (by omega), by rw [List.length_cons]; exact c2.mono (by omega), by rw [List.length_cons]; exact c3.mono (by omega)⟩
    rw [List.map_cons, show boD b = .tuple [lnD b.x b.y, lnD b.u b.v] from rfl, forL_m rfl]
    show (lb3_law_tab [some (.d h0), some (.d (.int B)), some (.d (lnD b.x b.y)), some (.d (lnD b.u b.v)), some (.l [.int p0, .int p1, .int p2, .int p3]), x5, x6]).turn _ = _
    rw [T, turn_nx, e]
theorem tab_fin4 (XS : List PD) (B r0 r1 r2 r3 : Int) (y2 y3 z2 z3 y5 y6 : Option SV) (e1 : sForL (.many [2, 3]) lb1_law_tab XS [some (.d (.list XS)), some (.d (.int 1)), none, none, none, none, none] = .nx [some (.d (.list XS)), some (.d (.int B)), y2, y3, none, none, none])
    (e2 : sForL (.many [2, 3]) lb3_law_tab XS [some (.d (.list XS)), some (.d (.int B)), y2, y3, some (.l [.int 0, .int 0, .int 0, .int 0]), none, none] = .nx [some (.d (.list XS)), some (.d (.int B)), z2, z3, some (.l [.int r0, .int r1, .int r2, .int r3]), y5, y6]) : m_law_tab [.list XS] = .ok (.list [.list [.int r0, .int r1, .int r2, .int r3], .int B]) := by
  simp +decide only [m_law_tab, den_law_tab, ev_seq, seq_nx, seq_rt, seq_ex, seq_bk, seq_ct, seq_ite, fl_okM, fl_ex, fl_ite, ev_set, kSet_ev, ev_ret, ev_nx, ev_raise, ev_if, kIf_ev, ev_par, kPar_ev, kId_ev, ev_asg, kAsg_ev, ev_forM, kFor_ev, ev_V, dVg_ok, ev_C, ev_1, ev_2, bind2_ok, bind2_ite1, bind2_ite2, bind_ite, ev_A, ev_nil, ev_cons, kCons_ev, ev_T, toB_ev, ev_and, ev_or, ev_not, kAnd_ev, kOr_ev, kNot_ev, ev_andV, ev_notV, kAndV_ev, kNotV_ev, tup_ev, lst_ev, call_ev, ev_fn, startE_0, startE_s, startE_c, fin_rt, fin_nx, fin_ex, fin_ite, ix_t0, ix_t1, ix_t2, ix_t3, ix_l0, ix_l1, ix_l2, len_l, len_t1, len_t2, len_t3, len_t4, beq_self_eq_true, ev_iL, ev_iT, asL_ev, asT_ev, ev_iAM, ev_P, toI_ev, ev_P0, ev_sl, kSl_ev, put_1, gAdd_i, gSub_i, gMul_i, gDiv_p, gMod_p, gPow_l, gShl_l, gShr_l, gLt_i, gLe_i, gGt_i, gGe_i, gEq_i, gNe_i, gAbs_i, gInt_i, gInt_b, gEq_s, gNe_s, gEq_b, gNe_b, gEq_2, gNe_2, gEq_3, gNe_3, gEq_22, gNe_22, bind_okM, DL.R.bind_ex, ev_setL, kSetL_ev, ev_lDisp, kDisp_ev, ev_lList, lOf_l, lOf_t, ev_frz, frz_l, frz_d, frz_n, ev_lend, lend_l, lend_d, atom_i, atom_b, atom_s, ev_lendB, lendB_l, lendB_d, ev_app, app_l, kApp_ev, ev_put, put_l, ev_ixO, ixO_l, ixO_d, put_m, putAll_c, putAll_n, ev_lc, kLst_ev, ev_lcL, wipe_n, wipe_c, r1_2, r1_3, bits_ev, List.getElem?_cons_zero, List.getElem?_cons_succ, List.set_cons_zero, List.set_cons_succ, List.length_cons, List.length_nil, List.length_map, List.append_nil, List.cons_append, List.nil_append, ev_if, turn_nx, turn_ct, turn_bk, turn_rt, turn_ite, kWh_ev, isi_int_int, isi_bool_int, isi_int_bool, isi_bool_bool, isi_int_str, isi_int_none, isi_int_list, isi_int_tup, isi_bool_str, isi_bool_none, isi_bool_list, isi_bool_tup, isi_tup_tup, isi_tup_int, isi_tup_bool, isi_tup_str, isi_tup_none, isi_tup_list, isi_list_list, isi_list_tup, isi_list_int, isi_list_bool, isi_list_str, isi_list_none, isi_str_str, isi_str_int, isi_str_bool, isi_str_none, isi_str_list, isi_str_tup, decide_true, decide_false, not_true_eq_false, not_false_eq_true, ne_eq, decide_eq_true_eq, Bool.not_eq_true', decide_eq_false_iff_not, Bool.not_true, Bool.not_false, Bool.false_eq_true, if_true, if_false, reduceIte, seq_rm, seq_rv, turn_rm, turn_rv, turn_ex, ev_retV, ev_vL, kVL_ev, frzV_l, ev_setV, kSetV_l, kSetV_o, oPut_ev, oPutO_o, oPutO_me, oOwn_o, oOwn_me, fOwn_ev, gCallV_ev, ev_AV, ev_fnV, finV_rv, ev_clr, kClr_l, ev_vlend, kVLend_l, sv_d, sv_l, sv_o, tpD_d, tpD_l, tpD_n, e1, e2]
/-- the law's table of a heap -/
structure TabI (bs : List Bo) (B r0 r1 r2 r3 : Int) : Prop where
  e : m_law_tab [.list (bs.map boD)] = .ok (.list [.list [.int r0, .int r1, .int r2, .int r3], .int B])
  B0 : 0 < B
  bB : Bd B 1000000
  v0 : (r0 : Rat) = B * sumB (pr 0) bs
  v1 : (r1 : Rat) = B * sumB (pr 1) bs
  v2 : (r2 : Rat) = B * sumB (pr 2) bs
  v3 : (r3 : Rat) = B * sumB (pr 3) bs
  b0 : Bd r0 1000000
  b1 : Bd r1 1000000
  b2 : Bd r2 1000000
  b3 : Bd r3 1000000
theorem tab_ok {n m : Nat} (hn : n ≤ 5000) (hm : m ≤ 1900) (bs : List Bo) (hb : ∀ b ∈ bs, BW b n m) (hl : bs.length ≤ 100) : ∃ B r0 r1 r2 r3 : Int, TabI bs B r0 r1 r2 r3 := by
  have hml : (m + m) * bs.length ≤ 380000 := Nat.le_trans (Nat.mul_le_mul (show m + m ≤ 3800 by omega) hl) (by decide)
  have b1 : Bd (1 : Int) 1 := ⟨by decide⟩
  obtain ⟨y2, y3, e1⟩ := tab_loop1 (.list (bs.map boD)) bs 1 1 none none b1 hb (by omega)
  have bB := botP_bd bs 1 1 b1 hb
  have B0 := botP_pos bs 1 (by decide)
  have z : ∀ k, Bd (0 : Int) k := fun k => ⟨Nat.two_pow_pos _⟩
  have zz : ((0 : Int) : Rat) = (botP 1 bs : Rat) * 0 := by rw [Rat.mul_zero]; rfl
  obtain ⟨r0, r1, r2, r3, z2, z3, y5, y6, e2, f0, f1, f2, f3, c0, c1, c2, c3⟩ := tab_loop3 (.list (bs.map boD)) (botP 1 bs) bB B0 hn (by omega) (by omega) bs 0 0 0 0 0 0 0 0 (n + n + (1 + (m + m) * bs.length)) y2 y3 none none hb (botP_dvd bs 1) (z _) (z _) (z _) (z _) (Nat.le_refl _) (by omega) zz zz zz zz
  have a0 : ∀ q : Rat, 0 + q = q := fun q => by grind
  rw [a0] at f0 f1 f2 f3
  exact ⟨_, r0, r1, r2, r3, ⟨tab_fin4 _ _ _ _ _ _ y2 y3 z2 z3 y5 y6 e1 e2, B0, bB.mono (by omega), f0, f1, f2, f3, c0.mono (by omega), c1.mono (by omega), c2.mono (by omega), c3.mono (by omega)⟩⟩
theorem like_fin4 (x y P Q : PD) (B B' : Int) (XS YS PS QS : List PD) (b : Bool) (e1 : m_law_tab [x] = .ok (.list [P, .int B])) (e2 : m_law_tab [y] = .ok (.list [Q, .int B'])) (hP : P = .list PS) (hQ : Q = .list QS) (lP : PS.length ≤ 1000000) (lQ : QS.length ≤ 1000000)
    (c1 : lcL (.one 4) bYes le1_law_like [some (.d x), some (.d y), some (.d (.list [P, .int B])), some (.d (.list [Q, .int B'])), none] PS = .ok XS) (c2 : lcL (.one 4) bYes le2_law_like [some (.d x), some (.d y), some (.d (.list [P, .int B])), some (.d (.list [Q, .int B'])), none] QS = .ok YS) (eb : gEq (.list XS) (.list YS) = .ok (.bool b)) : m_law_like [x, y] = .ok (.bool b) := by
  have i0 : gIx (.list [P, .int B]) (.int 0) = .ok P := ix_l0
  have j0 : gIx (.list [Q, .int B']) (.int 0) = .ok Q := ix_l0
  have aP : asL P = .ok PS := by subst hP; rfl
  have aQ : asL Q = .ok QS := by subst hQ; rfl
  generalize (PyData.list [P, .int B]) = T1 at *
  generalize (PyData.list [Q, .int B']) = T2 at *
  simp +decide only [m_law_like, den_law_like, ev_seq, seq_nx, seq_rt, seq_ex, seq_bk, seq_ct, seq_ite, fl_okM, fl_ex, fl_ite, ev_set, kSet_ev, ev_ret, ev_nx, ev_raise, ev_if, kIf_ev, ev_par, kPar_ev, kId_ev, ev_asg, kAsg_ev, ev_forM, kFor_ev, ev_V, dVg_ok, ev_C, ev_1, ev_2, bind2_ok, bind2_ite1, bind2_ite2, bind_ite, ev_A, ev_nil, ev_cons, kCons_ev, ev_T, toB_ev, ev_and, ev_or, ev_not, kAnd_ev, kOr_ev, kNot_ev, ev_andV, ev_notV, kAndV_ev, kNotV_ev, tup_ev, lst_ev, call_ev, ev_fn, startE_0, startE_s, startE_c, fin_rt, fin_nx, fin_ex, fin_ite, ix_t0, ix_t1, ix_t2, ix_t3, ix_l0, ix_l1, ix_l2, len_l, len_t1, len_t2, len_t3, len_t4, beq_self_eq_true, ev_iL, ev_iT, asL_ev, asT_ev, ev_iAM, ev_P, toI_ev, ev_P0, ev_sl, kSl_ev, put_1, gAdd_i, gSub_i, gMul_i, gDiv_p, gMod_p, gPow_l, gShl_l, gShr_l, gLt_i, gLe_i, gGt_i, gGe_i, gEq_i, gNe_i, gAbs_i, gInt_i, gInt_b, gEq_s, gNe_s, gEq_b, gNe_b, gEq_2, gNe_2, gEq_3, gNe_3, gEq_22, gNe_22, bind_okM, DL.R.bind_ex, ev_setL, kSetL_ev, ev_lDisp, kDisp_ev, ev_lList, lOf_l, lOf_t, ev_frz, frz_l, frz_d, frz_n, ev_lend, lend_l, lend_d, atom_i, atom_b, atom_s, ev_lendB, lendB_l, lendB_d, ev_app, app_l, kApp_ev, ev_put, put_l, ev_ixO, ixO_l, ixO_d, put_m, putAll_c, putAll_n, ev_lc, kLst_ev, ev_lcL, wipe_n, wipe_c, r1_2, r1_3, bits_ev, List.getElem?_cons_zero, List.getElem?_cons_succ, List.set_cons_zero, List.set_cons_succ, List.length_cons, List.length_nil, List.length_map, List.append_nil, List.cons_append, List.nil_append, ev_if, turn_nx, turn_ct, turn_bk, turn_rt, turn_ite, kWh_ev, isi_int_int, isi_bool_int, isi_int_bool, isi_bool_bool, isi_int_str, isi_int_none, isi_int_list, isi_int_tup, isi_bool_str, isi_bool_none, isi_bool_list, isi_bool_tup, isi_tup_tup, isi_tup_int, isi_tup_bool, isi_tup_str, isi_tup_none, isi_tup_list, isi_list_list, isi_list_tup, isi_list_int, isi_list_bool, isi_list_str, isi_list_none, isi_str_str, isi_str_int, isi_str_bool, isi_str_none, isi_str_list, isi_str_tup, decide_true, decide_false, not_true_eq_false, not_false_eq_true, ne_eq, decide_eq_true_eq, Bool.not_eq_true', decide_eq_false_iff_not, Bool.not_true, Bool.not_false, Bool.false_eq_true, if_true, if_false, reduceIte, seq_rm, seq_rv, turn_rm, turn_rv, turn_ex, ev_retV, ev_vL, kVL_ev, frzV_l, ev_setV, kSetV_l, kSetV_o, oPut_ev, oPutO_o, oPutO_me, oOwn_o, oOwn_me, fOwn_ev, gCallV_ev, ev_AV, ev_fnV, finV_rv, ev_clr, kClr_l, ev_vlend, kVLend_l, sv_d, sv_l, sv_o, tpD_d, tpD_l, tpD_n, e1, e2, i0, j0, aP, aQ, kLcL_ev lP, kLcL_ev lQ, c1, c2, eb]
theorem law_like_ok {n m : Nat} (hn : n ≤ 5000) (hm : m ≤ 1900) (bs cs : List Bo) (hb : ∀ b ∈ bs, BW b n m) (hc : ∀ b ∈ cs, BW b n m) (hl : bs.length ≤ 100) (hl2 : cs.length ≤ 100) : ∃ b : Bool, m_law_like [.list (bs.map boD), .list (cs.map boD)] = .ok (.bool b) ∧ (b = true ↔ ∀ k, sumB (pr k) bs = sumB (pr k) cs) := by
  obtain ⟨B, r0, r1, r2, r3, T⟩ := tab_ok hn hm bs hb hl
  obtain ⟨C, s0, s1, s2, s3, S⟩ := tab_ok hn hm cs hc hl2
  have bB := T.bB; have t0 := T.b0; have t1 := T.b1; have t2 := T.b2; have t3 := T.b3
  have bC := S.bB; have u0 := S.b0; have u1 := S.b1; have u2 := S.b2; have u3 := S.b3
  obtain ⟨b, eb, hbb⟩ := gEq_lyd (vs := [r0 * C, r1 * C, r2 * C, r3 * C].map PyData.int) (ws := [s0 * B, s1 * B, s2 * B, s3 * B].map PyData.int) (k := 1) (fy_ints _) (fy_ints _) (by decide)
  have M : ∀ (a c : Int), Bd a 1000000 → Bd c 1000000 → gMul (.int a) (.int c) = .ok (.int (a * c)) := fun a c h1 h2 => gMul_i (by decide)
  have i1 : gIx (.list [.list [.int s0, .int s1, .int s2, .int s3], .int C]) (.int 1) = .ok (.int C) := ix_l1
  have j1 : gIx (.list [.list [.int r0, .int r1, .int r2, .int r3], .int B]) (.int 1) = .ok (.int B) := ix_l1
  refine ⟨b, like_fin4 _ _ _ _ B C _ _ [.int r0, .int r1, .int r2, .int r3] [.int s0, .int s1, .int s2, .int s3] b T.e S.e rfl rfl (Nat.le_of_ble_eq_true rfl) (Nat.le_of_ble_eq_true rfl) ?_ ?_ eb, ?_⟩
  · have h : ∀ z : Int, Bd z 1000000 → le1_law_like [some (.d (.list (bs.map boD))), some (.d (.list (cs.map boD))), some (.d (.list [.list [.int r0, .int r1, .int r2, .int r3], .int B])), some (.d (.list [.list [.int s0, .int s1, .int s2, .int s3], .int C])), some (.d (.int z))] = .ok (.int (z * C)) := fun z hz => by
      have g := M z C hz bC
      generalize (PyData.list [.list [.int s0, .int s1, .int s2, .int s3], .int C]) = T2 at *
      simp +decide only [le1_law_like, ev_seq, seq_nx, seq_rt, seq_ex, seq_bk, seq_ct, seq_ite, fl_okM, fl_ex, fl_ite, ev_set, kSet_ev, ev_ret, ev_nx, ev_raise, ev_if, kIf_ev, ev_par, kPar_ev, kId_ev, ev_asg, kAsg_ev, ev_forM, kFor_ev, ev_V, dVg_ok, ev_C, ev_1, ev_2, bind2_ok, bind2_ite1, bind2_ite2, bind_ite, ev_A, ev_nil, ev_cons, kCons_ev, ev_T, toB_ev, ev_and, ev_or, ev_not, kAnd_ev, kOr_ev, kNot_ev, ev_andV, ev_notV, kAndV_ev, kNotV_ev, tup_ev, lst_ev, call_ev, ev_fn, startE_0, startE_s, startE_c, fin_rt, fin_nx, fin_ex, fin_ite, ix_t0, ix_t1, ix_t2, ix_t3, ix_l0, ix_l1, ix_l2, len_l, len_t1, len_t2, len_t3, len_t4, beq_self_eq_true, ev_iL, ev_iT, asL_ev, asT_ev, ev_iAM, ev_P, toI_ev, ev_P0, ev_sl, kSl_ev, put_1, gAdd_i, gSub_i, gMul_i, gDiv_p, gMod_p, gPow_l, gShl_l, gShr_l, gLt_i, gLe_i, gGt_i, gGe_i, gEq_i, gNe_i, gAbs_i, gInt_i, gInt_b, gEq_s, gNe_s, gEq_b, gNe_b, gEq_2, gNe_2, gEq_3, gNe_3, gEq_22, gNe_22, bind_okM, DL.R.bind_ex, ev_setL, kSetL_ev, ev_lDisp, kDisp_ev, ev_lList, lOf_l, lOf_t, ev_frz, frz_l, frz_d, frz_n, ev_lend, lend_l, lend_d, atom_i, atom_b, atom_s, ev_lendB, lendB_l, lendB_d, ev_app, app_l, kApp_ev, ev_put, put_l, ev_ixO, ixO_l, ixO_d, put_m, putAll_c, putAll_n, ev_lc, kLst_ev, ev_lcL, wipe_n, wipe_c, r1_2, r1_3, bits_ev, List.getElem?_cons_zero, List.getElem?_cons_succ, List.set_cons_zero, List.set_cons_succ, List.length_cons, List.length_nil, List.length_map, List.append_nil, List.cons_append, List.nil_append, ev_if, turn_nx, turn_ct, turn_bk, turn_rt, turn_ite, kWh_ev, isi_int_int, isi_bool_int, isi_int_bool, isi_bool_bool, isi_int_str, isi_int_none, isi_int_list, isi_int_tup, isi_bool_str, isi_bool_none, isi_bool_list, isi_bool_tup, isi_tup_tup, isi_tup_int, isi_tup_bool, isi_tup_str, isi_tup_none, isi_tup_list, isi_list_list, isi_list_tup, isi_list_int, isi_list_bool, isi_list_str, isi_list_none, isi_str_str, isi_str_int, isi_str_bool, isi_str_none, isi_str_list, isi_str_tup, decide_true, decide_false, not_true_eq_false, not_false_eq_true, ne_eq, decide_eq_true_eq, Bool.not_eq_true', decide_eq_false_iff_not, Bool.not_true, Bool.not_false, Bool.false_eq_true, if_true, if_false, reduceIte, seq_rm, seq_rv, turn_rm, turn_rv, turn_ex, ev_retV, ev_vL, kVL_ev, frzV_l, ev_setV, kSetV_l, kSetV_o, oPut_ev, oPutO_o, oPutO_me, oOwn_o, oOwn_me, fOwn_ev, gCallV_ev, ev_AV, ev_fnV, finV_rv, ev_clr, kClr_l, ev_vlend, kVLend_l, sv_d, sv_l, sv_o, tpD_d, tpD_l, tpD_n, i1, g]
    exact lcL_1 (h r0 t0) (lcL_1 (h r1 t1) (lcL_1 (h r2 t2) (lcL_1 (h r3 t3) lcL_n)))
  · have h : ∀ z : Int, Bd z 1000000 → le2_law_like [some (.d (.list (bs.map boD))), some (.d (.list (cs.map boD))), some (.d (.list [.list [.int r0, .int r1, .int r2, .int r3], .int B])), some (.d (.list [.list [.int s0, .int s1, .int s2, .int s3], .int C])), some (.d (.int z))] = .ok (.int (z * B)) := fun z hz => by
      have g := M z B hz bB
      generalize (PyData.list [.list [.int r0, .int r1, .int r2, .int r3], .int B]) = T1 at *
      simp +decide only [le2_law_like, ev_seq, seq_nx, seq_rt, seq_ex, seq_bk, seq_ct, seq_ite, fl_okM, fl_ex, fl_ite, ev_set, kSet_ev, ev_ret, ev_nx, ev_raise, ev_if, kIf_ev, ev_par, kPar_ev, kId_ev, ev_asg, kAsg_ev, ev_forM, kFor_ev, ev_V, dVg_ok, ev_C, ev_1, ev_2, bind2_ok, bind2_ite1, bind2_ite2, bind_ite, ev_A, ev_nil, ev_cons, kCons_ev, ev_T, toB_ev, ev_and, ev_or, ev_not, kAnd_ev, kOr_ev, kNot_ev, ev_andV, ev_notV, kAndV_ev, kNotV_ev, tup_ev, lst_ev, call_ev, ev_fn, startE_0, startE_s, startE_c, fin_rt, fin_nx, fin_ex, fin_ite, ix_t0, ix_t1, ix_t2, ix_t3, ix_l0, ix_l1, ix_l2, len_l, len_t1, len_t2, len_t3, len_t4, beq_self_eq_true, ev_iL, ev_iT, asL_ev, asT_ev, ev_iAM, ev_P, toI_ev, ev_P0, ev_sl, kSl_ev, put_1, gAdd_i, gSub_i, gMul_i, gDiv_p, gMod_p, gPow_l, gShl_l, gShr_l, gLt_i, gLe_i, gGt_i, gGe_i, gEq_i, gNe_i, gAbs_i, gInt_i, gInt_b, gEq_s, gNe_s, gEq_b, gNe_b, gEq_2, gNe_2, gEq_3, gNe_3, gEq_22, gNe_22, bind_okM, DL.R.bind_ex, ev_setL, kSetL_ev, ev_lDisp, kDisp_ev, ev_lList, lOf_l, lOf_t, ev_frz, frz_l, frz_d, frz_n, ev_lend, lend_l, lend_d, atom_i, atom_b, atom_s, ev_lendB, lendB_l, lendB_d, ev_app, app_l, kApp_ev, ev_put, put_l, ev_ixO, ixO_l, ixO_d, put_m, putAll_c, putAll_n, ev_lc, kLst_ev, ev_lcL, wipe_n, wipe_c, r1_2, r1_3, bits_ev, List.getElem?_cons_zero, List.getElem?_cons_succ, List.set_cons_zero, List.set_cons_succ, List.length_cons, List.length_nil, List.length_map, List.append_nil, List.cons_append, List.nil_append, ev_if, turn_nx, turn_ct, turn_bk, turn_rt, turn_ite, kWh_ev, isi_int_int, isi_bool_int, isi_int_bool, isi_bool_bool, isi_int_str, isi_int_none, isi_int_list, isi_int_tup, isi_bool_str, isi_bool_none, isi_bool_list, isi_bool_tup, isi_tup_tup, isi_tup_int, isi_tup_bool, isi_tup_str, isi_tup_none, isi_tup_list, isi_list_list, isi_list_tup, isi_list_int, isi_list_bool, isi_list_str, isi_list_none, isi_str_str, isi_str_int, isi_str_bool, isi_str_none, isi_str_list, isi_str_tup, decide_true, decide_false, not_true_eq_false, not_false_eq_true, ne_eq, decide_eq_true_eq, Bool.not_eq_true', decide_eq_false_iff_not, Bool.not_true, Bool.not_false, Bool.false_eq_true, if_true, if_false, reduceIte, seq_rm, seq_rv, turn_rm, turn_rv, turn_ex, ev_retV, ev_vL, kVL_ev, frzV_l, ev_setV, kSetV_l, kSetV_o, oPut_ev, oPutO_o, oPutO_me, oOwn_o, oOwn_me, fOwn_ev, gCallV_ev, ev_AV, ev_fnV, finV_rv, ev_clr, kClr_l, ev_vlend, kVLend_l, sv_d, sv_l, sv_o, tpD_d, tpD_l, tpD_n, j1, g]
    exact lcL_1 (h s0 u0) (lcL_1 (h s1 u1) (lcL_1 (h s2 u2) (lcL_1 (h s3 u3) lcL_n)))
  · rw [hbb]
    have hB : (B : Rat) ≠ 0 := ratne (by have := T.B0; omega)
    have hC : (C : Rat) ≠ 0 := ratne (by have := S.B0; omega)
    have cross : ∀ {r s : Int} {x y : Rat}, (r : Rat) = B * x → (s : Rat) = C * y → (r * C = s * B ↔ x = y) := fun {r s x y} h1 h2 => by
      constructor
      · intro e
        have : (r : Rat) * C = s * B := by exact_mod_cast e
        rw [h1, h2] at this
        have h3 : (B : Rat) * C ≠ 0 := by
          rw [← Rat.intCast_mul]
          exact ratne (by have := Int.mul_pos T.B0 S.B0; omega)
        grind
      · intro e
        have : (r : Rat) * C = s * B := by rw [h1, h2, e]; grind
        exact_mod_cast this
    have k0 := cross T.v0 S.v0
    have k1 := cross T.v1 S.v1
    have k2 := cross T.v2 S.v2
    have k3 := cross T.v3 S.v3
    constructor
    · intro h
      simp only [List.map_cons, List.map_nil, List.cons.injEq, PyData.int.injEq, and_true] at h
      obtain ⟨a0, a1, a2, a3⟩ := h
      intro k
      match k with
      | 0 => exact k0.mp a0
      | 1 => exact k1.mp a1
      | 2 => exact k2.mp a2
      | 3 => exact k3.mp a3
    · intro h
      rw [k0.mpr (h 0), k1.mpr (h 1), k2.mpr (h 2), k3.mpr (h 3)]
end DL

set_option Elab.async false
set_option linter.all false
set_option maxRecDepth 100000
set_option maxHeartbeats 2000000
set_option autoImplicit false
/-! the yards' start -/
namespace DL
open PySem L2 MB
theorem common {d : Int} : ∀ ps : List (Rat × Rat), (∀ p ∈ ps, Dr d p) → ∃ D : Int, 0 < D ∧ Bd D (21 * ps.length + 1) ∧ ∀ p ∈ ps, Ov D (43 + 21 * ps.length) p.1 p.2
  | [], _ => ⟨1, by decide, bd_one (by decide), fun p hp => nomatch hp⟩
  | p :: ps, h => by
    obtain ⟨D, D0, bD, hD⟩ := common ps fun q hq => h q (.tail _ hq)
    obtain ⟨_, n, n0, bn, on⟩ := h p (.head _)
    rw [List.length_cons]
    refine ⟨D * n, Int.mul_pos D0 n0, Bd.mono (inferInstance : Bd (D * n) (21 * ps.length + 1 + 21)) (by omega), fun q hq => ?_⟩
    rcases List.mem_cons.mp hq with rfl | hq
    · have s := on.scale (k := D) (by omega) (by omega) bD
      rw [Int.mul_comm n D] at s
      exact s.mono (by omega)
    · exact ((hD q hq).scale (k := n) (by omega) (by omega) bn).mono (by omega)
def sides : List Bo → List (Rat × Rat)
  | [] => []
  | b :: bs => (b.x, b.y) :: (b.u, b.v) :: sides bs
theorem sides_len : ∀ bs : List Bo, (sides bs).length = 2 * bs.length
  | [] => rfl
  | b :: bs => by rw [sides, List.length_cons, List.length_cons, sides_len bs, List.length_cons]; omega
theorem sides_dr {d : Int} : ∀ bs : List Bo, (∀ b ∈ bs, DrB d b) → ∀ p ∈ sides bs, Dr d p
  | [], _, p, hp => nomatch hp
  | b :: bs, h, p, hp => by
    have hb := h b (.head _)
    rcases List.mem_cons.mp hp with rfl | hp
    · exact hb.1
    · rcases List.mem_cons.mp hp with rfl | hp
      · exact hb.2
      · exact sides_dr bs (fun c hc => h c (.tail _ hc)) p hp
theorem sides_mem : ∀ {bs : List Bo} {b : Bo}, b ∈ bs → (b.x, b.y) ∈ sides bs ∧ (b.u, b.v) ∈ sides bs
  | c :: bs, b, h => by
    rcases List.mem_cons.mp h with rfl | h
    · exact ⟨.head _, .tail _ (.head _)⟩
    · have := sides_mem h
      exact ⟨.tail _ (.tail _ this.1), .tail _ (.tail _ this.2)⟩
/-- a drawn yard -/
theorem YI.start {d : Int} (pool : List (Rat × Rat)) (h3 : pool.length = 3) (hp : ∀ p ∈ pool, Dr d p) (bs : List Bo) (h1 : 1 ≤ bs.length) (h6 : bs.length ≤ 6) (hb : ∀ b ∈ bs, DrB d b) : ∃ D : Int, YI d pool (numB 0 bs) bs.length D 316 358 := by
  obtain ⟨D, D0, bD, hD⟩ := common (pool ++ sides bs) fun p hq => by
    rcases List.mem_append.mp hq with hq | hq
    · exact hp p hq
    · exact sides_dr bs hb p hq
  rw [List.length_append, h3, sides_len] at bD hD
  have ha : Asc (numB 0 bs) (0 + bs.length) := Asc.put (L := []) (u := 0) ⟨.nil, fun p hp => nomatch hp⟩ (Int.le_refl _) bs
  rw [Int.zero_add] at ha
  refine ⟨D, ha, by omega, fun e => ?_, D0, bD.mono (by omega), fun p hq => ?_, fun p hq => ⟨(hp p hq).1, (hD p (List.mem_append.mpr (.inl hq))).mono (by omega)⟩⟩
  · have := congrArg List.length e
    rw [numB_len] at this
    simp only [List.length_nil] at this
    omega
  · have m := (numB_mem _ _ _ hq).2.2
    have s := sides_mem m
    have hd := hb _ m
    exact ⟨⟨hd.1.1, hd.2.1⟩, ⟨(hD _ (List.mem_append.mpr (.inr s.1))).mono (by omega), (hD _ (List.mem_append.mpr (.inr s.2))).mono (by omega)⟩⟩
end DL

set_option Elab.async false
set_option linter.all false
set_option maxRecDepth 100000
set_option maxHeartbeats 4000000
set_option autoImplicit false
/-! the yard: what is refused -/
namespace DL
open PySem L2 MB
/-! ### what is told -/
theorem YI.mono {d : Int} {pool : List (Rat × Rat)} {L : Lst} {u D : Int} {j n j' n' : Nat} (I : YI d pool L u D j n) (hj : j ≤ j') (hn : n ≤ n') : YI d pool L u D j' n' :=
  ⟨I.asc, I.u0, I.ne, I.D0, I.bD.mono hj, fun p hp => ⟨(I.bos p hp).1, ⟨(I.bos p hp).2.w.mono hn, (I.bos p hp).2.h.mono hn⟩⟩, fun p hp => ⟨(I.pool p hp).1, (I.pool p hp).2.mono hn⟩⟩
end DL

set_option Elab.async false
set_option linter.all false
set_option maxRecDepth 100000
set_option maxHeartbeats 1000000
set_option autoImplicit false
/-! k35: a plan back: names, places, boards -/
namespace DL
open PySem L2 MB
/-! ### name, place, board -/
abbrev Tr := List (Int × Int × Bo)
def tN (t : Int × Int × Bo) : Int × Bo := (t.1, t.2.2)
def tP (t : Int × Int × Bo) : Int × Bo := (t.2.1, t.2.2)
structure Bij (T : Tr) (L M : Lst) : Prop where
  l : (T.map tN).Perm L
  m : (T.map tP).Perm M
abbrev Up (L : Lst) : Prop := L.Pairwise (fun p q => p.1 < q.1)
theorem Up.nd {L : Lst} (h : Up L) : (L.map (·.1)).Nodup := List.pairwise_map.mpr (h.imp fun {a b} q => by omega)
theorem inj_nd {α β : Type} {f : α → β} : ∀ {l : List α} {a b : α}, (l.map f).Nodup → a ∈ l → b ∈ l → f a = f b → a = b
  | x :: l, a, b, h, ha, hb, e => by
    obtain ⟨h1, h2⟩ := List.nodup_cons.mp h
    rcases List.mem_cons.mp ha with ha1 | ha1
    · rcases List.mem_cons.mp hb with hb1 | hb1
      · rw [ha1, hb1]
      · exact absurd (List.mem_map.mpr ⟨b, hb1, by rw [← e, ha1]⟩) h1
    · rcases List.mem_cons.mp hb with hb1 | hb1
      · exact absurd (List.mem_map.mpr ⟨a, ha1, by rw [e, hb1]⟩) h1
      · exact inj_nd h2 ha1 hb1 e
section
variable {T : Tr} {L M : Lst}
theorem Bij.ndN (B : Bij T L M) (h : Up L) : (T.map (·.1)).Nodup := by
  have e : T.map (·.1) = (T.map tN).map (·.1) := by rw [List.map_map]; rfl
  rw [e]
  exact (B.l.map _).nodup_iff.mpr h.nd
theorem Bij.ndP (B : Bij T L M) (h : Up M) : (T.map (·.2.1)).Nodup := by
  have e : T.map (·.2.1) = (T.map tP).map (·.1) := by rw [List.map_map]; rfl
  rw [e]
  exact (B.m.map _).nodup_iff.mpr h.nd
theorem Bij.inL (B : Bij T L M) {t : Int × Int × Bo} (h : t ∈ T) : (t.1, t.2.2) ∈ L := B.l.mem_iff.mp (List.mem_map.mpr ⟨t, h, rfl⟩)
def delT (T : Tr) (n : Int) : Tr := T.filter fun t => decide (t.1 ≠ n)
theorem Bij.del (B : Bij T L M) (hL : Up L) (hM : Up M) {t : Int × Int × Bo} (h : t ∈ T) : Bij (delT T t.1) (delB L t.1) (delB M t.2.1) := by
  refine ⟨?_, ?_⟩
  · have e : (delT T t.1).map tN = (T.map tN).filter fun p => decide (p.1 ≠ t.1) := by
      rw [List.filter_map]
      rfl
    rw [e]
    exact B.l.filter _
  · have e : (delT T t.1).map tP = (T.map tP).filter fun p => decide (p.1 ≠ t.2.1) := by
      rw [List.filter_map]
      unfold delT
      congr 1
      refine List.filter_congr fun s hs => ?_
      have g1 : s.1 = t.1 ↔ s.2.1 = t.2.1 := ⟨fun q => by rw [inj_nd (f := (·.1)) (B.ndN hL) hs h q], fun q => by rw [inj_nd (f := (·.2.1)) (B.ndP hM) hs h q]⟩
      show decide (s.1 ≠ t.1) = decide ((tP s).1 ≠ t.2.1)
      have : (s.1 ≠ t.1) ↔ ((tP s).1 ≠ t.2.1) := not_congr g1
      exact decide_eq_decide.mpr this
    rw [e]
    exact B.m.filter _
theorem Bij.add (B : Bij T L M) (i v : Int) (b : Bo) : Bij (T ++ [(i, v, b)]) (L ++ [(i, b)]) (M ++ [(v, b)]) :=
  ⟨by rw [List.map_append]; exact B.l.append (.refl _), by rw [List.map_append]; exact B.m.append (.refl _)⟩
end
theorem del_perm {i : Int} {b : Bo} : ∀ {L : Lst}, Up L → getB L i = some b → (delB L i ++ [(i, b)]).Perm L
  | [], _, h => nomatch h
  | p :: L, hp, h => by
    obtain ⟨h1, h2⟩ := List.pairwise_cons.mp hp
    by_cases c : p.1 = i
    · have e : getB (p :: L) i = some p.2 := by
        unfold getB
        rw [List.find?_cons_of_pos (by simpa using c)]; rfl
      rw [e] at h
      cases h
      have d : delB (p :: L) i = L := by
        unfold delB
        rw [List.filter_cons_of_neg (by simpa using c)]
        exact List.filter_eq_self.mpr fun q hq => by
          have := h1 q hq
          simp
          omega
      rw [d, ← c]
      exact List.perm_append_singleton _ _
    · have e : getB (p :: L) i = getB L i := by
        unfold getB
        rw [List.find?_cons_of_neg (by simpa using c)]
      rw [e] at h
      have d : delB (p :: L) i = p :: delB L i := by
        unfold delB
        rw [List.filter_cons_of_pos (by simpa using c)]
      rw [d]
      exact (del_perm h2 h).cons p
/-! ### the contrary deed -/
def sideB (tp : Bool) (b : Bo) : Rat × Rat := if tp = true then (b.u, b.v) else (b.x, b.y)
def conD : De → List Bo → List Int → De
  | .cr al _ _ _, _, p :: q :: _ => .gl al p q
  | .gl tp _ _, b :: _, p :: _ => .cr tp p (sideB tp b).1 (sideB tp b).2
  | .sh sp _ m, _, p :: _ => .sh (!sp) p m
  | _, _, p :: _ => .tu p
  | _, _, _ => .tu 0
structure Con (d : Int) (δ : De) (bs : List Bo) (ps : List Int) : Prop where
  fit : (conD δ bs ps).fit d (δ.new bs)
  new : (conD δ bs ps).new (δ.new bs) = bs
  names : (conD δ bs ps).names = ps
end DL

set_option Elab.async false
set_option linter.all false
set_option maxRecDepth 100000
set_option maxHeartbeats 4000000
set_option autoImplicit false
/-! k35: contrary, traced -/
namespace DL
open PySem L2 MB
/-! ### dict(boards) -/
/-! ### a row of what is done -/
/-! ### loops that go on -/
inductive Lp (tg : Tg) (g : En → Fl) : List PD → En → En → Prop
  | nil (ρ : En) : Lp tg g [] ρ ρ
  | cons {d : PD} {ds : List PD} {ρ ρ1 ρ2 ρ3 : En} (h1 : tg.put d ρ = some ρ1) (h2 : g ρ1 = .nx ρ2) (h3 : Lp tg g ds ρ2 ρ3) : Lp tg g (d :: ds) ρ ρ3
theorem Lp.snoc {tg : Tg} {g : En → Fl} {ds : List PD} {d : PD} {ρ ρ' ρ1 ρ2 : En} (h : Lp tg g ds ρ ρ') (h1 : tg.put d ρ' = some ρ1) (h2 : g ρ1 = .nx ρ2) : Lp tg g (ds ++ [d]) ρ ρ2 := by
  induction h with
  | nil ρ => exact .cons h1 h2 (.nil _)
  | cons g1 g2 g3 ih => exact .cons g1 g2 (ih h1)
/-! ### the comprehension of the new names -/
/-! ### the plan walked -/
structure StI (d : Int) (n m : Nat) (L : Lst) (u : Int) : Prop where
  asc : Asc L u
  u0 : 0 ≤ u
  pos : ∀ p ∈ L, PosB d p.2
  bw : ∀ p ∈ L, BW p.2 n m
  len : L.length ≤ 100
structure Rec where
  δ : De
  bs : List Bo
  L : Lst
  u : Int
inductive Fw (d : Int) (n m : Nat) (b0 : List Bo) : List Rec → Lst → Int → Prop
  | nil (h : StI d n m (numB 0 b0) b0.length) : Fw d n m b0 [] (numB 0 b0) b0.length
  | snoc {rs : List Rec} {L : Lst} {u : Int} {δ : De} {bs : List Bo} (h : Fw d n m b0 rs L u) (hA : δ.at_ L bs) (hf : δ.fit d bs) (hδ : δ.bits n m) (h2 : StI d n m (nextL L u δ bs) (u + (δ.new bs).length)) : Fw d n m b0 (⟨δ, bs, L, u⟩ :: rs) (nextL L u δ bs) (u + (δ.new bs).length)
theorem Fw.st {d : Int} {n m : Nat} {b0 : List Bo} {rs : List Rec} {L : Lst} {u : Int} (h : Fw d n m b0 rs L u) : StI d n m L u := by
  cases h with
  | nil h => exact h
  | snoc _ _ _ _ h2 => exact h2
/-! ### traced -/
end DL

set_option Elab.async false
set_option linter.all false
set_option maxRecDepth 100000
set_option maxHeartbeats 4000000
set_option autoImplicit false
/-! normal plans: states named -/
namespace DL
open PySem L2 MB
section
variable {d : Int} {n m : Nat} {b0 : List Bo} {rs : List Rec} {L R : Lst} {u : Int}
theorem up_mem {L R : Lst} {i : Int} {b : Bo} {u : Int} (ha : Asc L u) (P : L.Perm ((i, b) :: R)) : getB L i = some b := getB_of ha (p := (i, b)) (P.mem_iff.mpr (.head _))
theorem del_perm1 {L R : Lst} {i : Int} {b : Bo} {u : Int} (ha : Asc L u) (P : L.Perm ((i, b) :: R)) : (delB L i).Perm R := by
  have h1 := del_perm ha.1 (up_mem ha P)
  have h2 : ((i, b) :: delB L i).Perm ((i, b) :: R) := ((List.perm_append_singleton (i, b) (delB L i)).symm.trans h1).trans P
  exact (List.perm_cons _).mp h2
/-- a deed upon one board -/
theorem Fw.one (F : Fw d n m b0 rs L u) {i : Int} {b : Bo} (P : L.Perm ((i, b) :: R)) (δ : De) (hn : δ.names = [i]) (hf : δ.fit d [b]) (hδ : δ.bits n m) (hp : ∀ c ∈ δ.new [b], PosB d c ∧ BW c n m) (hl : R.length + (δ.new [b]).length ≤ 100) :
    ∃ L', Fw d n m b0 (⟨δ, [b], L, u⟩ :: rs) L' (u + (δ.new [b]).length) ∧ L'.Perm (R ++ numB u (δ.new [b])) := by
  have I := F.st
  have g := up_mem I.asc P
  have hA : δ.at_ L [b] := by
    unfold De.at_
    rw [hn]
    exact g
  have e : delAll L δ.names = delB L i := delAll_1 hn
  have P1 := del_perm1 I.asc P
  have PP : (nextL L u δ [b]).Perm (R ++ numB u (δ.new [b])) := by
    unfold nextL
    rw [e]
    exact P1.append_right _
  have hsub : ∀ p ∈ R, p ∈ L := fun p hp => P.mem_iff.mpr (.tail _ hp)
  refine ⟨_, .snoc F hA hf hδ ⟨?_, ?_, fun p hq => ?_, fun p hq => ?_, ?_⟩, PP⟩
  · have := (I.asc.del i).put I.u0 (δ.new [b])
    unfold nextL
    rw [e]
    exact this
  · have := I.u0; omega
  · rcases List.mem_append.mp (PP.mem_iff.mp hq) with h | h
    · exact I.pos p (hsub p h)
    · exact (hp _ (numB_mem _ _ p h).2.2).1
  · rcases List.mem_append.mp (PP.mem_iff.mp hq) with h | h
    · exact I.bw p (hsub p h)
    · exact (hp _ (numB_mem _ _ p h).2.2).2
  · rw [PP.length_eq, List.length_append, numB_len]
    exact hl
end
/-! ### the namer -/
end DL

set_option Elab.async false
set_option linter.all false
set_option maxRecDepth 100000
set_option maxHeartbeats 4000000
set_option autoImplicit false
/-! normal plans: the namer's methods -/
namespace DL
open PySem L2 MB
section
variable {f : Int} {ds : List PD}
end
end DL

set_option Elab.async false
set_option linter.all false
set_option maxRecDepth 100000
set_option maxHeartbeats 4000000
set_option autoImplicit false
/-! normal plans: stacked, cut, glued over states -/
namespace DL
open PySem L2 MB
/-- a drawn state with the namer that tells it -/
structure NS (d : Int) (n m : Nat) (b0 : List Bo) (rs : List Rec) (L : Lst) (u : Int) (B : Lst) : Prop where
  fw : Fw d n m b0 rs L u
  pm : L.Perm B
section
variable {d : Int} {n m : Nat} {b0 : List Bo} {rs : List Rec} {L R : Lst} {u : Int}
end
end DL

set_option Elab.async false
set_option linter.all false
set_option maxRecDepth 100000
set_option maxHeartbeats 4000000
set_option autoImplicit false
/-! normal plans: a board's turn -/
namespace DL
open PySem L2 MB
section
variable (s0 s1 s2 s5 s6 s9 s11 s12 : Option SV) (f f' : Int) (ds ds' c0 c1 : List PD) (I J : Int) (a b : PD) (i' : PD)
end
end DL

set_option Elab.async false
set_option linter.all false
set_option maxRecDepth 100000
set_option maxHeartbeats 4000000
set_option autoImplicit false
/-! normal plans: a board's turn in the den -/
namespace DL
open PySem L2 MB
section
variable (d : Int) (s1 : Option SV) (p q w h : PD) (f : Int) (ds c0 c1 : List PD) (i I J : Int) (x7 x8 x9 x10 x11 x12 : Option SV)
end
end DL

set_option Elab.async false
set_option linter.all false
set_option maxRecDepth 100000
set_option maxHeartbeats 4000000
set_option autoImplicit false
/-! normal plans: the boards one by one -/
namespace DL
open PySem L2 MB
structure PB (d : Int) (n m : Nat) (x1 y1 x2 y2 : Rat) (bd : Bo) (I J : Int) : Prop where
  wx : bd.x = x1 * I + x2 * J
  wy : bd.y = y1 * I + y2 * J
  i0 : 0 ≤ I
  j0 : 0 ≤ J
  ne : ¬ (I = 0 ∧ J = 0)
  bi : Bd I 1500
  bj : Bd J 1500
  h : PosQ d bd.u bd.v
  b1 : BL (x1 * I) (y1 * I) n m
  b2 : BL (x2 * J) (y2 * J) n m
  b3 : BL bd.u bd.v n m
  b4 : BL (bd.u * I) (bd.v * I) n m
  b5 : BL (bd.u * J) (bd.v * J) n m
theorem length_int' (m : Int) : m_length [.int m, .int 0, .int 1] = .ok (lnD (m : Rat) 0) := length_int m
section
variable {d : Int} {n m : Nat} {b0 : List Bo} {rs : List Rec} {L R : Lst} {u : Int} {x1 y1 x2 y2 : Rat}
end
end DL

set_option Elab.async false
set_option linter.all false
set_option maxRecDepth 100000
set_option maxHeartbeats 4000000
set_option autoImplicit false
/-! normal plans: all boards, the columns -/
namespace DL
open PySem L2 MB
section
variable {d : Int} {n m : Nat} {b0 : List Bo} {x1 y1 x2 y2 : Rat}
abbrev Pc := Bo × Int × Int
end
/-! ### glued -/
end DL

set_option Elab.async false
set_option linter.all false
set_option maxRecDepth 100000
set_option maxHeartbeats 4000000
set_option autoImplicit false
/-! normal plans: a column glued -/
namespace DL
open PySem L2 MB
end DL

set_option Elab.async false
set_option linter.all false
set_option maxRecDepth 100000
set_option maxHeartbeats 4000000
set_option autoImplicit false
/-! normal plans: the den's end -/
namespace DL
open PySem L2 MB
section
variable (d : Int) (hp base : PD) (u0 : Int) (en : List PD) (f1 f2 f3 : Int) (ds1 ds2 ds3 c0 c1 : List PD) (r0 r1 : PD) (y5 y6 y7 y8 y9 y10 : Option SV)
end
end DL

set_option Elab.async false
set_option linter.all false
set_option maxRecDepth 100000
set_option maxHeartbeats 4000000
set_option autoImplicit false
/-! normal plans: what they lead to -/
namespace DL
open PySem L2 MB
end DL

set_option Elab.async false
set_option linter.all false
set_option maxRecDepth 100000
set_option maxHeartbeats 4000000
set_option autoImplicit false
/-! normal plans, whole -/
namespace DL
open PySem L2 MB
end DL

set_option Elab.async false
set_option linter.all false
set_option maxRecDepth 100000
set_option maxHeartbeats 4000000
set_option autoImplicit false
/-! normal plans: the columns hang on the table alone -/
namespace DL
open PySem L2 MB
def sumP (g : Pc → Rat) : List Pc → Rat
  | [] => 0
  | t :: ps => g t + sumP g ps
/-- a board of a height, or none -/
noncomputable def nhB (x y p q : Rat) : List Bo := if p = 0 ∧ q = 0 then [] else [⟨x, y, p, q⟩]
end DL

set_option Elab.async false
set_option linter.all false
set_option maxRecDepth 100000
set_option maxHeartbeats 4000000
set_option autoImplicit false
/-! heaps over one bottom: the base that serves, the pieces -/
namespace DL
open PySem L2 MB
def pcI (N : Int) (b : Ba) (bd : Bo) : Int := b.I (zof N (bd.x, bd.y)).1 (zof N (bd.x, bd.y)).2
def pcJ (N : Int) (b : Ba) (bd : Bo) : Int := b.J (zof N (bd.x, bd.y)).1 (zof N (bd.x, bd.y)).2
def pcs (N : Int) (b : Ba) (bs : List Bo) : List Pc := bs.map fun bd => (bd, pcI N b bd, pcJ N b bd)
theorem pcs_fst (N : Int) (b : Ba) (bs : List Bo) : (pcs N b bs).map (·.1) = bs := by
  unfold pcs
  rw [List.map_map]
  exact List.map_id _
def wds (al : List Bo) : List (Rat × Rat) := al.map fun b => (b.x, b.y)
/-- the numbers over a bottom that divides another are no greater -/
theorem zof_le {N D A B : Int} (hN : 0 < N) (hD : 0 < D) (h : N ∣ D) {p : Rat × Rat} (hq : qN p.1 p.2 ∣ N) (h1 : p.1 = (A : Rat) / D) (h2 : p.2 = (B : Rat) / D) : (zof N p).1.natAbs ≤ A.natAbs ∧ (zof N p).2.natAbs ≤ B.natAbs := by
  obtain ⟨k, hk⟩ := h
  have hk0 : 0 < k := by
    rcases Int.lt_trichotomy k 0 with h | h | h
    · have := Int.mul_neg_of_pos_of_neg hN h; omega
    · subst h; omega
    · exact h
  have v := zof_val hN hq
  have e : ∀ {Z C : Int}, (Z : Rat) / N = (C : Rat) / D → C = Z * k := fun {Z C} q => by
    have hNr : (N : Rat) ≠ 0 := ratne (by omega)
    have hDr : (D : Rat) ≠ 0 := ratne (by omega)
    have hkr : (k : Rat) ≠ 0 := ratne (by omega)
    have hDN : (D : Rat) = (N : Rat) * (k : Rat) := by rw [hk, Rat.intCast_mul]
    have : (C : Rat) = ((Z * k : Int) : Rat) := by
      rw [Rat.intCast_mul]
      rw [hDN] at q hDr
      grind
    exact_mod_cast this
  have e1 := e (v.1.symm.trans h1)
  have e2 := e (v.2.symm.trans h2)
  rw [e1, e2, Int.natAbs_mul, Int.natAbs_mul]
  have : 1 ≤ k.natAbs := by omega
  exact ⟨Nat.le_mul_of_pos_right _ this, Nat.le_mul_of_pos_right _ this⟩
/-- what serves, and its bits -/
structure Srv (d D : Int) (j n : Nat) (al : List Bo) (N : Int) (b : Ba) : Prop where
  N0 : 0 < N
  bN : Bd N j
  bi : BaI d b
  bb : BaB b (n + 2)
  dv : ∀ bd ∈ al, qN bd.x bd.y ∣ N
  zb : ∀ bd ∈ al, Bd (zof N (bd.x, bd.y)).1 n ∧ Bd (zof N (bd.x, bd.y)).2 n
  sv : ∀ bd ∈ al, Sv b (zof N (bd.x, bd.y)).1 (zof N (bd.x, bd.y)).2
theorem serve_ok {d : Int} (hd : Root d) [Bd d 7] {D : Int} (hD : 0 < D) {j n : Nat} (bD : Bd D j) (hj : j ≤ 1900) (hn : n ≤ 3800) (al : List Bo) (hal : ∀ b ∈ al, PosB d b ∧ OvB D n b) (hl : al.length ≤ 1000) : ∃ (N : Int) (b : Ba), m_serving [.int d, .list ((wds al).map lnp)] = .ok (bqD N b) ∧ Srv d D j n al N b := by
  have hp : ∀ p ∈ wds al, PosQ d p.1 p.2 := fun p hp => by
    obtain ⟨b, hb, rfl⟩ := List.mem_map.mp hp
    exact (hal b hb).1.w
  have hov : ∀ p ∈ wds al, ∃ A B : Int, Bd A n ∧ Bd B n ∧ p.1 = (A : Rat) / D ∧ p.2 = (B : Rat) / D := fun p hp => by
    obtain ⟨b, hb, rfl⟩ := List.mem_map.mp hp
    exact (hal b hb).2.w
  have hq : ∀ p ∈ wds al, qN p.1 p.2 ∣ D := fun p hp => by
    obtain ⟨A, B, _, _, h1, h2⟩ := hov p hp
    rw [h1, h2]
    exact qN_dvd (by omega)
  have hND : comN 1 (wds al) ∣ D := comN_least (wds al) ⟨D, by omega⟩ hq
  have hN := comN_pos (wds al) (n := 1) (by decide)
  have hdv := comN_dvd (wds al) (n := 1) (by decide)
  have bN : Bd (comN 1 (wds al)) j := bd_dvd hND (by omega) bD
  have hz : ∀ p ∈ wds al, Bd (zof (comN 1 (wds al)) p).1 n ∧ Bd (zof (comN 1 (wds al)) p).2 n := fun p hp => by
    obtain ⟨A, B, bA, bB, h1, h2⟩ := hov p hp
    obtain ⟨z1, z2⟩ := zof_le hN hD hND (hdv p hp) h1 h2
    exact ⟨⟨Nat.lt_of_le_of_lt z1 bA.h⟩, ⟨Nat.lt_of_le_of_lt z2 bB.h⟩⟩
  have hK : ∀ p ∈ wds al, (zof (comN 1 (wds al)) p).1.natAbs ≤ 2 ^ n ∧ (zof (comN 1 (wds al)) p).2.natAbs ≤ 2 ^ n := fun p hp => ⟨Nat.le_of_lt (hz p hp).1.h, Nat.le_of_lt (hz p hp).2.h⟩
  have e := serving_eq d hd (wds al) hp bN hj hK hn (by unfold wds; rw [List.length_map]; omega)
  have hpz := farQ_pz hd hp
  obtain ⟨b1, b2, b3, b4⟩ := far_bnd hd hpz (K := ((2 ^ n : Nat) : Int)) (fun q hq => by
    obtain ⟨p, hp, rfl⟩ := List.mem_map.mp hq
    exact ⟨by have := (hK p hp).1; omega, by have := (hK p hp).2; omega⟩) (by have := Nat.two_pow_pos n; omega) (Nat.le_refl _)
  refine ⟨_, _, e, hN, bN, BaI.at hd _, ⟨bd_le b1, bd_le b2, bd_le b3, bd_le b4⟩, fun bd h => hdv (bd.x, bd.y) (List.mem_map.mpr ⟨bd, h, rfl⟩), fun bd h => hz (bd.x, bd.y) (List.mem_map.mpr ⟨bd, h, rfl⟩), fun bd h => (far_ok hd hpz).1 _ (List.mem_map.mpr ⟨(bd.x, bd.y), List.mem_map.mpr ⟨bd, h, rfl⟩, rfl⟩)⟩
end DL

set_option Elab.async false
set_option linter.all false
set_option maxRecDepth 100000
set_option maxHeartbeats 4000000
set_option autoImplicit false
/-! heaps over one bottom: the pieces, the normal plan -/
namespace DL
open PySem L2 MB
section
variable {d D : Int} {j n : Nat} {al : List Bo} {N : Int} {b : Ba}
theorem Srv.IJ (s : Srv d D j n al N b) {bd : Bo} (h : bd ∈ al) : Bd (pcI N b bd) (n + (n + 2) + 1) ∧ Bd (pcJ N b bd) (n + (n + 2) + 1) := by
  obtain ⟨z1, z2⟩ := s.zb bd h
  have b1 := s.bb.x; have b2 := s.bb.y; have b3 := s.bb.u; have b4 := s.bb.v
  unfold pcI pcJ Ba.I Ba.J
  generalize (zof N (bd.x, bd.y)).1 = A at *
  generalize (zof N (bd.x, bd.y)).2 = B at *
  have m1 : Bd (B * b.U) (n + (n + 2)) := inferInstance
  have m2 : Bd (A * b.V) (n + (n + 2)) := inferInstance
  have m3 : Bd (A * b.Y) (n + (n + 2)) := inferInstance
  have m4 : Bd (B * b.X) (n + (n + 2)) := inferInstance
  have k1 : Bd (B * b.U - A * b.V) (max (n + (n + 2)) (n + (n + 2)) + 1) := inferInstance
  have k2 : Bd (A * b.Y - B * b.X) (max (n + (n + 2)) (n + (n + 2)) + 1) := inferInstance
  rw [Nat.max_self] at k1 k2
  exact ⟨k1, k2⟩
theorem Srv.width (s : Srv d D j n al N b) {bd : Bo} (h : bd ∈ al) : bd.x = ((b.X : Rat) / N) * (pcI N b bd : Rat) + ((b.U : Rat) / N) * (pcJ N b bd : Rat) ∧ bd.y = ((b.Y : Rat) / N) * (pcI N b bd : Rat) + ((b.V : Rat) / N) * (pcJ N b bd : Rat) := by
  have v := zof_val s.N0 (p := (bd.x, bd.y)) (s.dv bd h)
  have e1 := s.bi.sumA (A := (zof N (bd.x, bd.y)).1) (B := (zof N (bd.x, bd.y)).2)
  have e2 := s.bi.sumB (A := (zof N (bd.x, bd.y)).1) (B := (zof N (bd.x, bd.y)).2)
  have hN : (N : Rat) ≠ 0 := ratne (by have := s.N0; omega)
  unfold pcI pcJ
  dsimp only at v
  generalize (zof N (bd.x, bd.y)).1 = A at *
  generalize (zof N (bd.x, bd.y)).2 = B at *
  generalize b.I A B = I at *
  generalize b.J A B = J at *
  have f1 : (A : Rat) = (I : Rat) * b.X + (J : Rat) * b.U := by rw [e1]; simp only [Rat.intCast_mul, Rat.intCast_add]
  have f2 : (B : Rat) = (I : Rat) * b.Y + (J : Rat) * b.V := by rw [e2]; simp only [Rat.intCast_mul, Rat.intCast_add]
  rw [v.1, v.2, f1, f2]
  exact ⟨by grind, by grind⟩
theorem Srv.pb (hd : Root d) [Bd d 7] (s : Srv d D j n al N b) (hD : 0 < D) (bD : Bd D j) (hj : j ≤ 1900) (hn : n ≤ 740) {bd : Bo} (h : bd ∈ al) (hp : PosB d bd) (ho : OvB D n bd) : PB d (3 * n + 100) j ((b.X : Rat) / N) ((b.Y : Rat) / N) ((b.U : Rat) / N) ((b.V : Rat) / N) bd (pcI N b bd) (pcJ N b bd) ∧
    m_counts [.int d, bqD N b, lnD bd.x bd.y] = .ok (.tuple [.int (pcI N b bd), .int (pcJ N b bd)]) ∧ Ov D (3 * n + 3) (bd.u * (pcI N b bd : Rat)) (bd.v * (pcI N b bd : Rat)) ∧ Ov D (3 * n + 3) (bd.u * (pcJ N b bd : Rat)) (bd.v * (pcJ N b bd : Rat)) := by
  obtain ⟨wx, wy⟩ := s.width h
  obtain ⟨bI, bJ⟩ := s.IJ h
  obtain ⟨z1, z2⟩ := s.zb bd h
  have bN := s.bN
  have v := zof_val s.N0 (p := (bd.x, bd.y)) (s.dv bd h)
  have hpz := zof_pz hd s.N0 (p := (bd.x, bd.y)) (s.dv bd h) hp.w
  have sm := s.bi.some hd hpz
  have sv := s.sv bd h
  have o1 : Ov N (n + 2) ((b.X : Rat) / N) ((b.Y : Rat) / N) := ⟨_, _, s.bb.x, s.bb.y, rfl, rfl⟩
  have o2 : Ov N (n + 2) ((b.U : Rat) / N) ((b.V : Rat) / N) := ⟨_, _, s.bb.u, s.bb.v, rfl, rfl⟩
  have ec := counts_bq (.int d) N s.N0 b s.bb s.bi (zof N (bd.x, bd.y)).1 (zof N (bd.x, bd.y)).2 (bN := s.bN) (bA := z1) (bB := z2) (by omega) (by omega) (by omega)
  have h1 := (ho.h.mul bI).mono (n' := 3 * n + 3) (by omega)
  have h2 := (ho.h.mul bJ).mono (n' := 3 * n + 3) (by omega)
  refine ⟨⟨wx, wy, sv.1, sv.2, fun z => ?_, bI.mono (by omega), bJ.mono (by omega), hp.h, ((o1.mul bI).bl s.N0 s.bN).mono (by omega) (Nat.le_refl _), ((o2.mul bJ).bl s.N0 s.bN).mono (by omega) (Nat.le_refl _), (ho.h.bl hD bD).mono (by omega) (Nat.le_refl _), (h1.bl hD bD).mono (by omega) (Nat.le_refl _), (h2.bl hD bD).mono (by omega) (Nat.le_refl _)⟩, ?_, h1, h2⟩
  · obtain ⟨y1, y2⟩ := z
    unfold pcI at y1
    unfold pcJ at y2
    rcases sm with q | q <;> omega
  · unfold lqD at ec
    dsimp only at v
    rw [← v.1, ← v.2] at ec
    exact ec
end
end DL

set_option Elab.async false
set_option linter.all false
set_option maxRecDepth 100000
set_option maxHeartbeats 4000000
set_option autoImplicit false
/-! heaps over one bottom: the normal plan and where it leads -/
namespace DL
open PySem L2 MB
/-- the normal form over a base -/
noncomputable def nhL (N : Int) (b : Ba) (bs : List Bo) : List Bo :=
  nhB ((b.X : Rat) / N) ((b.Y : Rat) / N) (sumP (fun t => t.1.u * t.2.1) (pcs N b bs)) (sumP (fun t => t.1.v * t.2.1) (pcs N b bs)) ++
    nhB ((b.U : Rat) / N) ((b.V : Rat) / N) (sumP (fun t => t.1.u * t.2.2) (pcs N b bs)) (sumP (fun t => t.1.v * t.2.2) (pcs N b bs))
section
variable {d D : Int} {j n : Nat} {al : List Bo} {N : Int} {b : Ba}
end
end DL

set_option Elab.async false
set_option linter.all false
set_option maxRecDepth 100000
set_option maxHeartbeats 4000000
set_option autoImplicit false
/-! normal heaps -/
namespace DL
open PySem L2 MB
theorem nput2_0 {i : Nat} {a b d : PD} {ρ : En} : kPut2 i [a, b] ρ d (.int 0) = .ok (.nx (ρ.set i (some (.l [d, b])))) := rfl
theorem nput2_1 {i : Nat} {a b d : PD} {ρ : En} : kPut2 i [a, b] ρ d (.int 1) = .ok (.nx (ρ.set i (some (.l [a, d])))) := rfl
theorem ho_turn (d : Int) (hp bs w ht l0 l1 t0 t1 h0 h1 r0 r1 : PD) (I J : Int) (ec : m_counts [.int d, bs, w] = .ok (.tuple [.int I, .int J])) (el0 : m_length [.int I, .int 0, .int 1] = .ok l0) (el1 : m_length [.int J, .int 0, .int 1] = .ok l1)
    (et0 : m_timed [.int d, ht, l0] = .ok t0) (et1 : m_timed [.int d, ht, l1] = .ok t1) (ea0 : m_added [h0, t0] = .ok r0) (ea1 : m_added [h1, t1] = .ok r1) (x6 x7 : Option SV) :
    lb2_heights_of [some (.d (.int d)), some (.d hp), some (.d bs), some (.l [h0, h1]), some (.d w), some (.d ht), x6, x7] = .nx [some (.d (.int d)), some (.d hp), some (.d bs), some (.l [r0, r1]), some (.d w), some (.d ht), some (.d (.tuple [.int I, .int J])), some (.d (.int 1))] := by
  have g2 : gR1 [.int 2] = .ok [.int 0, .int 1] := gR1_n 2 (by decide)
  have i0 : gIx (.tuple [.int I, .int J]) (.int 0) = .ok (.int I) := ix_t0
  have i1 : gIx (.tuple [.int I, .int J]) (.int 1) = .ok (.int J) := ix_t1
  generalize (PyData.tuple [.int I, .int J]) = many at *
  simp +decide only [lb2_heights_of, lb1_heights_of, ev_seq, seq_nx, seq_rt, seq_ex, seq_bk, seq_ct, seq_ite, fl_okM, fl_ex, fl_ite, ev_set, kSet_ev, ev_ret, ev_nx, ev_raise, ev_if, kIf_ev, ev_par, kPar_ev, kId_ev, ev_asg, kAsg_ev, ev_forM, kFor_ev, ev_V, dVg_ok, ev_C, ev_1, ev_2, bind2_ok, bind2_ite1, bind2_ite2, bind_ite, ev_A, ev_nil, ev_cons, kCons_ev, ev_T, toB_ev, ev_and, ev_or, ev_not, kAnd_ev, kOr_ev, kNot_ev, ev_andV, ev_notV, kAndV_ev, kNotV_ev, tup_ev, lst_ev, call_ev, ev_fn, startE_0, startE_s, startE_c, fin_rt, fin_nx, fin_ex, fin_ite, ix_t0, ix_t1, ix_t2, ix_t3, ix_l0, ix_l1, ix_l2, len_l, len_t1, len_t2, len_t3, len_t4, beq_self_eq_true, ev_iL, ev_iT, asL_ev, asT_ev, ev_iAM, ev_P, toI_ev, ev_P0, ev_sl, kSl_ev, put_1, gAdd_i, gSub_i, gMul_i, gDiv_p, gMod_p, gPow_l, gShl_l, gShr_l, gLt_i, gLe_i, gGt_i, gGe_i, gEq_i, gNe_i, gAbs_i, gInt_i, gInt_b, gEq_s, gNe_s, gEq_b, gNe_b, gEq_2, gNe_2, gEq_3, gNe_3, gEq_22, gNe_22, bind_okM, DL.R.bind_ex, ev_setL, kSetL_ev, ev_lDisp, kDisp_ev, ev_lList, lOf_l, lOf_t, ev_frz, frz_l, frz_d, frz_n, ev_lend, lend_l, lend_d, atom_i, atom_b, atom_s, ev_lendB, lendB_l, lendB_d, ev_app, app_l, kApp_ev, ev_put, put_l, ev_ixO, ixO_l, ixO_d, put_m, putAll_c, putAll_n, ev_lc, kLst_ev, ev_lcL, wipe_n, wipe_c, r1_2, r1_3, bits_ev, List.getElem?_cons_zero, List.getElem?_cons_succ, List.set_cons_zero, List.set_cons_succ, List.length_cons, List.length_nil, List.length_map, List.append_nil, List.cons_append, List.nil_append, ev_if, turn_nx, turn_ct, turn_bk, turn_rt, turn_ite, kWh_ev, isi_int_int, isi_bool_int, isi_int_bool, isi_bool_bool, isi_int_str, isi_int_none, isi_int_list, isi_int_tup, isi_bool_str, isi_bool_none, isi_bool_list, isi_bool_tup, isi_tup_tup, isi_tup_int, isi_tup_bool, isi_tup_str, isi_tup_none, isi_tup_list, isi_list_list, isi_list_tup, isi_list_int, isi_list_bool, isi_list_str, isi_list_none, isi_str_str, isi_str_int, isi_str_bool, isi_str_none, isi_str_list, isi_str_tup, decide_true, decide_false, not_true_eq_false, not_false_eq_true, ne_eq, decide_eq_true_eq, Bool.not_eq_true', decide_eq_false_iff_not, Bool.not_true, Bool.not_false, Bool.false_eq_true, if_true, if_false, reduceIte, seq_rm, seq_rv, turn_rm, turn_rv, turn_ex, ev_retV, ev_vL, kVL_ev, frzV_l, ev_setV, kSetV_l, kSetV_o, oPut_ev, oPutO_o, oPutO_me, oOwn_o, oOwn_me, fOwn_ev, gCallV_ev, ev_AV, ev_fnV, finV_rv, ev_clr, kClr_l, ev_vlend, kVLend_l, sv_d, sv_l, sv_o, tpD_d, tpD_l, tpD_n, ec, g2, forL_1, forL_nil, i0, i1, el0, el1, et0, et1, ea0, ea1, nput2_0, nput2_1]
theorem timed_int (d : Int) [Bd d 7] {u v : Rat} {I : Int} {n m k : Nat} (b1 : BL u v n m) (bI : Bd I k) (hm : m ≤ 3900) (hn : n ≤ 1000000) (hk : k ≤ 100000) : m_timed [.int d, lnD u v, lnD (I : Rat) 0] = .ok (lnD (u * I) (v * I)) := by
  have bt := (timed_bl d (x := u) (y := v) (u := (I : Rat)) (v := 0) (i := b1) (j := bl_int bI) (by omega) (by omega) (by omega)).1
  have z1 : u * (I : Rat) + d * v * 0 = u * I := by grind
  have z2 : u * 0 + v * (I : Rat) = v * I := by grind
  rw [z1, z2] at bt
  exact bt
theorem ho_loop (hp bs : PD) (d : Int) [Bd d 7] {D : Int} (hD : 0 < D) {j n k : Nat} (bD : Bd D j) (hj : j ≤ 1900) (hn : n ≤ 4000) (hk : k ≤ 100000) (q : Nat) : ∀ (ps : List Pc) (a0 b0 a1 b1 : Rat) (m : Nat) (x4 x5 x6 x7 : Option SV), Ov D m a0 b0 → Ov D m a1 b1 → q ≤ m → m + ps.length ≤ 100000 →
    (∀ t ∈ ps, m_counts [.int d, bs, lnD t.1.x t.1.y] = .ok (.tuple [.int t.2.1, .int t.2.2]) ∧ Ov D n t.1.u t.1.v ∧ Bd t.2.1 k ∧ Bd t.2.2 k ∧ Ov D q (t.1.u * t.2.1) (t.1.v * t.2.1) ∧ Ov D q (t.1.u * t.2.2) (t.1.v * t.2.2)) →
    ∃ y4 y5 y6 y7 : Option SV, sForL (.many [4, 5]) lb2_heights_of (ps.map fun t => boD t.1) [some (.d (.int d)), some (.d hp), some (.d bs), some (.l [lnD a0 b0, lnD a1 b1]), x4, x5, x6, x7] =
      .nx [some (.d (.int d)), some (.d hp), some (.d bs), some (.l [lnD (a0 + sumP (fun t => t.1.u * t.2.1) ps) (b0 + sumP (fun t => t.1.v * t.2.1) ps), lnD (a1 + sumP (fun t => t.1.u * t.2.2) ps) (b1 + sumP (fun t => t.1.v * t.2.2) ps)]), y4, y5, y6, y7]
  | [], a0, b0, a1, b1, m, x4, x5, x6, x7, _, _, _, _, _ => ⟨x4, x5, x6, x7, by simp only [sumP, Rat.add_zero]; rfl⟩
  | t :: ps, a0, b0, a1, b1, m, x4, x5, x6, x7, o0, o1, hq, hl, h => by
    rw [List.length_cons] at hl
    obtain ⟨ec, ov, bI, bJ, oI, oJ⟩ := h t (.head _)
    have s0 := o0.add (oI.mono hq)
    have s1 := o1.add (oJ.mono hq)
    have et0 := timed_int d (ov.bl hD bD) bI (by omega) (by omega) hk
    have et1 := timed_int d (ov.bl hD bD) bJ (by omega) (by omega) hk
    have g0 := o0.bl hD bD
    have g1 := o1.bl hD bD
    have gI := oI.bl hD bD
    have gJ := oJ.bl hD bD
    have ea0 := (added_bl a0 b0 (t.1.u * t.2.1) (t.1.v * t.2.1) (by omega) (by omega) (by omega)).1
    have ea1 := (added_bl a1 b1 (t.1.u * t.2.2) (t.1.v * t.2.2) (by omega) (by omega) (by omega)).1
    have T := ho_turn d hp bs (lnD t.1.x t.1.y) (lnD t.1.u t.1.v) _ _ _ _ _ _ _ _ t.2.1 t.2.2 ec (length_int' _) (length_int' _) et0 et1 ea0 ea1 x6 x7
    obtain ⟨y4, y5, y6, y7, e⟩ := ho_loop hp bs d hD bD hj hn hk q ps _ _ _ _ (m + 1) (some (.d (lnD t.1.x t.1.y))) (some (.d (lnD t.1.u t.1.v))) (some (.d (.tuple [.int t.2.1, .int t.2.2]))) (some (.d (.int 1))) (s0.mono (by omega)) (s1.mono (by omega)) (by omega) (by omega) fun s hs => h s (.tail _ hs)
    refine ⟨y4, y5, y6, y7, ?_⟩
    rw [List.map_cons, show boD t.1 = .tuple [lnD t.1.x t.1.y, lnD t.1.u t.1.v] from rfl, forL_m rfl]
    show (lb2_heights_of [some (.d (.int d)), some (.d hp), some (.d bs), some (.l [lnD a0 b0, lnD a1 b1]), some (.d (lnD t.1.x t.1.y)), some (.d (lnD t.1.u t.1.v)), x6, x7]).turn _ = _
    rw [T, turn_nx, e]
    simp only [sumP, Rat.add_assoc]
theorem ho_fin (d : Int) (HS : List PD) (bs : PD) (z0 z1 : PD) (y4 y5 y6 y7 : Option SV) (e : sForL (.many [4, 5]) lb2_heights_of HS [some (.d (.int d)), some (.d (.list HS)), some (.d bs), some (.l [.tuple [.int 0, .int 0, .int 1], .tuple [.int 0, .int 0, .int 1]]), none, none, none, none] = .nx [some (.d (.int d)), some (.d (.list HS)), some (.d bs), some (.l [z0, z1]), y4, y5, y6, y7]) : m_heights_of [.int d, .list HS, bs] = .ok (.list [z0, z1]) := by
  simp +decide only [m_heights_of, den_heights_of, ev_seq, seq_nx, seq_rt, seq_ex, seq_bk, seq_ct, seq_ite, fl_okM, fl_ex, fl_ite, ev_set, kSet_ev, ev_ret, ev_nx, ev_raise, ev_if, kIf_ev, ev_par, kPar_ev, kId_ev, ev_asg, kAsg_ev, ev_forM, kFor_ev, ev_V, dVg_ok, ev_C, ev_1, ev_2, bind2_ok, bind2_ite1, bind2_ite2, bind_ite, ev_A, ev_nil, ev_cons, kCons_ev, ev_T, toB_ev, ev_and, ev_or, ev_not, kAnd_ev, kOr_ev, kNot_ev, ev_andV, ev_notV, kAndV_ev, kNotV_ev, tup_ev, lst_ev, call_ev, ev_fn, startE_0, startE_s, startE_c, fin_rt, fin_nx, fin_ex, fin_ite, ix_t0, ix_t1, ix_t2, ix_t3, ix_l0, ix_l1, ix_l2, len_l, len_t1, len_t2, len_t3, len_t4, beq_self_eq_true, ev_iL, ev_iT, asL_ev, asT_ev, ev_iAM, ev_P, toI_ev, ev_P0, ev_sl, kSl_ev, put_1, gAdd_i, gSub_i, gMul_i, gDiv_p, gMod_p, gPow_l, gShl_l, gShr_l, gLt_i, gLe_i, gGt_i, gGe_i, gEq_i, gNe_i, gAbs_i, gInt_i, gInt_b, gEq_s, gNe_s, gEq_b, gNe_b, gEq_2, gNe_2, gEq_3, gNe_3, gEq_22, gNe_22, bind_okM, DL.R.bind_ex, ev_setL, kSetL_ev, ev_lDisp, kDisp_ev, ev_lList, lOf_l, lOf_t, ev_frz, frz_l, frz_d, frz_n, ev_lend, lend_l, lend_d, atom_i, atom_b, atom_s, ev_lendB, lendB_l, lendB_d, ev_app, app_l, kApp_ev, ev_put, put_l, ev_ixO, ixO_l, ixO_d, put_m, putAll_c, putAll_n, ev_lc, kLst_ev, ev_lcL, wipe_n, wipe_c, r1_2, r1_3, bits_ev, List.getElem?_cons_zero, List.getElem?_cons_succ, List.set_cons_zero, List.set_cons_succ, List.length_cons, List.length_nil, List.length_map, List.append_nil, List.cons_append, List.nil_append, ev_if, turn_nx, turn_ct, turn_bk, turn_rt, turn_ite, kWh_ev, isi_int_int, isi_bool_int, isi_int_bool, isi_bool_bool, isi_int_str, isi_int_none, isi_int_list, isi_int_tup, isi_bool_str, isi_bool_none, isi_bool_list, isi_bool_tup, isi_tup_tup, isi_tup_int, isi_tup_bool, isi_tup_str, isi_tup_none, isi_tup_list, isi_list_list, isi_list_tup, isi_list_int, isi_list_bool, isi_list_str, isi_list_none, isi_str_str, isi_str_int, isi_str_bool, isi_str_none, isi_str_list, isi_str_tup, decide_true, decide_false, not_true_eq_false, not_false_eq_true, ne_eq, decide_eq_true_eq, Bool.not_eq_true', decide_eq_false_iff_not, Bool.not_true, Bool.not_false, Bool.false_eq_true, if_true, if_false, reduceIte, seq_rm, seq_rv, turn_rm, turn_rv, turn_ex, ev_retV, ev_vL, kVL_ev, frzV_l, ev_setV, kSetV_l, kSetV_o, oPut_ev, oPutO_o, oPutO_me, oOwn_o, oOwn_me, fOwn_ev, gCallV_ev, ev_AV, ev_fnV, finV_rv, ev_clr, kClr_l, ev_vlend, kVLend_l, sv_d, sv_l, sv_o, tpD_d, tpD_l, tpD_n, e]
theorem nh_fin (d : Int) (hp b0 b1 z0 z1 : PD) (c0 c1 : Bool) (eh : m_heights_of [.int d, hp, .tuple [b0, b1]] = .ok (.list [z0, z1])) (n0 : gNe z0 (.tuple [.int 0, .int 0, .int 1]) = .ok (.bool c0)) (n1 : gNe z1 (.tuple [.int 0, .int 0, .int 1]) = .ok (.bool c1)) :
    mV_normal_heap_v2 [.int d, hp, .tuple [b0, b1]] = .ok (.l ((if c0 = true then [PyData.tuple [b0, z0]] else []) ++ (if c1 = true then [PyData.tuple [b1, z1]] else []))) := by
  have g2 : gR1 [.int 2] = .ok [.int 0, .int 1] := gR1_n 2 (by decide)
  have i0 : gIx (.list [z0, z1]) (.int 0) = .ok z0 := ix_l0
  have i1 : gIx (.list [z0, z1]) (.int 1) = .ok z1 := ix_l1
  have j0 : gIx (.tuple [b0, b1]) (.int 0) = .ok b0 := ix_t0
  have j1 : gIx (.tuple [b0, b1]) (.int 1) = .ok b1 := ix_t1
  have l2 : [PyData.int 0, PyData.int 1].length ≤ 1000000 := Nat.le_of_ble_eq_true rfl
  have L : lcL (.one 4) lq1_normal_heap_v2 le1_normal_heap_v2 [some (.d (.int d)), some (.d hp), some (.d (.tuple [b0, b1])), some (.d (.list [z0, z1])), none] [.int 0, .int 1] = .ok ((if c0 = true then [PyData.tuple [b0, z0]] else []) ++ (if c1 = true then [PyData.tuple [b1, z1]] else [])) := by
    generalize (PyData.tuple [b0, b1]) = bb at *
    generalize (PyData.list [z0, z1]) = zz at *
    cases c0 <;> cases c1 <;> simp +decide only [lcL, Tg.put, lq1_normal_heap_v2, le1_normal_heap_v2, ev_seq, seq_nx, seq_rt, seq_ex, seq_bk, seq_ct, seq_ite, fl_okM, fl_ex, fl_ite, ev_set, kSet_ev, ev_ret, ev_nx, ev_raise, ev_if, kIf_ev, ev_par, kPar_ev, kId_ev, ev_asg, kAsg_ev, ev_forM, kFor_ev, ev_V, dVg_ok, ev_C, ev_1, ev_2, bind2_ok, bind2_ite1, bind2_ite2, bind_ite, ev_A, ev_nil, ev_cons, kCons_ev, ev_T, toB_ev, ev_and, ev_or, ev_not, kAnd_ev, kOr_ev, kNot_ev, ev_andV, ev_notV, kAndV_ev, kNotV_ev, tup_ev, lst_ev, call_ev, ev_fn, startE_0, startE_s, startE_c, fin_rt, fin_nx, fin_ex, fin_ite, ix_t0, ix_t1, ix_t2, ix_t3, ix_l0, ix_l1, ix_l2, len_l, len_t1, len_t2, len_t3, len_t4, beq_self_eq_true, ev_iL, ev_iT, asL_ev, asT_ev, ev_iAM, ev_P, toI_ev, ev_P0, ev_sl, kSl_ev, put_1, gAdd_i, gSub_i, gMul_i, gDiv_p, gMod_p, gPow_l, gShl_l, gShr_l, gLt_i, gLe_i, gGt_i, gGe_i, gEq_i, gNe_i, gAbs_i, gInt_i, gInt_b, gEq_s, gNe_s, gEq_b, gNe_b, gEq_2, gNe_2, gEq_3, gNe_3, gEq_22, gNe_22, bind_okM, DL.R.bind_ex, ev_setL, kSetL_ev, ev_lDisp, kDisp_ev, ev_lList, lOf_l, lOf_t, ev_frz, frz_l, frz_d, frz_n, ev_lend, lend_l, lend_d, atom_i, atom_b, atom_s, ev_lendB, lendB_l, lendB_d, ev_app, app_l, kApp_ev, ev_put, put_l, ev_ixO, ixO_l, ixO_d, put_m, putAll_c, putAll_n, ev_lc, kLst_ev, ev_lcL, wipe_n, wipe_c, r1_2, r1_3, bits_ev, List.getElem?_cons_zero, List.getElem?_cons_succ, List.set_cons_zero, List.set_cons_succ, List.length_cons, List.length_nil, List.length_map, List.append_nil, List.cons_append, List.nil_append, ev_if, turn_nx, turn_ct, turn_bk, turn_rt, turn_ite, kWh_ev, isi_int_int, isi_bool_int, isi_int_bool, isi_bool_bool, isi_int_str, isi_int_none, isi_int_list, isi_int_tup, isi_bool_str, isi_bool_none, isi_bool_list, isi_bool_tup, isi_tup_tup, isi_tup_int, isi_tup_bool, isi_tup_str, isi_tup_none, isi_tup_list, isi_list_list, isi_list_tup, isi_list_int, isi_list_bool, isi_list_str, isi_list_none, isi_str_str, isi_str_int, isi_str_bool, isi_str_none, isi_str_list, isi_str_tup, decide_true, decide_false, not_true_eq_false, not_false_eq_true, ne_eq, decide_eq_true_eq, Bool.not_eq_true', decide_eq_false_iff_not, Bool.not_true, Bool.not_false, Bool.false_eq_true, if_true, if_false, reduceIte, seq_rm, seq_rv, turn_rm, turn_rv, turn_ex, ev_retV, ev_vL, kVL_ev, frzV_l, ev_setV, kSetV_l, kSetV_o, oPut_ev, oPutO_o, oPutO_me, oOwn_o, oOwn_me, fOwn_ev, gCallV_ev, ev_AV, ev_fnV, finV_rv, ev_clr, kClr_l, ev_vlend, kVLend_l, sv_d, sv_l, sv_o, tpD_d, tpD_l, tpD_n, i0, i1, j0, j1, n0, n1] <;> rfl
  generalize (PyData.tuple [b0, b1]) = bb at *
  generalize (PyData.list [z0, z1]) = zz at *
  simp +decide only [mV_normal_heap_v2, den_normal_heap_v2, ev_seq, seq_nx, seq_rt, seq_ex, seq_bk, seq_ct, seq_ite, fl_okM, fl_ex, fl_ite, ev_set, kSet_ev, ev_ret, ev_nx, ev_raise, ev_if, kIf_ev, ev_par, kPar_ev, kId_ev, ev_asg, kAsg_ev, ev_forM, kFor_ev, ev_V, dVg_ok, ev_C, ev_1, ev_2, bind2_ok, bind2_ite1, bind2_ite2, bind_ite, ev_A, ev_nil, ev_cons, kCons_ev, ev_T, toB_ev, ev_and, ev_or, ev_not, kAnd_ev, kOr_ev, kNot_ev, ev_andV, ev_notV, kAndV_ev, kNotV_ev, tup_ev, lst_ev, call_ev, ev_fn, startE_0, startE_s, startE_c, fin_rt, fin_nx, fin_ex, fin_ite, ix_t0, ix_t1, ix_t2, ix_t3, ix_l0, ix_l1, ix_l2, len_l, len_t1, len_t2, len_t3, len_t4, beq_self_eq_true, ev_iL, ev_iT, asL_ev, asT_ev, ev_iAM, ev_P, toI_ev, ev_P0, ev_sl, kSl_ev, put_1, gAdd_i, gSub_i, gMul_i, gDiv_p, gMod_p, gPow_l, gShl_l, gShr_l, gLt_i, gLe_i, gGt_i, gGe_i, gEq_i, gNe_i, gAbs_i, gInt_i, gInt_b, gEq_s, gNe_s, gEq_b, gNe_b, gEq_2, gNe_2, gEq_3, gNe_3, gEq_22, gNe_22, bind_okM, DL.R.bind_ex, ev_setL, kSetL_ev, ev_lDisp, kDisp_ev, ev_lList, lOf_l, lOf_t, ev_frz, frz_l, frz_d, frz_n, ev_lend, lend_l, lend_d, atom_i, atom_b, atom_s, ev_lendB, lendB_l, lendB_d, ev_app, app_l, kApp_ev, ev_put, put_l, ev_ixO, ixO_l, ixO_d, put_m, putAll_c, putAll_n, ev_lc, kLst_ev, ev_lcL, wipe_n, wipe_c, r1_2, r1_3, bits_ev, List.getElem?_cons_zero, List.getElem?_cons_succ, List.set_cons_zero, List.set_cons_succ, List.length_cons, List.length_nil, List.length_map, List.append_nil, List.cons_append, List.nil_append, ev_if, turn_nx, turn_ct, turn_bk, turn_rt, turn_ite, kWh_ev, isi_int_int, isi_bool_int, isi_int_bool, isi_bool_bool, isi_int_str, isi_int_none, isi_int_list, isi_int_tup, isi_bool_str, isi_bool_none, isi_bool_list, isi_bool_tup, isi_tup_tup, isi_tup_int, isi_tup_bool, isi_tup_str, isi_tup_none, isi_tup_list, isi_list_list, isi_list_tup, isi_list_int, isi_list_bool, isi_list_str, isi_list_none, isi_str_str, isi_str_int, isi_str_bool, isi_str_none, isi_str_list, isi_str_tup, decide_true, decide_false, not_true_eq_false, not_false_eq_true, ne_eq, decide_eq_true_eq, Bool.not_eq_true', decide_eq_false_iff_not, Bool.not_true, Bool.not_false, Bool.false_eq_true, if_true, if_false, reduceIte, seq_rm, seq_rv, turn_rm, turn_rv, turn_ex, ev_retV, ev_vL, kVL_ev, frzV_l, ev_setV, kSetV_l, kSetV_o, oPut_ev, oPutO_o, oPutO_me, oOwn_o, oOwn_me, fOwn_ev, gCallV_ev, ev_AV, ev_fnV, finV_rv, ev_clr, kClr_l, ev_vlend, kVLend_l, sv_d, sv_l, sv_o, tpD_d, tpD_l, tpD_n, eh, g2, kLcL_ev l2, L]
section
variable {d D : Int} {j n : Nat} {al : List Bo} {N : Int} {b : Ba}
theorem normal_heap_ok (hd : Root d) [Bd d 7] (s : Srv d D j n al N b) (hD : 0 < D) (bD : Bd D j) (hj : j ≤ 1900) (hn : n ≤ 740) {bs : List Bo} (hs : ∀ c ∈ bs, c ∈ al) (hb : ∀ c ∈ bs, PosB d c ∧ OvB D n c) (hl : bs.length ≤ 100) :
    mV_normal_heap_v2 [.int d, .list (bs.map boD), bqD N b] = .ok (.l ((nhL N b bs).map boD)) := by
  have hf := pcs_fst N b bs
  have key : ∀ t ∈ pcs N b bs, m_counts [.int d, bqD N b, lnD t.1.x t.1.y] = .ok (.tuple [.int t.2.1, .int t.2.2]) ∧ Ov D n t.1.u t.1.v ∧ Bd t.2.1 (n + (n + 2) + 1) ∧ Bd t.2.2 (n + (n + 2) + 1) ∧ Ov D (3 * n + 3) (t.1.u * t.2.1) (t.1.v * t.2.1) ∧ Ov D (3 * n + 3) (t.1.u * t.2.2) (t.1.v * t.2.2) := fun t ht => by
    obtain ⟨c, hc, rfl⟩ := List.mem_map.mp ht
    obtain ⟨a1, a2, a3, a4⟩ := s.pb hd hD bD hj hn (hs _ hc) (hb _ hc).1 (hb _ hc).2
    obtain ⟨i1, i2⟩ := s.IJ (hs _ hc)
    exact ⟨a2, (hb _ hc).2.h, i1, i2, a3, a4⟩
  have z : Ov D (3 * n + 3) 0 0 := ⟨0, 0, ⟨Nat.two_pow_pos _⟩, ⟨Nat.two_pow_pos _⟩, by grind, by grind⟩
  obtain ⟨y4, y5, y6, y7, e⟩ := ho_loop (.list (bs.map boD)) (bqD N b) d hD (k := n + (n + 2) + 1) bD hj (by omega) (by omega) (3 * n + 3) (pcs N b bs) 0 0 0 0 (3 * n + 3) none none none none z z (Nat.le_refl _) (by unfold pcs; rw [List.length_map]; omega) key
  have em : (pcs N b bs).map (fun t => boD t.1) = bs.map boD := by
    have := congrArg (List.map boD) hf
    rw [List.map_map] at this
    exact this
  have z0 : ∀ q : Rat, 0 + q = q := fun q => by grind
  rw [em, z0, z0, z0, z0, ← lz00] at e
  have eh := ho_fin d (bs.map boD) (bqD N b) _ _ y4 y5 y6 y7 e
  have F := nh_fin d (.list (bs.map boD)) _ _ _ _ _ _ eh (by rw [lz00]; exact gNe_ln _ _ _ _) (by rw [lz00]; exact gNe_ln _ _ _ _)
  refine F.trans ?_
  unfold nhL nhB
  congr 2
  rw [List.map_append]
  congr 1
  · by_cases h : sumP (fun t => t.1.u * t.2.1) (pcs N b bs) = 0 ∧ sumP (fun t => t.1.v * t.2.1) (pcs N b bs) = 0
    · rw [if_pos h, decide_eq_true h]; rfl
    · rw [if_neg h, decide_eq_false h]; rfl
  · by_cases h : sumP (fun t => t.1.u * t.2.2) (pcs N b bs) = 0 ∧ sumP (fun t => t.1.v * t.2.2) (pcs N b bs) = 0
    · rw [if_pos h, decide_eq_true h]; rfl
    · rw [if_neg h, decide_eq_false h]; rfl
end
end DL

set_option Elab.async false
set_option linter.all false
set_option maxRecDepth 100000
set_option maxHeartbeats 4000000
set_option autoImplicit false
/-! k51: what the law asks of a normal heap -/
namespace DL
open PySem L2 MB
theorem whole3 (a b n : PD) (ha : ∃ i, a = .int i) (hb : ∃ i, b = .int i) (hn : ∃ i, n = .int i) (c0 c1 c3 c4 c5 : Option SV) : lcL (.one 2) lq1_law_is_side_v4 le1_law_is_side_v4 [c0, c1, none, c3, c4, c5] [a, b, n] = .ok [a, b, n] := by
  obtain ⟨i, rfl⟩ := ha
  obtain ⟨j, rfl⟩ := hb
  obtain ⟨k, rfl⟩ := hn
  have h : ∀ i : Int, lq1_law_is_side_v4 [c0, c1, some (.d (.int i)), c3, c4, c5] = .ok true := fun i => by
    simp +decide only [lq1_law_is_side_v4, ev_seq, seq_nx, seq_rt, seq_ex, seq_bk, seq_ct, seq_ite, fl_okM, fl_ex, fl_ite, ev_set, kSet_ev, ev_ret, ev_nx, ev_raise, ev_if, kIf_ev, ev_par, kPar_ev, kId_ev, ev_asg, kAsg_ev, ev_forM, kFor_ev, ev_V, dVg_ok, ev_C, ev_1, ev_2, bind2_ok, bind2_ite1, bind2_ite2, bind_ite, ev_A, ev_nil, ev_cons, kCons_ev, ev_T, toB_ev, ev_and, ev_or, ev_not, kAnd_ev, kOr_ev, kNot_ev, ev_andV, ev_notV, kAndV_ev, kNotV_ev, tup_ev, lst_ev, call_ev, ev_fn, startE_0, startE_s, startE_c, fin_rt, fin_nx, fin_ex, fin_ite, ix_t0, ix_t1, ix_t2, ix_t3, ix_l0, ix_l1, ix_l2, len_l, len_t1, len_t2, len_t3, len_t4, beq_self_eq_true, ev_iL, ev_iT, asL_ev, asT_ev, ev_iAM, ev_P, toI_ev, ev_P0, ev_sl, kSl_ev, put_1, gAdd_i, gSub_i, gMul_i, gDiv_p, gMod_p, gPow_l, gShl_l, gShr_l, gLt_i, gLe_i, gGt_i, gGe_i, gEq_i, gNe_i, gAbs_i, gInt_i, gInt_b, gEq_s, gNe_s, gEq_b, gNe_b, gEq_2, gNe_2, gEq_3, gNe_3, gEq_22, gNe_22, bind_okM, DL.R.bind_ex, ev_setL, kSetL_ev, ev_lDisp, kDisp_ev, ev_lList, lOf_l, lOf_t, ev_frz, frz_l, frz_d, frz_n, ev_lend, lend_l, lend_d, atom_i, atom_b, atom_s, ev_lendB, lendB_l, lendB_d, ev_app, app_l, kApp_ev, ev_put, put_l, ev_ixO, ixO_l, ixO_d, put_m, putAll_c, putAll_n, ev_lc, kLst_ev, ev_lcL, wipe_n, wipe_c, r1_2, r1_3, bits_ev, List.getElem?_cons_zero, List.getElem?_cons_succ, List.set_cons_zero, List.set_cons_succ, List.length_cons, List.length_nil, List.length_map, List.append_nil, List.cons_append, List.nil_append, ev_if, turn_nx, turn_ct, turn_bk, turn_rt, turn_ite, kWh_ev, isi_int_int, isi_bool_int, isi_int_bool, isi_bool_bool, isi_int_str, isi_int_none, isi_int_list, isi_int_tup, isi_bool_str, isi_bool_none, isi_bool_list, isi_bool_tup, isi_tup_tup, isi_tup_int, isi_tup_bool, isi_tup_str, isi_tup_none, isi_tup_list, isi_list_list, isi_list_tup, isi_list_int, isi_list_bool, isi_list_str, isi_list_none, isi_str_str, isi_str_int, isi_str_bool, isi_str_none, isi_str_list, isi_str_tup, decide_true, decide_false, not_true_eq_false, not_false_eq_true, ne_eq, decide_eq_true_eq, Bool.not_eq_true', decide_eq_false_iff_not, Bool.not_true, Bool.not_false, Bool.false_eq_true, if_true, if_false, reduceIte, seq_rm, seq_rv, turn_rm, turn_rv, turn_ex, ev_retV, ev_vL, kVL_ev, frzV_l, ev_setV, kSetV_l, kSetV_o, oPut_ev, oPutO_o, oPutO_me, oOwn_o, oOwn_me, fOwn_ev, gCallV_ev, ev_AV, ev_fnV, finV_rv, ev_clr, kClr_l, ev_vlend, kVLend_l, sv_d, sv_l, sv_o, tpD_d, tpD_l, tpD_n, law_whole_int]
  have h2 : ∀ i : Int, le1_law_is_side_v4 [c0, c1, some (.d (.int i)), c3, c4, c5] = .ok (.int i) := fun i => rfl
  simp only [lcL, Tg.put, List.set_cons_succ, List.set_cons_zero, h, h2]
theorem is_side4_fin (d a b n g : Int) [Bd n 2000] (t : PD) (ht : t = .tuple [.int a, .int b, .int n]) (hn : 1 ≤ n) (e1 : m_law_divisor_v2 [.int (a.natAbs : Int), .int (b.natAbs : Int)] = .ok (.int g)) (e2 : m_law_divisor_v2 [.int g, .int n] = .ok (.int 1)) (e3 : m_law_above [.int d, .tuple [.int a, .int 1], .tuple [.int b, .int 1]] = .ok (.bool true)) : m_law_is_side_v4 [.int d, t] = .ok (.bool true) := by
  have it : gIsi "tuple" t = .ok (.bool true) := by subst ht; rfl
  have il : gLen [t] = .ok (.int 3) := by subst ht; rfl
  have ia : asT t = .ok [.int a, .int b, .int n] := by subst ht; rfl
  have l3 : [PyData.int a, PyData.int b, PyData.int n].length ≤ 1000000 := Nat.le_of_ble_eq_true rfl
  have w := whole3 (.int a) (.int b) (.int n) ⟨_, rfl⟩ ⟨_, rfl⟩ ⟨_, rfl⟩
  have gl : gLen [.list [.int a, .int b, .int n]] = .ok (.int 3) := rfl
  have nl : ¬ n < 1 := by omega
  subst ht
  simp +decide only [m_law_is_side_v4, den_law_is_side_v4, ev_seq, seq_nx, seq_rt, seq_ex, seq_bk, seq_ct, seq_ite, fl_okM, fl_ex, fl_ite, ev_set, kSet_ev, ev_ret, ev_nx, ev_raise, ev_if, kIf_ev, ev_par, kPar_ev, kId_ev, ev_asg, kAsg_ev, ev_forM, kFor_ev, ev_V, dVg_ok, ev_C, ev_1, ev_2, bind2_ok, bind2_ite1, bind2_ite2, bind_ite, ev_A, ev_nil, ev_cons, kCons_ev, ev_T, toB_ev, ev_and, ev_or, ev_not, kAnd_ev, kOr_ev, kNot_ev, ev_andV, ev_notV, kAndV_ev, kNotV_ev, tup_ev, lst_ev, call_ev, ev_fn, startE_0, startE_s, startE_c, fin_rt, fin_nx, fin_ex, fin_ite, ix_t0, ix_t1, ix_t2, ix_t3, ix_l0, ix_l1, ix_l2, len_l, len_t1, len_t2, len_t3, len_t4, beq_self_eq_true, ev_iL, ev_iT, asL_ev, asT_ev, ev_iAM, ev_P, toI_ev, ev_P0, ev_sl, kSl_ev, put_1, gAdd_i, gSub_i, gMul_i, gDiv_p, gMod_p, gPow_l, gShl_l, gShr_l, gLt_i, gLe_i, gGt_i, gGe_i, gEq_i, gNe_i, gAbs_i, gInt_i, gInt_b, gEq_s, gNe_s, gEq_b, gNe_b, gEq_2, gNe_2, gEq_3, gNe_3, gEq_22, gNe_22, bind_okM, DL.R.bind_ex, ev_setL, kSetL_ev, ev_lDisp, kDisp_ev, ev_lList, lOf_l, lOf_t, ev_frz, frz_l, frz_d, frz_n, ev_lend, lend_l, lend_d, atom_i, atom_b, atom_s, ev_lendB, lendB_l, lendB_d, ev_app, app_l, kApp_ev, ev_put, put_l, ev_ixO, ixO_l, ixO_d, put_m, putAll_c, putAll_n, ev_lc, kLst_ev, ev_lcL, wipe_n, wipe_c, r1_2, r1_3, bits_ev, List.getElem?_cons_zero, List.getElem?_cons_succ, List.set_cons_zero, List.set_cons_succ, List.length_cons, List.length_nil, List.length_map, List.append_nil, List.cons_append, List.nil_append, ev_if, turn_nx, turn_ct, turn_bk, turn_rt, turn_ite, kWh_ev, isi_int_int, isi_bool_int, isi_int_bool, isi_bool_bool, isi_int_str, isi_int_none, isi_int_list, isi_int_tup, isi_bool_str, isi_bool_none, isi_bool_list, isi_bool_tup, isi_tup_tup, isi_tup_int, isi_tup_bool, isi_tup_str, isi_tup_none, isi_tup_list, isi_list_list, isi_list_tup, isi_list_int, isi_list_bool, isi_list_str, isi_list_none, isi_str_str, isi_str_int, isi_str_bool, isi_str_none, isi_str_list, isi_str_tup, decide_true, decide_false, not_true_eq_false, not_false_eq_true, ne_eq, decide_eq_true_eq, Bool.not_eq_true', decide_eq_false_iff_not, Bool.not_true, Bool.not_false, Bool.false_eq_true, if_true, if_false, reduceIte, seq_rm, seq_rv, turn_rm, turn_rv, turn_ex, ev_retV, ev_vL, kVL_ev, frzV_l, ev_setV, kSetV_l, kSetV_o, oPut_ev, oPutO_o, oPutO_me, oOwn_o, oOwn_me, fOwn_ev, gCallV_ev, ev_AV, ev_fnV, finV_rv, ev_clr, kClr_l, ev_vlend, kVLend_l, sv_d, sv_l, sv_o, tpD_d, tpD_l, tpD_n, it, il, ia, kLcL_ev l3, w, gl, nl, e1, e2, e3]
theorem law_is_side4_ok (d : Int) (hd : Root d) [Bd d 7] (x y : Rat) {n m : Nat} (i : BL x y n m) (hn : n ≤ 5000) (hm : m ≤ 1900) (hp : PosQ d x y) : m_law_is_side_v4 [.int d, lnD x y] = .ok (.bool true) := by
  have b1 : Bd (qA x y) 5000 := i.a.mono hn
  have b2 : Bd (qB x y) 5000 := i.b.mono hn
  have b3 : Bd (qN x y) 2000 := i.c.mono (by omega)
  have b41 : Bd (1 : Int) 41 := ⟨by decide⟩
  obtain ⟨b, e, h⟩ := above_i d (qA x y) 1 (qB x y) 1 hd
  rw [Int.mul_one, Int.mul_one] at h
  have hb := h.mpr (posQ_over hd hp)
  subst hb
  have low := q_low x y
  have e1 := law_divisor_v2_eq ((qA x y).natAbs : Int) ((qB x y).natAbs : Int) (by omega) (by omega)
  have e2 := law_divisor_v2_eq (Int.gcd ((qA x y).natAbs : Int) ((qB x y).natAbs : Int) : Int) (qN x y) (by omega) (by have := qN_pos x y; omega)
  have g1 : (Int.gcd (Int.gcd ((qA x y).natAbs : Int) ((qB x y).natAbs : Int) : Int) (qN x y) : Int) = 1 := by
    have := low.2
    have e0 : Int.gcd ((qA x y).natAbs : Int) ((qB x y).natAbs : Int) = Int.gcd (qA x y) (qB x y) := by simp [Int.gcd]
    rw [e0, this]; rfl
  rw [g1] at e2
  exact is_side4_fin d _ _ _ _ _ rfl (by have := qN_pos x y; omega) e1 e2 e
/-! ### what is due -/
theorem due_turn (d k : Int) (hp bs l0 w ht many : PD) (h0 h1 h2 f B a b : Int) {kb ka kf kh km : Nat} [Bd B kb] [Bd a ka] [Bd b ka] [Bd f kf] [Bd h0 kh] [Bd h1 kh] [Bd h2 km] (hl : ka + kb + kf + kh + km + 10 ≤ 1000000) (ec : m_counts [.int d, bs, w] = .ok many) (ei : gIx many (.int k) = .ok (.int f)) (i0 : gIx ht (.int 0) = .ok (.int h0)) (i1 : gIx ht (.int 1) = .ok (.int h1)) (i2 : gIx ht (.int 2) = .ok (.int h2)) (L : List PD) (x10 : Option SV) :
    lb1_law_due_v4 [some (.d (.int d)), some (.d hp), some (.d bs), some (.l L), some (.d (.int k)), some (.d (.int B)), some (.d (.int a)), some (.d (.int b)), some (.d w), some (.d ht), x10] = .nx [some (.d (.int d)), some (.d hp), some (.d bs), some (.l L), some (.d (.int k)), some (.d (.int (B * h2))), some (.d (.int (a * h2 + f * h0 * B))), some (.d (.int (b * h2 + f * h1 * B))), some (.d w), some (.d ht), some (.d (.int f))] := by
  have g1 := gMul_i (i := a) (j := h2) (by omega)
  have g2 := gMul_i (i := f) (j := h0) (by omega)
  have g3 := gMul_i (i := f * h0) (j := B) (by omega)
  have g4 := gMul_i (i := b) (j := h2) (by omega)
  have g5 := gMul_i (i := f) (j := h1) (by omega)
  have g6 := gMul_i (i := f * h1) (j := B) (by omega)
  have g7 := gMul_i (i := B) (j := h2) (by omega)
  simp +decide only [lb1_law_due_v4, ev_seq, seq_nx, seq_rt, seq_ex, seq_bk, seq_ct, seq_ite, fl_okM, fl_ex, fl_ite, ev_set, kSet_ev, ev_ret, ev_nx, ev_raise, ev_if, kIf_ev, ev_par, kPar_ev, kId_ev, ev_asg, kAsg_ev, ev_forM, kFor_ev, ev_V, dVg_ok, ev_C, ev_1, ev_2, bind2_ok, bind2_ite1, bind2_ite2, bind_ite, ev_A, ev_nil, ev_cons, kCons_ev, ev_T, toB_ev, ev_and, ev_or, ev_not, kAnd_ev, kOr_ev, kNot_ev, ev_andV, ev_notV, kAndV_ev, kNotV_ev, tup_ev, lst_ev, call_ev, ev_fn, startE_0, startE_s, startE_c, fin_rt, fin_nx, fin_ex, fin_ite, ix_t0, ix_t1, ix_t2, ix_t3, ix_l0, ix_l1, ix_l2, len_l, len_t1, len_t2, len_t3, len_t4, beq_self_eq_true, ev_iL, ev_iT, asL_ev, asT_ev, ev_iAM, ev_P, toI_ev, ev_P0, ev_sl, kSl_ev, put_1, gAdd_i, gSub_i, gMul_i, gDiv_p, gMod_p, gPow_l, gShl_l, gShr_l, gLt_i, gLe_i, gGt_i, gGe_i, gEq_i, gNe_i, gAbs_i, gInt_i, gInt_b, gEq_s, gNe_s, gEq_b, gNe_b, gEq_2, gNe_2, gEq_3, gNe_3, gEq_22, gNe_22, bind_okM, DL.R.bind_ex, ev_setL, kSetL_ev, ev_lDisp, kDisp_ev, ev_lList, lOf_l, lOf_t, ev_frz, frz_l, frz_d, frz_n, ev_lend, lend_l, lend_d, atom_i, atom_b, atom_s, ev_lendB, lendB_l, lendB_d, ev_app, app_l, kApp_ev, ev_put, put_l, ev_ixO, ixO_l, ixO_d, put_m, putAll_c, putAll_n, ev_lc, kLst_ev, ev_lcL, wipe_n, wipe_c, r1_2, r1_3, bits_ev, List.getElem?_cons_zero, List.getElem?_cons_succ, List.set_cons_zero, List.set_cons_succ, List.length_cons, List.length_nil, List.length_map, List.append_nil, List.cons_append, List.nil_append, ev_if, turn_nx, turn_ct, turn_bk, turn_rt, turn_ite, kWh_ev, isi_int_int, isi_bool_int, isi_int_bool, isi_bool_bool, isi_int_str, isi_int_none, isi_int_list, isi_int_tup, isi_bool_str, isi_bool_none, isi_bool_list, isi_bool_tup, isi_tup_tup, isi_tup_int, isi_tup_bool, isi_tup_str, isi_tup_none, isi_tup_list, isi_list_list, isi_list_tup, isi_list_int, isi_list_bool, isi_list_str, isi_list_none, isi_str_str, isi_str_int, isi_str_bool, isi_str_none, isi_str_list, isi_str_tup, decide_true, decide_false, not_true_eq_false, not_false_eq_true, ne_eq, decide_eq_true_eq, Bool.not_eq_true', decide_eq_false_iff_not, Bool.not_true, Bool.not_false, Bool.false_eq_true, if_true, if_false, reduceIte, seq_rm, seq_rv, turn_rm, turn_rv, turn_ex, ev_retV, ev_vL, kVL_ev, frzV_l, ev_setV, kSetV_l, kSetV_o, oPut_ev, oPutO_o, oPutO_me, oOwn_o, oOwn_me, fOwn_ev, gCallV_ev, ev_AV, ev_fnV, finV_rv, ev_clr, kClr_l, ev_vlend, kVLend_l, sv_d, sv_l, sv_o, tpD_d, tpD_l, tpD_n, ec, ei, i0, i1, i2, g1, g2, g3, g4, g5, g6, g7]
theorem due_loop (d k : Int) (hp bs l0 : PD) (L : List PD) {n m kf : Nat} (hn : n ≤ 5000) (hm : m ≤ 1900) (hkf : kf ≤ 5000) (f : Pc → Int) : ∀ (ps : List Pc) (B a b : Int) (A C : Rat) (kb ka : Nat) (x8 x9 x10 : Option SV), 0 < B → Bd B kb → Bd a ka → Bd b ka → kf + n + kb ≤ ka → ka + (m + 1) * ps.length ≤ 400000 → (a : Rat) = B * A → (b : Rat) = B * C →
    (∀ t ∈ ps, ∃ many, m_counts [.int d, bs, lnD t.1.x t.1.y] = .ok many ∧ gIx many (.int k) = .ok (.int (f t)) ∧ Bd (f t) kf ∧ BL t.1.u t.1.v n m) →
    ∃ (B' a' b' : Int) (y8 y9 y10 : Option SV), sForL (.many [8, 9]) lb1_law_due_v4 (ps.map fun t => boD t.1) [some (.d (.int d)), some (.d hp), some (.d bs), some (.l L), some (.d (.int k)), some (.d (.int B)), some (.d (.int a)), some (.d (.int b)), x8, x9, x10] = .nx [some (.d (.int d)), some (.d hp), some (.d bs), some (.l L), some (.d (.int k)), some (.d (.int B')), some (.d (.int a')), some (.d (.int b')), y8, y9, y10] ∧
      0 < B' ∧ Bd B' 400000 ∧ Bd a' 400000 ∧ Bd b' 400000 ∧ (a' : Rat) = B' * (A + sumP (fun t => t.1.u * f t) ps) ∧ (b' : Rat) = B' * (C + sumP (fun t => t.1.v * f t) ps)
  | [], B, a, b, A, C, kb, ka, x8, x9, x10, hB, bB, ba, bb, h1, h2, ea, eb, _ => ⟨B, a, b, x8, x9, x10, rfl, hB, bB.mono (by omega), ba.mono (by omega), bb.mono (by omega), by rw [sumP, Rat.add_zero]; exact ea, by rw [sumP, Rat.add_zero]; exact eb⟩
  | t :: ps, B, a, b, A, C, kb, ka, x8, x9, x10, hB, bB, ba, bb, h1, h2, ea, eb, h => by
    rw [List.length_cons, Nat.mul_add] at h2
    obtain ⟨many, ec, ei, bf, bl⟩ := h t (.head _)
    have c1 := bl.a; have c2 := bl.b; have c3 := bl.c
    have T := due_turn d k hp bs l0 (lnD t.1.x t.1.y) (lnD t.1.u t.1.v) many (qA t.1.u t.1.v) (qB t.1.u t.1.v) (qN t.1.u t.1.v) (f t) B a b (by omega) ec ei ix_t0 ix_t1 ix_t2 L x10
    have z := q_val t.1.u t.1.v
    have hq := qN_pos t.1.u t.1.v
    have step : ∀ {z h : Int}, Bd z ka → Bd h n → Bd (z * qN t.1.u t.1.v + f t * h * B) (ka + m + 1) := fun {z h} hz hh => by
      have d1 : Bd (z * qN t.1.u t.1.v) (ka + m) := inferInstance
      have d2 : Bd (f t * h * B) (ka + m) := Bd.mono (inferInstance : Bd (f t * h * B) (kf + n + kb)) (by omega)
      exact Bd.mono (inferInstance : Bd (z * qN t.1.u t.1.v + f t * h * B) (max (ka + m) (ka + m) + 1)) (by rw [Nat.max_self]; exact Nat.le_refl _)
    have s1 := step ba c1
    have s2 := step bb c2
    obtain ⟨B', a', b', y8, y9, y10, e, r⟩ := due_loop d k hp bs l0 L hn hm hkf f ps (B * qN t.1.u t.1.v) (a * qN t.1.u t.1.v + f t * qA t.1.u t.1.v * B) (b * qN t.1.u t.1.v + f t * qB t.1.u t.1.v * B) (A + t.1.u * f t) (C + t.1.v * f t) (kb + m) (ka + m + 1) (some (.d (lnD t.1.x t.1.y))) (some (.d (lnD t.1.u t.1.v))) (some (.d (.int (f t)))) (Int.mul_pos hB hq) inferInstance s1 s2 (by omega) (by omega) (by simp only [Rat.intCast_add, Rat.intCast_mul, ea, z.1]; grind) (by simp only [Rat.intCast_add, Rat.intCast_mul, eb, z.2]; grind) fun s hs => h s (.tail _ hs)
    refine ⟨B', a', b', y8, y9, y10, ?_, r.1, r.2.1, r.2.2.1, r.2.2.2.1, ?_, ?_⟩
    · rw [List.map_cons, show boD t.1 = .tuple [lnD t.1.x t.1.y, lnD t.1.u t.1.v] from rfl, forL_m rfl]
      show (lb1_law_due_v4 [some (.d (.int d)), some (.d hp), some (.d bs), some (.l L), some (.d (.int k)), some (.d (.int B)), some (.d (.int a)), some (.d (.int b)), some (.d (lnD t.1.x t.1.y)), some (.d (lnD t.1.u t.1.v)), x10]).turn _ = _
      rw [T, turn_nx, e]
    · rw [r.2.2.2.2.1, sumP, Rat.add_assoc]
    · rw [r.2.2.2.2.2, sumP, Rat.add_assoc]
theorem due_row (d k : Int) (bs bk : PD) (HS L : List PD) (hL : L.length < 100) (B a b : Int) [Bd B 400000] [Bd a 400000] [Bd b 400000] (x5 x6 x7 x8 x9 x10 y8 y9 y10 : Option SV) (ek : gIx bs (.int k) = .ok bk)
    (e : sForL (.many [8, 9]) lb1_law_due_v4 HS [some (.d (.int d)), some (.d (.list HS)), some (.d bs), some (.l L), some (.d (.int k)), some (.d (.int 1)), some (.d (.int 0)), some (.d (.int 0)), x8, x9, x10] = .nx [some (.d (.int d)), some (.d (.list HS)), some (.d bs), some (.l L), some (.d (.int k)), some (.d (.int B)), some (.d (.int a)), some (.d (.int b)), y8, y9, y10]) :
    lb2_law_due_v4 [some (.d (.int d)), some (.d (.list HS)), some (.d bs), some (.l L), some (.d (.int k)), x5, x6, x7, x8, x9, x10] = .nx [some (.d (.int d)), some (.d (.list HS)), some (.d bs), some (.l (L ++ if a = 0 ∧ b = 0 then [] else [.tuple [bk, .int a, .int b, .int B]])), some (.d (.int k)), some (.d (.int B)), some (.d (.int a)), some (.d (.int b)), y8, y9, y10] := by
  have hL2 : L.length < 16777216 := by omega
  by_cases h0 : a = 0
  · by_cases h1 : b = 0
    · rw [if_pos ⟨h0, h1⟩, List.append_nil]
      simp +decide only [lb2_law_due_v4, ev_seq, seq_nx, seq_rt, seq_ex, seq_bk, seq_ct, seq_ite, fl_okM, fl_ex, fl_ite, ev_set, kSet_ev, ev_ret, ev_nx, ev_raise, ev_if, kIf_ev, ev_par, kPar_ev, kId_ev, ev_asg, kAsg_ev, ev_forM, kFor_ev, ev_V, dVg_ok, ev_C, ev_1, ev_2, bind2_ok, bind2_ite1, bind2_ite2, bind_ite, ev_A, ev_nil, ev_cons, kCons_ev, ev_T, toB_ev, ev_and, ev_or, ev_not, kAnd_ev, kOr_ev, kNot_ev, ev_andV, ev_notV, kAndV_ev, kNotV_ev, tup_ev, lst_ev, call_ev, ev_fn, startE_0, startE_s, startE_c, fin_rt, fin_nx, fin_ex, fin_ite, ix_t0, ix_t1, ix_t2, ix_t3, ix_l0, ix_l1, ix_l2, len_l, len_t1, len_t2, len_t3, len_t4, beq_self_eq_true, ev_iL, ev_iT, asL_ev, asT_ev, ev_iAM, ev_P, toI_ev, ev_P0, ev_sl, kSl_ev, put_1, gAdd_i, gSub_i, gMul_i, gDiv_p, gMod_p, gPow_l, gShl_l, gShr_l, gLt_i, gLe_i, gGt_i, gGe_i, gEq_i, gNe_i, gAbs_i, gInt_i, gInt_b, gEq_s, gNe_s, gEq_b, gNe_b, gEq_2, gNe_2, gEq_3, gNe_3, gEq_22, gNe_22, bind_okM, DL.R.bind_ex, ev_setL, kSetL_ev, ev_lDisp, kDisp_ev, ev_lList, lOf_l, lOf_t, ev_frz, frz_l, frz_d, frz_n, ev_lend, lend_l, lend_d, atom_i, atom_b, atom_s, ev_lendB, lendB_l, lendB_d, ev_app, app_l, kApp_ev, ev_put, put_l, ev_ixO, ixO_l, ixO_d, put_m, putAll_c, putAll_n, ev_lc, kLst_ev, ev_lcL, wipe_n, wipe_c, r1_2, r1_3, bits_ev, List.getElem?_cons_zero, List.getElem?_cons_succ, List.set_cons_zero, List.set_cons_succ, List.length_cons, List.length_nil, List.length_map, List.append_nil, List.cons_append, List.nil_append, ev_if, turn_nx, turn_ct, turn_bk, turn_rt, turn_ite, kWh_ev, isi_int_int, isi_bool_int, isi_int_bool, isi_bool_bool, isi_int_str, isi_int_none, isi_int_list, isi_int_tup, isi_bool_str, isi_bool_none, isi_bool_list, isi_bool_tup, isi_tup_tup, isi_tup_int, isi_tup_bool, isi_tup_str, isi_tup_none, isi_tup_list, isi_list_list, isi_list_tup, isi_list_int, isi_list_bool, isi_list_str, isi_list_none, isi_str_str, isi_str_int, isi_str_bool, isi_str_none, isi_str_list, isi_str_tup, decide_true, decide_false, not_true_eq_false, not_false_eq_true, ne_eq, decide_eq_true_eq, Bool.not_eq_true', decide_eq_false_iff_not, Bool.not_true, Bool.not_false, Bool.false_eq_true, if_true, if_false, reduceIte, seq_rm, seq_rv, turn_rm, turn_rv, turn_ex, ev_retV, ev_vL, kVL_ev, frzV_l, ev_setV, kSetV_l, kSetV_o, oPut_ev, oPutO_o, oPutO_me, oOwn_o, oOwn_me, fOwn_ev, gCallV_ev, ev_AV, ev_fnV, finV_rv, ev_clr, kClr_l, ev_vlend, kVLend_l, sv_d, sv_l, sv_o, tpD_d, tpD_l, tpD_n, e, h0, h1]
    · rw [if_neg fun h => h1 h.2]
      simp +decide only [lb2_law_due_v4, ev_seq, seq_nx, seq_rt, seq_ex, seq_bk, seq_ct, seq_ite, fl_okM, fl_ex, fl_ite, ev_set, kSet_ev, ev_ret, ev_nx, ev_raise, ev_if, kIf_ev, ev_par, kPar_ev, kId_ev, ev_asg, kAsg_ev, ev_forM, kFor_ev, ev_V, dVg_ok, ev_C, ev_1, ev_2, bind2_ok, bind2_ite1, bind2_ite2, bind_ite, ev_A, ev_nil, ev_cons, kCons_ev, ev_T, toB_ev, ev_and, ev_or, ev_not, kAnd_ev, kOr_ev, kNot_ev, ev_andV, ev_notV, kAndV_ev, kNotV_ev, tup_ev, lst_ev, call_ev, ev_fn, startE_0, startE_s, startE_c, fin_rt, fin_nx, fin_ex, fin_ite, ix_t0, ix_t1, ix_t2, ix_t3, ix_l0, ix_l1, ix_l2, len_l, len_t1, len_t2, len_t3, len_t4, beq_self_eq_true, ev_iL, ev_iT, asL_ev, asT_ev, ev_iAM, ev_P, toI_ev, ev_P0, ev_sl, kSl_ev, put_1, gAdd_i, gSub_i, gMul_i, gDiv_p, gMod_p, gPow_l, gShl_l, gShr_l, gLt_i, gLe_i, gGt_i, gGe_i, gEq_i, gNe_i, gAbs_i, gInt_i, gInt_b, gEq_s, gNe_s, gEq_b, gNe_b, gEq_2, gNe_2, gEq_3, gNe_3, gEq_22, gNe_22, bind_okM, DL.R.bind_ex, ev_setL, kSetL_ev, ev_lDisp, kDisp_ev, ev_lList, lOf_l, lOf_t, ev_frz, frz_l, frz_d, frz_n, ev_lend, lend_l, lend_d, atom_i, atom_b, atom_s, ev_lendB, lendB_l, lendB_d, ev_app, app_l, kApp_ev, ev_put, put_l, ev_ixO, ixO_l, ixO_d, put_m, putAll_c, putAll_n, ev_lc, kLst_ev, ev_lcL, wipe_n, wipe_c, r1_2, r1_3, bits_ev, List.getElem?_cons_zero, List.getElem?_cons_succ, List.set_cons_zero, List.set_cons_succ, List.length_cons, List.length_nil, List.length_map, List.append_nil, List.cons_append, List.nil_append, ev_if, turn_nx, turn_ct, turn_bk, turn_rt, turn_ite, kWh_ev, isi_int_int, isi_bool_int, isi_int_bool, isi_bool_bool, isi_int_str, isi_int_none, isi_int_list, isi_int_tup, isi_bool_str, isi_bool_none, isi_bool_list, isi_bool_tup, isi_tup_tup, isi_tup_int, isi_tup_bool, isi_tup_str, isi_tup_none, isi_tup_list, isi_list_list, isi_list_tup, isi_list_int, isi_list_bool, isi_list_str, isi_list_none, isi_str_str, isi_str_int, isi_str_bool, isi_str_none, isi_str_list, isi_str_tup, decide_true, decide_false, not_true_eq_false, not_false_eq_true, ne_eq, decide_eq_true_eq, Bool.not_eq_true', decide_eq_false_iff_not, Bool.not_true, Bool.not_false, Bool.false_eq_true, if_true, if_false, reduceIte, seq_rm, seq_rv, turn_rm, turn_rv, turn_ex, ev_retV, ev_vL, kVL_ev, frzV_l, ev_setV, kSetV_l, kSetV_o, oPut_ev, oPutO_o, oPutO_me, oOwn_o, oOwn_me, fOwn_ev, gCallV_ev, ev_AV, ev_fnV, finV_rv, ev_clr, kClr_l, ev_vlend, kVLend_l, sv_d, sv_l, sv_o, tpD_d, tpD_l, tpD_n, e, h0, h1, ek, hL2]
  · rw [if_neg fun h => h0 h.1]
    simp +decide only [lb2_law_due_v4, ev_seq, seq_nx, seq_rt, seq_ex, seq_bk, seq_ct, seq_ite, fl_okM, fl_ex, fl_ite, ev_set, kSet_ev, ev_ret, ev_nx, ev_raise, ev_if, kIf_ev, ev_par, kPar_ev, kId_ev, ev_asg, kAsg_ev, ev_forM, kFor_ev, ev_V, dVg_ok, ev_C, ev_1, ev_2, bind2_ok, bind2_ite1, bind2_ite2, bind_ite, ev_A, ev_nil, ev_cons, kCons_ev, ev_T, toB_ev, ev_and, ev_or, ev_not, kAnd_ev, kOr_ev, kNot_ev, ev_andV, ev_notV, kAndV_ev, kNotV_ev, tup_ev, lst_ev, call_ev, ev_fn, startE_0, startE_s, startE_c, fin_rt, fin_nx, fin_ex, fin_ite, ix_t0, ix_t1, ix_t2, ix_t3, ix_l0, ix_l1, ix_l2, len_l, len_t1, len_t2, len_t3, len_t4, beq_self_eq_true, ev_iL, ev_iT, asL_ev, asT_ev, ev_iAM, ev_P, toI_ev, ev_P0, ev_sl, kSl_ev, put_1, gAdd_i, gSub_i, gMul_i, gDiv_p, gMod_p, gPow_l, gShl_l, gShr_l, gLt_i, gLe_i, gGt_i, gGe_i, gEq_i, gNe_i, gAbs_i, gInt_i, gInt_b, gEq_s, gNe_s, gEq_b, gNe_b, gEq_2, gNe_2, gEq_3, gNe_3, gEq_22, gNe_22, bind_okM, DL.R.bind_ex, ev_setL, kSetL_ev, ev_lDisp, kDisp_ev, ev_lList, lOf_l, lOf_t, ev_frz, frz_l, frz_d, frz_n, ev_lend, lend_l, lend_d, atom_i, atom_b, atom_s, ev_lendB, lendB_l, lendB_d, ev_app, app_l, kApp_ev, ev_put, put_l, ev_ixO, ixO_l, ixO_d, put_m, putAll_c, putAll_n, ev_lc, kLst_ev, ev_lcL, wipe_n, wipe_c, r1_2, r1_3, bits_ev, List.getElem?_cons_zero, List.getElem?_cons_succ, List.set_cons_zero, List.set_cons_succ, List.length_cons, List.length_nil, List.length_map, List.append_nil, List.cons_append, List.nil_append, ev_if, turn_nx, turn_ct, turn_bk, turn_rt, turn_ite, kWh_ev, isi_int_int, isi_bool_int, isi_int_bool, isi_bool_bool, isi_int_str, isi_int_none, isi_int_list, isi_int_tup, isi_bool_str, isi_bool_none, isi_bool_list, isi_bool_tup, isi_tup_tup, isi_tup_int, isi_tup_bool, isi_tup_str, isi_tup_none, isi_tup_list, isi_list_list, isi_list_tup, isi_list_int, isi_list_bool, isi_list_str, isi_list_none, isi_str_str, isi_str_int, isi_str_bool, isi_str_none, isi_str_list, isi_str_tup, decide_true, decide_false, not_true_eq_false, not_false_eq_true, ne_eq, decide_eq_true_eq, Bool.not_eq_true', decide_eq_false_iff_not, Bool.not_true, Bool.not_false, Bool.false_eq_true, if_true, if_false, reduceIte, seq_rm, seq_rv, turn_rm, turn_rv, turn_ex, ev_retV, ev_vL, kVL_ev, frzV_l, ev_setV, kSetV_l, kSetV_o, oPut_ev, oPutO_o, oPutO_me, oOwn_o, oOwn_me, fOwn_ev, gCallV_ev, ev_AV, ev_fnV, finV_rv, ev_clr, kClr_l, ev_vlend, kVLend_l, sv_d, sv_l, sv_o, tpD_d, tpD_l, tpD_n, e, h0, ek, hL2]
theorem due_fin (d : Int) (HS : List PD) (bs : PD) (L1 L2 : List PD) (y5 y6 y7 y8 y9 y10 z5 z6 z7 z8 z9 z10 : Option SV) (e1 : lb2_law_due_v4 [some (.d (.int d)), some (.d (.list HS)), some (.d bs), some (.l []), some (.d (.int 0)), none, none, none, none, none, none] = .nx [some (.d (.int d)), some (.d (.list HS)), some (.d bs), some (.l L1), some (.d (.int 0)), y5, y6, y7, y8, y9, y10])
    (e2 : lb2_law_due_v4 [some (.d (.int d)), some (.d (.list HS)), some (.d bs), some (.l L1), some (.d (.int 1)), y5, y6, y7, y8, y9, y10] = .nx [some (.d (.int d)), some (.d (.list HS)), some (.d bs), some (.l L2), some (.d (.int 1)), z5, z6, z7, z8, z9, z10]) : m_law_due_v4 [.int d, .list HS, bs] = .ok (.list L2) := by
  have g2 : gR1 [.int 2] = .ok [.int 0, .int 1] := gR1_n 2 (by decide)
  simp +decide only [m_law_due_v4, den_law_due_v4, ev_seq, seq_nx, seq_rt, seq_ex, seq_bk, seq_ct, seq_ite, fl_okM, fl_ex, fl_ite, ev_set, kSet_ev, ev_ret, ev_nx, ev_raise, ev_if, kIf_ev, ev_par, kPar_ev, kId_ev, ev_asg, kAsg_ev, ev_forM, kFor_ev, ev_V, dVg_ok, ev_C, ev_1, ev_2, bind2_ok, bind2_ite1, bind2_ite2, bind_ite, ev_A, ev_nil, ev_cons, kCons_ev, ev_T, toB_ev, ev_and, ev_or, ev_not, kAnd_ev, kOr_ev, kNot_ev, ev_andV, ev_notV, kAndV_ev, kNotV_ev, tup_ev, lst_ev, call_ev, ev_fn, startE_0, startE_s, startE_c, fin_rt, fin_nx, fin_ex, fin_ite, ix_t0, ix_t1, ix_t2, ix_t3, ix_l0, ix_l1, ix_l2, len_l, len_t1, len_t2, len_t3, len_t4, beq_self_eq_true, ev_iL, ev_iT, asL_ev, asT_ev, ev_iAM, ev_P, toI_ev, ev_P0, ev_sl, kSl_ev, put_1, gAdd_i, gSub_i, gMul_i, gDiv_p, gMod_p, gPow_l, gShl_l, gShr_l, gLt_i, gLe_i, gGt_i, gGe_i, gEq_i, gNe_i, gAbs_i, gInt_i, gInt_b, gEq_s, gNe_s, gEq_b, gNe_b, gEq_2, gNe_2, gEq_3, gNe_3, gEq_22, gNe_22, bind_okM, DL.R.bind_ex, ev_setL, kSetL_ev, ev_lDisp, kDisp_ev, ev_lList, lOf_l, lOf_t, ev_frz, frz_l, frz_d, frz_n, ev_lend, lend_l, lend_d, atom_i, atom_b, atom_s, ev_lendB, lendB_l, lendB_d, ev_app, app_l, kApp_ev, ev_put, put_l, ev_ixO, ixO_l, ixO_d, put_m, putAll_c, putAll_n, ev_lc, kLst_ev, ev_lcL, wipe_n, wipe_c, r1_2, r1_3, bits_ev, List.getElem?_cons_zero, List.getElem?_cons_succ, List.set_cons_zero, List.set_cons_succ, List.length_cons, List.length_nil, List.length_map, List.append_nil, List.cons_append, List.nil_append, ev_if, turn_nx, turn_ct, turn_bk, turn_rt, turn_ite, kWh_ev, isi_int_int, isi_bool_int, isi_int_bool, isi_bool_bool, isi_int_str, isi_int_none, isi_int_list, isi_int_tup, isi_bool_str, isi_bool_none, isi_bool_list, isi_bool_tup, isi_tup_tup, isi_tup_int, isi_tup_bool, isi_tup_str, isi_tup_none, isi_tup_list, isi_list_list, isi_list_tup, isi_list_int, isi_list_bool, isi_list_str, isi_list_none, isi_str_str, isi_str_int, isi_str_bool, isi_str_none, isi_str_list, isi_str_tup, decide_true, decide_false, not_true_eq_false, not_false_eq_true, ne_eq, decide_eq_true_eq, Bool.not_eq_true', decide_eq_false_iff_not, Bool.not_true, Bool.not_false, Bool.false_eq_true, if_true, if_false, reduceIte, seq_rm, seq_rv, turn_rm, turn_rv, turn_ex, ev_retV, ev_vL, kVL_ev, frzV_l, ev_setV, kSetV_l, kSetV_o, oPut_ev, oPutO_o, oPutO_me, oOwn_o, oOwn_me, fOwn_ev, gCallV_ev, ev_AV, ev_fnV, finV_rv, ev_clr, kClr_l, ev_vlend, kVLend_l, sv_d, sv_l, sv_o, tpD_d, tpD_l, tpD_n, g2, forL_1, forL_nil, e1, e2]
end DL

set_option Elab.async false
set_option linter.all false
set_option maxRecDepth 100000
set_option maxHeartbeats 4000000
set_option autoImplicit false
/-! k51: the heap told is right; the bases behind -/
namespace DL
open PySem L2 MB
theorem right5_turn (d a b B p q r : Int) (fo du o w c0 h0 : PD) [Bd a 400000] [Bd b 400000] [Bd B 400000] [Bd p 5000] [Bd q 5000] [Bd r 5000] (ho : o = .tuple [c0, h0]) (hw : w = .tuple [c0, .int a, .int b, .int B]) (hh : h0 = .tuple [.int p, .int q, .int r]) (s1 : m_law_is_side_v4 [.int d, c0] = .ok (.bool true)) (s2 : m_law_is_side_v4 [.int d, h0] = .ok (.bool true)) (ne : gNe c0 c0 = .ok (.bool false)) (k1 : p * B = a * r) (k2 : q * B = b * r) (x5 : Option SV) :
    lb1_law_right_v12 [some (.d (.int d)), some (.d fo), some (.d du), some (.d o), some (.d w), x5] = .nx [some (.d (.int d)), some (.d fo), some (.d du), some (.d o), some (.d w), some (.d h0)] := by
  have it : gIsi "tuple" o = .ok (.bool true) := by subst ho; rfl
  have il : gLen [o] = .ok (.int 2) := by subst ho; rfl
  have o0 : gIx o (.int 0) = .ok c0 := by subst ho; exact ix_t0
  have o1 : gIx o (.int 1) = .ok h0 := by subst ho; exact ix_t1
  have w0 : gIx w (.int 0) = .ok c0 := by subst hw; exact ix_t0
  have w1 : gIx w (.int 1) = .ok (.int a) := by subst hw; exact ix_t1
  have w2 : gIx w (.int 2) = .ok (.int b) := by subst hw; exact ix_t2
  have w3 : gIx w (.int 3) = .ok (.int B) := by subst hw; exact ix_t (k := 3) rfl
  have v0 : gIx h0 (.int 0) = .ok (.int p) := by subst hh; exact ix_t0
  have v1 : gIx h0 (.int 1) = .ok (.int q) := by subst hh; exact ix_t1
  have v2 : gIx h0 (.int 2) = .ok (.int r) := by subst hh; exact ix_t2
  have m1 : gMul (.int p) (.int B) = .ok (.int (a * r)) := by rw [← k1]; exact gMul_i (by decide)
  have m2 : gMul (.int a) (.int r) = .ok (.int (a * r)) := gMul_i (by decide)
  have m3 : gMul (.int q) (.int B) = .ok (.int (b * r)) := by rw [← k2]; exact gMul_i (by decide)
  have m4 : gMul (.int b) (.int r) = .ok (.int (b * r)) := gMul_i (by decide)
  clear ho hw hh
  simp +decide only [lb1_law_right_v12, ev_seq, seq_nx, seq_rt, seq_ex, seq_bk, seq_ct, seq_ite, fl_okM, fl_ex, fl_ite, ev_set, kSet_ev, ev_ret, ev_nx, ev_raise, ev_if, kIf_ev, ev_par, kPar_ev, kId_ev, ev_asg, kAsg_ev, ev_forM, kFor_ev, ev_V, dVg_ok, ev_C, ev_1, ev_2, bind2_ok, bind2_ite1, bind2_ite2, bind_ite, ev_A, ev_nil, ev_cons, kCons_ev, ev_T, toB_ev, ev_and, ev_or, ev_not, kAnd_ev, kOr_ev, kNot_ev, ev_andV, ev_notV, kAndV_ev, kNotV_ev, tup_ev, lst_ev, call_ev, ev_fn, startE_0, startE_s, startE_c, fin_rt, fin_nx, fin_ex, fin_ite, ix_t0, ix_t1, ix_t2, ix_t3, ix_l0, ix_l1, ix_l2, len_l, len_t1, len_t2, len_t3, len_t4, beq_self_eq_true, ev_iL, ev_iT, asL_ev, asT_ev, ev_iAM, ev_P, toI_ev, ev_P0, ev_sl, kSl_ev, put_1, gAdd_i, gSub_i, gMul_i, gDiv_p, gMod_p, gPow_l, gShl_l, gShr_l, gLt_i, gLe_i, gGt_i, gGe_i, gEq_i, gNe_i, gAbs_i, gInt_i, gInt_b, gEq_s, gNe_s, gEq_b, gNe_b, gEq_2, gNe_2, gEq_3, gNe_3, gEq_22, gNe_22, bind_okM, DL.R.bind_ex, ev_setL, kSetL_ev, ev_lDisp, kDisp_ev, ev_lList, lOf_l, lOf_t, ev_frz, frz_l, frz_d, frz_n, ev_lend, lend_l, lend_d, atom_i, atom_b, atom_s, ev_lendB, lendB_l, lendB_d, ev_app, app_l, kApp_ev, ev_put, put_l, ev_ixO, ixO_l, ixO_d, put_m, putAll_c, putAll_n, ev_lc, kLst_ev, ev_lcL, wipe_n, wipe_c, r1_2, r1_3, bits_ev, List.getElem?_cons_zero, List.getElem?_cons_succ, List.set_cons_zero, List.set_cons_succ, List.length_cons, List.length_nil, List.length_map, List.append_nil, List.cons_append, List.nil_append, ev_if, turn_nx, turn_ct, turn_bk, turn_rt, turn_ite, kWh_ev, isi_int_int, isi_bool_int, isi_int_bool, isi_bool_bool, isi_int_str, isi_int_none, isi_int_list, isi_int_tup, isi_bool_str, isi_bool_none, isi_bool_list, isi_bool_tup, isi_tup_tup, isi_tup_int, isi_tup_bool, isi_tup_str, isi_tup_none, isi_tup_list, isi_list_list, isi_list_tup, isi_list_int, isi_list_bool, isi_list_str, isi_list_none, isi_str_str, isi_str_int, isi_str_bool, isi_str_none, isi_str_list, isi_str_tup, decide_true, decide_false, not_true_eq_false, not_false_eq_true, ne_eq, decide_eq_true_eq, Bool.not_eq_true', decide_eq_false_iff_not, Bool.not_true, Bool.not_false, Bool.false_eq_true, if_true, if_false, reduceIte, seq_rm, seq_rv, turn_rm, turn_rv, turn_ex, ev_retV, ev_vL, kVL_ev, frzV_l, ev_setV, kSetV_l, kSetV_o, oPut_ev, oPutO_o, oPutO_me, oOwn_o, oOwn_me, fOwn_ev, gCallV_ev, ev_AV, ev_fnV, finV_rv, ev_clr, kClr_l, ev_vlend, kVLend_l, sv_d, sv_l, sv_o, tpD_d, tpD_l, tpD_n, it, il, o0, o1, w0, w1, w2, w3, v0, v1, v2, m1, m2, m3, m4, s1, s2, ne]
/-- a board and what is due -/
def RP (d : Int) (o w : PD) : Prop := ∀ (fo du : PD) (x5 : Option SV), ∃ y5, lb1_law_right_v12 [some (.d (.int d)), some (.d fo), some (.d du), some (.d o), some (.d w), x5] = .nx [some (.d (.int d)), some (.d fo), some (.d du), some (.d o), some (.d w), y5]
theorem right5_loop (d : Int) (fo du : PD) : ∀ (ps : List (PD × PD)) (x3 x4 x5 : Option SV), (∀ p ∈ ps, RP d p.1 p.2) → ∃ y3 y4 y5, sForL (.many [3, 4]) lb1_law_right_v12 (ps.map fun p => .tuple [p.1, p.2]) [some (.d (.int d)), some (.d fo), some (.d du), x3, x4, x5] = .nx [some (.d (.int d)), some (.d fo), some (.d du), y3, y4, y5]
  | [], x3, x4, x5, _ => ⟨x3, x4, x5, rfl⟩
  | p :: ps, x3, x4, x5, h => by
    obtain ⟨y5, t⟩ := h p (.head _) fo du x5
    obtain ⟨z3, z4, z5, e⟩ := right5_loop d fo du ps (some (.d p.1)) (some (.d p.2)) y5 fun q hq => h q (.tail _ hq)
    refine ⟨z3, z4, z5, ?_⟩
    rw [List.map_cons, forL_m rfl]
    show (lb1_law_right_v12 [some (.d (.int d)), some (.d fo), some (.d du), some (.d p.1), some (.d p.2), x5]).turn _ = _
    rw [t, turn_nx, e]
theorem right5_fin (d n : Int) (fo du : PD) (ZS : List PD) (y3 y4 y5 : Option SV) (hf : gIsi "list" fo = .ok (.bool true)) (l1 : gLen [fo] = .ok (.int n)) (l2 : gLen [du] = .ok (.int n)) (ez : gZip [fo, du] = .ok ZS) (e : sForL (.many [3, 4]) lb1_law_right_v12 ZS [some (.d (.int d)), some (.d fo), some (.d du), none, none, none] = .nx [some (.d (.int d)), some (.d fo), some (.d du), y3, y4, y5]) : m_law_right_v12 [.int d, fo, du] = .ok (.bool true) := by
  simp +decide only [m_law_right_v12, den_law_right_v12, ev_seq, seq_nx, seq_rt, seq_ex, seq_bk, seq_ct, seq_ite, fl_okM, fl_ex, fl_ite, ev_set, kSet_ev, ev_ret, ev_nx, ev_raise, ev_if, kIf_ev, ev_par, kPar_ev, kId_ev, ev_asg, kAsg_ev, ev_forM, kFor_ev, ev_V, dVg_ok, ev_C, ev_1, ev_2, bind2_ok, bind2_ite1, bind2_ite2, bind_ite, ev_A, ev_nil, ev_cons, kCons_ev, ev_T, toB_ev, ev_and, ev_or, ev_not, kAnd_ev, kOr_ev, kNot_ev, ev_andV, ev_notV, kAndV_ev, kNotV_ev, tup_ev, lst_ev, call_ev, ev_fn, startE_0, startE_s, startE_c, fin_rt, fin_nx, fin_ex, fin_ite, ix_t0, ix_t1, ix_t2, ix_t3, ix_l0, ix_l1, ix_l2, len_l, len_t1, len_t2, len_t3, len_t4, beq_self_eq_true, ev_iL, ev_iT, asL_ev, asT_ev, ev_iAM, ev_P, toI_ev, ev_P0, ev_sl, kSl_ev, put_1, gAdd_i, gSub_i, gMul_i, gDiv_p, gMod_p, gPow_l, gShl_l, gShr_l, gLt_i, gLe_i, gGt_i, gGe_i, gEq_i, gNe_i, gAbs_i, gInt_i, gInt_b, gEq_s, gNe_s, gEq_b, gNe_b, gEq_2, gNe_2, gEq_3, gNe_3, gEq_22, gNe_22, bind_okM, DL.R.bind_ex, ev_setL, kSetL_ev, ev_lDisp, kDisp_ev, ev_lList, lOf_l, lOf_t, ev_frz, frz_l, frz_d, frz_n, ev_lend, lend_l, lend_d, atom_i, atom_b, atom_s, ev_lendB, lendB_l, lendB_d, ev_app, app_l, kApp_ev, ev_put, put_l, ev_ixO, ixO_l, ixO_d, put_m, putAll_c, putAll_n, ev_lc, kLst_ev, ev_lcL, wipe_n, wipe_c, r1_2, r1_3, bits_ev, List.getElem?_cons_zero, List.getElem?_cons_succ, List.set_cons_zero, List.set_cons_succ, List.length_cons, List.length_nil, List.length_map, List.append_nil, List.cons_append, List.nil_append, ev_if, turn_nx, turn_ct, turn_bk, turn_rt, turn_ite, kWh_ev, isi_int_int, isi_bool_int, isi_int_bool, isi_bool_bool, isi_int_str, isi_int_none, isi_int_list, isi_int_tup, isi_bool_str, isi_bool_none, isi_bool_list, isi_bool_tup, isi_tup_tup, isi_tup_int, isi_tup_bool, isi_tup_str, isi_tup_none, isi_tup_list, isi_list_list, isi_list_tup, isi_list_int, isi_list_bool, isi_list_str, isi_list_none, isi_str_str, isi_str_int, isi_str_bool, isi_str_none, isi_str_list, isi_str_tup, decide_true, decide_false, not_true_eq_false, not_false_eq_true, ne_eq, decide_eq_true_eq, Bool.not_eq_true', decide_eq_false_iff_not, Bool.not_true, Bool.not_false, Bool.false_eq_true, if_true, if_false, reduceIte, seq_rm, seq_rv, turn_rm, turn_rv, turn_ex, ev_retV, ev_vL, kVL_ev, frzV_l, ev_setV, kSetV_l, kSetV_o, oPut_ev, oPutO_o, oPutO_me, oOwn_o, oOwn_me, fOwn_ev, gCallV_ev, ev_AV, ev_fnV, finV_rv, ev_clr, kClr_l, ev_vlend, kVLend_l, sv_d, sv_l, sv_o, tpD_d, tpD_l, tpD_n, hf, l1, l2, ez, e]
theorem right5_list (d : Int) (ps : List (PD × PD)) (h : ∀ p ∈ ps, RP d p.1 p.2) : m_law_right_v12 [.int d, .list (ps.map (·.1)), .list (ps.map (·.2))] = .ok (.bool true) := by
  obtain ⟨y3, y4, y5, e⟩ := right5_loop d (.list (ps.map (·.1))) (.list (ps.map (·.2))) ps none none none h
  have ez : gZip [.list (ps.map (·.1)), .list (ps.map (·.2))] = .ok (ps.map fun p => .tuple [p.1, p.2]) := by
    show R.ok (zipD (ps.map (·.1)) (ps.map (·.2))) = _
    congr 1
    clear h e
    induction ps with
    | nil => rfl
    | cons p ps ih =>
      rw [List.map_cons, List.map_cons, List.map_cons, ← ih]
      rfl
  exact right5_fin d (ps.length : Nat) _ _ _ y3 y4 y5 rfl (by rw [len_l, List.length_map]) (by rw [len_l, List.length_map]) ez e
section
variable {d D : Int} {j n : Nat} {al : List Bo} {N : Int} {b : Ba}
theorem Srv.nxt (hd : Root d) (s : Srv d D j n al N b) : Srv d D j (n + 1) al N (b.nxt d) := by
  have b1 := s.bb.x; have b2 := s.bb.y; have b3 := s.bb.u; have b4 := s.bb.v
  have sb : ∀ {x y : Int}, Bd x (n + 2) → Bd y (n + 2) → Bd (x - y) (n + 1 + 2) := fun {x y} h1 h2 => Bd.mono (inferInstance : Bd (x - y) (max (n + 2) (n + 2) + 1)) (by rw [Nat.max_self]; omega)
  refine ⟨s.N0, s.bN, s.bi.nxt hd, ?_, s.dv, fun bd h => ⟨(s.zb bd h).1.mono (by omega), (s.zb bd h).2.mono (by omega)⟩, fun bd h => (s.sv bd h).nxt⟩
  by_cases c : PZ d (b.X - b.U) (b.Y - b.V)
  · rw [nxt_pos c]
    exact ⟨sb b1 b3, sb b2 b4, b3.mono (by omega), b4.mono (by omega)⟩
  · rw [nxt_neg c]
    exact ⟨b1.mono (by omega), b2.mono (by omega), sb b3 b1, sb b4 b2⟩
theorem base_next (hd : Root d) [Bd d 7] (s : Srv d D j n al N b) (hj : j ≤ 1900) (hn : n ≤ 3000) : m_next_base [.int d, bqD N b] = .ok (bqD N (b.nxt d)) :=
  next_base_bq d N hd s.N0 (bN := s.bN) b s.bb hj (by omega)
end
end DL

set_option Elab.async false
set_option linter.all false
set_option maxRecDepth 100000
set_option maxHeartbeats 4000000
set_option autoImplicit false
/-! the normal form: sums, signs, bits -/
namespace DL
open PySem L2 MB
theorem nhB_sum (k : Fin 4) (x y p q : Rat) : sumB (pr k) (nhB x y p q) = pr k ⟨x, y, p, q⟩ := by
  unfold nhB
  by_cases h : p = 0 ∧ q = 0
  · rw [if_pos h, sumB, h.1, h.2]
    match k with
    | 0 => simp only [pr]; grind
    | 1 => simp only [pr]; grind
    | 2 => simp only [pr]; grind
    | 3 => simp only [pr]; grind
  · rw [if_neg h, sumB, sumB, Rat.add_zero]
theorem pcs_sum (k : Fin 4) {x1 y1 x2 y2 : Rat} : ∀ ps : List Pc, (∀ t ∈ ps, t.1.x = x1 * t.2.1 + x2 * t.2.2 ∧ t.1.y = y1 * t.2.1 + y2 * t.2.2) → sumB (pr k) (ps.map (·.1)) = pr k ⟨x1, y1, sumP (fun t => t.1.u * t.2.1) ps, sumP (fun t => t.1.v * t.2.1) ps⟩ + pr k ⟨x2, y2, sumP (fun t => t.1.u * t.2.2) ps, sumP (fun t => t.1.v * t.2.2) ps⟩
  | [], _ => by
    match k with
    | 0 => simp only [List.map_nil, sumB, sumP, pr]; grind
    | 1 => simp only [List.map_nil, sumB, sumP, pr]; grind
    | 2 => simp only [List.map_nil, sumB, sumP, pr]; grind
    | 3 => simp only [List.map_nil, sumB, sumP, pr]; grind
  | t :: ps, h => by
    obtain ⟨h1, h2⟩ := h t (.head _)
    rw [List.map_cons, sumB, pcs_sum k ps fun s hs => h s (.tail _ hs)]
    match k with
    | 0 => simp only [sumP, pr, h1]; grind
    | 1 => simp only [sumP, pr, h1]; grind
    | 2 => simp only [sumP, pr, h2]; grind
    | 3 => simp only [sumP, pr, h2]; grind
theorem sumP_pos {d : Int} (hd : Root d) {f : Pc → Int} : ∀ ps : List Pc, (∀ t ∈ ps, 0 ≤ f t ∧ PosQ d t.1.u t.1.v) → (sumP (fun t => t.1.u * f t) ps = 0 ∧ sumP (fun t => t.1.v * f t) ps = 0) ∨ PosQ d (sumP (fun t => t.1.u * f t) ps) (sumP (fun t => t.1.v * f t) ps)
  | [], _ => .inl ⟨rfl, rfl⟩
  | t :: ps, h => by
    obtain ⟨h0, hp⟩ := h t (.head _)
    have ih := sumP_pos hd (f := f) ps fun s hs => h s (.tail _ hs)
    rw [sumP, sumP]
    by_cases c : 0 < f t
    · have p1 := posQ_times hd hp c
      right
      rcases ih with ⟨e1, e2⟩ | p2
      · rw [e1, e2, Rat.add_zero, Rat.add_zero]; exact p1
      · exact posQ_add hd p1 p2
    · have e : f t = 0 := by omega
      have z : ∀ q : Rat, q * ((0 : Int) : Rat) = 0 := fun q => by grind
      rw [e, z, z]
      have z0 : ∀ q : Rat, 0 + q = q := fun q => by grind
      rw [z0, z0]
      exact ih
theorem sumP_ov {D : Int} {q : Nat} {f : Pc → Int} : ∀ ps : List Pc, (∀ t ∈ ps, Ov D q (t.1.u * f t) (t.1.v * f t)) → Ov D (q + ps.length) (sumP (fun t => t.1.u * f t) ps) (sumP (fun t => t.1.v * f t) ps)
  | [], _ => ⟨0, 0, ⟨Nat.two_pow_pos _⟩, ⟨Nat.two_pow_pos _⟩, by show (0 : Rat) = _; grind, by show (0 : Rat) = _; grind⟩
  | t :: ps, h => by
    have h1 := sumP_ov (D := D) (q := q) (f := f) ps fun s hs => h s (.tail _ hs)
    have h0 := (h t (.head _)).mono (show q ≤ q + ps.length by omega)
    have := h0.add h1
    rw [List.length_cons, sumP, sumP]
    exact this.mono (by omega)
section
variable {d D : Int} {j n : Nat} {al : List Bo} {N : Int} {b : Ba}
/-- the four sums -/
noncomputable def nS (N : Int) (b : Ba) (bs : List Bo) : Rat := sumP (fun t => t.1.u * t.2.1) (pcs N b bs)
noncomputable def nT (N : Int) (b : Ba) (bs : List Bo) : Rat := sumP (fun t => t.1.v * t.2.1) (pcs N b bs)
noncomputable def nS2 (N : Int) (b : Ba) (bs : List Bo) : Rat := sumP (fun t => t.1.u * t.2.2) (pcs N b bs)
noncomputable def nT2 (N : Int) (b : Ba) (bs : List Bo) : Rat := sumP (fun t => t.1.v * t.2.2) (pcs N b bs)
theorem nhL_eq (N : Int) (b : Ba) (bs : List Bo) : nhL N b bs = nhB ((b.X : Rat) / N) ((b.Y : Rat) / N) (nS N b bs) (nT N b bs) ++ nhB ((b.U : Rat) / N) ((b.V : Rat) / N) (nS2 N b bs) (nT2 N b bs) := rfl
theorem nhL_sum (s : Srv d D j n al N b) {bs : List Bo} (hs : ∀ c ∈ bs, c ∈ al) (k : Fin 4) : sumB (pr k) (nhL N b bs) = sumB (pr k) bs := by
  have e := pcs_sum k (x1 := (b.X : Rat) / N) (y1 := (b.Y : Rat) / N) (x2 := (b.U : Rat) / N) (y2 := (b.V : Rat) / N) (pcs N b bs) fun t ht => by
    obtain ⟨c, hc, rfl⟩ := List.mem_map.mp ht
    exact s.width (hs c hc)
  rw [pcs_fst] at e
  rw [e, nhL_eq, sumB_app, nhB_sum, nhB_sum]
  rfl
structure NhS (d D : Int) (q : Nat) (S T : Rat) : Prop where
  p : (S = 0 ∧ T = 0) ∨ PosQ d S T
  o : Ov D q S T
theorem nh_sides (hd : Root d) [Bd d 7] (s : Srv d D j n al N b) (hD : 0 < D) (bD : Bd D j) (hj : j ≤ 1900) (hn : n ≤ 740) {bs : List Bo} (hs : ∀ c ∈ bs, c ∈ al) (hb : ∀ c ∈ bs, PosB d c ∧ OvB D n c) : NhS d D (3 * n + 3 + bs.length) (nS N b bs) (nT N b bs) ∧ NhS d D (3 * n + 3 + bs.length) (nS2 N b bs) (nT2 N b bs) := by
  have hl : (pcs N b bs).length = bs.length := by unfold pcs; rw [List.length_map]
  have key : ∀ t ∈ pcs N b bs, (0 ≤ t.2.1 ∧ 0 ≤ t.2.2) ∧ PosQ d t.1.u t.1.v ∧ Ov D (3 * n + 3) (t.1.u * t.2.1) (t.1.v * t.2.1) ∧ Ov D (3 * n + 3) (t.1.u * t.2.2) (t.1.v * t.2.2) := fun t ht => by
    obtain ⟨c, hc, rfl⟩ := List.mem_map.mp ht
    obtain ⟨a1, a2, a3, a4⟩ := s.pb hd hD bD hj hn (hs _ hc) (hb _ hc).1 (hb _ hc).2
    exact ⟨⟨a1.i0, a1.j0⟩, a1.h, a3, a4⟩
  refine ⟨⟨sumP_pos hd _ fun t ht => ⟨(key t ht).1.1, (key t ht).2.1⟩, ?_⟩, ⟨sumP_pos hd _ fun t ht => ⟨(key t ht).1.2, (key t ht).2.1⟩, ?_⟩⟩
  · rw [← hl]
    exact sumP_ov _ fun t ht => (key t ht).2.2.1
  · rw [← hl]
    exact sumP_ov _ fun t ht => (key t ht).2.2.2
end
theorem commonN {k m : Nat} : ∀ ps : List (Rat × Rat), (∀ p ∈ ps, ∃ n : Int, 0 < n ∧ Bd n k ∧ Ov n m p.1 p.2) → ∃ D : Int, 0 < D ∧ Bd D (k * ps.length + 1) ∧ ∀ p ∈ ps, Ov D (m + 1 + k * ps.length) p.1 p.2
  | [], _ => ⟨1, by decide, bd_one (by simp), fun p hp => nomatch hp⟩
  | p :: ps, h => by
    obtain ⟨D, D0, bD, hD⟩ := commonN ps fun q hq => h q (.tail _ hq)
    obtain ⟨n, n0, bn, on⟩ := h p (.head _)
    rw [List.length_cons, Nat.mul_add]
    refine ⟨D * n, Int.mul_pos D0 n0, Bd.mono (inferInstance : Bd (D * n) (k * ps.length + 1 + k)) (by omega), fun q hq => ?_⟩
    rcases List.mem_cons.mp hq with rfl | hq
    · have s := on.scale (k := D) (by omega) (by omega) bD
      rw [Int.mul_comm n D] at s
      exact s.mono (by omega)
    · exact ((hD q hq).scale (k := n) (by omega) (by omega) bn).mono (by omega)
end DL

set_option Elab.async false
set_option linter.all false
set_option maxRecDepth 100000
set_option maxHeartbeats 4000000
set_option autoImplicit false
/-! law k51 -/
namespace DL
open PySem L2 MB
/-- widths of a heap told by pairs -/
theorem lc_wd (te : En → R PD) (ρ : En) (h : ∀ b : Bo, ∃ ρ1, Tg.put (.many [4, 5]) (boD b) ρ = some ρ1 ∧ te ρ1 = .ok (lnD b.x b.y)) : ∀ bs : List Bo, lcL (.many [4, 5]) bYes te ρ (bs.map boD) = .ok ((wds bs).map lnp)
  | [] => rfl
  | b :: bs => by
    obtain ⟨ρ1, h1, h2⟩ := h b
    have ih := lc_wd te ρ h bs
    rw [List.map_cons]
    unfold lcL
    simp only [h1, bYes, h2, ih]
    rfl
theorem base_loop51 (s d : Int) (x0 x2 c4 c5 c7 c8 c9 : Option SV) (hd : Root d) [Bd d 7] {D N : Int} {j : Nat} {al : List Bo} (hj : j ≤ 1900) : ∀ (r k : Nat) (n : Nat) (b : Ba) (x6 : Option SV), Srv d D j n al N b → n + r ≤ 3000 → ∃ (b' : Ba) (y6 : Option SV), Srv d D j (n + r) al N b' ∧ sForL (.one 6) lb2_law_k51 ((List.range' k r).map fun i => PyData.int ((i : Nat) : Int)) [x0, some (.d (.int d)), x2, some (.d (bqD N b)), c4, c5, x6, c7, c8, c9] = .nx [x0, some (.d (.int d)), x2, some (.d (bqD N b')), c4, c5, y6, c7, c8, c9]
  | 0, k, n, b, x6, S, _ => ⟨b, x6, S, by simp [forL_nil]⟩
  | r + 1, k, n, b, x6, S, hn => by
    have e := base_next hd S hj (by omega)
    obtain ⟨b', y6, S', e2⟩ := base_loop51 s d x0 x2 c4 c5 c7 c8 c9 hd hj r (k + 1) (n + 1) (b.nxt d) (some (.d (.int (k : Nat)))) (S.nxt hd) (by omega)
    refine ⟨b', y6, by rw [show n + (r + 1) = n + 1 + r by omega]; exact S', ?_⟩
    have t : lb2_law_k51 [x0, some (.d (.int d)), x2, some (.d (bqD N b)), c4, c5, some (.d (.int (k : Nat))), c7, c8, c9] = .nx [x0, some (.d (.int d)), x2, some (.d (bqD N (b.nxt d))), c4, c5, some (.d (.int (k : Nat))), c7, c8, c9] := by
      generalize bqD N (b.nxt d) = q at *
      generalize bqD N b = q0 at *
      simp +decide only [lb2_law_k51, ev_seq, seq_nx, seq_rt, seq_ex, seq_bk, seq_ct, seq_ite, fl_okM, fl_ex, fl_ite, ev_set, kSet_ev, ev_ret, ev_nx, ev_raise, ev_if, kIf_ev, ev_par, kPar_ev, kId_ev, ev_asg, kAsg_ev, ev_forM, kFor_ev, ev_V, dVg_ok, ev_C, ev_1, ev_2, bind2_ok, bind2_ite1, bind2_ite2, bind_ite, ev_A, ev_nil, ev_cons, kCons_ev, ev_T, toB_ev, ev_and, ev_or, ev_not, kAnd_ev, kOr_ev, kNot_ev, ev_andV, ev_notV, kAndV_ev, kNotV_ev, tup_ev, lst_ev, call_ev, ev_fn, startE_0, startE_s, startE_c, fin_rt, fin_nx, fin_ex, fin_ite, ix_t0, ix_t1, ix_t2, ix_t3, ix_l0, ix_l1, ix_l2, len_l, len_t1, len_t2, len_t3, len_t4, beq_self_eq_true, ev_iL, ev_iT, asL_ev, asT_ev, ev_iAM, ev_P, toI_ev, ev_P0, ev_sl, kSl_ev, put_1, gAdd_i, gSub_i, gMul_i, gDiv_p, gMod_p, gPow_l, gShl_l, gShr_l, gLt_i, gLe_i, gGt_i, gGe_i, gEq_i, gNe_i, gAbs_i, gInt_i, gInt_b, gEq_s, gNe_s, gEq_b, gNe_b, gEq_2, gNe_2, gEq_3, gNe_3, gEq_22, gNe_22, bind_okM, DL.R.bind_ex, ev_setL, kSetL_ev, ev_lDisp, kDisp_ev, ev_lList, lOf_l, lOf_t, ev_frz, frz_l, frz_d, frz_n, ev_lend, lend_l, lend_d, atom_i, atom_b, atom_s, ev_lendB, lendB_l, lendB_d, ev_app, app_l, kApp_ev, ev_put, put_l, ev_ixO, ixO_l, ixO_d, put_m, putAll_c, putAll_n, ev_lc, kLst_ev, ev_lcL, wipe_n, wipe_c, r1_2, r1_3, bits_ev, List.getElem?_cons_zero, List.getElem?_cons_succ, List.set_cons_zero, List.set_cons_succ, List.length_cons, List.length_nil, List.length_map, List.append_nil, List.cons_append, List.nil_append, ev_if, turn_nx, turn_ct, turn_bk, turn_rt, turn_ite, kWh_ev, isi_int_int, isi_bool_int, isi_int_bool, isi_bool_bool, isi_int_str, isi_int_none, isi_int_list, isi_int_tup, isi_bool_str, isi_bool_none, isi_bool_list, isi_bool_tup, isi_tup_tup, isi_tup_int, isi_tup_bool, isi_tup_str, isi_tup_none, isi_tup_list, isi_list_list, isi_list_tup, isi_list_int, isi_list_bool, isi_list_str, isi_list_none, isi_str_str, isi_str_int, isi_str_bool, isi_str_none, isi_str_list, isi_str_tup, decide_true, decide_false, not_true_eq_false, not_false_eq_true, ne_eq, decide_eq_true_eq, Bool.not_eq_true', decide_eq_false_iff_not, Bool.not_true, Bool.not_false, Bool.false_eq_true, if_true, if_false, reduceIte, seq_rm, seq_rv, turn_rm, turn_rv, turn_ex, ev_retV, ev_vL, kVL_ev, frzV_l, ev_setV, kSetV_l, kSetV_o, oPut_ev, oPutO_o, oPutO_me, oOwn_o, oOwn_me, fOwn_ev, gCallV_ev, ev_AV, ev_fnV, finV_rv, ev_clr, kClr_l, ev_vlend, kVLend_l, sv_d, sv_l, sv_o, tpD_d, tpD_l, tpD_n, e]
    rw [List.range'_succ, List.map_cons, forL_1]
    simp only [List.set_cons_succ, List.set_cons_zero, t, turn_nx, e2]
theorem int_b51 (b : Bool) : gInt [.bool b] = .ok (.int (if b = true then 1 else 0)) := by cases b <;> rfl
theorem k51_fin (s c1 c2 cells H B0 B1 DG U : PD) (d c z n : Int) (HS WS RR F : List PD) (y6 : Option SV) [Bd c 1048576] [Bd z 20] (er : m_law_root_v5 [s] = .ok (.int d)) (s1 : gSl s (some 1) (some 17) = .ok c1) (gl : gLen [s] = .ok (.int n)) (gm : gMulL (.list [.int 7]) (.int (if n < 2 then 1 else 0)) = .ok c2) (ga : gAdd c1 c2 = .ok cells)
    (eh : m_law_heap_v4 [.int d, cells] = .ok H) (hH : asL H = .ok HS) (hl : HS.length ≤ 1000000)
    (ws : lcL (.many [4, 5]) bYes le1_law_k51 [some (.d s), some (.d (.int d)), some (.d H), none, none, none, none, none, none, none] HS = .ok WS) (sv : m_serving [.int d, .list WS] = .ok B0)
    (ec : m_law_cell [s, .int 0] = .ok (.int c)) (ed : m_law_digits_v3 [.int c, .int 0, .int 2] = .ok DG) (i1 : gIx DG (.int 1) = .ok (.int z)) (gr : gR1 [.int (z % 4)] = .ok RR)
    (el : sForL (.one 6) lb2_law_k51 RR [some (.d s), some (.d (.int d)), some (.d H), some (.d B0), none, none, none, none, none, none] = .nx [some (.d s), some (.d (.int d)), some (.d H), some (.d B1), none, none, y6, none, none, none])
    (lo : gListOf [H] = .ok H) (nh : mV_normal_heap_v2 [.int d, H, B1] = .ok (.l F)) (du : m_law_due_v4 [.int d, H, B1] = .ok U) (ri : m_law_right_v12 [.int d, .list F, U] = .ok (.bool true)) (ne : gNe H H = .ok (.bool false)) (li : m_law_like [H, .list F] = .ok (.bool true))
    (nh2 : m_normal_heap_v2 [.int d, H, B1] = .ok (.list F)) (ge : gEq (.list F) (.list F) = .ok (.bool true)) (hF : cleanV (.l F) = .ok (.l F)) : m_law_k51 [s] = .ok (.bool true) := by
  by_cases h : n < 2
  · rw [if_pos h] at gm
    simp +decide only [m_law_k51, den_law_k51, ev_seq, seq_nx, seq_rt, seq_ex, seq_bk, seq_ct, seq_ite, fl_okM, fl_ex, fl_ite, ev_set, kSet_ev, ev_ret, ev_nx, ev_raise, ev_if, kIf_ev, ev_par, kPar_ev, kId_ev, ev_asg, kAsg_ev, ev_forM, kFor_ev, ev_V, dVg_ok, ev_C, ev_1, ev_2, bind2_ok, bind2_ite1, bind2_ite2, bind_ite, ev_A, ev_nil, ev_cons, kCons_ev, ev_T, toB_ev, ev_and, ev_or, ev_not, kAnd_ev, kOr_ev, kNot_ev, ev_andV, ev_notV, kAndV_ev, kNotV_ev, tup_ev, lst_ev, call_ev, ev_fn, startE_0, startE_s, startE_c, fin_rt, fin_nx, fin_ex, fin_ite, ix_t0, ix_t1, ix_t2, ix_t3, ix_l0, ix_l1, ix_l2, len_l, len_t1, len_t2, len_t3, len_t4, beq_self_eq_true, ev_iL, ev_iT, asL_ev, asT_ev, ev_iAM, ev_P, toI_ev, ev_P0, ev_sl, kSl_ev, put_1, gAdd_i, gSub_i, gMul_i, gDiv_p, gMod_p, gPow_l, gShl_l, gShr_l, gLt_i, gLe_i, gGt_i, gGe_i, gEq_i, gNe_i, gAbs_i, gInt_i, gInt_b, gEq_s, gNe_s, gEq_b, gNe_b, gEq_2, gNe_2, gEq_3, gNe_3, gEq_22, gNe_22, bind_okM, DL.R.bind_ex, ev_setL, kSetL_ev, ev_lDisp, kDisp_ev, ev_lList, lOf_l, lOf_t, ev_frz, frz_l, frz_d, frz_n, ev_lend, lend_l, lend_d, atom_i, atom_b, atom_s, ev_lendB, lendB_l, lendB_d, ev_app, app_l, kApp_ev, ev_put, put_l, ev_ixO, ixO_l, ixO_d, put_m, putAll_c, putAll_n, ev_lc, kLst_ev, ev_lcL, wipe_n, wipe_c, r1_2, r1_3, bits_ev, List.getElem?_cons_zero, List.getElem?_cons_succ, List.set_cons_zero, List.set_cons_succ, List.length_cons, List.length_nil, List.length_map, List.append_nil, List.cons_append, List.nil_append, ev_if, turn_nx, turn_ct, turn_bk, turn_rt, turn_ite, kWh_ev, isi_int_int, isi_bool_int, isi_int_bool, isi_bool_bool, isi_int_str, isi_int_none, isi_int_list, isi_int_tup, isi_bool_str, isi_bool_none, isi_bool_list, isi_bool_tup, isi_tup_tup, isi_tup_int, isi_tup_bool, isi_tup_str, isi_tup_none, isi_tup_list, isi_list_list, isi_list_tup, isi_list_int, isi_list_bool, isi_list_str, isi_list_none, isi_str_str, isi_str_int, isi_str_bool, isi_str_none, isi_str_list, isi_str_tup, decide_true, decide_false, not_true_eq_false, not_false_eq_true, ne_eq, decide_eq_true_eq, Bool.not_eq_true', decide_eq_false_iff_not, Bool.not_true, Bool.not_false, Bool.false_eq_true, if_true, if_false, reduceIte, seq_rm, seq_rv, turn_rm, turn_rv, turn_ex, ev_retV, ev_vL, kVL_ev, frzV_l, ev_setV, kSetV_l, kSetV_o, oPut_ev, oPutO_o, oPutO_me, oOwn_o, oOwn_me, fOwn_ev, gCallV_ev, ev_AV, ev_fnV, finV_rv, ev_clr, kClr_l, ev_vlend, kVLend_l, sv_d, sv_l, sv_o, tpD_d, tpD_l, tpD_n, er, s1, gl, h, gm, ga, eh, hH, kLcL_ev hl, ws, sv, ec, ed, i1, gr, el, lo, nh, du, ri, ne, li, nh2, ge, int_b51, hF]
  · rw [if_neg h] at gm
    simp +decide only [m_law_k51, den_law_k51, ev_seq, seq_nx, seq_rt, seq_ex, seq_bk, seq_ct, seq_ite, fl_okM, fl_ex, fl_ite, ev_set, kSet_ev, ev_ret, ev_nx, ev_raise, ev_if, kIf_ev, ev_par, kPar_ev, kId_ev, ev_asg, kAsg_ev, ev_forM, kFor_ev, ev_V, dVg_ok, ev_C, ev_1, ev_2, bind2_ok, bind2_ite1, bind2_ite2, bind_ite, ev_A, ev_nil, ev_cons, kCons_ev, ev_T, toB_ev, ev_and, ev_or, ev_not, kAnd_ev, kOr_ev, kNot_ev, ev_andV, ev_notV, kAndV_ev, kNotV_ev, tup_ev, lst_ev, call_ev, ev_fn, startE_0, startE_s, startE_c, fin_rt, fin_nx, fin_ex, fin_ite, ix_t0, ix_t1, ix_t2, ix_t3, ix_l0, ix_l1, ix_l2, len_l, len_t1, len_t2, len_t3, len_t4, beq_self_eq_true, ev_iL, ev_iT, asL_ev, asT_ev, ev_iAM, ev_P, toI_ev, ev_P0, ev_sl, kSl_ev, put_1, gAdd_i, gSub_i, gMul_i, gDiv_p, gMod_p, gPow_l, gShl_l, gShr_l, gLt_i, gLe_i, gGt_i, gGe_i, gEq_i, gNe_i, gAbs_i, gInt_i, gInt_b, gEq_s, gNe_s, gEq_b, gNe_b, gEq_2, gNe_2, gEq_3, gNe_3, gEq_22, gNe_22, bind_okM, DL.R.bind_ex, ev_setL, kSetL_ev, ev_lDisp, kDisp_ev, ev_lList, lOf_l, lOf_t, ev_frz, frz_l, frz_d, frz_n, ev_lend, lend_l, lend_d, atom_i, atom_b, atom_s, ev_lendB, lendB_l, lendB_d, ev_app, app_l, kApp_ev, ev_put, put_l, ev_ixO, ixO_l, ixO_d, put_m, putAll_c, putAll_n, ev_lc, kLst_ev, ev_lcL, wipe_n, wipe_c, r1_2, r1_3, bits_ev, List.getElem?_cons_zero, List.getElem?_cons_succ, List.set_cons_zero, List.set_cons_succ, List.length_cons, List.length_nil, List.length_map, List.append_nil, List.cons_append, List.nil_append, ev_if, turn_nx, turn_ct, turn_bk, turn_rt, turn_ite, kWh_ev, isi_int_int, isi_bool_int, isi_int_bool, isi_bool_bool, isi_int_str, isi_int_none, isi_int_list, isi_int_tup, isi_bool_str, isi_bool_none, isi_bool_list, isi_bool_tup, isi_tup_tup, isi_tup_int, isi_tup_bool, isi_tup_str, isi_tup_none, isi_tup_list, isi_list_list, isi_list_tup, isi_list_int, isi_list_bool, isi_list_str, isi_list_none, isi_str_str, isi_str_int, isi_str_bool, isi_str_none, isi_str_list, isi_str_tup, decide_true, decide_false, not_true_eq_false, not_false_eq_true, ne_eq, decide_eq_true_eq, Bool.not_eq_true', decide_eq_false_iff_not, Bool.not_true, Bool.not_false, Bool.false_eq_true, if_true, if_false, reduceIte, seq_rm, seq_rv, turn_rm, turn_rv, turn_ex, ev_retV, ev_vL, kVL_ev, frzV_l, ev_setV, kSetV_l, kSetV_o, oPut_ev, oPutO_o, oPutO_me, oOwn_o, oOwn_me, fOwn_ev, gCallV_ev, ev_AV, ev_fnV, finV_rv, ev_clr, kClr_l, ev_vlend, kVLend_l, sv_d, sv_l, sv_o, tpD_d, tpD_l, tpD_n, er, s1, gl, h, gm, ga, eh, hH, kLcL_ev hl, ws, sv, ec, ed, i1, gr, el, lo, nh, du, ri, ne, li, nh2, ge, int_b51, hF]
/-- the cells drawn of -/
theorem cells_ok (ns : List Int) (hb : ∀ z ∈ ns, PySem.Builtin.Int.intBits z ≤ 1048576) (l : Nat) (h2 : 2 ≤ l) (hl : l ≤ 60) : ∃ cs : List Int, 1 ≤ cs.length ∧ cs.length ≤ l ∧ (∀ c ∈ cs, Bd c 1048576) ∧ ∃ c1 c2, gSl (.list (ns.map PyData.int)) (some 1) (some (l : Nat)) = .ok c1 ∧ gMulL (.list [.int 7]) (.int (if (ns.length : Int) < 2 then 1 else 0)) = .ok c2 ∧ gAdd c1 c2 = .ok (.list (cs.map .int)) := by
  have es : gSl (.list (ns.map PyData.int)) (some 1) (some ((l : Nat) : Int)) = .ok (.list (((ns.take l).drop 1).map PyData.int)) := by rw [List.map_drop, List.map_take]; exact sl_lohi (k := 1) (l := l)
  have hc : ∀ c ∈ (ns.take l).drop 1, Bd c 1048576 := fun z hz => cell_bd (hb z (List.mem_of_mem_take (List.mem_of_mem_drop hz)))
  have ll : ((ns.take l).drop 1).length ≤ l - 1 := by rw [List.length_drop, List.length_take]; omega
  have add : ∀ xs ys : List Int, xs.length + ys.length ≤ 100 → gAdd (.list (xs.map PyData.int)) (.list (ys.map PyData.int)) = .ok (.list ((xs ++ ys).map .int)) := fun xs ys h => by
    unfold gAdd
    dsimp only
    rw [if_pos (by rw [List.length_map, List.length_map]; omega), List.map_append]
  have b7 : Bd (7 : Int) 1048576 := Bd.mono (show Bd (7 : Int) 3 from ⟨by decide⟩) (by decide)
  by_cases h : (ns.length : Int) < 2
  · refine ⟨(ns.take l).drop 1 ++ [7], by simp, by rw [List.length_append]; simp only [List.length_cons, List.length_nil]; omega, fun c hm => ?_, _, .list [.int 7], es, by rw [if_pos h]; rfl, add _ [7] (by simp only [List.length_cons, List.length_nil]; omega)⟩
    rcases List.mem_append.mp hm with hm | hm
    · exact hc c hm
    · rw [List.mem_singleton] at hm; subst hm; exact b7
  · refine ⟨(ns.take l).drop 1, by rw [List.length_drop, List.length_take]; omega, by omega, hc, _, .list [], es, by rw [if_neg h]; rfl, ?_⟩
    have := add ((ns.take l).drop 1) [] (by simp only [List.length_nil]; omega)
    rw [List.append_nil] at this
    exact this
theorem SdF.dn {d : Int} {x y : Rat} (h : SdF d false x y) : ∃ n : Int, 0 < n ∧ Bd n 12 ∧ Ov n 16 x y := by
  obtain ⟨a, b, hb, rfl, h1⟩ := h.fx
  obtain ⟨a', b', hb', rfl, h2⟩ := h.fy
  rw [if_neg (by decide)] at h1 h2
  have c1 := h1.1; have c2 := h1.2; have c3 := h2.1; have c4 := h2.2
  refine ⟨b * b', Int.mul_pos hb hb', inferInstance, a * b', a' * b, inferInstance, inferInstance, ?_, ?_⟩
  · have g1 : (b : Rat) ≠ 0 := ratne (by omega)
    have g2 : (b' : Rat) ≠ 0 := ratne (by omega)
    simp only [Rat.intCast_mul]; grind
  · have g1 : (b : Rat) ≠ 0 := ratne (by omega)
    have g2 : (b' : Rat) ≠ 0 := ratne (by omega)
    simp only [Rat.intCast_mul]; grind
/-- a drawn heap over one bottom -/
theorem heap_over {d : Int} (bs : List Bo) (hb : ∀ b ∈ bs, DF d b) : ∃ D : Int, 0 < D ∧ Bd D (24 * bs.length + 1) ∧ ∀ b ∈ bs, PosB d b ∧ OvB D (17 + 24 * bs.length) b := by
  have hs : ∀ (l : List Bo), (∀ b ∈ l, DF d b) → ∀ p ∈ sides l, ∃ n : Int, 0 < n ∧ Bd n 12 ∧ Ov n 16 p.1 p.2 := by
    intro l
    induction l with
    | nil => exact fun _ p hp => nomatch hp
    | cons b l ih =>
      intro h p hp
      have hb := h b (.head _)
      rcases List.mem_cons.mp hp with rfl | hp
      · exact hb.1.dn
      · rcases List.mem_cons.mp hp with rfl | hp
        · exact hb.2.dn
        · exact ih (fun c hc => h c (.tail _ hc)) p hp
  obtain ⟨D, D0, bD, hD⟩ := commonN (k := 12) (m := 16) (sides bs) (hs bs hb)
  rw [sides_len] at bD hD
  refine ⟨D, D0, bD.mono (by omega), fun b hm => ⟨⟨(hb b hm).1.pq, (hb b hm).2.pq⟩, ⟨(hD _ (sides_mem hm).1).mono (by omega), (hD _ (sides_mem hm).2).mono (by omega)⟩⟩⟩
theorem noLst_bos : ∀ bs : List Bo, noLstA (bs.map boD) = true
  | [] => rfl
  | b :: bs => by
    rw [List.map_cons]
    unfold noLstA
    rw [noLst_bos bs]
    rfl
theorem map_if51 {α β : Type} {c : Prop} [Decidable c] (x : α) (f : α → β) : (if c then ([] : List α) else [x]).map f = if c then [] else [f x] := by by_cases h : c <;> simp [h]
theorem if_iff51 {α : Type} {c e : Prop} [Decidable c] [Decidable e] (h : c ↔ e) (x y : α) : (if c then x else y) = if e then x else y := by
  by_cases g : c
  · rw [if_pos g, if_pos (h.mp g)]
  · rw [if_neg g, if_neg fun q => g (h.mpr q)]
theorem law_k51_true (ns : List Int) (hl : ns.length ≤ 63) (hb : ∀ z ∈ ns, PySem.Builtin.Int.intBits z ≤ 1048576) : DL.m_law_k51 [.list (ns.map PySem.PyData.int)] = .ok (.bool true) := by
  obtain ⟨d, er, hd, bd⟩ := law_root5_ok ns hb
  obtain ⟨cs, n1, n2, hc, c1, c2, s1, gm, ga⟩ := cells_ok ns hb 17 (by decide) (by decide)
  obtain ⟨bs, eh, lb, hB⟩ := law_heap4_ok d hd cs hc (by omega)
  obtain ⟨D, hD, bD0, hO⟩ := heap_over bs hB
  obtain ⟨c, ec, bc⟩ := law_cell_z ns hb 0 (by decide)
  obtain ⟨zs, ed, lz, hz⟩ := law_digits3_ok c 0 (bk := ⟨by decide⟩) 2 (by decide)
  have ed' : m_law_digits_v3 [.int c, .int 0, .int 2] = .ok (.list (zs.map .int)) := ed
  obtain ⟨e1, g1⟩ := dg_at hz (k := 1) (by omega)
  have e1' : gIx (.list (zs.map PyData.int)) (.int 1) = .ok (.int (zs.getD 1 0)) := e1
  generalize zs.getD 1 0 = z at *
  have bz := dg_bd g1
  have lb17 : bs.length ≤ 17 := by omega
  have hne : bs ≠ [] := fun e => by rw [e] at lb; simp only [List.length_nil] at lb; omega
  have bD : Bd D 409 := bD0.mono (by omega)
  have hb2 : ∀ b ∈ bs, PosB d b ∧ OvB D 425 b := fun b h => ⟨(hO b h).1, ⟨(hO b h).2.w.mono (by omega), (hO b h).2.h.mono (by omega)⟩⟩
  obtain ⟨N, b, es, S⟩ := serve_ok hd hD (n := 425) bD (by decide) (by decide) bs hb2 (by omega)
  obtain ⟨r, hr, hr3⟩ : ∃ r : Nat, z % 4 = (r : Nat) ∧ r ≤ 3 := ⟨(z % 4).toNat, by rw [Int.toNat_of_nonneg (by omega)], by omega⟩
  obtain ⟨b', y6, S', el⟩ := base_loop51 0 d (some (.d (.list (ns.map .int)))) (some (.d (.list (bs.map boD)))) none none none none none hd (by decide) r 0 425 b none S (by omega)
  have gr : gR1 [.int (z % 4)] = .ok ((List.range' 0 r).map fun i => PyData.int ((i : Nat) : Int)) := by rw [hr]; exact gR1_n r (by omega)
  have hb3 : ∀ b ∈ bs, PosB d b ∧ OvB D (425 + r) b := fun b h => ⟨(hb2 b h).1, ⟨(hb2 b h).2.w.mono (by omega), (hb2 b h).2.h.mono (by omega)⟩⟩
  have nh := normal_heap_ok hd S' hD bD (by decide) (by omega) (fun c h => h) hb3 (by omega)
  have nh2 : m_normal_heap_v2 [.int d, .list (bs.map boD), bqD N b'] = .ok (.list ((nhL N b' bs).map boD)) := by
    unfold m_normal_heap_v2
    rw [nh]; rfl
  obtain ⟨q1, q2⟩ := nh_sides hd S' hD bD (by decide) (by omega) (fun c h => h) hb3
  have hpl : (pcs N b' bs).length = bs.length := by unfold pcs; rw [List.length_map]
  have key : ∀ t ∈ pcs N b' bs, m_counts [.int d, bqD N b', lnD t.1.x t.1.y] = .ok (.tuple [.int t.2.1, .int t.2.2]) ∧ Bd t.2.1 1000 ∧ Bd t.2.2 1000 ∧ BL t.1.u t.1.v 428 409 := fun t ht => by
    obtain ⟨c, hc, rfl⟩ := List.mem_map.mp ht
    obtain ⟨a1, a2, a3, a4⟩ := S'.pb hd hD bD (by decide) (by omega) hc (hb3 _ hc).1 (hb3 _ hc).2
    obtain ⟨i1, i2⟩ := S'.IJ hc
    exact ⟨a2, i1.mono (by omega), i2.mono (by omega), ((hb3 _ hc).2.h.bl hD bD).mono (by omega) (Nat.le_refl _)⟩
  have em : (pcs N b' bs).map (fun t => boD t.1) = bs.map boD := by
    have := congrArg (List.map boD) (pcs_fst N b' bs)
    rw [List.map_map] at this
    exact this
  have z0 : ∀ k, Bd (0 : Int) k := fun k => ⟨Nat.two_pow_pos _⟩
  have zz : ((0 : Int) : Rat) = ((1 : Int) : Rat) * 0 := by rw [Rat.mul_zero]; rfl
  have one1 : Bd (1 : Int) 1 := ⟨by decide⟩
  have row := fun (k : Int) (f : Pc → Int) (hf : ∀ t ∈ pcs N b' bs, gIx (.tuple [.int t.2.1, .int t.2.2]) (.int k) = .ok (.int (f t)) ∧ Bd (f t) 1000) (L : List PD) (x8 x9 x10 : Option SV) => due_loop d k (.list (bs.map boD)) (bqD N b') .none L (n := 428) (m := 409) (kf := 1000) (by decide) (by decide) (by decide) f (pcs N b' bs) 1 0 0 0 0 1 2000 x8 x9 x10 (by decide) one1 (z0 _) (z0 _) (by decide) (by rw [hpl]; omega) zz zz fun t ht => ⟨_, (key t ht).1, (hf t ht).1, (hf t ht).2, (key t ht).2.2.2⟩
  obtain ⟨B0, a0, b0, w8, w9, w10, f0, B0p, bB0, ba0, bb0, v0, v0'⟩ := row 0 (fun t => t.2.1) (fun t ht => ⟨ix_t0, (key t ht).2.1⟩) [] none none none
  rw [em] at f0
  have d0 := due_row d 0 (bqD N b') (lnD ((b'.X : Rat) / N) ((b'.Y : Rat) / N)) (bs.map boD) [] (by decide) B0 a0 b0 none none none none none none w8 w9 w10 ix_t0 f0
  obtain ⟨L1, hL1⟩ : ∃ L1 : List PD, L1 = [] ++ (if a0 = 0 ∧ b0 = 0 then [] else [PyData.tuple [lnD ((b'.X : Rat) / N) ((b'.Y : Rat) / N), .int a0, .int b0, .int B0]]) := ⟨_, rfl⟩
  have hL1l : L1.length < 100 := by rw [hL1]; by_cases h : a0 = 0 ∧ b0 = 0 <;> simp [h]
  rw [← hL1] at d0
  obtain ⟨B1, a1, b1, u8, u9, u10, f1, B1p, bB1, ba1, bb1, v1, v1'⟩ := row 1 (fun t => t.2.2) (fun t ht => ⟨ix_t1, (key t ht).2.2.1⟩) L1 w8 w9 w10
  rw [em] at f1
  have d1 := due_row d 1 (bqD N b') (lnD ((b'.U : Rat) / N) ((b'.V : Rat) / N)) (bs.map boD) L1 hL1l B1 a1 b1 (some (.d (.int B0))) (some (.d (.int a0))) (some (.d (.int b0))) w8 w9 w10 u8 u9 u10 ix_t1 f1
  have du := due_fin d (bs.map boD) (bqD N b') L1 _ _ _ _ _ _ _ _ _ _ _ _ _ d0 d1
  have z00 : ∀ q : Rat, 0 + q = q := fun q => by grind
  rw [z00] at v0 v0' v1 v1'
  have v0 : (a0 : Rat) = B0 * nS N b' bs := v0
  have v0' : (b0 : Rat) = B0 * nT N b' bs := v0'
  have v1 : (a1 : Rat) = B1 * nS2 N b' bs := v1
  have v1' : (b1 : Rat) = B1 * nT2 N b' bs := v1'
  have zer : ∀ {B a b : Int} {S T : Rat}, 0 < B → (a : Rat) = B * S → (b : Rat) = B * T → ((a = 0 ∧ b = 0) ↔ (S = 0 ∧ T = 0)) := fun {B a b S T} hB h1 h2 => by
    have hB' : (B : Rat) ≠ 0 := ratne (by omega)
    constructor
    · rintro ⟨e1, e2⟩
      rw [e1] at h1
      rw [e2] at h2
      have o : ((0 : Int) : Rat) = 0 := rfl
      rw [o] at h1 h2
      exact ⟨by grind, by grind⟩
    · rintro ⟨e1, e2⟩
      rw [e1, Rat.mul_zero] at h1
      rw [e2, Rat.mul_zero] at h2
      exact ⟨by exact_mod_cast h1, by exact_mod_cast h2⟩
  have hN := S'.N0
  have pq1 : PosQ d ((b'.X : Rat) / N) ((b'.Y : Rat) / N) := (posQ_lq hd hN).mpr S'.bi.p
  have pq2 : PosQ d ((b'.U : Rat) / N) ((b'.V : Rat) / N) := (posQ_lq hd hN).mpr S'.bi.q
  have o1 : Ov N (425 + r + 2) ((b'.X : Rat) / N) ((b'.Y : Rat) / N) := ⟨_, _, S'.bb.x, S'.bb.y, rfl, rfl⟩
  have o2 : Ov N (425 + r + 2) ((b'.U : Rat) / N) ((b'.V : Rat) / N) := ⟨_, _, S'.bb.u, S'.bb.v, rfl, rfl⟩
  have is1 := law_is_side4_ok d hd _ _ (o1.bl hN S'.bN) (by omega) (by decide) pq1
  have is2 := law_is_side4_ok d hd _ _ (o2.bl hN S'.bN) (by omega) (by decide) pq2
  have rp : ∀ {x y S T : Rat} {B a c : Int} {k : Nat}, 0 < B → Bd B 400000 → Bd a 400000 → Bd c 400000 → (a : Rat) = B * S → (c : Rat) = B * T → k ≤ 3000 → NhS d D k S T → ¬ (S = 0 ∧ T = 0) → m_law_is_side_v4 [.int d, lnD x y] = .ok (.bool true) → RP d (boD ⟨x, y, S, T⟩) (.tuple [lnD x y, .int a, .int c, .int B]) := fun {x y S T B a c k} hB bB ba bc h1 h2 hk hq hne his fo du x5 => by
    have ps : PosQ d S T := by
      rcases hq.p with h | h
      · exact absurd h hne
      · exact h
    have bl := hq.o.bl hD bD
    have i1 : Bd (qA S T) 5000 := bl.a.mono (by omega)
    have i2 : Bd (qB S T) 5000 := bl.b.mono (by omega)
    have i3 : Bd (qN S T) 5000 := bl.c.mono (by decide)
    have v := q_val S T
    have k1 : qA S T * B = a * qN S T := by
      have : ((qA S T : Int) : Rat) * B = a * qN S T := by rw [v.1, h1]; grind
      exact_mod_cast this
    have k2 : qB S T * B = c * qN S T := by
      have : ((qB S T : Int) : Rat) * B = c * qN S T := by rw [v.2, h2]; grind
      exact_mod_cast this
    have nn := gNe_ln x y x y
    rw [decide_eq_true ⟨rfl, rfl⟩] at nn
    exact ⟨_, right5_turn d a c B (qA S T) (qB S T) (qN S T) fo du _ _ (lnD x y) (lnD S T) rfl rfl rfl his (law_is_side4_ok d hd S T bl (by omega) (by decide) ps) nn k1 k2 x5⟩
  obtain ⟨P, hP1, hP2, hP3⟩ : ∃ P : List (PD × PD), P.map (·.1) = (nhL N b' bs).map boD ∧ P.map (·.2) = L1 ++ (if a1 = 0 ∧ b1 = 0 then [] else [PyData.tuple [lnD ((b'.U : Rat) / N) ((b'.V : Rat) / N), .int a1, .int b1, .int B1]]) ∧ ∀ p ∈ P, RP d p.1 p.2 := by
    refine ⟨(if nS N b' bs = 0 ∧ nT N b' bs = 0 then [] else [(boD ⟨(b'.X : Rat) / N, (b'.Y : Rat) / N, nS N b' bs, nT N b' bs⟩, PyData.tuple [lnD ((b'.X : Rat) / N) ((b'.Y : Rat) / N), .int a0, .int b0, .int B0])]) ++ (if nS2 N b' bs = 0 ∧ nT2 N b' bs = 0 then [] else [(boD ⟨(b'.U : Rat) / N, (b'.V : Rat) / N, nS2 N b' bs, nT2 N b' bs⟩, PyData.tuple [lnD ((b'.U : Rat) / N) ((b'.V : Rat) / N), .int a1, .int b1, .int B1])]), ?_, ?_, ?_⟩
    · rw [nhL_eq, List.map_append, List.map_append]
      unfold nhB
      rw [map_if51, map_if51, map_if51, map_if51]
    · rw [List.map_append, map_if51, map_if51, hL1, List.nil_append]
      exact congr (congrArg HAppend.hAppend (if_iff51 (zer B0p v0 v0').symm _ _)) (if_iff51 (zer B1p v1 v1').symm _ _)
    · intro p hp
      rcases List.mem_append.mp hp with hp | hp
      · by_cases h : nS N b' bs = 0 ∧ nT N b' bs = 0
        · rw [if_pos h] at hp; cases hp
        · rw [if_neg h, List.mem_singleton] at hp
          subst hp
          exact rp B0p bB0 ba0 bb0 v0 v0' (by omega) q1 h is1
      · by_cases h : nS2 N b' bs = 0 ∧ nT2 N b' bs = 0
        · rw [if_pos h] at hp; cases hp
        · rw [if_neg h, List.mem_singleton] at hp
          subst hp
          exact rp B1p bB1 ba1 bb1 v1 v1' (by omega) q2 h is2
  have ri := right5_list d P hP3
  rw [hP1, hP2] at ri
  have bwH : ∀ b ∈ bs, BW b 3000 409 := fun b h => ⟨((hb3 b h).2.w.bl hD bD).mono (by omega) (Nat.le_refl _), ((hb3 b h).2.h.bl hD bD).mono (by omega) (Nat.le_refl _)⟩
  have bwF : ∀ b ∈ nhL N b' bs, BW b 3000 409 := fun x hx => by
    rw [nhL_eq] at hx
    rcases List.mem_append.mp hx with hx | hx
    · unfold nhB at hx
      by_cases h : nS N b' bs = 0 ∧ nT N b' bs = 0
      · rw [if_pos h] at hx; cases hx
      · rw [if_neg h, List.mem_singleton] at hx
        subst hx
        exact ⟨(o1.bl hN S'.bN).mono (by omega) (Nat.le_refl _), (q1.o.bl hD bD).mono (by omega) (Nat.le_refl _)⟩
    · unfold nhB at hx
      by_cases h : nS2 N b' bs = 0 ∧ nT2 N b' bs = 0
      · rw [if_pos h] at hx; cases hx
      · rw [if_neg h, List.mem_singleton] at hx
        subst hx
        exact ⟨(o2.bl hN S'.bN).mono (by omega) (Nat.le_refl _), (q2.o.bl hD bD).mono (by omega) (Nat.le_refl _)⟩
  have lnh : (nhL N b' bs).length ≤ 50 := by
    rw [nhL_eq, List.length_append]
    unfold nhB
    by_cases h : nS N b' bs = 0 ∧ nT N b' bs = 0 <;> by_cases h2 : nS2 N b' bs = 0 ∧ nT2 N b' bs = 0 <;> simp [h, h2]
  obtain ⟨bb, li, hbb⟩ := law_like_ok (by decide) (by decide) bs (nhL N b' bs) bwH bwF (by omega) (by omega)
  have hbt := hbb.mpr fun k => (nhL_sum S' (fun c h => h) k).symm
  subst hbt
  have ws := lc_wd le1_law_k51 [some (.d (.list (ns.map .int))), some (.d (.int d)), some (.d (.list (bs.map boD))), none, none, none, none, none, none, none] (fun x => ⟨_, put_m rfl, by simp +decide only [le1_law_k51, putAll, ev_seq, seq_nx, seq_rt, seq_ex, seq_bk, seq_ct, seq_ite, fl_okM, fl_ex, fl_ite, ev_set, kSet_ev, ev_ret, ev_nx, ev_raise, ev_if, kIf_ev, ev_par, kPar_ev, kId_ev, ev_asg, kAsg_ev, ev_forM, kFor_ev, ev_V, dVg_ok, ev_C, ev_1, ev_2, bind2_ok, bind2_ite1, bind2_ite2, bind_ite, ev_A, ev_nil, ev_cons, kCons_ev, ev_T, toB_ev, ev_and, ev_or, ev_not, kAnd_ev, kOr_ev, kNot_ev, ev_andV, ev_notV, kAndV_ev, kNotV_ev, tup_ev, lst_ev, call_ev, ev_fn, startE_0, startE_s, startE_c, fin_rt, fin_nx, fin_ex, fin_ite, ix_t0, ix_t1, ix_t2, ix_t3, ix_l0, ix_l1, ix_l2, len_l, len_t1, len_t2, len_t3, len_t4, beq_self_eq_true, ev_iL, ev_iT, asL_ev, asT_ev, ev_iAM, ev_P, toI_ev, ev_P0, ev_sl, kSl_ev, put_1, gAdd_i, gSub_i, gMul_i, gDiv_p, gMod_p, gPow_l, gShl_l, gShr_l, gLt_i, gLe_i, gGt_i, gGe_i, gEq_i, gNe_i, gAbs_i, gInt_i, gInt_b, gEq_s, gNe_s, gEq_b, gNe_b, gEq_2, gNe_2, gEq_3, gNe_3, gEq_22, gNe_22, bind_okM, DL.R.bind_ex, ev_setL, kSetL_ev, ev_lDisp, kDisp_ev, ev_lList, lOf_l, lOf_t, ev_frz, frz_l, frz_d, frz_n, ev_lend, lend_l, lend_d, atom_i, atom_b, atom_s, ev_lendB, lendB_l, lendB_d, ev_app, app_l, kApp_ev, ev_put, put_l, ev_ixO, ixO_l, ixO_d, put_m, putAll_c, putAll_n, ev_lc, kLst_ev, ev_lcL, wipe_n, wipe_c, r1_2, r1_3, bits_ev, List.getElem?_cons_zero, List.getElem?_cons_succ, List.set_cons_zero, List.set_cons_succ, List.length_cons, List.length_nil, List.length_map, List.append_nil, List.cons_append, List.nil_append, ev_if, turn_nx, turn_ct, turn_bk, turn_rt, turn_ite, kWh_ev, isi_int_int, isi_bool_int, isi_int_bool, isi_bool_bool, isi_int_str, isi_int_none, isi_int_list, isi_int_tup, isi_bool_str, isi_bool_none, isi_bool_list, isi_bool_tup, isi_tup_tup, isi_tup_int, isi_tup_bool, isi_tup_str, isi_tup_none, isi_tup_list, isi_list_list, isi_list_tup, isi_list_int, isi_list_bool, isi_list_str, isi_list_none, isi_str_str, isi_str_int, isi_str_bool, isi_str_none, isi_str_list, isi_str_tup, decide_true, decide_false, not_true_eq_false, not_false_eq_true, ne_eq, decide_eq_true_eq, Bool.not_eq_true', decide_eq_false_iff_not, Bool.not_true, Bool.not_false, Bool.false_eq_true, if_true, if_false, reduceIte, seq_rm, seq_rv, turn_rm, turn_rv, turn_ex, ev_retV, ev_vL, kVL_ev, frzV_l, ev_setV, kSetV_l, kSetV_o, oPut_ev, oPutO_o, oPutO_me, oOwn_o, oOwn_me, fOwn_ev, gCallV_ev, ev_AV, ev_fnV, finV_rv, ev_clr, kClr_l, ev_vlend, kVLend_l, sv_d, sv_l, sv_o, tpD_d, tpD_l, tpD_n]⟩) bs
  refine k51_fin _ c1 c2 _ (.list (bs.map boD)) (bqD N b) (bqD N b') _ _ d c z ns.length (bs.map boD) _ _ ((nhL N b' bs).map boD) y6 er s1 (by rw [len_l, List.length_map]) gm ga eh rfl (by rw [List.length_map]; omega) ws es ec ed' e1' gr el rfl nh du ri ?_ li nh2 (gEq_ly (k := 5) (fun v hv => by
    obtain ⟨b, _, rfl⟩ := List.mem_map.mp hv
    exact fyD_bo b) (by decide)) (cleanV_ev (noLst_bos _))
  exact gNe_ly (k := 5) (fun v hv => by
    obtain ⟨b, _, rfl⟩ := List.mem_map.mp hv
    exact fyD_bo b) (by decide)
end DL

set_option Elab.async false
set_option linter.all false
set_option maxRecDepth 100000
set_option maxHeartbeats 4000000
set_option autoImplicit false
namespace DL
section
open PySem L2
section
variable {P : Program} {w : World} {K : PySem.W.Frag} {mg : MG} {base : Heap} {h : Heap}
theorem ge_NoLength (KX : K.In h) (GN : h.Ns mainGlobals mg) (c : He.SaysX fa fn ts [] ex w h K) : ExAt K mg "NoLength" := ⟨_, He.glo_ok KX GN (c.t.d.fact 49 (f := .glo "NoLength") rfl), He.exc_ok (c.t.d.fact 50 (f := .exc "NoLength") rfl)⟩
theorem fo_is_whole (KX : K.In h) (GN : h.Ns mainGlobals mg) (c : He.SaysX fa fn ts [] ex w h K)  {fd : FuncData} (F : FunD K d_is_whole.name d_is_whole.qual d_is_whole.params d_is_whole.body d_is_whole.scope (d_is_whole.dvs K) (d_is_whole.kws K) (He.fAd K d_is_whole.at_) fd) : FnOk P w K mg base (L2.CX P w) 1 (He.fAd K d_is_whole.at_) fd ["thing"] (spD K mg 1 m_is_whole) := by
  have b_bool : mg "bool" = none := He.free_ok KX GN (c.t.d.fact 41 (f := .free "bool") rfl)
  have b_int : mg "int" = none := He.free_ok KX GN (c.t.d.fact 42 (f := .free "int") rfl)
  have b_isinstance : mg "isinstance" = none := He.free_ok KX GN (c.t.d.fact 43 (f := .free "isinstance") rfl)
  have S := sc_is_whole
  rw [mm_is_whole]
  have Z := okD (P := P) (w := w) (mg := mg) (base := base) (n := 1) (k := 0) (den := den_is_whole) F S rfl
  refine Z ?_
  intro cdv A outer s H E hr
  have tk : Takes (cxOf (L2.CX P w) P w K mg base ["thing"] "is_whole" (defScope s_is_whole) (He.fAd K d_is_whole.at_) cdv A outer s H E) (fun cls d _ H => E cls d H) := takes_of rfl rfl rfl rfl
  have hp : PassesOwn (model P w) (cxOf (L2.CX P w) P w K mg base ["thing"] "is_whole" (defScope s_is_whole) (He.fAd K d_is_whole.at_) cdv A outer s H E).A (cxOf (L2.CX P w) P w K mg base ["thing"] "is_whole" (defScope s_is_whole) (He.fAd K d_is_whole.at_) cdv A outer s H E).env (cxOf (L2.CX P w) P w K mg base ["thing"] "is_whole" (defScope s_is_whole) (He.fAd K d_is_whole.at_) cdv A outer s H E).xe := passes_of rfl
  exact sd_one (sd_ret (pe_dand (pd_isi (T := "int") b_isinstance b_int (by decide +kernel) (pd_v 0)) (pe_d1 (pe_dnot (pd_isi (T := "bool") b_isinstance b_bool (by decide +kernel) (pd_v 0))))))
theorem ok_is_whole (KX : K.In h) (GN : h.Ns mainGlobals mg) (c : He.SaysX fa fn ts [] ex w h K)  : FnAt P w K mg base "is_whole" 1 1 [[]] m_is_whole := by
  obtain ⟨fd, F⟩ := c.t.d.def_ 0 (d := d_is_whole) rfl
  refine ⟨_, fd, ["thing"], fo_is_whole KX GN c  F, He.glo_ok KX GN (c.t.d.fact 0 (f := .glo "is_whole") rfl), F.kp, ?_⟩
  · intro ds hd
    rw [List.mem_singleton] at hd
    subst hd
    exact ⟨[], [], FunD.bindsN F fun _ _ _ _ _ _ us hl => match us, hl with | [_], _ => rfl, .nil, fun _ => .nil⟩
theorem fo_divisor (KX : K.In h) (GN : h.Ns mainGlobals mg) (c : He.SaysX fa fn ts [] ex w h K)  {fd : FuncData} (F : FunD K d_divisor.name d_divisor.qual d_divisor.params d_divisor.body d_divisor.scope (d_divisor.dvs K) (d_divisor.kws K) (He.fAd K d_divisor.at_) fd) : FnOk P w K mg base (L2.CX P w) 1 (He.fAd K d_divisor.at_) fd ["one", "other"] (spD K mg 2 m_divisor) := by
  have b_abs : mg "abs" = none := He.free_ok KX GN (c.t.d.fact 40 (f := .free "abs") rfl)
  have S := sc_divisor
  rw [mm_divisor]
  have Z := okD (P := P) (w := w) (mg := mg) (base := base) (n := 2) (k := 0) (den := den_divisor) F S rfl
  refine Z ?_
  intro cdv A outer s H E hr
  have tk : Takes (cxOf (L2.CX P w) P w K mg base ["one", "other"] "divisor" (defScope s_divisor) (He.fAd K d_divisor.at_) cdv A outer s H E) (fun cls d _ H => E cls d H) := takes_of rfl rfl rfl rfl
  have hp : PassesOwn (model P w) (cxOf (L2.CX P w) P w K mg base ["one", "other"] "divisor" (defScope s_divisor) (He.fAd K d_divisor.at_) cdv A outer s H E).A (cxOf (L2.CX P w) P w K mg base ["one", "other"] "divisor" (defScope s_divisor) (He.fAd K d_divisor.at_) cdv A outer s H E).env (cxOf (L2.CX P w) P w K mg base ["one", "other"] "divisor" (defScope s_divisor) (He.fAd K d_divisor.at_) cdv A outer s H E).xe := passes_of rfl
  exact sd_cons (sd_while hp (pt_cmpd (od_ne hr.units) noEx_ne (pd_v 1) (pd_int)) (sd_one (sd_par 0 1 rfl S.nd rfl rfl (by decide) rfl rfl (pd_v 1) (pd_bin od_mod noEx_mod (pd_v 0) (pd_v 1)) rfl))) (sd_one (sd_ret (pd_b cd_abs nx_abs b_abs (by decide +kernel) (pad_cons (pd_v 0) (pad_nil)))))
theorem ok_divisor (KX : K.In h) (GN : h.Ns mainGlobals mg) (c : He.SaysX fa fn ts [] ex w h K)  : FnAt P w K mg base "divisor" 1 2 [[]] m_divisor := by
  obtain ⟨fd, F⟩ := c.t.d.def_ 1 (d := d_divisor) rfl
  refine ⟨_, fd, ["one", "other"], fo_divisor KX GN c  F, He.glo_ok KX GN (c.t.d.fact 1 (f := .glo "divisor") rfl), F.kp, ?_⟩
  · intro ds hd
    rw [List.mem_singleton] at hd
    subst hd
    exact ⟨[], [], FunD.bindsN F fun _ _ _ _ _ _ us hl => match us, hl with | [_, _], _ => rfl, .nil, fun _ => .nil⟩
theorem fo_lowest (KX : K.In h) (GN : h.Ns mainGlobals mg) (c : He.SaysX fa fn ts [] ex w h K) (F_divisor : FnAt P w K mg base "divisor" 1 2 [[]] m_divisor) {fd : FuncData} (F : FunD K d_lowest.name d_lowest.qual d_lowest.params d_lowest.body d_lowest.scope (d_lowest.dvs K) (d_lowest.kws K) (He.fAd K d_lowest.at_) fd) : FnOk P w K mg base (L2.CX P w) 2 (He.fAd K d_lowest.at_) fd ["a", "b", "n"] (spD K mg 3 m_lowest) := by
  have S := sc_lowest
  rw [mm_lowest]
  have Z := okD (P := P) (w := w) (mg := mg) (base := base) (n := 3) (k := 1) (den := den_lowest) F S rfl
  refine Z ?_
  intro cdv A outer s H E hr
  have tk : Takes (cxOf (L2.CX P w) P w K mg base ["a", "b", "n", "share"] "lowest" (defScope s_lowest) (He.fAd K d_lowest.at_) cdv A outer s H E) (fun cls d _ H => E cls d H) := takes_of rfl rfl rfl rfl
  have hp : PassesOwn (model P w) (cxOf (L2.CX P w) P w K mg base ["a", "b", "n", "share"] "lowest" (defScope s_lowest) (He.fAd K d_lowest.at_) cdv A outer s H E).A (cxOf (L2.CX P w) P w K mg base ["a", "b", "n", "share"] "lowest" (defScope s_lowest) (He.fAd K d_lowest.at_) cdv A outer s H E).env (cxOf (L2.CX P w) P w K mg base ["a", "b", "n", "share"] "lowest" (defScope s_lowest) (He.fAd K d_lowest.at_) cdv A outer s H E).xe := passes_of rfl
  exact sd_cons (sd_set 3 S.nd rfl (.inl rfl) (pd_call F_divisor mem0 (hr.mono (by decide)) tk rfl (pad_cons (pd_call F_divisor mem0 (hr.mono (by decide)) tk rfl (pad_cons (pd_v 0) (pad_cons (pd_v 1) (pad_nil)))) (pad_cons (pd_v 2) (pad_nil))))) (sd_cons (sd_if (pt_cmpd od_lt noEx_cI (pd_v 2) (pd_int)) (sd_one (sd_set 3 S.nd rfl (.inl rfl) (pd_bin od_sub noEx_sub (pd_int) (pd_v 3)))) (sd_nil)) (sd_one (sd_ret (pd_tup (pad_cons (pd_bin od_div noEx_div (pd_v 0) (pd_v 3)) (pad_cons (pd_bin od_div noEx_div (pd_v 1) (pd_v 3)) (pad_cons (pd_bin od_div noEx_div (pd_v 2) (pd_v 3)) (pad_nil))))))))
theorem ok_lowest (KX : K.In h) (GN : h.Ns mainGlobals mg) (c : He.SaysX fa fn ts [] ex w h K) (F_divisor : FnAt P w K mg base "divisor" 1 2 [[]] m_divisor) : FnAt P w K mg base "lowest" 2 3 [[]] m_lowest := by
  obtain ⟨fd, F⟩ := c.t.d.def_ 2 (d := d_lowest) rfl
  refine ⟨_, fd, ["a", "b", "n"], fo_lowest KX GN c F_divisor F, He.glo_ok KX GN (c.t.d.fact 2 (f := .glo "lowest") rfl), F.kp, ?_⟩
  · intro ds hd
    rw [List.mem_singleton] at hd
    subst hd
    exact ⟨[], [], FunD.bindsN F fun _ _ _ _ _ _ us hl => match us, hl with | [_, _, _], _ => rfl, .nil, fun _ => .nil⟩
theorem fo_length (KX : K.In h) (GN : h.Ns mainGlobals mg) (c : He.SaysX fa fn ts [] ex w h K) (F_lowest : FnAt P w K mg base "lowest" 2 3 [[]] m_lowest) (F_is_whole : FnAt P w K mg base "is_whole" 1 1 [[]] m_is_whole) {fd : FuncData} (F : FunD K d_length.name d_length.qual d_length.params d_length.body d_length.scope (d_length.dvs K) (d_length.kws K) (He.fAd K d_length.at_) fd) : FnOk P w K mg base (L2.CX P w) 3 (He.fAd K d_length.at_) fd ["a", "b", "n"] (spD K mg 3 m_length) := by
  have e_NoLength := ge_NoLength (mg := mg) KX GN c
  have S := sc_length
  rw [mm_length]
  have Z := okD (P := P) (w := w) (mg := mg) (base := base) (n := 3) (k := 2) (den := den_length) F S rfl
  refine Z ?_
  intro cdv A outer s H E hr
  have tk : Takes (cxOf (L2.CX P w) P w K mg base ["a", "b", "n"] "length" (defScope s_length) (He.fAd K d_length.at_) cdv A outer s H E) (fun cls d _ H => E cls d H) := takes_of rfl rfl rfl rfl
  have hp : PassesOwn (model P w) (cxOf (L2.CX P w) P w K mg base ["a", "b", "n"] "length" (defScope s_length) (He.fAd K d_length.at_) cdv A outer s H E).A (cxOf (L2.CX P w) P w K mg base ["a", "b", "n"] "length" (defScope s_length) (He.fAd K d_length.at_) cdv A outer s H E).env (cxOf (L2.CX P w) P w K mg base ["a", "b", "n"] "length" (defScope s_length) (He.fAd K d_length.at_) cdv A outer s H E).xe := passes_of rfl
  exact sd_cons (sd_if (PW.pt (pw_dor (pt_dnot (pt_d (pd_call F_is_whole mem0 (hr.mono (by decide)) tk rfl (pad_cons (pd_v 0) (pad_nil))))) (pw_dor (pt_dnot (pt_d (pd_call F_is_whole mem0 (hr.mono (by decide)) tk rfl (pad_cons (pd_v 1) (pad_nil))))) (pw_dor (pt_dnot (pt_d (pd_call F_is_whole mem0 (hr.mono (by decide)) tk rfl (pad_cons (pd_v 2) (pad_nil))))) (pw_o1 (pt_cmpd (od_eq hr.units) noEx_eq (pd_v 2) (pd_int))))))) (sd_one (sd_raise rfl tk e_NoLength)) (sd_nil)) (sd_one (sd_ret (pd_call F_lowest mem0 (hr.mono (by decide)) tk rfl (pad_cons (pd_v 0) (pad_cons (pd_v 1) (pad_cons (pd_v 2) (pad_nil)))))))
theorem ok_length (KX : K.In h) (GN : h.Ns mainGlobals mg) (c : He.SaysX fa fn ts [] ex w h K) (F_lowest : FnAt P w K mg base "lowest" 2 3 [[]] m_lowest) (F_is_whole : FnAt P w K mg base "is_whole" 1 1 [[]] m_is_whole) : FnAt P w K mg base "length" 3 3 [[], [(.int 1)], [(.int 0), (.int 1)]] m_length := by
  obtain ⟨fd, F⟩ := c.t.d.def_ 3 (d := d_length) rfl
  refine ⟨_, fd, ["a", "b", "n"], fo_length KX GN c F_lowest F_is_whole F, He.glo_ok KX GN (c.t.d.fact 3 (f := .glo "length") rfl), F.kp, ?_⟩
  · intro ds hd
    simp only [List.mem_cons, List.not_mem_nil, or_false] at hd
    rcases hd with rfl | rfl | rfl
    · obtain ⟨us, hv, hb⟩ := FunD.binds1 (ps := ["a", "b", "n"]) F 3 2 (by intro z; cases z) rfl fun T kV doc pm an cdv ct us its h1 h2 => match us, its, h1, h2 with | [_, _, _], [_, _], _, _ => ⟨_, rfl, rfl⟩
      exact ⟨us, _, hb, hv, fun S => .nil⟩
    · obtain ⟨us, hv, hb⟩ := FunD.binds1 (ps := ["a", "b", "n"]) F 2 1 (by intro z; cases z) rfl fun T kV doc pm an cdv ct us its h1 h2 => match us, its, h1, h2 with | [_, _], [_, _], _, _ => ⟨_, rfl, rfl⟩
      exact ⟨us, _, hb, hv, fun S => .cons (.int _) (.nil)⟩
    · obtain ⟨us, hv, hb⟩ := FunD.binds1 (ps := ["a", "b", "n"]) F 1 0 (by intro z; cases z) rfl fun T kV doc pm an cdv ct us its h1 h2 => match us, its, h1, h2 with | [_], [_, _], _, _ => ⟨_, rfl, rfl⟩
      exact ⟨us, _, hb, hv, fun S => .cons (.int _) (.cons (.int _) (.nil))⟩
theorem fo_added (KX : K.In h) (GN : h.Ns mainGlobals mg) (c : He.SaysX fa fn ts [] ex w h K) (F_lowest : FnAt P w K mg base "lowest" 2 3 [[]] m_lowest) {fd : FuncData} (F : FunD K d_added.name d_added.qual d_added.params d_added.body d_added.scope (d_added.dvs K) (d_added.kws K) (He.fAd K d_added.at_) fd) : FnOk P w K mg base (L2.CX P w) 3 (He.fAd K d_added.at_) fd ["one", "other"] (spD K mg 2 m_added) := by
  have S := sc_added
  rw [mm_added]
  have Z := okD (P := P) (w := w) (mg := mg) (base := base) (n := 2) (k := 2) (den := den_added) F S rfl
  refine Z ?_
  intro cdv A outer s H E hr
  have tk : Takes (cxOf (L2.CX P w) P w K mg base ["one", "other", "bottom"] "added" (defScope s_added) (He.fAd K d_added.at_) cdv A outer s H E) (fun cls d _ H => E cls d H) := takes_of rfl rfl rfl rfl
  have hp : PassesOwn (model P w) (cxOf (L2.CX P w) P w K mg base ["one", "other", "bottom"] "added" (defScope s_added) (He.fAd K d_added.at_) cdv A outer s H E).A (cxOf (L2.CX P w) P w K mg base ["one", "other", "bottom"] "added" (defScope s_added) (He.fAd K d_added.at_) cdv A outer s H E).env (cxOf (L2.CX P w) P w K mg base ["one", "other", "bottom"] "added" (defScope s_added) (He.fAd K d_added.at_) cdv A outer s H E).xe := passes_of rfl
  exact sd_cons (sd_set 2 S.nd rfl (.inl rfl) (pd_bin od_mul noEx_mul (pd_ix (pd_v 0) (pd_int)) (pd_ix (pd_v 1) (pd_int)))) (sd_one (sd_ret (pd_call F_lowest mem0 (hr.mono (by decide)) tk rfl (pad_cons (pd_bin od_add noEx_add (pd_bin od_mul noEx_mul (pd_ix (pd_v 0) (pd_int)) (pd_ix (pd_v 1) (pd_int))) (pd_bin od_mul noEx_mul (pd_ix (pd_v 1) (pd_int)) (pd_ix (pd_v 0) (pd_int)))) (pad_cons (pd_bin od_add noEx_add (pd_bin od_mul noEx_mul (pd_ix (pd_v 0) (pd_int)) (pd_ix (pd_v 1) (pd_int))) (pd_bin od_mul noEx_mul (pd_ix (pd_v 1) (pd_int)) (pd_ix (pd_v 0) (pd_int)))) (pad_cons (pd_v 2) (pad_nil)))))))
theorem ok_added (KX : K.In h) (GN : h.Ns mainGlobals mg) (c : He.SaysX fa fn ts [] ex w h K) (F_lowest : FnAt P w K mg base "lowest" 2 3 [[]] m_lowest) : FnAt P w K mg base "added" 3 2 [[]] m_added := by
  obtain ⟨fd, F⟩ := c.t.d.def_ 4 (d := d_added) rfl
  refine ⟨_, fd, ["one", "other"], fo_added KX GN c F_lowest F, He.glo_ok KX GN (c.t.d.fact 4 (f := .glo "added") rfl), F.kp, ?_⟩
  · intro ds hd
    rw [List.mem_singleton] at hd
    subst hd
    exact ⟨[], [], FunD.bindsN F fun _ _ _ _ _ _ us hl => match us, hl with | [_, _], _ => rfl, .nil, fun _ => .nil⟩
theorem fo_taken (KX : K.In h) (GN : h.Ns mainGlobals mg) (c : He.SaysX fa fn ts [] ex w h K) (F_added : FnAt P w K mg base "added" 3 2 [[]] m_added) {fd : FuncData} (F : FunD K d_taken.name d_taken.qual d_taken.params d_taken.body d_taken.scope (d_taken.dvs K) (d_taken.kws K) (He.fAd K d_taken.at_) fd) : FnOk P w K mg base (L2.CX P w) 4 (He.fAd K d_taken.at_) fd ["one", "other"] (spD K mg 2 m_taken) := by
  have S := sc_taken
  rw [mm_taken]
  have Z := okD (P := P) (w := w) (mg := mg) (base := base) (n := 2) (k := 3) (den := den_taken) F S rfl
  refine Z ?_
  intro cdv A outer s H E hr
  have tk : Takes (cxOf (L2.CX P w) P w K mg base ["one", "other"] "taken" (defScope s_taken) (He.fAd K d_taken.at_) cdv A outer s H E) (fun cls d _ H => E cls d H) := takes_of rfl rfl rfl rfl
  have hp : PassesOwn (model P w) (cxOf (L2.CX P w) P w K mg base ["one", "other"] "taken" (defScope s_taken) (He.fAd K d_taken.at_) cdv A outer s H E).A (cxOf (L2.CX P w) P w K mg base ["one", "other"] "taken" (defScope s_taken) (He.fAd K d_taken.at_) cdv A outer s H E).env (cxOf (L2.CX P w) P w K mg base ["one", "other"] "taken" (defScope s_taken) (He.fAd K d_taken.at_) cdv A outer s H E).xe := passes_of rfl
  exact sd_one (sd_ret (pd_call F_added mem0 (hr.mono (by decide)) tk rfl (pad_cons (pd_v 0) (pad_cons (pd_tup (pad_cons (pd_bin od_sub noEx_sub (pd_int) (pd_ix (pd_v 1) (pd_int))) (pad_cons (pd_bin od_sub noEx_sub (pd_int) (pd_ix (pd_v 1) (pd_int))) (pad_cons (pd_ix (pd_v 1) (pd_int)) (pad_nil))))) (pad_nil)))))
theorem ok_taken (KX : K.In h) (GN : h.Ns mainGlobals mg) (c : He.SaysX fa fn ts [] ex w h K) (F_added : FnAt P w K mg base "added" 3 2 [[]] m_added) : FnAt P w K mg base "taken" 4 2 [[]] m_taken := by
  obtain ⟨fd, F⟩ := c.t.d.def_ 5 (d := d_taken) rfl
  refine ⟨_, fd, ["one", "other"], fo_taken KX GN c F_added F, He.glo_ok KX GN (c.t.d.fact 5 (f := .glo "taken") rfl), F.kp, ?_⟩
  · intro ds hd
    rw [List.mem_singleton] at hd
    subst hd
    exact ⟨[], [], FunD.bindsN F fun _ _ _ _ _ _ us hl => match us, hl with | [_, _], _ => rfl, .nil, fun _ => .nil⟩
theorem fo_timed (KX : K.In h) (GN : h.Ns mainGlobals mg) (c : He.SaysX fa fn ts [] ex w h K) (F_lowest : FnAt P w K mg base "lowest" 2 3 [[]] m_lowest) {fd : FuncData} (F : FunD K d_timed.name d_timed.qual d_timed.params d_timed.body d_timed.scope (d_timed.dvs K) (d_timed.kws K) (He.fAd K d_timed.at_) fd) : FnOk P w K mg base (L2.CX P w) 3 (He.fAd K d_timed.at_) fd ["d", "one", "other"] (spD K mg 3 m_timed) := by
  have S := sc_timed
  rw [mm_timed]
  have Z := okD (P := P) (w := w) (mg := mg) (base := base) (n := 3) (k := 2) (den := den_timed) F S rfl
  refine Z ?_
  intro cdv A outer s H E hr
  have tk : Takes (cxOf (L2.CX P w) P w K mg base ["d", "one", "other", "whole"] "timed" (defScope s_timed) (He.fAd K d_timed.at_) cdv A outer s H E) (fun cls d _ H => E cls d H) := takes_of rfl rfl rfl rfl
  have hp : PassesOwn (model P w) (cxOf (L2.CX P w) P w K mg base ["d", "one", "other", "whole"] "timed" (defScope s_timed) (He.fAd K d_timed.at_) cdv A outer s H E).A (cxOf (L2.CX P w) P w K mg base ["d", "one", "other", "whole"] "timed" (defScope s_timed) (He.fAd K d_timed.at_) cdv A outer s H E).env (cxOf (L2.CX P w) P w K mg base ["d", "one", "other", "whole"] "timed" (defScope s_timed) (He.fAd K d_timed.at_) cdv A outer s H E).xe := passes_of rfl
  exact sd_cons (sd_set 3 S.nd rfl (.inl rfl) (pd_bin od_add noEx_add (pd_bin od_mul noEx_mul (pd_ix (pd_v 1) (pd_int)) (pd_ix (pd_v 2) (pd_int))) (pd_bin od_mul noEx_mul (pd_bin od_mul noEx_mul (pd_v 0) (pd_ix (pd_v 1) (pd_int))) (pd_ix (pd_v 2) (pd_int))))) (sd_one (sd_ret (pd_call F_lowest mem0 (hr.mono (by decide)) tk rfl (pad_cons (pd_v 3) (pad_cons (pd_bin od_add noEx_add (pd_bin od_mul noEx_mul (pd_ix (pd_v 1) (pd_int)) (pd_ix (pd_v 2) (pd_int))) (pd_bin od_mul noEx_mul (pd_ix (pd_v 1) (pd_int)) (pd_ix (pd_v 2) (pd_int)))) (pad_cons (pd_bin od_mul noEx_mul (pd_ix (pd_v 1) (pd_int)) (pd_ix (pd_v 2) (pd_int))) (pad_nil)))))))
theorem ok_timed (KX : K.In h) (GN : h.Ns mainGlobals mg) (c : He.SaysX fa fn ts [] ex w h K) (F_lowest : FnAt P w K mg base "lowest" 2 3 [[]] m_lowest) : FnAt P w K mg base "timed" 3 3 [[]] m_timed := by
  obtain ⟨fd, F⟩ := c.t.d.def_ 6 (d := d_timed) rfl
  refine ⟨_, fd, ["d", "one", "other"], fo_timed KX GN c F_lowest F, He.glo_ok KX GN (c.t.d.fact 6 (f := .glo "timed") rfl), F.kp, ?_⟩
  · intro ds hd
    rw [List.mem_singleton] at hd
    subst hd
    exact ⟨[], [], FunD.bindsN F fun _ _ _ _ _ _ us hl => match us, hl with | [_, _, _], _ => rfl, .nil, fun _ => .nil⟩
theorem fo_sign_of (KX : K.In h) (GN : h.Ns mainGlobals mg) (c : He.SaysX fa fn ts [] ex w h K)  {fd : FuncData} (F : FunD K d_sign_of.name d_sign_of.qual d_sign_of.params d_sign_of.body d_sign_of.scope (d_sign_of.dvs K) (d_sign_of.kws K) (He.fAd K d_sign_of.at_) fd) : FnOk P w K mg base (L2.CX P w) 1 (He.fAd K d_sign_of.at_) fd ["d", "a", "b"] (spD K mg 3 m_sign_of) := by
  have S := sc_sign_of
  rw [mm_sign_of]
  have Z := okD (P := P) (w := w) (mg := mg) (base := base) (n := 3) (k := 0) (den := den_sign_of) F S rfl
  refine Z ?_
  intro cdv A outer s H E hr
  have tk : Takes (cxOf (L2.CX P w) P w K mg base ["d", "a", "b"] "sign_of" (defScope s_sign_of) (He.fAd K d_sign_of.at_) cdv A outer s H E) (fun cls d _ H => E cls d H) := takes_of rfl rfl rfl rfl
  have hp : PassesOwn (model P w) (cxOf (L2.CX P w) P w K mg base ["d", "a", "b"] "sign_of" (defScope s_sign_of) (He.fAd K d_sign_of.at_) cdv A outer s H E).A (cxOf (L2.CX P w) P w K mg base ["d", "a", "b"] "sign_of" (defScope s_sign_of) (He.fAd K d_sign_of.at_) cdv A outer s H E).env (cxOf (L2.CX P w) P w K mg base ["d", "a", "b"] "sign_of" (defScope s_sign_of) (He.fAd K d_sign_of.at_) cdv A outer s H E).xe := passes_of rfl
  exact sd_cons (sd_if (PW.pt (pw_dor (pt_cmpd (od_eq hr.units) noEx_eq (pd_v 1) (pd_int)) (pw_dor (pt_cmpd (od_eq hr.units) noEx_eq (pd_v 2) (pd_int)) (pw_o1 (pt_cmpd (od_eq hr.units) noEx_eq (pd_cmp od_gt noEx_cI (pd_v 1) (pd_int)) (pd_cmp od_gt noEx_cI (pd_v 2) (pd_int))))))) (sd_one (sd_ret (pd_bin od_add noEx_add (pd_v 1) (pd_v 2)))) (sd_nil)) (sd_cons (sd_if (pt_cmpd od_gt noEx_cI (pd_v 1) (pd_int)) (sd_one (sd_ret (pd_bin od_sub noEx_sub (pd_bin od_mul noEx_mul (pd_v 1) (pd_v 1)) (pd_bin od_mul noEx_mul (pd_bin od_mul noEx_mul (pd_v 0) (pd_v 2)) (pd_v 2))))) (sd_nil)) (sd_one (sd_ret (pd_bin od_sub noEx_sub (pd_bin od_mul noEx_mul (pd_bin od_mul noEx_mul (pd_v 0) (pd_v 2)) (pd_v 2)) (pd_bin od_mul noEx_mul (pd_v 1) (pd_v 1))))))
theorem ok_sign_of (KX : K.In h) (GN : h.Ns mainGlobals mg) (c : He.SaysX fa fn ts [] ex w h K)  : FnAt P w K mg base "sign_of" 1 3 [[]] m_sign_of := by
  obtain ⟨fd, F⟩ := c.t.d.def_ 7 (d := d_sign_of) rfl
  refine ⟨_, fd, ["d", "a", "b"], fo_sign_of KX GN c  F, He.glo_ok KX GN (c.t.d.fact 7 (f := .glo "sign_of") rfl), F.kp, ?_⟩
  · intro ds hd
    rw [List.mem_singleton] at hd
    subst hd
    exact ⟨[], [], FunD.bindsN F fun _ _ _ _ _ _ us hl => match us, hl with | [_, _, _], _ => rfl, .nil, fun _ => .nil⟩
theorem fo_under (KX : K.In h) (GN : h.Ns mainGlobals mg) (c : He.SaysX fa fn ts [] ex w h K) (F_taken : FnAt P w K mg base "taken" 4 2 [[]] m_taken) (F_sign_of : FnAt P w K mg base "sign_of" 1 3 [[]] m_sign_of) {fd : FuncData} (F : FunD K d_under.name d_under.qual d_under.params d_under.body d_under.scope (d_under.dvs K) (d_under.kws K) (He.fAd K d_under.at_) fd) : FnOk P w K mg base (L2.CX P w) 5 (He.fAd K d_under.at_) fd ["d", "one", "other"] (spD K mg 3 m_under) := by
  have S := sc_under
  rw [mm_under]
  have Z := okD (P := P) (w := w) (mg := mg) (base := base) (n := 3) (k := 4) (den := den_under) F S rfl
  refine Z ?_
  intro cdv A outer s H E hr
  have tk : Takes (cxOf (L2.CX P w) P w K mg base ["d", "one", "other", "left"] "under" (defScope s_under) (He.fAd K d_under.at_) cdv A outer s H E) (fun cls d _ H => E cls d H) := takes_of rfl rfl rfl rfl
  have hp : PassesOwn (model P w) (cxOf (L2.CX P w) P w K mg base ["d", "one", "other", "left"] "under" (defScope s_under) (He.fAd K d_under.at_) cdv A outer s H E).A (cxOf (L2.CX P w) P w K mg base ["d", "one", "other", "left"] "under" (defScope s_under) (He.fAd K d_under.at_) cdv A outer s H E).env (cxOf (L2.CX P w) P w K mg base ["d", "one", "other", "left"] "under" (defScope s_under) (He.fAd K d_under.at_) cdv A outer s H E).xe := passes_of rfl
  exact sd_cons (sd_set 3 S.nd rfl (.inl rfl) (pd_call F_taken mem0 (hr.mono (by decide)) tk rfl (pad_cons (pd_v 1) (pad_cons (pd_v 2) (pad_nil))))) (sd_one (sd_ret (pd_cmp od_lt noEx_cI (pd_call F_sign_of mem0 (hr.mono (by decide)) tk rfl (pad_cons (pd_v 0) (pad_cons (pd_ix (pd_v 3) (pd_int)) (pad_cons (pd_ix (pd_v 3) (pd_int)) (pad_nil))))) (pd_int))))
theorem ok_under (KX : K.In h) (GN : h.Ns mainGlobals mg) (c : He.SaysX fa fn ts [] ex w h K) (F_taken : FnAt P w K mg base "taken" 4 2 [[]] m_taken) (F_sign_of : FnAt P w K mg base "sign_of" 1 3 [[]] m_sign_of) : FnAt P w K mg base "under" 5 3 [[]] m_under := by
  obtain ⟨fd, F⟩ := c.t.d.def_ 8 (d := d_under) rfl
  refine ⟨_, fd, ["d", "one", "other"], fo_under KX GN c F_taken F_sign_of F, He.glo_ok KX GN (c.t.d.fact 8 (f := .glo "under") rfl), F.kp, ?_⟩
  · intro ds hd
    rw [List.mem_singleton] at hd
    subst hd
    exact ⟨[], [], FunD.bindsN F fun _ _ _ _ _ _ us hl => match us, hl with | [_, _, _], _ => rfl, .nil, fun _ => .nil⟩
theorem fo_fraction (KX : K.In h) (GN : h.Ns mainGlobals mg) (c : He.SaysX fa fn ts [] ex w h K) (F_divisor : FnAt P w K mg base "divisor" 1 2 [[]] m_divisor) {fd : FuncData} (F : FunD K d_fraction.name d_fraction.qual d_fraction.params d_fraction.body d_fraction.scope (d_fraction.dvs K) (d_fraction.kws K) (He.fAd K d_fraction.at_) fd) : FnOk P w K mg base (L2.CX P w) 2 (He.fAd K d_fraction.at_) fd ["top", "bottom"] (spD K mg 2 m_fraction) := by
  have S := sc_fraction
  rw [mm_fraction]
  have Z := okD (P := P) (w := w) (mg := mg) (base := base) (n := 2) (k := 1) (den := den_fraction) F S rfl
  refine Z ?_
  intro cdv A outer s H E hr
  have tk : Takes (cxOf (L2.CX P w) P w K mg base ["top", "bottom", "share"] "fraction" (defScope s_fraction) (He.fAd K d_fraction.at_) cdv A outer s H E) (fun cls d _ H => E cls d H) := takes_of rfl rfl rfl rfl
  have hp : PassesOwn (model P w) (cxOf (L2.CX P w) P w K mg base ["top", "bottom", "share"] "fraction" (defScope s_fraction) (He.fAd K d_fraction.at_) cdv A outer s H E).A (cxOf (L2.CX P w) P w K mg base ["top", "bottom", "share"] "fraction" (defScope s_fraction) (He.fAd K d_fraction.at_) cdv A outer s H E).env (cxOf (L2.CX P w) P w K mg base ["top", "bottom", "share"] "fraction" (defScope s_fraction) (He.fAd K d_fraction.at_) cdv A outer s H E).xe := passes_of rfl
  exact sd_cons (sd_set 2 S.nd rfl (.inl rfl) (pd_call F_divisor mem0 (hr.mono (by decide)) tk rfl (pad_cons (pd_v 0) (pad_cons (pd_v 1) (pad_nil))))) (sd_cons (sd_if (pt_cmpd od_lt noEx_cI (pd_v 1) (pd_int)) (sd_one (sd_set 2 S.nd rfl (.inl rfl) (pd_bin od_sub noEx_sub (pd_int) (pd_v 2)))) (sd_nil)) (sd_one (sd_ret (pd_tup (pad_cons (pd_bin od_div noEx_div (pd_v 0) (pd_v 2)) (pad_cons (pd_bin od_div noEx_div (pd_v 1) (pd_v 2)) (pad_nil)))))))
theorem ok_fraction (KX : K.In h) (GN : h.Ns mainGlobals mg) (c : He.SaysX fa fn ts [] ex w h K) (F_divisor : FnAt P w K mg base "divisor" 1 2 [[]] m_divisor) : FnAt P w K mg base "fraction" 2 2 [[], [(.int 1)]] m_fraction := by
  obtain ⟨fd, F⟩ := c.t.d.def_ 9 (d := d_fraction) rfl
  refine ⟨_, fd, ["top", "bottom"], fo_fraction KX GN c F_divisor F, He.glo_ok KX GN (c.t.d.fact 9 (f := .glo "fraction") rfl), F.kp, ?_⟩
  · intro ds hd
    simp only [List.mem_cons, List.not_mem_nil, or_false] at hd
    rcases hd with rfl | rfl
    · obtain ⟨us, hv, hb⟩ := FunD.binds1 (ps := ["top", "bottom"]) F 2 1 (by intro z; cases z) rfl fun T kV doc pm an cdv ct us its h1 h2 => match us, its, h1, h2 with | [_, _], [_], _, _ => ⟨_, rfl, rfl⟩
      exact ⟨us, _, hb, hv, fun S => .nil⟩
    · obtain ⟨us, hv, hb⟩ := FunD.binds1 (ps := ["top", "bottom"]) F 1 0 (by intro z; cases z) rfl fun T kV doc pm an cdv ct us its h1 h2 => match us, its, h1, h2 with | [_], [_], _, _ => ⟨_, rfl, rfl⟩
      exact ⟨us, _, hb, hv, fun S => .cons (.int _) (.nil)⟩
theorem fo_parts (KX : K.In h) (GN : h.Ns mainGlobals mg) (c : He.SaysX fa fn ts [] ex w h K) (F_fraction : FnAt P w K mg base "fraction" 2 2 [[], [(.int 1)]] m_fraction) {fd : FuncData} (F : FunD K d_parts.name d_parts.qual d_parts.params d_parts.body d_parts.scope (d_parts.dvs K) (d_parts.kws K) (He.fAd K d_parts.at_) fd) : FnOk P w K mg base (L2.CX P w) 3 (He.fAd K d_parts.at_) fd ["one"] (spD K mg 1 m_parts) := by
  have S := sc_parts
  rw [mm_parts]
  have Z := okD (P := P) (w := w) (mg := mg) (base := base) (n := 1) (k := 2) (den := den_parts) F S rfl
  refine Z ?_
  intro cdv A outer s H E hr
  have tk : Takes (cxOf (L2.CX P w) P w K mg base ["one"] "parts" (defScope s_parts) (He.fAd K d_parts.at_) cdv A outer s H E) (fun cls d _ H => E cls d H) := takes_of rfl rfl rfl rfl
  have hp : PassesOwn (model P w) (cxOf (L2.CX P w) P w K mg base ["one"] "parts" (defScope s_parts) (He.fAd K d_parts.at_) cdv A outer s H E).A (cxOf (L2.CX P w) P w K mg base ["one"] "parts" (defScope s_parts) (He.fAd K d_parts.at_) cdv A outer s H E).env (cxOf (L2.CX P w) P w K mg base ["one"] "parts" (defScope s_parts) (He.fAd K d_parts.at_) cdv A outer s H E).xe := passes_of rfl
  exact sd_one (sd_ret (pd_tup (pad_cons (pd_call F_fraction mem0 (hr.mono (by decide)) tk rfl (pad_cons (pd_ix (pd_v 0) (pd_int)) (pad_cons (pd_ix (pd_v 0) (pd_int)) (pad_nil)))) (pad_cons (pd_call F_fraction mem0 (hr.mono (by decide)) tk rfl (pad_cons (pd_ix (pd_v 0) (pd_int)) (pad_cons (pd_ix (pd_v 0) (pd_int)) (pad_nil)))) (pad_nil)))))
theorem ok_parts (KX : K.In h) (GN : h.Ns mainGlobals mg) (c : He.SaysX fa fn ts [] ex w h K) (F_fraction : FnAt P w K mg base "fraction" 2 2 [[], [(.int 1)]] m_fraction) : FnAt P w K mg base "parts" 3 1 [[]] m_parts := by
  obtain ⟨fd, F⟩ := c.t.d.def_ 10 (d := d_parts) rfl
  refine ⟨_, fd, ["one"], fo_parts KX GN c F_fraction F, He.glo_ok KX GN (c.t.d.fact 10 (f := .glo "parts") rfl), F.kp, ?_⟩
  · intro ds hd
    rw [List.mem_singleton] at hd
    subst hd
    exact ⟨[], [], FunD.bindsN F fun _ _ _ _ _ _ us hl => match us, hl with | [_], _ => rfl, .nil, fun _ => .nil⟩
theorem fo_by_parts (KX : K.In h) (GN : h.Ns mainGlobals mg) (c : He.SaysX fa fn ts [] ex w h K) (F_lowest : FnAt P w K mg base "lowest" 2 3 [[]] m_lowest) {fd : FuncData} (F : FunD K d_by_parts.name d_by_parts.qual d_by_parts.params d_by_parts.body d_by_parts.scope (d_by_parts.dvs K) (d_by_parts.kws K) (He.fAd K d_by_parts.at_) fd) : FnOk P w K mg base (L2.CX P w) 3 (He.fAd K d_by_parts.at_) fd ["f", "g"] (spD K mg 2 m_by_parts) := by
  have S := sc_by_parts
  rw [mm_by_parts]
  have Z := okD (P := P) (w := w) (mg := mg) (base := base) (n := 2) (k := 2) (den := den_by_parts) F S rfl
  refine Z ?_
  intro cdv A outer s H E hr
  have tk : Takes (cxOf (L2.CX P w) P w K mg base ["f", "g"] "by_parts" (defScope s_by_parts) (He.fAd K d_by_parts.at_) cdv A outer s H E) (fun cls d _ H => E cls d H) := takes_of rfl rfl rfl rfl
  have hp : PassesOwn (model P w) (cxOf (L2.CX P w) P w K mg base ["f", "g"] "by_parts" (defScope s_by_parts) (He.fAd K d_by_parts.at_) cdv A outer s H E).A (cxOf (L2.CX P w) P w K mg base ["f", "g"] "by_parts" (defScope s_by_parts) (He.fAd K d_by_parts.at_) cdv A outer s H E).env (cxOf (L2.CX P w) P w K mg base ["f", "g"] "by_parts" (defScope s_by_parts) (He.fAd K d_by_parts.at_) cdv A outer s H E).xe := passes_of rfl
  exact sd_one (sd_ret (pd_call F_lowest mem0 (hr.mono (by decide)) tk rfl (pad_cons (pd_bin od_mul noEx_mul (pd_ix (pd_v 0) (pd_int)) (pd_ix (pd_v 1) (pd_int))) (pad_cons (pd_bin od_mul noEx_mul (pd_ix (pd_v 1) (pd_int)) (pd_ix (pd_v 0) (pd_int))) (pad_cons (pd_bin od_mul noEx_mul (pd_ix (pd_v 0) (pd_int)) (pd_ix (pd_v 1) (pd_int))) (pad_nil))))))
theorem ok_by_parts (KX : K.In h) (GN : h.Ns mainGlobals mg) (c : He.SaysX fa fn ts [] ex w h K) (F_lowest : FnAt P w K mg base "lowest" 2 3 [[]] m_lowest) : FnAt P w K mg base "by_parts" 3 2 [[]] m_by_parts := by
  obtain ⟨fd, F⟩ := c.t.d.def_ 11 (d := d_by_parts) rfl
  refine ⟨_, fd, ["f", "g"], fo_by_parts KX GN c F_lowest F, He.glo_ok KX GN (c.t.d.fact 11 (f := .glo "by_parts") rfl), F.kp, ?_⟩
  · intro ds hd
    rw [List.mem_singleton] at hd
    subst hd
    exact ⟨[], [], FunD.bindsN F fun _ _ _ _ _ _ us hl => match us, hl with | [_, _], _ => rfl, .nil, fun _ => .nil⟩
theorem fo_minus (KX : K.In h) (GN : h.Ns mainGlobals mg) (c : He.SaysX fa fn ts [] ex w h K) (F_fraction : FnAt P w K mg base "fraction" 2 2 [[], [(.int 1)]] m_fraction) {fd : FuncData} (F : FunD K d_minus.name d_minus.qual d_minus.params d_minus.body d_minus.scope (d_minus.dvs K) (d_minus.kws K) (He.fAd K d_minus.at_) fd) : FnOk P w K mg base (L2.CX P w) 3 (He.fAd K d_minus.at_) fd ["one", "other"] (spD K mg 2 m_minus) := by
  have S := sc_minus
  rw [mm_minus]
  have Z := okD (P := P) (w := w) (mg := mg) (base := base) (n := 2) (k := 2) (den := den_minus) F S rfl
  refine Z ?_
  intro cdv A outer s H E hr
  have tk : Takes (cxOf (L2.CX P w) P w K mg base ["one", "other"] "minus" (defScope s_minus) (He.fAd K d_minus.at_) cdv A outer s H E) (fun cls d _ H => E cls d H) := takes_of rfl rfl rfl rfl
  have hp : PassesOwn (model P w) (cxOf (L2.CX P w) P w K mg base ["one", "other"] "minus" (defScope s_minus) (He.fAd K d_minus.at_) cdv A outer s H E).A (cxOf (L2.CX P w) P w K mg base ["one", "other"] "minus" (defScope s_minus) (He.fAd K d_minus.at_) cdv A outer s H E).env (cxOf (L2.CX P w) P w K mg base ["one", "other"] "minus" (defScope s_minus) (He.fAd K d_minus.at_) cdv A outer s H E).xe := passes_of rfl
  exact sd_one (sd_ret (pd_call F_fraction mem0 (hr.mono (by decide)) tk rfl (pad_cons (pd_bin od_sub noEx_sub (pd_bin od_mul noEx_mul (pd_ix (pd_v 0) (pd_int)) (pd_ix (pd_v 1) (pd_int))) (pd_bin od_mul noEx_mul (pd_ix (pd_v 1) (pd_int)) (pd_ix (pd_v 0) (pd_int)))) (pad_cons (pd_bin od_mul noEx_mul (pd_ix (pd_v 0) (pd_int)) (pd_ix (pd_v 1) (pd_int))) (pad_nil)))))
theorem ok_minus (KX : K.In h) (GN : h.Ns mainGlobals mg) (c : He.SaysX fa fn ts [] ex w h K) (F_fraction : FnAt P w K mg base "fraction" 2 2 [[], [(.int 1)]] m_fraction) : FnAt P w K mg base "minus" 3 2 [[]] m_minus := by
  obtain ⟨fd, F⟩ := c.t.d.def_ 12 (d := d_minus) rfl
  refine ⟨_, fd, ["one", "other"], fo_minus KX GN c F_fraction F, He.glo_ok KX GN (c.t.d.fact 12 (f := .glo "minus") rfl), F.kp, ?_⟩
  · intro ds hd
    rw [List.mem_singleton] at hd
    subst hd
    exact ⟨[], [], FunD.bindsN F fun _ _ _ _ _ _ us hl => match us, hl with | [_, _], _ => rfl, .nil, fun _ => .nil⟩
theorem fo_times (KX : K.In h) (GN : h.Ns mainGlobals mg) (c : He.SaysX fa fn ts [] ex w h K) (F_fraction : FnAt P w K mg base "fraction" 2 2 [[], [(.int 1)]] m_fraction) {fd : FuncData} (F : FunD K d_times.name d_times.qual d_times.params d_times.body d_times.scope (d_times.dvs K) (d_times.kws K) (He.fAd K d_times.at_) fd) : FnOk P w K mg base (L2.CX P w) 3 (He.fAd K d_times.at_) fd ["one", "other"] (spD K mg 2 m_times) := by
  have S := sc_times
  rw [mm_times]
  have Z := okD (P := P) (w := w) (mg := mg) (base := base) (n := 2) (k := 2) (den := den_times) F S rfl
  refine Z ?_
  intro cdv A outer s H E hr
  have tk : Takes (cxOf (L2.CX P w) P w K mg base ["one", "other"] "times" (defScope s_times) (He.fAd K d_times.at_) cdv A outer s H E) (fun cls d _ H => E cls d H) := takes_of rfl rfl rfl rfl
  have hp : PassesOwn (model P w) (cxOf (L2.CX P w) P w K mg base ["one", "other"] "times" (defScope s_times) (He.fAd K d_times.at_) cdv A outer s H E).A (cxOf (L2.CX P w) P w K mg base ["one", "other"] "times" (defScope s_times) (He.fAd K d_times.at_) cdv A outer s H E).env (cxOf (L2.CX P w) P w K mg base ["one", "other"] "times" (defScope s_times) (He.fAd K d_times.at_) cdv A outer s H E).xe := passes_of rfl
  exact sd_one (sd_ret (pd_call F_fraction mem0 (hr.mono (by decide)) tk rfl (pad_cons (pd_bin od_mul noEx_mul (pd_ix (pd_v 0) (pd_int)) (pd_ix (pd_v 1) (pd_int))) (pad_cons (pd_bin od_mul noEx_mul (pd_ix (pd_v 0) (pd_int)) (pd_ix (pd_v 1) (pd_int))) (pad_nil)))))
theorem ok_times (KX : K.In h) (GN : h.Ns mainGlobals mg) (c : He.SaysX fa fn ts [] ex w h K) (F_fraction : FnAt P w K mg base "fraction" 2 2 [[], [(.int 1)]] m_fraction) : FnAt P w K mg base "times" 3 2 [[]] m_times := by
  obtain ⟨fd, F⟩ := c.t.d.def_ 13 (d := d_times) rfl
  refine ⟨_, fd, ["one", "other"], fo_times KX GN c F_fraction F, He.glo_ok KX GN (c.t.d.fact 13 (f := .glo "times") rfl), F.kp, ?_⟩
  · intro ds hd
    rw [List.mem_singleton] at hd
    subst hd
    exact ⟨[], [], FunD.bindsN F fun _ _ _ _ _ _ us hl => match us, hl with | [_, _], _ => rfl, .nil, fun _ => .nil⟩
theorem fo_by (KX : K.In h) (GN : h.Ns mainGlobals mg) (c : He.SaysX fa fn ts [] ex w h K) (F_fraction : FnAt P w K mg base "fraction" 2 2 [[], [(.int 1)]] m_fraction) {fd : FuncData} (F : FunD K d_by.name d_by.qual d_by.params d_by.body d_by.scope (d_by.dvs K) (d_by.kws K) (He.fAd K d_by.at_) fd) : FnOk P w K mg base (L2.CX P w) 3 (He.fAd K d_by.at_) fd ["one", "other"] (spD K mg 2 m_by) := by
  have S := sc_by
  rw [mm_by]
  have Z := okD (P := P) (w := w) (mg := mg) (base := base) (n := 2) (k := 2) (den := den_by) F S rfl
  refine Z ?_
  intro cdv A outer s H E hr
  have tk : Takes (cxOf (L2.CX P w) P w K mg base ["one", "other"] "by" (defScope s_by) (He.fAd K d_by.at_) cdv A outer s H E) (fun cls d _ H => E cls d H) := takes_of rfl rfl rfl rfl
  have hp : PassesOwn (model P w) (cxOf (L2.CX P w) P w K mg base ["one", "other"] "by" (defScope s_by) (He.fAd K d_by.at_) cdv A outer s H E).A (cxOf (L2.CX P w) P w K mg base ["one", "other"] "by" (defScope s_by) (He.fAd K d_by.at_) cdv A outer s H E).env (cxOf (L2.CX P w) P w K mg base ["one", "other"] "by" (defScope s_by) (He.fAd K d_by.at_) cdv A outer s H E).xe := passes_of rfl
  exact sd_one (sd_ret (pd_call F_fraction mem0 (hr.mono (by decide)) tk rfl (pad_cons (pd_bin od_mul noEx_mul (pd_ix (pd_v 0) (pd_int)) (pd_ix (pd_v 1) (pd_int))) (pad_cons (pd_bin od_mul noEx_mul (pd_ix (pd_v 0) (pd_int)) (pd_ix (pd_v 1) (pd_int))) (pad_nil)))))
theorem ok_by (KX : K.In h) (GN : h.Ns mainGlobals mg) (c : He.SaysX fa fn ts [] ex w h K) (F_fraction : FnAt P w K mg base "fraction" 2 2 [[], [(.int 1)]] m_fraction) : FnAt P w K mg base "by" 3 2 [[]] m_by := by
  obtain ⟨fd, F⟩ := c.t.d.def_ 14 (d := d_by) rfl
  refine ⟨_, fd, ["one", "other"], fo_by KX GN c F_fraction F, He.glo_ok KX GN (c.t.d.fact 14 (f := .glo "by") rfl), F.kp, ?_⟩
  · intro ds hd
    rw [List.mem_singleton] at hd
    subst hd
    exact ⟨[], [], FunD.bindsN F fun _ _ _ _ _ _ us hl => match us, hl with | [_, _], _ => rfl, .nil, fun _ => .nil⟩
theorem fo_first_base (KX : K.In h) (GN : h.Ns mainGlobals mg) (c : He.SaysX fa fn ts [] ex w h K) (F_length : FnAt P w K mg base "length" 3 3 [[], [(.int 1)], [(.int 0), (.int 1)]] m_length) {fd : FuncData} (F : FunD K d_first_base.name d_first_base.qual d_first_base.params d_first_base.body d_first_base.scope (d_first_base.dvs K) (d_first_base.kws K) (He.fAd K d_first_base.at_) fd) : FnOk P w K mg base (L2.CX P w) 4 (He.fAd K d_first_base.at_) fd ["d", "n"] (spD K mg 2 m_first_base) := by
  have S := sc_first_base
  rw [mm_first_base]
  have Z := okD (P := P) (w := w) (mg := mg) (base := base) (n := 2) (k := 3) (den := den_first_base) F S rfl
  refine Z ?_
  intro cdv A outer s H E hr
  have tk : Takes (cxOf (L2.CX P w) P w K mg base ["d", "n"] "first_base" (defScope s_first_base) (He.fAd K d_first_base.at_) cdv A outer s H E) (fun cls d _ H => E cls d H) := takes_of rfl rfl rfl rfl
  have hp : PassesOwn (model P w) (cxOf (L2.CX P w) P w K mg base ["d", "n"] "first_base" (defScope s_first_base) (He.fAd K d_first_base.at_) cdv A outer s H E).A (cxOf (L2.CX P w) P w K mg base ["d", "n"] "first_base" (defScope s_first_base) (He.fAd K d_first_base.at_) cdv A outer s H E).env (cxOf (L2.CX P w) P w K mg base ["d", "n"] "first_base" (defScope s_first_base) (He.fAd K d_first_base.at_) cdv A outer s H E).xe := passes_of rfl
  exact sd_one (sd_ret (pd_tup (pad_cons (pd_call F_length mem0 (hr.mono (by decide)) tk rfl (pad_cons (pd_int) (pad_cons (pd_int) (pad_cons (pd_v 1) (pad_nil))))) (pad_cons (pd_call F_length mem0 (hr.mono (by decide)) tk rfl (pad_cons (pd_int) (pad_cons (pd_int) (pad_cons (pd_v 1) (pad_nil))))) (pad_nil)))))
theorem ok_first_base (KX : K.In h) (GN : h.Ns mainGlobals mg) (c : He.SaysX fa fn ts [] ex w h K) (F_length : FnAt P w K mg base "length" 3 3 [[], [(.int 1)], [(.int 0), (.int 1)]] m_length) : FnAt P w K mg base "first_base" 4 2 [[]] m_first_base := by
  obtain ⟨fd, F⟩ := c.t.d.def_ 15 (d := d_first_base) rfl
  refine ⟨_, fd, ["d", "n"], fo_first_base KX GN c F_length F, He.glo_ok KX GN (c.t.d.fact 15 (f := .glo "first_base") rfl), F.kp, ?_⟩
  · intro ds hd
    rw [List.mem_singleton] at hd
    subst hd
    exact ⟨[], [], FunD.bindsN F fun _ _ _ _ _ _ us hl => match us, hl with | [_, _], _ => rfl, .nil, fun _ => .nil⟩
theorem fo_next_base (KX : K.In h) (GN : h.Ns mainGlobals mg) (c : He.SaysX fa fn ts [] ex w h K) (F_under : FnAt P w K mg base "under" 5 3 [[]] m_under) (F_taken : FnAt P w K mg base "taken" 4 2 [[]] m_taken) {fd : FuncData} (F : FunD K d_next_base.name d_next_base.qual d_next_base.params d_next_base.body d_next_base.scope (d_next_base.dvs K) (d_next_base.kws K) (He.fAd K d_next_base.at_) fd) : FnOk P w K mg base (L2.CX P w) 6 (He.fAd K d_next_base.at_) fd ["d", "base"] (spD K mg 2 m_next_base) := by
  have S := sc_next_base
  rw [mm_next_base]
  have Z := okD (P := P) (w := w) (mg := mg) (base := base) (n := 2) (k := 5) (den := den_next_base) F S rfl
  refine Z ?_
  intro cdv A outer s H E hr
  have tk : Takes (cxOf (L2.CX P w) P w K mg base ["d", "base", "p", "q"] "next_base" (defScope s_next_base) (He.fAd K d_next_base.at_) cdv A outer s H E) (fun cls d _ H => E cls d H) := takes_of rfl rfl rfl rfl
  have hp : PassesOwn (model P w) (cxOf (L2.CX P w) P w K mg base ["d", "base", "p", "q"] "next_base" (defScope s_next_base) (He.fAd K d_next_base.at_) cdv A outer s H E).A (cxOf (L2.CX P w) P w K mg base ["d", "base", "p", "q"] "next_base" (defScope s_next_base) (He.fAd K d_next_base.at_) cdv A outer s H E).env (cxOf (L2.CX P w) P w K mg base ["d", "base", "p", "q"] "next_base" (defScope s_next_base) (He.fAd K d_next_base.at_) cdv A outer s H E).xe := passes_of rfl
  exact sd_cons (sd_asg (pg_tup rfl (pgs_cons (pg_name (i := 2) S.nd rfl (.inl rfl)) (pgs_cons (pg_name (i := 3) S.nd rfl (.inl rfl)) (pgs_nil)))) (pd_v 1)) (sd_cons (sd_if (pt_d (pd_call F_under mem0 (hr.mono (by decide)) tk rfl (pad_cons (pd_v 0) (pad_cons (pd_v 3) (pad_cons (pd_v 2) (pad_nil)))))) (sd_one (sd_ret (pd_tup (pad_cons (pd_call F_taken mem0 (hr.mono (by decide)) tk rfl (pad_cons (pd_v 2) (pad_cons (pd_v 3) (pad_nil)))) (pad_cons (pd_v 3) (pad_nil)))))) (sd_nil)) (sd_one (sd_ret (pd_tup (pad_cons (pd_v 2) (pad_cons (pd_call F_taken mem0 (hr.mono (by decide)) tk rfl (pad_cons (pd_v 3) (pad_cons (pd_v 2) (pad_nil)))) (pad_nil)))))))
theorem ok_next_base (KX : K.In h) (GN : h.Ns mainGlobals mg) (c : He.SaysX fa fn ts [] ex w h K) (F_under : FnAt P w K mg base "under" 5 3 [[]] m_under) (F_taken : FnAt P w K mg base "taken" 4 2 [[]] m_taken) : FnAt P w K mg base "next_base" 6 2 [[]] m_next_base := by
  obtain ⟨fd, F⟩ := c.t.d.def_ 16 (d := d_next_base) rfl
  refine ⟨_, fd, ["d", "base"], fo_next_base KX GN c F_under F_taken F, He.glo_ok KX GN (c.t.d.fact 16 (f := .glo "next_base") rfl), F.kp, ?_⟩
  · intro ds hd
    rw [List.mem_singleton] at hd
    subst hd
    exact ⟨[], [], FunD.bindsN F fun _ _ _ _ _ _ us hl => match us, hl with | [_, _], _ => rfl, .nil, fun _ => .nil⟩
theorem fo_cross (KX : K.In h) (GN : h.Ns mainGlobals mg) (c : He.SaysX fa fn ts [] ex w h K) (F_minus : FnAt P w K mg base "minus" 3 2 [[]] m_minus) (F_times : FnAt P w K mg base "times" 3 2 [[]] m_times) {fd : FuncData} (F : FunD K d_cross.name d_cross.qual d_cross.params d_cross.body d_cross.scope (d_cross.dvs K) (d_cross.kws K) (He.fAd K d_cross.at_) fd) : FnOk P w K mg base (L2.CX P w) 4 (He.fAd K d_cross.at_) fd ["one", "other"] (spD K mg 2 m_cross) := by
  have S := sc_cross
  rw [mm_cross]
  have Z := okD (P := P) (w := w) (mg := mg) (base := base) (n := 2) (k := 3) (den := den_cross) F S rfl
  refine Z ?_
  intro cdv A outer s H E hr
  have tk : Takes (cxOf (L2.CX P w) P w K mg base ["one", "other"] "cross" (defScope s_cross) (He.fAd K d_cross.at_) cdv A outer s H E) (fun cls d _ H => E cls d H) := takes_of rfl rfl rfl rfl
  have hp : PassesOwn (model P w) (cxOf (L2.CX P w) P w K mg base ["one", "other"] "cross" (defScope s_cross) (He.fAd K d_cross.at_) cdv A outer s H E).A (cxOf (L2.CX P w) P w K mg base ["one", "other"] "cross" (defScope s_cross) (He.fAd K d_cross.at_) cdv A outer s H E).env (cxOf (L2.CX P w) P w K mg base ["one", "other"] "cross" (defScope s_cross) (He.fAd K d_cross.at_) cdv A outer s H E).xe := passes_of rfl
  exact sd_one (sd_ret (pd_call F_minus mem0 (hr.mono (by decide)) tk rfl (pad_cons (pd_call F_times mem0 (hr.mono (by decide)) tk rfl (pad_cons (pd_ix (pd_v 0) (pd_int)) (pad_cons (pd_ix (pd_v 1) (pd_int)) (pad_nil)))) (pad_cons (pd_call F_times mem0 (hr.mono (by decide)) tk rfl (pad_cons (pd_ix (pd_v 0) (pd_int)) (pad_cons (pd_ix (pd_v 1) (pd_int)) (pad_nil)))) (pad_nil)))))
theorem ok_cross (KX : K.In h) (GN : h.Ns mainGlobals mg) (c : He.SaysX fa fn ts [] ex w h K) (F_minus : FnAt P w K mg base "minus" 3 2 [[]] m_minus) (F_times : FnAt P w K mg base "times" 3 2 [[]] m_times) : FnAt P w K mg base "cross" 4 2 [[]] m_cross := by
  obtain ⟨fd, F⟩ := c.t.d.def_ 17 (d := d_cross) rfl
  refine ⟨_, fd, ["one", "other"], fo_cross KX GN c F_minus F_times F, He.glo_ok KX GN (c.t.d.fact 17 (f := .glo "cross") rfl), F.kp, ?_⟩
  · intro ds hd
    rw [List.mem_singleton] at hd
    subst hd
    exact ⟨[], [], FunD.bindsN F fun _ _ _ _ _ _ us hl => match us, hl with | [_, _], _ => rfl, .nil, fun _ => .nil⟩
theorem fo_counts (KX : K.In h) (GN : h.Ns mainGlobals mg) (c : He.SaysX fa fn ts [] ex w h K) (F_cross : FnAt P w K mg base "cross" 4 2 [[]] m_cross) (F_parts : FnAt P w K mg base "parts" 3 1 [[]] m_parts) (F_by : FnAt P w K mg base "by" 3 2 [[]] m_by) {fd : FuncData} (F : FunD K d_counts.name d_counts.qual d_counts.params d_counts.body d_counts.scope (d_counts.dvs K) (d_counts.kws K) (He.fAd K d_counts.at_) fd) : FnOk P w K mg base (L2.CX P w) 5 (He.fAd K d_counts.at_) fd ["d", "base", "one"] (spD K mg 3 m_counts) := by
  have S := sc_counts
  rw [mm_counts]
  have Z := okD (P := P) (w := w) (mg := mg) (base := base) (n := 3) (k := 4) (den := den_counts) F S rfl
  refine Z ?_
  intro cdv A outer s H E hr
  have tk : Takes (cxOf (L2.CX P w) P w K mg base ["d", "base", "one", "p", "q", "whole", "found", "i", "j"] "counts" (defScope s_counts) (He.fAd K d_counts.at_) cdv A outer s H E) (fun cls d _ H => E cls d H) := takes_of rfl rfl rfl rfl
  have hp : PassesOwn (model P w) (cxOf (L2.CX P w) P w K mg base ["d", "base", "one", "p", "q", "whole", "found", "i", "j"] "counts" (defScope s_counts) (He.fAd K d_counts.at_) cdv A outer s H E).A (cxOf (L2.CX P w) P w K mg base ["d", "base", "one", "p", "q", "whole", "found", "i", "j"] "counts" (defScope s_counts) (He.fAd K d_counts.at_) cdv A outer s H E).env (cxOf (L2.CX P w) P w K mg base ["d", "base", "one", "p", "q", "whole", "found", "i", "j"] "counts" (defScope s_counts) (He.fAd K d_counts.at_) cdv A outer s H E).xe := passes_of rfl
  exact sd_cons (sd_par 3 4 rfl S.nd rfl rfl (by decide) rfl rfl (pd_call F_parts mem0 (hr.mono (by decide)) tk rfl (pad_cons (pd_ix (pd_v 1) (pd_int)) (pad_nil))) (pd_call F_parts mem0 (hr.mono (by decide)) tk rfl (pad_cons (pd_ix (pd_v 1) (pd_int)) (pad_nil))) rfl) (sd_cons (sd_set 5 S.nd rfl (.inl rfl) (pd_call F_cross mem0 (hr.mono (by decide)) tk rfl (pad_cons (pd_v 3) (pad_cons (pd_v 4) (pad_nil))))) (sd_cons (sd_set 6 S.nd rfl (.inl rfl) (pd_call F_parts mem0 (hr.mono (by decide)) tk rfl (pad_cons (pd_v 2) (pad_nil)))) (sd_cons (sd_set 7 S.nd rfl (.inl rfl) (pd_call F_by mem0 (hr.mono (by decide)) tk rfl (pad_cons (pd_call F_cross mem0 (hr.mono (by decide)) tk rfl (pad_cons (pd_v 6) (pad_cons (pd_v 4) (pad_nil)))) (pad_cons (pd_v 5) (pad_nil))))) (sd_cons (sd_set 8 S.nd rfl (.inl rfl) (pd_call F_by mem0 (hr.mono (by decide)) tk rfl (pad_cons (pd_call F_cross mem0 (hr.mono (by decide)) tk rfl (pad_cons (pd_v 3) (pad_cons (pd_v 6) (pad_nil)))) (pad_cons (pd_v 5) (pad_nil))))) (sd_one (sd_ret (pd_tup (pad_cons (pd_ix (pd_v 7) (pd_int)) (pad_cons (pd_ix (pd_v 8) (pd_int)) (pad_nil))))))))))
theorem ok_counts (KX : K.In h) (GN : h.Ns mainGlobals mg) (c : He.SaysX fa fn ts [] ex w h K) (F_cross : FnAt P w K mg base "cross" 4 2 [[]] m_cross) (F_parts : FnAt P w K mg base "parts" 3 1 [[]] m_parts) (F_by : FnAt P w K mg base "by" 3 2 [[]] m_by) : FnAt P w K mg base "counts" 5 3 [[]] m_counts := by
  obtain ⟨fd, F⟩ := c.t.d.def_ 18 (d := d_counts) rfl
  refine ⟨_, fd, ["d", "base", "one"], fo_counts KX GN c F_cross F_parts F_by F, He.glo_ok KX GN (c.t.d.fact 18 (f := .glo "counts") rfl), F.kp, ?_⟩
  · intro ds hd
    rw [List.mem_singleton] at hd
    subst hd
    exact ⟨[], [], FunD.bindsN F fun _ _ _ _ _ _ us hl => match us, hl with | [_, _, _], _ => rfl, .nil, fun _ => .nil⟩
theorem fo_is_served (KX : K.In h) (GN : h.Ns mainGlobals mg) (c : He.SaysX fa fn ts [] ex w h K)  {fd : FuncData} (F : FunD K d_is_served.name d_is_served.qual d_is_served.params d_is_served.body d_is_served.scope (d_is_served.dvs K) (d_is_served.kws K) (He.fAd K d_is_served.at_) fd) : FnOk P w K mg base (L2.CX P w) 1 (He.fAd K d_is_served.at_) fd ["pairs"] (spD K mg 1 m_is_served) := by
  have S := sc_is_served
  rw [mm_is_served]
  have Z := okD (P := P) (w := w) (mg := mg) (base := base) (n := 1) (k := 0) (den := den_is_served) F S rfl
  refine Z ?_
  intro cdv A outer s H E hr
  have tk : Takes (cxOf (L2.CX P w) P w K mg base ["pairs", "i", "j"] "is_served" (defScope s_is_served) (He.fAd K d_is_served.at_) cdv A outer s H E) (fun cls d _ H => E cls d H) := takes_of rfl rfl rfl rfl
  have hp : PassesOwn (model P w) (cxOf (L2.CX P w) P w K mg base ["pairs", "i", "j"] "is_served" (defScope s_is_served) (He.fAd K d_is_served.at_) cdv A outer s H E).A (cxOf (L2.CX P w) P w K mg base ["pairs", "i", "j"] "is_served" (defScope s_is_served) (He.fAd K d_is_served.at_) cdv A outer s H E).env (cxOf (L2.CX P w) P w K mg base ["pairs", "i", "j"] "is_served" (defScope s_is_served) (He.fAd K d_is_served.at_) cdv A outer s H E).xe := passes_of rfl
  exact sd_cons (sd_for hp rfl (pi_l (pd_v 0)) (pg_tup rfl (pgs_cons (pg_name (i := 1) S.nd rfl (.inl rfl)) (pgs_cons (pg_name (i := 2) S.nd rfl (.inl rfl)) (pgs_nil)))) (sd_one (sd_if (PW.pt (pw_dor (pt_cmpd od_lt noEx_cI (pd_v 1) (pd_int)) (pw_o1 (pt_cmpd od_lt noEx_cI (pd_v 2) (pd_int))))) (sd_one (sd_ret (pd_bl))) (sd_nil)))) (sd_one (sd_ret (pd_bl)))
theorem ok_is_served (KX : K.In h) (GN : h.Ns mainGlobals mg) (c : He.SaysX fa fn ts [] ex w h K)  : FnAt P w K mg base "is_served" 1 1 [[]] m_is_served := by
  obtain ⟨fd, F⟩ := c.t.d.def_ 19 (d := d_is_served) rfl
  refine ⟨_, fd, ["pairs"], fo_is_served KX GN c  F, He.glo_ok KX GN (c.t.d.fact 19 (f := .glo "is_served") rfl), F.kp, ?_⟩
  · intro ds hd
    rw [List.mem_singleton] at hd
    subst hd
    exact ⟨[], [], FunD.bindsN F fun _ _ _ _ _ _ us hl => match us, hl with | [_], _ => rfl, .nil, fun _ => .nil⟩
theorem fo_common (KX : K.In h) (GN : h.Ns mainGlobals mg) (c : He.SaysX fa fn ts [] ex w h K) (F_fraction : FnAt P w K mg base "fraction" 2 2 [[], [(.int 1)]] m_fraction) {fd : FuncData} (F : FunD K d_common.name d_common.qual d_common.params d_common.body d_common.scope (d_common.dvs K) (d_common.kws K) (He.fAd K d_common.at_) fd) : FnOk P w K mg base (L2.CX P w) 3 (He.fAd K d_common.at_) fd ["lengths"] (spD K mg 1 m_common) := by
  have S := sc_common
  rw [mm_common]
  have Z := okD (P := P) (w := w) (mg := mg) (base := base) (n := 1) (k := 2) (den := den_common) F S rfl
  refine Z ?_
  intro cdv A outer s H E hr
  have tk : Takes (cxOf (L2.CX P w) P w K mg base ["lengths", "n", "one"] "common" (defScope s_common) (He.fAd K d_common.at_) cdv A outer s H E) (fun cls d _ H => E cls d H) := takes_of rfl rfl rfl rfl
  have hp : PassesOwn (model P w) (cxOf (L2.CX P w) P w K mg base ["lengths", "n", "one"] "common" (defScope s_common) (He.fAd K d_common.at_) cdv A outer s H E).A (cxOf (L2.CX P w) P w K mg base ["lengths", "n", "one"] "common" (defScope s_common) (He.fAd K d_common.at_) cdv A outer s H E).env (cxOf (L2.CX P w) P w K mg base ["lengths", "n", "one"] "common" (defScope s_common) (He.fAd K d_common.at_) cdv A outer s H E).xe := passes_of rfl
  exact sd_cons (sd_set 1 S.nd rfl (.inl rfl) (pd_int)) (sd_cons (sd_for hp rfl (pi_l (pd_v 0)) (pg_name (i := 2) S.nd rfl (.inl rfl)) (sd_one (sd_set 1 S.nd rfl (.inl rfl) (pd_bin od_mul noEx_mul (pd_v 1) (pd_ix (pd_call F_fraction mem0 (hr.mono (by decide)) tk rfl (pad_cons (pd_v 1) (pad_cons (pd_ix (pd_v 2) (pd_int)) (pad_nil)))) (pd_int)))))) (sd_one (sd_ret (pd_v 1))))
theorem ok_common (KX : K.In h) (GN : h.Ns mainGlobals mg) (c : He.SaysX fa fn ts [] ex w h K) (F_fraction : FnAt P w K mg base "fraction" 2 2 [[], [(.int 1)]] m_fraction) : FnAt P w K mg base "common" 3 1 [[]] m_common := by
  obtain ⟨fd, F⟩ := c.t.d.def_ 20 (d := d_common) rfl
  refine ⟨_, fd, ["lengths"], fo_common KX GN c F_fraction F, He.glo_ok KX GN (c.t.d.fact 20 (f := .glo "common") rfl), F.kp, ?_⟩
  · intro ds hd
    rw [List.mem_singleton] at hd
    subst hd
    exact ⟨[], [], FunD.bindsN F fun _ _ _ _ _ _ us hl => match us, hl with | [_], _ => rfl, .nil, fun _ => .nil⟩
theorem fo_serving (KX : K.In h) (GN : h.Ns mainGlobals mg) (c : He.SaysX fa fn ts [] ex w h K) (F_first_base : FnAt P w K mg base "first_base" 4 2 [[]] m_first_base) (F_common : FnAt P w K mg base "common" 3 1 [[]] m_common) (F_counts : FnAt P w K mg base "counts" 5 3 [[]] m_counts) (F_is_served : FnAt P w K mg base "is_served" 1 1 [[]] m_is_served) (F_next_base : FnAt P w K mg base "next_base" 6 2 [[]] m_next_base) {fd : FuncData} (F : FunD K d_serving.name d_serving.qual d_serving.params d_serving.body d_serving.scope (d_serving.dvs K) (d_serving.kws K) (He.fAd K d_serving.at_) fd) : FnOk P w K mg base (L2.CX P w) 7 (He.fAd K d_serving.at_) fd ["d", "lengths"] (spD K mg 2 m_serving) := by
  have S := sc_serving
  rw [mm_serving]
  have Z := okD (P := P) (w := w) (mg := mg) (base := base) (n := 2) (k := 6) (den := den_serving) F S rfl
  refine Z ?_
  intro cdv A outer s H E hr
  have tk : Takes (cxOf (L2.CX P w) P w K mg base ["d", "lengths", "base", "pairs", "one", "later", "i", "j"] "serving" (defScope s_serving) (He.fAd K d_serving.at_) cdv A outer s H E) (fun cls d _ H => E cls d H) := takes_of rfl rfl rfl rfl
  have hp : PassesOwn (model P w) (cxOf (L2.CX P w) P w K mg base ["d", "lengths", "base", "pairs", "one", "later", "i", "j"] "serving" (defScope s_serving) (He.fAd K d_serving.at_) cdv A outer s H E).A (cxOf (L2.CX P w) P w K mg base ["d", "lengths", "base", "pairs", "one", "later", "i", "j"] "serving" (defScope s_serving) (He.fAd K d_serving.at_) cdv A outer s H E).env (cxOf (L2.CX P w) P w K mg base ["d", "lengths", "base", "pairs", "one", "later", "i", "j"] "serving" (defScope s_serving) (He.fAd K d_serving.at_) cdv A outer s H E).xe := passes_of rfl
  exact sd_cons (sd_set 2 S.nd rfl (.inr rfl) (pd_call F_first_base mem0 (hr.mono (by decide)) tk rfl (pad_cons (pd_v 0) (pad_cons (pd_call F_common mem0 (hr.mono (by decide)) tk rfl (pad_cons (pd_v 1) (pad_nil))) (pad_nil))))) (sd_cons (sd_setLc 3 [("one", 4)] rfl S.nd rfl rfl (sw_true rfl rfl rfl (by decide +kernel)) (pi_l (pd_v 1)) (blkOk_by (N := ["d", "lengths", "base", "pairs", "one", "later", "i", "j"]) (sc := defScope s_serving) (own := [("one", 4)]) (by decide +kernel)) (by decide) (fun _ _ _ _ _ => pg_name (i := 4) S.nd rfl (.inl rfl)) (fun _ _ _ _ _ => ptd_nil) (fun _ _ _ _ _ => pd_call F_counts mem0 (hr.mono (by decide)) takes0 rfl (pad_cons (pd_v 0) (pad_cons (pd_v 2) (pad_cons (pd_v 4) (pad_nil)))))) (sd_cons (sd_while hp (pt_dnot (pt_d (pd_call F_is_served mem0 (hr.mono (by decide)) tk rfl (pad_cons (pd_v 3) (pad_nil))))) (sd_cons (sd_set 5 S.nd rfl (.inl rfl) (pd_call F_next_base mem0 (hr.mono (by decide)) tk rfl (pad_cons (pd_v 0) (pad_cons (pd_v 2) (pad_nil))))) (sd_cons (sd_if (pt_cmpd (od_eq hr.units) noEx_eq (pd_ix (pd_v 5) (pd_int)) (pd_ix (pd_v 2) (pd_int))) (sd_one (sd_setLc 3 [("i", 6), ("j", 7)] rfl S.nd rfl rfl (sw_true rfl rfl rfl (by decide +kernel)) (pi_l (pd_v 3)) (blkOk_by (N := ["d", "lengths", "base", "pairs", "one", "later", "i", "j"]) (sc := defScope s_serving) (own := [("i", 6), ("j", 7)]) (by decide +kernel)) (by decide) (fun _ _ _ _ _ => pg_tup rfl (pgs_cons (pg_name (i := 6) S.nd rfl (.inl rfl)) (pgs_cons (pg_name (i := 7) S.nd rfl (.inl rfl)) (pgs_nil)))) (fun _ _ _ _ _ => ptd_nil) (fun _ _ _ _ _ => pd_tup (pad_cons (pd_v 6) (pad_cons (pd_bin od_add noEx_add (pd_v 6) (pd_v 7)) (pad_nil)))))) (sd_one (sd_setLc 3 [("i", 6), ("j", 7)] rfl S.nd rfl rfl (sw_true rfl rfl rfl (by decide +kernel)) (pi_l (pd_v 3)) (blkOk_by (N := ["d", "lengths", "base", "pairs", "one", "later", "i", "j"]) (sc := defScope s_serving) (own := [("i", 6), ("j", 7)]) (by decide +kernel)) (by decide) (fun _ _ _ _ _ => pg_tup rfl (pgs_cons (pg_name (i := 6) S.nd rfl (.inl rfl)) (pgs_cons (pg_name (i := 7) S.nd rfl (.inl rfl)) (pgs_nil)))) (fun _ _ _ _ _ => ptd_nil) (fun _ _ _ _ _ => pd_tup (pad_cons (pd_bin od_add noEx_add (pd_v 6) (pd_v 7)) (pad_cons (pd_v 7) (pad_nil))))))) (sd_one (sd_set 2 S.nd rfl (.inr rfl) (pd_v 5)))))) (sd_one (sd_ret (pd_v 2)))))
theorem ok_serving (KX : K.In h) (GN : h.Ns mainGlobals mg) (c : He.SaysX fa fn ts [] ex w h K) (F_first_base : FnAt P w K mg base "first_base" 4 2 [[]] m_first_base) (F_common : FnAt P w K mg base "common" 3 1 [[]] m_common) (F_counts : FnAt P w K mg base "counts" 5 3 [[]] m_counts) (F_is_served : FnAt P w K mg base "is_served" 1 1 [[]] m_is_served) (F_next_base : FnAt P w K mg base "next_base" 6 2 [[]] m_next_base) : FnAt P w K mg base "serving" 7 2 [[]] m_serving := by
  obtain ⟨fd, F⟩ := c.t.d.def_ 21 (d := d_serving) rfl
  refine ⟨_, fd, ["d", "lengths"], fo_serving KX GN c F_first_base F_common F_counts F_is_served F_next_base F, He.glo_ok KX GN (c.t.d.fact 21 (f := .glo "serving") rfl), F.kp, ?_⟩
  · intro ds hd
    rw [List.mem_singleton] at hd
    subst hd
    exact ⟨[], [], FunD.bindsN F fun _ _ _ _ _ _ us hl => match us, hl with | [_, _], _ => rfl, .nil, fun _ => .nil⟩
theorem fo_heights_of (KX : K.In h) (GN : h.Ns mainGlobals mg) (c : He.SaysX fa fn ts [] ex w h K) (F_counts : FnAt P w K mg base "counts" 5 3 [[]] m_counts) (F_added : FnAt P w K mg base "added" 3 2 [[]] m_added) (F_timed : FnAt P w K mg base "timed" 3 3 [[]] m_timed) (F_length : FnAt P w K mg base "length" 3 3 [[], [(.int 1)], [(.int 0), (.int 1)]] m_length) {fd : FuncData} (F : FunD K d_heights_of.name d_heights_of.qual d_heights_of.params d_heights_of.body d_heights_of.scope (d_heights_of.dvs K) (d_heights_of.kws K) (He.fAd K d_heights_of.at_) fd) : FnOk P w K mg base (L2.CX P w) 6 (He.fAd K d_heights_of.at_) fd ["d", "heap", "base"] (spD K mg 3 m_heights_of) := by
  have b_range : mg "range" = none := He.free_ok KX GN (c.t.d.fact 46 (f := .free "range") rfl)
  have S := sc_heights_of
  rw [mm_heights_of]
  have Z := okD (P := P) (w := w) (mg := mg) (base := base) (n := 3) (k := 5) (den := den_heights_of) F S rfl
  refine Z ?_
  intro cdv A outer s H E hr
  have tk : Takes (cxOf (L2.CX P w) P w K mg base ["d", "heap", "base", "found", "width", "height", "many", "k"] "heights_of" (defScope s_heights_of) (He.fAd K d_heights_of.at_) cdv A outer s H E) (fun cls d _ H => E cls d H) := takes_of rfl rfl rfl rfl
  have hp : PassesOwn (model P w) (cxOf (L2.CX P w) P w K mg base ["d", "heap", "base", "found", "width", "height", "many", "k"] "heights_of" (defScope s_heights_of) (He.fAd K d_heights_of.at_) cdv A outer s H E).A (cxOf (L2.CX P w) P w K mg base ["d", "heap", "base", "found", "width", "height", "many", "k"] "heights_of" (defScope s_heights_of) (He.fAd K d_heights_of.at_) cdv A outer s H E).env (cxOf (L2.CX P w) P w K mg base ["d", "heap", "base", "found", "width", "height", "many", "k"] "heights_of" (defScope s_heights_of) (He.fAd K d_heights_of.at_) cdv A outer s H E).xe := passes_of rfl
  exact sd_cons (sd_setL 3 S.nd rfl (.inl rfl) (pl_lst (pad_cons (pd_tup (pad_cons (pd_int) (pad_cons (pd_int) (pad_cons (pd_int) (pad_nil))))) (pad_cons (pd_tup (pad_cons (pd_int) (pad_cons (pd_int) (pad_cons (pd_int) (pad_nil))))) (pad_nil))))) (sd_cons (sd_for hp rfl (pi_l (pd_v 1)) (pg_tup rfl (pgs_cons (pg_name (i := 4) S.nd rfl (.inl rfl)) (pgs_cons (pg_name (i := 5) S.nd rfl (.inl rfl)) (pgs_nil)))) (sd_cons (sd_set 6 S.nd rfl (.inl rfl) (pd_call F_counts mem0 (hr.mono (by decide)) tk rfl (pad_cons (pd_v 0) (pad_cons (pd_v 2) (pad_cons (pd_v 4) (pad_nil)))))) (sd_one (sd_for hp rfl (pi_r1 rfl b_range (pad_cons (pd_int) (pad_nil))) (pg_name (i := 7) S.nd rfl (.inl rfl)) (sd_one (sd_put 3 (pd_v 7) (pd_call F_added mem0 (hr.mono (by decide)) tk rfl (pad_cons (pd_ixO 3 (pd_v 7)) (pad_cons (pd_call F_timed mem0 (hr.mono (by decide)) tk rfl (pad_cons (pd_v 0) (pad_cons (pd_v 5) (pad_cons (pd_call F_length mem2 (hr.mono (by decide)) tk rfl (pad_cons (pd_ix (pd_v 6) (pd_v 7)) (pad_nil))) (pad_nil))))) (pad_nil)))))))))) (sd_frz 3 (sd_one (sd_ret (pd_v 3)))))
theorem ok_heights_of (KX : K.In h) (GN : h.Ns mainGlobals mg) (c : He.SaysX fa fn ts [] ex w h K) (F_counts : FnAt P w K mg base "counts" 5 3 [[]] m_counts) (F_added : FnAt P w K mg base "added" 3 2 [[]] m_added) (F_timed : FnAt P w K mg base "timed" 3 3 [[]] m_timed) (F_length : FnAt P w K mg base "length" 3 3 [[], [(.int 1)], [(.int 0), (.int 1)]] m_length) : FnAt P w K mg base "heights_of" 6 3 [[]] m_heights_of := by
  obtain ⟨fd, F⟩ := c.t.d.def_ 22 (d := d_heights_of) rfl
  refine ⟨_, fd, ["d", "heap", "base"], fo_heights_of KX GN c F_counts F_added F_timed F_length F, He.glo_ok KX GN (c.t.d.fact 22 (f := .glo "heights_of") rfl), F.kp, ?_⟩
  · intro ds hd
    rw [List.mem_singleton] at hd
    subst hd
    exact ⟨[], [], FunD.bindsN F fun _ _ _ _ _ _ us hl => match us, hl with | [_, _, _], _ => rfl, .nil, fun _ => .nil⟩
theorem fo_normal_heap (KX : K.In h) (GN : h.Ns mainGlobals mg) (c : He.SaysX fa fn ts [] ex w h K) (F_heights_of : FnAt P w K mg base "heights_of" 6 3 [[]] m_heights_of) {fd : FuncData} (F : FunD K d_normal_heap.name d_normal_heap.qual d_normal_heap.params d_normal_heap.body d_normal_heap.scope (d_normal_heap.dvs K) (d_normal_heap.kws K) (He.fAd K d_normal_heap.at_) fd) : FnOk P w K mg base (L2.CX P w) 7 (He.fAd K d_normal_heap.at_) fd ["d", "heap", "base"] (spV K mg 3 mV_normal_heap_v2) := by
  have b_range : mg "range" = none := He.free_ok KX GN (c.t.d.fact 46 (f := .free "range") rfl)
  have S := sc_normal_heap
  rw [mm_normal_heap_v2]
  have Z := okV (P := P) (w := w) (mg := mg) (base := base) (n := 3) (k := 6) (den := den_normal_heap_v2) F S rfl
  refine Z ?_
  intro cdv A outer s H E hr
  have tk : Takes (cxOf (L2.CX P w) P w K mg base ["d", "heap", "base", "found", "k"] "normal_heap" (defScope s_normal_heap) (He.fAd K d_normal_heap.at_) cdv A outer s H E) (fun cls d _ H => E cls d H) := takes_of rfl rfl rfl rfl
  have hp : PassesOwn (model P w) (cxOf (L2.CX P w) P w K mg base ["d", "heap", "base", "found", "k"] "normal_heap" (defScope s_normal_heap) (He.fAd K d_normal_heap.at_) cdv A outer s H E).A (cxOf (L2.CX P w) P w K mg base ["d", "heap", "base", "found", "k"] "normal_heap" (defScope s_normal_heap) (He.fAd K d_normal_heap.at_) cdv A outer s H E).env (cxOf (L2.CX P w) P w K mg base ["d", "heap", "base", "found", "k"] "normal_heap" (defScope s_normal_heap) (He.fAd K d_normal_heap.at_) cdv A outer s H E).xe := passes_of rfl
  exact sd_cons (sd_set 3 S.nd rfl (.inr rfl) (pd_call F_heights_of mem0 (hr.mono (by decide)) tk rfl (pad_cons (pd_v 0) (pad_cons (pd_v 1) (pad_cons (pd_v 2) (pad_nil)))))) (sd_one (sd_retV (pv_l (pl_lc [("k", 4)] rfl S.nd (pi_r1 rfl b_range (pad_cons (pd_int) (pad_nil))) (blkOk_by (N := ["d", "heap", "base", "found", "k"]) (sc := defScope s_normal_heap) (own := [("k", 4)]) (by decide +kernel)) (by decide) (fun _ _ _ _ _ => pg_name (i := 4) S.nd rfl (.inl rfl)) (fun _ _ _ _ _ => pts_one (pt_cmpd (od_ne hr.units) noEx_ne (pd_ix (pd_v 3) (pd_v 4)) (pd_tup (pad_cons (pd_int) (pad_cons (pd_int) (pad_cons (pd_int) (pad_nil))))))) (fun _ _ _ _ _ => pd_tup (pad_cons (pd_ix (pd_v 2) (pd_v 4)) (pad_cons (pd_ix (pd_v 3) (pd_v 4)) (pad_nil))))))))
theorem ok_normal_heap (KX : K.In h) (GN : h.Ns mainGlobals mg) (c : He.SaysX fa fn ts [] ex w h K) (F_heights_of : FnAt P w K mg base "heights_of" 6 3 [[]] m_heights_of) : FnAtG P w K mg base "normal_heap" 7 [[]] (spV K mg 3 mV_normal_heap_v2) := by
  obtain ⟨fd, F⟩ := c.t.d.def_ 23 (d := d_normal_heap) rfl
  refine ⟨_, fd, ["d", "heap", "base"], fo_normal_heap KX GN c F_heights_of F, He.glo_ok KX GN (c.t.d.fact 23 (f := .glo "normal_heap") rfl), F.kp, ?_⟩
  · intro ds hd
    rw [List.mem_singleton] at hd
    subst hd
    exact ⟨[], [], FunD.bindsN F fun _ _ _ _ _ _ us hl => match us, hl with | [_, _, _], _ => rfl, .nil, fun _ => .nil⟩
theorem fo_law_cell (KX : K.In h) (GN : h.Ns mainGlobals mg) (c : He.SaysX fa fn ts [] ex w h K)  {fd : FuncData} (F : FunD K d_law_cell.name d_law_cell.qual d_law_cell.params d_law_cell.body d_law_cell.scope (d_law_cell.dvs K) (d_law_cell.kws K) (He.fAd K d_law_cell.at_) fd) : FnOk P w K mg base (L2.CX P w) 1 (He.fAd K d_law_cell.at_) fd ["_law_script", "_law_k"] (spD K mg 2 m_law_cell) := by
  have b_len : mg "len" = none := He.free_ok KX GN (c.t.d.fact 44 (f := .free "len") rfl)
  have S := sc_law_cell
  rw [mm_law_cell]
  have Z := okD (P := P) (w := w) (mg := mg) (base := base) (n := 2) (k := 0) (den := den_law_cell) F S rfl
  refine Z ?_
  intro cdv A outer s H E hr
  have tk : Takes (cxOf (L2.CX P w) P w K mg base ["_law_script", "_law_k"] "_law_cell" (defScope s_law_cell) (He.fAd K d_law_cell.at_) cdv A outer s H E) (fun cls d _ H => E cls d H) := takes_of rfl rfl rfl rfl
  have hp : PassesOwn (model P w) (cxOf (L2.CX P w) P w K mg base ["_law_script", "_law_k"] "_law_cell" (defScope s_law_cell) (He.fAd K d_law_cell.at_) cdv A outer s H E).A (cxOf (L2.CX P w) P w K mg base ["_law_script", "_law_k"] "_law_cell" (defScope s_law_cell) (He.fAd K d_law_cell.at_) cdv A outer s H E).env (cxOf (L2.CX P w) P w K mg base ["_law_script", "_law_k"] "_law_cell" (defScope s_law_cell) (He.fAd K d_law_cell.at_) cdv A outer s H E).xe := passes_of rfl
  exact sd_cons (sd_if (pt_cmpd od_lt noEx_cI (pd_v 1) (pd_b cd_len nx_len b_len (by decide +kernel) (pad_cons (pd_v 0) (pad_nil)))) (sd_one (sd_ret (pd_ix (pd_v 0) (pd_v 1)))) (sd_nil)) (sd_one (sd_ret (pd_int)))
theorem ok_law_cell (KX : K.In h) (GN : h.Ns mainGlobals mg) (c : He.SaysX fa fn ts [] ex w h K)  : FnAt P w K mg base "_law_cell" 1 2 [[]] m_law_cell := by
  obtain ⟨fd, F⟩ := c.t.d.def_ 24 (d := d_law_cell) rfl
  refine ⟨_, fd, ["_law_script", "_law_k"], fo_law_cell KX GN c  F, He.glo_ok KX GN (c.t.d.fact 24 (f := .glo "_law_cell") rfl), F.kp, ?_⟩
  · intro ds hd
    rw [List.mem_singleton] at hd
    subst hd
    exact ⟨[], [], FunD.bindsN F fun _ _ _ _ _ _ us hl => match us, hl with | [_, _], _ => rfl, .nil, fun _ => .nil⟩
theorem fo_law_whole (KX : K.In h) (GN : h.Ns mainGlobals mg) (c : He.SaysX fa fn ts [] ex w h K)  {fd : FuncData} (F : FunD K d_law_whole.name d_law_whole.qual d_law_whole.params d_law_whole.body d_law_whole.scope (d_law_whole.dvs K) (d_law_whole.kws K) (He.fAd K d_law_whole.at_) fd) : FnOk P w K mg base (L2.CX P w) 1 (He.fAd K d_law_whole.at_) fd ["_law_found"] (spD K mg 1 m_law_whole) := by
  have b_bool : mg "bool" = none := He.free_ok KX GN (c.t.d.fact 41 (f := .free "bool") rfl)
  have b_int : mg "int" = none := He.free_ok KX GN (c.t.d.fact 42 (f := .free "int") rfl)
  have b_isinstance : mg "isinstance" = none := He.free_ok KX GN (c.t.d.fact 43 (f := .free "isinstance") rfl)
  have S := sc_law_whole
  rw [mm_law_whole]
  have Z := okD (P := P) (w := w) (mg := mg) (base := base) (n := 1) (k := 0) (den := den_law_whole) F S rfl
  refine Z ?_
  intro cdv A outer s H E hr
  have tk : Takes (cxOf (L2.CX P w) P w K mg base ["_law_found"] "_law_whole" (defScope s_law_whole) (He.fAd K d_law_whole.at_) cdv A outer s H E) (fun cls d _ H => E cls d H) := takes_of rfl rfl rfl rfl
  have hp : PassesOwn (model P w) (cxOf (L2.CX P w) P w K mg base ["_law_found"] "_law_whole" (defScope s_law_whole) (He.fAd K d_law_whole.at_) cdv A outer s H E).A (cxOf (L2.CX P w) P w K mg base ["_law_found"] "_law_whole" (defScope s_law_whole) (He.fAd K d_law_whole.at_) cdv A outer s H E).env (cxOf (L2.CX P w) P w K mg base ["_law_found"] "_law_whole" (defScope s_law_whole) (He.fAd K d_law_whole.at_) cdv A outer s H E).xe := passes_of rfl
  exact sd_one (sd_ret (pe_dand (pd_isi (T := "int") b_isinstance b_int (by decide +kernel) (pd_v 0)) (pe_d1 (pe_dnot (pd_isi (T := "bool") b_isinstance b_bool (by decide +kernel) (pd_v 0))))))
theorem ok_law_whole (KX : K.In h) (GN : h.Ns mainGlobals mg) (c : He.SaysX fa fn ts [] ex w h K)  : FnAt P w K mg base "_law_whole" 1 1 [[]] m_law_whole := by
  obtain ⟨fd, F⟩ := c.t.d.def_ 25 (d := d_law_whole) rfl
  refine ⟨_, fd, ["_law_found"], fo_law_whole KX GN c  F, He.glo_ok KX GN (c.t.d.fact 25 (f := .glo "_law_whole") rfl), F.kp, ?_⟩
  · intro ds hd
    rw [List.mem_singleton] at hd
    subst hd
    exact ⟨[], [], FunD.bindsN F fun _ _ _ _ _ _ us hl => match us, hl with | [_], _ => rfl, .nil, fun _ => .nil⟩
theorem fo_law_digits (KX : K.In h) (GN : h.Ns mainGlobals mg) (c : He.SaysX fa fn ts [] ex w h K)  {fd : FuncData} (F : FunD K d_law_digits.name d_law_digits.qual d_law_digits.params d_law_digits.body d_law_digits.scope (d_law_digits.dvs K) (d_law_digits.kws K) (He.fAd K d_law_digits.at_) fd) : FnOk P w K mg base (L2.CX P w) 1 (He.fAd K d_law_digits.at_) fd ["_law_cell_here", "_law_k", "_law_many"] (spD K mg 3 m_law_digits_v3) := by
  have b_abs : mg "abs" = none := He.free_ok KX GN (c.t.d.fact 40 (f := .free "abs") rfl)
  have b_len : mg "len" = none := He.free_ok KX GN (c.t.d.fact 44 (f := .free "len") rfl)
  have b_range : mg "range" = none := He.free_ok KX GN (c.t.d.fact 46 (f := .free "range") rfl)
  have S := sc_law_digits
  rw [mm_law_digits_v3]
  have Z := okD (P := P) (w := w) (mg := mg) (base := base) (n := 3) (k := 0) (den := den_law_digits_v3) F S rfl
  refine Z ?_
  intro cdv A outer s H E hr
  have tk : Takes (cxOf (L2.CX P w) P w K mg base ["_law_cell_here", "_law_k", "_law_many", "_law_found", "_law_rest", "_law_number", "_law_j"] "_law_digits" (defScope s_law_digits) (He.fAd K d_law_digits.at_) cdv A outer s H E) (fun cls d _ H => E cls d H) := takes_of rfl rfl rfl rfl
  have hp : PassesOwn (model P w) (cxOf (L2.CX P w) P w K mg base ["_law_cell_here", "_law_k", "_law_many", "_law_found", "_law_rest", "_law_number", "_law_j"] "_law_digits" (defScope s_law_digits) (He.fAd K d_law_digits.at_) cdv A outer s H E).A (cxOf (L2.CX P w) P w K mg base ["_law_cell_here", "_law_k", "_law_many", "_law_found", "_law_rest", "_law_number", "_law_j"] "_law_digits" (defScope s_law_digits) (He.fAd K d_law_digits.at_) cdv A outer s H E).env (cxOf (L2.CX P w) P w K mg base ["_law_cell_here", "_law_k", "_law_many", "_law_found", "_law_rest", "_law_number", "_law_j"] "_law_digits" (defScope s_law_digits) (He.fAd K d_law_digits.at_) cdv A outer s H E).xe := passes_of rfl
  exact sd_cons (sd_setL 3 S.nd rfl (.inl rfl) (pl_lst (pad_nil))) (sd_cons (sd_set 4 S.nd rfl (.inl rfl) (pd_bin od_mul noEx_mul (pd_bin od_div noEx_div (pd_b cd_abs nx_abs b_abs (by decide +kernel) (pad_cons (pd_v 0) (pad_nil))) (pd_int)) (pd_bin od_sub noEx_sub (pd_int) (pd_bin od_mod noEx_mod (pd_v 0) (pd_int))))) (sd_cons (sd_while hp (pt_lend 3 (PW.pt (pw_dand (pt_cmpd od_gt noEx_cI (pd_v 4) (pd_int)) (pw_d1 (pt_cmpd od_lt noEx_cI (pd_b cd_len nx_len b_len (by decide +kernel) (pad_cons (pd_v 3) (pad_nil))) (pd_v 2)))))) (sd_cons (sd_app 3 (pd_bin od_mod noEx_mod (pd_v 4) (pd_bin od_pow noEx_pow (pd_int) (pd_int)))) (sd_one (sd_set 4 S.nd rfl (.inl rfl) (pd_bin od_div noEx_div (pd_v 4) (pd_bin od_pow noEx_pow (pd_int) (pd_int))))))) (sd_cons (sd_set 5 S.nd rfl (.inl rfl) (pd_bin od_add noEx_add (pd_bin od_add noEx_add (pd_bin od_mod noEx_mod (pd_v 0) (pd_int)) (pd_bin od_mul noEx_mul (pd_v 1) (pd_v 1))) (pd_int))) (sd_cons (sd_for hp rfl (pi_r2 rfl b_range (pad_cons (pd_lend 3 (pd_b cd_len nx_len b_len (by decide +kernel) (pad_cons (pd_v 3) (pad_nil)))) (pad_cons (pd_v 2) (pad_nil)))) (pg_name (i := 6) S.nd rfl (.inl rfl)) (sd_cons (sd_set 5 S.nd rfl (.inl rfl) (pd_bin od_mod noEx_mod (pd_bin od_add noEx_add (pd_bin od_add noEx_add (pd_bin od_mul noEx_mul (pd_v 5) (pd_int)) (pd_bin od_mul noEx_mul (pd_v 6) (pd_v 6))) (pd_v 1)) (pd_int))) (sd_one (sd_app 3 (pd_bin od_mod noEx_mod (pd_bin od_div noEx_div (pd_bin od_mod noEx_mod (pd_bin od_mul noEx_mul (pd_v 5) (pd_v 5)) (pd_int)) (pd_int)) (pd_bin od_pow noEx_pow (pd_int) (pd_int))))))) (sd_frz 3 (sd_one (sd_ret (pd_v 3))))))))
theorem ok_law_digits (KX : K.In h) (GN : h.Ns mainGlobals mg) (c : He.SaysX fa fn ts [] ex w h K)  : FnAt P w K mg base "_law_digits" 1 3 [[]] m_law_digits_v3 := by
  obtain ⟨fd, F⟩ := c.t.d.def_ 26 (d := d_law_digits) rfl
  refine ⟨_, fd, ["_law_cell_here", "_law_k", "_law_many"], fo_law_digits KX GN c  F, He.glo_ok KX GN (c.t.d.fact 26 (f := .glo "_law_digits") rfl), F.kp, ?_⟩
  · intro ds hd
    rw [List.mem_singleton] at hd
    subst hd
    exact ⟨[], [], FunD.bindsN F fun _ _ _ _ _ _ us hl => match us, hl with | [_, _, _], _ => rfl, .nil, fun _ => .nil⟩
theorem fo_law_divisor (KX : K.In h) (GN : h.Ns mainGlobals mg) (c : He.SaysX fa fn ts [] ex w h K)  {fd : FuncData} (F : FunD K d_law_divisor.name d_law_divisor.qual d_law_divisor.params d_law_divisor.body d_law_divisor.scope (d_law_divisor.dvs K) (d_law_divisor.kws K) (He.fAd K d_law_divisor.at_) fd) : FnOk P w K mg base (L2.CX P w) 1 (He.fAd K d_law_divisor.at_) fd ["_law_one", "_law_other"] (spD K mg 2 m_law_divisor_v2) := by
  have S := sc_law_divisor
  rw [mm_law_divisor_v2]
  have Z := okD (P := P) (w := w) (mg := mg) (base := base) (n := 2) (k := 0) (den := den_law_divisor_v2) F S rfl
  refine Z ?_
  intro cdv A outer s H E hr
  have tk : Takes (cxOf (L2.CX P w) P w K mg base ["_law_one", "_law_other"] "_law_divisor" (defScope s_law_divisor) (He.fAd K d_law_divisor.at_) cdv A outer s H E) (fun cls d _ H => E cls d H) := takes_of rfl rfl rfl rfl
  have hp : PassesOwn (model P w) (cxOf (L2.CX P w) P w K mg base ["_law_one", "_law_other"] "_law_divisor" (defScope s_law_divisor) (He.fAd K d_law_divisor.at_) cdv A outer s H E).A (cxOf (L2.CX P w) P w K mg base ["_law_one", "_law_other"] "_law_divisor" (defScope s_law_divisor) (He.fAd K d_law_divisor.at_) cdv A outer s H E).env (cxOf (L2.CX P w) P w K mg base ["_law_one", "_law_other"] "_law_divisor" (defScope s_law_divisor) (He.fAd K d_law_divisor.at_) cdv A outer s H E).xe := passes_of rfl
  exact sd_cons (sd_while hp (pt_cmpd (od_ne hr.units) noEx_ne (pd_v 1) (pd_int)) (sd_one (sd_par 0 1 rfl S.nd rfl rfl (by decide) rfl rfl (pd_v 1) (pd_bin od_mod noEx_mod (pd_v 0) (pd_v 1)) rfl))) (sd_one (sd_ret (pd_v 0)))
theorem ok_law_divisor (KX : K.In h) (GN : h.Ns mainGlobals mg) (c : He.SaysX fa fn ts [] ex w h K)  : FnAt P w K mg base "_law_divisor" 1 2 [[]] m_law_divisor_v2 := by
  obtain ⟨fd, F⟩ := c.t.d.def_ 27 (d := d_law_divisor) rfl
  refine ⟨_, fd, ["_law_one", "_law_other"], fo_law_divisor KX GN c  F, He.glo_ok KX GN (c.t.d.fact 27 (f := .glo "_law_divisor") rfl), F.kp, ?_⟩
  · intro ds hd
    rw [List.mem_singleton] at hd
    subst hd
    exact ⟨[], [], FunD.bindsN F fun _ _ _ _ _ _ us hl => match us, hl with | [_, _], _ => rfl, .nil, fun _ => .nil⟩
theorem fo_law_root (KX : K.In h) (GN : h.Ns mainGlobals mg) (c : He.SaysX fa fn ts [] ex w h K) (F_law_digits : FnAt P w K mg base "_law_digits" 1 3 [[]] m_law_digits_v3) (F_law_cell : FnAt P w K mg base "_law_cell" 1 2 [[]] m_law_cell) {fd : FuncData} (F : FunD K d_law_root.name d_law_root.qual d_law_root.params d_law_root.body d_law_root.scope (d_law_root.dvs K) (d_law_root.kws K) (He.fAd K d_law_root.at_) fd) : FnOk P w K mg base (L2.CX P w) 2 (He.fAd K d_law_root.at_) fd ["_law_script"] (spD K mg 1 m_law_root_v5) := by
  have S := sc_law_root
  rw [mm_law_root_v5]
  have Z := okD (P := P) (w := w) (mg := mg) (base := base) (n := 1) (k := 1) (den := den_law_root_v5) F S rfl
  refine Z ?_
  intro cdv A outer s H E hr
  have tk : Takes (cxOf (L2.CX P w) P w K mg base ["_law_script", "_law_d"] "_law_root" (defScope s_law_root) (He.fAd K d_law_root.at_) cdv A outer s H E) (fun cls d _ H => E cls d H) := takes_of rfl rfl rfl rfl
  have hp : PassesOwn (model P w) (cxOf (L2.CX P w) P w K mg base ["_law_script", "_law_d"] "_law_root" (defScope s_law_root) (He.fAd K d_law_root.at_) cdv A outer s H E).A (cxOf (L2.CX P w) P w K mg base ["_law_script", "_law_d"] "_law_root" (defScope s_law_root) (He.fAd K d_law_root.at_) cdv A outer s H E).env (cxOf (L2.CX P w) P w K mg base ["_law_script", "_law_d"] "_law_root" (defScope s_law_root) (He.fAd K d_law_root.at_) cdv A outer s H E).xe := passes_of rfl
  exact sd_cons (sd_set 1 S.nd rfl (.inl rfl) (pd_bin od_add noEx_add (pd_int) (pd_bin od_mod noEx_mod (pd_ix (pd_call F_law_digits mem0 (hr.mono (by decide)) tk rfl (pad_cons (pd_call F_law_cell mem0 (hr.mono (by decide)) tk rfl (pad_cons (pd_v 0) (pad_cons (pd_int) (pad_nil)))) (pad_cons (pd_int) (pad_cons (pd_int) (pad_nil))))) (pd_int)) (pd_int)))) (sd_cons (sd_if (pt_cmpd (od_in (un65 hr)) noEx_in (pd_v 1) (pd_lst (pad_cons (pd_int) (pad_cons (pd_int) (pad_cons (pd_int) (pad_cons (pd_int) (pad_cons (pd_int) (pad_cons (pd_int) (pad_cons (pd_int) (pad_cons (pd_int) (pad_nil))))))))))) (sd_one (sd_ret (pd_bin od_add noEx_add (pd_v 1) (pd_int)))) (sd_nil)) (sd_one (sd_ret (pd_v 1))))
theorem ok_law_root (KX : K.In h) (GN : h.Ns mainGlobals mg) (c : He.SaysX fa fn ts [] ex w h K) (F_law_digits : FnAt P w K mg base "_law_digits" 1 3 [[]] m_law_digits_v3) (F_law_cell : FnAt P w K mg base "_law_cell" 1 2 [[]] m_law_cell) : FnAt P w K mg base "_law_root" 2 1 [[]] m_law_root_v5 := by
  obtain ⟨fd, F⟩ := c.t.d.def_ 28 (d := d_law_root) rfl
  refine ⟨_, fd, ["_law_script"], fo_law_root KX GN c F_law_digits F_law_cell F, He.glo_ok KX GN (c.t.d.fact 28 (f := .glo "_law_root") rfl), F.kp, ?_⟩
  · intro ds hd
    rw [List.mem_singleton] at hd
    subst hd
    exact ⟨[], [], FunD.bindsN F fun _ _ _ _ _ _ us hl => match us, hl with | [_], _ => rfl, .nil, fun _ => .nil⟩
theorem fo_law_fraction (KX : K.In h) (GN : h.Ns mainGlobals mg) (c : He.SaysX fa fn ts [] ex w h K) (F_law_divisor : FnAt P w K mg base "_law_divisor" 1 2 [[]] m_law_divisor_v2) {fd : FuncData} (F : FunD K d_law_fraction.name d_law_fraction.qual d_law_fraction.params d_law_fraction.body d_law_fraction.scope (d_law_fraction.dvs K) (d_law_fraction.kws K) (He.fAd K d_law_fraction.at_) fd) : FnOk P w K mg base (L2.CX P w) 2 (He.fAd K d_law_fraction.at_) fd ["_law_some", "_law_great"] (spD K mg 2 m_law_fraction_v3) := by
  have b_abs : mg "abs" = none := He.free_ok KX GN (c.t.d.fact 40 (f := .free "abs") rfl)
  have S := sc_law_fraction
  rw [mm_law_fraction_v3]
  have Z := okD (P := P) (w := w) (mg := mg) (base := base) (n := 2) (k := 1) (den := den_law_fraction_v3) F S rfl
  refine Z ?_
  intro cdv A outer s H E hr
  have tk : Takes (cxOf (L2.CX P w) P w K mg base ["_law_some", "_law_great", "_law_top", "_law_bottom", "_law_thing"] "_law_fraction" (defScope s_law_fraction) (He.fAd K d_law_fraction.at_) cdv A outer s H E) (fun cls d _ H => E cls d H) := takes_of rfl rfl rfl rfl
  have hp : PassesOwn (model P w) (cxOf (L2.CX P w) P w K mg base ["_law_some", "_law_great", "_law_top", "_law_bottom", "_law_thing"] "_law_fraction" (defScope s_law_fraction) (He.fAd K d_law_fraction.at_) cdv A outer s H E).A (cxOf (L2.CX P w) P w K mg base ["_law_some", "_law_great", "_law_top", "_law_bottom", "_law_thing"] "_law_fraction" (defScope s_law_fraction) (He.fAd K d_law_fraction.at_) cdv A outer s H E).env (cxOf (L2.CX P w) P w K mg base ["_law_some", "_law_great", "_law_top", "_law_bottom", "_law_thing"] "_law_fraction" (defScope s_law_fraction) (He.fAd K d_law_fraction.at_) cdv A outer s H E).xe := passes_of rfl
  exact sd_cons (sd_set 2 S.nd rfl (.inl rfl) (pd_bin od_sub noEx_sub (pd_bin od_mod noEx_mod (pd_ix (pd_v 0) (pd_int)) (pd_int)) (pd_int))) (sd_cons (sd_set 3 S.nd rfl (.inl rfl) (pd_ix (pd_lst (pad_cons (pd_int) (pad_cons (pd_int) (pad_cons (pd_int) (pad_cons (pd_int) (pad_cons (pd_int) (pad_cons (pd_int) (pad_cons (pd_int) (pad_nil))))))))) (pd_bin od_mod noEx_mod (pd_ix (pd_v 0) (pd_int)) (pd_int)))) (sd_cons (sd_if (pt_cmpd (od_eq hr.units) noEx_eq (pd_bin od_mod noEx_mod (pd_ix (pd_v 0) (pd_int)) (pd_int)) (pd_int)) (sd_cons (sd_set 2 S.nd rfl (.inl rfl) (pd_bin od_sub noEx_sub (pd_bin od_mod noEx_mod (pd_ix (pd_v 0) (pd_int)) (pd_int)) (pd_int))) (sd_one (sd_set 3 S.nd rfl (.inl rfl) (pd_bin od_add noEx_add (pd_int) (pd_bin od_mod noEx_mod (pd_ix (pd_v 0) (pd_int)) (pd_int)))))) (sd_nil)) (sd_cons (sd_if (PW.pt (pw_dand (pt_cmpd (od_eq hr.units) noEx_eq (pd_bin od_mod noEx_mod (pd_ix (pd_v 0) (pd_int)) (pd_int)) (pd_int)) (pw_d1 (pt_d (pd_v 1))))) (sd_cons (sd_set 2 S.nd rfl (.inl rfl) (pd_bin od_add noEx_add (pd_bin od_mul noEx_mul (pd_bin od_sub noEx_sub (pd_bin od_add noEx_add (pd_bin od_mul noEx_mul (pd_ix (pd_v 0) (pd_int)) (pd_bin od_pow noEx_pow (pd_int) (pd_int))) (pd_ix (pd_v 0) (pd_int))) (pd_bin od_mul noEx_mul (pd_int) (pd_bin od_pow noEx_pow (pd_int) (pd_int)))) (pd_bin od_pow noEx_pow (pd_int) (pd_int))) (pd_ix (pd_v 0) (pd_int)))) (sd_one (sd_set 3 S.nd rfl (.inl rfl) (pd_bin od_add noEx_add (pd_bin od_add noEx_add (pd_int) (pd_bin od_mul noEx_mul (pd_ix (pd_v 0) (pd_int)) (pd_bin od_pow noEx_pow (pd_int) (pd_int)))) (pd_ix (pd_v 0) (pd_int)))))) (sd_nil)) (sd_cons (sd_set 4 S.nd rfl (.inl rfl) (pd_call F_law_divisor mem0 (hr.mono (by decide)) tk rfl (pad_cons (pd_b cd_abs nx_abs b_abs (by decide +kernel) (pad_cons (pd_v 2) (pad_nil))) (pad_cons (pd_v 3) (pad_nil))))) (sd_one (sd_ret (pd_tup (pad_cons (pd_bin od_div noEx_div (pd_v 2) (pd_v 4)) (pad_cons (pd_bin od_div noEx_div (pd_v 3) (pd_v 4)) (pad_nil))))))))))
theorem ok_law_fraction (KX : K.In h) (GN : h.Ns mainGlobals mg) (c : He.SaysX fa fn ts [] ex w h K) (F_law_divisor : FnAt P w K mg base "_law_divisor" 1 2 [[]] m_law_divisor_v2) : FnAt P w K mg base "_law_fraction" 2 2 [[]] m_law_fraction_v3 := by
  obtain ⟨fd, F⟩ := c.t.d.def_ 29 (d := d_law_fraction) rfl
  refine ⟨_, fd, ["_law_some", "_law_great"], fo_law_fraction KX GN c F_law_divisor F, He.glo_ok KX GN (c.t.d.fact 29 (f := .glo "_law_fraction") rfl), F.kp, ?_⟩
  · intro ds hd
    rw [List.mem_singleton] at hd
    subst hd
    exact ⟨[], [], FunD.bindsN F fun _ _ _ _ _ _ us hl => match us, hl with | [_, _], _ => rfl, .nil, fun _ => .nil⟩
theorem fo_law_above (KX : K.In h) (GN : h.Ns mainGlobals mg) (c : He.SaysX fa fn ts [] ex w h K)  {fd : FuncData} (F : FunD K d_law_above.name d_law_above.qual d_law_above.params d_law_above.body d_law_above.scope (d_law_above.dvs K) (d_law_above.kws K) (He.fAd K d_law_above.at_) fd) : FnOk P w K mg base (L2.CX P w) 1 (He.fAd K d_law_above.at_) fd ["_law_d", "_law_first", "_law_second"] (spD K mg 3 m_law_above) := by
  have S := sc_law_above
  rw [mm_law_above]
  have Z := okD (P := P) (w := w) (mg := mg) (base := base) (n := 3) (k := 0) (den := den_law_above) F S rfl
  refine Z ?_
  intro cdv A outer s H E hr
  have tk : Takes (cxOf (L2.CX P w) P w K mg base ["_law_d", "_law_first", "_law_second", "_law_a", "_law_b"] "_law_above" (defScope s_law_above) (He.fAd K d_law_above.at_) cdv A outer s H E) (fun cls d _ H => E cls d H) := takes_of rfl rfl rfl rfl
  have hp : PassesOwn (model P w) (cxOf (L2.CX P w) P w K mg base ["_law_d", "_law_first", "_law_second", "_law_a", "_law_b"] "_law_above" (defScope s_law_above) (He.fAd K d_law_above.at_) cdv A outer s H E).A (cxOf (L2.CX P w) P w K mg base ["_law_d", "_law_first", "_law_second", "_law_a", "_law_b"] "_law_above" (defScope s_law_above) (He.fAd K d_law_above.at_) cdv A outer s H E).env (cxOf (L2.CX P w) P w K mg base ["_law_d", "_law_first", "_law_second", "_law_a", "_law_b"] "_law_above" (defScope s_law_above) (He.fAd K d_law_above.at_) cdv A outer s H E).xe := passes_of rfl
  exact sd_cons (sd_set 3 S.nd rfl (.inl rfl) (pd_bin od_mul noEx_mul (pd_ix (pd_v 1) (pd_int)) (pd_ix (pd_v 2) (pd_int)))) (sd_cons (sd_set 4 S.nd rfl (.inl rfl) (pd_bin od_mul noEx_mul (pd_ix (pd_v 2) (pd_int)) (pd_ix (pd_v 1) (pd_int)))) (sd_cons (sd_if (PW.pt (pw_dand (pt_cmpd od_ge noEx_cI (pd_v 3) (pd_int)) (pw_d1 (pt_cmpd od_ge noEx_cI (pd_v 4) (pd_int))))) (sd_one (sd_ret (pd_cmp od_gt noEx_cI (pd_bin od_add noEx_add (pd_v 3) (pd_v 4)) (pd_int)))) (sd_nil)) (sd_cons (sd_if (PW.pt (pw_dand (pt_cmpd od_le noEx_cI (pd_v 3) (pd_int)) (pw_d1 (pt_cmpd od_le noEx_cI (pd_v 4) (pd_int))))) (sd_one (sd_ret (pd_bl))) (sd_nil)) (sd_one (sd_ret (pd_cmp (od_eq hr.units) noEx_eq (pd_cmp od_gt noEx_cI (pd_v 3) (pd_int)) (pd_cmp od_gt noEx_cI (pd_bin od_mul noEx_mul (pd_v 3) (pd_v 3)) (pd_bin od_mul noEx_mul (pd_bin od_mul noEx_mul (pd_v 0) (pd_v 4)) (pd_v 4)))))))))
theorem ok_law_above (KX : K.In h) (GN : h.Ns mainGlobals mg) (c : He.SaysX fa fn ts [] ex w h K)  : FnAt P w K mg base "_law_above" 1 3 [[]] m_law_above := by
  obtain ⟨fd, F⟩ := c.t.d.def_ 30 (d := d_law_above) rfl
  refine ⟨_, fd, ["_law_d", "_law_first", "_law_second"], fo_law_above KX GN c  F, He.glo_ok KX GN (c.t.d.fact 30 (f := .glo "_law_above") rfl), F.kp, ?_⟩
  · intro ds hd
    rw [List.mem_singleton] at hd
    subst hd
    exact ⟨[], [], FunD.bindsN F fun _ _ _ _ _ _ us hl => match us, hl with | [_, _, _], _ => rfl, .nil, fun _ => .nil⟩
theorem fo_law_side (KX : K.In h) (GN : h.Ns mainGlobals mg) (c : He.SaysX fa fn ts [] ex w h K) (F_law_fraction : FnAt P w K mg base "_law_fraction" 2 2 [[]] m_law_fraction_v3) (F_law_above : FnAt P w K mg base "_law_above" 1 3 [[]] m_law_above) {fd : FuncData} (F : FunD K d_law_side.name d_law_side.qual d_law_side.params d_law_side.body d_law_side.scope (d_law_side.dvs K) (d_law_side.kws K) (He.fAd K d_law_side.at_) fd) : FnOk P w K mg base (L2.CX P w) 3 (He.fAd K d_law_side.at_) fd ["_law_d", "_law_some", "_law_great"] (spD K mg 3 m_law_side_v5) := by
  have S := sc_law_side
  rw [mm_law_side_v5]
  have Z := okD (P := P) (w := w) (mg := mg) (base := base) (n := 3) (k := 2) (den := den_law_side_v5) F S rfl
  refine Z ?_
  intro cdv A outer s H E hr
  have tk : Takes (cxOf (L2.CX P w) P w K mg base ["_law_d", "_law_some", "_law_great", "_law_first", "_law_second"] "_law_side" (defScope s_law_side) (He.fAd K d_law_side.at_) cdv A outer s H E) (fun cls d _ H => E cls d H) := takes_of rfl rfl rfl rfl
  have hp : PassesOwn (model P w) (cxOf (L2.CX P w) P w K mg base ["_law_d", "_law_some", "_law_great", "_law_first", "_law_second"] "_law_side" (defScope s_law_side) (He.fAd K d_law_side.at_) cdv A outer s H E).A (cxOf (L2.CX P w) P w K mg base ["_law_d", "_law_some", "_law_great", "_law_first", "_law_second"] "_law_side" (defScope s_law_side) (He.fAd K d_law_side.at_) cdv A outer s H E).env (cxOf (L2.CX P w) P w K mg base ["_law_d", "_law_some", "_law_great", "_law_first", "_law_second"] "_law_side" (defScope s_law_side) (He.fAd K d_law_side.at_) cdv A outer s H E).xe := passes_of rfl
  exact sd_cons (sd_set 3 S.nd rfl (.inl rfl) (pd_call F_law_fraction mem0 (hr.mono (by decide)) tk rfl (pad_cons (pd_sl (pd_v 1) (po_d0) (po_d (pd_int))) (pad_cons (pd_v 2) (pad_nil))))) (sd_cons (sd_set 4 S.nd rfl (.inl rfl) (pd_call F_law_fraction mem0 (hr.mono (by decide)) tk rfl (pad_cons (pd_sl (pd_v 1) (po_d (pd_int)) (po_d (pd_int))) (pad_cons (pd_v 2) (pad_nil))))) (sd_cons (sd_if (pt_cmpd (od_eq hr.units) noEx_eq (pd_bin od_mod noEx_mod (pd_ix (pd_v 1) (pd_int)) (pd_int)) (pd_int)) (sd_one (sd_set 4 S.nd rfl (.inl rfl) (pd_tup (pad_cons (pd_int) (pad_cons (pd_int) (pad_nil)))))) (sd_nil)) (sd_cons (sd_if (pt_cmpd (od_eq hr.units) noEx_eq (pd_bin od_mod noEx_mod (pd_ix (pd_v 1) (pd_int)) (pd_int)) (pd_int)) (sd_one (sd_set 3 S.nd rfl (.inl rfl) (pd_tup (pad_cons (pd_int) (pad_cons (pd_int) (pad_nil)))))) (sd_nil)) (sd_cons (sd_if (PW.pt (pw_dand (pt_cmpd (od_eq hr.units) noEx_eq (pd_ix (pd_v 3) (pd_int)) (pd_int)) (pw_d1 (pt_cmpd (od_eq hr.units) noEx_eq (pd_ix (pd_v 4) (pd_int)) (pd_int))))) (sd_one (sd_ret (pd_tup (pad_cons (pd_tup (pad_cons (pd_int) (pad_cons (pd_int) (pad_nil)))) (pad_cons (pd_tup (pad_cons (pd_int) (pad_cons (pd_int) (pad_nil)))) (pad_nil)))))) (sd_nil)) (sd_cons (sd_if (pt_dnot (pt_d (pd_call F_law_above mem0 (hr.mono (by decide)) tk rfl (pad_cons (pd_v 0) (pad_cons (pd_v 3) (pad_cons (pd_v 4) (pad_nil))))))) (sd_one (sd_ret (pd_tup (pad_cons (pd_tup (pad_cons (pd_bin od_sub noEx_sub (pd_int) (pd_ix (pd_v 3) (pd_int))) (pad_cons (pd_ix (pd_v 3) (pd_int)) (pad_nil)))) (pad_cons (pd_tup (pad_cons (pd_bin od_sub noEx_sub (pd_int) (pd_ix (pd_v 4) (pd_int))) (pad_cons (pd_ix (pd_v 4) (pd_int)) (pad_nil)))) (pad_nil)))))) (sd_nil)) (sd_one (sd_ret (pd_tup (pad_cons (pd_v 3) (pad_cons (pd_v 4) (pad_nil)))))))))))
theorem ok_law_side (KX : K.In h) (GN : h.Ns mainGlobals mg) (c : He.SaysX fa fn ts [] ex w h K) (F_law_fraction : FnAt P w K mg base "_law_fraction" 2 2 [[]] m_law_fraction_v3) (F_law_above : FnAt P w K mg base "_law_above" 1 3 [[]] m_law_above) : FnAt P w K mg base "_law_side" 3 3 [[]] m_law_side_v5 := by
  obtain ⟨fd, F⟩ := c.t.d.def_ 31 (d := d_law_side) rfl
  refine ⟨_, fd, ["_law_d", "_law_some", "_law_great"], fo_law_side KX GN c F_law_fraction F_law_above F, He.glo_ok KX GN (c.t.d.fact 31 (f := .glo "_law_side") rfl), F.kp, ?_⟩
  · intro ds hd
    rw [List.mem_singleton] at hd
    subst hd
    exact ⟨[], [], FunD.bindsN F fun _ _ _ _ _ _ us hl => match us, hl with | [_, _, _], _ => rfl, .nil, fun _ => .nil⟩
theorem fo_law_length (KX : K.In h) (GN : h.Ns mainGlobals mg) (c : He.SaysX fa fn ts [] ex w h K) (F_law_side : FnAt P w K mg base "_law_side" 3 3 [[]] m_law_side_v5) (F_by_parts : FnAt P w K mg base "by_parts" 3 2 [[]] m_by_parts) {fd : FuncData} (F : FunD K d_law_length.name d_law_length.qual d_law_length.params d_law_length.body d_law_length.scope (d_law_length.dvs K) (d_law_length.kws K) (He.fAd K d_law_length.at_) fd) : FnOk P w K mg base (L2.CX P w) 4 (He.fAd K d_law_length.at_) fd ["_law_d", "_law_some"] (spD K mg 2 m_law_length_v3) := by
  have S := sc_law_length
  rw [mm_law_length_v3]
  have Z := okD (P := P) (w := w) (mg := mg) (base := base) (n := 2) (k := 3) (den := den_law_length_v3) F S rfl
  refine Z ?_
  intro cdv A outer s H E hr
  have tk : Takes (cxOf (L2.CX P w) P w K mg base ["_law_d", "_law_some", "_law_parts_of_it"] "_law_length" (defScope s_law_length) (He.fAd K d_law_length.at_) cdv A outer s H E) (fun cls d _ H => E cls d H) := takes_of rfl rfl rfl rfl
  have hp : PassesOwn (model P w) (cxOf (L2.CX P w) P w K mg base ["_law_d", "_law_some", "_law_parts_of_it"] "_law_length" (defScope s_law_length) (He.fAd K d_law_length.at_) cdv A outer s H E).A (cxOf (L2.CX P w) P w K mg base ["_law_d", "_law_some", "_law_parts_of_it"] "_law_length" (defScope s_law_length) (He.fAd K d_law_length.at_) cdv A outer s H E).env (cxOf (L2.CX P w) P w K mg base ["_law_d", "_law_some", "_law_parts_of_it"] "_law_length" (defScope s_law_length) (He.fAd K d_law_length.at_) cdv A outer s H E).xe := passes_of rfl
  exact sd_cons (sd_set 2 S.nd rfl (.inl rfl) (pd_call F_law_side mem0 (hr.mono (by decide)) tk rfl (pad_cons (pd_v 0) (pad_cons (pd_v 1) (pad_cons (pd_bl) (pad_nil)))))) (sd_one (sd_ret (pd_call F_by_parts mem0 (hr.mono (by decide)) tk rfl (pad_cons (pd_ix (pd_v 2) (pd_int)) (pad_cons (pd_ix (pd_v 2) (pd_int)) (pad_nil))))))
theorem ok_law_length (KX : K.In h) (GN : h.Ns mainGlobals mg) (c : He.SaysX fa fn ts [] ex w h K) (F_law_side : FnAt P w K mg base "_law_side" 3 3 [[]] m_law_side_v5) (F_by_parts : FnAt P w K mg base "by_parts" 3 2 [[]] m_by_parts) : FnAt P w K mg base "_law_length" 4 2 [[]] m_law_length_v3 := by
  obtain ⟨fd, F⟩ := c.t.d.def_ 32 (d := d_law_length) rfl
  refine ⟨_, fd, ["_law_d", "_law_some"], fo_law_length KX GN c F_law_side F_by_parts F, He.glo_ok KX GN (c.t.d.fact 32 (f := .glo "_law_length") rfl), F.kp, ?_⟩
  · intro ds hd
    rw [List.mem_singleton] at hd
    subst hd
    exact ⟨[], [], FunD.bindsN F fun _ _ _ _ _ _ us hl => match us, hl with | [_, _], _ => rfl, .nil, fun _ => .nil⟩
theorem fo_law_heap (KX : K.In h) (GN : h.Ns mainGlobals mg) (c : He.SaysX fa fn ts [] ex w h K) (F_law_digits : FnAt P w K mg base "_law_digits" 1 3 [[]] m_law_digits_v3) (F_law_length : FnAt P w K mg base "_law_length" 4 2 [[]] m_law_length_v3) {fd : FuncData} (F : FunD K d_law_heap.name d_law_heap.qual d_law_heap.params d_law_heap.body d_law_heap.scope (d_law_heap.dvs K) (d_law_heap.kws K) (He.fAd K d_law_heap.at_) fd) : FnOk P w K mg base (L2.CX P w) 5 (He.fAd K d_law_heap.at_) fd ["_law_d", "_law_cells"] (spD K mg 2 m_law_heap_v4) := by
  have b_len : mg "len" = none := He.free_ok KX GN (c.t.d.fact 44 (f := .free "len") rfl)
  have b_range : mg "range" = none := He.free_ok KX GN (c.t.d.fact 46 (f := .free "range") rfl)
  have S := sc_law_heap
  rw [mm_law_heap_v4]
  have Z := okD (P := P) (w := w) (mg := mg) (base := base) (n := 2) (k := 4) (den := den_law_heap_v4) F S rfl
  refine Z ?_
  intro cdv A outer s H E hr
  have tk : Takes (cxOf (L2.CX P w) P w K mg base ["_law_d", "_law_cells", "_law_found", "_law_k", "_law_some"] "_law_heap" (defScope s_law_heap) (He.fAd K d_law_heap.at_) cdv A outer s H E) (fun cls d _ H => E cls d H) := takes_of rfl rfl rfl rfl
  have hp : PassesOwn (model P w) (cxOf (L2.CX P w) P w K mg base ["_law_d", "_law_cells", "_law_found", "_law_k", "_law_some"] "_law_heap" (defScope s_law_heap) (He.fAd K d_law_heap.at_) cdv A outer s H E).A (cxOf (L2.CX P w) P w K mg base ["_law_d", "_law_cells", "_law_found", "_law_k", "_law_some"] "_law_heap" (defScope s_law_heap) (He.fAd K d_law_heap.at_) cdv A outer s H E).env (cxOf (L2.CX P w) P w K mg base ["_law_d", "_law_cells", "_law_found", "_law_k", "_law_some"] "_law_heap" (defScope s_law_heap) (He.fAd K d_law_heap.at_) cdv A outer s H E).xe := passes_of rfl
  exact sd_cons (sd_setL 2 S.nd rfl (.inl rfl) (pl_lst (pad_nil))) (sd_cons (sd_for hp rfl (pi_r1 rfl b_range (pad_cons (pd_b cd_len nx_len b_len (by decide +kernel) (pad_cons (pd_v 1) (pad_nil))) (pad_nil))) (pg_name (i := 3) S.nd rfl (.inl rfl)) (sd_cons (sd_set 4 S.nd rfl (.inl rfl) (pd_call F_law_digits mem0 (hr.mono (by decide)) tk rfl (pad_cons (pd_ix (pd_v 1) (pd_v 3)) (pad_cons (pd_bin od_add noEx_add (pd_v 3) (pd_int)) (pad_cons (pd_int) (pad_nil)))))) (sd_one (sd_app 2 (pd_tup (pad_cons (pd_call F_law_length mem0 (hr.mono (by decide)) tk rfl (pad_cons (pd_v 0) (pad_cons (pd_sl (pd_v 4) (po_d0) (po_d (pd_int))) (pad_nil)))) (pad_cons (pd_call F_law_length mem0 (hr.mono (by decide)) tk rfl (pad_cons (pd_v 0) (pad_cons (pd_sl (pd_v 4) (po_d (pd_int)) (po_d0)) (pad_nil)))) (pad_nil)))))))) (sd_frz 2 (sd_one (sd_ret (pd_v 2)))))
theorem ok_law_heap (KX : K.In h) (GN : h.Ns mainGlobals mg) (c : He.SaysX fa fn ts [] ex w h K) (F_law_digits : FnAt P w K mg base "_law_digits" 1 3 [[]] m_law_digits_v3) (F_law_length : FnAt P w K mg base "_law_length" 4 2 [[]] m_law_length_v3) : FnAt P w K mg base "_law_heap" 5 2 [[]] m_law_heap_v4 := by
  obtain ⟨fd, F⟩ := c.t.d.def_ 33 (d := d_law_heap) rfl
  refine ⟨_, fd, ["_law_d", "_law_cells"], fo_law_heap KX GN c F_law_digits F_law_length F, He.glo_ok KX GN (c.t.d.fact 33 (f := .glo "_law_heap") rfl), F.kp, ?_⟩
  · intro ds hd
    rw [List.mem_singleton] at hd
    subst hd
    exact ⟨[], [], FunD.bindsN F fun _ _ _ _ _ _ us hl => match us, hl with | [_, _], _ => rfl, .nil, fun _ => .nil⟩
theorem fo_law_is_side (KX : K.In h) (GN : h.Ns mainGlobals mg) (c : He.SaysX fa fn ts [] ex w h K) (F_law_above : FnAt P w K mg base "_law_above" 1 3 [[]] m_law_above) (F_law_divisor : FnAt P w K mg base "_law_divisor" 1 2 [[]] m_law_divisor_v2) (F_law_whole : FnAt P w K mg base "_law_whole" 1 1 [[]] m_law_whole) {fd : FuncData} (F : FunD K d_law_is_side.name d_law_is_side.qual d_law_is_side.params d_law_is_side.body d_law_is_side.scope (d_law_is_side.dvs K) (d_law_is_side.kws K) (He.fAd K d_law_is_side.at_) fd) : FnOk P w K mg base (L2.CX P w) 2 (He.fAd K d_law_is_side.at_) fd ["_law_d", "_law_thing"] (spD K mg 2 m_law_is_side_v4) := by
  have b_abs : mg "abs" = none := He.free_ok KX GN (c.t.d.fact 40 (f := .free "abs") rfl)
  have b_isinstance : mg "isinstance" = none := He.free_ok KX GN (c.t.d.fact 43 (f := .free "isinstance") rfl)
  have b_len : mg "len" = none := He.free_ok KX GN (c.t.d.fact 44 (f := .free "len") rfl)
  have b_tuple : mg "tuple" = none := He.free_ok KX GN (c.t.d.fact 47 (f := .free "tuple") rfl)
  have S := sc_law_is_side
  rw [mm_law_is_side_v4]
  have Z := okD (P := P) (w := w) (mg := mg) (base := base) (n := 2) (k := 1) (den := den_law_is_side_v4) F S rfl
  refine Z ?_
  intro cdv A outer s H E hr
  have tk : Takes (cxOf (L2.CX P w) P w K mg base ["_law_d", "_law_thing", "_law_one", "_law_a", "_law_b", "_law_n"] "_law_is_side" (defScope s_law_is_side) (He.fAd K d_law_is_side.at_) cdv A outer s H E) (fun cls d _ H => E cls d H) := takes_of rfl rfl rfl rfl
  have hp : PassesOwn (model P w) (cxOf (L2.CX P w) P w K mg base ["_law_d", "_law_thing", "_law_one", "_law_a", "_law_b", "_law_n"] "_law_is_side" (defScope s_law_is_side) (He.fAd K d_law_is_side.at_) cdv A outer s H E).A (cxOf (L2.CX P w) P w K mg base ["_law_d", "_law_thing", "_law_one", "_law_a", "_law_b", "_law_n"] "_law_is_side" (defScope s_law_is_side) (He.fAd K d_law_is_side.at_) cdv A outer s H E).env (cxOf (L2.CX P w) P w K mg base ["_law_d", "_law_thing", "_law_one", "_law_a", "_law_b", "_law_n"] "_law_is_side" (defScope s_law_is_side) (He.fAd K d_law_is_side.at_) cdv A outer s H E).xe := passes_of rfl
  exact sd_cons (sd_if (PW.pt (pw_dor (pt_dnot (pt_d (pd_isi (T := "tuple") b_isinstance b_tuple (by decide +kernel) (pd_v 1)))) (pw_dor (pt_cmpd (od_ne hr.units) noEx_ne (pd_b cd_len nx_len b_len (by decide +kernel) (pad_cons (pd_v 1) (pad_nil))) (pd_int)) (pw_o1 (pt_cmpd (od_ne hr.units) noEx_ne (pd_b cd_len nx_len b_len (by decide +kernel) (pad_cons (pd_lc [("_law_one", 2)] rfl S.nd (pi_t (pd_v 1)) (blkOk_by (N := ["_law_d", "_law_thing", "_law_one", "_law_a", "_law_b", "_law_n"]) (sc := defScope s_law_is_side) (own := [("_law_one", 2)]) (by decide +kernel)) (by decide) (fun _ _ _ _ _ => pg_name (i := 2) S.nd rfl (.inl rfl)) (fun _ _ _ _ _ => pts_one (pt_d (pd_call F_law_whole mem0 (hr.mono (by decide)) takes0 rfl (pad_cons (pd_v 2) (pad_nil))))) (fun _ _ _ _ _ => pd_v 2)) (pad_nil))) (pd_int)))))) (sd_one (sd_ret (pd_bl))) (sd_nil)) (sd_cons (sd_asg (pg_tup rfl (pgs_cons (pg_name (i := 3) S.nd rfl (.inl rfl)) (pgs_cons (pg_name (i := 4) S.nd rfl (.inl rfl)) (pgs_cons (pg_name (i := 5) S.nd rfl (.inl rfl)) (pgs_nil))))) (pd_v 1)) (sd_cons (sd_if (PW.pt (pw_dor (pt_cmpd od_lt noEx_cI (pd_v 5) (pd_int)) (pw_o1 (pt_cmpd (od_ne hr.units) noEx_ne (pd_call F_law_divisor mem0 (hr.mono (by decide)) tk rfl (pad_cons (pd_call F_law_divisor mem0 (hr.mono (by decide)) tk rfl (pad_cons (pd_b cd_abs nx_abs b_abs (by decide +kernel) (pad_cons (pd_v 3) (pad_nil))) (pad_cons (pd_b cd_abs nx_abs b_abs (by decide +kernel) (pad_cons (pd_v 4) (pad_nil))) (pad_nil)))) (pad_cons (pd_v 5) (pad_nil)))) (pd_int))))) (sd_one (sd_ret (pd_bl))) (sd_nil)) (sd_one (sd_ret (pd_call F_law_above mem0 (hr.mono (by decide)) tk rfl (pad_cons (pd_v 0) (pad_cons (pd_tup (pad_cons (pd_v 3) (pad_cons (pd_int) (pad_nil)))) (pad_cons (pd_tup (pad_cons (pd_v 4) (pad_cons (pd_int) (pad_nil)))) (pad_nil)))))))))
theorem ok_law_is_side (KX : K.In h) (GN : h.Ns mainGlobals mg) (c : He.SaysX fa fn ts [] ex w h K) (F_law_above : FnAt P w K mg base "_law_above" 1 3 [[]] m_law_above) (F_law_divisor : FnAt P w K mg base "_law_divisor" 1 2 [[]] m_law_divisor_v2) (F_law_whole : FnAt P w K mg base "_law_whole" 1 1 [[]] m_law_whole) : FnAt P w K mg base "_law_is_side" 2 2 [[]] m_law_is_side_v4 := by
  obtain ⟨fd, F⟩ := c.t.d.def_ 34 (d := d_law_is_side) rfl
  refine ⟨_, fd, ["_law_d", "_law_thing"], fo_law_is_side KX GN c F_law_above F_law_divisor F_law_whole F, He.glo_ok KX GN (c.t.d.fact 34 (f := .glo "_law_is_side") rfl), F.kp, ?_⟩
  · intro ds hd
    rw [List.mem_singleton] at hd
    subst hd
    exact ⟨[], [], FunD.bindsN F fun _ _ _ _ _ _ us hl => match us, hl with | [_, _], _ => rfl, .nil, fun _ => .nil⟩
theorem fo_law_tab (KX : K.In h) (GN : h.Ns mainGlobals mg) (c : He.SaysX fa fn ts [] ex w h K)  {fd : FuncData} (F : FunD K d_law_tab.name d_law_tab.qual d_law_tab.params d_law_tab.body d_law_tab.scope (d_law_tab.dvs K) (d_law_tab.kws K) (He.fAd K d_law_tab.at_) fd) : FnOk P w K mg base (L2.CX P w) 1 (He.fAd K d_law_tab.at_) fd ["_law_heap_here"] (spD K mg 1 m_law_tab) := by
  have b_range : mg "range" = none := He.free_ok KX GN (c.t.d.fact 46 (f := .free "range") rfl)
  have S := sc_law_tab
  rw [mm_law_tab]
  have Z := okD (P := P) (w := w) (mg := mg) (base := base) (n := 1) (k := 0) (den := den_law_tab) F S rfl
  refine Z ?_
  intro cdv A outer s H E hr
  have tk : Takes (cxOf (L2.CX P w) P w K mg base ["_law_heap_here", "_law_bottom", "_law_width", "_law_height", "_law_places", "_law_share", "_law_k"] "_law_tab" (defScope s_law_tab) (He.fAd K d_law_tab.at_) cdv A outer s H E) (fun cls d _ H => E cls d H) := takes_of rfl rfl rfl rfl
  have hp : PassesOwn (model P w) (cxOf (L2.CX P w) P w K mg base ["_law_heap_here", "_law_bottom", "_law_width", "_law_height", "_law_places", "_law_share", "_law_k"] "_law_tab" (defScope s_law_tab) (He.fAd K d_law_tab.at_) cdv A outer s H E).A (cxOf (L2.CX P w) P w K mg base ["_law_heap_here", "_law_bottom", "_law_width", "_law_height", "_law_places", "_law_share", "_law_k"] "_law_tab" (defScope s_law_tab) (He.fAd K d_law_tab.at_) cdv A outer s H E).env (cxOf (L2.CX P w) P w K mg base ["_law_heap_here", "_law_bottom", "_law_width", "_law_height", "_law_places", "_law_share", "_law_k"] "_law_tab" (defScope s_law_tab) (He.fAd K d_law_tab.at_) cdv A outer s H E).xe := passes_of rfl
  exact sd_cons (sd_set 1 S.nd rfl (.inl rfl) (pd_int)) (sd_cons (sd_for hp rfl (pi_l (pd_v 0)) (pg_tup rfl (pgs_cons (pg_name (i := 2) S.nd rfl (.inl rfl)) (pgs_cons (pg_name (i := 3) S.nd rfl (.inl rfl)) (pgs_nil)))) (sd_one (sd_set 1 S.nd rfl (.inl rfl) (pd_bin od_mul noEx_mul (pd_bin od_mul noEx_mul (pd_v 1) (pd_ix (pd_v 2) (pd_int))) (pd_ix (pd_v 3) (pd_int)))))) (sd_cons (sd_setL 4 S.nd rfl (.inl rfl) (pl_lst (pad_cons (pd_int) (pad_cons (pd_int) (pad_cons (pd_int) (pad_cons (pd_int) (pad_nil))))))) (sd_cons (sd_for hp rfl (pi_l (pd_v 0)) (pg_tup rfl (pgs_cons (pg_name (i := 2) S.nd rfl (.inl rfl)) (pgs_cons (pg_name (i := 3) S.nd rfl (.inl rfl)) (pgs_nil)))) (sd_cons (sd_set 5 S.nd rfl (.inl rfl) (pd_bin od_div noEx_div (pd_v 1) (pd_bin od_mul noEx_mul (pd_ix (pd_v 2) (pd_int)) (pd_ix (pd_v 3) (pd_int))))) (sd_one (sd_for hp rfl (pi_r1 rfl b_range (pad_cons (pd_int) (pad_nil))) (pg_name (i := 6) S.nd rfl (.inl rfl)) (sd_one (sd_put 4 (pd_v 6) (pd_bin od_add noEx_add (pd_ixO 4 (pd_v 6)) (pd_bin od_mul noEx_mul (pd_bin od_mul noEx_mul (pd_ix (pd_v 2) (pd_bin od_div noEx_div (pd_v 6) (pd_int))) (pd_ix (pd_v 3) (pd_bin od_mod noEx_mod (pd_v 6) (pd_int)))) (pd_v 5))))))))) (sd_frz 4 (sd_one (sd_ret (pd_lst (pad_cons (pd_v 4) (pad_cons (pd_v 1) (pad_nil))))))))))
theorem ok_law_tab (KX : K.In h) (GN : h.Ns mainGlobals mg) (c : He.SaysX fa fn ts [] ex w h K)  : FnAt P w K mg base "_law_tab" 1 1 [[]] m_law_tab := by
  obtain ⟨fd, F⟩ := c.t.d.def_ 35 (d := d_law_tab) rfl
  refine ⟨_, fd, ["_law_heap_here"], fo_law_tab KX GN c  F, He.glo_ok KX GN (c.t.d.fact 35 (f := .glo "_law_tab") rfl), F.kp, ?_⟩
  · intro ds hd
    rw [List.mem_singleton] at hd
    subst hd
    exact ⟨[], [], FunD.bindsN F fun _ _ _ _ _ _ us hl => match us, hl with | [_], _ => rfl, .nil, fun _ => .nil⟩
theorem fo_law_like (KX : K.In h) (GN : h.Ns mainGlobals mg) (c : He.SaysX fa fn ts [] ex w h K) (F_law_tab : FnAt P w K mg base "_law_tab" 1 1 [[]] m_law_tab) {fd : FuncData} (F : FunD K d_law_like.name d_law_like.qual d_law_like.params d_law_like.body d_law_like.scope (d_law_like.dvs K) (d_law_like.kws K) (He.fAd K d_law_like.at_) fd) : FnOk P w K mg base (L2.CX P w) 2 (He.fAd K d_law_like.at_) fd ["_law_one", "_law_other"] (spD K mg 2 m_law_like) := by
  have S := sc_law_like
  rw [mm_law_like]
  have Z := okD (P := P) (w := w) (mg := mg) (base := base) (n := 2) (k := 1) (den := den_law_like) F S rfl
  refine Z ?_
  intro cdv A outer s H E hr
  have tk : Takes (cxOf (L2.CX P w) P w K mg base ["_law_one", "_law_other", "_law_first", "_law_second", "_law_place"] "_law_like" (defScope s_law_like) (He.fAd K d_law_like.at_) cdv A outer s H E) (fun cls d _ H => E cls d H) := takes_of rfl rfl rfl rfl
  have hp : PassesOwn (model P w) (cxOf (L2.CX P w) P w K mg base ["_law_one", "_law_other", "_law_first", "_law_second", "_law_place"] "_law_like" (defScope s_law_like) (He.fAd K d_law_like.at_) cdv A outer s H E).A (cxOf (L2.CX P w) P w K mg base ["_law_one", "_law_other", "_law_first", "_law_second", "_law_place"] "_law_like" (defScope s_law_like) (He.fAd K d_law_like.at_) cdv A outer s H E).env (cxOf (L2.CX P w) P w K mg base ["_law_one", "_law_other", "_law_first", "_law_second", "_law_place"] "_law_like" (defScope s_law_like) (He.fAd K d_law_like.at_) cdv A outer s H E).xe := passes_of rfl
  exact sd_cons (sd_set 2 S.nd rfl (.inr rfl) (pd_call F_law_tab mem0 (hr.mono (by decide)) tk rfl (pad_cons (pd_v 0) (pad_nil)))) (sd_cons (sd_set 3 S.nd rfl (.inr rfl) (pd_call F_law_tab mem0 (hr.mono (by decide)) tk rfl (pad_cons (pd_v 1) (pad_nil)))) (sd_one (sd_ret (pd_cmp (od_eq hr.units) noEx_eq (pd_lc [("_law_place", 4)] rfl S.nd (pi_l (pd_ix (pd_v 2) (pd_int))) (blkOk_by (N := ["_law_one", "_law_other", "_law_first", "_law_second", "_law_place"]) (sc := defScope s_law_like) (own := [("_law_place", 4)]) (by decide +kernel)) (by decide) (fun _ _ _ _ _ => pg_name (i := 4) S.nd rfl (.inl rfl)) (fun _ _ _ _ _ => ptd_nil) (fun _ _ _ _ _ => pd_bin od_mul noEx_mul (pd_v 4) (pd_ix (pd_v 3) (pd_int)))) (pd_lc [("_law_place", 4)] rfl S.nd (pi_l (pd_ix (pd_v 3) (pd_int))) (blkOk_by (N := ["_law_one", "_law_other", "_law_first", "_law_second", "_law_place"]) (sc := defScope s_law_like) (own := [("_law_place", 4)]) (by decide +kernel)) (by decide) (fun _ _ _ _ _ => pg_name (i := 4) S.nd rfl (.inl rfl)) (fun _ _ _ _ _ => ptd_nil) (fun _ _ _ _ _ => pd_bin od_mul noEx_mul (pd_v 4) (pd_ix (pd_v 2) (pd_int))))))))
theorem ok_law_like (KX : K.In h) (GN : h.Ns mainGlobals mg) (c : He.SaysX fa fn ts [] ex w h K) (F_law_tab : FnAt P w K mg base "_law_tab" 1 1 [[]] m_law_tab) : FnAt P w K mg base "_law_like" 2 2 [[]] m_law_like := by
  obtain ⟨fd, F⟩ := c.t.d.def_ 36 (d := d_law_like) rfl
  refine ⟨_, fd, ["_law_one", "_law_other"], fo_law_like KX GN c F_law_tab F, He.glo_ok KX GN (c.t.d.fact 36 (f := .glo "_law_like") rfl), F.kp, ?_⟩
  · intro ds hd
    rw [List.mem_singleton] at hd
    subst hd
    exact ⟨[], [], FunD.bindsN F fun _ _ _ _ _ _ us hl => match us, hl with | [_, _], _ => rfl, .nil, fun _ => .nil⟩
theorem fo_law_due (KX : K.In h) (GN : h.Ns mainGlobals mg) (c : He.SaysX fa fn ts [] ex w h K) (F_counts : FnAt P w K mg base "counts" 5 3 [[]] m_counts) {fd : FuncData} (F : FunD K d_law_due.name d_law_due.qual d_law_due.params d_law_due.body d_law_due.scope (d_law_due.dvs K) (d_law_due.kws K) (He.fAd K d_law_due.at_) fd) : FnOk P w K mg base (L2.CX P w) 6 (He.fAd K d_law_due.at_) fd ["_law_d", "_law_heap_here", "_law_base"] (spD K mg 3 m_law_due_v4) := by
  have b_range : mg "range" = none := He.free_ok KX GN (c.t.d.fact 46 (f := .free "range") rfl)
  have S := sc_law_due
  rw [mm_law_due_v4]
  have Z := okD (P := P) (w := w) (mg := mg) (base := base) (n := 3) (k := 5) (den := den_law_due_v4) F S rfl
  refine Z ?_
  intro cdv A outer s H E hr
  have tk : Takes (cxOf (L2.CX P w) P w K mg base ["_law_d", "_law_heap_here", "_law_base", "_law_due_here", "_law_k", "_law_bottom", "_law_a", "_law_b", "_law_width", "_law_height", "_law_many"] "_law_due" (defScope s_law_due) (He.fAd K d_law_due.at_) cdv A outer s H E) (fun cls d _ H => E cls d H) := takes_of rfl rfl rfl rfl
  have hp : PassesOwn (model P w) (cxOf (L2.CX P w) P w K mg base ["_law_d", "_law_heap_here", "_law_base", "_law_due_here", "_law_k", "_law_bottom", "_law_a", "_law_b", "_law_width", "_law_height", "_law_many"] "_law_due" (defScope s_law_due) (He.fAd K d_law_due.at_) cdv A outer s H E).A (cxOf (L2.CX P w) P w K mg base ["_law_d", "_law_heap_here", "_law_base", "_law_due_here", "_law_k", "_law_bottom", "_law_a", "_law_b", "_law_width", "_law_height", "_law_many"] "_law_due" (defScope s_law_due) (He.fAd K d_law_due.at_) cdv A outer s H E).env (cxOf (L2.CX P w) P w K mg base ["_law_d", "_law_heap_here", "_law_base", "_law_due_here", "_law_k", "_law_bottom", "_law_a", "_law_b", "_law_width", "_law_height", "_law_many"] "_law_due" (defScope s_law_due) (He.fAd K d_law_due.at_) cdv A outer s H E).xe := passes_of rfl
  exact sd_cons (sd_setL 3 S.nd rfl (.inl rfl) (pl_lst (pad_nil))) (sd_cons (sd_for hp rfl (pi_r1 rfl b_range (pad_cons (pd_int) (pad_nil))) (pg_name (i := 4) S.nd rfl (.inl rfl)) (sd_cons (sd_set 5 S.nd rfl (.inl rfl) (pd_int)) (sd_cons (sd_set 6 S.nd rfl (.inl rfl) (pd_int)) (sd_cons (sd_set 7 S.nd rfl (.inl rfl) (pd_int)) (sd_cons (sd_for hp rfl (pi_l (pd_v 1)) (pg_tup rfl (pgs_cons (pg_name (i := 8) S.nd rfl (.inl rfl)) (pgs_cons (pg_name (i := 9) S.nd rfl (.inl rfl)) (pgs_nil)))) (sd_cons (sd_set 10 S.nd rfl (.inl rfl) (pd_ix (pd_call F_counts mem0 (hr.mono (by decide)) tk rfl (pad_cons (pd_v 0) (pad_cons (pd_v 2) (pad_cons (pd_v 8) (pad_nil))))) (pd_v 4))) (sd_cons (sd_set 6 S.nd rfl (.inl rfl) (pd_bin od_add noEx_add (pd_bin od_mul noEx_mul (pd_v 6) (pd_ix (pd_v 9) (pd_int))) (pd_bin od_mul noEx_mul (pd_bin od_mul noEx_mul (pd_v 10) (pd_ix (pd_v 9) (pd_int))) (pd_v 5)))) (sd_cons (sd_set 7 S.nd rfl (.inl rfl) (pd_bin od_add noEx_add (pd_bin od_mul noEx_mul (pd_v 7) (pd_ix (pd_v 9) (pd_int))) (pd_bin od_mul noEx_mul (pd_bin od_mul noEx_mul (pd_v 10) (pd_ix (pd_v 9) (pd_int))) (pd_v 5)))) (sd_one (sd_set 5 S.nd rfl (.inl rfl) (pd_bin od_mul noEx_mul (pd_v 5) (pd_ix (pd_v 9) (pd_int))))))))) (sd_one (sd_if (PW.pt (pw_dor (pt_cmpd (od_ne hr.units) noEx_ne (pd_v 6) (pd_int)) (pw_o1 (pt_cmpd (od_ne hr.units) noEx_ne (pd_v 7) (pd_int))))) (sd_one (sd_app 3 (pd_tup (pad_cons (pd_ix (pd_v 2) (pd_v 4)) (pad_cons (pd_v 6) (pad_cons (pd_v 7) (pad_cons (pd_v 5) (pad_nil)))))))) (sd_nil)))))))) (sd_frz 3 (sd_one (sd_ret (pd_v 3)))))
theorem ok_law_due (KX : K.In h) (GN : h.Ns mainGlobals mg) (c : He.SaysX fa fn ts [] ex w h K) (F_counts : FnAt P w K mg base "counts" 5 3 [[]] m_counts) : FnAt P w K mg base "_law_due" 6 3 [[]] m_law_due_v4 := by
  obtain ⟨fd, F⟩ := c.t.d.def_ 37 (d := d_law_due) rfl
  refine ⟨_, fd, ["_law_d", "_law_heap_here", "_law_base"], fo_law_due KX GN c F_counts F, He.glo_ok KX GN (c.t.d.fact 37 (f := .glo "_law_due") rfl), F.kp, ?_⟩
  · intro ds hd
    rw [List.mem_singleton] at hd
    subst hd
    exact ⟨[], [], FunD.bindsN F fun _ _ _ _ _ _ us hl => match us, hl with | [_, _, _], _ => rfl, .nil, fun _ => .nil⟩
theorem fo_law_right (KX : K.In h) (GN : h.Ns mainGlobals mg) (c : He.SaysX fa fn ts [] ex w h K) (F_law_is_side : FnAt P w K mg base "_law_is_side" 2 2 [[]] m_law_is_side_v4) {fd : FuncData} (F : FunD K d_law_right.name d_law_right.qual d_law_right.params d_law_right.body d_law_right.scope (d_law_right.dvs K) (d_law_right.kws K) (He.fAd K d_law_right.at_) fd) : FnOk P w K mg base (L2.CX P w) 3 (He.fAd K d_law_right.at_) fd ["_law_d", "_law_found", "_law_due_here"] (spD K mg 3 m_law_right_v12) := by
  have b_isinstance : mg "isinstance" = none := He.free_ok KX GN (c.t.d.fact 43 (f := .free "isinstance") rfl)
  have b_len : mg "len" = none := He.free_ok KX GN (c.t.d.fact 44 (f := .free "len") rfl)
  have b_list : mg "list" = none := He.free_ok KX GN (c.t.d.fact 45 (f := .free "list") rfl)
  have b_tuple : mg "tuple" = none := He.free_ok KX GN (c.t.d.fact 47 (f := .free "tuple") rfl)
  have b_zip : mg "zip" = none := He.free_ok KX GN (c.t.d.fact 48 (f := .free "zip") rfl)
  have S := sc_law_right
  rw [mm_law_right_v12]
  have Z := okD (P := P) (w := w) (mg := mg) (base := base) (n := 3) (k := 2) (den := den_law_right_v12) F S rfl
  refine Z ?_
  intro cdv A outer s H E hr
  have tk : Takes (cxOf (L2.CX P w) P w K mg base ["_law_d", "_law_found", "_law_due_here", "_law_one", "_law_wanted", "_law_height"] "_law_right" (defScope s_law_right) (He.fAd K d_law_right.at_) cdv A outer s H E) (fun cls d _ H => E cls d H) := takes_of rfl rfl rfl rfl
  have hp : PassesOwn (model P w) (cxOf (L2.CX P w) P w K mg base ["_law_d", "_law_found", "_law_due_here", "_law_one", "_law_wanted", "_law_height"] "_law_right" (defScope s_law_right) (He.fAd K d_law_right.at_) cdv A outer s H E).A (cxOf (L2.CX P w) P w K mg base ["_law_d", "_law_found", "_law_due_here", "_law_one", "_law_wanted", "_law_height"] "_law_right" (defScope s_law_right) (He.fAd K d_law_right.at_) cdv A outer s H E).env (cxOf (L2.CX P w) P w K mg base ["_law_d", "_law_found", "_law_due_here", "_law_one", "_law_wanted", "_law_height"] "_law_right" (defScope s_law_right) (He.fAd K d_law_right.at_) cdv A outer s H E).xe := passes_of rfl
  exact sd_cons (sd_if (PW.pt (pw_dor (pt_dnot (pt_d (pd_isi (T := "list") b_isinstance b_list (by decide +kernel) (pd_v 1)))) (pw_o1 (pt_cmpd (od_ne hr.units) noEx_ne (pd_b cd_len nx_len b_len (by decide +kernel) (pad_cons (pd_v 1) (pad_nil))) (pd_b cd_len nx_len b_len (by decide +kernel) (pad_cons (pd_v 2) (pad_nil))))))) (sd_one (sd_ret (pd_bl))) (sd_nil)) (sd_cons (sd_for hp rfl (pi_zp rfl b_zip (pad_cons (pd_v 1) (pad_cons (pd_v 2) (pad_nil)))) (pg_tup rfl (pgs_cons (pg_name (i := 3) S.nd rfl (.inl rfl)) (pgs_cons (pg_name (i := 4) S.nd rfl (.inl rfl)) (pgs_nil)))) (sd_cons (sd_if (PW.pt (pw_dor (pt_dnot (pt_d (pd_isi (T := "tuple") b_isinstance b_tuple (by decide +kernel) (pd_v 3)))) (pw_dor (pt_cmpd (od_ne hr.units) noEx_ne (pd_b cd_len nx_len b_len (by decide +kernel) (pad_cons (pd_v 3) (pad_nil))) (pd_int)) (pw_dor (pt_dnot (pt_d (pd_call F_law_is_side mem0 (hr.mono (by decide)) tk rfl (pad_cons (pd_v 0) (pad_cons (pd_ix (pd_v 3) (pd_int)) (pad_nil)))))) (pw_o1 (pt_dnot (pt_d (pd_call F_law_is_side mem0 (hr.mono (by decide)) tk rfl (pad_cons (pd_v 0) (pad_cons (pd_ix (pd_v 3) (pd_int)) (pad_nil))))))))))) (sd_one (sd_ret (pd_bl))) (sd_nil)) (sd_cons (sd_set 5 S.nd rfl (.inl rfl) (pd_ix (pd_v 3) (pd_int))) (sd_cons (sd_if (PW.pt (pw_dor (pt_cmpd (od_ne hr.units) noEx_ne (pd_ix (pd_v 3) (pd_int)) (pd_ix (pd_v 4) (pd_int))) (pw_o1 (pt_cmpd (od_ne hr.units) noEx_ne (pd_bin od_mul noEx_mul (pd_ix (pd_v 5) (pd_int)) (pd_ix (pd_v 4) (pd_int))) (pd_bin od_mul noEx_mul (pd_ix (pd_v 4) (pd_int)) (pd_ix (pd_v 5) (pd_int))))))) (sd_one (sd_ret (pd_bl))) (sd_nil)) (sd_one (sd_if (pt_cmpd (od_ne hr.units) noEx_ne (pd_bin od_mul noEx_mul (pd_ix (pd_v 5) (pd_int)) (pd_ix (pd_v 4) (pd_int))) (pd_bin od_mul noEx_mul (pd_ix (pd_v 4) (pd_int)) (pd_ix (pd_v 5) (pd_int)))) (sd_one (sd_ret (pd_bl))) (sd_nil))))))) (sd_one (sd_ret (pd_bl))))
theorem ok_law_right (KX : K.In h) (GN : h.Ns mainGlobals mg) (c : He.SaysX fa fn ts [] ex w h K) (F_law_is_side : FnAt P w K mg base "_law_is_side" 2 2 [[]] m_law_is_side_v4) : FnAt P w K mg base "_law_right" 3 3 [[]] m_law_right_v12 := by
  obtain ⟨fd, F⟩ := c.t.d.def_ 38 (d := d_law_right) rfl
  refine ⟨_, fd, ["_law_d", "_law_found", "_law_due_here"], fo_law_right KX GN c F_law_is_side F, He.glo_ok KX GN (c.t.d.fact 38 (f := .glo "_law_right") rfl), F.kp, ?_⟩
  · intro ds hd
    rw [List.mem_singleton] at hd
    subst hd
    exact ⟨[], [], FunD.bindsN F fun _ _ _ _ _ _ us hl => match us, hl with | [_, _, _], _ => rfl, .nil, fun _ => .nil⟩
theorem fo_law (KX : K.In h) (GN : h.Ns mainGlobals mg) (c : He.SaysX fa fn ts [] ex w h K) (F_law_root : FnAt P w K mg base "_law_root" 2 1 [[]] m_law_root_v5) (F_law_heap : FnAt P w K mg base "_law_heap" 5 2 [[]] m_law_heap_v4) (F_serving : FnAt P w K mg base "serving" 7 2 [[]] m_serving) (FV_normal_heap : FnAtG P w K mg base "normal_heap" 7 [[]] (spV K mg 3 mV_normal_heap_v2)) (F_next_base : FnAt P w K mg base "next_base" 6 2 [[]] m_next_base) (F_law_right : FnAt P w K mg base "_law_right" 3 3 [[]] m_law_right_v12) (F_law_like : FnAt P w K mg base "_law_like" 2 2 [[]] m_law_like) (F_law_digits : FnAt P w K mg base "_law_digits" 1 3 [[]] m_law_digits_v3) (F_law_due : FnAt P w K mg base "_law_due" 6 3 [[]] m_law_due_v4) (F_law_cell : FnAt P w K mg base "_law_cell" 1 2 [[]] m_law_cell) {fd : FuncData} (F : FunD K d_law.name d_law.qual d_law.params d_law.body d_law.scope (d_law.dvs K) (d_law.kws K) (He.fAd K d_law.at_) fd) : FnOk P w K mg base (L2.CX P w) 8 (He.fAd K d_law.at_) fd ["_law_script"] (spD K mg 1 m_law_k51) := by
  have F_normal_heap : FnAt P w K mg base "normal_heap" 7 3 [[]] m_normal_heap_v2 := FnAt.ofV FV_normal_heap
  have b_int : mg "int" = none := He.free_ok KX GN (c.t.d.fact 42 (f := .free "int") rfl)
  have b_len : mg "len" = none := He.free_ok KX GN (c.t.d.fact 44 (f := .free "len") rfl)
  have b_list : mg "list" = none := He.free_ok KX GN (c.t.d.fact 45 (f := .free "list") rfl)
  have b_range : mg "range" = none := He.free_ok KX GN (c.t.d.fact 46 (f := .free "range") rfl)
  have S := sc_law
  rw [mm_law_k51]
  have Z := okD (P := P) (w := w) (mg := mg) (base := base) (n := 1) (k := 7) (den := den_law_k51) F S rfl
  refine Z ?_
  intro cdv A outer s H E hr
  have tk : Takes (cxOf (L2.CX P w) P w K mg base ["_law_script", "_law_d", "_law_heap_here", "_law_base", "_law_width", "_law_height", "_law_k", "_law_handed", "_law_found", "_law_kept"] "law" (defScope s_law) (He.fAd K d_law.at_) cdv A outer s H E) (fun cls d _ H => E cls d H) := takes_of rfl rfl rfl rfl
  have hp : PassesOwn (model P w) (cxOf (L2.CX P w) P w K mg base ["_law_script", "_law_d", "_law_heap_here", "_law_base", "_law_width", "_law_height", "_law_k", "_law_handed", "_law_found", "_law_kept"] "law" (defScope s_law) (He.fAd K d_law.at_) cdv A outer s H E).A (cxOf (L2.CX P w) P w K mg base ["_law_script", "_law_d", "_law_heap_here", "_law_base", "_law_width", "_law_height", "_law_k", "_law_handed", "_law_found", "_law_kept"] "law" (defScope s_law) (He.fAd K d_law.at_) cdv A outer s H E).env (cxOf (L2.CX P w) P w K mg base ["_law_script", "_law_d", "_law_heap_here", "_law_base", "_law_width", "_law_height", "_law_k", "_law_handed", "_law_found", "_law_kept"] "law" (defScope s_law) (He.fAd K d_law.at_) cdv A outer s H E).xe := passes_of rfl
  exact sd_cons (sd_set 1 S.nd rfl (.inl rfl) (pd_call F_law_root mem0 (hr.mono (by decide)) tk rfl (pad_cons (pd_v 0) (pad_nil)))) (sd_cons (sd_set 2 S.nd rfl (.inl rfl) (pd_call F_law_heap mem0 (hr.mono (by decide)) tk rfl (pad_cons (pd_v 1) (pad_cons (pd_bin od_add noEx_add (pd_sl (pd_v 0) (po_d (pd_int)) (po_d (pd_int))) (pd_bin od_mulL noEx_mulL (pd_lst (pad_cons (pd_int) (pad_nil))) (pd_bt cd_int nx_int b_int (by decide +kernel) (pad_cons (pd_cmp od_lt noEx_cI (pd_b cd_len nx_len b_len (by decide +kernel) (pad_cons (pd_v 0) (pad_nil))) (pd_int)) (pad_nil))))) (pad_nil))))) (sd_cons (sd_set 3 S.nd rfl (.inl rfl) (pd_call F_serving mem0 (hr.mono (by decide)) tk rfl (pad_cons (pd_v 1) (pad_cons (pd_lc [("_law_width", 4), ("_law_height", 5)] rfl S.nd (pi_l (pd_v 2)) (blkOk_by (N := ["_law_script", "_law_d", "_law_heap_here", "_law_base", "_law_width", "_law_height", "_law_k", "_law_handed", "_law_found", "_law_kept"]) (sc := defScope s_law) (own := [("_law_width", 4), ("_law_height", 5)]) (by decide +kernel)) (by decide) (fun _ _ _ _ _ => pg_tup rfl (pgs_cons (pg_name (i := 4) S.nd rfl (.inl rfl)) (pgs_cons (pg_name (i := 5) S.nd rfl (.inl rfl)) (pgs_nil)))) (fun _ _ _ _ _ => ptd_nil) (fun _ _ _ _ _ => pd_v 4)) (pad_nil))))) (sd_cons (sd_for hp rfl (pi_r1 rfl b_range (pad_cons (pd_bin od_mod noEx_mod (pd_ix (pd_call F_law_digits mem0 (hr.mono (by decide)) tk rfl (pad_cons (pd_call F_law_cell mem0 (hr.mono (by decide)) tk rfl (pad_cons (pd_v 0) (pad_cons (pd_int) (pad_nil)))) (pad_cons (pd_int) (pad_cons (pd_int) (pad_nil))))) (pd_int)) (pd_int)) (pad_nil))) (pg_name (i := 6) S.nd rfl (.inl rfl)) (sd_one (sd_set 3 S.nd rfl (.inl rfl) (pd_call F_next_base mem0 (hr.mono (by decide)) tk rfl (pad_cons (pd_v 1) (pad_cons (pd_v 3) (pad_nil))))))) (sd_cons (sd_set 7 S.nd rfl (.inl rfl) (pd_bt cd_listOf nx_listOf b_list (by decide +kernel) (pad_cons (pd_v 2) (pad_nil)))) (sd_cons (sd_setV 8 S.nd rfl (.inl rfl) (pv_call FV_normal_heap mem0 (hr.mono (by decide)) tk rfl (pad_cons (pd_v 1) (pad_cons (pd_v 7) (pad_cons (pd_v 3) (pad_nil)))))) (sd_cons (sd_if (pt_lend 8 (PW.pt (pw_dor (pt_dnot (pt_d (pd_call F_law_right mem0 (hr.mono (by decide)) tk rfl (pad_cons (pd_v 1) (pad_cons (pd_v 8) (pad_cons (pd_call F_law_due mem0 (hr.mono (by decide)) tk rfl (pad_cons (pd_v 1) (pad_cons (pd_v 2) (pad_cons (pd_v 3) (pad_nil))))) (pad_nil))))))) (pw_dor (pt_cmpd (od_ne hr.units) noEx_ne (pd_v 7) (pd_v 2)) (pw_o1 (pt_dnot (pt_d (pd_call F_law_like mem0 (hr.mono (by decide)) tk rfl (pad_cons (pd_v 2) (pad_cons (pd_v 8) (pad_nil))))))))))) (sd_one (sd_ret (pd_bl))) (sd_nil)) (sd_cons (sd_setV 9 S.nd rfl (.inl rfl) (pv_lend 8 (pv_l (pl_of b_list (pd_v 8))))) (sd_frz 9 (sd_cons (sd_clr 8) (sd_one (sd_ret (pd_cmp (od_eq hr.units) noEx_eq (pd_call F_normal_heap mem0 (hr.mono (by decide)) tk rfl (pad_cons (pd_v 1) (pad_cons (pd_v 7) (pad_cons (pd_v 3) (pad_nil))))) (pd_v 9)))))))))))))
end
theorem facts {P : Program} {w : World} {K : PySem.W.Frag} {h : Heap} {mg : MG} {f : Addr} (KX : K.In h) (GN : h.Ns mainGlobals mg) (hfa : mg ("law" : Str) = some (.ref f)) (c : He.SaysX fa fn ts [] ex w h K) :
    ∃ fd : FuncData, (∀ (s : Shared) (v : Value), BindsTo s fd ⟨[v], []⟩ [("_law_script", v)]) ∧ ∀ base : Heap, K.In base → base.Ns mainGlobals mg → FnOk P w K mg base (L2.CX P w) 8 f fd ["_law_script"] (spD K mg 1 m_law_k51) := by
  obtain ⟨fd, F⟩ := c.t.d.def_ 39 (d := d_law) rfl
  refine ⟨fd, fun s v => FunD.bindsA (ps := ["_law_script"]) F (fun _ _ _ _ _ _ us hl => match us, hl with | [_], _ => rfl) s [v] rfl, fun base hb hg => ?_⟩
  have F_is_whole := ok_is_whole (P := P) (w := w) (base := base) KX GN c 
  have F_divisor := ok_divisor (P := P) (w := w) (base := base) KX GN c 
  have F_lowest := ok_lowest (P := P) (w := w) (base := base) KX GN c F_divisor
  have F_length := ok_length (P := P) (w := w) (base := base) KX GN c F_lowest F_is_whole
  have F_added := ok_added (P := P) (w := w) (base := base) KX GN c F_lowest
  have F_taken := ok_taken (P := P) (w := w) (base := base) KX GN c F_added
  have F_timed := ok_timed (P := P) (w := w) (base := base) KX GN c F_lowest
  have F_sign_of := ok_sign_of (P := P) (w := w) (base := base) KX GN c 
  have F_under := ok_under (P := P) (w := w) (base := base) KX GN c F_taken F_sign_of
  have F_fraction := ok_fraction (P := P) (w := w) (base := base) KX GN c F_divisor
  have F_parts := ok_parts (P := P) (w := w) (base := base) KX GN c F_fraction
  have F_by_parts := ok_by_parts (P := P) (w := w) (base := base) KX GN c F_lowest
  have F_minus := ok_minus (P := P) (w := w) (base := base) KX GN c F_fraction
  have F_times := ok_times (P := P) (w := w) (base := base) KX GN c F_fraction
  have F_by := ok_by (P := P) (w := w) (base := base) KX GN c F_fraction
  have F_first_base := ok_first_base (P := P) (w := w) (base := base) KX GN c F_length
  have F_next_base := ok_next_base (P := P) (w := w) (base := base) KX GN c F_under F_taken
  have F_cross := ok_cross (P := P) (w := w) (base := base) KX GN c F_minus F_times
  have F_counts := ok_counts (P := P) (w := w) (base := base) KX GN c F_cross F_parts F_by
  have F_is_served := ok_is_served (P := P) (w := w) (base := base) KX GN c 
  have F_common := ok_common (P := P) (w := w) (base := base) KX GN c F_fraction
  have F_serving := ok_serving (P := P) (w := w) (base := base) KX GN c F_first_base F_common F_counts F_is_served F_next_base
  have F_heights_of := ok_heights_of (P := P) (w := w) (base := base) KX GN c F_counts F_added F_timed F_length
  have FV_normal_heap := ok_normal_heap (P := P) (w := w) (base := base) KX GN c F_heights_of
  have F_law_cell := ok_law_cell (P := P) (w := w) (base := base) KX GN c 
  have F_law_whole := ok_law_whole (P := P) (w := w) (base := base) KX GN c 
  have F_law_digits := ok_law_digits (P := P) (w := w) (base := base) KX GN c 
  have F_law_divisor := ok_law_divisor (P := P) (w := w) (base := base) KX GN c 
  have F_law_root := ok_law_root (P := P) (w := w) (base := base) KX GN c F_law_digits F_law_cell
  have F_law_fraction := ok_law_fraction (P := P) (w := w) (base := base) KX GN c F_law_divisor
  have F_law_above := ok_law_above (P := P) (w := w) (base := base) KX GN c 
  have F_law_side := ok_law_side (P := P) (w := w) (base := base) KX GN c F_law_fraction F_law_above
  have F_law_length := ok_law_length (P := P) (w := w) (base := base) KX GN c F_law_side F_by_parts
  have F_law_heap := ok_law_heap (P := P) (w := w) (base := base) KX GN c F_law_digits F_law_length
  have F_law_is_side := ok_law_is_side (P := P) (w := w) (base := base) KX GN c F_law_above F_law_divisor F_law_whole
  have F_law_tab := ok_law_tab (P := P) (w := w) (base := base) KX GN c 
  have F_law_like := ok_law_like (P := P) (w := w) (base := base) KX GN c F_law_tab
  have F_law_due := ok_law_due (P := P) (w := w) (base := base) KX GN c F_counts
  have F_law_right := ok_law_right (P := P) (w := w) (base := base) KX GN c F_law_is_side
  have e := hfa.symm.trans (He.glo_ok KX GN (c.t.d.fact 39 (f := .glo "law") rfl))
  cases e
  exact fo_law KX GN c F_law_root F_law_heap F_serving FV_normal_heap F_next_base F_law_right F_law_like F_law_digits F_law_due F_law_cell F
end
end DL

open PySem PySem.W PySem.Calls PyProof.Rows
theorem PySem.Challenge.cw_boardglue_k51_normal_heaps_holds : PySem.Challenge.rw_boardglue_k51_normal_heaps.Holds := by
  w_on; o_law
  refine HandSHeadRun.head_any (r := OpenLaw.row PySem.Challenge.rw_boardglue_k51_normal_heaps) (q := view (OpenLaw.row PySem.Challenge.rw_boardglue_k51_normal_heaps).prog [47]) (H := DL.hk) (ob := DL.ob) (M := 20000) (loose := DL.names) (d := HandSHeadRun.topDef (OpenLaw.row PySem.Challenge.rw_boardglue_k51_normal_heaps).prog 47) (kwd := []) DL.ob_eq
    (by kernel_rfl) (fun s => by kernel_rfl) DL.run (by kernel_rfl) (by kernel_rfl) (by kernel_rfl) (by rfl) (by first | assumption | decide +kernel) (by decide +kernel) ⟨rfl, rfl, rfl, rfl, rfl, by decide +kernel⟩ ?hw ?hc
  case hw => w_witness2
  case hc =>
    refine DL.walkD (l := PySem.Challenge.rw_boardglue_k51_normal_heaps) (n := 63) (k := 8) (x := "_law_script") (g := DL.m_law_k51) rfl (by decide) (by kernel_rfl) ⟨rfl, by decide, by decide⟩ ?F DL.law_k51_true
    intro w mg fa h Y G hmg0
    obtain ⟨K, KX, c⟩ := Y
    have hmg : mg ("law" : PySem.Str) = some (.ref fa) := by
      have e : (HandSHeadRun.topDef (OpenLaw.row PySem.Challenge.rw_boardglue_k51_normal_heaps).prog 47).name = ("law" : PySem.Str) := by kernel_rfl
      rw [← e]
      exact hmg0
    obtain ⟨fd, hb, hF⟩ := DL.facts (P := (PySem.Challenge.rw_boardglue_k51_normal_heaps).prog) (w := w) KX G hmg c
    exact ⟨K, fd, KX, hb, hF⟩

