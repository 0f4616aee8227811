import PyProof.Rows.All
import Wide.All
import OpenK.AllK
import Wide.FinOn
import HandS.Exc
import HandS.TryOnly
import HandS.ForMost
import HandS.ForExc
import HandS.Deep
import HandS.Wide
import HandS.WideBits
import HandS.HeadHook1
import HandS.CallSlots
import HandS.Defaults
import HandS.Iter
import HandS.Zip
import HandS.Rev
import HandS.TupAny
import HandS.Comp
import HandS.Text
import HandS.IsInst
import HandS.HeadHook2
import PyProof.Rows.RuleB_pow
import HandS.EndBits
import HandS.Sort
import HandS.ExcIs
import HandS.RevTup
import PyProof.ListStr
import HandS.Style
import HandS.SetFor
import PySem.Challenge.RW_boardglue_k13_tables
import HandS.HeadHook4
import HandS.Head2
import KE.KStateDown
import HandS.Head0
import HandS.Head1
import HandS.HeadEnd
set_option Elab.async false
set_option linter.all false
set_option maxRecDepth 100000
set_option maxHeartbeats 4000000
set_option autoImplicit false
/-! exceptions that are kept: tracked from the end of the suite on -/
namespace DL
open PySem PySem.Spec PyProof.Rows L2
/-- an exception object of the class cls that was caught -/
def ExK (cls : Value) (a : Addr) : HO := .ext fun h => ∃ (oe : Obj) (vs : Array Value), h.get? a = some oe ∧ Zc cls none oe ∧ oe.data = .fields vs
theorem exK_ok {P : Program} {w : World} {H : Hp} {h : Heap} {a : Addr} {cls : Value} {oe : Obj} {vs : Array Value} (e : h.get? a = some oe) (z : Zc cls none oe) (d : oe.data = .fields vs) : ObjOk P w H h a (ExK cls a) :=
  ⟨⟨oe, vs, e, z, d⟩, ⟨oe, e⟩, fun _ _ ⟨o, v, q, r⟩ k => ⟨o, v, k o q, r⟩⟩
section
variable {X : Cx} {pins : List (Addr × Obj)} {σ : L2.St} {H : Hp} {s : Shared}
/-- an object that stands, new since the entry, is tracked from here on -/
theorem invTrack {a : Addr} {o : HO} {oe : Obj} (I : Inv X pins σ H s) (e : s.heap.get? a = some oe) (d : ∀ v, oe.data ≠ .cell v) (n : H a = none) (n0 : X.s_0.heap.get? a = none) (nl : a ≠ X.env.locals)
    (np : ∀ p ∈ X.pn ++ pins, p.1 ≠ a) (new : ObjOk X.prog X.w (upd H a o) s.heap a o) : Inv X pins σ (upd H a o) s where
  ok := I.ok
  os := I.os
  bare := I.bare
  base := ⟨I.base.keep, I.base.slot, fun b u q m hx => by
      rw [upd_ne (fun z => by rw [z, n0] at q; cases q)]; exact I.base.free b u q m hx, I.base.there,
    fun b xs q => by rw [upd_ne (ne_of_none (I.base.tups b xs q) n)]; exact I.base.tups b xs q,
    fun b u xs q => by rw [upd_ne (ne_of_none (I.base.frzs b u xs q) n)]; exact I.base.frzs b u xs q,
    fun b ps q => by
      obtain ⟨m, z⟩ := I.base.tbls b ps q
      exact ⟨m, by rw [upd_ne (ne_of_none z n)]; exact z⟩⟩
  loc := I.loc
  cell := I.cell
  free := by rw [upd_ne (fun z => nl z.symm)]; exact I.free
  freeC := fun x c h => by
    obtain ⟨v, o', h1, h2⟩ := I.cell x c h
    rw [upd_ne (fun z => by
      rw [z, e] at h1
      cases h1
      exact d _ h2)]
    exact I.freeC x c h
  pin := fun p hp => by
    obtain ⟨h1, h2, h3⟩ := I.pin p hp
    exact ⟨h1, by rw [upd_ne (np p hp)]; exact h2, h3⟩
  hok := fun b u q => by
    by_cases hb : b = a
    · subst hb
      rw [upd_same] at q
      cases q
      exact new
    · rw [upd_ne hb] at q
      exact (I.hok b u q).stay (fun c v _ q => q) (fun c q => by rw [upd_ne (ne_of_none q n)]; exact q) fun c xs q => by rw [upd_ne (ne_of_none q n)]; exact q
  len := I.len
end
/-- what 'except x as n' wishes where the error is kept: slot i is n's -/
def wAsK (K : PySem.W.Frag) (c : Value) (i : Nat) (ts : Addr → Value → Option Addr → TS) (Wout : WX) (D : Ends) : WX := fun cls d σ H =>
  ∃ b, PySem.W.exmOne K cls c = some b ∧ (b = true → d = none ∧ ∀ a, H a = none → ts a cls d { nx := fun σ' H' => H' a = none → D.nx (σ'.set i none) (upd H' a (ExK cls a)), rt := fun _ _ => False, bk := fun _ _ => False, ct := fun _ _ => False } (σ.set i (some (.ref a))) H) ∧
    (b = false → Wout cls d σ H)
section
variable {X : Cx} {x n : Str} {c : Value} {i : Nat} {body suite : List Stmt} {b₀ : Stmt} {np pos pos' : Pos} {tb : WX → TS} {ts : Addr → Value → Option Addr → TS} {Wout : WX}
theorem ps_try_keep (hex : X.ex = []) (hs : X.stack = X.env :: X.outer) (hf : X.env.frame = some X.env.locals) (hN : X.N.Nodup) (hi : X.N[i]? = some n) (hln : X.env.kindOf n = some .local) (hc : Names X x c) (tk : Takes X Wout)
    (hb : ∀ (W : WX) (pn : List (Addr × Obj)) (xe : Value → Shared → Prop), Takes (X.tr pn xe) W → PassesOwn (model X.prog X.w) X.A X.env xe → PSs (X.tr pn xe) body (tb W))
    (hsu : ∀ (a : Addr) (oe : Obj) (cls : Value) (d : Option Addr) (pn : List (Addr × Obj)), Zc cls d oe → (∃ vs, oe.data = .fields vs) → PSs (X.suite a ((a, oe) :: pn)) (b₀ :: suite) (ts a cls d)) :
    PS X (.Try body [.ExceptHandler (some (.Name x np)) (some n) (b₀ :: suite) pos'] [] [] pos) (fun D σ H => tb (wAsK X.K c i ts Wout D) D σ H) := by
  refine ⟨fun pins s σ H D I h => ?_⟩
  have ok := I.ok
  have hfr : X.A.frames = some (X.env :: X.outer) := by rw [ok.frames, hs]
  have hloc : Loc X.env.scope n := .inl hln
  refine wpAny_Try_except ?_
  refine wpAny_mono ((hb (wAsK X.K c i ts Wout D) (X.pn ++ pins) (fun e s₁ => wpAny (model X.prog X.w) X.A (noteFrame e X.env) (fun _ s₂ => wpAny (model X.prog X.w) X.A (setFlight e none) (fun _ s₃ =>
    wpAny (model X.prog X.w) X.A (handleBy e X.env [.ExceptHandler (some (.Name x np)) (some n) (b₀ :: suite) pos']) (SP X pins D) X.xe s₃) X.xe s₂) X.xe s₁) (fun u s' xx => ?_) PassesOwn.looking).run [] s σ H D (I.toTry _) h) (fun f s1 hsp => ?_) (fun e s1 he => he)
  · -- the catch
    obtain ⟨a, B, sI, pins', σ', H', cls, d, rfl, J', nb, up, sky, na, os, ag, b, hb1, hyes, hno⟩ := xx
    have J : Inv X pins σ' H' sI := J'.ofTry ok
    have sky' : Sky B (X.env :: X.outer) a (Zc cls d) X.env.locals s'.heap := by rw [← hs]; exact sky
    show wpAny (model X.prog X.w) X.A (noteFrame (.ref a) X.env) _ _ _
    refine Sky.land Zc.steady hfr hf sky' fun h3 fl3 up3 => ?_
    have J3 : Inv X pins σ' H' { s' with heap := h3 } := J.landed nb fl3.1 (up.trans up3) os ag
    obtain ⟨oe3, vs3, he3, hz3, hd3⟩ := fl3.there
    have notFr : ∀ {h : Heap} {o : Obj} {vs : Array Value}, h.FunFrames B (X.env :: X.outer) → h.get? a = some o → o.data = .fields vs → a ∉ frs (X.env :: X.outer) := fun {h o vs} ff e dd hm => by
      obtain ⟨_, o', e', hnf⟩ := ff.mem hm
      rw [e] at e'; cases e'
      exact hnf _ dd
    have nfr := notFr fl3.2.2.1 he3 hd3
    have nL : a ≠ X.env.locals := fun z => nfr (List.mem_filterMap.mpr ⟨X.env, List.mem_cons_self, by rw [hf, z]⟩)
    have nF : a ∉ X.fs := fun hm => by
      obtain ⟨e, he, q⟩ := List.mem_filterMap.mp hm
      exact nfr (List.mem_filterMap.mpr ⟨e, List.mem_cons_of_mem _ he, q⟩)
    have nI : sI.heap.get? a = none := by
      cases q : sI.heap.get? a with
      | none => rfl
      | some o =>
        have z := nb a o q (by rw [hs]; exact nfr)
        rw [fl3.2.1] at z
        cases z
    have n0 : X.s_0.heap.get? a = none := by
      cases q : X.s_0.heap.get? a with
      | none => rfl
      | some o =>
        obtain ⟨o', z⟩ := J.base.there a o q (by rw [hex]; exact fun z => nomatch z)
        rw [nI] at z
        cases z
    have nP : ∀ p ∈ X.pn ++ pins, p.1 ≠ a := fun p hp z => by
      have q := (J.pin p hp).1
      rw [z, nI] at q
      cases q
    have S3 := J3.suite he3 hd3 na nL nF
    refine wpAny_handleBy_cons (codeAny_handlers_test ?_) (by intro q; cases q)
    have LT : PySem.W.Looks (model X.prog X.w) h3 (typeOf (.ref a)) cls := fun A Q E s k q => wpAny_typeOf_ref (k _ _ he3) (by rw [hz3.1]; exact q)
    have LM := PySem.W.exm_one (M := model X.prog X.w) (J3.kIn) LT hb1
    have test : ∀ {Q : Value → Shared → Prop} {E : Value → Shared → Prop}, Q c { s' with heap := h3 } → wpAny (model X.prog X.w) (X.A.mark (some (.ref a))) (eval (.Name x np) X.env) Q E { s' with heap := h3 } := fun {Q E} q => by
      obtain ⟨hg, hdbg, hm | ⟨hm, hv, hnn⟩⟩ := hc
      · exact ld_glob (X := X.suite a ((a, oe3) :: (X.pn ++ pins))) S3 hg hm q hdbg
      · exact ld_blt (X := X.suite a ((a, oe3) :: (X.pn ++ pins))) S3 hg hm hv q hnn hdbg
    refine test (LM.here ?_)
    cases b with
    | true =>
      refine codeAny_handlers_suite_as ?_
      refine HandSPX.lands_againZ fl3 fun h4 fl4 up4 => ?_
      have J4 : Inv X pins σ' H' { s' with heap := h4 } := J.landed nb fl4.1 ((up.trans up3).trans up4) os ag
      obtain ⟨oe4, vs4, he4, hz4, hd4⟩ := fl4.there
      have S4 := J4.suite he4 hd4 na nL nF
      obtain ⟨hdn, hyes⟩ := hyes rfl
      refine store_ok (X := X.suite a ((a, oe4) :: (X.pn ++ pins))) (v := .ref a) S4 hN hi hloc rfl (fun s5 S5 => ?_) (.inr hln)
      refine wpAny_mono ((hsu a oe4 cls d (X.pn ++ pins) hz4 ⟨_, hd4⟩).run [] s5 _ H' _ S5 (hyes a na)) (fun f s6 hsp => ?_) (fun _ _ z => False.elim z)
      cases f with
      | next =>
        obtain ⟨σ6, H6, S6, q6⟩ := hsp
        obtain ⟨p1, p2, _⟩ := S6.pin (a, oe4) (List.mem_append.mpr (.inl List.mem_cons_self))
        subst hdn
        have T6 := invTrack (o := ExK cls a) (S6.unsuite ok) p1 (fun v z => by rw [hd4] at z; cases z) p2 n0 nL nP (exK_ok p1 hz4 hd4)
        exact gone_ok T6 hN hi hln fun s7 J7 => ⟨_, _, J7, q6 p2⟩
      | brk =>
        obtain ⟨σ6, H6, S6, q6⟩ := hsp
        exact q6.elim
      | cont =>
        obtain ⟨σ6, H6, S6, q6⟩ := hsp
        exact q6.elim
      | ret u =>
        obtain ⟨v6, σ6, H6, S6, r6, q6⟩ := hsp
        exact q6.elim
    | false =>
      show wpAny _ X.A (handleBy (.ref a) X.env []) _ _ _
      refine wpAny_handleBy_nil ?_
      obtain ⟨k1, k2, k3, oe, vs, T, oT, ts', he, hz, hd, h1, hr⟩ := id fl3
      unfold PySem.passOn
      refine wpAny_bind (wpAny_field he hd h1 ?_)
      rw [if_neg (show ¬ ((Value.ref T == Value.none) = true) from by simp)]
      have fin : wpAny (model X.prog X.w) X.A (setFlight (.ref a) X.env.frame) (fun _ s4 => wpAny (model X.prog X.w) X.A (throw (.ref a) : Sem Flow) (SP X pins D) X.xe s4) X.xe { s' with heap := h3 } := by
        rw [hf]
        refine HandSPX.setFlight_upZ fl3 fun h4 hh4 up4 => wpAny_throw (tk _ _ ?_)
        exact ⟨a, B, sI, pins, σ', H', cls, d, rfl, J, nb, (up.trans up3).trans up4, .inr (.inr (by rw [hs]; exact hh4)), na, os, ag, hno rfl⟩
      first
        | exact wpAny_bind (wpAny_pure (wpAny_bind fin))
        | exact wpAny_bind fin
  · cases f with
    | next =>
      obtain ⟨σ', H', J', q⟩ := hsp
      exact wpAny_execs_nil ⟨σ', H', J'.ofTry ok, q⟩
    | brk =>
      obtain ⟨σ', H', J', q⟩ := hsp
      exact ⟨σ', H', J'.ofTry ok, q⟩
    | cont =>
      obtain ⟨σ', H', J', q⟩ := hsp
      exact ⟨σ', H', J'.ofTry ok, q⟩
    | ret u =>
      obtain ⟨v, σ', H', J', r, q⟩ := hsp
      exact ⟨v, σ', H', J'.ofTry ok, r, q⟩
end
end DL

set_option Elab.async false
set_option linter.all false
set_option maxRecDepth 100000
set_option maxHeartbeats 4000000
set_option autoImplicit false
/-! the data layer: what a def computes, as a function of plain data -/
namespace DL
open PySem L2
abbrev PD := PyData

/-- an outcome: a value, an exception by its class's name, or no claim -/
inductive R (α : Type) where
  | ok (a : α)
  | ex (c : Str)
  | no
def R.bind {α β : Type} (r : R α) (k : α → R β) : R β := match r with
  | .ok a => k a
  | .ex c => .ex c
  | .no => .no
@[simp] theorem R.bind_ok {α β : Type} (a : α) (k : α → R β) : (R.ok a).bind k = k a := rfl
@[simp] theorem R.bind_ex {α β : Type} (c : Str) (k : α → R β) : (R.ex c : R α).bind k = .ex c := rfl
@[simp] theorem R.bind_no {α β : Type} (k : α → R β) : (R.no : R α).bind k = .no := rfl

/-- a field of an object of one's own: data that stands still; a list of its own; a dict of its own -/
inductive FV where
  | d (x : PD)
  | l (xs : List PD)
  | k (kvs : List (L2.Key × PD))
abbrev Fs := List (Str × FV)
/-- what a local holds: data that stands still; a list of its own; a dict of its own; a list of lists of its own; an object of its own; the object whose method runs -/
inductive SV where
  | d (x : PD)
  | l (xs : List PD)
  | k (kvs : List (L2.Key × PD))
  | ll (xss : List (List PD))
  | o (c : Str) (fs : Fs)
  | me (c : Str) (fs : Fs)
abbrev En := List (Option SV)
def SV.own : SV → Bool
  | .d _ => false
  | _ => true

/-! ### values that bear data in a heap -/
/-- a dict's key as data -/
def KeyD : L2.Key → PD → Prop
  | .inl i, .int j => i = j
  | .inr x, .str y => x = y
  | _, _ => False
/-- an exception of a class of the program as data -/
def exD (c : Str) : PD := .dict [(.none, .str c)]
mutual
inductive Rp (K : PySem.W.Frag) (S : Hp) : V → PD → Prop
  | non : Rp K S .non .none
  | bl (b : Bool) : Rp K S (.bl b) (.bool b)
  | int (i : Int) : Rp K S (.int i) (.int i)
  | str (x : Str) : Rp K S (.str x) (.str x)
  | lst {a : Addr} {xs : List V} {ds : List PD} : SqL K S a xs → RpA K S xs ds → Rp K S (.ref a) (.list ds)
  | tup {a : Addr} {xs : List V} {ds : List PD} : SqT K S a xs → RpA K S xs ds → Rp K S (.ref a) (.tuple ds)
  | exc {a : Addr} {c : Str} : S a = some (ExK (.ref (He.ga K c)) a) → Rp K S (.ref a) (.dict [(.none, .str c)])
  | dct {a : Addr} {kvs : List (L2.Key × V)} {ds : List (PD × PD)} : S a = some (.dK kvs) → RpK K S kvs ds → Rp K S (.ref a) (.dict ds)
inductive RpA (K : PySem.W.Frag) (S : Hp) : List V → List PD → Prop
  | nil : RpA K S [] []
  | cons {v : V} {vs : List V} {d : PD} {ds : List PD} : Rp K S v d → RpA K S vs ds → RpA K S (v :: vs) (d :: ds)
inductive RpK (K : PySem.W.Frag) (S : Hp) : List (L2.Key × V) → List (PD × PD) → Prop
  | nil : RpK K S [] []
  | cons {k : L2.Key} {v : V} {kvs : List (L2.Key × V)} {kd d : PD} {ds : List (PD × PD)} : KeyD k kd → Rp K S v d → RpK K S kvs ds → RpK K S ((k, v) :: kvs) ((kd, d) :: ds)
end

section
variable {K : PySem.W.Frag} {S S' H H' : Hp}
theorem Same.seqT {a : Addr} {xs : List V} (e : Same S S') (h : SqT K S a xs) : SqT K S' a xs := by
  rcases h with (h | ⟨o, h⟩) | h
  · exact .inl (.inl (e _ _ h))
  · exact .inl (.inr ⟨o, e _ _ h⟩)
  · exact .inr h
mutual
theorem Rp.mono0 (e : Same S S') : ∀ {v : V} {d : PD}, Rp K S v d → Rp K S' v d
  | _, _, .non => .non
  | _, _, .bl b => .bl b
  | _, _, .int i => .int i
  | _, _, .str x => .str x
  | _, _, .lst hs ha => .lst (Same.seq e hs) (RpA.mono0 e ha)
  | _, _, .tup hs ha => .tup (Same.seqT e hs) (RpA.mono0 e ha)
  | _, _, .exc h => .exc (e _ _ h)
  | _, _, .dct h hk => .dct (e _ _ h) (RpK.mono0 e hk)
theorem RpA.mono0 (e : Same S S') : ∀ {vs : List V} {ds : List PD}, RpA K S vs ds → RpA K S' vs ds
  | _, _, .nil => .nil
  | _, _, .cons h1 h2 => .cons (Rp.mono0 e h1) (RpA.mono0 e h2)
theorem RpK.mono0 (e : Same S S') : ∀ {vs : List (L2.Key × V)} {ds : List (PD × PD)}, RpK K S vs ds → RpK K S' vs ds
  | _, _, .nil => .nil
  | _, _, .cons h1 h2 h3 => .cons h1 (Rp.mono0 e h2) (RpK.mono0 e h3)
end
theorem Rp.mono (e : Same S S') (d : PD) (v : V) (h : Rp K S v d) : Rp K S' v d := Rp.mono0 e h
theorem RpA.mono (e : Same S S') (ds : List PD) (vs : List V) (h : RpA K S vs ds) : RpA K S' vs ds := RpA.mono0 e h
mutual
theorem Rp.dp : ∀ (d : PD) (v : V), d.canLay0 = true → Rp K S v d → Dp K S v d
  | .none, _, _, h => by cases h; exact .non
  | .bool b, _, _, h => by cases h; exact .bl b
  | .int i, _, _, h => by cases h; exact .int i
  | .str x, _, _, h => by cases h; exact .str x
  | .list ds, _, c, h => by
    cases h with
    | lst hs ha => exact .lst hs (RpA.dp ds _ c ha)
  | .tuple ds, _, c, h => by
    cases h with
    | tup hs ha => exact .tup hs (RpA.dp ds _ c ha)
  | .dict _, _, c, h => by cases c
theorem RpA.dp : ∀ (ds : List PD) (vs : List V), PyData.canLayAll0 ds = true → RpA K S vs ds → DpAll K S vs ds
  | [], _, _, h => by cases h; exact .nil
  | d :: ds, _, c, h => by
    have c' : (d.canLay0 && PyData.canLayAll0 ds) = true := c
    rw [Bool.and_eq_true] at c'
    cases h with
    | cons h1 h2 => exact .cons (Rp.dp d _ c'.1 h1) (RpA.dp ds _ c'.2 h2)
end
theorem RpA.length : ∀ {ds : List PD} {vs : List V}, RpA K S vs ds → vs.length = ds.length
  | [], _, h => by cases h; rfl
  | d :: ds, _, h => by
    cases h with
    | cons h1 h2 => simp only [List.length_cons, RpA.length h2]
theorem RpA.get : ∀ {ds : List PD} {vs : List V} {i : Nat} {d : PD}, RpA K S vs ds → ds[i]? = some d → ∃ v, vs[i]? = some v ∧ Rp K S v d
  | [], _, _, _, _, e => by simp at e
  | d :: ds, _, i, x, h, e => by
    cases h with
    | cons h1 h2 =>
      cases i with
      | zero =>
        simp at e
        subst e
        exact ⟨_, rfl, h1⟩
      | succ i => simpa using RpA.get h2 (by simpa using e)
theorem RpA.getV : ∀ {ds : List PD} {vs : List V} {i : Nat} {v : V}, RpA K S vs ds → vs[i]? = some v → ∃ d, ds[i]? = some d ∧ Rp K S v d
  | [], _, _, _, h, e => by cases h; simp at e
  | d :: ds, _, i, x, h, e => by
    cases h with
    | cons h1 h2 =>
      cases i with
      | zero =>
        simp at e
        subst e
        exact ⟨_, rfl, h1⟩
      | succ i => simpa using RpA.getV h2 (by simpa using e)
theorem RpA.append : ∀ {ds es : List PD} {vs us : List V}, RpA K S vs ds → RpA K S us es → RpA K S (vs ++ us) (ds ++ es)
  | [], _, _, _, h, g => by cases h; exact g
  | d :: ds, _, _, _, h, g => by
    cases h with
    | cons h1 h2 => exact .cons h1 (RpA.append h2 g)
theorem RpA.take : ∀ {ds : List PD} {vs : List V} (n : Nat), RpA K S vs ds → RpA K S (vs.take n) (ds.take n)
  | [], _, n, h => by cases h; simpa using RpA.nil
  | d :: ds, _, n, h => by
    cases h with
    | cons h1 h2 =>
      cases n with
      | zero => exact .nil
      | succ n => exact .cons h1 (RpA.take n h2)
theorem RpA.drop : ∀ {ds : List PD} {vs : List V} (n : Nat), RpA K S vs ds → RpA K S (vs.drop n) (ds.drop n)
  | [], _, n, h => by cases h; simpa using RpA.nil
  | d :: ds, _, n, h => by
    cases h with
    | cons h1 h2 =>
      cases n with
      | zero => exact .cons h1 h2
      | succ n => exact RpA.drop n h2
theorem RpA.set {v : V} {d : PD} (r : Rp K S v d) : ∀ {ds : List PD} {vs : List V} (i : Nat), RpA K S vs ds → RpA K S (vs.set i v) (ds.set i d)
  | [], _, _, h => by cases h; exact .nil
  | e :: ds, _, i, h => by
    cases h with
    | cons h1 h2 =>
      cases i with
      | zero => exact .cons r h2
      | succ i => exact .cons h1 (RpA.set r i h2)
theorem RpA.reverse : ∀ {ds : List PD} {vs : List V}, RpA K S vs ds → RpA K S vs.reverse ds.reverse
  | [], _, h => by cases h; exact .nil
  | d :: ds, _, h => by
    cases h with
    | cons h1 h2 =>
      rw [List.reverse_cons, List.reverse_cons]
      exact (RpA.reverse h2).append (.cons h1 .nil)
theorem RpA.snoc {ds : List PD} {vs : List V} {v : V} {d : PD} (h : RpA K S vs ds) (r : Rp K S v d) : RpA K S (vs ++ [v]) (ds ++ [d]) := h.append (.cons r .nil)

/-- a heap grows: S, what is known of it, grows too, by new things alone -/
structure Ext (S H S' H' : Hp) : Prop where
  sub : Same S S'
  all : Same H H'
  inn : Same S' H'
  new : ∀ a o, S' a = some o → S a = some o ∨ H a = none
theorem Ext.refl (h : Same S H) : Ext S H S H := ⟨Same.refl _, Same.refl _, h, fun _ _ e => .inl e⟩
theorem Ext.trans {S1 S2 S3 H1 H2 H3 : Hp} (a : Ext S1 H1 S2 H2) (b : Ext S2 H2 S3 H3) : Ext S1 H1 S3 H3 :=
  ⟨a.sub.trans b.sub, a.all.trans b.all, b.inn, fun x o e => by
    rcases b.new x o e with h | h
    · exact a.new x o h
    · exact .inr (a.all.free h)⟩
/-- a new thing, known -/
theorem Ext.known {p : Addr} {o : HO} (h : Same S H) (hp : H p = none) : Ext S H (upd S p o) (upd H p o) := by
  have hs : S p = none := h.free hp
  refine ⟨fun a x e => by rw [upd_ne (ne_of_none e hs)]; exact e, fun a x e => by rw [upd_ne (ne_of_none e hp)]; exact e, fun a x e => ?_, fun a x e => ?_⟩
  · by_cases ha : a = p
    · subst ha; rw [upd_same] at e ⊢; exact e
    · rw [upd_ne ha] at e ⊢; exact h a x e
  · by_cases ha : a = p
    · subst ha; exact .inr hp
    · rw [upd_ne ha] at e; exact .inl e
/-- a new thing, not known -/
theorem Ext.fresh {p : Addr} {o : HO} (h : Same S H) (hp : H p = none) : Ext S H S (upd H p o) := by
  refine ⟨Same.refl _, fun a x e => by rw [upd_ne (ne_of_none e hp)]; exact e, fun a x e => ?_, fun a x e => .inl e⟩
  have := h a x e
  rw [upd_ne (ne_of_none this hp)]; exact this
theorem Ext.grow (h : Same S H) (g : Same H H') : Ext S H S H' := ⟨Same.refl _, g, h.trans g, fun _ _ e => .inl e⟩
end

/-! ### the state: F, the entry's known part and heap (without the footprint P of the object at a whose method runs) -/
structure F where
  S : Hp
  H : Hp
  a : Addr
  P : List Addr
def kvRel (K : PySem.W.Frag) (S : Hp) : List (L2.Key × V) → List (L2.Key × PD) → Prop
  | [], [] => True
  | (a, v) :: r, (b, d) :: q => a = b ∧ Rp K S v d ∧ kvRel K S r q
  | _, _ => False
theorem kvRel.mono {K : PySem.W.Frag} {S S' : Hp} (e : Same S S') : ∀ {l : List (L2.Key × V)} {m : List (L2.Key × PD)}, kvRel K S l m → kvRel K S' l m
  | [], [], _ => trivial
  | (a, v) :: r, (b, d) :: q, h => ⟨h.1, Rp.mono e _ _ h.2.1, kvRel.mono e h.2.2⟩
  | [], _ :: _, h => h.elim
  | _ :: _, [], h => h.elim
/-- lists of one's own at addresses -/
def LLs (K : PySem.W.Frag) (S H : Hp) : List Addr → List (List PD) → Prop
  | [], [] => True
  | b :: bs, xs :: xss => (∃ vs, H b = some (.lst vs) ∧ RpA K S vs xs) ∧ LLs K S H bs xss
  | _, _ => False
/-- a field's value; the addresses of what it owns -/
def FldV (K : PySem.W.Frag) (S H : Hp) (v : V) (bs : List Addr) : FV → Prop
  | .d x => bs = [] ∧ Rp K S v x
  | .l xs => ∃ b vs, v = .ref b ∧ bs = [b] ∧ H b = some (.lst vs) ∧ RpA K S vs xs
  | .k kvs => ∃ b vs, v = .ref b ∧ bs = [b] ∧ H b = some (.dK vs) ∧ kvRel K S vs kvs
def FldR (K : PySem.W.Frag) (S H : Hp) : List (Str × V) → Fs → List Addr → Prop
  | [], [], bs => bs = []
  | (n, v) :: vs, (m, x) :: fs, bs => n = m ∧ ∃ b1 b2, bs = b1 ++ b2 ∧ FldV K S H v b1 x ∧ FldR K S H vs fs b2
  | _, _, _ => False
def OwnI (K : PySem.W.Frag) (S H : Hp) (a : Addr) (fp : List Addr) (c : Str) (fs : Fs) : Prop := ∃ dx vs bs, fp = a :: dx :: bs ∧ fp.Nodup ∧ H a = some (.ins (He.ga K c) dx vs) ∧ H dx = some (.own a) ∧ FldR K S H vs fs bs
def Own (K : PySem.W.Frag) (S H : Hp) (a : Addr) (fp : List Addr) : SV → Prop
  | .d _ => False
  | .l ds => fp = [a] ∧ ∃ vs, H a = some (.lst vs) ∧ RpA K S vs ds
  | .k kvs => fp = [a] ∧ ∃ vs, H a = some (.dK vs) ∧ kvRel K S vs kvs
  | .ll xss => ∃ bs, fp = a :: bs ∧ fp.Nodup ∧ H a = some (.lst (bs.map V.ref)) ∧ LLs K S H bs xss
  | .o c fs => OwnI K S H a fp c fs
  | .me c fs => OwnI K S H a fp c fs
def Sl (K : PySem.W.Frag) (G : F) (S H : Hp) (v : V) (fp : List Addr) : SV → Prop
  | .d x => Rp K S v x
  | .me c fs => v = .ref G.a ∧ fp = G.P ∧ Own K S H G.a fp (.me c fs)
  | x => ∃ a, v = .ref a ∧ Own K S H a fp x
structure RelF (K : PySem.W.Frag) (G : F) (φ : Nat → List Addr) (S : Hp) (σ : St) (ρ : En) (H : Hp) : Prop where
  len : σ.length = ρ.length
  inn : Same S H
  ent : Same G.H H
  entS : Same G.S S
  new : ∀ a o, S a = some o → G.S a = some o ∨ (G.H a = none ∧ a ∉ G.P)
  gp : ∀ a, a ∈ G.P → G.H a = none ∧ S a = none ∧ H a ≠ none
  slot : ∀ (i : Nat) (x : SV), ρ[i]? = some (some x) → ∃ v, σ[i]? = some (some v) ∧ Sl K G S H v (φ i) x
  fr : ∀ i a, a ∈ φ i → S a = none ∧ G.H a = none ∧ H a ≠ none
  dj : ∀ i j a, i ≠ j → a ∈ φ i → a ∉ φ j
  pp : ∀ i a, a ∈ φ i → a ∈ G.P → ∃ c fs, ρ[i]? = some (some (.me c fs))
def Rel (K : PySem.W.Frag) (G : F) (S : Hp) (σ : St) (ρ : En) (H : Hp) : Prop := ∃ φ, RelF K G φ S σ ρ H

section
variable {K : PySem.W.Frag} {G : F} {S S' H H' : Hp} {σ : St} {ρ : En} {φ : Nat → List Addr}
theorem Rel.len (r : Rel K G S σ ρ H) : σ.length = ρ.length := let ⟨_, r⟩ := r; r.len
theorem Rel.inn (r : Rel K G S σ ρ H) : Same S H := let ⟨_, r⟩ := r; r.inn
theorem Rel.ent (r : Rel K G S σ ρ H) : Same G.H H := let ⟨_, r⟩ := r; r.ent
theorem Rel.entS (r : Rel K G S σ ρ H) : Same G.S S := let ⟨_, r⟩ := r; r.entS
theorem Rel.new (r : Rel K G S σ ρ H) : ∀ a o, S a = some o → G.S a = some o ∨ (G.H a = none ∧ a ∉ G.P) := let ⟨_, r⟩ := r; r.new
theorem Rel.slot (r : Rel K G S σ ρ H) (i : Nat) (x : SV) (h : ρ[i]? = some (some x)) : ∃ v fp, σ[i]? = some (some v) ∧ Sl K G S H v fp x := by
  obtain ⟨φ, r⟩ := r
  obtain ⟨v, h1, h2⟩ := r.slot i x h
  exact ⟨v, φ i, h1, h2⟩
theorem Rel.slotD (r : Rel K G S σ ρ H) (i : Nat) (x : PD) (h : ρ[i]? = some (some (.d x))) : ∃ v, σ[i]? = some (some v) ∧ Rp K S v x := by
  obtain ⟨φ, r⟩ := r
  exact r.slot i _ h
/-! what is kept where the addresses of a footprint keep their things -/
theorem LLs.keep (e : Same S S') : ∀ {bs : List Addr} {xss : List (List PD)}, (∀ a ∈ bs, ∀ o, H a = some o → H' a = some o) → LLs K S H bs xss → LLs K S' H' bs xss
  | [], [], _, _ => trivial
  | b :: bs, xs :: xss, k, ⟨⟨vs, h1, h2⟩, h⟩ => ⟨⟨vs, k b (.head _) _ h1, RpA.mono e _ _ h2⟩, LLs.keep e (fun a ha => k a (.tail _ ha)) h⟩
  | [], _ :: _, _, h => h.elim
  | _ :: _, [], _, h => h.elim
theorem FldV.keep (e : Same S S') {v : V} {bs : List Addr} (k : ∀ a ∈ bs, ∀ o, H a = some o → H' a = some o) : ∀ {x : FV}, FldV K S H v bs x → FldV K S' H' v bs x
  | .d _, ⟨h1, h2⟩ => ⟨h1, Rp.mono e _ _ h2⟩
  | .l _, ⟨b, vs, h1, h2, h3, h4⟩ => ⟨b, vs, h1, h2, k b (by rw [h2]; exact .head _) _ h3, RpA.mono e _ _ h4⟩
  | .k _, ⟨b, vs, h1, h2, h3, h4⟩ => ⟨b, vs, h1, h2, k b (by rw [h2]; exact .head _) _ h3, kvRel.mono e h4⟩
theorem FldR.keep (e : Same S S') : ∀ {vs : List (Str × V)} {fs : Fs} {bs : List Addr}, (∀ a ∈ bs, ∀ o, H a = some o → H' a = some o) → FldR K S H vs fs bs → FldR K S' H' vs fs bs
  | [], [], _, _, h => h
  | (n, v) :: vs, (m, x) :: fs, bs, k, ⟨h1, b1, b2, h2, h3, h4⟩ => ⟨h1, b1, b2, h2, FldV.keep e (fun a ha => k a (by rw [h2]; exact List.mem_append_left _ ha)) h3, FldR.keep e (fun a ha => k a (by rw [h2]; exact List.mem_append_right _ ha)) h4⟩
  | [], _ :: _, _, _, h => h.elim
  | _ :: _, [], _, _, h => h.elim
theorem OwnI.keep (e : Same S S') {a : Addr} {fp : List Addr} {c : Str} {fs : Fs} (k : ∀ a ∈ fp, ∀ o, H a = some o → H' a = some o) (h : OwnI K S H a fp c fs) : OwnI K S' H' a fp c fs := by
  obtain ⟨dx, vs, bs, h1, h2, h3, h4, h5⟩ := h
  exact ⟨dx, vs, bs, h1, h2, k a (by rw [h1]; exact .head _) _ h3, k dx (by rw [h1]; exact .tail _ (.head _)) _ h4, FldR.keep e (fun a ha => k a (by rw [h1]; exact .tail _ (.tail _ ha))) h5⟩
theorem Own.keep (e : Same S S') {a : Addr} {fp : List Addr} {x : SV} (k : ∀ a ∈ fp, ∀ o, H a = some o → H' a = some o) (h : Own K S H a fp x) : Own K S' H' a fp x := by
  cases x with
  | d x => exact h
  | l ds => obtain ⟨h0, vs, h1, h2⟩ := h; exact ⟨h0, vs, k a (by rw [h0]; exact .head _) _ h1, RpA.mono e _ _ h2⟩
  | k kvs => obtain ⟨h0, vs, h1, h2⟩ := h; exact ⟨h0, vs, k a (by rw [h0]; exact .head _) _ h1, kvRel.mono e h2⟩
  | ll xss =>
    obtain ⟨bs, h1, h2, h3, h4⟩ := h
    exact ⟨bs, h1, h2, k a (by rw [h1]; exact .head _) _ h3, LLs.keep e (fun a ha => k a (by rw [h1]; exact .tail _ ha)) h4⟩
  | o c fs => exact OwnI.keep e k h
  | me c fs => exact OwnI.keep e k h
theorem Sl.keep (e : Same S S') {v : V} {fp : List Addr} {x : SV} (k : ∀ a ∈ fp, ∀ o, H a = some o → H' a = some o) (h : Sl K G S H v fp x) : Sl K G S' H' v fp x := by
  cases x with
  | d x => exact Rp.mono e _ _ h
  | me c fs => exact ⟨h.1, h.2.1, Own.keep e k h.2.2⟩
  | l ds => obtain ⟨a, h1, h2⟩ := h; exact ⟨a, h1, h2.keep e k⟩
  | k ds => obtain ⟨a, h1, h2⟩ := h; exact ⟨a, h1, h2.keep e k⟩
  | ll ds => obtain ⟨a, h1, h2⟩ := h; exact ⟨a, h1, h2.keep e k⟩
  | o c ds => obtain ⟨a, h1, h2⟩ := h; exact ⟨a, h1, h2.keep e k⟩
theorem Ext.none (e : Ext S H S' H') {a : Addr} (hs : S a = none) (hh : H a ≠ .none) : S' a = .none := by
  cases q : S' a with
  | none => rfl
  | some o =>
    rcases e.new a o q with z | z
    · rw [hs] at z; cases z
    · exact absurd z hh
theorem same_ne (e : Same H H') {a : Addr} (h : H a ≠ none) : H' a ≠ none := by
  cases q : H a with
  | none => exact absurd q h
  | some o => rw [e a o q]; intro z; cases z
theorem RelF.ext (r : RelF K G φ S σ ρ H) (e : Ext S H S' H') : RelF K G φ S' σ ρ H' where
  len := r.len
  inn := e.inn
  ent := r.ent.trans e.all
  entS := r.entS.trans e.sub
  new := fun a o h => by
    rcases e.new a o h with z | z
    · exact r.new a o z
    · exact .inr ⟨r.ent.free z, fun hp => (r.gp a hp).2.2 z⟩
  gp := fun a ha => ⟨(r.gp a ha).1, e.none (r.gp a ha).2.1 (r.gp a ha).2.2, same_ne e.all (r.gp a ha).2.2⟩
  slot := fun i x h => by
    obtain ⟨v, h1, h2⟩ := r.slot i x h
    exact ⟨v, h1, h2.keep e.sub fun a _ o q => e.all a o q⟩
  fr := fun i a ha => ⟨e.none (r.fr i a ha).1 (r.fr i a ha).2.2, (r.fr i a ha).2.1, same_ne e.all (r.fr i a ha).2.2⟩
  dj := r.dj
  pp := r.pp
theorem Rel.ext (r : Rel K G S σ ρ H) (e : Ext S H S' H') : Rel K G S' σ ρ H' := let ⟨φ, r⟩ := r; ⟨φ, r.ext e⟩
def φset (φ : Nat → List Addr) (i : Nat) (fp : List Addr) : Nat → List Addr := fun j => if j = i then fp else φ j
theorem φset_same {i : Nat} {fp : List Addr} : φset φ i fp i = fp := if_pos rfl
theorem φset_ne {i j : Nat} {fp : List Addr} (h : i ≠ j) : φset φ i fp j = φ j := if_neg fun e => h e.symm
/-- a slot gets another value; what it owns from then on was its own before, or is new -/
theorem RelF.set (r : RelF K G φ S σ ρ H) {i : Nat} {x : SV} {v : V} {fp : List Addr} (k : ∀ a o, a ∉ φ i → H a = some o → H' a = some o) (sub : Same S S') (inn : Same S' H')
    (new : ∀ a o, S' a = some o → S a = some o ∨ (H a = none ∧ a ∉ φ i) ∨ (a ∈ φ i ∧ a ∉ G.P)) (there : ∀ a ∈ φ i, H' a ≠ none) (hfp : ∀ a ∈ fp, S' a = none ∧ H' a ≠ none ∧ (a ∈ φ i ∨ H a = none))
    (hq : ∀ a ∈ fp, a ∈ G.P → i < ρ.length ∧ ∃ c fs, x = .me c fs)
    (hs : Sl K G S' H' v fp x) : RelF K G (φset φ i fp) S' (σ.set i (some v)) (ρ.set i (some x)) H' where
  len := by simp only [List.length_set]; exact r.len
  inn := inn
  ent := fun a o q => k a o (fun ha => by rw [(r.fr i a ha).2.1] at q; cases q) (r.ent a o q)
  entS := r.entS.trans sub
  new := fun a o h => by
    rcases new a o h with z | ⟨z, _⟩ | ⟨z, z'⟩
    · exact r.new a o z
    · exact .inr ⟨r.ent.free z, fun hp => (r.gp a hp).2.2 z⟩
    · exact .inr ⟨(r.fr i a z).2.1, z'⟩
  gp := fun a ha => by
    obtain ⟨g1, g2, g3⟩ := r.gp a ha
    refine ⟨g1, ?_, ?_⟩
    · cases q : S' a with
      | none => rfl
      | some o =>
        rcases new a o q with z | ⟨z, _⟩ | ⟨z, z'⟩
        · rw [g2] at z; cases z
        · exact absurd z g3
        · exact absurd ha z'
    · by_cases hm : a ∈ φ i
      · exact there a hm
      · cases q : H a with
        | none => exact absurd q g3
        | some o => rw [k a o hm q]; intro z; cases z
  slot := fun j y hj => by
    by_cases e : i = j
    · subst e
      by_cases hl : i < ρ.length
      · rw [List.getElem?_set_self hl] at hj
        cases hj
        exact ⟨v, List.getElem?_set_self (by rw [r.len]; exact hl), by rw [φset_same]; exact hs⟩
      · rw [List.getElem?_eq_none (by simpa using hl)] at hj; cases hj
    · rw [List.getElem?_set_ne e] at hj ⊢
      rw [φset_ne e]
      obtain ⟨u, h1, h2⟩ := r.slot j y hj
      exact ⟨u, h1, h2.keep sub fun a ha o q => k a o (r.dj j i a (fun z => e z.symm) ha) q⟩
  fr := fun j a ha => by
    by_cases e : i = j
    · subst e
      rw [φset_same] at ha
      obtain ⟨h1, h2, h3⟩ := hfp a ha
      refine ⟨h1, ?_, h2⟩
      rcases h3 with z | z
      · exact (r.fr i a z).2.1
      · exact r.ent.free z
    · rw [φset_ne e] at ha
      obtain ⟨h1, h2, h3⟩ := r.fr j a ha
      have hn : a ∉ φ i := r.dj j i a (fun z => e z.symm) ha
      refine ⟨?_, h2, ?_⟩
      · cases q : S' a with
        | none => rfl
        | some o =>
          rcases new a o q with z | ⟨z, _⟩ | ⟨z, _⟩
          · rw [h1] at z; cases z
          · exact absurd z h3
          · exact absurd z hn
      · cases q : H a with
        | none => exact absurd q h3
        | some o => rw [k a o hn q]; intro z; cases z
  dj := fun j l a hjl hj hl => by
    by_cases e1 : i = j
    · subst e1
      rw [φset_same] at hj
      rw [φset_ne hjl] at hl
      rcases (hfp a hj).2.2 with z | z
      · exact r.dj i l a hjl z hl
      · exact (r.fr l a hl).2.2 z
    · by_cases e2 : i = l
      · subst e2
        rw [φset_same] at hl
        rw [φset_ne e1] at hj
        rcases (hfp a hl).2.2 with z | z
        · exact r.dj j i a hjl hj z
        · exact (r.fr j a hj).2.2 z
      · rw [φset_ne e1] at hj
        rw [φset_ne e2] at hl
        exact r.dj j l a hjl hj hl
  pp := fun j a hj hp => by
    by_cases e1 : i = j
    · subst e1
      rw [φset_same] at hj
      obtain ⟨hl, c, fs, rfl⟩ := hq a hj hp
      exact ⟨c, fs, List.getElem?_set_self hl⟩
    · rw [φset_ne e1] at hj
      rw [List.getElem?_set_ne e1]
      exact r.pp j a hj hp
/-- data is put at a slot -/
theorem Rel.setD (r : Rel K G S σ ρ H) {v : V} {x : PD} (h : Rp K S v x) (i : Nat) : Rel K G S (σ.set i (some v)) (ρ.set i (some (.d x))) H := by
  obtain ⟨φ, r⟩ := r
  exact ⟨_, r.set (fp := []) (fun _ _ _ q => q) (Same.refl _) r.inn (fun _ _ q => .inl q) (fun a ha => (r.fr i a ha).2.2) (fun a ha => nomatch ha) (fun a ha => nomatch ha) h⟩
/-- a slot is forgotten -/
theorem Rel.forget (r : Rel K G S σ ρ H) (i : Nat) (w : Option V) : Rel K G S (σ.set i w) (ρ.set i none) H := by
  obtain ⟨φ, r⟩ := r
  have hm : ∀ j a, a ∈ φset φ i [] j → j ≠ i ∧ a ∈ φ j := fun j a ha => by
    by_cases e : i = j
    · subst e; rw [φset_same] at ha; cases ha
    · rw [φset_ne e] at ha; exact ⟨fun z => e z.symm, ha⟩
  refine ⟨φset φ i [], ?_, r.inn, r.ent, r.entS, r.new, r.gp, fun j y hj => ?_, fun j a ha => r.fr j a (hm j a ha).2, fun j l a e h1 h2 => r.dj j l a e (hm j a h1).2 (hm l a h2).2, fun j a ha hp => ?_⟩
  · simp only [List.length_set]; exact r.len
  · by_cases e : i = j
    · subst e
      by_cases hl : i < ρ.length
      · rw [List.getElem?_set_self hl] at hj; cases hj
      · rw [List.getElem?_eq_none (by simpa using hl)] at hj; cases hj
    · rw [List.getElem?_set_ne e] at hj ⊢
      rw [φset_ne e]
      exact r.slot j y hj
  · obtain ⟨h1, h2⟩ := hm j a ha
    rw [List.getElem?_set_ne (fun z => h1 z.symm)]
    exact r.pp j a h2 hp
/-- a new thing of one's own is put at a slot -/
theorem Rel.newP (r : Rel K G S σ ρ H) (e : Ext S H S' H') {v : V} {x : SV} {fp : List Addr} (hfp : ∀ a ∈ fp, H a = none ∧ S' a = none ∧ H' a ≠ none) (hs : Sl K G S' H' v fp x) (i : Nat) : Rel K G S' (σ.set i (some v)) (ρ.set i (some x)) H' := by
  obtain ⟨φ, r⟩ := r
  exact ⟨_, r.set (fun a o _ q => e.all a o q) e.sub e.inn (fun a o q => by
    rcases e.new a o q with z | z
    · exact .inl z
    · exact .inr (.inl ⟨z, fun hm => (r.fr i a hm).2.2 z⟩)) (fun a ha => same_ne e.all (r.fr i a ha).2.2) (fun a ha => ⟨(hfp a ha).2.1, (hfp a ha).2.2, .inr (hfp a ha).1⟩)
    (fun a ha hp => absurd (hfp a ha).1 (r.gp a hp).2.2) hs⟩
theorem ne_some {o : HO} {x : Option HO} (h : x = some o) : x ≠ none := by rw [h]; intro z; cases z
theorem Rel.newO (r : Rel K G S σ ρ H) {D : Addr} {x : SV} (e : Ext S H S' H') (hD : H D = none) (hS : S' D = none) (hH : H' D ≠ none) (ho : Sl K G S' H' (.ref D) [D] x) (i : Nat) : Rel K G S' (σ.set i (some (.ref D))) (ρ.set i (some x)) H' :=
  r.newP e (fun a ha => by rw [List.mem_singleton] at ha; subst ha; exact ⟨hD, hS, hH⟩) ho i
theorem set_self {α : Type} {l : List α} {i : Nat} {x : α} (h : l[i]? = some x) : l.set i x = l := by
  apply List.ext_getElem?
  intro j
  by_cases e : i = j
  · subst e
    rw [List.getElem?_set_self (List.getElem?_eq_some_iff.mp h).1, h]
  · rw [List.getElem?_set_ne e]
/-- what a slot owns that is not the running method's own -/
theorem RelF.nop (r : RelF K G φ S σ ρ H) {i : Nat} {x : SV} (hi : ρ[i]? = some (some x)) (hx : ∀ c fs, x ≠ .me c fs) : ∀ a ∈ φ i, a ∉ G.P := fun a ha hp => by
  obtain ⟨c, fs, e⟩ := r.pp i a ha hp
  rw [hi] at e
  cases e
  exact hx c fs rfl
/-- a list of one's own changes -/
theorem Rel.changeL (r : Rel K G S σ ρ H) {i : Nat} {ds es : List PD} {vs : List V} (hi : ρ[i]? = some (some (.l ds))) {p : Addr} (hp : σ[i]? = some (some (.ref p))) (ho : RpA K S vs es) : Rel K G S σ (ρ.set i (some (.l es))) (upd H p (.lst vs)) := by
  obtain ⟨φ, r⟩ := r
  obtain ⟨v, h1, a, rfl, hf, us, ha, hr⟩ := r.slot i _ hi
  rw [hp] at h1
  cases h1
  have hm : p ∈ φ i := by rw [hf]; exact .head _
  have z := r.set (i := i) (x := .l es) (v := .ref p) (fp := [p]) (S' := S) (H' := upd H p (.lst vs)) (fun a o hn q => by rw [upd_ne (fun e => hn (by rw [e]; exact hm))]; exact q) (Same.refl _)
    (fun a o q => by rw [upd_ne (ne_of_none q (r.fr i p hm).1)]; exact r.inn a o q) (fun _ _ q => .inl q) (fun a ha => by
      rw [hf, List.mem_singleton] at ha; subst ha; rw [upd_same]; intro z; cases z) (fun a ha => by
      rw [List.mem_singleton] at ha; subst ha; exact ⟨(r.fr i a hm).1, ne_some upd_same, .inl hm⟩) (fun a ha hP => by
      rw [List.mem_singleton] at ha; subst ha; exact absurd hP (r.nop hi (fun _ _ z => by cases z) a hm)) ⟨p, rfl, rfl, vs, upd_same, ho⟩
  rw [set_self hp] at z
  exact ⟨_, z⟩
/-- a list of one's own is known from here on -/
theorem Rel.known {ds : List PD} {i : Nat} (r : Rel K G S σ ρ H) (hi : ρ[i]? = some (some (.l ds))) : ∃ a vs, σ[i]? = some (some (.ref a)) ∧ S a = none ∧ H a = some (.lst vs) ∧ RpA K S vs ds ∧ Rel K G (upd S a (.lst vs)) σ (ρ.set i (some (.d (.list ds)))) H := by
  obtain ⟨φ, r⟩ := r
  obtain ⟨v, h1, a, rfl, hf, vs, ha, hr⟩ := r.slot i _ hi
  have hm : a ∈ φ i := by rw [hf]; exact .head _
  obtain ⟨f1, f2, f3⟩ := r.fr i a hm
  have hP := r.nop hi (fun _ _ z => by cases z) a hm
  have sub : Same S (upd S a (.lst vs)) := fun b o e => by rw [upd_ne (ne_of_none e f1)]; exact e
  refine ⟨a, vs, h1, f1, ha, hr, φset φ i [], ?_⟩
  have z := r.set (i := i) (x := .d (.list ds)) (v := .ref a) (fp := []) (S' := upd S a (.lst vs)) (H' := H) (fun _ _ _ q => q) sub (fun b o e => by
      by_cases hb : b = a
      · subst hb; rw [upd_same] at e; cases e; exact ha
      · rw [upd_ne hb] at e; exact r.inn b o e) (fun b o e => by
      by_cases hb : b = a
      · subst hb; exact .inr (.inr ⟨hm, hP⟩)
      · rw [upd_ne hb] at e; exact .inl e) (fun b hb => (r.fr i b hb).2.2) (fun b hb => nomatch hb) (fun b hb => nomatch hb) (.lst (SqL.of upd_same) (RpA.mono sub _ _ hr))
  rw [set_self h1] at z
  exact z
end
end DL

set_option Elab.async false
set_option linter.all false
set_option maxRecDepth 100000
set_option maxHeartbeats 4000000
set_option autoImplicit false
/-! the data layer 2: readings that compute -/
namespace DL
open PySem L2

/-! ### weaker readings -/
section
variable {X : Cx}
theorem PEimp {e : Expr} {t t' : TE} (h : PE X e t) (i : ∀ σ H Q, t' σ H Q → t σ H Q) : PE X e t' := ⟨fun pins s σ H Q I q => h.run pins s σ H Q I (i σ H Q q)⟩
theorem PTimp {e : Expr} {t t' : TT} (h : PT X e t) (i : ∀ σ H Q, t' σ H Q → t σ H Q) : PT X e t' := ⟨fun pins s σ H Q I q => h.run pins s σ H Q I (i σ H Q q)⟩
theorem PWimp {e : Expr} {t t' : TT} (h : PW X e t) (i : ∀ σ H Q, t' σ H Q → t σ H Q) : PW X e t' := ⟨fun w pins s σ H Q I q => h.run w pins s σ H Q I (i σ H Q q)⟩
theorem PAimp {e : List Expr} {t t' : TA} (h : PA X e t) (i : ∀ σ H Q, t' σ H Q → t σ H Q) : PA X e t' := ⟨fun pos pins s σ H Q I q => h.run pos pins s σ H Q I (i σ H Q q)⟩
theorem PSimp {e : Stmt} {t t' : TS} (h : PS X e t) (i : ∀ D σ H, t' D σ H → t D σ H) : PS X e t' := ⟨fun pins s σ H D I q => h.run pins s σ H D I (i D σ H q)⟩
theorem PSsimp {e : List Stmt} {t t' : TS} (h : PSs X e t) (i : ∀ D σ H, t' D σ H → t D σ H) : PSs X e t' := ⟨fun pins s σ H D I q => h.run pins s σ H D I (i D σ H q)⟩
theorem PIimp {tg e : Expr} {t t' : TI} (h : PI X tg e t) (i : ∀ σ H Q, t' σ H Q → t σ H Q) : PI X tg e t' := ⟨fun pins s σ H Q I q => h.run pins s σ H Q I (i σ H Q q)⟩
end

/-! ### what is wanted of an outcome -/
abbrev MG := Str → Option Value
def wG {A B : Type} (rp : Hp → B → A → Prop) (mg : MG) (W : WX) (σ : St) (S H : Hp) (Q : B → Hp → Prop) : R A → Prop
  | .ok a => ∀ b S' H', Ext S H S' H' → rp S' b a → Q b H'
  | .ex c => ∀ cls S' H', mg c = some cls → Ext S H S' H' → W cls none σ H'
  | .no => False
theorem wG.mono {A B : Type} {rp : Hp → B → A → Prop} {mg : MG} {W : WX} {σ : St} {S H S1 H1 : Hp} {Q : B → Hp → Prop} {r : R A} (e : Ext S H S1 H1) (h : wG rp mg W σ S H Q r) : wG rp mg W σ S1 H1 Q r := by
  cases r with
  | ok a => exact fun b S' H' e' x => h b S' H' (e.trans e') x
  | ex c => exact fun cls S' H' m e' => h cls S' H' m (e.trans e')
  | no => exact h
theorem wG.imp {A B : Type} {rp : Hp → B → A → Prop} {mg : MG} {W : WX} {σ : St} {S H : Hp} {Q Q' : B → Hp → Prop} {r : R A} (i : ∀ b H, Q b H → Q' b H) (h : wG rp mg W σ S H Q r) : wG rp mg W σ S H Q' r := by
  cases r with
  | ok a => exact fun b S' H' e' x => i b H' (h b S' H' e' x)
  | ex c => exact h
  | no => exact h
theorem wG.bind {A B A' B' : Type} {rp : Hp → B → A → Prop} {rp' : Hp → B' → A' → Prop} {mg : MG} {W : WX} {σ : St} {S H : Hp} {Q : B' → Hp → Prop} {r : R A} {k : A → R A'} (h : wG rp' mg W σ S H Q (r.bind k)) :
    wG rp mg W σ S H (fun b H1 => ∃ S1 a, Ext S H S1 H1 ∧ rp S1 b a ∧ wG rp' mg W σ S1 H1 Q (k a)) r := by
  cases r with
  | ok a => exact fun b S' H' e x => ⟨S', a, e, x, h.mono e⟩
  | ex c => exact h
  | no => exact h
def tG {A B : Type} (rp : Hp → B → A → Prop) (K : PySem.W.Frag) (mg : MG) (W : WX) (f : En → R A) : St → Hp → (B → Hp → Prop) → Prop := fun σ H Q => ∃ G ρ S, Rel K G S σ ρ H ∧ wG rp mg W σ S H Q (f ρ)
abbrev tD (K : PySem.W.Frag) (mg : MG) (W : WX) (f : En → R PD) : TE := tG (Rp K) K mg W f
def rpB : Hp → Bool → Bool → Prop := fun _ b a => b = a
abbrev tDT (K : PySem.W.Frag) (mg : MG) (W : WX) (f : En → R Bool) : TT := tG rpB K mg W f
abbrev tDA (K : PySem.W.Frag) (mg : MG) (W : WX) (f : En → R (List PD)) : TA := tG (RpA K) K mg W f
theorem tG.mk {A B : Type} {rp : Hp → B → A → Prop} {K : PySem.W.Frag} {mg : MG} {W : WX} {f : En → R A} {G : F} {ρ : En} {S H : Hp} {σ : St} {Q : B → Hp → Prop} (r : Rel K G S σ ρ H) (h : wG rp mg W σ S H Q (f ρ)) : tG rp K mg W f σ H Q := ⟨G, ρ, S, r, h⟩

/-! ### combinators of computations -/
def dC (d : PD) : En → R PD := fun _ => .ok d
def dV (i : Nat) : En → R PD := fun ρ => match ρ[i]? with
  | some (some (.d d)) => .ok d
  | _ => .no
def d1 (g : PD → R PD) (f : En → R PD) : En → R PD := fun ρ => (f ρ).bind g
def d2 (g : PD → PD → R PD) (f1 f2 : En → R PD) : En → R PD := fun ρ => (f1 ρ).bind fun a => (f2 ρ).bind fun b => g a b
def dNil : En → R (List PD) := fun _ => .ok []
def dCons (f : En → R PD) (g : En → R (List PD)) : En → R (List PD) := fun ρ => (f ρ).bind fun a => (g ρ).bind fun as => .ok (a :: as)
def dA (g : List PD → R PD) (f : En → R (List PD)) : En → R PD := fun ρ => (f ρ).bind g
def toB : PD → R Bool
  | .bool b => .ok b
  | _ => .no
def dT (f : En → R PD) : En → R Bool := fun ρ => (f ρ).bind toB
def dAnd (f g : En → R Bool) : En → R Bool := fun ρ => (f ρ).bind fun a => if a = true then g ρ else .ok false
def dOr (f g : En → R Bool) : En → R Bool := fun ρ => (f ρ).bind fun a => if a = true then .ok true else g ρ
def dNot (f : En → R Bool) : En → R Bool := fun ρ => (f ρ).bind fun a => .ok (!a)
def dOfB (f : En → R Bool) : En → R PD := fun ρ => (f ρ).bind fun a => .ok (.bool a)
def dIf (c : En → R Bool) (f g : En → R PD) : En → R PD := fun ρ => (c ρ).bind fun a => if a = true then f ρ else g ρ

section
variable {X : Cx} {W : WX} {f f1 f2 : En → R PD} {a b e : Expr} {pos : Pos}
theorem pd_int {i : Int} {j} : PE X (.Constant (.int i) j pos) (tD X.K X.mg W (dC (.int i))) := PEimp pe_int fun σ H Q ⟨G, ρ, S, r, h⟩ => h (.int i) S H (Ext.refl r.inn) (.int i)
theorem pd_bl {i : Bool} {j} : PE X (.Constant (.bool i) j pos) (tD X.K X.mg W (dC (.bool i))) := PEimp pe_bl fun σ H Q ⟨G, ρ, S, r, h⟩ => h (.bl i) S H (Ext.refl r.inn) (.bl i)
theorem pd_non {j} : PE X (.Constant .none j pos) (tD X.K X.mg W (dC .none)) := PEimp pe_non fun σ H Q ⟨G, ρ, S, r, h⟩ => h .non S H (Ext.refl r.inn) .non
theorem pd_str {x : Str} {j} : PE X (.Constant (.str x) j pos) (tD X.K X.mg W (dC (.str x))) := PEimp pe_str fun σ H Q ⟨G, ρ, S, r, h⟩ => h (.str x) S H (Ext.refl r.inn) (.str x)
theorem tVar_of {i : Nat} {σ : St} {H : Hp} {Q : VK} (h : tD X.K X.mg W (dV i) σ H Q) : tVar i σ H Q := by
  obtain ⟨G, ρ, S, r, h⟩ := h
  unfold dV at h
  split at h
  · rename_i d e
    obtain ⟨v, h1, h2⟩ := r.slotD i _ e
    exact ⟨v, h1, h v S H (Ext.refl r.inn) h2⟩
  · exact h.elim
theorem pd_v (i : Nat) {x : Str} (hN : X.N[i]? = some x := by rfl) (hv : Vis X.env.scope x := by first | exact Or.inl rfl | exact Or.inr (Or.inl rfl) | exact Or.inr (Or.inr rfl)) (hd : (x == ("__debug__" : Str)) = false := by decide)
    (hcd : (x == ("__classdict__" : Str)) = false := by decide) : PE X (.Name x pos) (tD X.K X.mg W (dV i)) := PEimp (pe_var hN hv hd hcd) fun _ _ _ h => tVar_of h
/-- a module's constant -/
theorem pd_g {x : Str} {v : V} {u : Value} {d : PD} (hg : Gl X x) (hm : X.mg x = some u) (r : RelV v u) (hr : ∀ S, Rp X.K S v d) (hd : (x == ("__debug__" : Str)) = false := by decide) : PE X (.Name x pos) (tD X.K X.mg W (dC d)) :=
  PEimp (pe_glob hg hm r hd) fun σ H Q ⟨G, ρ, S, rl, h⟩ => h v S H (Ext.refl rl.inn) (hr S)

/-- a two-place operator, by its work on data -/
def OpD (X : Cx) (fn : Value → Value → Sem Value) (g : PD → PD → R PD) : Prop :=
  OpR X fn fun x y H Q => ∃ S a b, Same S H ∧ Rp X.K S x a ∧ Rp X.K S y b ∧ match g a b with
    | .ok d => ∀ v S' H', Ext S H S' H' → Rp X.K S' v d → Q v H'
    | _ => False
theorem d2_of {r : R2} {g : PD → PD → R PD} (hr : ∀ x y H Q, (∃ S a b, Same S H ∧ Rp X.K S x a ∧ Rp X.K S y b ∧ match g a b with
    | .ok d => ∀ v S' H', Ext S H S' H' → Rp X.K S' v d → Q v H'
    | _ => False) → r x y H Q) (hn : ∀ a b c, g a b ≠ .ex c) : ∀ σ H Q, tD X.K X.mg W (d2 g f1 f2) σ H Q → tOp r (tD X.K X.mg W f1) (tD X.K X.mg W f2) σ H Q := by
  rintro σ H Q ⟨G, ρ, S, rel, h⟩
  refine tG.mk rel (wG.imp ?_ (wG.bind (rp := Rp X.K) h))
  rintro x H1 ⟨S1, a, e1, ra, h1⟩
  refine tG.mk (rel.ext e1) (wG.imp ?_ (wG.bind (rp := Rp X.K) h1))
  rintro y H2 ⟨S2, b, e2, rb, h2⟩
  refine hr x y H2 Q ⟨S2, a, b, e2.inn, Rp.mono e2.sub _ _ ra, rb, ?_⟩
  cases q : g a b with
  | ok d => rw [q] at h2; exact h2
  | ex c => exact absurd q (hn a b c)
  | no => rw [q] at h2; exact h2
/-- g never raises -/
def NoEx (g : PD → PD → R PD) : Prop := ∀ a b c, g a b ≠ .ex c
theorem pd_bin {op : Operator} {g : PD → PD → R PD} (ho : OpD X (binaryOp op) g) (hn : NoEx g) (ha : PE X a (tD X.K X.mg W f1)) (hb : PE X b (tD X.K X.mg W f2)) : PE X (.BinOp a op b pos) (tD X.K X.mg W (d2 g f1 f2)) :=
  PEimp (pe_op ho ha hb) (d2_of (fun _ _ _ _ h => h) hn)
theorem pd_cmp {op : CmpOp} {g : PD → PD → R PD} (ho : OpD X (compareOp op) g) (hn : NoEx g) (ha : PE X a (tD X.K X.mg W f1)) (hb : PE X b (tD X.K X.mg W f2)) (h1 : behindInMarks op b = false := by first | exact nobehind _ (by decide) (by decide) | rfl) :
    PE X (.Compare a [op] [b] pos) (tD X.K X.mg W (d2 g f1 f2)) := PEimp (pe_cmpR ho ha hb h1) (d2_of (fun _ _ _ _ h => h) hn)

/-! tests -/
theorem dT_of {t : TE} (ht : ∀ σ H Q, tD X.K X.mg W f σ H Q → t σ H Q) : ∀ σ H Q, tDT X.K X.mg W (dT f) σ H Q → tB t σ H Q := by
  rintro σ H Q ⟨G, ρ, S, rel, h⟩
  refine ht σ H _ (tG.mk rel (wG.imp ?_ (wG.bind (rp := Rp X.K) h)))
  rintro x H1 ⟨S1, a, e1, ra, h1⟩
  cases a with
  | bool c =>
    cases ra
    exact ⟨c, rfl, h1 c S1 H1 (Ext.refl e1.inn) rfl⟩
  | _ => exact h1.elim
/-- any expression that gives a bool, as a test -/
theorem pt_d (h : PE X e (tD X.K X.mg W f)) (he : ∀ whole, isTrue e X.env whole = (do let v ← whole; standAt e.pos; holding [v] (truthy v)) := by intro _; rfl) : PT X e (tDT X.K X.mg W (dT f)) := PTimp (pt_val h he) (dT_of fun _ _ _ h => h)
theorem pt_cmpd {op : CmpOp} {g : PD → PD → R PD} (ho : OpD X (compareOp op) g) (hn : NoEx g) (ha : PE X a (tD X.K X.mg W f1)) (hb : PE X b (tD X.K X.mg W f2)) (h1 : behindInMarks op b = false := by first | exact nobehind _ (by decide) (by decide) | rfl) :
    PT X (.Compare a [op] [b] pos) (tDT X.K X.mg W (dT (d2 g f1 f2))) := PTimp (pt_cmpR ho ha hb h1) (dT_of (d2_of (fun _ _ _ _ h => h) hn))
variable {t1 t2 : En → R Bool} {rest : List Expr}
theorem tAnd_of : ∀ σ H Q, tDT X.K X.mg W (dAnd t1 t2) σ H Q → tAnd (tDT X.K X.mg W t1) (tDT X.K X.mg W t2) σ H Q := by
  rintro σ H Q ⟨G, ρ, S, rel, h⟩
  refine tG.mk rel (wG.imp ?_ (wG.bind (rp := rpB) h))
  rintro x H1 ⟨S1, a, e1, ra, h1⟩
  cases ra
  cases x with
  | true => exact tG.mk (rel.ext e1) h1
  | false => exact h1 false S1 H1 (Ext.refl e1.inn) rfl
theorem tOr_of : ∀ σ H Q, tDT X.K X.mg W (dOr t1 t2) σ H Q → tOr (tDT X.K X.mg W t1) (tDT X.K X.mg W t2) σ H Q := by
  rintro σ H Q ⟨G, ρ, S, rel, h⟩
  refine tG.mk rel (wG.imp ?_ (wG.bind (rp := rpB) h))
  rintro x H1 ⟨S1, a, e1, ra, h1⟩
  cases ra
  cases x with
  | false => exact tG.mk (rel.ext e1) h1
  | true => exact h1 true S1 H1 (Ext.refl e1.inn) rfl
theorem pw_d1 (ha : PT X a (tDT X.K X.mg W t1)) : PW X (.BoolOp .And [a] pos) (tDT X.K X.mg W t1) := pw_and1 ha
theorem pw_o1 (ha : PT X a (tDT X.K X.mg W t1)) : PW X (.BoolOp .Or [a] pos) (tDT X.K X.mg W t1) := pw_or1 ha
theorem pw_dand (ha : PT X a (tDT X.K X.mg W t1)) (hb : PW X (.BoolOp .And (b :: rest) pos) (tDT X.K X.mg W t2)) : PW X (.BoolOp .And (a :: b :: rest) pos) (tDT X.K X.mg W (dAnd t1 t2)) := PWimp (pw_and ha hb) tAnd_of
theorem pw_dor (ha : PT X a (tDT X.K X.mg W t1)) (hb : PW X (.BoolOp .Or (b :: rest) pos) (tDT X.K X.mg W t2)) : PW X (.BoolOp .Or (a :: b :: rest) pos) (tDT X.K X.mg W (dOr t1 t2)) := PWimp (pw_or ha hb) tOr_of
theorem pt_dnot (ha : PT X a (tDT X.K X.mg W t1)) : PT X (.UnaryOp .Not a pos) (tDT X.K X.mg W (dNot t1)) := PTimp (pt_not ha) fun σ H Q ⟨G, ρ, S, rel, h⟩ =>
  tG.mk rel (wG.imp (fun x H1 ⟨S1, a, e1, ra, h1⟩ => by cases ra; exact h1 (!x) S1 H1 (Ext.refl e1.inn) rfl) (wG.bind (rp := rpB) h))
/-! the same as values: each operand a bool -/
theorem pe_d1 {op} (ha : PE X a (tD X.K X.mg W f)) : PE X (.BoolOp op [a] pos) (tD X.K X.mg W f) := pe_one ha
def dAndV (f g : En → R PD) : En → R PD := fun ρ => (f ρ).bind fun a => (toB a).bind fun c => if c = true then g ρ else .ok (.bool false)
def dOrV (f g : En → R PD) : En → R PD := fun ρ => (f ρ).bind fun a => (toB a).bind fun c => if c = true then .ok (.bool true) else g ρ
def dNotV (f : En → R PD) : En → R PD := fun ρ => (f ρ).bind fun a => (toB a).bind fun c => .ok (.bool (!c))
theorem pe_dand (ha : PE X a (tD X.K X.mg W f1)) (hb : PE X (.BoolOp .And (b :: rest) pos) (tD X.K X.mg W f2)) : PE X (.BoolOp .And (a :: b :: rest) pos) (tD X.K X.mg W (dAndV f1 f2)) := PEimp (pe_and ha hb) fun σ H Q ⟨G, ρ, S, rel, h⟩ =>
  tG.mk rel (wG.imp (fun x H1 ⟨S1, a, e1, ra, h1⟩ => by
    cases a with
    | bool c =>
      cases ra
      refine ⟨c, rfl, ?_⟩
      cases c with
      | true => exact tG.mk (rel.ext e1) h1
      | false => exact h1 (.bl false) S1 H1 (Ext.refl e1.inn) (.bl false)
    | _ => exact h1.elim) (wG.bind (rp := Rp X.K) h))
theorem pe_dor (ha : PE X a (tD X.K X.mg W f1)) (hb : PE X (.BoolOp .Or (b :: rest) pos) (tD X.K X.mg W f2)) : PE X (.BoolOp .Or (a :: b :: rest) pos) (tD X.K X.mg W (dOrV f1 f2)) := PEimp (pe_or ha hb) fun σ H Q ⟨G, ρ, S, rel, h⟩ =>
  tG.mk rel (wG.imp (fun x H1 ⟨S1, a, e1, ra, h1⟩ => by
    cases a with
    | bool c =>
      cases ra
      refine ⟨c, rfl, ?_⟩
      cases c with
      | false => exact tG.mk (rel.ext e1) h1
      | true => exact h1 (.bl true) S1 H1 (Ext.refl e1.inn) (.bl true)
    | _ => exact h1.elim) (wG.bind (rp := Rp X.K) h))
theorem pe_dnot (ha : PE X a (tD X.K X.mg W f)) : PE X (.UnaryOp .Not a pos) (tD X.K X.mg W (dNotV f)) := PEimp (pe_not ha) fun σ H Q ⟨G, ρ, S, rel, h⟩ =>
  tG.mk rel (wG.imp (fun x H1 ⟨S1, a, e1, ra, h1⟩ => by
    cases a with
    | bool c =>
      cases ra
      exact ⟨c, rfl, h1 (.bl (!c)) S1 H1 (Ext.refl e1.inn) (.bl _)⟩
    | _ => exact h1.elim) (wG.bind (rp := Rp X.K) h))
theorem pe_dif {c : Expr} (hc : PT X c (tDT X.K X.mg W t1)) (ha : PE X a (tD X.K X.mg W f1)) (hb : PE X b (tD X.K X.mg W f2)) : PE X (.IfExp c a b pos) (tD X.K X.mg W (dIf t1 f1 f2)) := PEimp (pe_ifExp hc ha hb) fun σ H Q ⟨G, ρ, S, rel, h⟩ =>
  tG.mk rel (wG.imp (fun x H1 ⟨S1, a, e1, ra, h1⟩ => by
    cases ra
    cases x with
    | true => exact tG.mk (rel.ext e1) h1
    | false => exact tG.mk (rel.ext e1) h1) (wG.bind (rp := rpB) h))

/-! argument lists -/
variable {fs : En → R (List PD)} {es : List Expr}
theorem pad_nil : PA X [] (tDA X.K X.mg W dNil) := PAimp pa_nil fun σ H Q ⟨G, ρ, S, r, h⟩ => h [] S H (Ext.refl r.inn) .nil
theorem pad_cons (ha : PE X e (tD X.K X.mg W f)) (hr : PA X es (tDA X.K X.mg W fs)) (hs : starEach (e :: es) X.env = (false, eval e X.env) :: starEach es X.env := by rfl) : PA X (e :: es) (tDA X.K X.mg W (dCons f fs)) :=
  PAimp (pa_cons ha hr hs) fun σ H Q ⟨G, ρ, S, rel, h⟩ => by
    refine tG.mk rel (wG.imp ?_ (wG.bind (rp := Rp X.K) h))
    rintro x H1 ⟨S1, a, e1, ra, h1⟩
    refine tG.mk (rel.ext e1) (wG.imp ?_ (wG.bind (rp := RpA X.K) h1))
    rintro xs H2 ⟨S2, as, e2, ras, h2⟩
    exact h2 (x :: xs) S2 H2 (Ext.refl e2.inn) (.cons (Rp.mono e2.sub _ _ ra) ras)
/-- (a, b, ..) -/
def gTupD (ds : List PD) : R PD := if ds.length ≤ 1000 then .ok (.tuple ds) else .no
def gLstD (ds : List PD) : R PD := if ds.length ≤ 1000 then .ok (.list ds) else .no
theorem le_line {n : Nat} (h : n ≤ 1000) : n ≤ sizeLine := Nat.le_trans h (by decide)
theorem pd_tup {x1} (h : PA X es (tDA X.K X.mg W fs)) : PE X (.Tuple es x1 pos) (tD X.K X.mg W (dA gTupD fs)) := PEimp (pe_tup h) fun σ H Q ⟨G, ρ, S, rel, h⟩ => by
  refine tG.mk rel (wG.imp ?_ (wG.bind (rp := RpA X.K) h))
  rintro xs H1 ⟨S1, as, e1, ra, h1⟩
  unfold gTupD at h1
  by_cases hl : as.length ≤ 1000
  · rw [if_pos hl] at h1
    refine ⟨by rw [ra.length]; exact le_line hl, fun p hp => ?_⟩
    have e2 : Ext S1 H1 (upd S1 p (.tup xs)) (upd H1 p (.tup xs)) := Ext.known e1.inn hp
    exact h1 _ _ _ e2 (.tup (SqT.of upd_same) (RpA.mono e2.sub _ _ ra))
  · rw [if_neg hl] at h1; exact h1.elim
theorem pd_lst (h : PA X es (tDA X.K X.mg W fs)) : PE X (.List es pos) (tD X.K X.mg W (dA gLstD fs)) := PEimp (pe_lst h) fun σ H Q ⟨G, ρ, S, rel, h⟩ => by
  refine tG.mk rel (wG.imp ?_ (wG.bind (rp := RpA X.K) h))
  rintro xs H1 ⟨S1, as, e1, ra, h1⟩
  unfold gLstD at h1
  by_cases hl : as.length ≤ 1000
  · rw [if_pos hl] at h1
    refine ⟨by rw [ra.length]; exact le_line hl, fun p hp => ?_⟩
    have e2 : Ext S1 H1 (upd S1 p (.lst xs)) (upd H1 p (.lst xs)) := Ext.known e1.inn hp
    exact h1 _ _ _ e2 (.lst (SqL.of upd_same) (RpA.mono e2.sub _ _ ra))
  · rw [if_neg hl] at h1; exact h1.elim

/-! calls -/
/-- a def's promise by its work on data: n arguments -/
def spD (K : PySem.W.Frag) (mg : MG) (n : Nat) (g : List PD → R PD) : Sp := fun vs H Q E => ∃ S ds, Same S H ∧ RpA K S vs ds ∧ ds.length = n ∧ match g ds with
  | .ok d => ∀ v S' H', Ext S H S' H' → Rp K S' v d → Q v H'
  | .ex c => ∀ cls S' H', mg c = some cls → Ext S H S' H' → E cls none H'
  | .no => False
def gCall (n : Nat) (ds : List PD) (g : List PD → R PD) (as : List PD) : R PD := if (as ++ ds).length = n then g (as ++ ds) else .no
theorem tCallD_of {n : Nat} {ds : List PD} {dvs : List V} {g : List PD → R PD} (hd : ∀ S, RpA X.K S dvs ds) : ∀ σ H Q, tD X.K X.mg W (dA (gCall n ds g) fs) σ H Q → tCallSD (spD X.K X.mg n g) dvs (fun σ => L2.WE W σ) (tDA X.K X.mg W fs) σ H Q := by
  rintro σ H Q ⟨G, ρ, S, rel, h⟩
  refine tG.mk rel (wG.imp ?_ (wG.bind (rp := RpA X.K) h))
  rintro xs H1 ⟨S1, as, e1, ra, h1⟩
  unfold gCall at h1
  by_cases hl : (as ++ ds).length = n
  · rw [if_pos hl] at h1
    refine ⟨S1, as ++ ds, e1.inn, ra.append (hd S1), hl, ?_⟩
    cases q : g (as ++ ds) with
    | ok d => rw [q] at h1; exact h1
    | ex c => rw [q] at h1; exact h1
    | no => rw [q] at h1; exact h1
  · rw [if_neg hl] at h1; exact h1.elim
end
end DL

set_option Elab.async false
set_option linter.all false
set_option maxRecDepth 100000
set_option maxHeartbeats 4000000
set_option autoImplicit false
/-! the data layer 3: calls, statements, defs -/
namespace DL
open PySem L2

/-- a def that stands by a name of the module, with its promise: k its level, n its parameters, Bs what its defaults may fill up -/
structure FnAt (P : Program) (w : World) (K : PySem.W.Frag) (mg : MG) (base : Heap) (x : Str) (k n : Nat) (Bs : List (List PD)) (g : List PD → R PD) : Prop where
  ex : ∃ (f : Addr) (fd : FuncData) (ps : List Str), FnOk P w K mg base (L2.CX P w) k f fd ps (spD K mg n g) ∧ mg x = some (.ref f) ∧ PySem.W.keepIn K (.ref f) = true ∧
    ∀ ds, ds ∈ Bs → ∃ (us : List Value) (dvs : List V), Binds K fd ps us ∧ Vals dvs us ∧ ∀ S, RpA K S dvs ds
section
variable {X : Cx} {W : WX} {f : En → R PD} {fs : En → R (List PD)} {a b e : Expr} {es : List Expr} {pos p : Pos} {x : Str} {k n : Nat} {Bs : List (List PD)} {ds : List PD} {g : List PD → R PD}
theorem pd_call (Fn : FnAt X.prog X.w X.K X.mg X.base x k n Bs g) (hB : ds ∈ Bs) (hr : Room k X.A) (tk : Takes X W) (hg : Gl X x) (ha : PA X (e :: es) (tDA X.K X.mg W fs))
    (hdb : (x == ("__debug__" : Str)) = false := by decide) (he : starEach (e :: es) X.env = (false, eval e X.env) :: starEach es X.env := by rfl) (hpl : (backTo pos (starEach es X.env)).any (·.1) = false := by rfl) :
    PE X (.Call (.Name x p) (e :: es) [] pos) (tD X.K X.mg W (dA (gCall n ds g) fs)) := by
  obtain ⟨f, fd, ps, hF, hm, hk, hb⟩ := Fn.ex
  obtain ⟨us, dvs, b1, b2, b3⟩ := hb ds hB
  exact PEimp (pe_callSD hF hr hg hm hk b1 b2 (fun σ => passAt tk σ) ha hdb he hpl) (tCallD_of b3)
/-- the same where nothing may be raised out of here -/
theorem takesF {X : Cx} : Takes X (fun _ _ _ _ => False) := takes0
end

/-! ### statements -/
inductive Fl where
  | nx (ρ : En)
  | rt (d : PD)
  | rm (d : PD) (ρ : En)
  | bk (ρ : En)
  | ct (ρ : En)
  | ex (c : Str) (ρ : En)
  | no
def wS (K : PySem.W.Frag) (mg : MG) (W : WX) (G : F) (S : Hp) (D : Ends) : Fl → Prop
  | .nx ρ => ∀ σ S' H, Same S S' → Rel K G S' σ ρ H → D.nx σ H
  | .bk ρ => ∀ σ S' H, Same S S' → Rel K G S' σ ρ H → D.bk σ H
  | .ct ρ => ∀ σ S' H, Same S S' → Rel K G S' σ ρ H → D.ct σ H
  | .rt d => ∀ v S' H, Ext G.S G.H S' H → Rp K S' v d → D.rt v H
  | .rm d ρ => ∀ v σ S' H, Same S S' → Rel K G S' σ ρ H → Rp K S' v d → D.rt v H
  | .ex c ρ => ∀ cls σ S' H, mg c = some cls → Same S S' → Rel K G S' σ ρ H → W cls none σ H
  | .no => False
def tS (K : PySem.W.Frag) (mg : MG) (W : WX) (f : En → Fl) : TS := fun D σ H => ∃ G ρ S, Rel K G S σ ρ H ∧ wS K mg W G S D (f ρ)
theorem Rel.fin {K : PySem.W.Frag} {G : F} {S H : Hp} {σ : St} {ρ : En} (r : Rel K G S σ ρ H) : Ext G.S G.H S H := ⟨r.entS, r.ent, r.inn, fun a o h => (r.new a o h).imp id (·.1)⟩
theorem wS.mono {K : PySem.W.Frag} {mg : MG} {W : WX} {G : F} {S S1 : Hp} {D : Ends} {r : Fl} (e : Same S S1) (h : wS K mg W G S D r) : wS K mg W G S1 D r := by
  cases r with
  | nx ρ => exact fun σ S' H s q => h σ S' H (e.trans s) q
  | bk ρ => exact fun σ S' H s q => h σ S' H (e.trans s) q
  | ct ρ => exact fun σ S' H s q => h σ S' H (e.trans s) q
  | rt d => exact h
  | rm d ρ => exact fun v σ S' H s q => h v σ S' H (e.trans s) q
  | ex c ρ => exact fun cls σ S' H m s q => h cls σ S' H m (e.trans s) q
  | no => exact h
/-- other ends -/
theorem wS.imp {K : PySem.W.Frag} {mg : MG} {W : WX} {G : F} {S : Hp} {D D' : Ends} {r : Fl} (h : wS K mg W G S D r) (i1 : ∀ σ H, D.nx σ H → D'.nx σ H) (i2 : ∀ v H, D.rt v H → D'.rt v H) (i3 : ∀ σ H, D.bk σ H → D'.bk σ H) (i4 : ∀ σ H, D.ct σ H → D'.ct σ H) : wS K mg W G S D' r := by
  cases r with
  | nx ρ => exact fun σ S' H s q => i1 _ _ (h σ S' H s q)
  | bk ρ => exact fun σ S' H s q => i3 _ _ (h σ S' H s q)
  | ct ρ => exact fun σ S' H s q => i4 _ _ (h σ S' H s q)
  | rt d => exact fun v S' H s q => i2 _ _ (h v S' H s q)
  | rm d ρ => exact fun v σ S' H s q z => i2 _ _ (h v σ S' H s q z)
  | ex c ρ => exact h
  | no => exact h
/-- an expression, then what a statement makes of it -/
def sE {A : Type} (f : En → R A) (k : A → En → Fl) : En → Fl := fun ρ => match f ρ with
  | .ok a => k a ρ
  | .ex c => .ex c ρ
  | .no => .no
theorem wS.ofE {A B : Type} {rp : Hp → B → A → Prop} {K : PySem.W.Frag} {mg : MG} {W : WX} {G : F} {S H : Hp} {D : Ends} {σ : St} {ρ : En} {f : En → R A} {k : A → En → Fl} (rel : Rel K G S σ ρ H) (h : wS K mg W G S D (sE f k ρ)) :
    wG rp mg W σ S H (fun b H1 => ∃ S1 a, Ext S H S1 H1 ∧ rp S1 b a ∧ Rel K G S1 σ ρ H1 ∧ wS K mg W G S1 D (k a ρ)) (f ρ) := by
  unfold sE at h
  cases q : f ρ with
  | ok a => rw [q] at h; exact fun b S' H' e x => ⟨S', a, e, x, rel.ext e, h.mono e.sub⟩
  | ex c => rw [q] at h; exact fun cls S' H' m e => h cls σ S' H' m e.sub (rel.ext e)
  | no => rw [q] at h; exact h
def sNx : En → Fl := .nx
def sSeq (f g : En → Fl) : En → Fl := fun ρ => match f ρ with
  | .nx ρ' => g ρ'
  | r => r
def sSet (i : Nat) (f : En → R PD) : En → Fl := sE f fun d ρ => .nx (ρ.set i (some (.d d)))
def sRet (f : En → R PD) : En → Fl := sE f fun d _ => .rt d
def sRetN : En → Fl := fun _ => .rt .none
def sRetM (f : En → R PD) : En → Fl := sE f fun d ρ => .rm d ρ
def sRetMN : En → Fl := fun ρ => .rm .none ρ
def sIf (c : En → R Bool) (f g : En → Fl) : En → Fl := sE c fun b ρ => if b = true then f ρ else g ρ
def sDrop (f : En → R PD) : En → Fl := sE f fun _ ρ => .nx ρ
def sRaise (c : Str) : En → Fl := fun ρ => .ex c ρ
def sPar (i j : Nat) (f g : En → R PD) : En → Fl := sE f fun a => sE g fun b ρ => .nx ((ρ.set i (some (.d a))).set j (some (.d b)))
def sForget (i : Nat) (f : En → Fl) : En → Fl := fun ρ => f (ρ.set i none)
def whileN (c : En → R Bool) (f : En → Fl) : Nat → En → Fl
  | 0, _ => .no
  | n + 1, ρ => sE c (fun b ρ => if b = true then (match f ρ with
    | .nx ρ' => whileN c f n ρ'
    | .ct ρ' => whileN c f n ρ'
    | .bk ρ' => .nx ρ'
    | r => r) else .nx ρ) ρ
open Classical in
noncomputable def sWhile (c : En → R Bool) (f : En → Fl) : En → Fl := fun ρ => if h : ∃ n, whileN c f n ρ ≠ .no then whileN c f (Classical.choose h) ρ else .no
theorem whileN_more {c : En → R Bool} {f : En → Fl} : ∀ {n m : Nat} {ρ : En}, n ≤ m → whileN c f n ρ ≠ .no → whileN c f m ρ = whileN c f n ρ
  | 0, _, _, _, h => absurd rfl h
  | n + 1, 0, _, h, _ => absurd h (by omega)
  | n + 1, m + 1, ρ, hl, h => by
    have ih : ∀ ρ', whileN c f n ρ' ≠ .no → whileN c f m ρ' = whileN c f n ρ' := fun ρ' => whileN_more (by omega)
    unfold whileN sE at h ⊢
    cases q : c ρ with
    | ok b =>
      rw [q] at h
      cases b with
      | true =>
        simp only [if_true] at h ⊢
        cases q2 : f ρ with
        | nx ρ' => rw [q2] at h; exact ih ρ' h
        | ct ρ' => rw [q2] at h; exact ih ρ' h
        | bk ρ' => rfl
        | rt d => rfl
        | rm d ρ' => rfl
        | ex c ρ' => rfl
        | no => rfl
      | false => rfl
    | ex c => rfl
    | no => rfl
theorem sWhile_of {c : En → R Bool} {f : En → Fl} {ρ : En} (n : Nat) {r : Fl} (h : whileN c f n ρ = r) (hr : r ≠ .no) : sWhile c f ρ = r := by
  have hx : ∃ n, whileN c f n ρ ≠ .no := ⟨n, by rw [h]; exact hr⟩
  unfold sWhile
  rw [dif_pos hx]
  have h1 := Classical.choose_spec hx
  have h2 : whileN c f n ρ ≠ .no := by rw [h]; exact hr
  rcases Nat.le_total n (Classical.choose hx) with z | z
  · rw [whileN_more z h2, h]
  · rw [← whileN_more z h1, h]
theorem sWhile_at {c : En → R Bool} {f : En → Fl} {ρ : En} (h : sWhile c f ρ ≠ .no) : ∃ n, whileN c f n ρ = sWhile c f ρ := by
  by_cases hx : ∃ n, whileN c f n ρ ≠ .no
  · exact ⟨Classical.choose hx, by unfold sWhile; rw [dif_pos hx]⟩
  · unfold sWhile at h
    rw [dif_neg hx] at h
    exact absurd rfl h
/-- one turn more -/
theorem sWhile_eq {c : En → R Bool} {f : En → Fl} {ρ : En} : sWhile c f ρ = sE c (fun b ρ => if b = true then (match f ρ with
    | .nx ρ' => sWhile c f ρ'
    | .ct ρ' => sWhile c f ρ'
    | .bk ρ' => .nx ρ'
    | r => r) else .nx ρ) ρ := by
  have key : ∀ n, whileN c f (n + 1) ρ ≠ .no → whileN c f (n + 1) ρ = sE c (fun b ρ => if b = true then (match f ρ with
    | .nx ρ' => sWhile c f ρ'
    | .ct ρ' => sWhile c f ρ'
    | .bk ρ' => .nx ρ'
    | r => r) else .nx ρ) ρ := by
    intro n h
    unfold whileN sE at h ⊢
    cases q : c ρ with
    | ok b =>
      rw [q] at h
      cases b with
      | true =>
        simp only [if_true] at h ⊢
        cases q2 : f ρ with
        | nx ρ' => rw [q2] at h; exact (sWhile_of n rfl h).symm
        | ct ρ' => rw [q2] at h; exact (sWhile_of n rfl h).symm
        | bk ρ' => rfl
        | rt d => rfl
        | rm d ρ' => rfl
        | ex c ρ' => rfl
        | no => rfl
      | false => rfl
    | ex c => rfl
    | no => rfl
  by_cases h : sWhile c f ρ = .no
  · -- neither runs
    rw [h]
    cases q : sE c (fun b ρ => if b = true then (match f ρ with
      | .nx ρ' => sWhile c f ρ'
      | .ct ρ' => sWhile c f ρ'
      | .bk ρ' => .nx ρ'
      | r => r) else .nx ρ) ρ with
    | no => rfl
    | _ =>
      exfalso
      have hx : ∃ n, whileN c f (n + 1) ρ ≠ .no := by
        unfold sE at q
        cases q1 : c ρ with
        | ok b =>
          rw [q1] at q
          cases b with
          | true =>
            simp only [if_true] at q
            cases q2 : f ρ with
            | nx ρ' =>
              rw [q2] at q
              dsimp only at q
              obtain ⟨n, hn⟩ := sWhile_at (c := c) (f := f) (ρ := ρ') (by rw [q]; intro z; cases z)
              refine ⟨n, ?_⟩
              unfold whileN sE
              rw [q1]
              simp only [if_true, q2]
              rw [hn, q]
              intro z; cases z
            | ct ρ' =>
              rw [q2] at q
              dsimp only at q
              obtain ⟨n, hn⟩ := sWhile_at (c := c) (f := f) (ρ := ρ') (by rw [q]; intro z; cases z)
              refine ⟨n, ?_⟩
              unfold whileN sE
              rw [q1]
              simp only [if_true, q2]
              rw [hn, q]
              intro z; cases z
            | bk ρ' => exact ⟨0, by unfold whileN sE; rw [q1]; simp only [if_true, q2]; intro z; cases z⟩
            | rt d => exact ⟨0, by unfold whileN sE; rw [q1]; simp only [if_true, q2]; intro z; cases z⟩
            | rm d ρ' => exact ⟨0, by unfold whileN sE; rw [q1]; simp only [if_true, q2]; intro z; cases z⟩
            | ex c ρ' => exact ⟨0, by unfold whileN sE; rw [q1]; simp only [if_true, q2]; intro z; cases z⟩
            | no => rw [q2] at q; cases q
          | false => exact ⟨0, by unfold whileN sE; rw [q1]; intro z; cases z⟩
        | ex c => exact ⟨0, by unfold whileN sE; rw [q1]; intro z; cases z⟩
        | no => rw [q1] at q; cases q
      obtain ⟨n, hn⟩ := hx
      rw [sWhile_of (n + 1) rfl hn] at h
      exact hn h
  · obtain ⟨n, hn⟩ := sWhile_at h
    cases n with
    | zero => exact absurd hn.symm h
    | succ n => rw [← hn]; exact key n (by rw [hn]; exact h)
section
variable {X : Cx} {W : WX} {f f1 f2 : En → R PD} {c e e2 : Expr} {pos pos' : Pos} {t : En → R Bool} {g h : En → Fl} {st : Stmt} {sts a b : List Stmt} {i j : Nat} {x y : Str}
theorem sd_nil : PSs X [] (tS X.K X.mg W sNx) := PSsimp pss_nil fun D σ H ⟨G, ρ, S, r, q⟩ => q σ S H (Same.refl _) r
theorem tSeq_of {t1 t2 : TS} (i1 : ∀ D σ H, tS X.K X.mg W g D σ H → t1 D σ H) (i2 : ∀ D σ H, tS X.K X.mg W h D σ H → t2 D σ H) : ∀ D σ H, tS X.K X.mg W (sSeq g h) D σ H → tSeq t1 t2 D σ H := by
  rintro D σ H ⟨G, ρ, S, r, q⟩
  refine i1 _ σ H ⟨G, ρ, S, r, ?_⟩
  unfold sSeq at q
  cases z : g ρ with
  | nx ρ' => rw [z] at q; exact fun σ' S' H' s r' => i2 D σ' H' ⟨G, ρ', S', r', q.mono s⟩
  | bk ρ' => rw [z] at q; exact q
  | ct ρ' => rw [z] at q; exact q
  | rt d => rw [z] at q; exact q
  | rm d ρ' => rw [z] at q; exact q
  | ex c ρ' => rw [z] at q; exact q
  | no => rw [z] at q; exact q
theorem sd_cons (h1 : PS X st (tS X.K X.mg W g)) (h2 : PSs X sts (tS X.K X.mg W h)) : PSs X (st :: sts) (tS X.K X.mg W (sSeq g h)) := PSsimp (pss_cons h1 h2) (tSeq_of (fun _ _ _ q => q) fun _ _ _ q => q)
theorem sd_one (h1 : PS X st (tS X.K X.mg W g)) : PSs X [st] (tS X.K X.mg W g) := pss_one h1
theorem sd_set (i : Nat) (hN : X.N.Nodup) (hi : X.N[i]? = some x) (hx : Loc X.env.scope x) (he : PE X e (tD X.K X.mg W f)) (hs : swapsWith e (some (.Name x pos')) pos.line X.env = pure false := by rfl) (hf : X.fn x = true ∨ X.env.scope.names.lookup x = some .local := by first | exact .inl rfl | exact .inr rfl | assumption)
    (hw : swappedStores [.Name x pos'] e X.env = pure none := by rfl) :
    PS X (.Assign [.Name x pos'] e pos) (tS X.K X.mg W (sSet i f)) := PSimp (ps_asg he (pg_name hN hi hx hf) hs hw) fun D σ H ⟨G, ρ, S, r, q⟩ =>
  tG.mk r (wG.imp (fun v H1 ⟨S1, a, e1, ra, r1, q1⟩ => q1 _ S1 H1 (Same.refl _) (r1.setD ra i)) (wS.ofE (rp := Rp X.K) r q))
theorem sd_ret (he : PE X e (tD X.K X.mg W f)) : PS X (.Return (some e) pos) (tS X.K X.mg W (sRet f)) := PSimp (ps_ret he) fun D σ H ⟨G, ρ, S, r, q⟩ =>
  tG.mk r (wG.imp (fun v H1 ⟨S1, a, e1, ra, r1, q1⟩ => q1 v S1 H1 r1.fin ra) (wS.ofE (rp := Rp X.K) r q))
theorem sd_retM (he : PE X e (tD X.K X.mg W f)) : PS X (.Return (some e) pos) (tS X.K X.mg W (sRetM f)) := PSimp (ps_ret he) fun D σ H ⟨G, ρ, S, r, q⟩ =>
  tG.mk r (wG.imp (fun v H1 ⟨S1, a, e1, ra, r1, q1⟩ => q1 v σ S1 H1 (Same.refl _) r1 ra) (wS.ofE (rp := Rp X.K) r q))
theorem sd_retMN : PS X (.Return none pos) (tS X.K X.mg W sRetMN) := PSimp ps_retN fun D σ H ⟨G, ρ, S, r, q⟩ => q .non σ S H (Same.refl _) r .non
theorem sd_retN : PS X (.Return none pos) (tS X.K X.mg W sRetN) := PSimp ps_retN fun D σ H ⟨G, ρ, S, r, q⟩ => q .non S H r.fin .non
theorem sd_expr (he : PE X e (tD X.K X.mg W f)) (hs : swapsWith e none pos.line X.env = pure false := by rfl) : PS X (.Expr e pos) (tS X.K X.mg W (sDrop f)) := PSimp (ps_expr he hs) fun D σ H ⟨G, ρ, S, r, q⟩ =>
  tG.mk r (wG.imp (fun v H1 ⟨S1, a, e1, ra, r1, q1⟩ => q1 σ S1 H1 (Same.refl _) r1) (wS.ofE (rp := Rp X.K) r q))
theorem sd_if (hc : PT X c (tDT X.K X.mg W t)) (ha : PSs X a (tS X.K X.mg W g)) (hb : PSs X b (tS X.K X.mg W h)) : PS X (.If c a b pos) (tS X.K X.mg W (sIf t g h)) := PSimp (ps_if hc ha hb) fun D σ H ⟨G, ρ, S, r, q⟩ =>
  tG.mk r (wG.imp (fun v H1 ⟨S1, a, e1, ra, r1, q1⟩ => by
    cases ra
    cases v with
    | true => exact ⟨G, ρ, S1, r1, q1⟩
    | false => exact ⟨G, ρ, S1, r1, q1⟩) (wS.ofE (rp := rpB) r q))
theorem sd_pass : PS X (.Pass pos) (tS X.K X.mg W sNx) := PSimp ps_pass fun D σ H ⟨G, ρ, S, r, q⟩ => q σ S H (Same.refl _) r
def sBk : En → Fl := .bk
def sCt : En → Fl := .ct
theorem sd_break : PS X (.Break pos) (tS X.K X.mg W sBk) := PSimp ps_break fun D σ H ⟨G, ρ, S, r, q⟩ => q σ S H (Same.refl _) r
theorem sd_continue : PS X (.Continue pos) (tS X.K X.mg W sCt) := PSimp ps_continue fun D σ H ⟨G, ρ, S, r, q⟩ => q σ S H (Same.refl _) r
/-- a, b = e, e2 -/
theorem sd_par {px py pt : Pos} {kt k2 pt2} (i j : Nat) (hc : X.calm = true) (hN : X.N.Nodup) (hi : X.N[i]? = some x) (hj : X.N[j]? = some y) (hij : i ≠ j) (hx : X.env.scope.names.lookup x = some .local) (hy : X.env.scope.names.lookup y = some .local)
    (ha : PE X e (tD X.K X.mg W f1)) (hb : PE X e2 (tD X.K X.mg W f2)) (hw : swappedStores [.Tuple [.Name x px, .Name y py] kt pt] (.Tuple [e, e2] k2 pt2) X.env = pure (some [x, y]))
    (hs : swapsWithSole [.Tuple [.Name x px, .Name y py] kt pt] (.Tuple [e, e2] k2 pt2) pos.line X.env = pure false := by rfl)
    (hse : starEach [e, e2] X.env = (false, eval e X.env) :: starEach [e2] X.env := by rfl) (hse2 : starEach [e2] X.env = (false, eval e2 X.env) :: starEach [] X.env := by rfl) :
    PS X (.Assign [.Tuple [.Name x px, .Name y py] kt pt] (.Tuple [e, e2] k2 pt2) pos) (tS X.K X.mg W (sPar i j f1 f2)) := PSimp (ps_par hc hN hi hj hij hx hy (pa_cons ha (pa_cons hb pa_nil hse2) hse) hw hs) fun D σ H ⟨G, ρ, S, r, q⟩ => by
  refine tG.mk r (wG.imp ?_ (wS.ofE (rp := Rp X.K) r q))
  rintro v H1 ⟨S1, a, e1, ra, r1, q1⟩
  refine tG.mk r1 (wG.imp ?_ (wS.ofE (rp := Rp X.K) r1 q1))
  rintro v2 H2 ⟨S2, b, e2, rb, r2, q2⟩
  exact ⟨v, v2, rfl, q2 _ S2 H2 (Same.refl _) ((r2.setD (Rp.mono e2.sub _ _ ra) i).setD rb j)⟩
theorem sd_while (hp : PassesOwn (model X.prog X.w) X.A X.env X.xe) (hc : PT X c (tDT X.K X.mg W t)) (hb : PSs X a (tS X.K X.mg W g)) : PS X (.While c a [] pos) (tS X.K X.mg W (sWhile t g)) := PSimp (ps_while hp hc hb) fun D σ H ⟨G, ρ, S, r, q⟩ => by
  by_cases hn : sWhile t g ρ = .no
  · rw [hn] at q; exact q.elim
  · obtain ⟨n, en⟩ := sWhile_at hn
    refine ⟨fun m σ H => ∃ ρ S', Same S S' ∧ Rel X.K G S' σ ρ H ∧ wS X.K X.mg W G S' D (whileN t g m ρ), ⟨n, ρ, S, Same.refl _, r, by rw [en]; exact q⟩, ?_⟩
    rintro m σ H ⟨ρ, S', s, r, q⟩
    cases m with
    | zero => exact q.elim
    | succ m =>
      unfold whileN at q
      refine tG.mk r (wG.imp ?_ (wS.ofE (rp := rpB) r q))
      rintro v H1 ⟨S1, a, e1, ra, r1, q1⟩
      cases ra
      cases v with
      | true =>
        simp only [if_true] at q1 ⊢
        refine ⟨fun σ' H' => ∃ ρ S', Same S S' ∧ Rel X.K G S' σ' ρ H' ∧ wS X.K X.mg W G S' D (whileN t g m ρ), fun σ' H' h => ⟨m, Nat.lt_succ_self m, h⟩, G, ρ, S1, r1, ?_⟩
        cases z : g ρ with
        | nx ρ' => rw [z] at q1; exact fun σ' S2 H2 s2 r2 => ⟨ρ', S2, s.trans (e1.sub.trans s2), r2, q1.mono s2⟩
        | ct ρ' => rw [z] at q1; exact fun σ' S2 H2 s2 r2 => ⟨ρ', S2, s.trans (e1.sub.trans s2), r2, q1.mono s2⟩
        | bk ρ' => rw [z] at q1; exact q1
        | rt d => rw [z] at q1; exact q1
        | rm d ρ' => rw [z] at q1; exact q1
        | ex c ρ' => rw [z] at q1; exact q1
        | no => rw [z] at q1; exact q1
      | false =>
        simp only [Bool.false_eq_true, if_false] at q1 ⊢
        exact q1 σ S1 H1 (Same.refl _) r1
end
end DL

set_option Elab.async false
set_option linter.all false
set_option maxRecDepth 100000
set_option maxHeartbeats 4000000
set_option autoImplicit false
/-! the data layer 4: targets, loops, comprehensions -/
namespace DL
open PySem L2

/-! ### targets -/
inductive Tg where
  | one (i : Nat)
  | many (is : List Nat)
  | manyL (is : List Nat)
def Tg.slots : Tg → List Nat
  | .one i => [i]
  | .many is => is
  | .manyL is => is
def putAll : List Nat → List PD → En → En
  | i :: is, d :: ds, ρ => putAll is ds (ρ.set i (some (.d d)))
  | _, _, ρ => ρ
def Tg.put : Tg → PD → En → Option En
  | .one i, d, ρ => some (ρ.set i (some (.d d)))
  | .many is, .tuple ds, ρ => if ds.length = is.length then some (putAll is ds ρ) else none
  | .manyL is, .list ds, ρ => if ds.length = is.length then some (putAll is ds ρ) else none
  | _, _, _ => none
def gNames : List Nat → TGs
  | [] => gNil
  | i :: is => gCons (gName i) (gNames is)
def gOf (K : PySem.W.Frag) : Tg → TG
  | .one i => gName i
  | .many is => gTup K is.length (gNames is)
  | .manyL is => gLst K is.length (gNames is)
theorem wipe_at : ∀ {vs : List Nat} {σ : St} {i : Nat}, (wipe σ vs)[i]? = if i ∈ vs then (if i < σ.length then some none else none) else σ[i]?
  | [], σ, i => by simp [wipe]
  | v :: vs, σ, i => by
    unfold wipe
    by_cases h : v = i
    · subst h
      by_cases hl : v < σ.length
      · rw [List.getElem?_set_self (by rw [wipe_length]; exact hl), if_pos (List.mem_cons_self), if_pos hl]
      · rw [List.getElem?_eq_none (by rw [List.length_set, wipe_length]; omega), if_pos (List.mem_cons_self), if_neg hl]
    · rw [List.getElem?_set_ne h, wipe_at]
      by_cases hm : i ∈ vs
      · rw [if_pos hm, if_pos (List.mem_cons_of_mem _ hm)]
      · rw [if_neg hm, if_neg (by simp only [List.mem_cons, not_or]; exact ⟨fun e => h e.symm, hm⟩)]
theorem wipe_set {vs : List Nat} {σ : St} {i : Nat} {w : Option V} (h : i ∈ vs) : wipe (σ.set i w) vs = wipe σ vs := by
  apply List.ext_getElem?
  intro j
  rw [wipe_at, wipe_at, List.length_set]
  by_cases hm : j ∈ vs
  · rw [if_pos hm, if_pos hm]
  · rw [if_neg hm, if_neg hm]
    exact List.getElem?_set_ne (fun e => hm (by rw [← e]; exact h))
section
variable {K : PySem.W.Frag} {G : F} {S H : Hp} {σ : St} {ρ ρ' : En}
theorem gNames_ok : ∀ {is : List Nat} {vs : List V} {ds : List PD} {σ : St} {ρ : En} {Q : St → Hp → Prop}, RpA K S vs ds → ds.length = is.length → Rel K G S σ ρ H →
    (∀ σ', Rel K G S σ' (putAll is ds ρ) H → (∀ us : List Nat, (∀ i ∈ is, i ∈ us) → wipe σ' us = wipe σ us) → Q σ' H) → gNames is vs σ H Q
  | [], _, [], σ, ρ, Q, h, hl, r, q => by
    cases h
    exact ⟨rfl, q σ r fun _ _ => rfl⟩
  | i :: is, _, d :: ds, σ, ρ, Q, h, hl, r, q => by
    cases h with
    | cons h1 h2 =>
      refine ⟨_, _, rfl, ?_⟩
      refine gNames_ok h2 (by simpa using hl) (r.setD h1 i) fun σ' r' w' => ?_
      refine q σ' r' fun us hu => ?_
      rw [w' us fun j hj => hu j (List.mem_cons_of_mem _ hj), wipe_set (hu i List.mem_cons_self)]
  | [], _, _ :: _, _, _, _, _, hl, _, _ => by cases hl
  | _ :: _, _, [], _, _, _, _, hl, _, _ => by cases hl
theorem gOf_ok {tg : Tg} {v : V} {d : PD} {Q : St → Hp → Prop} (r : Rel K G S σ ρ H) (h : Rp K S v d) (hp : tg.put d ρ = some ρ') (q : ∀ σ', Rel K G S σ' ρ' H → (∀ us : List Nat, (∀ i ∈ tg.slots, i ∈ us) → wipe σ' us = wipe σ us) → Q σ' H) : gOf K tg v σ H Q := by
  cases tg with
  | one i =>
    have e : some (ρ.set i (some (.d d))) = some ρ' := hp
    cases e
    exact q _ (r.setD h i) fun us hu => wipe_set (hu i (by simp [Tg.slots]))
  | many is =>
    cases d with
    | tuple ds =>
      have e : (if ds.length = is.length then some (putAll is ds ρ) else none) = some ρ' := hp
      by_cases hl : ds.length = is.length
      · rw [if_pos hl] at e
        cases e
        cases h with
        | tup hs ha =>
          exact ⟨_, _, rfl, Same.seqT r.inn hs, by rw [ha.length]; exact hl, gNames_ok ha hl r q⟩
      · rw [if_neg hl] at e; cases e
    | _ => cases hp
  | manyL is =>
    cases d with
    | list ds =>
      have e : (if ds.length = is.length then some (putAll is ds ρ) else none) = some ρ' := hp
      by_cases hl : ds.length = is.length
      · rw [if_pos hl] at e
        cases e
        cases h with
        | lst hs ha =>
          exact ⟨_, _, rfl, Same.seq r.inn hs, by rw [ha.length]; exact hl, gNames_ok ha hl r q⟩
      · rw [if_neg hl] at e; cases e
    | _ => cases hp
end

/-! ### what is walked -/
def ItOk (K : PySem.W.Frag) (S : Hp) (J : It) (ds : List PD) : Prop := ∀ S1 H1, Same S S1 → Same S1 H1 → ∀ i : Nat,
  (∀ d, ds[i]? = some d → J.go i H1 ∧ ∀ x H2, J.yld i H1 x H2 → ∃ S2, Ext S1 H1 S2 H2 ∧ Rp K S2 x d) ∧ (ds.length ≤ i → J.stop i H1)
abbrev tI (K : PySem.W.Frag) (mg : MG) (W : WX) (f : En → R (List PD)) : TI := tG (ItOk K) K mg W f
theorem ItOk.mono {K : PySem.W.Frag} {S S' : Hp} {J : It} {ds : List PD} (e : Same S S') (h : ItOk K S J ds) : ItOk K S' J ds := fun S1 H1 s1 s2 => h S1 H1 (e.trans s1) s2

/-- a list's items, a tuple's -/
def asL : PD → R (List PD)
  | .list ds => .ok ds
  | _ => .no
def asT : PD → R (List PD)
  | .tuple ds => .ok ds
  | _ => .no
def iL (f : En → R PD) : En → R (List PD) := fun ρ => (f ρ).bind asL
def iT (f : En → R PD) : En → R (List PD) := fun ρ => (f ρ).bind asT
theorem itl_ok {K : PySem.W.Frag} {S : Hp} {a : Addr} {xs : List V} {ds : List PD} (hs : SqL K S a xs) (ha : RpA K S xs ds) : ItOk K S (Itl K a) ds := by
  intro S1 H1 s1 s2 i
  have h1 : SqL K H1 a xs := Same.seq (s1.trans s2) hs
  refine ⟨fun d hd => ?_, fun hl => ⟨xs, h1, by rw [ha.length]; exact hl⟩⟩
  obtain ⟨v, hv, hr⟩ := ha.get hd
  exact ⟨⟨xs, v, h1, hv⟩, fun x H2 ⟨e, y⟩ => by
    subst e
    have := y xs h1
    rw [hv] at this
    cases this
    exact ⟨S1, Ext.refl s2, Rp.mono s1 _ _ hr⟩⟩
theorem itt_ok {K : PySem.W.Frag} {S : Hp} {a : Addr} {xs : List V} {ds : List PD} (hs : SqT K S a xs) (ha : RpA K S xs ds) : ItOk K S (Itt K a) ds := by
  intro S1 H1 s1 s2 i
  have h1 : SqT K H1 a xs := Same.seqT (s1.trans s2) hs
  refine ⟨fun d hd => ?_, fun hl => ⟨xs, h1, by rw [ha.length]; exact hl⟩⟩
  obtain ⟨v, hv, hr⟩ := ha.get hd
  exact ⟨⟨xs, v, h1, hv⟩, fun x H2 ⟨e, y⟩ => by
    subst e
    have := y xs h1
    rw [hv] at this
    cases this
    exact ⟨S1, Ext.refl s2, Rp.mono s1 _ _ hr⟩⟩
section
variable {X : Cx} {W : WX} {tg l : Expr} {f f1 f2 : En → R PD} {p pos : Pos}
theorem pi_l (hl : PE X l (tD X.K X.mg W f)) : PI X tg l (tI X.K X.mg W (iL f)) := PIimp (pi_list hl) fun σ H Q ⟨G, ρ, S, rel, h⟩ => by
  refine tG.mk rel (wG.imp ?_ (wG.bind (rp := Rp X.K) h))
  rintro x H1 ⟨S1, a, e1, ra, h1⟩
  cases a with
  | list ds =>
    cases ra with
    | lst hs ha => exact ⟨_, rfl, ⟨_, Same.seq e1.inn hs⟩, h1 _ S1 H1 (Ext.refl e1.inn) (itl_ok hs ha)⟩
  | _ => exact h1.elim
theorem pi_t (hl : PE X l (tD X.K X.mg W f)) : PI X tg l (tI X.K X.mg W (iT f)) := PIimp (pi_tup hl) fun σ H Q ⟨G, ρ, S, rel, h⟩ => by
  refine tG.mk rel (wG.imp ?_ (wG.bind (rp := Rp X.K) h))
  rintro x H1 ⟨S1, a, e1, ra, h1⟩
  cases a with
  | tuple ds =>
    cases ra with
    | tup hs ha => exact ⟨_, rfl, ⟨_, Same.seqT e1.inn hs⟩, h1 _ S1 H1 (Ext.refl e1.inn) (itt_ok hs ha)⟩
  | _ => exact h1.elim
/-- range(n), range(a, b) -/
def rng (lo : Int) (n : Nat) : List PD := (List.range n).map fun i => .int (lo + (i : Nat))
def gR1 : List PD → R (List PD)
  | [.int j] => if -(2 ^ 62) ≤ j ∧ j < 2 ^ 62 then .ok (rng 0 j.toNat) else .no
  | _ => .no
def gR2 : List PD → R (List PD)
  | [.int i, .int j] => if -(2 ^ 62) ≤ i ∧ i < 2 ^ 62 ∧ -(2 ^ 62) ≤ j ∧ j < 2 ^ 62 then .ok (rng i (j - i).toNat) else .no
  | _ => .no
def iA (g : List PD → R (List PD)) (f : En → R (List PD)) : En → R (List PD) := fun ρ => (f ρ).bind g
theorem itr_ok {K : PySem.W.Frag} {S : Hp} {lo : Int} {n : Nat} : ItOk K S (Itr lo n) (rng lo n) := by
  intro S1 H1 s1 s2 i
  refine ⟨fun d hd => ?_, fun hl => by show n ≤ i; simpa [rng] using hl⟩
  unfold rng at hd
  rw [List.getElem?_map] at hd
  by_cases h : i < n
  · rw [List.getElem?_range h] at hd
    cases hd
    exact ⟨h, fun x H2 ⟨e, y⟩ => by subst e y; exact ⟨S1, Ext.refl s2, .int _⟩⟩
  · rw [List.getElem?_eq_none (by simpa using h)] at hd
    cases hd
theorem pi_r1 {a : Expr} {fs : En → R (List PD)} (hg : Gl X "range") (hm : X.mg "range" = none) (ha : PA X [a] (tDA X.K X.mg W fs)) (hs : starEach [a] X.env = [(false, eval a X.env)] := by rfl) : PI X tg (.Call (.Name "range" p) [a] [] pos) (tI X.K X.mg W (iA gR1 fs)) :=
  PIimp (pi_range1 hg hm ha hs) fun σ H Q ⟨G, ρ, S, rel, h⟩ => by
    refine tG.mk rel (wG.imp ?_ (wG.bind (rp := RpA X.K) h))
    rintro xs H1 ⟨S1, as, e1, ra, h1⟩
    unfold gR1 at h1
    split at h1
    · rename_i j
      cases ra with
      | cons r1 r2 =>
        cases r2
        cases r1
        split at h1
        · rename_i hb
          exact ⟨j, rfl, hb.1, hb.2, h1 _ S1 H1 (Ext.refl e1.inn) itr_ok⟩
        · exact h1.elim
    · exact h1.elim
theorem pi_r2 {a b : Expr} {fs : En → R (List PD)} (hg : Gl X "range") (hm : X.mg "range" = none) (ha : PA X [a, b] (tDA X.K X.mg W fs)) (hs : starEach [a, b] X.env = [(false, eval a X.env), (false, eval b X.env)] := by rfl)
    (hs2 : starEach [b] X.env = [(false, eval b X.env)] := by rfl) : PI X tg (.Call (.Name "range" p) [a, b] [] pos) (tI X.K X.mg W (iA gR2 fs)) :=
  PIimp (pi_range2 hg hm ha hs hs2) fun σ H Q ⟨G, ρ, S, rel, h⟩ => by
    refine tG.mk rel (wG.imp ?_ (wG.bind (rp := RpA X.K) h))
    rintro xs H1 ⟨S1, as, e1, ra, h1⟩
    unfold gR2 at h1
    split at h1
    · rename_i i j
      cases ra with
      | cons r1 r2 =>
        cases r2 with
        | cons r2 r3 =>
          cases r3
          cases r1
          cases r2
          split at h1
          · rename_i hb
            exact ⟨i, j, rfl, hb, h1 _ S1 H1 (Ext.refl e1.inn) itr_ok⟩
          · exact h1.elim
    · exact h1.elim
/-- enumerate(list) -/
def enumFrom (n : Nat) : List PD → List PD
  | [] => []
  | d :: ds => .tuple [.int (n : Nat), d] :: enumFrom (n + 1) ds
theorem enumFrom_get : ∀ {ds : List PD} {n i : Nat} {e : PD}, (enumFrom n ds)[i]? = some e → ∃ d, ds[i]? = some d ∧ e = .tuple [.int ((n + i : Nat) : Nat), d]
  | [], _, _, _, h => by simp [enumFrom] at h
  | d :: ds, n, 0, e, h => by
    have : some (PyData.tuple [.int (n : Nat), d]) = some e := h
    cases this
    exact ⟨d, rfl, rfl⟩
  | d :: ds, n, i + 1, e, h => by
    have h' : (enumFrom (n + 1) ds)[i]? = some e := h
    obtain ⟨d', h1, h2⟩ := enumFrom_get h'
    exact ⟨d', h1, by rw [h2]; congr 3; omega⟩
theorem enumFrom_length : ∀ {ds : List PD} {n : Nat}, (enumFrom n ds).length = ds.length
  | [], _ => rfl
  | d :: ds, n => by simp [enumFrom, enumFrom_length]
def gEn : List PD → R (List PD)
  | [.list ds] => .ok (enumFrom 0 ds)
  | _ => .no
theorem pi_en {e : Expr} {fs : En → R (List PD)} {tpos : Pos} {elts : List Expr} {kk : Nat} (hg : Gl X "enumerate") (hm : X.mg "enumerate" = none) (ha : PA X [e] (tDA X.K X.mg W fs)) (hs : starEach [e] X.env = [(false, eval e X.env)] := by rfl) :
    PI X (.Tuple elts kk tpos) (.Call (.Name "enumerate" p) [e] [] pos) (tI X.K X.mg W (iA gEn fs)) :=
  PIimp (pi_enum hg hm ha hs) fun σ H Q ⟨G, ρ, S, rel, h⟩ => by
    refine tG.mk rel (wG.imp ?_ (wG.bind (rp := RpA X.K) h))
    rintro xs H1 ⟨S1, as, e1, ra, h1⟩
    unfold gEn at h1
    split at h1
    · rename_i ds
      cases ra with
      | cons r1 r2 =>
        cases r2
        cases r1 with
        | lst hs ha =>
          refine ⟨_, _, rfl, Same.seq e1.inn hs, h1 _ S1 H1 (Ext.refl e1.inn) ?_⟩
          intro S2 H2 s1 s2 i
          have hq : SqL X.K H2 _ _ := Same.seq (s1.trans s2) hs
          refine ⟨fun d hd => ?_, fun hl => ⟨_, hq, by rw [ha.length]; rw [enumFrom_length] at hl; exact hl⟩⟩
          obtain ⟨d', q1, q2⟩ := enumFrom_get hd
          obtain ⟨v, hv, hr⟩ := ha.get q1
          refine ⟨⟨_, v, hq, hv⟩, ?_⟩
          rintro x H3 ⟨T, y, rfl, hT, rfl, hy⟩
          have := hy _ hq
          rw [hv] at this
          cases this
          have e2 : Ext S2 H2 (upd S2 T (.tup [.int (i : Nat), v])) (upd H2 T (.tup [.int (i : Nat), v])) := Ext.known s2 hT
          refine ⟨_, e2, ?_⟩
          rw [q2]
          refine .tup (SqT.of upd_same) (.cons ?_ (.cons (Rp.mono (s1.trans e2.sub) _ _ hr) .nil))
          rw [Nat.zero_add]
          exact .int _
    · exact h1.elim
/-- zip of two lists, of two tuples -/
def zipD : List PD → List PD → List PD
  | a :: as, b :: bs => .tuple [a, b] :: zipD as bs
  | _, _ => []
theorem zipD_get : ∀ {as bs : List PD} {i : Nat} {e : PD}, (zipD as bs)[i]? = some e → ∃ a b, as[i]? = some a ∧ bs[i]? = some b ∧ e = .tuple [a, b]
  | [], _, _, _, h => by simp [zipD] at h
  | _ :: _, [], _, _, h => by simp [zipD] at h
  | a :: as, b :: bs, 0, e, h => by
    have : some (PyData.tuple [a, b]) = some e := h
    cases this
    exact ⟨a, b, rfl, rfl, rfl⟩
  | a :: as, b :: bs, i + 1, e, h => zipD_get (as := as) (bs := bs) h
theorem zipD_stop : ∀ {as bs : List PD} {i : Nat}, (zipD as bs).length ≤ i → as.length ≤ i ∨ bs.length ≤ i
  | [], _, _, _ => .inl (Nat.zero_le _)
  | _ :: _, [], _, _ => .inr (Nat.zero_le _)
  | a :: as, b :: bs, 0, h => by simp [zipD] at h
  | a :: as, b :: bs, i + 1, h => by
    have h' : (zipD as bs).length ≤ i := by simpa [zipD] using h
    rcases zipD_stop h' with z | z
    · exact .inl (by simpa using z)
    · exact .inr (by simpa using z)
def gZip : List PD → R (List PD)
  | [.list as, .list bs] => .ok (zipD as bs)
  | [.tuple as, .tuple bs] => .ok (zipD as bs)
  | _ => .no
theorem pi_zp {e e2 : Expr} {fs : En → R (List PD)} {tpos : Pos} {elts : List Expr} {kk : Nat} (hg : Gl X "zip") (hm : X.mg "zip" = none) (ha : PA X [e, e2] (tDA X.K X.mg W fs)) (hs : starEach [e, e2] X.env = (false, eval e X.env) :: starEach [e2] X.env := by rfl)
    (hpl : (backTo pos (starEach [e2] X.env)).any (·.1) = false := by rfl) :
    PI X (.Tuple elts kk tpos) (.Call (.Name "zip" p) [e, e2] [] pos) (tI X.K X.mg W (iA gZip fs)) :=
  PIimp (RZ.pi_zipA hg hm ha hs hpl) fun σ H Q ⟨G, ρ, S, rel, h⟩ => by
    refine tG.mk rel (wG.imp ?_ (wG.bind (rp := RpA X.K) h))
    rintro xs H1 ⟨S1, as, e1, ra, h1⟩
    unfold gZip at h1
    split at h1
    · rename_i as bs
      cases ra with
      | cons r1 r2 =>
        cases r2 with
        | cons r2 r3 =>
          cases r3
          cases r1 with
          | lst hs ha =>
            cases r2 with
            | lst hs2 ha2 =>
              refine ⟨_, _, _, _, rfl, .inl ⟨Same.seq e1.inn hs, Same.seq e1.inn hs2, h1 _ S1 H1 (Ext.refl e1.inn) ?_⟩⟩
              intro S2 H2 s1 s2 i
              have q1 := Same.seq (s1.trans s2) hs
              have q2 := Same.seq (s1.trans s2) hs2
              refine ⟨fun d hd => ?_, fun hl => ⟨_, _, q1, q2, by rw [ha.length, ha2.length]; exact zipD_stop hl⟩⟩
              obtain ⟨a, b, z1, z2, z3⟩ := zipD_get hd
              obtain ⟨v, hv, hr⟩ := ha.get z1
              obtain ⟨u, hu, hr2⟩ := ha2.get z2
              refine ⟨⟨_, _, v, u, q1, q2, hv, hu⟩, ?_⟩
              rintro x H3 ⟨T, y, y2, rfl, hT, rfl, hy, hy2⟩
              have w1 := hy _ q1
              have w2 := hy2 _ q2
              rw [hv] at w1
              rw [hu] at w2
              cases w1
              cases w2
              have e2 : Ext S2 H2 (upd S2 T (.tup [v, u])) (upd H2 T (.tup [v, u])) := Ext.known s2 hT
              refine ⟨_, e2, ?_⟩
              rw [z3]
              exact .tup (SqT.of upd_same) (.cons (Rp.mono (s1.trans e2.sub) _ _ hr) (.cons (Rp.mono (s1.trans e2.sub) _ _ hr2) .nil))
    · rename_i as bs
      cases ra with
      | cons r1 r2 =>
        cases r2 with
        | cons r2 r3 =>
          cases r3
          cases r1 with
          | tup hs ha =>
            cases r2 with
            | tup hs2 ha2 =>
              refine ⟨_, _, _, _, rfl, .inr ⟨Same.seqT e1.inn hs, Same.seqT e1.inn hs2, h1 _ S1 H1 (Ext.refl e1.inn) ?_⟩⟩
              intro S2 H2 s1 s2 i
              have q1 := Same.seqT (s1.trans s2) hs
              have q2 := Same.seqT (s1.trans s2) hs2
              refine ⟨fun d hd => ?_, fun hl => ⟨_, _, q1, q2, by rw [ha.length, ha2.length]; exact zipD_stop hl⟩⟩
              obtain ⟨a, b, z1, z2, z3⟩ := zipD_get hd
              obtain ⟨v, hv, hr⟩ := ha.get z1
              obtain ⟨u, hu, hr2⟩ := ha2.get z2
              refine ⟨⟨_, _, v, u, q1, q2, hv, hu⟩, ?_⟩
              rintro x H3 ⟨T, y, y2, rfl, hT, rfl, hy, hy2⟩
              have w1 := hy _ q1
              have w2 := hy2 _ q2
              rw [hv] at w1
              rw [hu] at w2
              cases w1
              cases w2
              have e2 : Ext S2 H2 (upd S2 T (.tup [v, u])) (upd H2 T (.tup [v, u])) := Ext.known s2 hT
              refine ⟨_, e2, ?_⟩
              rw [z3]
              exact .tup (SqT.of upd_same) (.cons (Rp.mono (s1.trans e2.sub) _ _ hr) (.cons (Rp.mono (s1.trans e2.sub) _ _ hr2) .nil))
    · exact h1.elim
end

/-! ### for -/
def sForL (tg : Tg) (body : En → Fl) : List PD → En → Fl
  | [], ρ => .nx ρ
  | d :: ds, ρ => match tg.put d ρ with
    | none => .no
    | some ρ1 => match body ρ1 with
      | .nx ρ2 => sForL tg body ds ρ2
      | .ct ρ2 => sForL tg body ds ρ2
      | .bk ρ2 => .nx ρ2
      | r => r
def sFor (it : En → R (List PD)) (tg : Tg) (body : En → Fl) : En → Fl := sE it fun ds ρ => sForL tg body ds ρ
section
variable {X : Cx} {W : WX} {tg iter : Expr} {it : En → R (List PD)} {T : Tg} {g : En → Fl} {body : List Stmt} {pos : Pos}
theorem sd_for (hp : PassesOwn (model X.prog X.w) X.A X.env X.xe) (hc : X.calm = true) (hi : PI X tg iter (tI X.K X.mg W it)) (hg : PG X tg (gOf X.K T)) (hb : PSs X body (tS X.K X.mg W g)) (hs : ∀ x, foldedSetIterable iter X.env x = pure x := by intro _; rfl) :
    PS X (.For tg iter body [] pos) (tS X.K X.mg W (sFor it T g)) := PSimp (ps_for hp hc hi hg hb hs) fun D σ H ⟨G, ρ, S, r, q⟩ => by
  refine tG.mk r (wG.imp ?_ (wS.ofE (rp := ItOk X.K) r q))
  rintro J H1 ⟨S1, ds, e1, hJ, r1, q1⟩
  refine ⟨fun i m σ H => m = ds.length - i ∧ i ≤ ds.length ∧ ∃ ρ S2, Same S1 S2 ∧ Rel X.K G S2 σ ρ H ∧ wS X.K X.mg W G S2 D (sForL T g (ds.drop i) ρ), ⟨ds.length, by simp, Nat.zero_le _, ρ, S1, Same.refl _, r1, by simpa using q1⟩, ?_⟩
  rintro i m σ H ⟨rfl, hi, ρ, S2, s2, r2, q2⟩
  obtain ⟨go, stop⟩ := hJ S2 H s2 r2.inn i
  by_cases hlt : i < ds.length
  · have hd : ds[i]? = some ds[i] := List.getElem?_eq_getElem hlt
    obtain ⟨g1, g2⟩ := go _ hd
    refine .inr ⟨g1, fun σ H => i + 1 ≤ ds.length ∧ ∃ ρ S2, Same S1 S2 ∧ Rel X.K G S2 σ ρ H ∧ wS X.K X.mg W G S2 D (sForL T g (ds.drop (i + 1)) ρ), fun σ' H' h => ⟨ds.length - (i + 1), by omega, rfl, h⟩, ?_⟩
    intro x H3 y
    obtain ⟨S3, e3, rx⟩ := g2 x H3 y
    have r3 := r2.ext e3
    rw [List.drop_eq_getElem_cons hlt] at q2
    unfold sForL at q2
    cases z : T.put ds[i] ρ with
    | none => rw [z] at q2; exact q2.elim
    | some ρ1 =>
      rw [z] at q2
      refine gOf_ok r3 rx z fun σ' r' _ => ⟨G, ρ1, S3, r', ?_⟩
      dsimp only at q2
      cases z2 : g ρ1 with
      | nx ρ2 => rw [z2] at q2; exact fun σ'' S4 H4 s4 r4 => ⟨hlt, ρ2, S4, s2.trans (e3.sub.trans s4), r4, q2.mono (e3.sub.trans s4)⟩
      | ct ρ2 => rw [z2] at q2; exact fun σ'' S4 H4 s4 r4 => ⟨hlt, ρ2, S4, s2.trans (e3.sub.trans s4), r4, q2.mono (e3.sub.trans s4)⟩
      | bk ρ2 => rw [z2] at q2; exact q2.mono (r := .nx ρ2) e3.sub
      | rt d => rw [z2] at q2; exact q2
      | rm d ρ2 => rw [z2] at q2; exact q2.mono (r := .rm d ρ2) e3.sub
      | ex c ρ2 => rw [z2] at q2; exact q2.mono (r := .ex c ρ2) e3.sub
      | no => rw [z2] at q2; exact q2
  · have e : i = ds.length := by omega
    subst e
    rw [List.drop_length] at q2
    exact .inl ⟨stop (Nat.le_refl _), q2 σ S2 H (Same.refl _) r2⟩
end

/-! ### comprehensions -/
def wipeE (ρ : En) : List Nat → En
  | [] => ρ
  | v :: vs => (wipeE ρ vs).set v none
theorem Rel.wipe {K : PySem.W.Frag} {G : F} {S H : Hp} {σ : St} {ρ : En} (r : Rel K G S σ ρ H) : ∀ vs : List Nat, Rel K G S (wipe σ vs) (wipeE ρ vs) H
  | [] => r
  | v :: vs => (Rel.wipe r vs).forget v none
def lcL (tg : Tg) (tt : En → R Bool) (te : En → R PD) (ρ : En) : List PD → R (List PD)
  | [] => .ok []
  | d :: ds => match tg.put d ρ with
    | none => .no
    | some ρ1 => match tt ρ1 with
      | .ok true => (match te ρ1 with
        | .ok y => (match lcL tg tt te ρ ds with
          | .ok ys => .ok (y :: ys)
          | _ => .no)
        | _ => .no)
      | .ok false => lcL tg tt te ρ ds
      | _ => .no
def dLcL (it : En → R (List PD)) (tg : Tg) (vs : List Nat) (tt : En → R Bool) (te : En → R PD) : En → R (List PD) := fun ρ => (it ρ).bind fun ds => if ds.length ≤ 1000000 then lcL tg tt te (wipeE ρ vs) ds else .no
def dLc (it : En → R (List PD)) (tg : Tg) (vs : List Nat) (tt : En → R Bool) (te : En → R PD) : En → R PD := fun ρ => (dLcL it tg vs tt te ρ).bind fun ds => .ok (.list ds)
def bYes : En → R Bool := fun _ => .ok true
abbrev W0 : WX := fun _ _ _ _ => False
theorem tYes_of {K : PySem.W.Frag} {mg : MG} : ∀ σ H Q, tDT K mg W0 bYes σ H Q → tYes σ H Q := fun σ H Q ⟨G, ρ, S, rel, h⟩ => h true S H (Ext.refl rel.inn) rfl
theorem ptd_nil {X : Cx} : PTs X [] (tDT X.K X.mg W0 bYes) := ⟨fun pins s σ H Q I q => pts_nil.run pins s σ H Q I (tYes_of σ H Q q)⟩
/-- what a comprehension leaves: a new list at D, not yet known -/
theorem lc_of {K : PySem.W.Frag} {mg : MG} {W : WX} {it : En → R (List PD)} {T : Tg} {vs : List Nat} {tt : En → R Bool} {te : En → R PD} (hT : ∀ i ∈ T.slots, i ∈ vs) {σ : St} {H : Hp} {Q : VK} {G : F} {ρ : En} {S : Hp} (rel : Rel K G S σ ρ H)
    (h : match dLcL it T vs tt te ρ with
      | .ok ds => ∀ D S' H' xs, Ext S H S' H' → H D = none → S' D = none → H' D = some (.lst xs) → RpA K S' xs ds → Q (.ref D) H'
      | .ex c => ∀ cls S' H', mg c = some cls → Ext S H S' H' → W cls none σ H'
      | .no => False) : tLc (tI K mg W it) (gOf K T) (tDT K mg W0 tt) (tD K mg W0 te) vs σ H Q := by
  unfold dLcL at h
  have h2 : wG (ItOk K) mg W σ S H (fun J H1 => ∃ S1 ds, Ext S H S1 H1 ∧ ItOk K S1 J ds ∧ ds.length ≤ 1000000 ∧ ∃ ys, lcL T tt te (wipeE ρ vs) ds = .ok ys ∧ ∀ D S' H' xs, Ext S1 H1 S' H' → H1 D = none → S' D = none → H' D = some (.lst xs) → RpA K S' xs ys → Q (.ref D) H') (it ρ) := by
    cases q : it ρ with
    | ok ds =>
      rw [q] at h
      intro J S1 H1 e1 hJ
      simp only [R.bind_ok] at h
      by_cases hl : ds.length ≤ 1000000
      · rw [if_pos hl] at h
        cases q2 : lcL T tt te (wipeE ρ vs) ds with
        | ok ys =>
          rw [q2] at h
          exact ⟨S1, ds, e1, hJ, hl, ys, q2, fun D S' H' xs e a b c d => h D S' H' xs (e1.trans e) (e1.all.free a) b c d⟩
        | ex c =>
          exfalso
          have : ∀ ds, lcL T tt te (wipeE ρ vs) ds ≠ .ex c := by
            intro ds
            induction ds with
            | nil => unfold lcL; intro z; cases z
            | cons d ds ih =>
              unfold lcL
              intro z
              split at z
              · cases z
              · split at z
                · split at z
                  · split at z <;> cases z
                  · cases z
                · exact ih z
                · cases z
          exact this ds q2
        | no => rw [q2] at h; exact h.elim
      · rw [if_neg hl] at h; exact h.elim
    | ex c => rw [q] at h; exact h
    | no => rw [q] at h; exact h
  refine tG.mk rel (wG.imp ?_ h2)
  rintro J H1 ⟨S1, ds, e1, hJ, hlen, ys, hys, hq⟩ D hD
  have rel1 := rel.ext e1
  have hS1D : S1 D = none := e1.inn.free hD
  refine ⟨fun i m H => m = ds.length - i ∧ i ≤ ds.length ∧ ∃ S2 acc accd rest, Ext S1 H1 S2 H ∧ S2 D = none ∧ H D = some (.lst acc) ∧ RpA K S2 acc accd ∧ acc.length ≤ i ∧ lcL T tt te (wipeE ρ vs) (ds.drop i) = .ok rest ∧ accd ++ rest = ys,
    ⟨ds.length, by simp, Nat.zero_le _, S1, [], [], ys, Ext.fresh e1.inn hD, hS1D, upd_same, .nil, Nat.le_refl _, by simpa using hys, rfl⟩, ?_⟩
  rintro i m H2 ⟨rfl, hi, S2, acc, accd, rest, e2, hD2, hacc, racc, hal, hrest, htot⟩
  have rel2 := rel1.ext e2
  obtain ⟨go, stop⟩ := hJ S2 H2 e2.sub e2.inn i
  by_cases hlt : i < ds.length
  · have hd : ds[i]? = some ds[i] := List.getElem?_eq_getElem hlt
    obtain ⟨g1, g2⟩ := go _ hd
    refine .inr ⟨g1, fun H => i + 1 ≤ ds.length ∧ ∃ S2 acc accd rest, Ext S1 H1 S2 H ∧ S2 D = none ∧ H D = some (.lst acc) ∧ RpA K S2 acc accd ∧ acc.length ≤ i + 1 ∧ lcL T tt te (wipeE ρ vs) (ds.drop (i + 1)) = .ok rest ∧ accd ++ rest = ys,
      fun H' h => ⟨ds.length - (i + 1), by omega, rfl, h⟩, ?_⟩
    intro x H3 y
    obtain ⟨S3, e3, rx⟩ := g2 x H3 y
    have rel3 := (rel2.ext e3).wipe vs
    have new3 : ∀ {S4 H4 : Hp}, Ext S2 H2 S4 H4 → S4 D = none := fun {S4 H4} e => by
      cases q : S4 D with
      | none => rfl
      | some o =>
        rcases e.new D o q with z | z
        · rw [hD2] at z; cases z
        · rw [hacc] at z; cases z
    rw [List.drop_eq_getElem_cons hlt] at hrest
    unfold lcL at hrest
    cases z : T.put ds[i] (wipeE ρ vs) with
    | none => rw [z] at hrest; cases hrest
    | some ρ1 =>
      rw [z] at hrest
      dsimp only at hrest
      refine gOf_ok rel3 rx z fun σ' r' hw => ⟨?_, ?_⟩
      · rw [hw vs hT]
        apply List.ext_getElem?
        intro j
        rw [wipe_at, wipe_at, wipe_length]
        by_cases hm : j ∈ vs
        · rw [if_pos hm, if_pos hm]
        · rw [if_neg hm, if_neg hm]
      · refine tG.mk r' ?_
        cases zt : tt ρ1 with
        | ok b =>
          rw [zt] at hrest
          rintro b' S4 H4 e4 rfl
          cases b' with
          | true =>
            dsimp only at hrest
            rw [if_pos rfl]
            refine tG.mk (r'.ext e4) ?_
            cases ze : te ρ1 with
            | ok yd =>
              rw [ze] at hrest
              dsimp only at hrest
              cases zr : lcL T tt te (wipeE ρ vs) (ds.drop (i + 1)) with
              | ok rest' =>
                rw [zr] at hrest
                cases hrest
                intro yv S5 H5 e5 ry
                have e25 := (e3.trans e4).trans e5
                have hn := new3 e25
                refine ⟨acc, e25.all _ _ hacc, Nat.lt_of_le_of_lt (Nat.le_trans hal (Nat.le_trans (Nat.le_of_lt hlt) hlen)) (by decide), hlt, S5, acc ++ [yv], accd ++ [yd], rest', ?_, hn, upd_same, (RpA.mono e25.sub _ _ racc).snoc ry, by simp; omega, rfl, by rw [← htot]; simp⟩
                have e15 := e2.trans e25
                refine ⟨e15.sub, fun a o h => ?_, fun a o h => ?_, e15.new⟩
                · rw [upd_ne (ne_of_none h hD)]; exact e15.all a o h
                · rw [upd_ne (ne_of_none h hn)]; exact e15.inn a o h
              | ex c => rw [zr] at hrest; cases hrest
              | no => rw [zr] at hrest; cases hrest
            | ex c => rw [ze] at hrest; cases hrest
            | no => rw [ze] at hrest; cases hrest
          | false =>
            dsimp only at hrest
            rw [if_neg Bool.false_ne_true]
            have e24 := e3.trans e4
            exact ⟨hlt, S4, acc, accd, rest, e2.trans e24, new3 e24, e24.all _ _ hacc, RpA.mono e24.sub _ _ racc, by omega, hrest, htot⟩
        | ex c => rw [zt] at hrest; cases hrest
        | no => rw [zt] at hrest; cases hrest
  · have e : i = ds.length := by omega
    subst e
    rw [List.drop_length] at hrest
    have : (R.ok [] : R (List PD)) = .ok rest := hrest
    cases this
    refine .inl ⟨stop (Nat.le_refl _), hq D S2 H2 acc e2 hD hD2 hacc ?_⟩
    rw [← htot]
    simpa using racc
section
variable {X : Cx} {W : WX} {elt tg iter : Expr} {ifs : List Expr} {scope : Scope} {own : List (Str × Nat)} {pos : Pos} {it : En → R (List PD)} {T : Tg} {tt : En → R Bool} {te : En → R PD}
theorem pd_lc (own : List (Str × Nat)) (hc : X.calm = true) (hN : X.N.Nodup) (hi : PI X tg iter (tI X.K X.mg W it)) (ok : BlkOk X.N X.env.scope scope own) (hT : ∀ i ∈ T.slots, i ∈ own.map (·.2))
    (hg : ∀ (s : Shared) (H : Hp) (C : Addr) (cl : List (Str × Addr)) (fp : List Addr), PG (X.blk s H scope (compEnvC scope cl C X.env) fp) tg (gOf X.K T)) (ht : ∀ (s : Shared) (H : Hp) (C : Addr) (cl : List (Str × Addr)) (fp : List Addr), PTs (X.blk s H scope (compEnvC scope cl C X.env) fp) ifs (tDT X.K X.mg W0 tt))
    (he : ∀ (s : Shared) (H : Hp) (C : Addr) (cl : List (Str × Addr)) (fp : List Addr), PE (X.blk s H scope (compEnvC scope cl C X.env) fp) elt (tD X.K X.mg W0 te)) (hs : ∀ x, foldedSetIterable iter X.env x = pure x := by intro _; rfl) :
    PE X (.ListComp elt [⟨tg, iter, ifs, 0⟩] scope pos) (tD X.K X.mg W (dLc it T (own.map (·.2)) tt te)) := PEimp (pe_lc hc hN hi ok hg ht he hs) fun σ H Q ⟨G, ρ, S, rel, h⟩ => by
  refine lc_of hT rel ?_
  unfold dLc at h
  cases q : dLcL it T (own.map (·.2)) tt te ρ with
  | ok ds =>
    rw [q] at h
    intro D S' H' xs e hD hS hH hr
    have e2 : Ext S H (upd S' D (.lst xs)) H' := ⟨fun a o z => by rw [upd_ne (ne_of_none (e.sub _ _ z) hS)]; exact e.sub _ _ z, e.all, fun a o z => by
      by_cases ha : a = D
      · subst ha; rw [upd_same] at z; rw [hH]; exact z
      · rw [upd_ne ha] at z; exact e.inn a o z, fun a o z => by
      by_cases ha : a = D
      · subst ha; exact .inr hD
      · rw [upd_ne ha] at z; exact e.new a o z⟩
    refine h (.ref D) _ H' e2 (.lst (SqL.of upd_same) (RpA.mono (fun a o z => ?_) _ _ hr))
    rw [upd_ne (ne_of_none z hS)]; exact z
  | ex c => rw [q] at h; exact h
  | no => rw [q] at h; exact h
end
end DL

set_option Elab.async false
set_option linter.all false
set_option maxRecDepth 100000
set_option maxHeartbeats 4000000
set_option autoImplicit false
/-! the data layer 5: operators, built-ins, subscripts; raise; a def's promise -/
namespace DL
open PySem L2
abbrev ib (i : Int) : Nat := Builtin.Int.intBits i

/-! ### operators -/
theorem Rp.newL {K : PySem.W.Frag} {S H : Hp} {p : Addr} {vs : List V} {ds : List PD} (hS : Same S H) (hp : H p = none) (r : RpA K S vs ds) : Ext S H (upd S p (.lst vs)) (upd H p (.lst vs)) ∧ Rp K (upd S p (.lst vs)) (.ref p) (.list ds) := by
  have e : Ext S H (upd S p (.lst vs)) (upd H p (.lst vs)) := Ext.known hS hp
  exact ⟨e, .lst (SqL.of upd_same) (RpA.mono e.sub _ _ r)⟩
theorem Rp.newT {K : PySem.W.Frag} {S H : Hp} {p : Addr} {vs : List V} {ds : List PD} (hS : Same S H) (hp : H p = none) (r : RpA K S vs ds) : Ext S H (upd S p (.tup vs)) (upd H p (.tup vs)) ∧ Rp K (upd S p (.tup vs)) (.ref p) (.tuple ds) := by
  have e : Ext S H (upd S p (.tup vs)) (upd H p (.tup vs)) := Ext.known hS hp
  exact ⟨e, .tup (SqT.of upd_same) (RpA.mono e.sub _ _ r)⟩
theorem OpD_of {X : Cx} {fn : Value → Value → Sem Value} {g : PD → PD → R PD} (k : ∀ (pins : List (Addr × Obj)) (s : Shared) (σ : St) (H : Hp) (x y : V) (v u : Value) (Q : VK) (S : Hp) (a b d : PD), Inv X pins σ H s → RelV x v → RelV y u → Same S H → Rp X.K S x a → Rp X.K S y b → g a b = .ok d →
    (∀ v S' H', Ext S H S' H' → Rp X.K S' v d → Q v H') → wpAny (model X.prog X.w) X.A (fn v u) (EP X pins σ Q) X.xe s) : OpD X fn g := by
  intro pins s σ H x y v u Q I rx ry h
  obtain ⟨S, a, b, hS, ra, rb, h⟩ := h
  cases q : g a b with
  | ok d => rw [q] at h; exact k pins s σ H x y v u Q S a b d I rx ry hS ra rb q h
  | ex c => rw [q] at h; exact h.elim
  | no => rw [q] at h; exact h.elim
theorem CallD_ofX {X : Cx} {fv : Value} {g : List PD → R PD} (k : ∀ (pins : List (Addr × Obj)) (s : Shared) (σ : St) (H : Hp) (vs : List V) (us : List Value) (Q : VK) (S : Hp) (ds : List PD) (d : PD), Inv X pins σ H s → Vals vs us → Same S H → RpA X.K S vs ds → g ds = .ok d →
    (∀ v S' H', Ext S H S' H' → Rp X.K S' v d → Q v H') → wpAny (model X.prog X.w) X.A (call fv us) (EP X pins σ Q) X.xe s) : CallR X fv fun vs H Q => ∃ S ds, Same S H ∧ RpA X.K S vs ds ∧ match g ds with
  | .ok d => ∀ v S' H', Ext S H S' H' → Rp X.K S' v d → Q v H'
  | _ => False := by
  intro pins s σ H vs us Q I r h
  obtain ⟨S, ds, hS, ra, h⟩ := h
  cases q : g ds with
  | ok d => rw [q] at h; exact k pins s σ H vs us Q S ds d I r hS ra q h
  | ex c => rw [q] at h; exact h.elim
  | no => rw [q] at h; exact h.elim
def gAdd : PD → PD → R PD
  | .int i, .int j => .ok (.int (i + j))
  | .str x, .str y => if x.length + y.length ≤ 16777216 then .ok (.str (x.append y)) else .no
  | .list xs, .list ys => if xs.length + ys.length ≤ 16777216 then .ok (.list (xs ++ ys)) else .no
  | .tuple xs, .tuple ys => if xs.length + ys.length ≤ 16777216 then .ok (.tuple (xs ++ ys)) else .no
  | _, _ => .no
def gSub : PD → PD → R PD
  | .int i, .int j => .ok (.int (i - j))
  | _, _ => .no
def gMul : PD → PD → R PD
  | .int i, .int j => if ib i + ib j ≤ 134217728 then .ok (.int (i * j)) else .no
  | _, _ => .no
def gDiv : PD → PD → R PD
  | .int i, .int j => if j ≠ 0 ∧ Builtin.divisionGoesByPylong i j = false then .ok (.int (i.fdiv j)) else .no
  | _, _ => .no
def gMod : PD → PD → R PD
  | .int i, .int j => if j ≠ 0 then .ok (.int (i.fmod j)) else .no
  | _, _ => .no
def gPow : PD → PD → R PD
  | .int i, .int j => if 0 ≤ j ∧ (ib i : Int) * j ≤ 134217728 then .ok (.int (i ^ j.toNat)) else .no
  | _, _ => .no
def gShl : PD → PD → R PD
  | .int i, .int j => if 0 ≤ j ∧ (ib i : Int) + j ≤ 134217728 then .ok (.int (i * 2 ^ j.toNat)) else .no
  | _, _ => .no
def gShr : PD → PD → R PD
  | .int i, .int j => if 0 ≤ j then .ok (.int (i / 2 ^ j.toNat)) else .no
  | _, _ => .no
theorem noEx_add : NoEx gAdd := fun a b c h => by unfold gAdd at h; split at h <;> first | (split at h <;> cases h) | cases h
theorem noEx_sub : NoEx gSub := fun a b c h => by unfold gSub at h; split at h <;> cases h
theorem noEx_mul : NoEx gMul := fun a b c h => by unfold gMul at h; split at h <;> first | (split at h <;> cases h) | cases h
theorem noEx_div : NoEx gDiv := fun a b c h => by unfold gDiv at h; split at h <;> first | (split at h <;> cases h) | cases h
theorem noEx_mod : NoEx gMod := fun a b c h => by unfold gMod at h; split at h <;> first | (split at h <;> cases h) | cases h
theorem noEx_pow : NoEx gPow := fun a b c h => by unfold gPow at h; split at h <;> first | (split at h <;> cases h) | cases h
theorem noEx_shl : NoEx gShl := fun a b c h => by unfold gShl at h; split at h <;> first | (split at h <;> cases h) | cases h
theorem noEx_shr : NoEx gShr := fun a b c h => by unfold gShr at h; split at h <;> first | (split at h <;> cases h) | cases h
section
variable {X : Cx}
/-- list + list, whatever the lists are -/
theorem op_catL : OpR X (binaryOp .Add) (fun x y H Q => ∃ a b xs ys, x = .ref a ∧ y = .ref b ∧ SqL X.K H a xs ∧ SqL X.K H b ys ∧ xs.length + ys.length ≤ sizeLine ∧ ∀ p, H p = none → Q (.ref p) (upd H p (.lst (xs ++ ys)))) := by
  intro pins s σ H x y v u Q I rx ry h
  obtain ⟨a, b, xs, ys, rfl, rfl, ha, hb, hz, q⟩ := h
  cases rx
  cases ry
  obtain ⟨its, r1, ⟨⟨c1, d1, dt1, sl1⟩, n1, e1, q1, w1, z1⟩, _⟩ := I.list ha
  obtain ⟨its2, r2, ⟨⟨c2, d2, dt2, sl2⟩, n2, e2, q2, w2, z2⟩, _⟩ := I.list hb
  simp only at q1 z1 q2 z2
  subst q1 z1 q2 z2
  have l1 := r1.length
  have l2 := r2.length
  refine PySem.concat_meets ⟨_, e1, rfl⟩ ⟨_, e2, rfl⟩ PySem.noFill_list_add PySem.seq_list_add F.slot_list_add F.entry_list_add (F.args_list_add_2 _ _) (PyProof.Rows.list_addW a b its.toArray its2.toArray n1 n2 d1 d2 sl1 sl2 (by rw [List.size_toArray, List.size_toArray, ← l1, ← l2]; exact hz)) ⟨e1, e2, ?_⟩
  have ea : its.toArray ++ its2.toArray = (its ++ its2).toArray := by simp
  rw [ea]
  exact ⟨.ref _, _, I.lnew (t' := s.toks) (r1.append r2) (by rw [List.length_append]; exact hz), rfl, q _ I.fresh⟩
theorem od_add : OpD X (binaryOp .Add) gAdd := by
  refine OpD_of fun pins s σ H x y v u Q S a b d I rx ry hS ra rb q h => ?_
  unfold gAdd at q
  split at q
  · cases ra; cases rb
    cases q
    exact op_add pins s σ H _ _ v u Q I rx ry ⟨_, _, rfl, rfl, h _ S H (Ext.refl hS) (.int _)⟩
  · cases ra; cases rb
    split at q
    · rename_i hl
      cases q
      exact op_add_str pins s σ H _ _ v u Q I rx ry ⟨_, _, rfl, rfl, hl, h _ S H (Ext.refl hS) (.str _)⟩
    · cases q
  · cases ra with
    | lst h1 a1 =>
      cases rb with
      | lst h2 a2 =>
        split at q
        · rename_i hl
          cases q
          refine op_catL pins s σ H _ _ v u Q I rx ry ⟨_, _, _, _, rfl, rfl, Same.seq hS h1, Same.seq hS h2, by rw [a1.length, a2.length]; exact hl, fun p hp => ?_⟩
          have z := Rp.newL hS hp (a1.append a2)
          exact h _ _ _ z.1 z.2
        · cases q
  · cases ra with
    | tup h1 a1 =>
      cases rb with
      | tup h2 a2 =>
        split at q
        · rename_i hl
          cases q
          refine op_catA pins s σ H _ _ v u Q I rx ry ⟨_, _, _, _, rfl, rfl, Same.seqT hS h1, Same.seqT hS h2, by rw [a1.length, a2.length]; exact hl, fun e => ?_, fun _ e => ?_, fun _ _ p hp => ?_⟩
          · subst e
            cases a1
            exact h _ S H (Ext.refl hS) (.tup h2 a2)
          · subst e
            cases a2
            rw [List.append_nil] at h
            exact h _ S H (Ext.refl hS) (.tup h1 a1)
          · have z := Rp.newT hS hp (a1.append a2)
            exact h _ _ _ z.1 z.2
        · cases q
  · cases q
theorem od_sub : OpD X (binaryOp .Sub) gSub := by
  refine OpD_of fun pins s σ H x y v u Q S a b d I rx ry hS ra rb q h => ?_
  unfold gSub at q
  split at q
  · cases ra; cases rb
    cases q
    exact op_sub pins s σ H _ _ v u Q I rx ry ⟨_, _, rfl, rfl, h _ S H (Ext.refl hS) (.int _)⟩
  · cases q
theorem od_mul : OpD X (binaryOp .Mult) gMul := by
  refine OpD_of fun pins s σ H x y v u Q S a b d I rx ry hS ra rb q h => ?_
  unfold gMul at q
  split at q
  · cases ra; cases rb
    split at q
    · rename_i hl
      cases q
      exact op_mulX pins s σ H _ _ v u Q I rx ry ⟨_, _, rfl, rfl, by unfold CMulX; have h2 : Builtin.Int.intBits _ + Builtin.Int.intBits _ ≤ 134217728 := hl; omega, h _ S H (Ext.refl hS) (.int _)⟩
    · cases q
  · cases q
theorem op_fdivP : OpR X (binaryOp .FloorDiv) (rI (fun i j => j ≠ 0 ∧ Builtin.divisionGoesByPylong i j = false) fun i j => .int (i.fdiv j)) := opI fun _ _ _ _ _ _ _ hc q => PyProof.Rows.floordiv_int hc.1 q (.inl hc.2)
theorem op_powP : OpR X (binaryOp .Pow) (rI (fun i j => 0 ≤ j ∧ (ib i : Int) * j ≤ 134217728) fun i j => .int (i ^ j.toNat)) := opI fun _ _ _ _ _ _ _ hc q => PyProof.Rows.pow_int hc.1 (by
  have h2 := hc.2
  have e : (2 : Int) ^ 27 = 134217728 := by decide
  rw [e]
  exact h2) q
theorem od_div : OpD X (binaryOp .FloorDiv) gDiv := by
  refine OpD_of fun pins s σ H x y v u Q S a b d I rx ry hS ra rb q h => ?_
  unfold gDiv at q
  split at q
  · cases ra; cases rb
    split at q
    · rename_i hl
      cases q
      exact op_fdivP pins s σ H _ _ v u Q I rx ry ⟨_, _, rfl, rfl, hl, h _ S H (Ext.refl hS) (.int _)⟩
    · cases q
  · cases q
theorem od_mod : OpD X (binaryOp .Mod) gMod := by
  refine OpD_of fun pins s σ H x y v u Q S a b d I rx ry hS ra rb q h => ?_
  unfold gMod at q
  split at q
  · cases ra; cases rb
    split at q
    · rename_i hl
      cases q
      exact op_modN pins s σ H _ _ v u Q I rx ry ⟨_, _, rfl, rfl, hl, h _ S H (Ext.refl hS) (.int _)⟩
    · cases q
  · cases q
theorem od_pow : OpD X (binaryOp .Pow) gPow := by
  refine OpD_of fun pins s σ H x y v u Q S a b d I rx ry hS ra rb q h => ?_
  unfold gPow at q
  split at q
  · cases ra; cases rb
    split at q
    · rename_i hl
      cases q
      exact op_powP pins s σ H _ _ v u Q I rx ry ⟨_, _, rfl, rfl, hl, h _ S H (Ext.refl hS) (.int _)⟩
    · cases q
  · cases q
theorem shl_of {i j : Int} (h : 0 ≤ j ∧ (ib i : Int) + j ≤ 134217728) : CShl i j := by
  have e : (2 : Int) ^ 27 = 134217728 := by decide
  refine ⟨h.1, ?_⟩
  rw [e]
  exact h.2
theorem od_shl : OpD X (binaryOp .LShift) gShl := by
  refine OpD_of fun pins s σ H x y v u Q S a b d I rx ry hS ra rb q h => ?_
  unfold gShl at q
  split at q
  · cases ra; cases rb
    split at q
    · rename_i hl
      cases q
      exact op_shlW pins s σ H _ _ v u Q I rx ry ⟨_, _, rfl, rfl, shl_of hl, h _ S H (Ext.refl hS) (.int _)⟩
    · cases q
  · cases q
theorem od_shr : OpD X (binaryOp .RShift) gShr := by
  refine OpD_of fun pins s σ H x y v u Q S a b d I rx ry hS ra rb q h => ?_
  unfold gShr at q
  split at q
  · cases ra; cases rb
    split at q
    · rename_i hl
      cases q
      exact op_shr pins s σ H _ _ v u Q I rx ry ⟨_, _, rfl, rfl, hl, h _ S H (Ext.refl hS) (.int _)⟩
    · cases q
  · cases q
/-! ### comparisons -/
def cI (p : Int → Int → Bool) : PD → PD → R PD
  | .int i, .int j => .ok (.bool (p i j))
  | _, _ => .no
def gLt : PD → PD → R PD := cI fun i j => decide (i < j)
def gLe : PD → PD → R PD := cI fun i j => decide (i ≤ j)
def gGt : PD → PD → R PD := cI fun i j => decide (j < i)
def gGe : PD → PD → R PD := cI fun i j => decide (j ≤ i)
theorem noEx_cI {p : Int → Int → Bool} : NoEx (cI p) := fun a b c h => by unfold cI at h; split at h <;> cases h
theorem od_cI {op : CmpOp} {p : Int → Int → Bool} (ho : OpR X (compareOp op) (rI0 fun i j => .bl (p i j))) : OpD X (compareOp op) (cI p) := by
  refine OpD_of fun pins s σ H x y v u Q S a b d I rx ry hS ra rb q h => ?_
  unfold cI at q
  split at q
  · cases ra; cases rb
    cases q
    exact ho pins s σ H _ _ v u Q I rx ry ⟨_, _, rfl, rfl, h _ S H (Ext.refl hS) (.bl _)⟩
  · cases q
theorem od_lt : OpD X (compareOp .Lt) gLt := od_cI op_lt
theorem od_le : OpD X (compareOp .LtE) gLe := od_cI op_le
theorem od_gt : OpD X (compareOp .Gt) gGt := od_cI op_gt
theorem od_ge : OpD X (compareOp .GtE) gGe := od_cI op_ge
def gEq : PD → PD → R PD
  | .int i, .int j => .ok (.bool (decide (i = j)))
  | .str x, .str y => .ok (.bool (decide (x = y)))
  | a, b => if SeqAt.shaped a = true ∧ SeqAt.shaped b = true then .ok (.bool (PyData.eqv a b)) else .no
def gNe : PD → PD → R PD
  | .int i, .int j => .ok (.bool (!decide (i = j)))
  | .str x, .str y => .ok (.bool (!decide (x = y)))
  | a, b => if SeqAt.shaped a = true ∧ SeqAt.shaped b = true then .ok (.bool (!PyData.eqv a b)) else .no
theorem noEx_eq : NoEx gEq := fun a b c h => by unfold gEq at h; split at h <;> first | (split at h <;> cases h) | cases h
theorem noEx_ne : NoEx gNe := fun a b c h => by unfold gNe at h; split at h <;> first | (split at h <;> cases h) | cases h
theorem decV_int {i j : Int} : decide (V.int i = V.int j) = decide (i = j) := by
  by_cases h : i = j
  · subst h; simp
  · rw [decide_eq_false h, decide_eq_false (fun e => h (by cases e; rfl))]
theorem decV_str {i j : Str} : decide (V.str i = V.str j) = decide (i = j) := by
  by_cases h : i = j
  · subst h; simp
  · rw [decide_eq_false h, decide_eq_false (fun e => h (by cases e; rfl))]
theorem od_eq (hu : X.A.units + 64 < cLine) : OpD X (compareOp .Eq) gEq := by
  refine OpD_of fun pins s σ H x y v u Q S a b d I rx ry hS ra rb q h => ?_
  unfold gEq at q
  split at q
  · cases ra; cases rb
    cases q
    exact op_eq pins s σ H _ _ v u Q I rx ry ⟨rfl, by rw [decV_int]; exact h _ S H (Ext.refl hS) (.bl _)⟩
  · cases ra; cases rb
    cases q
    exact op_eq pins s σ H _ _ v u Q I rx ry ⟨rfl, by rw [decV_str]; exact h _ S H (Ext.refl hS) (.bl _)⟩
  · split at q
    · rename_i hl
      cases q
      exact op_eqD hu pins s σ H _ _ v u Q I rx ry ⟨a, b, Rp.dp _ _ (SeqAt.canLay_of_shaped hl.1) (Rp.mono hS _ _ ra), Rp.dp _ _ (SeqAt.canLay_of_shaped hl.2) (Rp.mono hS _ _ rb), hl.1, hl.2, h _ S H (Ext.refl hS) (.bl _)⟩
    · cases q
theorem od_ne (hu : X.A.units + 64 < cLine) : OpD X (compareOp .NotEq) gNe := by
  refine OpD_of fun pins s σ H x y v u Q S a b d I rx ry hS ra rb q h => ?_
  unfold gNe at q
  split at q
  · cases ra; cases rb
    cases q
    exact op_ne pins s σ H _ _ v u Q I rx ry ⟨rfl, by rw [decV_int]; exact h _ S H (Ext.refl hS) (.bl _)⟩
  · cases ra; cases rb
    cases q
    exact op_ne pins s σ H _ _ v u Q I rx ry ⟨rfl, by rw [decV_str]; exact h _ S H (Ext.refl hS) (.bl _)⟩
  · split at q
    · rename_i hl
      cases q
      exact op_neD hu pins s σ H _ _ v u Q I rx ry ⟨a, b, Rp.dp _ _ (SeqAt.canLay_of_shaped hl.1) (Rp.mono hS _ _ ra), Rp.dp _ _ (SeqAt.canLay_of_shaped hl.2) (Rp.mono hS _ _ rb), hl.1, hl.2, h _ S H (Ext.refl hS) (.bl _)⟩
    · cases q
end

/-! ### unary -/
def gNeg : PD → R PD
  | .int i => .ok (.int (-i))
  | _ => .no
section
variable {X : Cx} {W : WX} {f f1 f2 : En → R PD} {fs : En → R (List PD)} {a b e : Expr} {es : List Expr} {pos p : Pos} {x : Str}
theorem pd_neg (ha : PE X a (tD X.K X.mg W f)) : PE X (.UnaryOp .USub a pos) (tD X.K X.mg W (d1 gNeg f)) := PEimp (pe_un un_neg ha) fun σ H Q ⟨G, ρ, S, rel, h⟩ => by
  refine tG.mk rel (wG.imp ?_ (wG.bind (rp := Rp X.K) h))
  rintro v H1 ⟨S1, d, e1, ra, h1⟩
  cases d with
  | int i => cases ra; exact ⟨i, rfl, h1 _ S1 H1 (Ext.refl e1.inn) (.int _)⟩
  | _ => exact h1.elim

/-! ### subscripts -/
def gIx : PD → PD → R PD
  | .list ds, .int i => (match atI ds i with
    | some d => .ok d
    | none => .no)
  | .tuple ds, .int i => (match atI ds i with
    | some d => .ok d
    | none => .no)
  | .str z, .int i => if z.length ≤ 16777216 then (match atI z.cps.toList i with
    | some c => .ok (.str ⟨#[c]⟩)
    | none => .no) else .no
  | _, _ => .no
theorem noEx_ix : NoEx gIx := fun a b c h => by
  unfold gIx at h
  split at h
  · split at h <;> cases h
  · split at h <;> cases h
  · split at h
    · split at h <;> cases h
    · cases h
  · cases h
theorem atI_rp {K : PySem.W.Frag} {S : Hp} {vs : List V} {ds : List PD} {i : Int} {d : PD} (h : RpA K S vs ds) (e : atI ds i = some d) : ∃ v, atI vs i = some v ∧ Rp K S v d := by
  unfold atI at e ⊢
  rw [h.length]
  cases q : ixN ds.length i with
  | none => rw [q] at e; cases e
  | some j =>
    rw [q] at e
    exact h.get e
theorem pd_ix (ha : PE X a (tD X.K X.mg W f1)) (hb : PE X b (tD X.K X.mg W f2)) (hs : PlainIx b := by exact fun _ _ => rfl) : PE X (.Subscript a b pos) (tD X.K X.mg W (d2 gIx f1 f2)) :=
  PEimp (pe_ix (ix_seq (X := X)) ha hb hs) (d2_of (fun x y H Q ⟨S, a, b, hS, ra, rb, h⟩ => by
    cases q : gIx a b with
    | ex c => rw [q] at h; exact h.elim
    | no => rw [q] at h; exact h.elim
    | ok d =>
      rw [q] at h
      dsimp only at h
      unfold gIx at q
      split at q
      · cases rb
        cases ra with
        | lst h1 a1 =>
          split at q
          · rename_i d e
            cases q
            obtain ⟨v, hv, hr⟩ := atI_rp a1 e
            exact .inl ⟨_, _, _, v, rfl, rfl, Same.seq hS h1, hv, h v S H (Ext.refl hS) hr⟩
          · cases q
      · cases rb
        cases ra with
        | tup h1 a1 =>
          split at q
          · rename_i d e
            cases q
            obtain ⟨v, hv, hr⟩ := atI_rp a1 e
            exact .inr (.inl ⟨_, _, _, v, rfl, rfl, Same.seqT hS h1, hv, h v S H (Ext.refl hS) hr⟩)
          · cases q
      · cases rb
        cases ra
        split at q
        · rename_i hl
          split at q
          · rename_i c e
            cases q
            exact .inr (.inr ⟨_, _, c, rfl, rfl, hl, e, h _ S H (Ext.refl hS) (.str _)⟩)
          · cases q
        · cases q
      · cases q) noEx_ix)
def cutD {α : Type} (xs : List α) (lo hi : Option Int) : List α := (xs.drop (HT.sIx xs.length 0 lo)).take (HT.sIx xs.length xs.length hi - HT.sIx xs.length 0 lo)
def gSl (d : PD) (lo hi : Option Int) : R PD := match d with
  | .list ds => .ok (.list (cutD ds lo hi))
  | .tuple ds => .ok (.tuple (cutD ds lo hi))
  | .str z => if z.length ≤ 16777216 then .ok (.str (cutS z lo hi)) else .no
  | _ => .no
def toI : PD → R (Option Int)
  | .int i => .ok (some i)
  | _ => .no
def dP (f : En → R PD) : En → R (Option Int) := fun ρ => (f ρ).bind toI
def dP0 : En → R (Option Int) := fun _ => .ok none
def dSl (f : En → R PD) (lo hi : En → R (Option Int)) : En → R PD := fun ρ => (f ρ).bind fun d => (lo ρ).bind fun l => (hi ρ).bind fun h => gSl d l h
def rpO : Hp → Option Int → Option Int → Prop := fun _ b a => b = a
abbrev tDO (K : PySem.W.Frag) (mg : MG) (W : WX) (f : En → R (Option Int)) : TO := tG rpO K mg W f
theorem POimp {o : Option Expr} {t t' : TO} (h : PO X o t) (i : ∀ σ H Q, t' σ H Q → t σ H Q) : PO X o t' := ⟨fun pins s σ H Q I q => h.run pins s σ H Q I (i σ H Q q)⟩
theorem po_d0 : PO X none (tDO X.K X.mg W dP0) := POimp po_none fun σ H Q ⟨G, ρ, S, rel, h⟩ => h none S H (Ext.refl rel.inn) rfl
theorem po_d (he : PE X e (tD X.K X.mg W f)) : PO X (some e) (tDO X.K X.mg W (dP f)) := POimp (po_some he) fun σ H Q ⟨G, ρ, S, rel, h⟩ => by
  refine tG.mk rel (wG.imp ?_ (wG.bind (rp := Rp X.K) h))
  rintro v H1 ⟨S1, d, e1, ra, h1⟩
  cases d with
  | int i => cases ra; exact ⟨i, rfl, h1 (some i) S1 H1 (Ext.refl e1.inn) rfl⟩
  | _ => exact h1.elim
theorem cut_rp {K : PySem.W.Frag} {S : Hp} {vs : List V} {ds : List PD} {lo hi : Option Int} (h : RpA K S vs ds) : RpA K S (cutV vs lo hi) (cutD ds lo hi) := by
  unfold cutV cutD
  rw [h.length]
  exact (h.drop _).take _
theorem cut_all {α : Type} {xs : List α} {lo hi : Option Int} (h : HT.sIx xs.length 0 lo = 0 ∧ HT.sIx xs.length xs.length hi = xs.length) : cutD xs lo hi = xs := by
  unfold cutD
  rw [h.1, h.2]
  simp
theorem pd_sl {lo hi : Option Expr} {p2 : Pos} {l h : En → R (Option Int)} (ha : PE X a (tD X.K X.mg W f)) (hl : PO X lo (tDO X.K X.mg W l)) (hh : PO X hi (tDO X.K X.mg W h)) : PE X (.Subscript a (.Slice lo hi none p2) pos) (tD X.K X.mg W (dSl f l h)) :=
  PEimp (pe_slice (sl_list.or (sl_tupA.or sl_str)) ha hl hh) fun σ H Q ⟨G, ρ, S, rel, q⟩ => by
    refine tG.mk rel (wG.imp ?_ (wG.bind (rp := Rp X.K) q))
    rintro v H1 ⟨S1, d, e1, ra, q1⟩
    refine tG.mk (rel.ext e1) (wG.imp ?_ (wG.bind (rp := rpO) q1))
    rintro l H2 ⟨S2, l', e2, rl, q2⟩
    refine tG.mk ((rel.ext e1).ext e2) (wG.imp ?_ (wG.bind (rp := rpO) q2))
    rintro h H3 ⟨S3, h', e3, rh, q3⟩
    cases rl
    cases rh
    have ra3 := Rp.mono (e2.sub.trans e3.sub) _ _ ra
    have hS := e3.inn
    cases d with
    | list ds =>
      cases ra3 with
      | lst h1 a1 =>
        refine .inl ⟨_, _, rfl, Same.seq hS h1, fun p hp => ?_⟩
        have z := Rp.newL hS hp (cut_rp (lo := l) (hi := h) a1)
        exact q3 _ _ _ z.1 z.2
    | tuple ds =>
      cases ra3 with
      | tup h1 a1 =>
        refine .inr (.inl ⟨_, _, rfl, Same.seqT hS h1, fun hw => ?_, fun _ p hp => ?_⟩)
        · rw [a1.length] at hw
          have q4 : wG (Rp X.K) X.mg W σ S3 H3 Q (.ok (.tuple (cutD ds l h))) := q3
          rw [cut_all hw] at q4
          exact q4 _ S3 H3 (Ext.refl hS) (.tup h1 a1)
        · have z := Rp.newT hS hp (cut_rp (lo := l) (hi := h) a1)
          exact q3 _ _ _ z.1 z.2
    | str z =>
      cases ra3
      have q4 : wG (Rp X.K) X.mg W σ S3 H3 Q (if z.length ≤ 16777216 then .ok (.str (cutS z l h)) else .no) := q3
      by_cases hz : z.length ≤ 16777216
      · rw [if_pos hz] at q4
        exact .inr (.inr ⟨_, rfl, hz, q4 _ S3 H3 (Ext.refl hS) (.str _)⟩)
      · rw [if_neg hz] at q4
        exact q4.elim
    | _ => exact q3.elim

/-! ### built-ins by name -/
def CallD (X : Cx) (fv : Value) (g : List PD → R PD) : Prop := CallR X fv fun vs H Q => ∃ S ds, Same S H ∧ RpA X.K S vs ds ∧ match g ds with
  | .ok d => ∀ v S' H', Ext S H S' H' → Rp X.K S' v d → Q v H'
  | _ => False
def NoExL (g : List PD → R PD) : Prop := ∀ a c, g a ≠ .ex c
theorem cd_of {fv : Value} {g : List PD → R PD} (hn : NoExL g) : ∀ σ H Q, tD X.K X.mg W (dA g fs) σ H Q → tCB (fun vs H Q => ∃ S ds, Same S H ∧ RpA X.K S vs ds ∧ match g ds with
  | .ok d => ∀ v S' H', Ext S H S' H' → Rp X.K S' v d → Q v H'
  | _ => False) (tDA X.K X.mg W fs) σ H Q := by
  rintro σ H Q ⟨G, ρ, S, rel, h⟩
  refine tG.mk rel (wG.imp ?_ (wG.bind (rp := RpA X.K) h))
  rintro vs H1 ⟨S1, ds, e1, ra, h1⟩
  refine ⟨S1, ds, e1.inn, ra, ?_⟩
  cases q : g ds with
  | ok d => rw [q] at h1; exact h1
  | ex c => exact absurd q (hn ds c)
  | no => rw [q] at h1; exact h1
theorem pd_b {id : String} {g : List PD → R PD} (hc : CallD X (.builtin id) g) (hn : NoExL g) (hm : X.mg x = none) (hv : bootBuiltins x = some (.builtin id)) (ha : PA X (e :: es) (tDA X.K X.mg W fs)) (hg : Gl X x := by rfl) (hnn : x ≠ "__name__" := by decide) (hdb : (x == ("__debug__" : Str)) = false := by decide)
    (he : starEach (e :: es) X.env = (false, eval e X.env) :: starEach es X.env := by rfl) (hpl : (backTo pos (starEach es X.env)).any (·.1) = false := by rfl) : PE X (.Call (.Name x p) (e :: es) [] pos) (tD X.K X.mg W (dA g fs)) :=
  PEimp (pe_callB hc hg hm hv ha hnn hdb he hpl) (cd_of (fv := .builtin id) hn)
theorem pd_bt {T : String} {g : List PD → R PD} (hc : CallD X (.type T) g) (hn : NoExL g) (hm : X.mg x = none) (hv : bootBuiltins x = some (.type T)) (ha : PA X (e :: es) (tDA X.K X.mg W fs)) (hg : Gl X x := by rfl) (hnn : x ≠ "__name__" := by decide) (hdb : (x == ("__debug__" : Str)) = false := by decide)
    (he : starEach (e :: es) X.env = (false, eval e X.env) :: starEach es X.env := by rfl) (hpl : (backTo pos (starEach es X.env)).any (·.1) = false := by rfl) : PE X (.Call (.Name x p) (e :: es) [] pos) (tD X.K X.mg W (dA g fs)) :=
  PEimp (pe_callTy hc hg hm hv ha hnn hdb he hpl) (cd_of (fv := .type T) hn)
def gLen : List PD → R PD
  | [.list ds] => .ok (.int ds.length)
  | [.tuple ds] => .ok (.int ds.length)
  | [.str z] => if z.length ≤ 16777216 then .ok (.int z.length) else .no
  | _ => .no
theorem nx_len : NoExL gLen := fun a c h => by unfold gLen at h; split at h <;> first | (split at h <;> cases h) | cases h
theorem cd_len : CallD X (.builtin "len") gLen := by
  refine CallD_ofX fun pins s σ H vs us Q S ds d I r hS ra q h => ?_
  unfold gLen at q
  split at q
  · cases ra with
    | cons r1 r2 =>
      cases r2
      cases r1 with
      | lst h1 a1 =>
        cases q
        exact call_len pins s σ H _ us Q I r ⟨_, _, rfl, .inl ⟨_, Same.seq hS h1, rfl⟩, by rw [a1.length]; exact h _ S H (Ext.refl hS) (.int _)⟩
  · cases ra with
    | cons r1 r2 =>
      cases r2
      cases r1 with
      | tup h1 a1 =>
        cases q
        exact call_len pins s σ H _ us Q I r ⟨_, _, rfl, .inr ⟨_, Same.seqT hS h1, rfl⟩, by rw [a1.length]; exact h _ S H (Ext.refl hS) (.int _)⟩
  · cases ra with
    | cons r1 r2 =>
      cases r2
      cases r1
      split at q
      · rename_i hl
        cases q
        exact call_len pins s σ H _ us Q I r ⟨_, _, rfl, ⟨hl, rfl⟩, h _ S H (Ext.refl hS) (.int _)⟩
      · cases q
  · cases q
def gAbs : List PD → R PD
  | [.int i] => .ok (.int (if i < 0 then -i else i))
  | _ => .no
theorem nx_abs : NoExL gAbs := fun a c h => by unfold gAbs at h; split at h <;> cases h
theorem cd_abs : CallD X (.builtin "abs") gAbs := by
  refine CallD_ofX fun pins s σ H vs us Q S ds d I r hS ra q h => ?_
  unfold gAbs at q
  split at q
  · cases ra with
    | cons r1 r2 =>
      cases r2
      cases r1
      cases q
      exact call_abs pins s σ H _ us Q I r ⟨_, rfl, h _ S H (Ext.refl hS) (.int _)⟩
  · cases q
def gInt : List PD → R PD
  | [.int i] => .ok (.int i)
  | [.bool b] => .ok (.int (if b then 1 else 0))
  | _ => .no
theorem nx_int : NoExL gInt := fun a c h => by unfold gInt at h; split at h <;> cases h
theorem cd_int : CallD X (.type "int") gInt := by
  refine CallD_ofX fun pins s σ H vs us Q S ds d I r hS ra q h => ?_
  unfold gInt at q
  split at q
  · cases ra with
    | cons r1 r2 =>
      cases r2
      cases r1
      cases q
      exact call_int1 pins s σ H _ us Q I r (.inl ⟨_, rfl, h _ S H (Ext.refl hS) (.int _)⟩)
  · cases ra with
    | cons r1 r2 =>
      cases r2
      cases r1
      cases q
      exact call_int1 pins s σ H _ us Q I r (.inr ⟨_, rfl, h _ S H (Ext.refl hS) (.int _)⟩)
  · cases q
def gMax : List PD → R PD
  | [.int i, .int j] => .ok (.int (if j > i then j else i))
  | _ => .no
def gMin : List PD → R PD
  | [.int i, .int j] => .ok (.int (if j < i then j else i))
  | _ => .no
theorem nx_max : NoExL gMax := fun a c h => by unfold gMax at h; split at h <;> cases h
theorem nx_min : NoExL gMin := fun a c h => by unfold gMin at h; split at h <;> cases h
theorem cd_max (hc : X.calm = true) : CallD X (.builtin "max") gMax := by
  refine CallD_ofX fun pins s σ H vs us Q S ds d I r hS ra q h => ?_
  unfold gMax at q
  split at q
  · cases ra with
    | cons r1 r2 =>
      cases r2 with
      | cons r2 r3 =>
        cases r3
        cases r1
        cases r2
        cases q
        exact call_max2 hc pins s σ H _ us Q I r ⟨_, _, rfl, h _ S H (Ext.refl hS) (.int _)⟩
  · cases q
theorem cd_min (hc : X.calm = true) : CallD X (.builtin "min") gMin := by
  refine CallD_ofX fun pins s σ H vs us Q S ds d I r hS ra q h => ?_
  unfold gMin at q
  split at q
  · cases ra with
    | cons r1 r2 =>
      cases r2 with
      | cons r2 r3 =>
        cases r3
        cases r1
        cases r2
        cases q
        exact call_min2 hc pins s σ H _ us Q I r ⟨_, _, rfl, h _ S H (Ext.refl hS) (.int _)⟩
  · cases q
def gListOf : List PD → R PD
  | [.list ds] => .ok (.list ds)
  | [.tuple ds] => .ok (.list ds)
  | _ => .no
def gTupOf : List PD → R PD
  | [.list ds] => .ok (.tuple ds)
  | [.tuple ds] => .ok (.tuple ds)
  | _ => .no
theorem nx_listOf : NoExL gListOf := fun a c h => by unfold gListOf at h; split at h <;> cases h
theorem nx_tupOf : NoExL gTupOf := fun a c h => by unfold gTupOf at h; split at h <;> cases h
theorem cd_listOf : CallD X (.type "list") gListOf := by
  refine CallD_ofX fun pins s σ H vs us Q S ds d I r hS ra q h => ?_
  unfold gListOf at q
  split at q
  · cases ra with
    | cons r1 r2 =>
      cases r2
      cases r1 with
      | lst h1 a1 =>
        cases q
        refine call_list_of pins s σ H _ us Q I r ⟨_, _, rfl, .inl (Same.seq hS h1), fun p hp => ?_⟩
        have z := Rp.newL hS hp a1
        exact h _ _ _ z.1 z.2
  · cases ra with
    | cons r1 r2 =>
      cases r2
      cases r1 with
      | tup h1 a1 =>
        cases q
        refine call_list_of pins s σ H _ us Q I r ⟨_, _, rfl, .inr (Same.seqT hS h1), fun p hp => ?_⟩
        have z := Rp.newL hS hp a1
        exact h _ _ _ z.1 z.2
  · cases q
theorem cd_tupOf : CallD X (.type "tuple") gTupOf := by
  refine CallD_ofX fun pins s σ H vs us Q S ds d I r hS ra q h => ?_
  unfold gTupOf at q
  split at q
  · cases ra with
    | cons r1 r2 =>
      cases r2
      cases r1 with
      | lst h1 a1 =>
        cases q
        refine call_tuple_of pins s σ H _ us Q I r ⟨_, _, rfl, .inl ⟨Same.seq hS h1, fun p hp => ?_⟩⟩
        have z := Rp.newT hS hp a1
        exact h _ _ _ z.1 z.2
  · cases ra with
    | cons r1 r2 =>
      cases r2
      cases r1 with
      | tup h1 a1 =>
        cases q
        exact call_tuple_of pins s σ H _ us Q I r ⟨_, _, rfl, .inr ⟨Same.seqT hS h1, h _ S H (Ext.refl hS) (.tup h1 a1)⟩⟩
  · cases q
def intsOf : List PD → Option (List Int)
  | [] => some []
  | .int i :: r => (intsOf r).map (i :: ·)
  | _ :: _ => none
theorem intsOf_rp {K : PySem.W.Frag} {S : Hp} : ∀ {ds : List PD} {vs : List V} {ns : List Int}, RpA K S vs ds → intsOf ds = some ns → vs = ns.map V.int
  | [], _, _, h, e => by
    cases h
    cases e
    rfl
  | .int i :: r, _, ns, h, e => by
    cases h with
    | cons h1 h2 =>
      cases h1
      unfold intsOf at e
      cases q : intsOf r with
      | none => rw [q] at e; cases e
      | some ms =>
        rw [q] at e
        cases e
        rw [intsOf_rp h2 q]
        rfl
  | .none :: _, _, _, _, e => by cases e
  | .bool _ :: _, _, _, _, e => by cases e
  | .str _ :: _, _, _, _, e => by cases e
  | .list _ :: _, _, _, _, e => by cases e
  | .tuple _ :: _, _, _, _, e => by cases e
  | .dict _ :: _, _, _, _, e => by cases e
def gSum : List PD → R PD
  | [.list ds] => (match intsOf ds with
    | some ns => .ok (.int ns.sum)
    | none => .no)
  | _ => .no
theorem nx_sum : NoExL gSum := fun a c h => by
  unfold gSum at h
  split at h
  · split at h <;> cases h
  · cases h
theorem cd_sum (hc : X.calm = true) : CallD X (.builtin "sum") gSum := by
  refine CallD_ofX fun pins s σ H vs us Q S ds d I r hS ra q h => ?_
  unfold gSum at q
  split at q
  · cases ra with
    | cons r1 r2 =>
      cases r2
      cases r1 with
      | lst h1 a1 =>
        split at q
        · rename_i ns e
          have ev := intsOf_rp a1 e
          subst ev
          cases q
          exact cr_sum hc pins s σ H _ us Q I r ⟨_, ns, rfl, Same.seq hS h1, h _ S H (Ext.refl hS) (.int _)⟩
        · cases q
  · cases q
/-! isinstance(x, T), T a built-in type -/
def tyD : PD → String
  | .none => "NoneType"
  | .bool _ => "bool"
  | .int _ => "int"
  | .str _ => "str"
  | .list _ => "list"
  | .tuple _ => "tuple"
  | .dict _ => "dict"
def isExc : PD → Bool
  | .dict ((.none, _) :: _) => true
  | _ => false
theorem tyx_rp {K : PySem.W.Frag} {S H : Hp} {v : V} {d : PD} (hS : Same S H) (r : Rp K S v d) (hx : isExc d = false) : TyX K H v (.type (tyD d)) := by
  cases r with
  | non => exact .base .non
  | bl b => exact .base (.bl b)
  | int i => exact .base (.int i)
  | str x => exact .base (.str x)
  | lst h a =>
    rcases h with (h | ⟨o, h⟩) | ⟨o, its, n, h1, h2, _⟩
    · exact .base (.lst (hS _ _ h))
    · exact .base (.frz (hS _ _ h))
    · exact .kList h1 h2
  | tup h a =>
    rcases h with (h | ⟨o, h⟩) | ⟨o, its, n, h1, h2, _⟩
    · exact .base (.tup (hS _ _ h))
    · exact .fTuple (hS _ _ h)
    · exact .kTuple h1 h2
  | exc h => cases hx
  | dct h _ => exact .base (.dK (hS _ _ h))
def gIsi (T : String) (d : PD) : R PD := if isExc d = true then .no else match kitB (tyD d) T with
  | some b => .ok (.bool b)
  | none => .no
theorem pd_isi {T : String} {t : Str} {pt : Pos} (hm : X.mg "isinstance" = none) (hmt : X.mg t = none) (hv : bootBuiltins t = some (.type T)) (ha : PE X e (tD X.K X.mg W f)) (hg : Gl X "isinstance" := by rfl) (hgt : Gl X t := by rfl) (hnn : t ≠ "__name__" := by decide) (hdb : (t == ("__debug__" : Str)) = false := by decide)
    (he : starEach [e, .Name t pt] X.env = (false, eval e X.env) :: starEach [.Name t pt] X.env := by rfl) (he2 : starEach [.Name t pt] X.env = (false, eval (.Name t pt) X.env) :: starEach [] X.env := by rfl) (hpl : (backTo pos (starEach [.Name t pt] X.env)).any (·.1) = false := by rfl) :
    PE X (.Call (.Name "isinstance" p) [e, .Name t pt] [] pos) (tD X.K X.mg W (d1 (gIsi T) f)) :=
  PEimp (pe_callB call_isi hg hm (by decide +kernel) (pa_cons ha (pa_cons (pe_bltn (v := .ty T) hgt hmt hv rfl hnn hdb) pa_nil he2) he) (by decide) (by decide) he hpl) fun σ H Q ⟨G, ρ, S, rel, h⟩ => by
    refine tG.mk rel (wG.imp ?_ (wG.bind (rp := Rp X.K) h))
    rintro v H1 ⟨S1, d, e1, ra, h1⟩
    unfold gIsi at h1
    split at h1
    · exact h1.elim
    · rename_i hx
      split at h1
      · rename_i b hb
        exact ⟨v, .ty T, _, _, b, rfl, .ty T, tyx_rp e1.inn ra (by simpa using hx), kit_ty hb, h1 _ S1 H1 (Ext.refl e1.inn) (.bl b)⟩
      · exact h1.elim
end

/-! ### raise -/
structure ExAt (K : PySem.W.Frag) (mg : MG) (x : Str) : Prop where
  ex : ∃ C, mg x = some (.ref C) ∧ PySem.W.excIn K C He.veBase "ValueError.__new__" = true ∧ PySem.W.keepIn K (.ref C) = true ∧ PySem.W.subIn K (.ref C) (.type "BaseException") = some true ∧ PySem.W.typeIn K (.ref C) = some (.type "type")
section
variable {X : Cx} {W : WX} {x m : Str} {p p2 pos pos' : Pos} {j : Nat}
theorem sd_raise (hc : X.calm = true) (tk : Takes X W) (E : ExAt X.K X.mg x) (hg : Gl X x := by rfl) (hdb : (x == ("__debug__" : Str)) = false := by decide) : PS X (.Raise (some (.Call (.Name x p) [.Constant (.str m) j p2] [] pos)) none pos') (tS X.K X.mg W (sRaise x)) := by
  obtain ⟨C, h1, h2, h3, h4, h5⟩ := E.ex
  exact PSimp (ps_raise hc tk (pmk_own PySem.F.excBase_ValueError h2 h1 h3 (raises_own h4 h5) hg hdb)) fun D σ H ⟨G, ρ, S, r, q⟩ => q _ σ S H h1 (Same.refl _) r
end

/-! ### a def -/
def fnD (m : Nat) (den : En → Fl) (ds : List PD) : R PD := match den (ds.map (fun d => some (.d d)) ++ List.replicate (m - ds.length) none) with
  | .rt d => .ok d
  | .nx _ => .ok .none
  | .ex c _ => .ex c
  | _ => .no
theorem getL {α β : Type} {f : α → β} {l : List α} {m : Nat} {i : Nat} {b : β} {c : β} (h : (l.map f ++ List.replicate m c)[i]? = some b) (hb : b ≠ c) : ∃ a, l[i]? = some a ∧ b = f a := by
  by_cases hi : i < l.length
  · rw [List.getElem?_append_left (by simpa using hi), List.getElem?_map] at h
    cases e : l[i]? with
    | none => rw [e] at h; cases h
    | some a => rw [e] at h; cases h; exact ⟨a, rfl, rfl⟩
  · rw [List.getElem?_append_right (by simpa using hi), List.getElem?_replicate] at h
    split at h
    · cases h; exact absurd rfl hb
    · cases h
theorem Rel.start {K : PySem.W.Frag} {S H : Hp} {vs : List V} {ds : List PD} {N : List Str} (hS : Same S H) (r : RpA K S vs ds) : Rel K ⟨S, H, 0, []⟩ S (start N vs) (ds.map (fun d => some (.d d)) ++ List.replicate (N.length - ds.length) none) H := by
  refine ⟨fun _ => [], ⟨?_, hS, Same.refl _, Same.refl _, fun _ _ h => .inl h, (fun _ h => nomatch h), fun i x h => ?_, (fun _ _ h => nomatch h), (fun _ _ _ _ h => nomatch h), (fun _ _ h => nomatch h)⟩⟩
  · unfold L2.start; simp [r.length]
  · obtain ⟨d, h1, h2⟩ := getL h (by intro z; cases z)
    cases h2
    obtain ⟨v, hv, hr⟩ := r.get h1
    refine ⟨v, ?_, hr⟩
    unfold L2.start
    have hi : i < vs.length := (List.getElem?_eq_some_iff.mp hv).1
    rw [List.getElem?_append_left (by simpa using hi), List.getElem?_map, hv]
    rfl
section
variable {P : Program} {w : World} {K : PySem.W.Frag} {mg : MG} {base : Heap}
theorem okD {x qual : Str} {params : Arguments} {body : List Stmt} {scope : Scope} {dvs : List V} {kws : List (Str × V)} {f : Addr} {fd : FuncData} {N ps : List Str} {k n : Nat} {den : En → Fl} (F : FunD K x qual params body scope dvs kws f fd) (S : FnScope N ps scope) (hn : ps.length = n)
    (hb : ∀ (cdv : Value) (A : Around) (outer : List Env) (s : Shared) (H : Hp) (E : XK), Room k (A.deeper (PyProof.Rows.envOfC qual scope s.heap.objs.size f cdv)) → PSs (cxOf (L2.CX P w) P w K mg base N qual scope f cdv A outer s H E) body (tS K mg (fun cls d _ H => E cls d H) den)) :
    FnOk P w K mg base (L2.CX P w) (k + 1) f fd ps (spD K mg n (fnD N.length den)) := by
  refine F.ok S (fun vs H Q E h => ?_) (fun cdv A outer s H vs Q E hr h => ⟨_, hb cdv A outer s H E hr, ?_⟩)
  · obtain ⟨S', ds, _, hr, hl, _⟩ := h
    rw [hr.length, hl, hn]
  · obtain ⟨S', ds, hS, hr2, hl, h⟩ := h
    refine ⟨⟨S', H, 0, []⟩, _, S', Rel.start hS hr2, ?_⟩
    unfold fnD at h
    cases q : den (ds.map (fun d => some (.d d)) ++ List.replicate (N.length - ds.length) none) with
    | nx ρ => rw [q] at h; exact fun σ S2 H2 s2 r => h .non S2 H2 r.fin .non
    | rt d => rw [q] at h; exact fun v S2 H2 e r => h v S2 H2 e r
    | rm d ρ => rw [q] at h; exact h.elim
    | ex c ρ => rw [q] at h; exact fun cls σ S2 H2 m s2 r => h cls S2 H2 m r.fin
    | bk ρ => rw [q] at h; exact h.elim
    | ct ρ => rw [q] at h; exact h.elim
    | no => rw [q] at h; exact h.elim
theorem FnAt.imp {x : Str} {k n : Nat} {Bs : List (List PD)} {g g' : List PD → R PD} (F : FnAt P w K mg base x k n Bs g) (h : ∀ ds, g' ds = .no ∨ g' ds = g ds) : FnAt P w K mg base x k n Bs g' := by
  obtain ⟨f, fd, ps, h1, h2, h3, h4⟩ := F.ex
  refine ⟨f, fd, ps, h1.imp fun vs H Q E q => ?_, h2, h3, h4⟩
  obtain ⟨S, ds, a, b, c, q⟩ := q
  refine ⟨S, ds, a, b, c, ?_⟩
  rcases h ds with e | e
  · rw [e] at q; exact q.elim
  · rw [e] at q; exact q
end
end DL

set_option Elab.async false
set_option linter.all false
set_option maxRecDepth 100000
set_option maxHeartbeats 4000000
set_option autoImplicit false
/-! the data layer 6: in, is None, chains; lists of one's own; keyword calls; targets of an assignment -/
namespace DL
open PySem L2

/-! ### in, not in -/
def flatD : PD → Bool
  | .none => true
  | .bool _ => true
  | .int _ => true
  | .str _ => true
  | _ => false
def inL (d : PD) (ds : List PD) : R Bool := if flatD d = true ∧ ds.all flatD = true then .ok (ds.any fun y => PyData.eqv y d) else
  if SeqAt.shaped d = true ∧ SeqAt.shaped (.list ds) = true then .ok (ds.any fun y => PyData.eqv y d) else .no
def gIn (neg : Bool) : PD → PD → R PD
  | d, .list ds => (inL d ds).bind fun b => .ok (.bool (b != neg))
  | d, .tuple ds => (inL d ds).bind fun b => .ok (.bool (b != neg))
  | .str x, .str z => .ok (.bool ((!(Builtin.Str.occurrences z x 0 z.length 1).isEmpty) != neg))
  | _, _ => .no
theorem noEx_in {neg : Bool} : NoEx (gIn neg) := fun a b c h => by
  have no : ∀ d ds c, inL d ds ≠ .ex c := fun d ds c h => by
    unfold inL at h
    split at h
    · cases h
    · split at h <;> cases h
  unfold gIn at h
  split at h
  · rename_i ds
    cases q : inL a ds with
    | ok b => rw [q] at h; cases h
    | ex c => exact no _ _ _ q
    | no => rw [q] at h; cases h
  · rename_i ds
    cases q : inL a ds with
    | ok b => rw [q] at h; cases h
    | ex c => exact no _ _ _ q
    | no => rw [q] at h; cases h
  · cases h
  · cases h
theorem flat_rp {K : PySem.W.Frag} {S : Hp} {v : V} {d : PD} (r : Rp K S v d) (h : flatD d = true) : flatV v = true := by
  cases r <;> first | rfl | cases h
theorem eqv_rp {K : PySem.W.Frag} {S : Hp} {v u : V} {d e : PD} (r : Rp K S v d) (r2 : Rp K S u e) (h : flatD d = true) (h2 : flatD e = true) : eqV v u = PyData.eqv d e := by
  cases r <;> first | (cases h; done) | (cases r2 <;> first | (cases h2; done) | simp only [eqV, PyData.eqv])
theorem flatA_rp {K : PySem.W.Frag} {S : Hp} : ∀ {ds : List PD} {vs : List V}, RpA K S vs ds → ds.all flatD = true → vs.all flatV = true
  | [], _, h, _ => by cases h; rfl
  | d :: ds, _, h, f => by
    cases h with
    | cons h1 h2 =>
      rw [List.all_cons, Bool.and_eq_true] at f ⊢
      exact ⟨flat_rp h1 f.1, flatA_rp h2 f.2⟩
theorem inV_rp {K : PySem.W.Frag} {S : Hp} {v : V} {d : PD} (r : Rp K S v d) (hd : flatD d = true) : ∀ {ds : List PD} {vs : List V}, RpA K S vs ds → ds.all flatD = true → inV v vs = ds.any fun y => PyData.eqv y d
  | [], _, h, _ => by cases h; rfl
  | e :: ds, _, h, f => by
    cases h with
    | cons h1 h2 =>
      rw [List.all_cons, Bool.and_eq_true] at f
      have := inV_rp r hd h2 f.2
      unfold inV at this ⊢
      rw [List.any_cons, List.any_cons, eqv_rp h1 r f.1 hd, this]
section
variable {X : Cx}
def rInT (K : PySem.W.Frag) (neg : Bool) : R2 := fun x y H Q => ∃ d ds, Dp K H x d ∧ Dp K H y (.tuple ds) ∧ SeqAt.shaped d = true ∧ SeqAt.shaped (.list ds) = true ∧ Q (.bl ((ds.any fun z => PyData.eqv z d) != neg)) H
theorem op_inT (hu : X.A.units + 65 < cLine) : OpR X (compareOp .In) (rInT X.K false) := by
  intro pins s σ H x y v u Q I rx ry h
  obtain ⟨d, ds, hd, he, sd, se, q⟩ := h
  obtain ⟨as, r1⟩ := Dp.reads I d x v hd rx
  obtain ⟨bs, r2⟩ := Dp.reads I (.tuple ds) y u he ry
  refine SeqAt.in_tuple_reads r2 r1 (SeqAt.canLay_of_shaped se) (SeqAt.canLay_of_shaped sd) (PyProof.Rows.room_in_shaped sd hu) ⟨.bl _, H, I, rfl, ?_⟩
  simpa using q
theorem op_notInT (hu : X.A.units + 65 < cLine) : OpR X (compareOp .NotIn) (rInT X.K true) := by
  intro pins s σ H x y v u Q I rx ry h
  obtain ⟨d, ds, hd, he, sd, se, q⟩ := h
  obtain ⟨as, r1⟩ := Dp.reads I d x v hd rx
  obtain ⟨bs, r2⟩ := Dp.reads I (.tuple ds) y u he ry
  refine SeqAt.notIn_tuple_reads r2 r1 (SeqAt.canLay_of_shaped se) (SeqAt.canLay_of_shaped sd) (PyProof.Rows.room_in_shaped sd hu) ⟨.bl _, H, I, rfl, ?_⟩
  simpa using q
theorem inL_cases {d : PD} {ds : List PD} {b : Bool} (h : inL d ds = .ok b) : b = (ds.any fun y => PyData.eqv y d) ∧ ((flatD d = true ∧ ds.all flatD = true) ∨ (SeqAt.shaped d = true ∧ SeqAt.shaped (.list ds) = true)) := by
  unfold inL at h
  split at h
  · rename_i hf
    cases h
    exact ⟨rfl, .inl hf⟩
  · split at h
    · rename_i hf
      cases h
      exact ⟨rfl, .inr hf⟩
    · cases h
theorem od_in (hu : X.A.units + 65 < cLine) : OpD X (compareOp .In) (gIn false) := by
  refine OpD_of fun pins s σ H x y v u Q S a b d I rx ry hS ra rb q h => ?_
  unfold gIn at q
  split at q
  · rename_i ds
    cases e : inL a ds with
    | ok k =>
      rw [e] at q
      cases q
      obtain ⟨rfl, hc⟩ := inL_cases e
      cases rb with
      | lst h1 a1 =>
        rcases hc with ⟨f1, f2⟩ | ⟨f1, f2⟩
        · exact op_in_seq pins s σ H _ _ v u Q I rx ry ⟨_, _, rfl, .inl (Same.seq hS h1), flat_rp ra f1, flatA_rp a1 f2, by rw [if_neg Bool.false_ne_true, inV_rp ra f1 a1 f2]; exact h _ S H (Ext.refl hS) (by simpa using Rp.bl _)⟩
        · exact op_inD hu pins s σ H _ _ v u Q I rx ry ⟨_, _, Rp.dp _ _ (SeqAt.canLay_of_shaped f1) (Rp.mono hS _ _ ra), Rp.dp _ _ (SeqAt.canLay_of_shaped f2) (Rp.mono hS _ _ (.lst h1 a1)), f1, f2, h _ S H (Ext.refl hS) (by simpa using Rp.bl _)⟩
    | ex c => rw [e] at q; cases q
    | no => rw [e] at q; cases q
  · rename_i ds
    cases e : inL a ds with
    | ok k =>
      rw [e] at q
      cases q
      obtain ⟨rfl, hc⟩ := inL_cases e
      cases rb with
      | tup h1 a1 =>
        rcases hc with ⟨f1, f2⟩ | ⟨f1, f2⟩
        · exact op_in_seq pins s σ H _ _ v u Q I rx ry ⟨_, _, rfl, .inr (Same.seqT hS h1), flat_rp ra f1, flatA_rp a1 f2, by rw [if_neg Bool.false_ne_true, inV_rp ra f1 a1 f2]; exact h _ S H (Ext.refl hS) (by simpa using Rp.bl _)⟩
        · exact op_inT hu pins s σ H _ _ v u Q I rx ry ⟨_, _, Rp.dp _ _ (SeqAt.canLay_of_shaped f1) (Rp.mono hS _ _ ra), Rp.dp _ _ (SeqAt.canLay_of_shaped f2) (Rp.mono hS _ _ (.tup h1 a1)), f1, f2, h _ S H (Ext.refl hS) (.bl _)⟩
    | ex c => rw [e] at q; cases q
    | no => rw [e] at q; cases q
  · cases ra
    cases rb
    cases q
    exact op_in_str pins s σ H _ _ v u Q I rx ry ⟨_, _, rfl, rfl, h _ S H (Ext.refl hS) (by simpa using Rp.bl _)⟩
  · cases q
theorem od_notin (hu : X.A.units + 65 < cLine) : OpD X (compareOp .NotIn) (gIn true) := by
  refine OpD_of fun pins s σ H x y v u Q S a b d I rx ry hS ra rb q h => ?_
  unfold gIn at q
  split at q
  · rename_i ds
    cases e : inL a ds with
    | ok k =>
      rw [e] at q
      cases q
      obtain ⟨rfl, hc⟩ := inL_cases e
      cases rb with
      | lst h1 a1 =>
        rcases hc with ⟨f1, f2⟩ | ⟨f1, f2⟩
        · exact op_notIn_seq pins s σ H _ _ v u Q I rx ry ⟨_, _, rfl, .inl (Same.seq hS h1), flat_rp ra f1, flatA_rp a1 f2, by rw [if_pos rfl, inV_rp ra f1 a1 f2]; exact h _ S H (Ext.refl hS) (by simpa using Rp.bl _)⟩
        · exact op_notInD hu pins s σ H _ _ v u Q I rx ry ⟨_, _, Rp.dp _ _ (SeqAt.canLay_of_shaped f1) (Rp.mono hS _ _ ra), Rp.dp _ _ (SeqAt.canLay_of_shaped f2) (Rp.mono hS _ _ (.lst h1 a1)), f1, f2, h _ S H (Ext.refl hS) (by simpa using Rp.bl _)⟩
    | ex c => rw [e] at q; cases q
    | no => rw [e] at q; cases q
  · rename_i ds
    cases e : inL a ds with
    | ok k =>
      rw [e] at q
      cases q
      obtain ⟨rfl, hc⟩ := inL_cases e
      cases rb with
      | tup h1 a1 =>
        rcases hc with ⟨f1, f2⟩ | ⟨f1, f2⟩
        · exact op_notIn_seq pins s σ H _ _ v u Q I rx ry ⟨_, _, rfl, .inr (Same.seqT hS h1), flat_rp ra f1, flatA_rp a1 f2, by rw [if_pos rfl, inV_rp ra f1 a1 f2]; exact h _ S H (Ext.refl hS) (by simpa using Rp.bl _)⟩
        · exact op_notInT hu pins s σ H _ _ v u Q I rx ry ⟨_, _, Rp.dp _ _ (SeqAt.canLay_of_shaped f1) (Rp.mono hS _ _ ra), Rp.dp _ _ (SeqAt.canLay_of_shaped f2) (Rp.mono hS _ _ (.tup h1 a1)), f1, f2, h _ S H (Ext.refl hS) (.bl _)⟩
    | ex c => rw [e] at q; cases q
    | no => rw [e] at q; cases q
  · cases ra
    cases rb
    cases q
    exact op_notIn_str pins s σ H _ _ v u Q I rx ry ⟨_, _, rfl, rfl, h _ S H (Ext.refl hS) (by simpa using Rp.bl _)⟩
  · cases q
end

/-! ### is None; chains -/
def isNone : PD → Bool
  | .none => true
  | _ => false
def gIsN (neg : Bool) (d : PD) : R PD := .ok (.bool (isNone d != neg))
theorem isN_rp {K : PySem.W.Frag} {S : Hp} {v : V} {d : PD} (r : Rp K S v d) : decide (v = .non) = isNone d := by
  cases r with
  | non => simp [isNone]
  | bl b => simp [isNone]
  | int i => simp [isNone]
  | str x => simp [isNone]
  | lst _ _ => simp [isNone]
  | tup _ _ => simp [isNone]
  | exc _ => simp [isNone]
  | dct _ _ => simp [isNone]
section
variable {X : Cx} {W : WX} {f f1 f2 f3 : En → R PD} {a b c e : Expr} {pos pos' p : Pos} {j : Nat}
theorem tIsN_of : ∀ σ H Q, tD X.K X.mg W (d1 (gIsN false) f) σ H Q → tIsN (tD X.K X.mg W f) σ H Q := fun σ H Q ⟨G, ρ, S, rel, h⟩ => by
  refine tG.mk rel (wG.imp ?_ (wG.bind (rp := Rp X.K) h))
  rintro v H1 ⟨S1, d, e1, ra, h1⟩
  rw [isN_rp ra]
  exact h1 _ S1 H1 (Ext.refl e1.inn) (by simpa using Rp.bl _)
theorem tNotN_of : ∀ σ H Q, tD X.K X.mg W (d1 (gIsN true) f) σ H Q → tNotN (tD X.K X.mg W f) σ H Q := fun σ H Q ⟨G, ρ, S, rel, h⟩ => by
  refine tG.mk rel (wG.imp ?_ (wG.bind (rp := Rp X.K) h))
  rintro v H1 ⟨S1, d, e1, ra, h1⟩
  rw [isN_rp ra]
  exact h1 _ S1 H1 (Ext.refl e1.inn) (by simpa using Rp.bl _)
theorem pd_isN (ha : PE X a (tD X.K X.mg W f)) : PE X (.Compare a [.Is] [.Constant .none j pos'] pos) (tD X.K X.mg W (d1 (gIsN false) f)) := PEimp (pe_cmp (pc_isN ha)) tIsN_of
theorem pd_notN (ha : PE X a (tD X.K X.mg W f)) : PE X (.Compare a [.IsNot] [.Constant .none j pos'] pos) (tD X.K X.mg W (d1 (gIsN true) f)) := PEimp (pe_cmp (pc_notN ha)) tNotN_of
theorem pt_isN (ha : PE X a (tD X.K X.mg W f)) : PT X (.Compare a [.Is] [.Constant .none j pos'] pos) (tDT X.K X.mg W (dT (d1 (gIsN false) f))) := PTimp (pt_cmp (pc_isN ha)) (dT_of tIsN_of)
theorem pt_notN (ha : PE X a (tD X.K X.mg W f)) : PT X (.Compare a [.IsNot] [.Constant .none j pos'] pos) (tDT X.K X.mg W (dT (d1 (gIsN true) f))) := PTimp (pt_cmp (pc_notN ha)) (dT_of tNotN_of)
/-- a op b op c -/
def dCh (g g' : PD → PD → R PD) (f1 f2 f3 : En → R PD) : En → R PD := fun ρ => (f1 ρ).bind fun a => (f2 ρ).bind fun b => (g a b).bind fun z => (toB z).bind fun k => if k = true then (f3 ρ).bind fun c => g' b c else .ok (.bool false)
theorem tChain_of {op op' : CmpOp} {g g' : PD → PD → R PD} (hn : NoEx g) (hn' : NoEx g') : ∀ σ H Q, tD X.K X.mg W (dCh g g' f1 f2 f3) σ H Q → tChain (fun x y H Q => ∃ S a b, Same S H ∧ Rp X.K S x a ∧ Rp X.K S y b ∧ match g a b with
    | .ok d => ∀ v S' H', Ext S H S' H' → Rp X.K S' v d → Q v H'
    | _ => False) (fun x y H Q => ∃ S a b, Same S H ∧ Rp X.K S x a ∧ Rp X.K S y b ∧ match g' a b with
    | .ok d => ∀ v S' H', Ext S H S' H' → Rp X.K S' v d → Q v H'
    | _ => False) (tD X.K X.mg W f1) (tD X.K X.mg W f2) (tD X.K X.mg W f3) σ H Q := fun σ H Q ⟨G, ρ, S, rel, h⟩ => by
  refine tG.mk rel (wG.imp ?_ (wG.bind (rp := Rp X.K) h))
  rintro x H1 ⟨S1, a, e1, ra, h1⟩
  refine tG.mk (rel.ext e1) (wG.imp ?_ (wG.bind (rp := Rp X.K) h1))
  rintro y H2 ⟨S2, b, e2, rb, h2⟩
  refine ⟨S2, a, b, e2.inn, Rp.mono e2.sub _ _ ra, rb, ?_⟩
  cases q : g a b with
  | ok d =>
    rw [q] at h2
    intro z S3 H3 e3 rz
    have h3 := wG.mono e3 h2
    cases d with
    | bool k =>
      cases rz
      refine ⟨k, rfl, ?_⟩
      cases k with
      | true =>
        rw [if_pos rfl]
        have h4 : wG (Rp X.K) X.mg W σ S3 H3 Q ((f3 ρ).bind fun c => g' b c) := h3
        refine tG.mk (((rel.ext e1).ext e2).ext e3) (wG.imp ?_ (wG.bind (rp := Rp X.K) h4))
        rintro w H4 ⟨S4, c, e4, rc, h5⟩
        refine ⟨S4, b, c, e4.inn, Rp.mono (e3.sub.trans e4.sub) _ _ rb, rc, ?_⟩
        cases q2 : g' b c with
        | ok d => rw [q2] at h5; exact h5
        | ex c' => exact absurd q2 (hn' b c c')
        | no => rw [q2] at h5; exact h5
      | false =>
        rw [if_neg Bool.false_ne_true]
        exact h3 (.bl false) S3 H3 (Ext.refl e3.inn) (.bl false)
    | _ => exact h3.elim
  | ex c => exact absurd q (hn a b c)
  | no => rw [q] at h2; exact h2.elim
theorem pd_ch {op op' : CmpOp} {g g' : PD → PD → R PD} (ho : OpD X (compareOp op) g) (hn : NoEx g) (ho' : OpD X (compareOp op') g') (hn' : NoEx g') (ha : PE X a (tD X.K X.mg W f1)) (hb : PE X b (tD X.K X.mg W f2)) (hc : PE X c (tD X.K X.mg W f3))
    (hm : lastMarks [op, op'] [b, c] = false := by with_unfolding_all rfl) : PE X (.Compare a [op, op'] [b, c] pos) (tD X.K X.mg W (dCh g g' f1 f2 f3)) := PEimp (pe_chain ho ho' ha hb hc hm) (tChain_of (op := op) (op' := op') hn hn')
theorem pt_ch {op op' : CmpOp} {g g' : PD → PD → R PD} (ho : OpD X (compareOp op) g) (hn : NoEx g) (ho' : OpD X (compareOp op') g') (hn' : NoEx g') (ha : PE X a (tD X.K X.mg W f1)) (hb : PE X b (tD X.K X.mg W f2)) (hc : PE X c (tD X.K X.mg W f3))
    (hm : lastMarks [op, op'] [b, c] = false := by with_unfolding_all rfl) : PT X (.Compare a [op, op'] [b, c] pos) (tDT X.K X.mg W (dT (dCh g g' f1 f2 f3))) := PTimp (pt_chain ho ho' ha hb hc hm) (dT_of (tChain_of (op := op) (op' := op') hn hn'))
end

/-! ### tuple targets -/
def sAsg (tg : Tg) (f : En → R PD) : En → Fl := sE f fun d ρ => match tg.put d ρ with
  | some ρ' => .nx ρ'
  | none => .no
section
variable {X : Cx} {W : WX} {f : En → R PD} {tg e : Expr} {T : Tg} {pos : Pos}
theorem sd_asg (hg : PG X tg (gOf X.K T)) (he : PE X e (tD X.K X.mg W f)) (hs : swapsWithSole [tg] e pos.line X.env = pure false := by rfl) (hw : swappedStores [tg] e X.env = pure none := by rfl) (h1 : (assignEach [tg] X.env).map (·.2) = [assign tg X.env] := by rfl) : PS X (.Assign [tg] e pos) (tS X.K X.mg W (sAsg T f)) :=
  PSimp (ps_asg he hg hs hw h1) fun D σ H ⟨G, ρ, S, r, q⟩ => tG.mk r (wG.imp (fun v H1 ⟨S1, a, e1, ra, r1, q1⟩ => by
    cases z : T.put a ρ with
    | none => rw [z] at q1; exact q1.elim
    | some ρ' => rw [z] at q1; exact gOf_ok r1 ra z fun σ' r' _ => q1 σ' S1 H1 (Same.refl _) r') (wS.ofE (rp := Rp X.K) r q))
end

/-! ### lists of one's own -/
/-- an expression that makes a new list, held by no one -/
def tL (K : PySem.W.Frag) (mg : MG) (W : WX) (f : En → R (List PD)) : TE := fun σ H Q => ∃ G ρ S, Rel K G S σ ρ H ∧ match f ρ with
  | .ok ds => ∀ D S' H' xs, Ext S H S' H' → H D = none → S' D = none → H' D = some (.lst xs) → RpA K S' xs ds → Q (.ref D) H'
  | .ex c => ∀ cls S' H', mg c = some cls → Ext S H S' H' → W cls none σ H'
  | .no => False
def sSetL (i : Nat) (f : En → R (List PD)) : En → Fl := sE f fun ds ρ => .nx (ρ.set i (some (.l ds)))
section
variable {X : Cx} {W : WX} {f f1 f2 : En → R PD} {fl : En → R (List PD)} {e : Expr} {es : List Expr} {pos pos' : Pos} {x : Str} {g : En → Fl} {sts : List Stmt}
theorem sd_setL (i : Nat) (hN : X.N.Nodup) (hi : X.N[i]? = some x) (hx : Loc X.env.scope x) (he : PE X e (tL X.K X.mg W fl)) (hs : swapsWith e (some (.Name x pos')) pos.line X.env = pure false := by rfl) (hf : X.fn x = true ∨ X.env.scope.names.lookup x = some .local := by first | exact .inl rfl | exact .inr rfl | assumption)
    (hw : swappedStores [.Name x pos'] e X.env = pure none := by rfl) :
    PS X (.Assign [.Name x pos'] e pos) (tS X.K X.mg W (sSetL i fl)) := PSimp (ps_asg he (pg_name hN hi hx hf) hs hw) fun D σ H ⟨G, ρ, S, r, q⟩ => by
  refine ⟨G, ρ, S, r, ?_⟩
  unfold sSetL sE at q
  cases z : fl ρ with
  | ok ds => rw [z] at q; exact fun D' S' H' xs e hD hS hH hr => q _ S' H' e.sub (r.newO (x := .l ds) e hD hS (ne_some hH) ⟨D', rfl, rfl, xs, hH, hr⟩ i)
  | ex c => rw [z] at q; exact fun cls S' H' m e => q cls σ S' H' m e.sub (r.ext e)
  | no => rw [z] at q; exact q
/-- a display -/
def lDisp (fl : En → R (List PD)) : En → R (List PD) := fun ρ => (fl ρ).bind fun ds => if ds.length ≤ 1000 then .ok ds else .no
theorem pl_lst (h : PA X es (tDA X.K X.mg W fl)) : PE X (.List es pos) (tL X.K X.mg W (lDisp fl)) := PEimp (pe_lst h) fun σ H Q ⟨G, ρ, S, rel, q⟩ => by
  unfold lDisp at q
  refine tG.mk rel ?_
  cases z : fl ρ with
  | ok ds =>
    rw [z] at q
    intro xs S1 H1 e1 ra
    simp only [R.bind_ok] at q
    by_cases hl : ds.length ≤ 1000
    · rw [if_pos hl] at q
      refine ⟨by rw [ra.length]; exact le_line hl, fun p hp => ?_⟩
      have e2 := e1.trans (Ext.fresh (o := .lst xs) e1.inn hp)
      exact q p S1 _ xs e2 (e1.all.free hp) (e1.inn.free hp) upd_same ra
    · rw [if_neg hl] at q; exact q.elim
  | ex c => rw [z] at q; exact q
  | no => rw [z] at q; exact q
theorem pl_lc {elt tg iter : Expr} {ifs : List Expr} {scope : Scope} {it : En → R (List PD)} {T : Tg} {tt : En → R Bool} {te : En → R PD} (own : List (Str × Nat)) (hc : X.calm = true) (hN : X.N.Nodup) (hi : PI X tg iter (tI X.K X.mg W it)) (ok : BlkOk X.N X.env.scope scope own) (hT : ∀ i ∈ T.slots, i ∈ own.map (·.2))
    (hg : ∀ (s : Shared) (H : Hp) (C : Addr) (cl : List (Str × Addr)) (fp : List Addr), PG (X.blk s H scope (compEnvC scope cl C X.env) fp) tg (gOf X.K T)) (ht : ∀ (s : Shared) (H : Hp) (C : Addr) (cl : List (Str × Addr)) (fp : List Addr), PTs (X.blk s H scope (compEnvC scope cl C X.env) fp) ifs (tDT X.K X.mg W0 tt))
    (he : ∀ (s : Shared) (H : Hp) (C : Addr) (cl : List (Str × Addr)) (fp : List Addr), PE (X.blk s H scope (compEnvC scope cl C X.env) fp) elt (tD X.K X.mg W0 te)) (hs : ∀ x, foldedSetIterable iter X.env x = pure x := by intro _; rfl) :
    PE X (.ListComp elt [⟨tg, iter, ifs, 0⟩] scope pos) (tL X.K X.mg W (dLcL it T (own.map (·.2)) tt te)) := PEimp (pe_lc hc hN hi ok hg ht he hs) fun σ H Q ⟨G, ρ, S, rel, h⟩ => lc_of hT rel h
/-- list(e) -/
def lOf : PD → R (List PD)
  | .list ds => .ok ds
  | .tuple ds => .ok ds
  | _ => .no
def lList (f : En → R PD) : En → R (List PD) := fun ρ => (f ρ).bind lOf
theorem pl_of {p : Pos} (hm : X.mg "list" = none) (ha : PE X e (tD X.K X.mg W f)) (hg : Gl X "list" := by rfl) (hs : starEach [e] X.env = (false, eval e X.env) :: starEach [] X.env := by rfl) (hpl : (backTo pos (starEach [] X.env)).any (·.1) = false := by rfl) :
    PE X (.Call (.Name "list" p) [e] [] pos) (tL X.K X.mg W (lList f)) := PEimp (pe_callTy call_list_of hg hm (by decide +kernel) (pa_cons ha pa_nil hs) (by decide) (by decide) hs hpl) fun σ H Q ⟨G, ρ, S, rel, q⟩ => by
  unfold lList at q
  refine tG.mk rel ?_
  cases z : f ρ with
  | ok d =>
    rw [z] at q
    intro v S1 H1 e1 ra
    cases d with
    | list ds =>
      cases ra with
      | lst h1 a1 => exact ⟨_, _, rfl, .inl (Same.seq e1.inn h1), fun p hp => q p S1 _ _ (e1.trans (Ext.fresh e1.inn hp)) (e1.all.free hp) (e1.inn.free hp) upd_same a1⟩
    | tuple ds =>
      cases ra with
      | tup h1 a1 => exact ⟨_, _, rfl, .inr (Same.seqT e1.inn h1), fun p hp => q p S1 _ _ (e1.trans (Ext.fresh e1.inn hp)) (e1.all.free hp) (e1.inn.free hp) upd_same a1⟩
    | _ => exact q.elim
  | ex c => rw [z] at q; exact q
  | no => rw [z] at q; exact q
/-- it is known from here on -/
def sFrz (i : Nat) (g : En → Fl) : En → Fl := fun ρ => match ρ[i]? with
  | some (some (.l xs)) => g (ρ.set i (some (.d (.list xs))))
  | _ => g ρ
theorem sd_frz (i : Nat) (h : PSs X sts (tS X.K X.mg W g)) : PSs X sts (tS X.K X.mg W (sFrz i g)) := PSsimp h fun D σ H ⟨G, ρ, S, r, q⟩ => by
  unfold sFrz at q
  split at q
  · rename_i xs e
    obtain ⟨a, vs, h1, h2, h4, h5, h6⟩ := r.known e
    refine ⟨G, _, _, h6, q.mono fun b o e => ?_⟩
    rw [upd_ne (ne_of_none e h2)]; exact e
  · exact ⟨G, ρ, S, r, q⟩
/-- an expression that looks at a list of one's own, its value no list or tuple -/
def atomD : PD → R PD
  | .none => .ok .none
  | .bool b => .ok (.bool b)
  | .int i => .ok (.int i)
  | .str x => .ok (.str x)
  | _ => .no
def dLend (i : Nat) (f : En → R PD) : En → R PD := fun ρ => match ρ[i]? with
  | some (some (.l xs)) => (f (ρ.set i (some (.d (.list xs))))).bind atomD
  | _ => f ρ
def dLendB (i : Nat) (f : En → R Bool) : En → R Bool := fun ρ => match ρ[i]? with
  | some (some (.l xs)) => f (ρ.set i (some (.d (.list xs))))
  | _ => f ρ
theorem pd_lend (i : Nat) (h : PE X e (tD X.K X.mg W f)) : PE X e (tD X.K X.mg W (dLend i f)) := PEimp h fun σ H Q ⟨G, ρ, S, r, q⟩ => by
  unfold dLend at q
  split at q
  · rename_i xs e
    obtain ⟨a, vs, h1, h2, h4, h5, h6⟩ := r.known e
    refine tG.mk h6 ?_
    cases z : f (ρ.set i (some (.d (.list xs)))) with
    | ok d =>
      rw [z] at q
      intro v S' H' e' ra
      cases d with
      | none => cases ra; exact q _ S H' (Ext.grow r.inn e'.all) .non
      | bool b => cases ra; exact q _ S H' (Ext.grow r.inn e'.all) (.bl b)
      | int b => cases ra; exact q _ S H' (Ext.grow r.inn e'.all) (.int b)
      | str b => cases ra; exact q _ S H' (Ext.grow r.inn e'.all) (.str b)
      | _ => exact q.elim
    | ex c => rw [z] at q; exact fun cls S' H' m e' => q cls S H' m (Ext.grow r.inn e'.all)
    | no => rw [z] at q; exact q
  · exact ⟨G, ρ, S, r, q⟩
theorem pt_lend {t : En → R Bool} (i : Nat) (h : PT X e (tDT X.K X.mg W t)) : PT X e (tDT X.K X.mg W (dLendB i t)) := PTimp h fun σ H Q ⟨G, ρ, S, r, q⟩ => by
  unfold dLendB at q
  split at q
  · rename_i xs e
    obtain ⟨a, vs, h1, h2, h4, h5, h6⟩ := r.known e
    refine tG.mk h6 ?_
    cases z : t (ρ.set i (some (.d (.list xs)))) with
    | ok d => rw [z] at q; exact fun v S' H' e' ra => q v S H' (Ext.grow r.inn e'.all) ra
    | ex c => rw [z] at q; exact fun cls S' H' m e' => q cls S H' m (Ext.grow r.inn e'.all)
    | no => rw [z] at q; exact q
  · exact ⟨G, ρ, S, r, q⟩
/-- its item -/
def dIxO (i : Nat) (f : En → R PD) : En → R PD := fun ρ => match ρ[i]? with
  | some (some (.l xs)) => (f ρ).bind fun d => match d with
    | .int k => (match atI xs k with
      | some d => .ok d
      | none => .no)
    | _ => .no
  | some (some (.d d)) => (f ρ).bind fun k => gIx d k
  | _ => .no
theorem pd_ixO (i : Nat) {p : Pos} (hb : PE X e (tD X.K X.mg W f)) (hN : X.N[i]? = some x := by rfl) (hv : Vis X.env.scope x := by first | exact Or.inl rfl | exact Or.inr (Or.inl rfl) | exact Or.inr (Or.inr rfl)) (hd : (x == ("__debug__" : Str)) = false := by decide)
    (hcd : (x == ("__classdict__" : Str)) = false := by decide) (hs : PlainIx e := by exact fun _ _ => rfl) : PE X (.Subscript (.Name x p) e pos) (tD X.K X.mg W (dIxO i f)) := PEimp (pe_ix (ix_seq (X := X)) (pe_var hN hv hd hcd) hb hs) fun σ H Q ⟨G, ρ, S, r, q⟩ => by
  unfold dIxO at q
  split at q
  · rename_i xs e
    obtain ⟨a, vs, h1, h2, h4, h5, h6⟩ := r.known e
    refine ⟨_, h1, tG.mk r (wG.imp ?_ (wG.bind (rp := Rp X.K) q))⟩
    rintro v H1 ⟨S1, d, e1, ra, q1⟩
    cases d with
    | int k =>
      cases ra
      dsimp only at q1
      split at q1
      · rename_i d e
        obtain ⟨v, hv, hr⟩ := atI_rp h5 e
        exact .inl ⟨_, _, _, v, rfl, rfl, SqL.of (e1.all _ _ h4), hv, q1 v S1 H1 (Ext.refl e1.inn) (Rp.mono e1.sub _ _ hr)⟩
      · exact q1.elim
    | _ => exact q1.elim
  · rename_i d e
    have hq : tD X.K X.mg W (d2 gIx (dV i) f) σ H Q := ⟨G, ρ, S, r, by
      unfold d2 dV
      rw [e]
      exact q⟩
    obtain ⟨v, h1, h2⟩ := r.slotD i _ e
    refine ⟨v, h1, tG.mk r (wG.imp ?_ (wG.bind (rp := Rp X.K) q))⟩
    rintro w H1 ⟨S1, k, e1, rk, q1⟩
    have h3 := Rp.mono e1.sub _ _ h2
    cases z : gIx d k with
    | ok y =>
      rw [z] at q1
      unfold gIx at z
      split at z
      · cases rk
        cases h3 with
        | lst s1 a1 =>
          split at z
          · rename_i d e
            cases z
            obtain ⟨v, hv, hr⟩ := atI_rp a1 e
            exact .inl ⟨_, _, _, v, rfl, rfl, Same.seq e1.inn s1, hv, q1 v S1 H1 (Ext.refl e1.inn) hr⟩
          · cases z
      · cases rk
        cases h3 with
        | tup s1 a1 =>
          split at z
          · rename_i d e
            cases z
            obtain ⟨v, hv, hr⟩ := atI_rp a1 e
            exact .inr (.inl ⟨_, _, _, v, rfl, rfl, Same.seqT e1.inn s1, hv, q1 v S1 H1 (Ext.refl e1.inn) hr⟩)
          · cases z
      · cases rk
        cases h3
        split at z
        · rename_i hl
          split at z
          · rename_i c e
            cases z
            exact .inr (.inr ⟨_, _, c, rfl, rfl, hl, e, q1 _ S1 H1 (Ext.refl e1.inn) (.str _)⟩)
          · cases z
        · cases z
      · cases z
    | ex c => exact absurd z (noEx_ix _ _ _)
    | no => rw [z] at q1; exact q1.elim
  · exact q.elim
/-- x.append(e) -/
def sApp (i : Nat) (f : En → R PD) : En → Fl := fun ρ => match ρ[i]? with
  | some (some (.l xs)) => sE f (fun d ρ => if xs.length < 16777216 then .nx (ρ.set i (some (.l (xs ++ [d])))) else .no) ρ
  | _ => .no
theorem sd_app (i : Nat) {p apos cpos : Pos} (hb : PE X e (tD X.K X.mg W f)) (hN : X.N[i]? = some x := by rfl) (hv : Vis X.env.scope x := by first | exact Or.inl rfl | exact Or.inr (Or.inl rfl) | exact Or.inr (Or.inr rfl)) (hd : (x == ("__debug__" : Str)) = false := by decide)
    (hcd : (x == ("__classdict__" : Str)) = false := by decide) (hse : starEach [e] X.env = (false, eval e X.env) :: starEach [] X.env := by rfl)
    (hbase : attributeBase (.Name x p) "append" X.env (eval (.Name x p) X.env) = eval (.Name x p) X.env := by rfl)
    (hfew : ((backTo cpos (starEach [e] X.env)).all (fun x => !x.1) && (backToKw cpos (keywordEach [] X.env)).all (fun x => x.1.isSome)
      && decide (([e] : List Expr).length + ([] : List Keyword).length + (if ([] : List Keyword).isEmpty then 0 else 1) < 30)) = true := by rfl)
    (hline : (apos.endLine == cpos.line) = true := by rfl) (hplain : (backTo cpos (starEach [] X.env)).any (·.1) = false := by rfl) (hsw : swapsWith (.Call (.Attribute (.Name x p) "append" apos) [e] [] cpos) none pos.line X.env = pure false := by rfl) :
    PS X (.Expr (.Call (.Attribute (.Name x p) "append" apos) [e] [] cpos) pos) (tS X.K X.mg W (sApp i f)) :=
  PSimp (ps_expr (pe_bm PySem.F.plainAttrs_list PySem.F.slot_list_append PySem.F.type_list_append mt_append (pe_var hN hv hd hcd) (pa_cons hb pa_nil hse) hbase hfew hline hse hplain) hsw) fun D σ H ⟨G, ρ, S, r, q⟩ => by
    unfold sApp at q
    split at q
    · rename_i xs e
      obtain ⟨a, vs, h1, h2, h4, h5, h6⟩ := r.known e
      refine ⟨_, h1, .inl ⟨rfl, _, SqL.of h4⟩, tG.mk r (wG.imp ?_ (wS.ofE (rp := Rp X.K) r q))⟩
      rintro v H1 ⟨S1, d, e1, ra, r1, q1⟩
      by_cases hl : xs.length < 16777216
      · rw [if_pos hl] at q1
        refine ⟨a, vs, v, rfl, rfl, e1.all _ _ h4, by rw [h5.length]; exact hl, q1 σ S1 _ (Same.refl _) ?_⟩
        have hS1 : S1 a = none := by
          cases z : S1 a with
          | none => rfl
          | some o =>
            rcases e1.new a o z with w | w
            · rw [h2] at w; cases w
            · rw [h4] at w; cases w
        exact r1.changeL e h1 ((RpA.mono e1.sub _ _ h5).snoc ra)
      · rw [if_neg hl] at q1; exact q1.elim
    · exact q.elim
end
end DL

set_option Elab.async false
set_option linter.all false
set_option maxRecDepth 100000
set_option maxHeartbeats 4000000
set_option autoImplicit false
/-! the data layer 7: a comprehension given to a name; keyword calls; the end of a law -/
namespace DL
open PySem L2
theorem lcKnown {K : PySem.W.Frag} {S H S' H' : Hp} {D : Addr} {xs : List V} {ds : List PD} (e : Ext S H S' H') (hD : H D = none) (hS : S' D = none) (hH : H' D = some (.lst xs)) (hr : RpA K S' xs ds) : Ext S H (upd S' D (.lst xs)) H' ∧ Rp K (upd S' D (.lst xs)) (.ref D) (.list ds) := by
  have e2 : Ext S H (upd S' D (.lst xs)) H' := ⟨fun a o z => by rw [upd_ne (ne_of_none (e.sub _ _ z) hS)]; exact e.sub _ _ z, e.all, fun a o z => by
    by_cases ha : a = D
    · subst ha; rw [upd_same] at z; rw [hH]; exact z
    · rw [upd_ne ha] at z; exact e.inn a o z, fun a o z => by
    by_cases ha : a = D
    · subst ha; exact .inr hD
    · rw [upd_ne ha] at z; exact e.new a o z⟩
  refine ⟨e2, .lst (SqL.of upd_same) (RpA.mono (fun a o z => ?_) _ _ hr)⟩
  rw [upd_ne (ne_of_none z hS)]; exact z
section
variable {X : Cx} {W : WX} {elt tg iter : Expr} {ifs : List Expr} {scope : Scope} {pos spos py : Pos} {it : En → R (List PD)} {T : Tg} {tt : En → R Bool} {te : En → R PD} {y : Str}
theorem sd_setLc (i : Nat) (own : List (Str × Nat)) (hc : X.calm = true) (hN : X.N.Nodup) (hy : X.N[i]? = some y) (hyl : X.env.scope.names.lookup y = some .local)
    (hsw : swapsWith (.ListComp elt [⟨tg, iter, ifs, 0⟩] scope pos) (some (.Name y py)) spos.line X.env = pure true) (hi : PI X tg iter (tI X.K X.mg W it)) (ok : BlkOk X.N X.env.scope scope own) (hT : ∀ i ∈ T.slots, i ∈ own.map (·.2))
    (hg : ∀ (s : Shared) (H : Hp) (C : Addr) (cl : List (Str × Addr)) (fp : List Addr), PG (X.blk s H scope (compEnvC scope cl C X.env) fp) tg (gOf X.K T)) (ht : ∀ (s : Shared) (H : Hp) (C : Addr) (cl : List (Str × Addr)) (fp : List Addr), PTs (X.blk s H scope (compEnvC scope cl C X.env) fp) ifs (tDT X.K X.mg W0 tt))
    (he : ∀ (s : Shared) (H : Hp) (C : Addr) (cl : List (Str × Addr)) (fp : List Addr), PE (X.blk s H scope (compEnvC scope cl C X.env) fp) elt (tD X.K X.mg W0 te)) (hs : ∀ x, foldedSetIterable iter X.env x = pure x := by intro _; rfl) :
    PS X (.Assign [.Name y py] (.ListComp elt [⟨tg, iter, ifs, 0⟩] scope pos) spos) (tS X.K X.mg W (sSet i (dLc it T (own.map (·.2)) tt te))) := PSimp (ps_setLc hc hN hy hyl hsw hi ok hg ht he hs) fun D σ H ⟨G, ρ, S, r, q⟩ => by
  refine lc_of hT r ?_
  unfold sSet sE dLc at q
  cases z : dLcL it T (own.map (·.2)) tt te ρ with
  | ok ds =>
    rw [z] at q
    intro D' S' H' xs e hD hS hH hr
    have k := lcKnown e hD hS hH hr
    exact q _ _ H' k.1.sub ((r.ext k.1).setD k.2 i)
  | ex c => rw [z] at q; exact fun cls S' H' m e => q cls σ S' H' m e.sub (r.ext e)
  | no => rw [z] at q; exact q
theorem sd_setLcO (i : Nat) (own : List (Str × Nat)) (hc : X.calm = true) (hN : X.N.Nodup) (hy : X.N[i]? = some y) (hyl : X.env.scope.names.lookup y = some .local)
    (hsw : swapsWith (.ListComp elt [⟨tg, iter, ifs, 0⟩] scope pos) (some (.Name y py)) spos.line X.env = pure true) (hi : PI X tg iter (tI X.K X.mg W it)) (ok : BlkOk X.N X.env.scope scope own) (hT : ∀ i ∈ T.slots, i ∈ own.map (·.2))
    (hg : ∀ (s : Shared) (H : Hp) (C : Addr) (cl : List (Str × Addr)) (fp : List Addr), PG (X.blk s H scope (compEnvC scope cl C X.env) fp) tg (gOf X.K T)) (ht : ∀ (s : Shared) (H : Hp) (C : Addr) (cl : List (Str × Addr)) (fp : List Addr), PTs (X.blk s H scope (compEnvC scope cl C X.env) fp) ifs (tDT X.K X.mg W0 tt))
    (he : ∀ (s : Shared) (H : Hp) (C : Addr) (cl : List (Str × Addr)) (fp : List Addr), PE (X.blk s H scope (compEnvC scope cl C X.env) fp) elt (tD X.K X.mg W0 te)) (hs : ∀ x, foldedSetIterable iter X.env x = pure x := by intro _; rfl) :
    PS X (.Assign [.Name y py] (.ListComp elt [⟨tg, iter, ifs, 0⟩] scope pos) spos) (tS X.K X.mg W (sSetL i (dLcL it T (own.map (·.2)) tt te))) := PSimp (ps_setLc hc hN hy hyl hsw hi ok hg ht he hs) fun D σ H ⟨G, ρ, S, r, q⟩ => by
  refine lc_of hT r ?_
  unfold sSetL sE at q
  cases z : dLcL it T (own.map (·.2)) tt te ρ with
  | ok ds =>
    rw [z] at q
    exact fun D' S' H' xs e hD hS hH hr => q _ S' H' e.sub (r.newO (x := .l ds) e hD hS (ne_some hH) ⟨D', rfl, rfl, xs, hH, hr⟩ i)
  | ex c => rw [z] at q; exact fun cls S' H' m e => q cls σ S' H' m e.sub (r.ext e)
  | no => rw [z] at q; exact q
end

/-! ### f(e, .., k = v, ..) -/
theorem KBn.mk1 {K : PySem.W.Frag} {x qual : Str} {params : Arguments} {body : List Stmt} {scope : Scope} {dvs : List V} {kws : List (Str × V)} {f : Addr} {fd : FuncData} {ps : List Str} (Fn : FunD K x qual params body scope dvs kws f fd) (n : Nat) (ks : List Str) (g : {α : Type} → List α → List α → List α → List α) (hd : dvs ≠ [])
    (hrel : ∀ {vs ds zs : List V} {us its ws : List Value}, Vals vs us → Vals ds its → Vals zs ws → Vals (g vs ds zs) (g us its ws))
    (h : ∀ (T : Addr) (kV doc pm : Value) (an : Option Addr) (cdv ct : Value) (us its ws : List Value), us.length = n → its.length = dvs.length → ws.length = ks.length →
      ∃ k, bindArgs (PySem.W.fnOf x qual params body scope (.ref T) kV doc pm an cdv ct) ⟨us, ks.zip ws⟩ = seqItems? (.ref T) >>= k ∧ k (some its.toArray) = pure (ps.zip (g us its ws))) :
    ∃ its : List Value, KBn K fd ps n ks (fun us ws => g us its ws) (fun vs zs => g vs dvs zs) := by
  obtain ⟨oc, od, dV, kV, doc, pm, an, cdv, ct, osl, rfl, lk, hcd, hD, hK⟩ := Fn.ex
  rcases hD with ⟨e, _⟩ | ⟨_, T, o, its, m, rfl, lT, oT, rT⟩
  · exact absurd e hd
  · refine ⟨its, ⟨fun s us ws X l1 l2 => ?_, fun r1 r2 => hrel r1 rT r2⟩⟩
    obtain ⟨k, e1, e2⟩ := h T kV doc pm an cdv ct us its ws l1 rT.length.symm l2
    refine BindsTo.of_looks fun M => ?_
    rw [e1]
    exact looks_items X lT oT (.of_pure e2)
/-- called by np positional values and keywords ks: arr puts them (data) in the parameters' order -/
structure KwAt (P : Program) (w : World) (K : PySem.W.Frag) (mg : MG) (base : Heap) (x : Str) (k n : Nat) (np : Nat) (ks : List Str) (arr : List PD → List PD → List PD) (g : List PD → R PD) : Prop where
  ex : ∃ (f : Addr) (fd : FuncData) (ps : List Str) (gv : List Value → List Value → List Value) (gV : List V → List V → List V), FnOk P w K mg base (L2.CX P w) k f fd ps (spD K mg n g) ∧ mg x = some (.ref f) ∧ PySem.W.keepIn K (.ref f) = true ∧ KBn K fd ps np ks gv gV ∧
    ∀ S vs zs ds es, RpA K S vs ds → RpA K S zs es → RpA K S (gV vs zs) (arr ds es)
def gKw (n np nk : Nat) (arr : List PD → List PD → List PD) (g : List PD → R PD) (as bs : List PD) : R PD := if as.length = np ∧ bs.length = nk ∧ (arr as bs).length = n then g (arr as bs) else .no
def dKw (g : List PD → List PD → R PD) (f1 f2 : En → R (List PD)) : En → R PD := fun ρ => (f1 ρ).bind fun as => (f2 ρ).bind fun bs => g as bs
theorem passL' {X : Cx} {W : WX} {E : XK} (tk : Takes X W) (h : ∀ cls d σ H, E cls d H → W cls d σ H) : Passes (L2.CX X.prog X.w) X E := fun pins σ H s e s' I c => passes_call tk h pins σ H s e s' I c
section
variable {X : Cx} {fs gs : En → R (List PD)} {e : Expr} {es : List Expr} {kws : List Keyword} {pos p kpos : Pos} {x : Str} {k n np : Nat} {ks : List Str} {arr : List PD → List PD → List PD} {g : List PD → R PD} {E : XK} {nm : Option Str} {f : En → R PD} {W : WX}
abbrev tDK := @tDA
theorem PKimp {kws : List Keyword} {t t' : TA} (h : PK X kws t) (i : ∀ σ H Q, t' σ H Q → t σ H Q) : PK X kws t' := ⟨fun pos pins s σ H Q I q => h.run pos pins s σ H Q I (i σ H Q q)⟩
theorem pkd_nil : PK X [] (tDA X.K X.mg W dNil) := PKimp pk_nil fun σ H Q ⟨G, ρ, S, r, h⟩ => h [] S H (Ext.refl r.inn) .nil
theorem pkd_cons (ha : PE X e (tD X.K X.mg W f)) (hr : PK X kws (tDA X.K X.mg W fs)) : PK X (⟨nm, e, kpos⟩ :: kws) (tDA X.K X.mg W (dCons f fs)) :=
  PKimp (pk_cons ha hr) fun σ H Q ⟨G, ρ, S, rel, h⟩ => by
    refine tG.mk rel (wG.imp ?_ (wG.bind (rp := Rp X.K) h))
    rintro x H1 ⟨S1, a, e1, ra, h1⟩
    refine tG.mk (rel.ext e1) (wG.imp ?_ (wG.bind (rp := RpA X.K) h1))
    rintro xs H2 ⟨S2, as, e2, ras, h2⟩
    exact h2 (x :: xs) S2 H2 (Ext.refl e2.inn) (.cons (Rp.mono e2.sub _ _ ra) ras)
/-- W hangs not on the slots here (a def's own body) -/
theorem pd_kw (Fn : KwAt X.prog X.w X.K X.mg X.base x k n np ks arr g) (hr : Room k X.A) (tk : Takes X (fun cls d _ H => E cls d H)) (ha : PA X (e :: es) (tDA X.K X.mg (fun cls d _ H => E cls d H) fs)) (hkw : PK X kws (tDA X.K X.mg (fun cls d _ H => E cls d H) gs)) (hg : Gl X x := by rfl)
    (hall : (backToKw pos (keywordEach kws X.env)).all (·.1.isSome) = true := by rfl) (hks : (backToKw pos (keywordEach kws X.env)).filterMap (·.1) = ks := by rfl)
    (hdb : (x == ("__debug__" : Str)) = false := by decide) (he : starEach (e :: es) X.env = (false, eval e X.env) :: starEach es X.env := by rfl)
    (hpl : ((backTo pos (starEach (e :: es) X.env)).any (·.1) || (backToKw pos (keywordEach kws X.env)).any (·.1.isNone)) = false := by rfl) {nk : Nat} (hnk : ks.length = nk := by rfl) :
    PE X (.Call (.Name x p) (e :: es) kws pos) (tD X.K X.mg (fun cls d _ H => E cls d H) (dKw (gKw n np nk arr g) fs gs)) := by
  subst hnk
  obtain ⟨f, fd, ps, gv, gV, hF, hm, hk, hb, hR⟩ := Fn.ex
  refine PEimp (pe_callN hF hr hg hm hk hb (E := E) (passL' tk fun _ _ _ _ h => h) ha hkw hall hks hdb he hpl) ?_
  rintro σ H Q ⟨G, ρ, S, rel, h⟩
  refine tG.mk rel (wG.imp ?_ (wG.bind (rp := RpA X.K) h))
  rintro vs H1 ⟨S1, as, e1, ra, h1⟩
  refine tG.mk (rel.ext e1) (wG.imp ?_ (wG.bind (rp := RpA X.K) h1))
  rintro zs H2 ⟨S2, bs, e2, rb, h2⟩
  unfold gKw at h2
  by_cases hl : as.length = np ∧ bs.length = ks.length ∧ (arr as bs).length = n
  · rw [if_pos hl] at h2
    refine ⟨ra.length.trans hl.1, rb.length.trans hl.2.1, S2, _, e2.inn, hR S2 vs zs as bs (RpA.mono e2.sub _ _ ra) rb, hl.2.2, ?_⟩
    cases q : g (arr as bs) with
    | ok d => rw [q] at h2; exact h2
    | ex c => rw [q] at h2; exact h2
    | no => rw [q] at h2; exact h2
  · rw [if_neg hl] at h2; exact h2.elim
end

/-! ### the end of a law -/
theorem scr_rp {K : PySem.W.Frag} {S : Hp} : ∀ ns : List Int, RpA K S (ns.map V.int) (ns.map PyData.int)
  | [] => .nil
  | n :: ns => .cons (.int n) (scr_rp ns)
theorem walkD {l : PySem.W.OpenLaw} {n k : Nat} {q : Program} {loose : List Str} {XP : (Str → Option Value) → Heap → Prop} {YP : World → Heap → Prop} {d : DefRec} {x : Str} {g : List PD → R PD}
    (hn : l.most = some n) (hn2 : n ≤ sizeLine) (hdf : d.params.defaults = []) (hr : Room k PySem.callerA)
    (F : ∀ (w : World) (mg : Str → Option Value) (fa : Addr) (h : Heap), YP w h → h.Ns mainGlobals mg → mg d.name = some (.ref fa) →
      ∃ (K : PySem.W.Frag) (fd : FuncData), K.In h ∧ (∀ (s : Shared) (u : Value), BindsTo s fd ⟨[u], []⟩ [(x, u)]) ∧
        ∀ base : Heap, K.In base → base.Ns mainGlobals mg → FnOk l.prog w K mg base (L2.CX l.prog w) k fa fd [x] (spD K mg 1 g))
    (hg : ∀ ns : List Int, ns.length ≤ n → (∀ z ∈ ns, Builtin.Int.intBits z ≤ 1048576) → g [.list (ns.map PyData.int)] = .ok (.bool true)) :
    PySem.W.WalkO q loose XP YP l.row.toRowW d [] (fun f vs => PySem.call f vs) := by
  refine Att.attach_callB hn hdf fun w s₀ s₁ mg mb fa o pm cd doc a vs ns G Y ho hd hcd hmg hobj hints hlen hbits hgen => ?_
  obtain ⟨K, fd, KX, hb, hF⟩ := F w mg fa _ Y G.T.g hmg
  refine law_call KX G.T.g G.T.b G.T.builtins G.T.nolimit hgen hobj hints (Nat.le_trans hlen hn2) hr hF hb (fun H hO hS => ?_) fun H e s' z => ?_
  · refine ⟨H, [.list (ns.map PyData.int)], Same.refl _, .cons (.lst hS (scr_rp ns)) .nil, rfl, ?_⟩
    rw [hg ns hlen hbits]
    intro v S' H' _ r
    cases r
    rfl
  · obtain ⟨_, _, _, _, _, _, _, _, _, _, _, _, z⟩ := z
    exact z
end DL
namespace DL
open PySem L2
theorem mem0 {α : Type} {a : α} {l : List α} : a ∈ a :: l := List.mem_cons_self
theorem mem1 {α : Type} {a b : α} {l : List α} : b ∈ a :: b :: l := List.mem_cons_of_mem _ List.mem_cons_self
theorem mem2 {α : Type} {a b c : α} {l : List α} : c ∈ a :: b :: c :: l := List.mem_cons_of_mem _ (List.mem_cons_of_mem _ List.mem_cons_self)
theorem un65 {k : Nat} {A : Around} (r : Room k A) : A.units + 65 < cLine := by have := r.un; omega
end DL

set_option Elab.async false
set_option linter.all false
set_option maxRecDepth 100000
set_option maxHeartbeats 4000000
set_option autoImplicit false
/-! the data layer 8: ranges with a step, bit_length, a store into a list of one's own, str -/
namespace DL
open PySem L2
def rng3 (lo c : Int) (n : Nat) : List PD := (List.range n).map fun i => .int (lo + (i : Nat) * c)
def gR3 : List PD → R (List PD)
  | [.int i, .int j, .int c] => if c ≠ 0 ∧ c.natAbs < 1073741824 ∧ Builtin.Range.small i j c = true ∧ 0 ≤ Builtin.Range.rangeSize i j c then .ok (rng3 i c (Builtin.Range.rangeSize i j c).toNat) else .no
  | _ => .no
theorem itc_ok {K : PySem.W.Frag} {S : Hp} {lo c : Int} {n : Nat} : ItOk K S (Itc lo c n) (rng3 lo c n) := by
  intro S1 H1 s1 s2 i
  refine ⟨fun d hd => ?_, fun hl => by show n ≤ i; simpa [rng3] using hl⟩
  unfold rng3 at hd
  rw [List.getElem?_map] at hd
  by_cases h : i < n
  · rw [List.getElem?_range h] at hd
    cases hd
    exact ⟨h, fun x H2 ⟨e, y⟩ => by subst e y; exact ⟨S1, Ext.refl s2, .int _⟩⟩
  · rw [List.getElem?_eq_none (by simpa using h)] at hd
    cases hd
section
variable {X : Cx} {W : WX} {tg : Expr} {f f1 f2 : En → R PD} {fs : En → R (List PD)} {p pos apos : Pos} {e o : Expr} {x : Str}
theorem pi_r3 {a b c : Expr} (hg : Gl X "range") (hm : X.mg "range" = none) (ha : PA X [a, b, c] (tDA X.K X.mg W fs))
    (hs : starEach [a, b, c] X.env = (false, eval a X.env) :: starEach [b, c] X.env := by rfl) (hpl : (backTo pos (starEach [b, c] X.env)).any (·.1) = false := by rfl) : PI X tg (.Call (.Name "range" p) [a, b, c] [] pos) (tI X.K X.mg W (iA gR3 fs)) :=
  PIimp (pi_range3 hg hm ha hs hpl) fun σ H Q ⟨G, ρ, S, rel, h⟩ => by
    refine tG.mk rel (wG.imp ?_ (wG.bind (rp := RpA X.K) h))
    rintro xs H1 ⟨S1, as, e1, ra, h1⟩
    unfold gR3 at h1
    split at h1
    · rename_i i j c
      cases ra with
      | cons r1 r2 =>
        cases r2 with
        | cons r2 r3 =>
          cases r3 with
          | cons r3 r4 =>
            cases r4
            cases r1
            cases r2
            cases r3
            split at h1
            · rename_i hb
              refine ⟨i, j, c, _, rfl, ⟨hb.1, hb.2.1, hb.2.2.1, ?_⟩, h1 _ S1 H1 (Ext.refl e1.inn) itc_ok⟩
              exact (Int.toNat_of_nonneg hb.2.2.2).symm
            · exact h1.elim
    · exact h1.elim
def gm_bit_length : PD → R PD
  | .int i => .ok (.int (Builtin.Int.intBits i : Nat))
  | _ => .no
theorem pd_m_bit_length (ho : PE X o (tD X.K X.mg W f)) (hbase : attributeBase o "bit_length" X.env (eval o X.env) = eval o X.env := by rfl) (hline : (apos.endLine == pos.line) = true := by rfl) : PE X (.Call (.Attribute o "bit_length" apos) [] [] pos) (tD X.K X.mg W (d1 gm_bit_length f)) :=
  PEimp (pe_bits ho hbase hline) fun σ H Q ⟨G, ρ, S, rel, h⟩ => by
    refine tG.mk rel (wG.imp ?_ (wG.bind (rp := Rp X.K) h))
    rintro v H1 ⟨S1, d, e1, ra, h1⟩
    cases d with
    | int i => cases ra; exact ⟨i, rfl, h1 _ S1 H1 (Ext.refl e1.inn) (.int _)⟩
    | _ => exact h1.elim
def gStr : List PD → R PD
  | [.int i] => if i.natAbs.log2 < 1920 then .ok (.str (toString i)) else .no
  | _ => .no
theorem nx_str : NoExL gStr := fun a c h => by unfold gStr at h; split at h <;> first | (split at h <;> cases h) | cases h
theorem cd_str : CallD X (.type "str") gStr := by
  refine CallD_ofX fun pins s σ H vs us Q S ds d I r hS ra q h => ?_
  unfold gStr at q
  split at q
  · cases ra with
    | cons r1 r2 =>
      cases r2
      cases r1
      split at q
      · rename_i hl
        cases q
        exact call_str_int pins s σ H _ us Q I r ⟨_, rfl, hl, h _ S H (Ext.refl hS) (.str _)⟩
      · cases q
  · cases q
/-- x[k] = e, x a list of one's own -/
def sPut (i : Nat) (fk fe : En → R PD) : En → Fl := fun ρ => match ρ[i]? with
  | some (some (.l xs)) => sE fe (fun d => sE fk fun k ρ => match k with
    | .int z => (match ixN xs.length z with
      | some j => .nx (ρ.set i (some (.l (xs.set j d))))
      | none => .no)
    | _ => .no) ρ
  | _ => .no
theorem sd_put (i : Nat) {px pt : Pos} {kx : Expr} {fk fe : En → R PD} (hk : PE X kx (tD X.K X.mg W fk)) (he : PE X e (tD X.K X.mg W fe)) (hN : X.N[i]? = some x := by rfl) (hv : Vis X.env.scope x := by first | exact Or.inl rfl | exact Or.inr (Or.inl rfl) | exact Or.inr (Or.inr rfl))
    (hd : (x == ("__debug__" : Str)) = false := by decide) (hcd : (x == ("__classdict__" : Str)) = false := by decide)
    (ha : ∀ v, assign (.Subscript (.Name x px) kx pt) X.env v = (do
      let ov ← holding [v] (eval (.Name x px) X.env)
      let iv ← holding [v, ov] (eval kx X.env)
      standAt pt
      holding [v, ov, iv] (setItem ov iv v)
      release [v, ov, iv] []) := by intro _; rfl)
    (hs : swapsWithSole [.Subscript (.Name x px) kx pt] e pos.line X.env = pure false := by rfl) (hw : swappedStores [.Subscript (.Name x px) kx pt] e X.env = pure none := by rfl)
    (h1 : (assignEach [.Subscript (.Name x px) kx pt] X.env).map (·.2) = [assign (.Subscript (.Name x px) kx pt) X.env] := by rfl) :
    PS X (.Assign [.Subscript (.Name x px) kx pt] e pos) (tS X.K X.mg W (sPut i fk fe)) :=
  PSimp (ps_asg he (pg_sub (pe_var hN hv hd hcd) hk set_list ha) hs hw h1) fun D σ H ⟨G, ρ, S, r, q⟩ => by
    unfold sPut at q
    split at q
    · rename_i xs e
      obtain ⟨a, vs, h1, h2, h4, h5, h6⟩ := r.known e
      refine tG.mk r (wG.imp ?_ (wS.ofE (rp := Rp X.K) r q))
      rintro v H1 ⟨S1, d, e1, ra, r1, q1⟩
      refine ⟨_, h1, tG.mk r1 (wG.imp ?_ (wS.ofE (rp := Rp X.K) r1 q1))⟩
      rintro kv H2 ⟨S2, k, e2, rk, r2, q2⟩
      cases k with
      | int z =>
        cases rk
        dsimp only at q2
        split at q2
        · rename_i j hj
          have e12 := e1.trans e2
          have hS2 : S2 a = none := by
            cases z : S2 a with
            | none => rfl
            | some o =>
              rcases e12.new a o z with w | w
              · rw [h2] at w; cases w
              · rw [h4] at w; cases w
          exact ⟨a, vs, z, j, rfl, rfl, e12.all _ _ h4, by rw [h5.length]; exact hj, q2 σ S2 _ (Same.refl _) (r2.changeL e h1 (RpA.set (Rp.mono e2.sub _ _ ra) j (RpA.mono e12.sub _ _ h5)))⟩
        · exact q2.elim
      | _ => exact q2.elim
    · exact q.elim
end
end DL

set_option Elab.async false
set_option linter.all false
set_option maxRecDepth 100000
set_option maxHeartbeats 4000000
set_option autoImplicit false
/-! the data layer 9: a list times a number -/
namespace DL
open PySem L2 PySem.Spec PyProof.Rows
theorem q_mul_int (l : Addr) (items : Array Value) (n : Nat) (d : Option Addr) (sl : Array (Option Value)) (x : Int) (u : Tok) (hc0 : ¬(!Builtin.List.listFitsIndex x) = true)
    (hc1 : ¬items.size * x.toNat > (2 ^ 63 - 1) / 8) (hc2 : ¬Builtin.List.listTooLong (items.size * x.toNat) = true) :
    Meets (Builtin.«list.__mul__» ⟨[.ref l, .int x u], []⟩) (fun _ R s => s.heap.get? l = some { cls := .type "list", dict := d, data := .seq items n, slots := sl } ∧ R (.ok (.ret (Value.ref s.heap.objs.size))) { s with heap := s.heap.push { cls := Value.type "list", data := Data.seq (List.foldl (fun x1 x2 => x1 ++ x2) #[] (List.replicate (if items.isEmpty = true then 0 else x.toNat) items)) }, toks := s.toks }) :=
  .of_wp fun prog w A R s h => by
    obtain ⟨hp, g, d, tk, os⟩ := s; obtain ⟨hl, h⟩ := h
    have hsz := AutoListH.joined_fits hc2
    wp_walk; refine wpAny_ite_false (decide_eq_false (Nat.not_lt.mpr hsz)) ?_; wp_walk; exact ⟨_, rfl, h⟩
theorem q_rmul_int (a : Int) (t : Tok) (l : Addr) (items : Array Value) (n : Nat) (d : Option Addr) (sl : Array (Option Value)) :
    Meets (Builtin.«int.__rmul__» ⟨[.int a t, .ref l], []⟩) (fun _ R s => s.heap.get? l = some { cls := .type "list", dict := d, data := .seq items n, slots := sl } ∧ R (.ok (.ret Value.notImplemented)) s) :=
  .of_wp fun prog w A R s h => by obtain ⟨hp, g, d, tk, os⟩ := s; obtain ⟨hl, h⟩ := h; wp_walk; exact ⟨_, rfl, h⟩
section
variable {X : Cx}
theorem op_repS : OpR X (binaryOp .Mult) (fun x y H Q => ∃ a k xs, x = V.ref a ∧ y = V.int k ∧ SqL X.K H a xs ∧ -(2 ^ 63) ≤ k ∧ k < 2 ^ 63 ∧ xs.length * k.toNat ≤ sizeLine ∧ ∀ p, H p = none → Q (.ref p) (upd H p (.lst (List.replicate k.toNat xs).flatten))) := by
  intro pins s σ H x y v u Q I rx ry h
  obtain ⟨a, k, xs, rfl, rfl, hs, h1, h2, hzz, q⟩ := h
  obtain rfl : v = Value.ref a := rx
  obtain ⟨t, rfl⟩ := ry
  obtain ⟨its, rv, ⟨⟨cls, dd, data, sl⟩, n, ho, hc, hdn, hd⟩, hlen⟩ := I.list hs
  have hc1 : cls = Value.type "list" := hc
  have hd1 : data = Data.seq its.toArray n := hd
  subst hc1 hd1
  have hlen2 : its.toArray.size * k.toNat ≤ sizeLine := by rw [List.size_toArray, ← rv.length]; exact hzz
  have hcap : ¬ its.toArray.size * k.toNat > (2 ^ 63 - 1) / 8 := by
    have : (sizeLine : Nat) ≤ (2 ^ 63 - 1) / 8 := by decide
    omega
  have hfit : ¬ (!Builtin.List.listFitsIndex k) = true := by
    rw [fitsIndex_both h1 h2]
    exact Bool.false_ne_true
  have hlong : ¬ Builtin.List.listTooLong (its.toArray.size * k.toNat) = true := by
    rw [notLongL hlen2]
    exact Bool.false_ne_true
  have hnew : List.foldl (fun x1 x2 => x1 ++ x2) #[] (List.replicate (if its.toArray.isEmpty = true then 0 else k.toNat) its.toArray) = (List.replicate k.toNat its).flatten.toArray := by
    have f0 : ∀ m : Nat, List.foldl (fun x1 x2 => x1 ++ x2) #[] (List.replicate m its.toArray) = (List.replicate m its).flatten.toArray := fun m => by
      have := foldl_rep its m []
      rw [List.nil_append] at this
      exact this
    rw [f0]
    cases its with
    | nil => simp
    | cons a r' => rw [if_neg (by simp)]
  refine wpAny_binaryOp_repeat_ref (T := "list") (U := "int") (by decide) ⟨_, ho, rfl⟩ (fun s' => typeIs_int s' k t) noFill_list_mul F.fills_int_mul F.slot_int_rmul repeat_list F.slot_int_index.lookup
    (call_meets F.slot_int_rmul (typeIs_int s k t) F.entry_int_rmul (F.args_int_rmul_2 _ _) (q_rmul_int k t a its.toArray n dd sl)
      ⟨ho, rfl, ⟨_, ho, rfl⟩, call_meets F.slot_list_mul ⟨_, ho, rfl⟩ F.entry_list_mul (F.args_list_mul_2 _ _) (q_mul_int a its.toArray n dd sl k t hfit hcap hlong) ⟨ho, ?_⟩⟩)
  rw [hnew]
  refine ⟨.ref s.heap.objs.size, upd H s.heap.objs.size (.lst (List.replicate k.toNat xs).flatten), I.laid (t' := s.toks) (fun b o e => Heap.get?_push_of_some _ e) (Nat.le_refl _) ⟨?_, _, 0, rv.rep k.toNat, Heap.get?_push_size _ rfl⟩, rfl, q _ (I.hok.fresh (Nat.le_refl _))⟩
  rw [PyProof.Rows.lm_len_rep_flat, Nat.mul_comm]
  exact hzz
def gMulL : PD → PD → R PD
  | .list ds, .int k => if -(2 ^ 63) ≤ k ∧ k < 2 ^ 63 ∧ ds.length * k.toNat ≤ 16777216 then .ok (.list (List.replicate k.toNat ds).flatten) else .no
  | _, _ => .no
theorem noEx_mulL : NoEx gMulL := fun a b c h => by unfold gMulL at h; split at h <;> first | (split at h <;> cases h) | cases h
theorem RpA.rep {K : PySem.W.Frag} {S : Hp} {ds : List PD} {vs : List V} (h : RpA K S vs ds) : ∀ k : Nat, RpA K S (List.replicate k vs).flatten (List.replicate k ds).flatten
  | 0 => .nil
  | k + 1 => by
    rw [List.replicate_succ, List.replicate_succ, List.flatten_cons, List.flatten_cons]
    exact h.append (RpA.rep h k)
theorem od_mulL : OpD X (binaryOp .Mult) gMulL := by
  refine OpD_of fun pins s σ H x y v u Q S a b d I rx ry hS ra rb q h => ?_
  unfold gMulL at q
  split at q
  · cases ra with
    | lst h1 a1 =>
      cases rb
      split at q
      · rename_i hl
        cases q
        refine op_repS pins s σ H _ _ v u Q I rx ry ⟨_, _, _, rfl, rfl, Same.seq hS h1, hl.1, hl.2.1, by rw [a1.length]; exact hl.2.2, fun p hp => ?_⟩
        exact h _ _ _ (Rp.newL hS hp (a1.rep _)).1 (Rp.newL hS hp (a1.rep _)).2
      · cases q
  · cases q
end
end DL

set_option Elab.async false
set_option linter.all false
set_option maxRecDepth 100000
set_option maxHeartbeats 4000000
set_option autoImplicit false
/-! the data layer 10: lists of lists of one's own -/
namespace DL
open PySem L2
section
variable {K : PySem.W.Frag} {G : F} {S S' H H' : Hp} {σ : St} {ρ : En}
theorem LLs.length : ∀ {bs : List Addr} {xss : List (List PD)}, LLs K S H bs xss → bs.length = xss.length
  | [], [], _ => rfl
  | b :: bs, xs :: xss, ⟨_, h⟩ => by simp [LLs.length h]
  | [], _ :: _, h => h.elim
  | _ :: _, [], h => h.elim
theorem LLs.get : ∀ {bs : List Addr} {xss : List (List PD)} {k : Nat} {xs : List PD}, LLs K S H bs xss → xss[k]? = some xs → ∃ b vs, bs[k]? = some b ∧ H b = some (.lst vs) ∧ RpA K S vs xs
  | [], [], _, _, _, e => by simp at e
  | b :: bs, xs :: xss, 0, ys, ⟨⟨vs, h1, h2⟩, h⟩, e => by
    simp at e
    subst e
    exact ⟨b, vs, rfl, h1, h2⟩
  | b :: bs, xs :: xss, k + 1, ys, ⟨_, h⟩, e => by simpa using LLs.get h (by simpa using e)
  | [], _ :: _, _, _, h, _ => h.elim
  | _ :: _, [], _, _, h, _ => h.elim
theorem LLs.set {vs : List V} {ys : List PD} (hr : RpA K S vs ys) : ∀ {bs : List Addr} {xss : List (List PD)} {k : Nat} {b : Addr}, bs.Nodup → LLs K S H bs xss → bs[k]? = some b → LLs K S (upd H b (.lst vs)) bs (xss.set k ys)
  | [], [], _, _, _, h, _ => trivial
  | c :: bs, xs :: xss, 0, b, nd, ⟨_, h⟩, e => by
    simp at e
    subst e
    have hn := List.nodup_cons.mp nd
    refine ⟨⟨vs, upd_same, hr⟩, LLs.keep (Same.refl _) (fun a ha o q => ?_) h⟩
    rw [upd_ne (fun z => hn.1 (by rw [← z]; exact ha))]; exact q
  | c :: bs, xs :: xss, k + 1, b, nd, ⟨⟨us, h1, h2⟩, h⟩, e => by
    have hn := List.nodup_cons.mp nd
    have e' : bs[k]? = some b := by simpa using e
    refine ⟨⟨us, ?_, h2⟩, LLs.set hr hn.2 h e'⟩
    rw [upd_ne (fun z => hn.1 (by rw [z]; exact List.mem_of_getElem? e'))]; exact h1
  | [], _ :: _, _, _, _, h, _ => h.elim
  | _ :: _, [], _, _, _, h, _ => h.elim
/-- one of the lists changes -/
theorem Rel.changeLL (r : Rel K G S σ ρ H) {i k : Nat} {xss : List (List PD)} {es : List PD} {vs : List V} (hi : ρ[i]? = some (some (.ll xss))) {p b : Addr} {bs : List Addr} (hp : σ[i]? = some (some (.ref p))) (hH : H p = some (.lst (bs.map V.ref))) (hb : bs[k]? = some b) (ho : RpA K S vs es) :
    Rel K G S σ (ρ.set i (some (.ll (xss.set k es)))) (upd H b (.lst vs)) := by
  obtain ⟨φ, r⟩ := r
  obtain ⟨v, h1, a, rfl, bs', hf, hnd, hH', hl⟩ := r.slot i _ hi
  rw [hp] at h1
  cases h1
  rw [hH] at hH'
  have eb : bs.map V.ref = bs'.map V.ref := HO.lst.inj (Option.some.inj hH')
  have eb' : bs = bs' := by
    have inj : ∀ {l m : List Addr}, l.map V.ref = m.map V.ref → l = m := by
      intro l
      induction l with
      | nil => intro m h; cases m with
        | nil => rfl
        | cons _ _ => cases h
      | cons x l ih => intro m h; cases m with
        | nil => cases h
        | cons y m =>
          simp only [List.map_cons, List.cons.injEq] at h
          obtain ⟨h1, h2⟩ := h
          cases h1
          rw [ih h2]
    exact inj eb
  subst eb'
  have hbm : b ∈ φ i := by rw [hf]; exact .tail _ (List.mem_of_getElem? hb)
  have hpm : p ∈ φ i := by rw [hf]; exact .head _
  have hnb : p ≠ b := fun z => by
    rw [hf] at hnd
    exact (List.nodup_cons.mp hnd).1 (by rw [z]; exact List.mem_of_getElem? hb)
  have there : ∀ a ∈ φ i, upd H b (.lst vs) a ≠ none := fun a ha => by
    by_cases e : a = b
    · subst e; exact ne_some upd_same
    · rw [upd_ne e]; exact (r.fr i a ha).2.2
  have z := r.set (i := i) (x := .ll (xss.set k es)) (v := .ref p) (fp := φ i) (S' := S) (H' := upd H b (.lst vs)) (fun a o hn q => by rw [upd_ne (fun e => hn (by rw [e]; exact hbm))]; exact q) (Same.refl _)
    (fun a o q => by rw [upd_ne (ne_of_none q (r.fr i b hbm).1)]; exact r.inn a o q) (fun _ _ q => .inl q) there (fun a ha => ⟨(r.fr i a ha).1, there a ha, .inl ha⟩) (fun a ha hP => absurd hP (r.nop hi (fun _ _ z => by cases z) a ha))
    ⟨p, rfl, bs, hf, hnd, by rw [upd_ne hnb]; exact hH, LLs.set ho (by rw [hf] at hnd; exact (List.nodup_cons.mp hnd).2) hl hb⟩
  rw [set_self hp] at z
  exact ⟨_, z⟩
theorem Rel.slotLL (r : Rel K G S σ ρ H) {i : Nat} {xss : List (List PD)} (hi : ρ[i]? = some (some (.ll xss))) : ∃ a bs, σ[i]? = some (some (.ref a)) ∧ S a = none ∧ H a = some (.lst (bs.map V.ref)) ∧ LLs K S H bs xss ∧ ∀ b ∈ bs, S b = none ∧ b ≠ a := by
  obtain ⟨φ, r⟩ := r
  obtain ⟨v, h1, a, rfl, bs, hf, hnd, hH, hl⟩ := r.slot i _ hi
  refine ⟨a, bs, h1, (r.fr i a (by rw [hf]; exact .head _)).1, hH, hl, fun b hb => ⟨(r.fr i b (by rw [hf]; exact .tail _ hb)).1, fun z => ?_⟩⟩
  rw [hf] at hnd
  exact (List.nodup_cons.mp hnd).1 (by rw [← z]; exact hb)
/-- what is known once the lists at addresses are known -/
def updAll (S H : Hp) (as : List Addr) : Hp := fun b => if b ∈ as then H b else S b
/-- all the lists are known from here on -/
theorem Rel.knownLL {xss : List (List PD)} {i : Nat} (r : Rel K G S σ ρ H) (hi : ρ[i]? = some (some (.ll xss))) : ∃ S', Same S S' ∧ Rel K G S' σ (ρ.set i (some (.d (.list (xss.map .list))))) H := by
  obtain ⟨φ, r⟩ := r
  obtain ⟨v, h1, a, rfl, bs, hf, hnd, hH, hl⟩ := r.slot i _ hi
  have hP := r.nop hi (fun _ _ z => by cases z)
  have sub : Same S (updAll S H (φ i)) := fun b o e => by
    unfold updAll
    split
    · rename_i hb
      rw [(r.fr i b hb).1] at e; cases e
    · exact e
  have hin : ∀ b ∈ φ i, updAll S H (φ i) b = H b := fun b hb => if_pos hb
  have rp : ∀ {bs : List Addr} {xss : List (List PD)}, (∀ b ∈ bs, b ∈ φ i) → LLs K S H bs xss → RpA K (updAll S H (φ i)) (bs.map V.ref) (xss.map .list) := by
    intro bs
    induction bs with
    | nil => intro xss _ h; cases xss with
      | nil => exact .nil
      | cons _ _ => exact h.elim
    | cons b bs ih => intro xss k h; cases xss with
      | nil => exact h.elim
      | cons xs xss =>
        obtain ⟨⟨vs, q1, q2⟩, q3⟩ := h
        exact .cons (.lst (SqL.of (by rw [hin b (k b (.head _))]; exact q1)) (RpA.mono sub _ _ q2)) (ih (fun c hc => k c (.tail _ hc)) q3)
  refine ⟨updAll S H (φ i), sub, φset φ i [], ?_⟩
  have z := r.set (i := i) (x := .d (.list (xss.map .list))) (v := .ref a) (fp := []) (S' := updAll S H (φ i)) (H' := H) (fun _ _ _ q => q) sub (fun b o e => by
      unfold updAll at e
      split at e
      · exact e
      · exact r.inn b o e) (fun b o e => by
      unfold updAll at e
      split at e
      · rename_i hb
        exact .inr (.inr ⟨hb, hP b hb⟩)
      · exact .inl e) (fun b hb => (r.fr i b hb).2.2) (fun b hb => nomatch hb) (fun b hb => nomatch hb)
      (.lst (SqL.of (by rw [hin a (by rw [hf]; exact .head _)]; exact hH)) (rp (fun b hb => by rw [hf]; exact .tail _ hb) hl))
  rw [set_self h1] at z
  exact z
end
section
variable {X : Cx} {W : WX} {f f1 f2 : En → R PD} {fl fl1 fl2 : En → R (List PD)} {e : Expr} {es es1 es2 : List Expr} {pos pos' : Pos} {x : Str} {g : En → Fl} {sts : List Stmt}
/-- two lists -/
def tLL (K : PySem.W.Frag) (mg : MG) (W : WX) (f : En → R (List (List PD))) : TE := fun σ H Q => ∃ G ρ S, Rel K G S σ ρ H ∧ match f ρ with
  | .ok xss => ∀ D bs S' H', Ext S H S' H' → (D :: bs).Nodup → (∀ a ∈ D :: bs, H a = none ∧ S' a = none ∧ H' a ≠ none) → H' D = some (.lst (bs.map V.ref)) → LLs K S' H' bs xss → Q (.ref D) H'
  | .ex c => ∀ cls S' H', mg c = some cls → Ext S H S' H' → W cls none σ H'
  | .no => False
def sSetLL (i : Nat) (f : En → R (List (List PD))) : En → Fl := sE f fun ds ρ => .nx (ρ.set i (some (.ll ds)))
theorem sd_setLL {f : En → R (List (List PD))} (i : Nat) (hN : X.N.Nodup) (hi : X.N[i]? = some x) (hx : Loc X.env.scope x) (he : PE X e (tLL X.K X.mg W f)) (hs : swapsWith e (some (.Name x pos')) pos.line X.env = pure false := by rfl) (hf : X.fn x = true ∨ X.env.scope.names.lookup x = some .local := by first | exact .inl rfl | exact .inr rfl | assumption)
    (hw : swappedStores [.Name x pos'] e X.env = pure none := by rfl) :
    PS X (.Assign [.Name x pos'] e pos) (tS X.K X.mg W (sSetLL i f)) := PSimp (ps_asg he (pg_name hN hi hx hf) hs hw) fun D σ H ⟨G, ρ, S, r, q⟩ => by
  refine ⟨G, ρ, S, r, ?_⟩
  unfold sSetLL sE at q
  cases z : f ρ with
  | ok xss =>
    rw [z] at q
    exact fun D' bs S' H' e hnd hn hH hl => q _ S' H' e.sub (r.newP (x := .ll xss) (fp := D' :: bs) e hn ⟨D', rfl, bs, rfl, hnd, hH, hl⟩ i)
  | ex c => rw [z] at q; exact fun cls S' H' m e => q cls σ S' H' m e.sub (r.ext e)
  | no => rw [z] at q; exact q
def lDisp2 (fl1 fl2 : En → R (List PD)) : En → R (List (List PD)) := fun ρ => (fl1 ρ).bind fun xs => if xs.length ≤ 1000 then (fl2 ρ).bind fun ys => if ys.length ≤ 1000 then .ok [xs, ys] else .no else .no
theorem pl_lst2 {p1 p2 : Pos} (h1 : PA X es1 (tDA X.K X.mg W fl1)) (h2 : PA X es2 (tDA X.K X.mg W fl2))
    (hse : starEach [.List es1 p1, .List es2 p2] X.env = (false, eval (.List es1 p1) X.env) :: starEach [.List es2 p2] X.env := by rfl) (hse2 : starEach [.List es2 p2] X.env = (false, eval (.List es2 p2) X.env) :: starEach [] X.env := by rfl) :
    PE X (.List [.List es1 p1, .List es2 p2] pos) (tLL X.K X.mg W (lDisp2 fl1 fl2)) := PEimp (pe_lst (pa_cons (pe_lst h1) (pa_cons (pe_lst h2) pa_nil hse2) hse)) fun σ H Q ⟨G, ρ, S, rel, q⟩ => by
  unfold lDisp2 at q
  refine tG.mk rel ?_
  cases z : fl1 ρ with
  | ok xs =>
    rw [z] at q
    intro vs S1 H1 e1 ra
    simp only [R.bind_ok] at q
    by_cases hl : xs.length ≤ 1000
    · rw [if_pos hl] at q
      refine ⟨by rw [ra.length]; exact le_line hl, fun p hp => ?_⟩
      have e2 := Ext.fresh (o := .lst vs) e1.inn hp
      have rel2 := (rel.ext e1).ext e2
      refine tG.mk rel2 ?_
      cases z2 : fl2 ρ with
      | ok ys =>
        rw [z2] at q
        intro us S3 H3 e3 rb
        simp only [R.bind_ok] at q
        by_cases hl2 : ys.length ≤ 1000
        · rw [if_pos hl2] at q
          refine ⟨by rw [rb.length]; exact le_line hl2, fun p2 hp2 => ⟨by show 2 ≤ sizeLine; decide, fun D hD => ?_⟩⟩
          have e4 := Ext.fresh (o := .lst us) e3.inn hp2
          have e5 := Ext.fresh (o := .lst [V.ref p, V.ref p2]) e4.inn hD
          have eT := e1.trans (e2.trans (e3.trans (e4.trans e5)))
          have hHp : upd H1 p (.lst vs) p = some (.lst vs) := upd_same
          have hp3 : H3 p = some (.lst vs) := e3.all _ _ hHp
          have n1 : p ≠ p2 := ne_of_none hp3 hp2
          have hp4 : upd H3 p2 (.lst us) p = some (.lst vs) := by rw [upd_ne n1]; exact hp3
          have hp24 : upd H3 p2 (.lst us) p2 = some (.lst us) := upd_same
          have n2 : p ≠ D := ne_of_none hp4 hD
          have n3 : p2 ≠ D := ne_of_none hp24 hD
          have s3p : S3 p = none := by
            cases w : S3 p with
            | none => rfl
            | some o =>
              rcases e3.new p o w with w | w
              · rw [e1.inn.free hp] at w; cases w
              · rw [upd_same] at w; cases w
          refine q D [p, p2] S3 _ eT (by simp [n1, n2.symm, n3.symm]) (fun a ha => ?_) upd_same ⟨⟨vs, by rw [upd_ne n2]; exact hp4, RpA.mono e3.sub _ _ ra⟩, ⟨us, by rw [upd_ne n3]; exact hp24, rb⟩, trivial⟩
          have fr : ∀ {a : Addr}, H1 a = none → H a = none := fun w => e1.all.free w
          have fr2 : ∀ {a : Addr}, upd H1 p (.lst vs) a = none → H1 a = none := fun w => e2.all.free w
          rcases List.mem_cons.mp ha with rfl | ha
          · refine ⟨fr (fr2 (e3.all.free (e4.all.free hD))), e4.inn.free hD, ne_some upd_same⟩
          · rcases List.mem_cons.mp ha with rfl | ha
            · exact ⟨fr hp, s3p, ne_some (by rw [upd_ne n2]; exact hp4)⟩
            · rw [List.mem_singleton] at ha
              subst ha
              exact ⟨fr (fr2 (e3.all.free hp2)), e3.inn.free hp2, ne_some (by rw [upd_ne n3]; exact hp24)⟩
        · rw [if_neg hl2] at q; exact q.elim
      | ex c => rw [z2] at q; exact fun cls S' H' m e => q cls S' H' m (e1.trans (e2.trans e))
      | no => rw [z2] at q; exact q
    · rw [if_neg hl] at q; exact q.elim
  | ex c => rw [z] at q; exact q
  | no => rw [z] at q; exact q
def sFrzLL (i : Nat) (g : En → Fl) : En → Fl := fun ρ => match ρ[i]? with
  | some (some (.ll xss)) => g (ρ.set i (some (.d (.list (xss.map .list)))))
  | _ => g ρ
theorem sd_frzLL (i : Nat) (h : PSs X sts (tS X.K X.mg W g)) : PSs X sts (tS X.K X.mg W (sFrzLL i g)) := PSsimp h fun D σ H ⟨G, ρ, S, r, q⟩ => by
  unfold sFrzLL at q
  split at q
  · rename_i xs e
    obtain ⟨S', s, r'⟩ := r.knownLL e
    exact ⟨G, _, _, r', q.mono s⟩
  · exact ⟨G, ρ, S, r, q⟩
theorem atI_map {α β : Type} {f : α → β} {xs : List α} {k : Int} {y : α} (h : atI xs k = some y) : atI (xs.map f) k = some (f y) := by
  unfold atI at h ⊢
  rw [List.length_map]
  cases e : ixN xs.length k with
  | none => rw [e] at h; cases h
  | some j =>
    rw [e] at h
    simp only [Option.bind_some] at h ⊢
    rw [List.getElem?_map, h]
    rfl
theorem atI_nth {α : Type} {xs : List α} {k : Int} {y : α} (h : atI xs k = some y) : ∃ j, ixN xs.length k = some j ∧ xs[j]? = some y := by
  unfold atI at h
  cases e : ixN xs.length k with
  | none => rw [e] at h; cases h
  | some j =>
    rw [e] at h
    exact ⟨j, rfl, h⟩
theorem LLs.at {K : PySem.W.Frag} {S H : Hp} {bs : List Addr} {xss : List (List PD)} {k : Int} {xs : List PD} (h : LLs K S H bs xss) (e : atI xss k = some xs) : ∃ j b vs, ixN xss.length k = some j ∧ bs[j]? = some b ∧ atI (bs.map V.ref) k = some (.ref b) ∧ H b = some (.lst vs) ∧ RpA K S vs xs := by
  obtain ⟨j, h1, h2⟩ := atI_nth e
  obtain ⟨b, vs, q1, q2, q3⟩ := h.get h2
  refine ⟨j, b, vs, h1, q1, ?_, q2, q3⟩
  unfold atI
  rw [List.length_map, h.length, h1]
  simp only [Option.bind_some, List.getElem?_map, q1]
  rfl
/-- x[k][j] -/
def dIx2 (i : Nat) (fk fj : En → R PD) : En → R PD := fun ρ => match ρ[i]? with
  | some (some (.ll xss)) => (fk ρ).bind fun k => match k with
    | .int k => (match atI xss k with
      | some xs => (fj ρ).bind fun j => match j with
        | .int j => (match atI xs j with
          | some d => .ok d
          | none => .no)
        | _ => .no
      | none => .no)
    | _ => .no
  | _ => .no
theorem pd_ix2 (i : Nat) {p p2 : Pos} {ek ej : Expr} {fk fj : En → R PD} (hk : PE X ek (tD X.K X.mg W fk)) (hj : PE X ej (tD X.K X.mg W fj)) (hN : X.N[i]? = some x := by rfl) (hv : Vis X.env.scope x := by first | exact Or.inl rfl | exact Or.inr (Or.inl rfl) | exact Or.inr (Or.inr rfl)) (hd : (x == ("__debug__" : Str)) = false := by decide)
    (hcd : (x == ("__classdict__" : Str)) = false := by decide) (hs : PlainIx ek := by exact fun _ _ => rfl) (hs2 : PlainIx ej := by exact fun _ _ => rfl) : PE X (.Subscript (.Subscript (.Name x p) ek p2) ej pos) (tD X.K X.mg W (dIx2 i fk fj)) :=
  PEimp (pe_ix (ix_seq (X := X)) (pe_ix (ix_seq (X := X)) (pe_var hN hv hd hcd) hk hs) hj hs2) fun σ H Q ⟨G, ρ, S, r, q⟩ => by
  unfold dIx2 at q
  split at q
  · rename_i xss e
    obtain ⟨a, bs, h1, h2, h3, h4, h5⟩ := r.slotLL e
    refine ⟨_, h1, tG.mk r (wG.imp ?_ (wG.bind (rp := Rp X.K) q))⟩
    rintro v H1 ⟨S1, d, e1, ra, q1⟩
    cases d with
    | int k =>
      cases ra
      dsimp only at q1
      split at q1
      · rename_i xs ex
        obtain ⟨j, b, vs, z1, z2, z3, z4, z5⟩ := h4.at ex
        refine .inl ⟨_, _, _, .ref b, rfl, rfl, SqL.of (e1.all _ _ h3), z3, tG.mk (r.ext e1) (wG.imp ?_ (wG.bind (rp := Rp X.K) q1))⟩
        rintro v2 H2 ⟨S2, d2, e2, rb, q2⟩
        cases d2 with
        | int j2 =>
          cases rb
          dsimp only at q2
          split at q2
          · rename_i d e3
            have e12 := e1.trans e2
            obtain ⟨v3, hv3, hr3⟩ := atI_rp z5 e3
            exact .inl ⟨_, _, _, v3, rfl, rfl, SqL.of (e12.all _ _ z4), hv3, q2 v3 S2 H2 (Ext.refl e2.inn) (Rp.mono e12.sub _ _ hr3)⟩
          · exact q2.elim
        | _ => exact q2.elim
      · exact q1.elim
    | _ => exact q1.elim
  · exact q.elim
/-- x[k][j] = e -/
def sPut2 (i : Nat) (fk fj fe : En → R PD) : En → Fl := fun ρ => match ρ[i]? with
  | some (some (.ll xss)) => sE fe (fun d => sE fk fun k => match k with
    | .int k => (match atI xss k with
      | some xs => sE fj fun j ρ => (match j with
        | .int j => (match ixN xs.length j with
          | some j => .nx (ρ.set i (some (.ll (xss.set ((ixN xss.length k).getD 0) (xs.set j d)))))
          | none => .no)
        | _ => .no)
      | none => fun _ => .no)
    | _ => fun _ => .no) ρ
  | _ => .no
theorem free_of {S1 H1 S2 H2 : Hp} (e : Ext S1 H1 S2 H2) {a : Addr} {o : HO} (h : S1 a = none) (h2 : H1 a = some o) : S2 a = none := e.none h (ne_some h2)
theorem sd_put2 (i : Nat) {px p2 pt : Pos} {ek ej : Expr} {fk fj fe : En → R PD} (hk : PE X ek (tD X.K X.mg W fk)) (hj : PE X ej (tD X.K X.mg W fj)) (he : PE X e (tD X.K X.mg W fe)) (hN : X.N[i]? = some x := by rfl) (hv : Vis X.env.scope x := by first | exact Or.inl rfl | exact Or.inr (Or.inl rfl) | exact Or.inr (Or.inr rfl))
    (hd : (x == ("__debug__" : Str)) = false := by decide) (hcd : (x == ("__classdict__" : Str)) = false := by decide) (hsx : PlainIx ek := by exact fun _ _ => rfl)
    (ha : ∀ v, assign (.Subscript (.Subscript (.Name x px) ek p2) ej pt) X.env v = (do
      let ov ← holding [v] (eval (.Subscript (.Name x px) ek p2) X.env)
      let iv ← holding [v, ov] (eval ej X.env)
      standAt pt
      holding [v, ov, iv] (setItem ov iv v)
      release [v, ov, iv] []) := by intro _; rfl)
    (hs : swapsWithSole [.Subscript (.Subscript (.Name x px) ek p2) ej pt] e pos.line X.env = pure false := by rfl) (hw : swappedStores [.Subscript (.Subscript (.Name x px) ek p2) ej pt] e X.env = pure none := by rfl)
    (h1 : (assignEach [.Subscript (.Subscript (.Name x px) ek p2) ej pt] X.env).map (·.2) = [assign (.Subscript (.Subscript (.Name x px) ek p2) ej pt) X.env] := by rfl) :
    PS X (.Assign [.Subscript (.Subscript (.Name x px) ek p2) ej pt] e pos) (tS X.K X.mg W (sPut2 i fk fj fe)) :=
  PSimp (ps_asg he (pg_sub (pe_ix (ix_seq (X := X)) (pe_var hN hv hd hcd) hk hsx) hj set_list ha) hs hw h1) fun D σ H ⟨G, ρ, S, r, q⟩ => by
    unfold sPut2 at q
    split at q
    · rename_i xss e
      obtain ⟨a, bs, h1, h2, h3, h4, h5⟩ := r.slotLL e
      refine tG.mk r (wG.imp ?_ (wS.ofE (rp := Rp X.K) r q))
      rintro v H1 ⟨S1, d, e1, ra, r1, q1⟩
      refine ⟨_, h1, tG.mk r1 (wG.imp ?_ (wS.ofE (rp := Rp X.K) r1 q1))⟩
      rintro kv H2 ⟨S2, k, e2, rk, r2, q2⟩
      cases k with
      | int k =>
        cases rk
        dsimp only at q2
        cases ex : atI xss k with
        | none => rw [ex] at q2; exact q2.elim
        | some xs =>
          rw [ex] at q2
          dsimp only at q2
          obtain ⟨m, b, vs, z1, z2, z3, z4, z5⟩ := h4.at ex
          rw [z1] at q2
          have e12 := e1.trans e2
          refine .inl ⟨_, _, _, .ref b, rfl, rfl, SqL.of (e12.all _ _ h3), z3, tG.mk r2 (wG.imp ?_ (wS.ofE (rp := Rp X.K) r2 q2))⟩
          rintro jv H3 ⟨S3, j, e3, rj, r3, q3⟩
          cases j with
          | int j =>
            cases rj
            dsimp only at q3
            split at q3
            · rename_i j2 hj2
              have e123 := e12.trans e3
              exact ⟨b, vs, j, j2, rfl, rfl, e123.all _ _ z4, by rw [z5.length]; exact hj2, q3 σ S3 _ (Same.refl _) (r3.changeLL e h1 (e123.all _ _ h3) z2 (RpA.set (Rp.mono (e2.sub.trans e3.sub) _ _ ra) j2 (RpA.mono e123.sub _ _ z5)))⟩
            · exact q3.elim
          | _ => exact q3.elim
      | _ => exact q2.elim
    · exact q.elim
/-- x[k].append(e) -/
def sApp2 (i : Nat) (fk fe : En → R PD) : En → Fl := fun ρ => match ρ[i]? with
  | some (some (.ll xss)) => sE fk (fun k => match k with
    | .int k => (match atI xss k with
      | some xs => sE fe fun d ρ => if xs.length < 16777216 then .nx (ρ.set i (some (.ll (xss.set ((ixN xss.length k).getD 0) (xs ++ [d]))))) else .no
      | none => fun _ => .no)
    | _ => fun _ => .no) ρ
  | _ => .no
end
end DL

set_option Elab.async false
set_option linter.all false
set_option maxRecDepth 100000
set_option maxHeartbeats 4000000
set_option autoImplicit false
/-! the data layer 11: exceptions that are caught and kept -/
namespace DL
open PySem L2
/-- whether a class of the program's errors is, or is under, T -/
def subX (c T : Str) : Bool := decide (T = "YardError") || (decide (T = "ValueError") || decide (c = T))
structure XAt (K : PySem.W.Frag) (mg : MG) (es : List Str) (T : Str) : Prop where
  nm : mg T = some (.ref (He.ga K T))
  ex : ∀ c ∈ es, mg c = some (.ref (He.ga K c)) ∧ PySem.W.exmOne K (.ref (He.ga K c)) (.ref (He.ga K T)) = some (subX c T)
def sTryK (es : List Str) (T : Str) (i j : Nat) (f : En → Fl) : En → Fl := fun ρ => match f ρ with
  | .ex c ρ' => if c ∈ es ∧ i < ρ'.length then (if subX c T = true then .nx (((ρ'.set i none).set j (some (.d (exD c)))).set i none) else .ex c ρ') else .no
  | r => r
def noX : Fl → Fl
  | .ex _ _ => .no
  | r => r
def sTryC (es : List Str) (T : Str) (f g : En → Fl) : En → Fl := fun ρ => match f ρ with
  | .ex c ρ' => if c ∈ es then (if subX c T = true then noX (g ρ') else .ex c ρ') else .no
  | r => r
section
variable {X : Cx} {W : WX} {f : En → Fl} {g : En → Fl} {es : List Str} {T n y : Str} {i j : Nat} {body suite : List Stmt} {b₀ : Stmt} {np py pn' pa pos pos' : Pos}
theorem sd_tryK (F : XAt X.K X.mg es T) (hs : X.stack = X.env :: X.outer) (hf : X.env.frame = some X.env.locals) (hex : X.ex = []) (hN : X.N.Nodup) (hi : X.N[i]? = some n) (hln : X.env.kindOf n = some .local) (hj : X.N[j]? = some y) (hlj : X.env.scope.names.lookup y = some .local)
    (hgl : Gl X T) (tk : Takes X W) (hB : ∀ (W : WX) (pn : List (Addr × Obj)) (xe : Value → Shared → Prop), Takes (X.tr pn xe) W → PassesOwn (model X.prog X.w) X.A X.env xe → PSs (X.tr pn xe) body (tS X.K X.mg W f))
    (hd : (n == ("__debug__" : Str)) = false := by decide) (hcd : (n == ("__classdict__" : Str)) = false := by decide) (hdT : (T == ("__debug__" : Str)) = false := by decide) (hv : Vis X.env.scope n := by exact Or.inl rfl)
    (hsw : swapsWith (.Name n pn') (some (.Name y py)) pa.line X.env = pure false := by rfl) (hw : swappedStores [.Name y py] (.Name n pn') X.env = pure none := by rfl) :
    PS X (.Try body [.ExceptHandler (some (.Name T np)) (some n) [.Assign [.Name y py] (.Name n pn') pa] pos'] [] [] pos) (tS X.K X.mg W (sTryK es T i j f)) := by
  refine PSimp (ps_try_keep (c := .ref (He.ga X.K T)) (i := i) hex hs hf hN hi hln ⟨hgl, hdT, .inl F.nm⟩ tk (tb := fun W => tS X.K X.mg W f) hB
    (fun a oe cls d pn hz hf => pss_one (ps_asg (X := X.suite a ((a, oe) :: pn)) (pe_var (X := X.suite a ((a, oe) :: pn)) hi hv hd hcd) (pg_name (X := X.suite a ((a, oe) :: pn)) hN hj (.inl hlj) (.inr hlj)) hsw hw))) ?_
  rintro D σ H ⟨G, ρ, S, r, q⟩
  refine ⟨G, ρ, S, r, ?_⟩
  unfold sTryK at q
  cases z : f ρ with
  | nx ρ' => rw [z] at q; exact q
  | rt d => rw [z] at q; exact q
  | rm d ρ' => rw [z] at q; exact q
  | bk ρ' => rw [z] at q; exact q
  | ct ρ' => rw [z] at q; exact q
  | no => rw [z] at q; exact q
  | ex c ρ' =>
    rw [z] at q
    dsimp only at q
    intro cls σ' S' H' hm s rel
    by_cases hc : c ∈ es ∧ i < ρ'.length
    · rw [if_pos hc] at q
      obtain ⟨f1, f2⟩ := F.ex c hc.1
      rw [f1] at hm
      cases hm
      refine ⟨_, f2, fun hb => ⟨rfl, fun a ha => ?_⟩, fun hb => ?_⟩
      · rw [if_pos hb] at q
        refine ⟨.ref a, List.getElem?_set_self (by rw [rel.len]; exact hc.2), fun _ => ?_⟩
        have e := Ext.known (o := ExK (.ref (He.ga X.K c)) a) rel.inn ha
        have r1 := ((rel.ext e).forget i (some (.ref a))).setD (.exc (K := X.K) (c := c) upd_same) j
        exact q _ _ _ (s.trans e.sub) (r1.forget i none)
      · rw [if_neg (by rw [hb]; exact Bool.false_ne_true)] at q
        exact q _ σ' S' H' f1 s rel
    · rw [if_neg hc] at q; exact q.elim
theorem sd_tryC (F : XAt X.K X.mg es T) (hs : X.stack = X.env :: X.outer) (hf : X.env.frame = some X.env.locals)
    (hgl : Gl X T) (tk : Takes X W) (hB : ∀ (W : WX) (pn : List (Addr × Obj)) (xe : Value → Shared → Prop), Takes (X.tr pn xe) W → PassesOwn (model X.prog X.w) X.A X.env xe → PSs (X.tr pn xe) body (tS X.K X.mg W f))
    (hS : ∀ (a : Addr) (pn : List (Addr × Obj)), PSs (X.suite a pn) (b₀ :: suite) (tS X.K X.mg W0 g)) (hdT : (T == ("__debug__" : Str)) = false := by decide) :
    PS X (.Try body [.ExceptHandler (some (.Name T np)) none (b₀ :: suite) pos'] [] [] pos) (tS X.K X.mg W (sTryC es T f g)) := by
  refine PSimp (ps_try_only (c := .ref (He.ga X.K T)) hs hf ⟨hgl, hdT, .inl F.nm⟩ tk (tb := fun W => tS X.K X.mg W f) hB (ts := fun _ _ _ => tS X.K X.mg W0 g) (fun a oe cls d pn hz hf => hS a ((a, oe) :: pn))) ?_
  rintro D σ H ⟨G, ρ, S, r, q⟩
  refine ⟨G, ρ, S, r, ?_⟩
  unfold sTryC at q
  cases z : f ρ with
  | nx ρ' => rw [z] at q; exact q
  | rt d => rw [z] at q; exact q
  | rm d ρ' => rw [z] at q; exact q
  | bk ρ' => rw [z] at q; exact q
  | ct ρ' => rw [z] at q; exact q
  | no => rw [z] at q; exact q
  | ex c ρ' =>
    rw [z] at q
    dsimp only at q
    intro cls σ' S' H' hm s rel
    by_cases hc : c ∈ es
    · rw [if_pos hc] at q
      obtain ⟨f1, f2⟩ := F.ex c hc
      rw [f1] at hm
      cases hm
      refine ⟨_, f2, fun hb a ha => ?_, fun hb => ?_⟩
      · rw [if_pos hb] at q
        refine ⟨G, ρ', S', rel, ?_⟩
        cases w : g ρ' with
        | nx ρ' => rw [w] at q; exact q.mono (r := .nx ρ') s
        | rt d => rw [w] at q; exact q
        | rm d ρ' => rw [w] at q; exact q.mono (r := .rm d ρ') s
        | bk ρ' => rw [w] at q; exact q.mono (r := .bk ρ') s
        | ct ρ' => rw [w] at q; exact q.mono (r := .ct ρ') s
        | no => rw [w] at q; exact q
        | ex c ρ' => rw [w] at q; exact q.elim
      · rw [if_neg (by rw [hb]; exact Bool.false_ne_true)] at q
        exact q _ σ' S' H' f1 s rel
    · rw [if_neg hc] at q; exact q.elim
end
/-! isinstance(e, T) of a kept error -/
structure XIs (K : PySem.W.Frag) (es : List Str) (T : Str) (cv : Value) : Prop where
  ex : ∀ c ∈ es, ExcC K (He.ga K c) ∧ PySem.W.kitOne K (.ref (He.ga K c)) cv = some (subX c T)
theorem keyD_none {k : L2.Key} (h : KeyD k .none) : False := by cases k <;> exact h
def gIsE (es : List Str) (T : Str) : PD → R PD
  | .dict [(.none, .str c)] => if c ∈ es then .ok (.bool (subX c T)) else .no
  | _ => .no
theorem call_isK {X : Cx} : CallR X (.builtin "isinstance") (fun xs H Q => ∃ (a : Addr) (c : V) (cv : Value) (b : Bool) (D : Addr), xs = [.ref a, c] ∧ H a = some (ExK (.ref D) a) ∧ ExcC X.K D ∧ (∀ u, RelV c u → u = cv) ∧ PySem.W.kitOne X.K (.ref D) cv = some b ∧ Q (.bl b) H) := by
  intro pins s σ H xs us Q I r h
  obtain ⟨a, c, cv, b, D, rfl, ha, C, hcv, e, q⟩ := h
  cases r with
  | cons rx rr =>
    cases rr with
    | cons rt rr =>
      cases rr
      cases rx
      have ec := hcv _ rt
      subst ec
      obtain ⟨⟨oe, vs, hget, hz, hv⟩, _, _⟩ := I.hok a _ ha
      have J : PySem.W.InstAt s.heap a oe D none := by
        obtain ⟨oc, od, oda, osl⟩ := oe
        obtain ⟨h1, h2⟩ := hz
        dsimp only at h1 h2 hv
        subst h1 h2 hv
        exact ⟨hget, rfl, rfl, trivial⟩
      exact PySem.W.kia_one (PySem.W.handS_kitx_exc C.hg C.hk C.hs C.hd C.ha C.hn C.ht C.hm) I.kIn J e (fun z => nomatch z) fun tk => ⟨.bl b, H, I.kept (t' := tk) fun _ _ z => z, rfl, q⟩
def excCB (K : PySem.W.Frag) (D : Addr) : Bool := decide (PySem.W.findIn K (.ref D) "__getattribute__" = some (some (.builtin "BaseException.__getattribute__"))) && (decide (PySem.W.findIn K (.ref D) "__getattr__" = some none) && (decide (PySem.W.subIn K (.ref D) (.type "BaseException") = some true) && (PySem.W.hasDictIn K D && (decide (PySem.W.findIn K (.ref D) "__class__" = some (some (.builtin "object.__class__"))) &&
  (decide (PySem.W.specialIn K (.builtin "object.__class__") "__get__" = some (some (.builtin "getset_descriptor.__get__"))) && (decide (PySem.W.takesIn K (.builtin "object.__class__") = some true) && decide (PySem.W.mroIn K D (.type "object") = some true)))))))
theorem excC_ok {K : PySem.W.Frag} {D : Addr} (h : excCB K D = true) : ExcC K D := by
  unfold excCB at h
  simp only [Bool.and_eq_true, decide_eq_true_eq] at h
  obtain ⟨h1, h2, h3, h4, h5, h6, h7, h8⟩ := h
  exact ⟨h1, h2, h3, h4, h5, h6, h7, h8⟩
def xisB (K : PySem.W.Frag) (es : List Str) (T : Str) (cv : Value) : Bool := es.all fun c => excCB K (He.ga K c) && decide (PySem.W.kitOne K (.ref (He.ga K c)) cv = some (subX c T))
theorem xis_ok {K : PySem.W.Frag} {es : List Str} {T : Str} {cv : Value} (h : xisB K es T cv = true) : XIs K es T cv := ⟨fun c hc => by
  have := List.all_eq_true.mp h c hc
  simp only [Bool.and_eq_true, decide_eq_true_eq] at this
  exact ⟨excC_ok this.1, this.2⟩⟩
def xatB (K : PySem.W.Frag) (es : List Str) (T : Str) : Bool := es.all fun c => decide (PySem.W.exmOne K (.ref (He.ga K c)) (.ref (He.ga K T)) = some (subX c T))
theorem xat_ok {K : PySem.W.Frag} {mg : MG} {es : List Str} {T : Str} (h : xatB K es T = true) (hT : mg T = some (.ref (He.ga K T))) (hc : ∀ c ∈ es, mg c = some (.ref (He.ga K c))) : XAt K mg es T := ⟨hT, fun c hm => by
  have := List.all_eq_true.mp h c hm
  exact ⟨hc c hm, by simpa using this⟩⟩
section
variable {X : Cx} {W : WX} {f : En → R PD} {es : List Str} {T : Str} {e : Expr} {p pt pos : Pos}
theorem isE_of {cv : Value} {c : V} (F : XIs X.K es T cv) (hc : ∀ u, RelV c u → u = cv) {te : TE} (ht : ∀ σ H Q, Q c H → te σ H Q) : ∀ σ H Q, tD X.K X.mg W (d1 (gIsE es T) f) σ H Q → (tD X.K X.mg W f) σ H fun x H1 => te σ H1 fun y H2 => (fun xs H Q => ∃ (a : Addr) (c : V) (cv : Value) (b : Bool) (D : Addr), xs = [V.ref a, c] ∧ H a = some (ExK (.ref D) a) ∧ ExcC X.K D ∧ (∀ u, RelV c u → u = cv) ∧ PySem.W.kitOne X.K (.ref D) cv = some b ∧ Q (V.bl b) H) [x, y] H2 Q := by
  rintro σ H Q ⟨G, ρ, S, rel, h⟩
  refine tG.mk rel (wG.imp ?_ (wG.bind (rp := Rp X.K) h))
  rintro v H1 ⟨S1, d, e1, ra, h1⟩
  refine ht _ _ _ ?_
  unfold gIsE at h1
  split at h1
  · rename_i c'
    cases ra with
    | exc hh =>
      split at h1
      · rename_i hm
        obtain ⟨f1, f2⟩ := F.ex _ hm
        exact ⟨_, c, cv, _, _, rfl, e1.inn _ _ hh, f1, hc, f2, h1 _ S1 H1 (Ext.refl e1.inn) (.bl _)⟩
      · exact h1.elim
    | dct hh hk =>
      cases hk with
      | cons hkd _ _ => exact (keyD_none hkd).elim
  · exact h1.elim
theorem pd_isE (F : XIs X.K es T (.ref (He.ga X.K T))) (hm : X.mg "isinstance" = none) (hT : X.mg T = some (.ref (He.ga X.K T))) (ha : PE X e (tD X.K X.mg W f)) (hg : Gl X "isinstance" := by rfl) (hgt : Gl X T := by rfl) (hdb : (T == ("__debug__" : Str)) = false := by decide)
    (he : starEach [e, .Name T pt] X.env = (false, eval e X.env) :: starEach [.Name T pt] X.env := by rfl) (he2 : starEach [.Name T pt] X.env = (false, eval (.Name T pt) X.env) :: starEach [] X.env := by rfl) (hpl : (backTo pos (starEach [.Name T pt] X.env)).any (·.1) = false := by rfl) :
    PE X (.Call (.Name "isinstance" p) [e, .Name T pt] [] pos) (tD X.K X.mg W (d1 (gIsE es T) f)) :=
  PEimp (pe_callB call_isK hg hm (by decide +kernel) (pa_cons ha (pa_cons (pe_glob (v := .ref (He.ga X.K T)) hgt hT rfl hdb) pa_nil he2) he) (by decide) (by decide) he hpl) fun σ H Q h => isE_of (c := .ref (He.ga X.K T)) (te := fun σ H Q => Q (.ref (He.ga X.K T)) H) F (fun u hu => hu) (fun _ _ _ q => q) σ H Q h
theorem pd_isV {B : String} (F : XIs X.K es T (.type B)) (hm : X.mg "isinstance" = none) (hmt : X.mg T = none) (hv : bootBuiltins T = some (.type B)) (ha : PE X e (tD X.K X.mg W f)) (hg : Gl X "isinstance" := by rfl) (hgt : Gl X T := by rfl) (hnn : T ≠ "__name__" := by decide) (hdb : (T == ("__debug__" : Str)) = false := by decide)
    (he : starEach [e, .Name T pt] X.env = (false, eval e X.env) :: starEach [.Name T pt] X.env := by rfl) (he2 : starEach [.Name T pt] X.env = (false, eval (.Name T pt) X.env) :: starEach [] X.env := by rfl) (hpl : (backTo pos (starEach [.Name T pt] X.env)).any (·.1) = false := by rfl) :
    PE X (.Call (.Name "isinstance" p) [e, .Name T pt] [] pos) (tD X.K X.mg W (d1 (gIsE es T) f)) :=
  PEimp (pe_callB call_isK hg hm (by decide +kernel) (pa_cons ha (pa_cons (pe_bltn (v := .ty B) hgt hmt hv rfl hnn hdb) pa_nil he2) he) (by decide) (by decide) he hpl) fun σ H Q h => isE_of (c := .ty B) (te := fun σ H Q => Q (.ty B) H) F (fun u hu => hu) (fun _ _ _ q => q) σ H Q h
end
end DL

set_option Elab.async false
set_option linter.all false
set_option maxRecDepth 100000
set_option maxHeartbeats 4000000
set_option autoImplicit false
/-! list(reversed(a list)) -/
namespace DXb
open PySem PySem.Spec PyProof.Rows RT
section
variable {prog : Program} {w : World} {A : Around} {E : Value → Shared → Prop} {s : Shared}
theorem extend_rev {R : Result → Shared → Prop} (hh : A.handled = none) {it l : Addr} {items : Array Value} (S : Addr) (res : Value) (c₀ : Nat) (hS : s.heap.get? S = some { cls := .type "list", data := .seq #[] c₀ })
    (hit : s.heap.IsRevIter it l ((items.size : Int) - 1)) (hl : s.heap.IsList l items) (hne : l ≠ it) (hSi : S ≠ it) (hSl : S ≠ l) (hn : items.size ≤ sizeLine)
    (hR : ∀ h' tk acc' c', (∀ b o, b ≠ S → b ≠ it → s.heap.get? b = some o → h'.get? b = some o) → h'.get? S = some { cls := .type "list", dict := none, data := .seq acc' c', slots := #[] } →
      ItemsOf (fun i v => items[items.size - 1 - i]? = some v) acc' items.size → R (.ok (.ret res)) { s with heap := h', toks := tk }) :
    wpAny (model prog w) A.in1 (Builtin.List.listExtendWith (.ref S) (.ref it) res)
      (fun fin s' => match fin with | .done f => R (.ok f) s' | .again c' => c'.quiet = true ∧ codeAny (model prog w) A c' R s') (fun e s' => R (.error e) s') s := by
  have W := (Walks.listRev (prog := prog) (w := w) (A := A.in1) hh it l hne items).toS
  have hSf : S ∉ [it, l] := by simp only [List.mem_cons, List.not_mem_nil, or_false, not_or]; exact ⟨hSi, hSl⟩
  have hT : s.TypeIs (.ref it) "list_reverseiterator" := hit.typeIs
  have h1 : Builtin.List.listSameRef (.ref S) (.ref it) = false := by simp [Builtin.List.listSameRef, hSi]
  unfold Builtin.List.listExtendWith
  refine wpAny_bind (wpAny_typeOf hT ?_)
  rw [if_neg (by rw [h1]; decide)]
  refine wpAny_bind (wpAny_pyIter_revIter hit ?_)
  refine wpAny_bind (wpAny_holding ?_)
  unfold Builtin.List.listLengthHint
  refine wpAny_bind (wpAny_specialOf hT nolen_lri ?_)
  show wpAny _ A.in1 (specialOf (Value.ref it) (Str.ofString "__length_hint__") >>= _) _ _ _
  refine wpAny_bind (wpAny_specialOf hT hint_lri ?_)
  generalize hid : ("list_reverseiterator.__length_hint__" : String) = id0
  wp_delta
  rw [show splitId id0 = some ("list_reverseiterator", "__length_hint__") from by subst hid; decide +kernel]
  subst hid
  refine wpAny_bind (wpAny_isInstance (b := true) hT (by rw [isSubtype_type]; kernel_rfl) ?_)
  refine wpAny_pure ?_
  rw [if_neg (by decide)]
  have e0 : ((items.size : Nat) : Int) - 1 - ((0 : Nat) : Int) = (items.size : Int) - 1 := by omega
  refine wpAny_pure ⟨plainId_quiet F.plain_extend_loop _, codeAny_extend_loopS W hn _ hSf _ items.size 0 _ _ _ rfl (Nat.zero_le _) ⟨Nat.zero_le _, by rw [e0]; exact hit, hl⟩ hS (ItemsOf.nil _) fun s' acc' c' hm hS' hacc => ?_⟩
  rw [Moved.eq_with hm]
  refine hR s'.heap s'.toks acc' c' (fun b o hb hi e => hm.heap b o (fun hmem => ?_) e) hS' hacc
  rcases List.mem_cons.mp hmem with e' | hmem
  · exact hb e'
  · exact hi (List.mem_singleton.mp hmem)
theorem list_init_rev {R : Result → Shared → Prop} (hh : A.handled = none) {it l : Addr} {items : Array Value} (S : Addr) (hS : s.heap.get? S = some { cls := .type "list", data := .seq #[] })
    (hit : s.heap.IsRevIter it l ((items.size : Int) - 1)) (hl : s.heap.IsList l items) (hne : l ≠ it) (hSi : S ≠ it) (hSl : S ≠ l) (hn : items.size ≤ sizeLine)
    (hR : ∀ h' tk acc' c', (∀ b o, b ≠ S → b ≠ it → s.heap.get? b = some o → h'.get? b = some o) → h'.get? S = some { cls := .type "list", dict := none, data := .seq acc' c', slots := #[] } →
      ItemsOf (fun i v => items[items.size - 1 - i]? = some v) acc' items.size → R (.ok (.ret .none)) { s with heap := h', toks := tk }) :
    wpAny (model prog w) A.in1 (Builtin.«list.__init__» ⟨[.ref S, .ref it], []⟩)
      (fun fin s' => match fin with | .done f => R (.ok f) s' | .again c' => c'.quiet = true ∧ codeAny (model prog w) A c' R s') (fun e s' => R (.error e) s') s := by
  show wpAny _ _ (do let old ← Builtin.List.listItems (.ref S); Builtin.List.listUpdate (.ref S) (fun _ => #[]); letGo old.toList.reverse; Builtin.List.listExtendWith (.ref S) (.ref it) .none) _ _ s
  refine wpAny_bind ?_
  unfold Builtin.List.listItems
  refine wpAny_bind (wpAny_seqItems hS rfl (wpAny_pure ?_))
  show wpAny _ _ (updateSeq S (fun _ => #[]) >>= fun _ => letGo (#[] : Array Value).toList.reverse >>= fun _ => Builtin.List.listExtendWith (.ref S) (.ref it) .none) _ _ s
  refine wpAny_bind (wpAny_updateSeq hS rfl ?_)
  have hS₂ := Heap.get?_update_self (Obj.mapSeq (fun _ => (#[] : Array Value))) hS rfl
  have oth : ∀ b o, b ≠ S → s.heap.get? b = some o → (s.heap.update S (Obj.mapSeq (fun _ => (#[] : Array Value)))).get? b = some o :=
    fun b o hb e => (Heap.get?_update_other _ _ (Ne.symm hb)).trans e
  refine wpAny_bind (wpAny_letGo ?_)
  refine extend_rev hh S .none _ hS₂ (hit.at fun o e => oth _ _ (Ne.symm hSi) e) ?_ hne hSi hSl hn fun h' tk acc' c' hk hS' hacc => ?_
  · obtain ⟨o, q, r⟩ := hl
    exact ⟨o, oth _ _ (Ne.symm hSl) q, r⟩
  · exact hR h' tk acc' c' (fun b o hb hi e => hk b o hb hi (oth b o hb e)) hS' hacc
theorem call_list_rev {it l : Addr} {items : Array Value} {Q : Value → Shared → Prop} (hh : A.handled = none) (hit : s.heap.IsRevIter it l ((items.size : Int) - 1)) (hl : s.heap.IsList l items) (hne : l ≠ it) (hn : items.size ≤ sizeLine)
    (hQ : ∀ h' tk acc' c', (∀ b o, b ≠ it → s.heap.get? b = some o → h'.get? b = some o) → h'.get? s.heap.objs.size = some { cls := .type "list", dict := none, data := .seq acc' c', slots := #[] } →
      ItemsOf (fun i v => items[items.size - 1 - i]? = some v) acc' items.size → Q (.ref s.heap.objs.size) { s with heap := h', toks := tk }) :
    wpAny (model prog w) A (call (.type "list") [.ref it]) Q E s := by
  refine callType_codes (Q₁ := fun obj s₁ => obj = .ref s.heap.objs.size ∧ s₁ = { s with heap := s.heap.push { cls := .type "list", data := .seq #[] } }) F.called_list (F.typeCall_list_1 _) F.entry_list_init
    (code_list_new _ ⟨rfl, rfl⟩) fun obj s₁ h₁ => ?_
  obtain ⟨rfl, rfl⟩ := h₁
  have hS : (s.heap.push { cls := .type "list", data := .seq #[] }).get? s.heap.objs.size = some { cls := .type "list", data := .seq #[] } := Heap.get?_push_size _ rfl
  obtain ⟨oi, hoi, _⟩ := id hit
  obtain ⟨ol, hol, _⟩ := id hl
  have hSi : s.heap.objs.size ≠ it := Nat.ne_of_gt (Heap.lt_size hoi)
  have hSl : s.heap.objs.size ≠ l := Nat.ne_of_gt (Heap.lt_size hol)
  refine ⟨⟨_, hS, rfl⟩, F.args_list_init_2 _ _, list_init_rev (A := A.in1) hh _ hS (hit.at fun o e => Heap.get?_push_of_some _ e) (hl.push _) hne hSi hSl hn fun h' tk acc' c' hk hS' hacc => ?_⟩
  exact ⟨rfl, hQ h' tk acc' c' (fun b o hb e => hk b o (Nat.ne_of_lt (Heap.lt_size e)) hb (Heap.get?_push_of_some _ e)) hS' hacc⟩
end
end DXb
namespace DL
open PySem PySem.Spec PyProof.Rows L2 DXb
/-- list(reversed(x)), x a list: a new list -/
def tLstRev (K : PySem.W.Frag) (te : TE) : TE := fun σ H Q => te σ H fun v H1 => ∃ (a : Addr) (xs : List V), v = .ref a ∧ SqL K H1 a xs ∧ ∀ q, H1 q = none → Q (.ref q) (upd H1 q (.lst xs.reverse))
section
variable {X : Cx}
theorem pe_lstRev {e : Expr} {te : TE} {p p2 pos pos2 : Pos} (hc : X.calm = true) (hg : Gl X "list") (hm : X.mg "list" = none) (hg2 : Gl X "reversed") (hm2 : X.mg "reversed" = none) (he : PE X e te)
    (hs : starEach [e] X.env = (false, eval e X.env) :: starEach [] X.env := by rfl)
    (hs2 : starEach [.Call (.Name "reversed" p2) [e] [] pos2] X.env = (false, eval (.Call (.Name "reversed" p2) [e] [] pos2) X.env) :: starEach [] X.env := by rfl) :
    PE X (.Call (.Name "list" p) [.Call (.Name "reversed" p2) [e] [] pos2] [] pos) (tLstRev X.K te) := by
  refine ⟨fun pins s σ H Q I h => ?_⟩
  refine Call_ (ld_blt I hg hm boot_list (PyProof.Rows.callWith_type1 (args_cons (Call_ (ld_blt I hg2 hm2 PyProof.Rows.boot_reversed (PyProof.Rows.callWith_type1 (args_cons (thn (he.run pins s σ H _ I h) fun u s1 ⟨v, H1, I1, r1, q1⟩ => args_nil ?_) hs) hs rfl))) hs2) hs2 rfl))
  obtain ⟨a, xs, ev, hq, q⟩ := q1
  subst ev
  obtain rfl : u = Value.ref a := r1
  obtain ⟨its, rv, p', hz⟩ := I1.list hq
  refine call_reversed_list p'.isList (args_nil ?_)
  have k0 : ∀ b o, s1.heap.get? b = some o → (s1.heap.push (revObj a ((its.toArray.size : Int) - 1))).get? b = some o := fun b o e => Heap.get?_push_of_some _ e
  have I2 : Inv X pins σ H1 { s1 with heap := s1.heap.push (revObj a ((its.toArray.size : Int) - 1)) } := I1.kept (t' := s1.toks) k0
  obtain ⟨f0, f1, f2, f3, f4, f5⟩ := I1.fpOk (H' := H1) (b := s1.heap.objs.size) (Nat.le_refl _) (I1.hok.fresh (Nat.le_refl _))
  have hl := p'.isList
  obtain ⟨ol, hol, _⟩ := id hl
  have hne : a ≠ s1.heap.objs.size := Nat.ne_of_lt (Heap.lt_size hol)
  have hn : its.toArray.size ≤ sizeLine := by rw [List.size_toArray, ← rv.length]; exact hz
  refine call_list_rev (s := { s1 with heap := s1.heap.push (revObj a ((its.toArray.size : Int) - 1)) }) (I1.ok.hd hc) ⟨_, Heap.get?_push_size _ rfl, rfl, rfl⟩ (hl.push _) hne hn fun h' tk acc c hk hS hi => ?_
  have I3 : Inv X pins σ H1 { s1 with heap := h', toks := tk } := I2.turned (t' := tk) (fun b o hb e => hk b o hb e) f0 f1 f3 f4 f5
  have hp0 := I2.hok.fresh (Nat.le_refl _)
  have n0 : X.s_0.heap.get? (s1.heap.push (revObj a ((its.toArray.size : Int) - 1))).objs.size = none := by
    cases q : X.s_0.heap.get? (s1.heap.push (revObj a ((its.toArray.size : Int) - 1))).objs.size with
    | none => rfl
    | some o => exact absurd (Heap.lt_size q) (Nat.not_lt.mpr I2.sz)
  have rl := RT.vals_rev rv hi
  have I4 := invTrack (o := .lst xs.reverse) I3 hS (fun v z => nomatch z) hp0 n0 (fun z => absurd I2.lt (by rw [← z]; exact Nat.lt_irrefl _)) (fun p hp z => by
    have := Heap.lt_size (I2.pin p hp).1
    rw [z] at this
    exact absurd this (Nat.lt_irrefl _)) ⟨by rw [List.length_reverse]; exact hz, acc.toList, c, rl, by rw [Array.toArray_toList]; exact hS⟩
  exact ⟨.ref (s1.heap.push (revObj a ((its.toArray.size : Int) - 1))).objs.size, _, I4, rfl, q _ hp0⟩
end
end DL

set_option Elab.async false
set_option linter.all false
set_option maxRecDepth 100000
set_option maxHeartbeats 4000000
set_option autoImplicit false
/-! the data layer 12: dict displays, list.count, list.index, list(reversed(x)), x[::-1] -/
namespace DL
open PySem L2
section
variable {X : Cx} {W : WX} {f f1 f2 : En → R PD} {o e : Expr} {p p2 pk pos pos2 apos cpos : Pos} {j : Nat}
theorem pd_dict0 : PE X (.Dict [] [] pos) (tD X.K X.mg W (dC (.dict []))) := PEimp pe_dnewK fun σ H Q ⟨G, ρ, S, r, h⟩ => fun p hp => h (.ref p) _ _ (Ext.known r.inn hp) (.dct upd_same .nil)
def dDisp1 (i : Int) (f : En → R PD) : En → R PD := fun ρ => (f ρ).bind fun d => .ok (.dict [(.int i, d)])
theorem pd_dict1 {i : Int} (he : PE X e (tD X.K X.mg W f)) : PE X (.Dict [some (.Constant (.int i) j pk)] [e] pos) (tD X.K X.mg W (dDisp1 i f)) :=
  PEimp (pe_disp (pps_cons pe_int he pps_nil) rfl rfl (by intro z; cases z) (by show 1 ≤ 15; decide)) fun σ H Q ⟨G, ρ, S, r, h⟩ => by
    intro p hp
    have e1 := Ext.fresh (o := .dK []) r.inn hp
    refine tG.mk (r.ext e1) ?_
    unfold dDisp1 at h
    cases z : f ρ with
    | ok d =>
      rw [z] at h
      intro v S2 H2 e2 rv
      have h2 : H2 p = some (.dK []) := e2.all _ _ upd_same
      have hs : S2 p = none := free_of e2 (r.inn.free hp) upd_same
      refine ⟨h2, [(.inl i, v)], rfl, by show 1 ≤ 15; decide, ?_⟩
      have e3 : Ext S H (upd S2 p (.dK [(.inl i, v)])) (upd H2 p (.dK [(.inl i, v)])) := by
        have e12 := e1.trans e2
        refine ⟨fun a o q => ?_, fun a o q => ?_, fun a o q => ?_, fun a o q => ?_⟩
        · rw [upd_ne (ne_of_none (e12.sub _ _ q) hs)]; exact e12.sub _ _ q
        · rw [upd_ne (ne_of_none q hp)]; exact e12.all _ _ q
        · by_cases ha : a = p
          · subst ha; rw [upd_same] at q ⊢; exact q
          · rw [upd_ne ha] at q ⊢; exact e12.inn _ _ q
        · by_cases ha : a = p
          · subst ha; exact .inr hp
          · rw [upd_ne ha] at q; exact e12.new _ _ q
      refine h (.ref p) _ _ e3 (.dct upd_same (.cons rfl (Rp.mono (fun a o q => ?_) _ _ rv) .nil))
      rw [upd_ne (ne_of_none q hs)]; exact q
    | ex c => rw [z] at h; exact fun cls S' H' m e2 => h cls S' H' m (e1.trans e2)
    | no => rw [z] at h; exact h
/-! methods of lists -/
theorem mt_lcountF : MtR X "list.count" (fun x xs H Q => ∃ (a : Addr) (ys : List V) (y : V), x = .ref a ∧ xs = [y] ∧ SqL X.K H a ys ∧ flatV y = true ∧ ys.all flatV = true ∧ Q (.int (ys.countP fun z => eqV z y : Nat)) H) := by
  intro pins s σ H x xs v us Q I rx rxs h
  obtain ⟨a, ys, y, rfl, rfl, hs, fy, fys, q⟩ := h
  cases rx
  obtain ⟨u, rfl, ry⟩ := rxs.one
  obtain ⟨its, rv, ⟨⟨cls, dd, data, sl⟩, n, ho, hc, hdn, hd⟩, hlen⟩ := I.list hs
  simp only at hc hd
  subst hc hd
  refine call_meets PySem.F.slot_list_count ⟨_, ho, rfl⟩ PySem.F.entry_list_count (PySem.F.args_list_count_2 _ _)
    (SeqAt.list_countAt a its.toArray n dd sl u (eqU y)) ⟨ho, fun u' hu' => mem_eqAt ry fy rv fys u' (by simpa using hu'), ?_⟩
  have ec : ∀ {ys : List V} {its : List Value}, Vals ys its → ys.all flatV = true → its.countP (eqU y) = ys.countP fun z => eqV z y := by
    intro ys
    induction ys with
    | nil => intro its r _; cases r; rfl
    | cons z ys ih =>
      intro its r f
      cases r with
      | cons r1 r2 =>
        rw [List.all_cons, Bool.and_eq_true] at f
        rw [List.countP_cons, List.countP_cons, ih r2 f.2, eqU_of r1 f.1]
  refine ⟨.int (ys.countP fun z => eqV z y : Nat), H, I.tok _, ⟨s.toks, ?_⟩, q⟩
  show Value.int ((its.toArray.toList.countP (eqU y) : Nat) : Int) s.toks = _
  rw [show its.toArray.toList = its by simp, ec rv fys]
def gm_count : PD → PD → R PD
  | .list ds, d => if flatD d = true ∧ ds.all flatD = true then .ok (.int (ds.countP fun z => PyData.eqv z d : Nat)) else .no
  | _, _ => .no
theorem countV_rp {K : PySem.W.Frag} {S : Hp} {v : V} {d : PD} (r : Rp K S v d) (hd : flatD d = true) : ∀ {ds : List PD} {vs : List V}, RpA K S vs ds → ds.all flatD = true → vs.countP (fun z => eqV z v) = ds.countP fun z => PyData.eqv z d
  | [], _, h, _ => by cases h; rfl
  | e :: ds, _, h, f => by
    cases h with
    | cons h1 h2 =>
      rw [List.all_cons, Bool.and_eq_true] at f
      rw [List.countP_cons, List.countP_cons, countV_rp r hd h2 f.2, eqv_rp h1 r f.1 hd]
/-- o.m(e): o is looked at first -/
def dM (k : PD → Bool) (g : PD → PD → R PD) (f1 f2 : En → R PD) : En → R PD := fun ρ => (f1 ρ).bind fun a => if k a = true then (f2 ρ).bind (g a) else .no
def isL : PD → Bool
  | .list _ => true
  | _ => false
def isS : PD → Bool
  | .str _ => true
  | _ => false
/-- a method of lists, by its work on data -/
theorem pd_lm {id : String} {name : Str} {r : V → List V → Hp → VK → Prop} {g : PD → PD → R PD} (slot : Slot "list" name id) (hty : typeOf (.builtin id) = pure (.type "method_descriptor")) (hm : MtR X id r)
    (hg : ∀ (a : Addr) (xs : List V) (ds : List PD) (u : V) (b : PD) (S H : Hp) (Q : VK), Same S H → SqL X.K S a xs → RpA X.K S xs ds → Rp X.K S u b → (match g (.list ds) b with
      | .ok d => ∀ v S' H', Ext S H S' H' → Rp X.K S' v d → Q v H'
      | _ => False) → r (.ref a) [u] H Q) (hn : NoEx g)
    (ho : PE X o (tD X.K X.mg W f1)) (he : PE X e (tD X.K X.mg W f2)) (hbase : attributeBase o name X.env (eval o X.env) = eval o X.env := by rfl)
    (hfew : ((backTo cpos (starEach [e] X.env)).all (fun x => !x.1) && (backToKw cpos (keywordEach [] X.env)).all (fun x => x.1.isSome) && decide (([e] : List Expr).length + ([] : List Keyword).length + (if ([] : List Keyword).isEmpty then 0 else 1) < 30)) = true := by rfl)
    (hline : (apos.endLine == cpos.line) = true := by rfl) (hs : starEach [e] X.env = (false, eval e X.env) :: starEach [] X.env := by rfl) (hplain : (backTo cpos (starEach [] X.env)).any (·.1) = false := by rfl) :
    PE X (.Call (.Attribute o name apos) [e] [] cpos) (tD X.K X.mg W (dM isL g f1 f2)) := PEimp (pe_bm PySem.F.plainAttrs_list slot hty hm ho (pa_cons he pa_nil hs) hbase hfew hline hs hplain) fun σ H Q ⟨G, ρ, S, rel, h⟩ => by
  refine tG.mk rel (wG.imp ?_ (wG.bind (rp := Rp X.K) h))
  rintro x H1 ⟨S1, a, e1, ra, h1⟩
  cases a with
  | list ds =>
    cases ra with
    | lst hq ha =>
      rw [if_pos (show isL (.list ds) = true from rfl)] at h1
      refine ⟨.inl ⟨rfl, _, Same.seq e1.inn hq⟩, tG.mk (rel.ext e1) (wG.imp ?_ (wG.bind (rp := Rp X.K) h1))⟩
      rintro y H2 ⟨S2, b, e2, rb, h2⟩
      refine hg _ _ ds y b S2 H2 Q e2.inn (Same.seq e2.sub hq) (RpA.mono e2.sub _ _ ha) rb ?_
      cases z : g (.list ds) b with
      | ok d => rw [z] at h2; exact h2
      | ex c => exact absurd z (hn _ _ _)
      | no => rw [z] at h2; exact h2
  | _ => rw [if_neg (by intro z; cases z)] at h1; exact h1.elim
theorem nx_count : NoEx gm_count := fun a b c h => by
  unfold gm_count at h
  split at h
  · split at h <;> cases h
  · cases h
theorem pd_m_count (ho : PE X o (tD X.K X.mg W f1)) (he : PE X e (tD X.K X.mg W f2)) (hbase : attributeBase o "count" X.env (eval o X.env) = eval o X.env := by rfl)
    (hfew : ((backTo cpos (starEach [e] X.env)).all (fun x => !x.1) && (backToKw cpos (keywordEach [] X.env)).all (fun x => x.1.isSome) && decide (([e] : List Expr).length + ([] : List Keyword).length + (if ([] : List Keyword).isEmpty then 0 else 1) < 30)) = true := by rfl)
    (hline : (apos.endLine == cpos.line) = true := by rfl) (hs : starEach [e] X.env = (false, eval e X.env) :: starEach [] X.env := by rfl) (hplain : (backTo cpos (starEach [] X.env)).any (·.1) = false := by rfl) :
    PE X (.Call (.Attribute o "count" apos) [e] [] cpos) (tD X.K X.mg W (dM isL gm_count f1 f2)) :=
  pd_lm PySem.F.slot_list_count PySem.F.type_list_count mt_lcountF (fun a xs ds u b S H Q hS hq ha rb h => by
    unfold gm_count at h
    dsimp only at h
    by_cases hf : flatD b = true ∧ ds.all flatD = true
    · rw [if_pos hf] at h
      exact ⟨_, _, u, rfl, rfl, Same.seq hS hq, flat_rp rb hf.1, flatA_rp ha hf.2, by rw [countV_rp rb hf.1 ha hf.2]; exact h _ S H (Ext.refl hS) (.int _)⟩
    · rw [if_neg hf] at h; exact h.elim) nx_count ho he hbase hfew hline hs hplain
def fstEq (d : PD) : List PD → Option Nat
  | [] => none
  | z :: ds => if PyData.eqv z d = true then some 0 else (fstEq d ds).map (· + 1)
theorem fstEq_ok {d : PD} : ∀ {ds : List PD} {j : Nat}, fstEq d ds = some j → ∃ z, ds[j]? = some z ∧ PyData.eqv z d = true ∧ ∀ (m : Nat) (z' : PD), m < j → ds[m]? = some z' → PyData.eqv z' d = false
  | [], _, h => nomatch h
  | z :: ds, j, h => by
    unfold fstEq at h
    by_cases c : PyData.eqv z d = true
    · rw [if_pos c] at h
      cases h
      exact ⟨z, rfl, c, fun m _ hm => absurd hm (Nat.not_lt_zero _)⟩
    · rw [if_neg c] at h
      cases e : fstEq d ds with
      | none => rw [e] at h; cases h
      | some k =>
        rw [e] at h
        cases h
        obtain ⟨z', h1, h2, h3⟩ := fstEq_ok e
        refine ⟨z', by simpa using h1, h2, fun m z'' hm hz => ?_⟩
        cases m with
        | zero => simp at hz; subst hz; simpa using c
        | succ m => exact h3 m z'' (Nat.lt_of_succ_lt_succ hm) (by simpa using hz)
def gm_index : PD → PD → R PD
  | .list ds, d => if SeqAt.shaped (.list ds) = true ∧ SeqAt.shaped d = true then (match fstEq d ds with
    | some j => .ok (.int (j : Nat))
    | none => .no) else .no
  | _, _ => .no
theorem nx_index : NoEx gm_index := fun a b c h => by
  unfold gm_index at h
  split at h
  · split at h
    · split at h <;> cases h
    · cases h
  · cases h
theorem pd_m_index (hu : X.A.units + 65 < cLine) (ho : PE X o (tD X.K X.mg W f1)) (he : PE X e (tD X.K X.mg W f2)) (hbase : attributeBase o "index" X.env (eval o X.env) = eval o X.env := by rfl)
    (hfew : ((backTo cpos (starEach [e] X.env)).all (fun x => !x.1) && (backToKw cpos (keywordEach [] X.env)).all (fun x => x.1.isSome) && decide (([e] : List Expr).length + ([] : List Keyword).length + (if ([] : List Keyword).isEmpty then 0 else 1) < 30)) = true := by rfl)
    (hline : (apos.endLine == cpos.line) = true := by rfl) (hs : starEach [e] X.env = (false, eval e X.env) :: starEach [] X.env := by rfl) (hplain : (backTo cpos (starEach [] X.env)).any (·.1) = false := by rfl) :
    PE X (.Call (.Attribute o "index" apos) [e] [] cpos) (tD X.K X.mg W (dM isL gm_index f1 f2)) :=
  pd_lm PySem.F.slot_list_index PySem.F.type_list_index (mt_indexD hu) (fun a xs ds u b S H Q hS hq ha rb h => by
    unfold gm_index at h
    dsimp only at h
    by_cases hf : SeqAt.shaped (.list ds) = true ∧ SeqAt.shaped b = true
    · rw [if_pos hf] at h
      cases ej : fstEq b ds with
      | none => rw [ej] at h; exact h.elim
      | some j =>
        rw [ej] at h
        obtain ⟨z, h1, h2, h3⟩ := fstEq_ok ej
        exact ⟨_, u, b, ds, j, z, rfl, rfl, Rp.dp _ _ (SeqAt.canLay_of_shaped hf.1) (Rp.mono hS _ _ (.lst hq ha)), Rp.dp _ _ (SeqAt.canLay_of_shaped hf.2) (Rp.mono hS _ _ rb), hf.1, hf.2, h1, h2, h3, h _ S H (Ext.refl hS) (.int _)⟩
    · rw [if_neg hf] at h; exact h.elim) nx_index ho he hbase hfew hline hs hplain
/-! turned about -/
def gRevL : PD → R PD
  | .list ds => .ok (.list ds.reverse)
  | _ => .no
theorem revL_of {te : TE} (h : ∀ σ H Q, tD X.K X.mg W f σ H Q → te σ H Q) : ∀ σ H Q, tD X.K X.mg W (d1 gRevL f) σ H Q → (te σ H fun v H1 => ∃ (a : Addr) (xs : List V), v = .ref a ∧ SqL X.K H1 a xs ∧ ∀ q, H1 q = none → Q (.ref q) (upd H1 q (.lst xs.reverse))) := by
  rintro σ H Q ⟨G, ρ, S, rel, q⟩
  refine h _ _ _ (tG.mk rel (wG.imp ?_ (wG.bind (rp := Rp X.K) q)))
  rintro x H1 ⟨S1, a, e1, ra, h1⟩
  cases a with
  | list ds =>
    cases ra with
    | lst hq ha =>
      refine ⟨_, _, rfl, Same.seq e1.inn hq, fun p hp => ?_⟩
      obtain ⟨e2, r2⟩ := Rp.newL e1.inn hp ha.reverse
      exact h1 _ _ _ e2 r2
  | _ => exact h1.elim
theorem pd_lrev (hc : X.calm = true) (hm : X.mg "list" = none) (hm2 : X.mg "reversed" = none) (he : PE X e (tD X.K X.mg W f)) (hg : Gl X "list" := by rfl) (hg2 : Gl X "reversed" := by rfl)
    (hs : starEach [e] X.env = (false, eval e X.env) :: starEach [] X.env := by rfl)
    (hs2 : starEach [.Call (.Name "reversed" p2) [e] [] pos2] X.env = (false, eval (.Call (.Name "reversed" p2) [e] [] pos2) X.env) :: starEach [] X.env := by rfl) :
    PE X (.Call (.Name "list" p) [.Call (.Name "reversed" p2) [e] [] pos2] [] pos) (tD X.K X.mg W (d1 gRevL f)) := PEimp (pe_lstRev hc hg hm hg2 hm2 he hs hs2) fun σ H Q h => revL_of (te := tD X.K X.mg W f) (fun _ _ _ q => q) σ H Q h
theorem pd_turn {k : Nat} {p1 p3 : Pos} (he : PE X e (tD X.K X.mg W f)) : PE X (.Subscript e (.Slice none none (some (.UnaryOp .USub (.Constant (.int 1) k p1) p2)) p3) pos) (tD X.K X.mg W (d1 gRevL f)) := PEimp (pe_revL he) fun σ H Q h => revL_of (te := tD X.K X.mg W f) (fun _ _ _ q => q) σ H Q h
end
end DL

set_option Elab.async false
set_option linter.all false
set_option maxRecDepth 100000
set_option maxHeartbeats 4000000
set_option autoImplicit false
/-! reckoning of dens by simp -/
namespace DL
open PySem L2

/-! ### bounds -/
class Bd (i : Int) (n : outParam Nat) : Prop where
  h : i.natAbs < 2 ^ n
theorem Bd.le {i : Int} {n m : Nat} [b : Bd i n] (h : n ≤ m) : i.natAbs < 2 ^ m := Nat.lt_of_lt_of_le b.h (Nat.pow_le_pow_right (by decide) h)
theorem ib_le {i : Int} {n : Nat} (h : i.natAbs < 2 ^ n) : ib i ≤ n := by
  unfold DL.ib Builtin.Int.intBits
  by_cases e : i = 0
  · subst e; simp
  · have : (i == 0) = false := by simpa using e
    rw [this]
    have h2 : i.natAbs ≠ 0 := by omega
    have := (Nat.log2_lt h2).mpr h
    simp only [Bool.false_eq_true, if_false]
    omega
theorem lt_of_ib {i : Int} {n : Nat} (h : Builtin.Int.intBits i ≤ n) : i.natAbs < 2 ^ n := by
  unfold Builtin.Int.intBits at h
  by_cases e : i = 0
  · subst e; exact Nat.two_pow_pos n
  · have h1 : (i == 0) = false := by simpa using e
    rw [h1] at h
    simp only [Bool.false_eq_true, if_false] at h
    have h2 : i.natAbs ≠ 0 := by omega
    exact (Nat.log2_lt h2).mp (by omega)
theorem Bd.ib {i : Int} {n : Nat} [b : Bd i n] : ib i ≤ n := ib_le b.h
instance bd_mul {i j : Int} {n m : Nat} [a : Bd i n] [b : Bd j m] : Bd (i * j) (n + m) := ⟨by
  rw [Int.natAbs_mul, Nat.pow_add]
  exact Nat.mul_lt_mul'' a.h b.h⟩
theorem two_pow_max {n m : Nat} : 2 ^ n ≤ 2 ^ (max n m) ∧ 2 ^ m ≤ 2 ^ (max n m) := ⟨Nat.pow_le_pow_right (by decide) (Nat.le_max_left _ _), Nat.pow_le_pow_right (by decide) (Nat.le_max_right _ _)⟩
instance bd_add {i j : Int} {n m : Nat} [a : Bd i n] [b : Bd j m] : Bd (i + j) (max n m + 1) := ⟨by
  have h1 := a.h
  have h2 := b.h
  have h3 := @two_pow_max n m
  rw [Nat.pow_succ]
  omega⟩
instance bd_sub {i j : Int} {n m : Nat} [a : Bd i n] [b : Bd j m] : Bd (i - j) (max n m + 1) := ⟨by
  have h1 := a.h
  have h2 := b.h
  have h3 := @two_pow_max n m
  rw [Nat.pow_succ]
  omega⟩
instance bd_neg {i : Int} {n : Nat} [a : Bd i n] : Bd (-i) n := ⟨by rw [Int.natAbs_neg]; exact a.h⟩
instance bd_lit {k : Nat} : Bd (no_index (OfNat.ofNat k : Int)) ((OfNat.ofNat k : Nat).log2 + 1) := ⟨by
  show (Int.natAbs ((k : Nat) : Int)) < _
  rw [Int.natAbs_natCast]
  exact Nat.lt_log2_self⟩
theorem natAbs_fdiv_le (i j : Int) : (i.fdiv j).natAbs ≤ i.natAbs := by
  match i, j with
  | 0, j => simp
  | .ofNat (m+1), .ofNat n =>
    show ((m+1)/n : Nat) ≤ m+1
    exact Nat.div_le_self _ _
  | .ofNat (m+1), .negSucc n =>
    show m / (n+1) + 1 ≤ m + 1
    exact Nat.succ_le_succ (Nat.div_le_self _ _)
  | .negSucc m, .ofNat 0 => simp
  | .negSucc m, .ofNat (n+1) =>
    show m / (n+1) + 1 ≤ m + 1
    exact Nat.succ_le_succ (Nat.div_le_self _ _)
  | .negSucc m, .negSucc n =>
    show (m+1)/(n+1) ≤ m+1
    exact Nat.div_le_self _ _
theorem natAbs_fmod_lt (a : Int) {b : Int} (hb : b ≠ 0) : (a.fmod b).natAbs < b.natAbs := by
  have h1 := Int.emod_nonneg a hb
  have h2 := Int.emod_lt a hb
  rw [Int.fmod_eq_emod]
  split
  · omega
  · rename_i h
    have h3 : ¬ b ∣ a := fun z => h (.inr z)
    have h4 : a % b ≠ 0 := fun z => h3 (Int.dvd_of_emod_eq_zero z)
    have h5 : ¬ 0 ≤ b := fun z => h (.inl z)
    omega
instance bd_fdiv {i j : Int} {n : Nat} [a : Bd i n] : Bd (i.fdiv j) n := ⟨Nat.lt_of_le_of_lt (natAbs_fdiv_le i j) a.h⟩
class NZ (j : Int) : Prop where
  h : j ≠ 0
instance nz_lit {k : Nat} [h : NeZero k] : NZ (no_index (OfNat.ofNat k : Int)) := ⟨by
  have := h.out
  show ((k : Nat) : Int) ≠ 0
  omega⟩
instance bd_fmod {i j : Int} {m : Nat} [b : Bd j m] [z : NZ j] : Bd (i.fmod j) m := ⟨Nat.lt_trans (natAbs_fmod_lt i z.h) b.h⟩
instance bd_emod {i j : Int} {m : Nat} [b : Bd j m] [z : NZ j] : Bd (i % j) m := ⟨by
  have h1 := Int.emod_nonneg i z.h
  have h2 := Int.emod_lt i z.h
  have h3 := b.h
  omega⟩
instance bd_ediv {i j : Int} {n : Nat} [a : Bd i n] : Bd (i / j) n := ⟨Nat.lt_of_le_of_lt (Int.natAbs_ediv_le_natAbs i j) a.h⟩
instance bd_pow {i : Int} {n k : Nat} [a : Bd i n] : Bd (i ^ k) (n * k + 1) := ⟨by
  rw [Int.natAbs_pow]
  have h := a.h
  have : i.natAbs ^ k ≤ (2 ^ n) ^ k := Nat.pow_le_pow_left (Nat.le_of_lt h) k
  rw [← Nat.pow_mul] at this
  rw [Nat.pow_succ]
  have := Nat.two_pow_pos (n * k)
  omega⟩
theorem Bd.mono {i : Int} {n m : Nat} (b : Bd i n) (h : n ≤ m) : Bd i m := ⟨Bd.le h⟩
theorem bd_of {i : Int} {n : Nat} (h : i.natAbs < 2 ^ n) : Bd i n := ⟨h⟩
theorem pylong_of {i j : Int} {m : Nat} [b : Bd j m] (h : m ≤ 9000) : Builtin.divisionGoesByPylong i j = false := by
  unfold Builtin.divisionGoesByPylong
  have hd : (if (j == 0) = true then 0 else j.natAbs.log2 / 30 + 1) ≤ 300 := by
    by_cases e : j = 0
    · subst e; simp
    · have h1 : (j == 0) = false := by simpa using e
      rw [h1]
      simp only [Bool.false_eq_true, if_false]
      have h2 : j.natAbs ≠ 0 := by omega
      have := (Nat.log2_lt h2).mpr (Bd.le (i := j) h)
      omega
  simp only [Bool.and_eq_false_iff, decide_eq_false_iff_not]
  exact .inl (by omega)
theorem pylong_of' {i j : Int} {m : Nat} [b : Bd i m] (h : m ≤ 4500) : Builtin.divisionGoesByPylong i j = false := by
  unfold Builtin.divisionGoesByPylong
  have hd : (if (i == 0) = true then 0 else i.natAbs.log2 / 30 + 1) ≤ 150 := by
    by_cases e : i = 0
    · subst e; simp
    · have h1 : (i == 0) = false := by simpa using e
      rw [h1]
      simp only [Bool.false_eq_true, if_false]
      have h2 : i.natAbs ≠ 0 := by omega
      have := (Nat.log2_lt h2).mpr (Bd.le (i := i) h)
      omega
  simp only [Bool.and_eq_false_iff, decide_eq_false_iff_not]
  exact .inr (by omega)

/-! ### operators on numbers -/
section
variable {i j : Int} {n m : Nat}
theorem gAdd_i : gAdd (.int i) (.int j) = .ok (.int (i + j)) := rfl
theorem gSub_i : gSub (.int i) (.int j) = .ok (.int (i - j)) := rfl
theorem gMul_i [a : Bd i n] [b : Bd j m] (h : n + m ≤ 134217728) : gMul (.int i) (.int j) = .ok (.int (i * j)) := by
  have h1 := Bd.ib (i := i)
  have h2 := Bd.ib (i := j)
  unfold gMul
  exact if_pos (by omega)
theorem gDiv_i [b : Bd j m] (hj : j ≠ 0) (h : m ≤ 9000) : gDiv (.int i) (.int j) = .ok (.int (i.fdiv j)) := by
  unfold gDiv
  exact if_pos ⟨hj, pylong_of h⟩
theorem gMod_i (hj : j ≠ 0) : gMod (.int i) (.int j) = .ok (.int (i.fmod j)) := by
  unfold gMod
  exact if_pos hj
theorem gDiv_p [b : Bd j m] (hj : 0 < j) (h : m ≤ 9000) : gDiv (.int i) (.int j) = .ok (.int (i / j)) := by
  rw [gDiv_i (by omega) h, Int.fdiv_eq_ediv_of_nonneg _ (by omega)]
theorem gMod_p (hj : 0 < j) : gMod (.int i) (.int j) = .ok (.int (i % j)) := by
  rw [gMod_i (by omega), Int.fmod_eq_emod_of_nonneg _ (by omega)]
theorem gPow_i [a : Bd i n] (hj : 0 ≤ j) (h : (n : Int) * j ≤ 134217728) : gPow (.int i) (.int j) = .ok (.int (i ^ j.toNat)) := by
  unfold gPow
  have h1 := Bd.ib (i := i)
  exact if_pos ⟨hj, Int.le_trans (Int.mul_le_mul_of_nonneg_right (by omega) hj) h⟩
theorem gPow_l {k : Nat} [a : Bd i n] (h : n * k ≤ 134217728) : gPow (.int i) (.int (no_index (OfNat.ofNat k : Int))) = .ok (.int (i ^ (OfNat.ofNat k : Nat))) := by
  rw [gPow_i (j := (OfNat.ofNat k : Int)) (by show (0 : Int) ≤ ((k : Nat) : Int); omega) (by
    show (n : Int) * ((k : Nat) : Int) ≤ 134217728
    have : ((n * k : Nat) : Int) = (n : Int) * (k : Int) := Int.natCast_mul n k
    omega)]
  rfl
theorem gShl_l {k : Nat} [a : Bd i n] (h : n + k ≤ 134217728) : gShl (.int i) (.int (no_index (OfNat.ofNat k : Int))) = .ok (.int (i * 2 ^ (OfNat.ofNat k : Nat))) := by
  have h1 := Bd.ib (i := i)
  unfold gShl
  exact if_pos ⟨(by show (0 : Int) ≤ ((k : Nat) : Int); omega), (by show (DL.ib i : Int) + ((k : Nat) : Int) ≤ _; omega)⟩
theorem gShr_l {k : Nat} : gShr (.int i) (.int (no_index (OfNat.ofNat k : Int))) = .ok (.int (i / 2 ^ (OfNat.ofNat k : Nat))) := by
  unfold gShr
  exact if_pos (by show (0 : Int) ≤ ((k : Nat) : Int); omega)
theorem gShl_i [a : Bd i n] (hj : 0 ≤ j) (h : (n : Int) + j ≤ 134217728) : gShl (.int i) (.int j) = .ok (.int (i * 2 ^ j.toNat)) := by
  unfold gShl
  have h1 := Bd.ib (i := i)
  exact if_pos ⟨hj, by omega⟩
theorem gShr_i (hj : 0 ≤ j) : gShr (.int i) (.int j) = .ok (.int (i / 2 ^ j.toNat)) := if_pos hj
theorem gLt_i : gLt (.int i) (.int j) = .ok (.bool (decide (i < j))) := rfl
theorem gLe_i : gLe (.int i) (.int j) = .ok (.bool (decide (i ≤ j))) := rfl
theorem gGt_i : gGt (.int i) (.int j) = .ok (.bool (decide (j < i))) := rfl
theorem gGe_i : gGe (.int i) (.int j) = .ok (.bool (decide (j ≤ i))) := rfl
theorem gEq_i : gEq (.int i) (.int j) = .ok (.bool (decide (i = j))) := rfl
theorem gNe_i : gNe (.int i) (.int j) = .ok (.bool (!decide (i = j))) := rfl
theorem gNeg_i : gNeg (.int i) = .ok (.int (-i)) := rfl
theorem gAbs_i : gAbs [.int i] = .ok (.int (i.natAbs : Int)) := by
  show R.ok (PyData.int (if i < 0 then -i else i)) = _
  congr 2
  split <;> omega
theorem gInt_i : gInt [.int i] = .ok (.int i) := rfl
theorem gInt_b {b : Bool} : gInt [.bool b] = .ok (.int (if b = true then 1 else 0)) := rfl
theorem gEq_s {x y : Str} : gEq (.str x) (.str y) = .ok (.bool (decide (x = y))) := rfl
theorem gNe_s {x y : Str} : gNe (.str x) (.str y) = .ok (.bool (!decide (x = y))) := rfl
theorem gEq_b {x y : Bool} : gEq (.bool x) (.bool y) = .ok (.bool (x == y)) := rfl
theorem gNe_b {x y : Bool} : gNe (.bool x) (.bool y) = .ok (.bool (!(x == y))) := rfl
instance bd_abs [a : Bd i n] : Bd ((i.natAbs : Nat) : Int) n := ⟨by rw [Int.natAbs_natCast]; exact a.h⟩
instance bd_ite {p : Prop} [Decidable p] [a : Bd i n] [b : Bd j m] : Bd (if p then i else j) (max n m) := ⟨by
  have h1 := a.h
  have h2 := b.h
  have h3 := @two_pow_max n m
  split <;> omega⟩
end

/-! ### flow -/
def Fl.seq (r : Fl) (g : En → Fl) : Fl := match r with
  | .nx ρ => g ρ
  | r => r
def R.fl {A : Type} (r : R A) (ρ : En) (k : A → Fl) : Fl := match r with
  | .ok a => k a
  | .ex c => .ex c ρ
  | .no => .no
def R.bind2 {A B C : Type} (g : A → B → R C) (x : R A) (y : R B) : R C := match x with
  | .ok a => (match y with
    | .ok b => g a b
    | .ex c => .ex c
    | .no => .no)
  | .ex c => .ex c
  | .no => .no
def kSet (i : Nat) (ρ : En) (d : PD) : Fl := .nx (ρ.set i (some (.d d)))
def kIf (f g : En → Fl) (ρ : En) (b : Bool) : Fl := if b = true then f ρ else g ρ
def kPar (i j : Nat) (ρ : En) (a b : PD) : R Fl := .ok (.nx ((ρ.set i (some (.d a))).set j (some (.d b))))
def kAsg (tg : Tg) (ρ : En) (d : PD) : Fl := match tg.put d ρ with
  | some ρ' => .nx ρ'
  | none => .no
def kFor (tg : Tg) (body : En → Fl) (ρ : En) (ds : List PD) : Fl := sForL tg body ds ρ
def kNx (ρ : En) (_ : PD) : Fl := .nx ρ
def kId (x : Fl) : Fl := x
section
variable {A B : Type} {f f1 f2 : En → R PD} {fl : En → R (List PD)} {t t1 t2 : En → R Bool} {g h : En → Fl} {ρ : En} {i j : Nat} {r : Fl} {d e : PD} {ds : List PD} {c : Str} {b : Bool}
theorem ev_seq : sSeq g h ρ = (g ρ).seq h := rfl
theorem seq_nx : (Fl.nx ρ).seq h = h ρ := rfl
theorem seq_rt : (Fl.rt d).seq h = .rt d := rfl
theorem seq_ex : (Fl.ex c ρ).seq h = .ex c ρ := rfl
theorem seq_bk : (Fl.bk ρ).seq h = .bk ρ := rfl
theorem seq_ct : (Fl.ct ρ).seq h = .ct ρ := rfl
theorem seq_ite {p : Prop} [Decidable p] {x y : Fl} : (if p then x else y).seq h = if p then x.seq h else y.seq h := by split <;> rfl
theorem fl_ok {a : A} {k : A → Fl} : (R.ok a).fl ρ k = k a := rfl
theorem fl_ex {k : A → Fl} : (R.ex c : R A).fl ρ k = .ex c ρ := rfl
theorem fl_ite {p : Prop} [Decidable p] {x y : R A} {k : A → Fl} : (if p then x else y).fl ρ k = if p then x.fl ρ k else y.fl ρ k := by split <;> rfl
theorem ev_set : sSet i f ρ = (f ρ).fl ρ (kSet i ρ) := rfl
theorem kSet_ev : kSet i ρ d = .nx (ρ.set i (some (.d d))) := rfl
theorem ev_ret : sRet f ρ = (f ρ).fl ρ Fl.rt := rfl
theorem ev_retN : sRetN ρ = .rt .none := rfl
theorem ev_nx : sNx ρ = .nx ρ := rfl
theorem ev_bk : sBk ρ = .bk ρ := rfl
theorem ev_ct : sCt ρ = .ct ρ := rfl
theorem ev_raise : sRaise c ρ = .ex c ρ := rfl
theorem ev_if : sIf t g h ρ = (t ρ).fl ρ (kIf g h ρ) := rfl
theorem kIf_ev : kIf g h ρ b = if b = true then g ρ else h ρ := rfl
theorem ev_drop : sDrop f ρ = (f ρ).fl ρ (kNx ρ) := rfl
theorem kNx_ev : kNx ρ d = .nx ρ := rfl
theorem ev_par : sPar i j f1 f2 ρ = (R.bind2 (kPar i j ρ) (f1 ρ) (f2 ρ)).fl ρ kId := by
  unfold sPar sE R.bind2 R.fl
  cases e1 : f1 ρ with
  | ok a => cases e2 : f2 ρ <;> simp only [e2] <;> rfl
  | ex c => rfl
  | no => rfl
theorem kPar_ev : kPar i j ρ d e = .ok (.nx ((ρ.set i (some (.d d))).set j (some (.d e)))) := rfl
theorem kId_ev : kId r = r := rfl
theorem ev_asg {tg : Tg} : sAsg tg f ρ = (f ρ).fl ρ (kAsg tg ρ) := rfl
theorem kAsg_ev {tg : Tg} : kAsg tg ρ d = match tg.put d ρ with
  | some ρ' => .nx ρ'
  | none => .no := rfl
theorem ev_for {it : En → R (List PD)} {tg : Tg} : sFor it tg g ρ = (it ρ).fl ρ (kFor tg g ρ) := rfl
theorem kFor_ev {tg : Tg} : kFor tg g ρ ds = sForL tg g ds ρ := rfl
/-! values -/
def dVg : Option (Option SV) → R PD
  | some (some (.d d)) => .ok d
  | _ => .no
theorem ev_V : dV i ρ = dVg ρ[i]? := rfl
theorem dVg_ok : dVg (some (some (.d d))) = .ok d := rfl
theorem ev_C : dC d ρ = .ok d := rfl
theorem ev_1 {g : PD → R PD} : d1 g f ρ = (f ρ).bind g := rfl
theorem ev_2 {g : PD → PD → R PD} : d2 g f1 f2 ρ = R.bind2 g (f1 ρ) (f2 ρ) := by
  unfold d2 R.bind2 R.bind
  cases f1 ρ with
  | ok a => cases f2 ρ <;> rfl
  | ex c => rfl
  | no => rfl
theorem bind2_ok {C : Type} {g : A → B → R C} {a : A} {b : B} : R.bind2 g (.ok a) (.ok b) = g a b := rfl
theorem bind2_ite1 {C : Type} {g : A → B → R C} {p : Prop} [Decidable p] {x y : R A} {z : R B} : R.bind2 g (if p then x else y) z = if p then R.bind2 g x z else R.bind2 g y z := by split <;> rfl
theorem bind2_ite2 {C : Type} {g : A → B → R C} {p : Prop} [Decidable p] {x y : R B} {a : A} : R.bind2 g (.ok a) (if p then x else y) = if p then R.bind2 g (.ok a) x else R.bind2 g (.ok a) y := by split <;> rfl
theorem bind_ite {C : Type} {g : A → R C} {p : Prop} [Decidable p] {x y : R A} : R.bind (if p then x else y) g = if p then x.bind g else y.bind g := by split <;> rfl
theorem ev_A {g : List PD → R PD} : dA g fl ρ = (fl ρ).bind g := rfl
theorem ev_nil : dNil ρ = .ok [] := rfl
def kCons (d : PD) (ds : List PD) : R (List PD) := .ok (d :: ds)
theorem ev_cons : dCons f fl ρ = R.bind2 kCons (f ρ) (fl ρ) := by
  unfold dCons R.bind2 R.bind kCons
  cases f ρ with
  | ok a => cases fl ρ <;> rfl
  | ex c => rfl
  | no => rfl
theorem kCons_ev : kCons d ds = .ok (d :: ds) := rfl
theorem ev_T : dT f ρ = (f ρ).bind toB := rfl
theorem toB_ev : toB (.bool b) = .ok b := rfl
def kAnd (t : En → R Bool) (ρ : En) (a : Bool) : R Bool := if a = true then t ρ else .ok false
def kOr (t : En → R Bool) (ρ : En) (a : Bool) : R Bool := if a = true then .ok true else t ρ
def kNot (a : Bool) : R Bool := .ok (!a)
theorem ev_and : dAnd t1 t2 ρ = (t1 ρ).bind (kAnd t2 ρ) := rfl
theorem ev_or : dOr t1 t2 ρ = (t1 ρ).bind (kOr t2 ρ) := rfl
theorem ev_not : dNot t ρ = (t ρ).bind kNot := rfl
theorem kAnd_ev : kAnd t ρ b = if b = true then t ρ else .ok false := rfl
theorem kOr_ev : kOr t ρ b = if b = true then .ok true else t ρ := rfl
theorem kNot_ev : kNot b = .ok (!b) := rfl
def kAndV (f : En → R PD) (ρ : En) (a : PD) : R PD := (toB a).bind fun c => if c = true then f ρ else .ok (.bool false)
def kOrV (f : En → R PD) (ρ : En) (a : PD) : R PD := (toB a).bind fun c => if c = true then .ok (.bool true) else f ρ
def kNotV (a : PD) : R PD := (toB a).bind fun c => .ok (.bool (!c))
theorem ev_andV : dAndV f1 f2 ρ = (f1 ρ).bind (kAndV f2 ρ) := rfl
theorem ev_orV : dOrV f1 f2 ρ = (f1 ρ).bind (kOrV f2 ρ) := rfl
theorem ev_notV : dNotV f ρ = (f ρ).bind kNotV := rfl
theorem kAndV_ev : kAndV f ρ (.bool b) = if b = true then f ρ else .ok (.bool false) := rfl
theorem kOrV_ev : kOrV f ρ (.bool b) = if b = true then .ok (.bool true) else f ρ := rfl
theorem kNotV_ev : kNotV (.bool b) = .ok (.bool (!b)) := rfl
def kIfE (f1 f2 : En → R PD) (ρ : En) (a : Bool) : R PD := if a = true then f1 ρ else f2 ρ
theorem ev_ife : dIf t f1 f2 ρ = (t ρ).bind (kIfE f1 f2 ρ) := rfl
theorem kIfE_ev : kIfE f1 f2 ρ b = if b = true then f1 ρ else f2 ρ := rfl
def kCh (g g' : PD → PD → R PD) (f3 : En → R PD) (ρ : En) (a b : PD) : R PD := (g a b).bind fun z => (toB z).bind fun k => if k = true then (f3 ρ).bind (g' b) else .ok (.bool false)
theorem ev_ch {g g' : PD → PD → R PD} {f3 : En → R PD} : dCh g g' f1 f2 f3 ρ = R.bind2 (kCh g g' f3 ρ) (f1 ρ) (f2 ρ) := by
  unfold dCh R.bind2 kCh R.bind
  cases f1 ρ with
  | ok a => cases f2 ρ <;> rfl
  | ex c => rfl
  | no => rfl
theorem tup_ev (h : ds.length ≤ 1000) : gTupD ds = .ok (.tuple ds) := if_pos h
theorem lst_ev (h : ds.length ≤ 1000) : gLstD ds = .ok (.list ds) := if_pos h
theorem call_ev {n : Nat} {es : List PD} {m : List PD → R PD} (h : (ds ++ es).length = n) : gCall n es m ds = m (ds ++ es) := if_pos h
theorem kw_ev {m : List PD → R PD} {n np nk : Nat} {arr : List PD → List PD → List PD} {as bs : List PD} (h : as.length = np ∧ bs.length = nk ∧ (arr as bs).length = n) : gKw n np nk arr m as bs = m (arr as bs) := if_pos h
theorem ev_kw {g : List PD → List PD → R PD} {f1 f2 : En → R (List PD)} : dKw g f1 f2 ρ = R.bind2 g (f1 ρ) (f2 ρ) := by
  unfold dKw R.bind2 R.bind
  cases f1 ρ with
  | ok a => cases f2 ρ <;> rfl
  | ex c => rfl
  | no => rfl
/-! a def -/
def startE : Nat → List PD → En
  | 0, _ => []
  | m + 1, [] => none :: startE m []
  | m + 1, d :: ds => some (.d d) :: startE m ds
def Fl.fin : Fl → R PD
  | .rt d => .ok d
  | .nx _ => .ok .none
  | .ex c _ => .ex c
  | _ => .no
theorem startE_nil : ∀ m, startE m [] = List.replicate m none
  | 0 => rfl
  | m + 1 => by show none :: startE m [] = _; rw [startE_nil m]; rfl
theorem startE_eq : ∀ (m : Nat) (ds : List PD), ds.length ≤ m → ds.map (fun d => some (SV.d d)) ++ List.replicate (m - ds.length) none = startE m ds
  | m, [], _ => by rw [startE_nil]; simp
  | 0, _ :: _, h => by simp at h
  | m + 1, d :: ds, h => by
    show some (SV.d d) :: (ds.map (fun d => some (SV.d d)) ++ List.replicate (m + 1 - (ds.length + 1)) none) = some (.d d) :: startE m ds
    rw [← startE_eq m ds (by simpa using h)]
    congr 3
    omega
theorem ev_fn {m : Nat} {den : En → Fl} (h : ds.length ≤ m) : fnD m den ds = (den (startE m ds)).fin := by
  unfold fnD
  rw [startE_eq m ds h]
  rfl
theorem startE_0 {ds : List PD} : startE 0 ds = [] := by cases ds <;> rfl
theorem startE_s {m : Nat} : startE (m + 1) [] = none :: startE m [] := rfl
theorem startE_c {m : Nat} : startE (m + 1) (d :: ds) = some (.d d) :: startE m ds := rfl
theorem fin_rt : (Fl.rt d).fin = .ok d := rfl
theorem fin_nx : (Fl.nx ρ).fin = .ok .none := rfl
theorem fin_ex : (Fl.ex c ρ).fin = .ex c := rfl
theorem fin_ite {p : Prop} [Decidable p] {x y : Fl} : (if p then x else y).fin = if p then x.fin else y.fin := by split <;> rfl
/-! subscripts -/
theorem ix_t {k : Nat} (h : ds[k]? = some d) : gIx (.tuple ds) (.int (k : Int)) = .ok d := by
  unfold gIx atI
  have hk : k < ds.length := (List.getElem?_eq_some_iff.mp h).1
  have : ixN ds.length (k : Int) = some k := by
    unfold ixN
    rw [if_pos (by omega), if_pos (by omega)]
    rfl
  simp only [this, Option.bind_some, h]
theorem ix_l {k : Nat} (h : ds[k]? = some d) : gIx (.list ds) (.int (k : Int)) = .ok d := by
  unfold gIx atI
  have hk : k < ds.length := (List.getElem?_eq_some_iff.mp h).1
  have : ixN ds.length (k : Int) = some k := by
    unfold ixN
    rw [if_pos (by omega), if_pos (by omega)]
    rfl
  simp only [this, Option.bind_some, h]
variable {x0 x1 x2 x3 : PD}
theorem ix_t0 : gIx (.tuple (x0 :: ds)) (.int 0) = .ok x0 := ix_t (k := 0) rfl
theorem ix_t1 : gIx (.tuple (x0 :: x1 :: ds)) (.int 1) = .ok x1 := ix_t (k := 1) rfl
theorem ix_t2 : gIx (.tuple (x0 :: x1 :: x2 :: ds)) (.int 2) = .ok x2 := ix_t (k := 2) rfl
theorem ix_t3 : gIx (.tuple (x0 :: x1 :: x2 :: x3 :: ds)) (.int 3) = .ok x3 := ix_t (k := 3) rfl
theorem ix_l0 : gIx (.list (x0 :: ds)) (.int 0) = .ok x0 := ix_l (k := 0) rfl
theorem ix_l1 : gIx (.list (x0 :: x1 :: ds)) (.int 1) = .ok x1 := ix_l (k := 1) rfl
theorem ix_l2 : gIx (.list (x0 :: x1 :: x2 :: ds)) (.int 2) = .ok x2 := ix_l (k := 2) rfl
theorem ix_ints {zs : List Int} {k : Int} (h0 : 0 ≤ k) (h1 : k < zs.length) : gIx (.list (zs.map PyData.int)) (.int k) = .ok (.int (zs.getD k.toNat 0)) := by
  obtain ⟨n, rfl⟩ := Int.eq_ofNat_of_zero_le h0
  refine ix_l ?_
  have : n < zs.length := by omega
  rw [List.getElem?_map, List.getElem?_eq_getElem this]
  simp [this]
theorem len_l : gLen [.list ds] = .ok (.int ds.length) := rfl
theorem len_t : gLen [.tuple ds] = .ok (.int ds.length) := rfl
/-! iteration -/
theorem ev_iL : iL f ρ = (f ρ).bind asL := rfl
theorem ev_iT : iT f ρ = (f ρ).bind asT := rfl
theorem asL_ev : asL (.list ds) = .ok ds := rfl
theorem asT_ev : asT (.tuple ds) = .ok ds := rfl
theorem ev_iA {g : List PD → R (List PD)} : iA g fl ρ = (fl ρ).bind g := rfl
theorem ev_P : dP f ρ = (f ρ).bind toI := rfl
theorem toI_ev {k : Int} : toI (.int k) = .ok (some k) := rfl
theorem ev_P0 : dP0 ρ = .ok none := rfl
def kSl (hi : R (Option Int)) (d : PD) (lo : Option Int) : R PD := hi.bind (gSl d lo)
theorem ev_sl {lo hi : En → R (Option Int)} : dSl f lo hi ρ = R.bind2 (kSl (hi ρ)) (f ρ) (lo ρ) := by
  unfold dSl R.bind2 kSl R.bind
  cases f ρ with
  | ok a => cases lo ρ <;> rfl
  | ex c => rfl
  | no => rfl
theorem kSl_ev {hi lo : Option Int} : kSl (.ok hi) d lo = gSl d lo hi := rfl
theorem sl_hi {k : Nat} : gSl (.list ds) none (some (k : Int)) = .ok (.list (ds.take k)) := by
  unfold gSl cutD
  have h1 : HT.sIx ds.length 0 none = 0 := rfl
  have h2 : HT.sIx ds.length ds.length (some (k : Int)) = min k ds.length := HT.sIx_nat _ _ _
  simp only [h1, h2, Nat.sub_zero, List.drop_zero]
  congr 2
  rw [List.take_eq_take_iff]
  omega
theorem sl_lo {k : Nat} : gSl (.list ds) (some (k : Int)) none = .ok (.list (ds.drop k)) := by
  unfold gSl cutD
  have h1 : HT.sIx ds.length ds.length none = ds.length := rfl
  have h2 : HT.sIx ds.length 0 (some (k : Int)) = min k ds.length := HT.sIx_nat _ _ _
  simp only [h1, h2]
  congr 2
  have : (ds.drop (min k ds.length)) = ds.drop k := by
    by_cases h : k ≤ ds.length
    · rw [Nat.min_eq_left h]
    · rw [Nat.min_eq_right (by omega), List.drop_length, List.drop_eq_nil_of_le (by omega)]
  rw [this]
  apply List.take_of_length_le
  rw [List.length_drop]
  omega
theorem sl_lohi {k l : Nat} : gSl (.list ds) (some (k : Int)) (some (l : Int)) = .ok (.list ((ds.take l).drop k)) := by
  unfold gSl cutD
  have h1 : HT.sIx ds.length ds.length (some (l : Int)) = min l ds.length := HT.sIx_nat _ _ _
  have h2 : HT.sIx ds.length 0 (some (k : Int)) = min k ds.length := HT.sIx_nat _ _ _
  simp only [h1, h2]
  congr 2
  rw [List.drop_take]
  by_cases h : k ≤ ds.length
  · rw [Nat.min_eq_left h]
    rw [List.take_eq_take_iff, List.length_drop]
    omega
  · have e : min k ds.length = ds.length := Nat.min_eq_right (by omega)
    rw [e, List.drop_length, List.drop_eq_nil_of_le (by omega)]
    simp
theorem add_l {xs ys : List PD} (h : xs.length + ys.length ≤ 16777216) : gAdd (.list xs) (.list ys) = .ok (.list (xs ++ ys)) := if_pos h
theorem put_1 : (Tg.one i).put d ρ = some (ρ.set i (some (.d d))) := rfl
/-- a loop that keeps an invariant and never leaves -/
theorem for_inv {tg : Tg} (I : List PD → En → Prop) : ∀ (ds pre : List PD) (ρ : En), I pre ρ →
    (∀ pre d post ρ, ds = pre ++ d :: post ∨ True → I pre ρ → d ∈ ds → ∃ ρ1, tg.put d ρ = some ρ1 ∧ ∃ ρ2, (g ρ1 = .nx ρ2 ∨ g ρ1 = .ct ρ2) ∧ I (pre ++ [d]) ρ2) →
    ∃ ρ', sForL tg g ds ρ = .nx ρ' ∧ I (pre ++ ds) ρ'
  | [], pre, ρ, h, _ => ⟨ρ, rfl, by simpa using h⟩
  | d :: ds, pre, ρ, h, st => by
    obtain ⟨ρ1, e1, ρ2, e2, h2⟩ := st pre d ds ρ (.inr trivial) h List.mem_cons_self
    obtain ⟨ρ', e3, h3⟩ := for_inv I ds (pre ++ [d]) ρ2 h2 fun pre d post ρ _ hI hm => st pre d post ρ (.inr trivial) hI (List.mem_cons_of_mem _ hm)
    refine ⟨ρ', ?_, by simpa using h3⟩
    unfold sForL
    rw [e1]
    rcases e2 with e2 | e2 <;> (dsimp only; rw [e2]; exact e3)
/-! a while's turn -/
def Fl.turn (r : Fl) (g : En → Fl) : Fl := match r with
  | .nx ρ => g ρ
  | .ct ρ => g ρ
  | .bk ρ => .nx ρ
  | r => r
noncomputable def kWh (t : En → R Bool) (g : En → Fl) (ρ : En) (b : Bool) : Fl := if b = true then (g ρ).turn (sWhile t g) else .nx ρ
theorem ev_while : sWhile t g ρ = (t ρ).fl ρ (kWh t g ρ) := by
  rw [sWhile_eq]
  unfold sE R.fl kWh Fl.turn
  cases t ρ with
  | ok b => cases b <;> simp only [if_true, if_false, Bool.false_eq_true] <;> cases g ρ <;> rfl
  | ex c => rfl
  | no => rfl
theorem kWh_ev : kWh t g ρ b = if b = true then (g ρ).turn (sWhile t g) else .nx ρ := rfl
theorem turn_nx : (Fl.nx ρ).turn h = h ρ := rfl
theorem turn_ct : (Fl.ct ρ).turn h = h ρ := rfl
theorem turn_bk : (Fl.bk ρ).turn h = .nx ρ := rfl
theorem turn_rt : (Fl.rt d).turn h = .rt d := rfl
theorem turn_ite {p : Prop} [Decidable p] {x y : Fl} : (if p then x else y).turn h = if p then x.turn h else y.turn h := by split <;> rfl
/-! kinds -/
theorem isi_ev {T : String} {b : Bool} (h : kitB (tyD d) T = some b) (hx : isExc d = false := by rfl) : gIsi T d = .ok (.bool b) := by
  unfold gIsi
  rw [if_neg (by rw [hx]; exact Bool.false_ne_true), h]
theorem isi_int_int {z : Int} : gIsi "int" (.int z) = .ok (.bool true) := isi_ev (by show kitB "int" "int" = some true; decide +kernel)
theorem isi_bool_int {z : Int} : gIsi "bool" (.int z) = .ok (.bool false) := isi_ev (by show kitB "int" "bool" = some false; decide +kernel)
theorem isi_int_bool : gIsi "int" (.bool b) = .ok (.bool true) := isi_ev (by show kitB "bool" "int" = some true; decide +kernel)
theorem isi_bool_bool : gIsi "bool" (.bool b) = .ok (.bool true) := isi_ev (by show kitB "bool" "bool" = some true; decide +kernel)
theorem isi_int_str {z : Str} : gIsi "int" (.str z) = .ok (.bool false) := isi_ev (by show kitB "str" "int" = some false; decide +kernel)
theorem isi_int_none : gIsi "int" .none = .ok (.bool false) := isi_ev (by show kitB "NoneType" "int" = some false; decide +kernel)
theorem isi_int_list : gIsi "int" (.list ds) = .ok (.bool false) := isi_ev (by show kitB "list" "int" = some false; decide +kernel)
theorem isi_int_tup : gIsi "int" (.tuple ds) = .ok (.bool false) := isi_ev (by show kitB "tuple" "int" = some false; decide +kernel)
theorem isi_bool_str {z : Str} : gIsi "bool" (.str z) = .ok (.bool false) := isi_ev (by show kitB "str" "bool" = some false; decide +kernel)
theorem isi_bool_none : gIsi "bool" .none = .ok (.bool false) := isi_ev (by show kitB "NoneType" "bool" = some false; decide +kernel)
theorem isi_bool_list : gIsi "bool" (.list ds) = .ok (.bool false) := isi_ev (by show kitB "list" "bool" = some false; decide +kernel)
theorem isi_bool_tup : gIsi "bool" (.tuple ds) = .ok (.bool false) := isi_ev (by show kitB "tuple" "bool" = some false; decide +kernel)
theorem isi_tup_tup : gIsi "tuple" (.tuple ds) = .ok (.bool true) := isi_ev (by show kitB "tuple" "tuple" = some true; decide +kernel)
theorem isi_tup_int {z : Int} : gIsi "tuple" (.int z) = .ok (.bool false) := isi_ev (by show kitB "int" "tuple" = some false; decide +kernel)
theorem isi_tup_bool : gIsi "tuple" (.bool b) = .ok (.bool false) := isi_ev (by show kitB "bool" "tuple" = some false; decide +kernel)
theorem isi_tup_str {z : Str} : gIsi "tuple" (.str z) = .ok (.bool false) := isi_ev (by show kitB "str" "tuple" = some false; decide +kernel)
theorem isi_tup_none : gIsi "tuple" .none = .ok (.bool false) := isi_ev (by show kitB "NoneType" "tuple" = some false; decide +kernel)
theorem isi_tup_list : gIsi "tuple" (.list ds) = .ok (.bool false) := isi_ev (by show kitB "list" "tuple" = some false; decide +kernel)
theorem isi_list_list : gIsi "list" (.list ds) = .ok (.bool true) := isi_ev (by show kitB "list" "list" = some true; decide +kernel)
theorem isi_list_tup : gIsi "list" (.tuple ds) = .ok (.bool false) := isi_ev (by show kitB "tuple" "list" = some false; decide +kernel)
theorem isi_list_int {z : Int} : gIsi "list" (.int z) = .ok (.bool false) := isi_ev (by show kitB "int" "list" = some false; decide +kernel)
theorem isi_list_bool : gIsi "list" (.bool b) = .ok (.bool false) := isi_ev (by show kitB "bool" "list" = some false; decide +kernel)
theorem isi_list_str {z : Str} : gIsi "list" (.str z) = .ok (.bool false) := isi_ev (by show kitB "str" "list" = some false; decide +kernel)
theorem isi_list_none : gIsi "list" .none = .ok (.bool false) := isi_ev (by show kitB "NoneType" "list" = some false; decide +kernel)
theorem isi_str_str {z : Str} : gIsi "str" (.str z) = .ok (.bool true) := isi_ev (by show kitB "str" "str" = some true; decide +kernel)
theorem isi_str_int {z : Int} : gIsi "str" (.int z) = .ok (.bool false) := isi_ev (by show kitB "int" "str" = some false; decide +kernel)
theorem isi_str_bool : gIsi "str" (.bool b) = .ok (.bool false) := isi_ev (by show kitB "bool" "str" = some false; decide +kernel)
theorem isi_str_none : gIsi "str" .none = .ok (.bool false) := isi_ev (by show kitB "NoneType" "str" = some false; decide +kernel)
theorem isi_str_list : gIsi "str" (.list ds) = .ok (.bool false) := isi_ev (by show kitB "list" "str" = some false; decide +kernel)
theorem isi_str_tup : gIsi "str" (.tuple ds) = .ok (.bool false) := isi_ev (by show kitB "tuple" "str" = some false; decide +kernel)
/-! loops whose turns leave the first slots as they are -/
def Keeps (pre : En) (n : Nat) (r : Fl) : Prop := ∃ ys : En, ys.length = n ∧ r = .nx (pre ++ ys)
theorem for_keep {pre : En} {n : Nat} {i : Nat} (hi : pre.length ≤ i) : ∀ (ds : List PD) (ys : En), ys.length = n → (∀ d ∈ ds, ∀ ys : En, ys.length = n → Keeps pre n (g (pre ++ ys.set (i - pre.length) (some (.d d))))) → Keeps pre n (sForL (.one i) g ds (pre ++ ys))
  | [], ys, hy, _ => ⟨ys, hy, rfl⟩
  | d :: ds, ys, hy, h => by
    unfold sForL
    obtain ⟨zs, hz, e⟩ := h d List.mem_cons_self ys hy
    have e0 : (pre ++ ys).set i (some (.d d)) = pre ++ ys.set (i - pre.length) (some (.d d)) := List.set_append_right _ _ hi
    simp only [put_1, e0, e]
    exact for_keep hi ds zs hz fun d hd => h d (List.mem_cons_of_mem _ hd)
end
instance nz_pow {i : Int} {k : Nat} [h : NZ i] : NZ (i ^ k) := ⟨Int.pow_ne_zero h.h⟩
/-! equality of plain data -/
mutual
def plain : PD → Bool
  | .int _ => true
  | .str _ => true
  | .list xs => plainA xs
  | .tuple xs => plainA xs
  | _ => false
def plainA : List PD → Bool
  | [] => true
  | x :: xs => plain x && plainA xs
end
mutual
theorem eqv_plain : ∀ (d e : PD), plain d = true → plain e = true → (PyData.eqv d e = true ↔ d = e)
  | .int i, .int j, _, _ => by simp [PyData.eqv]
  | .str i, .str j, _, _ => by simp [PyData.eqv]
  | .list xs, .list ys, h, g => by
    have := eqvA_plain xs ys (by simpa [plain] using h) (by simpa [plain] using g)
    simp [PyData.eqv, this]
  | .tuple xs, .tuple ys, h, g => by
    have := eqvA_plain xs ys (by simpa [plain] using h) (by simpa [plain] using g)
    simp [PyData.eqv, this]
  | .int _, .str _, _, _ => by simp [PyData.eqv]
  | .int _, .list _, _, _ => by simp [PyData.eqv]
  | .int _, .tuple _, _, _ => by simp [PyData.eqv]
  | .str _, .int _, _, _ => by simp [PyData.eqv]
  | .str _, .list _, _, _ => by simp [PyData.eqv]
  | .str _, .tuple _, _, _ => by simp [PyData.eqv]
  | .list _, .int _, _, _ => by simp [PyData.eqv]
  | .list _, .str _, _, _ => by simp [PyData.eqv]
  | .list _, .tuple _, _, _ => by simp [PyData.eqv]
  | .tuple _, .int _, _, _ => by simp [PyData.eqv]
  | .tuple _, .str _, _, _ => by simp [PyData.eqv]
  | .tuple _, .list _, _, _ => by simp [PyData.eqv]
  | .none, _, h, _ => by simp [plain] at h
  | .bool _, _, h, _ => by simp [plain] at h
  | .dict _, _, h, _ => by simp [plain] at h
  | .int _, .none, _, g => by simp [plain] at g
  | .int _, .bool _, _, g => by simp [plain] at g
  | .int _, .dict _, _, g => by simp [plain] at g
  | .str _, .none, _, g => by simp [plain] at g
  | .str _, .bool _, _, g => by simp [plain] at g
  | .str _, .dict _, _, g => by simp [plain] at g
  | .list _, .none, _, g => by simp [plain] at g
  | .list _, .bool _, _, g => by simp [plain] at g
  | .list _, .dict _, _, g => by simp [plain] at g
  | .tuple _, .none, _, g => by simp [plain] at g
  | .tuple _, .bool _, _, g => by simp [plain] at g
  | .tuple _, .dict _, _, g => by simp [plain] at g
theorem eqvA_plain : ∀ (xs ys : List PD), plainA xs = true → plainA ys = true → (PyData.eqvAll xs ys = true ↔ xs = ys)
  | [], [], _, _ => by simp [PyData.eqvAll]
  | x :: xs, y :: ys, h, g => by
    have h1 : plain x = true ∧ plainA xs = true := by simpa [plainA] using h
    have g1 : plain y = true ∧ plainA ys = true := by simpa [plainA] using g
    simp [PyData.eqvAll, eqv_plain x y h1.1 g1.1, eqvA_plain xs ys h1.2 g1.2]
  | [], _ :: _, _, _ => by simp [PyData.eqvAll]
  | _ :: _, [], _, _ => by simp [PyData.eqvAll]
end
theorem gEq_t {xs ys : List PD} {b : Bool} (h1 : SeqAt.shaped (.tuple xs) = true) (h2 : SeqAt.shaped (.tuple ys) = true) (h3 : PyData.eqv (.tuple xs) (.tuple ys) = b) : gEq (.tuple xs) (.tuple ys) = .ok (.bool b) := by
  subst h3
  exact if_pos ⟨h1, h2⟩
theorem gNe_t {xs ys : List PD} {b : Bool} (h1 : SeqAt.shaped (.tuple xs) = true) (h2 : SeqAt.shaped (.tuple ys) = true) (h3 : PyData.eqv (.tuple xs) (.tuple ys) = b) : gNe (.tuple xs) (.tuple ys) = .ok (.bool (!b)) := by
  subst h3
  exact if_pos ⟨h1, h2⟩
theorem gEq_l {xs ys : List PD} {b : Bool} (h1 : SeqAt.shaped (.list xs) = true) (h2 : SeqAt.shaped (.list ys) = true) (h3 : PyData.eqv (.list xs) (.list ys) = b) : gEq (.list xs) (.list ys) = .ok (.bool b) := by
  subst h3
  exact if_pos ⟨h1, h2⟩
theorem gNe_l {xs ys : List PD} {b : Bool} (h1 : SeqAt.shaped (.list xs) = true) (h2 : SeqAt.shaped (.list ys) = true) (h3 : PyData.eqv (.list xs) (.list ys) = b) : gNe (.list xs) (.list ys) = .ok (.bool (!b)) := by
  subst h3
  exact if_pos ⟨h1, h2⟩
theorem gEq_tself {xs : List PD} (h1 : SeqAt.shaped (.tuple xs) = true) (h2 : plainA xs = true) : gEq (.tuple xs) (.tuple xs) = .ok (.bool true) :=
  gEq_t h1 h1 ((eqv_plain _ _ (by simpa [plain] using h2) (by simpa [plain] using h2)).mpr rfl)
theorem gNe_tself {xs : List PD} (h1 : SeqAt.shaped (.tuple xs) = true) (h2 : plainA xs = true) : gNe (.tuple xs) (.tuple xs) = .ok (.bool false) :=
  gNe_t h1 h1 ((eqv_plain _ _ (by simpa [plain] using h2) (by simpa [plain] using h2)).mpr rfl)
section
variable {a b c a' b' c' : Int}
theorem sh2 : SeqAt.shaped (.tuple [.int a, .int b]) = true := rfl
theorem sh3 : SeqAt.shaped (.tuple [.int a, .int b, .int c]) = true := rfl
theorem gEq_2 : gEq (.tuple [.int a, .int b]) (.tuple [.int a', .int b']) = .ok (.bool (decide (a = a' ∧ b = b'))) := gEq_t sh2 sh2 (by simp only [PyData.eqv, PyData.eqvAll, Bool.decide_and, Bool.and_true]; rfl)
theorem gNe_2 : gNe (.tuple [.int a, .int b]) (.tuple [.int a', .int b']) = .ok (.bool (!decide (a = a' ∧ b = b'))) := gNe_t sh2 sh2 (by simp only [PyData.eqv, PyData.eqvAll, Bool.decide_and, Bool.and_true]; rfl)
theorem gEq_3 : gEq (.tuple [.int a, .int b, .int c]) (.tuple [.int a', .int b', .int c']) = .ok (.bool (decide (a = a' ∧ b = b' ∧ c = c'))) := gEq_t sh3 sh3 (by simp only [PyData.eqv, PyData.eqvAll, Bool.decide_and, Bool.and_true]; rfl)
theorem gNe_3 : gNe (.tuple [.int a, .int b, .int c]) (.tuple [.int a', .int b', .int c']) = .ok (.bool (!decide (a = a' ∧ b = b' ∧ c = c'))) := gNe_t sh3 sh3 (by simp only [PyData.eqv, PyData.eqvAll, Bool.decide_and, Bool.and_true]; rfl)
end
/-! ### lists of one's own, loops, comprehensions -/
def kSetL (i : Nat) (ρ : En) (ds : List PD) : Fl := .nx (ρ.set i (some (.l ds)))
def kDisp (ds : List PD) : R (List PD) := if ds.length ≤ 1000 then .ok ds else .no
def kFrz (i : Nat) (g : En → Fl) (ρ : En) : Option (Option SV) → Fl
  | some (some (.l xs)) => g (ρ.set i (some (.d (.list xs))))
  | _ => g ρ
def kLend (i : Nat) (f : En → R PD) (ρ : En) : Option (Option SV) → R PD
  | some (some (.l xs)) => (f (ρ.set i (some (.d (.list xs))))).bind atomD
  | _ => f ρ
def kLendB (i : Nat) (f : En → R Bool) (ρ : En) : Option (Option SV) → R Bool
  | some (some (.l xs)) => f (ρ.set i (some (.d (.list xs))))
  | _ => f ρ
def kApp (i : Nat) (xs : List PD) (ρ : En) (d : PD) : Fl := if xs.length < 16777216 then .nx (ρ.set i (some (.l (xs ++ [d])))) else .no
def kAppO (i : Nat) (f : En → R PD) (ρ : En) : Option (Option SV) → Fl
  | some (some (.l xs)) => (f ρ).fl ρ (kApp i xs ρ)
  | _ => .no
def kPut2 (i : Nat) (xs : List PD) (ρ : En) (d k : PD) : R Fl := match k with
  | .int z => (match ixN xs.length z with
    | some j => .ok (.nx (ρ.set i (some (.l (xs.set j d)))))
    | none => .no)
  | _ => .no
def kPutO (i : Nat) (fk fe : En → R PD) (ρ : En) : Option (Option SV) → Fl
  | some (some (.l xs)) => (R.bind2 (kPut2 i xs ρ) (fe ρ) (fk ρ)).fl ρ kId
  | _ => .no
def kIxO (f : En → R PD) (ρ : En) : Option (Option SV) → R PD
  | some (some (.l xs)) => (f ρ).bind (gIx (.list xs))
  | some (some (.d d)) => (f ρ).bind (gIx d)
  | _ => .no
def kLst (ds : List PD) : R PD := .ok (.list ds)
def kLcL (tg : Tg) (vs : List Nat) (tt : En → R Bool) (te : En → R PD) (ρ : En) (ds : List PD) : R (List PD) := if ds.length ≤ 1000000 then lcL tg tt te (wipeE ρ vs) ds else .no
section
variable {f fk fe : En → R PD} {fl : En → R (List PD)} {t : En → R Bool} {g : En → Fl} {ρ ρ1 : En} {i : Nat} {d e : PD} {ds xs : List PD} {x : PD}
theorem ev_setL : sSetL i fl ρ = (fl ρ).fl ρ (kSetL i ρ) := rfl
theorem kSetL_ev : kSetL i ρ ds = .nx (ρ.set i (some (.l ds))) := rfl
theorem ev_lDisp : lDisp fl ρ = (fl ρ).bind kDisp := rfl
theorem kDisp_ev (h : ds.length ≤ 1000) : kDisp ds = .ok ds := if_pos h
theorem ev_lList : lList f ρ = (f ρ).bind lOf := rfl
theorem lOf_l : lOf (.list ds) = .ok ds := rfl
theorem lOf_t : lOf (.tuple ds) = .ok ds := rfl
theorem ev_frz : sFrz i g ρ = kFrz i g ρ ρ[i]? := by
  unfold sFrz kFrz
  cases h : ρ[i]? with
  | none => rfl
  | some o =>
    cases o with
    | none => rfl
    | some v => cases v <;> rfl
theorem frz_l : kFrz i g ρ (some (some (.l xs))) = g (ρ.set i (some (.d (.list xs)))) := rfl
theorem frz_d : kFrz i g ρ (some (some (.d x))) = g ρ := rfl
theorem frz_n : kFrz i g ρ (some none) = g ρ := rfl
theorem ev_lend : dLend i f ρ = kLend i f ρ ρ[i]? := by
  unfold dLend kLend
  cases h : ρ[i]? with
  | none => rfl
  | some o =>
    cases o with
    | none => rfl
    | some v => cases v <;> rfl
theorem lend_l : kLend i f ρ (some (some (.l xs))) = (f (ρ.set i (some (.d (.list xs))))).bind atomD := rfl
theorem lend_d : kLend i f ρ (some (some (.d x))) = f ρ := rfl
theorem atom_i {z : Int} : atomD (.int z) = .ok (.int z) := rfl
theorem atom_b {z : Bool} : atomD (.bool z) = .ok (.bool z) := rfl
theorem atom_s {z : Str} : atomD (.str z) = .ok (.str z) := rfl
theorem ev_lendB : dLendB i t ρ = kLendB i t ρ ρ[i]? := by
  unfold dLendB kLendB
  cases h : ρ[i]? with
  | none => rfl
  | some o =>
    cases o with
    | none => rfl
    | some v => cases v <;> rfl
theorem lendB_l : kLendB i t ρ (some (some (.l xs))) = t (ρ.set i (some (.d (.list xs)))) := rfl
theorem lendB_d : kLendB i t ρ (some (some (.d x))) = t ρ := rfl
theorem ev_app : sApp i f ρ = kAppO i f ρ ρ[i]? := by
  unfold sApp kAppO
  cases h : ρ[i]? with
  | none => rfl
  | some o =>
    cases o with
    | none => rfl
    | some v => cases v <;> rfl
theorem app_l : kAppO i f ρ (some (some (.l xs))) = (f ρ).fl ρ (kApp i xs ρ) := rfl
theorem kApp_ev (h : xs.length < 16777216) : kApp i xs ρ d = .nx (ρ.set i (some (.l (xs ++ [d])))) := if_pos h
theorem ev_put : sPut i fk fe ρ = kPutO i fk fe ρ ρ[i]? := by
  unfold sPut kPutO
  cases h : ρ[i]? with
  | none => rfl
  | some o =>
    cases o with
    | none => rfl
    | some v =>
      cases v with
      | d x => rfl
      | k x => rfl
      | ll x => rfl
      | o c x => rfl
      | me c x => rfl
      | l xs =>
        show sE fe _ ρ = (R.bind2 (kPut2 i xs ρ) (fe ρ) (fk ρ)).fl ρ kId
        unfold sE R.bind2 R.fl kPut2
        cases h1 : fe ρ with
        | ok a =>
          cases h2 : fk ρ with
          | ok b =>
            simp only [h2]
            cases b with
            | int z =>
              show _ = _
              cases hj : ixN xs.length z with
              | none => simp only [hj]
              | some j => simp only [hj]; rfl
            | _ => rfl
          | ex c => simp only [h2]
          | no => simp only [h2]
        | ex c => rfl
        | no => rfl
theorem put_l : kPutO i fk fe ρ (some (some (.l xs))) = (R.bind2 (kPut2 i xs ρ) (fe ρ) (fk ρ)).fl ρ kId := rfl
theorem kPut2_ev {z : Int} {j : Nat} (h : ixN xs.length z = some j) : kPut2 i xs ρ d (.int z) = .ok (.nx (ρ.set i (some (.l (xs.set j d))))) := by
  unfold kPut2
  simp only [h]
theorem ev_ixO : dIxO i f ρ = kIxO f ρ ρ[i]? := by
  unfold dIxO kIxO
  cases h : ρ[i]? with
  | none => rfl
  | some o =>
    cases o with
    | none => rfl
    | some v =>
      cases v with
      | d x => rfl
      | k x => rfl
      | ll x => rfl
      | o c x => rfl
      | me c x => rfl
      | l xs =>
        show R.bind (f ρ) _ = R.bind (f ρ) _
        congr 1
        funext d
        cases d <;> rfl
theorem ixO_l : kIxO f ρ (some (some (.l xs))) = (f ρ).bind (gIx (.list xs)) := rfl
theorem ixO_d : kIxO f ρ (some (some (.d x))) = (f ρ).bind (gIx x) := rfl
theorem forL_nil {tg : Tg} : sForL tg g [] ρ = .nx ρ := rfl
theorem forL_1 : sForL (.one i) g (d :: ds) ρ = (g (ρ.set i (some (.d d)))).turn (sForL (.one i) g ds) := by
  rw [sForL]
  show (match g (ρ.set i (some (.d d))) with
      | .nx ρ2 => sForL (.one i) g ds ρ2
      | .ct ρ2 => sForL (.one i) g ds ρ2
      | .bk ρ2 => .nx ρ2
      | r => r) = _
  unfold Fl.turn
  cases g (ρ.set i (some (.d d))) <;> rfl
theorem forL_m {is : List Nat} (h : xs.length = is.length) : sForL (.many is) g (.tuple xs :: ds) ρ = (g (putAll is xs ρ)).turn (sForL (.many is) g ds) := by
  rw [sForL]
  have : Tg.put (.many is) (.tuple xs) ρ = some (putAll is xs ρ) := if_pos h
  rw [this]
  show (match g (putAll is xs ρ) with
      | .nx ρ2 => sForL (.many is) g ds ρ2
      | .ct ρ2 => sForL (.many is) g ds ρ2
      | .bk ρ2 => .nx ρ2
      | r => r) = _
  unfold Fl.turn
  cases g (putAll is xs ρ) <;> rfl
theorem put_m {is : List Nat} (h : xs.length = is.length) : Tg.put (.many is) (.tuple xs) ρ = some (putAll is xs ρ) := if_pos h
theorem putAll_c {is : List Nat} : putAll (i :: is) (d :: ds) ρ = putAll is ds (ρ.set i (some (.d d))) := rfl
theorem putAll_n : putAll [] ds ρ = ρ := by cases ds <;> rfl
theorem ev_lc {it : En → R (List PD)} {tg : Tg} {vs : List Nat} : dLc it tg vs t f ρ = (dLcL it tg vs t f ρ).bind kLst := rfl
theorem kLst_ev : kLst ds = .ok (.list ds) := rfl
theorem ev_lcL {it : En → R (List PD)} {tg : Tg} {vs : List Nat} : dLcL it tg vs t f ρ = (it ρ).bind (kLcL tg vs t f ρ) := rfl
theorem kLcL_ev {tg : Tg} {vs : List Nat} (h : ds.length ≤ 1000000) : kLcL tg vs t f ρ ds = lcL tg t f (wipeE ρ vs) ds := if_pos h
theorem wipe_n : wipeE ρ [] = ρ := rfl
theorem wipe_c {vs : List Nat} : wipeE ρ (i :: vs) = (wipeE ρ vs).set i none := rfl
/-- a comprehension without a test -/
theorem lcL_map {tg : Tg} (h : PD → PD) : ∀ (ds : List PD), (∀ d ∈ ds, ∃ ρ1, tg.put d ρ = some ρ1 ∧ f ρ1 = .ok (h d)) → lcL tg bYes f ρ ds = .ok (ds.map h)
  | [], _ => rfl
  | d :: ds, k => by
    obtain ⟨ρ1, e1, e2⟩ := k d List.mem_cons_self
    rw [lcL, e1]
    show (match bYes ρ1 with
      | .ok true => (match f ρ1 with
        | .ok y => (match lcL tg bYes f ρ ds with
          | .ok ys => R.ok (y :: ys)
          | _ => .no)
        | _ => .no)
      | .ok false => lcL tg bYes f ρ ds
      | _ => .no) = _
    rw [lcL_map h ds fun d hd => k d (List.mem_cons_of_mem _ hd), e2]
    rfl
/-- a comprehension with a test -/
theorem lcL_filter {tg : Tg} (q : PD → Bool) (h : PD → PD) : ∀ (ds : List PD), (∀ d ∈ ds, ∃ ρ1, tg.put d ρ = some ρ1 ∧ t ρ1 = .ok (q d) ∧ (q d = true → f ρ1 = .ok (h d))) → lcL tg t f ρ ds = .ok ((ds.filter q).map h)
  | [], _ => rfl
  | d :: ds, k => by
    obtain ⟨ρ1, e1, e2, e3⟩ := k d List.mem_cons_self
    have ih := lcL_filter q h ds fun d hd => k d (List.mem_cons_of_mem _ hd)
    rw [lcL, e1]
    show (match t ρ1 with
      | .ok true => (match f ρ1 with
        | .ok y => (match lcL tg t f ρ ds with
          | .ok ys => R.ok (y :: ys)
          | _ => .no)
        | _ => .no)
      | .ok false => lcL tg t f ρ ds
      | _ => .no) = _
    rw [ih, e2]
    cases z : q d with
    | true =>
      rw [e3 z, List.filter_cons_of_pos z]
      rfl
    | false =>
      rw [List.filter_cons_of_neg (by simp [z])]
end
theorem r1_2 : gR1 [.int 2] = .ok [.int 0, .int 1] := rfl
theorem r1_3 : gR1 [.int 3] = .ok [.int 0, .int 1, .int 2] := rfl
theorem bits_ev {z : Int} : gm_bit_length (.int z) = .ok (.int (Builtin.Int.intBits z : Nat)) := rfl
section
variable {a b c d a' b' c' d' : Int}
theorem gEq_22 : gEq (.tuple [.tuple [.int a, .int b], .tuple [.int c, .int d]]) (.tuple [.tuple [.int a', .int b'], .tuple [.int c', .int d']]) = .ok (.bool (decide ((a = a' ∧ b = b') ∧ c = c' ∧ d = d'))) :=
  gEq_t rfl rfl (by simp only [PyData.eqv, PyData.eqvAll, Bool.decide_and, Bool.and_true]; rfl)
theorem gNe_22 : gNe (.tuple [.tuple [.int a, .int b], .tuple [.int c, .int d]]) (.tuple [.tuple [.int a', .int b'], .tuple [.int c', .int d']]) = .ok (.bool (!decide ((a = a' ∧ b = b') ∧ c = c' ∧ d = d'))) :=
  gNe_t rfl rfl (by simp only [PyData.eqv, PyData.eqvAll, Bool.decide_and, Bool.and_true]; rfl)
end
section
variable {a b c d e : PD}
theorem len_t2 : gLen [.tuple [a, b]] = .ok (.int 2) := rfl
theorem len_t3 : gLen [.tuple [a, b, c]] = .ok (.int 3) := rfl
theorem len_t1 : gLen [.tuple [a]] = .ok (.int 1) := rfl
theorem len_t4 : gLen [.tuple [a, b, c, d]] = .ok (.int 4) := rfl
end
/-- range(0, n, 2) -/
theorem r3_2 {n : Int} (h0 : 0 ≤ n) (h1 : n < 2 ^ 40) : ∃ m : Nat, gR3 [.int 0, .int n, .int 2] = .ok (rng3 0 2 m) ∧ ∀ i : Nat, i < m → 2 * (i : Int) < n := by
  have hs : Builtin.Range.small 0 n 2 = true := by
    unfold Builtin.Range.small Builtin.Range.rangeSize Builtin.Range.rangeFitsLong
    by_cases h : 0 < n
    · simp [h]
      omega
    · have : n = 0 := by omega
      subst this
      decide
  have hz : 0 ≤ Builtin.Range.rangeSize 0 n 2 := by
    unfold Builtin.Range.rangeSize
    simp
    split <;> omega
  refine ⟨(Builtin.Range.rangeSize 0 n 2).toNat, ?_, fun i hi => ?_⟩
  · unfold gR3
    exact if_pos ⟨by decide, by decide, hs, hz⟩
  · unfold Builtin.Range.rangeSize at hi
    simp at hi
    split at hi <;> omega
/-! in, of numbers -/
theorem eqvI_any {d : Int} : ∀ zs : List Int, ((zs.map PyData.int).any fun y => PyData.eqv y (.int d)) = zs.any fun y => y == d
  | [] => rfl
  | z :: zs => by
    show (PyData.eqv (.int z) (.int d) || (zs.map PyData.int).any fun y => PyData.eqv y (.int d)) = (z == d || zs.any fun y => y == d)
    rw [eqvI_any zs]
    rfl
theorem flatI_all : ∀ zs : List Int, (zs.map PyData.int).all flatD = true
  | [] => rfl
  | z :: zs => flatI_all zs
theorem in_t {d : Int} {zs : List Int} {neg : Bool} : gIn neg (.int d) (.tuple (zs.map PyData.int)) = .ok (.bool ((zs.any fun y => y == d) != neg)) := by
  have : inL (.int d) (zs.map PyData.int) = .ok (zs.any fun y => y == d) := by
    unfold inL
    rw [if_pos ⟨rfl, flatI_all zs⟩, eqvI_any]
  show (inL (.int d) (zs.map PyData.int)).bind _ = _
  rw [this]
  rfl
theorem in_l {d : Int} {zs : List Int} {neg : Bool} : gIn neg (.int d) (.list (zs.map PyData.int)) = .ok (.bool ((zs.any fun y => y == d) != neg)) := by
  have : inL (.int d) (zs.map PyData.int) = .ok (zs.any fun y => y == d) := by
    unfold inL
    rw [if_pos ⟨rfl, flatI_all zs⟩, eqvI_any]
  show (inL (.int d) (zs.map PyData.int)).bind _ = _
  rw [this]
  rfl
/-- the ninety roots -/
def rootsL : List Int := ((List.range 98).map fun i => (2 : Int) + (i : Nat)).filter fun d => !([4, 9, 16, 25, 36, 49, 64, 81].any fun y => y == d)
theorem roots_lc {i : Nat} {f : En → R PD} {t : En → R Bool} {ρ : En} (hf : ∀ d : Int, f (ρ.set i (some (.d (.int d)))) = .ok (.int d)) (ht : ∀ d : Int, t (ρ.set i (some (.d (.int d)))) = .ok (([4, 9, 16, 25, 36, 49, 64, 81].any fun y => y == d) != true)) :
    lcL (.one i) t f ρ (rng 2 98) = .ok (rootsL.map PyData.int) := by
  rw [lcL_filter (fun d => match d with
    | .int z => !([4, 9, 16, 25, 36, 49, 64, 81].any fun y => y == z)
    | _ => false) id]
  · rw [List.map_id]
    unfold rng rootsL
    rw [List.filter_map, List.filter_map]
    rw [List.map_map]
    rfl
  · intro d hd
    unfold rng at hd
    obtain ⟨k, _, rfl⟩ := List.mem_map.mp hd
    refine ⟨_, rfl, ?_, fun _ => hf _⟩
    rw [ht]
    simp
theorem r2_roots : gR2 [.int 2, .int 100] = .ok (rng 2 98) := rfl
theorem rootsL_len : rootsL.length = 90 := by decide
end DL

set_option Elab.async false
set_option linter.all false
set_option maxRecDepth 100000
set_option maxHeartbeats 4000000
set_option autoImplicit false
namespace DL
open PySem L2
noncomputable def lt1_divisor : En → R Bool := dT (d2 gNe (dV 1) (dC (.int 0)))
noncomputable def lb1_divisor : En → Fl := sPar 0 1 (dV 1) (d2 gMod (dV 0) (dV 1))
noncomputable def den_divisor : En → Fl := sSeq (sWhile lt1_divisor lb1_divisor) (sRet (dA gAbs (dCons (dV 0) (dNil))))
noncomputable def m_divisor : List PD → R PD := fnD 2 den_divisor
theorem mm_divisor : m_divisor = fnD 2 den_divisor := rfl
noncomputable def den_fraction : En → Fl := sSeq (sSet 2 (dA (gCall 2 [] m_divisor) (dCons (dV 0) (dCons (dV 1) (dNil))))) (sSeq (sIf (dT (d2 gLt (dV 1) (dC (.int 0)))) (sSet 2 (d2 gSub (dC (.int 0)) (dV 2))) (sNx)) (sRet (dA gTupD (dCons (d2 gDiv (dV 0) (dV 2)) (dCons (d2 gDiv (dV 1) (dV 2)) (dNil))))))
noncomputable def m_fraction : List PD → R PD := fnD 3 den_fraction
theorem mm_fraction : m_fraction = fnD 3 den_fraction := rfl
noncomputable def den_parts : En → Fl := sRet (dA gTupD (dCons (dA (gCall 2 [] m_fraction) (dCons (d2 gIx (dV 0) (dC (.int 0))) (dCons (d2 gIx (dV 0) (dC (.int 2))) (dNil)))) (dCons (dA (gCall 2 [] m_fraction) (dCons (d2 gIx (dV 0) (dC (.int 1))) (dCons (d2 gIx (dV 0) (dC (.int 2))) (dNil)))) (dNil))))
noncomputable def m_parts : List PD → R PD := fnD 1 den_parts
theorem mm_parts : m_parts = fnD 1 den_parts := rfl
noncomputable def den_plus : En → Fl := sRet (dA (gCall 2 [] m_fraction) (dCons (d2 gAdd (d2 gMul (d2 gIx (dV 0) (dC (.int 0))) (d2 gIx (dV 1) (dC (.int 1)))) (d2 gMul (d2 gIx (dV 1) (dC (.int 0))) (d2 gIx (dV 0) (dC (.int 1))))) (dCons (d2 gMul (d2 gIx (dV 0) (dC (.int 1))) (d2 gIx (dV 1) (dC (.int 1)))) (dNil))))
noncomputable def m_plus : List PD → R PD := fnD 2 den_plus
theorem mm_plus : m_plus = fnD 2 den_plus := rfl
noncomputable def den_minus : En → Fl := sRet (dA (gCall 2 [] m_fraction) (dCons (d2 gSub (d2 gMul (d2 gIx (dV 0) (dC (.int 0))) (d2 gIx (dV 1) (dC (.int 1)))) (d2 gMul (d2 gIx (dV 1) (dC (.int 0))) (d2 gIx (dV 0) (dC (.int 1))))) (dCons (d2 gMul (d2 gIx (dV 0) (dC (.int 1))) (d2 gIx (dV 1) (dC (.int 1)))) (dNil))))
noncomputable def m_minus : List PD → R PD := fnD 2 den_minus
theorem mm_minus : m_minus = fnD 2 den_minus := rfl
noncomputable def den_times : En → Fl := sRet (dA (gCall 2 [] m_fraction) (dCons (d2 gMul (d2 gIx (dV 0) (dC (.int 0))) (d2 gIx (dV 1) (dC (.int 0)))) (dCons (d2 gMul (d2 gIx (dV 0) (dC (.int 1))) (d2 gIx (dV 1) (dC (.int 1)))) (dNil))))
noncomputable def m_times : List PD → R PD := fnD 2 den_times
theorem mm_times : m_times = fnD 2 den_times := rfl
noncomputable def le1_together : En → R PD := dA (gCall 2 [] m_plus) (dCons (dV 2) (dCons (dV 3) (dNil)))
noncomputable def le2_together : En → R PD := dA gTupOf (dCons (dLc (iA gZip (dCons (dV 4) (dCons (dV 5) (dNil)))) (.many [2, 3]) [2, 3] bYes le1_together) (dNil))
noncomputable def den_together : En → Fl := sRet (dA gTupOf (dCons (dLc (iA gZip (dCons (dV 0) (dCons (dV 1) (dNil)))) (.many [4, 5]) [4, 5] bYes le2_together) (dNil)))
noncomputable def m_together : List PD → R PD := fnD 6 den_together
theorem mm_together : m_together = fnD 6 den_together := rfl
noncomputable def le1_less : En → R PD := dA (gCall 2 [] m_minus) (dCons (dV 2) (dCons (dV 3) (dNil)))
noncomputable def le2_less : En → R PD := dA gTupOf (dCons (dLc (iA gZip (dCons (dV 4) (dCons (dV 5) (dNil)))) (.many [2, 3]) [2, 3] bYes le1_less) (dNil))
noncomputable def den_less : En → Fl := sRet (dA gTupOf (dCons (dLc (iA gZip (dCons (dV 0) (dCons (dV 1) (dNil)))) (.many [4, 5]) [4, 5] bYes le2_less) (dNil)))
noncomputable def m_less : List PD → R PD := fnD 6 den_less
theorem mm_less : m_less = fnD 6 den_less := rfl
noncomputable def den_over : En → Fl := sRet (dA gTupD (dCons (dA gTupD (dCons (d2 gIx (d2 gIx (dV 0) (dC (.int 0))) (dC (.int 0))) (dCons (d2 gIx (d2 gIx (dV 0) (dC (.int 1))) (dC (.int 0))) (dNil)))) (dCons (dA gTupD (dCons (d2 gIx (d2 gIx (dV 0) (dC (.int 0))) (dC (.int 1))) (dCons (d2 gIx (d2 gIx (dV 0) (dC (.int 1))) (dC (.int 1))) (dNil)))) (dNil))))
noncomputable def m_over : List PD → R PD := fnD 1 den_over
theorem mm_over : m_over = fnD 1 den_over := rfl
noncomputable def le1_table_of : En → R PD := dA (gCall 2 [] m_times) (dCons (dV 3) (dCons (dV 2) (dNil)))
noncomputable def le2_table_of : En → R PD := dA gTupOf (dCons (dLc (iT (dA (gCall 1 [] m_parts) (dCons (dV 1) (dNil)))) (.one 2) [2] bYes le1_table_of) (dNil))
noncomputable def den_table_of : En → Fl := sRet (dA gTupOf (dCons (dLc (iT (dA (gCall 1 [] m_parts) (dCons (dV 0) (dNil)))) (.one 3) [3] bYes le2_table_of) (dNil)))
noncomputable def m_table_of : List PD → R PD := fnD 4 den_table_of
theorem mm_table_of : m_table_of = fnD 4 den_table_of := rfl
def c_NOUGHT : PD := (.tuple [(.int 0), (.int 1)])
noncomputable def lb1_table : En → Fl := sSet 1 (dA (gCall 2 [] m_together) (dCons (dV 1) (dCons (dA (gCall 2 [] m_table_of) (dCons (dV 2) (dCons (dV 3) (dNil)))) (dNil))))
noncomputable def den_table : En → Fl := sSeq (sSet 1 (dA gTupD (dCons (dA gTupD (dCons (dC c_NOUGHT) (dCons (dC c_NOUGHT) (dNil)))) (dCons (dA gTupD (dCons (dC c_NOUGHT) (dCons (dC c_NOUGHT) (dNil)))) (dNil))))) (sSeq (sFor (iL (dV 0)) (.many [2, 3]) lb1_table) (sRet (dV 1)))
noncomputable def m_table : List PD → R PD := fnD 4 den_table
theorem mm_table : m_table = fnD 4 den_table := rfl
noncomputable def den_law_mix_v2 : En → Fl := sSeq (sIf (dAnd (dT (d2 gEq (d2 gMod (dV 0) (dC (.int 2))) (dC (.int 0)))) (dT (d2 gGt (d2 gShr (dV 0) (d2 gAdd (d2 gMul (dC (.int 20)) (dV 1)) (dC (.int 1)))) (dC (.int 0))))) (sRet (d2 gMod (d2 gShr (dV 0) (d2 gAdd (d2 gMul (dC (.int 20)) (dV 1)) (dC (.int 1)))) (dC (.int 1048576)))) (sNx)) (sSeq (sSet 2 (d2 gMod (d2 gMul (d2 gAdd (d2 gAdd (d2 gAdd (d2 gMod (dV 0) (dC (.int 2147483647))) (d2 gMul (d2 gMul (dC (.int 48271)) (dV 1)) (dV 1))) (dV 1)) (dC (.int 1))) (dC (.int 69621))) (dC (.int 2147483629)))) (sSeq (sSet 2 (d2 gMod (d2 gAdd (d2 gAdd (d2 gMul (dV 2) (dV 2)) (d2 gMul (dC (.int 7919)) (dV 1))) (dC (.int 5))) (dC (.int 2147483587)))) (sRet (d2 gMod (d2 gMul (dV 2) (dV 2)) (dC (.int 2147483629))))))
noncomputable def m_law_mix_v2 : List PD → R PD := fnD 3 den_law_mix_v2
theorem mm_law_mix_v2 : m_law_mix_v2 = fnD 3 den_law_mix_v2 := rfl
noncomputable def den_law_whole : En → Fl := sRet (dAndV (d1 (gIsi "int") (dV 0)) (dNotV (d1 (gIsi "bool") (dV 0))))
noncomputable def m_law_whole : List PD → R PD := fnD 1 den_law_whole
theorem mm_law_whole : m_law_whole = fnD 1 den_law_whole := rfl
noncomputable def lt1_law_low : En → R Bool := dT (d2 gNe (dV 4) (dC (.int 0)))
noncomputable def lb1_law_low : En → Fl := sPar 3 4 (dV 4) (d2 gMod (dV 3) (dV 4))
noncomputable def lb2_law_low : En → Fl := sWhile lt1_law_low lb1_law_low
noncomputable def den_law_low : En → Fl := sSeq (sSet 3 (dA gAbs (dCons (dV 2) (dNil)))) (sSeq (sFor (iL (dA gLstD (dCons (dA gAbs (dCons (dV 0) (dNil))) (dCons (dA gAbs (dCons (dV 1) (dNil))) (dNil))))) (.one 4) lb2_law_low) (sSeq (sIf (dT (d2 gLt (dV 2) (dC (.int 0)))) (sSet 3 (d2 gSub (dC (.int 0)) (dV 3))) (sNx)) (sRet (dA gTupD (dCons (d2 gDiv (dV 0) (dV 3)) (dCons (d2 gDiv (dV 1) (dV 3)) (dCons (d2 gDiv (dV 2) (dV 3)) (dNil))))))))
noncomputable def m_law_low : List PD → R PD := fnD 5 den_law_low
theorem mm_law_low : m_law_low = fnD 5 den_law_low := rfl
noncomputable def lt1_law_fraction : En → R Bool := dT (d2 gNe (dV 3) (dC (.int 0)))
noncomputable def lb1_law_fraction : En → Fl := sPar 2 3 (dV 3) (d2 gMod (dV 2) (dV 3))
noncomputable def den_law_fraction : En → Fl := sSeq (sPar 2 3 (dA gAbs (dCons (dV 1) (dNil))) (dA gAbs (dCons (dV 0) (dNil)))) (sSeq (sWhile lt1_law_fraction lb1_law_fraction) (sSeq (sIf (dT (d2 gLt (dV 1) (dC (.int 0)))) (sSet 2 (d2 gSub (dC (.int 0)) (dV 2))) (sNx)) (sRet (dA gTupD (dCons (d2 gDiv (dV 0) (dV 2)) (dCons (d2 gDiv (dV 1) (dV 2)) (dNil)))))))
noncomputable def m_law_fraction : List PD → R PD := fnD 4 den_law_fraction
theorem mm_law_fraction : m_law_fraction = fnD 4 den_law_fraction := rfl
noncomputable def lq1_law_root_v3 : En → R Bool := dT (d2 (gIn true) (dV 2) (dA gLstD (dCons (dC (.int 4)) (dCons (dC (.int 9)) (dCons (dC (.int 16)) (dCons (dC (.int 25)) (dCons (dC (.int 36)) (dCons (dC (.int 49)) (dCons (dC (.int 64)) (dCons (dC (.int 81)) (dNil)))))))))))
noncomputable def le1_law_root_v3 : En → R PD := dV 2
noncomputable def den_law_root_v3 : En → Fl := sSeq (sSet 1 (dLc (iA gR2 (dCons (dC (.int 2)) (dCons (dC (.int 100)) (dNil)))) (.one 2) [2] lq1_law_root_v3 le1_law_root_v3)) (sRet (d2 gIx (dV 1) (d2 gMod (dV 0) (dC (.int 90)))))
noncomputable def m_law_root_v3 : List PD → R PD := fnD 3 den_law_root_v3
theorem mm_law_root_v3 : m_law_root_v3 = fnD 3 den_law_root_v3 := rfl
noncomputable def lt1_law_side_v2 : En → R Bool := dT (d2 gLt (d2 gMul (dV 6) (dV 6)) (d2 gMul (d2 gMul (dV 2) (dV 4)) (dV 4)))
noncomputable def lb1_law_side_v2 : En → Fl := sSet 6 (d2 gAdd (dV 6) (dC (.int 1)))
noncomputable def den_law_side_v2 : En → Fl := sSeq (sSet 3 (d2 gAdd (dC (.int 1)) (d2 gMod (dA (gCall 2 [] m_law_mix_v2) (dCons (dV 0) (dCons (dV 1) (dNil)))) (dC (.int 12))))) (sSeq (sSet 4 (d2 gSub (d2 gMod (dA (gCall 2 [] m_law_mix_v2) (dCons (dV 0) (dCons (d2 gAdd (dV 1) (dC (.int 1))) (dNil)))) (dC (.int 19))) (dC (.int 9)))) (sSeq (sSet 5 (d2 gMod (dA (gCall 2 [] m_law_mix_v2) (dCons (dV 0) (dCons (d2 gAdd (dV 1) (dC (.int 2))) (dNil)))) (dC (.int 6)))) (sSeq (sIf (dT (d2 gEq (dV 5) (dC (.int 0)))) (sSet 4 (dC (.int 0))) (sNx)) (sSeq (sIf (dT (d2 gEq (dV 5) (dC (.int 1)))) (sSeq (sSet 4 (d2 gMul (d2 gMul (dV 4) (dA (gCall 2 [] m_law_mix_v2) (dCons (dV 0) (dCons (d2 gAdd (dV 1) (dC (.int 3))) (dNil))))) (dA (gCall 2 [] m_law_mix_v2) (dCons (dV 0) (dCons (d2 gAdd (dV 1) (dC (.int 4))) (dNil)))))) (sSet 3 (d2 gAdd (dC (.int 1)) (d2 gMod (dA (gCall 2 [] m_law_mix_v2) (dCons (dV 0) (dCons (d2 gAdd (dV 1) (dC (.int 5))) (dNil)))) (d2 gPow (dC (.int 10)) (dC (.int 9))))))) (sNx)) (sSeq (sSet 6 (d2 gMod (dA (gCall 2 [] m_law_mix_v2) (dCons (dV 0) (dCons (d2 gAdd (dV 1) (dC (.int 6))) (dNil)))) (dC (.int 10)))) (sSeq (sIf (dT (d2 gLt (dV 4) (dC (.int 0)))) (sSet 6 (d2 gAdd (dV 6) (d2 gMul (dC (.int 10)) (dA gAbs (dCons (dV 4) (dNil)))))) (sNx)) (sSeq (sIf (dAnd (dT (d2 gEq (dV 5) (dC (.int 2)))) (dT (d2 gLt (dV 4) (dC (.int 0))))) (sSeq (sSet 6 (dC (.int 1))) (sWhile lt1_law_side_v2 lb1_law_side_v2)) (sNx)) (sSeq (sIf (dAnd (dT (d2 gEq (dV 5) (dC (.int 3)))) (dT (d2 gGt (dV 4) (dC (.int 0))))) (sSet 6 (d2 gSub (dC (.int 0)) (dV 4))) (sNx)) (sSeq (sIf (dAnd (dT (d2 gEq (dV 6) (dC (.int 0)))) (dT (d2 gLe (dV 4) (dC (.int 0))))) (sSet 6 (dC (.int 1))) (sNx)) (sRet (dA (gCall 3 [] m_law_low) (dCons (dV 6) (dCons (dV 4) (dCons (dV 3) (dNil)))))))))))))))
noncomputable def m_law_side_v2 : List PD → R PD := fnD 7 den_law_side_v2
theorem mm_law_side_v2 : m_law_side_v2 = fnD 7 den_law_side_v2 := rfl
noncomputable def lb1_law_is : En → Fl := sIf (dNot (dT (dA (gCall 1 [] m_law_whole) (dCons (d2 gIx (dV 0) (dV 2)) (dNil))))) (sRet (dC (.bool false))) (sNx)
noncomputable def den_law_is : En → Fl := sSeq (sIf (dOr (dNot (dT (d1 (gIsi "tuple") (dV 0)))) (dT (d2 gNe (dA gLen (dCons (dV 0) (dNil))) (dA gLen (dCons (dV 1) (dNil)))))) (sRet (dC (.bool false))) (sNx)) (sSeq (sFor (iA gR1 (dCons (dA gLen (dCons (dV 1) (dNil))) (dNil))) (.one 2) lb1_law_is) (sRet (d2 gEq (dV 0) (dV 1))))
noncomputable def m_law_is : List PD → R PD := fnD 3 den_law_is
theorem mm_law_is : m_law_is = fnD 3 den_law_is := rfl
noncomputable def le1_law_heap : En → R PD := dA gTupD (dCons (dA (gCall 3 [] m_law_side_v2) (dCons (dV 2) (dCons (dC (.int 0)) (dCons (dV 1) (dNil))))) (dCons (dA (gCall 3 [] m_law_side_v2) (dCons (dV 2) (dCons (dC (.int 20)) (dCons (dV 1) (dNil))))) (dNil)))
noncomputable def den_law_heap : En → Fl := sRet (dLc (iL (dV 0)) (.one 2) [2] bYes le1_law_heap)
noncomputable def m_law_heap : List PD → R PD := fnD 3 den_law_heap
theorem mm_law_heap : m_law_heap = fnD 3 den_law_heap := rfl
noncomputable def den_law_add : En → Fl := sRet (dA (gCall 2 [] m_law_fraction) (dCons (d2 gAdd (d2 gMul (d2 gIx (dV 0) (dC (.int 0))) (d2 gIx (dV 1) (dC (.int 1)))) (d2 gMul (d2 gIx (dV 1) (dC (.int 0))) (d2 gIx (dV 0) (dC (.int 1))))) (dCons (d2 gMul (d2 gIx (dV 0) (dC (.int 1))) (d2 gIx (dV 1) (dC (.int 1)))) (dNil))))
noncomputable def m_law_add : List PD → R PD := fnD 2 den_law_add
theorem mm_law_add : m_law_add = fnD 2 den_law_add := rfl
noncomputable def lb1_law_places : En → Fl := sPut2 1 (dV 4) (dV 5) (dA (gCall 2 [] m_law_add) (dCons (dIx2 1 (dV 4) (dV 5)) (dCons (dA gTupD (dCons (d2 gMul (d2 gIx (dV 2) (dV 4)) (d2 gIx (dV 3) (dV 5))) (dCons (d2 gMul (d2 gIx (dV 2) (dC (.int 2))) (d2 gIx (dV 3) (dC (.int 2)))) (dNil)))) (dNil))))
noncomputable def lb2_law_places : En → Fl := sFor (iA gR1 (dCons (dC (.int 2)) (dNil))) (.one 5) lb1_law_places
noncomputable def lb3_law_places : En → Fl := sFor (iA gR1 (dCons (dC (.int 2)) (dNil))) (.one 4) lb2_law_places
noncomputable def den_law_places : En → Fl := sSeq (sSetLL 1 (lDisp2 (dCons (dA gTupD (dCons (dC (.int 0)) (dCons (dC (.int 1)) (dNil)))) (dCons (dA gTupD (dCons (dC (.int 0)) (dCons (dC (.int 1)) (dNil)))) (dNil))) (dCons (dA gTupD (dCons (dC (.int 0)) (dCons (dC (.int 1)) (dNil)))) (dCons (dA gTupD (dCons (dC (.int 0)) (dCons (dC (.int 1)) (dNil)))) (dNil))))) (sSeq (sFor (iL (dV 0)) (.many [2, 3]) lb3_law_places) (sFrzLL 1 (sRet (dV 1))))
noncomputable def m_law_places : List PD → R PD := fnD 6 den_law_places
theorem mm_law_places : m_law_places = fnD 6 den_law_places := rfl
noncomputable def lb1_law_is_table : En → Fl := sIf (dNot (dT (dA (gCall 2 [] m_law_is) (dCons (d2 gIx (d2 gIx (dV 0) (dV 2)) (dV 3)) (dCons (d2 gIx (d2 gIx (dV 1) (dV 2)) (dV 3)) (dNil)))))) (sRet (dC (.bool false))) (sNx)
noncomputable def lb2_law_is_table : En → Fl := sSeq (sIf (dOr (dNot (dT (d1 (gIsi "tuple") (d2 gIx (dV 0) (dV 2))))) (dT (d2 gNe (dA gLen (dCons (d2 gIx (dV 0) (dV 2)) (dNil))) (dC (.int 2))))) (sRet (dC (.bool false))) (sNx)) (sFor (iA gR1 (dCons (dC (.int 2)) (dNil))) (.one 3) lb1_law_is_table)
noncomputable def den_law_is_table : En → Fl := sSeq (sIf (dOr (dNot (dT (d1 (gIsi "tuple") (dV 0)))) (dT (d2 gNe (dA gLen (dCons (dV 0) (dNil))) (dC (.int 2))))) (sRet (dC (.bool false))) (sNx)) (sSeq (sFor (iA gR1 (dCons (dC (.int 2)) (dNil))) (.one 2) lb2_law_is_table) (sRet (dC (.bool true))))
noncomputable def m_law_is_table : List PD → R PD := fnD 4 den_law_is_table
theorem mm_law_is_table : m_law_is_table = fnD 4 den_law_is_table := rfl
noncomputable def lb1_law_k13 : En → Fl := sSeq (sSet 6 (dA gListOf (dCons (dV 5) (dNil)))) (sSeq (sSet 7 (dA (gCall 1 [] m_table) (dCons (dV 5) (dNil)))) (sSeq (sSet 8 (dA (gCall 1 [] m_law_places) (dCons (dV 5) (dNil)))) (sSeq (sIf (dOr (dNot (dT (dA (gCall 2 [] m_law_is_table) (dCons (dV 7) (dCons (dV 8) (dNil)))))) (dOr (dT (d2 gNe (dV 5) (dV 6))) (dT (d2 gNe (dA (gCall 1 [] m_table) (dCons (d1 gRevL (dV 5)) (dNil))) (dV 7))))) (sRet (dC (.bool false))) (sNx)) (sSeq (sIf (dNot (dT (dA (gCall 2 [] m_law_is_table) (dCons (dA (gCall 1 [] m_over) (dCons (dV 7) (dNil))) (dCons (dA gLstD (dCons (dA gLstD (dCons (d2 gIx (d2 gIx (dV 8) (dC (.int 0))) (dC (.int 0))) (dCons (d2 gIx (d2 gIx (dV 8) (dC (.int 1))) (dC (.int 0))) (dNil)))) (dCons (dA gLstD (dCons (d2 gIx (d2 gIx (dV 8) (dC (.int 0))) (dC (.int 1))) (dCons (d2 gIx (d2 gIx (dV 8) (dC (.int 1))) (dC (.int 1))) (dNil)))) (dNil)))) (dNil)))))) (sRet (dC (.bool false))) (sNx)) (sApp 4 (dV 7))))))
noncomputable def den_law_k13 : En → Fl := sSeq (sSet 1 (dA (gCall 1 [] m_law_root_v3) (dCons (dA gSum (dCons (dSl (dV 0) (dP0) (dP (dC (.int 1)))) (dNil))) (dNil)))) (sSeq (sSet 2 (dA (gCall 2 [] m_law_heap) (dCons (dSl (d2 gAdd (dSl (dV 0) (dP (dC (.int 1))) (dP (dC (.int 13)))) (dA gLstD (dCons (dC (.int 5)) (dNil)))) (dP0) (dP (dC (.int 12)))) (dCons (dV 1) (dNil))))) (sSeq (sSet 3 (dA (gCall 2 [] m_law_heap) (dCons (dSl (d2 gAdd (dSl (dV 0) (dP (dC (.int 13))) (dP (dC (.int 25)))) (dA gLstD (dCons (dC (.int 8)) (dNil)))) (dP0) (dP (dC (.int 12)))) (dCons (dV 1) (dNil))))) (sSeq (sSetL 4 (lDisp (dNil))) (sSeq (sFor (iL (dA gLstD (dCons (dV 2) (dCons (dV 3) (dCons (d2 gAdd (dV 2) (dV 3)) (dNil)))))) (.one 5) lb1_law_k13) (sFrz 4 (sSeq (sIf (dNot (dT (dA (gCall 2 [] m_law_is_table) (dCons (dA (gCall 2 [] m_together) (dCons (d2 gIx (dV 4) (dC (.int 0))) (dCons (d2 gIx (dV 4) (dC (.int 1))) (dNil)))) (dCons (d2 gIx (dV 4) (dC (.int 2))) (dNil)))))) (sRet (dC (.bool false))) (sNx)) (sRet (dAndV (dA (gCall 2 [] m_law_is_table) (dCons (dA (gCall 2 [] m_less) (dCons (d2 gIx (dV 4) (dC (.int 2))) (dCons (d2 gIx (dV 4) (dC (.int 0))) (dNil)))) (dCons (d2 gIx (dV 4) (dC (.int 1))) (dNil)))) (dA (gCall 2 [] m_law_is_table) (dCons (dA (gCall 2 [] m_less) (dCons (d2 gIx (dV 4) (dC (.int 2))) (dCons (d2 gIx (dV 4) (dC (.int 1))) (dNil)))) (dCons (d2 gIx (dV 4) (dC (.int 0))) (dNil))))))))))))
noncomputable def m_law_k13 : List PD → R PD := fnD 9 den_law_k13
theorem mm_law_k13 : m_law_k13 = fnD 9 den_law_k13 := rfl
noncomputable def den_is_whole : En → Fl := sRet (dAndV (d1 (gIsi "int") (dV 0)) (dNotV (d1 (gIsi "bool") (dV 0))))
noncomputable def m_is_whole : List PD → R PD := fnD 1 den_is_whole
theorem mm_is_whole : m_is_whole = fnD 1 den_is_whole := rfl
noncomputable def den_lowest : En → Fl := sSeq (sSet 3 (dA (gCall 2 [] m_divisor) (dCons (dA (gCall 2 [] m_divisor) (dCons (dV 0) (dCons (dV 1) (dNil)))) (dCons (dV 2) (dNil))))) (sSeq (sIf (dT (d2 gLt (dV 2) (dC (.int 0)))) (sSet 3 (d2 gSub (dC (.int 0)) (dV 3))) (sNx)) (sRet (dA gTupD (dCons (d2 gDiv (dV 0) (dV 3)) (dCons (d2 gDiv (dV 1) (dV 3)) (dCons (d2 gDiv (dV 2) (dV 3)) (dNil)))))))
noncomputable def m_lowest : List PD → R PD := fnD 4 den_lowest
theorem mm_lowest : m_lowest = fnD 4 den_lowest := rfl
noncomputable def den_length : En → Fl := sSeq (sIf (dOr (dNot (dT (dA (gCall 1 [] m_is_whole) (dCons (dV 0) (dNil))))) (dOr (dNot (dT (dA (gCall 1 [] m_is_whole) (dCons (dV 1) (dNil))))) (dOr (dNot (dT (dA (gCall 1 [] m_is_whole) (dCons (dV 2) (dNil))))) (dT (d2 gEq (dV 2) (dC (.int 0))))))) (sRaise "NoLength") (sNx)) (sRet (dA (gCall 3 [] m_lowest) (dCons (dV 0) (dCons (dV 1) (dCons (dV 2) (dNil))))))
noncomputable def m_length : List PD → R PD := fnD 3 den_length
theorem mm_length : m_length = fnD 3 den_length := rfl
noncomputable def den_law_great : En → Fl := sSeq (sSet 2 (d2 gMul (d2 gAdd (d2 gAdd (dV 0) (dV 1)) (dC (.int 1))) (dC (.int 105152070229383420083013462309641843003)))) (sRet (d2 gMod (dV 2) (dC (.int 170141183460469231731687303715884105727))))
noncomputable def m_law_great : List PD → R PD := fnD 3 den_law_great
theorem mm_law_great : m_law_great = fnD 3 den_law_great := rfl
noncomputable def lt1_law_divisor : En → R Bool := dT (d2 gGt (dV 1) (dC (.int 0)))
noncomputable def lb1_law_divisor : En → Fl := sPar 0 1 (dV 1) (d2 gMod (dV 0) (dV 1))
noncomputable def den_law_divisor : En → Fl := sSeq (sSet 0 (dA gAbs (dCons (dV 0) (dNil)))) (sSeq (sSet 1 (dA gAbs (dCons (dV 1) (dNil)))) (sSeq (sWhile lt1_law_divisor lb1_law_divisor) (sRet (dV 0))))
noncomputable def m_law_divisor : List PD → R PD := fnD 2 den_law_divisor
theorem mm_law_divisor : m_law_divisor = fnD 2 den_law_divisor := rfl
noncomputable def den_law_number : En → Fl := sSeq (sSet 3 (dA (gCall 2 [] m_law_great) (dCons (dV 0) (dCons (dV 1) (dNil))))) (sSeq (sIf (dT (d2 gEq (d2 gMod (dV 3) (dC (.int 40))) (dC (.int 0)))) (sSeq (sSet 4 (d2 gMul (d2 gPow (dC (.int 10)) (dC (.int 40))) (d2 gPow (dV 2) (dC (.int 8))))) (sRet (d2 gAdd (d2 gSub (d2 gMod (d2 gPow (d2 gDiv (dV 3) (dC (.int 40))) (dC (.int 10))) (d2 gSub (d2 gMul (dC (.int 2)) (dV 4)) (dC (.int 1)))) (dV 4)) (dC (.int 1))))) (sNx)) (sSeq (sIf (dT (d2 gEq (d2 gMod (dV 3) (dC (.int 5))) (dC (.int 0)))) (sRet (d2 gSub (d2 gMod (d2 gMul (d2 gDiv (dV 3) (dC (.int 5))) (dV 3)) (d2 gSub (d2 gMul (dC (.int 2)) (dV 2)) (dC (.int 1)))) (d2 gSub (dV 2) (dC (.int 1))))) (sNx)) (sSeq (sIf (dT (d2 gEq (d2 gMod (dV 3) (dC (.int 5))) (dC (.int 1)))) (sRet (d2 gSub (d2 gMod (d2 gDiv (dV 3) (dC (.int 5))) (dC (.int 2001))) (dC (.int 1000)))) (sNx)) (sSeq (sIf (dT (d2 gEq (d2 gMod (dV 3) (dC (.int 5))) (dC (.int 2)))) (sRet (d2 gIx (dA gLstD (dCons (dC (.int 0)) (dCons (dC (.int 1)) (dCons (d1 gNeg (dC (.int 1))) (dCons (dC (.int 12)) (dCons (d1 gNeg (dC (.int 60))) (dCons (d2 gDiv (dV 2) (dC (.int 10))) (dNil)))))))) (d2 gMod (d2 gDiv (dV 3) (dC (.int 5))) (dC (.int 6))))) (sNx)) (sRet (d2 gSub (d2 gMod (d2 gDiv (dV 3) (dC (.int 5))) (dC (.int 25))) (dC (.int 12))))))))
noncomputable def m_law_number : List PD → R PD := fnD 5 den_law_number
theorem mm_law_number : m_law_number = fnD 5 den_law_number := rfl
noncomputable def den_law_stands : En → Fl := sSeq (sIf (dOr (dNot (dT (d1 (gIsi "tuple") (dV 0)))) (dT (d2 gNe (dA gLen (dCons (dV 0) (dNil))) (dC (.int 3))))) (sRet (dC (.bool false))) (sNx)) (sSeq (sIf (dOr (dNot (dT (dA (gCall 1 [] m_law_whole) (dCons (d2 gIx (dV 0) (dC (.int 0))) (dNil))))) (dOr (dNot (dT (dA (gCall 1 [] m_law_whole) (dCons (d2 gIx (dV 0) (dC (.int 1))) (dNil))))) (dOr (dNot (dT (dA (gCall 1 [] m_law_whole) (dCons (d2 gIx (dV 0) (dC (.int 2))) (dNil))))) (dT (d2 gLt (d2 gIx (dV 0) (dC (.int 2))) (dC (.int 1))))))) (sRet (dC (.bool false))) (sNx)) (sSeq (sIf (dT (d2 gNe (dA (gCall 2 [] m_law_divisor) (dCons (dA (gCall 2 [] m_law_divisor) (dCons (d2 gIx (dV 0) (dC (.int 0))) (dCons (d2 gIx (dV 0) (dC (.int 1))) (dNil)))) (dCons (d2 gIx (dV 0) (dC (.int 2))) (dNil)))) (dC (.int 1)))) (sRet (dC (.bool false))) (sNx)) (sRet (dAndV (d2 gEq (d2 gMul (d2 gIx (dV 0) (dC (.int 0))) (dV 3)) (d2 gMul (dV 1) (d2 gIx (dV 0) (dC (.int 2))))) (d2 gEq (d2 gMul (d2 gIx (dV 0) (dC (.int 1))) (dV 3)) (d2 gMul (dV 2) (d2 gIx (dV 0) (dC (.int 2)))))))))
noncomputable def m_law_stands : List PD → R PD := fnD 4 den_law_stands
theorem mm_law_stands : m_law_stands = fnD 4 den_law_stands := rfl
noncomputable def lt1_root_floor : En → R Bool := dT (dC (.bool true))
noncomputable def lb1_root_floor : En → Fl := sSeq (sSet 2 (d2 gDiv (d2 gAdd (dV 1) (d2 gDiv (dV 0) (dV 1))) (dC (.int 2)))) (sSeq (sIf (dT (d2 gGe (dV 2) (dV 1))) (sRet (dV 1)) (sNx)) (sSet 1 (dV 2)))
noncomputable def den_root_floor : En → Fl := sSeq (sIf (dT (d2 gEq (dV 0) (dC (.int 0)))) (sRet (dC (.int 0))) (sNx)) (sSeq (sSet 1 (d2 gShl (dC (.int 1)) (d2 gDiv (d2 gAdd (d1 gm_bit_length (dV 0)) (dC (.int 1))) (dC (.int 2))))) (sWhile lt1_root_floor lb1_root_floor))
noncomputable def m_root_floor : List PD → R PD := fnD 3 den_root_floor
theorem mm_root_floor : m_root_floor = fnD 3 den_root_floor := rfl
noncomputable def den_added : En → Fl := sSeq (sSet 2 (d2 gMul (d2 gIx (dV 0) (dC (.int 2))) (d2 gIx (dV 1) (dC (.int 2))))) (sRet (dA (gCall 3 [] m_lowest) (dCons (d2 gAdd (d2 gMul (d2 gIx (dV 0) (dC (.int 0))) (d2 gIx (dV 1) (dC (.int 2)))) (d2 gMul (d2 gIx (dV 1) (dC (.int 0))) (d2 gIx (dV 0) (dC (.int 2))))) (dCons (d2 gAdd (d2 gMul (d2 gIx (dV 0) (dC (.int 1))) (d2 gIx (dV 1) (dC (.int 2)))) (d2 gMul (d2 gIx (dV 1) (dC (.int 1))) (d2 gIx (dV 0) (dC (.int 2))))) (dCons (dV 2) (dNil))))))
noncomputable def m_added : List PD → R PD := fnD 3 den_added
theorem mm_added : m_added = fnD 3 den_added := rfl
noncomputable def den_taken : En → Fl := sRet (dA (gCall 2 [] m_added) (dCons (dV 0) (dCons (dA gTupD (dCons (d2 gSub (dC (.int 0)) (d2 gIx (dV 1) (dC (.int 0)))) (dCons (d2 gSub (dC (.int 0)) (d2 gIx (dV 1) (dC (.int 1)))) (dCons (d2 gIx (dV 1) (dC (.int 2))) (dNil))))) (dNil))))
noncomputable def m_taken : List PD → R PD := fnD 2 den_taken
theorem mm_taken : m_taken = fnD 2 den_taken := rfl
noncomputable def den_law_lowest : En → Fl := sSeq (sSet 3 (dA (gCall 2 [] m_law_divisor) (dCons (dA (gCall 2 [] m_law_divisor) (dCons (dV 0) (dCons (dV 1) (dNil)))) (dCons (dV 2) (dNil))))) (sSeq (sIf (dT (d2 gLt (dV 2) (dC (.int 0)))) (sSet 3 (d2 gSub (dC (.int 0)) (dV 3))) (sNx)) (sRet (dA gTupD (dCons (d2 gDiv (dV 0) (dV 3)) (dCons (d2 gDiv (dV 1) (dV 3)) (dCons (d2 gDiv (dV 2) (dV 3)) (dNil)))))))
noncomputable def m_law_lowest : List PD → R PD := fnD 4 den_law_lowest
theorem mm_law_lowest : m_law_lowest = fnD 4 den_law_lowest := rfl
noncomputable def den_law_same : En → Fl := sSeq (sIf (dOr (dNot (dT (d1 (gIsi "tuple") (dV 0)))) (dT (d2 gNe (dA gLen (dCons (dV 0) (dNil))) (dC (.int 3))))) (sRet (dC (.bool false))) (sNx)) (sSeq (sIf (dOr (dNot (dT (dA (gCall 1 [] m_law_whole) (dCons (d2 gIx (dV 0) (dC (.int 0))) (dNil))))) (dOr (dNot (dT (dA (gCall 1 [] m_law_whole) (dCons (d2 gIx (dV 0) (dC (.int 1))) (dNil))))) (dNot (dT (dA (gCall 1 [] m_law_whole) (dCons (d2 gIx (dV 0) (dC (.int 2))) (dNil))))))) (sRet (dC (.bool false))) (sNx)) (sRet (d2 gEq (dV 0) (dV 1))))
noncomputable def m_law_same : List PD → R PD := fnD 2 den_law_same
theorem mm_law_same : m_law_same = fnD 2 den_law_same := rfl
noncomputable def den_law_length : En → Fl := sSeq (sSet 3 (dA (gCall 3 [] m_law_number) (dCons (dV 0) (dCons (dV 1) (dCons (dV 2) (dNil)))))) (sSeq (sSet 4 (dA (gCall 3 [] m_law_number) (dCons (dV 0) (dCons (d2 gAdd (dV 1) (dC (.int 10))) (dCons (dV 2) (dNil)))))) (sSeq (sSet 5 (d2 gAdd (dC (.int 1)) (dA gAbs (dCons (dA (gCall 3 [] m_law_number) (dCons (dV 0) (dCons (d2 gAdd (dV 1) (dC (.int 20))) (dCons (d2 gDiv (dV 2) (dC (.int 10))) (dNil))))) (dNil))))) (sRet (dA (gCall 3 [] m_law_lowest) (dCons (dV 3) (dCons (dV 4) (dCons (dV 5) (dNil))))))))
noncomputable def m_law_length : List PD → R PD := fnD 6 den_law_length
theorem mm_law_length : m_law_length = fnD 6 den_law_length := rfl
noncomputable def den_law_sum : En → Fl := sSeq (sSet 3 (d2 gAdd (d2 gMul (d2 gIx (dV 0) (dC (.int 0))) (d2 gIx (dV 1) (dC (.int 2)))) (d2 gMul (d2 gMul (dV 2) (d2 gIx (dV 1) (dC (.int 0)))) (d2 gIx (dV 0) (dC (.int 2)))))) (sSeq (sSet 4 (d2 gAdd (d2 gMul (d2 gIx (dV 0) (dC (.int 1))) (d2 gIx (dV 1) (dC (.int 2)))) (d2 gMul (d2 gMul (dV 2) (d2 gIx (dV 1) (dC (.int 1)))) (d2 gIx (dV 0) (dC (.int 2)))))) (sRet (dA (gCall 3 [] m_law_lowest) (dCons (dV 3) (dCons (dV 4) (dCons (d2 gMul (d2 gIx (dV 0) (dC (.int 2))) (d2 gIx (dV 1) (dC (.int 2)))) (dNil)))))))
noncomputable def m_law_sum : List PD → R PD := fnD 5 den_law_sum
theorem mm_law_sum : m_law_sum = fnD 5 den_law_sum := rfl
noncomputable def lq1_law_root : En → R Bool := dT (d2 (gIn true) (dV 3) (dA gTupD (dCons (dC (.int 4)) (dCons (dC (.int 9)) (dCons (dC (.int 16)) (dCons (dC (.int 25)) (dCons (dC (.int 36)) (dCons (dC (.int 49)) (dCons (dC (.int 64)) (dCons (dC (.int 81)) (dNil)))))))))))
noncomputable def le1_law_root : En → R PD := dV 3
noncomputable def den_law_root : En → Fl := sSeq (sSet 2 (dLc (iA gR2 (dCons (dC (.int 2)) (dCons (dC (.int 100)) (dNil)))) (.one 3) [3] lq1_law_root le1_law_root)) (sRet (d2 gIx (dV 2) (d2 gMod (d2 gDiv (dA (gCall 2 [] m_law_great) (dCons (dV 0) (dCons (dV 1) (dNil)))) (dC (.int 7))) (dA gLen (dCons (dV 2) (dNil))))))
noncomputable def m_law_root : List PD → R PD := fnD 4 den_law_root
theorem mm_law_root : m_law_root = fnD 4 den_law_root := rfl
noncomputable def den_sign_of : En → Fl := sSeq (sIf (dOr (dT (d2 gEq (dV 1) (dC (.int 0)))) (dOr (dT (d2 gEq (dV 2) (dC (.int 0)))) (dT (d2 gEq (d2 gGt (dV 1) (dC (.int 0))) (d2 gGt (dV 2) (dC (.int 0))))))) (sRet (d2 gAdd (dV 1) (dV 2))) (sNx)) (sSeq (sIf (dT (d2 gGt (dV 1) (dC (.int 0)))) (sRet (d2 gSub (d2 gMul (dV 1) (dV 1)) (d2 gMul (d2 gMul (dV 0) (dV 2)) (dV 2)))) (sNx)) (sRet (d2 gSub (d2 gMul (d2 gMul (dV 0) (dV 2)) (dV 2)) (d2 gMul (dV 1) (dV 1)))))
noncomputable def m_sign_of : List PD → R PD := fnD 3 den_sign_of
theorem mm_sign_of : m_sign_of = fnD 3 den_sign_of := rfl
noncomputable def den_under : En → Fl := sSeq (sSet 3 (dA (gCall 2 [] m_taken) (dCons (dV 1) (dCons (dV 2) (dNil))))) (sRet (d2 gLt (dA (gCall 3 [] m_sign_of) (dCons (dV 0) (dCons (d2 gIx (dV 3) (dC (.int 0))) (dCons (d2 gIx (dV 3) (dC (.int 1))) (dNil))))) (dC (.int 0))))
noncomputable def m_under : List PD → R PD := fnD 4 den_under
theorem mm_under : m_under = fnD 4 den_under := rfl
noncomputable def den_floor_of : En → Fl := sSeq (sSet 2 (dA (gCall 1 [] m_root_floor) (dCons (d2 gMul (d2 gMul (dV 0) (d2 gIx (dV 1) (dC (.int 1)))) (d2 gIx (dV 1) (dC (.int 1)))) (dNil)))) (sSeq (sIf (dT (d2 gLt (d2 gIx (dV 1) (dC (.int 1))) (dC (.int 0)))) (sSet 2 (d2 gSub (d2 gSub (dC (.int 0)) (dV 2)) (dC (.int 1)))) (sNx)) (sRet (d2 gDiv (d2 gAdd (d2 gIx (dV 1) (dC (.int 0))) (dV 2)) (d2 gIx (dV 1) (dC (.int 2))))))
noncomputable def m_floor_of : List PD → R PD := fnD 3 den_floor_of
theorem mm_floor_of : m_floor_of = fnD 3 den_floor_of := rfl
noncomputable def den_law_sign : En → Fl := sSeq (sIf (dAnd (dT (d2 gGe (dV 1) (dC (.int 0)))) (dT (d2 gGe (dV 2) (dC (.int 0))))) (sRet (dA gInt (dCons (d2 gGt (d2 gAdd (dV 1) (dV 2)) (dC (.int 0))) (dNil)))) (sNx)) (sSeq (sIf (dAnd (dT (d2 gLe (dV 1) (dC (.int 0)))) (dT (d2 gLe (dV 2) (dC (.int 0))))) (sRet (d1 gNeg (dC (.int 1)))) (sNx)) (sSeq (sIf (dT (d2 gGt (dV 1) (dC (.int 0)))) (sRet (d2 gIx (dA gLstD (dCons (d1 gNeg (dC (.int 1))) (dCons (dC (.int 1)) (dNil)))) (dA gInt (dCons (d2 gGt (d2 gMul (dV 1) (dV 1)) (d2 gMul (d2 gMul (dV 0) (dV 2)) (dV 2))) (dNil))))) (sNx)) (sRet (d2 gIx (dA gLstD (dCons (d1 gNeg (dC (.int 1))) (dCons (dC (.int 1)) (dNil)))) (dA gInt (dCons (d2 gGt (d2 gMul (d2 gMul (dV 0) (dV 2)) (dV 2)) (d2 gMul (dV 1) (dV 1))) (dNil)))))))
noncomputable def m_law_sign : List PD → R PD := fnD 3 den_law_sign
theorem mm_law_sign : m_law_sign = fnD 3 den_law_sign := rfl
noncomputable def den_law_below : En → Fl := sSeq (sSet 3 (d2 gSub (d2 gMul (d2 gIx (dV 1) (dC (.int 0))) (d2 gIx (dV 2) (dC (.int 2)))) (d2 gMul (d2 gIx (dV 2) (dC (.int 0))) (d2 gIx (dV 1) (dC (.int 2)))))) (sSeq (sSet 4 (d2 gSub (d2 gMul (d2 gIx (dV 1) (dC (.int 1))) (d2 gIx (dV 2) (dC (.int 2)))) (d2 gMul (d2 gIx (dV 2) (dC (.int 1))) (d2 gIx (dV 1) (dC (.int 2)))))) (sRet (d2 gLt (dA (gCall 3 [] m_law_sign) (dCons (dV 0) (dCons (dV 3) (dCons (dV 4) (dNil))))) (dC (.int 0)))))
noncomputable def m_law_below : List PD → R PD := fnD 5 den_law_below
theorem mm_law_below : m_law_below = fnD 5 den_law_below := rfl
noncomputable def den_by_parts : En → Fl := sRet (dA (gCall 3 [] m_lowest) (dCons (d2 gMul (d2 gIx (dV 0) (dC (.int 0))) (d2 gIx (dV 1) (dC (.int 1)))) (dCons (d2 gMul (d2 gIx (dV 1) (dC (.int 0))) (d2 gIx (dV 0) (dC (.int 1)))) (dCons (d2 gMul (d2 gIx (dV 0) (dC (.int 1))) (d2 gIx (dV 1) (dC (.int 1)))) (dNil)))))
noncomputable def m_by_parts : List PD → R PD := fnD 2 den_by_parts
theorem mm_by_parts : m_by_parts = fnD 2 den_by_parts := rfl
noncomputable def den_law_is_fraction : En → Fl := sSeq (sIf (dOr (dNot (dT (d1 (gIsi "tuple") (dV 0)))) (dOr (dT (d2 gNe (dA gLen (dCons (dV 0) (dNil))) (dC (.int 2)))) (dOr (dNot (dT (dA (gCall 1 [] m_law_whole) (dCons (d2 gIx (dV 0) (dC (.int 0))) (dNil))))) (dNot (dT (dA (gCall 1 [] m_law_whole) (dCons (d2 gIx (dV 0) (dC (.int 1))) (dNil)))))))) (sRet (dC (.bool false))) (sNx)) (sSeq (sIf (dOr (dT (d2 gLt (d2 gIx (dV 0) (dC (.int 1))) (dC (.int 1)))) (dT (d2 gNe (dA (gCall 2 [] m_law_divisor) (dCons (d2 gIx (dV 0) (dC (.int 0))) (dCons (d2 gIx (dV 0) (dC (.int 1))) (dNil)))) (dC (.int 1))))) (sRet (dC (.bool false))) (sNx)) (sRet (d2 gEq (d2 gMul (d2 gIx (dV 0) (dC (.int 0))) (dV 2)) (d2 gMul (dV 1) (d2 gIx (dV 0) (dC (.int 1)))))))
noncomputable def m_law_is_fraction : List PD → R PD := fnD 3 den_law_is_fraction
theorem mm_law_is_fraction : m_law_is_fraction = fnD 3 den_law_is_fraction := rfl
noncomputable def den_law_mix : En → Fl := sSeq (sSet 2 (d2 gMod (d2 gMul (d2 gAdd (d2 gAdd (d2 gMod (dV 0) (dC (.int 2147483647))) (d2 gMul (dC (.int 48271)) (dV 1))) (dC (.int 1))) (dC (.int 69621))) (dC (.int 2147483629)))) (sRet (d2 gMod (d2 gMul (dV 2) (dV 2)) (dC (.int 2147483587))))
noncomputable def m_law_mix : List PD → R PD := fnD 3 den_law_mix
theorem mm_law_mix : m_law_mix = fnD 3 den_law_mix := rfl
noncomputable def lt1_law_side : En → R Bool := dT (d2 gLt (d2 gMul (dV 6) (dV 6)) (d2 gMul (d2 gMul (dV 2) (dV 4)) (dV 4)))
noncomputable def lb1_law_side : En → Fl := sSet 6 (d2 gAdd (dV 6) (dC (.int 1)))
noncomputable def den_law_side : En → Fl := sSeq (sSet 3 (d2 gAdd (dC (.int 1)) (d2 gMod (dA (gCall 2 [] m_law_mix) (dCons (dV 0) (dCons (dV 1) (dNil)))) (dC (.int 12))))) (sSeq (sSet 4 (d2 gSub (d2 gMod (dA (gCall 2 [] m_law_mix) (dCons (dV 0) (dCons (d2 gAdd (dV 1) (dC (.int 1))) (dNil)))) (dC (.int 19))) (dC (.int 9)))) (sSeq (sSet 5 (d2 gMod (dA (gCall 2 [] m_law_mix) (dCons (dV 0) (dCons (d2 gAdd (dV 1) (dC (.int 2))) (dNil)))) (dC (.int 6)))) (sSeq (sIf (dT (d2 gEq (dV 5) (dC (.int 0)))) (sSet 4 (dC (.int 0))) (sNx)) (sSeq (sIf (dT (d2 gEq (dV 5) (dC (.int 1)))) (sSeq (sSet 4 (d2 gMul (d2 gMul (dV 4) (dA (gCall 2 [] m_law_mix) (dCons (dV 0) (dCons (d2 gAdd (dV 1) (dC (.int 3))) (dNil))))) (dA (gCall 2 [] m_law_mix) (dCons (dV 0) (dCons (d2 gAdd (dV 1) (dC (.int 4))) (dNil)))))) (sSet 3 (d2 gAdd (dC (.int 1)) (d2 gMod (dA (gCall 2 [] m_law_mix) (dCons (dV 0) (dCons (d2 gAdd (dV 1) (dC (.int 5))) (dNil)))) (d2 gPow (dC (.int 10)) (dC (.int 9))))))) (sNx)) (sSeq (sSet 6 (d2 gMod (dA (gCall 2 [] m_law_mix) (dCons (dV 0) (dCons (d2 gAdd (dV 1) (dC (.int 6))) (dNil)))) (dC (.int 10)))) (sSeq (sIf (dT (d2 gLt (dV 4) (dC (.int 0)))) (sSet 6 (d2 gAdd (dV 6) (d2 gMul (dC (.int 10)) (dA gAbs (dCons (dV 4) (dNil)))))) (sNx)) (sSeq (sIf (dAnd (dT (d2 gEq (dV 5) (dC (.int 2)))) (dT (d2 gLt (dV 4) (dC (.int 0))))) (sSeq (sSet 6 (dC (.int 1))) (sWhile lt1_law_side lb1_law_side)) (sNx)) (sSeq (sIf (dAnd (dT (d2 gEq (dV 5) (dC (.int 3)))) (dT (d2 gGt (dV 4) (dC (.int 0))))) (sSet 6 (d2 gSub (dC (.int 0)) (dV 4))) (sNx)) (sSeq (sIf (dAnd (dT (d2 gEq (dV 6) (dC (.int 0)))) (dT (d2 gLe (dV 4) (dC (.int 0))))) (sSet 6 (dC (.int 1))) (sNx)) (sRet (dA (gCall 3 [] m_law_low) (dCons (dV 6) (dCons (dV 4) (dCons (dV 3) (dNil)))))))))))))))
noncomputable def m_law_side : List PD → R PD := fnD 7 den_law_side
theorem mm_law_side : m_law_side = fnD 7 den_law_side := rfl
noncomputable def den_measured : En → Fl := sRet (dA (gCall 2 [] m_plus) (dCons (dA (gCall 2 [] m_times) (dCons (d2 gIx (dV 0) (dC (.int 0))) (dCons (d2 gIx (dA (gCall 1 [] m_parts) (dCons (dV 1) (dNil))) (dC (.int 0))) (dNil)))) (dCons (dA (gCall 2 [] m_times) (dCons (d2 gIx (dV 0) (dC (.int 1))) (dCons (d2 gIx (dA (gCall 1 [] m_parts) (dCons (dV 1) (dNil))) (dC (.int 1))) (dNil)))) (dNil))))
noncomputable def m_measured : List PD → R PD := fnD 2 den_measured
theorem mm_measured : m_measured = fnD 2 den_measured := rfl
noncomputable def lb1_worth : En → Fl := sSet 3 (dA (gCall 2 [] m_plus) (dCons (dV 3) (dCons (dA (gCall 2 [] m_times) (dCons (dA (gCall 2 [] m_times) (dCons (d2 gIx (dV 0) (dV 4)) (dCons (d2 gIx (d2 gIx (dV 2) (dV 4)) (dV 5)) (dNil)))) (dCons (d2 gIx (dV 1) (dV 5)) (dNil)))) (dNil))))
noncomputable def lb2_worth : En → Fl := sFor (iA gR1 (dCons (dC (.int 2)) (dNil))) (.one 5) lb1_worth
noncomputable def den_worth : En → Fl := sSeq (sSet 3 (dC c_NOUGHT)) (sSeq (sFor (iA gR1 (dCons (dC (.int 2)) (dNil))) (.one 4) lb2_worth) (sRet (dV 3)))
noncomputable def m_worth : List PD → R PD := fnD 6 den_worth
theorem mm_worth : m_worth = fnD 6 den_worth := rfl
noncomputable def den_by : En → Fl := sRet (dA (gCall 2 [] m_fraction) (dCons (d2 gMul (d2 gIx (dV 0) (dC (.int 0))) (d2 gIx (dV 1) (dC (.int 1)))) (dCons (d2 gMul (d2 gIx (dV 0) (dC (.int 1))) (d2 gIx (dV 1) (dC (.int 0)))) (dNil))))
noncomputable def m_by : List PD → R PD := fnD 2 den_by
theorem mm_by : m_by = fnD 2 den_by := rfl
noncomputable def den_is_less : En → Fl := sRet (d2 gLt (d2 gMul (d2 gIx (dV 0) (dC (.int 0))) (d2 gIx (dV 1) (dC (.int 1)))) (d2 gMul (d2 gIx (dV 1) (dC (.int 0))) (d2 gIx (dV 0) (dC (.int 1)))))
noncomputable def m_is_less : List PD → R PD := fnD 2 den_is_less
theorem mm_is_less : m_is_less = fnD 2 den_is_less := rfl
end DL

set_option autoImplicit false
set_option linter.all false
/-! plain arithmetic: fractions and lengths in lowest terms -/
namespace MB
theorem ratne {b : Int} (h : b ≠ 0) : (b : Rat) ≠ 0 := by
  intro e
  exact h (by exact_mod_cast e)
theorem rnum (q : Rat) : (q.num : Rat) = q * ((q.den : Int) : Rat) := by
  have h : ((q.den : Int) : Rat) ≠ 0 := ratne (by have := q.den_nz; omega)
  have h1 := Rat.num_divInt_den q
  rw [Rat.divInt_eq_div] at h1
  grind
theorem rdpos (q : Rat) : 0 < (q.den : Int) := by exact_mod_cast q.den_pos
theorem rgcd (q : Rat) : Int.gcd q.num q.den = 1 := by
  have := q.reduced
  simpa [Int.gcd, Nat.Coprime] using this
theorem dvd_of_gcd {a b c : Int} (h : a ∣ b * c) (g : Int.gcd a c = 1) : a ∣ b := by
  have : a ∣ (Int.gcd a c : Int) * b := Int.dvd_gcd_mul_iff_dvd_mul.mpr (by rw [Int.mul_comm]; exact h)
  rw [g] at this
  simpa using this
/-- two fractions in lowest terms, of one worth, are one -/
theorem fr_uniq {a b : Int} {q : Rat} (hb : 0 < b) (hg : Int.gcd a b = 1) (h : q = (a : Rat) / (b : Rat)) : q.num = a ∧ (q.den : Int) = b := by
  have hb0 : (b : Rat) ≠ 0 := ratne (by omega)
  have h1 : q * (b : Rat) = a := by grind
  have h2 := rnum q
  have e : q.num * b = a * q.den := by
    have : ((q.num * b : Int) : Rat) = ((a * (q.den : Int) : Int) : Rat) := by
      rw [Rat.intCast_mul, Rat.intCast_mul, h2]
      grind
    exact_mod_cast this
  have hq := rdpos q
  have hq1 := rgcd q
  have d1 : (q.den : Int) ∣ b := by
    have : (q.den : Int) ∣ b * q.num := ⟨a, by rw [Int.mul_comm, e, Int.mul_comm]⟩
    exact dvd_of_gcd this (by rw [Int.gcd_comm]; exact hq1)
  have d2 : b ∣ (q.den : Int) := by
    have : b ∣ q.den * a := ⟨q.num, by rw [Int.mul_comm, ← e, Int.mul_comm]⟩
    exact dvd_of_gcd this (by rw [Int.gcd_comm]; exact hg)
  have eb : (q.den : Int) = b := Int.dvd_antisymm (by omega) (by omega) d1 d2
  refine ⟨?_, eb⟩
  rw [eb] at e
  exact Int.eq_of_mul_eq_mul_right (by omega) e
/-- divided by a divisor -/
theorem fdiv_dvd {a g : Int} (hg : g ≠ 0) (h : g ∣ a) : a.fdiv g * g = a := by
  rw [Int.fdiv_eq_ediv_of_dvd h]
  exact Int.ediv_mul_cancel h
/-- the sign's share -/
def shr (g : Nat) (n : Int) : Int := if n < 0 then 0 - (g : Int) else g
theorem shr_ne {g : Nat} {n : Int} (h : g ≠ 0) : shr g n ≠ 0 := by unfold shr; split <;> omega
theorem shr_dvd {g : Nat} {n a : Int} (h : (g : Int) ∣ a) : shr g n ∣ a := by
  unfold shr
  split
  · rw [Int.zero_sub]; exact Int.neg_dvd.mpr h
  · exact h
theorem gcd_fdiv {a b : Int} {g : Nat} {n : Int} (hg : g ≠ 0) (ha : (g : Int) ∣ a) (hb : (g : Int) ∣ b) : Int.gcd (a.fdiv (shr g n)) (b.fdiv (shr g n)) * g = Int.gcd a b := by
  have e1 := fdiv_dvd (shr_ne (n := n) hg) (shr_dvd (n := n) ha)
  have e2 := fdiv_dvd (shr_ne (n := n) hg) (shr_dvd (n := n) hb)
  have : Int.gcd (a.fdiv (shr g n) * shr g n) (b.fdiv (shr g n) * shr g n) = Int.gcd a b := by rw [e1, e2]
  rw [Int.gcd_mul_right] at this
  have hs : (shr g n).natAbs = g := by unfold shr; split <;> omega
  rw [hs] at this
  exact this
theorem fdiv_pos {n : Int} {g : Nat} (hg : g ≠ 0) (hn : n ≠ 0) (h : (g : Int) ∣ n) : 0 < n.fdiv (shr g n) := by
  have e := fdiv_dvd (shr_ne (n := n) hg) (shr_dvd (n := n) h)
  generalize n.fdiv (shr g n) = k at e
  unfold shr at e
  have hg' : (0 : Int) < g := by omega
  rcases Int.lt_trichotomy k 0 with hk | hk | hk
  · exfalso
    split at e
    · have : 0 < k * (0 - (g : Int)) := Int.mul_pos_of_neg_of_neg hk (by omega)
      omega
    · have := Int.mul_neg_of_neg_of_pos hk hg'
      omega
  · subst hk
    exfalso
    rw [Int.zero_mul] at e
    omega
  · exact hk
/-- a fraction brought to lowest terms -/
theorem fr_of {a b : Int} (hb : b ≠ 0) : a.fdiv (shr (Int.gcd a b) b) = ((a : Rat) / (b : Rat)).num ∧ b.fdiv (shr (Int.gcd a b) b) = (((a : Rat) / (b : Rat)).den : Int) := by
  have hg : Int.gcd a b ≠ 0 := by
    intro e
    exact hb (Int.gcd_eq_zero_iff.mp e).2
  have ha' := Int.gcd_dvd_left a b
  have hb' := Int.gcd_dvd_right a b
  have e1 := fdiv_dvd (shr_ne (n := b) hg) (shr_dvd (n := b) ha')
  have e2 := fdiv_dvd (shr_ne (n := b) hg) (shr_dvd (n := b) hb')
  have hp := fdiv_pos hg hb hb'
  have hs := shr_ne (n := b) hg
  have hgg := gcd_fdiv (n := b) hg ha' hb'
  generalize shr (Int.gcd a b) b = s at *
  generalize a.fdiv s = A at *
  generalize b.fdiv s = B at *
  have hone : Int.gcd A B = 1 := by
    have : Int.gcd A B * Int.gcd a b = 1 * Int.gcd a b := by rw [hgg, Nat.one_mul]
    exact Nat.eq_of_mul_eq_mul_right (by omega) this
  have hB : (B : Rat) ≠ 0 := ratne (by omega)
  have hS : (s : Rat) ≠ 0 := ratne hs
  have h := fr_uniq (q := (a : Rat) / (b : Rat)) hp hone (by
    rw [← e1, ← e2, Rat.intCast_mul, Rat.intCast_mul]
    grind)
  exact ⟨h.1.symm, h.2.symm⟩

/-! ### lengths -/
structure Ln where
  a : Int
  b : Int
  n : Int
/-- in lowest terms -/
def Low (a b n : Int) : Prop := 0 < n ∧ Int.gcd (Int.gcd a b) n = 1
theorem gcd3_mul {a b n : Int} {k : Int} : Int.gcd (Int.gcd (a * k) (b * k)) (n * k) = Int.gcd (Int.gcd a b) n * k.natAbs := by
  rw [Int.gcd_mul_right]
  have : ((Int.gcd a b * k.natAbs : Nat) : Int) = (Int.gcd a b : Int) * (k.natAbs : Int) := by push_cast; rfl
  rw [this]
  have e : Int.gcd ((Int.gcd a b : Int) * (k.natAbs : Int)) (n * k) = Int.gcd ((Int.gcd a b : Int) * k) (n * k) := by
    simp only [Int.gcd, Int.natAbs_mul, Int.natAbs_natCast]
  rw [e, Int.gcd_mul_right]
theorem low_uniq {a b n a' b' n' : Int} (h : Low a b n) (h' : Low a' b' n') (e1 : a * n' = a' * n) (e2 : b * n' = b' * n) : a = a' ∧ b = b' ∧ n = n' := by
  have g1 := gcd3_mul (a := a) (b := b) (n := n) (k := n')
  have g2 := gcd3_mul (a := a') (b := b') (n := n') (k := n)
  rw [h.2] at g1
  rw [h'.2] at g2
  rw [e1, e2, Int.mul_comm n n'] at g1
  have : n'.natAbs = n.natAbs := by omega
  have hn := h.1
  have hn' := h'.1
  have en : n = n' := by omega
  subst en
  exact ⟨Int.eq_of_mul_eq_mul_right (by omega) e1, Int.eq_of_mul_eq_mul_right (by omega) e2, rfl⟩
/-- the number that all three are divided by -/
def g3 (a b n : Int) : Nat := Int.gcd (Int.gcd a b) n
def lA (a b n : Int) : Int := a.fdiv (shr (g3 a b n) n)
def lB (a b n : Int) : Int := b.fdiv (shr (g3 a b n) n)
def lN (a b n : Int) : Int := n.fdiv (shr (g3 a b n) n)
theorem g3_ne {a b n : Int} (hn : n ≠ 0) : g3 a b n ≠ 0 := by
  intro e
  exact hn (Int.gcd_eq_zero_iff.mp e).2
theorem g3_dvd {a b n : Int} : (g3 a b n : Int) ∣ a ∧ (g3 a b n : Int) ∣ b ∧ (g3 a b n : Int) ∣ n := by
  have h1 : (g3 a b n : Int) ∣ (Int.gcd a b : Int) := Int.gcd_dvd_left _ _
  exact ⟨Int.dvd_trans h1 (Int.gcd_dvd_left _ _), Int.dvd_trans h1 (Int.gcd_dvd_right _ _), Int.gcd_dvd_right _ _⟩
theorem lmul {a b n : Int} (hn : n ≠ 0) : lA a b n * shr (g3 a b n) n = a ∧ lB a b n * shr (g3 a b n) n = b ∧ lN a b n * shr (g3 a b n) n = n := by
  obtain ⟨h1, h2, h3⟩ := g3_dvd (a := a) (b := b) (n := n)
  have hs := shr_ne (n := n) (g3_ne (a := a) (b := b) hn)
  exact ⟨fdiv_dvd hs (shr_dvd h1), fdiv_dvd hs (shr_dvd h2), fdiv_dvd hs (shr_dvd h3)⟩
theorem low_of {a b n : Int} (hn : n ≠ 0) : Low (lA a b n) (lB a b n) (lN a b n) := by
  have hg := g3_ne (a := a) (b := b) hn
  refine ⟨fdiv_pos hg hn g3_dvd.2.2, ?_⟩
  obtain ⟨e1, e2, e3⟩ := lmul (a := a) (b := b) hn
  have h := gcd3_mul (a := lA a b n) (b := lB a b n) (n := lN a b n) (k := shr (g3 a b n) n)
  rw [e1, e2, e3] at h
  have hs : (shr (g3 a b n) n).natAbs = g3 a b n := by unfold shr; split <;> omega
  rw [hs] at h
  have h' : 1 * g3 a b n = Int.gcd (Int.gcd (lA a b n) (lB a b n)) (lN a b n) * g3 a b n := by rw [Nat.one_mul]; exact h
  exact (Nat.eq_of_mul_eq_mul_right (by omega) h').symm
theorem lcross {a b n : Int} (hn : n ≠ 0) : lA a b n * n = a * lN a b n ∧ lB a b n * n = b * lN a b n := by
  obtain ⟨e1, e2, e3⟩ := lmul (a := a) (b := b) hn
  generalize lA a b n = A at *
  generalize lB a b n = B at *
  generalize lN a b n = N at *
  generalize shr (g3 a b n) n = s at *
  subst e1 e2 e3
  constructor <;> grind
/-- lowest depends on the two fractions alone -/
theorem low_eq {a b n a' b' n' : Int} (hn : n ≠ 0) (hn' : n' ≠ 0) (e1 : a * n' = a' * n) (e2 : b * n' = b' * n) : lA a b n = lA a' b' n' ∧ lB a b n = lB a' b' n' ∧ lN a b n = lN a' b' n' := by
  obtain ⟨c1, c2⟩ := lcross (a := a) (b := b) hn
  obtain ⟨c1', c2'⟩ := lcross (a := a') (b := b') hn'
  refine low_uniq (low_of hn) (low_of hn') ?_ ?_
  · have : lA a b n * lN a' b' n' * (n * n') = lA a' b' n' * lN a b n * (n * n') := by grind
    exact Int.eq_of_mul_eq_mul_right (Int.mul_ne_zero hn hn') this
  · have : lB a b n * lN a' b' n' * (n * n') = lB a' b' n' * lN a b n * (n * n') := by grind
    exact Int.eq_of_mul_eq_mul_right (Int.mul_ne_zero hn hn') this
theorem low_self {a b n : Int} (h : Low a b n) : lA a b n = a ∧ lB a b n = b ∧ lN a b n = n := by
  have hn : n ≠ 0 := by have := h.1; omega
  have c := lcross (a := a) (b := b) hn
  exact low_uniq (low_of hn) h c.1 c.2
/-! fractions, as lengths whose second part is 0 -/
def fT (a b : Int) : Int := lA a 0 b
def fB (a b : Int) : Int := lN a 0 b
def LowF (a b : Int) : Prop := 0 < b ∧ Int.gcd a b = 1
theorem g3_zero {a b : Int} : g3 a 0 b = Int.gcd a b := by unfold g3; rw [Int.gcd_zero]; simp [Int.gcd]
theorem fT_eq {a b : Int} : fT a b = a.fdiv (shr (Int.gcd a b) b) := by unfold fT lA; rw [g3_zero]
theorem fB_eq {a b : Int} : fB a b = b.fdiv (shr (Int.gcd a b) b) := by unfold fB lN; rw [g3_zero]
theorem lowF_low {a b : Int} : LowF a b ↔ Low a 0 b := by
  unfold LowF Low
  have : Int.gcd (Int.gcd a 0) b = Int.gcd a b := g3_zero
  rw [this]
theorem lowF_of {a b : Int} (hb : b ≠ 0) : LowF (fT a b) (fB a b) := by
  rw [lowF_low]
  have h := low_of (a := a) (b := 0) hb
  have e : lB a 0 b = 0 := by unfold lB; exact Int.zero_fdiv _
  rw [e] at h
  exact h
theorem fcross {a b : Int} (hb : b ≠ 0) : fT a b * b = a * fB a b := (lcross (a := a) (b := 0) hb).1
theorem lowF_uniq {a b a' b' : Int} (h : LowF a b) (h' : LowF a' b') (e : a * b' = a' * b) : a = a' ∧ b = b' := by
  have := low_uniq (lowF_low.mp h) (lowF_low.mp h') e (by simp)
  exact ⟨this.1, this.2.2⟩
theorem lowF_eq {a b a' b' : Int} (hb : b ≠ 0) (hb' : b' ≠ 0) (e : a * b' = a' * b) : fT a b = fT a' b' ∧ fB a b = fB a' b' := by
  have := low_eq (b := 0) (b' := 0) hb hb' e (by simp)
  exact ⟨this.1, this.2.2⟩
theorem lowF_self {a b : Int} (h : LowF a b) : fT a b = a ∧ fB a b = b := by
  have := low_self (lowF_low.mp h)
  exact ⟨this.1, this.2.2⟩
theorem lowF_is {a b a' b' : Int} (hb : b ≠ 0) (h : LowF a' b') (e : a * b' = a' * b) : fT a b = a' ∧ fB a b = b' := by
  have hb' : b' ≠ 0 := by have := h.1; omega
  have h1 := lowF_eq hb hb' e
  have h2 := lowF_self h
  exact ⟨h1.1.trans h2.1, h1.2.trans h2.2⟩
theorem fB_pos {a b : Int} (hb : b ≠ 0) : 0 < fB a b := (lowF_of hb).1
/-- a length put together of its parts is itself -/
theorem by_parts_self {a b n : Int} (h : Low a b n) : lA (fT a n * fB b n) (fT b n * fB a n) (fB a n * fB b n) = a ∧ lB (fT a n * fB b n) (fT b n * fB a n) (fB a n * fB b n) = b ∧ lN (fT a n * fB b n) (fT b n * fB a n) (fB a n * fB b n) = n := by
  have hn : n ≠ 0 := by have := h.1; omega
  have p1 := fB_pos (a := a) hn
  have p2 := fB_pos (a := b) hn
  have c1 := fcross (a := a) hn
  have c2 := fcross (a := b) hn
  have e := low_eq (a := fT a n * fB b n) (b := fT b n * fB a n) (n := fB a n * fB b n) (a' := a) (b' := b) (n' := n) (Int.mul_ne_zero (by omega) (by omega)) hn (by grind) (by grind)
  have s := low_self h
  exact ⟨e.1.trans s.1, e.2.1.trans s.2.1, e.2.2.trans s.2.2⟩
/-- the parts of a length put together of two fractions -/
theorem parts_by {p q r s : Int} (hf : LowF p q) (hg : LowF r s) : fT (lA (p * s) (r * q) (q * s)) (lN (p * s) (r * q) (q * s)) = p ∧ fB (lA (p * s) (r * q) (q * s)) (lN (p * s) (r * q) (q * s)) = q ∧
    fT (lB (p * s) (r * q) (q * s)) (lN (p * s) (r * q) (q * s)) = r ∧ fB (lB (p * s) (r * q) (q * s)) (lN (p * s) (r * q) (q * s)) = s := by
  have hq := hf.1
  have hs := hg.1
  have hn : q * s ≠ 0 := Int.mul_ne_zero (by omega) (by omega)
  have c := lcross (a := p * s) (b := r * q) hn
  have hN : lN (p * s) (r * q) (q * s) ≠ 0 := by have := (low_of (a := p * s) (b := r * q) hn).1; omega
  have e1 : lA (p * s) (r * q) (q * s) * q = p * lN (p * s) (r * q) (q * s) := by
    have : (lA (p * s) (r * q) (q * s) * q) * s = (p * lN (p * s) (r * q) (q * s)) * s := by grind
    exact Int.eq_of_mul_eq_mul_right (by omega) this
  have e2 : lB (p * s) (r * q) (q * s) * s = r * lN (p * s) (r * q) (q * s) := by
    have : (lB (p * s) (r * q) (q * s) * s) * q = (r * lN (p * s) (r * q) (q * s)) * q := by grind
    exact Int.eq_of_mul_eq_mul_right (by omega) this
  have h1 := lowF_is hN hf e1
  have h2 := lowF_is hN hg e2
  exact ⟨h1.1, h1.2, h2.1, h2.2⟩
end MB

set_option Elab.async false
set_option linter.all false
set_option maxRecDepth 100000
set_option maxHeartbeats 1000000
set_option autoImplicit false
/-! what the defs of the lengths are worth -/
namespace DL
open PySem L2 MB
theorem divisor_loop : ∀ (k : Nat) (a b : Int), b.natAbs ≤ k → ∃ g : Int, g.natAbs = Int.gcd a b ∧ sWhile lt1_divisor lb1_divisor [some (.d (.int a)), some (.d (.int b))] = .nx [some (.d (.int g)), some (.d (.int 0))] := by
  intro k
  induction k with
  | zero =>
    intro a b h
    have hb : b = 0 := by omega
    subst hb
    refine ⟨a, by simp, ?_⟩
    rw [ev_while]
    simp only [lt1_divisor, ev_seq, seq_nx, seq_rt, seq_ex, seq_bk, seq_ct, seq_ite, fl_ok, fl_ex, fl_ite, ev_set, kSet_ev, ev_ret, ev_retN, ev_nx, ev_bk, ev_ct, ev_raise, ev_if, kIf_ev, ev_drop, kNx_ev, ev_par, kPar_ev, kId_ev, ev_asg, kAsg_ev, ev_for, kFor_ev, ev_V, dVg_ok, ev_C, ev_1, ev_2, bind2_ok, bind2_ite1, bind2_ite2, bind_ite, ev_A, ev_nil, ev_cons, kCons_ev, ev_T, toB_ev, ev_and, ev_or, ev_not, kAnd_ev, kOr_ev, kNot_ev, ev_andV, ev_orV, ev_notV, kAndV_ev, kOrV_ev, kNotV_ev, ev_ife, kIfE_ev, ev_ch, kCh, tup_ev, lst_ev, call_ev, kw_ev, ev_kw, ev_fn, startE_0, startE_s, startE_c, fin_rt, fin_nx, fin_ex, fin_ite, ix_t0, ix_t1, ix_t2, ix_t3, ix_l0, ix_l1, ix_l2, len_l, len_t1, len_t2, len_t3, len_t4, beq_self_eq_true, ev_iL, ev_iT, asL_ev, asT_ev, ev_iA, ev_P, toI_ev, ev_P0, ev_sl, kSl_ev, put_1, gAdd_i, gSub_i, gMul_i, gDiv_p, gMod_p, gPow_l, gShl_l, gShr_l, gLt_i, gLe_i, gGt_i, gGe_i, gEq_i, gNe_i, gNeg_i, gAbs_i, gInt_i, gInt_b, gEq_s, gNe_s, gEq_b, gNe_b, gEq_2, gNe_2, gEq_3, gNe_3, gEq_22, gNe_22, DL.R.bind_ok, DL.R.bind_ex, ev_setL, kSetL_ev, ev_lDisp, kDisp_ev, ev_lList, lOf_l, lOf_t, ev_frz, frz_l, frz_d, frz_n, ev_lend, lend_l, lend_d, atom_i, atom_b, atom_s, ev_lendB, lendB_l, lendB_d, ev_app, app_l, kApp_ev, ev_put, put_l, ev_ixO, ixO_l, ixO_d, put_m, putAll_c, putAll_n, ev_lc, kLst_ev, ev_lcL, wipe_n, wipe_c, r1_2, r1_3, bits_ev, List.getElem?_cons_zero, List.getElem?_cons_succ, List.set_cons_zero, List.set_cons_succ, List.length_cons, List.length_nil, List.length_map, List.append_nil, List.cons_append, List.nil_append, ev_if, turn_nx, turn_ct, turn_bk, turn_rt, turn_ite, kWh_ev, isi_int_int, isi_bool_int, isi_int_bool, isi_bool_bool, isi_int_str, isi_int_none, isi_int_list, isi_int_tup, isi_bool_str, isi_bool_none, isi_bool_list, isi_bool_tup, isi_tup_tup, isi_tup_int, isi_tup_bool, isi_tup_str, isi_tup_none, isi_tup_list, isi_list_list, isi_list_tup, isi_list_int, isi_list_bool, isi_list_str, isi_list_none, isi_str_str, isi_str_int, isi_str_bool, isi_str_none, isi_str_list, isi_str_tup, decide_true, decide_false, not_true_eq_false, not_false_eq_true, ne_eq, decide_eq_true_eq, Bool.not_eq_true', decide_eq_false_iff_not, Bool.not_true, Bool.not_false, Bool.false_eq_true, if_true, if_false, reduceIte]
  | succ k ih =>
    intro a b h
    by_cases hb : b = 0
    · subst hb
      refine ⟨a, by simp, ?_⟩
      rw [ev_while]
      simp only [lt1_divisor, ev_seq, seq_nx, seq_rt, seq_ex, seq_bk, seq_ct, seq_ite, fl_ok, fl_ex, fl_ite, ev_set, kSet_ev, ev_ret, ev_retN, ev_nx, ev_bk, ev_ct, ev_raise, ev_if, kIf_ev, ev_drop, kNx_ev, ev_par, kPar_ev, kId_ev, ev_asg, kAsg_ev, ev_for, kFor_ev, ev_V, dVg_ok, ev_C, ev_1, ev_2, bind2_ok, bind2_ite1, bind2_ite2, bind_ite, ev_A, ev_nil, ev_cons, kCons_ev, ev_T, toB_ev, ev_and, ev_or, ev_not, kAnd_ev, kOr_ev, kNot_ev, ev_andV, ev_orV, ev_notV, kAndV_ev, kOrV_ev, kNotV_ev, ev_ife, kIfE_ev, ev_ch, kCh, tup_ev, lst_ev, call_ev, kw_ev, ev_kw, ev_fn, startE_0, startE_s, startE_c, fin_rt, fin_nx, fin_ex, fin_ite, ix_t0, ix_t1, ix_t2, ix_t3, ix_l0, ix_l1, ix_l2, len_l, len_t1, len_t2, len_t3, len_t4, beq_self_eq_true, ev_iL, ev_iT, asL_ev, asT_ev, ev_iA, ev_P, toI_ev, ev_P0, ev_sl, kSl_ev, put_1, gAdd_i, gSub_i, gMul_i, gDiv_p, gMod_p, gPow_l, gShl_l, gShr_l, gLt_i, gLe_i, gGt_i, gGe_i, gEq_i, gNe_i, gNeg_i, gAbs_i, gInt_i, gInt_b, gEq_s, gNe_s, gEq_b, gNe_b, gEq_2, gNe_2, gEq_3, gNe_3, gEq_22, gNe_22, DL.R.bind_ok, DL.R.bind_ex, ev_setL, kSetL_ev, ev_lDisp, kDisp_ev, ev_lList, lOf_l, lOf_t, ev_frz, frz_l, frz_d, frz_n, ev_lend, lend_l, lend_d, atom_i, atom_b, atom_s, ev_lendB, lendB_l, lendB_d, ev_app, app_l, kApp_ev, ev_put, put_l, ev_ixO, ixO_l, ixO_d, put_m, putAll_c, putAll_n, ev_lc, kLst_ev, ev_lcL, wipe_n, wipe_c, r1_2, r1_3, bits_ev, List.getElem?_cons_zero, List.getElem?_cons_succ, List.set_cons_zero, List.set_cons_succ, List.length_cons, List.length_nil, List.length_map, List.append_nil, List.cons_append, List.nil_append, ev_if, turn_nx, turn_ct, turn_bk, turn_rt, turn_ite, kWh_ev, isi_int_int, isi_bool_int, isi_int_bool, isi_bool_bool, isi_int_str, isi_int_none, isi_int_list, isi_int_tup, isi_bool_str, isi_bool_none, isi_bool_list, isi_bool_tup, isi_tup_tup, isi_tup_int, isi_tup_bool, isi_tup_str, isi_tup_none, isi_tup_list, isi_list_list, isi_list_tup, isi_list_int, isi_list_bool, isi_list_str, isi_list_none, isi_str_str, isi_str_int, isi_str_bool, isi_str_none, isi_str_list, isi_str_tup, decide_true, decide_false, not_true_eq_false, not_false_eq_true, ne_eq, decide_eq_true_eq, Bool.not_eq_true', decide_eq_false_iff_not, Bool.not_true, Bool.not_false, Bool.false_eq_true, if_true, if_false, reduceIte]
    · obtain ⟨g, hg, e⟩ := ih b (a.fmod b) (by
        have h1 := natAbs_fmod_lt a hb
        omega)
      refine ⟨g, ?_, ?_⟩
      · rw [hg]
        have e1 : a = b * a.fdiv b + a.fmod b := (Int.mul_fdiv_add_fmod a b).symm
        have : Int.gcd b (b * a.fdiv b + a.fmod b) = Int.gcd b (a.fmod b) := Int.gcd_mul_left_add_right _ _ _
        rw [← e1] at this
        rw [← this, Int.gcd_comm]
      · rw [ev_while]
        simp only [lt1_divisor, lb1_divisor, ev_seq, seq_nx, seq_rt, seq_ex, seq_bk, seq_ct, seq_ite, fl_ok, fl_ex, fl_ite, ev_set, kSet_ev, ev_ret, ev_retN, ev_nx, ev_bk, ev_ct, ev_raise, ev_if, kIf_ev, ev_drop, kNx_ev, ev_par, kPar_ev, kId_ev, ev_asg, kAsg_ev, ev_for, kFor_ev, ev_V, dVg_ok, ev_C, ev_1, ev_2, bind2_ok, bind2_ite1, bind2_ite2, bind_ite, ev_A, ev_nil, ev_cons, kCons_ev, ev_T, toB_ev, ev_and, ev_or, ev_not, kAnd_ev, kOr_ev, kNot_ev, ev_andV, ev_orV, ev_notV, kAndV_ev, kOrV_ev, kNotV_ev, ev_ife, kIfE_ev, ev_ch, kCh, tup_ev, lst_ev, call_ev, kw_ev, ev_kw, ev_fn, startE_0, startE_s, startE_c, fin_rt, fin_nx, fin_ex, fin_ite, ix_t0, ix_t1, ix_t2, ix_t3, ix_l0, ix_l1, ix_l2, len_l, len_t1, len_t2, len_t3, len_t4, beq_self_eq_true, ev_iL, ev_iT, asL_ev, asT_ev, ev_iA, ev_P, toI_ev, ev_P0, ev_sl, kSl_ev, put_1, gAdd_i, gSub_i, gMul_i, gDiv_p, gMod_p, gPow_l, gShl_l, gShr_l, gLt_i, gLe_i, gGt_i, gGe_i, gEq_i, gNe_i, gNeg_i, gAbs_i, gInt_i, gInt_b, gEq_s, gNe_s, gEq_b, gNe_b, gEq_2, gNe_2, gEq_3, gNe_3, gEq_22, gNe_22, DL.R.bind_ok, DL.R.bind_ex, ev_setL, kSetL_ev, ev_lDisp, kDisp_ev, ev_lList, lOf_l, lOf_t, ev_frz, frz_l, frz_d, frz_n, ev_lend, lend_l, lend_d, atom_i, atom_b, atom_s, ev_lendB, lendB_l, lendB_d, ev_app, app_l, kApp_ev, ev_put, put_l, ev_ixO, ixO_l, ixO_d, put_m, putAll_c, putAll_n, ev_lc, kLst_ev, ev_lcL, wipe_n, wipe_c, r1_2, r1_3, bits_ev, List.getElem?_cons_zero, List.getElem?_cons_succ, List.set_cons_zero, List.set_cons_succ, List.length_cons, List.length_nil, List.length_map, List.append_nil, List.cons_append, List.nil_append, ev_if, turn_nx, turn_ct, turn_bk, turn_rt, turn_ite, kWh_ev, isi_int_int, isi_bool_int, isi_int_bool, isi_bool_bool, isi_int_str, isi_int_none, isi_int_list, isi_int_tup, isi_bool_str, isi_bool_none, isi_bool_list, isi_bool_tup, isi_tup_tup, isi_tup_int, isi_tup_bool, isi_tup_str, isi_tup_none, isi_tup_list, isi_list_list, isi_list_tup, isi_list_int, isi_list_bool, isi_list_str, isi_list_none, isi_str_str, isi_str_int, isi_str_bool, isi_str_none, isi_str_list, isi_str_tup, decide_true, decide_false, not_true_eq_false, not_false_eq_true, ne_eq, decide_eq_true_eq, Bool.not_eq_true', decide_eq_false_iff_not, Bool.not_true, Bool.not_false, Bool.false_eq_true, if_true, if_false, reduceIte, gMod_i, hb]
        exact e
theorem divisor_eq (a b : Int) : m_divisor [.int a, .int b] = .ok (.int (Int.gcd a b : Int)) := by
  obtain ⟨g, hg, e⟩ := divisor_loop b.natAbs a b (Nat.le_refl _)
  simp +decide only [m_divisor, den_divisor, ev_seq, seq_nx, seq_rt, seq_ex, seq_bk, seq_ct, seq_ite, fl_ok, fl_ex, fl_ite, ev_set, kSet_ev, ev_ret, ev_retN, ev_nx, ev_bk, ev_ct, ev_raise, ev_if, kIf_ev, ev_drop, kNx_ev, ev_par, kPar_ev, kId_ev, ev_asg, kAsg_ev, ev_for, kFor_ev, ev_V, dVg_ok, ev_C, ev_1, ev_2, bind2_ok, bind2_ite1, bind2_ite2, bind_ite, ev_A, ev_nil, ev_cons, kCons_ev, ev_T, toB_ev, ev_and, ev_or, ev_not, kAnd_ev, kOr_ev, kNot_ev, ev_andV, ev_orV, ev_notV, kAndV_ev, kOrV_ev, kNotV_ev, ev_ife, kIfE_ev, ev_ch, kCh, tup_ev, lst_ev, call_ev, kw_ev, ev_kw, ev_fn, startE_0, startE_s, startE_c, fin_rt, fin_nx, fin_ex, fin_ite, ix_t0, ix_t1, ix_t2, ix_t3, ix_l0, ix_l1, ix_l2, len_l, len_t1, len_t2, len_t3, len_t4, beq_self_eq_true, ev_iL, ev_iT, asL_ev, asT_ev, ev_iA, ev_P, toI_ev, ev_P0, ev_sl, kSl_ev, put_1, gAdd_i, gSub_i, gMul_i, gDiv_p, gMod_p, gPow_l, gShl_l, gShr_l, gLt_i, gLe_i, gGt_i, gGe_i, gEq_i, gNe_i, gNeg_i, gAbs_i, gInt_i, gInt_b, gEq_s, gNe_s, gEq_b, gNe_b, gEq_2, gNe_2, gEq_3, gNe_3, gEq_22, gNe_22, DL.R.bind_ok, DL.R.bind_ex, ev_setL, kSetL_ev, ev_lDisp, kDisp_ev, ev_lList, lOf_l, lOf_t, ev_frz, frz_l, frz_d, frz_n, ev_lend, lend_l, lend_d, atom_i, atom_b, atom_s, ev_lendB, lendB_l, lendB_d, ev_app, app_l, kApp_ev, ev_put, put_l, ev_ixO, ixO_l, ixO_d, put_m, putAll_c, putAll_n, ev_lc, kLst_ev, ev_lcL, wipe_n, wipe_c, r1_2, r1_3, bits_ev, List.getElem?_cons_zero, List.getElem?_cons_succ, List.set_cons_zero, List.set_cons_succ, List.length_cons, List.length_nil, List.length_map, List.append_nil, List.cons_append, List.nil_append, ev_if, turn_nx, turn_ct, turn_bk, turn_rt, turn_ite, kWh_ev, isi_int_int, isi_bool_int, isi_int_bool, isi_bool_bool, isi_int_str, isi_int_none, isi_int_list, isi_int_tup, isi_bool_str, isi_bool_none, isi_bool_list, isi_bool_tup, isi_tup_tup, isi_tup_int, isi_tup_bool, isi_tup_str, isi_tup_none, isi_tup_list, isi_list_list, isi_list_tup, isi_list_int, isi_list_bool, isi_list_str, isi_list_none, isi_str_str, isi_str_int, isi_str_bool, isi_str_none, isi_str_list, isi_str_tup, decide_true, decide_false, not_true_eq_false, not_false_eq_true, ne_eq, decide_eq_true_eq, Bool.not_eq_true', decide_eq_false_iff_not, Bool.not_true, Bool.not_false, Bool.false_eq_true, if_true, if_false, reduceIte, e, hg]
theorem bd_shr {a b n : Int} (hn : n ≠ 0) {k : Nat} (h : Bd n k) : Bd (shr (g3 a b n) n) k := ⟨by
  have hd : (g3 a b n : Int) ∣ n := g3_dvd.2.2
  have h1 : (shr (g3 a b n) n).natAbs = g3 a b n := by unfold shr; split <;> omega
  rw [h1]
  have h2 : g3 a b n ∣ n.natAbs := by have := Int.natAbs_dvd_natAbs.mpr hd; simpa using this
  exact Nat.lt_of_le_of_lt (Nat.le_of_dvd (by omega) h2) h.h⟩
theorem lowest_eq (a b n : Int) (hn : n ≠ 0) {k : Nat} [h3 : Bd n k] (hk : k ≤ 9000) : m_lowest [.int a, .int b, .int n] = .ok (.tuple [.int (lA a b n), .int (lB a b n), .int (lN a b n)]) := by
  have hs : shr (g3 a b n) n ≠ 0 := shr_ne (g3_ne hn)
  have bs : Bd (shr (g3 a b n) n) k := bd_shr hn h3
  have e2 : Int.gcd (Int.gcd a b) n = g3 a b n := rfl
  by_cases h : n < 0
  · have e : 0 - ((g3 a b n : Nat) : Int) = shr (g3 a b n) n := by unfold shr; rw [if_pos h]
    simp +decide only [m_lowest, den_lowest, ev_seq, seq_nx, seq_rt, seq_ex, seq_bk, seq_ct, seq_ite, fl_ok, fl_ex, fl_ite, ev_set, kSet_ev, ev_ret, ev_retN, ev_nx, ev_bk, ev_ct, ev_raise, ev_if, kIf_ev, ev_drop, kNx_ev, ev_par, kPar_ev, kId_ev, ev_asg, kAsg_ev, ev_for, kFor_ev, ev_V, dVg_ok, ev_C, ev_1, ev_2, bind2_ok, bind2_ite1, bind2_ite2, bind_ite, ev_A, ev_nil, ev_cons, kCons_ev, ev_T, toB_ev, ev_and, ev_or, ev_not, kAnd_ev, kOr_ev, kNot_ev, ev_andV, ev_orV, ev_notV, kAndV_ev, kOrV_ev, kNotV_ev, ev_ife, kIfE_ev, ev_ch, kCh, tup_ev, lst_ev, call_ev, kw_ev, ev_kw, ev_fn, startE_0, startE_s, startE_c, fin_rt, fin_nx, fin_ex, fin_ite, ix_t0, ix_t1, ix_t2, ix_t3, ix_l0, ix_l1, ix_l2, len_l, len_t1, len_t2, len_t3, len_t4, beq_self_eq_true, ev_iL, ev_iT, asL_ev, asT_ev, ev_iA, ev_P, toI_ev, ev_P0, ev_sl, kSl_ev, put_1, gAdd_i, gSub_i, gMul_i, gDiv_p, gMod_p, gPow_l, gShl_l, gShr_l, gLt_i, gLe_i, gGt_i, gGe_i, gEq_i, gNe_i, gNeg_i, gAbs_i, gInt_i, gInt_b, gEq_s, gNe_s, gEq_b, gNe_b, gEq_2, gNe_2, gEq_3, gNe_3, gEq_22, gNe_22, DL.R.bind_ok, DL.R.bind_ex, ev_setL, kSetL_ev, ev_lDisp, kDisp_ev, ev_lList, lOf_l, lOf_t, ev_frz, frz_l, frz_d, frz_n, ev_lend, lend_l, lend_d, atom_i, atom_b, atom_s, ev_lendB, lendB_l, lendB_d, ev_app, app_l, kApp_ev, ev_put, put_l, ev_ixO, ixO_l, ixO_d, put_m, putAll_c, putAll_n, ev_lc, kLst_ev, ev_lcL, wipe_n, wipe_c, r1_2, r1_3, bits_ev, List.getElem?_cons_zero, List.getElem?_cons_succ, List.set_cons_zero, List.set_cons_succ, List.length_cons, List.length_nil, List.length_map, List.append_nil, List.cons_append, List.nil_append, ev_if, turn_nx, turn_ct, turn_bk, turn_rt, turn_ite, kWh_ev, isi_int_int, isi_bool_int, isi_int_bool, isi_bool_bool, isi_int_str, isi_int_none, isi_int_list, isi_int_tup, isi_bool_str, isi_bool_none, isi_bool_list, isi_bool_tup, isi_tup_tup, isi_tup_int, isi_tup_bool, isi_tup_str, isi_tup_none, isi_tup_list, isi_list_list, isi_list_tup, isi_list_int, isi_list_bool, isi_list_str, isi_list_none, isi_str_str, isi_str_int, isi_str_bool, isi_str_none, isi_str_list, isi_str_tup, decide_true, decide_false, not_true_eq_false, not_false_eq_true, ne_eq, decide_eq_true_eq, Bool.not_eq_true', decide_eq_false_iff_not, Bool.not_true, Bool.not_false, Bool.false_eq_true, if_true, if_false, reduceIte, gDiv_i, divisor_eq, e2, h, e, hs, hk, lA, lB, lN]
  · have e : ((g3 a b n : Nat) : Int) = shr (g3 a b n) n := by unfold shr; rw [if_neg h]
    simp +decide only [m_lowest, den_lowest, ev_seq, seq_nx, seq_rt, seq_ex, seq_bk, seq_ct, seq_ite, fl_ok, fl_ex, fl_ite, ev_set, kSet_ev, ev_ret, ev_retN, ev_nx, ev_bk, ev_ct, ev_raise, ev_if, kIf_ev, ev_drop, kNx_ev, ev_par, kPar_ev, kId_ev, ev_asg, kAsg_ev, ev_for, kFor_ev, ev_V, dVg_ok, ev_C, ev_1, ev_2, bind2_ok, bind2_ite1, bind2_ite2, bind_ite, ev_A, ev_nil, ev_cons, kCons_ev, ev_T, toB_ev, ev_and, ev_or, ev_not, kAnd_ev, kOr_ev, kNot_ev, ev_andV, ev_orV, ev_notV, kAndV_ev, kOrV_ev, kNotV_ev, ev_ife, kIfE_ev, ev_ch, kCh, tup_ev, lst_ev, call_ev, kw_ev, ev_kw, ev_fn, startE_0, startE_s, startE_c, fin_rt, fin_nx, fin_ex, fin_ite, ix_t0, ix_t1, ix_t2, ix_t3, ix_l0, ix_l1, ix_l2, len_l, len_t1, len_t2, len_t3, len_t4, beq_self_eq_true, ev_iL, ev_iT, asL_ev, asT_ev, ev_iA, ev_P, toI_ev, ev_P0, ev_sl, kSl_ev, put_1, gAdd_i, gSub_i, gMul_i, gDiv_p, gMod_p, gPow_l, gShl_l, gShr_l, gLt_i, gLe_i, gGt_i, gGe_i, gEq_i, gNe_i, gNeg_i, gAbs_i, gInt_i, gInt_b, gEq_s, gNe_s, gEq_b, gNe_b, gEq_2, gNe_2, gEq_3, gNe_3, gEq_22, gNe_22, DL.R.bind_ok, DL.R.bind_ex, ev_setL, kSetL_ev, ev_lDisp, kDisp_ev, ev_lList, lOf_l, lOf_t, ev_frz, frz_l, frz_d, frz_n, ev_lend, lend_l, lend_d, atom_i, atom_b, atom_s, ev_lendB, lendB_l, lendB_d, ev_app, app_l, kApp_ev, ev_put, put_l, ev_ixO, ixO_l, ixO_d, put_m, putAll_c, putAll_n, ev_lc, kLst_ev, ev_lcL, wipe_n, wipe_c, r1_2, r1_3, bits_ev, List.getElem?_cons_zero, List.getElem?_cons_succ, List.set_cons_zero, List.set_cons_succ, List.length_cons, List.length_nil, List.length_map, List.append_nil, List.cons_append, List.nil_append, ev_if, turn_nx, turn_ct, turn_bk, turn_rt, turn_ite, kWh_ev, isi_int_int, isi_bool_int, isi_int_bool, isi_bool_bool, isi_int_str, isi_int_none, isi_int_list, isi_int_tup, isi_bool_str, isi_bool_none, isi_bool_list, isi_bool_tup, isi_tup_tup, isi_tup_int, isi_tup_bool, isi_tup_str, isi_tup_none, isi_tup_list, isi_list_list, isi_list_tup, isi_list_int, isi_list_bool, isi_list_str, isi_list_none, isi_str_str, isi_str_int, isi_str_bool, isi_str_none, isi_str_list, isi_str_tup, decide_true, decide_false, not_true_eq_false, not_false_eq_true, ne_eq, decide_eq_true_eq, Bool.not_eq_true', decide_eq_false_iff_not, Bool.not_true, Bool.not_false, Bool.false_eq_true, if_true, if_false, reduceIte, gDiv_i, divisor_eq, e2, h, e, hs, hk, lA, lB, lN]
theorem is_whole_int (z : Int) : m_is_whole [.int z] = .ok (.bool true) := by
  simp +decide only [m_is_whole, den_is_whole, ev_seq, seq_nx, seq_rt, seq_ex, seq_bk, seq_ct, seq_ite, fl_ok, fl_ex, fl_ite, ev_set, kSet_ev, ev_ret, ev_retN, ev_nx, ev_bk, ev_ct, ev_raise, ev_if, kIf_ev, ev_drop, kNx_ev, ev_par, kPar_ev, kId_ev, ev_asg, kAsg_ev, ev_for, kFor_ev, ev_V, dVg_ok, ev_C, ev_1, ev_2, bind2_ok, bind2_ite1, bind2_ite2, bind_ite, ev_A, ev_nil, ev_cons, kCons_ev, ev_T, toB_ev, ev_and, ev_or, ev_not, kAnd_ev, kOr_ev, kNot_ev, ev_andV, ev_orV, ev_notV, kAndV_ev, kOrV_ev, kNotV_ev, ev_ife, kIfE_ev, ev_ch, kCh, tup_ev, lst_ev, call_ev, kw_ev, ev_kw, ev_fn, startE_0, startE_s, startE_c, fin_rt, fin_nx, fin_ex, fin_ite, ix_t0, ix_t1, ix_t2, ix_t3, ix_l0, ix_l1, ix_l2, len_l, len_t1, len_t2, len_t3, len_t4, beq_self_eq_true, ev_iL, ev_iT, asL_ev, asT_ev, ev_iA, ev_P, toI_ev, ev_P0, ev_sl, kSl_ev, put_1, gAdd_i, gSub_i, gMul_i, gDiv_p, gMod_p, gPow_l, gShl_l, gShr_l, gLt_i, gLe_i, gGt_i, gGe_i, gEq_i, gNe_i, gNeg_i, gAbs_i, gInt_i, gInt_b, gEq_s, gNe_s, gEq_b, gNe_b, gEq_2, gNe_2, gEq_3, gNe_3, gEq_22, gNe_22, DL.R.bind_ok, DL.R.bind_ex, ev_setL, kSetL_ev, ev_lDisp, kDisp_ev, ev_lList, lOf_l, lOf_t, ev_frz, frz_l, frz_d, frz_n, ev_lend, lend_l, lend_d, atom_i, atom_b, atom_s, ev_lendB, lendB_l, lendB_d, ev_app, app_l, kApp_ev, ev_put, put_l, ev_ixO, ixO_l, ixO_d, put_m, putAll_c, putAll_n, ev_lc, kLst_ev, ev_lcL, wipe_n, wipe_c, r1_2, r1_3, bits_ev, List.getElem?_cons_zero, List.getElem?_cons_succ, List.set_cons_zero, List.set_cons_succ, List.length_cons, List.length_nil, List.length_map, List.append_nil, List.cons_append, List.nil_append, ev_if, turn_nx, turn_ct, turn_bk, turn_rt, turn_ite, kWh_ev, isi_int_int, isi_bool_int, isi_int_bool, isi_bool_bool, isi_int_str, isi_int_none, isi_int_list, isi_int_tup, isi_bool_str, isi_bool_none, isi_bool_list, isi_bool_tup, isi_tup_tup, isi_tup_int, isi_tup_bool, isi_tup_str, isi_tup_none, isi_tup_list, isi_list_list, isi_list_tup, isi_list_int, isi_list_bool, isi_list_str, isi_list_none, isi_str_str, isi_str_int, isi_str_bool, isi_str_none, isi_str_list, isi_str_tup, decide_true, decide_false, not_true_eq_false, not_false_eq_true, ne_eq, decide_eq_true_eq, Bool.not_eq_true', decide_eq_false_iff_not, Bool.not_true, Bool.not_false, Bool.false_eq_true, if_true, if_false, reduceIte]
theorem law_whole_int (z : Int) : m_law_whole [.int z] = .ok (.bool true) := by
  simp +decide only [m_law_whole, den_law_whole, ev_seq, seq_nx, seq_rt, seq_ex, seq_bk, seq_ct, seq_ite, fl_ok, fl_ex, fl_ite, ev_set, kSet_ev, ev_ret, ev_retN, ev_nx, ev_bk, ev_ct, ev_raise, ev_if, kIf_ev, ev_drop, kNx_ev, ev_par, kPar_ev, kId_ev, ev_asg, kAsg_ev, ev_for, kFor_ev, ev_V, dVg_ok, ev_C, ev_1, ev_2, bind2_ok, bind2_ite1, bind2_ite2, bind_ite, ev_A, ev_nil, ev_cons, kCons_ev, ev_T, toB_ev, ev_and, ev_or, ev_not, kAnd_ev, kOr_ev, kNot_ev, ev_andV, ev_orV, ev_notV, kAndV_ev, kOrV_ev, kNotV_ev, ev_ife, kIfE_ev, ev_ch, kCh, tup_ev, lst_ev, call_ev, kw_ev, ev_kw, ev_fn, startE_0, startE_s, startE_c, fin_rt, fin_nx, fin_ex, fin_ite, ix_t0, ix_t1, ix_t2, ix_t3, ix_l0, ix_l1, ix_l2, len_l, len_t1, len_t2, len_t3, len_t4, beq_self_eq_true, ev_iL, ev_iT, asL_ev, asT_ev, ev_iA, ev_P, toI_ev, ev_P0, ev_sl, kSl_ev, put_1, gAdd_i, gSub_i, gMul_i, gDiv_p, gMod_p, gPow_l, gShl_l, gShr_l, gLt_i, gLe_i, gGt_i, gGe_i, gEq_i, gNe_i, gNeg_i, gAbs_i, gInt_i, gInt_b, gEq_s, gNe_s, gEq_b, gNe_b, gEq_2, gNe_2, gEq_3, gNe_3, gEq_22, gNe_22, DL.R.bind_ok, DL.R.bind_ex, ev_setL, kSetL_ev, ev_lDisp, kDisp_ev, ev_lList, lOf_l, lOf_t, ev_frz, frz_l, frz_d, frz_n, ev_lend, lend_l, lend_d, atom_i, atom_b, atom_s, ev_lendB, lendB_l, lendB_d, ev_app, app_l, kApp_ev, ev_put, put_l, ev_ixO, ixO_l, ixO_d, put_m, putAll_c, putAll_n, ev_lc, kLst_ev, ev_lcL, wipe_n, wipe_c, r1_2, r1_3, bits_ev, List.getElem?_cons_zero, List.getElem?_cons_succ, List.set_cons_zero, List.set_cons_succ, List.length_cons, List.length_nil, List.length_map, List.append_nil, List.cons_append, List.nil_append, ev_if, turn_nx, turn_ct, turn_bk, turn_rt, turn_ite, kWh_ev, isi_int_int, isi_bool_int, isi_int_bool, isi_bool_bool, isi_int_str, isi_int_none, isi_int_list, isi_int_tup, isi_bool_str, isi_bool_none, isi_bool_list, isi_bool_tup, isi_tup_tup, isi_tup_int, isi_tup_bool, isi_tup_str, isi_tup_none, isi_tup_list, isi_list_list, isi_list_tup, isi_list_int, isi_list_bool, isi_list_str, isi_list_none, isi_str_str, isi_str_int, isi_str_bool, isi_str_none, isi_str_list, isi_str_tup, decide_true, decide_false, not_true_eq_false, not_false_eq_true, ne_eq, decide_eq_true_eq, Bool.not_eq_true', decide_eq_false_iff_not, Bool.not_true, Bool.not_false, Bool.false_eq_true, if_true, if_false, reduceIte]
theorem length_eq (a b n : Int) (hn : n ≠ 0) {k : Nat} [h3 : Bd n k] (hk : k ≤ 9000) : m_length [.int a, .int b, .int n] = .ok (.tuple [.int (lA a b n), .int (lB a b n), .int (lN a b n)]) := by
  simp +decide only [m_length, den_length, ev_seq, seq_nx, seq_rt, seq_ex, seq_bk, seq_ct, seq_ite, fl_ok, fl_ex, fl_ite, ev_set, kSet_ev, ev_ret, ev_retN, ev_nx, ev_bk, ev_ct, ev_raise, ev_if, kIf_ev, ev_drop, kNx_ev, ev_par, kPar_ev, kId_ev, ev_asg, kAsg_ev, ev_for, kFor_ev, ev_V, dVg_ok, ev_C, ev_1, ev_2, bind2_ok, bind2_ite1, bind2_ite2, bind_ite, ev_A, ev_nil, ev_cons, kCons_ev, ev_T, toB_ev, ev_and, ev_or, ev_not, kAnd_ev, kOr_ev, kNot_ev, ev_andV, ev_orV, ev_notV, kAndV_ev, kOrV_ev, kNotV_ev, ev_ife, kIfE_ev, ev_ch, kCh, tup_ev, lst_ev, call_ev, kw_ev, ev_kw, ev_fn, startE_0, startE_s, startE_c, fin_rt, fin_nx, fin_ex, fin_ite, ix_t0, ix_t1, ix_t2, ix_t3, ix_l0, ix_l1, ix_l2, len_l, len_t1, len_t2, len_t3, len_t4, beq_self_eq_true, ev_iL, ev_iT, asL_ev, asT_ev, ev_iA, ev_P, toI_ev, ev_P0, ev_sl, kSl_ev, put_1, gAdd_i, gSub_i, gMul_i, gDiv_p, gMod_p, gPow_l, gShl_l, gShr_l, gLt_i, gLe_i, gGt_i, gGe_i, gEq_i, gNe_i, gNeg_i, gAbs_i, gInt_i, gInt_b, gEq_s, gNe_s, gEq_b, gNe_b, gEq_2, gNe_2, gEq_3, gNe_3, gEq_22, gNe_22, DL.R.bind_ok, DL.R.bind_ex, ev_setL, kSetL_ev, ev_lDisp, kDisp_ev, ev_lList, lOf_l, lOf_t, ev_frz, frz_l, frz_d, frz_n, ev_lend, lend_l, lend_d, atom_i, atom_b, atom_s, ev_lendB, lendB_l, lendB_d, ev_app, app_l, kApp_ev, ev_put, put_l, ev_ixO, ixO_l, ixO_d, put_m, putAll_c, putAll_n, ev_lc, kLst_ev, ev_lcL, wipe_n, wipe_c, r1_2, r1_3, bits_ev, List.getElem?_cons_zero, List.getElem?_cons_succ, List.set_cons_zero, List.set_cons_succ, List.length_cons, List.length_nil, List.length_map, List.append_nil, List.cons_append, List.nil_append, ev_if, turn_nx, turn_ct, turn_bk, turn_rt, turn_ite, kWh_ev, isi_int_int, isi_bool_int, isi_int_bool, isi_bool_bool, isi_int_str, isi_int_none, isi_int_list, isi_int_tup, isi_bool_str, isi_bool_none, isi_bool_list, isi_bool_tup, isi_tup_tup, isi_tup_int, isi_tup_bool, isi_tup_str, isi_tup_none, isi_tup_list, isi_list_list, isi_list_tup, isi_list_int, isi_list_bool, isi_list_str, isi_list_none, isi_str_str, isi_str_int, isi_str_bool, isi_str_none, isi_str_list, isi_str_tup, decide_true, decide_false, not_true_eq_false, not_false_eq_true, ne_eq, decide_eq_true_eq, Bool.not_eq_true', decide_eq_false_iff_not, Bool.not_true, Bool.not_false, Bool.false_eq_true, if_true, if_false, reduceIte, is_whole_int, hn, lowest_eq, hk]
theorem law_divisor_loop : ∀ (k : Nat) (a b : Int), 0 ≤ b → 0 ≤ a → b.natAbs ≤ k → sWhile lt1_law_divisor lb1_law_divisor [some (.d (.int a)), some (.d (.int b))] = .nx [some (.d (.int (Int.gcd a b : Int))), some (.d (.int 0))] := by
  intro k
  induction k with
  | zero =>
    intro a b h0 ha h
    have hb : b = 0 := by omega
    subst hb
    rw [ev_while]
    have : (a.natAbs : Int) = a := by omega
    simp +decide only [lt1_law_divisor, ev_seq, seq_nx, seq_rt, seq_ex, seq_bk, seq_ct, seq_ite, fl_ok, fl_ex, fl_ite, ev_set, kSet_ev, ev_ret, ev_retN, ev_nx, ev_bk, ev_ct, ev_raise, ev_if, kIf_ev, ev_drop, kNx_ev, ev_par, kPar_ev, kId_ev, ev_asg, kAsg_ev, ev_for, kFor_ev, ev_V, dVg_ok, ev_C, ev_1, ev_2, bind2_ok, bind2_ite1, bind2_ite2, bind_ite, ev_A, ev_nil, ev_cons, kCons_ev, ev_T, toB_ev, ev_and, ev_or, ev_not, kAnd_ev, kOr_ev, kNot_ev, ev_andV, ev_orV, ev_notV, kAndV_ev, kOrV_ev, kNotV_ev, ev_ife, kIfE_ev, ev_ch, kCh, tup_ev, lst_ev, call_ev, kw_ev, ev_kw, ev_fn, startE_0, startE_s, startE_c, fin_rt, fin_nx, fin_ex, fin_ite, ix_t0, ix_t1, ix_t2, ix_t3, ix_l0, ix_l1, ix_l2, len_l, len_t1, len_t2, len_t3, len_t4, beq_self_eq_true, ev_iL, ev_iT, asL_ev, asT_ev, ev_iA, ev_P, toI_ev, ev_P0, ev_sl, kSl_ev, put_1, gAdd_i, gSub_i, gMul_i, gDiv_p, gMod_p, gPow_l, gShl_l, gShr_l, gLt_i, gLe_i, gGt_i, gGe_i, gEq_i, gNe_i, gNeg_i, gAbs_i, gInt_i, gInt_b, gEq_s, gNe_s, gEq_b, gNe_b, gEq_2, gNe_2, gEq_3, gNe_3, gEq_22, gNe_22, DL.R.bind_ok, DL.R.bind_ex, ev_setL, kSetL_ev, ev_lDisp, kDisp_ev, ev_lList, lOf_l, lOf_t, ev_frz, frz_l, frz_d, frz_n, ev_lend, lend_l, lend_d, atom_i, atom_b, atom_s, ev_lendB, lendB_l, lendB_d, ev_app, app_l, kApp_ev, ev_put, put_l, ev_ixO, ixO_l, ixO_d, put_m, putAll_c, putAll_n, ev_lc, kLst_ev, ev_lcL, wipe_n, wipe_c, r1_2, r1_3, bits_ev, List.getElem?_cons_zero, List.getElem?_cons_succ, List.set_cons_zero, List.set_cons_succ, List.length_cons, List.length_nil, List.length_map, List.append_nil, List.cons_append, List.nil_append, ev_if, turn_nx, turn_ct, turn_bk, turn_rt, turn_ite, kWh_ev, isi_int_int, isi_bool_int, isi_int_bool, isi_bool_bool, isi_int_str, isi_int_none, isi_int_list, isi_int_tup, isi_bool_str, isi_bool_none, isi_bool_list, isi_bool_tup, isi_tup_tup, isi_tup_int, isi_tup_bool, isi_tup_str, isi_tup_none, isi_tup_list, isi_list_list, isi_list_tup, isi_list_int, isi_list_bool, isi_list_str, isi_list_none, isi_str_str, isi_str_int, isi_str_bool, isi_str_none, isi_str_list, isi_str_tup, decide_true, decide_false, not_true_eq_false, not_false_eq_true, ne_eq, decide_eq_true_eq, Bool.not_eq_true', decide_eq_false_iff_not, Bool.not_true, Bool.not_false, Bool.false_eq_true, if_true, if_false, reduceIte, Int.gcd_zero, this]
  | succ k ih =>
    intro a b h0 ha h
    by_cases hb : b = 0
    · subst hb
      rw [ev_while]
      have : (a.natAbs : Int) = a := by omega
      simp +decide only [lt1_law_divisor, ev_seq, seq_nx, seq_rt, seq_ex, seq_bk, seq_ct, seq_ite, fl_ok, fl_ex, fl_ite, ev_set, kSet_ev, ev_ret, ev_retN, ev_nx, ev_bk, ev_ct, ev_raise, ev_if, kIf_ev, ev_drop, kNx_ev, ev_par, kPar_ev, kId_ev, ev_asg, kAsg_ev, ev_for, kFor_ev, ev_V, dVg_ok, ev_C, ev_1, ev_2, bind2_ok, bind2_ite1, bind2_ite2, bind_ite, ev_A, ev_nil, ev_cons, kCons_ev, ev_T, toB_ev, ev_and, ev_or, ev_not, kAnd_ev, kOr_ev, kNot_ev, ev_andV, ev_orV, ev_notV, kAndV_ev, kOrV_ev, kNotV_ev, ev_ife, kIfE_ev, ev_ch, kCh, tup_ev, lst_ev, call_ev, kw_ev, ev_kw, ev_fn, startE_0, startE_s, startE_c, fin_rt, fin_nx, fin_ex, fin_ite, ix_t0, ix_t1, ix_t2, ix_t3, ix_l0, ix_l1, ix_l2, len_l, len_t1, len_t2, len_t3, len_t4, beq_self_eq_true, ev_iL, ev_iT, asL_ev, asT_ev, ev_iA, ev_P, toI_ev, ev_P0, ev_sl, kSl_ev, put_1, gAdd_i, gSub_i, gMul_i, gDiv_p, gMod_p, gPow_l, gShl_l, gShr_l, gLt_i, gLe_i, gGt_i, gGe_i, gEq_i, gNe_i, gNeg_i, gAbs_i, gInt_i, gInt_b, gEq_s, gNe_s, gEq_b, gNe_b, gEq_2, gNe_2, gEq_3, gNe_3, gEq_22, gNe_22, DL.R.bind_ok, DL.R.bind_ex, ev_setL, kSetL_ev, ev_lDisp, kDisp_ev, ev_lList, lOf_l, lOf_t, ev_frz, frz_l, frz_d, frz_n, ev_lend, lend_l, lend_d, atom_i, atom_b, atom_s, ev_lendB, lendB_l, lendB_d, ev_app, app_l, kApp_ev, ev_put, put_l, ev_ixO, ixO_l, ixO_d, put_m, putAll_c, putAll_n, ev_lc, kLst_ev, ev_lcL, wipe_n, wipe_c, r1_2, r1_3, bits_ev, List.getElem?_cons_zero, List.getElem?_cons_succ, List.set_cons_zero, List.set_cons_succ, List.length_cons, List.length_nil, List.length_map, List.append_nil, List.cons_append, List.nil_append, ev_if, turn_nx, turn_ct, turn_bk, turn_rt, turn_ite, kWh_ev, isi_int_int, isi_bool_int, isi_int_bool, isi_bool_bool, isi_int_str, isi_int_none, isi_int_list, isi_int_tup, isi_bool_str, isi_bool_none, isi_bool_list, isi_bool_tup, isi_tup_tup, isi_tup_int, isi_tup_bool, isi_tup_str, isi_tup_none, isi_tup_list, isi_list_list, isi_list_tup, isi_list_int, isi_list_bool, isi_list_str, isi_list_none, isi_str_str, isi_str_int, isi_str_bool, isi_str_none, isi_str_list, isi_str_tup, decide_true, decide_false, not_true_eq_false, not_false_eq_true, ne_eq, decide_eq_true_eq, Bool.not_eq_true', decide_eq_false_iff_not, Bool.not_true, Bool.not_false, Bool.false_eq_true, if_true, if_false, reduceIte, Int.gcd_zero, this]
    · have e := ih b (a.fmod b) (Int.fmod_nonneg_of_pos a (by omega)) h0 (by
        have h1 := natAbs_fmod_lt a hb
        omega)
      rw [ev_while]
      have hp : 0 < b := by omega
      have e1 : a = b * a.fdiv b + a.fmod b := (Int.mul_fdiv_add_fmod a b).symm
      have e2 : Int.gcd b (b * a.fdiv b + a.fmod b) = Int.gcd b (a.fmod b) := Int.gcd_mul_left_add_right _ _ _
      rw [← e1] at e2
      rw [Int.gcd_comm a b, e2]
      rw [Int.fmod_eq_emod_of_nonneg _ h0] at e ⊢
      simp +decide only [lt1_law_divisor, lb1_law_divisor, ev_seq, seq_nx, seq_rt, seq_ex, seq_bk, seq_ct, seq_ite, fl_ok, fl_ex, fl_ite, ev_set, kSet_ev, ev_ret, ev_retN, ev_nx, ev_bk, ev_ct, ev_raise, ev_if, kIf_ev, ev_drop, kNx_ev, ev_par, kPar_ev, kId_ev, ev_asg, kAsg_ev, ev_for, kFor_ev, ev_V, dVg_ok, ev_C, ev_1, ev_2, bind2_ok, bind2_ite1, bind2_ite2, bind_ite, ev_A, ev_nil, ev_cons, kCons_ev, ev_T, toB_ev, ev_and, ev_or, ev_not, kAnd_ev, kOr_ev, kNot_ev, ev_andV, ev_orV, ev_notV, kAndV_ev, kOrV_ev, kNotV_ev, ev_ife, kIfE_ev, ev_ch, kCh, tup_ev, lst_ev, call_ev, kw_ev, ev_kw, ev_fn, startE_0, startE_s, startE_c, fin_rt, fin_nx, fin_ex, fin_ite, ix_t0, ix_t1, ix_t2, ix_t3, ix_l0, ix_l1, ix_l2, len_l, len_t1, len_t2, len_t3, len_t4, beq_self_eq_true, ev_iL, ev_iT, asL_ev, asT_ev, ev_iA, ev_P, toI_ev, ev_P0, ev_sl, kSl_ev, put_1, gAdd_i, gSub_i, gMul_i, gDiv_p, gMod_p, gPow_l, gShl_l, gShr_l, gLt_i, gLe_i, gGt_i, gGe_i, gEq_i, gNe_i, gNeg_i, gAbs_i, gInt_i, gInt_b, gEq_s, gNe_s, gEq_b, gNe_b, gEq_2, gNe_2, gEq_3, gNe_3, gEq_22, gNe_22, DL.R.bind_ok, DL.R.bind_ex, ev_setL, kSetL_ev, ev_lDisp, kDisp_ev, ev_lList, lOf_l, lOf_t, ev_frz, frz_l, frz_d, frz_n, ev_lend, lend_l, lend_d, atom_i, atom_b, atom_s, ev_lendB, lendB_l, lendB_d, ev_app, app_l, kApp_ev, ev_put, put_l, ev_ixO, ixO_l, ixO_d, put_m, putAll_c, putAll_n, ev_lc, kLst_ev, ev_lcL, wipe_n, wipe_c, r1_2, r1_3, bits_ev, List.getElem?_cons_zero, List.getElem?_cons_succ, List.set_cons_zero, List.set_cons_succ, List.length_cons, List.length_nil, List.length_map, List.append_nil, List.cons_append, List.nil_append, ev_if, turn_nx, turn_ct, turn_bk, turn_rt, turn_ite, kWh_ev, isi_int_int, isi_bool_int, isi_int_bool, isi_bool_bool, isi_int_str, isi_int_none, isi_int_list, isi_int_tup, isi_bool_str, isi_bool_none, isi_bool_list, isi_bool_tup, isi_tup_tup, isi_tup_int, isi_tup_bool, isi_tup_str, isi_tup_none, isi_tup_list, isi_list_list, isi_list_tup, isi_list_int, isi_list_bool, isi_list_str, isi_list_none, isi_str_str, isi_str_int, isi_str_bool, isi_str_none, isi_str_list, isi_str_tup, decide_true, decide_false, not_true_eq_false, not_false_eq_true, ne_eq, decide_eq_true_eq, Bool.not_eq_true', decide_eq_false_iff_not, Bool.not_true, Bool.not_false, Bool.false_eq_true, if_true, if_false, reduceIte, hb, hp]
      exact e
theorem law_divisor_eq (a b : Int) : m_law_divisor [.int a, .int b] = .ok (.int (Int.gcd a b : Int)) := by
  have e := law_divisor_loop _ (a.natAbs : Int) (b.natAbs : Int) (by omega) (by omega) (Nat.le_refl _)
  have e2 : Int.gcd (a.natAbs : Int) (b.natAbs : Int) = Int.gcd a b := by simp [Int.gcd]
  simp +decide only [m_law_divisor, den_law_divisor, ev_seq, seq_nx, seq_rt, seq_ex, seq_bk, seq_ct, seq_ite, fl_ok, fl_ex, fl_ite, ev_set, kSet_ev, ev_ret, ev_retN, ev_nx, ev_bk, ev_ct, ev_raise, ev_if, kIf_ev, ev_drop, kNx_ev, ev_par, kPar_ev, kId_ev, ev_asg, kAsg_ev, ev_for, kFor_ev, ev_V, dVg_ok, ev_C, ev_1, ev_2, bind2_ok, bind2_ite1, bind2_ite2, bind_ite, ev_A, ev_nil, ev_cons, kCons_ev, ev_T, toB_ev, ev_and, ev_or, ev_not, kAnd_ev, kOr_ev, kNot_ev, ev_andV, ev_orV, ev_notV, kAndV_ev, kOrV_ev, kNotV_ev, ev_ife, kIfE_ev, ev_ch, kCh, tup_ev, lst_ev, call_ev, kw_ev, ev_kw, ev_fn, startE_0, startE_s, startE_c, fin_rt, fin_nx, fin_ex, fin_ite, ix_t0, ix_t1, ix_t2, ix_t3, ix_l0, ix_l1, ix_l2, len_l, len_t1, len_t2, len_t3, len_t4, beq_self_eq_true, ev_iL, ev_iT, asL_ev, asT_ev, ev_iA, ev_P, toI_ev, ev_P0, ev_sl, kSl_ev, put_1, gAdd_i, gSub_i, gMul_i, gDiv_p, gMod_p, gPow_l, gShl_l, gShr_l, gLt_i, gLe_i, gGt_i, gGe_i, gEq_i, gNe_i, gNeg_i, gAbs_i, gInt_i, gInt_b, gEq_s, gNe_s, gEq_b, gNe_b, gEq_2, gNe_2, gEq_3, gNe_3, gEq_22, gNe_22, DL.R.bind_ok, DL.R.bind_ex, ev_setL, kSetL_ev, ev_lDisp, kDisp_ev, ev_lList, lOf_l, lOf_t, ev_frz, frz_l, frz_d, frz_n, ev_lend, lend_l, lend_d, atom_i, atom_b, atom_s, ev_lendB, lendB_l, lendB_d, ev_app, app_l, kApp_ev, ev_put, put_l, ev_ixO, ixO_l, ixO_d, put_m, putAll_c, putAll_n, ev_lc, kLst_ev, ev_lcL, wipe_n, wipe_c, r1_2, r1_3, bits_ev, List.getElem?_cons_zero, List.getElem?_cons_succ, List.set_cons_zero, List.set_cons_succ, List.length_cons, List.length_nil, List.length_map, List.append_nil, List.cons_append, List.nil_append, ev_if, turn_nx, turn_ct, turn_bk, turn_rt, turn_ite, kWh_ev, isi_int_int, isi_bool_int, isi_int_bool, isi_bool_bool, isi_int_str, isi_int_none, isi_int_list, isi_int_tup, isi_bool_str, isi_bool_none, isi_bool_list, isi_bool_tup, isi_tup_tup, isi_tup_int, isi_tup_bool, isi_tup_str, isi_tup_none, isi_tup_list, isi_list_list, isi_list_tup, isi_list_int, isi_list_bool, isi_list_str, isi_list_none, isi_str_str, isi_str_int, isi_str_bool, isi_str_none, isi_str_list, isi_str_tup, decide_true, decide_false, not_true_eq_false, not_false_eq_true, ne_eq, decide_eq_true_eq, Bool.not_eq_true', decide_eq_false_iff_not, Bool.not_true, Bool.not_false, Bool.false_eq_true, if_true, if_false, reduceIte, e, e2]
/-- crosswise -/
def Cross (A B N t m u : Int) : Prop := A * u = t * N ∧ B * u = m * N
theorem law_stands_eq (A B N t m u : Int) (hL : Low A B N) (hC : Cross A B N t m u) {k1 k2 k3 k4 k5 k6 : Nat} [Bd A k1] [Bd B k2] [Bd N k3] [Bd t k4] [Bd m k5] [Bd u k6] (h1 : k1 + k6 ≤ 134217728) (h2 : k4 + k3 ≤ 134217728) (h3 : k2 + k6 ≤ 134217728) (h4 : k5 + k3 ≤ 134217728) :
    m_law_stands [.tuple [.int A, .int B, .int N], .int t, .int m, .int u] = .ok (.bool true) := by
  have g : ((Int.gcd (Int.gcd A B) N : Nat) : Int) = 1 := by rw [hL.2]; rfl
  have p : ¬ N < 1 := by have := hL.1; omega
  simp +decide only [m_law_stands, den_law_stands, ev_seq, seq_nx, seq_rt, seq_ex, seq_bk, seq_ct, seq_ite, fl_ok, fl_ex, fl_ite, ev_set, kSet_ev, ev_ret, ev_retN, ev_nx, ev_bk, ev_ct, ev_raise, ev_if, kIf_ev, ev_drop, kNx_ev, ev_par, kPar_ev, kId_ev, ev_asg, kAsg_ev, ev_for, kFor_ev, ev_V, dVg_ok, ev_C, ev_1, ev_2, bind2_ok, bind2_ite1, bind2_ite2, bind_ite, ev_A, ev_nil, ev_cons, kCons_ev, ev_T, toB_ev, ev_and, ev_or, ev_not, kAnd_ev, kOr_ev, kNot_ev, ev_andV, ev_orV, ev_notV, kAndV_ev, kOrV_ev, kNotV_ev, ev_ife, kIfE_ev, ev_ch, kCh, tup_ev, lst_ev, call_ev, kw_ev, ev_kw, ev_fn, startE_0, startE_s, startE_c, fin_rt, fin_nx, fin_ex, fin_ite, ix_t0, ix_t1, ix_t2, ix_t3, ix_l0, ix_l1, ix_l2, len_l, len_t1, len_t2, len_t3, len_t4, beq_self_eq_true, ev_iL, ev_iT, asL_ev, asT_ev, ev_iA, ev_P, toI_ev, ev_P0, ev_sl, kSl_ev, put_1, gAdd_i, gSub_i, gMul_i, gDiv_p, gMod_p, gPow_l, gShl_l, gShr_l, gLt_i, gLe_i, gGt_i, gGe_i, gEq_i, gNe_i, gNeg_i, gAbs_i, gInt_i, gInt_b, gEq_s, gNe_s, gEq_b, gNe_b, gEq_2, gNe_2, gEq_3, gNe_3, gEq_22, gNe_22, DL.R.bind_ok, DL.R.bind_ex, ev_setL, kSetL_ev, ev_lDisp, kDisp_ev, ev_lList, lOf_l, lOf_t, ev_frz, frz_l, frz_d, frz_n, ev_lend, lend_l, lend_d, atom_i, atom_b, atom_s, ev_lendB, lendB_l, lendB_d, ev_app, app_l, kApp_ev, ev_put, put_l, ev_ixO, ixO_l, ixO_d, put_m, putAll_c, putAll_n, ev_lc, kLst_ev, ev_lcL, wipe_n, wipe_c, r1_2, r1_3, bits_ev, List.getElem?_cons_zero, List.getElem?_cons_succ, List.set_cons_zero, List.set_cons_succ, List.length_cons, List.length_nil, List.length_map, List.append_nil, List.cons_append, List.nil_append, ev_if, turn_nx, turn_ct, turn_bk, turn_rt, turn_ite, kWh_ev, isi_int_int, isi_bool_int, isi_int_bool, isi_bool_bool, isi_int_str, isi_int_none, isi_int_list, isi_int_tup, isi_bool_str, isi_bool_none, isi_bool_list, isi_bool_tup, isi_tup_tup, isi_tup_int, isi_tup_bool, isi_tup_str, isi_tup_none, isi_tup_list, isi_list_list, isi_list_tup, isi_list_int, isi_list_bool, isi_list_str, isi_list_none, isi_str_str, isi_str_int, isi_str_bool, isi_str_none, isi_str_list, isi_str_tup, decide_true, decide_false, not_true_eq_false, not_false_eq_true, ne_eq, decide_eq_true_eq, Bool.not_eq_true', decide_eq_false_iff_not, Bool.not_true, Bool.not_false, Bool.false_eq_true, if_true, if_false, reduceIte, law_whole_int, law_divisor_eq, g, p, h1, h2, h3, h4, hC.1, hC.2]
/-- the great number drawn -/
def gr (c k : Int) : Int := (c + k + 1) * 105152070229383420083013462309641843003 % 170141183460469231731687303715884105727
instance bd_gr {c k : Int} : Bd (gr c k) 127 := (bd_emod : Bd (gr c k) _).mono (by decide)
theorem gr_nonneg (c k : Int) : 0 ≤ gr c k := Int.emod_nonneg _ (by decide)
theorem law_great_eq (c k : Int) {n : Nat} [Bd (c + k + 1) n] (h : n ≤ 134217000) : m_law_great [.int c, .int k] = .ok (.int (gr c k)) := by
  have h' : n + (Nat.log2 105152070229383420083013462309641843003 + 1) ≤ 134217728 := by
    have : Nat.log2 105152070229383420083013462309641843003 = 126 := by decide
    omega
  simp +decide only [m_law_great, den_law_great, ev_seq, seq_nx, seq_rt, seq_ex, seq_bk, seq_ct, seq_ite, fl_ok, fl_ex, fl_ite, ev_set, kSet_ev, ev_ret, ev_retN, ev_nx, ev_bk, ev_ct, ev_raise, ev_if, kIf_ev, ev_drop, kNx_ev, ev_par, kPar_ev, kId_ev, ev_asg, kAsg_ev, ev_for, kFor_ev, ev_V, dVg_ok, ev_C, ev_1, ev_2, bind2_ok, bind2_ite1, bind2_ite2, bind_ite, ev_A, ev_nil, ev_cons, kCons_ev, ev_T, toB_ev, ev_and, ev_or, ev_not, kAnd_ev, kOr_ev, kNot_ev, ev_andV, ev_orV, ev_notV, kAndV_ev, kOrV_ev, kNotV_ev, ev_ife, kIfE_ev, ev_ch, kCh, tup_ev, lst_ev, call_ev, kw_ev, ev_kw, ev_fn, startE_0, startE_s, startE_c, fin_rt, fin_nx, fin_ex, fin_ite, ix_t0, ix_t1, ix_t2, ix_t3, ix_l0, ix_l1, ix_l2, len_l, len_t1, len_t2, len_t3, len_t4, beq_self_eq_true, ev_iL, ev_iT, asL_ev, asT_ev, ev_iA, ev_P, toI_ev, ev_P0, ev_sl, kSl_ev, put_1, gAdd_i, gSub_i, gMul_i, gDiv_p, gMod_p, gPow_l, gShl_l, gShr_l, gLt_i, gLe_i, gGt_i, gGe_i, gEq_i, gNe_i, gNeg_i, gAbs_i, gInt_i, gInt_b, gEq_s, gNe_s, gEq_b, gNe_b, gEq_2, gNe_2, gEq_3, gNe_3, gEq_22, gNe_22, DL.R.bind_ok, DL.R.bind_ex, ev_setL, kSetL_ev, ev_lDisp, kDisp_ev, ev_lList, lOf_l, lOf_t, ev_frz, frz_l, frz_d, frz_n, ev_lend, lend_l, lend_d, atom_i, atom_b, atom_s, ev_lendB, lendB_l, lendB_d, ev_app, app_l, kApp_ev, ev_put, put_l, ev_ixO, ixO_l, ixO_d, put_m, putAll_c, putAll_n, ev_lc, kLst_ev, ev_lcL, wipe_n, wipe_c, r1_2, r1_3, bits_ev, List.getElem?_cons_zero, List.getElem?_cons_succ, List.set_cons_zero, List.set_cons_succ, List.length_cons, List.length_nil, List.length_map, List.append_nil, List.cons_append, List.nil_append, ev_if, turn_nx, turn_ct, turn_bk, turn_rt, turn_ite, kWh_ev, isi_int_int, isi_bool_int, isi_int_bool, isi_bool_bool, isi_int_str, isi_int_none, isi_int_list, isi_int_tup, isi_bool_str, isi_bool_none, isi_bool_list, isi_bool_tup, isi_tup_tup, isi_tup_int, isi_tup_bool, isi_tup_str, isi_tup_none, isi_tup_list, isi_list_list, isi_list_tup, isi_list_int, isi_list_bool, isi_list_str, isi_list_none, isi_str_str, isi_str_int, isi_str_bool, isi_str_none, isi_str_list, isi_str_tup, decide_true, decide_false, not_true_eq_false, not_false_eq_true, ne_eq, decide_eq_true_eq, Bool.not_eq_true', decide_eq_false_iff_not, Bool.not_true, Bool.not_false, Bool.false_eq_true, if_true, if_false, reduceIte, h', gr]
theorem getD_bd {zs : List Int} {k n : Nat} (h : ∀ z ∈ zs, z.natAbs < 2 ^ n) : Bd (zs.getD k 0) n := by
  constructor
  rw [List.getD_eq_getElem?_getD]
  cases e : zs[k]? with
  | none => exact Nat.two_pow_pos n
  | some z => exact h z (List.mem_of_getElem? e)
theorem law_number_ok (c k most : Int) {n : Nat} [Bd (c + k + 1) n] (hn : n ≤ 134217000) [bm : Bd most 140] (hm : 1 ≤ most) : ∃ z : Int, m_law_number [.int c, .int k, .int most] = .ok (.int z) ∧ Bd z 1400 := by
  have hg := gr_nonneg c k
  have bg := @bd_gr c k
  have e := law_great_eq c k hn
  generalize gr c k = g at *
  have hp8 : 1 ≤ most ^ 8 := Int.pow_pos (by omega)
  by_cases c1 : g % 40 = 0
  · have hw : (0 : Int) < 2 * (10 ^ 40 * most ^ 8) - 1 := by omega
    have nz : NZ (2 * (10 ^ 40 * most ^ 8) - 1) := ⟨by omega⟩
    refine ⟨(g / 40) ^ 10 % (2 * (10 ^ 40 * most ^ 8) - 1) - 10 ^ 40 * most ^ 8 + 1, ?_, Bd.mono inferInstance (by decide)⟩
    simp +decide only [m_law_number, den_law_number, ev_seq, seq_nx, seq_rt, seq_ex, seq_bk, seq_ct, seq_ite, fl_ok, fl_ex, fl_ite, ev_set, kSet_ev, ev_ret, ev_retN, ev_nx, ev_bk, ev_ct, ev_raise, ev_if, kIf_ev, ev_drop, kNx_ev, ev_par, kPar_ev, kId_ev, ev_asg, kAsg_ev, ev_for, kFor_ev, ev_V, dVg_ok, ev_C, ev_1, ev_2, bind2_ok, bind2_ite1, bind2_ite2, bind_ite, ev_A, ev_nil, ev_cons, kCons_ev, ev_T, toB_ev, ev_and, ev_or, ev_not, kAnd_ev, kOr_ev, kNot_ev, ev_andV, ev_orV, ev_notV, kAndV_ev, kOrV_ev, kNotV_ev, ev_ife, kIfE_ev, ev_ch, kCh, tup_ev, lst_ev, call_ev, kw_ev, ev_kw, ev_fn, startE_0, startE_s, startE_c, fin_rt, fin_nx, fin_ex, fin_ite, ix_t0, ix_t1, ix_t2, ix_t3, ix_l0, ix_l1, ix_l2, len_l, len_t1, len_t2, len_t3, len_t4, beq_self_eq_true, ev_iL, ev_iT, asL_ev, asT_ev, ev_iA, ev_P, toI_ev, ev_P0, ev_sl, kSl_ev, put_1, gAdd_i, gSub_i, gMul_i, gDiv_p, gMod_p, gPow_l, gShl_l, gShr_l, gLt_i, gLe_i, gGt_i, gGe_i, gEq_i, gNe_i, gNeg_i, gAbs_i, gInt_i, gInt_b, gEq_s, gNe_s, gEq_b, gNe_b, gEq_2, gNe_2, gEq_3, gNe_3, gEq_22, gNe_22, DL.R.bind_ok, DL.R.bind_ex, ev_setL, kSetL_ev, ev_lDisp, kDisp_ev, ev_lList, lOf_l, lOf_t, ev_frz, frz_l, frz_d, frz_n, ev_lend, lend_l, lend_d, atom_i, atom_b, atom_s, ev_lendB, lendB_l, lendB_d, ev_app, app_l, kApp_ev, ev_put, put_l, ev_ixO, ixO_l, ixO_d, put_m, putAll_c, putAll_n, ev_lc, kLst_ev, ev_lcL, wipe_n, wipe_c, r1_2, r1_3, bits_ev, List.getElem?_cons_zero, List.getElem?_cons_succ, List.set_cons_zero, List.set_cons_succ, List.length_cons, List.length_nil, List.length_map, List.append_nil, List.cons_append, List.nil_append, ev_if, turn_nx, turn_ct, turn_bk, turn_rt, turn_ite, kWh_ev, isi_int_int, isi_bool_int, isi_int_bool, isi_bool_bool, isi_int_str, isi_int_none, isi_int_list, isi_int_tup, isi_bool_str, isi_bool_none, isi_bool_list, isi_bool_tup, isi_tup_tup, isi_tup_int, isi_tup_bool, isi_tup_str, isi_tup_none, isi_tup_list, isi_list_list, isi_list_tup, isi_list_int, isi_list_bool, isi_list_str, isi_list_none, isi_str_str, isi_str_int, isi_str_bool, isi_str_none, isi_str_list, isi_str_tup, decide_true, decide_false, not_true_eq_false, not_false_eq_true, ne_eq, decide_eq_true_eq, Bool.not_eq_true', decide_eq_false_iff_not, Bool.not_true, Bool.not_false, Bool.false_eq_true, if_true, if_false, reduceIte, e, c1, hw]
  by_cases c2 : g % 5 = 0
  · have hw : (0 : Int) < 2 * most - 1 := by omega
    have nz : NZ (2 * most - 1) := ⟨by omega⟩
    refine ⟨g / 5 * g % (2 * most - 1) - (most - 1), ?_, Bd.mono inferInstance (by decide)⟩
    simp +decide only [m_law_number, den_law_number, ev_seq, seq_nx, seq_rt, seq_ex, seq_bk, seq_ct, seq_ite, fl_ok, fl_ex, fl_ite, ev_set, kSet_ev, ev_ret, ev_retN, ev_nx, ev_bk, ev_ct, ev_raise, ev_if, kIf_ev, ev_drop, kNx_ev, ev_par, kPar_ev, kId_ev, ev_asg, kAsg_ev, ev_for, kFor_ev, ev_V, dVg_ok, ev_C, ev_1, ev_2, bind2_ok, bind2_ite1, bind2_ite2, bind_ite, ev_A, ev_nil, ev_cons, kCons_ev, ev_T, toB_ev, ev_and, ev_or, ev_not, kAnd_ev, kOr_ev, kNot_ev, ev_andV, ev_orV, ev_notV, kAndV_ev, kOrV_ev, kNotV_ev, ev_ife, kIfE_ev, ev_ch, kCh, tup_ev, lst_ev, call_ev, kw_ev, ev_kw, ev_fn, startE_0, startE_s, startE_c, fin_rt, fin_nx, fin_ex, fin_ite, ix_t0, ix_t1, ix_t2, ix_t3, ix_l0, ix_l1, ix_l2, len_l, len_t1, len_t2, len_t3, len_t4, beq_self_eq_true, ev_iL, ev_iT, asL_ev, asT_ev, ev_iA, ev_P, toI_ev, ev_P0, ev_sl, kSl_ev, put_1, gAdd_i, gSub_i, gMul_i, gDiv_p, gMod_p, gPow_l, gShl_l, gShr_l, gLt_i, gLe_i, gGt_i, gGe_i, gEq_i, gNe_i, gNeg_i, gAbs_i, gInt_i, gInt_b, gEq_s, gNe_s, gEq_b, gNe_b, gEq_2, gNe_2, gEq_3, gNe_3, gEq_22, gNe_22, DL.R.bind_ok, DL.R.bind_ex, ev_setL, kSetL_ev, ev_lDisp, kDisp_ev, ev_lList, lOf_l, lOf_t, ev_frz, frz_l, frz_d, frz_n, ev_lend, lend_l, lend_d, atom_i, atom_b, atom_s, ev_lendB, lendB_l, lendB_d, ev_app, app_l, kApp_ev, ev_put, put_l, ev_ixO, ixO_l, ixO_d, put_m, putAll_c, putAll_n, ev_lc, kLst_ev, ev_lcL, wipe_n, wipe_c, r1_2, r1_3, bits_ev, List.getElem?_cons_zero, List.getElem?_cons_succ, List.set_cons_zero, List.set_cons_succ, List.length_cons, List.length_nil, List.length_map, List.append_nil, List.cons_append, List.nil_append, ev_if, turn_nx, turn_ct, turn_bk, turn_rt, turn_ite, kWh_ev, isi_int_int, isi_bool_int, isi_int_bool, isi_bool_bool, isi_int_str, isi_int_none, isi_int_list, isi_int_tup, isi_bool_str, isi_bool_none, isi_bool_list, isi_bool_tup, isi_tup_tup, isi_tup_int, isi_tup_bool, isi_tup_str, isi_tup_none, isi_tup_list, isi_list_list, isi_list_tup, isi_list_int, isi_list_bool, isi_list_str, isi_list_none, isi_str_str, isi_str_int, isi_str_bool, isi_str_none, isi_str_list, isi_str_tup, decide_true, decide_false, not_true_eq_false, not_false_eq_true, ne_eq, decide_eq_true_eq, Bool.not_eq_true', decide_eq_false_iff_not, Bool.not_true, Bool.not_false, Bool.false_eq_true, if_true, if_false, reduceIte, e, c1, c2, hw]
  by_cases c3 : g % 5 = 1
  · refine ⟨g / 5 % 2001 - 1000, ?_, Bd.mono inferInstance (by decide)⟩
    simp +decide only [m_law_number, den_law_number, ev_seq, seq_nx, seq_rt, seq_ex, seq_bk, seq_ct, seq_ite, fl_ok, fl_ex, fl_ite, ev_set, kSet_ev, ev_ret, ev_retN, ev_nx, ev_bk, ev_ct, ev_raise, ev_if, kIf_ev, ev_drop, kNx_ev, ev_par, kPar_ev, kId_ev, ev_asg, kAsg_ev, ev_for, kFor_ev, ev_V, dVg_ok, ev_C, ev_1, ev_2, bind2_ok, bind2_ite1, bind2_ite2, bind_ite, ev_A, ev_nil, ev_cons, kCons_ev, ev_T, toB_ev, ev_and, ev_or, ev_not, kAnd_ev, kOr_ev, kNot_ev, ev_andV, ev_orV, ev_notV, kAndV_ev, kOrV_ev, kNotV_ev, ev_ife, kIfE_ev, ev_ch, kCh, tup_ev, lst_ev, call_ev, kw_ev, ev_kw, ev_fn, startE_0, startE_s, startE_c, fin_rt, fin_nx, fin_ex, fin_ite, ix_t0, ix_t1, ix_t2, ix_t3, ix_l0, ix_l1, ix_l2, len_l, len_t1, len_t2, len_t3, len_t4, beq_self_eq_true, ev_iL, ev_iT, asL_ev, asT_ev, ev_iA, ev_P, toI_ev, ev_P0, ev_sl, kSl_ev, put_1, gAdd_i, gSub_i, gMul_i, gDiv_p, gMod_p, gPow_l, gShl_l, gShr_l, gLt_i, gLe_i, gGt_i, gGe_i, gEq_i, gNe_i, gNeg_i, gAbs_i, gInt_i, gInt_b, gEq_s, gNe_s, gEq_b, gNe_b, gEq_2, gNe_2, gEq_3, gNe_3, gEq_22, gNe_22, DL.R.bind_ok, DL.R.bind_ex, ev_setL, kSetL_ev, ev_lDisp, kDisp_ev, ev_lList, lOf_l, lOf_t, ev_frz, frz_l, frz_d, frz_n, ev_lend, lend_l, lend_d, atom_i, atom_b, atom_s, ev_lendB, lendB_l, lendB_d, ev_app, app_l, kApp_ev, ev_put, put_l, ev_ixO, ixO_l, ixO_d, put_m, putAll_c, putAll_n, ev_lc, kLst_ev, ev_lcL, wipe_n, wipe_c, r1_2, r1_3, bits_ev, List.getElem?_cons_zero, List.getElem?_cons_succ, List.set_cons_zero, List.set_cons_succ, List.length_cons, List.length_nil, List.length_map, List.append_nil, List.cons_append, List.nil_append, ev_if, turn_nx, turn_ct, turn_bk, turn_rt, turn_ite, kWh_ev, isi_int_int, isi_bool_int, isi_int_bool, isi_bool_bool, isi_int_str, isi_int_none, isi_int_list, isi_int_tup, isi_bool_str, isi_bool_none, isi_bool_list, isi_bool_tup, isi_tup_tup, isi_tup_int, isi_tup_bool, isi_tup_str, isi_tup_none, isi_tup_list, isi_list_list, isi_list_tup, isi_list_int, isi_list_bool, isi_list_str, isi_list_none, isi_str_str, isi_str_int, isi_str_bool, isi_str_none, isi_str_list, isi_str_tup, decide_true, decide_false, not_true_eq_false, not_false_eq_true, ne_eq, decide_eq_true_eq, Bool.not_eq_true', decide_eq_false_iff_not, Bool.not_true, Bool.not_false, Bool.false_eq_true, if_true, if_false, reduceIte, e, c1, c2, c3]
  by_cases c4 : g % 5 = 2
  · have hl : [PyData.int 0, .int 1, .int (-1), .int 12, .int (-60), .int (most / 10)] = [0, 1, -1, 12, -60, most / 10].map PyData.int := rfl
    refine ⟨[0, 1, -1, 12, -60, most / 10].getD (g / 5 % 6).toNat 0, ?_, Bd.mono (getD_bd (n := 140) ?_) (by decide)⟩
    · have h0 : 0 ≤ g / 5 % 6 := by omega
      have h1 : g / 5 % 6 < (([0, 1, -1, 12, -60, most / 10] : List Int).length : Nat) := by show g / 5 % 6 < 6; omega
      simp +decide only [m_law_number, den_law_number, ev_seq, seq_nx, seq_rt, seq_ex, seq_bk, seq_ct, seq_ite, fl_ok, fl_ex, fl_ite, ev_set, kSet_ev, ev_ret, ev_retN, ev_nx, ev_bk, ev_ct, ev_raise, ev_if, kIf_ev, ev_drop, kNx_ev, ev_par, kPar_ev, kId_ev, ev_asg, kAsg_ev, ev_for, kFor_ev, ev_V, dVg_ok, ev_C, ev_1, ev_2, bind2_ok, bind2_ite1, bind2_ite2, bind_ite, ev_A, ev_nil, ev_cons, kCons_ev, ev_T, toB_ev, ev_and, ev_or, ev_not, kAnd_ev, kOr_ev, kNot_ev, ev_andV, ev_orV, ev_notV, kAndV_ev, kOrV_ev, kNotV_ev, ev_ife, kIfE_ev, ev_ch, kCh, tup_ev, lst_ev, call_ev, kw_ev, ev_kw, ev_fn, startE_0, startE_s, startE_c, fin_rt, fin_nx, fin_ex, fin_ite, ix_t0, ix_t1, ix_t2, ix_t3, ix_l0, ix_l1, ix_l2, len_l, len_t1, len_t2, len_t3, len_t4, beq_self_eq_true, ev_iL, ev_iT, asL_ev, asT_ev, ev_iA, ev_P, toI_ev, ev_P0, ev_sl, kSl_ev, put_1, gAdd_i, gSub_i, gMul_i, gDiv_p, gMod_p, gPow_l, gShl_l, gShr_l, gLt_i, gLe_i, gGt_i, gGe_i, gEq_i, gNe_i, gNeg_i, gAbs_i, gInt_i, gInt_b, gEq_s, gNe_s, gEq_b, gNe_b, gEq_2, gNe_2, gEq_3, gNe_3, gEq_22, gNe_22, DL.R.bind_ok, DL.R.bind_ex, ev_setL, kSetL_ev, ev_lDisp, kDisp_ev, ev_lList, lOf_l, lOf_t, ev_frz, frz_l, frz_d, frz_n, ev_lend, lend_l, lend_d, atom_i, atom_b, atom_s, ev_lendB, lendB_l, lendB_d, ev_app, app_l, kApp_ev, ev_put, put_l, ev_ixO, ixO_l, ixO_d, put_m, putAll_c, putAll_n, ev_lc, kLst_ev, ev_lcL, wipe_n, wipe_c, r1_2, r1_3, bits_ev, List.getElem?_cons_zero, List.getElem?_cons_succ, List.set_cons_zero, List.set_cons_succ, List.length_cons, List.length_nil, List.length_map, List.append_nil, List.cons_append, List.nil_append, ev_if, turn_nx, turn_ct, turn_bk, turn_rt, turn_ite, kWh_ev, isi_int_int, isi_bool_int, isi_int_bool, isi_bool_bool, isi_int_str, isi_int_none, isi_int_list, isi_int_tup, isi_bool_str, isi_bool_none, isi_bool_list, isi_bool_tup, isi_tup_tup, isi_tup_int, isi_tup_bool, isi_tup_str, isi_tup_none, isi_tup_list, isi_list_list, isi_list_tup, isi_list_int, isi_list_bool, isi_list_str, isi_list_none, isi_str_str, isi_str_int, isi_str_bool, isi_str_none, isi_str_list, isi_str_tup, decide_true, decide_false, not_true_eq_false, not_false_eq_true, ne_eq, decide_eq_true_eq, Bool.not_eq_true', decide_eq_false_iff_not, Bool.not_true, Bool.not_false, Bool.false_eq_true, if_true, if_false, reduceIte, e, c1, c2, c3, c4, hl, ix_ints h0 h1]
    · have := bm.h
      intro z hz
      simp only [List.mem_cons, List.not_mem_nil, or_false] at hz
      rcases hz with rfl | rfl | rfl | rfl | rfl | rfl
      · decide
      · decide
      · decide
      · decide
      · decide
      · exact (bd_ediv (i := most)).h
  · refine ⟨g / 5 % 25 - 12, ?_, Bd.mono inferInstance (by decide)⟩
    simp +decide only [m_law_number, den_law_number, ev_seq, seq_nx, seq_rt, seq_ex, seq_bk, seq_ct, seq_ite, fl_ok, fl_ex, fl_ite, ev_set, kSet_ev, ev_ret, ev_retN, ev_nx, ev_bk, ev_ct, ev_raise, ev_if, kIf_ev, ev_drop, kNx_ev, ev_par, kPar_ev, kId_ev, ev_asg, kAsg_ev, ev_for, kFor_ev, ev_V, dVg_ok, ev_C, ev_1, ev_2, bind2_ok, bind2_ite1, bind2_ite2, bind_ite, ev_A, ev_nil, ev_cons, kCons_ev, ev_T, toB_ev, ev_and, ev_or, ev_not, kAnd_ev, kOr_ev, kNot_ev, ev_andV, ev_orV, ev_notV, kAndV_ev, kOrV_ev, kNotV_ev, ev_ife, kIfE_ev, ev_ch, kCh, tup_ev, lst_ev, call_ev, kw_ev, ev_kw, ev_fn, startE_0, startE_s, startE_c, fin_rt, fin_nx, fin_ex, fin_ite, ix_t0, ix_t1, ix_t2, ix_t3, ix_l0, ix_l1, ix_l2, len_l, len_t1, len_t2, len_t3, len_t4, beq_self_eq_true, ev_iL, ev_iT, asL_ev, asT_ev, ev_iA, ev_P, toI_ev, ev_P0, ev_sl, kSl_ev, put_1, gAdd_i, gSub_i, gMul_i, gDiv_p, gMod_p, gPow_l, gShl_l, gShr_l, gLt_i, gLe_i, gGt_i, gGe_i, gEq_i, gNe_i, gNeg_i, gAbs_i, gInt_i, gInt_b, gEq_s, gNe_s, gEq_b, gNe_b, gEq_2, gNe_2, gEq_3, gNe_3, gEq_22, gNe_22, DL.R.bind_ok, DL.R.bind_ex, ev_setL, kSetL_ev, ev_lDisp, kDisp_ev, ev_lList, lOf_l, lOf_t, ev_frz, frz_l, frz_d, frz_n, ev_lend, lend_l, lend_d, atom_i, atom_b, atom_s, ev_lendB, lendB_l, lendB_d, ev_app, app_l, kApp_ev, ev_put, put_l, ev_ixO, ixO_l, ixO_d, put_m, putAll_c, putAll_n, ev_lc, kLst_ev, ev_lcL, wipe_n, wipe_c, r1_2, r1_3, bits_ev, List.getElem?_cons_zero, List.getElem?_cons_succ, List.set_cons_zero, List.set_cons_succ, List.length_cons, List.length_nil, List.length_map, List.append_nil, List.cons_append, List.nil_append, ev_if, turn_nx, turn_ct, turn_bk, turn_rt, turn_ite, kWh_ev, isi_int_int, isi_bool_int, isi_int_bool, isi_bool_bool, isi_int_str, isi_int_none, isi_int_list, isi_int_tup, isi_bool_str, isi_bool_none, isi_bool_list, isi_bool_tup, isi_tup_tup, isi_tup_int, isi_tup_bool, isi_tup_str, isi_tup_none, isi_tup_list, isi_list_list, isi_list_tup, isi_list_int, isi_list_bool, isi_list_str, isi_list_none, isi_str_str, isi_str_int, isi_str_bool, isi_str_none, isi_str_list, isi_str_tup, decide_true, decide_false, not_true_eq_false, not_false_eq_true, ne_eq, decide_eq_true_eq, Bool.not_eq_true', decide_eq_false_iff_not, Bool.not_true, Bool.not_false, Bool.false_eq_true, if_true, if_false, reduceIte, e, c1, c2, c3, c4]

theorem cell_bd {z : Int} (h : Builtin.Int.intBits z ≤ 1048576) : Bd z 1048576 := ⟨lt_of_ib h⟩
instance bd_lA {a b n : Int} {k : Nat} [Bd a k] : Bd (lA a b n) k := bd_fdiv
instance bd_lB {a b n : Int} {k : Nat} [Bd b k] : Bd (lB a b n) k := bd_fdiv
instance bd_lN {a b n : Int} {k : Nat} [Bd n k] : Bd (lN a b n) k := bd_fdiv
theorem stands_of (a b n : Int) (hn : n ≠ 0) {k1 k2 k3 : Nat} [Bd a k1] [Bd b k2] [Bd n k3] (h1 : k1 + k3 ≤ 134217728) (h2 : k2 + k3 ≤ 134217728) :
    m_law_stands [.tuple [.int (lA a b n), .int (lB a b n), .int (lN a b n)], .int a, .int b, .int n] = .ok (.bool true) :=
  law_stands_eq _ _ _ _ _ _ (low_of hn) (lcross hn) h1 h1 h2 h2
/-! lengths as data -/
@[reducible] def L3 (a b n : Int) : PD := .tuple [.int a, .int b, .int n]
@[reducible] def F2 (a b : Int) : PD := .tuple [.int a, .int b]
theorem law_lowest_eq (a b n : Int) (hn : n ≠ 0) {k : Nat} [h3 : Bd n k] (hk : k ≤ 9000) : m_law_lowest [.int a, .int b, .int n] = .ok (.tuple [.int (lA a b n), .int (lB a b n), .int (lN a b n)]) := by
  have hs : shr (g3 a b n) n ≠ 0 := shr_ne (g3_ne hn)
  have bs : Bd (shr (g3 a b n) n) k := bd_shr hn h3
  have e2 : Int.gcd (Int.gcd a b) n = g3 a b n := rfl
  by_cases h : n < 0
  · have e : 0 - ((g3 a b n : Nat) : Int) = shr (g3 a b n) n := by unfold shr; rw [if_pos h]
    simp +decide only [m_law_lowest, den_law_lowest, ev_seq, seq_nx, seq_rt, seq_ex, seq_bk, seq_ct, seq_ite, fl_ok, fl_ex, fl_ite, ev_set, kSet_ev, ev_ret, ev_retN, ev_nx, ev_bk, ev_ct, ev_raise, ev_if, kIf_ev, ev_drop, kNx_ev, ev_par, kPar_ev, kId_ev, ev_asg, kAsg_ev, ev_for, kFor_ev, ev_V, dVg_ok, ev_C, ev_1, ev_2, bind2_ok, bind2_ite1, bind2_ite2, bind_ite, ev_A, ev_nil, ev_cons, kCons_ev, ev_T, toB_ev, ev_and, ev_or, ev_not, kAnd_ev, kOr_ev, kNot_ev, ev_andV, ev_orV, ev_notV, kAndV_ev, kOrV_ev, kNotV_ev, ev_ife, kIfE_ev, ev_ch, kCh, tup_ev, lst_ev, call_ev, kw_ev, ev_kw, ev_fn, startE_0, startE_s, startE_c, fin_rt, fin_nx, fin_ex, fin_ite, ix_t0, ix_t1, ix_t2, ix_t3, ix_l0, ix_l1, ix_l2, len_l, len_t1, len_t2, len_t3, len_t4, beq_self_eq_true, ev_iL, ev_iT, asL_ev, asT_ev, ev_iA, ev_P, toI_ev, ev_P0, ev_sl, kSl_ev, put_1, gAdd_i, gSub_i, gMul_i, gDiv_p, gMod_p, gPow_l, gShl_l, gShr_l, gLt_i, gLe_i, gGt_i, gGe_i, gEq_i, gNe_i, gNeg_i, gAbs_i, gInt_i, gInt_b, gEq_s, gNe_s, gEq_b, gNe_b, gEq_2, gNe_2, gEq_3, gNe_3, gEq_22, gNe_22, DL.R.bind_ok, DL.R.bind_ex, ev_setL, kSetL_ev, ev_lDisp, kDisp_ev, ev_lList, lOf_l, lOf_t, ev_frz, frz_l, frz_d, frz_n, ev_lend, lend_l, lend_d, atom_i, atom_b, atom_s, ev_lendB, lendB_l, lendB_d, ev_app, app_l, kApp_ev, ev_put, put_l, ev_ixO, ixO_l, ixO_d, put_m, putAll_c, putAll_n, ev_lc, kLst_ev, ev_lcL, wipe_n, wipe_c, r1_2, r1_3, bits_ev, List.getElem?_cons_zero, List.getElem?_cons_succ, List.set_cons_zero, List.set_cons_succ, List.length_cons, List.length_nil, List.length_map, List.append_nil, List.cons_append, List.nil_append, ev_if, turn_nx, turn_ct, turn_bk, turn_rt, turn_ite, kWh_ev, isi_int_int, isi_bool_int, isi_int_bool, isi_bool_bool, isi_int_str, isi_int_none, isi_int_list, isi_int_tup, isi_bool_str, isi_bool_none, isi_bool_list, isi_bool_tup, isi_tup_tup, isi_tup_int, isi_tup_bool, isi_tup_str, isi_tup_none, isi_tup_list, isi_list_list, isi_list_tup, isi_list_int, isi_list_bool, isi_list_str, isi_list_none, isi_str_str, isi_str_int, isi_str_bool, isi_str_none, isi_str_list, isi_str_tup, decide_true, decide_false, not_true_eq_false, not_false_eq_true, ne_eq, decide_eq_true_eq, Bool.not_eq_true', decide_eq_false_iff_not, Bool.not_true, Bool.not_false, Bool.false_eq_true, if_true, if_false, reduceIte, gDiv_i, law_divisor_eq, e2, h, e, hs, hk, lA, lB, lN]
  · have e : ((g3 a b n : Nat) : Int) = shr (g3 a b n) n := by unfold shr; rw [if_neg h]
    simp +decide only [m_law_lowest, den_law_lowest, ev_seq, seq_nx, seq_rt, seq_ex, seq_bk, seq_ct, seq_ite, fl_ok, fl_ex, fl_ite, ev_set, kSet_ev, ev_ret, ev_retN, ev_nx, ev_bk, ev_ct, ev_raise, ev_if, kIf_ev, ev_drop, kNx_ev, ev_par, kPar_ev, kId_ev, ev_asg, kAsg_ev, ev_for, kFor_ev, ev_V, dVg_ok, ev_C, ev_1, ev_2, bind2_ok, bind2_ite1, bind2_ite2, bind_ite, ev_A, ev_nil, ev_cons, kCons_ev, ev_T, toB_ev, ev_and, ev_or, ev_not, kAnd_ev, kOr_ev, kNot_ev, ev_andV, ev_orV, ev_notV, kAndV_ev, kOrV_ev, kNotV_ev, ev_ife, kIfE_ev, ev_ch, kCh, tup_ev, lst_ev, call_ev, kw_ev, ev_kw, ev_fn, startE_0, startE_s, startE_c, fin_rt, fin_nx, fin_ex, fin_ite, ix_t0, ix_t1, ix_t2, ix_t3, ix_l0, ix_l1, ix_l2, len_l, len_t1, len_t2, len_t3, len_t4, beq_self_eq_true, ev_iL, ev_iT, asL_ev, asT_ev, ev_iA, ev_P, toI_ev, ev_P0, ev_sl, kSl_ev, put_1, gAdd_i, gSub_i, gMul_i, gDiv_p, gMod_p, gPow_l, gShl_l, gShr_l, gLt_i, gLe_i, gGt_i, gGe_i, gEq_i, gNe_i, gNeg_i, gAbs_i, gInt_i, gInt_b, gEq_s, gNe_s, gEq_b, gNe_b, gEq_2, gNe_2, gEq_3, gNe_3, gEq_22, gNe_22, DL.R.bind_ok, DL.R.bind_ex, ev_setL, kSetL_ev, ev_lDisp, kDisp_ev, ev_lList, lOf_l, lOf_t, ev_frz, frz_l, frz_d, frz_n, ev_lend, lend_l, lend_d, atom_i, atom_b, atom_s, ev_lendB, lendB_l, lendB_d, ev_app, app_l, kApp_ev, ev_put, put_l, ev_ixO, ixO_l, ixO_d, put_m, putAll_c, putAll_n, ev_lc, kLst_ev, ev_lcL, wipe_n, wipe_c, r1_2, r1_3, bits_ev, List.getElem?_cons_zero, List.getElem?_cons_succ, List.set_cons_zero, List.set_cons_succ, List.length_cons, List.length_nil, List.length_map, List.append_nil, List.cons_append, List.nil_append, ev_if, turn_nx, turn_ct, turn_bk, turn_rt, turn_ite, kWh_ev, isi_int_int, isi_bool_int, isi_int_bool, isi_bool_bool, isi_int_str, isi_int_none, isi_int_list, isi_int_tup, isi_bool_str, isi_bool_none, isi_bool_list, isi_bool_tup, isi_tup_tup, isi_tup_int, isi_tup_bool, isi_tup_str, isi_tup_none, isi_tup_list, isi_list_list, isi_list_tup, isi_list_int, isi_list_bool, isi_list_str, isi_list_none, isi_str_str, isi_str_int, isi_str_bool, isi_str_none, isi_str_list, isi_str_tup, decide_true, decide_false, not_true_eq_false, not_false_eq_true, ne_eq, decide_eq_true_eq, Bool.not_eq_true', decide_eq_false_iff_not, Bool.not_true, Bool.not_false, Bool.false_eq_true, if_true, if_false, reduceIte, gDiv_i, law_divisor_eq, e2, h, e, hs, hk, lA, lB, lN]
theorem law_same_eq (a b n : Int) : m_law_same [.tuple [.int a, .int b, .int n], .tuple [.int a, .int b, .int n]] = .ok (.bool true) := by
  simp +decide only [m_law_same, den_law_same, ev_seq, seq_nx, seq_rt, seq_ex, seq_bk, seq_ct, seq_ite, fl_ok, fl_ex, fl_ite, ev_set, kSet_ev, ev_ret, ev_retN, ev_nx, ev_bk, ev_ct, ev_raise, ev_if, kIf_ev, ev_drop, kNx_ev, ev_par, kPar_ev, kId_ev, ev_asg, kAsg_ev, ev_for, kFor_ev, ev_V, dVg_ok, ev_C, ev_1, ev_2, bind2_ok, bind2_ite1, bind2_ite2, bind_ite, ev_A, ev_nil, ev_cons, kCons_ev, ev_T, toB_ev, ev_and, ev_or, ev_not, kAnd_ev, kOr_ev, kNot_ev, ev_andV, ev_orV, ev_notV, kAndV_ev, kOrV_ev, kNotV_ev, ev_ife, kIfE_ev, ev_ch, kCh, tup_ev, lst_ev, call_ev, kw_ev, ev_kw, ev_fn, startE_0, startE_s, startE_c, fin_rt, fin_nx, fin_ex, fin_ite, ix_t0, ix_t1, ix_t2, ix_t3, ix_l0, ix_l1, ix_l2, len_l, len_t1, len_t2, len_t3, len_t4, beq_self_eq_true, ev_iL, ev_iT, asL_ev, asT_ev, ev_iA, ev_P, toI_ev, ev_P0, ev_sl, kSl_ev, put_1, gAdd_i, gSub_i, gMul_i, gDiv_p, gMod_p, gPow_l, gShl_l, gShr_l, gLt_i, gLe_i, gGt_i, gGe_i, gEq_i, gNe_i, gNeg_i, gAbs_i, gInt_i, gInt_b, gEq_s, gNe_s, gEq_b, gNe_b, gEq_2, gNe_2, gEq_3, gNe_3, gEq_22, gNe_22, DL.R.bind_ok, DL.R.bind_ex, ev_setL, kSetL_ev, ev_lDisp, kDisp_ev, ev_lList, lOf_l, lOf_t, ev_frz, frz_l, frz_d, frz_n, ev_lend, lend_l, lend_d, atom_i, atom_b, atom_s, ev_lendB, lendB_l, lendB_d, ev_app, app_l, kApp_ev, ev_put, put_l, ev_ixO, ixO_l, ixO_d, put_m, putAll_c, putAll_n, ev_lc, kLst_ev, ev_lcL, wipe_n, wipe_c, r1_2, r1_3, bits_ev, List.getElem?_cons_zero, List.getElem?_cons_succ, List.set_cons_zero, List.set_cons_succ, List.length_cons, List.length_nil, List.length_map, List.append_nil, List.cons_append, List.nil_append, ev_if, turn_nx, turn_ct, turn_bk, turn_rt, turn_ite, kWh_ev, isi_int_int, isi_bool_int, isi_int_bool, isi_bool_bool, isi_int_str, isi_int_none, isi_int_list, isi_int_tup, isi_bool_str, isi_bool_none, isi_bool_list, isi_bool_tup, isi_tup_tup, isi_tup_int, isi_tup_bool, isi_tup_str, isi_tup_none, isi_tup_list, isi_list_list, isi_list_tup, isi_list_int, isi_list_bool, isi_list_str, isi_list_none, isi_str_str, isi_str_int, isi_str_bool, isi_str_none, isi_str_list, isi_str_tup, decide_true, decide_false, not_true_eq_false, not_false_eq_true, ne_eq, decide_eq_true_eq, Bool.not_eq_true', decide_eq_false_iff_not, Bool.not_true, Bool.not_false, Bool.false_eq_true, if_true, if_false, reduceIte, law_whole_int, and_self]
theorem added_eq (a b n a' b' n' : Int) (hn : n * n' ≠ 0) {k1 k2 k3 k4 k5 k6 : Nat} [Bd a k1] [Bd b k2] [Bd n k3] [Bd a' k4] [Bd b' k5] [Bd n' k6] (h1 : k1 ≤ 4000000) (h2 : k2 ≤ 4000000) (h3 : k3 ≤ 4000) (h4 : k4 ≤ 4000000) (h5 : k5 ≤ 4000000) (h6 : k6 ≤ 4000) :
    m_added [.tuple [.int a, .int b, .int n], .tuple [.int a', .int b', .int n']] = .ok (.tuple [.int (lA (a * n' + a' * n) (b * n' + b' * n) (n * n')), .int (lB (a * n' + a' * n) (b * n' + b' * n) (n * n')), .int (lN (a * n' + a' * n) (b * n' + b' * n) (n * n'))]) := by
  have i1 : k3 + k6 ≤ 134217728 := by omega
  have i2 : k1 + k6 ≤ 134217728 := by omega
  have i3 : k4 + k3 ≤ 134217728 := by omega
  have i4 : k2 + k6 ≤ 134217728 := by omega
  have i5 : k5 + k3 ≤ 134217728 := by omega
  have i6 : k3 + k6 ≤ 9000 := by omega
  simp +decide only [m_added, den_added, ev_seq, seq_nx, seq_rt, seq_ex, seq_bk, seq_ct, seq_ite, fl_ok, fl_ex, fl_ite, ev_set, kSet_ev, ev_ret, ev_retN, ev_nx, ev_bk, ev_ct, ev_raise, ev_if, kIf_ev, ev_drop, kNx_ev, ev_par, kPar_ev, kId_ev, ev_asg, kAsg_ev, ev_for, kFor_ev, ev_V, dVg_ok, ev_C, ev_1, ev_2, bind2_ok, bind2_ite1, bind2_ite2, bind_ite, ev_A, ev_nil, ev_cons, kCons_ev, ev_T, toB_ev, ev_and, ev_or, ev_not, kAnd_ev, kOr_ev, kNot_ev, ev_andV, ev_orV, ev_notV, kAndV_ev, kOrV_ev, kNotV_ev, ev_ife, kIfE_ev, ev_ch, kCh, tup_ev, lst_ev, call_ev, kw_ev, ev_kw, ev_fn, startE_0, startE_s, startE_c, fin_rt, fin_nx, fin_ex, fin_ite, ix_t0, ix_t1, ix_t2, ix_t3, ix_l0, ix_l1, ix_l2, len_l, len_t1, len_t2, len_t3, len_t4, beq_self_eq_true, ev_iL, ev_iT, asL_ev, asT_ev, ev_iA, ev_P, toI_ev, ev_P0, ev_sl, kSl_ev, put_1, gAdd_i, gSub_i, gMul_i, gDiv_p, gMod_p, gPow_l, gShl_l, gShr_l, gLt_i, gLe_i, gGt_i, gGe_i, gEq_i, gNe_i, gNeg_i, gAbs_i, gInt_i, gInt_b, gEq_s, gNe_s, gEq_b, gNe_b, gEq_2, gNe_2, gEq_3, gNe_3, gEq_22, gNe_22, DL.R.bind_ok, DL.R.bind_ex, ev_setL, kSetL_ev, ev_lDisp, kDisp_ev, ev_lList, lOf_l, lOf_t, ev_frz, frz_l, frz_d, frz_n, ev_lend, lend_l, lend_d, atom_i, atom_b, atom_s, ev_lendB, lendB_l, lendB_d, ev_app, app_l, kApp_ev, ev_put, put_l, ev_ixO, ixO_l, ixO_d, put_m, putAll_c, putAll_n, ev_lc, kLst_ev, ev_lcL, wipe_n, wipe_c, r1_2, r1_3, bits_ev, List.getElem?_cons_zero, List.getElem?_cons_succ, List.set_cons_zero, List.set_cons_succ, List.length_cons, List.length_nil, List.length_map, List.append_nil, List.cons_append, List.nil_append, ev_if, turn_nx, turn_ct, turn_bk, turn_rt, turn_ite, kWh_ev, isi_int_int, isi_bool_int, isi_int_bool, isi_bool_bool, isi_int_str, isi_int_none, isi_int_list, isi_int_tup, isi_bool_str, isi_bool_none, isi_bool_list, isi_bool_tup, isi_tup_tup, isi_tup_int, isi_tup_bool, isi_tup_str, isi_tup_none, isi_tup_list, isi_list_list, isi_list_tup, isi_list_int, isi_list_bool, isi_list_str, isi_list_none, isi_str_str, isi_str_int, isi_str_bool, isi_str_none, isi_str_list, isi_str_tup, decide_true, decide_false, not_true_eq_false, not_false_eq_true, ne_eq, decide_eq_true_eq, Bool.not_eq_true', decide_eq_false_iff_not, Bool.not_true, Bool.not_false, Bool.false_eq_true, if_true, if_false, reduceIte, i1, i2, i3, i4, i5, i6, lowest_eq, hn]
theorem taken_eq (a b n a' b' n' : Int) (hn : n * n' ≠ 0) {k1 k2 k3 k4 k5 k6 : Nat} [Bd a k1] [Bd b k2] [Bd n k3] [Bd a' k4] [Bd b' k5] [Bd n' k6] (h1 : k1 ≤ 3900000) (h2 : k2 ≤ 3900000) (h3 : k3 ≤ 4000) (h4 : k4 ≤ 3900000) (h5 : k5 ≤ 3900000) (h6 : k6 ≤ 4000) :
    m_taken [.tuple [.int a, .int b, .int n], .tuple [.int a', .int b', .int n']] = .ok (.tuple [.int (lA (a * n' - a' * n) (b * n' - b' * n) (n * n')), .int (lB (a * n' - a' * n) (b * n' - b' * n) (n * n')), .int (lN (a * n' - a' * n) (b * n' - b' * n) (n * n'))]) := by
  have b1 : Bd (0 - a') k4 := by rw [Int.zero_sub]; infer_instance
  have b2 : Bd (0 - b') k5 := by rw [Int.zero_sub]; infer_instance
  have e := added_eq a b n (0 - a') (0 - b') n' hn (by omega) (by omega) h3 (by omega) (by omega) h6
  have e1 : a * n' + (0 - a') * n = a * n' - a' * n := by grind
  have e2 : b * n' + (0 - b') * n = b * n' - b' * n := by grind
  rw [e1, e2] at e
  simp +decide only [m_taken, den_taken, ev_seq, seq_nx, seq_rt, seq_ex, seq_bk, seq_ct, seq_ite, fl_ok, fl_ex, fl_ite, ev_set, kSet_ev, ev_ret, ev_retN, ev_nx, ev_bk, ev_ct, ev_raise, ev_if, kIf_ev, ev_drop, kNx_ev, ev_par, kPar_ev, kId_ev, ev_asg, kAsg_ev, ev_for, kFor_ev, ev_V, dVg_ok, ev_C, ev_1, ev_2, bind2_ok, bind2_ite1, bind2_ite2, bind_ite, ev_A, ev_nil, ev_cons, kCons_ev, ev_T, toB_ev, ev_and, ev_or, ev_not, kAnd_ev, kOr_ev, kNot_ev, ev_andV, ev_orV, ev_notV, kAndV_ev, kOrV_ev, kNotV_ev, ev_ife, kIfE_ev, ev_ch, kCh, tup_ev, lst_ev, call_ev, kw_ev, ev_kw, ev_fn, startE_0, startE_s, startE_c, fin_rt, fin_nx, fin_ex, fin_ite, ix_t0, ix_t1, ix_t2, ix_t3, ix_l0, ix_l1, ix_l2, len_l, len_t1, len_t2, len_t3, len_t4, beq_self_eq_true, ev_iL, ev_iT, asL_ev, asT_ev, ev_iA, ev_P, toI_ev, ev_P0, ev_sl, kSl_ev, put_1, gAdd_i, gSub_i, gMul_i, gDiv_p, gMod_p, gPow_l, gShl_l, gShr_l, gLt_i, gLe_i, gGt_i, gGe_i, gEq_i, gNe_i, gNeg_i, gAbs_i, gInt_i, gInt_b, gEq_s, gNe_s, gEq_b, gNe_b, gEq_2, gNe_2, gEq_3, gNe_3, gEq_22, gNe_22, DL.R.bind_ok, DL.R.bind_ex, ev_setL, kSetL_ev, ev_lDisp, kDisp_ev, ev_lList, lOf_l, lOf_t, ev_frz, frz_l, frz_d, frz_n, ev_lend, lend_l, lend_d, atom_i, atom_b, atom_s, ev_lendB, lendB_l, lendB_d, ev_app, app_l, kApp_ev, ev_put, put_l, ev_ixO, ixO_l, ixO_d, put_m, putAll_c, putAll_n, ev_lc, kLst_ev, ev_lcL, wipe_n, wipe_c, r1_2, r1_3, bits_ev, List.getElem?_cons_zero, List.getElem?_cons_succ, List.set_cons_zero, List.set_cons_succ, List.length_cons, List.length_nil, List.length_map, List.append_nil, List.cons_append, List.nil_append, ev_if, turn_nx, turn_ct, turn_bk, turn_rt, turn_ite, kWh_ev, isi_int_int, isi_bool_int, isi_int_bool, isi_bool_bool, isi_int_str, isi_int_none, isi_int_list, isi_int_tup, isi_bool_str, isi_bool_none, isi_bool_list, isi_bool_tup, isi_tup_tup, isi_tup_int, isi_tup_bool, isi_tup_str, isi_tup_none, isi_tup_list, isi_list_list, isi_list_tup, isi_list_int, isi_list_bool, isi_list_str, isi_list_none, isi_str_str, isi_str_int, isi_str_bool, isi_str_none, isi_str_list, isi_str_tup, decide_true, decide_false, not_true_eq_false, not_false_eq_true, ne_eq, decide_eq_true_eq, Bool.not_eq_true', decide_eq_false_iff_not, Bool.not_true, Bool.not_false, Bool.false_eq_true, if_true, if_false, reduceIte, e]
theorem lg1 : Nat.log2 1 = 0 := by decide
/-- a length drawn -/
theorem law_length_ok (c k most : Int) [Bd c 1048576] {m : Nat} [Bd k m] (hm : m ≤ 1000000) [bm : Bd most 140] (h1 : 10 ≤ most) : ∃ a b t : Int, m_law_length [.int c, .int k, .int most] = .ok (.tuple [.int a, .int b, .int t]) ∧ Low a b t ∧ Bd a 1400 ∧ Bd b 1400 ∧ Bd t 1401 := by
  have l10 : Nat.log2 10 = 3 := by decide
  have l20 : Nat.log2 20 = 4 := by decide
  have := lg1
  obtain ⟨a, ea, ba⟩ := law_number_ok c k most (by omega) (by omega)
  obtain ⟨b, eb, bb⟩ := law_number_ok c (k + 10) most (by omega) (by omega)
  obtain ⟨u, eu, bu⟩ := law_number_ok c (k + 20) (most / 10) (by omega) (by omega)
  have hn : (1 : Int) + (u.natAbs : Int) ≠ 0 := by omega
  have hbn : Bd ((1 : Int) + (u.natAbs : Int)) 1401 := Bd.mono inferInstance (by decide)
  refine ⟨_, _, _, ?_, low_of (a := a) (b := b) hn, inferInstance, inferInstance, inferInstance⟩
  simp +decide only [m_law_length, den_law_length, ev_seq, seq_nx, seq_rt, seq_ex, seq_bk, seq_ct, seq_ite, fl_ok, fl_ex, fl_ite, ev_set, kSet_ev, ev_ret, ev_retN, ev_nx, ev_bk, ev_ct, ev_raise, ev_if, kIf_ev, ev_drop, kNx_ev, ev_par, kPar_ev, kId_ev, ev_asg, kAsg_ev, ev_for, kFor_ev, ev_V, dVg_ok, ev_C, ev_1, ev_2, bind2_ok, bind2_ite1, bind2_ite2, bind_ite, ev_A, ev_nil, ev_cons, kCons_ev, ev_T, toB_ev, ev_and, ev_or, ev_not, kAnd_ev, kOr_ev, kNot_ev, ev_andV, ev_orV, ev_notV, kAndV_ev, kOrV_ev, kNotV_ev, ev_ife, kIfE_ev, ev_ch, kCh, tup_ev, lst_ev, call_ev, kw_ev, ev_kw, ev_fn, startE_0, startE_s, startE_c, fin_rt, fin_nx, fin_ex, fin_ite, ix_t0, ix_t1, ix_t2, ix_t3, ix_l0, ix_l1, ix_l2, len_l, len_t1, len_t2, len_t3, len_t4, beq_self_eq_true, ev_iL, ev_iT, asL_ev, asT_ev, ev_iA, ev_P, toI_ev, ev_P0, ev_sl, kSl_ev, put_1, gAdd_i, gSub_i, gMul_i, gDiv_p, gMod_p, gPow_l, gShl_l, gShr_l, gLt_i, gLe_i, gGt_i, gGe_i, gEq_i, gNe_i, gNeg_i, gAbs_i, gInt_i, gInt_b, gEq_s, gNe_s, gEq_b, gNe_b, gEq_2, gNe_2, gEq_3, gNe_3, gEq_22, gNe_22, DL.R.bind_ok, DL.R.bind_ex, ev_setL, kSetL_ev, ev_lDisp, kDisp_ev, ev_lList, lOf_l, lOf_t, ev_frz, frz_l, frz_d, frz_n, ev_lend, lend_l, lend_d, atom_i, atom_b, atom_s, ev_lendB, lendB_l, lendB_d, ev_app, app_l, kApp_ev, ev_put, put_l, ev_ixO, ixO_l, ixO_d, put_m, putAll_c, putAll_n, ev_lc, kLst_ev, ev_lcL, wipe_n, wipe_c, r1_2, r1_3, bits_ev, List.getElem?_cons_zero, List.getElem?_cons_succ, List.set_cons_zero, List.set_cons_succ, List.length_cons, List.length_nil, List.length_map, List.append_nil, List.cons_append, List.nil_append, ev_if, turn_nx, turn_ct, turn_bk, turn_rt, turn_ite, kWh_ev, isi_int_int, isi_bool_int, isi_int_bool, isi_bool_bool, isi_int_str, isi_int_none, isi_int_list, isi_int_tup, isi_bool_str, isi_bool_none, isi_bool_list, isi_bool_tup, isi_tup_tup, isi_tup_int, isi_tup_bool, isi_tup_str, isi_tup_none, isi_tup_list, isi_list_list, isi_list_tup, isi_list_int, isi_list_bool, isi_list_str, isi_list_none, isi_str_str, isi_str_int, isi_str_bool, isi_str_none, isi_str_list, isi_str_tup, decide_true, decide_false, not_true_eq_false, not_false_eq_true, ne_eq, decide_eq_true_eq, Bool.not_eq_true', decide_eq_false_iff_not, Bool.not_true, Bool.not_false, Bool.false_eq_true, if_true, if_false, reduceIte, ea, eb, eu, law_lowest_eq, hn]
theorem law_sum_eq (a b n a' b' n' s : Int) (hn : n * n' ≠ 0) {k1 k2 k3 k4 k5 k6 k7 : Nat} [Bd a k1] [Bd b k2] [Bd n k3] [Bd a' k4] [Bd b' k5] [Bd n' k6] [Bd s k7] (h1 : k1 ≤ 4000000) (h2 : k2 ≤ 4000000) (h3 : k3 ≤ 4000) (h4 : k4 ≤ 4000000) (h5 : k5 ≤ 4000000) (h6 : k6 ≤ 4000) (h7 : k7 ≤ 100) :
    m_law_sum [.tuple [.int a, .int b, .int n], .tuple [.int a', .int b', .int n'], .int s] = .ok (.tuple [.int (lA (a * n' + s * a' * n) (b * n' + s * b' * n) (n * n')), .int (lB (a * n' + s * a' * n) (b * n' + s * b' * n) (n * n')), .int (lN (a * n' + s * a' * n) (b * n' + s * b' * n) (n * n'))]) := by
  have i1 : k3 + k6 ≤ 134217728 := by omega
  have i2 : k1 + k6 ≤ 134217728 := by omega
  have i3 : k7 + k4 ≤ 134217728 := by omega
  have i3' : k7 + k4 + k3 ≤ 134217728 := by omega
  have i4 : k2 + k6 ≤ 134217728 := by omega
  have i5 : k7 + k5 ≤ 134217728 := by omega
  have i5' : k7 + k5 + k3 ≤ 134217728 := by omega
  have i6 : k3 + k6 ≤ 9000 := by omega
  simp +decide only [m_law_sum, den_law_sum, ev_seq, seq_nx, seq_rt, seq_ex, seq_bk, seq_ct, seq_ite, fl_ok, fl_ex, fl_ite, ev_set, kSet_ev, ev_ret, ev_retN, ev_nx, ev_bk, ev_ct, ev_raise, ev_if, kIf_ev, ev_drop, kNx_ev, ev_par, kPar_ev, kId_ev, ev_asg, kAsg_ev, ev_for, kFor_ev, ev_V, dVg_ok, ev_C, ev_1, ev_2, bind2_ok, bind2_ite1, bind2_ite2, bind_ite, ev_A, ev_nil, ev_cons, kCons_ev, ev_T, toB_ev, ev_and, ev_or, ev_not, kAnd_ev, kOr_ev, kNot_ev, ev_andV, ev_orV, ev_notV, kAndV_ev, kOrV_ev, kNotV_ev, ev_ife, kIfE_ev, ev_ch, kCh, tup_ev, lst_ev, call_ev, kw_ev, ev_kw, ev_fn, startE_0, startE_s, startE_c, fin_rt, fin_nx, fin_ex, fin_ite, ix_t0, ix_t1, ix_t2, ix_t3, ix_l0, ix_l1, ix_l2, len_l, len_t1, len_t2, len_t3, len_t4, beq_self_eq_true, ev_iL, ev_iT, asL_ev, asT_ev, ev_iA, ev_P, toI_ev, ev_P0, ev_sl, kSl_ev, put_1, gAdd_i, gSub_i, gMul_i, gDiv_p, gMod_p, gPow_l, gShl_l, gShr_l, gLt_i, gLe_i, gGt_i, gGe_i, gEq_i, gNe_i, gNeg_i, gAbs_i, gInt_i, gInt_b, gEq_s, gNe_s, gEq_b, gNe_b, gEq_2, gNe_2, gEq_3, gNe_3, gEq_22, gNe_22, DL.R.bind_ok, DL.R.bind_ex, ev_setL, kSetL_ev, ev_lDisp, kDisp_ev, ev_lList, lOf_l, lOf_t, ev_frz, frz_l, frz_d, frz_n, ev_lend, lend_l, lend_d, atom_i, atom_b, atom_s, ev_lendB, lendB_l, lendB_d, ev_app, app_l, kApp_ev, ev_put, put_l, ev_ixO, ixO_l, ixO_d, put_m, putAll_c, putAll_n, ev_lc, kLst_ev, ev_lcL, wipe_n, wipe_c, r1_2, r1_3, bits_ev, List.getElem?_cons_zero, List.getElem?_cons_succ, List.set_cons_zero, List.set_cons_succ, List.length_cons, List.length_nil, List.length_map, List.append_nil, List.cons_append, List.nil_append, ev_if, turn_nx, turn_ct, turn_bk, turn_rt, turn_ite, kWh_ev, isi_int_int, isi_bool_int, isi_int_bool, isi_bool_bool, isi_int_str, isi_int_none, isi_int_list, isi_int_tup, isi_bool_str, isi_bool_none, isi_bool_list, isi_bool_tup, isi_tup_tup, isi_tup_int, isi_tup_bool, isi_tup_str, isi_tup_none, isi_tup_list, isi_list_list, isi_list_tup, isi_list_int, isi_list_bool, isi_list_str, isi_list_none, isi_str_str, isi_str_int, isi_str_bool, isi_str_none, isi_str_list, isi_str_tup, decide_true, decide_false, not_true_eq_false, not_false_eq_true, ne_eq, decide_eq_true_eq, Bool.not_eq_true', decide_eq_false_iff_not, Bool.not_true, Bool.not_false, Bool.false_eq_true, if_true, if_false, reduceIte, i1, i2, i3, i3', i4, i5, i5', i6, law_lowest_eq, hn]
/-- the cells that a law's loop goes over -/
theorem cells_of {ns : List Int} {zs : List Int} {k : Nat} (hb : ∀ z ∈ ns, PySem.Builtin.Int.intBits z ≤ 1048576) {b : Nat} (hz : ∀ z ∈ zs, z.natAbs < 2 ^ 200) {d : PD} (hd : d ∈ zs.map PyData.int ++ (ns.map PyData.int).take k) : ∃ z : Int, d = .int z ∧ Bd z 1048576 := by
  rw [List.mem_append] at hd
  rcases hd with hd | hd
  · obtain ⟨z, h, rfl⟩ := List.mem_map.mp hd
    exact ⟨z, rfl, Bd.mono ⟨hz z h⟩ (by decide)⟩
  · obtain ⟨z, h, rfl⟩ := List.mem_map.mp (List.mem_of_mem_take hd)
    exact ⟨z, rfl, cell_bd (hb z h)⟩
/-! fractions -/
instance bd_fT {a b : Int} {k : Nat} [Bd a k] : Bd (fT a b) k := bd_lA
instance bd_fB {a b : Int} {k : Nat} [Bd b k] : Bd (fB a b) k := bd_lN
theorem bd_shrF {a b : Int} (hb : b ≠ 0) {k : Nat} (h : Bd b k) : Bd (shr (Int.gcd a b) b) k := by
  have := bd_shr (a := a) (b := 0) hb h
  rw [g3_zero] at this
  exact this
theorem gcd_ne {a b : Int} (hb : b ≠ 0) : Int.gcd a b ≠ 0 := fun e => hb (Int.gcd_eq_zero_iff.mp e).2
theorem fraction_eq (t b : Int) (hb : b ≠ 0) {k : Nat} [h3 : Bd b k] (hk : k ≤ 9000) : m_fraction [.int t, .int b] = .ok (.tuple [.int (fT t b), .int (fB t b)]) := by
  have hs : shr (Int.gcd t b) b ≠ 0 := shr_ne (gcd_ne hb)
  have bs : Bd (shr (Int.gcd t b) b) k := bd_shrF hb h3
  by_cases h : b < 0
  · have e : 0 - ((Int.gcd t b : Nat) : Int) = shr (Int.gcd t b) b := by unfold shr; rw [if_pos h]
    simp +decide only [m_fraction, den_fraction, ev_seq, seq_nx, seq_rt, seq_ex, seq_bk, seq_ct, seq_ite, fl_ok, fl_ex, fl_ite, ev_set, kSet_ev, ev_ret, ev_retN, ev_nx, ev_bk, ev_ct, ev_raise, ev_if, kIf_ev, ev_drop, kNx_ev, ev_par, kPar_ev, kId_ev, ev_asg, kAsg_ev, ev_for, kFor_ev, ev_V, dVg_ok, ev_C, ev_1, ev_2, bind2_ok, bind2_ite1, bind2_ite2, bind_ite, ev_A, ev_nil, ev_cons, kCons_ev, ev_T, toB_ev, ev_and, ev_or, ev_not, kAnd_ev, kOr_ev, kNot_ev, ev_andV, ev_orV, ev_notV, kAndV_ev, kOrV_ev, kNotV_ev, ev_ife, kIfE_ev, ev_ch, kCh, tup_ev, lst_ev, call_ev, kw_ev, ev_kw, ev_fn, startE_0, startE_s, startE_c, fin_rt, fin_nx, fin_ex, fin_ite, ix_t0, ix_t1, ix_t2, ix_t3, ix_l0, ix_l1, ix_l2, len_l, len_t1, len_t2, len_t3, len_t4, beq_self_eq_true, ev_iL, ev_iT, asL_ev, asT_ev, ev_iA, ev_P, toI_ev, ev_P0, ev_sl, kSl_ev, put_1, gAdd_i, gSub_i, gMul_i, gDiv_p, gMod_p, gPow_l, gShl_l, gShr_l, gLt_i, gLe_i, gGt_i, gGe_i, gEq_i, gNe_i, gNeg_i, gAbs_i, gInt_i, gInt_b, gEq_s, gNe_s, gEq_b, gNe_b, gEq_2, gNe_2, gEq_3, gNe_3, gEq_22, gNe_22, DL.R.bind_ok, DL.R.bind_ex, ev_setL, kSetL_ev, ev_lDisp, kDisp_ev, ev_lList, lOf_l, lOf_t, ev_frz, frz_l, frz_d, frz_n, ev_lend, lend_l, lend_d, atom_i, atom_b, atom_s, ev_lendB, lendB_l, lendB_d, ev_app, app_l, kApp_ev, ev_put, put_l, ev_ixO, ixO_l, ixO_d, put_m, putAll_c, putAll_n, ev_lc, kLst_ev, ev_lcL, wipe_n, wipe_c, r1_2, r1_3, bits_ev, List.getElem?_cons_zero, List.getElem?_cons_succ, List.set_cons_zero, List.set_cons_succ, List.length_cons, List.length_nil, List.length_map, List.append_nil, List.cons_append, List.nil_append, ev_if, turn_nx, turn_ct, turn_bk, turn_rt, turn_ite, kWh_ev, isi_int_int, isi_bool_int, isi_int_bool, isi_bool_bool, isi_int_str, isi_int_none, isi_int_list, isi_int_tup, isi_bool_str, isi_bool_none, isi_bool_list, isi_bool_tup, isi_tup_tup, isi_tup_int, isi_tup_bool, isi_tup_str, isi_tup_none, isi_tup_list, isi_list_list, isi_list_tup, isi_list_int, isi_list_bool, isi_list_str, isi_list_none, isi_str_str, isi_str_int, isi_str_bool, isi_str_none, isi_str_list, isi_str_tup, decide_true, decide_false, not_true_eq_false, not_false_eq_true, ne_eq, decide_eq_true_eq, Bool.not_eq_true', decide_eq_false_iff_not, Bool.not_true, Bool.not_false, Bool.false_eq_true, if_true, if_false, reduceIte, gDiv_i, divisor_eq, h, e, hs, hk, fT_eq, fB_eq]
  · have e : ((Int.gcd t b : Nat) : Int) = shr (Int.gcd t b) b := by unfold shr; rw [if_neg h]
    simp +decide only [m_fraction, den_fraction, ev_seq, seq_nx, seq_rt, seq_ex, seq_bk, seq_ct, seq_ite, fl_ok, fl_ex, fl_ite, ev_set, kSet_ev, ev_ret, ev_retN, ev_nx, ev_bk, ev_ct, ev_raise, ev_if, kIf_ev, ev_drop, kNx_ev, ev_par, kPar_ev, kId_ev, ev_asg, kAsg_ev, ev_for, kFor_ev, ev_V, dVg_ok, ev_C, ev_1, ev_2, bind2_ok, bind2_ite1, bind2_ite2, bind_ite, ev_A, ev_nil, ev_cons, kCons_ev, ev_T, toB_ev, ev_and, ev_or, ev_not, kAnd_ev, kOr_ev, kNot_ev, ev_andV, ev_orV, ev_notV, kAndV_ev, kOrV_ev, kNotV_ev, ev_ife, kIfE_ev, ev_ch, kCh, tup_ev, lst_ev, call_ev, kw_ev, ev_kw, ev_fn, startE_0, startE_s, startE_c, fin_rt, fin_nx, fin_ex, fin_ite, ix_t0, ix_t1, ix_t2, ix_t3, ix_l0, ix_l1, ix_l2, len_l, len_t1, len_t2, len_t3, len_t4, beq_self_eq_true, ev_iL, ev_iT, asL_ev, asT_ev, ev_iA, ev_P, toI_ev, ev_P0, ev_sl, kSl_ev, put_1, gAdd_i, gSub_i, gMul_i, gDiv_p, gMod_p, gPow_l, gShl_l, gShr_l, gLt_i, gLe_i, gGt_i, gGe_i, gEq_i, gNe_i, gNeg_i, gAbs_i, gInt_i, gInt_b, gEq_s, gNe_s, gEq_b, gNe_b, gEq_2, gNe_2, gEq_3, gNe_3, gEq_22, gNe_22, DL.R.bind_ok, DL.R.bind_ex, ev_setL, kSetL_ev, ev_lDisp, kDisp_ev, ev_lList, lOf_l, lOf_t, ev_frz, frz_l, frz_d, frz_n, ev_lend, lend_l, lend_d, atom_i, atom_b, atom_s, ev_lendB, lendB_l, lendB_d, ev_app, app_l, kApp_ev, ev_put, put_l, ev_ixO, ixO_l, ixO_d, put_m, putAll_c, putAll_n, ev_lc, kLst_ev, ev_lcL, wipe_n, wipe_c, r1_2, r1_3, bits_ev, List.getElem?_cons_zero, List.getElem?_cons_succ, List.set_cons_zero, List.set_cons_succ, List.length_cons, List.length_nil, List.length_map, List.append_nil, List.cons_append, List.nil_append, ev_if, turn_nx, turn_ct, turn_bk, turn_rt, turn_ite, kWh_ev, isi_int_int, isi_bool_int, isi_int_bool, isi_bool_bool, isi_int_str, isi_int_none, isi_int_list, isi_int_tup, isi_bool_str, isi_bool_none, isi_bool_list, isi_bool_tup, isi_tup_tup, isi_tup_int, isi_tup_bool, isi_tup_str, isi_tup_none, isi_tup_list, isi_list_list, isi_list_tup, isi_list_int, isi_list_bool, isi_list_str, isi_list_none, isi_str_str, isi_str_int, isi_str_bool, isi_str_none, isi_str_list, isi_str_tup, decide_true, decide_false, not_true_eq_false, not_false_eq_true, ne_eq, decide_eq_true_eq, Bool.not_eq_true', decide_eq_false_iff_not, Bool.not_true, Bool.not_false, Bool.false_eq_true, if_true, if_false, reduceIte, gDiv_i, divisor_eq, h, e, hs, hk, fT_eq, fB_eq]
theorem parts_eq (a b n : Int) (hn : n ≠ 0) {k : Nat} [h3 : Bd n k] (hk : k ≤ 9000) : m_parts [.tuple [.int a, .int b, .int n]] = .ok (.tuple [.tuple [.int (fT a n), .int (fB a n)], .tuple [.int (fT b n), .int (fB b n)]]) := by
  simp +decide only [m_parts, den_parts, ev_seq, seq_nx, seq_rt, seq_ex, seq_bk, seq_ct, seq_ite, fl_ok, fl_ex, fl_ite, ev_set, kSet_ev, ev_ret, ev_retN, ev_nx, ev_bk, ev_ct, ev_raise, ev_if, kIf_ev, ev_drop, kNx_ev, ev_par, kPar_ev, kId_ev, ev_asg, kAsg_ev, ev_for, kFor_ev, ev_V, dVg_ok, ev_C, ev_1, ev_2, bind2_ok, bind2_ite1, bind2_ite2, bind_ite, ev_A, ev_nil, ev_cons, kCons_ev, ev_T, toB_ev, ev_and, ev_or, ev_not, kAnd_ev, kOr_ev, kNot_ev, ev_andV, ev_orV, ev_notV, kAndV_ev, kOrV_ev, kNotV_ev, ev_ife, kIfE_ev, ev_ch, kCh, tup_ev, lst_ev, call_ev, kw_ev, ev_kw, ev_fn, startE_0, startE_s, startE_c, fin_rt, fin_nx, fin_ex, fin_ite, ix_t0, ix_t1, ix_t2, ix_t3, ix_l0, ix_l1, ix_l2, len_l, len_t1, len_t2, len_t3, len_t4, beq_self_eq_true, ev_iL, ev_iT, asL_ev, asT_ev, ev_iA, ev_P, toI_ev, ev_P0, ev_sl, kSl_ev, put_1, gAdd_i, gSub_i, gMul_i, gDiv_p, gMod_p, gPow_l, gShl_l, gShr_l, gLt_i, gLe_i, gGt_i, gGe_i, gEq_i, gNe_i, gNeg_i, gAbs_i, gInt_i, gInt_b, gEq_s, gNe_s, gEq_b, gNe_b, gEq_2, gNe_2, gEq_3, gNe_3, gEq_22, gNe_22, DL.R.bind_ok, DL.R.bind_ex, ev_setL, kSetL_ev, ev_lDisp, kDisp_ev, ev_lList, lOf_l, lOf_t, ev_frz, frz_l, frz_d, frz_n, ev_lend, lend_l, lend_d, atom_i, atom_b, atom_s, ev_lendB, lendB_l, lendB_d, ev_app, app_l, kApp_ev, ev_put, put_l, ev_ixO, ixO_l, ixO_d, put_m, putAll_c, putAll_n, ev_lc, kLst_ev, ev_lcL, wipe_n, wipe_c, r1_2, r1_3, bits_ev, List.getElem?_cons_zero, List.getElem?_cons_succ, List.set_cons_zero, List.set_cons_succ, List.length_cons, List.length_nil, List.length_map, List.append_nil, List.cons_append, List.nil_append, ev_if, turn_nx, turn_ct, turn_bk, turn_rt, turn_ite, kWh_ev, isi_int_int, isi_bool_int, isi_int_bool, isi_bool_bool, isi_int_str, isi_int_none, isi_int_list, isi_int_tup, isi_bool_str, isi_bool_none, isi_bool_list, isi_bool_tup, isi_tup_tup, isi_tup_int, isi_tup_bool, isi_tup_str, isi_tup_none, isi_tup_list, isi_list_list, isi_list_tup, isi_list_int, isi_list_bool, isi_list_str, isi_list_none, isi_str_str, isi_str_int, isi_str_bool, isi_str_none, isi_str_list, isi_str_tup, decide_true, decide_false, not_true_eq_false, not_false_eq_true, ne_eq, decide_eq_true_eq, Bool.not_eq_true', decide_eq_false_iff_not, Bool.not_true, Bool.not_false, Bool.false_eq_true, if_true, if_false, reduceIte, fraction_eq, hn, hk]
theorem by_parts_eq (p q r s : Int) (hn : q * s ≠ 0) {k1 k2 k3 k4 : Nat} [Bd p k1] [Bd q k2] [Bd r k3] [Bd s k4] (h1 : k1 ≤ 4000) (h2 : k2 ≤ 4000) (h3 : k3 ≤ 4000) (h4 : k4 ≤ 4000) :
    m_by_parts [.tuple [.int p, .int q], .tuple [.int r, .int s]] = .ok (.tuple [.int (lA (p * s) (r * q) (q * s)), .int (lB (p * s) (r * q) (q * s)), .int (lN (p * s) (r * q) (q * s))]) := by
  have i1 : k2 + k4 ≤ 134217728 := by omega
  have i2 : k1 + k4 ≤ 134217728 := by omega
  have i3 : k3 + k2 ≤ 134217728 := by omega
  have i6 : k2 + k4 ≤ 9000 := by omega
  simp +decide only [m_by_parts, den_by_parts, ev_seq, seq_nx, seq_rt, seq_ex, seq_bk, seq_ct, seq_ite, fl_ok, fl_ex, fl_ite, ev_set, kSet_ev, ev_ret, ev_retN, ev_nx, ev_bk, ev_ct, ev_raise, ev_if, kIf_ev, ev_drop, kNx_ev, ev_par, kPar_ev, kId_ev, ev_asg, kAsg_ev, ev_for, kFor_ev, ev_V, dVg_ok, ev_C, ev_1, ev_2, bind2_ok, bind2_ite1, bind2_ite2, bind_ite, ev_A, ev_nil, ev_cons, kCons_ev, ev_T, toB_ev, ev_and, ev_or, ev_not, kAnd_ev, kOr_ev, kNot_ev, ev_andV, ev_orV, ev_notV, kAndV_ev, kOrV_ev, kNotV_ev, ev_ife, kIfE_ev, ev_ch, kCh, tup_ev, lst_ev, call_ev, kw_ev, ev_kw, ev_fn, startE_0, startE_s, startE_c, fin_rt, fin_nx, fin_ex, fin_ite, ix_t0, ix_t1, ix_t2, ix_t3, ix_l0, ix_l1, ix_l2, len_l, len_t1, len_t2, len_t3, len_t4, beq_self_eq_true, ev_iL, ev_iT, asL_ev, asT_ev, ev_iA, ev_P, toI_ev, ev_P0, ev_sl, kSl_ev, put_1, gAdd_i, gSub_i, gMul_i, gDiv_p, gMod_p, gPow_l, gShl_l, gShr_l, gLt_i, gLe_i, gGt_i, gGe_i, gEq_i, gNe_i, gNeg_i, gAbs_i, gInt_i, gInt_b, gEq_s, gNe_s, gEq_b, gNe_b, gEq_2, gNe_2, gEq_3, gNe_3, gEq_22, gNe_22, DL.R.bind_ok, DL.R.bind_ex, ev_setL, kSetL_ev, ev_lDisp, kDisp_ev, ev_lList, lOf_l, lOf_t, ev_frz, frz_l, frz_d, frz_n, ev_lend, lend_l, lend_d, atom_i, atom_b, atom_s, ev_lendB, lendB_l, lendB_d, ev_app, app_l, kApp_ev, ev_put, put_l, ev_ixO, ixO_l, ixO_d, put_m, putAll_c, putAll_n, ev_lc, kLst_ev, ev_lcL, wipe_n, wipe_c, r1_2, r1_3, bits_ev, List.getElem?_cons_zero, List.getElem?_cons_succ, List.set_cons_zero, List.set_cons_succ, List.length_cons, List.length_nil, List.length_map, List.append_nil, List.cons_append, List.nil_append, ev_if, turn_nx, turn_ct, turn_bk, turn_rt, turn_ite, kWh_ev, isi_int_int, isi_bool_int, isi_int_bool, isi_bool_bool, isi_int_str, isi_int_none, isi_int_list, isi_int_tup, isi_bool_str, isi_bool_none, isi_bool_list, isi_bool_tup, isi_tup_tup, isi_tup_int, isi_tup_bool, isi_tup_str, isi_tup_none, isi_tup_list, isi_list_list, isi_list_tup, isi_list_int, isi_list_bool, isi_list_str, isi_list_none, isi_str_str, isi_str_int, isi_str_bool, isi_str_none, isi_str_list, isi_str_tup, decide_true, decide_false, not_true_eq_false, not_false_eq_true, ne_eq, decide_eq_true_eq, Bool.not_eq_true', decide_eq_false_iff_not, Bool.not_true, Bool.not_false, Bool.false_eq_true, if_true, if_false, reduceIte, lowest_eq, hn, i1, i2, i3, i6]
theorem law_is_fraction_eq (A B t u : Int) (h : LowF A B) (hc : A * u = t * B) {k1 k2 k3 k4 : Nat} [Bd A k1] [Bd B k2] [Bd t k3] [Bd u k4] (h1 : k1 ≤ 4000000) (h2 : k2 ≤ 4000000) (h3 : k3 ≤ 4000000) (h4 : k4 ≤ 4000000) :
    m_law_is_fraction [.tuple [.int A, .int B], .int t, .int u] = .ok (.bool true) := by
  have g : ((Int.gcd A B : Nat) : Int) = 1 := by rw [h.2]; rfl
  have p : ¬ B < 1 := by have := h.1; omega
  have i1 : k1 + k4 ≤ 134217728 := by omega
  have i2 : k3 + k2 ≤ 134217728 := by omega
  simp +decide only [m_law_is_fraction, den_law_is_fraction, ev_seq, seq_nx, seq_rt, seq_ex, seq_bk, seq_ct, seq_ite, fl_ok, fl_ex, fl_ite, ev_set, kSet_ev, ev_ret, ev_retN, ev_nx, ev_bk, ev_ct, ev_raise, ev_if, kIf_ev, ev_drop, kNx_ev, ev_par, kPar_ev, kId_ev, ev_asg, kAsg_ev, ev_for, kFor_ev, ev_V, dVg_ok, ev_C, ev_1, ev_2, bind2_ok, bind2_ite1, bind2_ite2, bind_ite, ev_A, ev_nil, ev_cons, kCons_ev, ev_T, toB_ev, ev_and, ev_or, ev_not, kAnd_ev, kOr_ev, kNot_ev, ev_andV, ev_orV, ev_notV, kAndV_ev, kOrV_ev, kNotV_ev, ev_ife, kIfE_ev, ev_ch, kCh, tup_ev, lst_ev, call_ev, kw_ev, ev_kw, ev_fn, startE_0, startE_s, startE_c, fin_rt, fin_nx, fin_ex, fin_ite, ix_t0, ix_t1, ix_t2, ix_t3, ix_l0, ix_l1, ix_l2, len_l, len_t1, len_t2, len_t3, len_t4, beq_self_eq_true, ev_iL, ev_iT, asL_ev, asT_ev, ev_iA, ev_P, toI_ev, ev_P0, ev_sl, kSl_ev, put_1, gAdd_i, gSub_i, gMul_i, gDiv_p, gMod_p, gPow_l, gShl_l, gShr_l, gLt_i, gLe_i, gGt_i, gGe_i, gEq_i, gNe_i, gNeg_i, gAbs_i, gInt_i, gInt_b, gEq_s, gNe_s, gEq_b, gNe_b, gEq_2, gNe_2, gEq_3, gNe_3, gEq_22, gNe_22, DL.R.bind_ok, DL.R.bind_ex, ev_setL, kSetL_ev, ev_lDisp, kDisp_ev, ev_lList, lOf_l, lOf_t, ev_frz, frz_l, frz_d, frz_n, ev_lend, lend_l, lend_d, atom_i, atom_b, atom_s, ev_lendB, lendB_l, lendB_d, ev_app, app_l, kApp_ev, ev_put, put_l, ev_ixO, ixO_l, ixO_d, put_m, putAll_c, putAll_n, ev_lc, kLst_ev, ev_lcL, wipe_n, wipe_c, r1_2, r1_3, bits_ev, List.getElem?_cons_zero, List.getElem?_cons_succ, List.set_cons_zero, List.set_cons_succ, List.length_cons, List.length_nil, List.length_map, List.append_nil, List.cons_append, List.nil_append, ev_if, turn_nx, turn_ct, turn_bk, turn_rt, turn_ite, kWh_ev, isi_int_int, isi_bool_int, isi_int_bool, isi_bool_bool, isi_int_str, isi_int_none, isi_int_list, isi_int_tup, isi_bool_str, isi_bool_none, isi_bool_list, isi_bool_tup, isi_tup_tup, isi_tup_int, isi_tup_bool, isi_tup_str, isi_tup_none, isi_tup_list, isi_list_list, isi_list_tup, isi_list_int, isi_list_bool, isi_list_str, isi_list_none, isi_str_str, isi_str_int, isi_str_bool, isi_str_none, isi_str_list, isi_str_tup, decide_true, decide_false, not_true_eq_false, not_false_eq_true, ne_eq, decide_eq_true_eq, Bool.not_eq_true', decide_eq_false_iff_not, Bool.not_true, Bool.not_false, Bool.false_eq_true, if_true, if_false, reduceIte, law_whole_int, law_divisor_eq, g, p, i1, i2, hc]
end DL

set_option Elab.async false
set_option linter.all false
set_option maxRecDepth 100000
set_option maxHeartbeats 1000000
set_option autoImplicit false
/-! what the defs of fractions are worth -/
namespace DL
open PySem L2 MB
theorem law_fraction_loop : ∀ (k : Nat) (t b x y : Int), 0 ≤ x → 0 ≤ y → y.natAbs ≤ k → sWhile lt1_law_fraction lb1_law_fraction [some (.d (.int t)), some (.d (.int b)), some (.d (.int x)), some (.d (.int y))] = .nx [some (.d (.int t)), some (.d (.int b)), some (.d (.int (Int.gcd x y : Int))), some (.d (.int 0))] := by
  intro k
  induction k with
  | zero =>
    intro t b x y hx hy h
    have hb : y = 0 := by omega
    subst hb
    rw [ev_while]
    have : (x.natAbs : Int) = x := by omega
    simp +decide only [lt1_law_fraction, ev_seq, seq_nx, seq_rt, seq_ex, seq_bk, seq_ct, seq_ite, fl_ok, fl_ex, fl_ite, ev_set, kSet_ev, ev_ret, ev_retN, ev_nx, ev_bk, ev_ct, ev_raise, ev_if, kIf_ev, ev_drop, kNx_ev, ev_par, kPar_ev, kId_ev, ev_asg, kAsg_ev, ev_for, kFor_ev, ev_V, dVg_ok, ev_C, ev_1, ev_2, bind2_ok, bind2_ite1, bind2_ite2, bind_ite, ev_A, ev_nil, ev_cons, kCons_ev, ev_T, toB_ev, ev_and, ev_or, ev_not, kAnd_ev, kOr_ev, kNot_ev, ev_andV, ev_orV, ev_notV, kAndV_ev, kOrV_ev, kNotV_ev, ev_ife, kIfE_ev, ev_ch, kCh, tup_ev, lst_ev, call_ev, kw_ev, ev_kw, ev_fn, startE_0, startE_s, startE_c, fin_rt, fin_nx, fin_ex, fin_ite, ix_t0, ix_t1, ix_t2, ix_t3, ix_l0, ix_l1, ix_l2, len_l, len_t1, len_t2, len_t3, len_t4, beq_self_eq_true, ev_iL, ev_iT, asL_ev, asT_ev, ev_iA, ev_P, toI_ev, ev_P0, ev_sl, kSl_ev, put_1, gAdd_i, gSub_i, gMul_i, gDiv_p, gMod_p, gPow_l, gShl_l, gShr_l, gLt_i, gLe_i, gGt_i, gGe_i, gEq_i, gNe_i, gNeg_i, gAbs_i, gInt_i, gInt_b, gEq_s, gNe_s, gEq_b, gNe_b, gEq_2, gNe_2, gEq_3, gNe_3, gEq_22, gNe_22, DL.R.bind_ok, DL.R.bind_ex, ev_setL, kSetL_ev, ev_lDisp, kDisp_ev, ev_lList, lOf_l, lOf_t, ev_frz, frz_l, frz_d, frz_n, ev_lend, lend_l, lend_d, atom_i, atom_b, atom_s, ev_lendB, lendB_l, lendB_d, ev_app, app_l, kApp_ev, ev_put, put_l, ev_ixO, ixO_l, ixO_d, put_m, putAll_c, putAll_n, ev_lc, kLst_ev, ev_lcL, wipe_n, wipe_c, r1_2, r1_3, bits_ev, List.getElem?_cons_zero, List.getElem?_cons_succ, List.set_cons_zero, List.set_cons_succ, List.length_cons, List.length_nil, List.length_map, List.append_nil, List.cons_append, List.nil_append, ev_if, turn_nx, turn_ct, turn_bk, turn_rt, turn_ite, kWh_ev, isi_int_int, isi_bool_int, isi_int_bool, isi_bool_bool, isi_int_str, isi_int_none, isi_int_list, isi_int_tup, isi_bool_str, isi_bool_none, isi_bool_list, isi_bool_tup, isi_tup_tup, isi_tup_int, isi_tup_bool, isi_tup_str, isi_tup_none, isi_tup_list, isi_list_list, isi_list_tup, isi_list_int, isi_list_bool, isi_list_str, isi_list_none, isi_str_str, isi_str_int, isi_str_bool, isi_str_none, isi_str_list, isi_str_tup, decide_true, decide_false, not_true_eq_false, not_false_eq_true, ne_eq, decide_eq_true_eq, Bool.not_eq_true', decide_eq_false_iff_not, Bool.not_true, Bool.not_false, Bool.false_eq_true, if_true, if_false, reduceIte, Int.gcd_zero, this]
  | succ k ih =>
    intro t b x y hx hy h
    by_cases hb : y = 0
    · subst hb
      rw [ev_while]
      have : (x.natAbs : Int) = x := by omega
      simp +decide only [lt1_law_fraction, ev_seq, seq_nx, seq_rt, seq_ex, seq_bk, seq_ct, seq_ite, fl_ok, fl_ex, fl_ite, ev_set, kSet_ev, ev_ret, ev_retN, ev_nx, ev_bk, ev_ct, ev_raise, ev_if, kIf_ev, ev_drop, kNx_ev, ev_par, kPar_ev, kId_ev, ev_asg, kAsg_ev, ev_for, kFor_ev, ev_V, dVg_ok, ev_C, ev_1, ev_2, bind2_ok, bind2_ite1, bind2_ite2, bind_ite, ev_A, ev_nil, ev_cons, kCons_ev, ev_T, toB_ev, ev_and, ev_or, ev_not, kAnd_ev, kOr_ev, kNot_ev, ev_andV, ev_orV, ev_notV, kAndV_ev, kOrV_ev, kNotV_ev, ev_ife, kIfE_ev, ev_ch, kCh, tup_ev, lst_ev, call_ev, kw_ev, ev_kw, ev_fn, startE_0, startE_s, startE_c, fin_rt, fin_nx, fin_ex, fin_ite, ix_t0, ix_t1, ix_t2, ix_t3, ix_l0, ix_l1, ix_l2, len_l, len_t1, len_t2, len_t3, len_t4, beq_self_eq_true, ev_iL, ev_iT, asL_ev, asT_ev, ev_iA, ev_P, toI_ev, ev_P0, ev_sl, kSl_ev, put_1, gAdd_i, gSub_i, gMul_i, gDiv_p, gMod_p, gPow_l, gShl_l, gShr_l, gLt_i, gLe_i, gGt_i, gGe_i, gEq_i, gNe_i, gNeg_i, gAbs_i, gInt_i, gInt_b, gEq_s, gNe_s, gEq_b, gNe_b, gEq_2, gNe_2, gEq_3, gNe_3, gEq_22, gNe_22, DL.R.bind_ok, DL.R.bind_ex, ev_setL, kSetL_ev, ev_lDisp, kDisp_ev, ev_lList, lOf_l, lOf_t, ev_frz, frz_l, frz_d, frz_n, ev_lend, lend_l, lend_d, atom_i, atom_b, atom_s, ev_lendB, lendB_l, lendB_d, ev_app, app_l, kApp_ev, ev_put, put_l, ev_ixO, ixO_l, ixO_d, put_m, putAll_c, putAll_n, ev_lc, kLst_ev, ev_lcL, wipe_n, wipe_c, r1_2, r1_3, bits_ev, List.getElem?_cons_zero, List.getElem?_cons_succ, List.set_cons_zero, List.set_cons_succ, List.length_cons, List.length_nil, List.length_map, List.append_nil, List.cons_append, List.nil_append, ev_if, turn_nx, turn_ct, turn_bk, turn_rt, turn_ite, kWh_ev, isi_int_int, isi_bool_int, isi_int_bool, isi_bool_bool, isi_int_str, isi_int_none, isi_int_list, isi_int_tup, isi_bool_str, isi_bool_none, isi_bool_list, isi_bool_tup, isi_tup_tup, isi_tup_int, isi_tup_bool, isi_tup_str, isi_tup_none, isi_tup_list, isi_list_list, isi_list_tup, isi_list_int, isi_list_bool, isi_list_str, isi_list_none, isi_str_str, isi_str_int, isi_str_bool, isi_str_none, isi_str_list, isi_str_tup, decide_true, decide_false, not_true_eq_false, not_false_eq_true, ne_eq, decide_eq_true_eq, Bool.not_eq_true', decide_eq_false_iff_not, Bool.not_true, Bool.not_false, Bool.false_eq_true, if_true, if_false, reduceIte, Int.gcd_zero, this]
    · have hp : 0 < y := by omega
      have e := ih t b y (x % y) hy (Int.emod_nonneg x hb) (by
        have h1 := Int.emod_lt_of_pos x hp
        have h2 := Int.emod_nonneg x hb
        omega)
      rw [ev_while]
      have e1 : x = y * (x / y) + x % y := (Int.mul_ediv_add_emod x y).symm
      have e2 : Int.gcd y (y * (x / y) + x % y) = Int.gcd y (x % y) := Int.gcd_mul_left_add_right _ _ _
      rw [← e1] at e2
      rw [Int.gcd_comm x y, e2]
      simp +decide only [lt1_law_fraction, lb1_law_fraction, ev_seq, seq_nx, seq_rt, seq_ex, seq_bk, seq_ct, seq_ite, fl_ok, fl_ex, fl_ite, ev_set, kSet_ev, ev_ret, ev_retN, ev_nx, ev_bk, ev_ct, ev_raise, ev_if, kIf_ev, ev_drop, kNx_ev, ev_par, kPar_ev, kId_ev, ev_asg, kAsg_ev, ev_for, kFor_ev, ev_V, dVg_ok, ev_C, ev_1, ev_2, bind2_ok, bind2_ite1, bind2_ite2, bind_ite, ev_A, ev_nil, ev_cons, kCons_ev, ev_T, toB_ev, ev_and, ev_or, ev_not, kAnd_ev, kOr_ev, kNot_ev, ev_andV, ev_orV, ev_notV, kAndV_ev, kOrV_ev, kNotV_ev, ev_ife, kIfE_ev, ev_ch, kCh, tup_ev, lst_ev, call_ev, kw_ev, ev_kw, ev_fn, startE_0, startE_s, startE_c, fin_rt, fin_nx, fin_ex, fin_ite, ix_t0, ix_t1, ix_t2, ix_t3, ix_l0, ix_l1, ix_l2, len_l, len_t1, len_t2, len_t3, len_t4, beq_self_eq_true, ev_iL, ev_iT, asL_ev, asT_ev, ev_iA, ev_P, toI_ev, ev_P0, ev_sl, kSl_ev, put_1, gAdd_i, gSub_i, gMul_i, gDiv_p, gMod_p, gPow_l, gShl_l, gShr_l, gLt_i, gLe_i, gGt_i, gGe_i, gEq_i, gNe_i, gNeg_i, gAbs_i, gInt_i, gInt_b, gEq_s, gNe_s, gEq_b, gNe_b, gEq_2, gNe_2, gEq_3, gNe_3, gEq_22, gNe_22, DL.R.bind_ok, DL.R.bind_ex, ev_setL, kSetL_ev, ev_lDisp, kDisp_ev, ev_lList, lOf_l, lOf_t, ev_frz, frz_l, frz_d, frz_n, ev_lend, lend_l, lend_d, atom_i, atom_b, atom_s, ev_lendB, lendB_l, lendB_d, ev_app, app_l, kApp_ev, ev_put, put_l, ev_ixO, ixO_l, ixO_d, put_m, putAll_c, putAll_n, ev_lc, kLst_ev, ev_lcL, wipe_n, wipe_c, r1_2, r1_3, bits_ev, List.getElem?_cons_zero, List.getElem?_cons_succ, List.set_cons_zero, List.set_cons_succ, List.length_cons, List.length_nil, List.length_map, List.append_nil, List.cons_append, List.nil_append, ev_if, turn_nx, turn_ct, turn_bk, turn_rt, turn_ite, kWh_ev, isi_int_int, isi_bool_int, isi_int_bool, isi_bool_bool, isi_int_str, isi_int_none, isi_int_list, isi_int_tup, isi_bool_str, isi_bool_none, isi_bool_list, isi_bool_tup, isi_tup_tup, isi_tup_int, isi_tup_bool, isi_tup_str, isi_tup_none, isi_tup_list, isi_list_list, isi_list_tup, isi_list_int, isi_list_bool, isi_list_str, isi_list_none, isi_str_str, isi_str_int, isi_str_bool, isi_str_none, isi_str_list, isi_str_tup, decide_true, decide_false, not_true_eq_false, not_false_eq_true, ne_eq, decide_eq_true_eq, Bool.not_eq_true', decide_eq_false_iff_not, Bool.not_true, Bool.not_false, Bool.false_eq_true, if_true, if_false, reduceIte, hb, hp]
      exact e
theorem law_fraction_eq (t b : Int) (hb : b ≠ 0) {k : Nat} [h3 : Bd b k] (hk : k ≤ 9000) : m_law_fraction [.int t, .int b] = .ok (.tuple [.int (fT t b), .int (fB t b)]) := by
  have hs : shr (Int.gcd t b) b ≠ 0 := shr_ne (gcd_ne hb)
  have bs : Bd (shr (Int.gcd t b) b) k := bd_shrF hb h3
  have e := law_fraction_loop _ t b (b.natAbs : Int) (t.natAbs : Int) (by omega) (by omega) (Nat.le_refl _)
  have e2 : Int.gcd (b.natAbs : Int) (t.natAbs : Int) = Int.gcd t b := by rw [Int.gcd_comm]; simp [Int.gcd]
  rw [e2] at e
  by_cases h : b < 0
  · have es : 0 - ((Int.gcd t b : Nat) : Int) = shr (Int.gcd t b) b := by unfold shr; rw [if_pos h]
    simp +decide only [m_law_fraction, den_law_fraction, ev_seq, seq_nx, seq_rt, seq_ex, seq_bk, seq_ct, seq_ite, fl_ok, fl_ex, fl_ite, ev_set, kSet_ev, ev_ret, ev_retN, ev_nx, ev_bk, ev_ct, ev_raise, ev_if, kIf_ev, ev_drop, kNx_ev, ev_par, kPar_ev, kId_ev, ev_asg, kAsg_ev, ev_for, kFor_ev, ev_V, dVg_ok, ev_C, ev_1, ev_2, bind2_ok, bind2_ite1, bind2_ite2, bind_ite, ev_A, ev_nil, ev_cons, kCons_ev, ev_T, toB_ev, ev_and, ev_or, ev_not, kAnd_ev, kOr_ev, kNot_ev, ev_andV, ev_orV, ev_notV, kAndV_ev, kOrV_ev, kNotV_ev, ev_ife, kIfE_ev, ev_ch, kCh, tup_ev, lst_ev, call_ev, kw_ev, ev_kw, ev_fn, startE_0, startE_s, startE_c, fin_rt, fin_nx, fin_ex, fin_ite, ix_t0, ix_t1, ix_t2, ix_t3, ix_l0, ix_l1, ix_l2, len_l, len_t1, len_t2, len_t3, len_t4, beq_self_eq_true, ev_iL, ev_iT, asL_ev, asT_ev, ev_iA, ev_P, toI_ev, ev_P0, ev_sl, kSl_ev, put_1, gAdd_i, gSub_i, gMul_i, gDiv_p, gMod_p, gPow_l, gShl_l, gShr_l, gLt_i, gLe_i, gGt_i, gGe_i, gEq_i, gNe_i, gNeg_i, gAbs_i, gInt_i, gInt_b, gEq_s, gNe_s, gEq_b, gNe_b, gEq_2, gNe_2, gEq_3, gNe_3, gEq_22, gNe_22, DL.R.bind_ok, DL.R.bind_ex, ev_setL, kSetL_ev, ev_lDisp, kDisp_ev, ev_lList, lOf_l, lOf_t, ev_frz, frz_l, frz_d, frz_n, ev_lend, lend_l, lend_d, atom_i, atom_b, atom_s, ev_lendB, lendB_l, lendB_d, ev_app, app_l, kApp_ev, ev_put, put_l, ev_ixO, ixO_l, ixO_d, put_m, putAll_c, putAll_n, ev_lc, kLst_ev, ev_lcL, wipe_n, wipe_c, r1_2, r1_3, bits_ev, List.getElem?_cons_zero, List.getElem?_cons_succ, List.set_cons_zero, List.set_cons_succ, List.length_cons, List.length_nil, List.length_map, List.append_nil, List.cons_append, List.nil_append, ev_if, turn_nx, turn_ct, turn_bk, turn_rt, turn_ite, kWh_ev, isi_int_int, isi_bool_int, isi_int_bool, isi_bool_bool, isi_int_str, isi_int_none, isi_int_list, isi_int_tup, isi_bool_str, isi_bool_none, isi_bool_list, isi_bool_tup, isi_tup_tup, isi_tup_int, isi_tup_bool, isi_tup_str, isi_tup_none, isi_tup_list, isi_list_list, isi_list_tup, isi_list_int, isi_list_bool, isi_list_str, isi_list_none, isi_str_str, isi_str_int, isi_str_bool, isi_str_none, isi_str_list, isi_str_tup, decide_true, decide_false, not_true_eq_false, not_false_eq_true, ne_eq, decide_eq_true_eq, Bool.not_eq_true', decide_eq_false_iff_not, Bool.not_true, Bool.not_false, Bool.false_eq_true, if_true, if_false, reduceIte, gDiv_i, e, h, es, hs, hk, fT_eq, fB_eq]
  · have es : ((Int.gcd t b : Nat) : Int) = shr (Int.gcd t b) b := by unfold shr; rw [if_neg h]
    simp +decide only [m_law_fraction, den_law_fraction, ev_seq, seq_nx, seq_rt, seq_ex, seq_bk, seq_ct, seq_ite, fl_ok, fl_ex, fl_ite, ev_set, kSet_ev, ev_ret, ev_retN, ev_nx, ev_bk, ev_ct, ev_raise, ev_if, kIf_ev, ev_drop, kNx_ev, ev_par, kPar_ev, kId_ev, ev_asg, kAsg_ev, ev_for, kFor_ev, ev_V, dVg_ok, ev_C, ev_1, ev_2, bind2_ok, bind2_ite1, bind2_ite2, bind_ite, ev_A, ev_nil, ev_cons, kCons_ev, ev_T, toB_ev, ev_and, ev_or, ev_not, kAnd_ev, kOr_ev, kNot_ev, ev_andV, ev_orV, ev_notV, kAndV_ev, kOrV_ev, kNotV_ev, ev_ife, kIfE_ev, ev_ch, kCh, tup_ev, lst_ev, call_ev, kw_ev, ev_kw, ev_fn, startE_0, startE_s, startE_c, fin_rt, fin_nx, fin_ex, fin_ite, ix_t0, ix_t1, ix_t2, ix_t3, ix_l0, ix_l1, ix_l2, len_l, len_t1, len_t2, len_t3, len_t4, beq_self_eq_true, ev_iL, ev_iT, asL_ev, asT_ev, ev_iA, ev_P, toI_ev, ev_P0, ev_sl, kSl_ev, put_1, gAdd_i, gSub_i, gMul_i, gDiv_p, gMod_p, gPow_l, gShl_l, gShr_l, gLt_i, gLe_i, gGt_i, gGe_i, gEq_i, gNe_i, gNeg_i, gAbs_i, gInt_i, gInt_b, gEq_s, gNe_s, gEq_b, gNe_b, gEq_2, gNe_2, gEq_3, gNe_3, gEq_22, gNe_22, DL.R.bind_ok, DL.R.bind_ex, ev_setL, kSetL_ev, ev_lDisp, kDisp_ev, ev_lList, lOf_l, lOf_t, ev_frz, frz_l, frz_d, frz_n, ev_lend, lend_l, lend_d, atom_i, atom_b, atom_s, ev_lendB, lendB_l, lendB_d, ev_app, app_l, kApp_ev, ev_put, put_l, ev_ixO, ixO_l, ixO_d, put_m, putAll_c, putAll_n, ev_lc, kLst_ev, ev_lcL, wipe_n, wipe_c, r1_2, r1_3, bits_ev, List.getElem?_cons_zero, List.getElem?_cons_succ, List.set_cons_zero, List.set_cons_succ, List.length_cons, List.length_nil, List.length_map, List.append_nil, List.cons_append, List.nil_append, ev_if, turn_nx, turn_ct, turn_bk, turn_rt, turn_ite, kWh_ev, isi_int_int, isi_bool_int, isi_int_bool, isi_bool_bool, isi_int_str, isi_int_none, isi_int_list, isi_int_tup, isi_bool_str, isi_bool_none, isi_bool_list, isi_bool_tup, isi_tup_tup, isi_tup_int, isi_tup_bool, isi_tup_str, isi_tup_none, isi_tup_list, isi_list_list, isi_list_tup, isi_list_int, isi_list_bool, isi_list_str, isi_list_none, isi_str_str, isi_str_int, isi_str_bool, isi_str_none, isi_str_list, isi_str_tup, decide_true, decide_false, not_true_eq_false, not_false_eq_true, ne_eq, decide_eq_true_eq, Bool.not_eq_true', decide_eq_false_iff_not, Bool.not_true, Bool.not_false, Bool.false_eq_true, if_true, if_false, reduceIte, gDiv_i, e, h, es, hs, hk, fT_eq, fB_eq]
theorem law_is_2 (a b : Int) : m_law_is [.tuple [.int a, .int b], .tuple [.int a, .int b]] = .ok (.bool true) := by
  simp +decide only [m_law_is, den_law_is, lb1_law_is, ev_seq, seq_nx, seq_rt, seq_ex, seq_bk, seq_ct, seq_ite, fl_ok, fl_ex, fl_ite, ev_set, kSet_ev, ev_ret, ev_retN, ev_nx, ev_bk, ev_ct, ev_raise, ev_if, kIf_ev, ev_drop, kNx_ev, ev_par, kPar_ev, kId_ev, ev_asg, kAsg_ev, ev_for, kFor_ev, ev_V, dVg_ok, ev_C, ev_1, ev_2, bind2_ok, bind2_ite1, bind2_ite2, bind_ite, ev_A, ev_nil, ev_cons, kCons_ev, ev_T, toB_ev, ev_and, ev_or, ev_not, kAnd_ev, kOr_ev, kNot_ev, ev_andV, ev_orV, ev_notV, kAndV_ev, kOrV_ev, kNotV_ev, ev_ife, kIfE_ev, ev_ch, kCh, tup_ev, lst_ev, call_ev, kw_ev, ev_kw, ev_fn, startE_0, startE_s, startE_c, fin_rt, fin_nx, fin_ex, fin_ite, ix_t0, ix_t1, ix_t2, ix_t3, ix_l0, ix_l1, ix_l2, len_l, len_t1, len_t2, len_t3, len_t4, beq_self_eq_true, ev_iL, ev_iT, asL_ev, asT_ev, ev_iA, ev_P, toI_ev, ev_P0, ev_sl, kSl_ev, put_1, gAdd_i, gSub_i, gMul_i, gDiv_p, gMod_p, gPow_l, gShl_l, gShr_l, gLt_i, gLe_i, gGt_i, gGe_i, gEq_i, gNe_i, gNeg_i, gAbs_i, gInt_i, gInt_b, gEq_s, gNe_s, gEq_b, gNe_b, gEq_2, gNe_2, gEq_3, gNe_3, gEq_22, gNe_22, DL.R.bind_ok, DL.R.bind_ex, ev_setL, kSetL_ev, ev_lDisp, kDisp_ev, ev_lList, lOf_l, lOf_t, ev_frz, frz_l, frz_d, frz_n, ev_lend, lend_l, lend_d, atom_i, atom_b, atom_s, ev_lendB, lendB_l, lendB_d, ev_app, app_l, kApp_ev, ev_put, put_l, ev_ixO, ixO_l, ixO_d, put_m, putAll_c, putAll_n, ev_lc, kLst_ev, ev_lcL, wipe_n, wipe_c, r1_2, r1_3, bits_ev, List.getElem?_cons_zero, List.getElem?_cons_succ, List.set_cons_zero, List.set_cons_succ, List.length_cons, List.length_nil, List.length_map, List.append_nil, List.cons_append, List.nil_append, ev_if, turn_nx, turn_ct, turn_bk, turn_rt, turn_ite, kWh_ev, isi_int_int, isi_bool_int, isi_int_bool, isi_bool_bool, isi_int_str, isi_int_none, isi_int_list, isi_int_tup, isi_bool_str, isi_bool_none, isi_bool_list, isi_bool_tup, isi_tup_tup, isi_tup_int, isi_tup_bool, isi_tup_str, isi_tup_none, isi_tup_list, isi_list_list, isi_list_tup, isi_list_int, isi_list_bool, isi_list_str, isi_list_none, isi_str_str, isi_str_int, isi_str_bool, isi_str_none, isi_str_list, isi_str_tup, decide_true, decide_false, not_true_eq_false, not_false_eq_true, ne_eq, decide_eq_true_eq, Bool.not_eq_true', decide_eq_false_iff_not, Bool.not_true, Bool.not_false, Bool.false_eq_true, if_true, if_false, reduceIte, forL_1, forL_nil, law_whole_int, and_self]
theorem law_is_3 (a b c : Int) : m_law_is [.tuple [.int a, .int b, .int c], .tuple [.int a, .int b, .int c]] = .ok (.bool true) := by
  simp +decide only [m_law_is, den_law_is, lb1_law_is, ev_seq, seq_nx, seq_rt, seq_ex, seq_bk, seq_ct, seq_ite, fl_ok, fl_ex, fl_ite, ev_set, kSet_ev, ev_ret, ev_retN, ev_nx, ev_bk, ev_ct, ev_raise, ev_if, kIf_ev, ev_drop, kNx_ev, ev_par, kPar_ev, kId_ev, ev_asg, kAsg_ev, ev_for, kFor_ev, ev_V, dVg_ok, ev_C, ev_1, ev_2, bind2_ok, bind2_ite1, bind2_ite2, bind_ite, ev_A, ev_nil, ev_cons, kCons_ev, ev_T, toB_ev, ev_and, ev_or, ev_not, kAnd_ev, kOr_ev, kNot_ev, ev_andV, ev_orV, ev_notV, kAndV_ev, kOrV_ev, kNotV_ev, ev_ife, kIfE_ev, ev_ch, kCh, tup_ev, lst_ev, call_ev, kw_ev, ev_kw, ev_fn, startE_0, startE_s, startE_c, fin_rt, fin_nx, fin_ex, fin_ite, ix_t0, ix_t1, ix_t2, ix_t3, ix_l0, ix_l1, ix_l2, len_l, len_t1, len_t2, len_t3, len_t4, beq_self_eq_true, ev_iL, ev_iT, asL_ev, asT_ev, ev_iA, ev_P, toI_ev, ev_P0, ev_sl, kSl_ev, put_1, gAdd_i, gSub_i, gMul_i, gDiv_p, gMod_p, gPow_l, gShl_l, gShr_l, gLt_i, gLe_i, gGt_i, gGe_i, gEq_i, gNe_i, gNeg_i, gAbs_i, gInt_i, gInt_b, gEq_s, gNe_s, gEq_b, gNe_b, gEq_2, gNe_2, gEq_3, gNe_3, gEq_22, gNe_22, DL.R.bind_ok, DL.R.bind_ex, ev_setL, kSetL_ev, ev_lDisp, kDisp_ev, ev_lList, lOf_l, lOf_t, ev_frz, frz_l, frz_d, frz_n, ev_lend, lend_l, lend_d, atom_i, atom_b, atom_s, ev_lendB, lendB_l, lendB_d, ev_app, app_l, kApp_ev, ev_put, put_l, ev_ixO, ixO_l, ixO_d, put_m, putAll_c, putAll_n, ev_lc, kLst_ev, ev_lcL, wipe_n, wipe_c, r1_2, r1_3, bits_ev, List.getElem?_cons_zero, List.getElem?_cons_succ, List.set_cons_zero, List.set_cons_succ, List.length_cons, List.length_nil, List.length_map, List.append_nil, List.cons_append, List.nil_append, ev_if, turn_nx, turn_ct, turn_bk, turn_rt, turn_ite, kWh_ev, isi_int_int, isi_bool_int, isi_int_bool, isi_bool_bool, isi_int_str, isi_int_none, isi_int_list, isi_int_tup, isi_bool_str, isi_bool_none, isi_bool_list, isi_bool_tup, isi_tup_tup, isi_tup_int, isi_tup_bool, isi_tup_str, isi_tup_none, isi_tup_list, isi_list_list, isi_list_tup, isi_list_int, isi_list_bool, isi_list_str, isi_list_none, isi_str_str, isi_str_int, isi_str_bool, isi_str_none, isi_str_list, isi_str_tup, decide_true, decide_false, not_true_eq_false, not_false_eq_true, ne_eq, decide_eq_true_eq, Bool.not_eq_true', decide_eq_false_iff_not, Bool.not_true, Bool.not_false, Bool.false_eq_true, if_true, if_false, reduceIte, forL_1, forL_nil, law_whole_int, and_self]
section
variable (a b c d : Int) {k1 k2 k3 k4 : Nat} [Bd a k1] [Bd b k2] [Bd c k3] [Bd d k4]
theorem plus_eq (hn : b * d ≠ 0) (h1 : k1 ≤ 4000) (h2 : k2 ≤ 4000) (h3 : k3 ≤ 4000) (h4 : k4 ≤ 4000) : m_plus [.tuple [.int a, .int b], .tuple [.int c, .int d]] = .ok (.tuple [.int (fT (a * d + c * b) (b * d)), .int (fB (a * d + c * b) (b * d))]) := by
  have i1 : k2 + k4 ≤ 134217728 := by omega
  have i2 : k1 + k4 ≤ 134217728 := by omega
  have i3 : k3 + k2 ≤ 134217728 := by omega
  have i6 : k2 + k4 ≤ 9000 := by omega
  simp +decide only [m_plus, den_plus, ev_seq, seq_nx, seq_rt, seq_ex, seq_bk, seq_ct, seq_ite, fl_ok, fl_ex, fl_ite, ev_set, kSet_ev, ev_ret, ev_retN, ev_nx, ev_bk, ev_ct, ev_raise, ev_if, kIf_ev, ev_drop, kNx_ev, ev_par, kPar_ev, kId_ev, ev_asg, kAsg_ev, ev_for, kFor_ev, ev_V, dVg_ok, ev_C, ev_1, ev_2, bind2_ok, bind2_ite1, bind2_ite2, bind_ite, ev_A, ev_nil, ev_cons, kCons_ev, ev_T, toB_ev, ev_and, ev_or, ev_not, kAnd_ev, kOr_ev, kNot_ev, ev_andV, ev_orV, ev_notV, kAndV_ev, kOrV_ev, kNotV_ev, ev_ife, kIfE_ev, ev_ch, kCh, tup_ev, lst_ev, call_ev, kw_ev, ev_kw, ev_fn, startE_0, startE_s, startE_c, fin_rt, fin_nx, fin_ex, fin_ite, ix_t0, ix_t1, ix_t2, ix_t3, ix_l0, ix_l1, ix_l2, len_l, len_t1, len_t2, len_t3, len_t4, beq_self_eq_true, ev_iL, ev_iT, asL_ev, asT_ev, ev_iA, ev_P, toI_ev, ev_P0, ev_sl, kSl_ev, put_1, gAdd_i, gSub_i, gMul_i, gDiv_p, gMod_p, gPow_l, gShl_l, gShr_l, gLt_i, gLe_i, gGt_i, gGe_i, gEq_i, gNe_i, gNeg_i, gAbs_i, gInt_i, gInt_b, gEq_s, gNe_s, gEq_b, gNe_b, gEq_2, gNe_2, gEq_3, gNe_3, gEq_22, gNe_22, DL.R.bind_ok, DL.R.bind_ex, ev_setL, kSetL_ev, ev_lDisp, kDisp_ev, ev_lList, lOf_l, lOf_t, ev_frz, frz_l, frz_d, frz_n, ev_lend, lend_l, lend_d, atom_i, atom_b, atom_s, ev_lendB, lendB_l, lendB_d, ev_app, app_l, kApp_ev, ev_put, put_l, ev_ixO, ixO_l, ixO_d, put_m, putAll_c, putAll_n, ev_lc, kLst_ev, ev_lcL, wipe_n, wipe_c, r1_2, r1_3, bits_ev, List.getElem?_cons_zero, List.getElem?_cons_succ, List.set_cons_zero, List.set_cons_succ, List.length_cons, List.length_nil, List.length_map, List.append_nil, List.cons_append, List.nil_append, ev_if, turn_nx, turn_ct, turn_bk, turn_rt, turn_ite, kWh_ev, isi_int_int, isi_bool_int, isi_int_bool, isi_bool_bool, isi_int_str, isi_int_none, isi_int_list, isi_int_tup, isi_bool_str, isi_bool_none, isi_bool_list, isi_bool_tup, isi_tup_tup, isi_tup_int, isi_tup_bool, isi_tup_str, isi_tup_none, isi_tup_list, isi_list_list, isi_list_tup, isi_list_int, isi_list_bool, isi_list_str, isi_list_none, isi_str_str, isi_str_int, isi_str_bool, isi_str_none, isi_str_list, isi_str_tup, decide_true, decide_false, not_true_eq_false, not_false_eq_true, ne_eq, decide_eq_true_eq, Bool.not_eq_true', decide_eq_false_iff_not, Bool.not_true, Bool.not_false, Bool.false_eq_true, if_true, if_false, reduceIte, fraction_eq, hn, i1, i2, i3, i6]
theorem minus_eq (hn : b * d ≠ 0) (h1 : k1 ≤ 4000) (h2 : k2 ≤ 4000) (h3 : k3 ≤ 4000) (h4 : k4 ≤ 4000) : m_minus [.tuple [.int a, .int b], .tuple [.int c, .int d]] = .ok (.tuple [.int (fT (a * d - c * b) (b * d)), .int (fB (a * d - c * b) (b * d))]) := by
  have i1 : k2 + k4 ≤ 134217728 := by omega
  have i2 : k1 + k4 ≤ 134217728 := by omega
  have i3 : k3 + k2 ≤ 134217728 := by omega
  have i6 : k2 + k4 ≤ 9000 := by omega
  simp +decide only [m_minus, den_minus, ev_seq, seq_nx, seq_rt, seq_ex, seq_bk, seq_ct, seq_ite, fl_ok, fl_ex, fl_ite, ev_set, kSet_ev, ev_ret, ev_retN, ev_nx, ev_bk, ev_ct, ev_raise, ev_if, kIf_ev, ev_drop, kNx_ev, ev_par, kPar_ev, kId_ev, ev_asg, kAsg_ev, ev_for, kFor_ev, ev_V, dVg_ok, ev_C, ev_1, ev_2, bind2_ok, bind2_ite1, bind2_ite2, bind_ite, ev_A, ev_nil, ev_cons, kCons_ev, ev_T, toB_ev, ev_and, ev_or, ev_not, kAnd_ev, kOr_ev, kNot_ev, ev_andV, ev_orV, ev_notV, kAndV_ev, kOrV_ev, kNotV_ev, ev_ife, kIfE_ev, ev_ch, kCh, tup_ev, lst_ev, call_ev, kw_ev, ev_kw, ev_fn, startE_0, startE_s, startE_c, fin_rt, fin_nx, fin_ex, fin_ite, ix_t0, ix_t1, ix_t2, ix_t3, ix_l0, ix_l1, ix_l2, len_l, len_t1, len_t2, len_t3, len_t4, beq_self_eq_true, ev_iL, ev_iT, asL_ev, asT_ev, ev_iA, ev_P, toI_ev, ev_P0, ev_sl, kSl_ev, put_1, gAdd_i, gSub_i, gMul_i, gDiv_p, gMod_p, gPow_l, gShl_l, gShr_l, gLt_i, gLe_i, gGt_i, gGe_i, gEq_i, gNe_i, gNeg_i, gAbs_i, gInt_i, gInt_b, gEq_s, gNe_s, gEq_b, gNe_b, gEq_2, gNe_2, gEq_3, gNe_3, gEq_22, gNe_22, DL.R.bind_ok, DL.R.bind_ex, ev_setL, kSetL_ev, ev_lDisp, kDisp_ev, ev_lList, lOf_l, lOf_t, ev_frz, frz_l, frz_d, frz_n, ev_lend, lend_l, lend_d, atom_i, atom_b, atom_s, ev_lendB, lendB_l, lendB_d, ev_app, app_l, kApp_ev, ev_put, put_l, ev_ixO, ixO_l, ixO_d, put_m, putAll_c, putAll_n, ev_lc, kLst_ev, ev_lcL, wipe_n, wipe_c, r1_2, r1_3, bits_ev, List.getElem?_cons_zero, List.getElem?_cons_succ, List.set_cons_zero, List.set_cons_succ, List.length_cons, List.length_nil, List.length_map, List.append_nil, List.cons_append, List.nil_append, ev_if, turn_nx, turn_ct, turn_bk, turn_rt, turn_ite, kWh_ev, isi_int_int, isi_bool_int, isi_int_bool, isi_bool_bool, isi_int_str, isi_int_none, isi_int_list, isi_int_tup, isi_bool_str, isi_bool_none, isi_bool_list, isi_bool_tup, isi_tup_tup, isi_tup_int, isi_tup_bool, isi_tup_str, isi_tup_none, isi_tup_list, isi_list_list, isi_list_tup, isi_list_int, isi_list_bool, isi_list_str, isi_list_none, isi_str_str, isi_str_int, isi_str_bool, isi_str_none, isi_str_list, isi_str_tup, decide_true, decide_false, not_true_eq_false, not_false_eq_true, ne_eq, decide_eq_true_eq, Bool.not_eq_true', decide_eq_false_iff_not, Bool.not_true, Bool.not_false, Bool.false_eq_true, if_true, if_false, reduceIte, fraction_eq, hn, i1, i2, i3, i6]
theorem times_eq (hn : b * d ≠ 0) (h1 : k1 ≤ 4000) (h2 : k2 ≤ 4000) (h3 : k3 ≤ 4000) (h4 : k4 ≤ 4000) : m_times [.tuple [.int a, .int b], .tuple [.int c, .int d]] = .ok (.tuple [.int (fT (a * c) (b * d)), .int (fB (a * c) (b * d))]) := by
  have i1 : k2 + k4 ≤ 134217728 := by omega
  have i2 : k1 + k3 ≤ 134217728 := by omega
  have i6 : k2 + k4 ≤ 9000 := by omega
  simp +decide only [m_times, den_times, ev_seq, seq_nx, seq_rt, seq_ex, seq_bk, seq_ct, seq_ite, fl_ok, fl_ex, fl_ite, ev_set, kSet_ev, ev_ret, ev_retN, ev_nx, ev_bk, ev_ct, ev_raise, ev_if, kIf_ev, ev_drop, kNx_ev, ev_par, kPar_ev, kId_ev, ev_asg, kAsg_ev, ev_for, kFor_ev, ev_V, dVg_ok, ev_C, ev_1, ev_2, bind2_ok, bind2_ite1, bind2_ite2, bind_ite, ev_A, ev_nil, ev_cons, kCons_ev, ev_T, toB_ev, ev_and, ev_or, ev_not, kAnd_ev, kOr_ev, kNot_ev, ev_andV, ev_orV, ev_notV, kAndV_ev, kOrV_ev, kNotV_ev, ev_ife, kIfE_ev, ev_ch, kCh, tup_ev, lst_ev, call_ev, kw_ev, ev_kw, ev_fn, startE_0, startE_s, startE_c, fin_rt, fin_nx, fin_ex, fin_ite, ix_t0, ix_t1, ix_t2, ix_t3, ix_l0, ix_l1, ix_l2, len_l, len_t1, len_t2, len_t3, len_t4, beq_self_eq_true, ev_iL, ev_iT, asL_ev, asT_ev, ev_iA, ev_P, toI_ev, ev_P0, ev_sl, kSl_ev, put_1, gAdd_i, gSub_i, gMul_i, gDiv_p, gMod_p, gPow_l, gShl_l, gShr_l, gLt_i, gLe_i, gGt_i, gGe_i, gEq_i, gNe_i, gNeg_i, gAbs_i, gInt_i, gInt_b, gEq_s, gNe_s, gEq_b, gNe_b, gEq_2, gNe_2, gEq_3, gNe_3, gEq_22, gNe_22, DL.R.bind_ok, DL.R.bind_ex, ev_setL, kSetL_ev, ev_lDisp, kDisp_ev, ev_lList, lOf_l, lOf_t, ev_frz, frz_l, frz_d, frz_n, ev_lend, lend_l, lend_d, atom_i, atom_b, atom_s, ev_lendB, lendB_l, lendB_d, ev_app, app_l, kApp_ev, ev_put, put_l, ev_ixO, ixO_l, ixO_d, put_m, putAll_c, putAll_n, ev_lc, kLst_ev, ev_lcL, wipe_n, wipe_c, r1_2, r1_3, bits_ev, List.getElem?_cons_zero, List.getElem?_cons_succ, List.set_cons_zero, List.set_cons_succ, List.length_cons, List.length_nil, List.length_map, List.append_nil, List.cons_append, List.nil_append, ev_if, turn_nx, turn_ct, turn_bk, turn_rt, turn_ite, kWh_ev, isi_int_int, isi_bool_int, isi_int_bool, isi_bool_bool, isi_int_str, isi_int_none, isi_int_list, isi_int_tup, isi_bool_str, isi_bool_none, isi_bool_list, isi_bool_tup, isi_tup_tup, isi_tup_int, isi_tup_bool, isi_tup_str, isi_tup_none, isi_tup_list, isi_list_list, isi_list_tup, isi_list_int, isi_list_bool, isi_list_str, isi_list_none, isi_str_str, isi_str_int, isi_str_bool, isi_str_none, isi_str_list, isi_str_tup, decide_true, decide_false, not_true_eq_false, not_false_eq_true, ne_eq, decide_eq_true_eq, Bool.not_eq_true', decide_eq_false_iff_not, Bool.not_true, Bool.not_false, Bool.false_eq_true, if_true, if_false, reduceIte, fraction_eq, hn, i1, i2, i6]
theorem by_eq (hn : b * c ≠ 0) (h1 : k1 ≤ 4000) (h2 : k2 ≤ 4000) (h3 : k3 ≤ 4000) (h4 : k4 ≤ 4000) : m_by [.tuple [.int a, .int b], .tuple [.int c, .int d]] = .ok (.tuple [.int (fT (a * d) (b * c)), .int (fB (a * d) (b * c))]) := by
  have i1 : k2 + k3 ≤ 134217728 := by omega
  have i2 : k1 + k4 ≤ 134217728 := by omega
  have i6 : k2 + k3 ≤ 9000 := by omega
  simp +decide only [m_by, den_by, ev_seq, seq_nx, seq_rt, seq_ex, seq_bk, seq_ct, seq_ite, fl_ok, fl_ex, fl_ite, ev_set, kSet_ev, ev_ret, ev_retN, ev_nx, ev_bk, ev_ct, ev_raise, ev_if, kIf_ev, ev_drop, kNx_ev, ev_par, kPar_ev, kId_ev, ev_asg, kAsg_ev, ev_for, kFor_ev, ev_V, dVg_ok, ev_C, ev_1, ev_2, bind2_ok, bind2_ite1, bind2_ite2, bind_ite, ev_A, ev_nil, ev_cons, kCons_ev, ev_T, toB_ev, ev_and, ev_or, ev_not, kAnd_ev, kOr_ev, kNot_ev, ev_andV, ev_orV, ev_notV, kAndV_ev, kOrV_ev, kNotV_ev, ev_ife, kIfE_ev, ev_ch, kCh, tup_ev, lst_ev, call_ev, kw_ev, ev_kw, ev_fn, startE_0, startE_s, startE_c, fin_rt, fin_nx, fin_ex, fin_ite, ix_t0, ix_t1, ix_t2, ix_t3, ix_l0, ix_l1, ix_l2, len_l, len_t1, len_t2, len_t3, len_t4, beq_self_eq_true, ev_iL, ev_iT, asL_ev, asT_ev, ev_iA, ev_P, toI_ev, ev_P0, ev_sl, kSl_ev, put_1, gAdd_i, gSub_i, gMul_i, gDiv_p, gMod_p, gPow_l, gShl_l, gShr_l, gLt_i, gLe_i, gGt_i, gGe_i, gEq_i, gNe_i, gNeg_i, gAbs_i, gInt_i, gInt_b, gEq_s, gNe_s, gEq_b, gNe_b, gEq_2, gNe_2, gEq_3, gNe_3, gEq_22, gNe_22, DL.R.bind_ok, DL.R.bind_ex, ev_setL, kSetL_ev, ev_lDisp, kDisp_ev, ev_lList, lOf_l, lOf_t, ev_frz, frz_l, frz_d, frz_n, ev_lend, lend_l, lend_d, atom_i, atom_b, atom_s, ev_lendB, lendB_l, lendB_d, ev_app, app_l, kApp_ev, ev_put, put_l, ev_ixO, ixO_l, ixO_d, put_m, putAll_c, putAll_n, ev_lc, kLst_ev, ev_lcL, wipe_n, wipe_c, r1_2, r1_3, bits_ev, List.getElem?_cons_zero, List.getElem?_cons_succ, List.set_cons_zero, List.set_cons_succ, List.length_cons, List.length_nil, List.length_map, List.append_nil, List.cons_append, List.nil_append, ev_if, turn_nx, turn_ct, turn_bk, turn_rt, turn_ite, kWh_ev, isi_int_int, isi_bool_int, isi_int_bool, isi_bool_bool, isi_int_str, isi_int_none, isi_int_list, isi_int_tup, isi_bool_str, isi_bool_none, isi_bool_list, isi_bool_tup, isi_tup_tup, isi_tup_int, isi_tup_bool, isi_tup_str, isi_tup_none, isi_tup_list, isi_list_list, isi_list_tup, isi_list_int, isi_list_bool, isi_list_str, isi_list_none, isi_str_str, isi_str_int, isi_str_bool, isi_str_none, isi_str_list, isi_str_tup, decide_true, decide_false, not_true_eq_false, not_false_eq_true, ne_eq, decide_eq_true_eq, Bool.not_eq_true', decide_eq_false_iff_not, Bool.not_true, Bool.not_false, Bool.false_eq_true, if_true, if_false, reduceIte, fraction_eq, hn, i1, i2, i6]
theorem is_less_eq (h1 : k1 ≤ 4000) (h2 : k2 ≤ 4000) (h3 : k3 ≤ 4000) (h4 : k4 ≤ 4000) : m_is_less [.tuple [.int a, .int b], .tuple [.int c, .int d]] = .ok (.bool (decide (a * d < c * b))) := by
  have i2 : k1 + k4 ≤ 134217728 := by omega
  have i3 : k3 + k2 ≤ 134217728 := by omega
  simp +decide only [m_is_less, den_is_less, ev_seq, seq_nx, seq_rt, seq_ex, seq_bk, seq_ct, seq_ite, fl_ok, fl_ex, fl_ite, ev_set, kSet_ev, ev_ret, ev_retN, ev_nx, ev_bk, ev_ct, ev_raise, ev_if, kIf_ev, ev_drop, kNx_ev, ev_par, kPar_ev, kId_ev, ev_asg, kAsg_ev, ev_for, kFor_ev, ev_V, dVg_ok, ev_C, ev_1, ev_2, bind2_ok, bind2_ite1, bind2_ite2, bind_ite, ev_A, ev_nil, ev_cons, kCons_ev, ev_T, toB_ev, ev_and, ev_or, ev_not, kAnd_ev, kOr_ev, kNot_ev, ev_andV, ev_orV, ev_notV, kAndV_ev, kOrV_ev, kNotV_ev, ev_ife, kIfE_ev, ev_ch, kCh, tup_ev, lst_ev, call_ev, kw_ev, ev_kw, ev_fn, startE_0, startE_s, startE_c, fin_rt, fin_nx, fin_ex, fin_ite, ix_t0, ix_t1, ix_t2, ix_t3, ix_l0, ix_l1, ix_l2, len_l, len_t1, len_t2, len_t3, len_t4, beq_self_eq_true, ev_iL, ev_iT, asL_ev, asT_ev, ev_iA, ev_P, toI_ev, ev_P0, ev_sl, kSl_ev, put_1, gAdd_i, gSub_i, gMul_i, gDiv_p, gMod_p, gPow_l, gShl_l, gShr_l, gLt_i, gLe_i, gGt_i, gGe_i, gEq_i, gNe_i, gNeg_i, gAbs_i, gInt_i, gInt_b, gEq_s, gNe_s, gEq_b, gNe_b, gEq_2, gNe_2, gEq_3, gNe_3, gEq_22, gNe_22, DL.R.bind_ok, DL.R.bind_ex, ev_setL, kSetL_ev, ev_lDisp, kDisp_ev, ev_lList, lOf_l, lOf_t, ev_frz, frz_l, frz_d, frz_n, ev_lend, lend_l, lend_d, atom_i, atom_b, atom_s, ev_lendB, lendB_l, lendB_d, ev_app, app_l, kApp_ev, ev_put, put_l, ev_ixO, ixO_l, ixO_d, put_m, putAll_c, putAll_n, ev_lc, kLst_ev, ev_lcL, wipe_n, wipe_c, r1_2, r1_3, bits_ev, List.getElem?_cons_zero, List.getElem?_cons_succ, List.set_cons_zero, List.set_cons_succ, List.length_cons, List.length_nil, List.length_map, List.append_nil, List.cons_append, List.nil_append, ev_if, turn_nx, turn_ct, turn_bk, turn_rt, turn_ite, kWh_ev, isi_int_int, isi_bool_int, isi_int_bool, isi_bool_bool, isi_int_str, isi_int_none, isi_int_list, isi_int_tup, isi_bool_str, isi_bool_none, isi_bool_list, isi_bool_tup, isi_tup_tup, isi_tup_int, isi_tup_bool, isi_tup_str, isi_tup_none, isi_tup_list, isi_list_list, isi_list_tup, isi_list_int, isi_list_bool, isi_list_str, isi_list_none, isi_str_str, isi_str_int, isi_str_bool, isi_str_none, isi_str_list, isi_str_tup, decide_true, decide_false, not_true_eq_false, not_false_eq_true, ne_eq, decide_eq_true_eq, Bool.not_eq_true', decide_eq_false_iff_not, Bool.not_true, Bool.not_false, Bool.false_eq_true, if_true, if_false, reduceIte, i2, i3]
end
theorem law_mix_v2_ok (c k : Int) (hk : 0 ≤ k) {n : Nat} [Bd k n] (hn : n ≤ 100) : ∃ z : Int, m_law_mix_v2 [.int c, .int k] = .ok (.int z) ∧ 0 ≤ z ∧ Bd z 31 := by
  have h20 : 0 ≤ 20 * k + 1 := by omega
  have l20 : Nat.log2 20 = 4 := by decide
  have i1 : Nat.log2 20 + 1 + n ≤ 134217728 := by omega
  have l4 : Nat.log2 48271 = 15 := by decide
  have l5 : Nat.log2 7919 = 12 := by decide
  have l6 : Nat.log2 69621 = 16 := by decide
  have l7 : Nat.log2 2147483647 = 30 := by decide
  have i2 : Nat.log2 48271 + 1 + n ≤ 134217728 := by omega
  have i3 : Nat.log2 48271 + 1 + n + n ≤ 134217728 := by omega
  have i4 : Nat.log2 7919 + 1 + n ≤ 134217728 := by omega
  have i5 : max (max (max (Nat.log2 2147483647 + 1) (Nat.log2 48271 + 1 + n + n) + 1) n + 1) (Nat.log2 1 + 1) + 1 + (Nat.log2 69621 + 1) ≤ 134217728 := by
    have := lg1
    omega
  by_cases h : c % 2 = 0 ∧ 0 < c / 2 ^ (20 * k + 1).toNat
  · refine ⟨c / 2 ^ (20 * k + 1).toNat % 1048576, ?_, Int.emod_nonneg _ (by decide), Bd.mono inferInstance (by decide)⟩
    simp +decide only [m_law_mix_v2, den_law_mix_v2, ev_seq, seq_nx, seq_rt, seq_ex, seq_bk, seq_ct, seq_ite, fl_ok, fl_ex, fl_ite, ev_set, kSet_ev, ev_ret, ev_retN, ev_nx, ev_bk, ev_ct, ev_raise, ev_if, kIf_ev, ev_drop, kNx_ev, ev_par, kPar_ev, kId_ev, ev_asg, kAsg_ev, ev_for, kFor_ev, ev_V, dVg_ok, ev_C, ev_1, ev_2, bind2_ok, bind2_ite1, bind2_ite2, bind_ite, ev_A, ev_nil, ev_cons, kCons_ev, ev_T, toB_ev, ev_and, ev_or, ev_not, kAnd_ev, kOr_ev, kNot_ev, ev_andV, ev_orV, ev_notV, kAndV_ev, kOrV_ev, kNotV_ev, ev_ife, kIfE_ev, ev_ch, kCh, tup_ev, lst_ev, call_ev, kw_ev, ev_kw, ev_fn, startE_0, startE_s, startE_c, fin_rt, fin_nx, fin_ex, fin_ite, ix_t0, ix_t1, ix_t2, ix_t3, ix_l0, ix_l1, ix_l2, len_l, len_t1, len_t2, len_t3, len_t4, beq_self_eq_true, ev_iL, ev_iT, asL_ev, asT_ev, ev_iA, ev_P, toI_ev, ev_P0, ev_sl, kSl_ev, put_1, gAdd_i, gSub_i, gMul_i, gDiv_p, gMod_p, gPow_l, gShl_l, gShr_l, gLt_i, gLe_i, gGt_i, gGe_i, gEq_i, gNe_i, gNeg_i, gAbs_i, gInt_i, gInt_b, gEq_s, gNe_s, gEq_b, gNe_b, gEq_2, gNe_2, gEq_3, gNe_3, gEq_22, gNe_22, DL.R.bind_ok, DL.R.bind_ex, ev_setL, kSetL_ev, ev_lDisp, kDisp_ev, ev_lList, lOf_l, lOf_t, ev_frz, frz_l, frz_d, frz_n, ev_lend, lend_l, lend_d, atom_i, atom_b, atom_s, ev_lendB, lendB_l, lendB_d, ev_app, app_l, kApp_ev, ev_put, put_l, ev_ixO, ixO_l, ixO_d, put_m, putAll_c, putAll_n, ev_lc, kLst_ev, ev_lcL, wipe_n, wipe_c, r1_2, r1_3, bits_ev, List.getElem?_cons_zero, List.getElem?_cons_succ, List.set_cons_zero, List.set_cons_succ, List.length_cons, List.length_nil, List.length_map, List.append_nil, List.cons_append, List.nil_append, ev_if, turn_nx, turn_ct, turn_bk, turn_rt, turn_ite, kWh_ev, isi_int_int, isi_bool_int, isi_int_bool, isi_bool_bool, isi_int_str, isi_int_none, isi_int_list, isi_int_tup, isi_bool_str, isi_bool_none, isi_bool_list, isi_bool_tup, isi_tup_tup, isi_tup_int, isi_tup_bool, isi_tup_str, isi_tup_none, isi_tup_list, isi_list_list, isi_list_tup, isi_list_int, isi_list_bool, isi_list_str, isi_list_none, isi_str_str, isi_str_int, isi_str_bool, isi_str_none, isi_str_list, isi_str_tup, decide_true, decide_false, not_true_eq_false, not_false_eq_true, ne_eq, decide_eq_true_eq, Bool.not_eq_true', decide_eq_false_iff_not, Bool.not_true, Bool.not_false, Bool.false_eq_true, if_true, if_false, reduceIte, gShr_i, h20, i1, h.1, h.2]
  · refine ⟨((((c % 2147483647 + 48271 * k * k + k + 1) * 69621 % 2147483629) * ((c % 2147483647 + 48271 * k * k + k + 1) * 69621 % 2147483629) + 7919 * k + 5) % 2147483587) * ((((c % 2147483647 + 48271 * k * k + k + 1) * 69621 % 2147483629) * ((c % 2147483647 + 48271 * k * k + k + 1) * 69621 % 2147483629) + 7919 * k + 5) % 2147483587) % 2147483629, ?_, Int.emod_nonneg _ (by decide), Bd.mono inferInstance (by decide)⟩
    · by_cases h1 : c % 2 = 0
      · have h2 : ¬ 0 < c / 2 ^ (20 * k + 1).toNat := fun z => h ⟨h1, z⟩
        simp +decide only [m_law_mix_v2, den_law_mix_v2, ev_seq, seq_nx, seq_rt, seq_ex, seq_bk, seq_ct, seq_ite, fl_ok, fl_ex, fl_ite, ev_set, kSet_ev, ev_ret, ev_retN, ev_nx, ev_bk, ev_ct, ev_raise, ev_if, kIf_ev, ev_drop, kNx_ev, ev_par, kPar_ev, kId_ev, ev_asg, kAsg_ev, ev_for, kFor_ev, ev_V, dVg_ok, ev_C, ev_1, ev_2, bind2_ok, bind2_ite1, bind2_ite2, bind_ite, ev_A, ev_nil, ev_cons, kCons_ev, ev_T, toB_ev, ev_and, ev_or, ev_not, kAnd_ev, kOr_ev, kNot_ev, ev_andV, ev_orV, ev_notV, kAndV_ev, kOrV_ev, kNotV_ev, ev_ife, kIfE_ev, ev_ch, kCh, tup_ev, lst_ev, call_ev, kw_ev, ev_kw, ev_fn, startE_0, startE_s, startE_c, fin_rt, fin_nx, fin_ex, fin_ite, ix_t0, ix_t1, ix_t2, ix_t3, ix_l0, ix_l1, ix_l2, len_l, len_t1, len_t2, len_t3, len_t4, beq_self_eq_true, ev_iL, ev_iT, asL_ev, asT_ev, ev_iA, ev_P, toI_ev, ev_P0, ev_sl, kSl_ev, put_1, gAdd_i, gSub_i, gMul_i, gDiv_p, gMod_p, gPow_l, gShl_l, gShr_l, gLt_i, gLe_i, gGt_i, gGe_i, gEq_i, gNe_i, gNeg_i, gAbs_i, gInt_i, gInt_b, gEq_s, gNe_s, gEq_b, gNe_b, gEq_2, gNe_2, gEq_3, gNe_3, gEq_22, gNe_22, DL.R.bind_ok, DL.R.bind_ex, ev_setL, kSetL_ev, ev_lDisp, kDisp_ev, ev_lList, lOf_l, lOf_t, ev_frz, frz_l, frz_d, frz_n, ev_lend, lend_l, lend_d, atom_i, atom_b, atom_s, ev_lendB, lendB_l, lendB_d, ev_app, app_l, kApp_ev, ev_put, put_l, ev_ixO, ixO_l, ixO_d, put_m, putAll_c, putAll_n, ev_lc, kLst_ev, ev_lcL, wipe_n, wipe_c, r1_2, r1_3, bits_ev, List.getElem?_cons_zero, List.getElem?_cons_succ, List.set_cons_zero, List.set_cons_succ, List.length_cons, List.length_nil, List.length_map, List.append_nil, List.cons_append, List.nil_append, ev_if, turn_nx, turn_ct, turn_bk, turn_rt, turn_ite, kWh_ev, isi_int_int, isi_bool_int, isi_int_bool, isi_bool_bool, isi_int_str, isi_int_none, isi_int_list, isi_int_tup, isi_bool_str, isi_bool_none, isi_bool_list, isi_bool_tup, isi_tup_tup, isi_tup_int, isi_tup_bool, isi_tup_str, isi_tup_none, isi_tup_list, isi_list_list, isi_list_tup, isi_list_int, isi_list_bool, isi_list_str, isi_list_none, isi_str_str, isi_str_int, isi_str_bool, isi_str_none, isi_str_list, isi_str_tup, decide_true, decide_false, not_true_eq_false, not_false_eq_true, ne_eq, decide_eq_true_eq, Bool.not_eq_true', decide_eq_false_iff_not, Bool.not_true, Bool.not_false, Bool.false_eq_true, if_true, if_false, reduceIte, gShr_i, h20, i1, i2, i3, i4, i5, h1, h2]
      · simp +decide only [m_law_mix_v2, den_law_mix_v2, ev_seq, seq_nx, seq_rt, seq_ex, seq_bk, seq_ct, seq_ite, fl_ok, fl_ex, fl_ite, ev_set, kSet_ev, ev_ret, ev_retN, ev_nx, ev_bk, ev_ct, ev_raise, ev_if, kIf_ev, ev_drop, kNx_ev, ev_par, kPar_ev, kId_ev, ev_asg, kAsg_ev, ev_for, kFor_ev, ev_V, dVg_ok, ev_C, ev_1, ev_2, bind2_ok, bind2_ite1, bind2_ite2, bind_ite, ev_A, ev_nil, ev_cons, kCons_ev, ev_T, toB_ev, ev_and, ev_or, ev_not, kAnd_ev, kOr_ev, kNot_ev, ev_andV, ev_orV, ev_notV, kAndV_ev, kOrV_ev, kNotV_ev, ev_ife, kIfE_ev, ev_ch, kCh, tup_ev, lst_ev, call_ev, kw_ev, ev_kw, ev_fn, startE_0, startE_s, startE_c, fin_rt, fin_nx, fin_ex, fin_ite, ix_t0, ix_t1, ix_t2, ix_t3, ix_l0, ix_l1, ix_l2, len_l, len_t1, len_t2, len_t3, len_t4, beq_self_eq_true, ev_iL, ev_iT, asL_ev, asT_ev, ev_iA, ev_P, toI_ev, ev_P0, ev_sl, kSl_ev, put_1, gAdd_i, gSub_i, gMul_i, gDiv_p, gMod_p, gPow_l, gShl_l, gShr_l, gLt_i, gLe_i, gGt_i, gGe_i, gEq_i, gNe_i, gNeg_i, gAbs_i, gInt_i, gInt_b, gEq_s, gNe_s, gEq_b, gNe_b, gEq_2, gNe_2, gEq_3, gNe_3, gEq_22, gNe_22, DL.R.bind_ok, DL.R.bind_ex, ev_setL, kSetL_ev, ev_lDisp, kDisp_ev, ev_lList, lOf_l, lOf_t, ev_frz, frz_l, frz_d, frz_n, ev_lend, lend_l, lend_d, atom_i, atom_b, atom_s, ev_lendB, lendB_l, lendB_d, ev_app, app_l, kApp_ev, ev_put, put_l, ev_ixO, ixO_l, ixO_d, put_m, putAll_c, putAll_n, ev_lc, kLst_ev, ev_lcL, wipe_n, wipe_c, r1_2, r1_3, bits_ev, List.getElem?_cons_zero, List.getElem?_cons_succ, List.set_cons_zero, List.set_cons_succ, List.length_cons, List.length_nil, List.length_map, List.append_nil, List.cons_append, List.nil_append, ev_if, turn_nx, turn_ct, turn_bk, turn_rt, turn_ite, kWh_ev, isi_int_int, isi_bool_int, isi_int_bool, isi_bool_bool, isi_int_str, isi_int_none, isi_int_list, isi_int_tup, isi_bool_str, isi_bool_none, isi_bool_list, isi_bool_tup, isi_tup_tup, isi_tup_int, isi_tup_bool, isi_tup_str, isi_tup_none, isi_tup_list, isi_list_list, isi_list_tup, isi_list_int, isi_list_bool, isi_list_str, isi_list_none, isi_str_str, isi_str_int, isi_str_bool, isi_str_none, isi_str_list, isi_str_tup, decide_true, decide_false, not_true_eq_false, not_false_eq_true, ne_eq, decide_eq_true_eq, Bool.not_eq_true', decide_eq_false_iff_not, Bool.not_true, Bool.not_false, Bool.false_eq_true, if_true, if_false, reduceIte, gShr_i, h20, i1, i2, i3, i4, i5, h1]
end DL

set_option autoImplicit false
set_option linter.all false
/-! plain arithmetic: roots, and the sign of a + b * root d -/
namespace MB
/-- d lies between two squares -/
def Root (d : Int) : Prop := ∃ k : Int, 0 < k ∧ k * k < d ∧ d < (k + 1) * (k + 1)
theorem Root.pos {d : Int} (h : Root d) : 0 < d := by
  obtain ⟨k, h1, h2, _⟩ := h
  have : 0 ≤ k * k := Int.mul_nonneg (by omega) (by omega)
  omega
theorem sq_lt {x y : Int} (hx : 0 ≤ x) (h : x * x < y * y) (hy : 0 ≤ y) : x < y := by
  rcases Int.lt_or_le x y with z | z
  · exact z
  · exfalso
    have := Int.mul_self_le_mul_self hy z
    omega
theorem irr_nat {d : Int} (h : Root d) : ∀ (n : Nat) (a b : Int), 0 ≤ a → 0 ≤ b → b.toNat ≤ n → a * a = d * (b * b) → b = 0 := by
  obtain ⟨k, hk, h1, h2⟩ := h
  have hd : 0 < d := by
    have : 0 ≤ k * k := Int.mul_nonneg (by omega) (by omega)
    omega
  intro n
  induction n with
  | zero => intro a b _ hb hn _; omega
  | succ n ih =>
    intro a b ha hb hn e
    by_cases hb0 : b = 0
    · exact hb0
    exfalso
    have hbp : 0 < b := by omega
    have hbb : 0 < b * b := Int.mul_pos hbp hbp
    -- k b < a < (k + 1) b
    have l1 : k * b < a := sq_lt (Int.mul_nonneg (by omega) hb) (by
      have := Int.mul_lt_mul_of_pos_right h1 hbb
      have e2 : k * b * (k * b) = k * k * (b * b) := by grind
      omega) ha
    have l2 : a < (k + 1) * b := sq_lt ha (by
      have := Int.mul_lt_mul_of_pos_right h2 hbb
      have e2 : (k + 1) * b * ((k + 1) * b) = (k + 1) * (k + 1) * (b * b) := by grind
      omega) (Int.mul_nonneg (by omega) hb)
    have e3 : (k + 1) * b = k * b + b := by grind
    have e4 : (d * b - k * a) * (d * b - k * a) = d * ((a - k * b) * (a - k * b)) := by grind
    have p1 : 0 ≤ d * b - k * a := by
      -- k a < (k (k + 1)) b ... from squares
      rcases Int.lt_or_le (d * b - k * a) 0 with z | z
      · exfalso
        have z1 : d * b < k * a := by omega
        have z2 := Int.mul_self_le_mul_self (Int.mul_nonneg (by omega) hb) (Int.le_of_lt z1)
        have z3 : k * a * (k * a) = k * k * (d * (b * b)) := by rw [← e]; grind
        have z4 : d * b * (d * b) = d * (d * (b * b)) := by grind
        have z5 : 0 < d * (b * b) := Int.mul_pos hd hbb
        have z6 := Int.mul_lt_mul_of_pos_right h1 z5
        omega
      · exact z
    have := ih (d * b - k * a) (a - k * b) p1 (by omega) (by omega) e4
    omega
theorem irr {d : Int} (h : Root d) {a b : Int} (e : a * a = d * b * b) : b = 0 := by
  have e2 : (a.natAbs : Int) * (a.natAbs : Int) = d * ((b.natAbs : Int) * (b.natAbs : Int)) := by
    have f1 : (a.natAbs : Int) * (a.natAbs : Int) = a * a := by rw [← Int.natCast_mul, Int.natAbs_mul_self]
    have f2 : (b.natAbs : Int) * (b.natAbs : Int) = b * b := by rw [← Int.natCast_mul, Int.natAbs_mul_self]
    rw [f1, f2, e, Int.mul_assoc]
  have := irr_nat h _ _ _ (by omega) (by omega) (Nat.le_refl _) e2
  omega
/-- a + b * root d is below 0 -/
def Lt0 (d a b : Int) : Prop := (a ≤ 0 ∧ b ≤ 0 ∧ ¬(a = 0 ∧ b = 0)) ∨ (0 < a ∧ b < 0 ∧ a * a < d * b * b) ∨ (a < 0 ∧ 0 < b ∧ d * b * b < a * a)
instance (d a b : Int) : Decidable (Lt0 d a b) := by unfold Lt0; infer_instance
theorem lt0_scale {d a b s : Int} (hs : 0 < s) : Lt0 d (a * s) (b * s) ↔ Lt0 d a b := by
  have q1 : a * s * (a * s) = a * a * (s * s) := by grind
  have q2 : d * (b * s) * (b * s) = d * b * b * (s * s) := by grind
  have hss : 0 < s * s := Int.mul_pos hs hs
  have pos (x : Int) : 0 < x * s ↔ 0 < x := ⟨fun h => by
    rcases Int.lt_or_le 0 x with z | z
    · exact z
    · have := Int.mul_le_mul_of_nonneg_right z (Int.le_of_lt hs); omega, fun h => Int.mul_pos h hs⟩
  have neg (x : Int) : x * s < 0 ↔ x < 0 := by
    have := pos (-x)
    have e : -x * s = -(x * s) := by grind
    rw [e] at this
    omega
  unfold Lt0
  rw [q1, q2]
  have pa := pos a
  have pb := pos b
  have na := neg a
  have nb := neg b
  have m1 : a * a * (s * s) < d * b * b * (s * s) ↔ a * a < d * b * b := ⟨fun h => Int.lt_of_mul_lt_mul_right h (Int.le_of_lt hss), fun h => Int.mul_lt_mul_of_pos_right h hss⟩
  have m2 : d * b * b * (s * s) < a * a * (s * s) ↔ d * b * b < a * a := ⟨fun h => Int.lt_of_mul_lt_mul_right h (Int.le_of_lt hss), fun h => Int.mul_lt_mul_of_pos_right h hss⟩
  rw [m1, m2]
  generalize a * s = x at *
  generalize b * s = y at *
  omega
/-- the whole part of b * root d -/
def IsFl (d b R : Int) : Prop := ∃ r : Int, 0 ≤ r ∧ r * r ≤ d * b * b ∧ d * b * b < (r + 1) * (r + 1) ∧ R = (if b < 0 then 0 - r - 1 else r)
theorem fl_low {d b R x : Int} (h : IsFl d b R) (hx : -R ≤ x) : ¬ Lt0 d x b := by
  obtain ⟨r, h0, h1, h2, rfl⟩ := h
  intro z
  unfold Lt0 at z
  split at hx
  · rename_i hb
    have := Int.mul_self_le_mul_self (by omega : 0 ≤ r + 1) (by omega : r + 1 ≤ x)
    omega
  · rename_i hb
    rcases z with ⟨z1, z2, z3⟩ | ⟨z1, z2, z3⟩ | ⟨z1, z2, z3⟩
    · have : b = 0 := by omega
      subst this
      have h1' : r * r ≤ 0 := by simpa using h1
      have : r = 0 := by
        rcases Int.lt_or_le 0 r with w | w
        · have := Int.mul_pos w w; omega
        · omega
      omega
    · omega
    · have := Int.mul_self_le_mul_self (by omega : 0 ≤ -x) (by omega : -x ≤ r)
      have e : -x * -x = x * x := by grind
      omega
theorem fl_high {d b R y : Int} (hd : Root d) (h : IsFl d b R) (hy : y ≤ -R - 1) : Lt0 d y b := by
  obtain ⟨r, h0, h1, h2, rfl⟩ := h
  unfold Lt0
  split at hy
  · rename_i hb
    by_cases hy0 : y ≤ 0
    · exact .inl ⟨hy0, by omega, by omega⟩
    · refine .inr (.inl ⟨by omega, hb, ?_⟩)
      have := Int.mul_self_le_mul_self (by omega : 0 ≤ y) (by omega : y ≤ r)
      have ne : y * y ≠ d * b * b := fun e => by have := irr hd e; omega
      omega
  · rename_i hb
    by_cases hb0 : b = 0
    · exact .inl ⟨by omega, by omega, by omega⟩
    · refine .inr (.inr ⟨by omega, by omega, ?_⟩)
      have := Int.mul_self_le_mul_self (by omega : 0 ≤ r + 1) (by omega : r + 1 ≤ -y)
      have e : -y * -y = y * y := by grind
      omega
/-- one step towards the root -/
theorem newton {n f q : Int} (hf : 0 < f) (hq : n < f * (q + 1)) (hq0 : 0 ≤ q) : n < ((f + q) / 2 + 1) * ((f + q) / 2 + 1) := by
  have h1 : f + q + 1 ≤ 2 * ((f + q) / 2 + 1) := by omega
  generalize (f + q) / 2 + 1 = c at h1
  have h2 := Int.mul_self_le_mul_self (by omega : 0 ≤ f + q + 1) h1
  have e1 : 2 * c * (2 * c) = 4 * (c * c) := by grind
  have e2 : (f + q + 1) * (f + q + 1) = (f - (q + 1)) * (f - (q + 1)) + 4 * (f * (q + 1)) := by grind
  have h3 : 0 ≤ (f - (q + 1)) * (f - (q + 1)) := by
    rcases Int.le_total 0 (f - (q + 1)) with w | w
    · exact Int.mul_nonneg w w
    · exact Int.mul_nonneg_of_nonpos_of_nonpos w w
  omega
end MB

set_option Elab.async false
set_option linter.all false
set_option maxRecDepth 100000
set_option maxHeartbeats 1000000
set_option autoImplicit false
/-! what the defs of roots and of the order are worth -/
namespace DL
open PySem L2 MB
theorem root_loop (n : Int) (hn : 0 < n) : ∀ (k : Nat) (f : Int) (x2 : Option SV), f.toNat ≤ k → 0 < f → Bd f 9000 → n < (f + 1) * (f + 1) → ∃ r : Int, 0 ≤ r ∧ r * r ≤ n ∧ n < (r + 1) * (r + 1) ∧
    sWhile lt1_root_floor lb1_root_floor [some (.d (.int n)), some (.d (.int f)), x2] = .rt (.int r) := by
  intro k
  induction k with
  | zero => intro f x2 h0 hf _ _; omega
  | succ k ih =>
    intro f x2 h0 hf bf hn2
    have hq0 : 0 ≤ n / f := Int.ediv_nonneg (by omega) (by omega)
    have hq1 : n < f * (n / f + 1) := by
      have := Int.lt_mul_ediv_self_add (x := n) hf
      have e : f * (n / f + 1) = f * (n / f) + f := by grind
      omega
    have hq2 : f * (n / f) ≤ n := Int.mul_ediv_self_le (by omega)
    rw [ev_while]
    by_cases hc : f ≤ (f + n / f) / 2
    · refine ⟨f, by omega, ?_, hn2, ?_⟩
      · have h1 : f ≤ n / f := by omega
        have := Int.mul_le_mul_of_nonneg_left h1 (by omega : 0 ≤ f)
        omega
      · simp +decide only [lt1_root_floor, lb1_root_floor, ev_seq, seq_nx, seq_rt, seq_ex, seq_bk, seq_ct, seq_ite, fl_ok, fl_ex, fl_ite, ev_set, kSet_ev, ev_ret, ev_retN, ev_nx, ev_bk, ev_ct, ev_raise, ev_if, kIf_ev, ev_drop, kNx_ev, ev_par, kPar_ev, kId_ev, ev_asg, kAsg_ev, ev_for, kFor_ev, ev_V, dVg_ok, ev_C, ev_1, ev_2, bind2_ok, bind2_ite1, bind2_ite2, bind_ite, ev_A, ev_nil, ev_cons, kCons_ev, ev_T, toB_ev, ev_and, ev_or, ev_not, kAnd_ev, kOr_ev, kNot_ev, ev_andV, ev_orV, ev_notV, kAndV_ev, kOrV_ev, kNotV_ev, ev_ife, kIfE_ev, ev_ch, kCh, tup_ev, lst_ev, call_ev, kw_ev, ev_kw, ev_fn, startE_0, startE_s, startE_c, fin_rt, fin_nx, fin_ex, fin_ite, ix_t0, ix_t1, ix_t2, ix_t3, ix_l0, ix_l1, ix_l2, len_l, len_t1, len_t2, len_t3, len_t4, beq_self_eq_true, ev_iL, ev_iT, asL_ev, asT_ev, ev_iA, ev_P, toI_ev, ev_P0, ev_sl, kSl_ev, put_1, gAdd_i, gSub_i, gMul_i, gDiv_p, gMod_p, gPow_l, gShl_l, gShr_l, gLt_i, gLe_i, gGt_i, gGe_i, gEq_i, gNe_i, gNeg_i, gAbs_i, gInt_i, gInt_b, gEq_s, gNe_s, gEq_b, gNe_b, gEq_2, gNe_2, gEq_3, gNe_3, gEq_22, gNe_22, DL.R.bind_ok, DL.R.bind_ex, ev_setL, kSetL_ev, ev_lDisp, kDisp_ev, ev_lList, lOf_l, lOf_t, ev_frz, frz_l, frz_d, frz_n, ev_lend, lend_l, lend_d, atom_i, atom_b, atom_s, ev_lendB, lendB_l, lendB_d, ev_app, app_l, kApp_ev, ev_put, put_l, ev_ixO, ixO_l, ixO_d, put_m, putAll_c, putAll_n, ev_lc, kLst_ev, ev_lcL, wipe_n, wipe_c, r1_2, r1_3, bits_ev, List.getElem?_cons_zero, List.getElem?_cons_succ, List.set_cons_zero, List.set_cons_succ, List.length_cons, List.length_nil, List.length_map, List.append_nil, List.cons_append, List.nil_append, ev_if, turn_nx, turn_ct, turn_bk, turn_rt, turn_ite, kWh_ev, isi_int_int, isi_bool_int, isi_int_bool, isi_bool_bool, isi_int_str, isi_int_none, isi_int_list, isi_int_tup, isi_bool_str, isi_bool_none, isi_bool_list, isi_bool_tup, isi_tup_tup, isi_tup_int, isi_tup_bool, isi_tup_str, isi_tup_none, isi_tup_list, isi_list_list, isi_list_tup, isi_list_int, isi_list_bool, isi_list_str, isi_list_none, isi_str_str, isi_str_int, isi_str_bool, isi_str_none, isi_str_list, isi_str_tup, decide_true, decide_false, not_true_eq_false, not_false_eq_true, ne_eq, decide_eq_true_eq, Bool.not_eq_true', decide_eq_false_iff_not, Bool.not_true, Bool.not_false, Bool.false_eq_true, if_true, if_false, reduceIte, hf, hc]
    · have nw := newton hf hq1 hq0
      have hp : 0 < (f + n / f) / 2 := by
        rcases Int.lt_or_le 0 ((f + n / f) / 2) with z | z
        · exact z
        · have : (f + n / f) / 2 = 0 := by omega
          rw [this] at nw
          omega
      obtain ⟨r, h1, h2, h3, e⟩ := ih ((f + n / f) / 2) (some (.d (.int ((f + n / f) / 2)))) (by omega) hp ⟨by have := bf.h; omega⟩ nw
      refine ⟨r, h1, h2, h3, ?_⟩
      simp +decide only [lt1_root_floor, lb1_root_floor, ev_seq, seq_nx, seq_rt, seq_ex, seq_bk, seq_ct, seq_ite, fl_ok, fl_ex, fl_ite, ev_set, kSet_ev, ev_ret, ev_retN, ev_nx, ev_bk, ev_ct, ev_raise, ev_if, kIf_ev, ev_drop, kNx_ev, ev_par, kPar_ev, kId_ev, ev_asg, kAsg_ev, ev_for, kFor_ev, ev_V, dVg_ok, ev_C, ev_1, ev_2, bind2_ok, bind2_ite1, bind2_ite2, bind_ite, ev_A, ev_nil, ev_cons, kCons_ev, ev_T, toB_ev, ev_and, ev_or, ev_not, kAnd_ev, kOr_ev, kNot_ev, ev_andV, ev_orV, ev_notV, kAndV_ev, kOrV_ev, kNotV_ev, ev_ife, kIfE_ev, ev_ch, kCh, tup_ev, lst_ev, call_ev, kw_ev, ev_kw, ev_fn, startE_0, startE_s, startE_c, fin_rt, fin_nx, fin_ex, fin_ite, ix_t0, ix_t1, ix_t2, ix_t3, ix_l0, ix_l1, ix_l2, len_l, len_t1, len_t2, len_t3, len_t4, beq_self_eq_true, ev_iL, ev_iT, asL_ev, asT_ev, ev_iA, ev_P, toI_ev, ev_P0, ev_sl, kSl_ev, put_1, gAdd_i, gSub_i, gMul_i, gDiv_p, gMod_p, gPow_l, gShl_l, gShr_l, gLt_i, gLe_i, gGt_i, gGe_i, gEq_i, gNe_i, gNeg_i, gAbs_i, gInt_i, gInt_b, gEq_s, gNe_s, gEq_b, gNe_b, gEq_2, gNe_2, gEq_3, gNe_3, gEq_22, gNe_22, DL.R.bind_ok, DL.R.bind_ex, ev_setL, kSetL_ev, ev_lDisp, kDisp_ev, ev_lList, lOf_l, lOf_t, ev_frz, frz_l, frz_d, frz_n, ev_lend, lend_l, lend_d, atom_i, atom_b, atom_s, ev_lendB, lendB_l, lendB_d, ev_app, app_l, kApp_ev, ev_put, put_l, ev_ixO, ixO_l, ixO_d, put_m, putAll_c, putAll_n, ev_lc, kLst_ev, ev_lcL, wipe_n, wipe_c, r1_2, r1_3, bits_ev, List.getElem?_cons_zero, List.getElem?_cons_succ, List.set_cons_zero, List.set_cons_succ, List.length_cons, List.length_nil, List.length_map, List.append_nil, List.cons_append, List.nil_append, ev_if, turn_nx, turn_ct, turn_bk, turn_rt, turn_ite, kWh_ev, isi_int_int, isi_bool_int, isi_int_bool, isi_bool_bool, isi_int_str, isi_int_none, isi_int_list, isi_int_tup, isi_bool_str, isi_bool_none, isi_bool_list, isi_bool_tup, isi_tup_tup, isi_tup_int, isi_tup_bool, isi_tup_str, isi_tup_none, isi_tup_list, isi_list_list, isi_list_tup, isi_list_int, isi_list_bool, isi_list_str, isi_list_none, isi_str_str, isi_str_int, isi_str_bool, isi_str_none, isi_str_list, isi_str_tup, decide_true, decide_false, not_true_eq_false, not_false_eq_true, ne_eq, decide_eq_true_eq, Bool.not_eq_true', decide_eq_false_iff_not, Bool.not_true, Bool.not_false, Bool.false_eq_true, if_true, if_false, reduceIte, hf, hc]
      exact e
theorem root_floor_eq (n : Int) (hn : 0 ≤ n) [b : Bd n 8000] : ∃ r : Int, 0 ≤ r ∧ r * r ≤ n ∧ n < (r + 1) * (r + 1) ∧ m_root_floor [.int n] = .ok (.int r) := by
  by_cases h0 : n = 0
  · subst h0
    refine ⟨0, by decide, by decide, by decide, ?_⟩
    simp +decide only [m_root_floor, den_root_floor, ev_seq, seq_nx, seq_rt, seq_ex, seq_bk, seq_ct, seq_ite, fl_ok, fl_ex, fl_ite, ev_set, kSet_ev, ev_ret, ev_retN, ev_nx, ev_bk, ev_ct, ev_raise, ev_if, kIf_ev, ev_drop, kNx_ev, ev_par, kPar_ev, kId_ev, ev_asg, kAsg_ev, ev_for, kFor_ev, ev_V, dVg_ok, ev_C, ev_1, ev_2, bind2_ok, bind2_ite1, bind2_ite2, bind_ite, ev_A, ev_nil, ev_cons, kCons_ev, ev_T, toB_ev, ev_and, ev_or, ev_not, kAnd_ev, kOr_ev, kNot_ev, ev_andV, ev_orV, ev_notV, kAndV_ev, kOrV_ev, kNotV_ev, ev_ife, kIfE_ev, ev_ch, kCh, tup_ev, lst_ev, call_ev, kw_ev, ev_kw, ev_fn, startE_0, startE_s, startE_c, fin_rt, fin_nx, fin_ex, fin_ite, ix_t0, ix_t1, ix_t2, ix_t3, ix_l0, ix_l1, ix_l2, len_l, len_t1, len_t2, len_t3, len_t4, beq_self_eq_true, ev_iL, ev_iT, asL_ev, asT_ev, ev_iA, ev_P, toI_ev, ev_P0, ev_sl, kSl_ev, put_1, gAdd_i, gSub_i, gMul_i, gDiv_p, gMod_p, gPow_l, gShl_l, gShr_l, gLt_i, gLe_i, gGt_i, gGe_i, gEq_i, gNe_i, gNeg_i, gAbs_i, gInt_i, gInt_b, gEq_s, gNe_s, gEq_b, gNe_b, gEq_2, gNe_2, gEq_3, gNe_3, gEq_22, gNe_22, DL.R.bind_ok, DL.R.bind_ex, ev_setL, kSetL_ev, ev_lDisp, kDisp_ev, ev_lList, lOf_l, lOf_t, ev_frz, frz_l, frz_d, frz_n, ev_lend, lend_l, lend_d, atom_i, atom_b, atom_s, ev_lendB, lendB_l, lendB_d, ev_app, app_l, kApp_ev, ev_put, put_l, ev_ixO, ixO_l, ixO_d, put_m, putAll_c, putAll_n, ev_lc, kLst_ev, ev_lcL, wipe_n, wipe_c, r1_2, r1_3, bits_ev, List.getElem?_cons_zero, List.getElem?_cons_succ, List.set_cons_zero, List.set_cons_succ, List.length_cons, List.length_nil, List.length_map, List.append_nil, List.cons_append, List.nil_append, ev_if, turn_nx, turn_ct, turn_bk, turn_rt, turn_ite, kWh_ev, isi_int_int, isi_bool_int, isi_int_bool, isi_bool_bool, isi_int_str, isi_int_none, isi_int_list, isi_int_tup, isi_bool_str, isi_bool_none, isi_bool_list, isi_bool_tup, isi_tup_tup, isi_tup_int, isi_tup_bool, isi_tup_str, isi_tup_none, isi_tup_list, isi_list_list, isi_list_tup, isi_list_int, isi_list_bool, isi_list_str, isi_list_none, isi_str_str, isi_str_int, isi_str_bool, isi_str_none, isi_str_list, isi_str_tup, decide_true, decide_false, not_true_eq_false, not_false_eq_true, ne_eq, decide_eq_true_eq, Bool.not_eq_true', decide_eq_false_iff_not, Bool.not_true, Bool.not_false, Bool.false_eq_true, if_true, if_false, reduceIte]
  · have hb := ib_le b.h
    have h1 : n.natAbs < 2 ^ (ib n) := lt_of_ib (Nat.le_refl _)
    generalize hz : ib n = z at *
    have hj : ((z : Int) + 1) / 2 = (((z + 1) / 2 : Nat) : Int) := by omega
    have hle : n < 2 ^ ((z + 1) / 2) * 2 ^ ((z + 1) / 2) := by
      have e : (2 : Int) ^ ((z + 1) / 2) * 2 ^ ((z + 1) / 2) = ((2 ^ ((z + 1) / 2 + (z + 1) / 2) : Nat) : Int) := by
        rw [← Int.pow_add]; push_cast; rfl
      have h2 : 2 ^ z ≤ 2 ^ ((z + 1) / 2 + (z + 1) / 2) := Nat.pow_le_pow_right (by decide) (by omega)
      rw [e]
      omega
    have hpos : (0 : Int) < 2 ^ ((z + 1) / 2) := Int.pow_pos (by decide)
    have bf : Bd ((2 : Int) ^ ((z + 1) / 2)) 9000 := by
      constructor
      have e : ((2 : Int) ^ ((z + 1) / 2)).natAbs = 2 ^ ((z + 1) / 2) := by rw [Int.natAbs_pow]; rfl
      rw [e]
      exact Nat.pow_lt_pow_right (by decide) (by omega)
    have hlt : n < (2 ^ ((z + 1) / 2) + 1) * (2 ^ ((z + 1) / 2) + 1) := by
      generalize (2 : Int) ^ ((z + 1) / 2) = f at *
      have : (f + 1) * (f + 1) = f * f + 2 * f + 1 := by grind
      omega
    obtain ⟨r, r1, r2, r3, e⟩ := root_loop n (by omega) _ _ none (Nat.le_refl _) hpos bf hlt
    refine ⟨r, r1, r2, r3, ?_⟩
    have hz' : Builtin.Int.intBits n = z := hz
    have hs : gShl (.int 1) (.int (((z : Int) + 1) / 2)) = .ok (.int (2 ^ ((z + 1) / 2))) := by
      rw [gShl_i (by omega) (by have : Nat.log2 1 = 0 := by decide
                                omega), hj, Int.toNat_natCast, Int.one_mul]
    simp +decide only [m_root_floor, den_root_floor, ev_seq, seq_nx, seq_rt, seq_ex, seq_bk, seq_ct, seq_ite, fl_ok, fl_ex, fl_ite, ev_set, kSet_ev, ev_ret, ev_retN, ev_nx, ev_bk, ev_ct, ev_raise, ev_if, kIf_ev, ev_drop, kNx_ev, ev_par, kPar_ev, kId_ev, ev_asg, kAsg_ev, ev_for, kFor_ev, ev_V, dVg_ok, ev_C, ev_1, ev_2, bind2_ok, bind2_ite1, bind2_ite2, bind_ite, ev_A, ev_nil, ev_cons, kCons_ev, ev_T, toB_ev, ev_and, ev_or, ev_not, kAnd_ev, kOr_ev, kNot_ev, ev_andV, ev_orV, ev_notV, kAndV_ev, kOrV_ev, kNotV_ev, ev_ife, kIfE_ev, ev_ch, kCh, tup_ev, lst_ev, call_ev, kw_ev, ev_kw, ev_fn, startE_0, startE_s, startE_c, fin_rt, fin_nx, fin_ex, fin_ite, ix_t0, ix_t1, ix_t2, ix_t3, ix_l0, ix_l1, ix_l2, len_l, len_t1, len_t2, len_t3, len_t4, beq_self_eq_true, ev_iL, ev_iT, asL_ev, asT_ev, ev_iA, ev_P, toI_ev, ev_P0, ev_sl, kSl_ev, put_1, gAdd_i, gSub_i, gMul_i, gDiv_p, gMod_p, gPow_l, gShl_l, gShr_l, gLt_i, gLe_i, gGt_i, gGe_i, gEq_i, gNe_i, gNeg_i, gAbs_i, gInt_i, gInt_b, gEq_s, gNe_s, gEq_b, gNe_b, gEq_2, gNe_2, gEq_3, gNe_3, gEq_22, gNe_22, DL.R.bind_ok, DL.R.bind_ex, ev_setL, kSetL_ev, ev_lDisp, kDisp_ev, ev_lList, lOf_l, lOf_t, ev_frz, frz_l, frz_d, frz_n, ev_lend, lend_l, lend_d, atom_i, atom_b, atom_s, ev_lendB, lendB_l, lendB_d, ev_app, app_l, kApp_ev, ev_put, put_l, ev_ixO, ixO_l, ixO_d, put_m, putAll_c, putAll_n, ev_lc, kLst_ev, ev_lcL, wipe_n, wipe_c, r1_2, r1_3, bits_ev, List.getElem?_cons_zero, List.getElem?_cons_succ, List.set_cons_zero, List.set_cons_succ, List.length_cons, List.length_nil, List.length_map, List.append_nil, List.cons_append, List.nil_append, ev_if, turn_nx, turn_ct, turn_bk, turn_rt, turn_ite, kWh_ev, isi_int_int, isi_bool_int, isi_int_bool, isi_bool_bool, isi_int_str, isi_int_none, isi_int_list, isi_int_tup, isi_bool_str, isi_bool_none, isi_bool_list, isi_bool_tup, isi_tup_tup, isi_tup_int, isi_tup_bool, isi_tup_str, isi_tup_none, isi_tup_list, isi_list_list, isi_list_tup, isi_list_int, isi_list_bool, isi_list_str, isi_list_none, isi_str_str, isi_str_int, isi_str_bool, isi_str_none, isi_str_list, isi_str_tup, decide_true, decide_false, not_true_eq_false, not_false_eq_true, ne_eq, decide_eq_true_eq, Bool.not_eq_true', decide_eq_false_iff_not, Bool.not_true, Bool.not_false, Bool.false_eq_true, if_true, if_false, reduceIte, h0, hz', hs, e]
theorem sign_of_eq (d a b : Int) (hd : 0 < d) {k1 k2 k3 : Nat} [Bd d k1] [Bd a k2] [Bd b k3] (h1 : k1 ≤ 1000000) (h2 : k2 ≤ 1000000) (h3 : k3 ≤ 1000000) : ∃ v : Int, m_sign_of [.int d, .int a, .int b] = .ok (.int v) ∧ (v < 0 ↔ Lt0 d a b) := by
  have i1 : k2 + k2 ≤ 134217728 := by omega
  have i2 : k1 + k3 ≤ 134217728 := by omega
  have i3 : k1 + k3 + k3 ≤ 134217728 := by omega
  by_cases ha : a = 0
  · refine ⟨a + b, ?_, by unfold Lt0; omega⟩
    simp +decide only [m_sign_of, den_sign_of, ev_seq, seq_nx, seq_rt, seq_ex, seq_bk, seq_ct, seq_ite, fl_ok, fl_ex, fl_ite, ev_set, kSet_ev, ev_ret, ev_retN, ev_nx, ev_bk, ev_ct, ev_raise, ev_if, kIf_ev, ev_drop, kNx_ev, ev_par, kPar_ev, kId_ev, ev_asg, kAsg_ev, ev_for, kFor_ev, ev_V, dVg_ok, ev_C, ev_1, ev_2, bind2_ok, bind2_ite1, bind2_ite2, bind_ite, ev_A, ev_nil, ev_cons, kCons_ev, ev_T, toB_ev, ev_and, ev_or, ev_not, kAnd_ev, kOr_ev, kNot_ev, ev_andV, ev_orV, ev_notV, kAndV_ev, kOrV_ev, kNotV_ev, ev_ife, kIfE_ev, ev_ch, kCh, tup_ev, lst_ev, call_ev, kw_ev, ev_kw, ev_fn, startE_0, startE_s, startE_c, fin_rt, fin_nx, fin_ex, fin_ite, ix_t0, ix_t1, ix_t2, ix_t3, ix_l0, ix_l1, ix_l2, len_l, len_t1, len_t2, len_t3, len_t4, beq_self_eq_true, ev_iL, ev_iT, asL_ev, asT_ev, ev_iA, ev_P, toI_ev, ev_P0, ev_sl, kSl_ev, put_1, gAdd_i, gSub_i, gMul_i, gDiv_p, gMod_p, gPow_l, gShl_l, gShr_l, gLt_i, gLe_i, gGt_i, gGe_i, gEq_i, gNe_i, gNeg_i, gAbs_i, gInt_i, gInt_b, gEq_s, gNe_s, gEq_b, gNe_b, gEq_2, gNe_2, gEq_3, gNe_3, gEq_22, gNe_22, DL.R.bind_ok, DL.R.bind_ex, ev_setL, kSetL_ev, ev_lDisp, kDisp_ev, ev_lList, lOf_l, lOf_t, ev_frz, frz_l, frz_d, frz_n, ev_lend, lend_l, lend_d, atom_i, atom_b, atom_s, ev_lendB, lendB_l, lendB_d, ev_app, app_l, kApp_ev, ev_put, put_l, ev_ixO, ixO_l, ixO_d, put_m, putAll_c, putAll_n, ev_lc, kLst_ev, ev_lcL, wipe_n, wipe_c, r1_2, r1_3, bits_ev, List.getElem?_cons_zero, List.getElem?_cons_succ, List.set_cons_zero, List.set_cons_succ, List.length_cons, List.length_nil, List.length_map, List.append_nil, List.cons_append, List.nil_append, ev_if, turn_nx, turn_ct, turn_bk, turn_rt, turn_ite, kWh_ev, isi_int_int, isi_bool_int, isi_int_bool, isi_bool_bool, isi_int_str, isi_int_none, isi_int_list, isi_int_tup, isi_bool_str, isi_bool_none, isi_bool_list, isi_bool_tup, isi_tup_tup, isi_tup_int, isi_tup_bool, isi_tup_str, isi_tup_none, isi_tup_list, isi_list_list, isi_list_tup, isi_list_int, isi_list_bool, isi_list_str, isi_list_none, isi_str_str, isi_str_int, isi_str_bool, isi_str_none, isi_str_list, isi_str_tup, decide_true, decide_false, not_true_eq_false, not_false_eq_true, ne_eq, decide_eq_true_eq, Bool.not_eq_true', decide_eq_false_iff_not, Bool.not_true, Bool.not_false, Bool.false_eq_true, if_true, if_false, reduceIte, ha]
  by_cases hb : b = 0
  · refine ⟨a + b, ?_, by unfold Lt0; omega⟩
    simp +decide only [m_sign_of, den_sign_of, ev_seq, seq_nx, seq_rt, seq_ex, seq_bk, seq_ct, seq_ite, fl_ok, fl_ex, fl_ite, ev_set, kSet_ev, ev_ret, ev_retN, ev_nx, ev_bk, ev_ct, ev_raise, ev_if, kIf_ev, ev_drop, kNx_ev, ev_par, kPar_ev, kId_ev, ev_asg, kAsg_ev, ev_for, kFor_ev, ev_V, dVg_ok, ev_C, ev_1, ev_2, bind2_ok, bind2_ite1, bind2_ite2, bind_ite, ev_A, ev_nil, ev_cons, kCons_ev, ev_T, toB_ev, ev_and, ev_or, ev_not, kAnd_ev, kOr_ev, kNot_ev, ev_andV, ev_orV, ev_notV, kAndV_ev, kOrV_ev, kNotV_ev, ev_ife, kIfE_ev, ev_ch, kCh, tup_ev, lst_ev, call_ev, kw_ev, ev_kw, ev_fn, startE_0, startE_s, startE_c, fin_rt, fin_nx, fin_ex, fin_ite, ix_t0, ix_t1, ix_t2, ix_t3, ix_l0, ix_l1, ix_l2, len_l, len_t1, len_t2, len_t3, len_t4, beq_self_eq_true, ev_iL, ev_iT, asL_ev, asT_ev, ev_iA, ev_P, toI_ev, ev_P0, ev_sl, kSl_ev, put_1, gAdd_i, gSub_i, gMul_i, gDiv_p, gMod_p, gPow_l, gShl_l, gShr_l, gLt_i, gLe_i, gGt_i, gGe_i, gEq_i, gNe_i, gNeg_i, gAbs_i, gInt_i, gInt_b, gEq_s, gNe_s, gEq_b, gNe_b, gEq_2, gNe_2, gEq_3, gNe_3, gEq_22, gNe_22, DL.R.bind_ok, DL.R.bind_ex, ev_setL, kSetL_ev, ev_lDisp, kDisp_ev, ev_lList, lOf_l, lOf_t, ev_frz, frz_l, frz_d, frz_n, ev_lend, lend_l, lend_d, atom_i, atom_b, atom_s, ev_lendB, lendB_l, lendB_d, ev_app, app_l, kApp_ev, ev_put, put_l, ev_ixO, ixO_l, ixO_d, put_m, putAll_c, putAll_n, ev_lc, kLst_ev, ev_lcL, wipe_n, wipe_c, r1_2, r1_3, bits_ev, List.getElem?_cons_zero, List.getElem?_cons_succ, List.set_cons_zero, List.set_cons_succ, List.length_cons, List.length_nil, List.length_map, List.append_nil, List.cons_append, List.nil_append, ev_if, turn_nx, turn_ct, turn_bk, turn_rt, turn_ite, kWh_ev, isi_int_int, isi_bool_int, isi_int_bool, isi_bool_bool, isi_int_str, isi_int_none, isi_int_list, isi_int_tup, isi_bool_str, isi_bool_none, isi_bool_list, isi_bool_tup, isi_tup_tup, isi_tup_int, isi_tup_bool, isi_tup_str, isi_tup_none, isi_tup_list, isi_list_list, isi_list_tup, isi_list_int, isi_list_bool, isi_list_str, isi_list_none, isi_str_str, isi_str_int, isi_str_bool, isi_str_none, isi_str_list, isi_str_tup, decide_true, decide_false, not_true_eq_false, not_false_eq_true, ne_eq, decide_eq_true_eq, Bool.not_eq_true', decide_eq_false_iff_not, Bool.not_true, Bool.not_false, Bool.false_eq_true, if_true, if_false, reduceIte, ha, hb]
  by_cases pa : 0 < a
  · by_cases pb : 0 < b
    · refine ⟨a + b, ?_, by unfold Lt0; omega⟩
      simp +decide only [m_sign_of, den_sign_of, ev_seq, seq_nx, seq_rt, seq_ex, seq_bk, seq_ct, seq_ite, fl_ok, fl_ex, fl_ite, ev_set, kSet_ev, ev_ret, ev_retN, ev_nx, ev_bk, ev_ct, ev_raise, ev_if, kIf_ev, ev_drop, kNx_ev, ev_par, kPar_ev, kId_ev, ev_asg, kAsg_ev, ev_for, kFor_ev, ev_V, dVg_ok, ev_C, ev_1, ev_2, bind2_ok, bind2_ite1, bind2_ite2, bind_ite, ev_A, ev_nil, ev_cons, kCons_ev, ev_T, toB_ev, ev_and, ev_or, ev_not, kAnd_ev, kOr_ev, kNot_ev, ev_andV, ev_orV, ev_notV, kAndV_ev, kOrV_ev, kNotV_ev, ev_ife, kIfE_ev, ev_ch, kCh, tup_ev, lst_ev, call_ev, kw_ev, ev_kw, ev_fn, startE_0, startE_s, startE_c, fin_rt, fin_nx, fin_ex, fin_ite, ix_t0, ix_t1, ix_t2, ix_t3, ix_l0, ix_l1, ix_l2, len_l, len_t1, len_t2, len_t3, len_t4, beq_self_eq_true, ev_iL, ev_iT, asL_ev, asT_ev, ev_iA, ev_P, toI_ev, ev_P0, ev_sl, kSl_ev, put_1, gAdd_i, gSub_i, gMul_i, gDiv_p, gMod_p, gPow_l, gShl_l, gShr_l, gLt_i, gLe_i, gGt_i, gGe_i, gEq_i, gNe_i, gNeg_i, gAbs_i, gInt_i, gInt_b, gEq_s, gNe_s, gEq_b, gNe_b, gEq_2, gNe_2, gEq_3, gNe_3, gEq_22, gNe_22, DL.R.bind_ok, DL.R.bind_ex, ev_setL, kSetL_ev, ev_lDisp, kDisp_ev, ev_lList, lOf_l, lOf_t, ev_frz, frz_l, frz_d, frz_n, ev_lend, lend_l, lend_d, atom_i, atom_b, atom_s, ev_lendB, lendB_l, lendB_d, ev_app, app_l, kApp_ev, ev_put, put_l, ev_ixO, ixO_l, ixO_d, put_m, putAll_c, putAll_n, ev_lc, kLst_ev, ev_lcL, wipe_n, wipe_c, r1_2, r1_3, bits_ev, List.getElem?_cons_zero, List.getElem?_cons_succ, List.set_cons_zero, List.set_cons_succ, List.length_cons, List.length_nil, List.length_map, List.append_nil, List.cons_append, List.nil_append, ev_if, turn_nx, turn_ct, turn_bk, turn_rt, turn_ite, kWh_ev, isi_int_int, isi_bool_int, isi_int_bool, isi_bool_bool, isi_int_str, isi_int_none, isi_int_list, isi_int_tup, isi_bool_str, isi_bool_none, isi_bool_list, isi_bool_tup, isi_tup_tup, isi_tup_int, isi_tup_bool, isi_tup_str, isi_tup_none, isi_tup_list, isi_list_list, isi_list_tup, isi_list_int, isi_list_bool, isi_list_str, isi_list_none, isi_str_str, isi_str_int, isi_str_bool, isi_str_none, isi_str_list, isi_str_tup, decide_true, decide_false, not_true_eq_false, not_false_eq_true, ne_eq, decide_eq_true_eq, Bool.not_eq_true', decide_eq_false_iff_not, Bool.not_true, Bool.not_false, Bool.false_eq_true, if_true, if_false, reduceIte, ha, hb, pa, pb]
    · refine ⟨a * a - d * b * b, ?_, by unfold Lt0; omega⟩
      simp +decide only [m_sign_of, den_sign_of, ev_seq, seq_nx, seq_rt, seq_ex, seq_bk, seq_ct, seq_ite, fl_ok, fl_ex, fl_ite, ev_set, kSet_ev, ev_ret, ev_retN, ev_nx, ev_bk, ev_ct, ev_raise, ev_if, kIf_ev, ev_drop, kNx_ev, ev_par, kPar_ev, kId_ev, ev_asg, kAsg_ev, ev_for, kFor_ev, ev_V, dVg_ok, ev_C, ev_1, ev_2, bind2_ok, bind2_ite1, bind2_ite2, bind_ite, ev_A, ev_nil, ev_cons, kCons_ev, ev_T, toB_ev, ev_and, ev_or, ev_not, kAnd_ev, kOr_ev, kNot_ev, ev_andV, ev_orV, ev_notV, kAndV_ev, kOrV_ev, kNotV_ev, ev_ife, kIfE_ev, ev_ch, kCh, tup_ev, lst_ev, call_ev, kw_ev, ev_kw, ev_fn, startE_0, startE_s, startE_c, fin_rt, fin_nx, fin_ex, fin_ite, ix_t0, ix_t1, ix_t2, ix_t3, ix_l0, ix_l1, ix_l2, len_l, len_t1, len_t2, len_t3, len_t4, beq_self_eq_true, ev_iL, ev_iT, asL_ev, asT_ev, ev_iA, ev_P, toI_ev, ev_P0, ev_sl, kSl_ev, put_1, gAdd_i, gSub_i, gMul_i, gDiv_p, gMod_p, gPow_l, gShl_l, gShr_l, gLt_i, gLe_i, gGt_i, gGe_i, gEq_i, gNe_i, gNeg_i, gAbs_i, gInt_i, gInt_b, gEq_s, gNe_s, gEq_b, gNe_b, gEq_2, gNe_2, gEq_3, gNe_3, gEq_22, gNe_22, DL.R.bind_ok, DL.R.bind_ex, ev_setL, kSetL_ev, ev_lDisp, kDisp_ev, ev_lList, lOf_l, lOf_t, ev_frz, frz_l, frz_d, frz_n, ev_lend, lend_l, lend_d, atom_i, atom_b, atom_s, ev_lendB, lendB_l, lendB_d, ev_app, app_l, kApp_ev, ev_put, put_l, ev_ixO, ixO_l, ixO_d, put_m, putAll_c, putAll_n, ev_lc, kLst_ev, ev_lcL, wipe_n, wipe_c, r1_2, r1_3, bits_ev, List.getElem?_cons_zero, List.getElem?_cons_succ, List.set_cons_zero, List.set_cons_succ, List.length_cons, List.length_nil, List.length_map, List.append_nil, List.cons_append, List.nil_append, ev_if, turn_nx, turn_ct, turn_bk, turn_rt, turn_ite, kWh_ev, isi_int_int, isi_bool_int, isi_int_bool, isi_bool_bool, isi_int_str, isi_int_none, isi_int_list, isi_int_tup, isi_bool_str, isi_bool_none, isi_bool_list, isi_bool_tup, isi_tup_tup, isi_tup_int, isi_tup_bool, isi_tup_str, isi_tup_none, isi_tup_list, isi_list_list, isi_list_tup, isi_list_int, isi_list_bool, isi_list_str, isi_list_none, isi_str_str, isi_str_int, isi_str_bool, isi_str_none, isi_str_list, isi_str_tup, decide_true, decide_false, not_true_eq_false, not_false_eq_true, ne_eq, decide_eq_true_eq, Bool.not_eq_true', decide_eq_false_iff_not, Bool.not_true, Bool.not_false, Bool.false_eq_true, if_true, if_false, reduceIte, ha, hb, pa, pb, i1, i2, i3]
  · by_cases pb : 0 < b
    · refine ⟨d * b * b - a * a, ?_, by unfold Lt0; omega⟩
      simp +decide only [m_sign_of, den_sign_of, ev_seq, seq_nx, seq_rt, seq_ex, seq_bk, seq_ct, seq_ite, fl_ok, fl_ex, fl_ite, ev_set, kSet_ev, ev_ret, ev_retN, ev_nx, ev_bk, ev_ct, ev_raise, ev_if, kIf_ev, ev_drop, kNx_ev, ev_par, kPar_ev, kId_ev, ev_asg, kAsg_ev, ev_for, kFor_ev, ev_V, dVg_ok, ev_C, ev_1, ev_2, bind2_ok, bind2_ite1, bind2_ite2, bind_ite, ev_A, ev_nil, ev_cons, kCons_ev, ev_T, toB_ev, ev_and, ev_or, ev_not, kAnd_ev, kOr_ev, kNot_ev, ev_andV, ev_orV, ev_notV, kAndV_ev, kOrV_ev, kNotV_ev, ev_ife, kIfE_ev, ev_ch, kCh, tup_ev, lst_ev, call_ev, kw_ev, ev_kw, ev_fn, startE_0, startE_s, startE_c, fin_rt, fin_nx, fin_ex, fin_ite, ix_t0, ix_t1, ix_t2, ix_t3, ix_l0, ix_l1, ix_l2, len_l, len_t1, len_t2, len_t3, len_t4, beq_self_eq_true, ev_iL, ev_iT, asL_ev, asT_ev, ev_iA, ev_P, toI_ev, ev_P0, ev_sl, kSl_ev, put_1, gAdd_i, gSub_i, gMul_i, gDiv_p, gMod_p, gPow_l, gShl_l, gShr_l, gLt_i, gLe_i, gGt_i, gGe_i, gEq_i, gNe_i, gNeg_i, gAbs_i, gInt_i, gInt_b, gEq_s, gNe_s, gEq_b, gNe_b, gEq_2, gNe_2, gEq_3, gNe_3, gEq_22, gNe_22, DL.R.bind_ok, DL.R.bind_ex, ev_setL, kSetL_ev, ev_lDisp, kDisp_ev, ev_lList, lOf_l, lOf_t, ev_frz, frz_l, frz_d, frz_n, ev_lend, lend_l, lend_d, atom_i, atom_b, atom_s, ev_lendB, lendB_l, lendB_d, ev_app, app_l, kApp_ev, ev_put, put_l, ev_ixO, ixO_l, ixO_d, put_m, putAll_c, putAll_n, ev_lc, kLst_ev, ev_lcL, wipe_n, wipe_c, r1_2, r1_3, bits_ev, List.getElem?_cons_zero, List.getElem?_cons_succ, List.set_cons_zero, List.set_cons_succ, List.length_cons, List.length_nil, List.length_map, List.append_nil, List.cons_append, List.nil_append, ev_if, turn_nx, turn_ct, turn_bk, turn_rt, turn_ite, kWh_ev, isi_int_int, isi_bool_int, isi_int_bool, isi_bool_bool, isi_int_str, isi_int_none, isi_int_list, isi_int_tup, isi_bool_str, isi_bool_none, isi_bool_list, isi_bool_tup, isi_tup_tup, isi_tup_int, isi_tup_bool, isi_tup_str, isi_tup_none, isi_tup_list, isi_list_list, isi_list_tup, isi_list_int, isi_list_bool, isi_list_str, isi_list_none, isi_str_str, isi_str_int, isi_str_bool, isi_str_none, isi_str_list, isi_str_tup, decide_true, decide_false, not_true_eq_false, not_false_eq_true, ne_eq, decide_eq_true_eq, Bool.not_eq_true', decide_eq_false_iff_not, Bool.not_true, Bool.not_false, Bool.false_eq_true, if_true, if_false, reduceIte, ha, hb, pa, pb, i1, i2, i3]
    · refine ⟨a + b, ?_, by unfold Lt0; omega⟩
      simp +decide only [m_sign_of, den_sign_of, ev_seq, seq_nx, seq_rt, seq_ex, seq_bk, seq_ct, seq_ite, fl_ok, fl_ex, fl_ite, ev_set, kSet_ev, ev_ret, ev_retN, ev_nx, ev_bk, ev_ct, ev_raise, ev_if, kIf_ev, ev_drop, kNx_ev, ev_par, kPar_ev, kId_ev, ev_asg, kAsg_ev, ev_for, kFor_ev, ev_V, dVg_ok, ev_C, ev_1, ev_2, bind2_ok, bind2_ite1, bind2_ite2, bind_ite, ev_A, ev_nil, ev_cons, kCons_ev, ev_T, toB_ev, ev_and, ev_or, ev_not, kAnd_ev, kOr_ev, kNot_ev, ev_andV, ev_orV, ev_notV, kAndV_ev, kOrV_ev, kNotV_ev, ev_ife, kIfE_ev, ev_ch, kCh, tup_ev, lst_ev, call_ev, kw_ev, ev_kw, ev_fn, startE_0, startE_s, startE_c, fin_rt, fin_nx, fin_ex, fin_ite, ix_t0, ix_t1, ix_t2, ix_t3, ix_l0, ix_l1, ix_l2, len_l, len_t1, len_t2, len_t3, len_t4, beq_self_eq_true, ev_iL, ev_iT, asL_ev, asT_ev, ev_iA, ev_P, toI_ev, ev_P0, ev_sl, kSl_ev, put_1, gAdd_i, gSub_i, gMul_i, gDiv_p, gMod_p, gPow_l, gShl_l, gShr_l, gLt_i, gLe_i, gGt_i, gGe_i, gEq_i, gNe_i, gNeg_i, gAbs_i, gInt_i, gInt_b, gEq_s, gNe_s, gEq_b, gNe_b, gEq_2, gNe_2, gEq_3, gNe_3, gEq_22, gNe_22, DL.R.bind_ok, DL.R.bind_ex, ev_setL, kSetL_ev, ev_lDisp, kDisp_ev, ev_lList, lOf_l, lOf_t, ev_frz, frz_l, frz_d, frz_n, ev_lend, lend_l, lend_d, atom_i, atom_b, atom_s, ev_lendB, lendB_l, lendB_d, ev_app, app_l, kApp_ev, ev_put, put_l, ev_ixO, ixO_l, ixO_d, put_m, putAll_c, putAll_n, ev_lc, kLst_ev, ev_lcL, wipe_n, wipe_c, r1_2, r1_3, bits_ev, List.getElem?_cons_zero, List.getElem?_cons_succ, List.set_cons_zero, List.set_cons_succ, List.length_cons, List.length_nil, List.length_map, List.append_nil, List.cons_append, List.nil_append, ev_if, turn_nx, turn_ct, turn_bk, turn_rt, turn_ite, kWh_ev, isi_int_int, isi_bool_int, isi_int_bool, isi_bool_bool, isi_int_str, isi_int_none, isi_int_list, isi_int_tup, isi_bool_str, isi_bool_none, isi_bool_list, isi_bool_tup, isi_tup_tup, isi_tup_int, isi_tup_bool, isi_tup_str, isi_tup_none, isi_tup_list, isi_list_list, isi_list_tup, isi_list_int, isi_list_bool, isi_list_str, isi_list_none, isi_str_str, isi_str_int, isi_str_bool, isi_str_none, isi_str_list, isi_str_tup, decide_true, decide_false, not_true_eq_false, not_false_eq_true, ne_eq, decide_eq_true_eq, Bool.not_eq_true', decide_eq_false_iff_not, Bool.not_true, Bool.not_false, Bool.false_eq_true, if_true, if_false, reduceIte, ha, hb, pa, pb]
theorem law_sign_eq (d a b : Int) (hd : Root d) {k1 k2 k3 : Nat} [Bd d k1] [Bd a k2] [Bd b k3] (h1 : k1 ≤ 1000000) (h2 : k2 ≤ 1000000) (h3 : k3 ≤ 1000000) : ∃ v : Int, m_law_sign [.int d, .int a, .int b] = .ok (.int v) ∧ (v < 0 ↔ Lt0 d a b) := by
  have i1 : k2 + k2 ≤ 134217728 := by omega
  have i2 : k1 + k3 ≤ 134217728 := by omega
  have i3 : k1 + k3 + k3 ≤ 134217728 := by omega
  by_cases c1 : 0 ≤ a ∧ 0 ≤ b
  · by_cases c : 0 < a + b
    · refine ⟨1, ?_, by unfold Lt0; omega⟩
      simp +decide only [m_law_sign, den_law_sign, ev_seq, seq_nx, seq_rt, seq_ex, seq_bk, seq_ct, seq_ite, fl_ok, fl_ex, fl_ite, ev_set, kSet_ev, ev_ret, ev_retN, ev_nx, ev_bk, ev_ct, ev_raise, ev_if, kIf_ev, ev_drop, kNx_ev, ev_par, kPar_ev, kId_ev, ev_asg, kAsg_ev, ev_for, kFor_ev, ev_V, dVg_ok, ev_C, ev_1, ev_2, bind2_ok, bind2_ite1, bind2_ite2, bind_ite, ev_A, ev_nil, ev_cons, kCons_ev, ev_T, toB_ev, ev_and, ev_or, ev_not, kAnd_ev, kOr_ev, kNot_ev, ev_andV, ev_orV, ev_notV, kAndV_ev, kOrV_ev, kNotV_ev, ev_ife, kIfE_ev, ev_ch, kCh, tup_ev, lst_ev, call_ev, kw_ev, ev_kw, ev_fn, startE_0, startE_s, startE_c, fin_rt, fin_nx, fin_ex, fin_ite, ix_t0, ix_t1, ix_t2, ix_t3, ix_l0, ix_l1, ix_l2, len_l, len_t1, len_t2, len_t3, len_t4, beq_self_eq_true, ev_iL, ev_iT, asL_ev, asT_ev, ev_iA, ev_P, toI_ev, ev_P0, ev_sl, kSl_ev, put_1, gAdd_i, gSub_i, gMul_i, gDiv_p, gMod_p, gPow_l, gShl_l, gShr_l, gLt_i, gLe_i, gGt_i, gGe_i, gEq_i, gNe_i, gNeg_i, gAbs_i, gInt_i, gInt_b, gEq_s, gNe_s, gEq_b, gNe_b, gEq_2, gNe_2, gEq_3, gNe_3, gEq_22, gNe_22, DL.R.bind_ok, DL.R.bind_ex, ev_setL, kSetL_ev, ev_lDisp, kDisp_ev, ev_lList, lOf_l, lOf_t, ev_frz, frz_l, frz_d, frz_n, ev_lend, lend_l, lend_d, atom_i, atom_b, atom_s, ev_lendB, lendB_l, lendB_d, ev_app, app_l, kApp_ev, ev_put, put_l, ev_ixO, ixO_l, ixO_d, put_m, putAll_c, putAll_n, ev_lc, kLst_ev, ev_lcL, wipe_n, wipe_c, r1_2, r1_3, bits_ev, List.getElem?_cons_zero, List.getElem?_cons_succ, List.set_cons_zero, List.set_cons_succ, List.length_cons, List.length_nil, List.length_map, List.append_nil, List.cons_append, List.nil_append, ev_if, turn_nx, turn_ct, turn_bk, turn_rt, turn_ite, kWh_ev, isi_int_int, isi_bool_int, isi_int_bool, isi_bool_bool, isi_int_str, isi_int_none, isi_int_list, isi_int_tup, isi_bool_str, isi_bool_none, isi_bool_list, isi_bool_tup, isi_tup_tup, isi_tup_int, isi_tup_bool, isi_tup_str, isi_tup_none, isi_tup_list, isi_list_list, isi_list_tup, isi_list_int, isi_list_bool, isi_list_str, isi_list_none, isi_str_str, isi_str_int, isi_str_bool, isi_str_none, isi_str_list, isi_str_tup, decide_true, decide_false, not_true_eq_false, not_false_eq_true, ne_eq, decide_eq_true_eq, Bool.not_eq_true', decide_eq_false_iff_not, Bool.not_true, Bool.not_false, Bool.false_eq_true, if_true, if_false, reduceIte, c1.1, c1.2, c]
    · refine ⟨0, ?_, by unfold Lt0; omega⟩
      simp +decide only [m_law_sign, den_law_sign, ev_seq, seq_nx, seq_rt, seq_ex, seq_bk, seq_ct, seq_ite, fl_ok, fl_ex, fl_ite, ev_set, kSet_ev, ev_ret, ev_retN, ev_nx, ev_bk, ev_ct, ev_raise, ev_if, kIf_ev, ev_drop, kNx_ev, ev_par, kPar_ev, kId_ev, ev_asg, kAsg_ev, ev_for, kFor_ev, ev_V, dVg_ok, ev_C, ev_1, ev_2, bind2_ok, bind2_ite1, bind2_ite2, bind_ite, ev_A, ev_nil, ev_cons, kCons_ev, ev_T, toB_ev, ev_and, ev_or, ev_not, kAnd_ev, kOr_ev, kNot_ev, ev_andV, ev_orV, ev_notV, kAndV_ev, kOrV_ev, kNotV_ev, ev_ife, kIfE_ev, ev_ch, kCh, tup_ev, lst_ev, call_ev, kw_ev, ev_kw, ev_fn, startE_0, startE_s, startE_c, fin_rt, fin_nx, fin_ex, fin_ite, ix_t0, ix_t1, ix_t2, ix_t3, ix_l0, ix_l1, ix_l2, len_l, len_t1, len_t2, len_t3, len_t4, beq_self_eq_true, ev_iL, ev_iT, asL_ev, asT_ev, ev_iA, ev_P, toI_ev, ev_P0, ev_sl, kSl_ev, put_1, gAdd_i, gSub_i, gMul_i, gDiv_p, gMod_p, gPow_l, gShl_l, gShr_l, gLt_i, gLe_i, gGt_i, gGe_i, gEq_i, gNe_i, gNeg_i, gAbs_i, gInt_i, gInt_b, gEq_s, gNe_s, gEq_b, gNe_b, gEq_2, gNe_2, gEq_3, gNe_3, gEq_22, gNe_22, DL.R.bind_ok, DL.R.bind_ex, ev_setL, kSetL_ev, ev_lDisp, kDisp_ev, ev_lList, lOf_l, lOf_t, ev_frz, frz_l, frz_d, frz_n, ev_lend, lend_l, lend_d, atom_i, atom_b, atom_s, ev_lendB, lendB_l, lendB_d, ev_app, app_l, kApp_ev, ev_put, put_l, ev_ixO, ixO_l, ixO_d, put_m, putAll_c, putAll_n, ev_lc, kLst_ev, ev_lcL, wipe_n, wipe_c, r1_2, r1_3, bits_ev, List.getElem?_cons_zero, List.getElem?_cons_succ, List.set_cons_zero, List.set_cons_succ, List.length_cons, List.length_nil, List.length_map, List.append_nil, List.cons_append, List.nil_append, ev_if, turn_nx, turn_ct, turn_bk, turn_rt, turn_ite, kWh_ev, isi_int_int, isi_bool_int, isi_int_bool, isi_bool_bool, isi_int_str, isi_int_none, isi_int_list, isi_int_tup, isi_bool_str, isi_bool_none, isi_bool_list, isi_bool_tup, isi_tup_tup, isi_tup_int, isi_tup_bool, isi_tup_str, isi_tup_none, isi_tup_list, isi_list_list, isi_list_tup, isi_list_int, isi_list_bool, isi_list_str, isi_list_none, isi_str_str, isi_str_int, isi_str_bool, isi_str_none, isi_str_list, isi_str_tup, decide_true, decide_false, not_true_eq_false, not_false_eq_true, ne_eq, decide_eq_true_eq, Bool.not_eq_true', decide_eq_false_iff_not, Bool.not_true, Bool.not_false, Bool.false_eq_true, if_true, if_false, reduceIte, c1.1, c1.2, c]
  by_cases c2 : a ≤ 0 ∧ b ≤ 0
  · refine ⟨-1, ?_, by unfold Lt0; omega⟩
    by_cases ha : 0 ≤ a
    · have hb : ¬ 0 ≤ b := fun z => c1 ⟨ha, z⟩
      simp +decide only [m_law_sign, den_law_sign, ev_seq, seq_nx, seq_rt, seq_ex, seq_bk, seq_ct, seq_ite, fl_ok, fl_ex, fl_ite, ev_set, kSet_ev, ev_ret, ev_retN, ev_nx, ev_bk, ev_ct, ev_raise, ev_if, kIf_ev, ev_drop, kNx_ev, ev_par, kPar_ev, kId_ev, ev_asg, kAsg_ev, ev_for, kFor_ev, ev_V, dVg_ok, ev_C, ev_1, ev_2, bind2_ok, bind2_ite1, bind2_ite2, bind_ite, ev_A, ev_nil, ev_cons, kCons_ev, ev_T, toB_ev, ev_and, ev_or, ev_not, kAnd_ev, kOr_ev, kNot_ev, ev_andV, ev_orV, ev_notV, kAndV_ev, kOrV_ev, kNotV_ev, ev_ife, kIfE_ev, ev_ch, kCh, tup_ev, lst_ev, call_ev, kw_ev, ev_kw, ev_fn, startE_0, startE_s, startE_c, fin_rt, fin_nx, fin_ex, fin_ite, ix_t0, ix_t1, ix_t2, ix_t3, ix_l0, ix_l1, ix_l2, len_l, len_t1, len_t2, len_t3, len_t4, beq_self_eq_true, ev_iL, ev_iT, asL_ev, asT_ev, ev_iA, ev_P, toI_ev, ev_P0, ev_sl, kSl_ev, put_1, gAdd_i, gSub_i, gMul_i, gDiv_p, gMod_p, gPow_l, gShl_l, gShr_l, gLt_i, gLe_i, gGt_i, gGe_i, gEq_i, gNe_i, gNeg_i, gAbs_i, gInt_i, gInt_b, gEq_s, gNe_s, gEq_b, gNe_b, gEq_2, gNe_2, gEq_3, gNe_3, gEq_22, gNe_22, DL.R.bind_ok, DL.R.bind_ex, ev_setL, kSetL_ev, ev_lDisp, kDisp_ev, ev_lList, lOf_l, lOf_t, ev_frz, frz_l, frz_d, frz_n, ev_lend, lend_l, lend_d, atom_i, atom_b, atom_s, ev_lendB, lendB_l, lendB_d, ev_app, app_l, kApp_ev, ev_put, put_l, ev_ixO, ixO_l, ixO_d, put_m, putAll_c, putAll_n, ev_lc, kLst_ev, ev_lcL, wipe_n, wipe_c, r1_2, r1_3, bits_ev, List.getElem?_cons_zero, List.getElem?_cons_succ, List.set_cons_zero, List.set_cons_succ, List.length_cons, List.length_nil, List.length_map, List.append_nil, List.cons_append, List.nil_append, ev_if, turn_nx, turn_ct, turn_bk, turn_rt, turn_ite, kWh_ev, isi_int_int, isi_bool_int, isi_int_bool, isi_bool_bool, isi_int_str, isi_int_none, isi_int_list, isi_int_tup, isi_bool_str, isi_bool_none, isi_bool_list, isi_bool_tup, isi_tup_tup, isi_tup_int, isi_tup_bool, isi_tup_str, isi_tup_none, isi_tup_list, isi_list_list, isi_list_tup, isi_list_int, isi_list_bool, isi_list_str, isi_list_none, isi_str_str, isi_str_int, isi_str_bool, isi_str_none, isi_str_list, isi_str_tup, decide_true, decide_false, not_true_eq_false, not_false_eq_true, ne_eq, decide_eq_true_eq, Bool.not_eq_true', decide_eq_false_iff_not, Bool.not_true, Bool.not_false, Bool.false_eq_true, if_true, if_false, reduceIte, ha, hb, c2.1, c2.2]
    · simp +decide only [m_law_sign, den_law_sign, ev_seq, seq_nx, seq_rt, seq_ex, seq_bk, seq_ct, seq_ite, fl_ok, fl_ex, fl_ite, ev_set, kSet_ev, ev_ret, ev_retN, ev_nx, ev_bk, ev_ct, ev_raise, ev_if, kIf_ev, ev_drop, kNx_ev, ev_par, kPar_ev, kId_ev, ev_asg, kAsg_ev, ev_for, kFor_ev, ev_V, dVg_ok, ev_C, ev_1, ev_2, bind2_ok, bind2_ite1, bind2_ite2, bind_ite, ev_A, ev_nil, ev_cons, kCons_ev, ev_T, toB_ev, ev_and, ev_or, ev_not, kAnd_ev, kOr_ev, kNot_ev, ev_andV, ev_orV, ev_notV, kAndV_ev, kOrV_ev, kNotV_ev, ev_ife, kIfE_ev, ev_ch, kCh, tup_ev, lst_ev, call_ev, kw_ev, ev_kw, ev_fn, startE_0, startE_s, startE_c, fin_rt, fin_nx, fin_ex, fin_ite, ix_t0, ix_t1, ix_t2, ix_t3, ix_l0, ix_l1, ix_l2, len_l, len_t1, len_t2, len_t3, len_t4, beq_self_eq_true, ev_iL, ev_iT, asL_ev, asT_ev, ev_iA, ev_P, toI_ev, ev_P0, ev_sl, kSl_ev, put_1, gAdd_i, gSub_i, gMul_i, gDiv_p, gMod_p, gPow_l, gShl_l, gShr_l, gLt_i, gLe_i, gGt_i, gGe_i, gEq_i, gNe_i, gNeg_i, gAbs_i, gInt_i, gInt_b, gEq_s, gNe_s, gEq_b, gNe_b, gEq_2, gNe_2, gEq_3, gNe_3, gEq_22, gNe_22, DL.R.bind_ok, DL.R.bind_ex, ev_setL, kSetL_ev, ev_lDisp, kDisp_ev, ev_lList, lOf_l, lOf_t, ev_frz, frz_l, frz_d, frz_n, ev_lend, lend_l, lend_d, atom_i, atom_b, atom_s, ev_lendB, lendB_l, lendB_d, ev_app, app_l, kApp_ev, ev_put, put_l, ev_ixO, ixO_l, ixO_d, put_m, putAll_c, putAll_n, ev_lc, kLst_ev, ev_lcL, wipe_n, wipe_c, r1_2, r1_3, bits_ev, List.getElem?_cons_zero, List.getElem?_cons_succ, List.set_cons_zero, List.set_cons_succ, List.length_cons, List.length_nil, List.length_map, List.append_nil, List.cons_append, List.nil_append, ev_if, turn_nx, turn_ct, turn_bk, turn_rt, turn_ite, kWh_ev, isi_int_int, isi_bool_int, isi_int_bool, isi_bool_bool, isi_int_str, isi_int_none, isi_int_list, isi_int_tup, isi_bool_str, isi_bool_none, isi_bool_list, isi_bool_tup, isi_tup_tup, isi_tup_int, isi_tup_bool, isi_tup_str, isi_tup_none, isi_tup_list, isi_list_list, isi_list_tup, isi_list_int, isi_list_bool, isi_list_str, isi_list_none, isi_str_str, isi_str_int, isi_str_bool, isi_str_none, isi_str_list, isi_str_tup, decide_true, decide_false, not_true_eq_false, not_false_eq_true, ne_eq, decide_eq_true_eq, Bool.not_eq_true', decide_eq_false_iff_not, Bool.not_true, Bool.not_false, Bool.false_eq_true, if_true, if_false, reduceIte, ha, c2.1, c2.2]
  have ne : b ≠ 0 → a * a ≠ d * b * b := fun hb e => hb (irr hd e)
  by_cases pa : 0 < a
  · have nb : b < 0 := by omega
    have ne' := ne (by omega)
    have q1 : ¬ 0 ≤ b := by omega
    have q2 : ¬ a ≤ 0 := by omega
    have q3 : 0 ≤ a := by omega
    by_cases c : d * b * b < a * a
    · refine ⟨1, ?_, by unfold Lt0; omega⟩
      simp +decide only [m_law_sign, den_law_sign, ev_seq, seq_nx, seq_rt, seq_ex, seq_bk, seq_ct, seq_ite, fl_ok, fl_ex, fl_ite, ev_set, kSet_ev, ev_ret, ev_retN, ev_nx, ev_bk, ev_ct, ev_raise, ev_if, kIf_ev, ev_drop, kNx_ev, ev_par, kPar_ev, kId_ev, ev_asg, kAsg_ev, ev_for, kFor_ev, ev_V, dVg_ok, ev_C, ev_1, ev_2, bind2_ok, bind2_ite1, bind2_ite2, bind_ite, ev_A, ev_nil, ev_cons, kCons_ev, ev_T, toB_ev, ev_and, ev_or, ev_not, kAnd_ev, kOr_ev, kNot_ev, ev_andV, ev_orV, ev_notV, kAndV_ev, kOrV_ev, kNotV_ev, ev_ife, kIfE_ev, ev_ch, kCh, tup_ev, lst_ev, call_ev, kw_ev, ev_kw, ev_fn, startE_0, startE_s, startE_c, fin_rt, fin_nx, fin_ex, fin_ite, ix_t0, ix_t1, ix_t2, ix_t3, ix_l0, ix_l1, ix_l2, len_l, len_t1, len_t2, len_t3, len_t4, beq_self_eq_true, ev_iL, ev_iT, asL_ev, asT_ev, ev_iA, ev_P, toI_ev, ev_P0, ev_sl, kSl_ev, put_1, gAdd_i, gSub_i, gMul_i, gDiv_p, gMod_p, gPow_l, gShl_l, gShr_l, gLt_i, gLe_i, gGt_i, gGe_i, gEq_i, gNe_i, gNeg_i, gAbs_i, gInt_i, gInt_b, gEq_s, gNe_s, gEq_b, gNe_b, gEq_2, gNe_2, gEq_3, gNe_3, gEq_22, gNe_22, DL.R.bind_ok, DL.R.bind_ex, ev_setL, kSetL_ev, ev_lDisp, kDisp_ev, ev_lList, lOf_l, lOf_t, ev_frz, frz_l, frz_d, frz_n, ev_lend, lend_l, lend_d, atom_i, atom_b, atom_s, ev_lendB, lendB_l, lendB_d, ev_app, app_l, kApp_ev, ev_put, put_l, ev_ixO, ixO_l, ixO_d, put_m, putAll_c, putAll_n, ev_lc, kLst_ev, ev_lcL, wipe_n, wipe_c, r1_2, r1_3, bits_ev, List.getElem?_cons_zero, List.getElem?_cons_succ, List.set_cons_zero, List.set_cons_succ, List.length_cons, List.length_nil, List.length_map, List.append_nil, List.cons_append, List.nil_append, ev_if, turn_nx, turn_ct, turn_bk, turn_rt, turn_ite, kWh_ev, isi_int_int, isi_bool_int, isi_int_bool, isi_bool_bool, isi_int_str, isi_int_none, isi_int_list, isi_int_tup, isi_bool_str, isi_bool_none, isi_bool_list, isi_bool_tup, isi_tup_tup, isi_tup_int, isi_tup_bool, isi_tup_str, isi_tup_none, isi_tup_list, isi_list_list, isi_list_tup, isi_list_int, isi_list_bool, isi_list_str, isi_list_none, isi_str_str, isi_str_int, isi_str_bool, isi_str_none, isi_str_list, isi_str_tup, decide_true, decide_false, not_true_eq_false, not_false_eq_true, ne_eq, decide_eq_true_eq, Bool.not_eq_true', decide_eq_false_iff_not, Bool.not_true, Bool.not_false, Bool.false_eq_true, if_true, if_false, reduceIte, q1, q2, q3, pa, c, i1, i2, i3]
    · refine ⟨-1, ?_, by unfold Lt0; omega⟩
      simp +decide only [m_law_sign, den_law_sign, ev_seq, seq_nx, seq_rt, seq_ex, seq_bk, seq_ct, seq_ite, fl_ok, fl_ex, fl_ite, ev_set, kSet_ev, ev_ret, ev_retN, ev_nx, ev_bk, ev_ct, ev_raise, ev_if, kIf_ev, ev_drop, kNx_ev, ev_par, kPar_ev, kId_ev, ev_asg, kAsg_ev, ev_for, kFor_ev, ev_V, dVg_ok, ev_C, ev_1, ev_2, bind2_ok, bind2_ite1, bind2_ite2, bind_ite, ev_A, ev_nil, ev_cons, kCons_ev, ev_T, toB_ev, ev_and, ev_or, ev_not, kAnd_ev, kOr_ev, kNot_ev, ev_andV, ev_orV, ev_notV, kAndV_ev, kOrV_ev, kNotV_ev, ev_ife, kIfE_ev, ev_ch, kCh, tup_ev, lst_ev, call_ev, kw_ev, ev_kw, ev_fn, startE_0, startE_s, startE_c, fin_rt, fin_nx, fin_ex, fin_ite, ix_t0, ix_t1, ix_t2, ix_t3, ix_l0, ix_l1, ix_l2, len_l, len_t1, len_t2, len_t3, len_t4, beq_self_eq_true, ev_iL, ev_iT, asL_ev, asT_ev, ev_iA, ev_P, toI_ev, ev_P0, ev_sl, kSl_ev, put_1, gAdd_i, gSub_i, gMul_i, gDiv_p, gMod_p, gPow_l, gShl_l, gShr_l, gLt_i, gLe_i, gGt_i, gGe_i, gEq_i, gNe_i, gNeg_i, gAbs_i, gInt_i, gInt_b, gEq_s, gNe_s, gEq_b, gNe_b, gEq_2, gNe_2, gEq_3, gNe_3, gEq_22, gNe_22, DL.R.bind_ok, DL.R.bind_ex, ev_setL, kSetL_ev, ev_lDisp, kDisp_ev, ev_lList, lOf_l, lOf_t, ev_frz, frz_l, frz_d, frz_n, ev_lend, lend_l, lend_d, atom_i, atom_b, atom_s, ev_lendB, lendB_l, lendB_d, ev_app, app_l, kApp_ev, ev_put, put_l, ev_ixO, ixO_l, ixO_d, put_m, putAll_c, putAll_n, ev_lc, kLst_ev, ev_lcL, wipe_n, wipe_c, r1_2, r1_3, bits_ev, List.getElem?_cons_zero, List.getElem?_cons_succ, List.set_cons_zero, List.set_cons_succ, List.length_cons, List.length_nil, List.length_map, List.append_nil, List.cons_append, List.nil_append, ev_if, turn_nx, turn_ct, turn_bk, turn_rt, turn_ite, kWh_ev, isi_int_int, isi_bool_int, isi_int_bool, isi_bool_bool, isi_int_str, isi_int_none, isi_int_list, isi_int_tup, isi_bool_str, isi_bool_none, isi_bool_list, isi_bool_tup, isi_tup_tup, isi_tup_int, isi_tup_bool, isi_tup_str, isi_tup_none, isi_tup_list, isi_list_list, isi_list_tup, isi_list_int, isi_list_bool, isi_list_str, isi_list_none, isi_str_str, isi_str_int, isi_str_bool, isi_str_none, isi_str_list, isi_str_tup, decide_true, decide_false, not_true_eq_false, not_false_eq_true, ne_eq, decide_eq_true_eq, Bool.not_eq_true', decide_eq_false_iff_not, Bool.not_true, Bool.not_false, Bool.false_eq_true, if_true, if_false, reduceIte, q1, q2, q3, pa, c, i1, i2, i3]
  · have q0 : ¬ b ≤ 0 := by omega
    have q1 : ¬ 0 ≤ a := by omega
    have q2 : a ≤ 0 := by omega
    have ne' := ne (by omega)
    by_cases c : a * a < d * b * b
    · refine ⟨1, ?_, by unfold Lt0; omega⟩
      simp +decide only [m_law_sign, den_law_sign, ev_seq, seq_nx, seq_rt, seq_ex, seq_bk, seq_ct, seq_ite, fl_ok, fl_ex, fl_ite, ev_set, kSet_ev, ev_ret, ev_retN, ev_nx, ev_bk, ev_ct, ev_raise, ev_if, kIf_ev, ev_drop, kNx_ev, ev_par, kPar_ev, kId_ev, ev_asg, kAsg_ev, ev_for, kFor_ev, ev_V, dVg_ok, ev_C, ev_1, ev_2, bind2_ok, bind2_ite1, bind2_ite2, bind_ite, ev_A, ev_nil, ev_cons, kCons_ev, ev_T, toB_ev, ev_and, ev_or, ev_not, kAnd_ev, kOr_ev, kNot_ev, ev_andV, ev_orV, ev_notV, kAndV_ev, kOrV_ev, kNotV_ev, ev_ife, kIfE_ev, ev_ch, kCh, tup_ev, lst_ev, call_ev, kw_ev, ev_kw, ev_fn, startE_0, startE_s, startE_c, fin_rt, fin_nx, fin_ex, fin_ite, ix_t0, ix_t1, ix_t2, ix_t3, ix_l0, ix_l1, ix_l2, len_l, len_t1, len_t2, len_t3, len_t4, beq_self_eq_true, ev_iL, ev_iT, asL_ev, asT_ev, ev_iA, ev_P, toI_ev, ev_P0, ev_sl, kSl_ev, put_1, gAdd_i, gSub_i, gMul_i, gDiv_p, gMod_p, gPow_l, gShl_l, gShr_l, gLt_i, gLe_i, gGt_i, gGe_i, gEq_i, gNe_i, gNeg_i, gAbs_i, gInt_i, gInt_b, gEq_s, gNe_s, gEq_b, gNe_b, gEq_2, gNe_2, gEq_3, gNe_3, gEq_22, gNe_22, DL.R.bind_ok, DL.R.bind_ex, ev_setL, kSetL_ev, ev_lDisp, kDisp_ev, ev_lList, lOf_l, lOf_t, ev_frz, frz_l, frz_d, frz_n, ev_lend, lend_l, lend_d, atom_i, atom_b, atom_s, ev_lendB, lendB_l, lendB_d, ev_app, app_l, kApp_ev, ev_put, put_l, ev_ixO, ixO_l, ixO_d, put_m, putAll_c, putAll_n, ev_lc, kLst_ev, ev_lcL, wipe_n, wipe_c, r1_2, r1_3, bits_ev, List.getElem?_cons_zero, List.getElem?_cons_succ, List.set_cons_zero, List.set_cons_succ, List.length_cons, List.length_nil, List.length_map, List.append_nil, List.cons_append, List.nil_append, ev_if, turn_nx, turn_ct, turn_bk, turn_rt, turn_ite, kWh_ev, isi_int_int, isi_bool_int, isi_int_bool, isi_bool_bool, isi_int_str, isi_int_none, isi_int_list, isi_int_tup, isi_bool_str, isi_bool_none, isi_bool_list, isi_bool_tup, isi_tup_tup, isi_tup_int, isi_tup_bool, isi_tup_str, isi_tup_none, isi_tup_list, isi_list_list, isi_list_tup, isi_list_int, isi_list_bool, isi_list_str, isi_list_none, isi_str_str, isi_str_int, isi_str_bool, isi_str_none, isi_str_list, isi_str_tup, decide_true, decide_false, not_true_eq_false, not_false_eq_true, ne_eq, decide_eq_true_eq, Bool.not_eq_true', decide_eq_false_iff_not, Bool.not_true, Bool.not_false, Bool.false_eq_true, if_true, if_false, reduceIte, q0, q1, q2, pa, c, i1, i2, i3]
    · refine ⟨-1, ?_, by unfold Lt0; omega⟩
      simp +decide only [m_law_sign, den_law_sign, ev_seq, seq_nx, seq_rt, seq_ex, seq_bk, seq_ct, seq_ite, fl_ok, fl_ex, fl_ite, ev_set, kSet_ev, ev_ret, ev_retN, ev_nx, ev_bk, ev_ct, ev_raise, ev_if, kIf_ev, ev_drop, kNx_ev, ev_par, kPar_ev, kId_ev, ev_asg, kAsg_ev, ev_for, kFor_ev, ev_V, dVg_ok, ev_C, ev_1, ev_2, bind2_ok, bind2_ite1, bind2_ite2, bind_ite, ev_A, ev_nil, ev_cons, kCons_ev, ev_T, toB_ev, ev_and, ev_or, ev_not, kAnd_ev, kOr_ev, kNot_ev, ev_andV, ev_orV, ev_notV, kAndV_ev, kOrV_ev, kNotV_ev, ev_ife, kIfE_ev, ev_ch, kCh, tup_ev, lst_ev, call_ev, kw_ev, ev_kw, ev_fn, startE_0, startE_s, startE_c, fin_rt, fin_nx, fin_ex, fin_ite, ix_t0, ix_t1, ix_t2, ix_t3, ix_l0, ix_l1, ix_l2, len_l, len_t1, len_t2, len_t3, len_t4, beq_self_eq_true, ev_iL, ev_iT, asL_ev, asT_ev, ev_iA, ev_P, toI_ev, ev_P0, ev_sl, kSl_ev, put_1, gAdd_i, gSub_i, gMul_i, gDiv_p, gMod_p, gPow_l, gShl_l, gShr_l, gLt_i, gLe_i, gGt_i, gGe_i, gEq_i, gNe_i, gNeg_i, gAbs_i, gInt_i, gInt_b, gEq_s, gNe_s, gEq_b, gNe_b, gEq_2, gNe_2, gEq_3, gNe_3, gEq_22, gNe_22, DL.R.bind_ok, DL.R.bind_ex, ev_setL, kSetL_ev, ev_lDisp, kDisp_ev, ev_lList, lOf_l, lOf_t, ev_frz, frz_l, frz_d, frz_n, ev_lend, lend_l, lend_d, atom_i, atom_b, atom_s, ev_lendB, lendB_l, lendB_d, ev_app, app_l, kApp_ev, ev_put, put_l, ev_ixO, ixO_l, ixO_d, put_m, putAll_c, putAll_n, ev_lc, kLst_ev, ev_lcL, wipe_n, wipe_c, r1_2, r1_3, bits_ev, List.getElem?_cons_zero, List.getElem?_cons_succ, List.set_cons_zero, List.set_cons_succ, List.length_cons, List.length_nil, List.length_map, List.append_nil, List.cons_append, List.nil_append, ev_if, turn_nx, turn_ct, turn_bk, turn_rt, turn_ite, kWh_ev, isi_int_int, isi_bool_int, isi_int_bool, isi_bool_bool, isi_int_str, isi_int_none, isi_int_list, isi_int_tup, isi_bool_str, isi_bool_none, isi_bool_list, isi_bool_tup, isi_tup_tup, isi_tup_int, isi_tup_bool, isi_tup_str, isi_tup_none, isi_tup_list, isi_list_list, isi_list_tup, isi_list_int, isi_list_bool, isi_list_str, isi_list_none, isi_str_str, isi_str_int, isi_str_bool, isi_str_none, isi_str_list, isi_str_tup, decide_true, decide_false, not_true_eq_false, not_false_eq_true, ne_eq, decide_eq_true_eq, Bool.not_eq_true', decide_eq_false_iff_not, Bool.not_true, Bool.not_false, Bool.false_eq_true, if_true, if_false, reduceIte, q0, q1, q2, pa, c, i1, i2, i3]
theorem roots_ok : ∀ d ∈ rootsL, Root d ∧ 2 ≤ d ∧ d ≤ 99 := by
  have h : ∀ d ∈ rootsL, ((1 * 1 < d ∧ d < 2 * 2) ∨ (2 * 2 < d ∧ d < 3 * 3) ∨ (3 * 3 < d ∧ d < 4 * 4) ∨ (4 * 4 < d ∧ d < 5 * 5) ∨ (5 * 5 < d ∧ d < 6 * 6) ∨ (6 * 6 < d ∧ d < 7 * 7) ∨ (7 * 7 < d ∧ d < 8 * 8) ∨ (8 * 8 < d ∧ d < 9 * 9) ∨ (9 * 9 < d ∧ d < 10 * 10)) ∧ 2 ≤ d ∧ d ≤ 99 := by decide +kernel
  intro d hd
  obtain ⟨h1, h2⟩ := h d hd
  refine ⟨?_, h2⟩
  rcases h1 with ⟨a, b⟩ | ⟨a, b⟩ | ⟨a, b⟩ | ⟨a, b⟩ | ⟨a, b⟩ | ⟨a, b⟩ | ⟨a, b⟩ | ⟨a, b⟩ | ⟨a, b⟩
  · exact ⟨1, by decide, a, b⟩
  · exact ⟨2, by decide, a, b⟩
  · exact ⟨3, by decide, a, b⟩
  · exact ⟨4, by decide, a, b⟩
  · exact ⟨5, by decide, a, b⟩
  · exact ⟨6, by decide, a, b⟩
  · exact ⟨7, by decide, a, b⟩
  · exact ⟨8, by decide, a, b⟩
  · exact ⟨9, by decide, a, b⟩
theorem roots_at (j : Int) (h0 : 0 ≤ j) (h1 : j < 90) : ∃ d : Int, gIx (.list (rootsL.map PyData.int)) (.int j) = .ok (.int d) ∧ Root d ∧ Bd d 7 := by
  have hl : j < (rootsL.length : Int) := by rw [rootsL_len]; exact h1
  refine ⟨_, ix_ints h0 hl, ?_⟩
  have hm : rootsL.getD j.toNat 0 ∈ rootsL := by
    have h2 : j.toNat < rootsL.length := by omega
    rw [List.getD_eq_getElem?_getD, List.getElem?_eq_getElem h2]
    exact List.getElem_mem h2
  obtain ⟨a, b, c⟩ := roots_ok _ hm
  exact ⟨a, ⟨by omega⟩⟩
theorem tup8 : PyData.tuple [.int 4, .int 9, .int 16, .int 25, .int 36, .int 49, .int 64, .int 81] = .tuple (([4, 9, 16, 25, 36, 49, 64, 81] : List Int).map PyData.int) := rfl
theorem lst8 : PyData.list [.int 4, .int 9, .int 16, .int 25, .int 36, .int 49, .int 64, .int 81] = .list (([4, 9, 16, 25, 36, 49, 64, 81] : List Int).map PyData.int) := rfl
theorem rng98 : (rng 2 98).length ≤ 1000000 := by decide
theorem law_root_eq (c k : Int) {n : Nat} [Bd (c + k + 1) n] (h : n ≤ 134217000) : ∃ d : Int, m_law_root [.int c, .int k] = .ok (.int d) ∧ Root d ∧ Bd d 7 := by
  have e := law_great_eq c k h
  have g0 := gr_nonneg c k
  obtain ⟨d, e1, e2⟩ := roots_at (gr c k / 7 % 90) (by omega) (by omega)
  refine ⟨d, ?_, e2⟩
  have L := roots_lc (i := 3) (f := le1_law_root) (t := lq1_law_root) (ρ := [some (.d (.int c)), some (.d (.int k)), none, none]) (fun d => by simp +decide only [le1_law_root, ev_seq, seq_nx, seq_rt, seq_ex, seq_bk, seq_ct, seq_ite, fl_ok, fl_ex, fl_ite, ev_set, kSet_ev, ev_ret, ev_retN, ev_nx, ev_bk, ev_ct, ev_raise, ev_if, kIf_ev, ev_drop, kNx_ev, ev_par, kPar_ev, kId_ev, ev_asg, kAsg_ev, ev_for, kFor_ev, ev_V, dVg_ok, ev_C, ev_1, ev_2, bind2_ok, bind2_ite1, bind2_ite2, bind_ite, ev_A, ev_nil, ev_cons, kCons_ev, ev_T, toB_ev, ev_and, ev_or, ev_not, kAnd_ev, kOr_ev, kNot_ev, ev_andV, ev_orV, ev_notV, kAndV_ev, kOrV_ev, kNotV_ev, ev_ife, kIfE_ev, ev_ch, kCh, tup_ev, lst_ev, call_ev, kw_ev, ev_kw, ev_fn, startE_0, startE_s, startE_c, fin_rt, fin_nx, fin_ex, fin_ite, ix_t0, ix_t1, ix_t2, ix_t3, ix_l0, ix_l1, ix_l2, len_l, len_t1, len_t2, len_t3, len_t4, beq_self_eq_true, ev_iL, ev_iT, asL_ev, asT_ev, ev_iA, ev_P, toI_ev, ev_P0, ev_sl, kSl_ev, put_1, gAdd_i, gSub_i, gMul_i, gDiv_p, gMod_p, gPow_l, gShl_l, gShr_l, gLt_i, gLe_i, gGt_i, gGe_i, gEq_i, gNe_i, gNeg_i, gAbs_i, gInt_i, gInt_b, gEq_s, gNe_s, gEq_b, gNe_b, gEq_2, gNe_2, gEq_3, gNe_3, gEq_22, gNe_22, DL.R.bind_ok, DL.R.bind_ex, ev_setL, kSetL_ev, ev_lDisp, kDisp_ev, ev_lList, lOf_l, lOf_t, ev_frz, frz_l, frz_d, frz_n, ev_lend, lend_l, lend_d, atom_i, atom_b, atom_s, ev_lendB, lendB_l, lendB_d, ev_app, app_l, kApp_ev, ev_put, put_l, ev_ixO, ixO_l, ixO_d, put_m, putAll_c, putAll_n, ev_lc, kLst_ev, ev_lcL, wipe_n, wipe_c, r1_2, r1_3, bits_ev, List.getElem?_cons_zero, List.getElem?_cons_succ, List.set_cons_zero, List.set_cons_succ, List.length_cons, List.length_nil, List.length_map, List.append_nil, List.cons_append, List.nil_append, ev_if, turn_nx, turn_ct, turn_bk, turn_rt, turn_ite, kWh_ev, isi_int_int, isi_bool_int, isi_int_bool, isi_bool_bool, isi_int_str, isi_int_none, isi_int_list, isi_int_tup, isi_bool_str, isi_bool_none, isi_bool_list, isi_bool_tup, isi_tup_tup, isi_tup_int, isi_tup_bool, isi_tup_str, isi_tup_none, isi_tup_list, isi_list_list, isi_list_tup, isi_list_int, isi_list_bool, isi_list_str, isi_list_none, isi_str_str, isi_str_int, isi_str_bool, isi_str_none, isi_str_list, isi_str_tup, decide_true, decide_false, not_true_eq_false, not_false_eq_true, ne_eq, decide_eq_true_eq, Bool.not_eq_true', decide_eq_false_iff_not, Bool.not_true, Bool.not_false, Bool.false_eq_true, if_true, if_false, reduceIte]) (fun d => by
    simp +decide only [lq1_law_root, ev_seq, seq_nx, seq_rt, seq_ex, seq_bk, seq_ct, seq_ite, fl_ok, fl_ex, fl_ite, ev_set, kSet_ev, ev_ret, ev_retN, ev_nx, ev_bk, ev_ct, ev_raise, ev_if, kIf_ev, ev_drop, kNx_ev, ev_par, kPar_ev, kId_ev, ev_asg, kAsg_ev, ev_for, kFor_ev, ev_V, dVg_ok, ev_C, ev_1, ev_2, bind2_ok, bind2_ite1, bind2_ite2, bind_ite, ev_A, ev_nil, ev_cons, kCons_ev, ev_T, toB_ev, ev_and, ev_or, ev_not, kAnd_ev, kOr_ev, kNot_ev, ev_andV, ev_orV, ev_notV, kAndV_ev, kOrV_ev, kNotV_ev, ev_ife, kIfE_ev, ev_ch, kCh, tup_ev, lst_ev, call_ev, kw_ev, ev_kw, ev_fn, startE_0, startE_s, startE_c, fin_rt, fin_nx, fin_ex, fin_ite, ix_t0, ix_t1, ix_t2, ix_t3, ix_l0, ix_l1, ix_l2, len_l, len_t1, len_t2, len_t3, len_t4, beq_self_eq_true, ev_iL, ev_iT, asL_ev, asT_ev, ev_iA, ev_P, toI_ev, ev_P0, ev_sl, kSl_ev, put_1, gAdd_i, gSub_i, gMul_i, gDiv_p, gMod_p, gPow_l, gShl_l, gShr_l, gLt_i, gLe_i, gGt_i, gGe_i, gEq_i, gNe_i, gNeg_i, gAbs_i, gInt_i, gInt_b, gEq_s, gNe_s, gEq_b, gNe_b, gEq_2, gNe_2, gEq_3, gNe_3, gEq_22, gNe_22, DL.R.bind_ok, DL.R.bind_ex, ev_setL, kSetL_ev, ev_lDisp, kDisp_ev, ev_lList, lOf_l, lOf_t, ev_frz, frz_l, frz_d, frz_n, ev_lend, lend_l, lend_d, atom_i, atom_b, atom_s, ev_lendB, lendB_l, lendB_d, ev_app, app_l, kApp_ev, ev_put, put_l, ev_ixO, ixO_l, ixO_d, put_m, putAll_c, putAll_n, ev_lc, kLst_ev, ev_lcL, wipe_n, wipe_c, r1_2, r1_3, bits_ev, List.getElem?_cons_zero, List.getElem?_cons_succ, List.set_cons_zero, List.set_cons_succ, List.length_cons, List.length_nil, List.length_map, List.append_nil, List.cons_append, List.nil_append, ev_if, turn_nx, turn_ct, turn_bk, turn_rt, turn_ite, kWh_ev, isi_int_int, isi_bool_int, isi_int_bool, isi_bool_bool, isi_int_str, isi_int_none, isi_int_list, isi_int_tup, isi_bool_str, isi_bool_none, isi_bool_list, isi_bool_tup, isi_tup_tup, isi_tup_int, isi_tup_bool, isi_tup_str, isi_tup_none, isi_tup_list, isi_list_list, isi_list_tup, isi_list_int, isi_list_bool, isi_list_str, isi_list_none, isi_str_str, isi_str_int, isi_str_bool, isi_str_none, isi_str_list, isi_str_tup, decide_true, decide_false, not_true_eq_false, not_false_eq_true, ne_eq, decide_eq_true_eq, Bool.not_eq_true', decide_eq_false_iff_not, Bool.not_true, Bool.not_false, Bool.false_eq_true, if_true, if_false, reduceIte]
    rw [tup8, in_t]
    rfl)
  have hl : gLen [.list (rootsL.map PyData.int)] = .ok (.int 90) := by rw [len_l, List.length_map, rootsL_len]; rfl
  simp +decide only [m_law_root, den_law_root, ev_seq, seq_nx, seq_rt, seq_ex, seq_bk, seq_ct, seq_ite, fl_ok, fl_ex, fl_ite, ev_set, kSet_ev, ev_ret, ev_retN, ev_nx, ev_bk, ev_ct, ev_raise, ev_if, kIf_ev, ev_drop, kNx_ev, ev_par, kPar_ev, kId_ev, ev_asg, kAsg_ev, ev_for, kFor_ev, ev_V, dVg_ok, ev_C, ev_1, ev_2, bind2_ok, bind2_ite1, bind2_ite2, bind_ite, ev_A, ev_nil, ev_cons, kCons_ev, ev_T, toB_ev, ev_and, ev_or, ev_not, kAnd_ev, kOr_ev, kNot_ev, ev_andV, ev_orV, ev_notV, kAndV_ev, kOrV_ev, kNotV_ev, ev_ife, kIfE_ev, ev_ch, kCh, tup_ev, lst_ev, call_ev, kw_ev, ev_kw, ev_fn, startE_0, startE_s, startE_c, fin_rt, fin_nx, fin_ex, fin_ite, ix_t0, ix_t1, ix_t2, ix_t3, ix_l0, ix_l1, ix_l2, len_l, len_t1, len_t2, len_t3, len_t4, beq_self_eq_true, ev_iL, ev_iT, asL_ev, asT_ev, ev_iA, ev_P, toI_ev, ev_P0, ev_sl, kSl_ev, put_1, gAdd_i, gSub_i, gMul_i, gDiv_p, gMod_p, gPow_l, gShl_l, gShr_l, gLt_i, gLe_i, gGt_i, gGe_i, gEq_i, gNe_i, gNeg_i, gAbs_i, gInt_i, gInt_b, gEq_s, gNe_s, gEq_b, gNe_b, gEq_2, gNe_2, gEq_3, gNe_3, gEq_22, gNe_22, DL.R.bind_ok, DL.R.bind_ex, ev_setL, kSetL_ev, ev_lDisp, kDisp_ev, ev_lList, lOf_l, lOf_t, ev_frz, frz_l, frz_d, frz_n, ev_lend, lend_l, lend_d, atom_i, atom_b, atom_s, ev_lendB, lendB_l, lendB_d, ev_app, app_l, kApp_ev, ev_put, put_l, ev_ixO, ixO_l, ixO_d, put_m, putAll_c, putAll_n, ev_lc, kLst_ev, ev_lcL, wipe_n, wipe_c, r1_2, r1_3, bits_ev, List.getElem?_cons_zero, List.getElem?_cons_succ, List.set_cons_zero, List.set_cons_succ, List.length_cons, List.length_nil, List.length_map, List.append_nil, List.cons_append, List.nil_append, ev_if, turn_nx, turn_ct, turn_bk, turn_rt, turn_ite, kWh_ev, isi_int_int, isi_bool_int, isi_int_bool, isi_bool_bool, isi_int_str, isi_int_none, isi_int_list, isi_int_tup, isi_bool_str, isi_bool_none, isi_bool_list, isi_bool_tup, isi_tup_tup, isi_tup_int, isi_tup_bool, isi_tup_str, isi_tup_none, isi_tup_list, isi_list_list, isi_list_tup, isi_list_int, isi_list_bool, isi_list_str, isi_list_none, isi_str_str, isi_str_int, isi_str_bool, isi_str_none, isi_str_list, isi_str_tup, decide_true, decide_false, not_true_eq_false, not_false_eq_true, ne_eq, decide_eq_true_eq, Bool.not_eq_true', decide_eq_false_iff_not, Bool.not_true, Bool.not_false, Bool.false_eq_true, if_true, if_false, reduceIte, r2_roots, kLcL_ev rng98, L, e, hl, e1]
theorem under_eq (d a b n a' b' n' : Int) (hd : 0 < d) (hn : 0 < n) (hn' : 0 < n') [Bd d 7] {k1 k2 k3 k4 k5 k6 : Nat} [Bd a k1] [Bd b k2] [Bd n k3] [Bd a' k4] [Bd b' k5] [Bd n' k6] (h1 : k1 ≤ 3900) (h2 : k2 ≤ 3900) (h3 : k3 ≤ 3900) (h4 : k4 ≤ 3900) (h5 : k5 ≤ 3900) (h6 : k6 ≤ 3900) :
    m_under [.int d, .tuple [.int a, .int b, .int n], .tuple [.int a', .int b', .int n']] = .ok (.bool (decide (Lt0 d (a * n' - a' * n) (b * n' - b' * n)))) := by
  have hm : n * n' ≠ 0 := Int.mul_ne_zero (by omega) (by omega)
  have e := taken_eq a b n a' b' n' hm (by omega) (by omega) (by omega) (by omega) (by omega) (by omega)
  obtain ⟨m1, m2, m3⟩ := lmul (a := a * n' - a' * n) (b := b * n' - b' * n) hm
  have hs : 0 < shr (g3 (a * n' - a' * n) (b * n' - b' * n) (n * n')) (n * n') := by
    have h0 := g3_ne (a := a * n' - a' * n) (b := b * n' - b' * n) hm
    have : ¬ n * n' < 0 := by have := Int.mul_pos hn hn'; omega
    unfold shr
    rw [if_neg this]
    omega
  have sc := lt0_scale (d := d) (a := lA (a * n' - a' * n) (b * n' - b' * n) (n * n')) (b := lB (a * n' - a' * n) (b * n' - b' * n) (n * n')) hs
  rw [m1, m2] at sc
  obtain ⟨v, ev, hv⟩ := sign_of_eq d (lA (a * n' - a' * n) (b * n' - b' * n) (n * n')) (lB (a * n' - a' * n) (b * n' - b' * n) (n * n')) hd (by decide) (show max (k1 + k6) (k4 + k3) + 1 ≤ 1000000 by omega) (show max (k2 + k6) (k5 + k3) + 1 ≤ 1000000 by omega)
  have hb : decide (v < 0) = decide (Lt0 d (a * n' - a' * n) (b * n' - b' * n)) := by rw [decide_eq_decide, hv, sc]
  simp +decide only [m_under, den_under, ev_seq, seq_nx, seq_rt, seq_ex, seq_bk, seq_ct, seq_ite, fl_ok, fl_ex, fl_ite, ev_set, kSet_ev, ev_ret, ev_retN, ev_nx, ev_bk, ev_ct, ev_raise, ev_if, kIf_ev, ev_drop, kNx_ev, ev_par, kPar_ev, kId_ev, ev_asg, kAsg_ev, ev_for, kFor_ev, ev_V, dVg_ok, ev_C, ev_1, ev_2, bind2_ok, bind2_ite1, bind2_ite2, bind_ite, ev_A, ev_nil, ev_cons, kCons_ev, ev_T, toB_ev, ev_and, ev_or, ev_not, kAnd_ev, kOr_ev, kNot_ev, ev_andV, ev_orV, ev_notV, kAndV_ev, kOrV_ev, kNotV_ev, ev_ife, kIfE_ev, ev_ch, kCh, tup_ev, lst_ev, call_ev, kw_ev, ev_kw, ev_fn, startE_0, startE_s, startE_c, fin_rt, fin_nx, fin_ex, fin_ite, ix_t0, ix_t1, ix_t2, ix_t3, ix_l0, ix_l1, ix_l2, len_l, len_t1, len_t2, len_t3, len_t4, beq_self_eq_true, ev_iL, ev_iT, asL_ev, asT_ev, ev_iA, ev_P, toI_ev, ev_P0, ev_sl, kSl_ev, put_1, gAdd_i, gSub_i, gMul_i, gDiv_p, gMod_p, gPow_l, gShl_l, gShr_l, gLt_i, gLe_i, gGt_i, gGe_i, gEq_i, gNe_i, gNeg_i, gAbs_i, gInt_i, gInt_b, gEq_s, gNe_s, gEq_b, gNe_b, gEq_2, gNe_2, gEq_3, gNe_3, gEq_22, gNe_22, DL.R.bind_ok, DL.R.bind_ex, ev_setL, kSetL_ev, ev_lDisp, kDisp_ev, ev_lList, lOf_l, lOf_t, ev_frz, frz_l, frz_d, frz_n, ev_lend, lend_l, lend_d, atom_i, atom_b, atom_s, ev_lendB, lendB_l, lendB_d, ev_app, app_l, kApp_ev, ev_put, put_l, ev_ixO, ixO_l, ixO_d, put_m, putAll_c, putAll_n, ev_lc, kLst_ev, ev_lcL, wipe_n, wipe_c, r1_2, r1_3, bits_ev, List.getElem?_cons_zero, List.getElem?_cons_succ, List.set_cons_zero, List.set_cons_succ, List.length_cons, List.length_nil, List.length_map, List.append_nil, List.cons_append, List.nil_append, ev_if, turn_nx, turn_ct, turn_bk, turn_rt, turn_ite, kWh_ev, isi_int_int, isi_bool_int, isi_int_bool, isi_bool_bool, isi_int_str, isi_int_none, isi_int_list, isi_int_tup, isi_bool_str, isi_bool_none, isi_bool_list, isi_bool_tup, isi_tup_tup, isi_tup_int, isi_tup_bool, isi_tup_str, isi_tup_none, isi_tup_list, isi_list_list, isi_list_tup, isi_list_int, isi_list_bool, isi_list_str, isi_list_none, isi_str_str, isi_str_int, isi_str_bool, isi_str_none, isi_str_list, isi_str_tup, decide_true, decide_false, not_true_eq_false, not_false_eq_true, ne_eq, decide_eq_true_eq, Bool.not_eq_true', decide_eq_false_iff_not, Bool.not_true, Bool.not_false, Bool.false_eq_true, if_true, if_false, reduceIte, e, ev, hb]
theorem law_below_eq (d a b n a' b' n' : Int) (hd : Root d) [Bd d 7] {k1 k2 k3 k4 k5 k6 : Nat} [Bd a k1] [Bd b k2] [Bd n k3] [Bd a' k4] [Bd b' k5] [Bd n' k6] (h1 : k1 ≤ 100000) (h2 : k2 ≤ 100000) (h3 : k3 ≤ 100000) (h4 : k4 ≤ 100000) (h5 : k5 ≤ 100000) (h6 : k6 ≤ 100000) :
    m_law_below [.int d, .tuple [.int a, .int b, .int n], .tuple [.int a', .int b', .int n']] = .ok (.bool (decide (Lt0 d (a * n' - a' * n) (b * n' - b' * n)))) := by
  obtain ⟨v, ev, hv⟩ := law_sign_eq d (a * n' - a' * n) (b * n' - b' * n) hd (by decide) (show max (k1 + k6) (k4 + k3) + 1 ≤ 1000000 by omega) (show max (k2 + k6) (k5 + k3) + 1 ≤ 1000000 by omega)
  have hb : decide (v < 0) = decide (Lt0 d (a * n' - a' * n) (b * n' - b' * n)) := by rw [decide_eq_decide, hv]
  have i1 : k1 + k6 ≤ 134217728 := by omega
  have i2 : k4 + k3 ≤ 134217728 := by omega
  have i3 : k2 + k6 ≤ 134217728 := by omega
  have i4 : k5 + k3 ≤ 134217728 := by omega
  simp +decide only [m_law_below, den_law_below, ev_seq, seq_nx, seq_rt, seq_ex, seq_bk, seq_ct, seq_ite, fl_ok, fl_ex, fl_ite, ev_set, kSet_ev, ev_ret, ev_retN, ev_nx, ev_bk, ev_ct, ev_raise, ev_if, kIf_ev, ev_drop, kNx_ev, ev_par, kPar_ev, kId_ev, ev_asg, kAsg_ev, ev_for, kFor_ev, ev_V, dVg_ok, ev_C, ev_1, ev_2, bind2_ok, bind2_ite1, bind2_ite2, bind_ite, ev_A, ev_nil, ev_cons, kCons_ev, ev_T, toB_ev, ev_and, ev_or, ev_not, kAnd_ev, kOr_ev, kNot_ev, ev_andV, ev_orV, ev_notV, kAndV_ev, kOrV_ev, kNotV_ev, ev_ife, kIfE_ev, ev_ch, kCh, tup_ev, lst_ev, call_ev, kw_ev, ev_kw, ev_fn, startE_0, startE_s, startE_c, fin_rt, fin_nx, fin_ex, fin_ite, ix_t0, ix_t1, ix_t2, ix_t3, ix_l0, ix_l1, ix_l2, len_l, len_t1, len_t2, len_t3, len_t4, beq_self_eq_true, ev_iL, ev_iT, asL_ev, asT_ev, ev_iA, ev_P, toI_ev, ev_P0, ev_sl, kSl_ev, put_1, gAdd_i, gSub_i, gMul_i, gDiv_p, gMod_p, gPow_l, gShl_l, gShr_l, gLt_i, gLe_i, gGt_i, gGe_i, gEq_i, gNe_i, gNeg_i, gAbs_i, gInt_i, gInt_b, gEq_s, gNe_s, gEq_b, gNe_b, gEq_2, gNe_2, gEq_3, gNe_3, gEq_22, gNe_22, DL.R.bind_ok, DL.R.bind_ex, ev_setL, kSetL_ev, ev_lDisp, kDisp_ev, ev_lList, lOf_l, lOf_t, ev_frz, frz_l, frz_d, frz_n, ev_lend, lend_l, lend_d, atom_i, atom_b, atom_s, ev_lendB, lendB_l, lendB_d, ev_app, app_l, kApp_ev, ev_put, put_l, ev_ixO, ixO_l, ixO_d, put_m, putAll_c, putAll_n, ev_lc, kLst_ev, ev_lcL, wipe_n, wipe_c, r1_2, r1_3, bits_ev, List.getElem?_cons_zero, List.getElem?_cons_succ, List.set_cons_zero, List.set_cons_succ, List.length_cons, List.length_nil, List.length_map, List.append_nil, List.cons_append, List.nil_append, ev_if, turn_nx, turn_ct, turn_bk, turn_rt, turn_ite, kWh_ev, isi_int_int, isi_bool_int, isi_int_bool, isi_bool_bool, isi_int_str, isi_int_none, isi_int_list, isi_int_tup, isi_bool_str, isi_bool_none, isi_bool_list, isi_bool_tup, isi_tup_tup, isi_tup_int, isi_tup_bool, isi_tup_str, isi_tup_none, isi_tup_list, isi_list_list, isi_list_tup, isi_list_int, isi_list_bool, isi_list_str, isi_list_none, isi_str_str, isi_str_int, isi_str_bool, isi_str_none, isi_str_list, isi_str_tup, decide_true, decide_false, not_true_eq_false, not_false_eq_true, ne_eq, decide_eq_true_eq, Bool.not_eq_true', decide_eq_false_iff_not, Bool.not_true, Bool.not_false, Bool.false_eq_true, if_true, if_false, reduceIte, i1, i2, i3, i4, ev, hb]
theorem floor_of_eq (d a b n : Int) (hd : 0 < d) (hn : 0 < n) [Bd d 7] {k1 k2 k3 : Nat} [Bd a k1] [bb : Bd b k2] [Bd n k3] (h1 : k1 ≤ 3900) (h2 : k2 ≤ 3900) (h3 : k3 ≤ 3900) : ∃ F R : Int, m_floor_of [.int d, .tuple [.int a, .int b, .int n]] = .ok (.int F) ∧ IsFl d b R ∧ F = (a + R) / n ∧ Bd R 8002 := by
  have i1 : 7 + k2 ≤ 134217728 := by omega
  have i2 : 7 + k2 + k2 ≤ 134217728 := by omega
  have i3 : k3 ≤ 9000 := by omega
  have hb2 : 0 ≤ d * b * b := by
    rw [Int.mul_assoc]
    refine Int.mul_nonneg (by omega) ?_
    rcases Int.le_total 0 b with w | w
    · exact Int.mul_nonneg w w
    · exact Int.mul_nonneg_of_nonpos_of_nonpos w w
  have bB : Bd (d * b * b) 8000 := Bd.mono inferInstance (show 7 + k2 + k2 ≤ 8000 by omega)
  obtain ⟨r, r1, r2, r3, er⟩ := root_floor_eq (d * b * b) hb2
  have hr : r.natAbs < 2 ^ 8000 := by
    have h := bB.h
    have : r ≤ r * r := by
      rcases Int.lt_or_le 0 r with w | w
      · have := Int.mul_le_mul_of_nonneg_left (show 1 ≤ r by omega) r1; omega
      · have : r = 0 := by omega
        subst this; decide
    omega
  by_cases hb : b < 0
  · refine ⟨(a + (0 - r - 1)) / n, 0 - r - 1, ?_, ⟨r, r1, r2, r3, by rw [if_pos hb]⟩, rfl, ⟨?_⟩⟩
    · simp +decide only [m_floor_of, den_floor_of, ev_seq, seq_nx, seq_rt, seq_ex, seq_bk, seq_ct, seq_ite, fl_ok, fl_ex, fl_ite, ev_set, kSet_ev, ev_ret, ev_retN, ev_nx, ev_bk, ev_ct, ev_raise, ev_if, kIf_ev, ev_drop, kNx_ev, ev_par, kPar_ev, kId_ev, ev_asg, kAsg_ev, ev_for, kFor_ev, ev_V, dVg_ok, ev_C, ev_1, ev_2, bind2_ok, bind2_ite1, bind2_ite2, bind_ite, ev_A, ev_nil, ev_cons, kCons_ev, ev_T, toB_ev, ev_and, ev_or, ev_not, kAnd_ev, kOr_ev, kNot_ev, ev_andV, ev_orV, ev_notV, kAndV_ev, kOrV_ev, kNotV_ev, ev_ife, kIfE_ev, ev_ch, kCh, tup_ev, lst_ev, call_ev, kw_ev, ev_kw, ev_fn, startE_0, startE_s, startE_c, fin_rt, fin_nx, fin_ex, fin_ite, ix_t0, ix_t1, ix_t2, ix_t3, ix_l0, ix_l1, ix_l2, len_l, len_t1, len_t2, len_t3, len_t4, beq_self_eq_true, ev_iL, ev_iT, asL_ev, asT_ev, ev_iA, ev_P, toI_ev, ev_P0, ev_sl, kSl_ev, put_1, gAdd_i, gSub_i, gMul_i, gDiv_p, gMod_p, gPow_l, gShl_l, gShr_l, gLt_i, gLe_i, gGt_i, gGe_i, gEq_i, gNe_i, gNeg_i, gAbs_i, gInt_i, gInt_b, gEq_s, gNe_s, gEq_b, gNe_b, gEq_2, gNe_2, gEq_3, gNe_3, gEq_22, gNe_22, DL.R.bind_ok, DL.R.bind_ex, ev_setL, kSetL_ev, ev_lDisp, kDisp_ev, ev_lList, lOf_l, lOf_t, ev_frz, frz_l, frz_d, frz_n, ev_lend, lend_l, lend_d, atom_i, atom_b, atom_s, ev_lendB, lendB_l, lendB_d, ev_app, app_l, kApp_ev, ev_put, put_l, ev_ixO, ixO_l, ixO_d, put_m, putAll_c, putAll_n, ev_lc, kLst_ev, ev_lcL, wipe_n, wipe_c, r1_2, r1_3, bits_ev, List.getElem?_cons_zero, List.getElem?_cons_succ, List.set_cons_zero, List.set_cons_succ, List.length_cons, List.length_nil, List.length_map, List.append_nil, List.cons_append, List.nil_append, ev_if, turn_nx, turn_ct, turn_bk, turn_rt, turn_ite, kWh_ev, isi_int_int, isi_bool_int, isi_int_bool, isi_bool_bool, isi_int_str, isi_int_none, isi_int_list, isi_int_tup, isi_bool_str, isi_bool_none, isi_bool_list, isi_bool_tup, isi_tup_tup, isi_tup_int, isi_tup_bool, isi_tup_str, isi_tup_none, isi_tup_list, isi_list_list, isi_list_tup, isi_list_int, isi_list_bool, isi_list_str, isi_list_none, isi_str_str, isi_str_int, isi_str_bool, isi_str_none, isi_str_list, isi_str_tup, decide_true, decide_false, not_true_eq_false, not_false_eq_true, ne_eq, decide_eq_true_eq, Bool.not_eq_true', decide_eq_false_iff_not, Bool.not_true, Bool.not_false, Bool.false_eq_true, if_true, if_false, reduceIte, i1, i2, i3, er, hb, hn]
    · have e : (2 : Nat) ^ 8002 = 4 * 2 ^ 8000 := by rw [show 8002 = 2 + 8000 from rfl, Nat.pow_add]
      rw [e]
      generalize (2 : Nat) ^ 8000 = Z at *
      omega
  · refine ⟨(a + r) / n, r, ?_, ⟨r, r1, r2, r3, by rw [if_neg hb]⟩, rfl, ⟨?_⟩⟩
    · simp +decide only [m_floor_of, den_floor_of, ev_seq, seq_nx, seq_rt, seq_ex, seq_bk, seq_ct, seq_ite, fl_ok, fl_ex, fl_ite, ev_set, kSet_ev, ev_ret, ev_retN, ev_nx, ev_bk, ev_ct, ev_raise, ev_if, kIf_ev, ev_drop, kNx_ev, ev_par, kPar_ev, kId_ev, ev_asg, kAsg_ev, ev_for, kFor_ev, ev_V, dVg_ok, ev_C, ev_1, ev_2, bind2_ok, bind2_ite1, bind2_ite2, bind_ite, ev_A, ev_nil, ev_cons, kCons_ev, ev_T, toB_ev, ev_and, ev_or, ev_not, kAnd_ev, kOr_ev, kNot_ev, ev_andV, ev_orV, ev_notV, kAndV_ev, kOrV_ev, kNotV_ev, ev_ife, kIfE_ev, ev_ch, kCh, tup_ev, lst_ev, call_ev, kw_ev, ev_kw, ev_fn, startE_0, startE_s, startE_c, fin_rt, fin_nx, fin_ex, fin_ite, ix_t0, ix_t1, ix_t2, ix_t3, ix_l0, ix_l1, ix_l2, len_l, len_t1, len_t2, len_t3, len_t4, beq_self_eq_true, ev_iL, ev_iT, asL_ev, asT_ev, ev_iA, ev_P, toI_ev, ev_P0, ev_sl, kSl_ev, put_1, gAdd_i, gSub_i, gMul_i, gDiv_p, gMod_p, gPow_l, gShl_l, gShr_l, gLt_i, gLe_i, gGt_i, gGe_i, gEq_i, gNe_i, gNeg_i, gAbs_i, gInt_i, gInt_b, gEq_s, gNe_s, gEq_b, gNe_b, gEq_2, gNe_2, gEq_3, gNe_3, gEq_22, gNe_22, DL.R.bind_ok, DL.R.bind_ex, ev_setL, kSetL_ev, ev_lDisp, kDisp_ev, ev_lList, lOf_l, lOf_t, ev_frz, frz_l, frz_d, frz_n, ev_lend, lend_l, lend_d, atom_i, atom_b, atom_s, ev_lendB, lendB_l, lendB_d, ev_app, app_l, kApp_ev, ev_put, put_l, ev_ixO, ixO_l, ixO_d, put_m, putAll_c, putAll_n, ev_lc, kLst_ev, ev_lcL, wipe_n, wipe_c, r1_2, r1_3, bits_ev, List.getElem?_cons_zero, List.getElem?_cons_succ, List.set_cons_zero, List.set_cons_succ, List.length_cons, List.length_nil, List.length_map, List.append_nil, List.cons_append, List.nil_append, ev_if, turn_nx, turn_ct, turn_bk, turn_rt, turn_ite, kWh_ev, isi_int_int, isi_bool_int, isi_int_bool, isi_bool_bool, isi_int_str, isi_int_none, isi_int_list, isi_int_tup, isi_bool_str, isi_bool_none, isi_bool_list, isi_bool_tup, isi_tup_tup, isi_tup_int, isi_tup_bool, isi_tup_str, isi_tup_none, isi_tup_list, isi_list_list, isi_list_tup, isi_list_int, isi_list_bool, isi_list_str, isi_list_none, isi_str_str, isi_str_int, isi_str_bool, isi_str_none, isi_str_list, isi_str_tup, decide_true, decide_false, not_true_eq_false, not_false_eq_true, ne_eq, decide_eq_true_eq, Bool.not_eq_true', decide_eq_false_iff_not, Bool.not_true, Bool.not_false, Bool.false_eq_true, if_true, if_false, reduceIte, i1, i2, i3, er, hb, hn]
    · have e : (2 : Nat) ^ 8002 = 4 * 2 ^ 8000 := by rw [show 8002 = 2 + 8000 from rfl, Nat.pow_add]
      rw [e]
      generalize (2 : Nat) ^ 8000 = Z at *
      omega
end DL

set_option autoImplicit false
set_option linter.all false
/-! plain arithmetic: fractions and lengths as rationals -/
namespace MB
theorem fT_num {a b : Int} (hb : b ≠ 0) : fT a b = ((a : Rat) / (b : Rat)).num := by rw [fT_eq]; exact (fr_of hb).1
theorem fB_den {a b : Int} (hb : b ≠ 0) : fB a b = (((a : Rat) / (b : Rat)).den : Int) := by rw [fB_eq]; exact (fr_of hb).2
theorem num_div (q : Rat) : (q.num : Rat) / ((q.den : Int) : Rat) = q := by
  have h : ((q.den : Int) : Rat) ≠ 0 := ratne (by have := q.den_nz; omega)
  have := rnum q
  grind
theorem lowF_rat (q : Rat) : LowF q.num q.den := ⟨rdpos q, rgcd q⟩
theorem rat_of_lowF {a b : Int} (h : LowF a b) : ((a : Rat) / (b : Rat)).num = a ∧ (((a : Rat) / (b : Rat)).den : Int) = b := by
  have hb : b ≠ 0 := by have := h.1; omega
  have s := lowF_self h
  exact ⟨by rw [← fT_num hb, s.1], by rw [← fB_den hb, s.2]⟩
/-- the length of two fractions -/
def qA (x y : Rat) : Int := lA (x.num * y.den) (y.num * x.den) (x.den * y.den)
def qB (x y : Rat) : Int := lB (x.num * y.den) (y.num * x.den) (x.den * y.den)
def qN (x y : Rat) : Int := lN (x.num * y.den) (y.num * x.den) (x.den * y.den)
theorem qden (x y : Rat) : (x.den : Int) * (y.den : Int) ≠ 0 := Int.mul_ne_zero (by have := x.den_nz; omega) (by have := y.den_nz; omega)
theorem q_low (x y : Rat) : Low (qA x y) (qB x y) (qN x y) := low_of (qden x y)
theorem qN_pos (x y : Rat) : 0 < qN x y := (q_low x y).1
theorem qN_ne (x y : Rat) : ((qN x y : Int) : Rat) ≠ 0 := ratne (by have := qN_pos x y; omega)
theorem q_val (x y : Rat) : ((qA x y : Int) : Rat) = x * ((qN x y : Int) : Rat) ∧ ((qB x y : Int) : Rat) = y * ((qN x y : Int) : Rat) := by
  have c := lcross (a := x.num * y.den) (b := y.num * x.den) (qden x y)
  have hx : ((x.den : Int) : Rat) ≠ 0 := ratne (by have := x.den_nz; omega)
  have hy : ((y.den : Int) : Rat) ≠ 0 := ratne (by have := y.den_nz; omega)
  have nx := rnum x
  have ny := rnum y
  have c1 : ((qA x y * (x.den * y.den) : Int) : Rat) = ((x.num * y.den * qN x y : Int) : Rat) := congrArg _ c.1
  have c2 : ((qB x y * (x.den * y.den) : Int) : Rat) = ((y.num * x.den * qN x y : Int) : Rat) := congrArg _ c.2
  simp only [Rat.intCast_mul] at c1 c2
  constructor <;> grind
/-- a length by its numbers -/
theorem q_of {a b n : Int} (hn : n ≠ 0) : lA a b n = qA ((a : Rat) / n) ((b : Rat) / n) ∧ lB a b n = qB ((a : Rat) / n) ((b : Rat) / n) ∧ lN a b n = qN ((a : Rat) / n) ((b : Rat) / n) := by
  have hn' : (n : Rat) ≠ 0 := ratne hn
  generalize hx : (a : Rat) / n = x
  generalize hy : (b : Rat) / n = y
  have nx := rnum x
  have ny := rnum y
  have e1 : a * (x.den * y.den) = x.num * y.den * n := by
    have : ((a * (x.den * y.den) : Int) : Rat) = ((x.num * y.den * n : Int) : Rat) := by
      simp only [Rat.intCast_mul]
      grind
    exact_mod_cast this
  have e2 : b * (x.den * y.den) = y.num * x.den * n := by
    have : ((b * (x.den * y.den) : Int) : Rat) = ((y.num * x.den * n : Int) : Rat) := by
      simp only [Rat.intCast_mul]
      grind
    exact_mod_cast this
  exact low_eq hn (qden x y) e1 e2
theorem q_self {a b n : Int} (h : Low a b n) : qA ((a : Rat) / n) ((b : Rat) / n) = a ∧ qB ((a : Rat) / n) ((b : Rat) / n) = b ∧ qN ((a : Rat) / n) ((b : Rat) / n) = n := by
  have hn : n ≠ 0 := by have := h.1; omega
  have e := q_of (a := a) (b := b) hn
  have s := low_self h
  exact ⟨e.1.symm.trans s.1, e.2.1.symm.trans s.2.1, e.2.2.symm.trans s.2.2⟩
/-- the parts of a length -/
theorem q_parts (x y : Rat) : fT (qA x y) (qN x y) = x.num ∧ fB (qA x y) (qN x y) = x.den ∧ fT (qB x y) (qN x y) = y.num ∧ fB (qB x y) (qN x y) = y.den := by
  have hn : qN x y ≠ 0 := by have := qN_pos x y; omega
  have hn' := qN_ne x y
  have v := q_val x y
  have ex : ((qA x y : Int) : Rat) / ((qN x y : Int) : Rat) = x := by grind
  have ey : ((qB x y : Int) : Rat) / ((qN x y : Int) : Rat) = y := by grind
  refine ⟨?_, ?_, ?_, ?_⟩
  · rw [fT_num hn, ex]
  · rw [fB_den hn, ex]
  · rw [fT_num hn, ey]
  · rw [fB_den hn, ey]
theorem cast_num (a : Int) : (a : Rat).num = a := rfl
theorem cast_den (a : Int) : (a : Rat).den = 1 := rfl
end MB

set_option autoImplicit false
set_option linter.all false
/-! plain arithmetic: the numbers x + y * root d above nought -/
namespace MB
theorem irrQ {d : Int} (h : Root d) {x y : Rat} (e : x * x = (d : Rat) * y * y) : y = 0 := by
  have nx := rnum x
  have ny := rnum y
  have hx : ((x.den : Int) : Rat) ≠ 0 := ratne (by have := x.den_nz; omega)
  have hy : ((y.den : Int) : Rat) ≠ 0 := ratne (by have := y.den_nz; omega)
  have key : (x.num * y.den) * (x.num * y.den) = d * (y.num * x.den) * (y.num * x.den) := by
    have : (((x.num * y.den) * (x.num * y.den) : Int) : Rat) = ((d * (y.num * x.den) * (y.num * x.den) : Int) : Rat) := by
      simp only [Rat.intCast_mul]
      rw [nx, ny]
      grind
    exact_mod_cast this
  have z := irr h key
  have hn : y.num = 0 := by
    rcases Int.mul_eq_zero.mp z with w | w
    · exact w
    · have := x.den_nz; omega
  exact Rat.num_eq_zero.mp hn
theorem sq_mono {a b : Rat} (h0 : 0 ≤ b) (h : b ≤ a) : b * b ≤ a * a := by
  have h1 := Rat.mul_le_mul_of_nonneg_left h h0
  have h2 := Rat.mul_le_mul_of_nonneg_right h (Rat.le_trans h0 h)
  grind
theorem sq_nonneg (a : Rat) : 0 ≤ a * a := by
  rcases (Rat.le_total : a ≤ 0 ∨ 0 ≤ a) with h | h
  · have := Rat.mul_nonneg (show 0 ≤ -a by grind) (show 0 ≤ -a by grind)
    grind
  · exact Rat.mul_nonneg h h
theorem abs_lt {a b : Rat} (ha : 0 < a) (h : b * b < a * a) : -a < b ∧ b < a := by
  constructor
  · by_cases z : -a < b
    · exact z
    · have := sq_mono (Rat.le_of_lt ha) (show a ≤ -b by grind)
      grind
  · by_cases z : b < a
    · exact z
    · have := sq_mono (Rat.le_of_lt ha) (show a ≤ b by grind)
      grind
def PosQ (d : Int) (x y : Rat) : Prop := ((d : Rat) * y * y < x * x ∧ 0 < x) ∨ (x * x < (d : Rat) * y * y ∧ 0 < y)
theorem Root.posQ {d : Int} (h : Root d) : (0 : Rat) < (d : Rat) := Rat.intCast_pos.mpr h.pos
theorem posQ_mul {d : Int} (hd : Root d) {x y u v : Rat} (h : PosQ d x y) (g : PosQ d u v) : PosQ d (x * u + d * y * v) (x * v + y * u) := by
  have hD := hd.posQ
  unfold PosQ at *
  generalize (d : Rat) = D at *
  have q1 := sq_nonneg u
  have q2 := sq_nonneg v
  have q3 := sq_nonneg x
  have q4 := sq_nonneg y
  rcases h with ⟨h1, h2⟩ | ⟨h1, h2⟩ <;> rcases g with ⟨g1, g2⟩ | ⟨g1, g2⟩
  · left
    have p1 := Rat.mul_pos (show 0 < x * x - D * y * y by grind) (show 0 < u * u - D * v * v by grind)
    have p2 := Rat.mul_pos (show 0 < x * x - D * y * y by grind) (Rat.mul_pos g2 g2)
    have p3 := Rat.mul_nonneg (Rat.mul_nonneg (Rat.le_of_lt hD) q4) (show 0 ≤ u * u - D * v * v by grind)
    have p4 := Rat.mul_pos h2 g2
    have p5 := (abs_lt p4 (b := D * y * v) (by grind)).1
    constructor <;> grind
  · right
    have p1 := Rat.mul_pos (show 0 < x * x - D * y * y by grind) (show 0 < D * v * v - u * u by grind)
    have p2 := Rat.mul_pos (Rat.mul_pos h2 h2) (show 0 < D * v * v - u * u by grind)
    have p3 := Rat.mul_nonneg q1 (show 0 ≤ x * x - D * y * y by grind)
    have p4 := Rat.mul_pos h2 g2
    have p6 : D * ((y * u) * (y * u)) < D * ((x * v) * (x * v)) := by grind
    have p7 := Rat.lt_of_mul_lt_mul_left p6 (Rat.le_of_lt hD)
    have p5 := (abs_lt p4 (b := y * u) p7).1
    constructor <;> grind
  · right
    have p1 := Rat.mul_pos (show 0 < D * y * y - x * x by grind) (show 0 < u * u - D * v * v by grind)
    have p2 := Rat.mul_pos (Rat.mul_pos g2 g2) (show 0 < D * y * y - x * x by grind)
    have p3 := Rat.mul_nonneg q3 (show 0 ≤ u * u - D * v * v by grind)
    have p4 := Rat.mul_pos g2 h2
    have p6 : D * ((x * v) * (x * v)) < D * ((u * y) * (u * y)) := by grind
    have p7 := Rat.lt_of_mul_lt_mul_left p6 (Rat.le_of_lt hD)
    have p5 := (abs_lt p4 (b := x * v) p7).1
    constructor <;> grind
  · left
    have p1 := Rat.mul_pos (show 0 < D * y * y - x * x by grind) (show 0 < D * v * v - u * u by grind)
    have p2 := Rat.mul_pos (Rat.mul_pos hD (Rat.mul_pos h2 h2)) (show 0 < D * v * v - u * u by grind)
    have p3 := Rat.mul_nonneg q1 (show 0 ≤ D * y * y - x * x by grind)
    have p4 := Rat.mul_pos hD (Rat.mul_pos h2 g2)
    have p5 := (abs_lt p4 (b := x * u) (by grind)).1
    constructor <;> grind
theorem posQ_one {d : Int} (hd : Root d) {x y : Rat} (h : PosQ d x y) : PosQ d (1 + x) y := by
  have ir : ((1 + x) * (1 + x) = (d : Rat) * y * y → y = 0) := irrQ hd
  unfold PosQ at *
  generalize (d : Rat) = D at *
  rcases h with ⟨h1, h2⟩ | ⟨h1, h2⟩
  · left
    constructor <;> grind
  · by_cases c : D * y * y < (1 + x) * (1 + x)
    · left
      refine ⟨c, ?_⟩
      by_cases c2 : 0 < 1 + x
      · exact c2
      · have := sq_mono (show 0 ≤ -(1 + x) by grind) (show -(1 + x) ≤ -x by grind)
        grind
    · by_cases c2 : (1 + x) * (1 + x) = D * y * y
      · have := ir c2
        grind
      · right
        constructor <;> grind
theorem posQ_inv {d : Int} {x y N : Rat} (hN : N = x * x - d * y * y) (h : PosQ d x y) : PosQ d (x / N) (-y / N) ∧ N ≠ 0 := by
  unfold PosQ at *
  generalize (d : Rat) = D at *
  rw [Rat.div_def, Rat.div_def]
  have e : x * N⁻¹ * (x * N⁻¹) - D * (-y * N⁻¹) * (-y * N⁻¹) = N⁻¹ * N⁻¹ * (x * x - D * y * y) := by grind
  rcases h with ⟨h1, h2⟩ | ⟨h1, h2⟩
  · have hp : 0 < N := by grind
    have hi := Rat.inv_pos.mpr hp
    have p := Rat.mul_pos h2 hi
    have q := Rat.mul_pos (Rat.mul_pos hi hi) (show 0 < x * x - D * y * y by grind)
    refine ⟨.inl ⟨?_, p⟩, by grind⟩
    grind
  · have hp : 0 < -N := by grind
    have hi := Rat.inv_pos.mpr hp
    have en : (-N)⁻¹ = -N⁻¹ := by grind
    rw [en] at hi
    have p := Rat.mul_pos h2 hi
    have q := Rat.mul_pos (Rat.mul_pos hi hi) (show 0 < D * y * y - x * x by grind)
    refine ⟨.inr ⟨?_, by grind⟩, by grind⟩
    grind
theorem posQ_add {d : Int} (hd : Root d) {x y u v : Rat} (h : PosQ d x y) (g : PosQ d u v) : PosQ d (x + u) (y + v) := by
  obtain ⟨hi, hN⟩ := posQ_inv rfl h
  have t := posQ_one hd (posQ_mul hd hi g)
  have s := posQ_mul hd h t
  generalize hNe : x * x - (d : Rat) * y * y = N at *
  generalize (d : Rat) = D at *
  have e1 : x * (1 + (x / N * u + D * (-y / N) * v)) + D * y * (x / N * v + -y / N * u) = x + u := by grind
  have e2 : x * (x / N * v + -y / N * u) + y * (1 + (x / N * u + D * (-y / N) * v)) = y + v := by grind
  rw [e1, e2] at s
  exact s
end MB
namespace MB
theorem posQ_scale {d : Int} (hd : Root d) {x y m : Rat} (hm : 0 < m) : PosQ d (x * m) (y * m) ↔ PosQ d x y := by
  have g (m : Rat) (hm : 0 < m) : PosQ d m 0 := .inl ⟨by have := Rat.mul_pos hm hm; grind, hm⟩
  constructor
  · intro h
    have hi := Rat.inv_pos.mpr hm
    have := posQ_mul hd h (g _ hi)
    have e1 : x * m * m⁻¹ + d * (y * m) * 0 = x := by grind
    have e2 : x * m * 0 + y * m * m⁻¹ = y := by grind
    rw [e1, e2] at this
    exact this
  · intro h
    have := posQ_mul hd h (g _ hm)
    have e1 : x * m + d * y * 0 = x * m := by grind
    have e2 : x * 0 + y * m = y * m := by grind
    rw [e1, e2] at this
    exact this
/-- the sign's law, of whole numbers -/
theorem lt0_posQ {d : Int} (hd : Root d) {a b : Int} : Lt0 d a b ↔ PosQ d (-(a : Rat)) (-(b : Rat)) := by
  have ea : ((a * a : Int) : Rat) = -(a : Rat) * -(a : Rat) := by rw [Rat.intCast_mul]; grind
  have eb : ((d * b * b : Int) : Rat) = d * -(b : Rat) * -(b : Rat) := by simp only [Rat.intCast_mul]; grind
  have n1 : (0 : Rat) < -(a : Rat) ↔ a < 0 := by
    rw [← Rat.intCast_neg, Rat.intCast_pos]; omega
  have n2 : (0 : Rat) < -(b : Rat) ↔ b < 0 := by
    rw [← Rat.intCast_neg, Rat.intCast_pos]; omega
  unfold PosQ
  rw [← ea, ← eb, Rat.intCast_lt_intCast, Rat.intCast_lt_intCast, n1, n2]
  unfold Lt0
  have z1 : a = 0 → a * a = 0 := fun h => by rw [h]; rfl
  have z2 : b = 0 → d * b * b = 0 := fun h => by rw [h]; simp
  have s1 : 0 ≤ a * a := by
    rcases Int.le_total 0 a with w | w
    · exact Int.mul_nonneg w w
    · exact Int.mul_nonneg_of_nonpos_of_nonpos w w
  have s2 : 0 ≤ d * b * b := by
    rw [Int.mul_assoc]
    refine Int.mul_nonneg (by have := hd.pos; omega) ?_
    rcases Int.le_total 0 b with w | w
    · exact Int.mul_nonneg w w
    · exact Int.mul_nonneg_of_nonpos_of_nonpos w w
  have z3 : a * a = d * b * b → a = 0 ∧ b = 0 := fun h => by
    have hb := irr hd h
    refine ⟨?_, hb⟩
    subst hb
    have : a * a = 0 := by simpa using h
    rcases Int.mul_eq_zero.mp this with z | z <;> exact z
  constructor
  · rintro (⟨p1, p2, p3⟩ | ⟨p1, p2, p3⟩ | ⟨p1, p2, p3⟩)
    · rcases Int.lt_trichotomy (a * a) (d * b * b) with w | w | w
      · right; refine ⟨w, ?_⟩; by_cases hb : b = 0
        · have := z2 hb; omega
        · omega
      · exact absurd (z3 w) p3
      · left; refine ⟨w, ?_⟩; by_cases ha : a = 0
        · have := z1 ha; omega
        · omega
    · right; exact ⟨p3, by omega⟩
    · left; exact ⟨p3, by omega⟩
  · rintro (⟨p1, p2⟩ | ⟨p1, p2⟩)
    · by_cases hb : b ≤ 0
      · left; omega
      · right; right; omega
    · by_cases ha : a ≤ 0
      · left; omega
      · right; left; omega
theorem posQ_tri {d : Int} (hd : Root d) {x y : Rat} (h : ¬ PosQ d x y) (h2 : ¬ (x = 0 ∧ y = 0)) : PosQ d (-x) (-y) := by
  have ir : x * x = d * y * y → y = 0 := irrQ hd
  have hD := hd.posQ
  unfold PosQ at *
  have e1 : -x * -x = x * x := by grind
  have e2 : d * -y * -y = d * y * y := by grind
  rw [e1, e2]
  generalize (d : Rat) = D at *
  by_cases c : D * y * y < x * x
  · left
    refine ⟨c, ?_⟩
    by_cases z : x = 0
    · exfalso
      subst z
      have := Rat.mul_nonneg (Rat.le_of_lt hD) (sq_nonneg y)
      grind
    · grind
  · by_cases c2 : x * x = D * y * y
    · have hy := ir c2
      subst hy
      exfalso
      have hx : x * x = 0 := by grind
      rcases Rat.mul_eq_zero.mp hx with z | z <;> exact h2 ⟨z, rfl⟩
    · right
      refine ⟨by grind, ?_⟩
      by_cases z : y = 0
      · exfalso
        subst z
        have := sq_nonneg x
        grind
      · grind
end MB

set_option Elab.async false
set_option linter.all false
set_option maxRecDepth 100000
set_option maxHeartbeats 1000000
set_option autoImplicit false
/-! fractions, lengths and tables as rationals -/
namespace DL
open PySem L2 MB
class BR (q : Rat) (n m : outParam Nat) : Prop where
  num : q.num.natAbs < 2 ^ n
  den : q.den < 2 ^ m
theorem BR.mono {q : Rat} {n m n' m' : Nat} (b : BR q n m) (h : n ≤ n') (h' : m ≤ m') : BR q n' m' := ⟨Nat.lt_of_lt_of_le b.num (Nat.pow_le_pow_right (by decide) h), Nat.lt_of_lt_of_le b.den (Nat.pow_le_pow_right (by decide) h')⟩
instance bd_num {q : Rat} {n m : Nat} [b : BR q n m] : Bd q.num n := ⟨b.num⟩
instance bd_den {q : Rat} {n m : Nat} [b : BR q n m] : Bd (q.den : Int) m := ⟨by rw [Int.natAbs_natCast]; exact b.den⟩
theorem br_frac {a b : Int} (hb : b ≠ 0) {n m : Nat} (h1 : Bd a n) (h2 : Bd b m) : BR ((a : Rat) / (b : Rat)) n m := by
  have e1 := fT_num (a := a) hb
  have e2 := fB_den (a := a) hb
  have b1 : Bd (fT a b) n := bd_fT
  have b2 : Bd (fB a b) m := bd_fB
  rw [e1] at b1
  rw [e2] at b2
  exact ⟨b1.h, by have := b2.h; rw [Int.natAbs_natCast] at this; exact this⟩
theorem add_val (p q : Rat) : p + q = ((p.num * q.den + q.num * p.den : Int) : Rat) / ((p.den * q.den : Int) : Rat) := by
  have h1 : ((p.den : Int) : Rat) ≠ 0 := ratne (by have := p.den_nz; omega)
  have h2 : ((q.den : Int) : Rat) ≠ 0 := ratne (by have := q.den_nz; omega)
  have e1 := rnum p
  have e2 := rnum q
  simp only [Rat.intCast_mul, Rat.intCast_add]
  grind
theorem sub_val (p q : Rat) : p - q = ((p.num * q.den - q.num * p.den : Int) : Rat) / ((p.den * q.den : Int) : Rat) := by
  have h1 : ((p.den : Int) : Rat) ≠ 0 := ratne (by have := p.den_nz; omega)
  have h2 : ((q.den : Int) : Rat) ≠ 0 := ratne (by have := q.den_nz; omega)
  have e1 := rnum p
  have e2 := rnum q
  simp only [Rat.intCast_mul, Rat.intCast_sub]
  grind
theorem mul_val (p q : Rat) : p * q = ((p.num * q.num : Int) : Rat) / ((p.den * q.den : Int) : Rat) := by
  have h1 : ((p.den : Int) : Rat) ≠ 0 := ratne (by have := p.den_nz; omega)
  have h2 : ((q.den : Int) : Rat) ≠ 0 := ratne (by have := q.den_nz; omega)
  have e1 := rnum p
  have e2 := rnum q
  simp only [Rat.intCast_mul]
  grind
theorem div_val (p q : Rat) (hq : q ≠ 0) : p / q = ((p.num * q.den : Int) : Rat) / ((p.den * q.num : Int) : Rat) := by
  have h1 : ((p.den : Int) : Rat) ≠ 0 := ratne (by have := p.den_nz; omega)
  have h2 : ((q.den : Int) : Rat) ≠ 0 := ratne (by have := q.den_nz; omega)
  have e1 := rnum p
  have e2 := rnum q
  simp only [Rat.intCast_mul]
  rw [e1, e2]
  grind
theorem den_ne (p q : Rat) : (p.den : Int) * (q.den : Int) ≠ 0 := qden p q
section
variable {p q : Rat} {n m n' m' : Nat} [a : BR p n m] [b : BR q n' m']
instance br_add : BR (p + q) (n + n' + m + m' + 1) (m + m') := by
  rw [add_val]
  exact br_frac (den_ne p q) (Bd.mono (inferInstance : Bd (p.num * q.den + q.num * p.den) (max (n + m') (n' + m) + 1)) (by omega)) inferInstance
instance br_sub : BR (p - q) (n + n' + m + m' + 1) (m + m') := by
  rw [sub_val]
  exact br_frac (den_ne p q) (Bd.mono (inferInstance : Bd (p.num * q.den - q.num * p.den) (max (n + m') (n' + m) + 1)) (by omega)) inferInstance
instance br_mul : BR (p * q) (n + n') (m + m') := by
  rw [mul_val]
  exact br_frac (den_ne p q) inferInstance inferInstance
omit b in
instance br_neg : BR (-p) n m := ⟨by rw [Rat.neg_num, Int.natAbs_neg]; exact a.num, by rw [Rat.neg_den]; exact a.den⟩
end
instance br_int {a : Int} {n : Nat} [b : Bd a n] : BR (a : Rat) n 1 := ⟨b.h, by show 1 < 2 ^ 1; decide⟩
instance br_zero : BR (0 : Rat) 1 1 := ⟨by decide, by decide⟩
/-! data -/
@[reducible] def frD (q : Rat) : PD := .tuple [.int q.num, .int (q.den : Int)]
@[reducible] def lnD (x y : Rat) : PD := .tuple [.int (qA x y), .int (qB x y), .int (qN x y)]
theorem fraction_fr (a b : Int) (hb : b ≠ 0) {k : Nat} [Bd b k] (hk : k ≤ 9000) : m_fraction [.int a, .int b] = .ok (frD ((a : Rat) / (b : Rat))) := by
  rw [fraction_eq a b hb hk, fT_num hb, fB_den hb]
theorem law_fraction_fr (a b : Int) (hb : b ≠ 0) {k : Nat} [Bd b k] (hk : k ≤ 9000) : m_law_fraction [.int a, .int b] = .ok (frD ((a : Rat) / (b : Rat))) := by
  rw [law_fraction_eq a b hb hk, fT_num hb, fB_den hb]
section
variable (p q : Rat) {n m n' m' : Nat} [BR p n m] [BR q n' m']
theorem plus_fr (h : m + m' ≤ 9000) (h1 : n ≤ 60000000) (h2 : n' ≤ 60000000) : m_plus [frD p, frD q] = .ok (frD (p + q)) := by
  have i1 : n + m' ≤ 134217728 := by omega
  have i2 : n' + m ≤ 134217728 := by omega
  have i3 : m + m' ≤ 134217728 := by omega
  have e := fraction_fr (p.num * q.den + q.num * p.den) (p.den * q.den) (den_ne p q) h
  rw [← add_val] at e
  simp +decide only [m_plus, den_plus, ev_seq, seq_nx, seq_rt, seq_ex, seq_bk, seq_ct, seq_ite, fl_ok, fl_ex, fl_ite, ev_set, kSet_ev, ev_ret, ev_retN, ev_nx, ev_bk, ev_ct, ev_raise, ev_if, kIf_ev, ev_drop, kNx_ev, ev_par, kPar_ev, kId_ev, ev_asg, kAsg_ev, ev_for, kFor_ev, ev_V, dVg_ok, ev_C, ev_1, ev_2, bind2_ok, bind2_ite1, bind2_ite2, bind_ite, ev_A, ev_nil, ev_cons, kCons_ev, ev_T, toB_ev, ev_and, ev_or, ev_not, kAnd_ev, kOr_ev, kNot_ev, ev_andV, ev_orV, ev_notV, kAndV_ev, kOrV_ev, kNotV_ev, ev_ife, kIfE_ev, ev_ch, kCh, tup_ev, lst_ev, call_ev, kw_ev, ev_kw, ev_fn, startE_0, startE_s, startE_c, fin_rt, fin_nx, fin_ex, fin_ite, ix_t0, ix_t1, ix_t2, ix_t3, ix_l0, ix_l1, ix_l2, len_l, len_t1, len_t2, len_t3, len_t4, beq_self_eq_true, ev_iL, ev_iT, asL_ev, asT_ev, ev_iA, ev_P, toI_ev, ev_P0, ev_sl, kSl_ev, put_1, gAdd_i, gSub_i, gMul_i, gDiv_p, gMod_p, gPow_l, gShl_l, gShr_l, gLt_i, gLe_i, gGt_i, gGe_i, gEq_i, gNe_i, gNeg_i, gAbs_i, gInt_i, gInt_b, gEq_s, gNe_s, gEq_b, gNe_b, gEq_2, gNe_2, gEq_3, gNe_3, gEq_22, gNe_22, DL.R.bind_ok, DL.R.bind_ex, ev_setL, kSetL_ev, ev_lDisp, kDisp_ev, ev_lList, lOf_l, lOf_t, ev_frz, frz_l, frz_d, frz_n, ev_lend, lend_l, lend_d, atom_i, atom_b, atom_s, ev_lendB, lendB_l, lendB_d, ev_app, app_l, kApp_ev, ev_put, put_l, ev_ixO, ixO_l, ixO_d, put_m, putAll_c, putAll_n, ev_lc, kLst_ev, ev_lcL, wipe_n, wipe_c, r1_2, r1_3, bits_ev, List.getElem?_cons_zero, List.getElem?_cons_succ, List.set_cons_zero, List.set_cons_succ, List.length_cons, List.length_nil, List.length_map, List.append_nil, List.cons_append, List.nil_append, ev_if, turn_nx, turn_ct, turn_bk, turn_rt, turn_ite, kWh_ev, isi_int_int, isi_bool_int, isi_int_bool, isi_bool_bool, isi_int_str, isi_int_none, isi_int_list, isi_int_tup, isi_bool_str, isi_bool_none, isi_bool_list, isi_bool_tup, isi_tup_tup, isi_tup_int, isi_tup_bool, isi_tup_str, isi_tup_none, isi_tup_list, isi_list_list, isi_list_tup, isi_list_int, isi_list_bool, isi_list_str, isi_list_none, isi_str_str, isi_str_int, isi_str_bool, isi_str_none, isi_str_list, isi_str_tup, decide_true, decide_false, not_true_eq_false, not_false_eq_true, ne_eq, decide_eq_true_eq, Bool.not_eq_true', decide_eq_false_iff_not, Bool.not_true, Bool.not_false, Bool.false_eq_true, if_true, if_false, reduceIte, i1, i2, i3, e]
theorem minus_fr (h : m + m' ≤ 9000) (h1 : n ≤ 60000000) (h2 : n' ≤ 60000000) : m_minus [frD p, frD q] = .ok (frD (p - q)) := by
  have i1 : n + m' ≤ 134217728 := by omega
  have i2 : n' + m ≤ 134217728 := by omega
  have i3 : m + m' ≤ 134217728 := by omega
  have e := fraction_fr (p.num * q.den - q.num * p.den) (p.den * q.den) (den_ne p q) h
  rw [← sub_val] at e
  simp +decide only [m_minus, den_minus, ev_seq, seq_nx, seq_rt, seq_ex, seq_bk, seq_ct, seq_ite, fl_ok, fl_ex, fl_ite, ev_set, kSet_ev, ev_ret, ev_retN, ev_nx, ev_bk, ev_ct, ev_raise, ev_if, kIf_ev, ev_drop, kNx_ev, ev_par, kPar_ev, kId_ev, ev_asg, kAsg_ev, ev_for, kFor_ev, ev_V, dVg_ok, ev_C, ev_1, ev_2, bind2_ok, bind2_ite1, bind2_ite2, bind_ite, ev_A, ev_nil, ev_cons, kCons_ev, ev_T, toB_ev, ev_and, ev_or, ev_not, kAnd_ev, kOr_ev, kNot_ev, ev_andV, ev_orV, ev_notV, kAndV_ev, kOrV_ev, kNotV_ev, ev_ife, kIfE_ev, ev_ch, kCh, tup_ev, lst_ev, call_ev, kw_ev, ev_kw, ev_fn, startE_0, startE_s, startE_c, fin_rt, fin_nx, fin_ex, fin_ite, ix_t0, ix_t1, ix_t2, ix_t3, ix_l0, ix_l1, ix_l2, len_l, len_t1, len_t2, len_t3, len_t4, beq_self_eq_true, ev_iL, ev_iT, asL_ev, asT_ev, ev_iA, ev_P, toI_ev, ev_P0, ev_sl, kSl_ev, put_1, gAdd_i, gSub_i, gMul_i, gDiv_p, gMod_p, gPow_l, gShl_l, gShr_l, gLt_i, gLe_i, gGt_i, gGe_i, gEq_i, gNe_i, gNeg_i, gAbs_i, gInt_i, gInt_b, gEq_s, gNe_s, gEq_b, gNe_b, gEq_2, gNe_2, gEq_3, gNe_3, gEq_22, gNe_22, DL.R.bind_ok, DL.R.bind_ex, ev_setL, kSetL_ev, ev_lDisp, kDisp_ev, ev_lList, lOf_l, lOf_t, ev_frz, frz_l, frz_d, frz_n, ev_lend, lend_l, lend_d, atom_i, atom_b, atom_s, ev_lendB, lendB_l, lendB_d, ev_app, app_l, kApp_ev, ev_put, put_l, ev_ixO, ixO_l, ixO_d, put_m, putAll_c, putAll_n, ev_lc, kLst_ev, ev_lcL, wipe_n, wipe_c, r1_2, r1_3, bits_ev, List.getElem?_cons_zero, List.getElem?_cons_succ, List.set_cons_zero, List.set_cons_succ, List.length_cons, List.length_nil, List.length_map, List.append_nil, List.cons_append, List.nil_append, ev_if, turn_nx, turn_ct, turn_bk, turn_rt, turn_ite, kWh_ev, isi_int_int, isi_bool_int, isi_int_bool, isi_bool_bool, isi_int_str, isi_int_none, isi_int_list, isi_int_tup, isi_bool_str, isi_bool_none, isi_bool_list, isi_bool_tup, isi_tup_tup, isi_tup_int, isi_tup_bool, isi_tup_str, isi_tup_none, isi_tup_list, isi_list_list, isi_list_tup, isi_list_int, isi_list_bool, isi_list_str, isi_list_none, isi_str_str, isi_str_int, isi_str_bool, isi_str_none, isi_str_list, isi_str_tup, decide_true, decide_false, not_true_eq_false, not_false_eq_true, ne_eq, decide_eq_true_eq, Bool.not_eq_true', decide_eq_false_iff_not, Bool.not_true, Bool.not_false, Bool.false_eq_true, if_true, if_false, reduceIte, i1, i2, i3, e]
theorem times_fr (h : m + m' ≤ 9000) (h1 : n ≤ 60000000) (h2 : n' ≤ 60000000) : m_times [frD p, frD q] = .ok (frD (p * q)) := by
  have i1 : n + n' ≤ 134217728 := by omega
  have i3 : m + m' ≤ 134217728 := by omega
  have e := fraction_fr (p.num * q.num) (p.den * q.den) (den_ne p q) h
  rw [← mul_val] at e
  simp +decide only [m_times, den_times, ev_seq, seq_nx, seq_rt, seq_ex, seq_bk, seq_ct, seq_ite, fl_ok, fl_ex, fl_ite, ev_set, kSet_ev, ev_ret, ev_retN, ev_nx, ev_bk, ev_ct, ev_raise, ev_if, kIf_ev, ev_drop, kNx_ev, ev_par, kPar_ev, kId_ev, ev_asg, kAsg_ev, ev_for, kFor_ev, ev_V, dVg_ok, ev_C, ev_1, ev_2, bind2_ok, bind2_ite1, bind2_ite2, bind_ite, ev_A, ev_nil, ev_cons, kCons_ev, ev_T, toB_ev, ev_and, ev_or, ev_not, kAnd_ev, kOr_ev, kNot_ev, ev_andV, ev_orV, ev_notV, kAndV_ev, kOrV_ev, kNotV_ev, ev_ife, kIfE_ev, ev_ch, kCh, tup_ev, lst_ev, call_ev, kw_ev, ev_kw, ev_fn, startE_0, startE_s, startE_c, fin_rt, fin_nx, fin_ex, fin_ite, ix_t0, ix_t1, ix_t2, ix_t3, ix_l0, ix_l1, ix_l2, len_l, len_t1, len_t2, len_t3, len_t4, beq_self_eq_true, ev_iL, ev_iT, asL_ev, asT_ev, ev_iA, ev_P, toI_ev, ev_P0, ev_sl, kSl_ev, put_1, gAdd_i, gSub_i, gMul_i, gDiv_p, gMod_p, gPow_l, gShl_l, gShr_l, gLt_i, gLe_i, gGt_i, gGe_i, gEq_i, gNe_i, gNeg_i, gAbs_i, gInt_i, gInt_b, gEq_s, gNe_s, gEq_b, gNe_b, gEq_2, gNe_2, gEq_3, gNe_3, gEq_22, gNe_22, DL.R.bind_ok, DL.R.bind_ex, ev_setL, kSetL_ev, ev_lDisp, kDisp_ev, ev_lList, lOf_l, lOf_t, ev_frz, frz_l, frz_d, frz_n, ev_lend, lend_l, lend_d, atom_i, atom_b, atom_s, ev_lendB, lendB_l, lendB_d, ev_app, app_l, kApp_ev, ev_put, put_l, ev_ixO, ixO_l, ixO_d, put_m, putAll_c, putAll_n, ev_lc, kLst_ev, ev_lcL, wipe_n, wipe_c, r1_2, r1_3, bits_ev, List.getElem?_cons_zero, List.getElem?_cons_succ, List.set_cons_zero, List.set_cons_succ, List.length_cons, List.length_nil, List.length_map, List.append_nil, List.cons_append, List.nil_append, ev_if, turn_nx, turn_ct, turn_bk, turn_rt, turn_ite, kWh_ev, isi_int_int, isi_bool_int, isi_int_bool, isi_bool_bool, isi_int_str, isi_int_none, isi_int_list, isi_int_tup, isi_bool_str, isi_bool_none, isi_bool_list, isi_bool_tup, isi_tup_tup, isi_tup_int, isi_tup_bool, isi_tup_str, isi_tup_none, isi_tup_list, isi_list_list, isi_list_tup, isi_list_int, isi_list_bool, isi_list_str, isi_list_none, isi_str_str, isi_str_int, isi_str_bool, isi_str_none, isi_str_list, isi_str_tup, decide_true, decide_false, not_true_eq_false, not_false_eq_true, ne_eq, decide_eq_true_eq, Bool.not_eq_true', decide_eq_false_iff_not, Bool.not_true, Bool.not_false, Bool.false_eq_true, if_true, if_false, reduceIte, i1, i3, e]
theorem by_fr (hq : q ≠ 0) (h : m + n' ≤ 9000) (h1 : n ≤ 60000000) (h2 : m' ≤ 60000000) : m_by [frD p, frD q] = .ok (frD (p / q)) := by
  have i1 : n + m' ≤ 134217728 := by omega
  have i3 : m + n' ≤ 134217728 := by omega
  have hn : (p.den : Int) * q.num ≠ 0 := Int.mul_ne_zero (by have := p.den_nz; omega) (fun e => hq (Rat.num_eq_zero.mp e))
  have e := fraction_fr (p.num * q.den) (p.den * q.num) hn h
  rw [← div_val p q hq] at e
  simp +decide only [m_by, den_by, ev_seq, seq_nx, seq_rt, seq_ex, seq_bk, seq_ct, seq_ite, fl_ok, fl_ex, fl_ite, ev_set, kSet_ev, ev_ret, ev_retN, ev_nx, ev_bk, ev_ct, ev_raise, ev_if, kIf_ev, ev_drop, kNx_ev, ev_par, kPar_ev, kId_ev, ev_asg, kAsg_ev, ev_for, kFor_ev, ev_V, dVg_ok, ev_C, ev_1, ev_2, bind2_ok, bind2_ite1, bind2_ite2, bind_ite, ev_A, ev_nil, ev_cons, kCons_ev, ev_T, toB_ev, ev_and, ev_or, ev_not, kAnd_ev, kOr_ev, kNot_ev, ev_andV, ev_orV, ev_notV, kAndV_ev, kOrV_ev, kNotV_ev, ev_ife, kIfE_ev, ev_ch, kCh, tup_ev, lst_ev, call_ev, kw_ev, ev_kw, ev_fn, startE_0, startE_s, startE_c, fin_rt, fin_nx, fin_ex, fin_ite, ix_t0, ix_t1, ix_t2, ix_t3, ix_l0, ix_l1, ix_l2, len_l, len_t1, len_t2, len_t3, len_t4, beq_self_eq_true, ev_iL, ev_iT, asL_ev, asT_ev, ev_iA, ev_P, toI_ev, ev_P0, ev_sl, kSl_ev, put_1, gAdd_i, gSub_i, gMul_i, gDiv_p, gMod_p, gPow_l, gShl_l, gShr_l, gLt_i, gLe_i, gGt_i, gGe_i, gEq_i, gNe_i, gNeg_i, gAbs_i, gInt_i, gInt_b, gEq_s, gNe_s, gEq_b, gNe_b, gEq_2, gNe_2, gEq_3, gNe_3, gEq_22, gNe_22, DL.R.bind_ok, DL.R.bind_ex, ev_setL, kSetL_ev, ev_lDisp, kDisp_ev, ev_lList, lOf_l, lOf_t, ev_frz, frz_l, frz_d, frz_n, ev_lend, lend_l, lend_d, atom_i, atom_b, atom_s, ev_lendB, lendB_l, lendB_d, ev_app, app_l, kApp_ev, ev_put, put_l, ev_ixO, ixO_l, ixO_d, put_m, putAll_c, putAll_n, ev_lc, kLst_ev, ev_lcL, wipe_n, wipe_c, r1_2, r1_3, bits_ev, List.getElem?_cons_zero, List.getElem?_cons_succ, List.set_cons_zero, List.set_cons_succ, List.length_cons, List.length_nil, List.length_map, List.append_nil, List.cons_append, List.nil_append, ev_if, turn_nx, turn_ct, turn_bk, turn_rt, turn_ite, kWh_ev, isi_int_int, isi_bool_int, isi_int_bool, isi_bool_bool, isi_int_str, isi_int_none, isi_int_list, isi_int_tup, isi_bool_str, isi_bool_none, isi_bool_list, isi_bool_tup, isi_tup_tup, isi_tup_int, isi_tup_bool, isi_tup_str, isi_tup_none, isi_tup_list, isi_list_list, isi_list_tup, isi_list_int, isi_list_bool, isi_list_str, isi_list_none, isi_str_str, isi_str_int, isi_str_bool, isi_str_none, isi_str_list, isi_str_tup, decide_true, decide_false, not_true_eq_false, not_false_eq_true, ne_eq, decide_eq_true_eq, Bool.not_eq_true', decide_eq_false_iff_not, Bool.not_true, Bool.not_false, Bool.false_eq_true, if_true, if_false, reduceIte, i1, i3, e]
end
/-- the law's own sum, of fractions in any terms -/
theorem law_add_eq (a b c d : Int) (hb : b ≠ 0) (hd : d ≠ 0) {k1 k2 k3 k4 : Nat} [Bd a k1] [Bd b k2] [Bd c k3] [Bd d k4] (h : k2 + k4 ≤ 9000) (h1 : k1 + k4 ≤ 134217728) (h3 : k3 + k2 ≤ 134217728) :
    m_law_add [.tuple [.int a, .int b], .tuple [.int c, .int d]] = .ok (frD ((a : Rat) / b + (c : Rat) / d)) := by
  have i1 : k2 + k4 ≤ 134217728 := by omega
  have hn : b * d ≠ 0 := Int.mul_ne_zero hb hd
  have e := law_fraction_fr (a * d + c * b) (b * d) hn h
  have hb' := ratne hb
  have hd' := ratne hd
  have v : ((a * d + c * b : Int) : Rat) / ((b * d : Int) : Rat) = (a : Rat) / b + (c : Rat) / d := by
    simp only [Rat.intCast_mul, Rat.intCast_add]
    grind
  rw [v] at e
  simp +decide only [m_law_add, den_law_add, ev_seq, seq_nx, seq_rt, seq_ex, seq_bk, seq_ct, seq_ite, fl_ok, fl_ex, fl_ite, ev_set, kSet_ev, ev_ret, ev_retN, ev_nx, ev_bk, ev_ct, ev_raise, ev_if, kIf_ev, ev_drop, kNx_ev, ev_par, kPar_ev, kId_ev, ev_asg, kAsg_ev, ev_for, kFor_ev, ev_V, dVg_ok, ev_C, ev_1, ev_2, bind2_ok, bind2_ite1, bind2_ite2, bind_ite, ev_A, ev_nil, ev_cons, kCons_ev, ev_T, toB_ev, ev_and, ev_or, ev_not, kAnd_ev, kOr_ev, kNot_ev, ev_andV, ev_orV, ev_notV, kAndV_ev, kOrV_ev, kNotV_ev, ev_ife, kIfE_ev, ev_ch, kCh, tup_ev, lst_ev, call_ev, kw_ev, ev_kw, ev_fn, startE_0, startE_s, startE_c, fin_rt, fin_nx, fin_ex, fin_ite, ix_t0, ix_t1, ix_t2, ix_t3, ix_l0, ix_l1, ix_l2, len_l, len_t1, len_t2, len_t3, len_t4, beq_self_eq_true, ev_iL, ev_iT, asL_ev, asT_ev, ev_iA, ev_P, toI_ev, ev_P0, ev_sl, kSl_ev, put_1, gAdd_i, gSub_i, gMul_i, gDiv_p, gMod_p, gPow_l, gShl_l, gShr_l, gLt_i, gLe_i, gGt_i, gGe_i, gEq_i, gNe_i, gNeg_i, gAbs_i, gInt_i, gInt_b, gEq_s, gNe_s, gEq_b, gNe_b, gEq_2, gNe_2, gEq_3, gNe_3, gEq_22, gNe_22, DL.R.bind_ok, DL.R.bind_ex, ev_setL, kSetL_ev, ev_lDisp, kDisp_ev, ev_lList, lOf_l, lOf_t, ev_frz, frz_l, frz_d, frz_n, ev_lend, lend_l, lend_d, atom_i, atom_b, atom_s, ev_lendB, lendB_l, lendB_d, ev_app, app_l, kApp_ev, ev_put, put_l, ev_ixO, ixO_l, ixO_d, put_m, putAll_c, putAll_n, ev_lc, kLst_ev, ev_lcL, wipe_n, wipe_c, r1_2, r1_3, bits_ev, List.getElem?_cons_zero, List.getElem?_cons_succ, List.set_cons_zero, List.set_cons_succ, List.length_cons, List.length_nil, List.length_map, List.append_nil, List.cons_append, List.nil_append, ev_if, turn_nx, turn_ct, turn_bk, turn_rt, turn_ite, kWh_ev, isi_int_int, isi_bool_int, isi_int_bool, isi_bool_bool, isi_int_str, isi_int_none, isi_int_list, isi_int_tup, isi_bool_str, isi_bool_none, isi_bool_list, isi_bool_tup, isi_tup_tup, isi_tup_int, isi_tup_bool, isi_tup_str, isi_tup_none, isi_tup_list, isi_list_list, isi_list_tup, isi_list_int, isi_list_bool, isi_list_str, isi_list_none, isi_str_str, isi_str_int, isi_str_bool, isi_str_none, isi_str_list, isi_str_tup, decide_true, decide_false, not_true_eq_false, not_false_eq_true, ne_eq, decide_eq_true_eq, Bool.not_eq_true', decide_eq_false_iff_not, Bool.not_true, Bool.not_false, Bool.false_eq_true, if_true, if_false, reduceIte, i1, h1, h3, e]
instance bd_qA {x y : Rat} {n m n' m' : Nat} [BR x n m] [BR y n' m'] : Bd (qA x y) (n + m') := bd_lA
instance bd_qB {x y : Rat} {n m n' m' : Nat} [BR x n m] [BR y n' m'] : Bd (qB x y) (n' + m) := bd_lB
instance bd_qN {x y : Rat} {n m n' m' : Nat} [BR x n m] [BR y n' m'] : Bd (qN x y) (m + m') := bd_lN
theorem parts_ln (x y : Rat) {n m n' m' : Nat} [BR x n m] [BR y n' m'] (h : m + m' ≤ 9000) : m_parts [lnD x y] = .ok (.tuple [frD x, frD y]) := by
  have hn : qN x y ≠ 0 := by have := qN_pos x y; omega
  have e := parts_eq (qA x y) (qB x y) (qN x y) hn h
  have q := q_parts x y
  rw [q.1, q.2.1, q.2.2.1, q.2.2.2] at e
  exact e
theorem by_parts_ln (x y : Rat) {n m n' m' : Nat} [BR x n m] [BR y n' m'] (h : m + m' ≤ 9000) (h1 : n ≤ 60000000) (h2 : n' ≤ 60000000) : m_by_parts [frD x, frD y] = .ok (lnD x y) := by
  have i1 : n + m' ≤ 134217728 := by omega
  have i2 : n' + m ≤ 134217728 := by omega
  have i3 : m + m' ≤ 134217728 := by omega
  simp +decide only [m_by_parts, den_by_parts, ev_seq, seq_nx, seq_rt, seq_ex, seq_bk, seq_ct, seq_ite, fl_ok, fl_ex, fl_ite, ev_set, kSet_ev, ev_ret, ev_retN, ev_nx, ev_bk, ev_ct, ev_raise, ev_if, kIf_ev, ev_drop, kNx_ev, ev_par, kPar_ev, kId_ev, ev_asg, kAsg_ev, ev_for, kFor_ev, ev_V, dVg_ok, ev_C, ev_1, ev_2, bind2_ok, bind2_ite1, bind2_ite2, bind_ite, ev_A, ev_nil, ev_cons, kCons_ev, ev_T, toB_ev, ev_and, ev_or, ev_not, kAnd_ev, kOr_ev, kNot_ev, ev_andV, ev_orV, ev_notV, kAndV_ev, kOrV_ev, kNotV_ev, ev_ife, kIfE_ev, ev_ch, kCh, tup_ev, lst_ev, call_ev, kw_ev, ev_kw, ev_fn, startE_0, startE_s, startE_c, fin_rt, fin_nx, fin_ex, fin_ite, ix_t0, ix_t1, ix_t2, ix_t3, ix_l0, ix_l1, ix_l2, len_l, len_t1, len_t2, len_t3, len_t4, beq_self_eq_true, ev_iL, ev_iT, asL_ev, asT_ev, ev_iA, ev_P, toI_ev, ev_P0, ev_sl, kSl_ev, put_1, gAdd_i, gSub_i, gMul_i, gDiv_p, gMod_p, gPow_l, gShl_l, gShr_l, gLt_i, gLe_i, gGt_i, gGe_i, gEq_i, gNe_i, gNeg_i, gAbs_i, gInt_i, gInt_b, gEq_s, gNe_s, gEq_b, gNe_b, gEq_2, gNe_2, gEq_3, gNe_3, gEq_22, gNe_22, DL.R.bind_ok, DL.R.bind_ex, ev_setL, kSetL_ev, ev_lDisp, kDisp_ev, ev_lList, lOf_l, lOf_t, ev_frz, frz_l, frz_d, frz_n, ev_lend, lend_l, lend_d, atom_i, atom_b, atom_s, ev_lendB, lendB_l, lendB_d, ev_app, app_l, kApp_ev, ev_put, put_l, ev_ixO, ixO_l, ixO_d, put_m, putAll_c, putAll_n, ev_lc, kLst_ev, ev_lcL, wipe_n, wipe_c, r1_2, r1_3, bits_ev, List.getElem?_cons_zero, List.getElem?_cons_succ, List.set_cons_zero, List.set_cons_succ, List.length_cons, List.length_nil, List.length_map, List.append_nil, List.cons_append, List.nil_append, ev_if, turn_nx, turn_ct, turn_bk, turn_rt, turn_ite, kWh_ev, isi_int_int, isi_bool_int, isi_int_bool, isi_bool_bool, isi_int_str, isi_int_none, isi_int_list, isi_int_tup, isi_bool_str, isi_bool_none, isi_bool_list, isi_bool_tup, isi_tup_tup, isi_tup_int, isi_tup_bool, isi_tup_str, isi_tup_none, isi_tup_list, isi_list_list, isi_list_tup, isi_list_int, isi_list_bool, isi_list_str, isi_list_none, isi_str_str, isi_str_int, isi_str_bool, isi_str_none, isi_str_list, isi_str_tup, decide_true, decide_false, not_true_eq_false, not_false_eq_true, ne_eq, decide_eq_true_eq, Bool.not_eq_true', decide_eq_false_iff_not, Bool.not_true, Bool.not_false, Bool.false_eq_true, if_true, if_false, reduceIte, lowest_eq, qden x y, i1, i2, i3, h]
  rfl
/-! tables -/
structure Tab where
  a : Rat
  b : Rat
  c : Rat
  d : Rat
@[reducible] def tabD (t : Tab) : PD := .tuple [.tuple [frD t.a, frD t.b], .tuple [frD t.c, frD t.d]]
def Tab.add (s t : Tab) : Tab := ⟨s.a + t.a, s.b + t.b, s.c + t.c, s.d + t.d⟩
def Tab.sub (s t : Tab) : Tab := ⟨s.a - t.a, s.b - t.b, s.c - t.c, s.d - t.d⟩
def Tab.over (s : Tab) : Tab := ⟨s.a, s.c, s.b, s.d⟩
def Tab.zero : Tab := ⟨0, 0, 0, 0⟩
/-- a board: its sides' parts -/
structure Bo where
  x : Rat
  y : Rat
  u : Rat
  v : Rat
@[reducible] def boD (b : Bo) : PD := .tuple [lnD b.x b.y, lnD b.u b.v]
def Bo.tab (b : Bo) : Tab := ⟨b.x * b.u, b.x * b.v, b.y * b.u, b.y * b.v⟩
class BT (t : Tab) (n m : outParam Nat) : Prop where
  a : BR t.a n m
  b : BR t.b n m
  c : BR t.c n m
  d : BR t.d n m
class BB (t : Bo) (n m : outParam Nat) : Prop where
  x : BR t.x n m
  y : BR t.y n m
  u : BR t.u n m
  v : BR t.v n m
theorem BT.mono {t : Tab} {n m n' m' : Nat} (h : BT t n m) (e : n ≤ n') (e' : m ≤ m') : BT t n' m' := ⟨h.a.mono e e', h.b.mono e e', h.c.mono e e', h.d.mono e e'⟩
section
variable {s t : Tab} {n m n' m' : Nat} [i : BT s n m] [j : BT t n' m']
instance bt_add : BT (s.add t) (n + n' + m + m' + 1) (m + m') := ⟨@br_add _ _ _ _ _ _ i.a j.a, @br_add _ _ _ _ _ _ i.b j.b, @br_add _ _ _ _ _ _ i.c j.c, @br_add _ _ _ _ _ _ i.d j.d⟩
instance bt_sub : BT (s.sub t) (n + n' + m + m' + 1) (m + m') := ⟨@br_sub _ _ _ _ _ _ i.a j.a, @br_sub _ _ _ _ _ _ i.b j.b, @br_sub _ _ _ _ _ _ i.c j.c, @br_sub _ _ _ _ _ _ i.d j.d⟩
omit j in
instance bt_over : BT s.over n m := ⟨i.a, i.c, i.b, i.d⟩
end
instance bt_tab {b : Bo} {n m : Nat} [i : BB b n m] : BT b.tab (n + n) (m + m) := ⟨@br_mul _ _ _ _ _ _ i.x i.u, @br_mul _ _ _ _ _ _ i.x i.v, @br_mul _ _ _ _ _ _ i.y i.u, @br_mul _ _ _ _ _ _ i.y i.v⟩
instance bt_zero : BT Tab.zero 1 1 := ⟨br_zero, br_zero, br_zero, br_zero⟩
theorem zip_t {xs ys : List PD} : gZip [.tuple xs, .tuple ys] = .ok (zipD xs ys) := rfl
theorem zipD_c {x y : PD} {xs ys : List PD} : zipD (x :: xs) (y :: ys) = .tuple [x, y] :: zipD xs ys := rfl
theorem zipD_n : zipD [] [] = [] := rfl
theorem tupOf_l {ds : List PD} : gTupOf [.list ds] = .ok (.tuple ds) := rfl
theorem lcL_n {tg : Tg} {t : En → R Bool} {f : En → R PD} {ρ : En} : lcL tg t f ρ [] = .ok [] := rfl
theorem lcL_2 {i j : Nat} {x y : PD} {ds : List PD} {f : En → R PD} {ρ : En} {v : PD} {vs : List PD} (h1 : f ((ρ.set i (some (.d x))).set j (some (.d y))) = .ok v) (h2 : lcL (.many [i, j]) bYes f ρ ds = .ok vs) : lcL (.many [i, j]) bYes f ρ (.tuple [x, y] :: ds) = .ok (v :: vs) := by
  rw [lcL]
  have : Tg.put (.many [i, j]) (.tuple [x, y]) ρ = some ((ρ.set i (some (.d x))).set j (some (.d y))) := rfl
  rw [this]
  simp only [bYes, h1, h2]
theorem lcL_1 {i : Nat} {x : PD} {ds : List PD} {f : En → R PD} {ρ : En} {v : PD} {vs : List PD} (h1 : f (ρ.set i (some (.d x))) = .ok v) (h2 : lcL (.one i) bYes f ρ ds = .ok vs) : lcL (.one i) bYes f ρ (x :: ds) = .ok (v :: vs) := by
  rw [lcL]
  have : Tg.put (.one i) x ρ = some (ρ.set i (some (.d x))) := rfl
  rw [this]
  simp only [bYes, h1, h2]
theorem together_eq (s t : Tab) {n m n' m' : Nat} [i : BT s n m] [j : BT t n' m'] (h : m + m' ≤ 9000) (h1 : n ≤ 60000000) (h2 : n' ≤ 60000000) : m_together [tabD s, tabD t] = .ok (tabD (s.add t)) := by
  have e1 := @plus_fr s.a t.a n m n' m' i.a j.a h h1 h2
  have e2 := @plus_fr s.b t.b n m n' m' i.b j.b h h1 h2
  have e3 := @plus_fr s.c t.c n m n' m' i.c j.c h h1 h2
  have e4 := @plus_fr s.d t.d n m n' m' i.d j.d h h1 h2
  have row : ∀ (o1 o2 : PD) (p q r u : PD) (v w : PD) (x2 x3 x4 x5 : Option SV), m_plus [p, r] = .ok v → m_plus [q, u] = .ok w → le2_together [some (.d o1), some (.d o2), x2, x3, some (.d (.tuple [p, q])), some (.d (.tuple [r, u]))] = .ok (.tuple [v, w]) := by
    intro o1 o2 p q r u v w x2 x3 x4 x5 h1 h2
    have L : lcL (.many [2, 3]) bYes le1_together [some (.d o1), some (.d o2), none, none, some (.d (.tuple [p, q])), some (.d (.tuple [r, u]))] [.tuple [p, r], .tuple [q, u]] = .ok [v, w] :=
      lcL_2 (by simp +decide only [le1_together, ev_seq, seq_nx, seq_rt, seq_ex, seq_bk, seq_ct, seq_ite, fl_ok, fl_ex, fl_ite, ev_set, kSet_ev, ev_ret, ev_retN, ev_nx, ev_bk, ev_ct, ev_raise, ev_if, kIf_ev, ev_drop, kNx_ev, ev_par, kPar_ev, kId_ev, ev_asg, kAsg_ev, ev_for, kFor_ev, ev_V, dVg_ok, ev_C, ev_1, ev_2, bind2_ok, bind2_ite1, bind2_ite2, bind_ite, ev_A, ev_nil, ev_cons, kCons_ev, ev_T, toB_ev, ev_and, ev_or, ev_not, kAnd_ev, kOr_ev, kNot_ev, ev_andV, ev_orV, ev_notV, kAndV_ev, kOrV_ev, kNotV_ev, ev_ife, kIfE_ev, ev_ch, kCh, tup_ev, lst_ev, call_ev, kw_ev, ev_kw, ev_fn, startE_0, startE_s, startE_c, fin_rt, fin_nx, fin_ex, fin_ite, ix_t0, ix_t1, ix_t2, ix_t3, ix_l0, ix_l1, ix_l2, len_l, len_t1, len_t2, len_t3, len_t4, beq_self_eq_true, ev_iL, ev_iT, asL_ev, asT_ev, ev_iA, ev_P, toI_ev, ev_P0, ev_sl, kSl_ev, put_1, gAdd_i, gSub_i, gMul_i, gDiv_p, gMod_p, gPow_l, gShl_l, gShr_l, gLt_i, gLe_i, gGt_i, gGe_i, gEq_i, gNe_i, gNeg_i, gAbs_i, gInt_i, gInt_b, gEq_s, gNe_s, gEq_b, gNe_b, gEq_2, gNe_2, gEq_3, gNe_3, gEq_22, gNe_22, DL.R.bind_ok, DL.R.bind_ex, ev_setL, kSetL_ev, ev_lDisp, kDisp_ev, ev_lList, lOf_l, lOf_t, ev_frz, frz_l, frz_d, frz_n, ev_lend, lend_l, lend_d, atom_i, atom_b, atom_s, ev_lendB, lendB_l, lendB_d, ev_app, app_l, kApp_ev, ev_put, put_l, ev_ixO, ixO_l, ixO_d, put_m, putAll_c, putAll_n, ev_lc, kLst_ev, ev_lcL, wipe_n, wipe_c, r1_2, r1_3, bits_ev, List.getElem?_cons_zero, List.getElem?_cons_succ, List.set_cons_zero, List.set_cons_succ, List.length_cons, List.length_nil, List.length_map, List.append_nil, List.cons_append, List.nil_append, ev_if, turn_nx, turn_ct, turn_bk, turn_rt, turn_ite, kWh_ev, isi_int_int, isi_bool_int, isi_int_bool, isi_bool_bool, isi_int_str, isi_int_none, isi_int_list, isi_int_tup, isi_bool_str, isi_bool_none, isi_bool_list, isi_bool_tup, isi_tup_tup, isi_tup_int, isi_tup_bool, isi_tup_str, isi_tup_none, isi_tup_list, isi_list_list, isi_list_tup, isi_list_int, isi_list_bool, isi_list_str, isi_list_none, isi_str_str, isi_str_int, isi_str_bool, isi_str_none, isi_str_list, isi_str_tup, decide_true, decide_false, not_true_eq_false, not_false_eq_true, ne_eq, decide_eq_true_eq, Bool.not_eq_true', decide_eq_false_iff_not, Bool.not_true, Bool.not_false, Bool.false_eq_true, if_true, if_false, reduceIte, h1]) (lcL_2 (by simp +decide only [le1_together, ev_seq, seq_nx, seq_rt, seq_ex, seq_bk, seq_ct, seq_ite, fl_ok, fl_ex, fl_ite, ev_set, kSet_ev, ev_ret, ev_retN, ev_nx, ev_bk, ev_ct, ev_raise, ev_if, kIf_ev, ev_drop, kNx_ev, ev_par, kPar_ev, kId_ev, ev_asg, kAsg_ev, ev_for, kFor_ev, ev_V, dVg_ok, ev_C, ev_1, ev_2, bind2_ok, bind2_ite1, bind2_ite2, bind_ite, ev_A, ev_nil, ev_cons, kCons_ev, ev_T, toB_ev, ev_and, ev_or, ev_not, kAnd_ev, kOr_ev, kNot_ev, ev_andV, ev_orV, ev_notV, kAndV_ev, kOrV_ev, kNotV_ev, ev_ife, kIfE_ev, ev_ch, kCh, tup_ev, lst_ev, call_ev, kw_ev, ev_kw, ev_fn, startE_0, startE_s, startE_c, fin_rt, fin_nx, fin_ex, fin_ite, ix_t0, ix_t1, ix_t2, ix_t3, ix_l0, ix_l1, ix_l2, len_l, len_t1, len_t2, len_t3, len_t4, beq_self_eq_true, ev_iL, ev_iT, asL_ev, asT_ev, ev_iA, ev_P, toI_ev, ev_P0, ev_sl, kSl_ev, put_1, gAdd_i, gSub_i, gMul_i, gDiv_p, gMod_p, gPow_l, gShl_l, gShr_l, gLt_i, gLe_i, gGt_i, gGe_i, gEq_i, gNe_i, gNeg_i, gAbs_i, gInt_i, gInt_b, gEq_s, gNe_s, gEq_b, gNe_b, gEq_2, gNe_2, gEq_3, gNe_3, gEq_22, gNe_22, DL.R.bind_ok, DL.R.bind_ex, ev_setL, kSetL_ev, ev_lDisp, kDisp_ev, ev_lList, lOf_l, lOf_t, ev_frz, frz_l, frz_d, frz_n, ev_lend, lend_l, lend_d, atom_i, atom_b, atom_s, ev_lendB, lendB_l, lendB_d, ev_app, app_l, kApp_ev, ev_put, put_l, ev_ixO, ixO_l, ixO_d, put_m, putAll_c, putAll_n, ev_lc, kLst_ev, ev_lcL, wipe_n, wipe_c, r1_2, r1_3, bits_ev, List.getElem?_cons_zero, List.getElem?_cons_succ, List.set_cons_zero, List.set_cons_succ, List.length_cons, List.length_nil, List.length_map, List.append_nil, List.cons_append, List.nil_append, ev_if, turn_nx, turn_ct, turn_bk, turn_rt, turn_ite, kWh_ev, isi_int_int, isi_bool_int, isi_int_bool, isi_bool_bool, isi_int_str, isi_int_none, isi_int_list, isi_int_tup, isi_bool_str, isi_bool_none, isi_bool_list, isi_bool_tup, isi_tup_tup, isi_tup_int, isi_tup_bool, isi_tup_str, isi_tup_none, isi_tup_list, isi_list_list, isi_list_tup, isi_list_int, isi_list_bool, isi_list_str, isi_list_none, isi_str_str, isi_str_int, isi_str_bool, isi_str_none, isi_str_list, isi_str_tup, decide_true, decide_false, not_true_eq_false, not_false_eq_true, ne_eq, decide_eq_true_eq, Bool.not_eq_true', decide_eq_false_iff_not, Bool.not_true, Bool.not_false, Bool.false_eq_true, if_true, if_false, reduceIte, h2]) lcL_n)
    simp +decide only [le2_together, ev_seq, seq_nx, seq_rt, seq_ex, seq_bk, seq_ct, seq_ite, fl_ok, fl_ex, fl_ite, ev_set, kSet_ev, ev_ret, ev_retN, ev_nx, ev_bk, ev_ct, ev_raise, ev_if, kIf_ev, ev_drop, kNx_ev, ev_par, kPar_ev, kId_ev, ev_asg, kAsg_ev, ev_for, kFor_ev, ev_V, dVg_ok, ev_C, ev_1, ev_2, bind2_ok, bind2_ite1, bind2_ite2, bind_ite, ev_A, ev_nil, ev_cons, kCons_ev, ev_T, toB_ev, ev_and, ev_or, ev_not, kAnd_ev, kOr_ev, kNot_ev, ev_andV, ev_orV, ev_notV, kAndV_ev, kOrV_ev, kNotV_ev, ev_ife, kIfE_ev, ev_ch, kCh, tup_ev, lst_ev, call_ev, kw_ev, ev_kw, ev_fn, startE_0, startE_s, startE_c, fin_rt, fin_nx, fin_ex, fin_ite, ix_t0, ix_t1, ix_t2, ix_t3, ix_l0, ix_l1, ix_l2, len_l, len_t1, len_t2, len_t3, len_t4, beq_self_eq_true, ev_iL, ev_iT, asL_ev, asT_ev, ev_iA, ev_P, toI_ev, ev_P0, ev_sl, kSl_ev, put_1, gAdd_i, gSub_i, gMul_i, gDiv_p, gMod_p, gPow_l, gShl_l, gShr_l, gLt_i, gLe_i, gGt_i, gGe_i, gEq_i, gNe_i, gNeg_i, gAbs_i, gInt_i, gInt_b, gEq_s, gNe_s, gEq_b, gNe_b, gEq_2, gNe_2, gEq_3, gNe_3, gEq_22, gNe_22, DL.R.bind_ok, DL.R.bind_ex, ev_setL, kSetL_ev, ev_lDisp, kDisp_ev, ev_lList, lOf_l, lOf_t, ev_frz, frz_l, frz_d, frz_n, ev_lend, lend_l, lend_d, atom_i, atom_b, atom_s, ev_lendB, lendB_l, lendB_d, ev_app, app_l, kApp_ev, ev_put, put_l, ev_ixO, ixO_l, ixO_d, put_m, putAll_c, putAll_n, ev_lc, kLst_ev, ev_lcL, wipe_n, wipe_c, r1_2, r1_3, bits_ev, List.getElem?_cons_zero, List.getElem?_cons_succ, List.set_cons_zero, List.set_cons_succ, List.length_cons, List.length_nil, List.length_map, List.append_nil, List.cons_append, List.nil_append, ev_if, turn_nx, turn_ct, turn_bk, turn_rt, turn_ite, kWh_ev, isi_int_int, isi_bool_int, isi_int_bool, isi_bool_bool, isi_int_str, isi_int_none, isi_int_list, isi_int_tup, isi_bool_str, isi_bool_none, isi_bool_list, isi_bool_tup, isi_tup_tup, isi_tup_int, isi_tup_bool, isi_tup_str, isi_tup_none, isi_tup_list, isi_list_list, isi_list_tup, isi_list_int, isi_list_bool, isi_list_str, isi_list_none, isi_str_str, isi_str_int, isi_str_bool, isi_str_none, isi_str_list, isi_str_tup, decide_true, decide_false, not_true_eq_false, not_false_eq_true, ne_eq, decide_eq_true_eq, Bool.not_eq_true', decide_eq_false_iff_not, Bool.not_true, Bool.not_false, Bool.false_eq_true, if_true, if_false, reduceIte, zip_t, zipD_c, zipD_n, kLcL_ev, L, tupOf_l]
  have L : lcL (.many [4, 5]) bYes le2_together [some (.d (tabD s)), some (.d (tabD t)), none, none, none, none] [.tuple [.tuple [frD s.a, frD s.b], .tuple [frD t.a, frD t.b]], .tuple [.tuple [frD s.c, frD s.d], .tuple [frD t.c, frD t.d]]] = .ok [.tuple [frD (s.a + t.a), frD (s.b + t.b)], .tuple [frD (s.c + t.c), frD (s.d + t.d)]] :=
    lcL_2 (row _ _ _ _ _ _ _ _ _ _ none none e1 e2) (lcL_2 (row _ _ _ _ _ _ _ _ _ _ none none e3 e4) lcL_n)
  simp +decide only [m_together, den_together, ev_seq, seq_nx, seq_rt, seq_ex, seq_bk, seq_ct, seq_ite, fl_ok, fl_ex, fl_ite, ev_set, kSet_ev, ev_ret, ev_retN, ev_nx, ev_bk, ev_ct, ev_raise, ev_if, kIf_ev, ev_drop, kNx_ev, ev_par, kPar_ev, kId_ev, ev_asg, kAsg_ev, ev_for, kFor_ev, ev_V, dVg_ok, ev_C, ev_1, ev_2, bind2_ok, bind2_ite1, bind2_ite2, bind_ite, ev_A, ev_nil, ev_cons, kCons_ev, ev_T, toB_ev, ev_and, ev_or, ev_not, kAnd_ev, kOr_ev, kNot_ev, ev_andV, ev_orV, ev_notV, kAndV_ev, kOrV_ev, kNotV_ev, ev_ife, kIfE_ev, ev_ch, kCh, tup_ev, lst_ev, call_ev, kw_ev, ev_kw, ev_fn, startE_0, startE_s, startE_c, fin_rt, fin_nx, fin_ex, fin_ite, ix_t0, ix_t1, ix_t2, ix_t3, ix_l0, ix_l1, ix_l2, len_l, len_t1, len_t2, len_t3, len_t4, beq_self_eq_true, ev_iL, ev_iT, asL_ev, asT_ev, ev_iA, ev_P, toI_ev, ev_P0, ev_sl, kSl_ev, put_1, gAdd_i, gSub_i, gMul_i, gDiv_p, gMod_p, gPow_l, gShl_l, gShr_l, gLt_i, gLe_i, gGt_i, gGe_i, gEq_i, gNe_i, gNeg_i, gAbs_i, gInt_i, gInt_b, gEq_s, gNe_s, gEq_b, gNe_b, gEq_2, gNe_2, gEq_3, gNe_3, gEq_22, gNe_22, DL.R.bind_ok, DL.R.bind_ex, ev_setL, kSetL_ev, ev_lDisp, kDisp_ev, ev_lList, lOf_l, lOf_t, ev_frz, frz_l, frz_d, frz_n, ev_lend, lend_l, lend_d, atom_i, atom_b, atom_s, ev_lendB, lendB_l, lendB_d, ev_app, app_l, kApp_ev, ev_put, put_l, ev_ixO, ixO_l, ixO_d, put_m, putAll_c, putAll_n, ev_lc, kLst_ev, ev_lcL, wipe_n, wipe_c, r1_2, r1_3, bits_ev, List.getElem?_cons_zero, List.getElem?_cons_succ, List.set_cons_zero, List.set_cons_succ, List.length_cons, List.length_nil, List.length_map, List.append_nil, List.cons_append, List.nil_append, ev_if, turn_nx, turn_ct, turn_bk, turn_rt, turn_ite, kWh_ev, isi_int_int, isi_bool_int, isi_int_bool, isi_bool_bool, isi_int_str, isi_int_none, isi_int_list, isi_int_tup, isi_bool_str, isi_bool_none, isi_bool_list, isi_bool_tup, isi_tup_tup, isi_tup_int, isi_tup_bool, isi_tup_str, isi_tup_none, isi_tup_list, isi_list_list, isi_list_tup, isi_list_int, isi_list_bool, isi_list_str, isi_list_none, isi_str_str, isi_str_int, isi_str_bool, isi_str_none, isi_str_list, isi_str_tup, decide_true, decide_false, not_true_eq_false, not_false_eq_true, ne_eq, decide_eq_true_eq, Bool.not_eq_true', decide_eq_false_iff_not, Bool.not_true, Bool.not_false, Bool.false_eq_true, if_true, if_false, reduceIte, zip_t, zipD_c, zipD_n, kLcL_ev, L, tupOf_l]
  rfl
theorem less_eq (s t : Tab) {n m n' m' : Nat} [i : BT s n m] [j : BT t n' m'] (h : m + m' ≤ 9000) (h1 : n ≤ 60000000) (h2 : n' ≤ 60000000) : m_less [tabD s, tabD t] = .ok (tabD (s.sub t)) := by
  have e1 := @minus_fr s.a t.a n m n' m' i.a j.a h h1 h2
  have e2 := @minus_fr s.b t.b n m n' m' i.b j.b h h1 h2
  have e3 := @minus_fr s.c t.c n m n' m' i.c j.c h h1 h2
  have e4 := @minus_fr s.d t.d n m n' m' i.d j.d h h1 h2
  have row : ∀ (o1 o2 : PD) (p q r u : PD) (v w : PD) (x2 x3 x4 x5 : Option SV), m_minus [p, r] = .ok v → m_minus [q, u] = .ok w → le2_less [some (.d o1), some (.d o2), x2, x3, some (.d (.tuple [p, q])), some (.d (.tuple [r, u]))] = .ok (.tuple [v, w]) := by
    intro o1 o2 p q r u v w x2 x3 x4 x5 h1 h2
    have L : lcL (.many [2, 3]) bYes le1_less [some (.d o1), some (.d o2), none, none, some (.d (.tuple [p, q])), some (.d (.tuple [r, u]))] [.tuple [p, r], .tuple [q, u]] = .ok [v, w] :=
      lcL_2 (by simp +decide only [le1_less, ev_seq, seq_nx, seq_rt, seq_ex, seq_bk, seq_ct, seq_ite, fl_ok, fl_ex, fl_ite, ev_set, kSet_ev, ev_ret, ev_retN, ev_nx, ev_bk, ev_ct, ev_raise, ev_if, kIf_ev, ev_drop, kNx_ev, ev_par, kPar_ev, kId_ev, ev_asg, kAsg_ev, ev_for, kFor_ev, ev_V, dVg_ok, ev_C, ev_1, ev_2, bind2_ok, bind2_ite1, bind2_ite2, bind_ite, ev_A, ev_nil, ev_cons, kCons_ev, ev_T, toB_ev, ev_and, ev_or, ev_not, kAnd_ev, kOr_ev, kNot_ev, ev_andV, ev_orV, ev_notV, kAndV_ev, kOrV_ev, kNotV_ev, ev_ife, kIfE_ev, ev_ch, kCh, tup_ev, lst_ev, call_ev, kw_ev, ev_kw, ev_fn, startE_0, startE_s, startE_c, fin_rt, fin_nx, fin_ex, fin_ite, ix_t0, ix_t1, ix_t2, ix_t3, ix_l0, ix_l1, ix_l2, len_l, len_t1, len_t2, len_t3, len_t4, beq_self_eq_true, ev_iL, ev_iT, asL_ev, asT_ev, ev_iA, ev_P, toI_ev, ev_P0, ev_sl, kSl_ev, put_1, gAdd_i, gSub_i, gMul_i, gDiv_p, gMod_p, gPow_l, gShl_l, gShr_l, gLt_i, gLe_i, gGt_i, gGe_i, gEq_i, gNe_i, gNeg_i, gAbs_i, gInt_i, gInt_b, gEq_s, gNe_s, gEq_b, gNe_b, gEq_2, gNe_2, gEq_3, gNe_3, gEq_22, gNe_22, DL.R.bind_ok, DL.R.bind_ex, ev_setL, kSetL_ev, ev_lDisp, kDisp_ev, ev_lList, lOf_l, lOf_t, ev_frz, frz_l, frz_d, frz_n, ev_lend, lend_l, lend_d, atom_i, atom_b, atom_s, ev_lendB, lendB_l, lendB_d, ev_app, app_l, kApp_ev, ev_put, put_l, ev_ixO, ixO_l, ixO_d, put_m, putAll_c, putAll_n, ev_lc, kLst_ev, ev_lcL, wipe_n, wipe_c, r1_2, r1_3, bits_ev, List.getElem?_cons_zero, List.getElem?_cons_succ, List.set_cons_zero, List.set_cons_succ, List.length_cons, List.length_nil, List.length_map, List.append_nil, List.cons_append, List.nil_append, ev_if, turn_nx, turn_ct, turn_bk, turn_rt, turn_ite, kWh_ev, isi_int_int, isi_bool_int, isi_int_bool, isi_bool_bool, isi_int_str, isi_int_none, isi_int_list, isi_int_tup, isi_bool_str, isi_bool_none, isi_bool_list, isi_bool_tup, isi_tup_tup, isi_tup_int, isi_tup_bool, isi_tup_str, isi_tup_none, isi_tup_list, isi_list_list, isi_list_tup, isi_list_int, isi_list_bool, isi_list_str, isi_list_none, isi_str_str, isi_str_int, isi_str_bool, isi_str_none, isi_str_list, isi_str_tup, decide_true, decide_false, not_true_eq_false, not_false_eq_true, ne_eq, decide_eq_true_eq, Bool.not_eq_true', decide_eq_false_iff_not, Bool.not_true, Bool.not_false, Bool.false_eq_true, if_true, if_false, reduceIte, h1]) (lcL_2 (by simp +decide only [le1_less, ev_seq, seq_nx, seq_rt, seq_ex, seq_bk, seq_ct, seq_ite, fl_ok, fl_ex, fl_ite, ev_set, kSet_ev, ev_ret, ev_retN, ev_nx, ev_bk, ev_ct, ev_raise, ev_if, kIf_ev, ev_drop, kNx_ev, ev_par, kPar_ev, kId_ev, ev_asg, kAsg_ev, ev_for, kFor_ev, ev_V, dVg_ok, ev_C, ev_1, ev_2, bind2_ok, bind2_ite1, bind2_ite2, bind_ite, ev_A, ev_nil, ev_cons, kCons_ev, ev_T, toB_ev, ev_and, ev_or, ev_not, kAnd_ev, kOr_ev, kNot_ev, ev_andV, ev_orV, ev_notV, kAndV_ev, kOrV_ev, kNotV_ev, ev_ife, kIfE_ev, ev_ch, kCh, tup_ev, lst_ev, call_ev, kw_ev, ev_kw, ev_fn, startE_0, startE_s, startE_c, fin_rt, fin_nx, fin_ex, fin_ite, ix_t0, ix_t1, ix_t2, ix_t3, ix_l0, ix_l1, ix_l2, len_l, len_t1, len_t2, len_t3, len_t4, beq_self_eq_true, ev_iL, ev_iT, asL_ev, asT_ev, ev_iA, ev_P, toI_ev, ev_P0, ev_sl, kSl_ev, put_1, gAdd_i, gSub_i, gMul_i, gDiv_p, gMod_p, gPow_l, gShl_l, gShr_l, gLt_i, gLe_i, gGt_i, gGe_i, gEq_i, gNe_i, gNeg_i, gAbs_i, gInt_i, gInt_b, gEq_s, gNe_s, gEq_b, gNe_b, gEq_2, gNe_2, gEq_3, gNe_3, gEq_22, gNe_22, DL.R.bind_ok, DL.R.bind_ex, ev_setL, kSetL_ev, ev_lDisp, kDisp_ev, ev_lList, lOf_l, lOf_t, ev_frz, frz_l, frz_d, frz_n, ev_lend, lend_l, lend_d, atom_i, atom_b, atom_s, ev_lendB, lendB_l, lendB_d, ev_app, app_l, kApp_ev, ev_put, put_l, ev_ixO, ixO_l, ixO_d, put_m, putAll_c, putAll_n, ev_lc, kLst_ev, ev_lcL, wipe_n, wipe_c, r1_2, r1_3, bits_ev, List.getElem?_cons_zero, List.getElem?_cons_succ, List.set_cons_zero, List.set_cons_succ, List.length_cons, List.length_nil, List.length_map, List.append_nil, List.cons_append, List.nil_append, ev_if, turn_nx, turn_ct, turn_bk, turn_rt, turn_ite, kWh_ev, isi_int_int, isi_bool_int, isi_int_bool, isi_bool_bool, isi_int_str, isi_int_none, isi_int_list, isi_int_tup, isi_bool_str, isi_bool_none, isi_bool_list, isi_bool_tup, isi_tup_tup, isi_tup_int, isi_tup_bool, isi_tup_str, isi_tup_none, isi_tup_list, isi_list_list, isi_list_tup, isi_list_int, isi_list_bool, isi_list_str, isi_list_none, isi_str_str, isi_str_int, isi_str_bool, isi_str_none, isi_str_list, isi_str_tup, decide_true, decide_false, not_true_eq_false, not_false_eq_true, ne_eq, decide_eq_true_eq, Bool.not_eq_true', decide_eq_false_iff_not, Bool.not_true, Bool.not_false, Bool.false_eq_true, if_true, if_false, reduceIte, h2]) lcL_n)
    simp +decide only [le2_less, ev_seq, seq_nx, seq_rt, seq_ex, seq_bk, seq_ct, seq_ite, fl_ok, fl_ex, fl_ite, ev_set, kSet_ev, ev_ret, ev_retN, ev_nx, ev_bk, ev_ct, ev_raise, ev_if, kIf_ev, ev_drop, kNx_ev, ev_par, kPar_ev, kId_ev, ev_asg, kAsg_ev, ev_for, kFor_ev, ev_V, dVg_ok, ev_C, ev_1, ev_2, bind2_ok, bind2_ite1, bind2_ite2, bind_ite, ev_A, ev_nil, ev_cons, kCons_ev, ev_T, toB_ev, ev_and, ev_or, ev_not, kAnd_ev, kOr_ev, kNot_ev, ev_andV, ev_orV, ev_notV, kAndV_ev, kOrV_ev, kNotV_ev, ev_ife, kIfE_ev, ev_ch, kCh, tup_ev, lst_ev, call_ev, kw_ev, ev_kw, ev_fn, startE_0, startE_s, startE_c, fin_rt, fin_nx, fin_ex, fin_ite, ix_t0, ix_t1, ix_t2, ix_t3, ix_l0, ix_l1, ix_l2, len_l, len_t1, len_t2, len_t3, len_t4, beq_self_eq_true, ev_iL, ev_iT, asL_ev, asT_ev, ev_iA, ev_P, toI_ev, ev_P0, ev_sl, kSl_ev, put_1, gAdd_i, gSub_i, gMul_i, gDiv_p, gMod_p, gPow_l, gShl_l, gShr_l, gLt_i, gLe_i, gGt_i, gGe_i, gEq_i, gNe_i, gNeg_i, gAbs_i, gInt_i, gInt_b, gEq_s, gNe_s, gEq_b, gNe_b, gEq_2, gNe_2, gEq_3, gNe_3, gEq_22, gNe_22, DL.R.bind_ok, DL.R.bind_ex, ev_setL, kSetL_ev, ev_lDisp, kDisp_ev, ev_lList, lOf_l, lOf_t, ev_frz, frz_l, frz_d, frz_n, ev_lend, lend_l, lend_d, atom_i, atom_b, atom_s, ev_lendB, lendB_l, lendB_d, ev_app, app_l, kApp_ev, ev_put, put_l, ev_ixO, ixO_l, ixO_d, put_m, putAll_c, putAll_n, ev_lc, kLst_ev, ev_lcL, wipe_n, wipe_c, r1_2, r1_3, bits_ev, List.getElem?_cons_zero, List.getElem?_cons_succ, List.set_cons_zero, List.set_cons_succ, List.length_cons, List.length_nil, List.length_map, List.append_nil, List.cons_append, List.nil_append, ev_if, turn_nx, turn_ct, turn_bk, turn_rt, turn_ite, kWh_ev, isi_int_int, isi_bool_int, isi_int_bool, isi_bool_bool, isi_int_str, isi_int_none, isi_int_list, isi_int_tup, isi_bool_str, isi_bool_none, isi_bool_list, isi_bool_tup, isi_tup_tup, isi_tup_int, isi_tup_bool, isi_tup_str, isi_tup_none, isi_tup_list, isi_list_list, isi_list_tup, isi_list_int, isi_list_bool, isi_list_str, isi_list_none, isi_str_str, isi_str_int, isi_str_bool, isi_str_none, isi_str_list, isi_str_tup, decide_true, decide_false, not_true_eq_false, not_false_eq_true, ne_eq, decide_eq_true_eq, Bool.not_eq_true', decide_eq_false_iff_not, Bool.not_true, Bool.not_false, Bool.false_eq_true, if_true, if_false, reduceIte, zip_t, zipD_c, zipD_n, kLcL_ev, L, tupOf_l]
  have L : lcL (.many [4, 5]) bYes le2_less [some (.d (tabD s)), some (.d (tabD t)), none, none, none, none] [.tuple [.tuple [frD s.a, frD s.b], .tuple [frD t.a, frD t.b]], .tuple [.tuple [frD s.c, frD s.d], .tuple [frD t.c, frD t.d]]] = .ok [.tuple [frD (s.a - t.a), frD (s.b - t.b)], .tuple [frD (s.c - t.c), frD (s.d - t.d)]] :=
    lcL_2 (row _ _ _ _ _ _ _ _ _ _ none none e1 e2) (lcL_2 (row _ _ _ _ _ _ _ _ _ _ none none e3 e4) lcL_n)
  simp +decide only [m_less, den_less, ev_seq, seq_nx, seq_rt, seq_ex, seq_bk, seq_ct, seq_ite, fl_ok, fl_ex, fl_ite, ev_set, kSet_ev, ev_ret, ev_retN, ev_nx, ev_bk, ev_ct, ev_raise, ev_if, kIf_ev, ev_drop, kNx_ev, ev_par, kPar_ev, kId_ev, ev_asg, kAsg_ev, ev_for, kFor_ev, ev_V, dVg_ok, ev_C, ev_1, ev_2, bind2_ok, bind2_ite1, bind2_ite2, bind_ite, ev_A, ev_nil, ev_cons, kCons_ev, ev_T, toB_ev, ev_and, ev_or, ev_not, kAnd_ev, kOr_ev, kNot_ev, ev_andV, ev_orV, ev_notV, kAndV_ev, kOrV_ev, kNotV_ev, ev_ife, kIfE_ev, ev_ch, kCh, tup_ev, lst_ev, call_ev, kw_ev, ev_kw, ev_fn, startE_0, startE_s, startE_c, fin_rt, fin_nx, fin_ex, fin_ite, ix_t0, ix_t1, ix_t2, ix_t3, ix_l0, ix_l1, ix_l2, len_l, len_t1, len_t2, len_t3, len_t4, beq_self_eq_true, ev_iL, ev_iT, asL_ev, asT_ev, ev_iA, ev_P, toI_ev, ev_P0, ev_sl, kSl_ev, put_1, gAdd_i, gSub_i, gMul_i, gDiv_p, gMod_p, gPow_l, gShl_l, gShr_l, gLt_i, gLe_i, gGt_i, gGe_i, gEq_i, gNe_i, gNeg_i, gAbs_i, gInt_i, gInt_b, gEq_s, gNe_s, gEq_b, gNe_b, gEq_2, gNe_2, gEq_3, gNe_3, gEq_22, gNe_22, DL.R.bind_ok, DL.R.bind_ex, ev_setL, kSetL_ev, ev_lDisp, kDisp_ev, ev_lList, lOf_l, lOf_t, ev_frz, frz_l, frz_d, frz_n, ev_lend, lend_l, lend_d, atom_i, atom_b, atom_s, ev_lendB, lendB_l, lendB_d, ev_app, app_l, kApp_ev, ev_put, put_l, ev_ixO, ixO_l, ixO_d, put_m, putAll_c, putAll_n, ev_lc, kLst_ev, ev_lcL, wipe_n, wipe_c, r1_2, r1_3, bits_ev, List.getElem?_cons_zero, List.getElem?_cons_succ, List.set_cons_zero, List.set_cons_succ, List.length_cons, List.length_nil, List.length_map, List.append_nil, List.cons_append, List.nil_append, ev_if, turn_nx, turn_ct, turn_bk, turn_rt, turn_ite, kWh_ev, isi_int_int, isi_bool_int, isi_int_bool, isi_bool_bool, isi_int_str, isi_int_none, isi_int_list, isi_int_tup, isi_bool_str, isi_bool_none, isi_bool_list, isi_bool_tup, isi_tup_tup, isi_tup_int, isi_tup_bool, isi_tup_str, isi_tup_none, isi_tup_list, isi_list_list, isi_list_tup, isi_list_int, isi_list_bool, isi_list_str, isi_list_none, isi_str_str, isi_str_int, isi_str_bool, isi_str_none, isi_str_list, isi_str_tup, decide_true, decide_false, not_true_eq_false, not_false_eq_true, ne_eq, decide_eq_true_eq, Bool.not_eq_true', decide_eq_false_iff_not, Bool.not_true, Bool.not_false, Bool.false_eq_true, if_true, if_false, reduceIte, zip_t, zipD_c, zipD_n, kLcL_ev, L, tupOf_l]
  rfl
theorem over_eq (s : Tab) : m_over [tabD s] = .ok (tabD s.over) := by
  simp +decide only [m_over, den_over, ev_seq, seq_nx, seq_rt, seq_ex, seq_bk, seq_ct, seq_ite, fl_ok, fl_ex, fl_ite, ev_set, kSet_ev, ev_ret, ev_retN, ev_nx, ev_bk, ev_ct, ev_raise, ev_if, kIf_ev, ev_drop, kNx_ev, ev_par, kPar_ev, kId_ev, ev_asg, kAsg_ev, ev_for, kFor_ev, ev_V, dVg_ok, ev_C, ev_1, ev_2, bind2_ok, bind2_ite1, bind2_ite2, bind_ite, ev_A, ev_nil, ev_cons, kCons_ev, ev_T, toB_ev, ev_and, ev_or, ev_not, kAnd_ev, kOr_ev, kNot_ev, ev_andV, ev_orV, ev_notV, kAndV_ev, kOrV_ev, kNotV_ev, ev_ife, kIfE_ev, ev_ch, kCh, tup_ev, lst_ev, call_ev, kw_ev, ev_kw, ev_fn, startE_0, startE_s, startE_c, fin_rt, fin_nx, fin_ex, fin_ite, ix_t0, ix_t1, ix_t2, ix_t3, ix_l0, ix_l1, ix_l2, len_l, len_t1, len_t2, len_t3, len_t4, beq_self_eq_true, ev_iL, ev_iT, asL_ev, asT_ev, ev_iA, ev_P, toI_ev, ev_P0, ev_sl, kSl_ev, put_1, gAdd_i, gSub_i, gMul_i, gDiv_p, gMod_p, gPow_l, gShl_l, gShr_l, gLt_i, gLe_i, gGt_i, gGe_i, gEq_i, gNe_i, gNeg_i, gAbs_i, gInt_i, gInt_b, gEq_s, gNe_s, gEq_b, gNe_b, gEq_2, gNe_2, gEq_3, gNe_3, gEq_22, gNe_22, DL.R.bind_ok, DL.R.bind_ex, ev_setL, kSetL_ev, ev_lDisp, kDisp_ev, ev_lList, lOf_l, lOf_t, ev_frz, frz_l, frz_d, frz_n, ev_lend, lend_l, lend_d, atom_i, atom_b, atom_s, ev_lendB, lendB_l, lendB_d, ev_app, app_l, kApp_ev, ev_put, put_l, ev_ixO, ixO_l, ixO_d, put_m, putAll_c, putAll_n, ev_lc, kLst_ev, ev_lcL, wipe_n, wipe_c, r1_2, r1_3, bits_ev, List.getElem?_cons_zero, List.getElem?_cons_succ, List.set_cons_zero, List.set_cons_succ, List.length_cons, List.length_nil, List.length_map, List.append_nil, List.cons_append, List.nil_append, ev_if, turn_nx, turn_ct, turn_bk, turn_rt, turn_ite, kWh_ev, isi_int_int, isi_bool_int, isi_int_bool, isi_bool_bool, isi_int_str, isi_int_none, isi_int_list, isi_int_tup, isi_bool_str, isi_bool_none, isi_bool_list, isi_bool_tup, isi_tup_tup, isi_tup_int, isi_tup_bool, isi_tup_str, isi_tup_none, isi_tup_list, isi_list_list, isi_list_tup, isi_list_int, isi_list_bool, isi_list_str, isi_list_none, isi_str_str, isi_str_int, isi_str_bool, isi_str_none, isi_str_list, isi_str_tup, decide_true, decide_false, not_true_eq_false, not_false_eq_true, ne_eq, decide_eq_true_eq, Bool.not_eq_true', decide_eq_false_iff_not, Bool.not_true, Bool.not_false, Bool.false_eq_true, if_true, if_false, reduceIte]
  rfl
theorem table_of_eq (b : Bo) {n m : Nat} [i : BB b n m] (h : m + m ≤ 9000) (h1 : n ≤ 60000000) : m_table_of [lnD b.x b.y, lnD b.u b.v] = .ok (tabD b.tab) := by
  have p1 := @parts_ln b.x b.y n m n m i.x i.y h
  have p2 := @parts_ln b.u b.v n m n m i.u i.v h
  have e1 := @times_fr b.x b.u n m n m i.x i.u h h1 h1
  have e2 := @times_fr b.x b.v n m n m i.x i.v h h1 h1
  have e3 := @times_fr b.y b.u n m n m i.y i.u h h1 h1
  have e4 := @times_fr b.y b.v n m n m i.y i.v h h1 h1
  have row : ∀ (p : Rat) (v w : PD) (x2 : Option SV), m_times [frD p, frD b.u] = .ok v → m_times [frD p, frD b.v] = .ok w → le2_table_of [some (.d (lnD b.x b.y)), some (.d (lnD b.u b.v)), x2, some (.d (frD p))] = .ok (.tuple [v, w]) := by
    intro p v w x2 h1 h2
    have L : lcL (.one 2) bYes le1_table_of [some (.d (lnD b.x b.y)), some (.d (lnD b.u b.v)), none, some (.d (frD p))] [frD b.u, frD b.v] = .ok [v, w] :=
      lcL_1 (by simp +decide only [le1_table_of, ev_seq, seq_nx, seq_rt, seq_ex, seq_bk, seq_ct, seq_ite, fl_ok, fl_ex, fl_ite, ev_set, kSet_ev, ev_ret, ev_retN, ev_nx, ev_bk, ev_ct, ev_raise, ev_if, kIf_ev, ev_drop, kNx_ev, ev_par, kPar_ev, kId_ev, ev_asg, kAsg_ev, ev_for, kFor_ev, ev_V, dVg_ok, ev_C, ev_1, ev_2, bind2_ok, bind2_ite1, bind2_ite2, bind_ite, ev_A, ev_nil, ev_cons, kCons_ev, ev_T, toB_ev, ev_and, ev_or, ev_not, kAnd_ev, kOr_ev, kNot_ev, ev_andV, ev_orV, ev_notV, kAndV_ev, kOrV_ev, kNotV_ev, ev_ife, kIfE_ev, ev_ch, kCh, tup_ev, lst_ev, call_ev, kw_ev, ev_kw, ev_fn, startE_0, startE_s, startE_c, fin_rt, fin_nx, fin_ex, fin_ite, ix_t0, ix_t1, ix_t2, ix_t3, ix_l0, ix_l1, ix_l2, len_l, len_t1, len_t2, len_t3, len_t4, beq_self_eq_true, ev_iL, ev_iT, asL_ev, asT_ev, ev_iA, ev_P, toI_ev, ev_P0, ev_sl, kSl_ev, put_1, gAdd_i, gSub_i, gMul_i, gDiv_p, gMod_p, gPow_l, gShl_l, gShr_l, gLt_i, gLe_i, gGt_i, gGe_i, gEq_i, gNe_i, gNeg_i, gAbs_i, gInt_i, gInt_b, gEq_s, gNe_s, gEq_b, gNe_b, gEq_2, gNe_2, gEq_3, gNe_3, gEq_22, gNe_22, DL.R.bind_ok, DL.R.bind_ex, ev_setL, kSetL_ev, ev_lDisp, kDisp_ev, ev_lList, lOf_l, lOf_t, ev_frz, frz_l, frz_d, frz_n, ev_lend, lend_l, lend_d, atom_i, atom_b, atom_s, ev_lendB, lendB_l, lendB_d, ev_app, app_l, kApp_ev, ev_put, put_l, ev_ixO, ixO_l, ixO_d, put_m, putAll_c, putAll_n, ev_lc, kLst_ev, ev_lcL, wipe_n, wipe_c, r1_2, r1_3, bits_ev, List.getElem?_cons_zero, List.getElem?_cons_succ, List.set_cons_zero, List.set_cons_succ, List.length_cons, List.length_nil, List.length_map, List.append_nil, List.cons_append, List.nil_append, ev_if, turn_nx, turn_ct, turn_bk, turn_rt, turn_ite, kWh_ev, isi_int_int, isi_bool_int, isi_int_bool, isi_bool_bool, isi_int_str, isi_int_none, isi_int_list, isi_int_tup, isi_bool_str, isi_bool_none, isi_bool_list, isi_bool_tup, isi_tup_tup, isi_tup_int, isi_tup_bool, isi_tup_str, isi_tup_none, isi_tup_list, isi_list_list, isi_list_tup, isi_list_int, isi_list_bool, isi_list_str, isi_list_none, isi_str_str, isi_str_int, isi_str_bool, isi_str_none, isi_str_list, isi_str_tup, decide_true, decide_false, not_true_eq_false, not_false_eq_true, ne_eq, decide_eq_true_eq, Bool.not_eq_true', decide_eq_false_iff_not, Bool.not_true, Bool.not_false, Bool.false_eq_true, if_true, if_false, reduceIte, h1]) (lcL_1 (by simp +decide only [le1_table_of, ev_seq, seq_nx, seq_rt, seq_ex, seq_bk, seq_ct, seq_ite, fl_ok, fl_ex, fl_ite, ev_set, kSet_ev, ev_ret, ev_retN, ev_nx, ev_bk, ev_ct, ev_raise, ev_if, kIf_ev, ev_drop, kNx_ev, ev_par, kPar_ev, kId_ev, ev_asg, kAsg_ev, ev_for, kFor_ev, ev_V, dVg_ok, ev_C, ev_1, ev_2, bind2_ok, bind2_ite1, bind2_ite2, bind_ite, ev_A, ev_nil, ev_cons, kCons_ev, ev_T, toB_ev, ev_and, ev_or, ev_not, kAnd_ev, kOr_ev, kNot_ev, ev_andV, ev_orV, ev_notV, kAndV_ev, kOrV_ev, kNotV_ev, ev_ife, kIfE_ev, ev_ch, kCh, tup_ev, lst_ev, call_ev, kw_ev, ev_kw, ev_fn, startE_0, startE_s, startE_c, fin_rt, fin_nx, fin_ex, fin_ite, ix_t0, ix_t1, ix_t2, ix_t3, ix_l0, ix_l1, ix_l2, len_l, len_t1, len_t2, len_t3, len_t4, beq_self_eq_true, ev_iL, ev_iT, asL_ev, asT_ev, ev_iA, ev_P, toI_ev, ev_P0, ev_sl, kSl_ev, put_1, gAdd_i, gSub_i, gMul_i, gDiv_p, gMod_p, gPow_l, gShl_l, gShr_l, gLt_i, gLe_i, gGt_i, gGe_i, gEq_i, gNe_i, gNeg_i, gAbs_i, gInt_i, gInt_b, gEq_s, gNe_s, gEq_b, gNe_b, gEq_2, gNe_2, gEq_3, gNe_3, gEq_22, gNe_22, DL.R.bind_ok, DL.R.bind_ex, ev_setL, kSetL_ev, ev_lDisp, kDisp_ev, ev_lList, lOf_l, lOf_t, ev_frz, frz_l, frz_d, frz_n, ev_lend, lend_l, lend_d, atom_i, atom_b, atom_s, ev_lendB, lendB_l, lendB_d, ev_app, app_l, kApp_ev, ev_put, put_l, ev_ixO, ixO_l, ixO_d, put_m, putAll_c, putAll_n, ev_lc, kLst_ev, ev_lcL, wipe_n, wipe_c, r1_2, r1_3, bits_ev, List.getElem?_cons_zero, List.getElem?_cons_succ, List.set_cons_zero, List.set_cons_succ, List.length_cons, List.length_nil, List.length_map, List.append_nil, List.cons_append, List.nil_append, ev_if, turn_nx, turn_ct, turn_bk, turn_rt, turn_ite, kWh_ev, isi_int_int, isi_bool_int, isi_int_bool, isi_bool_bool, isi_int_str, isi_int_none, isi_int_list, isi_int_tup, isi_bool_str, isi_bool_none, isi_bool_list, isi_bool_tup, isi_tup_tup, isi_tup_int, isi_tup_bool, isi_tup_str, isi_tup_none, isi_tup_list, isi_list_list, isi_list_tup, isi_list_int, isi_list_bool, isi_list_str, isi_list_none, isi_str_str, isi_str_int, isi_str_bool, isi_str_none, isi_str_list, isi_str_tup, decide_true, decide_false, not_true_eq_false, not_false_eq_true, ne_eq, decide_eq_true_eq, Bool.not_eq_true', decide_eq_false_iff_not, Bool.not_true, Bool.not_false, Bool.false_eq_true, if_true, if_false, reduceIte, h2]) lcL_n)
    simp +decide only [le2_table_of, ev_seq, seq_nx, seq_rt, seq_ex, seq_bk, seq_ct, seq_ite, fl_ok, fl_ex, fl_ite, ev_set, kSet_ev, ev_ret, ev_retN, ev_nx, ev_bk, ev_ct, ev_raise, ev_if, kIf_ev, ev_drop, kNx_ev, ev_par, kPar_ev, kId_ev, ev_asg, kAsg_ev, ev_for, kFor_ev, ev_V, dVg_ok, ev_C, ev_1, ev_2, bind2_ok, bind2_ite1, bind2_ite2, bind_ite, ev_A, ev_nil, ev_cons, kCons_ev, ev_T, toB_ev, ev_and, ev_or, ev_not, kAnd_ev, kOr_ev, kNot_ev, ev_andV, ev_orV, ev_notV, kAndV_ev, kOrV_ev, kNotV_ev, ev_ife, kIfE_ev, ev_ch, kCh, tup_ev, lst_ev, call_ev, kw_ev, ev_kw, ev_fn, startE_0, startE_s, startE_c, fin_rt, fin_nx, fin_ex, fin_ite, ix_t0, ix_t1, ix_t2, ix_t3, ix_l0, ix_l1, ix_l2, len_l, len_t1, len_t2, len_t3, len_t4, beq_self_eq_true, ev_iL, ev_iT, asL_ev, asT_ev, ev_iA, ev_P, toI_ev, ev_P0, ev_sl, kSl_ev, put_1, gAdd_i, gSub_i, gMul_i, gDiv_p, gMod_p, gPow_l, gShl_l, gShr_l, gLt_i, gLe_i, gGt_i, gGe_i, gEq_i, gNe_i, gNeg_i, gAbs_i, gInt_i, gInt_b, gEq_s, gNe_s, gEq_b, gNe_b, gEq_2, gNe_2, gEq_3, gNe_3, gEq_22, gNe_22, DL.R.bind_ok, DL.R.bind_ex, ev_setL, kSetL_ev, ev_lDisp, kDisp_ev, ev_lList, lOf_l, lOf_t, ev_frz, frz_l, frz_d, frz_n, ev_lend, lend_l, lend_d, atom_i, atom_b, atom_s, ev_lendB, lendB_l, lendB_d, ev_app, app_l, kApp_ev, ev_put, put_l, ev_ixO, ixO_l, ixO_d, put_m, putAll_c, putAll_n, ev_lc, kLst_ev, ev_lcL, wipe_n, wipe_c, r1_2, r1_3, bits_ev, List.getElem?_cons_zero, List.getElem?_cons_succ, List.set_cons_zero, List.set_cons_succ, List.length_cons, List.length_nil, List.length_map, List.append_nil, List.cons_append, List.nil_append, ev_if, turn_nx, turn_ct, turn_bk, turn_rt, turn_ite, kWh_ev, isi_int_int, isi_bool_int, isi_int_bool, isi_bool_bool, isi_int_str, isi_int_none, isi_int_list, isi_int_tup, isi_bool_str, isi_bool_none, isi_bool_list, isi_bool_tup, isi_tup_tup, isi_tup_int, isi_tup_bool, isi_tup_str, isi_tup_none, isi_tup_list, isi_list_list, isi_list_tup, isi_list_int, isi_list_bool, isi_list_str, isi_list_none, isi_str_str, isi_str_int, isi_str_bool, isi_str_none, isi_str_list, isi_str_tup, decide_true, decide_false, not_true_eq_false, not_false_eq_true, ne_eq, decide_eq_true_eq, Bool.not_eq_true', decide_eq_false_iff_not, Bool.not_true, Bool.not_false, Bool.false_eq_true, if_true, if_false, reduceIte, p2, kLcL_ev, L, tupOf_l]
  have L : lcL (.one 3) bYes le2_table_of [some (.d (lnD b.x b.y)), some (.d (lnD b.u b.v)), none, none] [frD b.x, frD b.y] = .ok [.tuple [frD (b.x * b.u), frD (b.x * b.v)], .tuple [frD (b.y * b.u), frD (b.y * b.v)]] :=
    lcL_1 (row _ _ _ none e1 e2) (lcL_1 (row _ _ _ none e3 e4) lcL_n)
  simp +decide only [m_table_of, den_table_of, ev_seq, seq_nx, seq_rt, seq_ex, seq_bk, seq_ct, seq_ite, fl_ok, fl_ex, fl_ite, ev_set, kSet_ev, ev_ret, ev_retN, ev_nx, ev_bk, ev_ct, ev_raise, ev_if, kIf_ev, ev_drop, kNx_ev, ev_par, kPar_ev, kId_ev, ev_asg, kAsg_ev, ev_for, kFor_ev, ev_V, dVg_ok, ev_C, ev_1, ev_2, bind2_ok, bind2_ite1, bind2_ite2, bind_ite, ev_A, ev_nil, ev_cons, kCons_ev, ev_T, toB_ev, ev_and, ev_or, ev_not, kAnd_ev, kOr_ev, kNot_ev, ev_andV, ev_orV, ev_notV, kAndV_ev, kOrV_ev, kNotV_ev, ev_ife, kIfE_ev, ev_ch, kCh, tup_ev, lst_ev, call_ev, kw_ev, ev_kw, ev_fn, startE_0, startE_s, startE_c, fin_rt, fin_nx, fin_ex, fin_ite, ix_t0, ix_t1, ix_t2, ix_t3, ix_l0, ix_l1, ix_l2, len_l, len_t1, len_t2, len_t3, len_t4, beq_self_eq_true, ev_iL, ev_iT, asL_ev, asT_ev, ev_iA, ev_P, toI_ev, ev_P0, ev_sl, kSl_ev, put_1, gAdd_i, gSub_i, gMul_i, gDiv_p, gMod_p, gPow_l, gShl_l, gShr_l, gLt_i, gLe_i, gGt_i, gGe_i, gEq_i, gNe_i, gNeg_i, gAbs_i, gInt_i, gInt_b, gEq_s, gNe_s, gEq_b, gNe_b, gEq_2, gNe_2, gEq_3, gNe_3, gEq_22, gNe_22, DL.R.bind_ok, DL.R.bind_ex, ev_setL, kSetL_ev, ev_lDisp, kDisp_ev, ev_lList, lOf_l, lOf_t, ev_frz, frz_l, frz_d, frz_n, ev_lend, lend_l, lend_d, atom_i, atom_b, atom_s, ev_lendB, lendB_l, lendB_d, ev_app, app_l, kApp_ev, ev_put, put_l, ev_ixO, ixO_l, ixO_d, put_m, putAll_c, putAll_n, ev_lc, kLst_ev, ev_lcL, wipe_n, wipe_c, r1_2, r1_3, bits_ev, List.getElem?_cons_zero, List.getElem?_cons_succ, List.set_cons_zero, List.set_cons_succ, List.length_cons, List.length_nil, List.length_map, List.append_nil, List.cons_append, List.nil_append, ev_if, turn_nx, turn_ct, turn_bk, turn_rt, turn_ite, kWh_ev, isi_int_int, isi_bool_int, isi_int_bool, isi_bool_bool, isi_int_str, isi_int_none, isi_int_list, isi_int_tup, isi_bool_str, isi_bool_none, isi_bool_list, isi_bool_tup, isi_tup_tup, isi_tup_int, isi_tup_bool, isi_tup_str, isi_tup_none, isi_tup_list, isi_list_list, isi_list_tup, isi_list_int, isi_list_bool, isi_list_str, isi_list_none, isi_str_str, isi_str_int, isi_str_bool, isi_str_none, isi_str_list, isi_str_tup, decide_true, decide_false, not_true_eq_false, not_false_eq_true, ne_eq, decide_eq_true_eq, Bool.not_eq_true', decide_eq_false_iff_not, Bool.not_true, Bool.not_false, Bool.false_eq_true, if_true, if_false, reduceIte, p1, kLcL_ev, L, tupOf_l]
  rfl
/-- the table of boards -/
def tabL : Tab → List Bo → Tab
  | t, [] => t
  | t, b :: bs => tabL (t.add b.tab) bs
theorem table_loop : ∀ (bs : List Bo) (t : Tab) (n m k l : Nat) (h0 : PD) (x2 x3 : Option SV), BT t n m → (∀ b ∈ bs, BB b k l) → m + bs.length * (2 * l) ≤ 8000 → 2 * l ≤ 900 → n + bs.length * (2 * k + 8900) ≤ 50000000 → k ≤ 1000000 →
    ∃ y2 y3, sForL (.many [2, 3]) lb1_table (bs.map boD) [some (.d h0), some (.d (tabD t)), x2, x3] = .nx [some (.d h0), some (.d (tabD (tabL t bs))), y2, y3] ∧ BT (tabL t bs) (n + bs.length * (2 * k + 8900)) (m + bs.length * (2 * l))
  | [], t, n, m, k, l, h0, x2, x3, ht, _, _, _, _, _ => ⟨x2, x3, rfl, by simpa [tabL] using ht⟩
  | b :: bs, t, n, m, k, l, h0, x2, x3, ht, hb, hm, hl, hn, hk => by
    have bb := hb b List.mem_cons_self
    rw [List.length_cons, Nat.add_mul] at hm hn
    have e1 := table_of_eq b (n := k) (m := l) (by omega) (by omega)
    have e2 := together_eq t b.tab (n := n) (m := m) (n' := k + k) (m' := l + l) (by omega) (by omega) (by omega)
    have ht' : BT (t.add b.tab) (n + (2 * k + 8900)) (m + (2 * l)) := BT.mono (inferInstance : BT (t.add b.tab) (n + (k + k) + m + (l + l) + 1) (m + (l + l))) (by omega) (by omega)
    obtain ⟨y2, y3, e, h⟩ := table_loop bs (t.add b.tab) (n + (2 * k + 8900)) (m + (2 * l)) k l h0 (some (.d (lnD b.x b.y))) (some (.d (lnD b.u b.v))) ht' (fun c hc => hb c (List.mem_cons_of_mem _ hc)) (by omega) hl (by omega) hk
    refine ⟨y2, y3, ?_, ?_⟩
    · simp +decide only [List.map_cons, forL_m, ev_seq, seq_nx, seq_rt, seq_ex, seq_bk, seq_ct, seq_ite, fl_ok, fl_ex, fl_ite, ev_set, kSet_ev, ev_ret, ev_retN, ev_nx, ev_bk, ev_ct, ev_raise, ev_if, kIf_ev, ev_drop, kNx_ev, ev_par, kPar_ev, kId_ev, ev_asg, kAsg_ev, ev_for, kFor_ev, ev_V, dVg_ok, ev_C, ev_1, ev_2, bind2_ok, bind2_ite1, bind2_ite2, bind_ite, ev_A, ev_nil, ev_cons, kCons_ev, ev_T, toB_ev, ev_and, ev_or, ev_not, kAnd_ev, kOr_ev, kNot_ev, ev_andV, ev_orV, ev_notV, kAndV_ev, kOrV_ev, kNotV_ev, ev_ife, kIfE_ev, ev_ch, kCh, tup_ev, lst_ev, call_ev, kw_ev, ev_kw, ev_fn, startE_0, startE_s, startE_c, fin_rt, fin_nx, fin_ex, fin_ite, ix_t0, ix_t1, ix_t2, ix_t3, ix_l0, ix_l1, ix_l2, len_l, len_t1, len_t2, len_t3, len_t4, beq_self_eq_true, ev_iL, ev_iT, asL_ev, asT_ev, ev_iA, ev_P, toI_ev, ev_P0, ev_sl, kSl_ev, put_1, gAdd_i, gSub_i, gMul_i, gDiv_p, gMod_p, gPow_l, gShl_l, gShr_l, gLt_i, gLe_i, gGt_i, gGe_i, gEq_i, gNe_i, gNeg_i, gAbs_i, gInt_i, gInt_b, gEq_s, gNe_s, gEq_b, gNe_b, gEq_2, gNe_2, gEq_3, gNe_3, gEq_22, gNe_22, DL.R.bind_ok, DL.R.bind_ex, ev_setL, kSetL_ev, ev_lDisp, kDisp_ev, ev_lList, lOf_l, lOf_t, ev_frz, frz_l, frz_d, frz_n, ev_lend, lend_l, lend_d, atom_i, atom_b, atom_s, ev_lendB, lendB_l, lendB_d, ev_app, app_l, kApp_ev, ev_put, put_l, ev_ixO, ixO_l, ixO_d, put_m, putAll_c, putAll_n, ev_lc, kLst_ev, ev_lcL, wipe_n, wipe_c, r1_2, r1_3, bits_ev, List.getElem?_cons_zero, List.getElem?_cons_succ, List.set_cons_zero, List.set_cons_succ, List.length_cons, List.length_nil, List.length_map, List.append_nil, List.cons_append, List.nil_append, ev_if, turn_nx, turn_ct, turn_bk, turn_rt, turn_ite, kWh_ev, isi_int_int, isi_bool_int, isi_int_bool, isi_bool_bool, isi_int_str, isi_int_none, isi_int_list, isi_int_tup, isi_bool_str, isi_bool_none, isi_bool_list, isi_bool_tup, isi_tup_tup, isi_tup_int, isi_tup_bool, isi_tup_str, isi_tup_none, isi_tup_list, isi_list_list, isi_list_tup, isi_list_int, isi_list_bool, isi_list_str, isi_list_none, isi_str_str, isi_str_int, isi_str_bool, isi_str_none, isi_str_list, isi_str_tup, decide_true, decide_false, not_true_eq_false, not_false_eq_true, ne_eq, decide_eq_true_eq, Bool.not_eq_true', decide_eq_false_iff_not, Bool.not_true, Bool.not_false, Bool.false_eq_true, if_true, if_false, reduceIte]
      simp +decide only [lb1_table, ev_seq, seq_nx, seq_rt, seq_ex, seq_bk, seq_ct, seq_ite, fl_ok, fl_ex, fl_ite, ev_set, kSet_ev, ev_ret, ev_retN, ev_nx, ev_bk, ev_ct, ev_raise, ev_if, kIf_ev, ev_drop, kNx_ev, ev_par, kPar_ev, kId_ev, ev_asg, kAsg_ev, ev_for, kFor_ev, ev_V, dVg_ok, ev_C, ev_1, ev_2, bind2_ok, bind2_ite1, bind2_ite2, bind_ite, ev_A, ev_nil, ev_cons, kCons_ev, ev_T, toB_ev, ev_and, ev_or, ev_not, kAnd_ev, kOr_ev, kNot_ev, ev_andV, ev_orV, ev_notV, kAndV_ev, kOrV_ev, kNotV_ev, ev_ife, kIfE_ev, ev_ch, kCh, tup_ev, lst_ev, call_ev, kw_ev, ev_kw, ev_fn, startE_0, startE_s, startE_c, fin_rt, fin_nx, fin_ex, fin_ite, ix_t0, ix_t1, ix_t2, ix_t3, ix_l0, ix_l1, ix_l2, len_l, len_t1, len_t2, len_t3, len_t4, beq_self_eq_true, ev_iL, ev_iT, asL_ev, asT_ev, ev_iA, ev_P, toI_ev, ev_P0, ev_sl, kSl_ev, put_1, gAdd_i, gSub_i, gMul_i, gDiv_p, gMod_p, gPow_l, gShl_l, gShr_l, gLt_i, gLe_i, gGt_i, gGe_i, gEq_i, gNe_i, gNeg_i, gAbs_i, gInt_i, gInt_b, gEq_s, gNe_s, gEq_b, gNe_b, gEq_2, gNe_2, gEq_3, gNe_3, gEq_22, gNe_22, DL.R.bind_ok, DL.R.bind_ex, ev_setL, kSetL_ev, ev_lDisp, kDisp_ev, ev_lList, lOf_l, lOf_t, ev_frz, frz_l, frz_d, frz_n, ev_lend, lend_l, lend_d, atom_i, atom_b, atom_s, ev_lendB, lendB_l, lendB_d, ev_app, app_l, kApp_ev, ev_put, put_l, ev_ixO, ixO_l, ixO_d, put_m, putAll_c, putAll_n, ev_lc, kLst_ev, ev_lcL, wipe_n, wipe_c, r1_2, r1_3, bits_ev, List.getElem?_cons_zero, List.getElem?_cons_succ, List.set_cons_zero, List.set_cons_succ, List.length_cons, List.length_nil, List.length_map, List.append_nil, List.cons_append, List.nil_append, ev_if, turn_nx, turn_ct, turn_bk, turn_rt, turn_ite, kWh_ev, isi_int_int, isi_bool_int, isi_int_bool, isi_bool_bool, isi_int_str, isi_int_none, isi_int_list, isi_int_tup, isi_bool_str, isi_bool_none, isi_bool_list, isi_bool_tup, isi_tup_tup, isi_tup_int, isi_tup_bool, isi_tup_str, isi_tup_none, isi_tup_list, isi_list_list, isi_list_tup, isi_list_int, isi_list_bool, isi_list_str, isi_list_none, isi_str_str, isi_str_int, isi_str_bool, isi_str_none, isi_str_list, isi_str_tup, decide_true, decide_false, not_true_eq_false, not_false_eq_true, ne_eq, decide_eq_true_eq, Bool.not_eq_true', decide_eq_false_iff_not, Bool.not_true, Bool.not_false, Bool.false_eq_true, if_true, if_false, reduceIte, e1, e2]
      exact e
    · have el : n + (b :: bs).length * (2 * k + 8900) = n + (2 * k + 8900) + bs.length * (2 * k + 8900) := by
        rw [List.length_cons, Nat.add_mul]; omega
      have el2 : m + (b :: bs).length * (2 * l) = m + (2 * l) + bs.length * (2 * l) := by
        rw [List.length_cons, Nat.add_mul]; omega
      rw [el, el2]
      exact h
theorem zeroD : tabD Tab.zero = .tuple [.tuple [c_NOUGHT, c_NOUGHT], .tuple [c_NOUGHT, c_NOUGHT]] := rfl
theorem table_eq (bs : List Bo) (k l : Nat) (hb : ∀ b ∈ bs, BB b k l) (h : 1 + bs.length * (2 * l) ≤ 8000) (hl : 2 * l ≤ 900) (hn : 1 + bs.length * (2 * k + 8900) ≤ 50000000) (hk : k ≤ 1000000) :
    m_table [.list (bs.map boD)] = .ok (tabD (tabL Tab.zero bs)) ∧ BT (tabL Tab.zero bs) (1 + bs.length * (2 * k + 8900)) (1 + bs.length * (2 * l)) := by
  obtain ⟨y2, y3, e, hB⟩ := table_loop bs Tab.zero 1 1 k l (.list (bs.map boD)) none none bt_zero hb h hl hn hk
  refine ⟨?_, hB⟩
  simp +decide only [m_table, den_table, ev_seq, seq_nx, seq_rt, seq_ex, seq_bk, seq_ct, seq_ite, fl_ok, fl_ex, fl_ite, ev_set, kSet_ev, ev_ret, ev_retN, ev_nx, ev_bk, ev_ct, ev_raise, ev_if, kIf_ev, ev_drop, kNx_ev, ev_par, kPar_ev, kId_ev, ev_asg, kAsg_ev, ev_for, kFor_ev, ev_V, dVg_ok, ev_C, ev_1, ev_2, bind2_ok, bind2_ite1, bind2_ite2, bind_ite, ev_A, ev_nil, ev_cons, kCons_ev, ev_T, toB_ev, ev_and, ev_or, ev_not, kAnd_ev, kOr_ev, kNot_ev, ev_andV, ev_orV, ev_notV, kAndV_ev, kOrV_ev, kNotV_ev, ev_ife, kIfE_ev, ev_ch, kCh, tup_ev, lst_ev, call_ev, kw_ev, ev_kw, ev_fn, startE_0, startE_s, startE_c, fin_rt, fin_nx, fin_ex, fin_ite, ix_t0, ix_t1, ix_t2, ix_t3, ix_l0, ix_l1, ix_l2, len_l, len_t1, len_t2, len_t3, len_t4, beq_self_eq_true, ev_iL, ev_iT, asL_ev, asT_ev, ev_iA, ev_P, toI_ev, ev_P0, ev_sl, kSl_ev, put_1, gAdd_i, gSub_i, gMul_i, gDiv_p, gMod_p, gPow_l, gShl_l, gShr_l, gLt_i, gLe_i, gGt_i, gGe_i, gEq_i, gNe_i, gNeg_i, gAbs_i, gInt_i, gInt_b, gEq_s, gNe_s, gEq_b, gNe_b, gEq_2, gNe_2, gEq_3, gNe_3, gEq_22, gNe_22, DL.R.bind_ok, DL.R.bind_ex, ev_setL, kSetL_ev, ev_lDisp, kDisp_ev, ev_lList, lOf_l, lOf_t, ev_frz, frz_l, frz_d, frz_n, ev_lend, lend_l, lend_d, atom_i, atom_b, atom_s, ev_lendB, lendB_l, lendB_d, ev_app, app_l, kApp_ev, ev_put, put_l, ev_ixO, ixO_l, ixO_d, put_m, putAll_c, putAll_n, ev_lc, kLst_ev, ev_lcL, wipe_n, wipe_c, r1_2, r1_3, bits_ev, List.getElem?_cons_zero, List.getElem?_cons_succ, List.set_cons_zero, List.set_cons_succ, List.length_cons, List.length_nil, List.length_map, List.append_nil, List.cons_append, List.nil_append, ev_if, turn_nx, turn_ct, turn_bk, turn_rt, turn_ite, kWh_ev, isi_int_int, isi_bool_int, isi_int_bool, isi_bool_bool, isi_int_str, isi_int_none, isi_int_list, isi_int_tup, isi_bool_str, isi_bool_none, isi_bool_list, isi_bool_tup, isi_tup_tup, isi_tup_int, isi_tup_bool, isi_tup_str, isi_tup_none, isi_tup_list, isi_list_list, isi_list_tup, isi_list_int, isi_list_bool, isi_list_str, isi_list_none, isi_str_str, isi_str_int, isi_str_bool, isi_str_none, isi_str_list, isi_str_tup, decide_true, decide_false, not_true_eq_false, not_false_eq_true, ne_eq, decide_eq_true_eq, Bool.not_eq_true', decide_eq_false_iff_not, Bool.not_true, Bool.not_false, Bool.false_eq_true, if_true, if_false, reduceIte, ← zeroD, e]
end DL

set_option Elab.async false
set_option linter.all false
set_option maxRecDepth 100000
set_option maxHeartbeats 1000000
set_option autoImplicit false
/-! sides drawn, and what is a length -/
namespace DL
open PySem L2 MB
theorem law_mix_ok (c k : Int) {n : Nat} [Bd k n] (hn : n ≤ 1000) : ∃ z : Int, m_law_mix [.int c, .int k] = .ok (.int z) ∧ 0 ≤ z ∧ Bd z 31 := by
  have l4 : Nat.log2 48271 = 15 := by decide
  have l6 : Nat.log2 69621 = 16 := by decide
  have l7 : Nat.log2 2147483647 = 30 := by decide
  have i2 : Nat.log2 48271 + 1 + n ≤ 134217728 := by omega
  have i5 : max (max (Nat.log2 2147483647 + 1) (Nat.log2 48271 + 1 + n) + 1) (Nat.log2 1 + 1) + 1 + (Nat.log2 69621 + 1) ≤ 134217728 := by
    have := lg1
    omega
  refine ⟨((c % 2147483647 + 48271 * k + 1) * 69621 % 2147483629) * ((c % 2147483647 + 48271 * k + 1) * 69621 % 2147483629) % 2147483587, ?_, Int.emod_nonneg _ (by decide), Bd.mono inferInstance (by decide)⟩
  simp +decide only [m_law_mix, den_law_mix, ev_seq, seq_nx, seq_rt, seq_ex, seq_bk, seq_ct, seq_ite, fl_ok, fl_ex, fl_ite, ev_set, kSet_ev, ev_ret, ev_retN, ev_nx, ev_bk, ev_ct, ev_raise, ev_if, kIf_ev, ev_drop, kNx_ev, ev_par, kPar_ev, kId_ev, ev_asg, kAsg_ev, ev_for, kFor_ev, ev_V, dVg_ok, ev_C, ev_1, ev_2, bind2_ok, bind2_ite1, bind2_ite2, bind_ite, ev_A, ev_nil, ev_cons, kCons_ev, ev_T, toB_ev, ev_and, ev_or, ev_not, kAnd_ev, kOr_ev, kNot_ev, ev_andV, ev_orV, ev_notV, kAndV_ev, kOrV_ev, kNotV_ev, ev_ife, kIfE_ev, ev_ch, kCh, tup_ev, lst_ev, call_ev, kw_ev, ev_kw, ev_fn, startE_0, startE_s, startE_c, fin_rt, fin_nx, fin_ex, fin_ite, ix_t0, ix_t1, ix_t2, ix_t3, ix_l0, ix_l1, ix_l2, len_l, len_t1, len_t2, len_t3, len_t4, beq_self_eq_true, ev_iL, ev_iT, asL_ev, asT_ev, ev_iA, ev_P, toI_ev, ev_P0, ev_sl, kSl_ev, put_1, gAdd_i, gSub_i, gMul_i, gDiv_p, gMod_p, gPow_l, gShl_l, gShr_l, gLt_i, gLe_i, gGt_i, gGe_i, gEq_i, gNe_i, gNeg_i, gAbs_i, gInt_i, gInt_b, gEq_s, gNe_s, gEq_b, gNe_b, gEq_2, gNe_2, gEq_3, gNe_3, gEq_22, gNe_22, DL.R.bind_ok, DL.R.bind_ex, ev_setL, kSetL_ev, ev_lDisp, kDisp_ev, ev_lList, lOf_l, lOf_t, ev_frz, frz_l, frz_d, frz_n, ev_lend, lend_l, lend_d, atom_i, atom_b, atom_s, ev_lendB, lendB_l, lendB_d, ev_app, app_l, kApp_ev, ev_put, put_l, ev_ixO, ixO_l, ixO_d, put_m, putAll_c, putAll_n, ev_lc, kLst_ev, ev_lcL, wipe_n, wipe_c, r1_2, r1_3, bits_ev, List.getElem?_cons_zero, List.getElem?_cons_succ, List.set_cons_zero, List.set_cons_succ, List.length_cons, List.length_nil, List.length_map, List.append_nil, List.cons_append, List.nil_append, ev_if, turn_nx, turn_ct, turn_bk, turn_rt, turn_ite, kWh_ev, isi_int_int, isi_bool_int, isi_int_bool, isi_bool_bool, isi_int_str, isi_int_none, isi_int_list, isi_int_tup, isi_bool_str, isi_bool_none, isi_bool_list, isi_bool_tup, isi_tup_tup, isi_tup_int, isi_tup_bool, isi_tup_str, isi_tup_none, isi_tup_list, isi_list_list, isi_list_tup, isi_list_int, isi_list_bool, isi_list_str, isi_list_none, isi_str_str, isi_str_int, isi_str_bool, isi_str_none, isi_str_list, isi_str_tup, decide_true, decide_false, not_true_eq_false, not_false_eq_true, ne_eq, decide_eq_true_eq, Bool.not_eq_true', decide_eq_false_iff_not, Bool.not_true, Bool.not_false, Bool.false_eq_true, if_true, if_false, reduceIte, i2, i5]
theorem law_low_loop : ∀ (k : Nat) (a b n : PD) (x y : Int), 0 ≤ x → 0 ≤ y → y.natAbs ≤ k → sWhile lt1_law_low lb1_law_low [some (.d a), some (.d b), some (.d n), some (.d (.int x)), some (.d (.int y))] = .nx [some (.d a), some (.d b), some (.d n), some (.d (.int (Int.gcd x y : Int))), some (.d (.int 0))] := by
  intro k
  induction k with
  | zero =>
    intro a b n x y hx hy h
    have hb : y = 0 := by omega
    subst hb
    rw [ev_while]
    have : (x.natAbs : Int) = x := by omega
    simp +decide only [lt1_law_low, ev_seq, seq_nx, seq_rt, seq_ex, seq_bk, seq_ct, seq_ite, fl_ok, fl_ex, fl_ite, ev_set, kSet_ev, ev_ret, ev_retN, ev_nx, ev_bk, ev_ct, ev_raise, ev_if, kIf_ev, ev_drop, kNx_ev, ev_par, kPar_ev, kId_ev, ev_asg, kAsg_ev, ev_for, kFor_ev, ev_V, dVg_ok, ev_C, ev_1, ev_2, bind2_ok, bind2_ite1, bind2_ite2, bind_ite, ev_A, ev_nil, ev_cons, kCons_ev, ev_T, toB_ev, ev_and, ev_or, ev_not, kAnd_ev, kOr_ev, kNot_ev, ev_andV, ev_orV, ev_notV, kAndV_ev, kOrV_ev, kNotV_ev, ev_ife, kIfE_ev, ev_ch, kCh, tup_ev, lst_ev, call_ev, kw_ev, ev_kw, ev_fn, startE_0, startE_s, startE_c, fin_rt, fin_nx, fin_ex, fin_ite, ix_t0, ix_t1, ix_t2, ix_t3, ix_l0, ix_l1, ix_l2, len_l, len_t1, len_t2, len_t3, len_t4, beq_self_eq_true, ev_iL, ev_iT, asL_ev, asT_ev, ev_iA, ev_P, toI_ev, ev_P0, ev_sl, kSl_ev, put_1, gAdd_i, gSub_i, gMul_i, gDiv_p, gMod_p, gPow_l, gShl_l, gShr_l, gLt_i, gLe_i, gGt_i, gGe_i, gEq_i, gNe_i, gNeg_i, gAbs_i, gInt_i, gInt_b, gEq_s, gNe_s, gEq_b, gNe_b, gEq_2, gNe_2, gEq_3, gNe_3, gEq_22, gNe_22, DL.R.bind_ok, DL.R.bind_ex, ev_setL, kSetL_ev, ev_lDisp, kDisp_ev, ev_lList, lOf_l, lOf_t, ev_frz, frz_l, frz_d, frz_n, ev_lend, lend_l, lend_d, atom_i, atom_b, atom_s, ev_lendB, lendB_l, lendB_d, ev_app, app_l, kApp_ev, ev_put, put_l, ev_ixO, ixO_l, ixO_d, put_m, putAll_c, putAll_n, ev_lc, kLst_ev, ev_lcL, wipe_n, wipe_c, r1_2, r1_3, bits_ev, List.getElem?_cons_zero, List.getElem?_cons_succ, List.set_cons_zero, List.set_cons_succ, List.length_cons, List.length_nil, List.length_map, List.append_nil, List.cons_append, List.nil_append, ev_if, turn_nx, turn_ct, turn_bk, turn_rt, turn_ite, kWh_ev, isi_int_int, isi_bool_int, isi_int_bool, isi_bool_bool, isi_int_str, isi_int_none, isi_int_list, isi_int_tup, isi_bool_str, isi_bool_none, isi_bool_list, isi_bool_tup, isi_tup_tup, isi_tup_int, isi_tup_bool, isi_tup_str, isi_tup_none, isi_tup_list, isi_list_list, isi_list_tup, isi_list_int, isi_list_bool, isi_list_str, isi_list_none, isi_str_str, isi_str_int, isi_str_bool, isi_str_none, isi_str_list, isi_str_tup, decide_true, decide_false, not_true_eq_false, not_false_eq_true, ne_eq, decide_eq_true_eq, Bool.not_eq_true', decide_eq_false_iff_not, Bool.not_true, Bool.not_false, Bool.false_eq_true, if_true, if_false, reduceIte, Int.gcd_zero, this]
  | succ k ih =>
    intro a b n x y hx hy h
    by_cases hb : y = 0
    · subst hb
      rw [ev_while]
      have : (x.natAbs : Int) = x := by omega
      simp +decide only [lt1_law_low, ev_seq, seq_nx, seq_rt, seq_ex, seq_bk, seq_ct, seq_ite, fl_ok, fl_ex, fl_ite, ev_set, kSet_ev, ev_ret, ev_retN, ev_nx, ev_bk, ev_ct, ev_raise, ev_if, kIf_ev, ev_drop, kNx_ev, ev_par, kPar_ev, kId_ev, ev_asg, kAsg_ev, ev_for, kFor_ev, ev_V, dVg_ok, ev_C, ev_1, ev_2, bind2_ok, bind2_ite1, bind2_ite2, bind_ite, ev_A, ev_nil, ev_cons, kCons_ev, ev_T, toB_ev, ev_and, ev_or, ev_not, kAnd_ev, kOr_ev, kNot_ev, ev_andV, ev_orV, ev_notV, kAndV_ev, kOrV_ev, kNotV_ev, ev_ife, kIfE_ev, ev_ch, kCh, tup_ev, lst_ev, call_ev, kw_ev, ev_kw, ev_fn, startE_0, startE_s, startE_c, fin_rt, fin_nx, fin_ex, fin_ite, ix_t0, ix_t1, ix_t2, ix_t3, ix_l0, ix_l1, ix_l2, len_l, len_t1, len_t2, len_t3, len_t4, beq_self_eq_true, ev_iL, ev_iT, asL_ev, asT_ev, ev_iA, ev_P, toI_ev, ev_P0, ev_sl, kSl_ev, put_1, gAdd_i, gSub_i, gMul_i, gDiv_p, gMod_p, gPow_l, gShl_l, gShr_l, gLt_i, gLe_i, gGt_i, gGe_i, gEq_i, gNe_i, gNeg_i, gAbs_i, gInt_i, gInt_b, gEq_s, gNe_s, gEq_b, gNe_b, gEq_2, gNe_2, gEq_3, gNe_3, gEq_22, gNe_22, DL.R.bind_ok, DL.R.bind_ex, ev_setL, kSetL_ev, ev_lDisp, kDisp_ev, ev_lList, lOf_l, lOf_t, ev_frz, frz_l, frz_d, frz_n, ev_lend, lend_l, lend_d, atom_i, atom_b, atom_s, ev_lendB, lendB_l, lendB_d, ev_app, app_l, kApp_ev, ev_put, put_l, ev_ixO, ixO_l, ixO_d, put_m, putAll_c, putAll_n, ev_lc, kLst_ev, ev_lcL, wipe_n, wipe_c, r1_2, r1_3, bits_ev, List.getElem?_cons_zero, List.getElem?_cons_succ, List.set_cons_zero, List.set_cons_succ, List.length_cons, List.length_nil, List.length_map, List.append_nil, List.cons_append, List.nil_append, ev_if, turn_nx, turn_ct, turn_bk, turn_rt, turn_ite, kWh_ev, isi_int_int, isi_bool_int, isi_int_bool, isi_bool_bool, isi_int_str, isi_int_none, isi_int_list, isi_int_tup, isi_bool_str, isi_bool_none, isi_bool_list, isi_bool_tup, isi_tup_tup, isi_tup_int, isi_tup_bool, isi_tup_str, isi_tup_none, isi_tup_list, isi_list_list, isi_list_tup, isi_list_int, isi_list_bool, isi_list_str, isi_list_none, isi_str_str, isi_str_int, isi_str_bool, isi_str_none, isi_str_list, isi_str_tup, decide_true, decide_false, not_true_eq_false, not_false_eq_true, ne_eq, decide_eq_true_eq, Bool.not_eq_true', decide_eq_false_iff_not, Bool.not_true, Bool.not_false, Bool.false_eq_true, if_true, if_false, reduceIte, Int.gcd_zero, this]
    · have hp : 0 < y := by omega
      have e := ih a b n y (x % y) hy (Int.emod_nonneg x hb) (by
        have h1 := Int.emod_lt_of_pos x hp
        have h2 := Int.emod_nonneg x hb
        omega)
      rw [ev_while]
      have e1 : x = y * (x / y) + x % y := (Int.mul_ediv_add_emod x y).symm
      have e2 : Int.gcd y (y * (x / y) + x % y) = Int.gcd y (x % y) := Int.gcd_mul_left_add_right _ _ _
      rw [← e1] at e2
      rw [Int.gcd_comm x y, e2]
      simp +decide only [lt1_law_low, lb1_law_low, ev_seq, seq_nx, seq_rt, seq_ex, seq_bk, seq_ct, seq_ite, fl_ok, fl_ex, fl_ite, ev_set, kSet_ev, ev_ret, ev_retN, ev_nx, ev_bk, ev_ct, ev_raise, ev_if, kIf_ev, ev_drop, kNx_ev, ev_par, kPar_ev, kId_ev, ev_asg, kAsg_ev, ev_for, kFor_ev, ev_V, dVg_ok, ev_C, ev_1, ev_2, bind2_ok, bind2_ite1, bind2_ite2, bind_ite, ev_A, ev_nil, ev_cons, kCons_ev, ev_T, toB_ev, ev_and, ev_or, ev_not, kAnd_ev, kOr_ev, kNot_ev, ev_andV, ev_orV, ev_notV, kAndV_ev, kOrV_ev, kNotV_ev, ev_ife, kIfE_ev, ev_ch, kCh, tup_ev, lst_ev, call_ev, kw_ev, ev_kw, ev_fn, startE_0, startE_s, startE_c, fin_rt, fin_nx, fin_ex, fin_ite, ix_t0, ix_t1, ix_t2, ix_t3, ix_l0, ix_l1, ix_l2, len_l, len_t1, len_t2, len_t3, len_t4, beq_self_eq_true, ev_iL, ev_iT, asL_ev, asT_ev, ev_iA, ev_P, toI_ev, ev_P0, ev_sl, kSl_ev, put_1, gAdd_i, gSub_i, gMul_i, gDiv_p, gMod_p, gPow_l, gShl_l, gShr_l, gLt_i, gLe_i, gGt_i, gGe_i, gEq_i, gNe_i, gNeg_i, gAbs_i, gInt_i, gInt_b, gEq_s, gNe_s, gEq_b, gNe_b, gEq_2, gNe_2, gEq_3, gNe_3, gEq_22, gNe_22, DL.R.bind_ok, DL.R.bind_ex, ev_setL, kSetL_ev, ev_lDisp, kDisp_ev, ev_lList, lOf_l, lOf_t, ev_frz, frz_l, frz_d, frz_n, ev_lend, lend_l, lend_d, atom_i, atom_b, atom_s, ev_lendB, lendB_l, lendB_d, ev_app, app_l, kApp_ev, ev_put, put_l, ev_ixO, ixO_l, ixO_d, put_m, putAll_c, putAll_n, ev_lc, kLst_ev, ev_lcL, wipe_n, wipe_c, r1_2, r1_3, bits_ev, List.getElem?_cons_zero, List.getElem?_cons_succ, List.set_cons_zero, List.set_cons_succ, List.length_cons, List.length_nil, List.length_map, List.append_nil, List.cons_append, List.nil_append, ev_if, turn_nx, turn_ct, turn_bk, turn_rt, turn_ite, kWh_ev, isi_int_int, isi_bool_int, isi_int_bool, isi_bool_bool, isi_int_str, isi_int_none, isi_int_list, isi_int_tup, isi_bool_str, isi_bool_none, isi_bool_list, isi_bool_tup, isi_tup_tup, isi_tup_int, isi_tup_bool, isi_tup_str, isi_tup_none, isi_tup_list, isi_list_list, isi_list_tup, isi_list_int, isi_list_bool, isi_list_str, isi_list_none, isi_str_str, isi_str_int, isi_str_bool, isi_str_none, isi_str_list, isi_str_tup, decide_true, decide_false, not_true_eq_false, not_false_eq_true, ne_eq, decide_eq_true_eq, Bool.not_eq_true', decide_eq_false_iff_not, Bool.not_true, Bool.not_false, Bool.false_eq_true, if_true, if_false, reduceIte, hb, hp]
      exact e
theorem law_low_eq (a b n : Int) (hn : n ≠ 0) {k : Nat} [h3 : Bd n k] (hk : k ≤ 9000) : m_law_low [.int a, .int b, .int n] = .ok (.tuple [.int (lA a b n), .int (lB a b n), .int (lN a b n)]) := by
  have hs : shr (g3 a b n) n ≠ 0 := shr_ne (g3_ne hn)
  have bs : Bd (shr (g3 a b n) n) k := bd_shr hn h3
  have e1 := law_low_loop _ (.int a) (.int b) (.int n) (n.natAbs : Int) (a.natAbs : Int) (by omega) (by omega) (Nat.le_refl _)
  have e2 := law_low_loop _ (.int a) (.int b) (.int n) (Int.gcd (n.natAbs : Int) (a.natAbs : Int) : Int) (b.natAbs : Int) (by omega) (by omega) (Nat.le_refl _)
  have eg : Int.gcd (Int.gcd (n.natAbs : Int) (a.natAbs : Int) : Int) (b.natAbs : Int) = g3 a b n := by
    unfold g3
    have f1 : Int.gcd (n.natAbs : Int) (a.natAbs : Int) = Int.gcd n a := by simp [Int.gcd]
    rw [f1]
    show Nat.gcd (Int.natAbs ((Int.gcd n a : Nat) : Int)) (Int.natAbs ((b.natAbs : Nat) : Int)) = Nat.gcd (Int.natAbs ((Int.gcd a b : Nat) : Int)) n.natAbs
    simp only [Int.natAbs_natCast]
    show Nat.gcd (Nat.gcd n.natAbs a.natAbs) b.natAbs = Nat.gcd (Nat.gcd a.natAbs b.natAbs) n.natAbs
    rw [Nat.gcd_assoc, Nat.gcd_comm]
  rw [eg] at e2
  by_cases h : n < 0
  · have e : 0 - ((g3 a b n : Nat) : Int) = shr (g3 a b n) n := by unfold shr; rw [if_pos h]
    simp +decide only [m_law_low, den_law_low, lb2_law_low, ev_seq, seq_nx, seq_rt, seq_ex, seq_bk, seq_ct, seq_ite, fl_ok, fl_ex, fl_ite, ev_set, kSet_ev, ev_ret, ev_retN, ev_nx, ev_bk, ev_ct, ev_raise, ev_if, kIf_ev, ev_drop, kNx_ev, ev_par, kPar_ev, kId_ev, ev_asg, kAsg_ev, ev_for, kFor_ev, ev_V, dVg_ok, ev_C, ev_1, ev_2, bind2_ok, bind2_ite1, bind2_ite2, bind_ite, ev_A, ev_nil, ev_cons, kCons_ev, ev_T, toB_ev, ev_and, ev_or, ev_not, kAnd_ev, kOr_ev, kNot_ev, ev_andV, ev_orV, ev_notV, kAndV_ev, kOrV_ev, kNotV_ev, ev_ife, kIfE_ev, ev_ch, kCh, tup_ev, lst_ev, call_ev, kw_ev, ev_kw, ev_fn, startE_0, startE_s, startE_c, fin_rt, fin_nx, fin_ex, fin_ite, ix_t0, ix_t1, ix_t2, ix_t3, ix_l0, ix_l1, ix_l2, len_l, len_t1, len_t2, len_t3, len_t4, beq_self_eq_true, ev_iL, ev_iT, asL_ev, asT_ev, ev_iA, ev_P, toI_ev, ev_P0, ev_sl, kSl_ev, put_1, gAdd_i, gSub_i, gMul_i, gDiv_p, gMod_p, gPow_l, gShl_l, gShr_l, gLt_i, gLe_i, gGt_i, gGe_i, gEq_i, gNe_i, gNeg_i, gAbs_i, gInt_i, gInt_b, gEq_s, gNe_s, gEq_b, gNe_b, gEq_2, gNe_2, gEq_3, gNe_3, gEq_22, gNe_22, DL.R.bind_ok, DL.R.bind_ex, ev_setL, kSetL_ev, ev_lDisp, kDisp_ev, ev_lList, lOf_l, lOf_t, ev_frz, frz_l, frz_d, frz_n, ev_lend, lend_l, lend_d, atom_i, atom_b, atom_s, ev_lendB, lendB_l, lendB_d, ev_app, app_l, kApp_ev, ev_put, put_l, ev_ixO, ixO_l, ixO_d, put_m, putAll_c, putAll_n, ev_lc, kLst_ev, ev_lcL, wipe_n, wipe_c, r1_2, r1_3, bits_ev, List.getElem?_cons_zero, List.getElem?_cons_succ, List.set_cons_zero, List.set_cons_succ, List.length_cons, List.length_nil, List.length_map, List.append_nil, List.cons_append, List.nil_append, ev_if, turn_nx, turn_ct, turn_bk, turn_rt, turn_ite, kWh_ev, isi_int_int, isi_bool_int, isi_int_bool, isi_bool_bool, isi_int_str, isi_int_none, isi_int_list, isi_int_tup, isi_bool_str, isi_bool_none, isi_bool_list, isi_bool_tup, isi_tup_tup, isi_tup_int, isi_tup_bool, isi_tup_str, isi_tup_none, isi_tup_list, isi_list_list, isi_list_tup, isi_list_int, isi_list_bool, isi_list_str, isi_list_none, isi_str_str, isi_str_int, isi_str_bool, isi_str_none, isi_str_list, isi_str_tup, decide_true, decide_false, not_true_eq_false, not_false_eq_true, ne_eq, decide_eq_true_eq, Bool.not_eq_true', decide_eq_false_iff_not, Bool.not_true, Bool.not_false, Bool.false_eq_true, if_true, if_false, reduceIte, forL_1, forL_nil, gDiv_i, e1, e2, h, e, hs, hk, lA, lB, lN]
  · have e : ((g3 a b n : Nat) : Int) = shr (g3 a b n) n := by unfold shr; rw [if_neg h]
    simp +decide only [m_law_low, den_law_low, lb2_law_low, ev_seq, seq_nx, seq_rt, seq_ex, seq_bk, seq_ct, seq_ite, fl_ok, fl_ex, fl_ite, ev_set, kSet_ev, ev_ret, ev_retN, ev_nx, ev_bk, ev_ct, ev_raise, ev_if, kIf_ev, ev_drop, kNx_ev, ev_par, kPar_ev, kId_ev, ev_asg, kAsg_ev, ev_for, kFor_ev, ev_V, dVg_ok, ev_C, ev_1, ev_2, bind2_ok, bind2_ite1, bind2_ite2, bind_ite, ev_A, ev_nil, ev_cons, kCons_ev, ev_T, toB_ev, ev_and, ev_or, ev_not, kAnd_ev, kOr_ev, kNot_ev, ev_andV, ev_orV, ev_notV, kAndV_ev, kOrV_ev, kNotV_ev, ev_ife, kIfE_ev, ev_ch, kCh, tup_ev, lst_ev, call_ev, kw_ev, ev_kw, ev_fn, startE_0, startE_s, startE_c, fin_rt, fin_nx, fin_ex, fin_ite, ix_t0, ix_t1, ix_t2, ix_t3, ix_l0, ix_l1, ix_l2, len_l, len_t1, len_t2, len_t3, len_t4, beq_self_eq_true, ev_iL, ev_iT, asL_ev, asT_ev, ev_iA, ev_P, toI_ev, ev_P0, ev_sl, kSl_ev, put_1, gAdd_i, gSub_i, gMul_i, gDiv_p, gMod_p, gPow_l, gShl_l, gShr_l, gLt_i, gLe_i, gGt_i, gGe_i, gEq_i, gNe_i, gNeg_i, gAbs_i, gInt_i, gInt_b, gEq_s, gNe_s, gEq_b, gNe_b, gEq_2, gNe_2, gEq_3, gNe_3, gEq_22, gNe_22, DL.R.bind_ok, DL.R.bind_ex, ev_setL, kSetL_ev, ev_lDisp, kDisp_ev, ev_lList, lOf_l, lOf_t, ev_frz, frz_l, frz_d, frz_n, ev_lend, lend_l, lend_d, atom_i, atom_b, atom_s, ev_lendB, lendB_l, lendB_d, ev_app, app_l, kApp_ev, ev_put, put_l, ev_ixO, ixO_l, ixO_d, put_m, putAll_c, putAll_n, ev_lc, kLst_ev, ev_lcL, wipe_n, wipe_c, r1_2, r1_3, bits_ev, List.getElem?_cons_zero, List.getElem?_cons_succ, List.set_cons_zero, List.set_cons_succ, List.length_cons, List.length_nil, List.length_map, List.append_nil, List.cons_append, List.nil_append, ev_if, turn_nx, turn_ct, turn_bk, turn_rt, turn_ite, kWh_ev, isi_int_int, isi_bool_int, isi_int_bool, isi_bool_bool, isi_int_str, isi_int_none, isi_int_list, isi_int_tup, isi_bool_str, isi_bool_none, isi_bool_list, isi_bool_tup, isi_tup_tup, isi_tup_int, isi_tup_bool, isi_tup_str, isi_tup_none, isi_tup_list, isi_list_list, isi_list_tup, isi_list_int, isi_list_bool, isi_list_str, isi_list_none, isi_str_str, isi_str_int, isi_str_bool, isi_str_none, isi_str_list, isi_str_tup, decide_true, decide_false, not_true_eq_false, not_false_eq_true, ne_eq, decide_eq_true_eq, Bool.not_eq_true', decide_eq_false_iff_not, Bool.not_true, Bool.not_false, Bool.false_eq_true, if_true, if_false, reduceIte, forL_1, forL_nil, gDiv_i, e1, e2, h, e, hs, hk, lA, lB, lN]
theorem roots_at2 (j : Int) (h0 : 0 ≤ j) (h1 : j < 90) : ∃ d : Int, gIx (.list (rootsL.map PyData.int)) (.int j) = .ok (.int d) ∧ Root d ∧ d ≤ 99 ∧ Bd d 7 := by
  have hl : j < (rootsL.length : Int) := by rw [rootsL_len]; exact h1
  refine ⟨_, ix_ints h0 hl, ?_⟩
  have hm : rootsL.getD j.toNat 0 ∈ rootsL := by
    have h2 : j.toNat < rootsL.length := by omega
    rw [List.getD_eq_getElem?_getD, List.getElem?_eq_getElem h2]
    exact List.getElem_mem h2
  obtain ⟨a, b, c⟩ := roots_ok _ hm
  exact ⟨a, c, ⟨by omega⟩⟩
theorem law_root_v3_eq (c : Int) : ∃ d : Int, m_law_root_v3 [.int c] = .ok (.int d) ∧ Root d ∧ d ≤ 99 ∧ Bd d 7 := by
  obtain ⟨d, e1, e2⟩ := roots_at2 (c % 90) (by omega) (by omega)
  refine ⟨d, ?_, e2⟩
  have L := roots_lc (i := 2) (f := le1_law_root_v3) (t := lq1_law_root_v3) (ρ := [some (.d (.int c)), none, none]) (fun d => by simp +decide only [le1_law_root_v3, ev_seq, seq_nx, seq_rt, seq_ex, seq_bk, seq_ct, seq_ite, fl_ok, fl_ex, fl_ite, ev_set, kSet_ev, ev_ret, ev_retN, ev_nx, ev_bk, ev_ct, ev_raise, ev_if, kIf_ev, ev_drop, kNx_ev, ev_par, kPar_ev, kId_ev, ev_asg, kAsg_ev, ev_for, kFor_ev, ev_V, dVg_ok, ev_C, ev_1, ev_2, bind2_ok, bind2_ite1, bind2_ite2, bind_ite, ev_A, ev_nil, ev_cons, kCons_ev, ev_T, toB_ev, ev_and, ev_or, ev_not, kAnd_ev, kOr_ev, kNot_ev, ev_andV, ev_orV, ev_notV, kAndV_ev, kOrV_ev, kNotV_ev, ev_ife, kIfE_ev, ev_ch, kCh, tup_ev, lst_ev, call_ev, kw_ev, ev_kw, ev_fn, startE_0, startE_s, startE_c, fin_rt, fin_nx, fin_ex, fin_ite, ix_t0, ix_t1, ix_t2, ix_t3, ix_l0, ix_l1, ix_l2, len_l, len_t1, len_t2, len_t3, len_t4, beq_self_eq_true, ev_iL, ev_iT, asL_ev, asT_ev, ev_iA, ev_P, toI_ev, ev_P0, ev_sl, kSl_ev, put_1, gAdd_i, gSub_i, gMul_i, gDiv_p, gMod_p, gPow_l, gShl_l, gShr_l, gLt_i, gLe_i, gGt_i, gGe_i, gEq_i, gNe_i, gNeg_i, gAbs_i, gInt_i, gInt_b, gEq_s, gNe_s, gEq_b, gNe_b, gEq_2, gNe_2, gEq_3, gNe_3, gEq_22, gNe_22, DL.R.bind_ok, DL.R.bind_ex, ev_setL, kSetL_ev, ev_lDisp, kDisp_ev, ev_lList, lOf_l, lOf_t, ev_frz, frz_l, frz_d, frz_n, ev_lend, lend_l, lend_d, atom_i, atom_b, atom_s, ev_lendB, lendB_l, lendB_d, ev_app, app_l, kApp_ev, ev_put, put_l, ev_ixO, ixO_l, ixO_d, put_m, putAll_c, putAll_n, ev_lc, kLst_ev, ev_lcL, wipe_n, wipe_c, r1_2, r1_3, bits_ev, List.getElem?_cons_zero, List.getElem?_cons_succ, List.set_cons_zero, List.set_cons_succ, List.length_cons, List.length_nil, List.length_map, List.append_nil, List.cons_append, List.nil_append, ev_if, turn_nx, turn_ct, turn_bk, turn_rt, turn_ite, kWh_ev, isi_int_int, isi_bool_int, isi_int_bool, isi_bool_bool, isi_int_str, isi_int_none, isi_int_list, isi_int_tup, isi_bool_str, isi_bool_none, isi_bool_list, isi_bool_tup, isi_tup_tup, isi_tup_int, isi_tup_bool, isi_tup_str, isi_tup_none, isi_tup_list, isi_list_list, isi_list_tup, isi_list_int, isi_list_bool, isi_list_str, isi_list_none, isi_str_str, isi_str_int, isi_str_bool, isi_str_none, isi_str_list, isi_str_tup, decide_true, decide_false, not_true_eq_false, not_false_eq_true, ne_eq, decide_eq_true_eq, Bool.not_eq_true', decide_eq_false_iff_not, Bool.not_true, Bool.not_false, Bool.false_eq_true, if_true, if_false, reduceIte]) (fun d => by
    simp +decide only [lq1_law_root_v3, ev_seq, seq_nx, seq_rt, seq_ex, seq_bk, seq_ct, seq_ite, fl_ok, fl_ex, fl_ite, ev_set, kSet_ev, ev_ret, ev_retN, ev_nx, ev_bk, ev_ct, ev_raise, ev_if, kIf_ev, ev_drop, kNx_ev, ev_par, kPar_ev, kId_ev, ev_asg, kAsg_ev, ev_for, kFor_ev, ev_V, dVg_ok, ev_C, ev_1, ev_2, bind2_ok, bind2_ite1, bind2_ite2, bind_ite, ev_A, ev_nil, ev_cons, kCons_ev, ev_T, toB_ev, ev_and, ev_or, ev_not, kAnd_ev, kOr_ev, kNot_ev, ev_andV, ev_orV, ev_notV, kAndV_ev, kOrV_ev, kNotV_ev, ev_ife, kIfE_ev, ev_ch, kCh, tup_ev, lst_ev, call_ev, kw_ev, ev_kw, ev_fn, startE_0, startE_s, startE_c, fin_rt, fin_nx, fin_ex, fin_ite, ix_t0, ix_t1, ix_t2, ix_t3, ix_l0, ix_l1, ix_l2, len_l, len_t1, len_t2, len_t3, len_t4, beq_self_eq_true, ev_iL, ev_iT, asL_ev, asT_ev, ev_iA, ev_P, toI_ev, ev_P0, ev_sl, kSl_ev, put_1, gAdd_i, gSub_i, gMul_i, gDiv_p, gMod_p, gPow_l, gShl_l, gShr_l, gLt_i, gLe_i, gGt_i, gGe_i, gEq_i, gNe_i, gNeg_i, gAbs_i, gInt_i, gInt_b, gEq_s, gNe_s, gEq_b, gNe_b, gEq_2, gNe_2, gEq_3, gNe_3, gEq_22, gNe_22, DL.R.bind_ok, DL.R.bind_ex, ev_setL, kSetL_ev, ev_lDisp, kDisp_ev, ev_lList, lOf_l, lOf_t, ev_frz, frz_l, frz_d, frz_n, ev_lend, lend_l, lend_d, atom_i, atom_b, atom_s, ev_lendB, lendB_l, lendB_d, ev_app, app_l, kApp_ev, ev_put, put_l, ev_ixO, ixO_l, ixO_d, put_m, putAll_c, putAll_n, ev_lc, kLst_ev, ev_lcL, wipe_n, wipe_c, r1_2, r1_3, bits_ev, List.getElem?_cons_zero, List.getElem?_cons_succ, List.set_cons_zero, List.set_cons_succ, List.length_cons, List.length_nil, List.length_map, List.append_nil, List.cons_append, List.nil_append, ev_if, turn_nx, turn_ct, turn_bk, turn_rt, turn_ite, kWh_ev, isi_int_int, isi_bool_int, isi_int_bool, isi_bool_bool, isi_int_str, isi_int_none, isi_int_list, isi_int_tup, isi_bool_str, isi_bool_none, isi_bool_list, isi_bool_tup, isi_tup_tup, isi_tup_int, isi_tup_bool, isi_tup_str, isi_tup_none, isi_tup_list, isi_list_list, isi_list_tup, isi_list_int, isi_list_bool, isi_list_str, isi_list_none, isi_str_str, isi_str_int, isi_str_bool, isi_str_none, isi_str_list, isi_str_tup, decide_true, decide_false, not_true_eq_false, not_false_eq_true, ne_eq, decide_eq_true_eq, Bool.not_eq_true', decide_eq_false_iff_not, Bool.not_true, Bool.not_false, Bool.false_eq_true, if_true, if_false, reduceIte]
    rw [lst8, in_l]
    rfl)
  simp +decide only [m_law_root_v3, den_law_root_v3, ev_seq, seq_nx, seq_rt, seq_ex, seq_bk, seq_ct, seq_ite, fl_ok, fl_ex, fl_ite, ev_set, kSet_ev, ev_ret, ev_retN, ev_nx, ev_bk, ev_ct, ev_raise, ev_if, kIf_ev, ev_drop, kNx_ev, ev_par, kPar_ev, kId_ev, ev_asg, kAsg_ev, ev_for, kFor_ev, ev_V, dVg_ok, ev_C, ev_1, ev_2, bind2_ok, bind2_ite1, bind2_ite2, bind_ite, ev_A, ev_nil, ev_cons, kCons_ev, ev_T, toB_ev, ev_and, ev_or, ev_not, kAnd_ev, kOr_ev, kNot_ev, ev_andV, ev_orV, ev_notV, kAndV_ev, kOrV_ev, kNotV_ev, ev_ife, kIfE_ev, ev_ch, kCh, tup_ev, lst_ev, call_ev, kw_ev, ev_kw, ev_fn, startE_0, startE_s, startE_c, fin_rt, fin_nx, fin_ex, fin_ite, ix_t0, ix_t1, ix_t2, ix_t3, ix_l0, ix_l1, ix_l2, len_l, len_t1, len_t2, len_t3, len_t4, beq_self_eq_true, ev_iL, ev_iT, asL_ev, asT_ev, ev_iA, ev_P, toI_ev, ev_P0, ev_sl, kSl_ev, put_1, gAdd_i, gSub_i, gMul_i, gDiv_p, gMod_p, gPow_l, gShl_l, gShr_l, gLt_i, gLe_i, gGt_i, gGe_i, gEq_i, gNe_i, gNeg_i, gAbs_i, gInt_i, gInt_b, gEq_s, gNe_s, gEq_b, gNe_b, gEq_2, gNe_2, gEq_3, gNe_3, gEq_22, gNe_22, DL.R.bind_ok, DL.R.bind_ex, ev_setL, kSetL_ev, ev_lDisp, kDisp_ev, ev_lList, lOf_l, lOf_t, ev_frz, frz_l, frz_d, frz_n, ev_lend, lend_l, lend_d, atom_i, atom_b, atom_s, ev_lendB, lendB_l, lendB_d, ev_app, app_l, kApp_ev, ev_put, put_l, ev_ixO, ixO_l, ixO_d, put_m, putAll_c, putAll_n, ev_lc, kLst_ev, ev_lcL, wipe_n, wipe_c, r1_2, r1_3, bits_ev, List.getElem?_cons_zero, List.getElem?_cons_succ, List.set_cons_zero, List.set_cons_succ, List.length_cons, List.length_nil, List.length_map, List.append_nil, List.cons_append, List.nil_append, ev_if, turn_nx, turn_ct, turn_bk, turn_rt, turn_ite, kWh_ev, isi_int_int, isi_bool_int, isi_int_bool, isi_bool_bool, isi_int_str, isi_int_none, isi_int_list, isi_int_tup, isi_bool_str, isi_bool_none, isi_bool_list, isi_bool_tup, isi_tup_tup, isi_tup_int, isi_tup_bool, isi_tup_str, isi_tup_none, isi_tup_list, isi_list_list, isi_list_tup, isi_list_int, isi_list_bool, isi_list_str, isi_list_none, isi_str_str, isi_str_int, isi_str_bool, isi_str_none, isi_str_list, isi_str_tup, decide_true, decide_false, not_true_eq_false, not_false_eq_true, ne_eq, decide_eq_true_eq, Bool.not_eq_true', decide_eq_false_iff_not, Bool.not_true, Bool.not_false, Bool.false_eq_true, if_true, if_false, reduceIte, r2_roots, kLcL_ev rng98, L, e1]
/-- above nought -/
def Pos (d a b : Int) : Prop := Lt0 d (-a) (-b)
/-- the drawn side: a and b as the tests leave them -/
theorem side_loop (s0 s1 : PD) (d b n : Int) (w : PD) (hd : 0 < d) (hd2 : d ≤ 99) (hb : -9 ≤ b ∧ b < 0) [Bd d 7] : ∀ (k : Nat) (a : Int), (100 - a).toNat ≤ k → 1 ≤ a → a ≤ 100 → ∃ a' : Int, 1 ≤ a' ∧ a' ≤ 101 ∧ d * b * b ≤ a' * a' ∧
    sWhile lt1_law_side lb1_law_side [some (.d s0), some (.d s1), some (.d (.int d)), some (.d (.int n)), some (.d (.int b)), some (.d w), some (.d (.int a))] = .nx [some (.d s0), some (.d s1), some (.d (.int d)), some (.d (.int n)), some (.d (.int b)), some (.d w), some (.d (.int a'))] := by
  have bb : Bd b 7 := ⟨by omega⟩
  have hdb : d * b * b ≤ 99 * 81 := by
    have h1 : b * b ≤ 81 := by
      have := Int.mul_self_le_mul_self (by omega : 0 ≤ -b) (by omega : -b ≤ 9)
      have e : -b * -b = b * b := by grind
      omega
    have h2 : 0 ≤ b * b := by
      have := Int.mul_nonneg (by omega : 0 ≤ -b) (by omega : 0 ≤ -b)
      have e : -b * -b = b * b := by grind
      omega
    have h3 := Int.mul_le_mul_of_nonneg_right hd2 h2
    have e : d * b * b = d * (b * b) := Int.mul_assoc _ _ _
    omega
  intro k
  induction k with
  | zero =>
    intro a h0 h1 h2
    have : a = 100 := by omega
    subst this
    refine ⟨100, by decide, by decide, by omega, ?_⟩
    have hc : ¬ 100 * 100 < d * b * b := by omega
    rw [ev_while]
    simp +decide only [lt1_law_side, ev_seq, seq_nx, seq_rt, seq_ex, seq_bk, seq_ct, seq_ite, fl_ok, fl_ex, fl_ite, ev_set, kSet_ev, ev_ret, ev_retN, ev_nx, ev_bk, ev_ct, ev_raise, ev_if, kIf_ev, ev_drop, kNx_ev, ev_par, kPar_ev, kId_ev, ev_asg, kAsg_ev, ev_for, kFor_ev, ev_V, dVg_ok, ev_C, ev_1, ev_2, bind2_ok, bind2_ite1, bind2_ite2, bind_ite, ev_A, ev_nil, ev_cons, kCons_ev, ev_T, toB_ev, ev_and, ev_or, ev_not, kAnd_ev, kOr_ev, kNot_ev, ev_andV, ev_orV, ev_notV, kAndV_ev, kOrV_ev, kNotV_ev, ev_ife, kIfE_ev, ev_ch, kCh, tup_ev, lst_ev, call_ev, kw_ev, ev_kw, ev_fn, startE_0, startE_s, startE_c, fin_rt, fin_nx, fin_ex, fin_ite, ix_t0, ix_t1, ix_t2, ix_t3, ix_l0, ix_l1, ix_l2, len_l, len_t1, len_t2, len_t3, len_t4, beq_self_eq_true, ev_iL, ev_iT, asL_ev, asT_ev, ev_iA, ev_P, toI_ev, ev_P0, ev_sl, kSl_ev, put_1, gAdd_i, gSub_i, gMul_i, gDiv_p, gMod_p, gPow_l, gShl_l, gShr_l, gLt_i, gLe_i, gGt_i, gGe_i, gEq_i, gNe_i, gNeg_i, gAbs_i, gInt_i, gInt_b, gEq_s, gNe_s, gEq_b, gNe_b, gEq_2, gNe_2, gEq_3, gNe_3, gEq_22, gNe_22, DL.R.bind_ok, DL.R.bind_ex, ev_setL, kSetL_ev, ev_lDisp, kDisp_ev, ev_lList, lOf_l, lOf_t, ev_frz, frz_l, frz_d, frz_n, ev_lend, lend_l, lend_d, atom_i, atom_b, atom_s, ev_lendB, lendB_l, lendB_d, ev_app, app_l, kApp_ev, ev_put, put_l, ev_ixO, ixO_l, ixO_d, put_m, putAll_c, putAll_n, ev_lc, kLst_ev, ev_lcL, wipe_n, wipe_c, r1_2, r1_3, bits_ev, List.getElem?_cons_zero, List.getElem?_cons_succ, List.set_cons_zero, List.set_cons_succ, List.length_cons, List.length_nil, List.length_map, List.append_nil, List.cons_append, List.nil_append, ev_if, turn_nx, turn_ct, turn_bk, turn_rt, turn_ite, kWh_ev, isi_int_int, isi_bool_int, isi_int_bool, isi_bool_bool, isi_int_str, isi_int_none, isi_int_list, isi_int_tup, isi_bool_str, isi_bool_none, isi_bool_list, isi_bool_tup, isi_tup_tup, isi_tup_int, isi_tup_bool, isi_tup_str, isi_tup_none, isi_tup_list, isi_list_list, isi_list_tup, isi_list_int, isi_list_bool, isi_list_str, isi_list_none, isi_str_str, isi_str_int, isi_str_bool, isi_str_none, isi_str_list, isi_str_tup, decide_true, decide_false, not_true_eq_false, not_false_eq_true, ne_eq, decide_eq_true_eq, Bool.not_eq_true', decide_eq_false_iff_not, Bool.not_true, Bool.not_false, Bool.false_eq_true, if_true, if_false, reduceIte, hc]
  | succ k ih =>
    intro a h0 h1 h2
    have ba : Bd a 7 := ⟨by omega⟩
    rw [ev_while]
    by_cases hc : a * a < d * b * b
    · have : a < 100 := by
        rcases Int.lt_or_le a 100 with w | w
        · exact w
        · have := Int.mul_self_le_mul_self (by decide : (0:Int) ≤ 100) w; omega
      obtain ⟨a', q1, q2, q3, e⟩ := ih (a + 1) (by omega) (by omega) (by omega)
      refine ⟨a', q1, q2, q3, ?_⟩
      simp +decide only [lt1_law_side, lb1_law_side, ev_seq, seq_nx, seq_rt, seq_ex, seq_bk, seq_ct, seq_ite, fl_ok, fl_ex, fl_ite, ev_set, kSet_ev, ev_ret, ev_retN, ev_nx, ev_bk, ev_ct, ev_raise, ev_if, kIf_ev, ev_drop, kNx_ev, ev_par, kPar_ev, kId_ev, ev_asg, kAsg_ev, ev_for, kFor_ev, ev_V, dVg_ok, ev_C, ev_1, ev_2, bind2_ok, bind2_ite1, bind2_ite2, bind_ite, ev_A, ev_nil, ev_cons, kCons_ev, ev_T, toB_ev, ev_and, ev_or, ev_not, kAnd_ev, kOr_ev, kNot_ev, ev_andV, ev_orV, ev_notV, kAndV_ev, kOrV_ev, kNotV_ev, ev_ife, kIfE_ev, ev_ch, kCh, tup_ev, lst_ev, call_ev, kw_ev, ev_kw, ev_fn, startE_0, startE_s, startE_c, fin_rt, fin_nx, fin_ex, fin_ite, ix_t0, ix_t1, ix_t2, ix_t3, ix_l0, ix_l1, ix_l2, len_l, len_t1, len_t2, len_t3, len_t4, beq_self_eq_true, ev_iL, ev_iT, asL_ev, asT_ev, ev_iA, ev_P, toI_ev, ev_P0, ev_sl, kSl_ev, put_1, gAdd_i, gSub_i, gMul_i, gDiv_p, gMod_p, gPow_l, gShl_l, gShr_l, gLt_i, gLe_i, gGt_i, gGe_i, gEq_i, gNe_i, gNeg_i, gAbs_i, gInt_i, gInt_b, gEq_s, gNe_s, gEq_b, gNe_b, gEq_2, gNe_2, gEq_3, gNe_3, gEq_22, gNe_22, DL.R.bind_ok, DL.R.bind_ex, ev_setL, kSetL_ev, ev_lDisp, kDisp_ev, ev_lList, lOf_l, lOf_t, ev_frz, frz_l, frz_d, frz_n, ev_lend, lend_l, lend_d, atom_i, atom_b, atom_s, ev_lendB, lendB_l, lendB_d, ev_app, app_l, kApp_ev, ev_put, put_l, ev_ixO, ixO_l, ixO_d, put_m, putAll_c, putAll_n, ev_lc, kLst_ev, ev_lcL, wipe_n, wipe_c, r1_2, r1_3, bits_ev, List.getElem?_cons_zero, List.getElem?_cons_succ, List.set_cons_zero, List.set_cons_succ, List.length_cons, List.length_nil, List.length_map, List.append_nil, List.cons_append, List.nil_append, ev_if, turn_nx, turn_ct, turn_bk, turn_rt, turn_ite, kWh_ev, isi_int_int, isi_bool_int, isi_int_bool, isi_bool_bool, isi_int_str, isi_int_none, isi_int_list, isi_int_tup, isi_bool_str, isi_bool_none, isi_bool_list, isi_bool_tup, isi_tup_tup, isi_tup_int, isi_tup_bool, isi_tup_str, isi_tup_none, isi_tup_list, isi_list_list, isi_list_tup, isi_list_int, isi_list_bool, isi_list_str, isi_list_none, isi_str_str, isi_str_int, isi_str_bool, isi_str_none, isi_str_list, isi_str_tup, decide_true, decide_false, not_true_eq_false, not_false_eq_true, ne_eq, decide_eq_true_eq, Bool.not_eq_true', decide_eq_false_iff_not, Bool.not_true, Bool.not_false, Bool.false_eq_true, if_true, if_false, reduceIte, hc]
      exact e
    · refine ⟨a, h1, by omega, by omega, ?_⟩
      simp +decide only [lt1_law_side, ev_seq, seq_nx, seq_rt, seq_ex, seq_bk, seq_ct, seq_ite, fl_ok, fl_ex, fl_ite, ev_set, kSet_ev, ev_ret, ev_retN, ev_nx, ev_bk, ev_ct, ev_raise, ev_if, kIf_ev, ev_drop, kNx_ev, ev_par, kPar_ev, kId_ev, ev_asg, kAsg_ev, ev_for, kFor_ev, ev_V, dVg_ok, ev_C, ev_1, ev_2, bind2_ok, bind2_ite1, bind2_ite2, bind_ite, ev_A, ev_nil, ev_cons, kCons_ev, ev_T, toB_ev, ev_and, ev_or, ev_not, kAnd_ev, kOr_ev, kNot_ev, ev_andV, ev_orV, ev_notV, kAndV_ev, kOrV_ev, kNotV_ev, ev_ife, kIfE_ev, ev_ch, kCh, tup_ev, lst_ev, call_ev, kw_ev, ev_kw, ev_fn, startE_0, startE_s, startE_c, fin_rt, fin_nx, fin_ex, fin_ite, ix_t0, ix_t1, ix_t2, ix_t3, ix_l0, ix_l1, ix_l2, len_l, len_t1, len_t2, len_t3, len_t4, beq_self_eq_true, ev_iL, ev_iT, asL_ev, asT_ev, ev_iA, ev_P, toI_ev, ev_P0, ev_sl, kSl_ev, put_1, gAdd_i, gSub_i, gMul_i, gDiv_p, gMod_p, gPow_l, gShl_l, gShr_l, gLt_i, gLe_i, gGt_i, gGe_i, gEq_i, gNe_i, gNeg_i, gAbs_i, gInt_i, gInt_b, gEq_s, gNe_s, gEq_b, gNe_b, gEq_2, gNe_2, gEq_3, gNe_3, gEq_22, gNe_22, DL.R.bind_ok, DL.R.bind_ex, ev_setL, kSetL_ev, ev_lDisp, kDisp_ev, ev_lList, lOf_l, lOf_t, ev_frz, frz_l, frz_d, frz_n, ev_lend, lend_l, lend_d, atom_i, atom_b, atom_s, ev_lendB, lendB_l, lendB_d, ev_app, app_l, kApp_ev, ev_put, put_l, ev_ixO, ixO_l, ixO_d, put_m, putAll_c, putAll_n, ev_lc, kLst_ev, ev_lcL, wipe_n, wipe_c, r1_2, r1_3, bits_ev, List.getElem?_cons_zero, List.getElem?_cons_succ, List.set_cons_zero, List.set_cons_succ, List.length_cons, List.length_nil, List.length_map, List.append_nil, List.cons_append, List.nil_append, ev_if, turn_nx, turn_ct, turn_bk, turn_rt, turn_ite, kWh_ev, isi_int_int, isi_bool_int, isi_int_bool, isi_bool_bool, isi_int_str, isi_int_none, isi_int_list, isi_int_tup, isi_bool_str, isi_bool_none, isi_bool_list, isi_bool_tup, isi_tup_tup, isi_tup_int, isi_tup_bool, isi_tup_str, isi_tup_none, isi_tup_list, isi_list_list, isi_list_tup, isi_list_int, isi_list_bool, isi_list_str, isi_list_none, isi_str_str, isi_str_int, isi_str_bool, isi_str_none, isi_str_list, isi_str_tup, decide_true, decide_false, not_true_eq_false, not_false_eq_true, ne_eq, decide_eq_true_eq, Bool.not_eq_true', decide_eq_false_iff_not, Bool.not_true, Bool.not_false, Bool.false_eq_true, if_true, if_false, reduceIte, hc]
theorem pos_low {d a b n : Int} (hn : 0 < n) (h : Pos d a b) : Pos d (lA a b n) (lB a b n) := by
  have hn0 : n ≠ 0 := by omega
  obtain ⟨m1, m2, m3⟩ := lmul (a := a) (b := b) hn0
  have hs : 0 < shr (g3 a b n) n := by
    have h0 := g3_ne (a := a) (b := b) hn0
    unfold shr
    rw [if_neg (by omega)]
    omega
  have sc := lt0_scale (d := d) (a := -lA a b n) (b := -lB a b n) hs
  unfold Pos at h ⊢
  rw [← sc]
  have e1 : -lA a b n * shr (g3 a b n) n = -a := by rw [Int.neg_mul, m1]
  have e2 : -lB a b n * shr (g3 a b n) n = -b := by rw [Int.neg_mul, m2]
  rw [e1, e2]
  exact h
theorem pos_nn {d a b : Int} (ha : 0 ≤ a) (hb : 0 ≤ b) (h : ¬(a = 0 ∧ b = 0)) : Pos d a b := .inl ⟨by omega, by omega, by omega⟩
/-- a side's numbers, b below nought, a ten times as great and more -/
theorem pos_ten {d a b : Int} (hd : 0 < d) (hd2 : d ≤ 99) (hb : b < 0) (ha : 10 * (b.natAbs : Int) ≤ a) : Pos d a b := by
  refine .inr (.inr ⟨by omega, by omega, ?_⟩)
  have h1 := Int.mul_self_le_mul_self (by omega : 0 ≤ 10 * (b.natAbs : Int)) ha
  have e1 : (10 * (b.natAbs : Int)) * (10 * (b.natAbs : Int)) = 100 * (b * b) := by
    have : (b.natAbs : Int) = -b := by omega
    rw [this]; grind
  have h2 : 0 < b * b := Int.mul_pos_of_neg_of_neg hb hb
  have h3 := Int.mul_le_mul_of_nonneg_right hd2 (Int.le_of_lt h2)
  have e2 : d * -b * -b = d * (b * b) := by grind
  have e3 : -a * -a = a * a := by grind
  omega
theorem pos_loop {d a b : Int} (hd : Root d) (ha : 0 < a) (hb : b < 0) (h : d * b * b ≤ a * a) : Pos d a b := by
  refine .inr (.inr ⟨by omega, by omega, ?_⟩)
  have e2 : d * -b * -b = d * b * b := by grind
  have e3 : -a * -a = a * a := by grind
  have ne : a * a ≠ d * b * b := fun e => by have := irr hd e; omega
  omega
theorem pos_three {d b : Int} (hd : 2 ≤ d) (hb : 0 < b) : Pos d (0 - b) b := by
  refine .inr (.inl ⟨by omega, by omega, ?_⟩)
  have h2 : 0 < b * b := Int.mul_pos hb hb
  have h3 := Int.mul_le_mul_of_nonneg_right hd (Int.le_of_lt h2)
  have e2 : d * -b * -b = d * (b * b) := by grind
  have e3 : -(0 - b) * -(0 - b) = b * b := by grind
  omega
/-- what a side is: in lowest terms, above nought, not too great -/
structure Side (d a b n : Int) : Prop where
  low : Low a b n
  pos : Pos d a b
  ba : Bd a 100
  bb : Bd b 100
  bn : Bd n 31
theorem side_of {d a b n : Int} (hn : 0 < n) (h : Pos d a b) (ba : Bd a 100) (bb : Bd b 100) (bn : Bd n 31) : Side d (lA a b n) (lB a b n) (lN a b n) := ⟨low_of (by omega), pos_low hn h, bd_lA, bd_lB, bd_lN⟩
theorem root_two {d : Int} (h : Root d) : 2 ≤ d := by
  obtain ⟨k, h1, h2, h3⟩ := h
  have := Int.mul_pos h1 h1
  omega
theorem law_side_ok (c k d : Int) {m : Nat} [Bd k m] (hm : m ≤ 900) (hd : Root d) (hd2 : d ≤ 99) [bd : Bd d 7] : ∃ a b n : Int, m_law_side [.int c, .int k, .int d] = .ok (.tuple [.int a, .int b, .int n]) ∧ Side d a b n := by
  have := lg1
  have l2 : Nat.log2 2 = 1 := by decide
  have l3 : Nat.log2 3 = 1 := by decide
  have l4 : Nat.log2 4 = 2 := by decide
  have l5 : Nat.log2 5 = 2 := by decide
  have l6 : Nat.log2 6 = 2 := by decide
  obtain ⟨z0, e0, h0, b0⟩ := law_mix_ok c k (by omega)
  obtain ⟨z1, e1, h1, b1⟩ := law_mix_ok c (k + 1) (by omega)
  obtain ⟨z2, e2, h2, b2⟩ := law_mix_ok c (k + 2) (by omega)
  obtain ⟨z3, e3, h3, b3⟩ := law_mix_ok c (k + 3) (by omega)
  obtain ⟨z4, e4, h4, b4⟩ := law_mix_ok c (k + 4) (by omega)
  obtain ⟨z5, e5, h5, b5⟩ := law_mix_ok c (k + 5) (by omega)
  obtain ⟨z6, e6, h6, b6⟩ := law_mix_ok c (k + 6) (by omega)
  have d2 := root_two hd
  have n0 : 0 < 1 + z0 % 12 := by omega
  have bn0 : Bd (1 + z0 % 12) 31 := Bd.mono inferInstance (by decide)
  have bA : Bd (z6 % 10) 100 := Bd.mono inferInstance (by decide)
  have q6 : 0 ≤ z6 % 10 ∧ z6 % 10 < 10 := by omega
  have q1 : -9 ≤ z1 % 19 - 9 ∧ z1 % 19 - 9 ≤ 9 := by omega
  have bb0 : Bd (z1 % 19 - 9) 7 := ⟨by omega⟩
  generalize hA : z6 % 10 = A at bA q6
  generalize hB : z1 % 19 - 9 = B at bb0 q1
  generalize hN : 1 + z0 % 12 = N at bn0 n0
  have one : Bd (1 : Int) 100 := ⟨by decide⟩
  -- the last step, whatever a, b and n are
  have low := fun (a b n : Int) (hn : 0 < n) (bn : Bd n 31) => law_low_eq a b n (by omega) (h3 := bn) (by decide)
  by_cases w0 : z2 % 6 = 0
  · by_cases a0 : A = 0
    · refine ⟨_, _, _, ?_, side_of (a := 1) (b := 0) n0 (pos_nn (by decide) (by decide) (by decide)) one ⟨by decide⟩ bn0⟩
      simp +decide only [m_law_side, den_law_side, ev_seq, seq_nx, seq_rt, seq_ex, seq_bk, seq_ct, seq_ite, fl_ok, fl_ex, fl_ite, ev_set, kSet_ev, ev_ret, ev_retN, ev_nx, ev_bk, ev_ct, ev_raise, ev_if, kIf_ev, ev_drop, kNx_ev, ev_par, kPar_ev, kId_ev, ev_asg, kAsg_ev, ev_for, kFor_ev, ev_V, dVg_ok, ev_C, ev_1, ev_2, bind2_ok, bind2_ite1, bind2_ite2, bind_ite, ev_A, ev_nil, ev_cons, kCons_ev, ev_T, toB_ev, ev_and, ev_or, ev_not, kAnd_ev, kOr_ev, kNot_ev, ev_andV, ev_orV, ev_notV, kAndV_ev, kOrV_ev, kNotV_ev, ev_ife, kIfE_ev, ev_ch, kCh, tup_ev, lst_ev, call_ev, kw_ev, ev_kw, ev_fn, startE_0, startE_s, startE_c, fin_rt, fin_nx, fin_ex, fin_ite, ix_t0, ix_t1, ix_t2, ix_t3, ix_l0, ix_l1, ix_l2, len_l, len_t1, len_t2, len_t3, len_t4, beq_self_eq_true, ev_iL, ev_iT, asL_ev, asT_ev, ev_iA, ev_P, toI_ev, ev_P0, ev_sl, kSl_ev, put_1, gAdd_i, gSub_i, gMul_i, gDiv_p, gMod_p, gPow_l, gShl_l, gShr_l, gLt_i, gLe_i, gGt_i, gGe_i, gEq_i, gNe_i, gNeg_i, gAbs_i, gInt_i, gInt_b, gEq_s, gNe_s, gEq_b, gNe_b, gEq_2, gNe_2, gEq_3, gNe_3, gEq_22, gNe_22, DL.R.bind_ok, DL.R.bind_ex, ev_setL, kSetL_ev, ev_lDisp, kDisp_ev, ev_lList, lOf_l, lOf_t, ev_frz, frz_l, frz_d, frz_n, ev_lend, lend_l, lend_d, atom_i, atom_b, atom_s, ev_lendB, lendB_l, lendB_d, ev_app, app_l, kApp_ev, ev_put, put_l, ev_ixO, ixO_l, ixO_d, put_m, putAll_c, putAll_n, ev_lc, kLst_ev, ev_lcL, wipe_n, wipe_c, r1_2, r1_3, bits_ev, List.getElem?_cons_zero, List.getElem?_cons_succ, List.set_cons_zero, List.set_cons_succ, List.length_cons, List.length_nil, List.length_map, List.append_nil, List.cons_append, List.nil_append, ev_if, turn_nx, turn_ct, turn_bk, turn_rt, turn_ite, kWh_ev, isi_int_int, isi_bool_int, isi_int_bool, isi_bool_bool, isi_int_str, isi_int_none, isi_int_list, isi_int_tup, isi_bool_str, isi_bool_none, isi_bool_list, isi_bool_tup, isi_tup_tup, isi_tup_int, isi_tup_bool, isi_tup_str, isi_tup_none, isi_tup_list, isi_list_list, isi_list_tup, isi_list_int, isi_list_bool, isi_list_str, isi_list_none, isi_str_str, isi_str_int, isi_str_bool, isi_str_none, isi_str_list, isi_str_tup, decide_true, decide_false, not_true_eq_false, not_false_eq_true, ne_eq, decide_eq_true_eq, Bool.not_eq_true', decide_eq_false_iff_not, Bool.not_true, Bool.not_false, Bool.false_eq_true, if_true, if_false, reduceIte, e0, e1, e2, e3, e4, e5, e6, hA, hB, hN, w0, a0, low _ _ _ n0 bn0]
    · refine ⟨_, _, _, ?_, side_of (a := A) (b := 0) n0 (pos_nn q6.1 (by decide) (by omega)) bA ⟨by decide⟩ bn0⟩
      simp +decide only [m_law_side, den_law_side, ev_seq, seq_nx, seq_rt, seq_ex, seq_bk, seq_ct, seq_ite, fl_ok, fl_ex, fl_ite, ev_set, kSet_ev, ev_ret, ev_retN, ev_nx, ev_bk, ev_ct, ev_raise, ev_if, kIf_ev, ev_drop, kNx_ev, ev_par, kPar_ev, kId_ev, ev_asg, kAsg_ev, ev_for, kFor_ev, ev_V, dVg_ok, ev_C, ev_1, ev_2, bind2_ok, bind2_ite1, bind2_ite2, bind_ite, ev_A, ev_nil, ev_cons, kCons_ev, ev_T, toB_ev, ev_and, ev_or, ev_not, kAnd_ev, kOr_ev, kNot_ev, ev_andV, ev_orV, ev_notV, kAndV_ev, kOrV_ev, kNotV_ev, ev_ife, kIfE_ev, ev_ch, kCh, tup_ev, lst_ev, call_ev, kw_ev, ev_kw, ev_fn, startE_0, startE_s, startE_c, fin_rt, fin_nx, fin_ex, fin_ite, ix_t0, ix_t1, ix_t2, ix_t3, ix_l0, ix_l1, ix_l2, len_l, len_t1, len_t2, len_t3, len_t4, beq_self_eq_true, ev_iL, ev_iT, asL_ev, asT_ev, ev_iA, ev_P, toI_ev, ev_P0, ev_sl, kSl_ev, put_1, gAdd_i, gSub_i, gMul_i, gDiv_p, gMod_p, gPow_l, gShl_l, gShr_l, gLt_i, gLe_i, gGt_i, gGe_i, gEq_i, gNe_i, gNeg_i, gAbs_i, gInt_i, gInt_b, gEq_s, gNe_s, gEq_b, gNe_b, gEq_2, gNe_2, gEq_3, gNe_3, gEq_22, gNe_22, DL.R.bind_ok, DL.R.bind_ex, ev_setL, kSetL_ev, ev_lDisp, kDisp_ev, ev_lList, lOf_l, lOf_t, ev_frz, frz_l, frz_d, frz_n, ev_lend, lend_l, lend_d, atom_i, atom_b, atom_s, ev_lendB, lendB_l, lendB_d, ev_app, app_l, kApp_ev, ev_put, put_l, ev_ixO, ixO_l, ixO_d, put_m, putAll_c, putAll_n, ev_lc, kLst_ev, ev_lcL, wipe_n, wipe_c, r1_2, r1_3, bits_ev, List.getElem?_cons_zero, List.getElem?_cons_succ, List.set_cons_zero, List.set_cons_succ, List.length_cons, List.length_nil, List.length_map, List.append_nil, List.cons_append, List.nil_append, ev_if, turn_nx, turn_ct, turn_bk, turn_rt, turn_ite, kWh_ev, isi_int_int, isi_bool_int, isi_int_bool, isi_bool_bool, isi_int_str, isi_int_none, isi_int_list, isi_int_tup, isi_bool_str, isi_bool_none, isi_bool_list, isi_bool_tup, isi_tup_tup, isi_tup_int, isi_tup_bool, isi_tup_str, isi_tup_none, isi_tup_list, isi_list_list, isi_list_tup, isi_list_int, isi_list_bool, isi_list_str, isi_list_none, isi_str_str, isi_str_int, isi_str_bool, isi_str_none, isi_str_list, isi_str_tup, decide_true, decide_false, not_true_eq_false, not_false_eq_true, ne_eq, decide_eq_true_eq, Bool.not_eq_true', decide_eq_false_iff_not, Bool.not_true, Bool.not_false, Bool.false_eq_true, if_true, if_false, reduceIte, e0, e1, e2, e3, e4, e5, e6, hA, hB, hN, w0, a0, low _ _ _ n0 bn0]
  by_cases w1 : z2 % 6 = 1
  · have n1 : 0 < 1 + z5 % 10 ^ 9 := by omega
    have bn1 : Bd (1 + z5 % 10 ^ 9) 31 := ⟨by omega⟩
    have p9 : (0 : Int) < 10 ^ 9 := by decide
    have bB : Bd (B * z3 * z4) 90 := Bd.mono inferInstance (by decide)
    have bB' : Bd (B * z3 * z4) 100 := bB.mono (by decide)
    generalize hC : B * z3 * z4 = C at bB bB'
    generalize hM : 1 + z5 % 10 ^ 9 = M at n1 bn1
    by_cases c0 : C < 0
    · have bA' : Bd (A + 10 * (C.natAbs : Int)) 100 := ⟨by
        have h := bB.h
        have e : (2 : Nat) ^ 100 = 1024 * 2 ^ 90 := by decide
        omega⟩
      have c1 : ¬ (0 < C) := by omega
      have c2 : A + 10 * (C.natAbs : Int) ≠ 0 := by omega
      refine ⟨_, _, _, ?_, side_of (a := A + 10 * (C.natAbs : Int)) (b := C) n1 (pos_ten (by omega) hd2 c0 (by omega)) bA' bB' bn1⟩
      simp +decide only [m_law_side, den_law_side, ev_seq, seq_nx, seq_rt, seq_ex, seq_bk, seq_ct, seq_ite, fl_ok, fl_ex, fl_ite, ev_set, kSet_ev, ev_ret, ev_retN, ev_nx, ev_bk, ev_ct, ev_raise, ev_if, kIf_ev, ev_drop, kNx_ev, ev_par, kPar_ev, kId_ev, ev_asg, kAsg_ev, ev_for, kFor_ev, ev_V, dVg_ok, ev_C, ev_1, ev_2, bind2_ok, bind2_ite1, bind2_ite2, bind_ite, ev_A, ev_nil, ev_cons, kCons_ev, ev_T, toB_ev, ev_and, ev_or, ev_not, kAnd_ev, kOr_ev, kNot_ev, ev_andV, ev_orV, ev_notV, kAndV_ev, kOrV_ev, kNotV_ev, ev_ife, kIfE_ev, ev_ch, kCh, tup_ev, lst_ev, call_ev, kw_ev, ev_kw, ev_fn, startE_0, startE_s, startE_c, fin_rt, fin_nx, fin_ex, fin_ite, ix_t0, ix_t1, ix_t2, ix_t3, ix_l0, ix_l1, ix_l2, len_l, len_t1, len_t2, len_t3, len_t4, beq_self_eq_true, ev_iL, ev_iT, asL_ev, asT_ev, ev_iA, ev_P, toI_ev, ev_P0, ev_sl, kSl_ev, put_1, gAdd_i, gSub_i, gMul_i, gDiv_p, gMod_p, gPow_l, gShl_l, gShr_l, gLt_i, gLe_i, gGt_i, gGe_i, gEq_i, gNe_i, gNeg_i, gAbs_i, gInt_i, gInt_b, gEq_s, gNe_s, gEq_b, gNe_b, gEq_2, gNe_2, gEq_3, gNe_3, gEq_22, gNe_22, DL.R.bind_ok, DL.R.bind_ex, ev_setL, kSetL_ev, ev_lDisp, kDisp_ev, ev_lList, lOf_l, lOf_t, ev_frz, frz_l, frz_d, frz_n, ev_lend, lend_l, lend_d, atom_i, atom_b, atom_s, ev_lendB, lendB_l, lendB_d, ev_app, app_l, kApp_ev, ev_put, put_l, ev_ixO, ixO_l, ixO_d, put_m, putAll_c, putAll_n, ev_lc, kLst_ev, ev_lcL, wipe_n, wipe_c, r1_2, r1_3, bits_ev, List.getElem?_cons_zero, List.getElem?_cons_succ, List.set_cons_zero, List.set_cons_succ, List.length_cons, List.length_nil, List.length_map, List.append_nil, List.cons_append, List.nil_append, ev_if, turn_nx, turn_ct, turn_bk, turn_rt, turn_ite, kWh_ev, isi_int_int, isi_bool_int, isi_int_bool, isi_bool_bool, isi_int_str, isi_int_none, isi_int_list, isi_int_tup, isi_bool_str, isi_bool_none, isi_bool_list, isi_bool_tup, isi_tup_tup, isi_tup_int, isi_tup_bool, isi_tup_str, isi_tup_none, isi_tup_list, isi_list_list, isi_list_tup, isi_list_int, isi_list_bool, isi_list_str, isi_list_none, isi_str_str, isi_str_int, isi_str_bool, isi_str_none, isi_str_list, isi_str_tup, decide_true, decide_false, not_true_eq_false, not_false_eq_true, ne_eq, decide_eq_true_eq, Bool.not_eq_true', decide_eq_false_iff_not, Bool.not_true, Bool.not_false, Bool.false_eq_true, if_true, if_false, reduceIte, e0, e1, e2, e3, e4, e5, e6, hA, hB, hN, hC, hM, p9, w1, c0, c1, c2, low _ _ _ n1 bn1]
    · by_cases a0 : A = 0 ∧ C ≤ 0
      · refine ⟨_, _, _, ?_, side_of (a := 1) (b := C) n1 (pos_nn (by decide) (by omega) (by omega)) one bB' bn1⟩
        simp +decide only [m_law_side, den_law_side, ev_seq, seq_nx, seq_rt, seq_ex, seq_bk, seq_ct, seq_ite, fl_ok, fl_ex, fl_ite, ev_set, kSet_ev, ev_ret, ev_retN, ev_nx, ev_bk, ev_ct, ev_raise, ev_if, kIf_ev, ev_drop, kNx_ev, ev_par, kPar_ev, kId_ev, ev_asg, kAsg_ev, ev_for, kFor_ev, ev_V, dVg_ok, ev_C, ev_1, ev_2, bind2_ok, bind2_ite1, bind2_ite2, bind_ite, ev_A, ev_nil, ev_cons, kCons_ev, ev_T, toB_ev, ev_and, ev_or, ev_not, kAnd_ev, kOr_ev, kNot_ev, ev_andV, ev_orV, ev_notV, kAndV_ev, kOrV_ev, kNotV_ev, ev_ife, kIfE_ev, ev_ch, kCh, tup_ev, lst_ev, call_ev, kw_ev, ev_kw, ev_fn, startE_0, startE_s, startE_c, fin_rt, fin_nx, fin_ex, fin_ite, ix_t0, ix_t1, ix_t2, ix_t3, ix_l0, ix_l1, ix_l2, len_l, len_t1, len_t2, len_t3, len_t4, beq_self_eq_true, ev_iL, ev_iT, asL_ev, asT_ev, ev_iA, ev_P, toI_ev, ev_P0, ev_sl, kSl_ev, put_1, gAdd_i, gSub_i, gMul_i, gDiv_p, gMod_p, gPow_l, gShl_l, gShr_l, gLt_i, gLe_i, gGt_i, gGe_i, gEq_i, gNe_i, gNeg_i, gAbs_i, gInt_i, gInt_b, gEq_s, gNe_s, gEq_b, gNe_b, gEq_2, gNe_2, gEq_3, gNe_3, gEq_22, gNe_22, DL.R.bind_ok, DL.R.bind_ex, ev_setL, kSetL_ev, ev_lDisp, kDisp_ev, ev_lList, lOf_l, lOf_t, ev_frz, frz_l, frz_d, frz_n, ev_lend, lend_l, lend_d, atom_i, atom_b, atom_s, ev_lendB, lendB_l, lendB_d, ev_app, app_l, kApp_ev, ev_put, put_l, ev_ixO, ixO_l, ixO_d, put_m, putAll_c, putAll_n, ev_lc, kLst_ev, ev_lcL, wipe_n, wipe_c, r1_2, r1_3, bits_ev, List.getElem?_cons_zero, List.getElem?_cons_succ, List.set_cons_zero, List.set_cons_succ, List.length_cons, List.length_nil, List.length_map, List.append_nil, List.cons_append, List.nil_append, ev_if, turn_nx, turn_ct, turn_bk, turn_rt, turn_ite, kWh_ev, isi_int_int, isi_bool_int, isi_int_bool, isi_bool_bool, isi_int_str, isi_int_none, isi_int_list, isi_int_tup, isi_bool_str, isi_bool_none, isi_bool_list, isi_bool_tup, isi_tup_tup, isi_tup_int, isi_tup_bool, isi_tup_str, isi_tup_none, isi_tup_list, isi_list_list, isi_list_tup, isi_list_int, isi_list_bool, isi_list_str, isi_list_none, isi_str_str, isi_str_int, isi_str_bool, isi_str_none, isi_str_list, isi_str_tup, decide_true, decide_false, not_true_eq_false, not_false_eq_true, ne_eq, decide_eq_true_eq, Bool.not_eq_true', decide_eq_false_iff_not, Bool.not_true, Bool.not_false, Bool.false_eq_true, if_true, if_false, reduceIte, e0, e1, e2, e3, e4, e5, e6, hA, hB, hN, hC, hM, p9, w1, c0, a0.1, a0.2, low _ _ _ n1 bn1]
      · refine ⟨_, _, _, ?_, side_of (a := A) (b := C) n1 (pos_nn q6.1 (by omega) (by omega)) bA bB' bn1⟩
        by_cases a1 : A = 0
        · have a2 : ¬ C ≤ 0 := fun z => a0 ⟨a1, z⟩
          simp +decide only [m_law_side, den_law_side, ev_seq, seq_nx, seq_rt, seq_ex, seq_bk, seq_ct, seq_ite, fl_ok, fl_ex, fl_ite, ev_set, kSet_ev, ev_ret, ev_retN, ev_nx, ev_bk, ev_ct, ev_raise, ev_if, kIf_ev, ev_drop, kNx_ev, ev_par, kPar_ev, kId_ev, ev_asg, kAsg_ev, ev_for, kFor_ev, ev_V, dVg_ok, ev_C, ev_1, ev_2, bind2_ok, bind2_ite1, bind2_ite2, bind_ite, ev_A, ev_nil, ev_cons, kCons_ev, ev_T, toB_ev, ev_and, ev_or, ev_not, kAnd_ev, kOr_ev, kNot_ev, ev_andV, ev_orV, ev_notV, kAndV_ev, kOrV_ev, kNotV_ev, ev_ife, kIfE_ev, ev_ch, kCh, tup_ev, lst_ev, call_ev, kw_ev, ev_kw, ev_fn, startE_0, startE_s, startE_c, fin_rt, fin_nx, fin_ex, fin_ite, ix_t0, ix_t1, ix_t2, ix_t3, ix_l0, ix_l1, ix_l2, len_l, len_t1, len_t2, len_t3, len_t4, beq_self_eq_true, ev_iL, ev_iT, asL_ev, asT_ev, ev_iA, ev_P, toI_ev, ev_P0, ev_sl, kSl_ev, put_1, gAdd_i, gSub_i, gMul_i, gDiv_p, gMod_p, gPow_l, gShl_l, gShr_l, gLt_i, gLe_i, gGt_i, gGe_i, gEq_i, gNe_i, gNeg_i, gAbs_i, gInt_i, gInt_b, gEq_s, gNe_s, gEq_b, gNe_b, gEq_2, gNe_2, gEq_3, gNe_3, gEq_22, gNe_22, DL.R.bind_ok, DL.R.bind_ex, ev_setL, kSetL_ev, ev_lDisp, kDisp_ev, ev_lList, lOf_l, lOf_t, ev_frz, frz_l, frz_d, frz_n, ev_lend, lend_l, lend_d, atom_i, atom_b, atom_s, ev_lendB, lendB_l, lendB_d, ev_app, app_l, kApp_ev, ev_put, put_l, ev_ixO, ixO_l, ixO_d, put_m, putAll_c, putAll_n, ev_lc, kLst_ev, ev_lcL, wipe_n, wipe_c, r1_2, r1_3, bits_ev, List.getElem?_cons_zero, List.getElem?_cons_succ, List.set_cons_zero, List.set_cons_succ, List.length_cons, List.length_nil, List.length_map, List.append_nil, List.cons_append, List.nil_append, ev_if, turn_nx, turn_ct, turn_bk, turn_rt, turn_ite, kWh_ev, isi_int_int, isi_bool_int, isi_int_bool, isi_bool_bool, isi_int_str, isi_int_none, isi_int_list, isi_int_tup, isi_bool_str, isi_bool_none, isi_bool_list, isi_bool_tup, isi_tup_tup, isi_tup_int, isi_tup_bool, isi_tup_str, isi_tup_none, isi_tup_list, isi_list_list, isi_list_tup, isi_list_int, isi_list_bool, isi_list_str, isi_list_none, isi_str_str, isi_str_int, isi_str_bool, isi_str_none, isi_str_list, isi_str_tup, decide_true, decide_false, not_true_eq_false, not_false_eq_true, ne_eq, decide_eq_true_eq, Bool.not_eq_true', decide_eq_false_iff_not, Bool.not_true, Bool.not_false, Bool.false_eq_true, if_true, if_false, reduceIte, e0, e1, e2, e3, e4, e5, e6, hA, hB, hN, hC, hM, p9, w1, c0, a1, a2, low _ _ _ n1 bn1]
        · simp +decide only [m_law_side, den_law_side, ev_seq, seq_nx, seq_rt, seq_ex, seq_bk, seq_ct, seq_ite, fl_ok, fl_ex, fl_ite, ev_set, kSet_ev, ev_ret, ev_retN, ev_nx, ev_bk, ev_ct, ev_raise, ev_if, kIf_ev, ev_drop, kNx_ev, ev_par, kPar_ev, kId_ev, ev_asg, kAsg_ev, ev_for, kFor_ev, ev_V, dVg_ok, ev_C, ev_1, ev_2, bind2_ok, bind2_ite1, bind2_ite2, bind_ite, ev_A, ev_nil, ev_cons, kCons_ev, ev_T, toB_ev, ev_and, ev_or, ev_not, kAnd_ev, kOr_ev, kNot_ev, ev_andV, ev_orV, ev_notV, kAndV_ev, kOrV_ev, kNotV_ev, ev_ife, kIfE_ev, ev_ch, kCh, tup_ev, lst_ev, call_ev, kw_ev, ev_kw, ev_fn, startE_0, startE_s, startE_c, fin_rt, fin_nx, fin_ex, fin_ite, ix_t0, ix_t1, ix_t2, ix_t3, ix_l0, ix_l1, ix_l2, len_l, len_t1, len_t2, len_t3, len_t4, beq_self_eq_true, ev_iL, ev_iT, asL_ev, asT_ev, ev_iA, ev_P, toI_ev, ev_P0, ev_sl, kSl_ev, put_1, gAdd_i, gSub_i, gMul_i, gDiv_p, gMod_p, gPow_l, gShl_l, gShr_l, gLt_i, gLe_i, gGt_i, gGe_i, gEq_i, gNe_i, gNeg_i, gAbs_i, gInt_i, gInt_b, gEq_s, gNe_s, gEq_b, gNe_b, gEq_2, gNe_2, gEq_3, gNe_3, gEq_22, gNe_22, DL.R.bind_ok, DL.R.bind_ex, ev_setL, kSetL_ev, ev_lDisp, kDisp_ev, ev_lList, lOf_l, lOf_t, ev_frz, frz_l, frz_d, frz_n, ev_lend, lend_l, lend_d, atom_i, atom_b, atom_s, ev_lendB, lendB_l, lendB_d, ev_app, app_l, kApp_ev, ev_put, put_l, ev_ixO, ixO_l, ixO_d, put_m, putAll_c, putAll_n, ev_lc, kLst_ev, ev_lcL, wipe_n, wipe_c, r1_2, r1_3, bits_ev, List.getElem?_cons_zero, List.getElem?_cons_succ, List.set_cons_zero, List.set_cons_succ, List.length_cons, List.length_nil, List.length_map, List.append_nil, List.cons_append, List.nil_append, ev_if, turn_nx, turn_ct, turn_bk, turn_rt, turn_ite, kWh_ev, isi_int_int, isi_bool_int, isi_int_bool, isi_bool_bool, isi_int_str, isi_int_none, isi_int_list, isi_int_tup, isi_bool_str, isi_bool_none, isi_bool_list, isi_bool_tup, isi_tup_tup, isi_tup_int, isi_tup_bool, isi_tup_str, isi_tup_none, isi_tup_list, isi_list_list, isi_list_tup, isi_list_int, isi_list_bool, isi_list_str, isi_list_none, isi_str_str, isi_str_int, isi_str_bool, isi_str_none, isi_str_list, isi_str_tup, decide_true, decide_false, not_true_eq_false, not_false_eq_true, ne_eq, decide_eq_true_eq, Bool.not_eq_true', decide_eq_false_iff_not, Bool.not_true, Bool.not_false, Bool.false_eq_true, if_true, if_false, reduceIte, e0, e1, e2, e3, e4, e5, e6, hA, hB, hN, hC, hM, p9, w1, c0, a1, low _ _ _ n1 bn1]
  have bB100 : Bd B 100 := bb0.mono (by decide)
  have bA' : Bd (A + 10 * (B.natAbs : Int)) 100 := ⟨by
    have e : (2 : Nat) ^ 100 = 1267650600228229401496703205376 := by decide
    omega⟩
  -- b below nought, without the loop
  have neg : B < 0 → z2 % 6 ≠ 2 → ∃ a b n : Int, m_law_side [.int c, .int k, .int d] = .ok (.tuple [.int a, .int b, .int n]) ∧ Side d a b n := fun c0 w2 => by
    have c1 : ¬ (0 < B) := by omega
    have c2 : A + 10 * (B.natAbs : Int) ≠ 0 := by omega
    refine ⟨_, _, _, ?_, side_of (a := A + 10 * (B.natAbs : Int)) (b := B) n0 (pos_ten (by omega) hd2 c0 (by omega)) bA' bB100 bn0⟩
    by_cases w3 : z2 % 6 = 3
    · simp +decide only [m_law_side, den_law_side, ev_seq, seq_nx, seq_rt, seq_ex, seq_bk, seq_ct, seq_ite, fl_ok, fl_ex, fl_ite, ev_set, kSet_ev, ev_ret, ev_retN, ev_nx, ev_bk, ev_ct, ev_raise, ev_if, kIf_ev, ev_drop, kNx_ev, ev_par, kPar_ev, kId_ev, ev_asg, kAsg_ev, ev_for, kFor_ev, ev_V, dVg_ok, ev_C, ev_1, ev_2, bind2_ok, bind2_ite1, bind2_ite2, bind_ite, ev_A, ev_nil, ev_cons, kCons_ev, ev_T, toB_ev, ev_and, ev_or, ev_not, kAnd_ev, kOr_ev, kNot_ev, ev_andV, ev_orV, ev_notV, kAndV_ev, kOrV_ev, kNotV_ev, ev_ife, kIfE_ev, ev_ch, kCh, tup_ev, lst_ev, call_ev, kw_ev, ev_kw, ev_fn, startE_0, startE_s, startE_c, fin_rt, fin_nx, fin_ex, fin_ite, ix_t0, ix_t1, ix_t2, ix_t3, ix_l0, ix_l1, ix_l2, len_l, len_t1, len_t2, len_t3, len_t4, beq_self_eq_true, ev_iL, ev_iT, asL_ev, asT_ev, ev_iA, ev_P, toI_ev, ev_P0, ev_sl, kSl_ev, put_1, gAdd_i, gSub_i, gMul_i, gDiv_p, gMod_p, gPow_l, gShl_l, gShr_l, gLt_i, gLe_i, gGt_i, gGe_i, gEq_i, gNe_i, gNeg_i, gAbs_i, gInt_i, gInt_b, gEq_s, gNe_s, gEq_b, gNe_b, gEq_2, gNe_2, gEq_3, gNe_3, gEq_22, gNe_22, DL.R.bind_ok, DL.R.bind_ex, ev_setL, kSetL_ev, ev_lDisp, kDisp_ev, ev_lList, lOf_l, lOf_t, ev_frz, frz_l, frz_d, frz_n, ev_lend, lend_l, lend_d, atom_i, atom_b, atom_s, ev_lendB, lendB_l, lendB_d, ev_app, app_l, kApp_ev, ev_put, put_l, ev_ixO, ixO_l, ixO_d, put_m, putAll_c, putAll_n, ev_lc, kLst_ev, ev_lcL, wipe_n, wipe_c, r1_2, r1_3, bits_ev, List.getElem?_cons_zero, List.getElem?_cons_succ, List.set_cons_zero, List.set_cons_succ, List.length_cons, List.length_nil, List.length_map, List.append_nil, List.cons_append, List.nil_append, ev_if, turn_nx, turn_ct, turn_bk, turn_rt, turn_ite, kWh_ev, isi_int_int, isi_bool_int, isi_int_bool, isi_bool_bool, isi_int_str, isi_int_none, isi_int_list, isi_int_tup, isi_bool_str, isi_bool_none, isi_bool_list, isi_bool_tup, isi_tup_tup, isi_tup_int, isi_tup_bool, isi_tup_str, isi_tup_none, isi_tup_list, isi_list_list, isi_list_tup, isi_list_int, isi_list_bool, isi_list_str, isi_list_none, isi_str_str, isi_str_int, isi_str_bool, isi_str_none, isi_str_list, isi_str_tup, decide_true, decide_false, not_true_eq_false, not_false_eq_true, ne_eq, decide_eq_true_eq, Bool.not_eq_true', decide_eq_false_iff_not, Bool.not_true, Bool.not_false, Bool.false_eq_true, if_true, if_false, reduceIte, e0, e1, e2, e3, e4, e5, e6, hA, hB, hN, w0, w1, w2, w3, c0, c1, c2, low _ _ _ n0 bn0]
    · simp +decide only [m_law_side, den_law_side, ev_seq, seq_nx, seq_rt, seq_ex, seq_bk, seq_ct, seq_ite, fl_ok, fl_ex, fl_ite, ev_set, kSet_ev, ev_ret, ev_retN, ev_nx, ev_bk, ev_ct, ev_raise, ev_if, kIf_ev, ev_drop, kNx_ev, ev_par, kPar_ev, kId_ev, ev_asg, kAsg_ev, ev_for, kFor_ev, ev_V, dVg_ok, ev_C, ev_1, ev_2, bind2_ok, bind2_ite1, bind2_ite2, bind_ite, ev_A, ev_nil, ev_cons, kCons_ev, ev_T, toB_ev, ev_and, ev_or, ev_not, kAnd_ev, kOr_ev, kNot_ev, ev_andV, ev_orV, ev_notV, kAndV_ev, kOrV_ev, kNotV_ev, ev_ife, kIfE_ev, ev_ch, kCh, tup_ev, lst_ev, call_ev, kw_ev, ev_kw, ev_fn, startE_0, startE_s, startE_c, fin_rt, fin_nx, fin_ex, fin_ite, ix_t0, ix_t1, ix_t2, ix_t3, ix_l0, ix_l1, ix_l2, len_l, len_t1, len_t2, len_t3, len_t4, beq_self_eq_true, ev_iL, ev_iT, asL_ev, asT_ev, ev_iA, ev_P, toI_ev, ev_P0, ev_sl, kSl_ev, put_1, gAdd_i, gSub_i, gMul_i, gDiv_p, gMod_p, gPow_l, gShl_l, gShr_l, gLt_i, gLe_i, gGt_i, gGe_i, gEq_i, gNe_i, gNeg_i, gAbs_i, gInt_i, gInt_b, gEq_s, gNe_s, gEq_b, gNe_b, gEq_2, gNe_2, gEq_3, gNe_3, gEq_22, gNe_22, DL.R.bind_ok, DL.R.bind_ex, ev_setL, kSetL_ev, ev_lDisp, kDisp_ev, ev_lList, lOf_l, lOf_t, ev_frz, frz_l, frz_d, frz_n, ev_lend, lend_l, lend_d, atom_i, atom_b, atom_s, ev_lendB, lendB_l, lendB_d, ev_app, app_l, kApp_ev, ev_put, put_l, ev_ixO, ixO_l, ixO_d, put_m, putAll_c, putAll_n, ev_lc, kLst_ev, ev_lcL, wipe_n, wipe_c, r1_2, r1_3, bits_ev, List.getElem?_cons_zero, List.getElem?_cons_succ, List.set_cons_zero, List.set_cons_succ, List.length_cons, List.length_nil, List.length_map, List.append_nil, List.cons_append, List.nil_append, ev_if, turn_nx, turn_ct, turn_bk, turn_rt, turn_ite, kWh_ev, isi_int_int, isi_bool_int, isi_int_bool, isi_bool_bool, isi_int_str, isi_int_none, isi_int_list, isi_int_tup, isi_bool_str, isi_bool_none, isi_bool_list, isi_bool_tup, isi_tup_tup, isi_tup_int, isi_tup_bool, isi_tup_str, isi_tup_none, isi_tup_list, isi_list_list, isi_list_tup, isi_list_int, isi_list_bool, isi_list_str, isi_list_none, isi_str_str, isi_str_int, isi_str_bool, isi_str_none, isi_str_list, isi_str_tup, decide_true, decide_false, not_true_eq_false, not_false_eq_true, ne_eq, decide_eq_true_eq, Bool.not_eq_true', decide_eq_false_iff_not, Bool.not_true, Bool.not_false, Bool.false_eq_true, if_true, if_false, reduceIte, e0, e1, e2, e3, e4, e5, e6, hA, hB, hN, w0, w1, w2, w3, c0, c1, c2, low _ _ _ n0 bn0]
  -- b from nought on, a as it was drawn
  have plain : ¬ B < 0 → (z2 % 6 = 3 → ¬ 0 < B) → ∃ a b n : Int, m_law_side [.int c, .int k, .int d] = .ok (.tuple [.int a, .int b, .int n]) ∧ Side d a b n := fun c0 w3' => by
    by_cases a0 : A = 0 ∧ B ≤ 0
    · refine ⟨_, _, _, ?_, side_of (a := 1) (b := B) n0 (pos_nn (by decide) (by omega) (by omega)) one bB100 bn0⟩
      by_cases w2 : z2 % 6 = 2
      · simp +decide only [m_law_side, den_law_side, ev_seq, seq_nx, seq_rt, seq_ex, seq_bk, seq_ct, seq_ite, fl_ok, fl_ex, fl_ite, ev_set, kSet_ev, ev_ret, ev_retN, ev_nx, ev_bk, ev_ct, ev_raise, ev_if, kIf_ev, ev_drop, kNx_ev, ev_par, kPar_ev, kId_ev, ev_asg, kAsg_ev, ev_for, kFor_ev, ev_V, dVg_ok, ev_C, ev_1, ev_2, bind2_ok, bind2_ite1, bind2_ite2, bind_ite, ev_A, ev_nil, ev_cons, kCons_ev, ev_T, toB_ev, ev_and, ev_or, ev_not, kAnd_ev, kOr_ev, kNot_ev, ev_andV, ev_orV, ev_notV, kAndV_ev, kOrV_ev, kNotV_ev, ev_ife, kIfE_ev, ev_ch, kCh, tup_ev, lst_ev, call_ev, kw_ev, ev_kw, ev_fn, startE_0, startE_s, startE_c, fin_rt, fin_nx, fin_ex, fin_ite, ix_t0, ix_t1, ix_t2, ix_t3, ix_l0, ix_l1, ix_l2, len_l, len_t1, len_t2, len_t3, len_t4, beq_self_eq_true, ev_iL, ev_iT, asL_ev, asT_ev, ev_iA, ev_P, toI_ev, ev_P0, ev_sl, kSl_ev, put_1, gAdd_i, gSub_i, gMul_i, gDiv_p, gMod_p, gPow_l, gShl_l, gShr_l, gLt_i, gLe_i, gGt_i, gGe_i, gEq_i, gNe_i, gNeg_i, gAbs_i, gInt_i, gInt_b, gEq_s, gNe_s, gEq_b, gNe_b, gEq_2, gNe_2, gEq_3, gNe_3, gEq_22, gNe_22, DL.R.bind_ok, DL.R.bind_ex, ev_setL, kSetL_ev, ev_lDisp, kDisp_ev, ev_lList, lOf_l, lOf_t, ev_frz, frz_l, frz_d, frz_n, ev_lend, lend_l, lend_d, atom_i, atom_b, atom_s, ev_lendB, lendB_l, lendB_d, ev_app, app_l, kApp_ev, ev_put, put_l, ev_ixO, ixO_l, ixO_d, put_m, putAll_c, putAll_n, ev_lc, kLst_ev, ev_lcL, wipe_n, wipe_c, r1_2, r1_3, bits_ev, List.getElem?_cons_zero, List.getElem?_cons_succ, List.set_cons_zero, List.set_cons_succ, List.length_cons, List.length_nil, List.length_map, List.append_nil, List.cons_append, List.nil_append, ev_if, turn_nx, turn_ct, turn_bk, turn_rt, turn_ite, kWh_ev, isi_int_int, isi_bool_int, isi_int_bool, isi_bool_bool, isi_int_str, isi_int_none, isi_int_list, isi_int_tup, isi_bool_str, isi_bool_none, isi_bool_list, isi_bool_tup, isi_tup_tup, isi_tup_int, isi_tup_bool, isi_tup_str, isi_tup_none, isi_tup_list, isi_list_list, isi_list_tup, isi_list_int, isi_list_bool, isi_list_str, isi_list_none, isi_str_str, isi_str_int, isi_str_bool, isi_str_none, isi_str_list, isi_str_tup, decide_true, decide_false, not_true_eq_false, not_false_eq_true, ne_eq, decide_eq_true_eq, Bool.not_eq_true', decide_eq_false_iff_not, Bool.not_true, Bool.not_false, Bool.false_eq_true, if_true, if_false, reduceIte, e0, e1, e2, e3, e4, e5, e6, hA, hB, hN, w2, c0, a0.1, a0.2, low _ _ _ n0 bn0]
      by_cases w3 : z2 % 6 = 3
      · have c1 := w3' w3
        simp +decide only [m_law_side, den_law_side, ev_seq, seq_nx, seq_rt, seq_ex, seq_bk, seq_ct, seq_ite, fl_ok, fl_ex, fl_ite, ev_set, kSet_ev, ev_ret, ev_retN, ev_nx, ev_bk, ev_ct, ev_raise, ev_if, kIf_ev, ev_drop, kNx_ev, ev_par, kPar_ev, kId_ev, ev_asg, kAsg_ev, ev_for, kFor_ev, ev_V, dVg_ok, ev_C, ev_1, ev_2, bind2_ok, bind2_ite1, bind2_ite2, bind_ite, ev_A, ev_nil, ev_cons, kCons_ev, ev_T, toB_ev, ev_and, ev_or, ev_not, kAnd_ev, kOr_ev, kNot_ev, ev_andV, ev_orV, ev_notV, kAndV_ev, kOrV_ev, kNotV_ev, ev_ife, kIfE_ev, ev_ch, kCh, tup_ev, lst_ev, call_ev, kw_ev, ev_kw, ev_fn, startE_0, startE_s, startE_c, fin_rt, fin_nx, fin_ex, fin_ite, ix_t0, ix_t1, ix_t2, ix_t3, ix_l0, ix_l1, ix_l2, len_l, len_t1, len_t2, len_t3, len_t4, beq_self_eq_true, ev_iL, ev_iT, asL_ev, asT_ev, ev_iA, ev_P, toI_ev, ev_P0, ev_sl, kSl_ev, put_1, gAdd_i, gSub_i, gMul_i, gDiv_p, gMod_p, gPow_l, gShl_l, gShr_l, gLt_i, gLe_i, gGt_i, gGe_i, gEq_i, gNe_i, gNeg_i, gAbs_i, gInt_i, gInt_b, gEq_s, gNe_s, gEq_b, gNe_b, gEq_2, gNe_2, gEq_3, gNe_3, gEq_22, gNe_22, DL.R.bind_ok, DL.R.bind_ex, ev_setL, kSetL_ev, ev_lDisp, kDisp_ev, ev_lList, lOf_l, lOf_t, ev_frz, frz_l, frz_d, frz_n, ev_lend, lend_l, lend_d, atom_i, atom_b, atom_s, ev_lendB, lendB_l, lendB_d, ev_app, app_l, kApp_ev, ev_put, put_l, ev_ixO, ixO_l, ixO_d, put_m, putAll_c, putAll_n, ev_lc, kLst_ev, ev_lcL, wipe_n, wipe_c, r1_2, r1_3, bits_ev, List.getElem?_cons_zero, List.getElem?_cons_succ, List.set_cons_zero, List.set_cons_succ, List.length_cons, List.length_nil, List.length_map, List.append_nil, List.cons_append, List.nil_append, ev_if, turn_nx, turn_ct, turn_bk, turn_rt, turn_ite, kWh_ev, isi_int_int, isi_bool_int, isi_int_bool, isi_bool_bool, isi_int_str, isi_int_none, isi_int_list, isi_int_tup, isi_bool_str, isi_bool_none, isi_bool_list, isi_bool_tup, isi_tup_tup, isi_tup_int, isi_tup_bool, isi_tup_str, isi_tup_none, isi_tup_list, isi_list_list, isi_list_tup, isi_list_int, isi_list_bool, isi_list_str, isi_list_none, isi_str_str, isi_str_int, isi_str_bool, isi_str_none, isi_str_list, isi_str_tup, decide_true, decide_false, not_true_eq_false, not_false_eq_true, ne_eq, decide_eq_true_eq, Bool.not_eq_true', decide_eq_false_iff_not, Bool.not_true, Bool.not_false, Bool.false_eq_true, if_true, if_false, reduceIte, e0, e1, e2, e3, e4, e5, e6, hA, hB, hN, w3, c0, c1, a0.1, a0.2, low _ _ _ n0 bn0]
      · simp +decide only [m_law_side, den_law_side, ev_seq, seq_nx, seq_rt, seq_ex, seq_bk, seq_ct, seq_ite, fl_ok, fl_ex, fl_ite, ev_set, kSet_ev, ev_ret, ev_retN, ev_nx, ev_bk, ev_ct, ev_raise, ev_if, kIf_ev, ev_drop, kNx_ev, ev_par, kPar_ev, kId_ev, ev_asg, kAsg_ev, ev_for, kFor_ev, ev_V, dVg_ok, ev_C, ev_1, ev_2, bind2_ok, bind2_ite1, bind2_ite2, bind_ite, ev_A, ev_nil, ev_cons, kCons_ev, ev_T, toB_ev, ev_and, ev_or, ev_not, kAnd_ev, kOr_ev, kNot_ev, ev_andV, ev_orV, ev_notV, kAndV_ev, kOrV_ev, kNotV_ev, ev_ife, kIfE_ev, ev_ch, kCh, tup_ev, lst_ev, call_ev, kw_ev, ev_kw, ev_fn, startE_0, startE_s, startE_c, fin_rt, fin_nx, fin_ex, fin_ite, ix_t0, ix_t1, ix_t2, ix_t3, ix_l0, ix_l1, ix_l2, len_l, len_t1, len_t2, len_t3, len_t4, beq_self_eq_true, ev_iL, ev_iT, asL_ev, asT_ev, ev_iA, ev_P, toI_ev, ev_P0, ev_sl, kSl_ev, put_1, gAdd_i, gSub_i, gMul_i, gDiv_p, gMod_p, gPow_l, gShl_l, gShr_l, gLt_i, gLe_i, gGt_i, gGe_i, gEq_i, gNe_i, gNeg_i, gAbs_i, gInt_i, gInt_b, gEq_s, gNe_s, gEq_b, gNe_b, gEq_2, gNe_2, gEq_3, gNe_3, gEq_22, gNe_22, DL.R.bind_ok, DL.R.bind_ex, ev_setL, kSetL_ev, ev_lDisp, kDisp_ev, ev_lList, lOf_l, lOf_t, ev_frz, frz_l, frz_d, frz_n, ev_lend, lend_l, lend_d, atom_i, atom_b, atom_s, ev_lendB, lendB_l, lendB_d, ev_app, app_l, kApp_ev, ev_put, put_l, ev_ixO, ixO_l, ixO_d, put_m, putAll_c, putAll_n, ev_lc, kLst_ev, ev_lcL, wipe_n, wipe_c, r1_2, r1_3, bits_ev, List.getElem?_cons_zero, List.getElem?_cons_succ, List.set_cons_zero, List.set_cons_succ, List.length_cons, List.length_nil, List.length_map, List.append_nil, List.cons_append, List.nil_append, ev_if, turn_nx, turn_ct, turn_bk, turn_rt, turn_ite, kWh_ev, isi_int_int, isi_bool_int, isi_int_bool, isi_bool_bool, isi_int_str, isi_int_none, isi_int_list, isi_int_tup, isi_bool_str, isi_bool_none, isi_bool_list, isi_bool_tup, isi_tup_tup, isi_tup_int, isi_tup_bool, isi_tup_str, isi_tup_none, isi_tup_list, isi_list_list, isi_list_tup, isi_list_int, isi_list_bool, isi_list_str, isi_list_none, isi_str_str, isi_str_int, isi_str_bool, isi_str_none, isi_str_list, isi_str_tup, decide_true, decide_false, not_true_eq_false, not_false_eq_true, ne_eq, decide_eq_true_eq, Bool.not_eq_true', decide_eq_false_iff_not, Bool.not_true, Bool.not_false, Bool.false_eq_true, if_true, if_false, reduceIte, e0, e1, e2, e3, e4, e5, e6, hA, hB, hN, w0, w1, w2, w3, c0, a0.1, a0.2, low _ _ _ n0 bn0]
    · refine ⟨_, _, _, ?_, side_of (a := A) (b := B) n0 (pos_nn q6.1 (by omega) (by omega)) bA bB100 bn0⟩
      have fin : A ≠ 0 ∨ ¬ B ≤ 0 := by omega
      by_cases a1 : A = 0
      · have a2 : ¬ B ≤ 0 := fun z => a0 ⟨a1, z⟩
        by_cases w2 : z2 % 6 = 2
        · simp +decide only [m_law_side, den_law_side, ev_seq, seq_nx, seq_rt, seq_ex, seq_bk, seq_ct, seq_ite, fl_ok, fl_ex, fl_ite, ev_set, kSet_ev, ev_ret, ev_retN, ev_nx, ev_bk, ev_ct, ev_raise, ev_if, kIf_ev, ev_drop, kNx_ev, ev_par, kPar_ev, kId_ev, ev_asg, kAsg_ev, ev_for, kFor_ev, ev_V, dVg_ok, ev_C, ev_1, ev_2, bind2_ok, bind2_ite1, bind2_ite2, bind_ite, ev_A, ev_nil, ev_cons, kCons_ev, ev_T, toB_ev, ev_and, ev_or, ev_not, kAnd_ev, kOr_ev, kNot_ev, ev_andV, ev_orV, ev_notV, kAndV_ev, kOrV_ev, kNotV_ev, ev_ife, kIfE_ev, ev_ch, kCh, tup_ev, lst_ev, call_ev, kw_ev, ev_kw, ev_fn, startE_0, startE_s, startE_c, fin_rt, fin_nx, fin_ex, fin_ite, ix_t0, ix_t1, ix_t2, ix_t3, ix_l0, ix_l1, ix_l2, len_l, len_t1, len_t2, len_t3, len_t4, beq_self_eq_true, ev_iL, ev_iT, asL_ev, asT_ev, ev_iA, ev_P, toI_ev, ev_P0, ev_sl, kSl_ev, put_1, gAdd_i, gSub_i, gMul_i, gDiv_p, gMod_p, gPow_l, gShl_l, gShr_l, gLt_i, gLe_i, gGt_i, gGe_i, gEq_i, gNe_i, gNeg_i, gAbs_i, gInt_i, gInt_b, gEq_s, gNe_s, gEq_b, gNe_b, gEq_2, gNe_2, gEq_3, gNe_3, gEq_22, gNe_22, DL.R.bind_ok, DL.R.bind_ex, ev_setL, kSetL_ev, ev_lDisp, kDisp_ev, ev_lList, lOf_l, lOf_t, ev_frz, frz_l, frz_d, frz_n, ev_lend, lend_l, lend_d, atom_i, atom_b, atom_s, ev_lendB, lendB_l, lendB_d, ev_app, app_l, kApp_ev, ev_put, put_l, ev_ixO, ixO_l, ixO_d, put_m, putAll_c, putAll_n, ev_lc, kLst_ev, ev_lcL, wipe_n, wipe_c, r1_2, r1_3, bits_ev, List.getElem?_cons_zero, List.getElem?_cons_succ, List.set_cons_zero, List.set_cons_succ, List.length_cons, List.length_nil, List.length_map, List.append_nil, List.cons_append, List.nil_append, ev_if, turn_nx, turn_ct, turn_bk, turn_rt, turn_ite, kWh_ev, isi_int_int, isi_bool_int, isi_int_bool, isi_bool_bool, isi_int_str, isi_int_none, isi_int_list, isi_int_tup, isi_bool_str, isi_bool_none, isi_bool_list, isi_bool_tup, isi_tup_tup, isi_tup_int, isi_tup_bool, isi_tup_str, isi_tup_none, isi_tup_list, isi_list_list, isi_list_tup, isi_list_int, isi_list_bool, isi_list_str, isi_list_none, isi_str_str, isi_str_int, isi_str_bool, isi_str_none, isi_str_list, isi_str_tup, decide_true, decide_false, not_true_eq_false, not_false_eq_true, ne_eq, decide_eq_true_eq, Bool.not_eq_true', decide_eq_false_iff_not, Bool.not_true, Bool.not_false, Bool.false_eq_true, if_true, if_false, reduceIte, e0, e1, e2, e3, e4, e5, e6, hA, hB, hN, w2, c0, a1, a2, low _ _ _ n0 bn0]
        by_cases w3 : z2 % 6 = 3
        · have c1 := w3' w3
          simp +decide only [m_law_side, den_law_side, ev_seq, seq_nx, seq_rt, seq_ex, seq_bk, seq_ct, seq_ite, fl_ok, fl_ex, fl_ite, ev_set, kSet_ev, ev_ret, ev_retN, ev_nx, ev_bk, ev_ct, ev_raise, ev_if, kIf_ev, ev_drop, kNx_ev, ev_par, kPar_ev, kId_ev, ev_asg, kAsg_ev, ev_for, kFor_ev, ev_V, dVg_ok, ev_C, ev_1, ev_2, bind2_ok, bind2_ite1, bind2_ite2, bind_ite, ev_A, ev_nil, ev_cons, kCons_ev, ev_T, toB_ev, ev_and, ev_or, ev_not, kAnd_ev, kOr_ev, kNot_ev, ev_andV, ev_orV, ev_notV, kAndV_ev, kOrV_ev, kNotV_ev, ev_ife, kIfE_ev, ev_ch, kCh, tup_ev, lst_ev, call_ev, kw_ev, ev_kw, ev_fn, startE_0, startE_s, startE_c, fin_rt, fin_nx, fin_ex, fin_ite, ix_t0, ix_t1, ix_t2, ix_t3, ix_l0, ix_l1, ix_l2, len_l, len_t1, len_t2, len_t3, len_t4, beq_self_eq_true, ev_iL, ev_iT, asL_ev, asT_ev, ev_iA, ev_P, toI_ev, ev_P0, ev_sl, kSl_ev, put_1, gAdd_i, gSub_i, gMul_i, gDiv_p, gMod_p, gPow_l, gShl_l, gShr_l, gLt_i, gLe_i, gGt_i, gGe_i, gEq_i, gNe_i, gNeg_i, gAbs_i, gInt_i, gInt_b, gEq_s, gNe_s, gEq_b, gNe_b, gEq_2, gNe_2, gEq_3, gNe_3, gEq_22, gNe_22, DL.R.bind_ok, DL.R.bind_ex, ev_setL, kSetL_ev, ev_lDisp, kDisp_ev, ev_lList, lOf_l, lOf_t, ev_frz, frz_l, frz_d, frz_n, ev_lend, lend_l, lend_d, atom_i, atom_b, atom_s, ev_lendB, lendB_l, lendB_d, ev_app, app_l, kApp_ev, ev_put, put_l, ev_ixO, ixO_l, ixO_d, put_m, putAll_c, putAll_n, ev_lc, kLst_ev, ev_lcL, wipe_n, wipe_c, r1_2, r1_3, bits_ev, List.getElem?_cons_zero, List.getElem?_cons_succ, List.set_cons_zero, List.set_cons_succ, List.length_cons, List.length_nil, List.length_map, List.append_nil, List.cons_append, List.nil_append, ev_if, turn_nx, turn_ct, turn_bk, turn_rt, turn_ite, kWh_ev, isi_int_int, isi_bool_int, isi_int_bool, isi_bool_bool, isi_int_str, isi_int_none, isi_int_list, isi_int_tup, isi_bool_str, isi_bool_none, isi_bool_list, isi_bool_tup, isi_tup_tup, isi_tup_int, isi_tup_bool, isi_tup_str, isi_tup_none, isi_tup_list, isi_list_list, isi_list_tup, isi_list_int, isi_list_bool, isi_list_str, isi_list_none, isi_str_str, isi_str_int, isi_str_bool, isi_str_none, isi_str_list, isi_str_tup, decide_true, decide_false, not_true_eq_false, not_false_eq_true, ne_eq, decide_eq_true_eq, Bool.not_eq_true', decide_eq_false_iff_not, Bool.not_true, Bool.not_false, Bool.false_eq_true, if_true, if_false, reduceIte, e0, e1, e2, e3, e4, e5, e6, hA, hB, hN, w3, c0, c1, a1, a2, low _ _ _ n0 bn0]
        · simp +decide only [m_law_side, den_law_side, ev_seq, seq_nx, seq_rt, seq_ex, seq_bk, seq_ct, seq_ite, fl_ok, fl_ex, fl_ite, ev_set, kSet_ev, ev_ret, ev_retN, ev_nx, ev_bk, ev_ct, ev_raise, ev_if, kIf_ev, ev_drop, kNx_ev, ev_par, kPar_ev, kId_ev, ev_asg, kAsg_ev, ev_for, kFor_ev, ev_V, dVg_ok, ev_C, ev_1, ev_2, bind2_ok, bind2_ite1, bind2_ite2, bind_ite, ev_A, ev_nil, ev_cons, kCons_ev, ev_T, toB_ev, ev_and, ev_or, ev_not, kAnd_ev, kOr_ev, kNot_ev, ev_andV, ev_orV, ev_notV, kAndV_ev, kOrV_ev, kNotV_ev, ev_ife, kIfE_ev, ev_ch, kCh, tup_ev, lst_ev, call_ev, kw_ev, ev_kw, ev_fn, startE_0, startE_s, startE_c, fin_rt, fin_nx, fin_ex, fin_ite, ix_t0, ix_t1, ix_t2, ix_t3, ix_l0, ix_l1, ix_l2, len_l, len_t1, len_t2, len_t3, len_t4, beq_self_eq_true, ev_iL, ev_iT, asL_ev, asT_ev, ev_iA, ev_P, toI_ev, ev_P0, ev_sl, kSl_ev, put_1, gAdd_i, gSub_i, gMul_i, gDiv_p, gMod_p, gPow_l, gShl_l, gShr_l, gLt_i, gLe_i, gGt_i, gGe_i, gEq_i, gNe_i, gNeg_i, gAbs_i, gInt_i, gInt_b, gEq_s, gNe_s, gEq_b, gNe_b, gEq_2, gNe_2, gEq_3, gNe_3, gEq_22, gNe_22, DL.R.bind_ok, DL.R.bind_ex, ev_setL, kSetL_ev, ev_lDisp, kDisp_ev, ev_lList, lOf_l, lOf_t, ev_frz, frz_l, frz_d, frz_n, ev_lend, lend_l, lend_d, atom_i, atom_b, atom_s, ev_lendB, lendB_l, lendB_d, ev_app, app_l, kApp_ev, ev_put, put_l, ev_ixO, ixO_l, ixO_d, put_m, putAll_c, putAll_n, ev_lc, kLst_ev, ev_lcL, wipe_n, wipe_c, r1_2, r1_3, bits_ev, List.getElem?_cons_zero, List.getElem?_cons_succ, List.set_cons_zero, List.set_cons_succ, List.length_cons, List.length_nil, List.length_map, List.append_nil, List.cons_append, List.nil_append, ev_if, turn_nx, turn_ct, turn_bk, turn_rt, turn_ite, kWh_ev, isi_int_int, isi_bool_int, isi_int_bool, isi_bool_bool, isi_int_str, isi_int_none, isi_int_list, isi_int_tup, isi_bool_str, isi_bool_none, isi_bool_list, isi_bool_tup, isi_tup_tup, isi_tup_int, isi_tup_bool, isi_tup_str, isi_tup_none, isi_tup_list, isi_list_list, isi_list_tup, isi_list_int, isi_list_bool, isi_list_str, isi_list_none, isi_str_str, isi_str_int, isi_str_bool, isi_str_none, isi_str_list, isi_str_tup, decide_true, decide_false, not_true_eq_false, not_false_eq_true, ne_eq, decide_eq_true_eq, Bool.not_eq_true', decide_eq_false_iff_not, Bool.not_true, Bool.not_false, Bool.false_eq_true, if_true, if_false, reduceIte, e0, e1, e2, e3, e4, e5, e6, hA, hB, hN, w0, w1, w2, w3, c0, a1, a2, low _ _ _ n0 bn0]
      · by_cases w2 : z2 % 6 = 2
        · simp +decide only [m_law_side, den_law_side, ev_seq, seq_nx, seq_rt, seq_ex, seq_bk, seq_ct, seq_ite, fl_ok, fl_ex, fl_ite, ev_set, kSet_ev, ev_ret, ev_retN, ev_nx, ev_bk, ev_ct, ev_raise, ev_if, kIf_ev, ev_drop, kNx_ev, ev_par, kPar_ev, kId_ev, ev_asg, kAsg_ev, ev_for, kFor_ev, ev_V, dVg_ok, ev_C, ev_1, ev_2, bind2_ok, bind2_ite1, bind2_ite2, bind_ite, ev_A, ev_nil, ev_cons, kCons_ev, ev_T, toB_ev, ev_and, ev_or, ev_not, kAnd_ev, kOr_ev, kNot_ev, ev_andV, ev_orV, ev_notV, kAndV_ev, kOrV_ev, kNotV_ev, ev_ife, kIfE_ev, ev_ch, kCh, tup_ev, lst_ev, call_ev, kw_ev, ev_kw, ev_fn, startE_0, startE_s, startE_c, fin_rt, fin_nx, fin_ex, fin_ite, ix_t0, ix_t1, ix_t2, ix_t3, ix_l0, ix_l1, ix_l2, len_l, len_t1, len_t2, len_t3, len_t4, beq_self_eq_true, ev_iL, ev_iT, asL_ev, asT_ev, ev_iA, ev_P, toI_ev, ev_P0, ev_sl, kSl_ev, put_1, gAdd_i, gSub_i, gMul_i, gDiv_p, gMod_p, gPow_l, gShl_l, gShr_l, gLt_i, gLe_i, gGt_i, gGe_i, gEq_i, gNe_i, gNeg_i, gAbs_i, gInt_i, gInt_b, gEq_s, gNe_s, gEq_b, gNe_b, gEq_2, gNe_2, gEq_3, gNe_3, gEq_22, gNe_22, DL.R.bind_ok, DL.R.bind_ex, ev_setL, kSetL_ev, ev_lDisp, kDisp_ev, ev_lList, lOf_l, lOf_t, ev_frz, frz_l, frz_d, frz_n, ev_lend, lend_l, lend_d, atom_i, atom_b, atom_s, ev_lendB, lendB_l, lendB_d, ev_app, app_l, kApp_ev, ev_put, put_l, ev_ixO, ixO_l, ixO_d, put_m, putAll_c, putAll_n, ev_lc, kLst_ev, ev_lcL, wipe_n, wipe_c, r1_2, r1_3, bits_ev, List.getElem?_cons_zero, List.getElem?_cons_succ, List.set_cons_zero, List.set_cons_succ, List.length_cons, List.length_nil, List.length_map, List.append_nil, List.cons_append, List.nil_append, ev_if, turn_nx, turn_ct, turn_bk, turn_rt, turn_ite, kWh_ev, isi_int_int, isi_bool_int, isi_int_bool, isi_bool_bool, isi_int_str, isi_int_none, isi_int_list, isi_int_tup, isi_bool_str, isi_bool_none, isi_bool_list, isi_bool_tup, isi_tup_tup, isi_tup_int, isi_tup_bool, isi_tup_str, isi_tup_none, isi_tup_list, isi_list_list, isi_list_tup, isi_list_int, isi_list_bool, isi_list_str, isi_list_none, isi_str_str, isi_str_int, isi_str_bool, isi_str_none, isi_str_list, isi_str_tup, decide_true, decide_false, not_true_eq_false, not_false_eq_true, ne_eq, decide_eq_true_eq, Bool.not_eq_true', decide_eq_false_iff_not, Bool.not_true, Bool.not_false, Bool.false_eq_true, if_true, if_false, reduceIte, e0, e1, e2, e3, e4, e5, e6, hA, hB, hN, w2, c0, a1, low _ _ _ n0 bn0]
        by_cases w3 : z2 % 6 = 3
        · have c1 := w3' w3
          simp +decide only [m_law_side, den_law_side, ev_seq, seq_nx, seq_rt, seq_ex, seq_bk, seq_ct, seq_ite, fl_ok, fl_ex, fl_ite, ev_set, kSet_ev, ev_ret, ev_retN, ev_nx, ev_bk, ev_ct, ev_raise, ev_if, kIf_ev, ev_drop, kNx_ev, ev_par, kPar_ev, kId_ev, ev_asg, kAsg_ev, ev_for, kFor_ev, ev_V, dVg_ok, ev_C, ev_1, ev_2, bind2_ok, bind2_ite1, bind2_ite2, bind_ite, ev_A, ev_nil, ev_cons, kCons_ev, ev_T, toB_ev, ev_and, ev_or, ev_not, kAnd_ev, kOr_ev, kNot_ev, ev_andV, ev_orV, ev_notV, kAndV_ev, kOrV_ev, kNotV_ev, ev_ife, kIfE_ev, ev_ch, kCh, tup_ev, lst_ev, call_ev, kw_ev, ev_kw, ev_fn, startE_0, startE_s, startE_c, fin_rt, fin_nx, fin_ex, fin_ite, ix_t0, ix_t1, ix_t2, ix_t3, ix_l0, ix_l1, ix_l2, len_l, len_t1, len_t2, len_t3, len_t4, beq_self_eq_true, ev_iL, ev_iT, asL_ev, asT_ev, ev_iA, ev_P, toI_ev, ev_P0, ev_sl, kSl_ev, put_1, gAdd_i, gSub_i, gMul_i, gDiv_p, gMod_p, gPow_l, gShl_l, gShr_l, gLt_i, gLe_i, gGt_i, gGe_i, gEq_i, gNe_i, gNeg_i, gAbs_i, gInt_i, gInt_b, gEq_s, gNe_s, gEq_b, gNe_b, gEq_2, gNe_2, gEq_3, gNe_3, gEq_22, gNe_22, DL.R.bind_ok, DL.R.bind_ex, ev_setL, kSetL_ev, ev_lDisp, kDisp_ev, ev_lList, lOf_l, lOf_t, ev_frz, frz_l, frz_d, frz_n, ev_lend, lend_l, lend_d, atom_i, atom_b, atom_s, ev_lendB, lendB_l, lendB_d, ev_app, app_l, kApp_ev, ev_put, put_l, ev_ixO, ixO_l, ixO_d, put_m, putAll_c, putAll_n, ev_lc, kLst_ev, ev_lcL, wipe_n, wipe_c, r1_2, r1_3, bits_ev, List.getElem?_cons_zero, List.getElem?_cons_succ, List.set_cons_zero, List.set_cons_succ, List.length_cons, List.length_nil, List.length_map, List.append_nil, List.cons_append, List.nil_append, ev_if, turn_nx, turn_ct, turn_bk, turn_rt, turn_ite, kWh_ev, isi_int_int, isi_bool_int, isi_int_bool, isi_bool_bool, isi_int_str, isi_int_none, isi_int_list, isi_int_tup, isi_bool_str, isi_bool_none, isi_bool_list, isi_bool_tup, isi_tup_tup, isi_tup_int, isi_tup_bool, isi_tup_str, isi_tup_none, isi_tup_list, isi_list_list, isi_list_tup, isi_list_int, isi_list_bool, isi_list_str, isi_list_none, isi_str_str, isi_str_int, isi_str_bool, isi_str_none, isi_str_list, isi_str_tup, decide_true, decide_false, not_true_eq_false, not_false_eq_true, ne_eq, decide_eq_true_eq, Bool.not_eq_true', decide_eq_false_iff_not, Bool.not_true, Bool.not_false, Bool.false_eq_true, if_true, if_false, reduceIte, e0, e1, e2, e3, e4, e5, e6, hA, hB, hN, w3, c0, c1, a1, low _ _ _ n0 bn0]
        · simp +decide only [m_law_side, den_law_side, ev_seq, seq_nx, seq_rt, seq_ex, seq_bk, seq_ct, seq_ite, fl_ok, fl_ex, fl_ite, ev_set, kSet_ev, ev_ret, ev_retN, ev_nx, ev_bk, ev_ct, ev_raise, ev_if, kIf_ev, ev_drop, kNx_ev, ev_par, kPar_ev, kId_ev, ev_asg, kAsg_ev, ev_for, kFor_ev, ev_V, dVg_ok, ev_C, ev_1, ev_2, bind2_ok, bind2_ite1, bind2_ite2, bind_ite, ev_A, ev_nil, ev_cons, kCons_ev, ev_T, toB_ev, ev_and, ev_or, ev_not, kAnd_ev, kOr_ev, kNot_ev, ev_andV, ev_orV, ev_notV, kAndV_ev, kOrV_ev, kNotV_ev, ev_ife, kIfE_ev, ev_ch, kCh, tup_ev, lst_ev, call_ev, kw_ev, ev_kw, ev_fn, startE_0, startE_s, startE_c, fin_rt, fin_nx, fin_ex, fin_ite, ix_t0, ix_t1, ix_t2, ix_t3, ix_l0, ix_l1, ix_l2, len_l, len_t1, len_t2, len_t3, len_t4, beq_self_eq_true, ev_iL, ev_iT, asL_ev, asT_ev, ev_iA, ev_P, toI_ev, ev_P0, ev_sl, kSl_ev, put_1, gAdd_i, gSub_i, gMul_i, gDiv_p, gMod_p, gPow_l, gShl_l, gShr_l, gLt_i, gLe_i, gGt_i, gGe_i, gEq_i, gNe_i, gNeg_i, gAbs_i, gInt_i, gInt_b, gEq_s, gNe_s, gEq_b, gNe_b, gEq_2, gNe_2, gEq_3, gNe_3, gEq_22, gNe_22, DL.R.bind_ok, DL.R.bind_ex, ev_setL, kSetL_ev, ev_lDisp, kDisp_ev, ev_lList, lOf_l, lOf_t, ev_frz, frz_l, frz_d, frz_n, ev_lend, lend_l, lend_d, atom_i, atom_b, atom_s, ev_lendB, lendB_l, lendB_d, ev_app, app_l, kApp_ev, ev_put, put_l, ev_ixO, ixO_l, ixO_d, put_m, putAll_c, putAll_n, ev_lc, kLst_ev, ev_lcL, wipe_n, wipe_c, r1_2, r1_3, bits_ev, List.getElem?_cons_zero, List.getElem?_cons_succ, List.set_cons_zero, List.set_cons_succ, List.length_cons, List.length_nil, List.length_map, List.append_nil, List.cons_append, List.nil_append, ev_if, turn_nx, turn_ct, turn_bk, turn_rt, turn_ite, kWh_ev, isi_int_int, isi_bool_int, isi_int_bool, isi_bool_bool, isi_int_str, isi_int_none, isi_int_list, isi_int_tup, isi_bool_str, isi_bool_none, isi_bool_list, isi_bool_tup, isi_tup_tup, isi_tup_int, isi_tup_bool, isi_tup_str, isi_tup_none, isi_tup_list, isi_list_list, isi_list_tup, isi_list_int, isi_list_bool, isi_list_str, isi_list_none, isi_str_str, isi_str_int, isi_str_bool, isi_str_none, isi_str_list, isi_str_tup, decide_true, decide_false, not_true_eq_false, not_false_eq_true, ne_eq, decide_eq_true_eq, Bool.not_eq_true', decide_eq_false_iff_not, Bool.not_true, Bool.not_false, Bool.false_eq_true, if_true, if_false, reduceIte, e0, e1, e2, e3, e4, e5, e6, hA, hB, hN, w0, w1, w2, w3, c0, a1, low _ _ _ n0 bn0]
  by_cases c0 : B < 0
  · by_cases w2 : z2 % 6 = 2
    · obtain ⟨a', p1, p2, p3, el⟩ := side_loop (.int c) (.int k) d B N (.int 2) (by omega) hd2 ⟨q1.1, c0⟩ _ 1 (Nat.le_refl _) (by decide) (by decide)
      have ba' : Bd a' 100 := ⟨by
        have e : (2 : Nat) ^ 100 = 1267650600228229401496703205376 := by decide
        omega⟩
      have c2 : a' ≠ 0 := by omega
      refine ⟨_, _, _, ?_, side_of (a := a') (b := B) n0 (pos_loop hd (by omega) c0 p3) ba' bB100 bn0⟩
      simp +decide only [m_law_side, den_law_side, ev_seq, seq_nx, seq_rt, seq_ex, seq_bk, seq_ct, seq_ite, fl_ok, fl_ex, fl_ite, ev_set, kSet_ev, ev_ret, ev_retN, ev_nx, ev_bk, ev_ct, ev_raise, ev_if, kIf_ev, ev_drop, kNx_ev, ev_par, kPar_ev, kId_ev, ev_asg, kAsg_ev, ev_for, kFor_ev, ev_V, dVg_ok, ev_C, ev_1, ev_2, bind2_ok, bind2_ite1, bind2_ite2, bind_ite, ev_A, ev_nil, ev_cons, kCons_ev, ev_T, toB_ev, ev_and, ev_or, ev_not, kAnd_ev, kOr_ev, kNot_ev, ev_andV, ev_orV, ev_notV, kAndV_ev, kOrV_ev, kNotV_ev, ev_ife, kIfE_ev, ev_ch, kCh, tup_ev, lst_ev, call_ev, kw_ev, ev_kw, ev_fn, startE_0, startE_s, startE_c, fin_rt, fin_nx, fin_ex, fin_ite, ix_t0, ix_t1, ix_t2, ix_t3, ix_l0, ix_l1, ix_l2, len_l, len_t1, len_t2, len_t3, len_t4, beq_self_eq_true, ev_iL, ev_iT, asL_ev, asT_ev, ev_iA, ev_P, toI_ev, ev_P0, ev_sl, kSl_ev, put_1, gAdd_i, gSub_i, gMul_i, gDiv_p, gMod_p, gPow_l, gShl_l, gShr_l, gLt_i, gLe_i, gGt_i, gGe_i, gEq_i, gNe_i, gNeg_i, gAbs_i, gInt_i, gInt_b, gEq_s, gNe_s, gEq_b, gNe_b, gEq_2, gNe_2, gEq_3, gNe_3, gEq_22, gNe_22, DL.R.bind_ok, DL.R.bind_ex, ev_setL, kSetL_ev, ev_lDisp, kDisp_ev, ev_lList, lOf_l, lOf_t, ev_frz, frz_l, frz_d, frz_n, ev_lend, lend_l, lend_d, atom_i, atom_b, atom_s, ev_lendB, lendB_l, lendB_d, ev_app, app_l, kApp_ev, ev_put, put_l, ev_ixO, ixO_l, ixO_d, put_m, putAll_c, putAll_n, ev_lc, kLst_ev, ev_lcL, wipe_n, wipe_c, r1_2, r1_3, bits_ev, List.getElem?_cons_zero, List.getElem?_cons_succ, List.set_cons_zero, List.set_cons_succ, List.length_cons, List.length_nil, List.length_map, List.append_nil, List.cons_append, List.nil_append, ev_if, turn_nx, turn_ct, turn_bk, turn_rt, turn_ite, kWh_ev, isi_int_int, isi_bool_int, isi_int_bool, isi_bool_bool, isi_int_str, isi_int_none, isi_int_list, isi_int_tup, isi_bool_str, isi_bool_none, isi_bool_list, isi_bool_tup, isi_tup_tup, isi_tup_int, isi_tup_bool, isi_tup_str, isi_tup_none, isi_tup_list, isi_list_list, isi_list_tup, isi_list_int, isi_list_bool, isi_list_str, isi_list_none, isi_str_str, isi_str_int, isi_str_bool, isi_str_none, isi_str_list, isi_str_tup, decide_true, decide_false, not_true_eq_false, not_false_eq_true, ne_eq, decide_eq_true_eq, Bool.not_eq_true', decide_eq_false_iff_not, Bool.not_true, Bool.not_false, Bool.false_eq_true, if_true, if_false, reduceIte, e0, e1, e2, e3, e4, e5, e6, hA, hB, hN, w2, c0, el, c2, low _ _ _ n0 bn0]
    · exact neg c0 w2
  · by_cases w3 : z2 % 6 = 3
    · by_cases c1 : 0 < B
      · have c2 : 0 - B ≠ 0 := by omega
        have bm : Bd (0 - B) 100 := by rw [Int.zero_sub]; infer_instance
        refine ⟨_, _, _, ?_, side_of (a := 0 - B) (b := B) n0 (pos_three d2 c1) bm bB100 bn0⟩
        simp +decide only [m_law_side, den_law_side, ev_seq, seq_nx, seq_rt, seq_ex, seq_bk, seq_ct, seq_ite, fl_ok, fl_ex, fl_ite, ev_set, kSet_ev, ev_ret, ev_retN, ev_nx, ev_bk, ev_ct, ev_raise, ev_if, kIf_ev, ev_drop, kNx_ev, ev_par, kPar_ev, kId_ev, ev_asg, kAsg_ev, ev_for, kFor_ev, ev_V, dVg_ok, ev_C, ev_1, ev_2, bind2_ok, bind2_ite1, bind2_ite2, bind_ite, ev_A, ev_nil, ev_cons, kCons_ev, ev_T, toB_ev, ev_and, ev_or, ev_not, kAnd_ev, kOr_ev, kNot_ev, ev_andV, ev_orV, ev_notV, kAndV_ev, kOrV_ev, kNotV_ev, ev_ife, kIfE_ev, ev_ch, kCh, tup_ev, lst_ev, call_ev, kw_ev, ev_kw, ev_fn, startE_0, startE_s, startE_c, fin_rt, fin_nx, fin_ex, fin_ite, ix_t0, ix_t1, ix_t2, ix_t3, ix_l0, ix_l1, ix_l2, len_l, len_t1, len_t2, len_t3, len_t4, beq_self_eq_true, ev_iL, ev_iT, asL_ev, asT_ev, ev_iA, ev_P, toI_ev, ev_P0, ev_sl, kSl_ev, put_1, gAdd_i, gSub_i, gMul_i, gDiv_p, gMod_p, gPow_l, gShl_l, gShr_l, gLt_i, gLe_i, gGt_i, gGe_i, gEq_i, gNe_i, gNeg_i, gAbs_i, gInt_i, gInt_b, gEq_s, gNe_s, gEq_b, gNe_b, gEq_2, gNe_2, gEq_3, gNe_3, gEq_22, gNe_22, DL.R.bind_ok, DL.R.bind_ex, ev_setL, kSetL_ev, ev_lDisp, kDisp_ev, ev_lList, lOf_l, lOf_t, ev_frz, frz_l, frz_d, frz_n, ev_lend, lend_l, lend_d, atom_i, atom_b, atom_s, ev_lendB, lendB_l, lendB_d, ev_app, app_l, kApp_ev, ev_put, put_l, ev_ixO, ixO_l, ixO_d, put_m, putAll_c, putAll_n, ev_lc, kLst_ev, ev_lcL, wipe_n, wipe_c, r1_2, r1_3, bits_ev, List.getElem?_cons_zero, List.getElem?_cons_succ, List.set_cons_zero, List.set_cons_succ, List.length_cons, List.length_nil, List.length_map, List.append_nil, List.cons_append, List.nil_append, ev_if, turn_nx, turn_ct, turn_bk, turn_rt, turn_ite, kWh_ev, isi_int_int, isi_bool_int, isi_int_bool, isi_bool_bool, isi_int_str, isi_int_none, isi_int_list, isi_int_tup, isi_bool_str, isi_bool_none, isi_bool_list, isi_bool_tup, isi_tup_tup, isi_tup_int, isi_tup_bool, isi_tup_str, isi_tup_none, isi_tup_list, isi_list_list, isi_list_tup, isi_list_int, isi_list_bool, isi_list_str, isi_list_none, isi_str_str, isi_str_int, isi_str_bool, isi_str_none, isi_str_list, isi_str_tup, decide_true, decide_false, not_true_eq_false, not_false_eq_true, ne_eq, decide_eq_true_eq, Bool.not_eq_true', decide_eq_false_iff_not, Bool.not_true, Bool.not_false, Bool.false_eq_true, if_true, if_false, reduceIte, e0, e1, e2, e3, e4, e5, e6, hA, hB, hN, w3, c0, c1, c2, low _ _ _ n0 bn0]
      · exact plain c0 fun _ => c1
    · exact plain c0 fun w => absurd w w3
theorem intsOf_map : ∀ zs : List Int, intsOf (zs.map PyData.int) = some zs
  | [] => rfl
  | z :: zs => by
    show (intsOf (zs.map PyData.int)).map (z :: ·) = some (z :: zs)
    rw [intsOf_map zs]
    rfl
theorem sum_ints (zs : List Int) : gSum [.list (zs.map PyData.int)] = .ok (.int zs.sum) := by
  have : gSum [.list (zs.map PyData.int)] = (match intsOf (zs.map PyData.int) with
    | some ns => R.ok (.int ns.sum)
    | none => .no) := rfl
  rw [this, intsOf_map]
theorem gIx_mem {ds : List PD} {j : Int} (h0 : 0 ≤ j) (h1 : j < ds.length) : ∃ d, gIx (.list ds) (.int j) = .ok d ∧ d ∈ ds := by
  obtain ⟨n, rfl⟩ := Int.eq_ofNat_of_zero_le h0
  have hn : n < ds.length := by omega
  exact ⟨ds[n], ix_l (List.getElem?_eq_getElem hn), List.getElem_mem hn⟩
end DL

set_option Elab.async false
set_option linter.all false
set_option maxRecDepth 100000
set_option maxHeartbeats 1000000
set_option autoImplicit false
namespace DL
open PySem L2 MB
theorem side_loop_v2 (s0 s1 : PD) (d b n : Int) (w : PD) (hd : 0 < d) (hd2 : d ≤ 99) (hb : -9 ≤ b ∧ b < 0) [Bd d 7] : ∀ (k : Nat) (a : Int), (100 - a).toNat ≤ k → 1 ≤ a → a ≤ 100 → ∃ a' : Int, 1 ≤ a' ∧ a' ≤ 101 ∧ d * b * b ≤ a' * a' ∧
    sWhile lt1_law_side_v2 lb1_law_side_v2 [some (.d s0), some (.d s1), some (.d (.int d)), some (.d (.int n)), some (.d (.int b)), some (.d w), some (.d (.int a))] = .nx [some (.d s0), some (.d s1), some (.d (.int d)), some (.d (.int n)), some (.d (.int b)), some (.d w), some (.d (.int a'))] := by
  have bb : Bd b 7 := ⟨by omega⟩
  have hdb : d * b * b ≤ 99 * 81 := by
    have h1 : b * b ≤ 81 := by
      have := Int.mul_self_le_mul_self (by omega : 0 ≤ -b) (by omega : -b ≤ 9)
      have e : -b * -b = b * b := by grind
      omega
    have h2 : 0 ≤ b * b := by
      have := Int.mul_nonneg (by omega : 0 ≤ -b) (by omega : 0 ≤ -b)
      have e : -b * -b = b * b := by grind
      omega
    have h3 := Int.mul_le_mul_of_nonneg_right hd2 h2
    have e : d * b * b = d * (b * b) := Int.mul_assoc _ _ _
    omega
  intro k
  induction k with
  | zero =>
    intro a h0 h1 h2
    have : a = 100 := by omega
    subst this
    refine ⟨100, by decide, by decide, by omega, ?_⟩
    have hc : ¬ 100 * 100 < d * b * b := by omega
    rw [ev_while]
    simp +decide only [lt1_law_side_v2, ev_seq, seq_nx, seq_rt, seq_ex, seq_bk, seq_ct, seq_ite, fl_ok, fl_ex, fl_ite, ev_set, kSet_ev, ev_ret, ev_retN, ev_nx, ev_bk, ev_ct, ev_raise, ev_if, kIf_ev, ev_drop, kNx_ev, ev_par, kPar_ev, kId_ev, ev_asg, kAsg_ev, ev_for, kFor_ev, ev_V, dVg_ok, ev_C, ev_1, ev_2, bind2_ok, bind2_ite1, bind2_ite2, bind_ite, ev_A, ev_nil, ev_cons, kCons_ev, ev_T, toB_ev, ev_and, ev_or, ev_not, kAnd_ev, kOr_ev, kNot_ev, ev_andV, ev_orV, ev_notV, kAndV_ev, kOrV_ev, kNotV_ev, ev_ife, kIfE_ev, ev_ch, kCh, tup_ev, lst_ev, call_ev, kw_ev, ev_kw, ev_fn, startE_0, startE_s, startE_c, fin_rt, fin_nx, fin_ex, fin_ite, ix_t0, ix_t1, ix_t2, ix_t3, ix_l0, ix_l1, ix_l2, len_l, len_t1, len_t2, len_t3, len_t4, beq_self_eq_true, ev_iL, ev_iT, asL_ev, asT_ev, ev_iA, ev_P, toI_ev, ev_P0, ev_sl, kSl_ev, put_1, gAdd_i, gSub_i, gMul_i, gDiv_p, gMod_p, gPow_l, gShl_l, gShr_l, gLt_i, gLe_i, gGt_i, gGe_i, gEq_i, gNe_i, gNeg_i, gAbs_i, gInt_i, gInt_b, gEq_s, gNe_s, gEq_b, gNe_b, gEq_2, gNe_2, gEq_3, gNe_3, gEq_22, gNe_22, DL.R.bind_ok, DL.R.bind_ex, ev_setL, kSetL_ev, ev_lDisp, kDisp_ev, ev_lList, lOf_l, lOf_t, ev_frz, frz_l, frz_d, frz_n, ev_lend, lend_l, lend_d, atom_i, atom_b, atom_s, ev_lendB, lendB_l, lendB_d, ev_app, app_l, kApp_ev, ev_put, put_l, ev_ixO, ixO_l, ixO_d, put_m, putAll_c, putAll_n, ev_lc, kLst_ev, ev_lcL, wipe_n, wipe_c, r1_2, r1_3, bits_ev, List.getElem?_cons_zero, List.getElem?_cons_succ, List.set_cons_zero, List.set_cons_succ, List.length_cons, List.length_nil, List.length_map, List.append_nil, List.cons_append, List.nil_append, ev_if, turn_nx, turn_ct, turn_bk, turn_rt, turn_ite, kWh_ev, isi_int_int, isi_bool_int, isi_int_bool, isi_bool_bool, isi_int_str, isi_int_none, isi_int_list, isi_int_tup, isi_bool_str, isi_bool_none, isi_bool_list, isi_bool_tup, isi_tup_tup, isi_tup_int, isi_tup_bool, isi_tup_str, isi_tup_none, isi_tup_list, isi_list_list, isi_list_tup, isi_list_int, isi_list_bool, isi_list_str, isi_list_none, isi_str_str, isi_str_int, isi_str_bool, isi_str_none, isi_str_list, isi_str_tup, decide_true, decide_false, not_true_eq_false, not_false_eq_true, ne_eq, decide_eq_true_eq, Bool.not_eq_true', decide_eq_false_iff_not, Bool.not_true, Bool.not_false, Bool.false_eq_true, if_true, if_false, reduceIte, hc]
  | succ k ih =>
    intro a h0 h1 h2
    have ba : Bd a 7 := ⟨by omega⟩
    rw [ev_while]
    by_cases hc : a * a < d * b * b
    · have : a < 100 := by
        rcases Int.lt_or_le a 100 with w | w
        · exact w
        · have := Int.mul_self_le_mul_self (by decide : (0:Int) ≤ 100) w; omega
      obtain ⟨a', q1, q2, q3, e⟩ := ih (a + 1) (by omega) (by omega) (by omega)
      refine ⟨a', q1, q2, q3, ?_⟩
      simp +decide only [lt1_law_side_v2, lb1_law_side_v2, ev_seq, seq_nx, seq_rt, seq_ex, seq_bk, seq_ct, seq_ite, fl_ok, fl_ex, fl_ite, ev_set, kSet_ev, ev_ret, ev_retN, ev_nx, ev_bk, ev_ct, ev_raise, ev_if, kIf_ev, ev_drop, kNx_ev, ev_par, kPar_ev, kId_ev, ev_asg, kAsg_ev, ev_for, kFor_ev, ev_V, dVg_ok, ev_C, ev_1, ev_2, bind2_ok, bind2_ite1, bind2_ite2, bind_ite, ev_A, ev_nil, ev_cons, kCons_ev, ev_T, toB_ev, ev_and, ev_or, ev_not, kAnd_ev, kOr_ev, kNot_ev, ev_andV, ev_orV, ev_notV, kAndV_ev, kOrV_ev, kNotV_ev, ev_ife, kIfE_ev, ev_ch, kCh, tup_ev, lst_ev, call_ev, kw_ev, ev_kw, ev_fn, startE_0, startE_s, startE_c, fin_rt, fin_nx, fin_ex, fin_ite, ix_t0, ix_t1, ix_t2, ix_t3, ix_l0, ix_l1, ix_l2, len_l, len_t1, len_t2, len_t3, len_t4, beq_self_eq_true, ev_iL, ev_iT, asL_ev, asT_ev, ev_iA, ev_P, toI_ev, ev_P0, ev_sl, kSl_ev, put_1, gAdd_i, gSub_i, gMul_i, gDiv_p, gMod_p, gPow_l, gShl_l, gShr_l, gLt_i, gLe_i, gGt_i, gGe_i, gEq_i, gNe_i, gNeg_i, gAbs_i, gInt_i, gInt_b, gEq_s, gNe_s, gEq_b, gNe_b, gEq_2, gNe_2, gEq_3, gNe_3, gEq_22, gNe_22, DL.R.bind_ok, DL.R.bind_ex, ev_setL, kSetL_ev, ev_lDisp, kDisp_ev, ev_lList, lOf_l, lOf_t, ev_frz, frz_l, frz_d, frz_n, ev_lend, lend_l, lend_d, atom_i, atom_b, atom_s, ev_lendB, lendB_l, lendB_d, ev_app, app_l, kApp_ev, ev_put, put_l, ev_ixO, ixO_l, ixO_d, put_m, putAll_c, putAll_n, ev_lc, kLst_ev, ev_lcL, wipe_n, wipe_c, r1_2, r1_3, bits_ev, List.getElem?_cons_zero, List.getElem?_cons_succ, List.set_cons_zero, List.set_cons_succ, List.length_cons, List.length_nil, List.length_map, List.append_nil, List.cons_append, List.nil_append, ev_if, turn_nx, turn_ct, turn_bk, turn_rt, turn_ite, kWh_ev, isi_int_int, isi_bool_int, isi_int_bool, isi_bool_bool, isi_int_str, isi_int_none, isi_int_list, isi_int_tup, isi_bool_str, isi_bool_none, isi_bool_list, isi_bool_tup, isi_tup_tup, isi_tup_int, isi_tup_bool, isi_tup_str, isi_tup_none, isi_tup_list, isi_list_list, isi_list_tup, isi_list_int, isi_list_bool, isi_list_str, isi_list_none, isi_str_str, isi_str_int, isi_str_bool, isi_str_none, isi_str_list, isi_str_tup, decide_true, decide_false, not_true_eq_false, not_false_eq_true, ne_eq, decide_eq_true_eq, Bool.not_eq_true', decide_eq_false_iff_not, Bool.not_true, Bool.not_false, Bool.false_eq_true, if_true, if_false, reduceIte, hc]
      exact e
    · refine ⟨a, h1, by omega, by omega, ?_⟩
      simp +decide only [lt1_law_side_v2, ev_seq, seq_nx, seq_rt, seq_ex, seq_bk, seq_ct, seq_ite, fl_ok, fl_ex, fl_ite, ev_set, kSet_ev, ev_ret, ev_retN, ev_nx, ev_bk, ev_ct, ev_raise, ev_if, kIf_ev, ev_drop, kNx_ev, ev_par, kPar_ev, kId_ev, ev_asg, kAsg_ev, ev_for, kFor_ev, ev_V, dVg_ok, ev_C, ev_1, ev_2, bind2_ok, bind2_ite1, bind2_ite2, bind_ite, ev_A, ev_nil, ev_cons, kCons_ev, ev_T, toB_ev, ev_and, ev_or, ev_not, kAnd_ev, kOr_ev, kNot_ev, ev_andV, ev_orV, ev_notV, kAndV_ev, kOrV_ev, kNotV_ev, ev_ife, kIfE_ev, ev_ch, kCh, tup_ev, lst_ev, call_ev, kw_ev, ev_kw, ev_fn, startE_0, startE_s, startE_c, fin_rt, fin_nx, fin_ex, fin_ite, ix_t0, ix_t1, ix_t2, ix_t3, ix_l0, ix_l1, ix_l2, len_l, len_t1, len_t2, len_t3, len_t4, beq_self_eq_true, ev_iL, ev_iT, asL_ev, asT_ev, ev_iA, ev_P, toI_ev, ev_P0, ev_sl, kSl_ev, put_1, gAdd_i, gSub_i, gMul_i, gDiv_p, gMod_p, gPow_l, gShl_l, gShr_l, gLt_i, gLe_i, gGt_i, gGe_i, gEq_i, gNe_i, gNeg_i, gAbs_i, gInt_i, gInt_b, gEq_s, gNe_s, gEq_b, gNe_b, gEq_2, gNe_2, gEq_3, gNe_3, gEq_22, gNe_22, DL.R.bind_ok, DL.R.bind_ex, ev_setL, kSetL_ev, ev_lDisp, kDisp_ev, ev_lList, lOf_l, lOf_t, ev_frz, frz_l, frz_d, frz_n, ev_lend, lend_l, lend_d, atom_i, atom_b, atom_s, ev_lendB, lendB_l, lendB_d, ev_app, app_l, kApp_ev, ev_put, put_l, ev_ixO, ixO_l, ixO_d, put_m, putAll_c, putAll_n, ev_lc, kLst_ev, ev_lcL, wipe_n, wipe_c, r1_2, r1_3, bits_ev, List.getElem?_cons_zero, List.getElem?_cons_succ, List.set_cons_zero, List.set_cons_succ, List.length_cons, List.length_nil, List.length_map, List.append_nil, List.cons_append, List.nil_append, ev_if, turn_nx, turn_ct, turn_bk, turn_rt, turn_ite, kWh_ev, isi_int_int, isi_bool_int, isi_int_bool, isi_bool_bool, isi_int_str, isi_int_none, isi_int_list, isi_int_tup, isi_bool_str, isi_bool_none, isi_bool_list, isi_bool_tup, isi_tup_tup, isi_tup_int, isi_tup_bool, isi_tup_str, isi_tup_none, isi_tup_list, isi_list_list, isi_list_tup, isi_list_int, isi_list_bool, isi_list_str, isi_list_none, isi_str_str, isi_str_int, isi_str_bool, isi_str_none, isi_str_list, isi_str_tup, decide_true, decide_false, not_true_eq_false, not_false_eq_true, ne_eq, decide_eq_true_eq, Bool.not_eq_true', decide_eq_false_iff_not, Bool.not_true, Bool.not_false, Bool.false_eq_true, if_true, if_false, reduceIte, hc]
theorem law_side_v2_ok (c k d : Int) {m : Nat} [Bd k m] (hk : 0 ≤ k) (hm : m ≤ 90) (hd : Root d) (hd2 : d ≤ 99) [bd : Bd d 7] : ∃ a b n : Int, m_law_side_v2 [.int c, .int k, .int d] = .ok (.tuple [.int a, .int b, .int n]) ∧ Side d a b n := by
  have := lg1
  have l2 : Nat.log2 2 = 1 := by decide
  have l3 : Nat.log2 3 = 1 := by decide
  have l4 : Nat.log2 4 = 2 := by decide
  have l5 : Nat.log2 5 = 2 := by decide
  have l6 : Nat.log2 6 = 2 := by decide
  obtain ⟨z0, e0, h0, b0⟩ := law_mix_v2_ok c k (by omega) (by omega)
  obtain ⟨z1, e1, h1, b1⟩ := law_mix_v2_ok c (k + 1) (by omega) (by omega)
  obtain ⟨z2, e2, h2, b2⟩ := law_mix_v2_ok c (k + 2) (by omega) (by omega)
  obtain ⟨z3, e3, h3, b3⟩ := law_mix_v2_ok c (k + 3) (by omega) (by omega)
  obtain ⟨z4, e4, h4, b4⟩ := law_mix_v2_ok c (k + 4) (by omega) (by omega)
  obtain ⟨z5, e5, h5, b5⟩ := law_mix_v2_ok c (k + 5) (by omega) (by omega)
  obtain ⟨z6, e6, h6, b6⟩ := law_mix_v2_ok c (k + 6) (by omega) (by omega)
  have d2 := root_two hd
  have n0 : 0 < 1 + z0 % 12 := by omega
  have bn0 : Bd (1 + z0 % 12) 31 := Bd.mono inferInstance (by decide)
  have bA : Bd (z6 % 10) 100 := Bd.mono inferInstance (by decide)
  have q6 : 0 ≤ z6 % 10 ∧ z6 % 10 < 10 := by omega
  have q1 : -9 ≤ z1 % 19 - 9 ∧ z1 % 19 - 9 ≤ 9 := by omega
  have bb0 : Bd (z1 % 19 - 9) 7 := ⟨by omega⟩
  generalize hA : z6 % 10 = A at bA q6
  generalize hB : z1 % 19 - 9 = B at bb0 q1
  generalize hN : 1 + z0 % 12 = N at bn0 n0
  have one : Bd (1 : Int) 100 := ⟨by decide⟩
  -- the last step, whatever a, b and n are
  have low := fun (a b n : Int) (hn : 0 < n) (bn : Bd n 31) => law_low_eq a b n (by omega) (h3 := bn) (by decide)
  by_cases w0 : z2 % 6 = 0
  · by_cases a0 : A = 0
    · refine ⟨_, _, _, ?_, side_of (a := 1) (b := 0) n0 (pos_nn (by decide) (by decide) (by decide)) one ⟨by decide⟩ bn0⟩
      simp +decide only [m_law_side_v2, den_law_side_v2, ev_seq, seq_nx, seq_rt, seq_ex, seq_bk, seq_ct, seq_ite, fl_ok, fl_ex, fl_ite, ev_set, kSet_ev, ev_ret, ev_retN, ev_nx, ev_bk, ev_ct, ev_raise, ev_if, kIf_ev, ev_drop, kNx_ev, ev_par, kPar_ev, kId_ev, ev_asg, kAsg_ev, ev_for, kFor_ev, ev_V, dVg_ok, ev_C, ev_1, ev_2, bind2_ok, bind2_ite1, bind2_ite2, bind_ite, ev_A, ev_nil, ev_cons, kCons_ev, ev_T, toB_ev, ev_and, ev_or, ev_not, kAnd_ev, kOr_ev, kNot_ev, ev_andV, ev_orV, ev_notV, kAndV_ev, kOrV_ev, kNotV_ev, ev_ife, kIfE_ev, ev_ch, kCh, tup_ev, lst_ev, call_ev, kw_ev, ev_kw, ev_fn, startE_0, startE_s, startE_c, fin_rt, fin_nx, fin_ex, fin_ite, ix_t0, ix_t1, ix_t2, ix_t3, ix_l0, ix_l1, ix_l2, len_l, len_t1, len_t2, len_t3, len_t4, beq_self_eq_true, ev_iL, ev_iT, asL_ev, asT_ev, ev_iA, ev_P, toI_ev, ev_P0, ev_sl, kSl_ev, put_1, gAdd_i, gSub_i, gMul_i, gDiv_p, gMod_p, gPow_l, gShl_l, gShr_l, gLt_i, gLe_i, gGt_i, gGe_i, gEq_i, gNe_i, gNeg_i, gAbs_i, gInt_i, gInt_b, gEq_s, gNe_s, gEq_b, gNe_b, gEq_2, gNe_2, gEq_3, gNe_3, gEq_22, gNe_22, DL.R.bind_ok, DL.R.bind_ex, ev_setL, kSetL_ev, ev_lDisp, kDisp_ev, ev_lList, lOf_l, lOf_t, ev_frz, frz_l, frz_d, frz_n, ev_lend, lend_l, lend_d, atom_i, atom_b, atom_s, ev_lendB, lendB_l, lendB_d, ev_app, app_l, kApp_ev, ev_put, put_l, ev_ixO, ixO_l, ixO_d, put_m, putAll_c, putAll_n, ev_lc, kLst_ev, ev_lcL, wipe_n, wipe_c, r1_2, r1_3, bits_ev, List.getElem?_cons_zero, List.getElem?_cons_succ, List.set_cons_zero, List.set_cons_succ, List.length_cons, List.length_nil, List.length_map, List.append_nil, List.cons_append, List.nil_append, ev_if, turn_nx, turn_ct, turn_bk, turn_rt, turn_ite, kWh_ev, isi_int_int, isi_bool_int, isi_int_bool, isi_bool_bool, isi_int_str, isi_int_none, isi_int_list, isi_int_tup, isi_bool_str, isi_bool_none, isi_bool_list, isi_bool_tup, isi_tup_tup, isi_tup_int, isi_tup_bool, isi_tup_str, isi_tup_none, isi_tup_list, isi_list_list, isi_list_tup, isi_list_int, isi_list_bool, isi_list_str, isi_list_none, isi_str_str, isi_str_int, isi_str_bool, isi_str_none, isi_str_list, isi_str_tup, decide_true, decide_false, not_true_eq_false, not_false_eq_true, ne_eq, decide_eq_true_eq, Bool.not_eq_true', decide_eq_false_iff_not, Bool.not_true, Bool.not_false, Bool.false_eq_true, if_true, if_false, reduceIte, e0, e1, e2, e3, e4, e5, e6, hA, hB, hN, w0, a0, low _ _ _ n0 bn0]
    · refine ⟨_, _, _, ?_, side_of (a := A) (b := 0) n0 (pos_nn q6.1 (by decide) (by omega)) bA ⟨by decide⟩ bn0⟩
      simp +decide only [m_law_side_v2, den_law_side_v2, ev_seq, seq_nx, seq_rt, seq_ex, seq_bk, seq_ct, seq_ite, fl_ok, fl_ex, fl_ite, ev_set, kSet_ev, ev_ret, ev_retN, ev_nx, ev_bk, ev_ct, ev_raise, ev_if, kIf_ev, ev_drop, kNx_ev, ev_par, kPar_ev, kId_ev, ev_asg, kAsg_ev, ev_for, kFor_ev, ev_V, dVg_ok, ev_C, ev_1, ev_2, bind2_ok, bind2_ite1, bind2_ite2, bind_ite, ev_A, ev_nil, ev_cons, kCons_ev, ev_T, toB_ev, ev_and, ev_or, ev_not, kAnd_ev, kOr_ev, kNot_ev, ev_andV, ev_orV, ev_notV, kAndV_ev, kOrV_ev, kNotV_ev, ev_ife, kIfE_ev, ev_ch, kCh, tup_ev, lst_ev, call_ev, kw_ev, ev_kw, ev_fn, startE_0, startE_s, startE_c, fin_rt, fin_nx, fin_ex, fin_ite, ix_t0, ix_t1, ix_t2, ix_t3, ix_l0, ix_l1, ix_l2, len_l, len_t1, len_t2, len_t3, len_t4, beq_self_eq_true, ev_iL, ev_iT, asL_ev, asT_ev, ev_iA, ev_P, toI_ev, ev_P0, ev_sl, kSl_ev, put_1, gAdd_i, gSub_i, gMul_i, gDiv_p, gMod_p, gPow_l, gShl_l, gShr_l, gLt_i, gLe_i, gGt_i, gGe_i, gEq_i, gNe_i, gNeg_i, gAbs_i, gInt_i, gInt_b, gEq_s, gNe_s, gEq_b, gNe_b, gEq_2, gNe_2, gEq_3, gNe_3, gEq_22, gNe_22, DL.R.bind_ok, DL.R.bind_ex, ev_setL, kSetL_ev, ev_lDisp, kDisp_ev, ev_lList, lOf_l, lOf_t, ev_frz, frz_l, frz_d, frz_n, ev_lend, lend_l, lend_d, atom_i, atom_b, atom_s, ev_lendB, lendB_l, lendB_d, ev_app, app_l, kApp_ev, ev_put, put_l, ev_ixO, ixO_l, ixO_d, put_m, putAll_c, putAll_n, ev_lc, kLst_ev, ev_lcL, wipe_n, wipe_c, r1_2, r1_3, bits_ev, List.getElem?_cons_zero, List.getElem?_cons_succ, List.set_cons_zero, List.set_cons_succ, List.length_cons, List.length_nil, List.length_map, List.append_nil, List.cons_append, List.nil_append, ev_if, turn_nx, turn_ct, turn_bk, turn_rt, turn_ite, kWh_ev, isi_int_int, isi_bool_int, isi_int_bool, isi_bool_bool, isi_int_str, isi_int_none, isi_int_list, isi_int_tup, isi_bool_str, isi_bool_none, isi_bool_list, isi_bool_tup, isi_tup_tup, isi_tup_int, isi_tup_bool, isi_tup_str, isi_tup_none, isi_tup_list, isi_list_list, isi_list_tup, isi_list_int, isi_list_bool, isi_list_str, isi_list_none, isi_str_str, isi_str_int, isi_str_bool, isi_str_none, isi_str_list, isi_str_tup, decide_true, decide_false, not_true_eq_false, not_false_eq_true, ne_eq, decide_eq_true_eq, Bool.not_eq_true', decide_eq_false_iff_not, Bool.not_true, Bool.not_false, Bool.false_eq_true, if_true, if_false, reduceIte, e0, e1, e2, e3, e4, e5, e6, hA, hB, hN, w0, a0, low _ _ _ n0 bn0]
  by_cases w1 : z2 % 6 = 1
  · have n1 : 0 < 1 + z5 % 10 ^ 9 := by omega
    have bn1 : Bd (1 + z5 % 10 ^ 9) 31 := ⟨by omega⟩
    have p9 : (0 : Int) < 10 ^ 9 := by decide
    have bB : Bd (B * z3 * z4) 90 := Bd.mono inferInstance (by decide)
    have bB' : Bd (B * z3 * z4) 100 := bB.mono (by decide)
    generalize hC : B * z3 * z4 = C at bB bB'
    generalize hM : 1 + z5 % 10 ^ 9 = M at n1 bn1
    by_cases c0 : C < 0
    · have bA' : Bd (A + 10 * (C.natAbs : Int)) 100 := ⟨by
        have h := bB.h
        have e : (2 : Nat) ^ 100 = 1024 * 2 ^ 90 := by decide
        omega⟩
      have c1 : ¬ (0 < C) := by omega
      have c2 : A + 10 * (C.natAbs : Int) ≠ 0 := by omega
      refine ⟨_, _, _, ?_, side_of (a := A + 10 * (C.natAbs : Int)) (b := C) n1 (pos_ten (by omega) hd2 c0 (by omega)) bA' bB' bn1⟩
      simp +decide only [m_law_side_v2, den_law_side_v2, ev_seq, seq_nx, seq_rt, seq_ex, seq_bk, seq_ct, seq_ite, fl_ok, fl_ex, fl_ite, ev_set, kSet_ev, ev_ret, ev_retN, ev_nx, ev_bk, ev_ct, ev_raise, ev_if, kIf_ev, ev_drop, kNx_ev, ev_par, kPar_ev, kId_ev, ev_asg, kAsg_ev, ev_for, kFor_ev, ev_V, dVg_ok, ev_C, ev_1, ev_2, bind2_ok, bind2_ite1, bind2_ite2, bind_ite, ev_A, ev_nil, ev_cons, kCons_ev, ev_T, toB_ev, ev_and, ev_or, ev_not, kAnd_ev, kOr_ev, kNot_ev, ev_andV, ev_orV, ev_notV, kAndV_ev, kOrV_ev, kNotV_ev, ev_ife, kIfE_ev, ev_ch, kCh, tup_ev, lst_ev, call_ev, kw_ev, ev_kw, ev_fn, startE_0, startE_s, startE_c, fin_rt, fin_nx, fin_ex, fin_ite, ix_t0, ix_t1, ix_t2, ix_t3, ix_l0, ix_l1, ix_l2, len_l, len_t1, len_t2, len_t3, len_t4, beq_self_eq_true, ev_iL, ev_iT, asL_ev, asT_ev, ev_iA, ev_P, toI_ev, ev_P0, ev_sl, kSl_ev, put_1, gAdd_i, gSub_i, gMul_i, gDiv_p, gMod_p, gPow_l, gShl_l, gShr_l, gLt_i, gLe_i, gGt_i, gGe_i, gEq_i, gNe_i, gNeg_i, gAbs_i, gInt_i, gInt_b, gEq_s, gNe_s, gEq_b, gNe_b, gEq_2, gNe_2, gEq_3, gNe_3, gEq_22, gNe_22, DL.R.bind_ok, DL.R.bind_ex, ev_setL, kSetL_ev, ev_lDisp, kDisp_ev, ev_lList, lOf_l, lOf_t, ev_frz, frz_l, frz_d, frz_n, ev_lend, lend_l, lend_d, atom_i, atom_b, atom_s, ev_lendB, lendB_l, lendB_d, ev_app, app_l, kApp_ev, ev_put, put_l, ev_ixO, ixO_l, ixO_d, put_m, putAll_c, putAll_n, ev_lc, kLst_ev, ev_lcL, wipe_n, wipe_c, r1_2, r1_3, bits_ev, List.getElem?_cons_zero, List.getElem?_cons_succ, List.set_cons_zero, List.set_cons_succ, List.length_cons, List.length_nil, List.length_map, List.append_nil, List.cons_append, List.nil_append, ev_if, turn_nx, turn_ct, turn_bk, turn_rt, turn_ite, kWh_ev, isi_int_int, isi_bool_int, isi_int_bool, isi_bool_bool, isi_int_str, isi_int_none, isi_int_list, isi_int_tup, isi_bool_str, isi_bool_none, isi_bool_list, isi_bool_tup, isi_tup_tup, isi_tup_int, isi_tup_bool, isi_tup_str, isi_tup_none, isi_tup_list, isi_list_list, isi_list_tup, isi_list_int, isi_list_bool, isi_list_str, isi_list_none, isi_str_str, isi_str_int, isi_str_bool, isi_str_none, isi_str_list, isi_str_tup, decide_true, decide_false, not_true_eq_false, not_false_eq_true, ne_eq, decide_eq_true_eq, Bool.not_eq_true', decide_eq_false_iff_not, Bool.not_true, Bool.not_false, Bool.false_eq_true, if_true, if_false, reduceIte, e0, e1, e2, e3, e4, e5, e6, hA, hB, hN, hC, hM, p9, w1, c0, c1, c2, low _ _ _ n1 bn1]
    · by_cases a0 : A = 0 ∧ C ≤ 0
      · refine ⟨_, _, _, ?_, side_of (a := 1) (b := C) n1 (pos_nn (by decide) (by omega) (by omega)) one bB' bn1⟩
        simp +decide only [m_law_side_v2, den_law_side_v2, ev_seq, seq_nx, seq_rt, seq_ex, seq_bk, seq_ct, seq_ite, fl_ok, fl_ex, fl_ite, ev_set, kSet_ev, ev_ret, ev_retN, ev_nx, ev_bk, ev_ct, ev_raise, ev_if, kIf_ev, ev_drop, kNx_ev, ev_par, kPar_ev, kId_ev, ev_asg, kAsg_ev, ev_for, kFor_ev, ev_V, dVg_ok, ev_C, ev_1, ev_2, bind2_ok, bind2_ite1, bind2_ite2, bind_ite, ev_A, ev_nil, ev_cons, kCons_ev, ev_T, toB_ev, ev_and, ev_or, ev_not, kAnd_ev, kOr_ev, kNot_ev, ev_andV, ev_orV, ev_notV, kAndV_ev, kOrV_ev, kNotV_ev, ev_ife, kIfE_ev, ev_ch, kCh, tup_ev, lst_ev, call_ev, kw_ev, ev_kw, ev_fn, startE_0, startE_s, startE_c, fin_rt, fin_nx, fin_ex, fin_ite, ix_t0, ix_t1, ix_t2, ix_t3, ix_l0, ix_l1, ix_l2, len_l, len_t1, len_t2, len_t3, len_t4, beq_self_eq_true, ev_iL, ev_iT, asL_ev, asT_ev, ev_iA, ev_P, toI_ev, ev_P0, ev_sl, kSl_ev, put_1, gAdd_i, gSub_i, gMul_i, gDiv_p, gMod_p, gPow_l, gShl_l, gShr_l, gLt_i, gLe_i, gGt_i, gGe_i, gEq_i, gNe_i, gNeg_i, gAbs_i, gInt_i, gInt_b, gEq_s, gNe_s, gEq_b, gNe_b, gEq_2, gNe_2, gEq_3, gNe_3, gEq_22, gNe_22, DL.R.bind_ok, DL.R.bind_ex, ev_setL, kSetL_ev, ev_lDisp, kDisp_ev, ev_lList, lOf_l, lOf_t, ev_frz, frz_l, frz_d, frz_n, ev_lend, lend_l, lend_d, atom_i, atom_b, atom_s, ev_lendB, lendB_l, lendB_d, ev_app, app_l, kApp_ev, ev_put, put_l, ev_ixO, ixO_l, ixO_d, put_m, putAll_c, putAll_n, ev_lc, kLst_ev, ev_lcL, wipe_n, wipe_c, r1_2, r1_3, bits_ev, List.getElem?_cons_zero, List.getElem?_cons_succ, List.set_cons_zero, List.set_cons_succ, List.length_cons, List.length_nil, List.length_map, List.append_nil, List.cons_append, List.nil_append, ev_if, turn_nx, turn_ct, turn_bk, turn_rt, turn_ite, kWh_ev, isi_int_int, isi_bool_int, isi_int_bool, isi_bool_bool, isi_int_str, isi_int_none, isi_int_list, isi_int_tup, isi_bool_str, isi_bool_none, isi_bool_list, isi_bool_tup, isi_tup_tup, isi_tup_int, isi_tup_bool, isi_tup_str, isi_tup_none, isi_tup_list, isi_list_list, isi_list_tup, isi_list_int, isi_list_bool, isi_list_str, isi_list_none, isi_str_str, isi_str_int, isi_str_bool, isi_str_none, isi_str_list, isi_str_tup, decide_true, decide_false, not_true_eq_false, not_false_eq_true, ne_eq, decide_eq_true_eq, Bool.not_eq_true', decide_eq_false_iff_not, Bool.not_true, Bool.not_false, Bool.false_eq_true, if_true, if_false, reduceIte, e0, e1, e2, e3, e4, e5, e6, hA, hB, hN, hC, hM, p9, w1, c0, a0.1, a0.2, low _ _ _ n1 bn1]
      · refine ⟨_, _, _, ?_, side_of (a := A) (b := C) n1 (pos_nn q6.1 (by omega) (by omega)) bA bB' bn1⟩
        by_cases a1 : A = 0
        · have a2 : ¬ C ≤ 0 := fun z => a0 ⟨a1, z⟩
          simp +decide only [m_law_side_v2, den_law_side_v2, ev_seq, seq_nx, seq_rt, seq_ex, seq_bk, seq_ct, seq_ite, fl_ok, fl_ex, fl_ite, ev_set, kSet_ev, ev_ret, ev_retN, ev_nx, ev_bk, ev_ct, ev_raise, ev_if, kIf_ev, ev_drop, kNx_ev, ev_par, kPar_ev, kId_ev, ev_asg, kAsg_ev, ev_for, kFor_ev, ev_V, dVg_ok, ev_C, ev_1, ev_2, bind2_ok, bind2_ite1, bind2_ite2, bind_ite, ev_A, ev_nil, ev_cons, kCons_ev, ev_T, toB_ev, ev_and, ev_or, ev_not, kAnd_ev, kOr_ev, kNot_ev, ev_andV, ev_orV, ev_notV, kAndV_ev, kOrV_ev, kNotV_ev, ev_ife, kIfE_ev, ev_ch, kCh, tup_ev, lst_ev, call_ev, kw_ev, ev_kw, ev_fn, startE_0, startE_s, startE_c, fin_rt, fin_nx, fin_ex, fin_ite, ix_t0, ix_t1, ix_t2, ix_t3, ix_l0, ix_l1, ix_l2, len_l, len_t1, len_t2, len_t3, len_t4, beq_self_eq_true, ev_iL, ev_iT, asL_ev, asT_ev, ev_iA, ev_P, toI_ev, ev_P0, ev_sl, kSl_ev, put_1, gAdd_i, gSub_i, gMul_i, gDiv_p, gMod_p, gPow_l, gShl_l, gShr_l, gLt_i, gLe_i, gGt_i, gGe_i, gEq_i, gNe_i, gNeg_i, gAbs_i, gInt_i, gInt_b, gEq_s, gNe_s, gEq_b, gNe_b, gEq_2, gNe_2, gEq_3, gNe_3, gEq_22, gNe_22, DL.R.bind_ok, DL.R.bind_ex, ev_setL, kSetL_ev, ev_lDisp, kDisp_ev, ev_lList, lOf_l, lOf_t, ev_frz, frz_l, frz_d, frz_n, ev_lend, lend_l, lend_d, atom_i, atom_b, atom_s, ev_lendB, lendB_l, lendB_d, ev_app, app_l, kApp_ev, ev_put, put_l, ev_ixO, ixO_l, ixO_d, put_m, putAll_c, putAll_n, ev_lc, kLst_ev, ev_lcL, wipe_n, wipe_c, r1_2, r1_3, bits_ev, List.getElem?_cons_zero, List.getElem?_cons_succ, List.set_cons_zero, List.set_cons_succ, List.length_cons, List.length_nil, List.length_map, List.append_nil, List.cons_append, List.nil_append, ev_if, turn_nx, turn_ct, turn_bk, turn_rt, turn_ite, kWh_ev, isi_int_int, isi_bool_int, isi_int_bool, isi_bool_bool, isi_int_str, isi_int_none, isi_int_list, isi_int_tup, isi_bool_str, isi_bool_none, isi_bool_list, isi_bool_tup, isi_tup_tup, isi_tup_int, isi_tup_bool, isi_tup_str, isi_tup_none, isi_tup_list, isi_list_list, isi_list_tup, isi_list_int, isi_list_bool, isi_list_str, isi_list_none, isi_str_str, isi_str_int, isi_str_bool, isi_str_none, isi_str_list, isi_str_tup, decide_true, decide_false, not_true_eq_false, not_false_eq_true, ne_eq, decide_eq_true_eq, Bool.not_eq_true', decide_eq_false_iff_not, Bool.not_true, Bool.not_false, Bool.false_eq_true, if_true, if_false, reduceIte, e0, e1, e2, e3, e4, e5, e6, hA, hB, hN, hC, hM, p9, w1, c0, a1, a2, low _ _ _ n1 bn1]
        · simp +decide only [m_law_side_v2, den_law_side_v2, ev_seq, seq_nx, seq_rt, seq_ex, seq_bk, seq_ct, seq_ite, fl_ok, fl_ex, fl_ite, ev_set, kSet_ev, ev_ret, ev_retN, ev_nx, ev_bk, ev_ct, ev_raise, ev_if, kIf_ev, ev_drop, kNx_ev, ev_par, kPar_ev, kId_ev, ev_asg, kAsg_ev, ev_for, kFor_ev, ev_V, dVg_ok, ev_C, ev_1, ev_2, bind2_ok, bind2_ite1, bind2_ite2, bind_ite, ev_A, ev_nil, ev_cons, kCons_ev, ev_T, toB_ev, ev_and, ev_or, ev_not, kAnd_ev, kOr_ev, kNot_ev, ev_andV, ev_orV, ev_notV, kAndV_ev, kOrV_ev, kNotV_ev, ev_ife, kIfE_ev, ev_ch, kCh, tup_ev, lst_ev, call_ev, kw_ev, ev_kw, ev_fn, startE_0, startE_s, startE_c, fin_rt, fin_nx, fin_ex, fin_ite, ix_t0, ix_t1, ix_t2, ix_t3, ix_l0, ix_l1, ix_l2, len_l, len_t1, len_t2, len_t3, len_t4, beq_self_eq_true, ev_iL, ev_iT, asL_ev, asT_ev, ev_iA, ev_P, toI_ev, ev_P0, ev_sl, kSl_ev, put_1, gAdd_i, gSub_i, gMul_i, gDiv_p, gMod_p, gPow_l, gShl_l, gShr_l, gLt_i, gLe_i, gGt_i, gGe_i, gEq_i, gNe_i, gNeg_i, gAbs_i, gInt_i, gInt_b, gEq_s, gNe_s, gEq_b, gNe_b, gEq_2, gNe_2, gEq_3, gNe_3, gEq_22, gNe_22, DL.R.bind_ok, DL.R.bind_ex, ev_setL, kSetL_ev, ev_lDisp, kDisp_ev, ev_lList, lOf_l, lOf_t, ev_frz, frz_l, frz_d, frz_n, ev_lend, lend_l, lend_d, atom_i, atom_b, atom_s, ev_lendB, lendB_l, lendB_d, ev_app, app_l, kApp_ev, ev_put, put_l, ev_ixO, ixO_l, ixO_d, put_m, putAll_c, putAll_n, ev_lc, kLst_ev, ev_lcL, wipe_n, wipe_c, r1_2, r1_3, bits_ev, List.getElem?_cons_zero, List.getElem?_cons_succ, List.set_cons_zero, List.set_cons_succ, List.length_cons, List.length_nil, List.length_map, List.append_nil, List.cons_append, List.nil_append, ev_if, turn_nx, turn_ct, turn_bk, turn_rt, turn_ite, kWh_ev, isi_int_int, isi_bool_int, isi_int_bool, isi_bool_bool, isi_int_str, isi_int_none, isi_int_list, isi_int_tup, isi_bool_str, isi_bool_none, isi_bool_list, isi_bool_tup, isi_tup_tup, isi_tup_int, isi_tup_bool, isi_tup_str, isi_tup_none, isi_tup_list, isi_list_list, isi_list_tup, isi_list_int, isi_list_bool, isi_list_str, isi_list_none, isi_str_str, isi_str_int, isi_str_bool, isi_str_none, isi_str_list, isi_str_tup, decide_true, decide_false, not_true_eq_false, not_false_eq_true, ne_eq, decide_eq_true_eq, Bool.not_eq_true', decide_eq_false_iff_not, Bool.not_true, Bool.not_false, Bool.false_eq_true, if_true, if_false, reduceIte, e0, e1, e2, e3, e4, e5, e6, hA, hB, hN, hC, hM, p9, w1, c0, a1, low _ _ _ n1 bn1]
  have bB100 : Bd B 100 := bb0.mono (by decide)
  have bA' : Bd (A + 10 * (B.natAbs : Int)) 100 := ⟨by
    have e : (2 : Nat) ^ 100 = 1267650600228229401496703205376 := by decide
    omega⟩
  -- b below nought, without the loop
  have neg : B < 0 → z2 % 6 ≠ 2 → ∃ a b n : Int, m_law_side_v2 [.int c, .int k, .int d] = .ok (.tuple [.int a, .int b, .int n]) ∧ Side d a b n := fun c0 w2 => by
    have c1 : ¬ (0 < B) := by omega
    have c2 : A + 10 * (B.natAbs : Int) ≠ 0 := by omega
    refine ⟨_, _, _, ?_, side_of (a := A + 10 * (B.natAbs : Int)) (b := B) n0 (pos_ten (by omega) hd2 c0 (by omega)) bA' bB100 bn0⟩
    by_cases w3 : z2 % 6 = 3
    · simp +decide only [m_law_side_v2, den_law_side_v2, ev_seq, seq_nx, seq_rt, seq_ex, seq_bk, seq_ct, seq_ite, fl_ok, fl_ex, fl_ite, ev_set, kSet_ev, ev_ret, ev_retN, ev_nx, ev_bk, ev_ct, ev_raise, ev_if, kIf_ev, ev_drop, kNx_ev, ev_par, kPar_ev, kId_ev, ev_asg, kAsg_ev, ev_for, kFor_ev, ev_V, dVg_ok, ev_C, ev_1, ev_2, bind2_ok, bind2_ite1, bind2_ite2, bind_ite, ev_A, ev_nil, ev_cons, kCons_ev, ev_T, toB_ev, ev_and, ev_or, ev_not, kAnd_ev, kOr_ev, kNot_ev, ev_andV, ev_orV, ev_notV, kAndV_ev, kOrV_ev, kNotV_ev, ev_ife, kIfE_ev, ev_ch, kCh, tup_ev, lst_ev, call_ev, kw_ev, ev_kw, ev_fn, startE_0, startE_s, startE_c, fin_rt, fin_nx, fin_ex, fin_ite, ix_t0, ix_t1, ix_t2, ix_t3, ix_l0, ix_l1, ix_l2, len_l, len_t1, len_t2, len_t3, len_t4, beq_self_eq_true, ev_iL, ev_iT, asL_ev, asT_ev, ev_iA, ev_P, toI_ev, ev_P0, ev_sl, kSl_ev, put_1, gAdd_i, gSub_i, gMul_i, gDiv_p, gMod_p, gPow_l, gShl_l, gShr_l, gLt_i, gLe_i, gGt_i, gGe_i, gEq_i, gNe_i, gNeg_i, gAbs_i, gInt_i, gInt_b, gEq_s, gNe_s, gEq_b, gNe_b, gEq_2, gNe_2, gEq_3, gNe_3, gEq_22, gNe_22, DL.R.bind_ok, DL.R.bind_ex, ev_setL, kSetL_ev, ev_lDisp, kDisp_ev, ev_lList, lOf_l, lOf_t, ev_frz, frz_l, frz_d, frz_n, ev_lend, lend_l, lend_d, atom_i, atom_b, atom_s, ev_lendB, lendB_l, lendB_d, ev_app, app_l, kApp_ev, ev_put, put_l, ev_ixO, ixO_l, ixO_d, put_m, putAll_c, putAll_n, ev_lc, kLst_ev, ev_lcL, wipe_n, wipe_c, r1_2, r1_3, bits_ev, List.getElem?_cons_zero, List.getElem?_cons_succ, List.set_cons_zero, List.set_cons_succ, List.length_cons, List.length_nil, List.length_map, List.append_nil, List.cons_append, List.nil_append, ev_if, turn_nx, turn_ct, turn_bk, turn_rt, turn_ite, kWh_ev, isi_int_int, isi_bool_int, isi_int_bool, isi_bool_bool, isi_int_str, isi_int_none, isi_int_list, isi_int_tup, isi_bool_str, isi_bool_none, isi_bool_list, isi_bool_tup, isi_tup_tup, isi_tup_int, isi_tup_bool, isi_tup_str, isi_tup_none, isi_tup_list, isi_list_list, isi_list_tup, isi_list_int, isi_list_bool, isi_list_str, isi_list_none, isi_str_str, isi_str_int, isi_str_bool, isi_str_none, isi_str_list, isi_str_tup, decide_true, decide_false, not_true_eq_false, not_false_eq_true, ne_eq, decide_eq_true_eq, Bool.not_eq_true', decide_eq_false_iff_not, Bool.not_true, Bool.not_false, Bool.false_eq_true, if_true, if_false, reduceIte, e0, e1, e2, e3, e4, e5, e6, hA, hB, hN, w0, w1, w2, w3, c0, c1, c2, low _ _ _ n0 bn0]
    · simp +decide only [m_law_side_v2, den_law_side_v2, ev_seq, seq_nx, seq_rt, seq_ex, seq_bk, seq_ct, seq_ite, fl_ok, fl_ex, fl_ite, ev_set, kSet_ev, ev_ret, ev_retN, ev_nx, ev_bk, ev_ct, ev_raise, ev_if, kIf_ev, ev_drop, kNx_ev, ev_par, kPar_ev, kId_ev, ev_asg, kAsg_ev, ev_for, kFor_ev, ev_V, dVg_ok, ev_C, ev_1, ev_2, bind2_ok, bind2_ite1, bind2_ite2, bind_ite, ev_A, ev_nil, ev_cons, kCons_ev, ev_T, toB_ev, ev_and, ev_or, ev_not, kAnd_ev, kOr_ev, kNot_ev, ev_andV, ev_orV, ev_notV, kAndV_ev, kOrV_ev, kNotV_ev, ev_ife, kIfE_ev, ev_ch, kCh, tup_ev, lst_ev, call_ev, kw_ev, ev_kw, ev_fn, startE_0, startE_s, startE_c, fin_rt, fin_nx, fin_ex, fin_ite, ix_t0, ix_t1, ix_t2, ix_t3, ix_l0, ix_l1, ix_l2, len_l, len_t1, len_t2, len_t3, len_t4, beq_self_eq_true, ev_iL, ev_iT, asL_ev, asT_ev, ev_iA, ev_P, toI_ev, ev_P0, ev_sl, kSl_ev, put_1, gAdd_i, gSub_i, gMul_i, gDiv_p, gMod_p, gPow_l, gShl_l, gShr_l, gLt_i, gLe_i, gGt_i, gGe_i, gEq_i, gNe_i, gNeg_i, gAbs_i, gInt_i, gInt_b, gEq_s, gNe_s, gEq_b, gNe_b, gEq_2, gNe_2, gEq_3, gNe_3, gEq_22, gNe_22, DL.R.bind_ok, DL.R.bind_ex, ev_setL, kSetL_ev, ev_lDisp, kDisp_ev, ev_lList, lOf_l, lOf_t, ev_frz, frz_l, frz_d, frz_n, ev_lend, lend_l, lend_d, atom_i, atom_b, atom_s, ev_lendB, lendB_l, lendB_d, ev_app, app_l, kApp_ev, ev_put, put_l, ev_ixO, ixO_l, ixO_d, put_m, putAll_c, putAll_n, ev_lc, kLst_ev, ev_lcL, wipe_n, wipe_c, r1_2, r1_3, bits_ev, List.getElem?_cons_zero, List.getElem?_cons_succ, List.set_cons_zero, List.set_cons_succ, List.length_cons, List.length_nil, List.length_map, List.append_nil, List.cons_append, List.nil_append, ev_if, turn_nx, turn_ct, turn_bk, turn_rt, turn_ite, kWh_ev, isi_int_int, isi_bool_int, isi_int_bool, isi_bool_bool, isi_int_str, isi_int_none, isi_int_list, isi_int_tup, isi_bool_str, isi_bool_none, isi_bool_list, isi_bool_tup, isi_tup_tup, isi_tup_int, isi_tup_bool, isi_tup_str, isi_tup_none, isi_tup_list, isi_list_list, isi_list_tup, isi_list_int, isi_list_bool, isi_list_str, isi_list_none, isi_str_str, isi_str_int, isi_str_bool, isi_str_none, isi_str_list, isi_str_tup, decide_true, decide_false, not_true_eq_false, not_false_eq_true, ne_eq, decide_eq_true_eq, Bool.not_eq_true', decide_eq_false_iff_not, Bool.not_true, Bool.not_false, Bool.false_eq_true, if_true, if_false, reduceIte, e0, e1, e2, e3, e4, e5, e6, hA, hB, hN, w0, w1, w2, w3, c0, c1, c2, low _ _ _ n0 bn0]
  -- b from nought on, a as it was drawn
  have plain : ¬ B < 0 → (z2 % 6 = 3 → ¬ 0 < B) → ∃ a b n : Int, m_law_side_v2 [.int c, .int k, .int d] = .ok (.tuple [.int a, .int b, .int n]) ∧ Side d a b n := fun c0 w3' => by
    by_cases a0 : A = 0 ∧ B ≤ 0
    · refine ⟨_, _, _, ?_, side_of (a := 1) (b := B) n0 (pos_nn (by decide) (by omega) (by omega)) one bB100 bn0⟩
      by_cases w2 : z2 % 6 = 2
      · simp +decide only [m_law_side_v2, den_law_side_v2, ev_seq, seq_nx, seq_rt, seq_ex, seq_bk, seq_ct, seq_ite, fl_ok, fl_ex, fl_ite, ev_set, kSet_ev, ev_ret, ev_retN, ev_nx, ev_bk, ev_ct, ev_raise, ev_if, kIf_ev, ev_drop, kNx_ev, ev_par, kPar_ev, kId_ev, ev_asg, kAsg_ev, ev_for, kFor_ev, ev_V, dVg_ok, ev_C, ev_1, ev_2, bind2_ok, bind2_ite1, bind2_ite2, bind_ite, ev_A, ev_nil, ev_cons, kCons_ev, ev_T, toB_ev, ev_and, ev_or, ev_not, kAnd_ev, kOr_ev, kNot_ev, ev_andV, ev_orV, ev_notV, kAndV_ev, kOrV_ev, kNotV_ev, ev_ife, kIfE_ev, ev_ch, kCh, tup_ev, lst_ev, call_ev, kw_ev, ev_kw, ev_fn, startE_0, startE_s, startE_c, fin_rt, fin_nx, fin_ex, fin_ite, ix_t0, ix_t1, ix_t2, ix_t3, ix_l0, ix_l1, ix_l2, len_l, len_t1, len_t2, len_t3, len_t4, beq_self_eq_true, ev_iL, ev_iT, asL_ev, asT_ev, ev_iA, ev_P, toI_ev, ev_P0, ev_sl, kSl_ev, put_1, gAdd_i, gSub_i, gMul_i, gDiv_p, gMod_p, gPow_l, gShl_l, gShr_l, gLt_i, gLe_i, gGt_i, gGe_i, gEq_i, gNe_i, gNeg_i, gAbs_i, gInt_i, gInt_b, gEq_s, gNe_s, gEq_b, gNe_b, gEq_2, gNe_2, gEq_3, gNe_3, gEq_22, gNe_22, DL.R.bind_ok, DL.R.bind_ex, ev_setL, kSetL_ev, ev_lDisp, kDisp_ev, ev_lList, lOf_l, lOf_t, ev_frz, frz_l, frz_d, frz_n, ev_lend, lend_l, lend_d, atom_i, atom_b, atom_s, ev_lendB, lendB_l, lendB_d, ev_app, app_l, kApp_ev, ev_put, put_l, ev_ixO, ixO_l, ixO_d, put_m, putAll_c, putAll_n, ev_lc, kLst_ev, ev_lcL, wipe_n, wipe_c, r1_2, r1_3, bits_ev, List.getElem?_cons_zero, List.getElem?_cons_succ, List.set_cons_zero, List.set_cons_succ, List.length_cons, List.length_nil, List.length_map, List.append_nil, List.cons_append, List.nil_append, ev_if, turn_nx, turn_ct, turn_bk, turn_rt, turn_ite, kWh_ev, isi_int_int, isi_bool_int, isi_int_bool, isi_bool_bool, isi_int_str, isi_int_none, isi_int_list, isi_int_tup, isi_bool_str, isi_bool_none, isi_bool_list, isi_bool_tup, isi_tup_tup, isi_tup_int, isi_tup_bool, isi_tup_str, isi_tup_none, isi_tup_list, isi_list_list, isi_list_tup, isi_list_int, isi_list_bool, isi_list_str, isi_list_none, isi_str_str, isi_str_int, isi_str_bool, isi_str_none, isi_str_list, isi_str_tup, decide_true, decide_false, not_true_eq_false, not_false_eq_true, ne_eq, decide_eq_true_eq, Bool.not_eq_true', decide_eq_false_iff_not, Bool.not_true, Bool.not_false, Bool.false_eq_true, if_true, if_false, reduceIte, e0, e1, e2, e3, e4, e5, e6, hA, hB, hN, w2, c0, a0.1, a0.2, low _ _ _ n0 bn0]
      by_cases w3 : z2 % 6 = 3
      · have c1 := w3' w3
        simp +decide only [m_law_side_v2, den_law_side_v2, ev_seq, seq_nx, seq_rt, seq_ex, seq_bk, seq_ct, seq_ite, fl_ok, fl_ex, fl_ite, ev_set, kSet_ev, ev_ret, ev_retN, ev_nx, ev_bk, ev_ct, ev_raise, ev_if, kIf_ev, ev_drop, kNx_ev, ev_par, kPar_ev, kId_ev, ev_asg, kAsg_ev, ev_for, kFor_ev, ev_V, dVg_ok, ev_C, ev_1, ev_2, bind2_ok, bind2_ite1, bind2_ite2, bind_ite, ev_A, ev_nil, ev_cons, kCons_ev, ev_T, toB_ev, ev_and, ev_or, ev_not, kAnd_ev, kOr_ev, kNot_ev, ev_andV, ev_orV, ev_notV, kAndV_ev, kOrV_ev, kNotV_ev, ev_ife, kIfE_ev, ev_ch, kCh, tup_ev, lst_ev, call_ev, kw_ev, ev_kw, ev_fn, startE_0, startE_s, startE_c, fin_rt, fin_nx, fin_ex, fin_ite, ix_t0, ix_t1, ix_t2, ix_t3, ix_l0, ix_l1, ix_l2, len_l, len_t1, len_t2, len_t3, len_t4, beq_self_eq_true, ev_iL, ev_iT, asL_ev, asT_ev, ev_iA, ev_P, toI_ev, ev_P0, ev_sl, kSl_ev, put_1, gAdd_i, gSub_i, gMul_i, gDiv_p, gMod_p, gPow_l, gShl_l, gShr_l, gLt_i, gLe_i, gGt_i, gGe_i, gEq_i, gNe_i, gNeg_i, gAbs_i, gInt_i, gInt_b, gEq_s, gNe_s, gEq_b, gNe_b, gEq_2, gNe_2, gEq_3, gNe_3, gEq_22, gNe_22, DL.R.bind_ok, DL.R.bind_ex, ev_setL, kSetL_ev, ev_lDisp, kDisp_ev, ev_lList, lOf_l, lOf_t, ev_frz, frz_l, frz_d, frz_n, ev_lend, lend_l, lend_d, atom_i, atom_b, atom_s, ev_lendB, lendB_l, lendB_d, ev_app, app_l, kApp_ev, ev_put, put_l, ev_ixO, ixO_l, ixO_d, put_m, putAll_c, putAll_n, ev_lc, kLst_ev, ev_lcL, wipe_n, wipe_c, r1_2, r1_3, bits_ev, List.getElem?_cons_zero, List.getElem?_cons_succ, List.set_cons_zero, List.set_cons_succ, List.length_cons, List.length_nil, List.length_map, List.append_nil, List.cons_append, List.nil_append, ev_if, turn_nx, turn_ct, turn_bk, turn_rt, turn_ite, kWh_ev, isi_int_int, isi_bool_int, isi_int_bool, isi_bool_bool, isi_int_str, isi_int_none, isi_int_list, isi_int_tup, isi_bool_str, isi_bool_none, isi_bool_list, isi_bool_tup, isi_tup_tup, isi_tup_int, isi_tup_bool, isi_tup_str, isi_tup_none, isi_tup_list, isi_list_list, isi_list_tup, isi_list_int, isi_list_bool, isi_list_str, isi_list_none, isi_str_str, isi_str_int, isi_str_bool, isi_str_none, isi_str_list, isi_str_tup, decide_true, decide_false, not_true_eq_false, not_false_eq_true, ne_eq, decide_eq_true_eq, Bool.not_eq_true', decide_eq_false_iff_not, Bool.not_true, Bool.not_false, Bool.false_eq_true, if_true, if_false, reduceIte, e0, e1, e2, e3, e4, e5, e6, hA, hB, hN, w3, c0, c1, a0.1, a0.2, low _ _ _ n0 bn0]
      · simp +decide only [m_law_side_v2, den_law_side_v2, ev_seq, seq_nx, seq_rt, seq_ex, seq_bk, seq_ct, seq_ite, fl_ok, fl_ex, fl_ite, ev_set, kSet_ev, ev_ret, ev_retN, ev_nx, ev_bk, ev_ct, ev_raise, ev_if, kIf_ev, ev_drop, kNx_ev, ev_par, kPar_ev, kId_ev, ev_asg, kAsg_ev, ev_for, kFor_ev, ev_V, dVg_ok, ev_C, ev_1, ev_2, bind2_ok, bind2_ite1, bind2_ite2, bind_ite, ev_A, ev_nil, ev_cons, kCons_ev, ev_T, toB_ev, ev_and, ev_or, ev_not, kAnd_ev, kOr_ev, kNot_ev, ev_andV, ev_orV, ev_notV, kAndV_ev, kOrV_ev, kNotV_ev, ev_ife, kIfE_ev, ev_ch, kCh, tup_ev, lst_ev, call_ev, kw_ev, ev_kw, ev_fn, startE_0, startE_s, startE_c, fin_rt, fin_nx, fin_ex, fin_ite, ix_t0, ix_t1, ix_t2, ix_t3, ix_l0, ix_l1, ix_l2, len_l, len_t1, len_t2, len_t3, len_t4, beq_self_eq_true, ev_iL, ev_iT, asL_ev, asT_ev, ev_iA, ev_P, toI_ev, ev_P0, ev_sl, kSl_ev, put_1, gAdd_i, gSub_i, gMul_i, gDiv_p, gMod_p, gPow_l, gShl_l, gShr_l, gLt_i, gLe_i, gGt_i, gGe_i, gEq_i, gNe_i, gNeg_i, gAbs_i, gInt_i, gInt_b, gEq_s, gNe_s, gEq_b, gNe_b, gEq_2, gNe_2, gEq_3, gNe_3, gEq_22, gNe_22, DL.R.bind_ok, DL.R.bind_ex, ev_setL, kSetL_ev, ev_lDisp, kDisp_ev, ev_lList, lOf_l, lOf_t, ev_frz, frz_l, frz_d, frz_n, ev_lend, lend_l, lend_d, atom_i, atom_b, atom_s, ev_lendB, lendB_l, lendB_d, ev_app, app_l, kApp_ev, ev_put, put_l, ev_ixO, ixO_l, ixO_d, put_m, putAll_c, putAll_n, ev_lc, kLst_ev, ev_lcL, wipe_n, wipe_c, r1_2, r1_3, bits_ev, List.getElem?_cons_zero, List.getElem?_cons_succ, List.set_cons_zero, List.set_cons_succ, List.length_cons, List.length_nil, List.length_map, List.append_nil, List.cons_append, List.nil_append, ev_if, turn_nx, turn_ct, turn_bk, turn_rt, turn_ite, kWh_ev, isi_int_int, isi_bool_int, isi_int_bool, isi_bool_bool, isi_int_str, isi_int_none, isi_int_list, isi_int_tup, isi_bool_str, isi_bool_none, isi_bool_list, isi_bool_tup, isi_tup_tup, isi_tup_int, isi_tup_bool, isi_tup_str, isi_tup_none, isi_tup_list, isi_list_list, isi_list_tup, isi_list_int, isi_list_bool, isi_list_str, isi_list_none, isi_str_str, isi_str_int, isi_str_bool, isi_str_none, isi_str_list, isi_str_tup, decide_true, decide_false, not_true_eq_false, not_false_eq_true, ne_eq, decide_eq_true_eq, Bool.not_eq_true', decide_eq_false_iff_not, Bool.not_true, Bool.not_false, Bool.false_eq_true, if_true, if_false, reduceIte, e0, e1, e2, e3, e4, e5, e6, hA, hB, hN, w0, w1, w2, w3, c0, a0.1, a0.2, low _ _ _ n0 bn0]
    · refine ⟨_, _, _, ?_, side_of (a := A) (b := B) n0 (pos_nn q6.1 (by omega) (by omega)) bA bB100 bn0⟩
      have fin : A ≠ 0 ∨ ¬ B ≤ 0 := by omega
      by_cases a1 : A = 0
      · have a2 : ¬ B ≤ 0 := fun z => a0 ⟨a1, z⟩
        by_cases w2 : z2 % 6 = 2
        · simp +decide only [m_law_side_v2, den_law_side_v2, ev_seq, seq_nx, seq_rt, seq_ex, seq_bk, seq_ct, seq_ite, fl_ok, fl_ex, fl_ite, ev_set, kSet_ev, ev_ret, ev_retN, ev_nx, ev_bk, ev_ct, ev_raise, ev_if, kIf_ev, ev_drop, kNx_ev, ev_par, kPar_ev, kId_ev, ev_asg, kAsg_ev, ev_for, kFor_ev, ev_V, dVg_ok, ev_C, ev_1, ev_2, bind2_ok, bind2_ite1, bind2_ite2, bind_ite, ev_A, ev_nil, ev_cons, kCons_ev, ev_T, toB_ev, ev_and, ev_or, ev_not, kAnd_ev, kOr_ev, kNot_ev, ev_andV, ev_orV, ev_notV, kAndV_ev, kOrV_ev, kNotV_ev, ev_ife, kIfE_ev, ev_ch, kCh, tup_ev, lst_ev, call_ev, kw_ev, ev_kw, ev_fn, startE_0, startE_s, startE_c, fin_rt, fin_nx, fin_ex, fin_ite, ix_t0, ix_t1, ix_t2, ix_t3, ix_l0, ix_l1, ix_l2, len_l, len_t1, len_t2, len_t3, len_t4, beq_self_eq_true, ev_iL, ev_iT, asL_ev, asT_ev, ev_iA, ev_P, toI_ev, ev_P0, ev_sl, kSl_ev, put_1, gAdd_i, gSub_i, gMul_i, gDiv_p, gMod_p, gPow_l, gShl_l, gShr_l, gLt_i, gLe_i, gGt_i, gGe_i, gEq_i, gNe_i, gNeg_i, gAbs_i, gInt_i, gInt_b, gEq_s, gNe_s, gEq_b, gNe_b, gEq_2, gNe_2, gEq_3, gNe_3, gEq_22, gNe_22, DL.R.bind_ok, DL.R.bind_ex, ev_setL, kSetL_ev, ev_lDisp, kDisp_ev, ev_lList, lOf_l, lOf_t, ev_frz, frz_l, frz_d, frz_n, ev_lend, lend_l, lend_d, atom_i, atom_b, atom_s, ev_lendB, lendB_l, lendB_d, ev_app, app_l, kApp_ev, ev_put, put_l, ev_ixO, ixO_l, ixO_d, put_m, putAll_c, putAll_n, ev_lc, kLst_ev, ev_lcL, wipe_n, wipe_c, r1_2, r1_3, bits_ev, List.getElem?_cons_zero, List.getElem?_cons_succ, List.set_cons_zero, List.set_cons_succ, List.length_cons, List.length_nil, List.length_map, List.append_nil, List.cons_append, List.nil_append, ev_if, turn_nx, turn_ct, turn_bk, turn_rt, turn_ite, kWh_ev, isi_int_int, isi_bool_int, isi_int_bool, isi_bool_bool, isi_int_str, isi_int_none, isi_int_list, isi_int_tup, isi_bool_str, isi_bool_none, isi_bool_list, isi_bool_tup, isi_tup_tup, isi_tup_int, isi_tup_bool, isi_tup_str, isi_tup_none, isi_tup_list, isi_list_list, isi_list_tup, isi_list_int, isi_list_bool, isi_list_str, isi_list_none, isi_str_str, isi_str_int, isi_str_bool, isi_str_none, isi_str_list, isi_str_tup, decide_true, decide_false, not_true_eq_false, not_false_eq_true, ne_eq, decide_eq_true_eq, Bool.not_eq_true', decide_eq_false_iff_not, Bool.not_true, Bool.not_false, Bool.false_eq_true, if_true, if_false, reduceIte, e0, e1, e2, e3, e4, e5, e6, hA, hB, hN, w2, c0, a1, a2, low _ _ _ n0 bn0]
        by_cases w3 : z2 % 6 = 3
        · have c1 := w3' w3
          simp +decide only [m_law_side_v2, den_law_side_v2, ev_seq, seq_nx, seq_rt, seq_ex, seq_bk, seq_ct, seq_ite, fl_ok, fl_ex, fl_ite, ev_set, kSet_ev, ev_ret, ev_retN, ev_nx, ev_bk, ev_ct, ev_raise, ev_if, kIf_ev, ev_drop, kNx_ev, ev_par, kPar_ev, kId_ev, ev_asg, kAsg_ev, ev_for, kFor_ev, ev_V, dVg_ok, ev_C, ev_1, ev_2, bind2_ok, bind2_ite1, bind2_ite2, bind_ite, ev_A, ev_nil, ev_cons, kCons_ev, ev_T, toB_ev, ev_and, ev_or, ev_not, kAnd_ev, kOr_ev, kNot_ev, ev_andV, ev_orV, ev_notV, kAndV_ev, kOrV_ev, kNotV_ev, ev_ife, kIfE_ev, ev_ch, kCh, tup_ev, lst_ev, call_ev, kw_ev, ev_kw, ev_fn, startE_0, startE_s, startE_c, fin_rt, fin_nx, fin_ex, fin_ite, ix_t0, ix_t1, ix_t2, ix_t3, ix_l0, ix_l1, ix_l2, len_l, len_t1, len_t2, len_t3, len_t4, beq_self_eq_true, ev_iL, ev_iT, asL_ev, asT_ev, ev_iA, ev_P, toI_ev, ev_P0, ev_sl, kSl_ev, put_1, gAdd_i, gSub_i, gMul_i, gDiv_p, gMod_p, gPow_l, gShl_l, gShr_l, gLt_i, gLe_i, gGt_i, gGe_i, gEq_i, gNe_i, gNeg_i, gAbs_i, gInt_i, gInt_b, gEq_s, gNe_s, gEq_b, gNe_b, gEq_2, gNe_2, gEq_3, gNe_3, gEq_22, gNe_22, DL.R.bind_ok, DL.R.bind_ex, ev_setL, kSetL_ev, ev_lDisp, kDisp_ev, ev_lList, lOf_l, lOf_t, ev_frz, frz_l, frz_d, frz_n, ev_lend, lend_l, lend_d, atom_i, atom_b, atom_s, ev_lendB, lendB_l, lendB_d, ev_app, app_l, kApp_ev, ev_put, put_l, ev_ixO, ixO_l, ixO_d, put_m, putAll_c, putAll_n, ev_lc, kLst_ev, ev_lcL, wipe_n, wipe_c, r1_2, r1_3, bits_ev, List.getElem?_cons_zero, List.getElem?_cons_succ, List.set_cons_zero, List.set_cons_succ, List.length_cons, List.length_nil, List.length_map, List.append_nil, List.cons_append, List.nil_append, ev_if, turn_nx, turn_ct, turn_bk, turn_rt, turn_ite, kWh_ev, isi_int_int, isi_bool_int, isi_int_bool, isi_bool_bool, isi_int_str, isi_int_none, isi_int_list, isi_int_tup, isi_bool_str, isi_bool_none, isi_bool_list, isi_bool_tup, isi_tup_tup, isi_tup_int, isi_tup_bool, isi_tup_str, isi_tup_none, isi_tup_list, isi_list_list, isi_list_tup, isi_list_int, isi_list_bool, isi_list_str, isi_list_none, isi_str_str, isi_str_int, isi_str_bool, isi_str_none, isi_str_list, isi_str_tup, decide_true, decide_false, not_true_eq_false, not_false_eq_true, ne_eq, decide_eq_true_eq, Bool.not_eq_true', decide_eq_false_iff_not, Bool.not_true, Bool.not_false, Bool.false_eq_true, if_true, if_false, reduceIte, e0, e1, e2, e3, e4, e5, e6, hA, hB, hN, w3, c0, c1, a1, a2, low _ _ _ n0 bn0]
        · simp +decide only [m_law_side_v2, den_law_side_v2, ev_seq, seq_nx, seq_rt, seq_ex, seq_bk, seq_ct, seq_ite, fl_ok, fl_ex, fl_ite, ev_set, kSet_ev, ev_ret, ev_retN, ev_nx, ev_bk, ev_ct, ev_raise, ev_if, kIf_ev, ev_drop, kNx_ev, ev_par, kPar_ev, kId_ev, ev_asg, kAsg_ev, ev_for, kFor_ev, ev_V, dVg_ok, ev_C, ev_1, ev_2, bind2_ok, bind2_ite1, bind2_ite2, bind_ite, ev_A, ev_nil, ev_cons, kCons_ev, ev_T, toB_ev, ev_and, ev_or, ev_not, kAnd_ev, kOr_ev, kNot_ev, ev_andV, ev_orV, ev_notV, kAndV_ev, kOrV_ev, kNotV_ev, ev_ife, kIfE_ev, ev_ch, kCh, tup_ev, lst_ev, call_ev, kw_ev, ev_kw, ev_fn, startE_0, startE_s, startE_c, fin_rt, fin_nx, fin_ex, fin_ite, ix_t0, ix_t1, ix_t2, ix_t3, ix_l0, ix_l1, ix_l2, len_l, len_t1, len_t2, len_t3, len_t4, beq_self_eq_true, ev_iL, ev_iT, asL_ev, asT_ev, ev_iA, ev_P, toI_ev, ev_P0, ev_sl, kSl_ev, put_1, gAdd_i, gSub_i, gMul_i, gDiv_p, gMod_p, gPow_l, gShl_l, gShr_l, gLt_i, gLe_i, gGt_i, gGe_i, gEq_i, gNe_i, gNeg_i, gAbs_i, gInt_i, gInt_b, gEq_s, gNe_s, gEq_b, gNe_b, gEq_2, gNe_2, gEq_3, gNe_3, gEq_22, gNe_22, DL.R.bind_ok, DL.R.bind_ex, ev_setL, kSetL_ev, ev_lDisp, kDisp_ev, ev_lList, lOf_l, lOf_t, ev_frz, frz_l, frz_d, frz_n, ev_lend, lend_l, lend_d, atom_i, atom_b, atom_s, ev_lendB, lendB_l, lendB_d, ev_app, app_l, kApp_ev, ev_put, put_l, ev_ixO, ixO_l, ixO_d, put_m, putAll_c, putAll_n, ev_lc, kLst_ev, ev_lcL, wipe_n, wipe_c, r1_2, r1_3, bits_ev, List.getElem?_cons_zero, List.getElem?_cons_succ, List.set_cons_zero, List.set_cons_succ, List.length_cons, List.length_nil, List.length_map, List.append_nil, List.cons_append, List.nil_append, ev_if, turn_nx, turn_ct, turn_bk, turn_rt, turn_ite, kWh_ev, isi_int_int, isi_bool_int, isi_int_bool, isi_bool_bool, isi_int_str, isi_int_none, isi_int_list, isi_int_tup, isi_bool_str, isi_bool_none, isi_bool_list, isi_bool_tup, isi_tup_tup, isi_tup_int, isi_tup_bool, isi_tup_str, isi_tup_none, isi_tup_list, isi_list_list, isi_list_tup, isi_list_int, isi_list_bool, isi_list_str, isi_list_none, isi_str_str, isi_str_int, isi_str_bool, isi_str_none, isi_str_list, isi_str_tup, decide_true, decide_false, not_true_eq_false, not_false_eq_true, ne_eq, decide_eq_true_eq, Bool.not_eq_true', decide_eq_false_iff_not, Bool.not_true, Bool.not_false, Bool.false_eq_true, if_true, if_false, reduceIte, e0, e1, e2, e3, e4, e5, e6, hA, hB, hN, w0, w1, w2, w3, c0, a1, a2, low _ _ _ n0 bn0]
      · by_cases w2 : z2 % 6 = 2
        · simp +decide only [m_law_side_v2, den_law_side_v2, ev_seq, seq_nx, seq_rt, seq_ex, seq_bk, seq_ct, seq_ite, fl_ok, fl_ex, fl_ite, ev_set, kSet_ev, ev_ret, ev_retN, ev_nx, ev_bk, ev_ct, ev_raise, ev_if, kIf_ev, ev_drop, kNx_ev, ev_par, kPar_ev, kId_ev, ev_asg, kAsg_ev, ev_for, kFor_ev, ev_V, dVg_ok, ev_C, ev_1, ev_2, bind2_ok, bind2_ite1, bind2_ite2, bind_ite, ev_A, ev_nil, ev_cons, kCons_ev, ev_T, toB_ev, ev_and, ev_or, ev_not, kAnd_ev, kOr_ev, kNot_ev, ev_andV, ev_orV, ev_notV, kAndV_ev, kOrV_ev, kNotV_ev, ev_ife, kIfE_ev, ev_ch, kCh, tup_ev, lst_ev, call_ev, kw_ev, ev_kw, ev_fn, startE_0, startE_s, startE_c, fin_rt, fin_nx, fin_ex, fin_ite, ix_t0, ix_t1, ix_t2, ix_t3, ix_l0, ix_l1, ix_l2, len_l, len_t1, len_t2, len_t3, len_t4, beq_self_eq_true, ev_iL, ev_iT, asL_ev, asT_ev, ev_iA, ev_P, toI_ev, ev_P0, ev_sl, kSl_ev, put_1, gAdd_i, gSub_i, gMul_i, gDiv_p, gMod_p, gPow_l, gShl_l, gShr_l, gLt_i, gLe_i, gGt_i, gGe_i, gEq_i, gNe_i, gNeg_i, gAbs_i, gInt_i, gInt_b, gEq_s, gNe_s, gEq_b, gNe_b, gEq_2, gNe_2, gEq_3, gNe_3, gEq_22, gNe_22, DL.R.bind_ok, DL.R.bind_ex, ev_setL, kSetL_ev, ev_lDisp, kDisp_ev, ev_lList, lOf_l, lOf_t, ev_frz, frz_l, frz_d, frz_n, ev_lend, lend_l, lend_d, atom_i, atom_b, atom_s, ev_lendB, lendB_l, lendB_d, ev_app, app_l, kApp_ev, ev_put, put_l, ev_ixO, ixO_l, ixO_d, put_m, putAll_c, putAll_n, ev_lc, kLst_ev, ev_lcL, wipe_n, wipe_c, r1_2, r1_3, bits_ev, List.getElem?_cons_zero, List.getElem?_cons_succ, List.set_cons_zero, List.set_cons_succ, List.length_cons, List.length_nil, List.length_map, List.append_nil, List.cons_append, List.nil_append, ev_if, turn_nx, turn_ct, turn_bk, turn_rt, turn_ite, kWh_ev, isi_int_int, isi_bool_int, isi_int_bool, isi_bool_bool, isi_int_str, isi_int_none, isi_int_list, isi_int_tup, isi_bool_str, isi_bool_none, isi_bool_list, isi_bool_tup, isi_tup_tup, isi_tup_int, isi_tup_bool, isi_tup_str, isi_tup_none, isi_tup_list, isi_list_list, isi_list_tup, isi_list_int, isi_list_bool, isi_list_str, isi_list_none, isi_str_str, isi_str_int, isi_str_bool, isi_str_none, isi_str_list, isi_str_tup, decide_true, decide_false, not_true_eq_false, not_false_eq_true, ne_eq, decide_eq_true_eq, Bool.not_eq_true', decide_eq_false_iff_not, Bool.not_true, Bool.not_false, Bool.false_eq_true, if_true, if_false, reduceIte, e0, e1, e2, e3, e4, e5, e6, hA, hB, hN, w2, c0, a1, low _ _ _ n0 bn0]
        by_cases w3 : z2 % 6 = 3
        · have c1 := w3' w3
          simp +decide only [m_law_side_v2, den_law_side_v2, ev_seq, seq_nx, seq_rt, seq_ex, seq_bk, seq_ct, seq_ite, fl_ok, fl_ex, fl_ite, ev_set, kSet_ev, ev_ret, ev_retN, ev_nx, ev_bk, ev_ct, ev_raise, ev_if, kIf_ev, ev_drop, kNx_ev, ev_par, kPar_ev, kId_ev, ev_asg, kAsg_ev, ev_for, kFor_ev, ev_V, dVg_ok, ev_C, ev_1, ev_2, bind2_ok, bind2_ite1, bind2_ite2, bind_ite, ev_A, ev_nil, ev_cons, kCons_ev, ev_T, toB_ev, ev_and, ev_or, ev_not, kAnd_ev, kOr_ev, kNot_ev, ev_andV, ev_orV, ev_notV, kAndV_ev, kOrV_ev, kNotV_ev, ev_ife, kIfE_ev, ev_ch, kCh, tup_ev, lst_ev, call_ev, kw_ev, ev_kw, ev_fn, startE_0, startE_s, startE_c, fin_rt, fin_nx, fin_ex, fin_ite, ix_t0, ix_t1, ix_t2, ix_t3, ix_l0, ix_l1, ix_l2, len_l, len_t1, len_t2, len_t3, len_t4, beq_self_eq_true, ev_iL, ev_iT, asL_ev, asT_ev, ev_iA, ev_P, toI_ev, ev_P0, ev_sl, kSl_ev, put_1, gAdd_i, gSub_i, gMul_i, gDiv_p, gMod_p, gPow_l, gShl_l, gShr_l, gLt_i, gLe_i, gGt_i, gGe_i, gEq_i, gNe_i, gNeg_i, gAbs_i, gInt_i, gInt_b, gEq_s, gNe_s, gEq_b, gNe_b, gEq_2, gNe_2, gEq_3, gNe_3, gEq_22, gNe_22, DL.R.bind_ok, DL.R.bind_ex, ev_setL, kSetL_ev, ev_lDisp, kDisp_ev, ev_lList, lOf_l, lOf_t, ev_frz, frz_l, frz_d, frz_n, ev_lend, lend_l, lend_d, atom_i, atom_b, atom_s, ev_lendB, lendB_l, lendB_d, ev_app, app_l, kApp_ev, ev_put, put_l, ev_ixO, ixO_l, ixO_d, put_m, putAll_c, putAll_n, ev_lc, kLst_ev, ev_lcL, wipe_n, wipe_c, r1_2, r1_3, bits_ev, List.getElem?_cons_zero, List.getElem?_cons_succ, List.set_cons_zero, List.set_cons_succ, List.length_cons, List.length_nil, List.length_map, List.append_nil, List.cons_append, List.nil_append, ev_if, turn_nx, turn_ct, turn_bk, turn_rt, turn_ite, kWh_ev, isi_int_int, isi_bool_int, isi_int_bool, isi_bool_bool, isi_int_str, isi_int_none, isi_int_list, isi_int_tup, isi_bool_str, isi_bool_none, isi_bool_list, isi_bool_tup, isi_tup_tup, isi_tup_int, isi_tup_bool, isi_tup_str, isi_tup_none, isi_tup_list, isi_list_list, isi_list_tup, isi_list_int, isi_list_bool, isi_list_str, isi_list_none, isi_str_str, isi_str_int, isi_str_bool, isi_str_none, isi_str_list, isi_str_tup, decide_true, decide_false, not_true_eq_false, not_false_eq_true, ne_eq, decide_eq_true_eq, Bool.not_eq_true', decide_eq_false_iff_not, Bool.not_true, Bool.not_false, Bool.false_eq_true, if_true, if_false, reduceIte, e0, e1, e2, e3, e4, e5, e6, hA, hB, hN, w3, c0, c1, a1, low _ _ _ n0 bn0]
        · simp +decide only [m_law_side_v2, den_law_side_v2, ev_seq, seq_nx, seq_rt, seq_ex, seq_bk, seq_ct, seq_ite, fl_ok, fl_ex, fl_ite, ev_set, kSet_ev, ev_ret, ev_retN, ev_nx, ev_bk, ev_ct, ev_raise, ev_if, kIf_ev, ev_drop, kNx_ev, ev_par, kPar_ev, kId_ev, ev_asg, kAsg_ev, ev_for, kFor_ev, ev_V, dVg_ok, ev_C, ev_1, ev_2, bind2_ok, bind2_ite1, bind2_ite2, bind_ite, ev_A, ev_nil, ev_cons, kCons_ev, ev_T, toB_ev, ev_and, ev_or, ev_not, kAnd_ev, kOr_ev, kNot_ev, ev_andV, ev_orV, ev_notV, kAndV_ev, kOrV_ev, kNotV_ev, ev_ife, kIfE_ev, ev_ch, kCh, tup_ev, lst_ev, call_ev, kw_ev, ev_kw, ev_fn, startE_0, startE_s, startE_c, fin_rt, fin_nx, fin_ex, fin_ite, ix_t0, ix_t1, ix_t2, ix_t3, ix_l0, ix_l1, ix_l2, len_l, len_t1, len_t2, len_t3, len_t4, beq_self_eq_true, ev_iL, ev_iT, asL_ev, asT_ev, ev_iA, ev_P, toI_ev, ev_P0, ev_sl, kSl_ev, put_1, gAdd_i, gSub_i, gMul_i, gDiv_p, gMod_p, gPow_l, gShl_l, gShr_l, gLt_i, gLe_i, gGt_i, gGe_i, gEq_i, gNe_i, gNeg_i, gAbs_i, gInt_i, gInt_b, gEq_s, gNe_s, gEq_b, gNe_b, gEq_2, gNe_2, gEq_3, gNe_3, gEq_22, gNe_22, DL.R.bind_ok, DL.R.bind_ex, ev_setL, kSetL_ev, ev_lDisp, kDisp_ev, ev_lList, lOf_l, lOf_t, ev_frz, frz_l, frz_d, frz_n, ev_lend, lend_l, lend_d, atom_i, atom_b, atom_s, ev_lendB, lendB_l, lendB_d, ev_app, app_l, kApp_ev, ev_put, put_l, ev_ixO, ixO_l, ixO_d, put_m, putAll_c, putAll_n, ev_lc, kLst_ev, ev_lcL, wipe_n, wipe_c, r1_2, r1_3, bits_ev, List.getElem?_cons_zero, List.getElem?_cons_succ, List.set_cons_zero, List.set_cons_succ, List.length_cons, List.length_nil, List.length_map, List.append_nil, List.cons_append, List.nil_append, ev_if, turn_nx, turn_ct, turn_bk, turn_rt, turn_ite, kWh_ev, isi_int_int, isi_bool_int, isi_int_bool, isi_bool_bool, isi_int_str, isi_int_none, isi_int_list, isi_int_tup, isi_bool_str, isi_bool_none, isi_bool_list, isi_bool_tup, isi_tup_tup, isi_tup_int, isi_tup_bool, isi_tup_str, isi_tup_none, isi_tup_list, isi_list_list, isi_list_tup, isi_list_int, isi_list_bool, isi_list_str, isi_list_none, isi_str_str, isi_str_int, isi_str_bool, isi_str_none, isi_str_list, isi_str_tup, decide_true, decide_false, not_true_eq_false, not_false_eq_true, ne_eq, decide_eq_true_eq, Bool.not_eq_true', decide_eq_false_iff_not, Bool.not_true, Bool.not_false, Bool.false_eq_true, if_true, if_false, reduceIte, e0, e1, e2, e3, e4, e5, e6, hA, hB, hN, w0, w1, w2, w3, c0, a1, low _ _ _ n0 bn0]
  by_cases c0 : B < 0
  · by_cases w2 : z2 % 6 = 2
    · obtain ⟨a', p1, p2, p3, el⟩ := side_loop_v2 (.int c) (.int k) d B N (.int 2) (by omega) hd2 ⟨q1.1, c0⟩ _ 1 (Nat.le_refl _) (by decide) (by decide)
      have ba' : Bd a' 100 := ⟨by
        have e : (2 : Nat) ^ 100 = 1267650600228229401496703205376 := by decide
        omega⟩
      have c2 : a' ≠ 0 := by omega
      refine ⟨_, _, _, ?_, side_of (a := a') (b := B) n0 (pos_loop hd (by omega) c0 p3) ba' bB100 bn0⟩
      simp +decide only [m_law_side_v2, den_law_side_v2, ev_seq, seq_nx, seq_rt, seq_ex, seq_bk, seq_ct, seq_ite, fl_ok, fl_ex, fl_ite, ev_set, kSet_ev, ev_ret, ev_retN, ev_nx, ev_bk, ev_ct, ev_raise, ev_if, kIf_ev, ev_drop, kNx_ev, ev_par, kPar_ev, kId_ev, ev_asg, kAsg_ev, ev_for, kFor_ev, ev_V, dVg_ok, ev_C, ev_1, ev_2, bind2_ok, bind2_ite1, bind2_ite2, bind_ite, ev_A, ev_nil, ev_cons, kCons_ev, ev_T, toB_ev, ev_and, ev_or, ev_not, kAnd_ev, kOr_ev, kNot_ev, ev_andV, ev_orV, ev_notV, kAndV_ev, kOrV_ev, kNotV_ev, ev_ife, kIfE_ev, ev_ch, kCh, tup_ev, lst_ev, call_ev, kw_ev, ev_kw, ev_fn, startE_0, startE_s, startE_c, fin_rt, fin_nx, fin_ex, fin_ite, ix_t0, ix_t1, ix_t2, ix_t3, ix_l0, ix_l1, ix_l2, len_l, len_t1, len_t2, len_t3, len_t4, beq_self_eq_true, ev_iL, ev_iT, asL_ev, asT_ev, ev_iA, ev_P, toI_ev, ev_P0, ev_sl, kSl_ev, put_1, gAdd_i, gSub_i, gMul_i, gDiv_p, gMod_p, gPow_l, gShl_l, gShr_l, gLt_i, gLe_i, gGt_i, gGe_i, gEq_i, gNe_i, gNeg_i, gAbs_i, gInt_i, gInt_b, gEq_s, gNe_s, gEq_b, gNe_b, gEq_2, gNe_2, gEq_3, gNe_3, gEq_22, gNe_22, DL.R.bind_ok, DL.R.bind_ex, ev_setL, kSetL_ev, ev_lDisp, kDisp_ev, ev_lList, lOf_l, lOf_t, ev_frz, frz_l, frz_d, frz_n, ev_lend, lend_l, lend_d, atom_i, atom_b, atom_s, ev_lendB, lendB_l, lendB_d, ev_app, app_l, kApp_ev, ev_put, put_l, ev_ixO, ixO_l, ixO_d, put_m, putAll_c, putAll_n, ev_lc, kLst_ev, ev_lcL, wipe_n, wipe_c, r1_2, r1_3, bits_ev, List.getElem?_cons_zero, List.getElem?_cons_succ, List.set_cons_zero, List.set_cons_succ, List.length_cons, List.length_nil, List.length_map, List.append_nil, List.cons_append, List.nil_append, ev_if, turn_nx, turn_ct, turn_bk, turn_rt, turn_ite, kWh_ev, isi_int_int, isi_bool_int, isi_int_bool, isi_bool_bool, isi_int_str, isi_int_none, isi_int_list, isi_int_tup, isi_bool_str, isi_bool_none, isi_bool_list, isi_bool_tup, isi_tup_tup, isi_tup_int, isi_tup_bool, isi_tup_str, isi_tup_none, isi_tup_list, isi_list_list, isi_list_tup, isi_list_int, isi_list_bool, isi_list_str, isi_list_none, isi_str_str, isi_str_int, isi_str_bool, isi_str_none, isi_str_list, isi_str_tup, decide_true, decide_false, not_true_eq_false, not_false_eq_true, ne_eq, decide_eq_true_eq, Bool.not_eq_true', decide_eq_false_iff_not, Bool.not_true, Bool.not_false, Bool.false_eq_true, if_true, if_false, reduceIte, e0, e1, e2, e3, e4, e5, e6, hA, hB, hN, w2, c0, el, c2, low _ _ _ n0 bn0]
    · exact neg c0 w2
  · by_cases w3 : z2 % 6 = 3
    · by_cases c1 : 0 < B
      · have c2 : 0 - B ≠ 0 := by omega
        have bm : Bd (0 - B) 100 := by rw [Int.zero_sub]; infer_instance
        refine ⟨_, _, _, ?_, side_of (a := 0 - B) (b := B) n0 (pos_three d2 c1) bm bB100 bn0⟩
        simp +decide only [m_law_side_v2, den_law_side_v2, ev_seq, seq_nx, seq_rt, seq_ex, seq_bk, seq_ct, seq_ite, fl_ok, fl_ex, fl_ite, ev_set, kSet_ev, ev_ret, ev_retN, ev_nx, ev_bk, ev_ct, ev_raise, ev_if, kIf_ev, ev_drop, kNx_ev, ev_par, kPar_ev, kId_ev, ev_asg, kAsg_ev, ev_for, kFor_ev, ev_V, dVg_ok, ev_C, ev_1, ev_2, bind2_ok, bind2_ite1, bind2_ite2, bind_ite, ev_A, ev_nil, ev_cons, kCons_ev, ev_T, toB_ev, ev_and, ev_or, ev_not, kAnd_ev, kOr_ev, kNot_ev, ev_andV, ev_orV, ev_notV, kAndV_ev, kOrV_ev, kNotV_ev, ev_ife, kIfE_ev, ev_ch, kCh, tup_ev, lst_ev, call_ev, kw_ev, ev_kw, ev_fn, startE_0, startE_s, startE_c, fin_rt, fin_nx, fin_ex, fin_ite, ix_t0, ix_t1, ix_t2, ix_t3, ix_l0, ix_l1, ix_l2, len_l, len_t1, len_t2, len_t3, len_t4, beq_self_eq_true, ev_iL, ev_iT, asL_ev, asT_ev, ev_iA, ev_P, toI_ev, ev_P0, ev_sl, kSl_ev, put_1, gAdd_i, gSub_i, gMul_i, gDiv_p, gMod_p, gPow_l, gShl_l, gShr_l, gLt_i, gLe_i, gGt_i, gGe_i, gEq_i, gNe_i, gNeg_i, gAbs_i, gInt_i, gInt_b, gEq_s, gNe_s, gEq_b, gNe_b, gEq_2, gNe_2, gEq_3, gNe_3, gEq_22, gNe_22, DL.R.bind_ok, DL.R.bind_ex, ev_setL, kSetL_ev, ev_lDisp, kDisp_ev, ev_lList, lOf_l, lOf_t, ev_frz, frz_l, frz_d, frz_n, ev_lend, lend_l, lend_d, atom_i, atom_b, atom_s, ev_lendB, lendB_l, lendB_d, ev_app, app_l, kApp_ev, ev_put, put_l, ev_ixO, ixO_l, ixO_d, put_m, putAll_c, putAll_n, ev_lc, kLst_ev, ev_lcL, wipe_n, wipe_c, r1_2, r1_3, bits_ev, List.getElem?_cons_zero, List.getElem?_cons_succ, List.set_cons_zero, List.set_cons_succ, List.length_cons, List.length_nil, List.length_map, List.append_nil, List.cons_append, List.nil_append, ev_if, turn_nx, turn_ct, turn_bk, turn_rt, turn_ite, kWh_ev, isi_int_int, isi_bool_int, isi_int_bool, isi_bool_bool, isi_int_str, isi_int_none, isi_int_list, isi_int_tup, isi_bool_str, isi_bool_none, isi_bool_list, isi_bool_tup, isi_tup_tup, isi_tup_int, isi_tup_bool, isi_tup_str, isi_tup_none, isi_tup_list, isi_list_list, isi_list_tup, isi_list_int, isi_list_bool, isi_list_str, isi_list_none, isi_str_str, isi_str_int, isi_str_bool, isi_str_none, isi_str_list, isi_str_tup, decide_true, decide_false, not_true_eq_false, not_false_eq_true, ne_eq, decide_eq_true_eq, Bool.not_eq_true', decide_eq_false_iff_not, Bool.not_true, Bool.not_false, Bool.false_eq_true, if_true, if_false, reduceIte, e0, e1, e2, e3, e4, e5, e6, hA, hB, hN, w3, c0, c1, c2, low _ _ _ n0 bn0]
      · exact plain c0 fun _ => c1
    · exact plain c0 fun w => absurd w w3
end DL

set_option Elab.async false
set_option linter.all false
set_option maxRecDepth 100000
set_option maxHeartbeats 1000000
set_option autoImplicit false
/-! heaps drawn -/
namespace DL
open PySem L2 MB
/-- x and y are the parts of a side -/
def SideQ (d : Int) (x y : Rat) : Prop := ∃ a b n : Int, Side d a b n ∧ x = (a : Rat) / n ∧ y = (b : Rat) / n
theorem SideQ.ln {d a b n : Int} (h : Side d a b n) : (PyData.tuple [.int a, .int b, .int n] : PD) = lnD ((a : Rat) / n) ((b : Rat) / n) := by
  have q := q_self h.low
  unfold lnD
  rw [q.1, q.2.1, q.2.2]
theorem SideQ.br {d : Int} {x y : Rat} (h : SideQ d x y) : BR x 100 31 ∧ BR y 100 31 := by
  obtain ⟨a, b, n, s, rfl, rfl⟩ := h
  have hn : n ≠ 0 := by have := s.low.1; omega
  exact ⟨br_frac hn s.ba s.bn, br_frac hn s.bb s.bn⟩
/-- a board of two sides -/
def BoardQ (d : Int) (b : Bo) : Prop := SideQ d b.x b.y ∧ SideQ d b.u b.v
theorem BoardQ.bb {d : Int} {b : Bo} (h : BoardQ d b) : BB b 100 31 := ⟨h.1.br.1, h.1.br.2, h.2.br.1, h.2.br.2⟩
/-- a comprehension whose elements have a property -/
theorem lcL_ex {i : Nat} {f : En → R PD} {ρ : En} (P : PD → Prop) : ∀ ds : List PD, (∀ d ∈ ds, ∃ y, f (ρ.set i (some (.d d))) = .ok y ∧ P y) → ∃ ys, lcL (.one i) bYes f ρ ds = .ok ys ∧ ys.length = ds.length ∧ ∀ y ∈ ys, P y
  | [], _ => ⟨[], rfl, rfl, fun _ h => by cases h⟩
  | d :: ds, h => by
    obtain ⟨y, e, p⟩ := h d List.mem_cons_self
    obtain ⟨ys, e2, l, ps⟩ := lcL_ex P ds fun d hd => h d (List.mem_cons_of_mem _ hd)
    exact ⟨y :: ys, lcL_1 e e2, by simp [l], fun z hz => by
      rcases List.mem_cons.mp hz with rfl | hz
      · exact p
      · exact ps z hz⟩
theorem map_of {α : Type} {g : α → PD} {P : α → Prop} : ∀ ys : List PD, (∀ y ∈ ys, ∃ a, y = g a ∧ P a) → ∃ as : List α, ys = as.map g ∧ ∀ a ∈ as, P a
  | [], _ => ⟨[], rfl, fun _ h => by cases h⟩
  | y :: ys, h => by
    obtain ⟨a, rfl, p⟩ := h y List.mem_cons_self
    obtain ⟨as, rfl, ps⟩ := map_of ys fun z hz => h z (List.mem_cons_of_mem _ hz)
    exact ⟨a :: as, rfl, fun z hz => by
      rcases List.mem_cons.mp hz with rfl | hz
      · exact p
      · exact ps z hz⟩
theorem law_heap_ok (zs : List Int) (d : Int) (hz : zs.length ≤ 1000000) (hd : Root d) (hd2 : d ≤ 99) [Bd d 7] : ∃ bs : List Bo, m_law_heap [.list (zs.map PyData.int), .int d] = .ok (.list (bs.map boD)) ∧ bs.length = zs.length ∧ ∀ b ∈ bs, BoardQ d b := by
  obtain ⟨ys, e, hl, hy⟩ := lcL_ex (i := 2) (f := le1_law_heap) (ρ := [some (.d (.list (zs.map PyData.int))), some (.d (.int d)), none]) (fun y => ∃ b : Bo, y = boD b ∧ BoardQ d b) (zs.map PyData.int) (by
    intro t ht
    obtain ⟨z, _, rfl⟩ := List.mem_map.mp ht
    obtain ⟨a, b, n, e1, s1⟩ := law_side_v2_ok z 0 d (by decide) (by decide) hd hd2
    obtain ⟨a', b', n', e2, s2⟩ := law_side_v2_ok z 20 d (by decide) (by decide) hd hd2
    refine ⟨_, ?_, ⟨(a : Rat) / n, (b : Rat) / n, (a' : Rat) / n', (b' : Rat) / n'⟩, rfl, ⟨a, b, n, s1, rfl, rfl⟩, ⟨a', b', n', s2, rfl, rfl⟩⟩
    simp +decide only [le1_law_heap, ev_seq, seq_nx, seq_rt, seq_ex, seq_bk, seq_ct, seq_ite, fl_ok, fl_ex, fl_ite, ev_set, kSet_ev, ev_ret, ev_retN, ev_nx, ev_bk, ev_ct, ev_raise, ev_if, kIf_ev, ev_drop, kNx_ev, ev_par, kPar_ev, kId_ev, ev_asg, kAsg_ev, ev_for, kFor_ev, ev_V, dVg_ok, ev_C, ev_1, ev_2, bind2_ok, bind2_ite1, bind2_ite2, bind_ite, ev_A, ev_nil, ev_cons, kCons_ev, ev_T, toB_ev, ev_and, ev_or, ev_not, kAnd_ev, kOr_ev, kNot_ev, ev_andV, ev_orV, ev_notV, kAndV_ev, kOrV_ev, kNotV_ev, ev_ife, kIfE_ev, ev_ch, kCh, tup_ev, lst_ev, call_ev, kw_ev, ev_kw, ev_fn, startE_0, startE_s, startE_c, fin_rt, fin_nx, fin_ex, fin_ite, ix_t0, ix_t1, ix_t2, ix_t3, ix_l0, ix_l1, ix_l2, len_l, len_t1, len_t2, len_t3, len_t4, beq_self_eq_true, ev_iL, ev_iT, asL_ev, asT_ev, ev_iA, ev_P, toI_ev, ev_P0, ev_sl, kSl_ev, put_1, gAdd_i, gSub_i, gMul_i, gDiv_p, gMod_p, gPow_l, gShl_l, gShr_l, gLt_i, gLe_i, gGt_i, gGe_i, gEq_i, gNe_i, gNeg_i, gAbs_i, gInt_i, gInt_b, gEq_s, gNe_s, gEq_b, gNe_b, gEq_2, gNe_2, gEq_3, gNe_3, gEq_22, gNe_22, DL.R.bind_ok, DL.R.bind_ex, ev_setL, kSetL_ev, ev_lDisp, kDisp_ev, ev_lList, lOf_l, lOf_t, ev_frz, frz_l, frz_d, frz_n, ev_lend, lend_l, lend_d, atom_i, atom_b, atom_s, ev_lendB, lendB_l, lendB_d, ev_app, app_l, kApp_ev, ev_put, put_l, ev_ixO, ixO_l, ixO_d, put_m, putAll_c, putAll_n, ev_lc, kLst_ev, ev_lcL, wipe_n, wipe_c, r1_2, r1_3, bits_ev, List.getElem?_cons_zero, List.getElem?_cons_succ, List.set_cons_zero, List.set_cons_succ, List.length_cons, List.length_nil, List.length_map, List.append_nil, List.cons_append, List.nil_append, ev_if, turn_nx, turn_ct, turn_bk, turn_rt, turn_ite, kWh_ev, isi_int_int, isi_bool_int, isi_int_bool, isi_bool_bool, isi_int_str, isi_int_none, isi_int_list, isi_int_tup, isi_bool_str, isi_bool_none, isi_bool_list, isi_bool_tup, isi_tup_tup, isi_tup_int, isi_tup_bool, isi_tup_str, isi_tup_none, isi_tup_list, isi_list_list, isi_list_tup, isi_list_int, isi_list_bool, isi_list_str, isi_list_none, isi_str_str, isi_str_int, isi_str_bool, isi_str_none, isi_str_list, isi_str_tup, decide_true, decide_false, not_true_eq_false, not_false_eq_true, ne_eq, decide_eq_true_eq, Bool.not_eq_true', decide_eq_false_iff_not, Bool.not_true, Bool.not_false, Bool.false_eq_true, if_true, if_false, reduceIte, e1, e2, SideQ.ln s1, SideQ.ln s2])
  obtain ⟨bs, rfl, hb⟩ := map_of ys hy
  refine ⟨bs, ?_, by simpa using hl, hb⟩
  have hz' : (zs.map PyData.int).length ≤ 1000000 := by simpa using hz
  simp +decide only [m_law_heap, den_law_heap, ev_seq, seq_nx, seq_rt, seq_ex, seq_bk, seq_ct, seq_ite, fl_ok, fl_ex, fl_ite, ev_set, kSet_ev, ev_ret, ev_retN, ev_nx, ev_bk, ev_ct, ev_raise, ev_if, kIf_ev, ev_drop, kNx_ev, ev_par, kPar_ev, kId_ev, ev_asg, kAsg_ev, ev_for, kFor_ev, ev_V, dVg_ok, ev_C, ev_1, ev_2, bind2_ok, bind2_ite1, bind2_ite2, bind_ite, ev_A, ev_nil, ev_cons, kCons_ev, ev_T, toB_ev, ev_and, ev_or, ev_not, kAnd_ev, kOr_ev, kNot_ev, ev_andV, ev_orV, ev_notV, kAndV_ev, kOrV_ev, kNotV_ev, ev_ife, kIfE_ev, ev_ch, kCh, tup_ev, lst_ev, call_ev, kw_ev, ev_kw, ev_fn, startE_0, startE_s, startE_c, fin_rt, fin_nx, fin_ex, fin_ite, ix_t0, ix_t1, ix_t2, ix_t3, ix_l0, ix_l1, ix_l2, len_l, len_t1, len_t2, len_t3, len_t4, beq_self_eq_true, ev_iL, ev_iT, asL_ev, asT_ev, ev_iA, ev_P, toI_ev, ev_P0, ev_sl, kSl_ev, put_1, gAdd_i, gSub_i, gMul_i, gDiv_p, gMod_p, gPow_l, gShl_l, gShr_l, gLt_i, gLe_i, gGt_i, gGe_i, gEq_i, gNe_i, gNeg_i, gAbs_i, gInt_i, gInt_b, gEq_s, gNe_s, gEq_b, gNe_b, gEq_2, gNe_2, gEq_3, gNe_3, gEq_22, gNe_22, DL.R.bind_ok, DL.R.bind_ex, ev_setL, kSetL_ev, ev_lDisp, kDisp_ev, ev_lList, lOf_l, lOf_t, ev_frz, frz_l, frz_d, frz_n, ev_lend, lend_l, lend_d, atom_i, atom_b, atom_s, ev_lendB, lendB_l, lendB_d, ev_app, app_l, kApp_ev, ev_put, put_l, ev_ixO, ixO_l, ixO_d, put_m, putAll_c, putAll_n, ev_lc, kLst_ev, ev_lcL, wipe_n, wipe_c, r1_2, r1_3, bits_ev, List.getElem?_cons_zero, List.getElem?_cons_succ, List.set_cons_zero, List.set_cons_succ, List.length_cons, List.length_nil, List.length_map, List.append_nil, List.cons_append, List.nil_append, ev_if, turn_nx, turn_ct, turn_bk, turn_rt, turn_ite, kWh_ev, isi_int_int, isi_bool_int, isi_int_bool, isi_bool_bool, isi_int_str, isi_int_none, isi_int_list, isi_int_tup, isi_bool_str, isi_bool_none, isi_bool_list, isi_bool_tup, isi_tup_tup, isi_tup_int, isi_tup_bool, isi_tup_str, isi_tup_none, isi_tup_list, isi_list_list, isi_list_tup, isi_list_int, isi_list_bool, isi_list_str, isi_list_none, isi_str_str, isi_str_int, isi_str_bool, isi_str_none, isi_str_list, isi_str_tup, decide_true, decide_false, not_true_eq_false, not_false_eq_true, ne_eq, decide_eq_true_eq, Bool.not_eq_true', decide_eq_false_iff_not, Bool.not_true, Bool.not_false, Bool.false_eq_true, if_true, if_false, reduceIte, kLcL_ev hz', e]
/-! measures -/
theorem measured_eq (f g x y : Rat) [BR f 100 10] [BR g 100 10] [BR x 110 40] [BR y 110 40] : m_measured [.tuple [frD f, frD g], lnD x y] = .ok (frD (f * x + g * y)) := by
  have p := parts_ln x y (by decide)
  have e1 := times_fr f x (by decide) (by decide) (by decide)
  have e2 := times_fr g y (by decide) (by decide) (by decide)
  have e3 := plus_fr (f * x) (g * y) (by decide) (by decide) (by decide)
  simp +decide only [m_measured, den_measured, ev_seq, seq_nx, seq_rt, seq_ex, seq_bk, seq_ct, seq_ite, fl_ok, fl_ex, fl_ite, ev_set, kSet_ev, ev_ret, ev_retN, ev_nx, ev_bk, ev_ct, ev_raise, ev_if, kIf_ev, ev_drop, kNx_ev, ev_par, kPar_ev, kId_ev, ev_asg, kAsg_ev, ev_for, kFor_ev, ev_V, dVg_ok, ev_C, ev_1, ev_2, bind2_ok, bind2_ite1, bind2_ite2, bind_ite, ev_A, ev_nil, ev_cons, kCons_ev, ev_T, toB_ev, ev_and, ev_or, ev_not, kAnd_ev, kOr_ev, kNot_ev, ev_andV, ev_orV, ev_notV, kAndV_ev, kOrV_ev, kNotV_ev, ev_ife, kIfE_ev, ev_ch, kCh, tup_ev, lst_ev, call_ev, kw_ev, ev_kw, ev_fn, startE_0, startE_s, startE_c, fin_rt, fin_nx, fin_ex, fin_ite, ix_t0, ix_t1, ix_t2, ix_t3, ix_l0, ix_l1, ix_l2, len_l, len_t1, len_t2, len_t3, len_t4, beq_self_eq_true, ev_iL, ev_iT, asL_ev, asT_ev, ev_iA, ev_P, toI_ev, ev_P0, ev_sl, kSl_ev, put_1, gAdd_i, gSub_i, gMul_i, gDiv_p, gMod_p, gPow_l, gShl_l, gShr_l, gLt_i, gLe_i, gGt_i, gGe_i, gEq_i, gNe_i, gNeg_i, gAbs_i, gInt_i, gInt_b, gEq_s, gNe_s, gEq_b, gNe_b, gEq_2, gNe_2, gEq_3, gNe_3, gEq_22, gNe_22, DL.R.bind_ok, DL.R.bind_ex, ev_setL, kSetL_ev, ev_lDisp, kDisp_ev, ev_lList, lOf_l, lOf_t, ev_frz, frz_l, frz_d, frz_n, ev_lend, lend_l, lend_d, atom_i, atom_b, atom_s, ev_lendB, lendB_l, lendB_d, ev_app, app_l, kApp_ev, ev_put, put_l, ev_ixO, ixO_l, ixO_d, put_m, putAll_c, putAll_n, ev_lc, kLst_ev, ev_lcL, wipe_n, wipe_c, r1_2, r1_3, bits_ev, List.getElem?_cons_zero, List.getElem?_cons_succ, List.set_cons_zero, List.set_cons_succ, List.length_cons, List.length_nil, List.length_map, List.append_nil, List.cons_append, List.nil_append, ev_if, turn_nx, turn_ct, turn_bk, turn_rt, turn_ite, kWh_ev, isi_int_int, isi_bool_int, isi_int_bool, isi_bool_bool, isi_int_str, isi_int_none, isi_int_list, isi_int_tup, isi_bool_str, isi_bool_none, isi_bool_list, isi_bool_tup, isi_tup_tup, isi_tup_int, isi_tup_bool, isi_tup_str, isi_tup_none, isi_tup_list, isi_list_list, isi_list_tup, isi_list_int, isi_list_bool, isi_list_str, isi_list_none, isi_str_str, isi_str_int, isi_str_bool, isi_str_none, isi_str_list, isi_str_tup, decide_true, decide_false, not_true_eq_false, not_false_eq_true, ne_eq, decide_eq_true_eq, Bool.not_eq_true', decide_eq_false_iff_not, Bool.not_true, Bool.not_false, Bool.false_eq_true, if_true, if_false, reduceIte, p, e1, e2, e3]
/-- what a table is worth -/
def wth (f g r s : Rat) (t : Tab) : Rat := 0 + f * t.a * r + f * t.b * s + g * t.c * r + g * t.d * s
theorem worth_eq (f g r s : Rat) (t : Tab) [BR f 100 10] [BR g 100 10] [BR r 100 10] [BR s 100 10] {n m : Nat} [i : BT t n m] (hm : m ≤ 1500) (hn : n ≤ 10000000) : m_worth [.tuple [frD f, frD g], .tuple [frD r, frD s], tabD t] = .ok (frD (wth f g r s t)) := by
  have ia := i.a
  have ib := i.b
  have ic := i.c
  have id := i.d
  have z : (c_NOUGHT : PD) = frD 0 := rfl
  have a1 := times_fr f t.a (by omega) (by decide) (by omega)
  have a2 := times_fr (f * t.a) r (by omega) (by omega) (by decide)
  have a3 := plus_fr 0 (f * t.a * r) (by omega) (by decide) (by omega)
  have b1 := times_fr f t.b (by omega) (by decide) (by omega)
  have b2 := times_fr (f * t.b) s (by omega) (by omega) (by decide)
  have b3 := plus_fr (0 + f * t.a * r) (f * t.b * s) (by omega) (by omega) (by omega)
  have c1 := times_fr g t.c (by omega) (by decide) (by omega)
  have c2 := times_fr (g * t.c) r (by omega) (by omega) (by decide)
  have c3 := plus_fr (0 + f * t.a * r + f * t.b * s) (g * t.c * r) (by omega) (by omega) (by omega)
  have d1 := times_fr g t.d (by omega) (by decide) (by omega)
  have d2 := times_fr (g * t.d) s (by omega) (by omega) (by decide)
  have d3 := plus_fr (0 + f * t.a * r + f * t.b * s + g * t.c * r) (g * t.d * s) (by omega) (by omega) (by omega)
  simp +decide only [m_worth, den_worth, lb2_worth, lb1_worth, ev_seq, seq_nx, seq_rt, seq_ex, seq_bk, seq_ct, seq_ite, fl_ok, fl_ex, fl_ite, ev_set, kSet_ev, ev_ret, ev_retN, ev_nx, ev_bk, ev_ct, ev_raise, ev_if, kIf_ev, ev_drop, kNx_ev, ev_par, kPar_ev, kId_ev, ev_asg, kAsg_ev, ev_for, kFor_ev, ev_V, dVg_ok, ev_C, ev_1, ev_2, bind2_ok, bind2_ite1, bind2_ite2, bind_ite, ev_A, ev_nil, ev_cons, kCons_ev, ev_T, toB_ev, ev_and, ev_or, ev_not, kAnd_ev, kOr_ev, kNot_ev, ev_andV, ev_orV, ev_notV, kAndV_ev, kOrV_ev, kNotV_ev, ev_ife, kIfE_ev, ev_ch, kCh, tup_ev, lst_ev, call_ev, kw_ev, ev_kw, ev_fn, startE_0, startE_s, startE_c, fin_rt, fin_nx, fin_ex, fin_ite, ix_t0, ix_t1, ix_t2, ix_t3, ix_l0, ix_l1, ix_l2, len_l, len_t1, len_t2, len_t3, len_t4, beq_self_eq_true, ev_iL, ev_iT, asL_ev, asT_ev, ev_iA, ev_P, toI_ev, ev_P0, ev_sl, kSl_ev, put_1, gAdd_i, gSub_i, gMul_i, gDiv_p, gMod_p, gPow_l, gShl_l, gShr_l, gLt_i, gLe_i, gGt_i, gGe_i, gEq_i, gNe_i, gNeg_i, gAbs_i, gInt_i, gInt_b, gEq_s, gNe_s, gEq_b, gNe_b, gEq_2, gNe_2, gEq_3, gNe_3, gEq_22, gNe_22, DL.R.bind_ok, DL.R.bind_ex, ev_setL, kSetL_ev, ev_lDisp, kDisp_ev, ev_lList, lOf_l, lOf_t, ev_frz, frz_l, frz_d, frz_n, ev_lend, lend_l, lend_d, atom_i, atom_b, atom_s, ev_lendB, lendB_l, lendB_d, ev_app, app_l, kApp_ev, ev_put, put_l, ev_ixO, ixO_l, ixO_d, put_m, putAll_c, putAll_n, ev_lc, kLst_ev, ev_lcL, wipe_n, wipe_c, r1_2, r1_3, bits_ev, List.getElem?_cons_zero, List.getElem?_cons_succ, List.set_cons_zero, List.set_cons_succ, List.length_cons, List.length_nil, List.length_map, List.append_nil, List.cons_append, List.nil_append, ev_if, turn_nx, turn_ct, turn_bk, turn_rt, turn_ite, kWh_ev, isi_int_int, isi_bool_int, isi_int_bool, isi_bool_bool, isi_int_str, isi_int_none, isi_int_list, isi_int_tup, isi_bool_str, isi_bool_none, isi_bool_list, isi_bool_tup, isi_tup_tup, isi_tup_int, isi_tup_bool, isi_tup_str, isi_tup_none, isi_tup_list, isi_list_list, isi_list_tup, isi_list_int, isi_list_bool, isi_list_str, isi_list_none, isi_str_str, isi_str_int, isi_str_bool, isi_str_none, isi_str_list, isi_str_tup, decide_true, decide_false, not_true_eq_false, not_false_eq_true, ne_eq, decide_eq_true_eq, Bool.not_eq_true', decide_eq_false_iff_not, Bool.not_true, Bool.not_false, Bool.false_eq_true, if_true, if_false, reduceIte, forL_1, forL_nil, z, a1, a2, a3, b1, b2, b3, c1, c2, c3, d1, d2, d3]
  rfl
end DL

set_option Elab.async false
set_option linter.all false
set_option maxRecDepth 100000
set_option maxHeartbeats 1000000
set_option autoImplicit false
namespace DL
open PySem L2 MB
/-! data that is plain and shallow -/
def FineD (k : Nat) (v : PD) : Prop := v.canLay0 = true ∧ v.depth ≤ k ∧ plain v = true
theorem fineD_list {k : Nat} : ∀ (vs : List PD), (∀ v ∈ vs, FineD k v) → PyData.canLayAll0 vs = true ∧ PyData.depthAll vs ≤ k ∧ plainA vs = true
  | [], _ => ⟨rfl, Nat.zero_le _, rfl⟩
  | v :: vs, h => by
    have a := h v (List.mem_cons_self ..)
    have b := fineD_list vs (fun u hu => h u (List.mem_cons_of_mem _ hu))
    refine ⟨?_, ?_, ?_⟩
    · simp [PyData.canLayAll0, a.1, b.1]
    · simp only [PyData.depthAll]
      have := a.2.1
      have := b.2.1
      omega
    · simp [plainA, a.2.2, b.2.2]
theorem fineD_l {vs : List PD} {k : Nat} (h : ∀ v ∈ vs, FineD k v) (hk : k ≤ 60) : FineD (k + 1) (.list vs) ∧ SeqAt.shaped (.list vs) = true := by
  have f := fineD_list vs h
  have c : (PyData.list vs).canLay0 = true := by simp only [PyData.canLay0]; exact f.1
  have d : (PyData.list vs).depth ≤ k + 1 := by simp only [PyData.depth]; have := f.2.1; omega
  have p : plain (.list vs) = true := by simpa [plain] using f.2.2
  refine ⟨⟨c, d, p⟩, ?_⟩
  unfold SeqAt.shaped
  rw [c, decide_eq_true (show (PyData.list vs).depth ≤ 64 by omega)]
  rfl
theorem fineD_t {vs : List PD} {k : Nat} (h : ∀ v ∈ vs, FineD k v) (hk : k ≤ 60) : FineD (k + 1) (.tuple vs) ∧ SeqAt.shaped (.tuple vs) = true := by
  have f := fineD_list vs h
  have c : (PyData.tuple vs).canLay0 = true := by simp only [PyData.canLay0]; exact f.1
  have d : (PyData.tuple vs).depth ≤ k + 1 := by simp only [PyData.depth]; have := f.2.1; omega
  have p : plain (.tuple vs) = true := by simpa [plain] using f.2.2
  refine ⟨⟨c, d, p⟩, ?_⟩
  unfold SeqAt.shaped
  rw [c, decide_eq_true (show (PyData.tuple vs).depth ≤ 64 by omega)]
  rfl
theorem fineD_int {i : Int} : FineD 1 (.int i) := ⟨rfl, by simp [PyData.depth], rfl⟩
theorem fineD_bo (b : Bo) : FineD 5 (boD b) := ⟨rfl, by simp [PyData.depth, PyData.depthAll, lnD], rfl⟩
theorem fineD_tab (t : Tab) : FineD 5 (tabD t) := ⟨rfl, by simp [PyData.depth, PyData.depthAll, frD, tabD], rfl⟩
theorem gEq_lrefl {vs : List PD} {k : Nat} (h : ∀ v ∈ vs, FineD k v) (hk : k ≤ 60) : gEq (.list vs) (.list vs) = .ok (.bool true) := by
  obtain ⟨⟨_, _, p⟩, s⟩ := fineD_l h hk
  exact gEq_l s s ((eqv_plain _ _ p p).mpr rfl)
theorem gNe_lrefl {vs : List PD} {k : Nat} (h : ∀ v ∈ vs, FineD k v) (hk : k ≤ 60) : gNe (.list vs) (.list vs) = .ok (.bool false) := by
  obtain ⟨⟨_, _, p⟩, s⟩ := fineD_l h hk
  exact gNe_l s s ((eqv_plain _ _ p p).mpr rfl)
theorem gEq_trefl {vs : List PD} {k : Nat} (h : ∀ v ∈ vs, FineD k v) (hk : k ≤ 60) : gEq (.tuple vs) (.tuple vs) = .ok (.bool true) := by
  obtain ⟨⟨_, _, p⟩, s⟩ := fineD_t h hk
  exact gEq_t s s ((eqv_plain _ _ p p).mpr rfl)
theorem gNe_trefl {vs : List PD} {k : Nat} (h : ∀ v ∈ vs, FineD k v) (hk : k ≤ 60) : gNe (.tuple vs) (.tuple vs) = .ok (.bool false) := by
  obtain ⟨⟨_, _, p⟩, s⟩ := fineD_t h hk
  exact gNe_t s s ((eqv_plain _ _ p p).mpr rfl)
theorem fine_bos (bs : List Bo) : ∀ v ∈ bs.map boD, FineD 5 v := fun v hv => by
  obtain ⟨b, _, rfl⟩ := List.mem_map.mp hv
  exact fineD_bo b
/-! lists of lists -/
theorem put2_ev {i k j : Nat} {xss : List (List PD)} {xs : List PD} {fk fj fe : En → R PD} {d : PD} {ρ : En} {z y : Int} (h : ρ[i]? = some (some (.ll xss))) (he : fe ρ = .ok d) (hk : fk ρ = .ok (.int z)) (hz : atI xss z = some xs) (hz2 : ixN xss.length z = some k) (hj : fj ρ = .ok (.int y)) (hy : ixN xs.length y = some j) :
    sPut2 i fk fj fe ρ = .nx (ρ.set i (some (.ll (xss.set k (xs.set j d))))) := by
  unfold sPut2 sE
  simp only [h, he, hk, hz, hj, hy, hz2, Option.getD_some]
theorem ix2_ev {i : Nat} {xss : List (List PD)} {xs : List PD} {fk fj : En → R PD} {d : PD} {ρ : En} {z y : Int} (h : ρ[i]? = some (some (.ll xss))) (hk : fk ρ = .ok (.int z)) (hz : atI xss z = some xs) (hj : fj ρ = .ok (.int y)) (hy : atI xs y = some d) : dIx2 i fk fj ρ = .ok d := by
  unfold dIx2
  simp only [h, hk, hz, hj, hy, R.bind_ok]
theorem ev_setLL {i : Nat} {f : En → R (List (List PD))} {ρ : En} {xss : List (List PD)} (h : f ρ = .ok xss) : sSetLL i f ρ = .nx (ρ.set i (some (.ll xss))) := by
  unfold sSetLL sE
  rw [h]
theorem ev_frzLL {i : Nat} {g : En → Fl} {ρ : En} {xss : List (List PD)} (h : ρ[i]? = some (some (.ll xss))) : sFrzLL i g ρ = g (ρ.set i (some (.d (.list (xss.map .list))))) := by
  unfold sFrzLL
  rw [h]
/-! the places, by the law -/
abbrev plL (t : Tab) : SV := .ll [[frD t.a, frD t.b], [frD t.c, frD t.d]]
abbrev plD (t : Tab) : PD := .list [.list [frD t.a, frD t.b], .list [frD t.c, frD t.d]]
theorem law_add_fr (p q x y : Rat) {n m k1 k2 k3 k4 : Nat} [BR p n m] (A B C D : Int) [Bd A k1] [Bd B k2] [Bd C k3] [Bd D k4] (hC : C ≠ 0) (hD : D ≠ 0) (hx : (A : Rat) = x * C) (hy : (B : Rat) = y * D) (h : m + (k3 + k4) ≤ 9000) (h1 : n + (k3 + k4) ≤ 134217728) (h2 : k1 + k2 + m ≤ 134217728) :
    m_law_add [frD p, .tuple [.int (A * B), .int (C * D)]] = .ok (frD (p + x * y)) := by
  have hpn : (p.den : Int) ≠ 0 := by have := p.den_nz; omega
  have hCD : C * D ≠ 0 := Int.mul_ne_zero hC hD
  have e := law_add_eq p.num p.den (A * B) (C * D) hpn hCD h h1 h2
  have w : ((A * B : Int) : Rat) / ((C * D : Int) : Rat) = x * y := by
    have c1 := ratne hC
    have c2 := ratne hD
    simp only [Rat.intCast_mul]
    rw [hx, hy]
    grind
  rw [num_div, w] at e
  exact e
def Tab.addAt (t : Tab) (b : Bo) : Tab := t.add b.tab
theorem places_body (t : Tab) (b : Bo) (h0 : PD) (x4 x5 : Option SV) {n m k l : Nat} [i : BT t n m] [j : BB b k l] (h : m + 4 * l ≤ 9000) (h1 : n + 4 * (k + l) ≤ 100000000) (h2 : k + l + (k + l) + m ≤ 100000000) :
    lb3_law_places [some (.d h0), some (plL t), some (.d (lnD b.x b.y)), some (.d (lnD b.u b.v)), x4, x5] = .nx [some (.d h0), some (plL (t.add b.tab)), some (.d (lnD b.x b.y)), some (.d (lnD b.u b.v)), some (.d (.int 1)), some (.d (.int 1))] := by
  have ba := i.a; have bb := i.b; have bc := i.c; have bd := i.d
  have bx := j.x; have by_ := j.y; have bu := j.u; have bv := j.v
  have n1 := qN_pos b.x b.y
  have n2 := qN_pos b.u b.v
  have v1 := q_val b.x b.y
  have v2 := q_val b.u b.v
  have hn1 : qN b.x b.y ≠ 0 := by omega
  have hn2 : qN b.u b.v ≠ 0 := by omega
  have e1 := law_add_fr t.a 0 b.x b.u (qA b.x b.y) (qA b.u b.v) (qN b.x b.y) (qN b.u b.v) hn1 hn2 v1.1 v2.1 (show m + (l + l + (l + l)) ≤ 9000 by omega) (by omega) (by omega)
  have e2 := law_add_fr t.b 0 b.x b.v (qA b.x b.y) (qB b.u b.v) (qN b.x b.y) (qN b.u b.v) hn1 hn2 v1.1 v2.2 (show m + (l + l + (l + l)) ≤ 9000 by omega) (by omega) (by omega)
  have e3 := law_add_fr t.c 0 b.y b.u (qB b.x b.y) (qA b.u b.v) (qN b.x b.y) (qN b.u b.v) hn1 hn2 v1.2 v2.1 (show m + (l + l + (l + l)) ≤ 9000 by omega) (by omega) (by omega)
  have e4 := law_add_fr t.d 0 b.y b.v (qB b.x b.y) (qB b.u b.v) (qN b.x b.y) (qN b.u b.v) hn1 hn2 v1.2 v2.2 (show m + (l + l + (l + l)) ≤ 9000 by omega) (by omega) (by omega)
  have i1 : k + l + (k + l) ≤ 134217728 := by omega
  have i2 : l + l + (l + l) ≤ 134217728 := by omega
  have at2 : ∀ {α : Type} (x y : α), atI [x, y] (0 : Int) = some x ∧ atI [x, y] (1 : Int) = some y := fun _ _ => ⟨rfl, rfl⟩
  have s1 (p q r s : PD) : lb1_law_places [some (.d h0), some (.ll [[p, q], [r, s]]), some (.d (lnD b.x b.y)), some (.d (lnD b.u b.v)), some (.d (.int 0)), some (.d (.int 0))] = sPut2 1 (dV 4) (dV 5) (dA (gCall 2 [] m_law_add) (dCons (dIx2 1 (dV 4) (dV 5)) (dCons (dA gTupD (dCons (d2 gMul (d2 gIx (dV 2) (dV 4)) (d2 gIx (dV 3) (dV 5))) (dCons (d2 gMul (d2 gIx (dV 2) (dC (.int 2))) (d2 gIx (dV 3) (dC (.int 2)))) (dNil)))) (dNil)))) [some (.d h0), some (.ll [[p, q], [r, s]]), some (.d (lnD b.x b.y)), some (.d (lnD b.u b.v)), some (.d (.int 0)), some (.d (.int 0))] := rfl
  have p1 (q r s : PD) : lb1_law_places [some (.d h0), some (.ll [[frD t.a, q], [r, s]]), some (.d (lnD b.x b.y)), some (.d (lnD b.u b.v)), some (.d (.int 0)), some (.d (.int 0))] = .nx [some (.d h0), some (.ll [[frD (t.a + b.x * b.u), q], [r, s]]), some (.d (lnD b.x b.y)), some (.d (lnD b.u b.v)), some (.d (.int 0)), some (.d (.int 0))] := by
    unfold lb1_law_places
    refine Eq.trans (put2_ev (xss := [[frD t.a, q], [r, s]]) (xs := [frD t.a, q]) (k := 0) (j := 0) (z := 0) (y := 0) (d := frD (t.a + b.x * b.u)) ?_ ?_ ?_ ?_ ?_ ?_ ?_) rfl
    · rfl
    · have x := ix2_ev (i := 1) (fk := dV 4) (fj := dV 5) (ρ := [some (.d h0), some (.ll [[frD t.a, q], [r, s]]), some (.d (lnD b.x b.y)), some (.d (lnD b.u b.v)), some (.d (.int 0)), some (.d (.int 0))]) rfl rfl rfl rfl rfl
      simp +decide only [ev_seq, seq_nx, seq_rt, seq_ex, seq_bk, seq_ct, seq_ite, fl_ok, fl_ex, fl_ite, ev_set, kSet_ev, ev_ret, ev_retN, ev_nx, ev_bk, ev_ct, ev_raise, ev_if, kIf_ev, ev_drop, kNx_ev, ev_par, kPar_ev, kId_ev, ev_asg, kAsg_ev, ev_for, kFor_ev, ev_V, dVg_ok, ev_C, ev_1, ev_2, bind2_ok, bind2_ite1, bind2_ite2, bind_ite, ev_A, ev_nil, ev_cons, kCons_ev, ev_T, toB_ev, ev_and, ev_or, ev_not, kAnd_ev, kOr_ev, kNot_ev, ev_andV, ev_orV, ev_notV, kAndV_ev, kOrV_ev, kNotV_ev, ev_ife, kIfE_ev, ev_ch, kCh, tup_ev, lst_ev, call_ev, kw_ev, ev_kw, ev_fn, startE_0, startE_s, startE_c, fin_rt, fin_nx, fin_ex, fin_ite, ix_t0, ix_t1, ix_t2, ix_t3, ix_l0, ix_l1, ix_l2, len_l, len_t1, len_t2, len_t3, len_t4, beq_self_eq_true, ev_iL, ev_iT, asL_ev, asT_ev, ev_iA, ev_P, toI_ev, ev_P0, ev_sl, kSl_ev, put_1, gAdd_i, gSub_i, gMul_i, gDiv_p, gMod_p, gPow_l, gShl_l, gShr_l, gLt_i, gLe_i, gGt_i, gGe_i, gEq_i, gNe_i, gNeg_i, gAbs_i, gInt_i, gInt_b, gEq_s, gNe_s, gEq_b, gNe_b, gEq_2, gNe_2, gEq_3, gNe_3, gEq_22, gNe_22, DL.R.bind_ok, DL.R.bind_ex, ev_setL, kSetL_ev, ev_lDisp, kDisp_ev, ev_lList, lOf_l, lOf_t, ev_frz, frz_l, frz_d, frz_n, ev_lend, lend_l, lend_d, atom_i, atom_b, atom_s, ev_lendB, lendB_l, lendB_d, ev_app, app_l, kApp_ev, ev_put, put_l, ev_ixO, ixO_l, ixO_d, put_m, putAll_c, putAll_n, ev_lc, kLst_ev, ev_lcL, wipe_n, wipe_c, r1_2, r1_3, bits_ev, List.getElem?_cons_zero, List.getElem?_cons_succ, List.set_cons_zero, List.set_cons_succ, List.length_cons, List.length_nil, List.length_map, List.append_nil, List.cons_append, List.nil_append, ev_if, turn_nx, turn_ct, turn_bk, turn_rt, turn_ite, kWh_ev, isi_int_int, isi_bool_int, isi_int_bool, isi_bool_bool, isi_int_str, isi_int_none, isi_int_list, isi_int_tup, isi_bool_str, isi_bool_none, isi_bool_list, isi_bool_tup, isi_tup_tup, isi_tup_int, isi_tup_bool, isi_tup_str, isi_tup_none, isi_tup_list, isi_list_list, isi_list_tup, isi_list_int, isi_list_bool, isi_list_str, isi_list_none, isi_str_str, isi_str_int, isi_str_bool, isi_str_none, isi_str_list, isi_str_tup, decide_true, decide_false, not_true_eq_false, not_false_eq_true, ne_eq, decide_eq_true_eq, Bool.not_eq_true', decide_eq_false_iff_not, Bool.not_true, Bool.not_false, Bool.false_eq_true, if_true, if_false, reduceIte, x, i1, i2, e1]
    · rfl
    · rfl
    · rfl
    · rfl
    · rfl
  have p2 (p r s : PD) : lb1_law_places [some (.d h0), some (.ll [[p, frD t.b], [r, s]]), some (.d (lnD b.x b.y)), some (.d (lnD b.u b.v)), some (.d (.int 0)), some (.d (.int 1))] = .nx [some (.d h0), some (.ll [[p, frD (t.b + b.x * b.v)], [r, s]]), some (.d (lnD b.x b.y)), some (.d (lnD b.u b.v)), some (.d (.int 0)), some (.d (.int 1))] := by
    unfold lb1_law_places
    refine Eq.trans (put2_ev (xss := [[p, frD t.b], [r, s]]) (xs := [p, frD t.b]) (k := 0) (j := 1) (z := 0) (y := 1) (d := frD (t.b + b.x * b.v)) ?_ ?_ ?_ ?_ ?_ ?_ ?_) rfl
    · rfl
    · have x := ix2_ev (i := 1) (fk := dV 4) (fj := dV 5) (ρ := [some (.d h0), some (.ll [[p, frD t.b], [r, s]]), some (.d (lnD b.x b.y)), some (.d (lnD b.u b.v)), some (.d (.int 0)), some (.d (.int 1))]) rfl rfl rfl rfl rfl
      simp +decide only [ev_seq, seq_nx, seq_rt, seq_ex, seq_bk, seq_ct, seq_ite, fl_ok, fl_ex, fl_ite, ev_set, kSet_ev, ev_ret, ev_retN, ev_nx, ev_bk, ev_ct, ev_raise, ev_if, kIf_ev, ev_drop, kNx_ev, ev_par, kPar_ev, kId_ev, ev_asg, kAsg_ev, ev_for, kFor_ev, ev_V, dVg_ok, ev_C, ev_1, ev_2, bind2_ok, bind2_ite1, bind2_ite2, bind_ite, ev_A, ev_nil, ev_cons, kCons_ev, ev_T, toB_ev, ev_and, ev_or, ev_not, kAnd_ev, kOr_ev, kNot_ev, ev_andV, ev_orV, ev_notV, kAndV_ev, kOrV_ev, kNotV_ev, ev_ife, kIfE_ev, ev_ch, kCh, tup_ev, lst_ev, call_ev, kw_ev, ev_kw, ev_fn, startE_0, startE_s, startE_c, fin_rt, fin_nx, fin_ex, fin_ite, ix_t0, ix_t1, ix_t2, ix_t3, ix_l0, ix_l1, ix_l2, len_l, len_t1, len_t2, len_t3, len_t4, beq_self_eq_true, ev_iL, ev_iT, asL_ev, asT_ev, ev_iA, ev_P, toI_ev, ev_P0, ev_sl, kSl_ev, put_1, gAdd_i, gSub_i, gMul_i, gDiv_p, gMod_p, gPow_l, gShl_l, gShr_l, gLt_i, gLe_i, gGt_i, gGe_i, gEq_i, gNe_i, gNeg_i, gAbs_i, gInt_i, gInt_b, gEq_s, gNe_s, gEq_b, gNe_b, gEq_2, gNe_2, gEq_3, gNe_3, gEq_22, gNe_22, DL.R.bind_ok, DL.R.bind_ex, ev_setL, kSetL_ev, ev_lDisp, kDisp_ev, ev_lList, lOf_l, lOf_t, ev_frz, frz_l, frz_d, frz_n, ev_lend, lend_l, lend_d, atom_i, atom_b, atom_s, ev_lendB, lendB_l, lendB_d, ev_app, app_l, kApp_ev, ev_put, put_l, ev_ixO, ixO_l, ixO_d, put_m, putAll_c, putAll_n, ev_lc, kLst_ev, ev_lcL, wipe_n, wipe_c, r1_2, r1_3, bits_ev, List.getElem?_cons_zero, List.getElem?_cons_succ, List.set_cons_zero, List.set_cons_succ, List.length_cons, List.length_nil, List.length_map, List.append_nil, List.cons_append, List.nil_append, ev_if, turn_nx, turn_ct, turn_bk, turn_rt, turn_ite, kWh_ev, isi_int_int, isi_bool_int, isi_int_bool, isi_bool_bool, isi_int_str, isi_int_none, isi_int_list, isi_int_tup, isi_bool_str, isi_bool_none, isi_bool_list, isi_bool_tup, isi_tup_tup, isi_tup_int, isi_tup_bool, isi_tup_str, isi_tup_none, isi_tup_list, isi_list_list, isi_list_tup, isi_list_int, isi_list_bool, isi_list_str, isi_list_none, isi_str_str, isi_str_int, isi_str_bool, isi_str_none, isi_str_list, isi_str_tup, decide_true, decide_false, not_true_eq_false, not_false_eq_true, ne_eq, decide_eq_true_eq, Bool.not_eq_true', decide_eq_false_iff_not, Bool.not_true, Bool.not_false, Bool.false_eq_true, if_true, if_false, reduceIte, x, i1, i2, e2]
    · rfl
    · rfl
    · rfl
    · rfl
    · rfl
  have p3 (p q s : PD) : lb1_law_places [some (.d h0), some (.ll [[p, q], [frD t.c, s]]), some (.d (lnD b.x b.y)), some (.d (lnD b.u b.v)), some (.d (.int 1)), some (.d (.int 0))] = .nx [some (.d h0), some (.ll [[p, q], [frD (t.c + b.y * b.u), s]]), some (.d (lnD b.x b.y)), some (.d (lnD b.u b.v)), some (.d (.int 1)), some (.d (.int 0))] := by
    unfold lb1_law_places
    refine Eq.trans (put2_ev (xss := [[p, q], [frD t.c, s]]) (xs := [frD t.c, s]) (k := 1) (j := 0) (z := 1) (y := 0) (d := frD (t.c + b.y * b.u)) ?_ ?_ ?_ ?_ ?_ ?_ ?_) rfl
    · rfl
    · have x := ix2_ev (i := 1) (fk := dV 4) (fj := dV 5) (ρ := [some (.d h0), some (.ll [[p, q], [frD t.c, s]]), some (.d (lnD b.x b.y)), some (.d (lnD b.u b.v)), some (.d (.int 1)), some (.d (.int 0))]) rfl rfl rfl rfl rfl
      simp +decide only [ev_seq, seq_nx, seq_rt, seq_ex, seq_bk, seq_ct, seq_ite, fl_ok, fl_ex, fl_ite, ev_set, kSet_ev, ev_ret, ev_retN, ev_nx, ev_bk, ev_ct, ev_raise, ev_if, kIf_ev, ev_drop, kNx_ev, ev_par, kPar_ev, kId_ev, ev_asg, kAsg_ev, ev_for, kFor_ev, ev_V, dVg_ok, ev_C, ev_1, ev_2, bind2_ok, bind2_ite1, bind2_ite2, bind_ite, ev_A, ev_nil, ev_cons, kCons_ev, ev_T, toB_ev, ev_and, ev_or, ev_not, kAnd_ev, kOr_ev, kNot_ev, ev_andV, ev_orV, ev_notV, kAndV_ev, kOrV_ev, kNotV_ev, ev_ife, kIfE_ev, ev_ch, kCh, tup_ev, lst_ev, call_ev, kw_ev, ev_kw, ev_fn, startE_0, startE_s, startE_c, fin_rt, fin_nx, fin_ex, fin_ite, ix_t0, ix_t1, ix_t2, ix_t3, ix_l0, ix_l1, ix_l2, len_l, len_t1, len_t2, len_t3, len_t4, beq_self_eq_true, ev_iL, ev_iT, asL_ev, asT_ev, ev_iA, ev_P, toI_ev, ev_P0, ev_sl, kSl_ev, put_1, gAdd_i, gSub_i, gMul_i, gDiv_p, gMod_p, gPow_l, gShl_l, gShr_l, gLt_i, gLe_i, gGt_i, gGe_i, gEq_i, gNe_i, gNeg_i, gAbs_i, gInt_i, gInt_b, gEq_s, gNe_s, gEq_b, gNe_b, gEq_2, gNe_2, gEq_3, gNe_3, gEq_22, gNe_22, DL.R.bind_ok, DL.R.bind_ex, ev_setL, kSetL_ev, ev_lDisp, kDisp_ev, ev_lList, lOf_l, lOf_t, ev_frz, frz_l, frz_d, frz_n, ev_lend, lend_l, lend_d, atom_i, atom_b, atom_s, ev_lendB, lendB_l, lendB_d, ev_app, app_l, kApp_ev, ev_put, put_l, ev_ixO, ixO_l, ixO_d, put_m, putAll_c, putAll_n, ev_lc, kLst_ev, ev_lcL, wipe_n, wipe_c, r1_2, r1_3, bits_ev, List.getElem?_cons_zero, List.getElem?_cons_succ, List.set_cons_zero, List.set_cons_succ, List.length_cons, List.length_nil, List.length_map, List.append_nil, List.cons_append, List.nil_append, ev_if, turn_nx, turn_ct, turn_bk, turn_rt, turn_ite, kWh_ev, isi_int_int, isi_bool_int, isi_int_bool, isi_bool_bool, isi_int_str, isi_int_none, isi_int_list, isi_int_tup, isi_bool_str, isi_bool_none, isi_bool_list, isi_bool_tup, isi_tup_tup, isi_tup_int, isi_tup_bool, isi_tup_str, isi_tup_none, isi_tup_list, isi_list_list, isi_list_tup, isi_list_int, isi_list_bool, isi_list_str, isi_list_none, isi_str_str, isi_str_int, isi_str_bool, isi_str_none, isi_str_list, isi_str_tup, decide_true, decide_false, not_true_eq_false, not_false_eq_true, ne_eq, decide_eq_true_eq, Bool.not_eq_true', decide_eq_false_iff_not, Bool.not_true, Bool.not_false, Bool.false_eq_true, if_true, if_false, reduceIte, x, i1, i2, e3]
    · rfl
    · rfl
    · rfl
    · rfl
    · rfl
  have p4 (p q r : PD) : lb1_law_places [some (.d h0), some (.ll [[p, q], [r, frD t.d]]), some (.d (lnD b.x b.y)), some (.d (lnD b.u b.v)), some (.d (.int 1)), some (.d (.int 1))] = .nx [some (.d h0), some (.ll [[p, q], [r, frD (t.d + b.y * b.v)]]), some (.d (lnD b.x b.y)), some (.d (lnD b.u b.v)), some (.d (.int 1)), some (.d (.int 1))] := by
    unfold lb1_law_places
    refine Eq.trans (put2_ev (xss := [[p, q], [r, frD t.d]]) (xs := [r, frD t.d]) (k := 1) (j := 1) (z := 1) (y := 1) (d := frD (t.d + b.y * b.v)) ?_ ?_ ?_ ?_ ?_ ?_ ?_) rfl
    · rfl
    · have x := ix2_ev (i := 1) (fk := dV 4) (fj := dV 5) (ρ := [some (.d h0), some (.ll [[p, q], [r, frD t.d]]), some (.d (lnD b.x b.y)), some (.d (lnD b.u b.v)), some (.d (.int 1)), some (.d (.int 1))]) rfl rfl rfl rfl rfl
      simp +decide only [ev_seq, seq_nx, seq_rt, seq_ex, seq_bk, seq_ct, seq_ite, fl_ok, fl_ex, fl_ite, ev_set, kSet_ev, ev_ret, ev_retN, ev_nx, ev_bk, ev_ct, ev_raise, ev_if, kIf_ev, ev_drop, kNx_ev, ev_par, kPar_ev, kId_ev, ev_asg, kAsg_ev, ev_for, kFor_ev, ev_V, dVg_ok, ev_C, ev_1, ev_2, bind2_ok, bind2_ite1, bind2_ite2, bind_ite, ev_A, ev_nil, ev_cons, kCons_ev, ev_T, toB_ev, ev_and, ev_or, ev_not, kAnd_ev, kOr_ev, kNot_ev, ev_andV, ev_orV, ev_notV, kAndV_ev, kOrV_ev, kNotV_ev, ev_ife, kIfE_ev, ev_ch, kCh, tup_ev, lst_ev, call_ev, kw_ev, ev_kw, ev_fn, startE_0, startE_s, startE_c, fin_rt, fin_nx, fin_ex, fin_ite, ix_t0, ix_t1, ix_t2, ix_t3, ix_l0, ix_l1, ix_l2, len_l, len_t1, len_t2, len_t3, len_t4, beq_self_eq_true, ev_iL, ev_iT, asL_ev, asT_ev, ev_iA, ev_P, toI_ev, ev_P0, ev_sl, kSl_ev, put_1, gAdd_i, gSub_i, gMul_i, gDiv_p, gMod_p, gPow_l, gShl_l, gShr_l, gLt_i, gLe_i, gGt_i, gGe_i, gEq_i, gNe_i, gNeg_i, gAbs_i, gInt_i, gInt_b, gEq_s, gNe_s, gEq_b, gNe_b, gEq_2, gNe_2, gEq_3, gNe_3, gEq_22, gNe_22, DL.R.bind_ok, DL.R.bind_ex, ev_setL, kSetL_ev, ev_lDisp, kDisp_ev, ev_lList, lOf_l, lOf_t, ev_frz, frz_l, frz_d, frz_n, ev_lend, lend_l, lend_d, atom_i, atom_b, atom_s, ev_lendB, lendB_l, lendB_d, ev_app, app_l, kApp_ev, ev_put, put_l, ev_ixO, ixO_l, ixO_d, put_m, putAll_c, putAll_n, ev_lc, kLst_ev, ev_lcL, wipe_n, wipe_c, r1_2, r1_3, bits_ev, List.getElem?_cons_zero, List.getElem?_cons_succ, List.set_cons_zero, List.set_cons_succ, List.length_cons, List.length_nil, List.length_map, List.append_nil, List.cons_append, List.nil_append, ev_if, turn_nx, turn_ct, turn_bk, turn_rt, turn_ite, kWh_ev, isi_int_int, isi_bool_int, isi_int_bool, isi_bool_bool, isi_int_str, isi_int_none, isi_int_list, isi_int_tup, isi_bool_str, isi_bool_none, isi_bool_list, isi_bool_tup, isi_tup_tup, isi_tup_int, isi_tup_bool, isi_tup_str, isi_tup_none, isi_tup_list, isi_list_list, isi_list_tup, isi_list_int, isi_list_bool, isi_list_str, isi_list_none, isi_str_str, isi_str_int, isi_str_bool, isi_str_none, isi_str_list, isi_str_tup, decide_true, decide_false, not_true_eq_false, not_false_eq_true, ne_eq, decide_eq_true_eq, Bool.not_eq_true', decide_eq_false_iff_not, Bool.not_true, Bool.not_false, Bool.false_eq_true, if_true, if_false, reduceIte, x, i1, i2, e4]
    · rfl
    · rfl
    · rfl
    · rfl
    · rfl
  simp +decide only [lb3_law_places, lb2_law_places, ev_seq, seq_nx, seq_rt, seq_ex, seq_bk, seq_ct, seq_ite, fl_ok, fl_ex, fl_ite, ev_set, kSet_ev, ev_ret, ev_retN, ev_nx, ev_bk, ev_ct, ev_raise, ev_if, kIf_ev, ev_drop, kNx_ev, ev_par, kPar_ev, kId_ev, ev_asg, kAsg_ev, ev_for, kFor_ev, ev_V, dVg_ok, ev_C, ev_1, ev_2, bind2_ok, bind2_ite1, bind2_ite2, bind_ite, ev_A, ev_nil, ev_cons, kCons_ev, ev_T, toB_ev, ev_and, ev_or, ev_not, kAnd_ev, kOr_ev, kNot_ev, ev_andV, ev_orV, ev_notV, kAndV_ev, kOrV_ev, kNotV_ev, ev_ife, kIfE_ev, ev_ch, kCh, tup_ev, lst_ev, call_ev, kw_ev, ev_kw, ev_fn, startE_0, startE_s, startE_c, fin_rt, fin_nx, fin_ex, fin_ite, ix_t0, ix_t1, ix_t2, ix_t3, ix_l0, ix_l1, ix_l2, len_l, len_t1, len_t2, len_t3, len_t4, beq_self_eq_true, ev_iL, ev_iT, asL_ev, asT_ev, ev_iA, ev_P, toI_ev, ev_P0, ev_sl, kSl_ev, put_1, gAdd_i, gSub_i, gMul_i, gDiv_p, gMod_p, gPow_l, gShl_l, gShr_l, gLt_i, gLe_i, gGt_i, gGe_i, gEq_i, gNe_i, gNeg_i, gAbs_i, gInt_i, gInt_b, gEq_s, gNe_s, gEq_b, gNe_b, gEq_2, gNe_2, gEq_3, gNe_3, gEq_22, gNe_22, DL.R.bind_ok, DL.R.bind_ex, ev_setL, kSetL_ev, ev_lDisp, kDisp_ev, ev_lList, lOf_l, lOf_t, ev_frz, frz_l, frz_d, frz_n, ev_lend, lend_l, lend_d, atom_i, atom_b, atom_s, ev_lendB, lendB_l, lendB_d, ev_app, app_l, kApp_ev, ev_put, put_l, ev_ixO, ixO_l, ixO_d, put_m, putAll_c, putAll_n, ev_lc, kLst_ev, ev_lcL, wipe_n, wipe_c, r1_2, r1_3, bits_ev, List.getElem?_cons_zero, List.getElem?_cons_succ, List.set_cons_zero, List.set_cons_succ, List.length_cons, List.length_nil, List.length_map, List.append_nil, List.cons_append, List.nil_append, ev_if, turn_nx, turn_ct, turn_bk, turn_rt, turn_ite, kWh_ev, isi_int_int, isi_bool_int, isi_int_bool, isi_bool_bool, isi_int_str, isi_int_none, isi_int_list, isi_int_tup, isi_bool_str, isi_bool_none, isi_bool_list, isi_bool_tup, isi_tup_tup, isi_tup_int, isi_tup_bool, isi_tup_str, isi_tup_none, isi_tup_list, isi_list_list, isi_list_tup, isi_list_int, isi_list_bool, isi_list_str, isi_list_none, isi_str_str, isi_str_int, isi_str_bool, isi_str_none, isi_str_list, isi_str_tup, decide_true, decide_false, not_true_eq_false, not_false_eq_true, ne_eq, decide_eq_true_eq, Bool.not_eq_true', decide_eq_false_iff_not, Bool.not_true, Bool.not_false, Bool.false_eq_true, if_true, if_false, reduceIte, forL_1, forL_nil, p1, p2, p3, p4]
  rfl
theorem places_loop : ∀ (bs : List Bo) (t : Tab) (n m k l : Nat) (h0 : PD) (x2 x3 x4 x5 : Option SV), BT t n m → (∀ b ∈ bs, BB b k l) → m + bs.length * (2 * l) ≤ 8000 → 4 * l ≤ 900 → n + bs.length * (2 * k + 8900) ≤ 50000000 → k ≤ 1000000 →
    ∃ y2 y3 y4 y5, sForL (.many [2, 3]) lb3_law_places (bs.map boD) [some (.d h0), some (plL t), x2, x3, x4, x5] = .nx [some (.d h0), some (plL (tabL t bs)), y2, y3, y4, y5]
  | [], t, n, m, k, l, h0, x2, x3, x4, x5, _, _, _, _, _, _ => ⟨x2, x3, x4, x5, rfl⟩
  | b :: bs, t, n, m, k, l, h0, x2, x3, x4, x5, ht, hb, hm, hl, hn, hk => by
    have bb := hb b List.mem_cons_self
    rw [List.length_cons, Nat.add_mul] at hm hn
    have e := places_body t b h0 x4 x5 (i := ht) (j := bb) (by omega) (by omega) (by omega)
    have h2 : BT (t.add b.tab) (n + (2 * k + 8900)) (m + 2 * l) := BT.mono inferInstance (by omega) (by omega)
    obtain ⟨y2, y3, y4, y5, e2⟩ := places_loop bs (t.add b.tab) (n + (2 * k + 8900)) (m + 2 * l) k l h0 (some (.d (lnD b.x b.y))) (some (.d (lnD b.u b.v))) (some (.d (.int 1))) (some (.d (.int 1))) h2 (fun c hc => hb c (List.mem_cons_of_mem _ hc)) (by omega) hl (by omega) hk
    refine ⟨y2, y3, y4, y5, ?_⟩
    rw [List.map_cons, forL_m rfl]
    show (lb3_law_places [some (.d h0), some (plL t), some (.d (lnD b.x b.y)), some (.d (lnD b.u b.v)), x4, x5]).turn _ = _
    rw [e]
    exact e2
theorem law_places_eq (bs : List Bo) (k l : Nat) (hb : ∀ b ∈ bs, BB b k l) (h : 1 + bs.length * (2 * l) ≤ 8000) (hl : 4 * l ≤ 900) (hn : 1 + bs.length * (2 * k + 8900) ≤ 50000000) (hk : k ≤ 1000000) : m_law_places [.list (bs.map boD)] = .ok (plD (tabL Tab.zero bs)) := by
  obtain ⟨y2, y3, y4, y5, e⟩ := places_loop bs Tab.zero 1 1 k l (.list (bs.map boD)) none none none none bt_zero hb h hl hn hk
  have z : (PyData.tuple [.int 0, .int 1] : PD) = frD 0 := rfl
  have d2 : lDisp2 (dCons (dA gTupD (dCons (dC (.int 0)) (dCons (dC (.int 1)) (dNil)))) (dCons (dA gTupD (dCons (dC (.int 0)) (dCons (dC (.int 1)) (dNil)))) (dNil))) (dCons (dA gTupD (dCons (dC (.int 0)) (dCons (dC (.int 1)) (dNil)))) (dCons (dA gTupD (dCons (dC (.int 0)) (dCons (dC (.int 1)) (dNil)))) (dNil))) [some (.d (.list (bs.map boD))), none, none, none, none, none] = .ok [[frD 0, frD 0], [frD 0, frD 0]] := rfl
  have s := ev_setLL (i := 1) d2
  have f (g : En → Fl) := ev_frzLL (i := 1) (g := g) (ρ := [some (.d (.list (bs.map boD))), some (plL (tabL Tab.zero bs)), y2, y3, y4, y5]) rfl
  unfold plL at e
  have e' : sForL (.many [2, 3]) lb3_law_places (bs.map boD) [some (.d (.list (bs.map boD))), some (.ll [[frD 0, frD 0], [frD 0, frD 0]]), none, none, none, none] = _ := e
  simp +decide only [m_law_places, den_law_places, ev_seq, seq_nx, seq_rt, seq_ex, seq_bk, seq_ct, seq_ite, fl_ok, fl_ex, fl_ite, ev_set, kSet_ev, ev_ret, ev_retN, ev_nx, ev_bk, ev_ct, ev_raise, ev_if, kIf_ev, ev_drop, kNx_ev, ev_par, kPar_ev, kId_ev, ev_asg, kAsg_ev, ev_for, kFor_ev, ev_V, dVg_ok, ev_C, ev_1, ev_2, bind2_ok, bind2_ite1, bind2_ite2, bind_ite, ev_A, ev_nil, ev_cons, kCons_ev, ev_T, toB_ev, ev_and, ev_or, ev_not, kAnd_ev, kOr_ev, kNot_ev, ev_andV, ev_orV, ev_notV, kAndV_ev, kOrV_ev, kNotV_ev, ev_ife, kIfE_ev, ev_ch, kCh, tup_ev, lst_ev, call_ev, kw_ev, ev_kw, ev_fn, startE_0, startE_s, startE_c, fin_rt, fin_nx, fin_ex, fin_ite, ix_t0, ix_t1, ix_t2, ix_t3, ix_l0, ix_l1, ix_l2, len_l, len_t1, len_t2, len_t3, len_t4, beq_self_eq_true, ev_iL, ev_iT, asL_ev, asT_ev, ev_iA, ev_P, toI_ev, ev_P0, ev_sl, kSl_ev, put_1, gAdd_i, gSub_i, gMul_i, gDiv_p, gMod_p, gPow_l, gShl_l, gShr_l, gLt_i, gLe_i, gGt_i, gGe_i, gEq_i, gNe_i, gNeg_i, gAbs_i, gInt_i, gInt_b, gEq_s, gNe_s, gEq_b, gNe_b, gEq_2, gNe_2, gEq_3, gNe_3, gEq_22, gNe_22, DL.R.bind_ok, DL.R.bind_ex, ev_setL, kSetL_ev, ev_lDisp, kDisp_ev, ev_lList, lOf_l, lOf_t, ev_frz, frz_l, frz_d, frz_n, ev_lend, lend_l, lend_d, atom_i, atom_b, atom_s, ev_lendB, lendB_l, lendB_d, ev_app, app_l, kApp_ev, ev_put, put_l, ev_ixO, ixO_l, ixO_d, put_m, putAll_c, putAll_n, ev_lc, kLst_ev, ev_lcL, wipe_n, wipe_c, r1_2, r1_3, bits_ev, List.getElem?_cons_zero, List.getElem?_cons_succ, List.set_cons_zero, List.set_cons_succ, List.length_cons, List.length_nil, List.length_map, List.append_nil, List.cons_append, List.nil_append, ev_if, turn_nx, turn_ct, turn_bk, turn_rt, turn_ite, kWh_ev, isi_int_int, isi_bool_int, isi_int_bool, isi_bool_bool, isi_int_str, isi_int_none, isi_int_list, isi_int_tup, isi_bool_str, isi_bool_none, isi_bool_list, isi_bool_tup, isi_tup_tup, isi_tup_int, isi_tup_bool, isi_tup_str, isi_tup_none, isi_tup_list, isi_list_list, isi_list_tup, isi_list_int, isi_list_bool, isi_list_str, isi_list_none, isi_str_str, isi_str_int, isi_str_bool, isi_str_none, isi_str_list, isi_str_tup, decide_true, decide_false, not_true_eq_false, not_false_eq_true, ne_eq, decide_eq_true_eq, Bool.not_eq_true', decide_eq_false_iff_not, Bool.not_true, Bool.not_false, Bool.false_eq_true, if_true, if_false, reduceIte, s, e', f, List.map_cons, List.map_nil]
/-! tables added up -/
theorem Tab.ext' {s t : Tab} (h1 : s.a = t.a) (h2 : s.b = t.b) (h3 : s.c = t.c) (h4 : s.d = t.d) : s = t := by
  obtain ⟨a, b, c, d⟩ := s
  obtain ⟨a', b', c', d'⟩ := t
  dsimp only at h1 h2 h3 h4
  subst h1 h2 h3 h4
  rfl
theorem Tab.add_comm (s t : Tab) : s.add t = t.add s := Tab.ext' (Rat.add_comm _ _) (Rat.add_comm _ _) (Rat.add_comm _ _) (Rat.add_comm _ _)
theorem Tab.add_assoc (s t u : Tab) : (s.add t).add u = s.add (t.add u) := Tab.ext' (Rat.add_assoc _ _ _) (Rat.add_assoc _ _ _) (Rat.add_assoc _ _ _) (Rat.add_assoc _ _ _)
theorem Tab.zero_add (s : Tab) : Tab.zero.add s = s := Tab.ext' (Rat.zero_add _) (Rat.zero_add _) (Rat.zero_add _) (Rat.zero_add _)
theorem Tab.add_sub_l (s t : Tab) : (s.add t).sub s = t := by
  refine Tab.ext' ?_ ?_ ?_ ?_ <;> (show _ + _ - _ = _; grind)
theorem Tab.add_sub_r (s t : Tab) : (s.add t).sub t = s := by
  refine Tab.ext' ?_ ?_ ?_ ?_ <;> (show _ + _ - _ = _; grind)
theorem tabL_add : ∀ (bs : List Bo) (t u : Tab), tabL (t.add u) bs = (tabL t bs).add u
  | [], _, _ => rfl
  | b :: bs, t, u => by
    show tabL ((t.add u).add b.tab) bs = (tabL (t.add b.tab) bs).add u
    rw [Tab.add_assoc, Tab.add_comm u, ← Tab.add_assoc, tabL_add bs]
theorem tabL_app : ∀ (bs cs : List Bo) (t : Tab), tabL t (bs ++ cs) = tabL (tabL t bs) cs
  | [], _, _ => rfl
  | b :: bs, cs, t => tabL_app bs cs (t.add b.tab)
theorem tabL_two (bs cs : List Bo) : tabL Tab.zero (bs ++ cs) = (tabL Tab.zero bs).add (tabL Tab.zero cs) := by
  rw [tabL_app, Tab.add_comm, ← tabL_add, Tab.zero_add]
theorem tabL_rev : ∀ (bs : List Bo) (t : Tab), tabL t bs.reverse = tabL t bs
  | [], _ => rfl
  | b :: bs, t => by
    rw [List.reverse_cons, tabL_app, tabL_rev bs]
    show (tabL t bs).add b.tab = tabL (t.add b.tab) bs
    rw [tabL_add]
theorem law_is_table_eq (t : Tab) : m_law_is_table [tabD t, plD t] = .ok (.bool true) := by
  have e1 := law_is_2 t.a.num t.a.den
  have e2 := law_is_2 t.b.num t.b.den
  have e3 := law_is_2 t.c.num t.c.den
  have e4 := law_is_2 t.d.num t.d.den
  simp +decide only [m_law_is_table, den_law_is_table, lb1_law_is_table, lb2_law_is_table, ev_seq, seq_nx, seq_rt, seq_ex, seq_bk, seq_ct, seq_ite, fl_ok, fl_ex, fl_ite, ev_set, kSet_ev, ev_ret, ev_retN, ev_nx, ev_bk, ev_ct, ev_raise, ev_if, kIf_ev, ev_drop, kNx_ev, ev_par, kPar_ev, kId_ev, ev_asg, kAsg_ev, ev_for, kFor_ev, ev_V, dVg_ok, ev_C, ev_1, ev_2, bind2_ok, bind2_ite1, bind2_ite2, bind_ite, ev_A, ev_nil, ev_cons, kCons_ev, ev_T, toB_ev, ev_and, ev_or, ev_not, kAnd_ev, kOr_ev, kNot_ev, ev_andV, ev_orV, ev_notV, kAndV_ev, kOrV_ev, kNotV_ev, ev_ife, kIfE_ev, ev_ch, kCh, tup_ev, lst_ev, call_ev, kw_ev, ev_kw, ev_fn, startE_0, startE_s, startE_c, fin_rt, fin_nx, fin_ex, fin_ite, ix_t0, ix_t1, ix_t2, ix_t3, ix_l0, ix_l1, ix_l2, len_l, len_t1, len_t2, len_t3, len_t4, beq_self_eq_true, ev_iL, ev_iT, asL_ev, asT_ev, ev_iA, ev_P, toI_ev, ev_P0, ev_sl, kSl_ev, put_1, gAdd_i, gSub_i, gMul_i, gDiv_p, gMod_p, gPow_l, gShl_l, gShr_l, gLt_i, gLe_i, gGt_i, gGe_i, gEq_i, gNe_i, gNeg_i, gAbs_i, gInt_i, gInt_b, gEq_s, gNe_s, gEq_b, gNe_b, gEq_2, gNe_2, gEq_3, gNe_3, gEq_22, gNe_22, DL.R.bind_ok, DL.R.bind_ex, ev_setL, kSetL_ev, ev_lDisp, kDisp_ev, ev_lList, lOf_l, lOf_t, ev_frz, frz_l, frz_d, frz_n, ev_lend, lend_l, lend_d, atom_i, atom_b, atom_s, ev_lendB, lendB_l, lendB_d, ev_app, app_l, kApp_ev, ev_put, put_l, ev_ixO, ixO_l, ixO_d, put_m, putAll_c, putAll_n, ev_lc, kLst_ev, ev_lcL, wipe_n, wipe_c, r1_2, r1_3, bits_ev, List.getElem?_cons_zero, List.getElem?_cons_succ, List.set_cons_zero, List.set_cons_succ, List.length_cons, List.length_nil, List.length_map, List.append_nil, List.cons_append, List.nil_append, ev_if, turn_nx, turn_ct, turn_bk, turn_rt, turn_ite, kWh_ev, isi_int_int, isi_bool_int, isi_int_bool, isi_bool_bool, isi_int_str, isi_int_none, isi_int_list, isi_int_tup, isi_bool_str, isi_bool_none, isi_bool_list, isi_bool_tup, isi_tup_tup, isi_tup_int, isi_tup_bool, isi_tup_str, isi_tup_none, isi_tup_list, isi_list_list, isi_list_tup, isi_list_int, isi_list_bool, isi_list_str, isi_list_none, isi_str_str, isi_str_int, isi_str_bool, isi_str_none, isi_str_list, isi_str_tup, decide_true, decide_false, not_true_eq_false, not_false_eq_true, ne_eq, decide_eq_true_eq, Bool.not_eq_true', decide_eq_false_iff_not, Bool.not_true, Bool.not_false, Bool.false_eq_true, if_true, if_false, reduceIte, forL_1, forL_nil, e1, e2, e3, e4]
theorem law_is_table_tt (t : Tab) : m_law_is_table [tabD t, tabD t] = .ok (.bool true) := by
  have e1 := law_is_2 t.a.num t.a.den
  have e2 := law_is_2 t.b.num t.b.den
  have e3 := law_is_2 t.c.num t.c.den
  have e4 := law_is_2 t.d.num t.d.den
  simp +decide only [m_law_is_table, den_law_is_table, lb1_law_is_table, lb2_law_is_table, ev_seq, seq_nx, seq_rt, seq_ex, seq_bk, seq_ct, seq_ite, fl_ok, fl_ex, fl_ite, ev_set, kSet_ev, ev_ret, ev_retN, ev_nx, ev_bk, ev_ct, ev_raise, ev_if, kIf_ev, ev_drop, kNx_ev, ev_par, kPar_ev, kId_ev, ev_asg, kAsg_ev, ev_for, kFor_ev, ev_V, dVg_ok, ev_C, ev_1, ev_2, bind2_ok, bind2_ite1, bind2_ite2, bind_ite, ev_A, ev_nil, ev_cons, kCons_ev, ev_T, toB_ev, ev_and, ev_or, ev_not, kAnd_ev, kOr_ev, kNot_ev, ev_andV, ev_orV, ev_notV, kAndV_ev, kOrV_ev, kNotV_ev, ev_ife, kIfE_ev, ev_ch, kCh, tup_ev, lst_ev, call_ev, kw_ev, ev_kw, ev_fn, startE_0, startE_s, startE_c, fin_rt, fin_nx, fin_ex, fin_ite, ix_t0, ix_t1, ix_t2, ix_t3, ix_l0, ix_l1, ix_l2, len_l, len_t1, len_t2, len_t3, len_t4, beq_self_eq_true, ev_iL, ev_iT, asL_ev, asT_ev, ev_iA, ev_P, toI_ev, ev_P0, ev_sl, kSl_ev, put_1, gAdd_i, gSub_i, gMul_i, gDiv_p, gMod_p, gPow_l, gShl_l, gShr_l, gLt_i, gLe_i, gGt_i, gGe_i, gEq_i, gNe_i, gNeg_i, gAbs_i, gInt_i, gInt_b, gEq_s, gNe_s, gEq_b, gNe_b, gEq_2, gNe_2, gEq_3, gNe_3, gEq_22, gNe_22, DL.R.bind_ok, DL.R.bind_ex, ev_setL, kSetL_ev, ev_lDisp, kDisp_ev, ev_lList, lOf_l, lOf_t, ev_frz, frz_l, frz_d, frz_n, ev_lend, lend_l, lend_d, atom_i, atom_b, atom_s, ev_lendB, lendB_l, lendB_d, ev_app, app_l, kApp_ev, ev_put, put_l, ev_ixO, ixO_l, ixO_d, put_m, putAll_c, putAll_n, ev_lc, kLst_ev, ev_lcL, wipe_n, wipe_c, r1_2, r1_3, bits_ev, List.getElem?_cons_zero, List.getElem?_cons_succ, List.set_cons_zero, List.set_cons_succ, List.length_cons, List.length_nil, List.length_map, List.append_nil, List.cons_append, List.nil_append, ev_if, turn_nx, turn_ct, turn_bk, turn_rt, turn_ite, kWh_ev, isi_int_int, isi_bool_int, isi_int_bool, isi_bool_bool, isi_int_str, isi_int_none, isi_int_list, isi_int_tup, isi_bool_str, isi_bool_none, isi_bool_list, isi_bool_tup, isi_tup_tup, isi_tup_int, isi_tup_bool, isi_tup_str, isi_tup_none, isi_tup_list, isi_list_list, isi_list_tup, isi_list_int, isi_list_bool, isi_list_str, isi_list_none, isi_str_str, isi_str_int, isi_str_bool, isi_str_none, isi_str_list, isi_str_tup, decide_true, decide_false, not_true_eq_false, not_false_eq_true, ne_eq, decide_eq_true_eq, Bool.not_eq_true', decide_eq_false_iff_not, Bool.not_true, Bool.not_false, Bool.false_eq_true, if_true, if_false, reduceIte, forL_1, forL_nil, e1, e2, e3, e4]
theorem listOf_l {ds : List PD} : gListOf [.list ds] = .ok (.list ds) := rfl
theorem gNe_tab (t : Tab) : gNe (tabD t) (tabD t) = .ok (.bool false) := gNe_trefl (k := 4) (fun v hv => by
  rcases List.mem_cons.mp hv with rfl | hv
  · exact ⟨rfl, by simp [PyData.depth, PyData.depthAll], rfl⟩
  · rw [List.mem_singleton] at hv; subst hv; exact ⟨rfl, by simp [PyData.depth, PyData.depthAll], rfl⟩) (by decide)
theorem gRev_bos (bs : List Bo) : gRevL (.list (bs.map boD)) = .ok (.list (bs.reverse.map boD)) := by
  show R.ok (PyData.list (bs.map boD).reverse) = _
  rw [List.map_reverse]
theorem k13_body (s d h1 h2 : PD) (acc : List PD) (bs : List Bo) (x6 x7 x8 : Option SV) (hb : ∀ b ∈ bs, BB b 100 31) (hl : bs.length ≤ 24) (ha : acc.length ≤ 10) : lb1_law_k13 [some (.d s), some (.d d), some (.d h1), some (.d h2), some (.l acc), some (.d (.list (bs.map boD))), x6, x7, x8] =
    .nx [some (.d s), some (.d d), some (.d h1), some (.d h2), some (.l (acc ++ [tabD (tabL Tab.zero bs)])), some (.d (.list (bs.map boD))), some (.d (.list (bs.map boD))), some (.d (tabD (tabL Tab.zero bs))), some (.d (plD (tabL Tab.zero bs)))] := by
  have e1 := (table_eq bs 100 31 hb (by omega) (by decide) (by omega) (by decide)).1
  have e2 := law_places_eq bs 100 31 hb (by omega) (by decide) (by omega) (by decide)
  have e3 := (table_eq bs.reverse 100 31 (fun b h => hb b (by simpa using h)) (by simp; omega) (by decide) (by simp; omega) (by decide)).1
  rw [tabL_rev] at e3
  have ne := gNe_lrefl (fine_bos bs) (by decide)
  have rv := gRev_bos bs
  generalize bs.map boD = B at *
  generalize bs.reverse.map boD = B' at *
  have it := law_is_table_eq (tabL Tab.zero bs)
  have it2 := law_is_table_eq (tabL Tab.zero bs).over
  have ov := over_eq (tabL Tab.zero bs)
  have nt := gNe_tab (tabL Tab.zero bs)
  generalize tabL Tab.zero bs = T at *
  have ha' : acc.length < 16777216 := by omega
  have nt' : gNe (tabD T) (tabD T) = .ok (.bool false) := nt
  have it2' : m_law_is_table [tabD T.over, .list [.list [frD T.a, frD T.c], .list [frD T.b, frD T.d]]] = .ok (.bool true) := it2
  simp +decide only [lb1_law_k13, ev_seq, seq_nx, seq_rt, seq_ex, seq_bk, seq_ct, seq_ite, fl_ok, fl_ex, fl_ite, ev_set, kSet_ev, ev_ret, ev_retN, ev_nx, ev_bk, ev_ct, ev_raise, ev_if, kIf_ev, ev_drop, kNx_ev, ev_par, kPar_ev, kId_ev, ev_asg, kAsg_ev, ev_for, kFor_ev, ev_V, dVg_ok, ev_C, ev_1, ev_2, bind2_ok, bind2_ite1, bind2_ite2, bind_ite, ev_A, ev_nil, ev_cons, kCons_ev, ev_T, toB_ev, ev_and, ev_or, ev_not, kAnd_ev, kOr_ev, kNot_ev, ev_andV, ev_orV, ev_notV, kAndV_ev, kOrV_ev, kNotV_ev, ev_ife, kIfE_ev, ev_ch, kCh, tup_ev, lst_ev, call_ev, kw_ev, ev_kw, ev_fn, startE_0, startE_s, startE_c, fin_rt, fin_nx, fin_ex, fin_ite, ix_t0, ix_t1, ix_t2, ix_t3, ix_l0, ix_l1, ix_l2, len_l, len_t1, len_t2, len_t3, len_t4, beq_self_eq_true, ev_iL, ev_iT, asL_ev, asT_ev, ev_iA, ev_P, toI_ev, ev_P0, ev_sl, kSl_ev, put_1, gAdd_i, gSub_i, gMul_i, gDiv_p, gMod_p, gPow_l, gShl_l, gShr_l, gLt_i, gLe_i, gGt_i, gGe_i, gEq_i, gNe_i, gNeg_i, gAbs_i, gInt_i, gInt_b, gEq_s, gNe_s, gEq_b, gNe_b, gEq_2, gNe_2, gEq_3, gNe_3, gEq_22, gNe_22, DL.R.bind_ok, DL.R.bind_ex, ev_setL, kSetL_ev, ev_lDisp, kDisp_ev, ev_lList, lOf_l, lOf_t, ev_frz, frz_l, frz_d, frz_n, ev_lend, lend_l, lend_d, atom_i, atom_b, atom_s, ev_lendB, lendB_l, lendB_d, ev_app, app_l, kApp_ev, ev_put, put_l, ev_ixO, ixO_l, ixO_d, put_m, putAll_c, putAll_n, ev_lc, kLst_ev, ev_lcL, wipe_n, wipe_c, r1_2, r1_3, bits_ev, List.getElem?_cons_zero, List.getElem?_cons_succ, List.set_cons_zero, List.set_cons_succ, List.length_cons, List.length_nil, List.length_map, List.append_nil, List.cons_append, List.nil_append, ev_if, turn_nx, turn_ct, turn_bk, turn_rt, turn_ite, kWh_ev, isi_int_int, isi_bool_int, isi_int_bool, isi_bool_bool, isi_int_str, isi_int_none, isi_int_list, isi_int_tup, isi_bool_str, isi_bool_none, isi_bool_list, isi_bool_tup, isi_tup_tup, isi_tup_int, isi_tup_bool, isi_tup_str, isi_tup_none, isi_tup_list, isi_list_list, isi_list_tup, isi_list_int, isi_list_bool, isi_list_str, isi_list_none, isi_str_str, isi_str_int, isi_str_bool, isi_str_none, isi_str_list, isi_str_tup, decide_true, decide_false, not_true_eq_false, not_false_eq_true, ne_eq, decide_eq_true_eq, Bool.not_eq_true', decide_eq_false_iff_not, Bool.not_true, Bool.not_false, Bool.false_eq_true, if_true, if_false, reduceIte, listOf_l, e1, e2, e3, ne, rv, it, it2', ov, nt', kApp_ev ha']
theorem k13_drawn (ns : List Int) (d : Int) (hd : Root d) (hd2 : d ≤ 99) [Bd d 7] (p q : Nat) (hpq : q ≤ p + 12) (z : Int) : ∃ bs : List Bo, m_law_heap [.list (((((ns.take q).drop p) ++ [z]).take 12).map PyData.int), .int d] = .ok (.list (bs.map boD)) ∧ bs.length ≤ 12 ∧ ∀ b ∈ bs, BB b 100 31 := by
  have hz : ((((ns.take q).drop p) ++ [z]).take 12).length ≤ 12 := by simp; omega
  obtain ⟨bs, e, hl, hb⟩ := law_heap_ok ((((ns.take q).drop p) ++ [z]).take 12) d (Nat.le_trans hz (by decide)) hd hd2
  exact ⟨bs, e, by omega, fun b h => (hb b h).bb⟩
theorem law_k13_true (ns : List Int) (hl : ns.length ≤ 63) (hb : ∀ z ∈ ns, PySem.Builtin.Int.intBits z ≤ 1048576) : DL.m_law_k13 [.list (ns.map PySem.PyData.int)] = .ok (.bool true) := by
  have hs1 : gSl (.list (ns.map PyData.int)) none (some 1) = .ok (.list ((ns.take 1).map PyData.int)) := by rw [List.map_take]; exact sl_hi (k := 1)
  have hs2 : gSl (.list (ns.map PyData.int)) (some 1) (some 13) = .ok (.list (((ns.take 13).drop 1).map PyData.int)) := by rw [List.map_drop, List.map_take]; exact sl_lohi (k := 1) (l := 13)
  have hs3 : gSl (.list (ns.map PyData.int)) (some 13) (some 25) = .ok (.list (((ns.take 25).drop 13).map PyData.int)) := by rw [List.map_drop, List.map_take]; exact sl_lohi (k := 13) (l := 25)
  have hadd1 : gAdd (.list (((ns.take 13).drop 1).map PyData.int)) (.list [.int 5]) = .ok (.list (((ns.take 13).drop 1 ++ [5]).map PyData.int)) := by
    rw [add_l (by simp; omega)]
    simp
  have hadd2 : gAdd (.list (((ns.take 25).drop 13).map PyData.int)) (.list [.int 8]) = .ok (.list (((ns.take 25).drop 13 ++ [8]).map PyData.int)) := by
    rw [add_l (by simp; omega)]
    simp
  have ht1 : gSl (.list (((ns.take 13).drop 1 ++ [5]).map PyData.int)) none (some 12) = .ok (.list ((((ns.take 13).drop 1 ++ [5]).take 12).map PyData.int)) := by rw [List.map_take]; exact sl_hi (k := 12)
  have ht2 : gSl (.list (((ns.take 25).drop 13 ++ [8]).map PyData.int)) none (some 12) = .ok (.list ((((ns.take 25).drop 13 ++ [8]).take 12).map PyData.int)) := by rw [List.map_take]; exact sl_hi (k := 12)
  obtain ⟨d, ed, hd, hd2, bd⟩ := law_root_v3_eq (ns.take 1).sum
  obtain ⟨bs, eb, lb, hbb⟩ := k13_drawn ns d hd hd2 1 13 (by decide) 5
  obtain ⟨cs, ec, lc, hcb⟩ := k13_drawn ns d hd hd2 13 25 (by decide) 8
  have hbc : ∀ b ∈ bs ++ cs, BB b 100 31 := fun b h => by
    rcases List.mem_append.mp h with h | h
    · exact hbb b h
    · exact hcb b h
  have hadd3 : gAdd (.list (bs.map boD)) (.list (cs.map boD)) = .ok (.list ((bs ++ cs).map boD)) := by
    rw [add_l (by simp; omega)]
    simp
  have B1 (x6 x7 x8 : Option SV) := k13_body (.list (ns.map PyData.int)) (.int d) (.list (bs.map boD)) (.list (cs.map boD)) [] bs x6 x7 x8 hbb (by omega) (by decide)
  have B2 (x6 x7 x8 : Option SV) (t1 : PD) := k13_body (.list (ns.map PyData.int)) (.int d) (.list (bs.map boD)) (.list (cs.map boD)) [t1] cs x6 x7 x8 hcb (by omega) (by simp)
  have B3 (x6 x7 x8 : Option SV) (t1 t2 : PD) := k13_body (.list (ns.map PyData.int)) (.int d) (.list (bs.map boD)) (.list (cs.map boD)) [t1, t2] (bs ++ cs) x6 x7 x8 hbc (by simp; omega) (by simp)
  have T1 := (table_eq bs 100 31 hbb (by omega) (by decide) (by omega) (by decide)).2.mono (n' := 300000) (m' := 1600) (by omega) (by omega)
  have T2 := (table_eq cs 100 31 hcb (by omega) (by decide) (by omega) (by decide)).2.mono (n' := 300000) (m' := 1600) (by omega) (by omega)
  have T3 := (table_eq (bs ++ cs) 100 31 hbc (by simp; omega) (by decide) (by simp; omega) (by decide)).2.mono (n' := 300000) (m' := 1600) (by simp; omega) (by simp; omega)
  have tw := tabL_two bs cs
  generalize tabL Tab.zero bs = S at *
  generalize tabL Tab.zero cs = T at *
  generalize tabL Tab.zero (bs ++ cs) = U at *
  have e1 := together_eq S T (by decide) (by decide) (by decide)
  have e2 := less_eq U S (by decide) (by decide) (by decide)
  have e3 := less_eq U T (by decide) (by decide) (by decide)
  have w1 : U.sub S = T := by rw [tw, Tab.add_sub_l]
  have w2 : U.sub T = S := by rw [tw, Tab.add_sub_r]
  rw [w1] at e2
  rw [w2] at e3
  rw [← tw] at e1
  have i1 := law_is_table_tt U
  have i2 := law_is_table_tt S
  have i3 := law_is_table_tt T
  generalize tabD U = u at *
  generalize tabD S = s at *
  generalize tabD T = t at *
  have f (x5 x6 x7 x8 : Option SV) : sForL (.one 5) lb1_law_k13 [.list (bs.map boD), .list (cs.map boD), .list ((bs ++ cs).map boD)] [some (.d (.list (ns.map PyData.int))), some (.d (.int d)), some (.d (.list (bs.map boD))), some (.d (.list (cs.map boD))), some (.l []), x5, x6, x7, x8] = .nx [some (.d (.list (ns.map PyData.int))), some (.d (.int d)), some (.d (.list (bs.map boD))), some (.d (.list (cs.map boD))), some (.l [s, t, u]), some (.d (.list ((bs ++ cs).map boD))), some (.d (.list ((bs ++ cs).map boD))), some (.d u), some (.d (plD U))] := by
    simp only [forL_1, forL_nil, List.set_cons_succ, List.set_cons_zero, B1, B2, B3, turn_nx, List.nil_append, List.cons_append]
  simp +decide only [m_law_k13, den_law_k13, ev_seq, seq_nx, seq_rt, seq_ex, seq_bk, seq_ct, seq_ite, fl_ok, fl_ex, fl_ite, ev_set, kSet_ev, ev_ret, ev_retN, ev_nx, ev_bk, ev_ct, ev_raise, ev_if, kIf_ev, ev_drop, kNx_ev, ev_par, kPar_ev, kId_ev, ev_asg, kAsg_ev, ev_for, kFor_ev, ev_V, dVg_ok, ev_C, ev_1, ev_2, bind2_ok, bind2_ite1, bind2_ite2, bind_ite, ev_A, ev_nil, ev_cons, kCons_ev, ev_T, toB_ev, ev_and, ev_or, ev_not, kAnd_ev, kOr_ev, kNot_ev, ev_andV, ev_orV, ev_notV, kAndV_ev, kOrV_ev, kNotV_ev, ev_ife, kIfE_ev, ev_ch, kCh, tup_ev, lst_ev, call_ev, kw_ev, ev_kw, ev_fn, startE_0, startE_s, startE_c, fin_rt, fin_nx, fin_ex, fin_ite, ix_t0, ix_t1, ix_t2, ix_t3, ix_l0, ix_l1, ix_l2, len_l, len_t1, len_t2, len_t3, len_t4, beq_self_eq_true, ev_iL, ev_iT, asL_ev, asT_ev, ev_iA, ev_P, toI_ev, ev_P0, ev_sl, kSl_ev, put_1, gAdd_i, gSub_i, gMul_i, gDiv_p, gMod_p, gPow_l, gShl_l, gShr_l, gLt_i, gLe_i, gGt_i, gGe_i, gEq_i, gNe_i, gNeg_i, gAbs_i, gInt_i, gInt_b, gEq_s, gNe_s, gEq_b, gNe_b, gEq_2, gNe_2, gEq_3, gNe_3, gEq_22, gNe_22, DL.R.bind_ok, DL.R.bind_ex, ev_setL, kSetL_ev, ev_lDisp, kDisp_ev, ev_lList, lOf_l, lOf_t, ev_frz, frz_l, frz_d, frz_n, ev_lend, lend_l, lend_d, atom_i, atom_b, atom_s, ev_lendB, lendB_l, lendB_d, ev_app, app_l, kApp_ev, ev_put, put_l, ev_ixO, ixO_l, ixO_d, put_m, putAll_c, putAll_n, ev_lc, kLst_ev, ev_lcL, wipe_n, wipe_c, r1_2, r1_3, bits_ev, List.getElem?_cons_zero, List.getElem?_cons_succ, List.set_cons_zero, List.set_cons_succ, List.length_cons, List.length_nil, List.length_map, List.append_nil, List.cons_append, List.nil_append, ev_if, turn_nx, turn_ct, turn_bk, turn_rt, turn_ite, kWh_ev, isi_int_int, isi_bool_int, isi_int_bool, isi_bool_bool, isi_int_str, isi_int_none, isi_int_list, isi_int_tup, isi_bool_str, isi_bool_none, isi_bool_list, isi_bool_tup, isi_tup_tup, isi_tup_int, isi_tup_bool, isi_tup_str, isi_tup_none, isi_tup_list, isi_list_list, isi_list_tup, isi_list_int, isi_list_bool, isi_list_str, isi_list_none, isi_str_str, isi_str_int, isi_str_bool, isi_str_none, isi_str_list, isi_str_tup, decide_true, decide_false, not_true_eq_false, not_false_eq_true, ne_eq, decide_eq_true_eq, Bool.not_eq_true', decide_eq_false_iff_not, Bool.not_true, Bool.not_false, Bool.false_eq_true, if_true, if_false, reduceIte, hs1, hs2, hs3, hadd1, hadd2, ht1, ht2, sum_ints, ed, eb, ec, hadd3, f, e1, e2, e3, i1, i2, i3]
end DL

set_option Elab.async false
set_option linter.all false
set_option maxRecDepth 100000
set_option maxHeartbeats 4000000
set_option autoImplicit false
namespace DL
section
open PySem L2
def top (i : Nat) : Stmt := PySem.Challenge.pw_boardglue_k13_tables.main.body.getD i (.Pass ⟨0, 0, 0, 0⟩)
abbrev s_divisor : Stmt := top 1
theorem sc_divisor : FnScope ["one", "other"] ["one", "other"] (defScope s_divisor) := ⟨rfl, rfl, rfl, by decide +kernel, rfl, by decide +kernel, by decide +kernel⟩
def d_divisor : He.DefD := ⟨("divisor", none), "divisor", "divisor", defArgs s_divisor, defBody s_divisor, defScope s_divisor, [], []⟩
abbrev s_fraction : Stmt := top 2
theorem sc_fraction : FnScope ["top", "bottom", "share"] ["top", "bottom"] (defScope s_fraction) := ⟨rfl, rfl, rfl, by decide +kernel, rfl, by decide +kernel, by decide +kernel⟩
def d_fraction : He.DefD := ⟨("fraction", none), "fraction", "fraction", defArgs s_fraction, defBody s_fraction, defScope s_fraction, [(He.Dv.int 1)], []⟩
abbrev s_parts : Stmt := top 3
theorem sc_parts : FnScope ["one"] ["one"] (defScope s_parts) := ⟨rfl, rfl, rfl, by decide +kernel, rfl, by decide +kernel, by decide +kernel⟩
def d_parts : He.DefD := ⟨("parts", none), "parts", "parts", defArgs s_parts, defBody s_parts, defScope s_parts, [], []⟩
abbrev s_plus : Stmt := top 6
theorem sc_plus : FnScope ["one", "other"] ["one", "other"] (defScope s_plus) := ⟨rfl, rfl, rfl, by decide +kernel, rfl, by decide +kernel, by decide +kernel⟩
def d_plus : He.DefD := ⟨("plus", none), "plus", "plus", defArgs s_plus, defBody s_plus, defScope s_plus, [], []⟩
abbrev s_minus : Stmt := top 7
theorem sc_minus : FnScope ["one", "other"] ["one", "other"] (defScope s_minus) := ⟨rfl, rfl, rfl, by decide +kernel, rfl, by decide +kernel, by decide +kernel⟩
def d_minus : He.DefD := ⟨("minus", none), "minus", "minus", defArgs s_minus, defBody s_minus, defScope s_minus, [], []⟩
abbrev s_times : Stmt := top 8
theorem sc_times : FnScope ["one", "other"] ["one", "other"] (defScope s_times) := ⟨rfl, rfl, rfl, by decide +kernel, rfl, by decide +kernel, by decide +kernel⟩
def d_times : He.DefD := ⟨("times", none), "times", "times", defArgs s_times, defBody s_times, defScope s_times, [], []⟩
abbrev s_together : Stmt := top 9
theorem sc_together : FnScope ["one", "other", "mine", "theirs", "row", "more"] ["one", "other"] (defScope s_together) := ⟨rfl, rfl, rfl, by decide +kernel, rfl, by decide +kernel, by decide +kernel⟩
def d_together : He.DefD := ⟨("together", none), "together", "together", defArgs s_together, defBody s_together, defScope s_together, [], []⟩
abbrev s_less : Stmt := top 10
theorem sc_less : FnScope ["one", "other", "mine", "theirs", "row", "more"] ["one", "other"] (defScope s_less) := ⟨rfl, rfl, rfl, by decide +kernel, rfl, by decide +kernel, by decide +kernel⟩
def d_less : He.DefD := ⟨("less", none), "less", "less", defArgs s_less, defBody s_less, defScope s_less, [], []⟩
abbrev s_over : Stmt := top 11
theorem sc_over : FnScope ["one"] ["one"] (defScope s_over) := ⟨rfl, rfl, rfl, by decide +kernel, rfl, by decide +kernel, by decide +kernel⟩
def d_over : He.DefD := ⟨("over", none), "over", "over", defArgs s_over, defBody s_over, defScope s_over, [], []⟩
abbrev s_table_of : Stmt := top 12
theorem sc_table_of : FnScope ["width", "height", "theirs", "mine"] ["width", "height"] (defScope s_table_of) := ⟨rfl, rfl, rfl, by decide +kernel, rfl, by decide +kernel, by decide +kernel⟩
def d_table_of : He.DefD := ⟨("table_of", none), "table_of", "table_of", defArgs s_table_of, defBody s_table_of, defScope s_table_of, [], []⟩
abbrev s_table : Stmt := top 13
theorem sc_table : FnScope ["heap", "found", "width", "height"] ["heap"] (defScope s_table) := ⟨rfl, rfl, rfl, by decide +kernel, rfl, by decide +kernel, by decide +kernel⟩
def d_table : He.DefD := ⟨("table", none), "table", "table", defArgs s_table, defBody s_table, defScope s_table, [], []⟩
abbrev s_law_mix : Stmt := top 15
theorem sc_law_mix : FnScope ["_law_cell", "_law_k", "_law_number"] ["_law_cell", "_law_k"] (defScope s_law_mix) := ⟨rfl, rfl, rfl, by decide +kernel, rfl, by decide +kernel, by decide +kernel⟩
def d_law_mix : He.DefD := ⟨("_law_mix", none), "_law_mix", "_law_mix", defArgs s_law_mix, defBody s_law_mix, defScope s_law_mix, [], []⟩
abbrev s_law_whole : Stmt := top 16
theorem sc_law_whole : FnScope ["_law_found"] ["_law_found"] (defScope s_law_whole) := ⟨rfl, rfl, rfl, by decide +kernel, rfl, by decide +kernel, by decide +kernel⟩
def d_law_whole : He.DefD := ⟨("_law_whole", none), "_law_whole", "_law_whole", defArgs s_law_whole, defBody s_law_whole, defScope s_law_whole, [], []⟩
abbrev s_law_low : Stmt := top 17
theorem sc_law_low : FnScope ["_law_a", "_law_b", "_law_n", "_law_one", "_law_other"] ["_law_a", "_law_b", "_law_n"] (defScope s_law_low) := ⟨rfl, rfl, rfl, by decide +kernel, rfl, by decide +kernel, by decide +kernel⟩
def d_law_low : He.DefD := ⟨("_law_low", none), "_law_low", "_law_low", defArgs s_law_low, defBody s_law_low, defScope s_law_low, [], []⟩
abbrev s_law_fraction : Stmt := top 18
theorem sc_law_fraction : FnScope ["_law_top", "_law_bottom", "_law_one", "_law_other"] ["_law_top", "_law_bottom"] (defScope s_law_fraction) := ⟨rfl, rfl, rfl, by decide +kernel, rfl, by decide +kernel, by decide +kernel⟩
def d_law_fraction : He.DefD := ⟨("_law_fraction", none), "_law_fraction", "_law_fraction", defArgs s_law_fraction, defBody s_law_fraction, defScope s_law_fraction, [], []⟩
abbrev s_law_root : Stmt := top 19
theorem sc_law_root : FnScope ["_law_cell", "_law_some", "_law_d"] ["_law_cell"] (defScope s_law_root) := ⟨rfl, rfl, rfl, by decide +kernel, rfl, by decide +kernel, by decide +kernel⟩
def d_law_root : He.DefD := ⟨("_law_root", none), "_law_root", "_law_root", defArgs s_law_root, defBody s_law_root, defScope s_law_root, [], []⟩
abbrev s_law_side : Stmt := top 20
theorem sc_law_side : FnScope ["_law_cell", "_law_k", "_law_d", "_law_n", "_law_b", "_law_way", "_law_a"] ["_law_cell", "_law_k", "_law_d"] (defScope s_law_side) := ⟨rfl, rfl, rfl, by decide +kernel, rfl, by decide +kernel, by decide +kernel⟩
def d_law_side : He.DefD := ⟨("_law_side", none), "_law_side", "_law_side", defArgs s_law_side, defBody s_law_side, defScope s_law_side, [], []⟩
abbrev s_law_is : Stmt := top 21
theorem sc_law_is : FnScope ["_law_found", "_law_due", "_law_k"] ["_law_found", "_law_due"] (defScope s_law_is) := ⟨rfl, rfl, rfl, by decide +kernel, rfl, by decide +kernel, by decide +kernel⟩
def d_law_is : He.DefD := ⟨("_law_is", none), "_law_is", "_law_is", defArgs s_law_is, defBody s_law_is, defScope s_law_is, [], []⟩
abbrev s_law_heap : Stmt := top 22
theorem sc_law_heap : FnScope ["_law_cells", "_law_d", "_law_cell"] ["_law_cells", "_law_d"] (defScope s_law_heap) := ⟨rfl, rfl, rfl, by decide +kernel, rfl, by decide +kernel, by decide +kernel⟩
def d_law_heap : He.DefD := ⟨("_law_heap", none), "_law_heap", "_law_heap", defArgs s_law_heap, defBody s_law_heap, defScope s_law_heap, [], []⟩
abbrev s_law_add : Stmt := top 23
theorem sc_law_add : FnScope ["_law_one", "_law_other"] ["_law_one", "_law_other"] (defScope s_law_add) := ⟨rfl, rfl, rfl, by decide +kernel, rfl, by decide +kernel, by decide +kernel⟩
def d_law_add : He.DefD := ⟨("_law_add", none), "_law_add", "_law_add", defArgs s_law_add, defBody s_law_add, defScope s_law_add, [], []⟩
abbrev s_law_places : Stmt := top 24
theorem sc_law_places : FnScope ["_law_heap_here", "_law_found", "_law_width", "_law_height", "_law_i", "_law_j"] ["_law_heap_here"] (defScope s_law_places) := ⟨rfl, rfl, rfl, by decide +kernel, rfl, by decide +kernel, by decide +kernel⟩
def d_law_places : He.DefD := ⟨("_law_places", none), "_law_places", "_law_places", defArgs s_law_places, defBody s_law_places, defScope s_law_places, [], []⟩
abbrev s_law_is_table : Stmt := top 25
theorem sc_law_is_table : FnScope ["_law_found", "_law_due", "_law_i", "_law_j"] ["_law_found", "_law_due"] (defScope s_law_is_table) := ⟨rfl, rfl, rfl, by decide +kernel, rfl, by decide +kernel, by decide +kernel⟩
def d_law_is_table : He.DefD := ⟨("_law_is_table", none), "_law_is_table", "_law_is_table", defArgs s_law_is_table, defBody s_law_is_table, defScope s_law_is_table, [], []⟩
abbrev s_law : Stmt := top 26
theorem sc_law : FnScope ["_law_script", "_law_d", "_law_one", "_law_other", "_law_tables", "_law_some", "_law_kept", "_law_found", "_law_due"] ["_law_script"] (defScope s_law) := ⟨rfl, rfl, rfl, by decide +kernel, rfl, by decide +kernel, by decide +kernel⟩
def d_law : He.DefD := ⟨("law", none), "law", "law", defArgs s_law, defBody s_law, defScope s_law, [], []⟩
def fn : List He.DefD := [d_divisor, d_fraction, d_parts, d_plus, d_minus, d_times, d_together, d_less, d_over, d_table_of, d_table, d_law_mix, d_law_whole, d_law_low, d_law_fraction, d_law_root, d_law_side, d_law_is, d_law_heap, d_law_add, d_law_places, d_law_is_table, d_law]
def fa : List He.Fa := [.glo "divisor", .glo "fraction", .glo "parts", .glo "plus", .glo "minus", .glo "times", .glo "together", .glo "less", .glo "over", .glo "table_of", .glo "table", .glo "_law_mix", .glo "_law_whole", .glo "_law_low", .glo "_law_fraction", .glo "_law_root", .glo "_law_side", .glo "_law_is", .glo "_law_heap", .glo "_law_add", .glo "_law_places", .glo "_law_is_table", .glo "law", .free "abs", .free "bool", .free "int", .free "isinstance", .free "len", .free "list", .free "range", .free "reversed", .free "sum", .free "tuple", .free "zip", .glo "NOUGHT"]
def ex (K : PySem.W.Frag) : Bool := (He.tupB K "NOUGHT" [(He.Dv.int 0), (He.Dv.int 1)])
section
variable {P : Program} {w : World} {K : PySem.W.Frag} {mg : MG} {base : Heap} {h : Heap}
theorem gc_NOUGHT (KX : K.In h) (GN : h.Ns mainGlobals mg) (c : He.SaysX fa fn [] [] ex w h K) : ∃ u, mg "NOUGHT" = some u ∧ RelV (.ref (He.ga K "NOUGHT")) u ∧ ∀ S, Rp K S (.ref (He.ga K "NOUGHT")) c_NOUGHT := by
  have m := c.more
  unfold ex at m
  have m1 := m
  exact ⟨_, He.glo_ok KX GN (c.t.d.fact 34 (f := .glo "NOUGHT") rfl), rfl, fun S => .tup (He.tupB_ok m1 S) (.cons (.int _) (.cons (.int _) (.nil)))⟩
theorem fo_divisor (KX : K.In h) (GN : h.Ns mainGlobals mg) (c : He.SaysX fa fn [] [] ex w h K)  {fd : FuncData} (F : FunD K d_divisor.name d_divisor.qual d_divisor.params d_divisor.body d_divisor.scope (d_divisor.dvs K) (d_divisor.kws K) (He.fAd K d_divisor.at_) fd) : FnOk P w K mg base (L2.CX P w) 1 (He.fAd K d_divisor.at_) fd ["one", "other"] (spD K mg 2 m_divisor) := by
  have b_abs : mg "abs" = none := He.free_ok KX GN (c.t.d.fact 23 (f := .free "abs") rfl)
  have S := sc_divisor
  rw [mm_divisor]
  have Z := okD (P := P) (w := w) (mg := mg) (base := base) (n := 2) (k := 0) (den := den_divisor) F S rfl
  refine Z ?_
  intro cdv A outer s H E hr
  have tk : Takes (cxOf (L2.CX P w) P w K mg base ["one", "other"] "divisor" (defScope s_divisor) (He.fAd K d_divisor.at_) cdv A outer s H E) (fun cls d _ H => E cls d H) := takes_of rfl rfl rfl rfl
  have hp : PassesOwn (model P w) (cxOf (L2.CX P w) P w K mg base ["one", "other"] "divisor" (defScope s_divisor) (He.fAd K d_divisor.at_) cdv A outer s H E).A (cxOf (L2.CX P w) P w K mg base ["one", "other"] "divisor" (defScope s_divisor) (He.fAd K d_divisor.at_) cdv A outer s H E).env (cxOf (L2.CX P w) P w K mg base ["one", "other"] "divisor" (defScope s_divisor) (He.fAd K d_divisor.at_) cdv A outer s H E).xe := passes_of rfl
  exact sd_cons (sd_while hp (pt_cmpd (od_ne hr.units) noEx_ne (pd_v 1) (pd_int)) (sd_one (sd_par 0 1 rfl S.nd rfl rfl (by decide) rfl rfl (pd_v 1) (pd_bin od_mod noEx_mod (pd_v 0) (pd_v 1)) rfl))) (sd_one (sd_ret (pd_b cd_abs nx_abs b_abs (by decide +kernel) (pad_cons (pd_v 0) (pad_nil)))))
theorem ok_divisor (KX : K.In h) (GN : h.Ns mainGlobals mg) (c : He.SaysX fa fn [] [] ex w h K)  : FnAt P w K mg base "divisor" 1 2 [[]] m_divisor := by
  obtain ⟨fd, F⟩ := c.t.d.def_ 0 (d := d_divisor) rfl
  refine ⟨_, fd, ["one", "other"], fo_divisor KX GN c  F, He.glo_ok KX GN (c.t.d.fact 0 (f := .glo "divisor") rfl), F.kp, ?_⟩
  · intro ds hd
    rw [List.mem_singleton] at hd
    subst hd
    exact ⟨[], [], FunD.bindsN F fun _ _ _ _ _ _ us hl => match us, hl with | [_, _], _ => rfl, .nil, fun _ => .nil⟩
theorem fo_fraction (KX : K.In h) (GN : h.Ns mainGlobals mg) (c : He.SaysX fa fn [] [] ex w h K) (F_divisor : FnAt P w K mg base "divisor" 1 2 [[]] m_divisor) {fd : FuncData} (F : FunD K d_fraction.name d_fraction.qual d_fraction.params d_fraction.body d_fraction.scope (d_fraction.dvs K) (d_fraction.kws K) (He.fAd K d_fraction.at_) fd) : FnOk P w K mg base (L2.CX P w) 2 (He.fAd K d_fraction.at_) fd ["top", "bottom"] (spD K mg 2 m_fraction) := by
  have S := sc_fraction
  rw [mm_fraction]
  have Z := okD (P := P) (w := w) (mg := mg) (base := base) (n := 2) (k := 1) (den := den_fraction) F S rfl
  refine Z ?_
  intro cdv A outer s H E hr
  have tk : Takes (cxOf (L2.CX P w) P w K mg base ["top", "bottom", "share"] "fraction" (defScope s_fraction) (He.fAd K d_fraction.at_) cdv A outer s H E) (fun cls d _ H => E cls d H) := takes_of rfl rfl rfl rfl
  have hp : PassesOwn (model P w) (cxOf (L2.CX P w) P w K mg base ["top", "bottom", "share"] "fraction" (defScope s_fraction) (He.fAd K d_fraction.at_) cdv A outer s H E).A (cxOf (L2.CX P w) P w K mg base ["top", "bottom", "share"] "fraction" (defScope s_fraction) (He.fAd K d_fraction.at_) cdv A outer s H E).env (cxOf (L2.CX P w) P w K mg base ["top", "bottom", "share"] "fraction" (defScope s_fraction) (He.fAd K d_fraction.at_) cdv A outer s H E).xe := passes_of rfl
  exact sd_cons (sd_set 2 S.nd rfl (.inl rfl) (pd_call F_divisor mem0 (hr.mono (by decide)) tk rfl (pad_cons (pd_v 0) (pad_cons (pd_v 1) (pad_nil))))) (sd_cons (sd_if (pt_cmpd od_lt noEx_cI (pd_v 1) (pd_int)) (sd_one (sd_set 2 S.nd rfl (.inl rfl) (pd_bin od_sub noEx_sub (pd_int) (pd_v 2)))) (sd_nil)) (sd_one (sd_ret (pd_tup (pad_cons (pd_bin od_div noEx_div (pd_v 0) (pd_v 2)) (pad_cons (pd_bin od_div noEx_div (pd_v 1) (pd_v 2)) (pad_nil)))))))
theorem ok_fraction (KX : K.In h) (GN : h.Ns mainGlobals mg) (c : He.SaysX fa fn [] [] ex w h K) (F_divisor : FnAt P w K mg base "divisor" 1 2 [[]] m_divisor) : FnAt P w K mg base "fraction" 2 2 [[], [(.int 1)]] m_fraction := by
  obtain ⟨fd, F⟩ := c.t.d.def_ 1 (d := d_fraction) rfl
  refine ⟨_, fd, ["top", "bottom"], fo_fraction KX GN c F_divisor F, He.glo_ok KX GN (c.t.d.fact 1 (f := .glo "fraction") rfl), F.kp, ?_⟩
  · intro ds hd
    simp only [List.mem_cons, List.not_mem_nil, or_false] at hd
    rcases hd with rfl | rfl
    · obtain ⟨us, hv, hb⟩ := FunD.binds1 (ps := ["top", "bottom"]) F 2 1 (by intro z; cases z) rfl fun T kV doc pm an cdv ct us its h1 h2 => match us, its, h1, h2 with | [_, _], [_], _, _ => ⟨_, rfl, rfl⟩
      exact ⟨us, _, hb, hv, fun S => .nil⟩
    · obtain ⟨us, hv, hb⟩ := FunD.binds1 (ps := ["top", "bottom"]) F 1 0 (by intro z; cases z) rfl fun T kV doc pm an cdv ct us its h1 h2 => match us, its, h1, h2 with | [_], [_], _, _ => ⟨_, rfl, rfl⟩
      exact ⟨us, _, hb, hv, fun S => .cons (.int _) (.nil)⟩
theorem fo_parts (KX : K.In h) (GN : h.Ns mainGlobals mg) (c : He.SaysX fa fn [] [] ex w h K) (F_fraction : FnAt P w K mg base "fraction" 2 2 [[], [(.int 1)]] m_fraction) {fd : FuncData} (F : FunD K d_parts.name d_parts.qual d_parts.params d_parts.body d_parts.scope (d_parts.dvs K) (d_parts.kws K) (He.fAd K d_parts.at_) fd) : FnOk P w K mg base (L2.CX P w) 3 (He.fAd K d_parts.at_) fd ["one"] (spD K mg 1 m_parts) := by
  have S := sc_parts
  rw [mm_parts]
  have Z := okD (P := P) (w := w) (mg := mg) (base := base) (n := 1) (k := 2) (den := den_parts) F S rfl
  refine Z ?_
  intro cdv A outer s H E hr
  have tk : Takes (cxOf (L2.CX P w) P w K mg base ["one"] "parts" (defScope s_parts) (He.fAd K d_parts.at_) cdv A outer s H E) (fun cls d _ H => E cls d H) := takes_of rfl rfl rfl rfl
  have hp : PassesOwn (model P w) (cxOf (L2.CX P w) P w K mg base ["one"] "parts" (defScope s_parts) (He.fAd K d_parts.at_) cdv A outer s H E).A (cxOf (L2.CX P w) P w K mg base ["one"] "parts" (defScope s_parts) (He.fAd K d_parts.at_) cdv A outer s H E).env (cxOf (L2.CX P w) P w K mg base ["one"] "parts" (defScope s_parts) (He.fAd K d_parts.at_) cdv A outer s H E).xe := passes_of rfl
  exact sd_one (sd_ret (pd_tup (pad_cons (pd_call F_fraction mem0 (hr.mono (by decide)) tk rfl (pad_cons (pd_ix (pd_v 0) (pd_int)) (pad_cons (pd_ix (pd_v 0) (pd_int)) (pad_nil)))) (pad_cons (pd_call F_fraction mem0 (hr.mono (by decide)) tk rfl (pad_cons (pd_ix (pd_v 0) (pd_int)) (pad_cons (pd_ix (pd_v 0) (pd_int)) (pad_nil)))) (pad_nil)))))
theorem ok_parts (KX : K.In h) (GN : h.Ns mainGlobals mg) (c : He.SaysX fa fn [] [] ex w h K) (F_fraction : FnAt P w K mg base "fraction" 2 2 [[], [(.int 1)]] m_fraction) : FnAt P w K mg base "parts" 3 1 [[]] m_parts := by
  obtain ⟨fd, F⟩ := c.t.d.def_ 2 (d := d_parts) rfl
  refine ⟨_, fd, ["one"], fo_parts KX GN c F_fraction F, He.glo_ok KX GN (c.t.d.fact 2 (f := .glo "parts") rfl), F.kp, ?_⟩
  · intro ds hd
    rw [List.mem_singleton] at hd
    subst hd
    exact ⟨[], [], FunD.bindsN F fun _ _ _ _ _ _ us hl => match us, hl with | [_], _ => rfl, .nil, fun _ => .nil⟩
theorem fo_plus (KX : K.In h) (GN : h.Ns mainGlobals mg) (c : He.SaysX fa fn [] [] ex w h K) (F_fraction : FnAt P w K mg base "fraction" 2 2 [[], [(.int 1)]] m_fraction) {fd : FuncData} (F : FunD K d_plus.name d_plus.qual d_plus.params d_plus.body d_plus.scope (d_plus.dvs K) (d_plus.kws K) (He.fAd K d_plus.at_) fd) : FnOk P w K mg base (L2.CX P w) 3 (He.fAd K d_plus.at_) fd ["one", "other"] (spD K mg 2 m_plus) := by
  have S := sc_plus
  rw [mm_plus]
  have Z := okD (P := P) (w := w) (mg := mg) (base := base) (n := 2) (k := 2) (den := den_plus) F S rfl
  refine Z ?_
  intro cdv A outer s H E hr
  have tk : Takes (cxOf (L2.CX P w) P w K mg base ["one", "other"] "plus" (defScope s_plus) (He.fAd K d_plus.at_) cdv A outer s H E) (fun cls d _ H => E cls d H) := takes_of rfl rfl rfl rfl
  have hp : PassesOwn (model P w) (cxOf (L2.CX P w) P w K mg base ["one", "other"] "plus" (defScope s_plus) (He.fAd K d_plus.at_) cdv A outer s H E).A (cxOf (L2.CX P w) P w K mg base ["one", "other"] "plus" (defScope s_plus) (He.fAd K d_plus.at_) cdv A outer s H E).env (cxOf (L2.CX P w) P w K mg base ["one", "other"] "plus" (defScope s_plus) (He.fAd K d_plus.at_) cdv A outer s H E).xe := passes_of rfl
  exact sd_one (sd_ret (pd_call F_fraction mem0 (hr.mono (by decide)) tk rfl (pad_cons (pd_bin od_add noEx_add (pd_bin od_mul noEx_mul (pd_ix (pd_v 0) (pd_int)) (pd_ix (pd_v 1) (pd_int))) (pd_bin od_mul noEx_mul (pd_ix (pd_v 1) (pd_int)) (pd_ix (pd_v 0) (pd_int)))) (pad_cons (pd_bin od_mul noEx_mul (pd_ix (pd_v 0) (pd_int)) (pd_ix (pd_v 1) (pd_int))) (pad_nil)))))
theorem ok_plus (KX : K.In h) (GN : h.Ns mainGlobals mg) (c : He.SaysX fa fn [] [] ex w h K) (F_fraction : FnAt P w K mg base "fraction" 2 2 [[], [(.int 1)]] m_fraction) : FnAt P w K mg base "plus" 3 2 [[]] m_plus := by
  obtain ⟨fd, F⟩ := c.t.d.def_ 3 (d := d_plus) rfl
  refine ⟨_, fd, ["one", "other"], fo_plus KX GN c F_fraction F, He.glo_ok KX GN (c.t.d.fact 3 (f := .glo "plus") rfl), F.kp, ?_⟩
  · intro ds hd
    rw [List.mem_singleton] at hd
    subst hd
    exact ⟨[], [], FunD.bindsN F fun _ _ _ _ _ _ us hl => match us, hl with | [_, _], _ => rfl, .nil, fun _ => .nil⟩
theorem fo_minus (KX : K.In h) (GN : h.Ns mainGlobals mg) (c : He.SaysX fa fn [] [] ex w h K) (F_fraction : FnAt P w K mg base "fraction" 2 2 [[], [(.int 1)]] m_fraction) {fd : FuncData} (F : FunD K d_minus.name d_minus.qual d_minus.params d_minus.body d_minus.scope (d_minus.dvs K) (d_minus.kws K) (He.fAd K d_minus.at_) fd) : FnOk P w K mg base (L2.CX P w) 3 (He.fAd K d_minus.at_) fd ["one", "other"] (spD K mg 2 m_minus) := by
  have S := sc_minus
  rw [mm_minus]
  have Z := okD (P := P) (w := w) (mg := mg) (base := base) (n := 2) (k := 2) (den := den_minus) F S rfl
  refine Z ?_
  intro cdv A outer s H E hr
  have tk : Takes (cxOf (L2.CX P w) P w K mg base ["one", "other"] "minus" (defScope s_minus) (He.fAd K d_minus.at_) cdv A outer s H E) (fun cls d _ H => E cls d H) := takes_of rfl rfl rfl rfl
  have hp : PassesOwn (model P w) (cxOf (L2.CX P w) P w K mg base ["one", "other"] "minus" (defScope s_minus) (He.fAd K d_minus.at_) cdv A outer s H E).A (cxOf (L2.CX P w) P w K mg base ["one", "other"] "minus" (defScope s_minus) (He.fAd K d_minus.at_) cdv A outer s H E).env (cxOf (L2.CX P w) P w K mg base ["one", "other"] "minus" (defScope s_minus) (He.fAd K d_minus.at_) cdv A outer s H E).xe := passes_of rfl
  exact sd_one (sd_ret (pd_call F_fraction mem0 (hr.mono (by decide)) tk rfl (pad_cons (pd_bin od_sub noEx_sub (pd_bin od_mul noEx_mul (pd_ix (pd_v 0) (pd_int)) (pd_ix (pd_v 1) (pd_int))) (pd_bin od_mul noEx_mul (pd_ix (pd_v 1) (pd_int)) (pd_ix (pd_v 0) (pd_int)))) (pad_cons (pd_bin od_mul noEx_mul (pd_ix (pd_v 0) (pd_int)) (pd_ix (pd_v 1) (pd_int))) (pad_nil)))))
theorem ok_minus (KX : K.In h) (GN : h.Ns mainGlobals mg) (c : He.SaysX fa fn [] [] ex w h K) (F_fraction : FnAt P w K mg base "fraction" 2 2 [[], [(.int 1)]] m_fraction) : FnAt P w K mg base "minus" 3 2 [[]] m_minus := by
  obtain ⟨fd, F⟩ := c.t.d.def_ 4 (d := d_minus) rfl
  refine ⟨_, fd, ["one", "other"], fo_minus KX GN c F_fraction F, He.glo_ok KX GN (c.t.d.fact 4 (f := .glo "minus") rfl), F.kp, ?_⟩
  · intro ds hd
    rw [List.mem_singleton] at hd
    subst hd
    exact ⟨[], [], FunD.bindsN F fun _ _ _ _ _ _ us hl => match us, hl with | [_, _], _ => rfl, .nil, fun _ => .nil⟩
theorem fo_times (KX : K.In h) (GN : h.Ns mainGlobals mg) (c : He.SaysX fa fn [] [] ex w h K) (F_fraction : FnAt P w K mg base "fraction" 2 2 [[], [(.int 1)]] m_fraction) {fd : FuncData} (F : FunD K d_times.name d_times.qual d_times.params d_times.body d_times.scope (d_times.dvs K) (d_times.kws K) (He.fAd K d_times.at_) fd) : FnOk P w K mg base (L2.CX P w) 3 (He.fAd K d_times.at_) fd ["one", "other"] (spD K mg 2 m_times) := by
  have S := sc_times
  rw [mm_times]
  have Z := okD (P := P) (w := w) (mg := mg) (base := base) (n := 2) (k := 2) (den := den_times) F S rfl
  refine Z ?_
  intro cdv A outer s H E hr
  have tk : Takes (cxOf (L2.CX P w) P w K mg base ["one", "other"] "times" (defScope s_times) (He.fAd K d_times.at_) cdv A outer s H E) (fun cls d _ H => E cls d H) := takes_of rfl rfl rfl rfl
  have hp : PassesOwn (model P w) (cxOf (L2.CX P w) P w K mg base ["one", "other"] "times" (defScope s_times) (He.fAd K d_times.at_) cdv A outer s H E).A (cxOf (L2.CX P w) P w K mg base ["one", "other"] "times" (defScope s_times) (He.fAd K d_times.at_) cdv A outer s H E).env (cxOf (L2.CX P w) P w K mg base ["one", "other"] "times" (defScope s_times) (He.fAd K d_times.at_) cdv A outer s H E).xe := passes_of rfl
  exact sd_one (sd_ret (pd_call F_fraction mem0 (hr.mono (by decide)) tk rfl (pad_cons (pd_bin od_mul noEx_mul (pd_ix (pd_v 0) (pd_int)) (pd_ix (pd_v 1) (pd_int))) (pad_cons (pd_bin od_mul noEx_mul (pd_ix (pd_v 0) (pd_int)) (pd_ix (pd_v 1) (pd_int))) (pad_nil)))))
theorem ok_times (KX : K.In h) (GN : h.Ns mainGlobals mg) (c : He.SaysX fa fn [] [] ex w h K) (F_fraction : FnAt P w K mg base "fraction" 2 2 [[], [(.int 1)]] m_fraction) : FnAt P w K mg base "times" 3 2 [[]] m_times := by
  obtain ⟨fd, F⟩ := c.t.d.def_ 5 (d := d_times) rfl
  refine ⟨_, fd, ["one", "other"], fo_times KX GN c F_fraction F, He.glo_ok KX GN (c.t.d.fact 5 (f := .glo "times") rfl), F.kp, ?_⟩
  · intro ds hd
    rw [List.mem_singleton] at hd
    subst hd
    exact ⟨[], [], FunD.bindsN F fun _ _ _ _ _ _ us hl => match us, hl with | [_, _], _ => rfl, .nil, fun _ => .nil⟩
theorem fo_together (KX : K.In h) (GN : h.Ns mainGlobals mg) (c : He.SaysX fa fn [] [] ex w h K) (F_plus : FnAt P w K mg base "plus" 3 2 [[]] m_plus) {fd : FuncData} (F : FunD K d_together.name d_together.qual d_together.params d_together.body d_together.scope (d_together.dvs K) (d_together.kws K) (He.fAd K d_together.at_) fd) : FnOk P w K mg base (L2.CX P w) 4 (He.fAd K d_together.at_) fd ["one", "other"] (spD K mg 2 m_together) := by
  have b_tuple : mg "tuple" = none := He.free_ok KX GN (c.t.d.fact 32 (f := .free "tuple") rfl)
  have b_zip : mg "zip" = none := He.free_ok KX GN (c.t.d.fact 33 (f := .free "zip") rfl)
  have S := sc_together
  rw [mm_together]
  have Z := okD (P := P) (w := w) (mg := mg) (base := base) (n := 2) (k := 3) (den := den_together) F S rfl
  refine Z ?_
  intro cdv A outer s H E hr
  have tk : Takes (cxOf (L2.CX P w) P w K mg base ["one", "other", "mine", "theirs", "row", "more"] "together" (defScope s_together) (He.fAd K d_together.at_) cdv A outer s H E) (fun cls d _ H => E cls d H) := takes_of rfl rfl rfl rfl
  have hp : PassesOwn (model P w) (cxOf (L2.CX P w) P w K mg base ["one", "other", "mine", "theirs", "row", "more"] "together" (defScope s_together) (He.fAd K d_together.at_) cdv A outer s H E).A (cxOf (L2.CX P w) P w K mg base ["one", "other", "mine", "theirs", "row", "more"] "together" (defScope s_together) (He.fAd K d_together.at_) cdv A outer s H E).env (cxOf (L2.CX P w) P w K mg base ["one", "other", "mine", "theirs", "row", "more"] "together" (defScope s_together) (He.fAd K d_together.at_) cdv A outer s H E).xe := passes_of rfl
  exact sd_one (sd_ret (pd_bt cd_tupOf nx_tupOf b_tuple (by decide +kernel) (pad_cons (pd_lc [("row", 4), ("more", 5)] rfl S.nd (pi_zp rfl b_zip (pad_cons (pd_v 0) (pad_cons (pd_v 1) (pad_nil)))) (blkOk_by (N := ["one", "other", "mine", "theirs", "row", "more"]) (sc := defScope s_together) (own := [("row", 4), ("more", 5)]) (by decide +kernel)) (by decide) (fun _ _ _ _ _ => pg_tup rfl (pgs_cons (pg_name (i := 4) S.nd rfl (.inl rfl)) (pgs_cons (pg_name (i := 5) S.nd rfl (.inl rfl)) (pgs_nil)))) (fun _ _ _ _ _ => ptd_nil) (fun _ _ _ _ _ => pd_bt cd_tupOf nx_tupOf b_tuple (by decide +kernel) (pad_cons (pd_lc [("mine", 2), ("theirs", 3)] rfl S.nd (pi_zp rfl b_zip (pad_cons (pd_v 4) (pad_cons (pd_v 5) (pad_nil)))) (blkOk_by (own := [("mine", 2), ("theirs", 3)]) (by rfl)) (by decide) (fun _ _ _ _ _ => pg_tup rfl (pgs_cons (pg_name (i := 2) S.nd rfl (.inl rfl)) (pgs_cons (pg_name (i := 3) S.nd rfl (.inl rfl)) (pgs_nil)))) (fun _ _ _ _ _ => ptd_nil) (fun _ _ _ _ _ => pd_call F_plus mem0 (hr.mono (by decide)) takes0 rfl (pad_cons (pd_v 2) (pad_cons (pd_v 3) (pad_nil))))) (pad_nil)))) (pad_nil))))
theorem ok_together (KX : K.In h) (GN : h.Ns mainGlobals mg) (c : He.SaysX fa fn [] [] ex w h K) (F_plus : FnAt P w K mg base "plus" 3 2 [[]] m_plus) : FnAt P w K mg base "together" 4 2 [[]] m_together := by
  obtain ⟨fd, F⟩ := c.t.d.def_ 6 (d := d_together) rfl
  refine ⟨_, fd, ["one", "other"], fo_together KX GN c F_plus F, He.glo_ok KX GN (c.t.d.fact 6 (f := .glo "together") rfl), F.kp, ?_⟩
  · intro ds hd
    rw [List.mem_singleton] at hd
    subst hd
    exact ⟨[], [], FunD.bindsN F fun _ _ _ _ _ _ us hl => match us, hl with | [_, _], _ => rfl, .nil, fun _ => .nil⟩
theorem fo_less (KX : K.In h) (GN : h.Ns mainGlobals mg) (c : He.SaysX fa fn [] [] ex w h K) (F_minus : FnAt P w K mg base "minus" 3 2 [[]] m_minus) {fd : FuncData} (F : FunD K d_less.name d_less.qual d_less.params d_less.body d_less.scope (d_less.dvs K) (d_less.kws K) (He.fAd K d_less.at_) fd) : FnOk P w K mg base (L2.CX P w) 4 (He.fAd K d_less.at_) fd ["one", "other"] (spD K mg 2 m_less) := by
  have b_tuple : mg "tuple" = none := He.free_ok KX GN (c.t.d.fact 32 (f := .free "tuple") rfl)
  have b_zip : mg "zip" = none := He.free_ok KX GN (c.t.d.fact 33 (f := .free "zip") rfl)
  have S := sc_less
  rw [mm_less]
  have Z := okD (P := P) (w := w) (mg := mg) (base := base) (n := 2) (k := 3) (den := den_less) F S rfl
  refine Z ?_
  intro cdv A outer s H E hr
  have tk : Takes (cxOf (L2.CX P w) P w K mg base ["one", "other", "mine", "theirs", "row", "more"] "less" (defScope s_less) (He.fAd K d_less.at_) cdv A outer s H E) (fun cls d _ H => E cls d H) := takes_of rfl rfl rfl rfl
  have hp : PassesOwn (model P w) (cxOf (L2.CX P w) P w K mg base ["one", "other", "mine", "theirs", "row", "more"] "less" (defScope s_less) (He.fAd K d_less.at_) cdv A outer s H E).A (cxOf (L2.CX P w) P w K mg base ["one", "other", "mine", "theirs", "row", "more"] "less" (defScope s_less) (He.fAd K d_less.at_) cdv A outer s H E).env (cxOf (L2.CX P w) P w K mg base ["one", "other", "mine", "theirs", "row", "more"] "less" (defScope s_less) (He.fAd K d_less.at_) cdv A outer s H E).xe := passes_of rfl
  exact sd_one (sd_ret (pd_bt cd_tupOf nx_tupOf b_tuple (by decide +kernel) (pad_cons (pd_lc [("row", 4), ("more", 5)] rfl S.nd (pi_zp rfl b_zip (pad_cons (pd_v 0) (pad_cons (pd_v 1) (pad_nil)))) (blkOk_by (N := ["one", "other", "mine", "theirs", "row", "more"]) (sc := defScope s_less) (own := [("row", 4), ("more", 5)]) (by decide +kernel)) (by decide) (fun _ _ _ _ _ => pg_tup rfl (pgs_cons (pg_name (i := 4) S.nd rfl (.inl rfl)) (pgs_cons (pg_name (i := 5) S.nd rfl (.inl rfl)) (pgs_nil)))) (fun _ _ _ _ _ => ptd_nil) (fun _ _ _ _ _ => pd_bt cd_tupOf nx_tupOf b_tuple (by decide +kernel) (pad_cons (pd_lc [("mine", 2), ("theirs", 3)] rfl S.nd (pi_zp rfl b_zip (pad_cons (pd_v 4) (pad_cons (pd_v 5) (pad_nil)))) (blkOk_by (own := [("mine", 2), ("theirs", 3)]) (by rfl)) (by decide) (fun _ _ _ _ _ => pg_tup rfl (pgs_cons (pg_name (i := 2) S.nd rfl (.inl rfl)) (pgs_cons (pg_name (i := 3) S.nd rfl (.inl rfl)) (pgs_nil)))) (fun _ _ _ _ _ => ptd_nil) (fun _ _ _ _ _ => pd_call F_minus mem0 (hr.mono (by decide)) takes0 rfl (pad_cons (pd_v 2) (pad_cons (pd_v 3) (pad_nil))))) (pad_nil)))) (pad_nil))))
theorem ok_less (KX : K.In h) (GN : h.Ns mainGlobals mg) (c : He.SaysX fa fn [] [] ex w h K) (F_minus : FnAt P w K mg base "minus" 3 2 [[]] m_minus) : FnAt P w K mg base "less" 4 2 [[]] m_less := by
  obtain ⟨fd, F⟩ := c.t.d.def_ 7 (d := d_less) rfl
  refine ⟨_, fd, ["one", "other"], fo_less KX GN c F_minus F, He.glo_ok KX GN (c.t.d.fact 7 (f := .glo "less") rfl), F.kp, ?_⟩
  · intro ds hd
    rw [List.mem_singleton] at hd
    subst hd
    exact ⟨[], [], FunD.bindsN F fun _ _ _ _ _ _ us hl => match us, hl with | [_, _], _ => rfl, .nil, fun _ => .nil⟩
theorem fo_over (KX : K.In h) (GN : h.Ns mainGlobals mg) (c : He.SaysX fa fn [] [] ex w h K)  {fd : FuncData} (F : FunD K d_over.name d_over.qual d_over.params d_over.body d_over.scope (d_over.dvs K) (d_over.kws K) (He.fAd K d_over.at_) fd) : FnOk P w K mg base (L2.CX P w) 1 (He.fAd K d_over.at_) fd ["one"] (spD K mg 1 m_over) := by
  have S := sc_over
  rw [mm_over]
  have Z := okD (P := P) (w := w) (mg := mg) (base := base) (n := 1) (k := 0) (den := den_over) F S rfl
  refine Z ?_
  intro cdv A outer s H E hr
  have tk : Takes (cxOf (L2.CX P w) P w K mg base ["one"] "over" (defScope s_over) (He.fAd K d_over.at_) cdv A outer s H E) (fun cls d _ H => E cls d H) := takes_of rfl rfl rfl rfl
  have hp : PassesOwn (model P w) (cxOf (L2.CX P w) P w K mg base ["one"] "over" (defScope s_over) (He.fAd K d_over.at_) cdv A outer s H E).A (cxOf (L2.CX P w) P w K mg base ["one"] "over" (defScope s_over) (He.fAd K d_over.at_) cdv A outer s H E).env (cxOf (L2.CX P w) P w K mg base ["one"] "over" (defScope s_over) (He.fAd K d_over.at_) cdv A outer s H E).xe := passes_of rfl
  exact sd_one (sd_ret (pd_tup (pad_cons (pd_tup (pad_cons (pd_ix (pd_ix (pd_v 0) (pd_int)) (pd_int)) (pad_cons (pd_ix (pd_ix (pd_v 0) (pd_int)) (pd_int)) (pad_nil)))) (pad_cons (pd_tup (pad_cons (pd_ix (pd_ix (pd_v 0) (pd_int)) (pd_int)) (pad_cons (pd_ix (pd_ix (pd_v 0) (pd_int)) (pd_int)) (pad_nil)))) (pad_nil)))))
theorem ok_over (KX : K.In h) (GN : h.Ns mainGlobals mg) (c : He.SaysX fa fn [] [] ex w h K)  : FnAt P w K mg base "over" 1 1 [[]] m_over := by
  obtain ⟨fd, F⟩ := c.t.d.def_ 8 (d := d_over) rfl
  refine ⟨_, fd, ["one"], fo_over KX GN c  F, He.glo_ok KX GN (c.t.d.fact 8 (f := .glo "over") rfl), F.kp, ?_⟩
  · intro ds hd
    rw [List.mem_singleton] at hd
    subst hd
    exact ⟨[], [], FunD.bindsN F fun _ _ _ _ _ _ us hl => match us, hl with | [_], _ => rfl, .nil, fun _ => .nil⟩
theorem fo_table_of (KX : K.In h) (GN : h.Ns mainGlobals mg) (c : He.SaysX fa fn [] [] ex w h K) (F_parts : FnAt P w K mg base "parts" 3 1 [[]] m_parts) (F_times : FnAt P w K mg base "times" 3 2 [[]] m_times) {fd : FuncData} (F : FunD K d_table_of.name d_table_of.qual d_table_of.params d_table_of.body d_table_of.scope (d_table_of.dvs K) (d_table_of.kws K) (He.fAd K d_table_of.at_) fd) : FnOk P w K mg base (L2.CX P w) 4 (He.fAd K d_table_of.at_) fd ["width", "height"] (spD K mg 2 m_table_of) := by
  have b_tuple : mg "tuple" = none := He.free_ok KX GN (c.t.d.fact 32 (f := .free "tuple") rfl)
  have S := sc_table_of
  rw [mm_table_of]
  have Z := okD (P := P) (w := w) (mg := mg) (base := base) (n := 2) (k := 3) (den := den_table_of) F S rfl
  refine Z ?_
  intro cdv A outer s H E hr
  have tk : Takes (cxOf (L2.CX P w) P w K mg base ["width", "height", "theirs", "mine"] "table_of" (defScope s_table_of) (He.fAd K d_table_of.at_) cdv A outer s H E) (fun cls d _ H => E cls d H) := takes_of rfl rfl rfl rfl
  have hp : PassesOwn (model P w) (cxOf (L2.CX P w) P w K mg base ["width", "height", "theirs", "mine"] "table_of" (defScope s_table_of) (He.fAd K d_table_of.at_) cdv A outer s H E).A (cxOf (L2.CX P w) P w K mg base ["width", "height", "theirs", "mine"] "table_of" (defScope s_table_of) (He.fAd K d_table_of.at_) cdv A outer s H E).env (cxOf (L2.CX P w) P w K mg base ["width", "height", "theirs", "mine"] "table_of" (defScope s_table_of) (He.fAd K d_table_of.at_) cdv A outer s H E).xe := passes_of rfl
  exact sd_one (sd_ret (pd_bt cd_tupOf nx_tupOf b_tuple (by decide +kernel) (pad_cons (pd_lc [("mine", 3)] rfl S.nd (pi_t (pd_call F_parts mem0 (hr.mono (by decide)) tk rfl (pad_cons (pd_v 0) (pad_nil)))) (blkOk_by (N := ["width", "height", "theirs", "mine"]) (sc := defScope s_table_of) (own := [("mine", 3)]) (by decide +kernel)) (by decide) (fun _ _ _ _ _ => pg_name (i := 3) S.nd rfl (.inr rfl)) (fun _ _ _ _ _ => ptd_nil) (fun _ _ _ _ _ => pd_bt cd_tupOf nx_tupOf b_tuple (by decide +kernel) (pad_cons (pd_lc [("theirs", 2)] rfl S.nd (pi_t (pd_call F_parts mem0 (hr.mono (by decide)) takes0 rfl (pad_cons (pd_v 1) (pad_nil)))) (blkOk_by (own := [("theirs", 2)]) (by rfl)) (by decide) (fun _ _ _ _ _ => pg_name (i := 2) S.nd rfl (.inl rfl)) (fun _ _ _ _ _ => ptd_nil) (fun _ _ _ _ _ => pd_call F_times mem0 (hr.mono (by decide)) takes0 rfl (pad_cons (pd_v 3) (pad_cons (pd_v 2) (pad_nil))))) (pad_nil)))) (pad_nil))))
theorem ok_table_of (KX : K.In h) (GN : h.Ns mainGlobals mg) (c : He.SaysX fa fn [] [] ex w h K) (F_parts : FnAt P w K mg base "parts" 3 1 [[]] m_parts) (F_times : FnAt P w K mg base "times" 3 2 [[]] m_times) : FnAt P w K mg base "table_of" 4 2 [[]] m_table_of := by
  obtain ⟨fd, F⟩ := c.t.d.def_ 9 (d := d_table_of) rfl
  refine ⟨_, fd, ["width", "height"], fo_table_of KX GN c F_parts F_times F, He.glo_ok KX GN (c.t.d.fact 9 (f := .glo "table_of") rfl), F.kp, ?_⟩
  · intro ds hd
    rw [List.mem_singleton] at hd
    subst hd
    exact ⟨[], [], FunD.bindsN F fun _ _ _ _ _ _ us hl => match us, hl with | [_, _], _ => rfl, .nil, fun _ => .nil⟩
theorem fo_table (KX : K.In h) (GN : h.Ns mainGlobals mg) (c : He.SaysX fa fn [] [] ex w h K) (F_together : FnAt P w K mg base "together" 4 2 [[]] m_together) (F_table_of : FnAt P w K mg base "table_of" 4 2 [[]] m_table_of) {fd : FuncData} (F : FunD K d_table.name d_table.qual d_table.params d_table.body d_table.scope (d_table.dvs K) (d_table.kws K) (He.fAd K d_table.at_) fd) : FnOk P w K mg base (L2.CX P w) 5 (He.fAd K d_table.at_) fd ["heap"] (spD K mg 1 m_table) := by
  obtain ⟨u_NOUGHT, g_NOUGHT⟩ := gc_NOUGHT (mg := mg) KX GN c
  have S := sc_table
  rw [mm_table]
  have Z := okD (P := P) (w := w) (mg := mg) (base := base) (n := 1) (k := 4) (den := den_table) F S rfl
  refine Z ?_
  intro cdv A outer s H E hr
  have tk : Takes (cxOf (L2.CX P w) P w K mg base ["heap", "found", "width", "height"] "table" (defScope s_table) (He.fAd K d_table.at_) cdv A outer s H E) (fun cls d _ H => E cls d H) := takes_of rfl rfl rfl rfl
  have hp : PassesOwn (model P w) (cxOf (L2.CX P w) P w K mg base ["heap", "found", "width", "height"] "table" (defScope s_table) (He.fAd K d_table.at_) cdv A outer s H E).A (cxOf (L2.CX P w) P w K mg base ["heap", "found", "width", "height"] "table" (defScope s_table) (He.fAd K d_table.at_) cdv A outer s H E).env (cxOf (L2.CX P w) P w K mg base ["heap", "found", "width", "height"] "table" (defScope s_table) (He.fAd K d_table.at_) cdv A outer s H E).xe := passes_of rfl
  exact sd_cons (sd_set 1 S.nd rfl (.inl rfl) (pd_tup (pad_cons (pd_tup (pad_cons (pd_g rfl g_NOUGHT.1 g_NOUGHT.2.1 g_NOUGHT.2.2) (pad_cons (pd_g rfl g_NOUGHT.1 g_NOUGHT.2.1 g_NOUGHT.2.2) (pad_nil)))) (pad_cons (pd_tup (pad_cons (pd_g rfl g_NOUGHT.1 g_NOUGHT.2.1 g_NOUGHT.2.2) (pad_cons (pd_g rfl g_NOUGHT.1 g_NOUGHT.2.1 g_NOUGHT.2.2) (pad_nil)))) (pad_nil))))) (sd_cons (sd_for hp rfl (pi_l (pd_v 0)) (pg_tup rfl (pgs_cons (pg_name (i := 2) S.nd rfl (.inl rfl)) (pgs_cons (pg_name (i := 3) S.nd rfl (.inl rfl)) (pgs_nil)))) (sd_one (sd_set 1 S.nd rfl (.inl rfl) (pd_call F_together mem0 (hr.mono (by decide)) tk rfl (pad_cons (pd_v 1) (pad_cons (pd_call F_table_of mem0 (hr.mono (by decide)) tk rfl (pad_cons (pd_v 2) (pad_cons (pd_v 3) (pad_nil)))) (pad_nil))))))) (sd_one (sd_ret (pd_v 1))))
theorem ok_table (KX : K.In h) (GN : h.Ns mainGlobals mg) (c : He.SaysX fa fn [] [] ex w h K) (F_together : FnAt P w K mg base "together" 4 2 [[]] m_together) (F_table_of : FnAt P w K mg base "table_of" 4 2 [[]] m_table_of) : FnAt P w K mg base "table" 5 1 [[]] m_table := by
  obtain ⟨fd, F⟩ := c.t.d.def_ 10 (d := d_table) rfl
  refine ⟨_, fd, ["heap"], fo_table KX GN c F_together F_table_of F, He.glo_ok KX GN (c.t.d.fact 10 (f := .glo "table") rfl), F.kp, ?_⟩
  · intro ds hd
    rw [List.mem_singleton] at hd
    subst hd
    exact ⟨[], [], FunD.bindsN F fun _ _ _ _ _ _ us hl => match us, hl with | [_], _ => rfl, .nil, fun _ => .nil⟩
theorem fo_law_mix (KX : K.In h) (GN : h.Ns mainGlobals mg) (c : He.SaysX fa fn [] [] ex w h K)  {fd : FuncData} (F : FunD K d_law_mix.name d_law_mix.qual d_law_mix.params d_law_mix.body d_law_mix.scope (d_law_mix.dvs K) (d_law_mix.kws K) (He.fAd K d_law_mix.at_) fd) : FnOk P w K mg base (L2.CX P w) 1 (He.fAd K d_law_mix.at_) fd ["_law_cell", "_law_k"] (spD K mg 2 m_law_mix_v2) := by
  have S := sc_law_mix
  rw [mm_law_mix_v2]
  have Z := okD (P := P) (w := w) (mg := mg) (base := base) (n := 2) (k := 0) (den := den_law_mix_v2) F S rfl
  refine Z ?_
  intro cdv A outer s H E hr
  have tk : Takes (cxOf (L2.CX P w) P w K mg base ["_law_cell", "_law_k", "_law_number"] "_law_mix" (defScope s_law_mix) (He.fAd K d_law_mix.at_) cdv A outer s H E) (fun cls d _ H => E cls d H) := takes_of rfl rfl rfl rfl
  have hp : PassesOwn (model P w) (cxOf (L2.CX P w) P w K mg base ["_law_cell", "_law_k", "_law_number"] "_law_mix" (defScope s_law_mix) (He.fAd K d_law_mix.at_) cdv A outer s H E).A (cxOf (L2.CX P w) P w K mg base ["_law_cell", "_law_k", "_law_number"] "_law_mix" (defScope s_law_mix) (He.fAd K d_law_mix.at_) cdv A outer s H E).env (cxOf (L2.CX P w) P w K mg base ["_law_cell", "_law_k", "_law_number"] "_law_mix" (defScope s_law_mix) (He.fAd K d_law_mix.at_) cdv A outer s H E).xe := passes_of rfl
  exact sd_cons (sd_if (PW.pt (pw_dand (pt_cmpd (od_eq hr.units) noEx_eq (pd_bin od_mod noEx_mod (pd_v 0) (pd_int)) (pd_int)) (pw_d1 (pt_cmpd od_gt noEx_cI (pd_bin od_shr noEx_shr (pd_v 0) (pd_bin od_add noEx_add (pd_bin od_mul noEx_mul (pd_int) (pd_v 1)) (pd_int))) (pd_int))))) (sd_one (sd_ret (pd_bin od_mod noEx_mod (pd_bin od_shr noEx_shr (pd_v 0) (pd_bin od_add noEx_add (pd_bin od_mul noEx_mul (pd_int) (pd_v 1)) (pd_int))) (pd_int)))) (sd_nil)) (sd_cons (sd_set 2 S.nd rfl (.inl rfl) (pd_bin od_mod noEx_mod (pd_bin od_mul noEx_mul (pd_bin od_add noEx_add (pd_bin od_add noEx_add (pd_bin od_add noEx_add (pd_bin od_mod noEx_mod (pd_v 0) (pd_int)) (pd_bin od_mul noEx_mul (pd_bin od_mul noEx_mul (pd_int) (pd_v 1)) (pd_v 1))) (pd_v 1)) (pd_int)) (pd_int)) (pd_int))) (sd_cons (sd_set 2 S.nd rfl (.inl rfl) (pd_bin od_mod noEx_mod (pd_bin od_add noEx_add (pd_bin od_add noEx_add (pd_bin od_mul noEx_mul (pd_v 2) (pd_v 2)) (pd_bin od_mul noEx_mul (pd_int) (pd_v 1))) (pd_int)) (pd_int))) (sd_one (sd_ret (pd_bin od_mod noEx_mod (pd_bin od_mul noEx_mul (pd_v 2) (pd_v 2)) (pd_int))))))
theorem ok_law_mix (KX : K.In h) (GN : h.Ns mainGlobals mg) (c : He.SaysX fa fn [] [] ex w h K)  : FnAt P w K mg base "_law_mix" 1 2 [[]] m_law_mix_v2 := by
  obtain ⟨fd, F⟩ := c.t.d.def_ 11 (d := d_law_mix) rfl
  refine ⟨_, fd, ["_law_cell", "_law_k"], fo_law_mix KX GN c  F, He.glo_ok KX GN (c.t.d.fact 11 (f := .glo "_law_mix") rfl), F.kp, ?_⟩
  · intro ds hd
    rw [List.mem_singleton] at hd
    subst hd
    exact ⟨[], [], FunD.bindsN F fun _ _ _ _ _ _ us hl => match us, hl with | [_, _], _ => rfl, .nil, fun _ => .nil⟩
theorem fo_law_whole (KX : K.In h) (GN : h.Ns mainGlobals mg) (c : He.SaysX fa fn [] [] ex w h K)  {fd : FuncData} (F : FunD K d_law_whole.name d_law_whole.qual d_law_whole.params d_law_whole.body d_law_whole.scope (d_law_whole.dvs K) (d_law_whole.kws K) (He.fAd K d_law_whole.at_) fd) : FnOk P w K mg base (L2.CX P w) 1 (He.fAd K d_law_whole.at_) fd ["_law_found"] (spD K mg 1 m_law_whole) := by
  have b_bool : mg "bool" = none := He.free_ok KX GN (c.t.d.fact 24 (f := .free "bool") rfl)
  have b_int : mg "int" = none := He.free_ok KX GN (c.t.d.fact 25 (f := .free "int") rfl)
  have b_isinstance : mg "isinstance" = none := He.free_ok KX GN (c.t.d.fact 26 (f := .free "isinstance") rfl)
  have S := sc_law_whole
  rw [mm_law_whole]
  have Z := okD (P := P) (w := w) (mg := mg) (base := base) (n := 1) (k := 0) (den := den_law_whole) F S rfl
  refine Z ?_
  intro cdv A outer s H E hr
  have tk : Takes (cxOf (L2.CX P w) P w K mg base ["_law_found"] "_law_whole" (defScope s_law_whole) (He.fAd K d_law_whole.at_) cdv A outer s H E) (fun cls d _ H => E cls d H) := takes_of rfl rfl rfl rfl
  have hp : PassesOwn (model P w) (cxOf (L2.CX P w) P w K mg base ["_law_found"] "_law_whole" (defScope s_law_whole) (He.fAd K d_law_whole.at_) cdv A outer s H E).A (cxOf (L2.CX P w) P w K mg base ["_law_found"] "_law_whole" (defScope s_law_whole) (He.fAd K d_law_whole.at_) cdv A outer s H E).env (cxOf (L2.CX P w) P w K mg base ["_law_found"] "_law_whole" (defScope s_law_whole) (He.fAd K d_law_whole.at_) cdv A outer s H E).xe := passes_of rfl
  exact sd_one (sd_ret (pe_dand (pd_isi (T := "int") b_isinstance b_int (by decide +kernel) (pd_v 0)) (pe_d1 (pe_dnot (pd_isi (T := "bool") b_isinstance b_bool (by decide +kernel) (pd_v 0))))))
theorem ok_law_whole (KX : K.In h) (GN : h.Ns mainGlobals mg) (c : He.SaysX fa fn [] [] ex w h K)  : FnAt P w K mg base "_law_whole" 1 1 [[]] m_law_whole := by
  obtain ⟨fd, F⟩ := c.t.d.def_ 12 (d := d_law_whole) rfl
  refine ⟨_, fd, ["_law_found"], fo_law_whole KX GN c  F, He.glo_ok KX GN (c.t.d.fact 12 (f := .glo "_law_whole") rfl), F.kp, ?_⟩
  · intro ds hd
    rw [List.mem_singleton] at hd
    subst hd
    exact ⟨[], [], FunD.bindsN F fun _ _ _ _ _ _ us hl => match us, hl with | [_], _ => rfl, .nil, fun _ => .nil⟩
theorem fo_law_low (KX : K.In h) (GN : h.Ns mainGlobals mg) (c : He.SaysX fa fn [] [] ex w h K)  {fd : FuncData} (F : FunD K d_law_low.name d_law_low.qual d_law_low.params d_law_low.body d_law_low.scope (d_law_low.dvs K) (d_law_low.kws K) (He.fAd K d_law_low.at_) fd) : FnOk P w K mg base (L2.CX P w) 1 (He.fAd K d_law_low.at_) fd ["_law_a", "_law_b", "_law_n"] (spD K mg 3 m_law_low) := by
  have b_abs : mg "abs" = none := He.free_ok KX GN (c.t.d.fact 23 (f := .free "abs") rfl)
  have S := sc_law_low
  rw [mm_law_low]
  have Z := okD (P := P) (w := w) (mg := mg) (base := base) (n := 3) (k := 0) (den := den_law_low) F S rfl
  refine Z ?_
  intro cdv A outer s H E hr
  have tk : Takes (cxOf (L2.CX P w) P w K mg base ["_law_a", "_law_b", "_law_n", "_law_one", "_law_other"] "_law_low" (defScope s_law_low) (He.fAd K d_law_low.at_) cdv A outer s H E) (fun cls d _ H => E cls d H) := takes_of rfl rfl rfl rfl
  have hp : PassesOwn (model P w) (cxOf (L2.CX P w) P w K mg base ["_law_a", "_law_b", "_law_n", "_law_one", "_law_other"] "_law_low" (defScope s_law_low) (He.fAd K d_law_low.at_) cdv A outer s H E).A (cxOf (L2.CX P w) P w K mg base ["_law_a", "_law_b", "_law_n", "_law_one", "_law_other"] "_law_low" (defScope s_law_low) (He.fAd K d_law_low.at_) cdv A outer s H E).env (cxOf (L2.CX P w) P w K mg base ["_law_a", "_law_b", "_law_n", "_law_one", "_law_other"] "_law_low" (defScope s_law_low) (He.fAd K d_law_low.at_) cdv A outer s H E).xe := passes_of rfl
  exact sd_cons (sd_set 3 S.nd rfl (.inl rfl) (pd_b cd_abs nx_abs b_abs (by decide +kernel) (pad_cons (pd_v 2) (pad_nil)))) (sd_cons (sd_for hp rfl (pi_l (pd_lst (pad_cons (pd_b cd_abs nx_abs b_abs (by decide +kernel) (pad_cons (pd_v 0) (pad_nil))) (pad_cons (pd_b cd_abs nx_abs b_abs (by decide +kernel) (pad_cons (pd_v 1) (pad_nil))) (pad_nil))))) (pg_name (i := 4) S.nd rfl (.inl rfl)) (sd_one (sd_while hp (pt_cmpd (od_ne hr.units) noEx_ne (pd_v 4) (pd_int)) (sd_one (sd_par 3 4 rfl S.nd rfl rfl (by decide) rfl rfl (pd_v 4) (pd_bin od_mod noEx_mod (pd_v 3) (pd_v 4)) rfl))))) (sd_cons (sd_if (pt_cmpd od_lt noEx_cI (pd_v 2) (pd_int)) (sd_one (sd_set 3 S.nd rfl (.inl rfl) (pd_bin od_sub noEx_sub (pd_int) (pd_v 3)))) (sd_nil)) (sd_one (sd_ret (pd_tup (pad_cons (pd_bin od_div noEx_div (pd_v 0) (pd_v 3)) (pad_cons (pd_bin od_div noEx_div (pd_v 1) (pd_v 3)) (pad_cons (pd_bin od_div noEx_div (pd_v 2) (pd_v 3)) (pad_nil)))))))))
theorem ok_law_low (KX : K.In h) (GN : h.Ns mainGlobals mg) (c : He.SaysX fa fn [] [] ex w h K)  : FnAt P w K mg base "_law_low" 1 3 [[]] m_law_low := by
  obtain ⟨fd, F⟩ := c.t.d.def_ 13 (d := d_law_low) rfl
  refine ⟨_, fd, ["_law_a", "_law_b", "_law_n"], fo_law_low KX GN c  F, He.glo_ok KX GN (c.t.d.fact 13 (f := .glo "_law_low") rfl), F.kp, ?_⟩
  · intro ds hd
    rw [List.mem_singleton] at hd
    subst hd
    exact ⟨[], [], FunD.bindsN F fun _ _ _ _ _ _ us hl => match us, hl with | [_, _, _], _ => rfl, .nil, fun _ => .nil⟩
theorem fo_law_fraction (KX : K.In h) (GN : h.Ns mainGlobals mg) (c : He.SaysX fa fn [] [] ex w h K)  {fd : FuncData} (F : FunD K d_law_fraction.name d_law_fraction.qual d_law_fraction.params d_law_fraction.body d_law_fraction.scope (d_law_fraction.dvs K) (d_law_fraction.kws K) (He.fAd K d_law_fraction.at_) fd) : FnOk P w K mg base (L2.CX P w) 1 (He.fAd K d_law_fraction.at_) fd ["_law_top", "_law_bottom"] (spD K mg 2 m_law_fraction) := by
  have b_abs : mg "abs" = none := He.free_ok KX GN (c.t.d.fact 23 (f := .free "abs") rfl)
  have S := sc_law_fraction
  rw [mm_law_fraction]
  have Z := okD (P := P) (w := w) (mg := mg) (base := base) (n := 2) (k := 0) (den := den_law_fraction) F S rfl
  refine Z ?_
  intro cdv A outer s H E hr
  have tk : Takes (cxOf (L2.CX P w) P w K mg base ["_law_top", "_law_bottom", "_law_one", "_law_other"] "_law_fraction" (defScope s_law_fraction) (He.fAd K d_law_fraction.at_) cdv A outer s H E) (fun cls d _ H => E cls d H) := takes_of rfl rfl rfl rfl
  have hp : PassesOwn (model P w) (cxOf (L2.CX P w) P w K mg base ["_law_top", "_law_bottom", "_law_one", "_law_other"] "_law_fraction" (defScope s_law_fraction) (He.fAd K d_law_fraction.at_) cdv A outer s H E).A (cxOf (L2.CX P w) P w K mg base ["_law_top", "_law_bottom", "_law_one", "_law_other"] "_law_fraction" (defScope s_law_fraction) (He.fAd K d_law_fraction.at_) cdv A outer s H E).env (cxOf (L2.CX P w) P w K mg base ["_law_top", "_law_bottom", "_law_one", "_law_other"] "_law_fraction" (defScope s_law_fraction) (He.fAd K d_law_fraction.at_) cdv A outer s H E).xe := passes_of rfl
  exact sd_cons (sd_par 2 3 rfl S.nd rfl rfl (by decide) rfl rfl (pd_b cd_abs nx_abs b_abs (by decide +kernel) (pad_cons (pd_v 1) (pad_nil))) (pd_b cd_abs nx_abs b_abs (by decide +kernel) (pad_cons (pd_v 0) (pad_nil))) rfl) (sd_cons (sd_while hp (pt_cmpd (od_ne hr.units) noEx_ne (pd_v 3) (pd_int)) (sd_one (sd_par 2 3 rfl S.nd rfl rfl (by decide) rfl rfl (pd_v 3) (pd_bin od_mod noEx_mod (pd_v 2) (pd_v 3)) rfl))) (sd_cons (sd_if (pt_cmpd od_lt noEx_cI (pd_v 1) (pd_int)) (sd_one (sd_set 2 S.nd rfl (.inl rfl) (pd_bin od_sub noEx_sub (pd_int) (pd_v 2)))) (sd_nil)) (sd_one (sd_ret (pd_tup (pad_cons (pd_bin od_div noEx_div (pd_v 0) (pd_v 2)) (pad_cons (pd_bin od_div noEx_div (pd_v 1) (pd_v 2)) (pad_nil))))))))
theorem ok_law_fraction (KX : K.In h) (GN : h.Ns mainGlobals mg) (c : He.SaysX fa fn [] [] ex w h K)  : FnAt P w K mg base "_law_fraction" 1 2 [[]] m_law_fraction := by
  obtain ⟨fd, F⟩ := c.t.d.def_ 14 (d := d_law_fraction) rfl
  refine ⟨_, fd, ["_law_top", "_law_bottom"], fo_law_fraction KX GN c  F, He.glo_ok KX GN (c.t.d.fact 14 (f := .glo "_law_fraction") rfl), F.kp, ?_⟩
  · intro ds hd
    rw [List.mem_singleton] at hd
    subst hd
    exact ⟨[], [], FunD.bindsN F fun _ _ _ _ _ _ us hl => match us, hl with | [_, _], _ => rfl, .nil, fun _ => .nil⟩
theorem fo_law_root (KX : K.In h) (GN : h.Ns mainGlobals mg) (c : He.SaysX fa fn [] [] ex w h K)  {fd : FuncData} (F : FunD K d_law_root.name d_law_root.qual d_law_root.params d_law_root.body d_law_root.scope (d_law_root.dvs K) (d_law_root.kws K) (He.fAd K d_law_root.at_) fd) : FnOk P w K mg base (L2.CX P w) 1 (He.fAd K d_law_root.at_) fd ["_law_cell"] (spD K mg 1 m_law_root_v3) := by
  have b_range : mg "range" = none := He.free_ok KX GN (c.t.d.fact 29 (f := .free "range") rfl)
  have S := sc_law_root
  rw [mm_law_root_v3]
  have Z := okD (P := P) (w := w) (mg := mg) (base := base) (n := 1) (k := 0) (den := den_law_root_v3) F S rfl
  refine Z ?_
  intro cdv A outer s H E hr
  have tk : Takes (cxOf (L2.CX P w) P w K mg base ["_law_cell", "_law_some", "_law_d"] "_law_root" (defScope s_law_root) (He.fAd K d_law_root.at_) cdv A outer s H E) (fun cls d _ H => E cls d H) := takes_of rfl rfl rfl rfl
  have hp : PassesOwn (model P w) (cxOf (L2.CX P w) P w K mg base ["_law_cell", "_law_some", "_law_d"] "_law_root" (defScope s_law_root) (He.fAd K d_law_root.at_) cdv A outer s H E).A (cxOf (L2.CX P w) P w K mg base ["_law_cell", "_law_some", "_law_d"] "_law_root" (defScope s_law_root) (He.fAd K d_law_root.at_) cdv A outer s H E).env (cxOf (L2.CX P w) P w K mg base ["_law_cell", "_law_some", "_law_d"] "_law_root" (defScope s_law_root) (He.fAd K d_law_root.at_) cdv A outer s H E).xe := passes_of rfl
  exact sd_cons (sd_setLc 1 [("_law_d", 2)] rfl S.nd rfl rfl (sw_true rfl rfl rfl (by decide +kernel)) (pi_r2 rfl b_range (pad_cons (pd_int) (pad_cons (pd_int) (pad_nil)))) (blkOk_by (N := ["_law_cell", "_law_some", "_law_d"]) (sc := defScope s_law_root) (own := [("_law_d", 2)]) (by decide +kernel)) (by decide) (fun _ _ _ _ _ => pg_name (i := 2) S.nd rfl (.inl rfl)) (fun _ _ _ _ _ => pts_one (pt_cmpd (od_notin (un65 hr)) noEx_in (pd_v 2) (pd_lst (pad_cons (pd_int) (pad_cons (pd_int) (pad_cons (pd_int) (pad_cons (pd_int) (pad_cons (pd_int) (pad_cons (pd_int) (pad_cons (pd_int) (pad_cons (pd_int) (pad_nil)))))))))))) (fun _ _ _ _ _ => pd_v 2)) (sd_one (sd_ret (pd_ix (pd_v 1) (pd_bin od_mod noEx_mod (pd_v 0) (pd_int)))))
theorem ok_law_root (KX : K.In h) (GN : h.Ns mainGlobals mg) (c : He.SaysX fa fn [] [] ex w h K)  : FnAt P w K mg base "_law_root" 1 1 [[]] m_law_root_v3 := by
  obtain ⟨fd, F⟩ := c.t.d.def_ 15 (d := d_law_root) rfl
  refine ⟨_, fd, ["_law_cell"], fo_law_root KX GN c  F, He.glo_ok KX GN (c.t.d.fact 15 (f := .glo "_law_root") rfl), F.kp, ?_⟩
  · intro ds hd
    rw [List.mem_singleton] at hd
    subst hd
    exact ⟨[], [], FunD.bindsN F fun _ _ _ _ _ _ us hl => match us, hl with | [_], _ => rfl, .nil, fun _ => .nil⟩
theorem fo_law_side (KX : K.In h) (GN : h.Ns mainGlobals mg) (c : He.SaysX fa fn [] [] ex w h K) (F_law_low : FnAt P w K mg base "_law_low" 1 3 [[]] m_law_low) (F_law_mix : FnAt P w K mg base "_law_mix" 1 2 [[]] m_law_mix_v2) {fd : FuncData} (F : FunD K d_law_side.name d_law_side.qual d_law_side.params d_law_side.body d_law_side.scope (d_law_side.dvs K) (d_law_side.kws K) (He.fAd K d_law_side.at_) fd) : FnOk P w K mg base (L2.CX P w) 2 (He.fAd K d_law_side.at_) fd ["_law_cell", "_law_k", "_law_d"] (spD K mg 3 m_law_side_v2) := by
  have b_abs : mg "abs" = none := He.free_ok KX GN (c.t.d.fact 23 (f := .free "abs") rfl)
  have S := sc_law_side
  rw [mm_law_side_v2]
  have Z := okD (P := P) (w := w) (mg := mg) (base := base) (n := 3) (k := 1) (den := den_law_side_v2) F S rfl
  refine Z ?_
  intro cdv A outer s H E hr
  have tk : Takes (cxOf (L2.CX P w) P w K mg base ["_law_cell", "_law_k", "_law_d", "_law_n", "_law_b", "_law_way", "_law_a"] "_law_side" (defScope s_law_side) (He.fAd K d_law_side.at_) cdv A outer s H E) (fun cls d _ H => E cls d H) := takes_of rfl rfl rfl rfl
  have hp : PassesOwn (model P w) (cxOf (L2.CX P w) P w K mg base ["_law_cell", "_law_k", "_law_d", "_law_n", "_law_b", "_law_way", "_law_a"] "_law_side" (defScope s_law_side) (He.fAd K d_law_side.at_) cdv A outer s H E).A (cxOf (L2.CX P w) P w K mg base ["_law_cell", "_law_k", "_law_d", "_law_n", "_law_b", "_law_way", "_law_a"] "_law_side" (defScope s_law_side) (He.fAd K d_law_side.at_) cdv A outer s H E).env (cxOf (L2.CX P w) P w K mg base ["_law_cell", "_law_k", "_law_d", "_law_n", "_law_b", "_law_way", "_law_a"] "_law_side" (defScope s_law_side) (He.fAd K d_law_side.at_) cdv A outer s H E).xe := passes_of rfl
  exact sd_cons (sd_set 3 S.nd rfl (.inl rfl) (pd_bin od_add noEx_add (pd_int) (pd_bin od_mod noEx_mod (pd_call F_law_mix mem0 (hr.mono (by decide)) tk rfl (pad_cons (pd_v 0) (pad_cons (pd_v 1) (pad_nil)))) (pd_int)))) (sd_cons (sd_set 4 S.nd rfl (.inl rfl) (pd_bin od_sub noEx_sub (pd_bin od_mod noEx_mod (pd_call F_law_mix mem0 (hr.mono (by decide)) tk rfl (pad_cons (pd_v 0) (pad_cons (pd_bin od_add noEx_add (pd_v 1) (pd_int)) (pad_nil)))) (pd_int)) (pd_int))) (sd_cons (sd_set 5 S.nd rfl (.inl rfl) (pd_bin od_mod noEx_mod (pd_call F_law_mix mem0 (hr.mono (by decide)) tk rfl (pad_cons (pd_v 0) (pad_cons (pd_bin od_add noEx_add (pd_v 1) (pd_int)) (pad_nil)))) (pd_int))) (sd_cons (sd_if (pt_cmpd (od_eq hr.units) noEx_eq (pd_v 5) (pd_int)) (sd_one (sd_set 4 S.nd rfl (.inl rfl) (pd_int))) (sd_nil)) (sd_cons (sd_if (pt_cmpd (od_eq hr.units) noEx_eq (pd_v 5) (pd_int)) (sd_cons (sd_set 4 S.nd rfl (.inl rfl) (pd_bin od_mul noEx_mul (pd_bin od_mul noEx_mul (pd_v 4) (pd_call F_law_mix mem0 (hr.mono (by decide)) tk rfl (pad_cons (pd_v 0) (pad_cons (pd_bin od_add noEx_add (pd_v 1) (pd_int)) (pad_nil))))) (pd_call F_law_mix mem0 (hr.mono (by decide)) tk rfl (pad_cons (pd_v 0) (pad_cons (pd_bin od_add noEx_add (pd_v 1) (pd_int)) (pad_nil)))))) (sd_one (sd_set 3 S.nd rfl (.inl rfl) (pd_bin od_add noEx_add (pd_int) (pd_bin od_mod noEx_mod (pd_call F_law_mix mem0 (hr.mono (by decide)) tk rfl (pad_cons (pd_v 0) (pad_cons (pd_bin od_add noEx_add (pd_v 1) (pd_int)) (pad_nil)))) (pd_bin od_pow noEx_pow (pd_int) (pd_int))))))) (sd_nil)) (sd_cons (sd_set 6 S.nd rfl (.inl rfl) (pd_bin od_mod noEx_mod (pd_call F_law_mix mem0 (hr.mono (by decide)) tk rfl (pad_cons (pd_v 0) (pad_cons (pd_bin od_add noEx_add (pd_v 1) (pd_int)) (pad_nil)))) (pd_int))) (sd_cons (sd_if (pt_cmpd od_lt noEx_cI (pd_v 4) (pd_int)) (sd_one (sd_set 6 S.nd rfl (.inl rfl) (pd_bin od_add noEx_add (pd_v 6) (pd_bin od_mul noEx_mul (pd_int) (pd_b cd_abs nx_abs b_abs (by decide +kernel) (pad_cons (pd_v 4) (pad_nil))))))) (sd_nil)) (sd_cons (sd_if (PW.pt (pw_dand (pt_cmpd (od_eq hr.units) noEx_eq (pd_v 5) (pd_int)) (pw_d1 (pt_cmpd od_lt noEx_cI (pd_v 4) (pd_int))))) (sd_cons (sd_set 6 S.nd rfl (.inl rfl) (pd_int)) (sd_one (sd_while hp (pt_cmpd od_lt noEx_cI (pd_bin od_mul noEx_mul (pd_v 6) (pd_v 6)) (pd_bin od_mul noEx_mul (pd_bin od_mul noEx_mul (pd_v 2) (pd_v 4)) (pd_v 4))) (sd_one (sd_set 6 S.nd rfl (.inl rfl) (pd_bin od_add noEx_add (pd_v 6) (pd_int))))))) (sd_nil)) (sd_cons (sd_if (PW.pt (pw_dand (pt_cmpd (od_eq hr.units) noEx_eq (pd_v 5) (pd_int)) (pw_d1 (pt_cmpd od_gt noEx_cI (pd_v 4) (pd_int))))) (sd_one (sd_set 6 S.nd rfl (.inl rfl) (pd_bin od_sub noEx_sub (pd_int) (pd_v 4)))) (sd_nil)) (sd_cons (sd_if (PW.pt (pw_dand (pt_cmpd (od_eq hr.units) noEx_eq (pd_v 6) (pd_int)) (pw_d1 (pt_cmpd od_le noEx_cI (pd_v 4) (pd_int))))) (sd_one (sd_set 6 S.nd rfl (.inl rfl) (pd_int))) (sd_nil)) (sd_one (sd_ret (pd_call F_law_low mem0 (hr.mono (by decide)) tk rfl (pad_cons (pd_v 6) (pad_cons (pd_v 4) (pad_cons (pd_v 3) (pad_nil))))))))))))))))
theorem ok_law_side (KX : K.In h) (GN : h.Ns mainGlobals mg) (c : He.SaysX fa fn [] [] ex w h K) (F_law_low : FnAt P w K mg base "_law_low" 1 3 [[]] m_law_low) (F_law_mix : FnAt P w K mg base "_law_mix" 1 2 [[]] m_law_mix_v2) : FnAt P w K mg base "_law_side" 2 3 [[]] m_law_side_v2 := by
  obtain ⟨fd, F⟩ := c.t.d.def_ 16 (d := d_law_side) rfl
  refine ⟨_, fd, ["_law_cell", "_law_k", "_law_d"], fo_law_side KX GN c F_law_low F_law_mix F, He.glo_ok KX GN (c.t.d.fact 16 (f := .glo "_law_side") rfl), F.kp, ?_⟩
  · intro ds hd
    rw [List.mem_singleton] at hd
    subst hd
    exact ⟨[], [], FunD.bindsN F fun _ _ _ _ _ _ us hl => match us, hl with | [_, _, _], _ => rfl, .nil, fun _ => .nil⟩
theorem fo_law_is (KX : K.In h) (GN : h.Ns mainGlobals mg) (c : He.SaysX fa fn [] [] ex w h K) (F_law_whole : FnAt P w K mg base "_law_whole" 1 1 [[]] m_law_whole) {fd : FuncData} (F : FunD K d_law_is.name d_law_is.qual d_law_is.params d_law_is.body d_law_is.scope (d_law_is.dvs K) (d_law_is.kws K) (He.fAd K d_law_is.at_) fd) : FnOk P w K mg base (L2.CX P w) 2 (He.fAd K d_law_is.at_) fd ["_law_found", "_law_due"] (spD K mg 2 m_law_is) := by
  have b_isinstance : mg "isinstance" = none := He.free_ok KX GN (c.t.d.fact 26 (f := .free "isinstance") rfl)
  have b_len : mg "len" = none := He.free_ok KX GN (c.t.d.fact 27 (f := .free "len") rfl)
  have b_range : mg "range" = none := He.free_ok KX GN (c.t.d.fact 29 (f := .free "range") rfl)
  have b_tuple : mg "tuple" = none := He.free_ok KX GN (c.t.d.fact 32 (f := .free "tuple") rfl)
  have S := sc_law_is
  rw [mm_law_is]
  have Z := okD (P := P) (w := w) (mg := mg) (base := base) (n := 2) (k := 1) (den := den_law_is) F S rfl
  refine Z ?_
  intro cdv A outer s H E hr
  have tk : Takes (cxOf (L2.CX P w) P w K mg base ["_law_found", "_law_due", "_law_k"] "_law_is" (defScope s_law_is) (He.fAd K d_law_is.at_) cdv A outer s H E) (fun cls d _ H => E cls d H) := takes_of rfl rfl rfl rfl
  have hp : PassesOwn (model P w) (cxOf (L2.CX P w) P w K mg base ["_law_found", "_law_due", "_law_k"] "_law_is" (defScope s_law_is) (He.fAd K d_law_is.at_) cdv A outer s H E).A (cxOf (L2.CX P w) P w K mg base ["_law_found", "_law_due", "_law_k"] "_law_is" (defScope s_law_is) (He.fAd K d_law_is.at_) cdv A outer s H E).env (cxOf (L2.CX P w) P w K mg base ["_law_found", "_law_due", "_law_k"] "_law_is" (defScope s_law_is) (He.fAd K d_law_is.at_) cdv A outer s H E).xe := passes_of rfl
  exact sd_cons (sd_if (PW.pt (pw_dor (pt_dnot (pt_d (pd_isi (T := "tuple") b_isinstance b_tuple (by decide +kernel) (pd_v 0)))) (pw_o1 (pt_cmpd (od_ne hr.units) noEx_ne (pd_b cd_len nx_len b_len (by decide +kernel) (pad_cons (pd_v 0) (pad_nil))) (pd_b cd_len nx_len b_len (by decide +kernel) (pad_cons (pd_v 1) (pad_nil))))))) (sd_one (sd_ret (pd_bl))) (sd_nil)) (sd_cons (sd_for hp rfl (pi_r1 rfl b_range (pad_cons (pd_b cd_len nx_len b_len (by decide +kernel) (pad_cons (pd_v 1) (pad_nil))) (pad_nil))) (pg_name (i := 2) S.nd rfl (.inl rfl)) (sd_one (sd_if (pt_dnot (pt_d (pd_call F_law_whole mem0 (hr.mono (by decide)) tk rfl (pad_cons (pd_ix (pd_v 0) (pd_v 2)) (pad_nil))))) (sd_one (sd_ret (pd_bl))) (sd_nil)))) (sd_one (sd_ret (pd_cmp (od_eq hr.units) noEx_eq (pd_v 0) (pd_v 1)))))
theorem ok_law_is (KX : K.In h) (GN : h.Ns mainGlobals mg) (c : He.SaysX fa fn [] [] ex w h K) (F_law_whole : FnAt P w K mg base "_law_whole" 1 1 [[]] m_law_whole) : FnAt P w K mg base "_law_is" 2 2 [[]] m_law_is := by
  obtain ⟨fd, F⟩ := c.t.d.def_ 17 (d := d_law_is) rfl
  refine ⟨_, fd, ["_law_found", "_law_due"], fo_law_is KX GN c F_law_whole F, He.glo_ok KX GN (c.t.d.fact 17 (f := .glo "_law_is") rfl), F.kp, ?_⟩
  · intro ds hd
    rw [List.mem_singleton] at hd
    subst hd
    exact ⟨[], [], FunD.bindsN F fun _ _ _ _ _ _ us hl => match us, hl with | [_, _], _ => rfl, .nil, fun _ => .nil⟩
theorem fo_law_heap (KX : K.In h) (GN : h.Ns mainGlobals mg) (c : He.SaysX fa fn [] [] ex w h K) (F_law_side : FnAt P w K mg base "_law_side" 2 3 [[]] m_law_side_v2) {fd : FuncData} (F : FunD K d_law_heap.name d_law_heap.qual d_law_heap.params d_law_heap.body d_law_heap.scope (d_law_heap.dvs K) (d_law_heap.kws K) (He.fAd K d_law_heap.at_) fd) : FnOk P w K mg base (L2.CX P w) 3 (He.fAd K d_law_heap.at_) fd ["_law_cells", "_law_d"] (spD K mg 2 m_law_heap) := by
  have S := sc_law_heap
  rw [mm_law_heap]
  have Z := okD (P := P) (w := w) (mg := mg) (base := base) (n := 2) (k := 2) (den := den_law_heap) F S rfl
  refine Z ?_
  intro cdv A outer s H E hr
  have tk : Takes (cxOf (L2.CX P w) P w K mg base ["_law_cells", "_law_d", "_law_cell"] "_law_heap" (defScope s_law_heap) (He.fAd K d_law_heap.at_) cdv A outer s H E) (fun cls d _ H => E cls d H) := takes_of rfl rfl rfl rfl
  have hp : PassesOwn (model P w) (cxOf (L2.CX P w) P w K mg base ["_law_cells", "_law_d", "_law_cell"] "_law_heap" (defScope s_law_heap) (He.fAd K d_law_heap.at_) cdv A outer s H E).A (cxOf (L2.CX P w) P w K mg base ["_law_cells", "_law_d", "_law_cell"] "_law_heap" (defScope s_law_heap) (He.fAd K d_law_heap.at_) cdv A outer s H E).env (cxOf (L2.CX P w) P w K mg base ["_law_cells", "_law_d", "_law_cell"] "_law_heap" (defScope s_law_heap) (He.fAd K d_law_heap.at_) cdv A outer s H E).xe := passes_of rfl
  exact sd_one (sd_ret (pd_lc [("_law_cell", 2)] rfl S.nd (pi_l (pd_v 0)) (blkOk_by (N := ["_law_cells", "_law_d", "_law_cell"]) (sc := defScope s_law_heap) (own := [("_law_cell", 2)]) (by decide +kernel)) (by decide) (fun _ _ _ _ _ => pg_name (i := 2) S.nd rfl (.inl rfl)) (fun _ _ _ _ _ => ptd_nil) (fun _ _ _ _ _ => pd_tup (pad_cons (pd_call F_law_side mem0 (hr.mono (by decide)) takes0 rfl (pad_cons (pd_v 2) (pad_cons (pd_int) (pad_cons (pd_v 1) (pad_nil))))) (pad_cons (pd_call F_law_side mem0 (hr.mono (by decide)) takes0 rfl (pad_cons (pd_v 2) (pad_cons (pd_int) (pad_cons (pd_v 1) (pad_nil))))) (pad_nil))))))
theorem ok_law_heap (KX : K.In h) (GN : h.Ns mainGlobals mg) (c : He.SaysX fa fn [] [] ex w h K) (F_law_side : FnAt P w K mg base "_law_side" 2 3 [[]] m_law_side_v2) : FnAt P w K mg base "_law_heap" 3 2 [[]] m_law_heap := by
  obtain ⟨fd, F⟩ := c.t.d.def_ 18 (d := d_law_heap) rfl
  refine ⟨_, fd, ["_law_cells", "_law_d"], fo_law_heap KX GN c F_law_side F, He.glo_ok KX GN (c.t.d.fact 18 (f := .glo "_law_heap") rfl), F.kp, ?_⟩
  · intro ds hd
    rw [List.mem_singleton] at hd
    subst hd
    exact ⟨[], [], FunD.bindsN F fun _ _ _ _ _ _ us hl => match us, hl with | [_, _], _ => rfl, .nil, fun _ => .nil⟩
theorem fo_law_add (KX : K.In h) (GN : h.Ns mainGlobals mg) (c : He.SaysX fa fn [] [] ex w h K) (F_law_fraction : FnAt P w K mg base "_law_fraction" 1 2 [[]] m_law_fraction) {fd : FuncData} (F : FunD K d_law_add.name d_law_add.qual d_law_add.params d_law_add.body d_law_add.scope (d_law_add.dvs K) (d_law_add.kws K) (He.fAd K d_law_add.at_) fd) : FnOk P w K mg base (L2.CX P w) 2 (He.fAd K d_law_add.at_) fd ["_law_one", "_law_other"] (spD K mg 2 m_law_add) := by
  have S := sc_law_add
  rw [mm_law_add]
  have Z := okD (P := P) (w := w) (mg := mg) (base := base) (n := 2) (k := 1) (den := den_law_add) F S rfl
  refine Z ?_
  intro cdv A outer s H E hr
  have tk : Takes (cxOf (L2.CX P w) P w K mg base ["_law_one", "_law_other"] "_law_add" (defScope s_law_add) (He.fAd K d_law_add.at_) cdv A outer s H E) (fun cls d _ H => E cls d H) := takes_of rfl rfl rfl rfl
  have hp : PassesOwn (model P w) (cxOf (L2.CX P w) P w K mg base ["_law_one", "_law_other"] "_law_add" (defScope s_law_add) (He.fAd K d_law_add.at_) cdv A outer s H E).A (cxOf (L2.CX P w) P w K mg base ["_law_one", "_law_other"] "_law_add" (defScope s_law_add) (He.fAd K d_law_add.at_) cdv A outer s H E).env (cxOf (L2.CX P w) P w K mg base ["_law_one", "_law_other"] "_law_add" (defScope s_law_add) (He.fAd K d_law_add.at_) cdv A outer s H E).xe := passes_of rfl
  exact sd_one (sd_ret (pd_call F_law_fraction mem0 (hr.mono (by decide)) tk rfl (pad_cons (pd_bin od_add noEx_add (pd_bin od_mul noEx_mul (pd_ix (pd_v 0) (pd_int)) (pd_ix (pd_v 1) (pd_int))) (pd_bin od_mul noEx_mul (pd_ix (pd_v 1) (pd_int)) (pd_ix (pd_v 0) (pd_int)))) (pad_cons (pd_bin od_mul noEx_mul (pd_ix (pd_v 0) (pd_int)) (pd_ix (pd_v 1) (pd_int))) (pad_nil)))))
theorem ok_law_add (KX : K.In h) (GN : h.Ns mainGlobals mg) (c : He.SaysX fa fn [] [] ex w h K) (F_law_fraction : FnAt P w K mg base "_law_fraction" 1 2 [[]] m_law_fraction) : FnAt P w K mg base "_law_add" 2 2 [[]] m_law_add := by
  obtain ⟨fd, F⟩ := c.t.d.def_ 19 (d := d_law_add) rfl
  refine ⟨_, fd, ["_law_one", "_law_other"], fo_law_add KX GN c F_law_fraction F, He.glo_ok KX GN (c.t.d.fact 19 (f := .glo "_law_add") rfl), F.kp, ?_⟩
  · intro ds hd
    rw [List.mem_singleton] at hd
    subst hd
    exact ⟨[], [], FunD.bindsN F fun _ _ _ _ _ _ us hl => match us, hl with | [_, _], _ => rfl, .nil, fun _ => .nil⟩
theorem fo_law_places (KX : K.In h) (GN : h.Ns mainGlobals mg) (c : He.SaysX fa fn [] [] ex w h K) (F_law_add : FnAt P w K mg base "_law_add" 2 2 [[]] m_law_add) {fd : FuncData} (F : FunD K d_law_places.name d_law_places.qual d_law_places.params d_law_places.body d_law_places.scope (d_law_places.dvs K) (d_law_places.kws K) (He.fAd K d_law_places.at_) fd) : FnOk P w K mg base (L2.CX P w) 3 (He.fAd K d_law_places.at_) fd ["_law_heap_here"] (spD K mg 1 m_law_places) := by
  have b_range : mg "range" = none := He.free_ok KX GN (c.t.d.fact 29 (f := .free "range") rfl)
  have S := sc_law_places
  rw [mm_law_places]
  have Z := okD (P := P) (w := w) (mg := mg) (base := base) (n := 1) (k := 2) (den := den_law_places) F S rfl
  refine Z ?_
  intro cdv A outer s H E hr
  have tk : Takes (cxOf (L2.CX P w) P w K mg base ["_law_heap_here", "_law_found", "_law_width", "_law_height", "_law_i", "_law_j"] "_law_places" (defScope s_law_places) (He.fAd K d_law_places.at_) cdv A outer s H E) (fun cls d _ H => E cls d H) := takes_of rfl rfl rfl rfl
  have hp : PassesOwn (model P w) (cxOf (L2.CX P w) P w K mg base ["_law_heap_here", "_law_found", "_law_width", "_law_height", "_law_i", "_law_j"] "_law_places" (defScope s_law_places) (He.fAd K d_law_places.at_) cdv A outer s H E).A (cxOf (L2.CX P w) P w K mg base ["_law_heap_here", "_law_found", "_law_width", "_law_height", "_law_i", "_law_j"] "_law_places" (defScope s_law_places) (He.fAd K d_law_places.at_) cdv A outer s H E).env (cxOf (L2.CX P w) P w K mg base ["_law_heap_here", "_law_found", "_law_width", "_law_height", "_law_i", "_law_j"] "_law_places" (defScope s_law_places) (He.fAd K d_law_places.at_) cdv A outer s H E).xe := passes_of rfl
  exact sd_cons (sd_setLL 1 S.nd rfl (.inl rfl) (pl_lst2 (pad_cons (pd_tup (pad_cons (pd_int) (pad_cons (pd_int) (pad_nil)))) (pad_cons (pd_tup (pad_cons (pd_int) (pad_cons (pd_int) (pad_nil)))) (pad_nil))) (pad_cons (pd_tup (pad_cons (pd_int) (pad_cons (pd_int) (pad_nil)))) (pad_cons (pd_tup (pad_cons (pd_int) (pad_cons (pd_int) (pad_nil)))) (pad_nil))))) (sd_cons (sd_for hp rfl (pi_l (pd_v 0)) (pg_tup rfl (pgs_cons (pg_name (i := 2) S.nd rfl (.inl rfl)) (pgs_cons (pg_name (i := 3) S.nd rfl (.inl rfl)) (pgs_nil)))) (sd_one (sd_for hp rfl (pi_r1 rfl b_range (pad_cons (pd_int) (pad_nil))) (pg_name (i := 4) S.nd rfl (.inl rfl)) (sd_one (sd_for hp rfl (pi_r1 rfl b_range (pad_cons (pd_int) (pad_nil))) (pg_name (i := 5) S.nd rfl (.inl rfl)) (sd_one (sd_put2 1 (pd_v 4) (pd_v 5) (pd_call F_law_add mem0 (hr.mono (by decide)) tk rfl (pad_cons (pd_ix2 1 (pd_v 4) (pd_v 5)) (pad_cons (pd_tup (pad_cons (pd_bin od_mul noEx_mul (pd_ix (pd_v 2) (pd_v 4)) (pd_ix (pd_v 3) (pd_v 5))) (pad_cons (pd_bin od_mul noEx_mul (pd_ix (pd_v 2) (pd_int)) (pd_ix (pd_v 3) (pd_int))) (pad_nil)))) (pad_nil))))))))))) (sd_frzLL 1 (sd_one (sd_ret (pd_v 1)))))
theorem ok_law_places (KX : K.In h) (GN : h.Ns mainGlobals mg) (c : He.SaysX fa fn [] [] ex w h K) (F_law_add : FnAt P w K mg base "_law_add" 2 2 [[]] m_law_add) : FnAt P w K mg base "_law_places" 3 1 [[]] m_law_places := by
  obtain ⟨fd, F⟩ := c.t.d.def_ 20 (d := d_law_places) rfl
  refine ⟨_, fd, ["_law_heap_here"], fo_law_places KX GN c F_law_add F, He.glo_ok KX GN (c.t.d.fact 20 (f := .glo "_law_places") rfl), F.kp, ?_⟩
  · intro ds hd
    rw [List.mem_singleton] at hd
    subst hd
    exact ⟨[], [], FunD.bindsN F fun _ _ _ _ _ _ us hl => match us, hl with | [_], _ => rfl, .nil, fun _ => .nil⟩
theorem fo_law_is_table (KX : K.In h) (GN : h.Ns mainGlobals mg) (c : He.SaysX fa fn [] [] ex w h K) (F_law_is : FnAt P w K mg base "_law_is" 2 2 [[]] m_law_is) {fd : FuncData} (F : FunD K d_law_is_table.name d_law_is_table.qual d_law_is_table.params d_law_is_table.body d_law_is_table.scope (d_law_is_table.dvs K) (d_law_is_table.kws K) (He.fAd K d_law_is_table.at_) fd) : FnOk P w K mg base (L2.CX P w) 3 (He.fAd K d_law_is_table.at_) fd ["_law_found", "_law_due"] (spD K mg 2 m_law_is_table) := by
  have b_isinstance : mg "isinstance" = none := He.free_ok KX GN (c.t.d.fact 26 (f := .free "isinstance") rfl)
  have b_len : mg "len" = none := He.free_ok KX GN (c.t.d.fact 27 (f := .free "len") rfl)
  have b_range : mg "range" = none := He.free_ok KX GN (c.t.d.fact 29 (f := .free "range") rfl)
  have b_tuple : mg "tuple" = none := He.free_ok KX GN (c.t.d.fact 32 (f := .free "tuple") rfl)
  have S := sc_law_is_table
  rw [mm_law_is_table]
  have Z := okD (P := P) (w := w) (mg := mg) (base := base) (n := 2) (k := 2) (den := den_law_is_table) F S rfl
  refine Z ?_
  intro cdv A outer s H E hr
  have tk : Takes (cxOf (L2.CX P w) P w K mg base ["_law_found", "_law_due", "_law_i", "_law_j"] "_law_is_table" (defScope s_law_is_table) (He.fAd K d_law_is_table.at_) cdv A outer s H E) (fun cls d _ H => E cls d H) := takes_of rfl rfl rfl rfl
  have hp : PassesOwn (model P w) (cxOf (L2.CX P w) P w K mg base ["_law_found", "_law_due", "_law_i", "_law_j"] "_law_is_table" (defScope s_law_is_table) (He.fAd K d_law_is_table.at_) cdv A outer s H E).A (cxOf (L2.CX P w) P w K mg base ["_law_found", "_law_due", "_law_i", "_law_j"] "_law_is_table" (defScope s_law_is_table) (He.fAd K d_law_is_table.at_) cdv A outer s H E).env (cxOf (L2.CX P w) P w K mg base ["_law_found", "_law_due", "_law_i", "_law_j"] "_law_is_table" (defScope s_law_is_table) (He.fAd K d_law_is_table.at_) cdv A outer s H E).xe := passes_of rfl
  exact sd_cons (sd_if (PW.pt (pw_dor (pt_dnot (pt_d (pd_isi (T := "tuple") b_isinstance b_tuple (by decide +kernel) (pd_v 0)))) (pw_o1 (pt_cmpd (od_ne hr.units) noEx_ne (pd_b cd_len nx_len b_len (by decide +kernel) (pad_cons (pd_v 0) (pad_nil))) (pd_int))))) (sd_one (sd_ret (pd_bl))) (sd_nil)) (sd_cons (sd_for hp rfl (pi_r1 rfl b_range (pad_cons (pd_int) (pad_nil))) (pg_name (i := 2) S.nd rfl (.inl rfl)) (sd_cons (sd_if (PW.pt (pw_dor (pt_dnot (pt_d (pd_isi (T := "tuple") b_isinstance b_tuple (by decide +kernel) (pd_ix (pd_v 0) (pd_v 2))))) (pw_o1 (pt_cmpd (od_ne hr.units) noEx_ne (pd_b cd_len nx_len b_len (by decide +kernel) (pad_cons (pd_ix (pd_v 0) (pd_v 2)) (pad_nil))) (pd_int))))) (sd_one (sd_ret (pd_bl))) (sd_nil)) (sd_one (sd_for hp rfl (pi_r1 rfl b_range (pad_cons (pd_int) (pad_nil))) (pg_name (i := 3) S.nd rfl (.inl rfl)) (sd_one (sd_if (pt_dnot (pt_d (pd_call F_law_is mem0 (hr.mono (by decide)) tk rfl (pad_cons (pd_ix (pd_ix (pd_v 0) (pd_v 2)) (pd_v 3)) (pad_cons (pd_ix (pd_ix (pd_v 1) (pd_v 2)) (pd_v 3)) (pad_nil)))))) (sd_one (sd_ret (pd_bl))) (sd_nil))))))) (sd_one (sd_ret (pd_bl))))
theorem ok_law_is_table (KX : K.In h) (GN : h.Ns mainGlobals mg) (c : He.SaysX fa fn [] [] ex w h K) (F_law_is : FnAt P w K mg base "_law_is" 2 2 [[]] m_law_is) : FnAt P w K mg base "_law_is_table" 3 2 [[]] m_law_is_table := by
  obtain ⟨fd, F⟩ := c.t.d.def_ 21 (d := d_law_is_table) rfl
  refine ⟨_, fd, ["_law_found", "_law_due"], fo_law_is_table KX GN c F_law_is F, He.glo_ok KX GN (c.t.d.fact 21 (f := .glo "_law_is_table") rfl), F.kp, ?_⟩
  · intro ds hd
    rw [List.mem_singleton] at hd
    subst hd
    exact ⟨[], [], FunD.bindsN F fun _ _ _ _ _ _ us hl => match us, hl with | [_, _], _ => rfl, .nil, fun _ => .nil⟩
theorem fo_law (KX : K.In h) (GN : h.Ns mainGlobals mg) (c : He.SaysX fa fn [] [] ex w h K) (F_law_root : FnAt P w K mg base "_law_root" 1 1 [[]] m_law_root_v3) (F_law_heap : FnAt P w K mg base "_law_heap" 3 2 [[]] m_law_heap) (F_table : FnAt P w K mg base "table" 5 1 [[]] m_table) (F_law_places : FnAt P w K mg base "_law_places" 3 1 [[]] m_law_places) (F_law_is_table : FnAt P w K mg base "_law_is_table" 3 2 [[]] m_law_is_table) (F_together : FnAt P w K mg base "together" 4 2 [[]] m_together) (F_less : FnAt P w K mg base "less" 4 2 [[]] m_less) (F_over : FnAt P w K mg base "over" 1 1 [[]] m_over) {fd : FuncData} (F : FunD K d_law.name d_law.qual d_law.params d_law.body d_law.scope (d_law.dvs K) (d_law.kws K) (He.fAd K d_law.at_) fd) : FnOk P w K mg base (L2.CX P w) 6 (He.fAd K d_law.at_) fd ["_law_script"] (spD K mg 1 m_law_k13) := by
  have b_list : mg "list" = none := He.free_ok KX GN (c.t.d.fact 28 (f := .free "list") rfl)
  have b_reversed : mg "reversed" = none := He.free_ok KX GN (c.t.d.fact 30 (f := .free "reversed") rfl)
  have b_sum : mg "sum" = none := He.free_ok KX GN (c.t.d.fact 31 (f := .free "sum") rfl)
  have S := sc_law
  rw [mm_law_k13]
  have Z := okD (P := P) (w := w) (mg := mg) (base := base) (n := 1) (k := 5) (den := den_law_k13) F S rfl
  refine Z ?_
  intro cdv A outer s H E hr
  have tk : Takes (cxOf (L2.CX P w) P w K mg base ["_law_script", "_law_d", "_law_one", "_law_other", "_law_tables", "_law_some", "_law_kept", "_law_found", "_law_due"] "law" (defScope s_law) (He.fAd K d_law.at_) cdv A outer s H E) (fun cls d _ H => E cls d H) := takes_of rfl rfl rfl rfl
  have hp : PassesOwn (model P w) (cxOf (L2.CX P w) P w K mg base ["_law_script", "_law_d", "_law_one", "_law_other", "_law_tables", "_law_some", "_law_kept", "_law_found", "_law_due"] "law" (defScope s_law) (He.fAd K d_law.at_) cdv A outer s H E).A (cxOf (L2.CX P w) P w K mg base ["_law_script", "_law_d", "_law_one", "_law_other", "_law_tables", "_law_some", "_law_kept", "_law_found", "_law_due"] "law" (defScope s_law) (He.fAd K d_law.at_) cdv A outer s H E).env (cxOf (L2.CX P w) P w K mg base ["_law_script", "_law_d", "_law_one", "_law_other", "_law_tables", "_law_some", "_law_kept", "_law_found", "_law_due"] "law" (defScope s_law) (He.fAd K d_law.at_) cdv A outer s H E).xe := passes_of rfl
  exact sd_cons (sd_set 1 S.nd rfl (.inl rfl) (pd_call F_law_root mem0 (hr.mono (by decide)) tk rfl (pad_cons (pd_b (cd_sum rfl) nx_sum b_sum (by decide +kernel) (pad_cons (pd_sl (pd_v 0) (po_d0) (po_d (pd_int))) (pad_nil))) (pad_nil)))) (sd_cons (sd_set 2 S.nd rfl (.inl rfl) (pd_call F_law_heap mem0 (hr.mono (by decide)) tk rfl (pad_cons (pd_sl (pd_bin od_add noEx_add (pd_sl (pd_v 0) (po_d (pd_int)) (po_d (pd_int))) (pd_lst (pad_cons (pd_int) (pad_nil)))) (po_d0) (po_d (pd_int))) (pad_cons (pd_v 1) (pad_nil))))) (sd_cons (sd_set 3 S.nd rfl (.inl rfl) (pd_call F_law_heap mem0 (hr.mono (by decide)) tk rfl (pad_cons (pd_sl (pd_bin od_add noEx_add (pd_sl (pd_v 0) (po_d (pd_int)) (po_d (pd_int))) (pd_lst (pad_cons (pd_int) (pad_nil)))) (po_d0) (po_d (pd_int))) (pad_cons (pd_v 1) (pad_nil))))) (sd_cons (sd_setL 4 S.nd rfl (.inl rfl) (pl_lst (pad_nil))) (sd_cons (sd_for hp rfl (pi_l (pd_lst (pad_cons (pd_v 2) (pad_cons (pd_v 3) (pad_cons (pd_bin od_add noEx_add (pd_v 2) (pd_v 3)) (pad_nil)))))) (pg_name (i := 5) S.nd rfl (.inl rfl)) (sd_cons (sd_set 6 S.nd rfl (.inl rfl) (pd_bt cd_listOf nx_listOf b_list (by decide +kernel) (pad_cons (pd_v 5) (pad_nil)))) (sd_cons (sd_set 7 S.nd rfl (.inl rfl) (pd_call F_table mem0 (hr.mono (by decide)) tk rfl (pad_cons (pd_v 5) (pad_nil)))) (sd_cons (sd_set 8 S.nd rfl (.inl rfl) (pd_call F_law_places mem0 (hr.mono (by decide)) tk rfl (pad_cons (pd_v 5) (pad_nil)))) (sd_cons (sd_if (PW.pt (pw_dor (pt_dnot (pt_d (pd_call F_law_is_table mem0 (hr.mono (by decide)) tk rfl (pad_cons (pd_v 7) (pad_cons (pd_v 8) (pad_nil)))))) (pw_dor (pt_cmpd (od_ne hr.units) noEx_ne (pd_v 5) (pd_v 6)) (pw_o1 (pt_cmpd (od_ne hr.units) noEx_ne (pd_call F_table mem0 (hr.mono (by decide)) tk rfl (pad_cons (pd_lrev rfl b_list b_reversed (pd_v 5)) (pad_nil))) (pd_v 7)))))) (sd_one (sd_ret (pd_bl))) (sd_nil)) (sd_cons (sd_if (pt_dnot (pt_d (pd_call F_law_is_table mem0 (hr.mono (by decide)) tk rfl (pad_cons (pd_call F_over mem0 (hr.mono (by decide)) tk rfl (pad_cons (pd_v 7) (pad_nil))) (pad_cons (pd_lst (pad_cons (pd_lst (pad_cons (pd_ix (pd_ix (pd_v 8) (pd_int)) (pd_int)) (pad_cons (pd_ix (pd_ix (pd_v 8) (pd_int)) (pd_int)) (pad_nil)))) (pad_cons (pd_lst (pad_cons (pd_ix (pd_ix (pd_v 8) (pd_int)) (pd_int)) (pad_cons (pd_ix (pd_ix (pd_v 8) (pd_int)) (pd_int)) (pad_nil)))) (pad_nil)))) (pad_nil)))))) (sd_one (sd_ret (pd_bl))) (sd_nil)) (sd_one (sd_app 4 (pd_v 7))))))))) (sd_frz 4 (sd_cons (sd_if (pt_dnot (pt_d (pd_call F_law_is_table mem0 (hr.mono (by decide)) tk rfl (pad_cons (pd_call F_together mem0 (hr.mono (by decide)) tk rfl (pad_cons (pd_ix (pd_v 4) (pd_int)) (pad_cons (pd_ix (pd_v 4) (pd_int)) (pad_nil)))) (pad_cons (pd_ix (pd_v 4) (pd_int)) (pad_nil)))))) (sd_one (sd_ret (pd_bl))) (sd_nil)) (sd_one (sd_ret (pe_dand (pd_call F_law_is_table mem0 (hr.mono (by decide)) tk rfl (pad_cons (pd_call F_less mem0 (hr.mono (by decide)) tk rfl (pad_cons (pd_ix (pd_v 4) (pd_int)) (pad_cons (pd_ix (pd_v 4) (pd_int)) (pad_nil)))) (pad_cons (pd_ix (pd_v 4) (pd_int)) (pad_nil)))) (pe_d1 (pd_call F_law_is_table mem0 (hr.mono (by decide)) tk rfl (pad_cons (pd_call F_less mem0 (hr.mono (by decide)) tk rfl (pad_cons (pd_ix (pd_v 4) (pd_int)) (pad_cons (pd_ix (pd_v 4) (pd_int)) (pad_nil)))) (pad_cons (pd_ix (pd_v 4) (pd_int)) (pad_nil))))))))))))))
theorem ok_law (KX : K.In h) (GN : h.Ns mainGlobals mg) (c : He.SaysX fa fn [] [] ex w h K) (F_law_root : FnAt P w K mg base "_law_root" 1 1 [[]] m_law_root_v3) (F_law_heap : FnAt P w K mg base "_law_heap" 3 2 [[]] m_law_heap) (F_table : FnAt P w K mg base "table" 5 1 [[]] m_table) (F_law_places : FnAt P w K mg base "_law_places" 3 1 [[]] m_law_places) (F_law_is_table : FnAt P w K mg base "_law_is_table" 3 2 [[]] m_law_is_table) (F_together : FnAt P w K mg base "together" 4 2 [[]] m_together) (F_less : FnAt P w K mg base "less" 4 2 [[]] m_less) (F_over : FnAt P w K mg base "over" 1 1 [[]] m_over) : FnAt P w K mg base "law" 6 1 [[]] m_law_k13 := by
  obtain ⟨fd, F⟩ := c.t.d.def_ 22 (d := d_law) rfl
  refine ⟨_, fd, ["_law_script"], fo_law KX GN c F_law_root F_law_heap F_table F_law_places F_law_is_table F_together F_less F_over F, He.glo_ok KX GN (c.t.d.fact 22 (f := .glo "law") rfl), F.kp, ?_⟩
  · intro ds hd
    rw [List.mem_singleton] at hd
    subst hd
    exact ⟨[], [], FunD.bindsN F fun _ _ _ _ _ _ us hl => match us, hl with | [_], _ => rfl, .nil, fun _ => .nil⟩
end
def names0 : List PySem.Str := ["divisor", "fraction", "parts", "NOUGHT", "plus", "minus", "times", "together", "less", "over", "table_of", "table", "_law_mix", "_law_whole", "_law_low", "_law_fraction", "_law_root", "_law_side", "_law_is", "_law_heap"]
def names1 : List PySem.Str := ["_law_add", "_law_places", "_law_is_table"]
def names : List PySem.Str := names0 ++ names1
abbrev Rw : PySem.W.OpenRow := PySem.W.OpenLaw.row PySem.Challenge.rw_boardglue_k13_tables
abbrev hk : PySem.W.Hook := He.hookX 5 fa fn [] [] ex
def ob (s : PySem.W.SharedT) : He.AlX := He.obsX 5 fa fn [] [] ex (HandSHeadRun.getT s)
theorem ob_eq (s : PySem.W.SharedT) : ob s = hk.obs s.abs := He.obsX_eq (HandSHeadRun.getT_eq s)
theorem run (w : World) : HandSHeadRun.RunEq Rw (PySem.W.view Rw.prog [26]) hk ob 20000 names w := by
  intro os
  kernel_rfl
theorem facts {P : Program} {w : World} {K : PySem.W.Frag} {h : Heap} {mg : MG} {f : Addr} (KX : K.In h) (GN : h.Ns mainGlobals mg) (hfa : mg ("law" : Str) = some (.ref f)) (c : He.SaysX fa fn [] [] ex w h K) :
    ∃ fd : FuncData, (∀ (s : Shared) (v : Value), BindsTo s fd ⟨[v], []⟩ [("_law_script", v)]) ∧ ∀ base : Heap, K.In base → base.Ns mainGlobals mg → FnOk P w K mg base (L2.CX P w) 6 f fd ["_law_script"] (spD K mg 1 m_law_k13) := by
  obtain ⟨fd, F⟩ := c.t.d.def_ 22 (d := d_law) rfl
  refine ⟨fd, fun s v => FunD.bindsA (ps := ["_law_script"]) F (fun _ _ _ _ _ _ us hl => match us, hl with | [_], _ => rfl) s [v] rfl, fun base hb hg => ?_⟩
  have F_divisor := ok_divisor (P := P) (w := w) (base := base) KX GN c 
  have F_fraction := ok_fraction (P := P) (w := w) (base := base) KX GN c F_divisor
  have F_parts := ok_parts (P := P) (w := w) (base := base) KX GN c F_fraction
  have F_plus := ok_plus (P := P) (w := w) (base := base) KX GN c F_fraction
  have F_minus := ok_minus (P := P) (w := w) (base := base) KX GN c F_fraction
  have F_times := ok_times (P := P) (w := w) (base := base) KX GN c F_fraction
  have F_together := ok_together (P := P) (w := w) (base := base) KX GN c F_plus
  have F_less := ok_less (P := P) (w := w) (base := base) KX GN c F_minus
  have F_over := ok_over (P := P) (w := w) (base := base) KX GN c 
  have F_table_of := ok_table_of (P := P) (w := w) (base := base) KX GN c F_parts F_times
  have F_table := ok_table (P := P) (w := w) (base := base) KX GN c F_together F_table_of
  have F_law_mix := ok_law_mix (P := P) (w := w) (base := base) KX GN c 
  have F_law_whole := ok_law_whole (P := P) (w := w) (base := base) KX GN c 
  have F_law_low := ok_law_low (P := P) (w := w) (base := base) KX GN c 
  have F_law_fraction := ok_law_fraction (P := P) (w := w) (base := base) KX GN c 
  have F_law_root := ok_law_root (P := P) (w := w) (base := base) KX GN c 
  have F_law_side := ok_law_side (P := P) (w := w) (base := base) KX GN c F_law_low F_law_mix
  have F_law_is := ok_law_is (P := P) (w := w) (base := base) KX GN c F_law_whole
  have F_law_heap := ok_law_heap (P := P) (w := w) (base := base) KX GN c F_law_side
  have F_law_add := ok_law_add (P := P) (w := w) (base := base) KX GN c F_law_fraction
  have F_law_places := ok_law_places (P := P) (w := w) (base := base) KX GN c F_law_add
  have F_law_is_table := ok_law_is_table (P := P) (w := w) (base := base) KX GN c F_law_is
  have e := hfa.symm.trans (He.glo_ok KX GN (c.t.d.fact 22 (f := .glo "law") rfl))
  cases e
  exact fo_law KX GN c F_law_root F_law_heap F_table F_law_places F_law_is_table F_together F_less F_over F
end
end DL
open PySem PySem.W PySem.Calls PyProof.Rows
theorem PySem.Challenge.cw_boardglue_k13_tables_holds : PySem.Challenge.rw_boardglue_k13_tables.Holds := by
  w_on; o_law
  refine HandSHeadRun.head_any (r := OpenLaw.row PySem.Challenge.rw_boardglue_k13_tables) (q := view (OpenLaw.row PySem.Challenge.rw_boardglue_k13_tables).prog [26]) (H := DL.hk) (ob := DL.ob) (M := 20000) (loose := DL.names) (d := HandSHeadRun.topDef (OpenLaw.row PySem.Challenge.rw_boardglue_k13_tables).prog 26) (kwd := []) DL.ob_eq
    (by kernel_rfl) (fun s => by kernel_rfl) DL.run (by kernel_rfl) (by kernel_rfl) (by kernel_rfl) (by rfl) (by first | assumption | decide +kernel) (by decide +kernel) ⟨rfl, rfl, rfl, rfl, rfl, by decide +kernel⟩ ?hw ?hc
  case hw => w_witness2
  case hc =>
    refine DL.walkD (l := PySem.Challenge.rw_boardglue_k13_tables) (n := 63) (k := 6) (x := "_law_script") (g := DL.m_law_k13) rfl (by decide) (by kernel_rfl) ⟨rfl, by decide, by decide⟩ ?F DL.law_k13_true
    intro w mg fa h Y G hmg0
    obtain ⟨K, KX, c⟩ := Y
    have hmg : mg ("law" : PySem.Str) = some (.ref fa) := by
      have e : (HandSHeadRun.topDef (OpenLaw.row PySem.Challenge.rw_boardglue_k13_tables).prog 26).name = ("law" : PySem.Str) := by kernel_rfl
      rw [← e]
      exact hmg0
    obtain ⟨fd, hb, hF⟩ := DL.facts (P := (PySem.Challenge.rw_boardglue_k13_tables).prog) (w := w) KX G hmg c
    exact ⟨K, fd, KX, hb, hF⟩

