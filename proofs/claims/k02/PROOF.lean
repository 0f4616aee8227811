import PyProof.Rows.All
import Wide.All
import OpenK.AllK
import Wide.FinOn
import HandS.Exc
import HandS.TryOnly
import HandS.ForMost
import HandS.ForExc
import HandS.Deep
import HandS.Wide
import HandS.WideBits
import HandS.HeadHook1
import HandS.CallSlots
import HandS.Defaults
import HandS.Iter
import HandS.Zip
import HandS.Rev
import HandS.TupAny
import HandS.Comp
import HandS.Text
import HandS.IsInst
import HandS.HeadHook2
import PyProof.Rows.RuleB_pow
import HandS.EndBits
import HandS.Sort
import HandS.ExcIs
import HandS.RevTup
import PyProof.ListStr
import HandS.Style
import HandS.SetFor
import PySem.Challenge.RW_boardglue_k02_no_length
import HandS.HeadHook4
import HandS.Head2
import KE.KStateDown
import HandS.Head0
import HandS.Head1
import HandS.HeadEnd
set_option Elab.async false
set_option linter.all false
set_option maxRecDepth 100000
set_option maxHeartbeats 4000000
set_option autoImplicit false
/-! exceptions that are kept: tracked from the end of the suite on -/
namespace DL
open PySem PySem.Spec PyProof.Rows L2
/-- an exception object of the class cls that was caught -/
def ExK (cls : Value) (a : Addr) : HO := .ext fun h => ∃ (oe : Obj) (vs : Array Value), h.get? a = some oe ∧ Zc cls none oe ∧ oe.data = .fields vs
theorem exK_ok {P : Program} {w : World} {H : Hp} {h : Heap} {a : Addr} {cls : Value} {oe : Obj} {vs : Array Value} (e : h.get? a = some oe) (z : Zc cls none oe) (d : oe.data = .fields vs) : ObjOk P w H h a (ExK cls a) :=
  ⟨⟨oe, vs, e, z, d⟩, ⟨oe, e⟩, fun _ _ ⟨o, v, q, r⟩ k => ⟨o, v, k o q, r⟩⟩
section
variable {X : Cx} {pins : List (Addr × Obj)} {σ : L2.St} {H : Hp} {s : Shared}
/-- an object that stands, new since the entry, is tracked from here on -/
theorem invTrack {a : Addr} {o : HO} {oe : Obj} (I : Inv X pins σ H s) (e : s.heap.get? a = some oe) (d : ∀ v, oe.data ≠ .cell v) (n : H a = none) (n0 : X.s_0.heap.get? a = none) (nl : a ≠ X.env.locals)
    (np : ∀ p ∈ X.pn ++ pins, p.1 ≠ a) (new : ObjOk X.prog X.w (upd H a o) s.heap a o) : Inv X pins σ (upd H a o) s where
  ok := I.ok
  os := I.os
  bare := I.bare
  base := ⟨I.base.keep, I.base.slot, fun b u q m hx => by
      rw [upd_ne (fun z => by rw [z, n0] at q; cases q)]; exact I.base.free b u q m hx, I.base.there,
    fun b xs q => by rw [upd_ne (ne_of_none (I.base.tups b xs q) n)]; exact I.base.tups b xs q,
    fun b u xs q => by rw [upd_ne (ne_of_none (I.base.frzs b u xs q) n)]; exact I.base.frzs b u xs q,
    fun b ps q => by
      obtain ⟨m, z⟩ := I.base.tbls b ps q
      exact ⟨m, by rw [upd_ne (ne_of_none z n)]; exact z⟩⟩
  loc := I.loc
  cell := I.cell
  free := by rw [upd_ne (fun z => nl z.symm)]; exact I.free
  freeC := fun x c h => by
    obtain ⟨v, o', h1, h2⟩ := I.cell x c h
    rw [upd_ne (fun z => by
      rw [z, e] at h1
      cases h1
      exact d _ h2)]
    exact I.freeC x c h
  pin := fun p hp => by
    obtain ⟨h1, h2, h3⟩ := I.pin p hp
    exact ⟨h1, by rw [upd_ne (np p hp)]; exact h2, h3⟩
  hok := fun b u q => by
    by_cases hb : b = a
    · subst hb
      rw [upd_same] at q
      cases q
      exact new
    · rw [upd_ne hb] at q
      exact (I.hok b u q).stay (fun c v _ q => q) (fun c q => by rw [upd_ne (ne_of_none q n)]; exact q) fun c xs q => by rw [upd_ne (ne_of_none q n)]; exact q
  len := I.len
end
/-- what 'except x as n' wishes where the error is kept: slot i is n's -/
def wAsK (K : PySem.W.Frag) (c : Value) (i : Nat) (ts : Addr → Value → Option Addr → TS) (Wout : WX) (D : Ends) : WX := fun cls d σ H =>
  ∃ b, PySem.W.exmOne K cls c = some b ∧ (b = true → d = none ∧ ∀ a, H a = none → ts a cls d { nx := fun σ' H' => H' a = none → D.nx (σ'.set i none) (upd H' a (ExK cls a)), rt := fun _ _ => False, bk := fun _ _ => False, ct := fun _ _ => False } (σ.set i (some (.ref a))) H) ∧
    (b = false → Wout cls d σ H)
section
variable {X : Cx} {x n : Str} {c : Value} {i : Nat} {body suite : List Stmt} {b₀ : Stmt} {np pos pos' : Pos} {tb : WX → TS} {ts : Addr → Value → Option Addr → TS} {Wout : WX}
theorem ps_try_keep (hex : X.ex = []) (hs : X.stack = X.env :: X.outer) (hf : X.env.frame = some X.env.locals) (hN : X.N.Nodup) (hi : X.N[i]? = some n) (hln : X.env.kindOf n = some .local) (hc : Names X x c) (tk : Takes X Wout)
    (hb : ∀ (W : WX) (pn : List (Addr × Obj)) (xe : Value → Shared → Prop), Takes (X.tr pn xe) W → PassesOwn (model X.prog X.w) X.A X.env xe → PSs (X.tr pn xe) body (tb W))
    (hsu : ∀ (a : Addr) (oe : Obj) (cls : Value) (d : Option Addr) (pn : List (Addr × Obj)), Zc cls d oe → (∃ vs, oe.data = .fields vs) → PSs (X.suite a ((a, oe) :: pn)) (b₀ :: suite) (ts a cls d)) :
    PS X (.Try body [.ExceptHandler (some (.Name x np)) (some n) (b₀ :: suite) pos'] [] [] pos) (fun D σ H => tb (wAsK X.K c i ts Wout D) D σ H) := by
  refine ⟨fun pins s σ H D I h => ?_⟩
  have ok := I.ok
  have hfr : X.A.frames = some (X.env :: X.outer) := by rw [ok.frames, hs]
  have hloc : Loc X.env.scope n := .inl hln
  refine wpAny_Try_except ?_
  refine wpAny_mono ((hb (wAsK X.K c i ts Wout D) (X.pn ++ pins) (fun e s₁ => wpAny (model X.prog X.w) X.A (noteFrame e X.env) (fun _ s₂ => wpAny (model X.prog X.w) X.A (setFlight e none) (fun _ s₃ =>
    wpAny (model X.prog X.w) X.A (handleBy e X.env [.ExceptHandler (some (.Name x np)) (some n) (b₀ :: suite) pos']) (SP X pins D) X.xe s₃) X.xe s₂) X.xe s₁) (fun u s' xx => ?_) PassesOwn.looking).run [] s σ H D (I.toTry _) h) (fun f s1 hsp => ?_) (fun e s1 he => he)
  · -- the catch
    obtain ⟨a, B, sI, pins', σ', H', cls, d, rfl, J', nb, up, sky, na, os, ag, b, hb1, hyes, hno⟩ := xx
    have J : Inv X pins σ' H' sI := J'.ofTry ok
    have sky' : Sky B (X.env :: X.outer) a (Zc cls d) X.env.locals s'.heap := by rw [← hs]; exact sky
    show wpAny (model X.prog X.w) X.A (noteFrame (.ref a) X.env) _ _ _
    refine Sky.land Zc.steady hfr hf sky' fun h3 fl3 up3 => ?_
    have J3 : Inv X pins σ' H' { s' with heap := h3 } := J.landed nb fl3.1 (up.trans up3) os ag
    obtain ⟨oe3, vs3, he3, hz3, hd3⟩ := fl3.there
    have notFr : ∀ {h : Heap} {o : Obj} {vs : Array Value}, h.FunFrames B (X.env :: X.outer) → h.get? a = some o → o.data = .fields vs → a ∉ frs (X.env :: X.outer) := fun {h o vs} ff e dd hm => by
      obtain ⟨_, o', e', hnf⟩ := ff.mem hm
      rw [e] at e'; cases e'
      exact hnf _ dd
    have nfr := notFr fl3.2.2.1 he3 hd3
    have nL : a ≠ X.env.locals := fun z => nfr (List.mem_filterMap.mpr ⟨X.env, List.mem_cons_self, by rw [hf, z]⟩)
    have nF : a ∉ X.fs := fun hm => by
      obtain ⟨e, he, q⟩ := List.mem_filterMap.mp hm
      exact nfr (List.mem_filterMap.mpr ⟨e, List.mem_cons_of_mem _ he, q⟩)
    have nI : sI.heap.get? a = none := by
      cases q : sI.heap.get? a with
      | none => rfl
      | some o =>
        have z := nb a o q (by rw [hs]; exact nfr)
        rw [fl3.2.1] at z
        cases z
    have n0 : X.s_0.heap.get? a = none := by
      cases q : X.s_0.heap.get? a with
      | none => rfl
      | some o =>
        obtain ⟨o', z⟩ := J.base.there a o q (by rw [hex]; exact fun z => nomatch z)
        rw [nI] at z
        cases z
    have nP : ∀ p ∈ X.pn ++ pins, p.1 ≠ a := fun p hp z => by
      have q := (J.pin p hp).1
      rw [z, nI] at q
      cases q
    have S3 := J3.suite he3 hd3 na nL nF
    refine wpAny_handleBy_cons (codeAny_handlers_test ?_) (by intro q; cases q)
    have LT : PySem.W.Looks (model X.prog X.w) h3 (typeOf (.ref a)) cls := fun A Q E s k q => wpAny_typeOf_ref (k _ _ he3) (by rw [hz3.1]; exact q)
    have LM := PySem.W.exm_one (M := model X.prog X.w) (J3.kIn) LT hb1
    have test : ∀ {Q : Value → Shared → Prop} {E : Value → Shared → Prop}, Q c { s' with heap := h3 } → wpAny (model X.prog X.w) (X.A.mark (some (.ref a))) (eval (.Name x np) X.env) Q E { s' with heap := h3 } := fun {Q E} q => by
      obtain ⟨hg, hdbg, hm | ⟨hm, hv, hnn⟩⟩ := hc
      · exact ld_glob (X := X.suite a ((a, oe3) :: (X.pn ++ pins))) S3 hg hm q hdbg
      · exact ld_blt (X := X.suite a ((a, oe3) :: (X.pn ++ pins))) S3 hg hm hv q hnn hdbg
    refine test (LM.here ?_)
    cases b with
    | true =>
      refine codeAny_handlers_suite_as ?_
      refine HandSPX.lands_againZ fl3 fun h4 fl4 up4 => ?_
      have J4 : Inv X pins σ' H' { s' with heap := h4 } := J.landed nb fl4.1 ((up.trans up3).trans up4) os ag
      obtain ⟨oe4, vs4, he4, hz4, hd4⟩ := fl4.there
      have S4 := J4.suite he4 hd4 na nL nF
      obtain ⟨hdn, hyes⟩ := hyes rfl
      refine store_ok (X := X.suite a ((a, oe4) :: (X.pn ++ pins))) (v := .ref a) S4 hN hi hloc rfl (fun s5 S5 => ?_) (.inr hln)
      refine wpAny_mono ((hsu a oe4 cls d (X.pn ++ pins) hz4 ⟨_, hd4⟩).run [] s5 _ H' _ S5 (hyes a na)) (fun f s6 hsp => ?_) (fun _ _ z => False.elim z)
      cases f with
      | next =>
        obtain ⟨σ6, H6, S6, q6⟩ := hsp
        obtain ⟨p1, p2, _⟩ := S6.pin (a, oe4) (List.mem_append.mpr (.inl List.mem_cons_self))
        subst hdn
        have T6 := invTrack (o := ExK cls a) (S6.unsuite ok) p1 (fun v z => by rw [hd4] at z; cases z) p2 n0 nL nP (exK_ok p1 hz4 hd4)
        exact gone_ok T6 hN hi hln fun s7 J7 => ⟨_, _, J7, q6 p2⟩
      | brk =>
        obtain ⟨σ6, H6, S6, q6⟩ := hsp
        exact q6.elim
      | cont =>
        obtain ⟨σ6, H6, S6, q6⟩ := hsp
        exact q6.elim
      | ret u =>
        obtain ⟨v6, σ6, H6, S6, r6, q6⟩ := hsp
        exact q6.elim
    | false =>
      show wpAny _ X.A (handleBy (.ref a) X.env []) _ _ _
      refine wpAny_handleBy_nil ?_
      obtain ⟨k1, k2, k3, oe, vs, T, oT, ts', he, hz, hd, h1, hr⟩ := id fl3
      unfold PySem.passOn
      refine wpAny_bind (wpAny_field he hd h1 ?_)
      rw [if_neg (show ¬ ((Value.ref T == Value.none) = true) from by simp)]
      have fin : wpAny (model X.prog X.w) X.A (setFlight (.ref a) X.env.frame) (fun _ s4 => wpAny (model X.prog X.w) X.A (throw (.ref a) : Sem Flow) (SP X pins D) X.xe s4) X.xe { s' with heap := h3 } := by
        rw [hf]
        refine HandSPX.setFlight_upZ fl3 fun h4 hh4 up4 => wpAny_throw (tk _ _ ?_)
        exact ⟨a, B, sI, pins, σ', H', cls, d, rfl, J, nb, (up.trans up3).trans up4, .inr (.inr (by rw [hs]; exact hh4)), na, os, ag, hno rfl⟩
      first
        | exact wpAny_bind (wpAny_pure (wpAny_bind fin))
        | exact wpAny_bind fin
  · cases f with
    | next =>
      obtain ⟨σ', H', J', q⟩ := hsp
      exact wpAny_execs_nil ⟨σ', H', J'.ofTry ok, q⟩
    | brk =>
      obtain ⟨σ', H', J', q⟩ := hsp
      exact ⟨σ', H', J'.ofTry ok, q⟩
    | cont =>
      obtain ⟨σ', H', J', q⟩ := hsp
      exact ⟨σ', H', J'.ofTry ok, q⟩
    | ret u =>
      obtain ⟨v, σ', H', J', r, q⟩ := hsp
      exact ⟨v, σ', H', J'.ofTry ok, r, q⟩
end
end DL

set_option Elab.async false
set_option linter.all false
set_option maxRecDepth 100000
set_option maxHeartbeats 4000000
set_option autoImplicit false
/-! the data layer: what a def computes, as a function of plain data -/
namespace DL
open PySem L2
abbrev PD := PyData

/-- an outcome: a value, an exception by its class's name, or no claim -/
inductive R (α : Type) where
  | ok (a : α)
  | ex (c : Str)
  | no
def R.bind {α β : Type} (r : R α) (k : α → R β) : R β := match r with
  | .ok a => k a
  | .ex c => .ex c
  | .no => .no
@[simp] theorem R.bind_ok {α β : Type} (a : α) (k : α → R β) : (R.ok a).bind k = k a := rfl
@[simp] theorem R.bind_ex {α β : Type} (c : Str) (k : α → R β) : (R.ex c : R α).bind k = .ex c := rfl
@[simp] theorem R.bind_no {α β : Type} (k : α → R β) : (R.no : R α).bind k = .no := rfl

/-- a field of an object of one's own: data that stands still; a list of its own; a dict of its own -/
inductive FV where
  | d (x : PD)
  | l (xs : List PD)
  | k (kvs : List (L2.Key × PD))
abbrev Fs := List (Str × FV)
/-- what a local holds: data that stands still; a list of its own; a dict of its own; a list of lists of its own; an object of its own; the object whose method runs -/
inductive SV where
  | d (x : PD)
  | l (xs : List PD)
  | k (kvs : List (L2.Key × PD))
  | ll (xss : List (List PD))
  | o (c : Str) (fs : Fs)
  | me (c : Str) (fs : Fs)
abbrev En := List (Option SV)
def SV.own : SV → Bool
  | .d _ => false
  | _ => true

/-! ### values that bear data in a heap -/
/-- a dict's key as data -/
def KeyD : L2.Key → PD → Prop
  | .inl i, .int j => i = j
  | .inr x, .str y => x = y
  | _, _ => False
/-- an exception of a class of the program as data -/
def exD (c : Str) : PD := .dict [(.none, .str c)]
mutual
inductive Rp (K : PySem.W.Frag) (S : Hp) : V → PD → Prop
  | non : Rp K S .non .none
  | bl (b : Bool) : Rp K S (.bl b) (.bool b)
  | int (i : Int) : Rp K S (.int i) (.int i)
  | str (x : Str) : Rp K S (.str x) (.str x)
  | lst {a : Addr} {xs : List V} {ds : List PD} : SqL K S a xs → RpA K S xs ds → Rp K S (.ref a) (.list ds)
  | tup {a : Addr} {xs : List V} {ds : List PD} : SqT K S a xs → RpA K S xs ds → Rp K S (.ref a) (.tuple ds)
  | exc {a : Addr} {c : Str} : S a = some (ExK (.ref (He.ga K c)) a) → Rp K S (.ref a) (.dict [(.none, .str c)])
  | dct {a : Addr} {kvs : List (L2.Key × V)} {ds : List (PD × PD)} : S a = some (.dK kvs) → RpK K S kvs ds → Rp K S (.ref a) (.dict ds)
inductive RpA (K : PySem.W.Frag) (S : Hp) : List V → List PD → Prop
  | nil : RpA K S [] []
  | cons {v : V} {vs : List V} {d : PD} {ds : List PD} : Rp K S v d → RpA K S vs ds → RpA K S (v :: vs) (d :: ds)
inductive RpK (K : PySem.W.Frag) (S : Hp) : List (L2.Key × V) → List (PD × PD) → Prop
  | nil : RpK K S [] []
  | cons {k : L2.Key} {v : V} {kvs : List (L2.Key × V)} {kd d : PD} {ds : List (PD × PD)} : KeyD k kd → Rp K S v d → RpK K S kvs ds → RpK K S ((k, v) :: kvs) ((kd, d) :: ds)
end

section
variable {K : PySem.W.Frag} {S S' H H' : Hp}
theorem Same.seqT {a : Addr} {xs : List V} (e : Same S S') (h : SqT K S a xs) : SqT K S' a xs := by
  rcases h with (h | ⟨o, h⟩) | h
  · exact .inl (.inl (e _ _ h))
  · exact .inl (.inr ⟨o, e _ _ h⟩)
  · exact .inr h
mutual
theorem Rp.mono0 (e : Same S S') : ∀ {v : V} {d : PD}, Rp K S v d → Rp K S' v d
  | _, _, .non => .non
  | _, _, .bl b => .bl b
  | _, _, .int i => .int i
  | _, _, .str x => .str x
  | _, _, .lst hs ha => .lst (Same.seq e hs) (RpA.mono0 e ha)
  | _, _, .tup hs ha => .tup (Same.seqT e hs) (RpA.mono0 e ha)
  | _, _, .exc h => .exc (e _ _ h)
  | _, _, .dct h hk => .dct (e _ _ h) (RpK.mono0 e hk)
theorem RpA.mono0 (e : Same S S') : ∀ {vs : List V} {ds : List PD}, RpA K S vs ds → RpA K S' vs ds
  | _, _, .nil => .nil
  | _, _, .cons h1 h2 => .cons (Rp.mono0 e h1) (RpA.mono0 e h2)
theorem RpK.mono0 (e : Same S S') : ∀ {vs : List (L2.Key × V)} {ds : List (PD × PD)}, RpK K S vs ds → RpK K S' vs ds
  | _, _, .nil => .nil
  | _, _, .cons h1 h2 h3 => .cons h1 (Rp.mono0 e h2) (RpK.mono0 e h3)
end
theorem Rp.mono (e : Same S S') (d : PD) (v : V) (h : Rp K S v d) : Rp K S' v d := Rp.mono0 e h
theorem RpA.mono (e : Same S S') (ds : List PD) (vs : List V) (h : RpA K S vs ds) : RpA K S' vs ds := RpA.mono0 e h
mutual
theorem Rp.dp : ∀ (d : PD) (v : V), d.canLay0 = true → Rp K S v d → Dp K S v d
  | .none, _, _, h => by cases h; exact .non
  | .bool b, _, _, h => by cases h; exact .bl b
  | .int i, _, _, h => by cases h; exact .int i
  | .str x, _, _, h => by cases h; exact .str x
  | .list ds, _, c, h => by
    cases h with
    | lst hs ha => exact .lst hs (RpA.dp ds _ c ha)
  | .tuple ds, _, c, h => by
    cases h with
    | tup hs ha => exact .tup hs (RpA.dp ds _ c ha)
  | .dict _, _, c, h => by cases c
theorem RpA.dp : ∀ (ds : List PD) (vs : List V), PyData.canLayAll0 ds = true → RpA K S vs ds → DpAll K S vs ds
  | [], _, _, h => by cases h; exact .nil
  | d :: ds, _, c, h => by
    have c' : (d.canLay0 && PyData.canLayAll0 ds) = true := c
    rw [Bool.and_eq_true] at c'
    cases h with
    | cons h1 h2 => exact .cons (Rp.dp d _ c'.1 h1) (RpA.dp ds _ c'.2 h2)
end
theorem RpA.length : ∀ {ds : List PD} {vs : List V}, RpA K S vs ds → vs.length = ds.length
  | [], _, h => by cases h; rfl
  | d :: ds, _, h => by
    cases h with
    | cons h1 h2 => simp only [List.length_cons, RpA.length h2]
theorem RpA.get : ∀ {ds : List PD} {vs : List V} {i : Nat} {d : PD}, RpA K S vs ds → ds[i]? = some d → ∃ v, vs[i]? = some v ∧ Rp K S v d
  | [], _, _, _, _, e => by simp at e
  | d :: ds, _, i, x, h, e => by
    cases h with
    | cons h1 h2 =>
      cases i with
      | zero =>
        simp at e
        subst e
        exact ⟨_, rfl, h1⟩
      | succ i => simpa using RpA.get h2 (by simpa using e)
theorem RpA.getV : ∀ {ds : List PD} {vs : List V} {i : Nat} {v : V}, RpA K S vs ds → vs[i]? = some v → ∃ d, ds[i]? = some d ∧ Rp K S v d
  | [], _, _, _, h, e => by cases h; simp at e
  | d :: ds, _, i, x, h, e => by
    cases h with
    | cons h1 h2 =>
      cases i with
      | zero =>
        simp at e
        subst e
        exact ⟨_, rfl, h1⟩
      | succ i => simpa using RpA.getV h2 (by simpa using e)
theorem RpA.append : ∀ {ds es : List PD} {vs us : List V}, RpA K S vs ds → RpA K S us es → RpA K S (vs ++ us) (ds ++ es)
  | [], _, _, _, h, g => by cases h; exact g
  | d :: ds, _, _, _, h, g => by
    cases h with
    | cons h1 h2 => exact .cons h1 (RpA.append h2 g)
theorem RpA.take : ∀ {ds : List PD} {vs : List V} (n : Nat), RpA K S vs ds → RpA K S (vs.take n) (ds.take n)
  | [], _, n, h => by cases h; simpa using RpA.nil
  | d :: ds, _, n, h => by
    cases h with
    | cons h1 h2 =>
      cases n with
      | zero => exact .nil
      | succ n => exact .cons h1 (RpA.take n h2)
theorem RpA.drop : ∀ {ds : List PD} {vs : List V} (n : Nat), RpA K S vs ds → RpA K S (vs.drop n) (ds.drop n)
  | [], _, n, h => by cases h; simpa using RpA.nil
  | d :: ds, _, n, h => by
    cases h with
    | cons h1 h2 =>
      cases n with
      | zero => exact .cons h1 h2
      | succ n => exact RpA.drop n h2
theorem RpA.set {v : V} {d : PD} (r : Rp K S v d) : ∀ {ds : List PD} {vs : List V} (i : Nat), RpA K S vs ds → RpA K S (vs.set i v) (ds.set i d)
  | [], _, _, h => by cases h; exact .nil
  | e :: ds, _, i, h => by
    cases h with
    | cons h1 h2 =>
      cases i with
      | zero => exact .cons r h2
      | succ i => exact .cons h1 (RpA.set r i h2)
theorem RpA.reverse : ∀ {ds : List PD} {vs : List V}, RpA K S vs ds → RpA K S vs.reverse ds.reverse
  | [], _, h => by cases h; exact .nil
  | d :: ds, _, h => by
    cases h with
    | cons h1 h2 =>
      rw [List.reverse_cons, List.reverse_cons]
      exact (RpA.reverse h2).append (.cons h1 .nil)
theorem RpA.snoc {ds : List PD} {vs : List V} {v : V} {d : PD} (h : RpA K S vs ds) (r : Rp K S v d) : RpA K S (vs ++ [v]) (ds ++ [d]) := h.append (.cons r .nil)

/-- a heap grows: S, what is known of it, grows too, by new things alone -/
structure Ext (S H S' H' : Hp) : Prop where
  sub : Same S S'
  all : Same H H'
  inn : Same S' H'
  new : ∀ a o, S' a = some o → S a = some o ∨ H a = none
theorem Ext.refl (h : Same S H) : Ext S H S H := ⟨Same.refl _, Same.refl _, h, fun _ _ e => .inl e⟩
theorem Ext.trans {S1 S2 S3 H1 H2 H3 : Hp} (a : Ext S1 H1 S2 H2) (b : Ext S2 H2 S3 H3) : Ext S1 H1 S3 H3 :=
  ⟨a.sub.trans b.sub, a.all.trans b.all, b.inn, fun x o e => by
    rcases b.new x o e with h | h
    · exact a.new x o h
    · exact .inr (a.all.free h)⟩
/-- a new thing, known -/
theorem Ext.known {p : Addr} {o : HO} (h : Same S H) (hp : H p = none) : Ext S H (upd S p o) (upd H p o) := by
  have hs : S p = none := h.free hp
  refine ⟨fun a x e => by rw [upd_ne (ne_of_none e hs)]; exact e, fun a x e => by rw [upd_ne (ne_of_none e hp)]; exact e, fun a x e => ?_, fun a x e => ?_⟩
  · by_cases ha : a = p
    · subst ha; rw [upd_same] at e ⊢; exact e
    · rw [upd_ne ha] at e ⊢; exact h a x e
  · by_cases ha : a = p
    · subst ha; exact .inr hp
    · rw [upd_ne ha] at e; exact .inl e
/-- a new thing, not known -/
theorem Ext.fresh {p : Addr} {o : HO} (h : Same S H) (hp : H p = none) : Ext S H S (upd H p o) := by
  refine ⟨Same.refl _, fun a x e => by rw [upd_ne (ne_of_none e hp)]; exact e, fun a x e => ?_, fun a x e => .inl e⟩
  have := h a x e
  rw [upd_ne (ne_of_none this hp)]; exact this
theorem Ext.grow (h : Same S H) (g : Same H H') : Ext S H S H' := ⟨Same.refl _, g, h.trans g, fun _ _ e => .inl e⟩
end

/-! ### the state: F, the entry's known part and heap (without the footprint P of the object at a whose method runs) -/
structure F where
  S : Hp
  H : Hp
  a : Addr
  P : List Addr
def kvRel (K : PySem.W.Frag) (S : Hp) : List (L2.Key × V) → List (L2.Key × PD) → Prop
  | [], [] => True
  | (a, v) :: r, (b, d) :: q => a = b ∧ Rp K S v d ∧ kvRel K S r q
  | _, _ => False
theorem kvRel.mono {K : PySem.W.Frag} {S S' : Hp} (e : Same S S') : ∀ {l : List (L2.Key × V)} {m : List (L2.Key × PD)}, kvRel K S l m → kvRel K S' l m
  | [], [], _ => trivial
  | (a, v) :: r, (b, d) :: q, h => ⟨h.1, Rp.mono e _ _ h.2.1, kvRel.mono e h.2.2⟩
  | [], _ :: _, h => h.elim
  | _ :: _, [], h => h.elim
/-- lists of one's own at addresses -/
def LLs (K : PySem.W.Frag) (S H : Hp) : List Addr → List (List PD) → Prop
  | [], [] => True
  | b :: bs, xs :: xss => (∃ vs, H b = some (.lst vs) ∧ RpA K S vs xs) ∧ LLs K S H bs xss
  | _, _ => False
/-- a field's value; the addresses of what it owns -/
def FldV (K : PySem.W.Frag) (S H : Hp) (v : V) (bs : List Addr) : FV → Prop
  | .d x => bs = [] ∧ Rp K S v x
  | .l xs => ∃ b vs, v = .ref b ∧ bs = [b] ∧ H b = some (.lst vs) ∧ RpA K S vs xs
  | .k kvs => ∃ b vs, v = .ref b ∧ bs = [b] ∧ H b = some (.dK vs) ∧ kvRel K S vs kvs
def FldR (K : PySem.W.Frag) (S H : Hp) : List (Str × V) → Fs → List Addr → Prop
  | [], [], bs => bs = []
  | (n, v) :: vs, (m, x) :: fs, bs => n = m ∧ ∃ b1 b2, bs = b1 ++ b2 ∧ FldV K S H v b1 x ∧ FldR K S H vs fs b2
  | _, _, _ => False
def OwnI (K : PySem.W.Frag) (S H : Hp) (a : Addr) (fp : List Addr) (c : Str) (fs : Fs) : Prop := ∃ dx vs bs, fp = a :: dx :: bs ∧ fp.Nodup ∧ H a = some (.ins (He.ga K c) dx vs) ∧ H dx = some (.own a) ∧ FldR K S H vs fs bs
def Own (K : PySem.W.Frag) (S H : Hp) (a : Addr) (fp : List Addr) : SV → Prop
  | .d _ => False
  | .l ds => fp = [a] ∧ ∃ vs, H a = some (.lst vs) ∧ RpA K S vs ds
  | .k kvs => fp = [a] ∧ ∃ vs, H a = some (.dK vs) ∧ kvRel K S vs kvs
  | .ll xss => ∃ bs, fp = a :: bs ∧ fp.Nodup ∧ H a = some (.lst (bs.map V.ref)) ∧ LLs K S H bs xss
  | .o c fs => OwnI K S H a fp c fs
  | .me c fs => OwnI K S H a fp c fs
def Sl (K : PySem.W.Frag) (G : F) (S H : Hp) (v : V) (fp : List Addr) : SV → Prop
  | .d x => Rp K S v x
  | .me c fs => v = .ref G.a ∧ fp = G.P ∧ Own K S H G.a fp (.me c fs)
  | x => ∃ a, v = .ref a ∧ Own K S H a fp x
structure RelF (K : PySem.W.Frag) (G : F) (φ : Nat → List Addr) (S : Hp) (σ : St) (ρ : En) (H : Hp) : Prop where
  len : σ.length = ρ.length
  inn : Same S H
  ent : Same G.H H
  entS : Same G.S S
  new : ∀ a o, S a = some o → G.S a = some o ∨ (G.H a = none ∧ a ∉ G.P)
  gp : ∀ a, a ∈ G.P → G.H a = none ∧ S a = none ∧ H a ≠ none
  slot : ∀ (i : Nat) (x : SV), ρ[i]? = some (some x) → ∃ v, σ[i]? = some (some v) ∧ Sl K G S H v (φ i) x
  fr : ∀ i a, a ∈ φ i → S a = none ∧ G.H a = none ∧ H a ≠ none
  dj : ∀ i j a, i ≠ j → a ∈ φ i → a ∉ φ j
  pp : ∀ i a, a ∈ φ i → a ∈ G.P → ∃ c fs, ρ[i]? = some (some (.me c fs))
def Rel (K : PySem.W.Frag) (G : F) (S : Hp) (σ : St) (ρ : En) (H : Hp) : Prop := ∃ φ, RelF K G φ S σ ρ H

section
variable {K : PySem.W.Frag} {G : F} {S S' H H' : Hp} {σ : St} {ρ : En} {φ : Nat → List Addr}
theorem Rel.len (r : Rel K G S σ ρ H) : σ.length = ρ.length := let ⟨_, r⟩ := r; r.len
theorem Rel.inn (r : Rel K G S σ ρ H) : Same S H := let ⟨_, r⟩ := r; r.inn
theorem Rel.ent (r : Rel K G S σ ρ H) : Same G.H H := let ⟨_, r⟩ := r; r.ent
theorem Rel.entS (r : Rel K G S σ ρ H) : Same G.S S := let ⟨_, r⟩ := r; r.entS
theorem Rel.new (r : Rel K G S σ ρ H) : ∀ a o, S a = some o → G.S a = some o ∨ (G.H a = none ∧ a ∉ G.P) := let ⟨_, r⟩ := r; r.new
theorem Rel.slot (r : Rel K G S σ ρ H) (i : Nat) (x : SV) (h : ρ[i]? = some (some x)) : ∃ v fp, σ[i]? = some (some v) ∧ Sl K G S H v fp x := by
  obtain ⟨φ, r⟩ := r
  obtain ⟨v, h1, h2⟩ := r.slot i x h
  exact ⟨v, φ i, h1, h2⟩
theorem Rel.slotD (r : Rel K G S σ ρ H) (i : Nat) (x : PD) (h : ρ[i]? = some (some (.d x))) : ∃ v, σ[i]? = some (some v) ∧ Rp K S v x := by
  obtain ⟨φ, r⟩ := r
  exact r.slot i _ h
/-! what is kept where the addresses of a footprint keep their things -/
theorem LLs.keep (e : Same S S') : ∀ {bs : List Addr} {xss : List (List PD)}, (∀ a ∈ bs, ∀ o, H a = some o → H' a = some o) → LLs K S H bs xss → LLs K S' H' bs xss
  | [], [], _, _ => trivial
  | b :: bs, xs :: xss, k, ⟨⟨vs, h1, h2⟩, h⟩ => ⟨⟨vs, k b (.head _) _ h1, RpA.mono e _ _ h2⟩, LLs.keep e (fun a ha => k a (.tail _ ha)) h⟩
  | [], _ :: _, _, h => h.elim
  | _ :: _, [], _, h => h.elim
theorem FldV.keep (e : Same S S') {v : V} {bs : List Addr} (k : ∀ a ∈ bs, ∀ o, H a = some o → H' a = some o) : ∀ {x : FV}, FldV K S H v bs x → FldV K S' H' v bs x
  | .d _, ⟨h1, h2⟩ => ⟨h1, Rp.mono e _ _ h2⟩
  | .l _, ⟨b, vs, h1, h2, h3, h4⟩ => ⟨b, vs, h1, h2, k b (by rw [h2]; exact .head _) _ h3, RpA.mono e _ _ h4⟩
  | .k _, ⟨b, vs, h1, h2, h3, h4⟩ => ⟨b, vs, h1, h2, k b (by rw [h2]; exact .head _) _ h3, kvRel.mono e h4⟩
theorem FldR.keep (e : Same S S') : ∀ {vs : List (Str × V)} {fs : Fs} {bs : List Addr}, (∀ a ∈ bs, ∀ o, H a = some o → H' a = some o) → FldR K S H vs fs bs → FldR K S' H' vs fs bs
  | [], [], _, _, h => h
  | (n, v) :: vs, (m, x) :: fs, bs, k, ⟨h1, b1, b2, h2, h3, h4⟩ => ⟨h1, b1, b2, h2, FldV.keep e (fun a ha => k a (by rw [h2]; exact List.mem_append_left _ ha)) h3, FldR.keep e (fun a ha => k a (by rw [h2]; exact List.mem_append_right _ ha)) h4⟩
  | [], _ :: _, _, _, h => h.elim
  | _ :: _, [], _, _, h => h.elim
theorem OwnI.keep (e : Same S S') {a : Addr} {fp : List Addr} {c : Str} {fs : Fs} (k : ∀ a ∈ fp, ∀ o, H a = some o → H' a = some o) (h : OwnI K S H a fp c fs) : OwnI K S' H' a fp c fs := by
  obtain ⟨dx, vs, bs, h1, h2, h3, h4, h5⟩ := h
  exact ⟨dx, vs, bs, h1, h2, k a (by rw [h1]; exact .head _) _ h3, k dx (by rw [h1]; exact .tail _ (.head _)) _ h4, FldR.keep e (fun a ha => k a (by rw [h1]; exact .tail _ (.tail _ ha))) h5⟩
theorem Own.keep (e : Same S S') {a : Addr} {fp : List Addr} {x : SV} (k : ∀ a ∈ fp, ∀ o, H a = some o → H' a = some o) (h : Own K S H a fp x) : Own K S' H' a fp x := by
  cases x with
  | d x => exact h
  | l ds => obtain ⟨h0, vs, h1, h2⟩ := h; exact ⟨h0, vs, k a (by rw [h0]; exact .head _) _ h1, RpA.mono e _ _ h2⟩
  | k kvs => obtain ⟨h0, vs, h1, h2⟩ := h; exact ⟨h0, vs, k a (by rw [h0]; exact .head _) _ h1, kvRel.mono e h2⟩
  | ll xss =>
    obtain ⟨bs, h1, h2, h3, h4⟩ := h
    exact ⟨bs, h1, h2, k a (by rw [h1]; exact .head _) _ h3, LLs.keep e (fun a ha => k a (by rw [h1]; exact .tail _ ha)) h4⟩
  | o c fs => exact OwnI.keep e k h
  | me c fs => exact OwnI.keep e k h
theorem Sl.keep (e : Same S S') {v : V} {fp : List Addr} {x : SV} (k : ∀ a ∈ fp, ∀ o, H a = some o → H' a = some o) (h : Sl K G S H v fp x) : Sl K G S' H' v fp x := by
  cases x with
  | d x => exact Rp.mono e _ _ h
  | me c fs => exact ⟨h.1, h.2.1, Own.keep e k h.2.2⟩
  | l ds => obtain ⟨a, h1, h2⟩ := h; exact ⟨a, h1, h2.keep e k⟩
  | k ds => obtain ⟨a, h1, h2⟩ := h; exact ⟨a, h1, h2.keep e k⟩
  | ll ds => obtain ⟨a, h1, h2⟩ := h; exact ⟨a, h1, h2.keep e k⟩
  | o c ds => obtain ⟨a, h1, h2⟩ := h; exact ⟨a, h1, h2.keep e k⟩
theorem Ext.none (e : Ext S H S' H') {a : Addr} (hs : S a = none) (hh : H a ≠ .none) : S' a = .none := by
  cases q : S' a with
  | none => rfl
  | some o =>
    rcases e.new a o q with z | z
    · rw [hs] at z; cases z
    · exact absurd z hh
theorem same_ne (e : Same H H') {a : Addr} (h : H a ≠ none) : H' a ≠ none := by
  cases q : H a with
  | none => exact absurd q h
  | some o => rw [e a o q]; intro z; cases z
theorem RelF.ext (r : RelF K G φ S σ ρ H) (e : Ext S H S' H') : RelF K G φ S' σ ρ H' where
  len := r.len
  inn := e.inn
  ent := r.ent.trans e.all
  entS := r.entS.trans e.sub
  new := fun a o h => by
    rcases e.new a o h with z | z
    · exact r.new a o z
    · exact .inr ⟨r.ent.free z, fun hp => (r.gp a hp).2.2 z⟩
  gp := fun a ha => ⟨(r.gp a ha).1, e.none (r.gp a ha).2.1 (r.gp a ha).2.2, same_ne e.all (r.gp a ha).2.2⟩
  slot := fun i x h => by
    obtain ⟨v, h1, h2⟩ := r.slot i x h
    exact ⟨v, h1, h2.keep e.sub fun a _ o q => e.all a o q⟩
  fr := fun i a ha => ⟨e.none (r.fr i a ha).1 (r.fr i a ha).2.2, (r.fr i a ha).2.1, same_ne e.all (r.fr i a ha).2.2⟩
  dj := r.dj
  pp := r.pp
theorem Rel.ext (r : Rel K G S σ ρ H) (e : Ext S H S' H') : Rel K G S' σ ρ H' := let ⟨φ, r⟩ := r; ⟨φ, r.ext e⟩
def φset (φ : Nat → List Addr) (i : Nat) (fp : List Addr) : Nat → List Addr := fun j => if j = i then fp else φ j
theorem φset_same {i : Nat} {fp : List Addr} : φset φ i fp i = fp := if_pos rfl
theorem φset_ne {i j : Nat} {fp : List Addr} (h : i ≠ j) : φset φ i fp j = φ j := if_neg fun e => h e.symm
/-- a slot gets another value; what it owns from then on was its own before, or is new -/
theorem RelF.set (r : RelF K G φ S σ ρ H) {i : Nat} {x : SV} {v : V} {fp : List Addr} (k : ∀ a o, a ∉ φ i → H a = some o → H' a = some o) (sub : Same S S') (inn : Same S' H')
    (new : ∀ a o, S' a = some o → S a = some o ∨ (H a = none ∧ a ∉ φ i) ∨ (a ∈ φ i ∧ a ∉ G.P)) (there : ∀ a ∈ φ i, H' a ≠ none) (hfp : ∀ a ∈ fp, S' a = none ∧ H' a ≠ none ∧ (a ∈ φ i ∨ H a = none))
    (hq : ∀ a ∈ fp, a ∈ G.P → i < ρ.length ∧ ∃ c fs, x = .me c fs)
    (hs : Sl K G S' H' v fp x) : RelF K G (φset φ i fp) S' (σ.set i (some v)) (ρ.set i (some x)) H' where
  len := by simp only [List.length_set]; exact r.len
  inn := inn
  ent := fun a o q => k a o (fun ha => by rw [(r.fr i a ha).2.1] at q; cases q) (r.ent a o q)
  entS := r.entS.trans sub
  new := fun a o h => by
    rcases new a o h with z | ⟨z, _⟩ | ⟨z, z'⟩
    · exact r.new a o z
    · exact .inr ⟨r.ent.free z, fun hp => (r.gp a hp).2.2 z⟩
    · exact .inr ⟨(r.fr i a z).2.1, z'⟩
  gp := fun a ha => by
    obtain ⟨g1, g2, g3⟩ := r.gp a ha
    refine ⟨g1, ?_, ?_⟩
    · cases q : S' a with
      | none => rfl
      | some o =>
        rcases new a o q with z | ⟨z, _⟩ | ⟨z, z'⟩
        · rw [g2] at z; cases z
        · exact absurd z g3
        · exact absurd ha z'
    · by_cases hm : a ∈ φ i
      · exact there a hm
      · cases q : H a with
        | none => exact absurd q g3
        | some o => rw [k a o hm q]; intro z; cases z
  slot := fun j y hj => by
    by_cases e : i = j
    · subst e
      by_cases hl : i < ρ.length
      · rw [List.getElem?_set_self hl] at hj
        cases hj
        exact ⟨v, List.getElem?_set_self (by rw [r.len]; exact hl), by rw [φset_same]; exact hs⟩
      · rw [List.getElem?_eq_none (by simpa using hl)] at hj; cases hj
    · rw [List.getElem?_set_ne e] at hj ⊢
      rw [φset_ne e]
      obtain ⟨u, h1, h2⟩ := r.slot j y hj
      exact ⟨u, h1, h2.keep sub fun a ha o q => k a o (r.dj j i a (fun z => e z.symm) ha) q⟩
  fr := fun j a ha => by
    by_cases e : i = j
    · subst e
      rw [φset_same] at ha
      obtain ⟨h1, h2, h3⟩ := hfp a ha
      refine ⟨h1, ?_, h2⟩
      rcases h3 with z | z
      · exact (r.fr i a z).2.1
      · exact r.ent.free z
    · rw [φset_ne e] at ha
      obtain ⟨h1, h2, h3⟩ := r.fr j a ha
      have hn : a ∉ φ i := r.dj j i a (fun z => e z.symm) ha
      refine ⟨?_, h2, ?_⟩
      · cases q : S' a with
        | none => rfl
        | some o =>
          rcases new a o q with z | ⟨z, _⟩ | ⟨z, _⟩
          · rw [h1] at z; cases z
          · exact absurd z h3
          · exact absurd z hn
      · cases q : H a with
        | none => exact absurd q h3
        | some o => rw [k a o hn q]; intro z; cases z
  dj := fun j l a hjl hj hl => by
    by_cases e1 : i = j
    · subst e1
      rw [φset_same] at hj
      rw [φset_ne hjl] at hl
      rcases (hfp a hj).2.2 with z | z
      · exact r.dj i l a hjl z hl
      · exact (r.fr l a hl).2.2 z
    · by_cases e2 : i = l
      · subst e2
        rw [φset_same] at hl
        rw [φset_ne e1] at hj
        rcases (hfp a hl).2.2 with z | z
        · exact r.dj j i a hjl hj z
        · exact (r.fr j a hj).2.2 z
      · rw [φset_ne e1] at hj
        rw [φset_ne e2] at hl
        exact r.dj j l a hjl hj hl
  pp := fun j a hj hp => by
    by_cases e1 : i = j
    · subst e1
      rw [φset_same] at hj
      obtain ⟨hl, c, fs, rfl⟩ := hq a hj hp
      exact ⟨c, fs, List.getElem?_set_self hl⟩
    · rw [φset_ne e1] at hj
      rw [List.getElem?_set_ne e1]
      exact r.pp j a hj hp
/-- data is put at a slot -/
theorem Rel.setD (r : Rel K G S σ ρ H) {v : V} {x : PD} (h : Rp K S v x) (i : Nat) : Rel K G S (σ.set i (some v)) (ρ.set i (some (.d x))) H := by
  obtain ⟨φ, r⟩ := r
  exact ⟨_, r.set (fp := []) (fun _ _ _ q => q) (Same.refl _) r.inn (fun _ _ q => .inl q) (fun a ha => (r.fr i a ha).2.2) (fun a ha => nomatch ha) (fun a ha => nomatch ha) h⟩
/-- a slot is forgotten -/
theorem Rel.forget (r : Rel K G S σ ρ H) (i : Nat) (w : Option V) : Rel K G S (σ.set i w) (ρ.set i none) H := by
  obtain ⟨φ, r⟩ := r
  have hm : ∀ j a, a ∈ φset φ i [] j → j ≠ i ∧ a ∈ φ j := fun j a ha => by
    by_cases e : i = j
    · subst e; rw [φset_same] at ha; cases ha
    · rw [φset_ne e] at ha; exact ⟨fun z => e z.symm, ha⟩
  refine ⟨φset φ i [], ?_, r.inn, r.ent, r.entS, r.new, r.gp, fun j y hj => ?_, fun j a ha => r.fr j a (hm j a ha).2, fun j l a e h1 h2 => r.dj j l a e (hm j a h1).2 (hm l a h2).2, fun j a ha hp => ?_⟩
  · simp only [List.length_set]; exact r.len
  · by_cases e : i = j
    · subst e
      by_cases hl : i < ρ.length
      · rw [List.getElem?_set_self hl] at hj; cases hj
      · rw [List.getElem?_eq_none (by simpa using hl)] at hj; cases hj
    · rw [List.getElem?_set_ne e] at hj ⊢
      rw [φset_ne e]
      exact r.slot j y hj
  · obtain ⟨h1, h2⟩ := hm j a ha
    rw [List.getElem?_set_ne (fun z => h1 z.symm)]
    exact r.pp j a h2 hp
/-- a new thing of one's own is put at a slot -/
theorem Rel.newP (r : Rel K G S σ ρ H) (e : Ext S H S' H') {v : V} {x : SV} {fp : List Addr} (hfp : ∀ a ∈ fp, H a = none ∧ S' a = none ∧ H' a ≠ none) (hs : Sl K G S' H' v fp x) (i : Nat) : Rel K G S' (σ.set i (some v)) (ρ.set i (some x)) H' := by
  obtain ⟨φ, r⟩ := r
  exact ⟨_, r.set (fun a o _ q => e.all a o q) e.sub e.inn (fun a o q => by
    rcases e.new a o q with z | z
    · exact .inl z
    · exact .inr (.inl ⟨z, fun hm => (r.fr i a hm).2.2 z⟩)) (fun a ha => same_ne e.all (r.fr i a ha).2.2) (fun a ha => ⟨(hfp a ha).2.1, (hfp a ha).2.2, .inr (hfp a ha).1⟩)
    (fun a ha hp => absurd (hfp a ha).1 (r.gp a hp).2.2) hs⟩
theorem ne_some {o : HO} {x : Option HO} (h : x = some o) : x ≠ none := by rw [h]; intro z; cases z
theorem Rel.newO (r : Rel K G S σ ρ H) {D : Addr} {x : SV} (e : Ext S H S' H') (hD : H D = none) (hS : S' D = none) (hH : H' D ≠ none) (ho : Sl K G S' H' (.ref D) [D] x) (i : Nat) : Rel K G S' (σ.set i (some (.ref D))) (ρ.set i (some x)) H' :=
  r.newP e (fun a ha => by rw [List.mem_singleton] at ha; subst ha; exact ⟨hD, hS, hH⟩) ho i
theorem set_self {α : Type} {l : List α} {i : Nat} {x : α} (h : l[i]? = some x) : l.set i x = l := by
  apply List.ext_getElem?
  intro j
  by_cases e : i = j
  · subst e
    rw [List.getElem?_set_self (List.getElem?_eq_some_iff.mp h).1, h]
  · rw [List.getElem?_set_ne e]
/-- what a slot owns that is not the running method's own -/
theorem RelF.nop (r : RelF K G φ S σ ρ H) {i : Nat} {x : SV} (hi : ρ[i]? = some (some x)) (hx : ∀ c fs, x ≠ .me c fs) : ∀ a ∈ φ i, a ∉ G.P := fun a ha hp => by
  obtain ⟨c, fs, e⟩ := r.pp i a ha hp
  rw [hi] at e
  cases e
  exact hx c fs rfl
/-- a list of one's own changes -/
theorem Rel.changeL (r : Rel K G S σ ρ H) {i : Nat} {ds es : List PD} {vs : List V} (hi : ρ[i]? = some (some (.l ds))) {p : Addr} (hp : σ[i]? = some (some (.ref p))) (ho : RpA K S vs es) : Rel K G S σ (ρ.set i (some (.l es))) (upd H p (.lst vs)) := by
  obtain ⟨φ, r⟩ := r
  obtain ⟨v, h1, a, rfl, hf, us, ha, hr⟩ := r.slot i _ hi
  rw [hp] at h1
  cases h1
  have hm : p ∈ φ i := by rw [hf]; exact .head _
  have z := r.set (i := i) (x := .l es) (v := .ref p) (fp := [p]) (S' := S) (H' := upd H p (.lst vs)) (fun a o hn q => by rw [upd_ne (fun e => hn (by rw [e]; exact hm))]; exact q) (Same.refl _)
    (fun a o q => by rw [upd_ne (ne_of_none q (r.fr i p hm).1)]; exact r.inn a o q) (fun _ _ q => .inl q) (fun a ha => by
      rw [hf, List.mem_singleton] at ha; subst ha; rw [upd_same]; intro z; cases z) (fun a ha => by
      rw [List.mem_singleton] at ha; subst ha; exact ⟨(r.fr i a hm).1, ne_some upd_same, .inl hm⟩) (fun a ha hP => by
      rw [List.mem_singleton] at ha; subst ha; exact absurd hP (r.nop hi (fun _ _ z => by cases z) a hm)) ⟨p, rfl, rfl, vs, upd_same, ho⟩
  rw [set_self hp] at z
  exact ⟨_, z⟩
/-- a list of one's own is known from here on -/
theorem Rel.known {ds : List PD} {i : Nat} (r : Rel K G S σ ρ H) (hi : ρ[i]? = some (some (.l ds))) : ∃ a vs, σ[i]? = some (some (.ref a)) ∧ S a = none ∧ H a = some (.lst vs) ∧ RpA K S vs ds ∧ Rel K G (upd S a (.lst vs)) σ (ρ.set i (some (.d (.list ds)))) H := by
  obtain ⟨φ, r⟩ := r
  obtain ⟨v, h1, a, rfl, hf, vs, ha, hr⟩ := r.slot i _ hi
  have hm : a ∈ φ i := by rw [hf]; exact .head _
  obtain ⟨f1, f2, f3⟩ := r.fr i a hm
  have hP := r.nop hi (fun _ _ z => by cases z) a hm
  have sub : Same S (upd S a (.lst vs)) := fun b o e => by rw [upd_ne (ne_of_none e f1)]; exact e
  refine ⟨a, vs, h1, f1, ha, hr, φset φ i [], ?_⟩
  have z := r.set (i := i) (x := .d (.list ds)) (v := .ref a) (fp := []) (S' := upd S a (.lst vs)) (H' := H) (fun _ _ _ q => q) sub (fun b o e => by
      by_cases hb : b = a
      · subst hb; rw [upd_same] at e; cases e; exact ha
      · rw [upd_ne hb] at e; exact r.inn b o e) (fun b o e => by
      by_cases hb : b = a
      · subst hb; exact .inr (.inr ⟨hm, hP⟩)
      · rw [upd_ne hb] at e; exact .inl e) (fun b hb => (r.fr i b hb).2.2) (fun b hb => nomatch hb) (fun b hb => nomatch hb) (.lst (SqL.of upd_same) (RpA.mono sub _ _ hr))
  rw [set_self h1] at z
  exact z
end
end DL

set_option Elab.async false
set_option linter.all false
set_option maxRecDepth 100000
set_option maxHeartbeats 4000000
set_option autoImplicit false
/-! the data layer 2: readings that compute -/
namespace DL
open PySem L2

/-! ### weaker readings -/
section
variable {X : Cx}
theorem PEimp {e : Expr} {t t' : TE} (h : PE X e t) (i : ∀ σ H Q, t' σ H Q → t σ H Q) : PE X e t' := ⟨fun pins s σ H Q I q => h.run pins s σ H Q I (i σ H Q q)⟩
theorem PTimp {e : Expr} {t t' : TT} (h : PT X e t) (i : ∀ σ H Q, t' σ H Q → t σ H Q) : PT X e t' := ⟨fun pins s σ H Q I q => h.run pins s σ H Q I (i σ H Q q)⟩
theorem PWimp {e : Expr} {t t' : TT} (h : PW X e t) (i : ∀ σ H Q, t' σ H Q → t σ H Q) : PW X e t' := ⟨fun w pins s σ H Q I q => h.run w pins s σ H Q I (i σ H Q q)⟩
theorem PAimp {e : List Expr} {t t' : TA} (h : PA X e t) (i : ∀ σ H Q, t' σ H Q → t σ H Q) : PA X e t' := ⟨fun pos pins s σ H Q I q => h.run pos pins s σ H Q I (i σ H Q q)⟩
theorem PSimp {e : Stmt} {t t' : TS} (h : PS X e t) (i : ∀ D σ H, t' D σ H → t D σ H) : PS X e t' := ⟨fun pins s σ H D I q => h.run pins s σ H D I (i D σ H q)⟩
theorem PSsimp {e : List Stmt} {t t' : TS} (h : PSs X e t) (i : ∀ D σ H, t' D σ H → t D σ H) : PSs X e t' := ⟨fun pins s σ H D I q => h.run pins s σ H D I (i D σ H q)⟩
theorem PIimp {tg e : Expr} {t t' : TI} (h : PI X tg e t) (i : ∀ σ H Q, t' σ H Q → t σ H Q) : PI X tg e t' := ⟨fun pins s σ H Q I q => h.run pins s σ H Q I (i σ H Q q)⟩
end

/-! ### what is wanted of an outcome -/
abbrev MG := Str → Option Value
def wG {A B : Type} (rp : Hp → B → A → Prop) (mg : MG) (W : WX) (σ : St) (S H : Hp) (Q : B → Hp → Prop) : R A → Prop
  | .ok a => ∀ b S' H', Ext S H S' H' → rp S' b a → Q b H'
  | .ex c => ∀ cls S' H', mg c = some cls → Ext S H S' H' → W cls none σ H'
  | .no => False
theorem wG.mono {A B : Type} {rp : Hp → B → A → Prop} {mg : MG} {W : WX} {σ : St} {S H S1 H1 : Hp} {Q : B → Hp → Prop} {r : R A} (e : Ext S H S1 H1) (h : wG rp mg W σ S H Q r) : wG rp mg W σ S1 H1 Q r := by
  cases r with
  | ok a => exact fun b S' H' e' x => h b S' H' (e.trans e') x
  | ex c => exact fun cls S' H' m e' => h cls S' H' m (e.trans e')
  | no => exact h
theorem wG.imp {A B : Type} {rp : Hp → B → A → Prop} {mg : MG} {W : WX} {σ : St} {S H : Hp} {Q Q' : B → Hp → Prop} {r : R A} (i : ∀ b H, Q b H → Q' b H) (h : wG rp mg W σ S H Q r) : wG rp mg W σ S H Q' r := by
  cases r with
  | ok a => exact fun b S' H' e' x => i b H' (h b S' H' e' x)
  | ex c => exact h
  | no => exact h
theorem wG.bind {A B A' B' : Type} {rp : Hp → B → A → Prop} {rp' : Hp → B' → A' → Prop} {mg : MG} {W : WX} {σ : St} {S H : Hp} {Q : B' → Hp → Prop} {r : R A} {k : A → R A'} (h : wG rp' mg W σ S H Q (r.bind k)) :
    wG rp mg W σ S H (fun b H1 => ∃ S1 a, Ext S H S1 H1 ∧ rp S1 b a ∧ wG rp' mg W σ S1 H1 Q (k a)) r := by
  cases r with
  | ok a => exact fun b S' H' e x => ⟨S', a, e, x, h.mono e⟩
  | ex c => exact h
  | no => exact h
def tG {A B : Type} (rp : Hp → B → A → Prop) (K : PySem.W.Frag) (mg : MG) (W : WX) (f : En → R A) : St → Hp → (B → Hp → Prop) → Prop := fun σ H Q => ∃ G ρ S, Rel K G S σ ρ H ∧ wG rp mg W σ S H Q (f ρ)
abbrev tD (K : PySem.W.Frag) (mg : MG) (W : WX) (f : En → R PD) : TE := tG (Rp K) K mg W f
def rpB : Hp → Bool → Bool → Prop := fun _ b a => b = a
abbrev tDT (K : PySem.W.Frag) (mg : MG) (W : WX) (f : En → R Bool) : TT := tG rpB K mg W f
abbrev tDA (K : PySem.W.Frag) (mg : MG) (W : WX) (f : En → R (List PD)) : TA := tG (RpA K) K mg W f
theorem tG.mk {A B : Type} {rp : Hp → B → A → Prop} {K : PySem.W.Frag} {mg : MG} {W : WX} {f : En → R A} {G : F} {ρ : En} {S H : Hp} {σ : St} {Q : B → Hp → Prop} (r : Rel K G S σ ρ H) (h : wG rp mg W σ S H Q (f ρ)) : tG rp K mg W f σ H Q := ⟨G, ρ, S, r, h⟩

/-! ### combinators of computations -/
def dC (d : PD) : En → R PD := fun _ => .ok d
def dV (i : Nat) : En → R PD := fun ρ => match ρ[i]? with
  | some (some (.d d)) => .ok d
  | _ => .no
def d1 (g : PD → R PD) (f : En → R PD) : En → R PD := fun ρ => (f ρ).bind g
def d2 (g : PD → PD → R PD) (f1 f2 : En → R PD) : En → R PD := fun ρ => (f1 ρ).bind fun a => (f2 ρ).bind fun b => g a b
def dNil : En → R (List PD) := fun _ => .ok []
def dCons (f : En → R PD) (g : En → R (List PD)) : En → R (List PD) := fun ρ => (f ρ).bind fun a => (g ρ).bind fun as => .ok (a :: as)
def dA (g : List PD → R PD) (f : En → R (List PD)) : En → R PD := fun ρ => (f ρ).bind g
def toB : PD → R Bool
  | .bool b => .ok b
  | _ => .no
def dT (f : En → R PD) : En → R Bool := fun ρ => (f ρ).bind toB
def dAnd (f g : En → R Bool) : En → R Bool := fun ρ => (f ρ).bind fun a => if a = true then g ρ else .ok false
def dOr (f g : En → R Bool) : En → R Bool := fun ρ => (f ρ).bind fun a => if a = true then .ok true else g ρ
def dNot (f : En → R Bool) : En → R Bool := fun ρ => (f ρ).bind fun a => .ok (!a)
def dOfB (f : En → R Bool) : En → R PD := fun ρ => (f ρ).bind fun a => .ok (.bool a)
def dIf (c : En → R Bool) (f g : En → R PD) : En → R PD := fun ρ => (c ρ).bind fun a => if a = true then f ρ else g ρ

section
variable {X : Cx} {W : WX} {f f1 f2 : En → R PD} {a b e : Expr} {pos : Pos}
theorem pd_int {i : Int} {j} : PE X (.Constant (.int i) j pos) (tD X.K X.mg W (dC (.int i))) := PEimp pe_int fun σ H Q ⟨G, ρ, S, r, h⟩ => h (.int i) S H (Ext.refl r.inn) (.int i)
theorem pd_bl {i : Bool} {j} : PE X (.Constant (.bool i) j pos) (tD X.K X.mg W (dC (.bool i))) := PEimp pe_bl fun σ H Q ⟨G, ρ, S, r, h⟩ => h (.bl i) S H (Ext.refl r.inn) (.bl i)
theorem pd_non {j} : PE X (.Constant .none j pos) (tD X.K X.mg W (dC .none)) := PEimp pe_non fun σ H Q ⟨G, ρ, S, r, h⟩ => h .non S H (Ext.refl r.inn) .non
theorem pd_str {x : Str} {j} : PE X (.Constant (.str x) j pos) (tD X.K X.mg W (dC (.str x))) := PEimp pe_str fun σ H Q ⟨G, ρ, S, r, h⟩ => h (.str x) S H (Ext.refl r.inn) (.str x)
theorem tVar_of {i : Nat} {σ : St} {H : Hp} {Q : VK} (h : tD X.K X.mg W (dV i) σ H Q) : tVar i σ H Q := by
  obtain ⟨G, ρ, S, r, h⟩ := h
  unfold dV at h
  split at h
  · rename_i d e
    obtain ⟨v, h1, h2⟩ := r.slotD i _ e
    exact ⟨v, h1, h v S H (Ext.refl r.inn) h2⟩
  · exact h.elim
theorem pd_v (i : Nat) {x : Str} (hN : X.N[i]? = some x := by rfl) (hv : Vis X.env.scope x := by first | exact Or.inl rfl | exact Or.inr (Or.inl rfl) | exact Or.inr (Or.inr rfl)) (hd : (x == ("__debug__" : Str)) = false := by decide)
    (hcd : (x == ("__classdict__" : Str)) = false := by decide) : PE X (.Name x pos) (tD X.K X.mg W (dV i)) := PEimp (pe_var hN hv hd hcd) fun _ _ _ h => tVar_of h
/-- a module's constant -/
theorem pd_g {x : Str} {v : V} {u : Value} {d : PD} (hg : Gl X x) (hm : X.mg x = some u) (r : RelV v u) (hr : ∀ S, Rp X.K S v d) (hd : (x == ("__debug__" : Str)) = false := by decide) : PE X (.Name x pos) (tD X.K X.mg W (dC d)) :=
  PEimp (pe_glob hg hm r hd) fun σ H Q ⟨G, ρ, S, rl, h⟩ => h v S H (Ext.refl rl.inn) (hr S)

/-- a two-place operator, by its work on data -/
def OpD (X : Cx) (fn : Value → Value → Sem Value) (g : PD → PD → R PD) : Prop :=
  OpR X fn fun x y H Q => ∃ S a b, Same S H ∧ Rp X.K S x a ∧ Rp X.K S y b ∧ match g a b with
    | .ok d => ∀ v S' H', Ext S H S' H' → Rp X.K S' v d → Q v H'
    | _ => False
theorem d2_of {r : R2} {g : PD → PD → R PD} (hr : ∀ x y H Q, (∃ S a b, Same S H ∧ Rp X.K S x a ∧ Rp X.K S y b ∧ match g a b with
    | .ok d => ∀ v S' H', Ext S H S' H' → Rp X.K S' v d → Q v H'
    | _ => False) → r x y H Q) (hn : ∀ a b c, g a b ≠ .ex c) : ∀ σ H Q, tD X.K X.mg W (d2 g f1 f2) σ H Q → tOp r (tD X.K X.mg W f1) (tD X.K X.mg W f2) σ H Q := by
  rintro σ H Q ⟨G, ρ, S, rel, h⟩
  refine tG.mk rel (wG.imp ?_ (wG.bind (rp := Rp X.K) h))
  rintro x H1 ⟨S1, a, e1, ra, h1⟩
  refine tG.mk (rel.ext e1) (wG.imp ?_ (wG.bind (rp := Rp X.K) h1))
  rintro y H2 ⟨S2, b, e2, rb, h2⟩
  refine hr x y H2 Q ⟨S2, a, b, e2.inn, Rp.mono e2.sub _ _ ra, rb, ?_⟩
  cases q : g a b with
  | ok d => rw [q] at h2; exact h2
  | ex c => exact absurd q (hn a b c)
  | no => rw [q] at h2; exact h2
/-- g never raises -/
def NoEx (g : PD → PD → R PD) : Prop := ∀ a b c, g a b ≠ .ex c
theorem pd_bin {op : Operator} {g : PD → PD → R PD} (ho : OpD X (binaryOp op) g) (hn : NoEx g) (ha : PE X a (tD X.K X.mg W f1)) (hb : PE X b (tD X.K X.mg W f2)) : PE X (.BinOp a op b pos) (tD X.K X.mg W (d2 g f1 f2)) :=
  PEimp (pe_op ho ha hb) (d2_of (fun _ _ _ _ h => h) hn)
theorem pd_cmp {op : CmpOp} {g : PD → PD → R PD} (ho : OpD X (compareOp op) g) (hn : NoEx g) (ha : PE X a (tD X.K X.mg W f1)) (hb : PE X b (tD X.K X.mg W f2)) (h1 : behindInMarks op b = false := by first | exact nobehind _ (by decide) (by decide) | rfl) :
    PE X (.Compare a [op] [b] pos) (tD X.K X.mg W (d2 g f1 f2)) := PEimp (pe_cmpR ho ha hb h1) (d2_of (fun _ _ _ _ h => h) hn)

/-! tests -/
theorem dT_of {t : TE} (ht : ∀ σ H Q, tD X.K X.mg W f σ H Q → t σ H Q) : ∀ σ H Q, tDT X.K X.mg W (dT f) σ H Q → tB t σ H Q := by
  rintro σ H Q ⟨G, ρ, S, rel, h⟩
  refine ht σ H _ (tG.mk rel (wG.imp ?_ (wG.bind (rp := Rp X.K) h)))
  rintro x H1 ⟨S1, a, e1, ra, h1⟩
  cases a with
  | bool c =>
    cases ra
    exact ⟨c, rfl, h1 c S1 H1 (Ext.refl e1.inn) rfl⟩
  | _ => exact h1.elim
/-- any expression that gives a bool, as a test -/
theorem pt_d (h : PE X e (tD X.K X.mg W f)) (he : ∀ whole, isTrue e X.env whole = (do let v ← whole; standAt e.pos; holding [v] (truthy v)) := by intro _; rfl) : PT X e (tDT X.K X.mg W (dT f)) := PTimp (pt_val h he) (dT_of fun _ _ _ h => h)
theorem pt_cmpd {op : CmpOp} {g : PD → PD → R PD} (ho : OpD X (compareOp op) g) (hn : NoEx g) (ha : PE X a (tD X.K X.mg W f1)) (hb : PE X b (tD X.K X.mg W f2)) (h1 : behindInMarks op b = false := by first | exact nobehind _ (by decide) (by decide) | rfl) :
    PT X (.Compare a [op] [b] pos) (tDT X.K X.mg W (dT (d2 g f1 f2))) := PTimp (pt_cmpR ho ha hb h1) (dT_of (d2_of (fun _ _ _ _ h => h) hn))
variable {t1 t2 : En → R Bool} {rest : List Expr}
theorem tAnd_of : ∀ σ H Q, tDT X.K X.mg W (dAnd t1 t2) σ H Q → tAnd (tDT X.K X.mg W t1) (tDT X.K X.mg W t2) σ H Q := by
  rintro σ H Q ⟨G, ρ, S, rel, h⟩
  refine tG.mk rel (wG.imp ?_ (wG.bind (rp := rpB) h))
  rintro x H1 ⟨S1, a, e1, ra, h1⟩
  cases ra
  cases x with
  | true => exact tG.mk (rel.ext e1) h1
  | false => exact h1 false S1 H1 (Ext.refl e1.inn) rfl
theorem tOr_of : ∀ σ H Q, tDT X.K X.mg W (dOr t1 t2) σ H Q → tOr (tDT X.K X.mg W t1) (tDT X.K X.mg W t2) σ H Q := by
  rintro σ H Q ⟨G, ρ, S, rel, h⟩
  refine tG.mk rel (wG.imp ?_ (wG.bind (rp := rpB) h))
  rintro x H1 ⟨S1, a, e1, ra, h1⟩
  cases ra
  cases x with
  | false => exact tG.mk (rel.ext e1) h1
  | true => exact h1 true S1 H1 (Ext.refl e1.inn) rfl
theorem pw_d1 (ha : PT X a (tDT X.K X.mg W t1)) : PW X (.BoolOp .And [a] pos) (tDT X.K X.mg W t1) := pw_and1 ha
theorem pw_o1 (ha : PT X a (tDT X.K X.mg W t1)) : PW X (.BoolOp .Or [a] pos) (tDT X.K X.mg W t1) := pw_or1 ha
theorem pw_dand (ha : PT X a (tDT X.K X.mg W t1)) (hb : PW X (.BoolOp .And (b :: rest) pos) (tDT X.K X.mg W t2)) : PW X (.BoolOp .And (a :: b :: rest) pos) (tDT X.K X.mg W (dAnd t1 t2)) := PWimp (pw_and ha hb) tAnd_of
theorem pw_dor (ha : PT X a (tDT X.K X.mg W t1)) (hb : PW X (.BoolOp .Or (b :: rest) pos) (tDT X.K X.mg W t2)) : PW X (.BoolOp .Or (a :: b :: rest) pos) (tDT X.K X.mg W (dOr t1 t2)) := PWimp (pw_or ha hb) tOr_of
theorem pt_dnot (ha : PT X a (tDT X.K X.mg W t1)) : PT X (.UnaryOp .Not a pos) (tDT X.K X.mg W (dNot t1)) := PTimp (pt_not ha) fun σ H Q ⟨G, ρ, S, rel, h⟩ =>
  tG.mk rel (wG.imp (fun x H1 ⟨S1, a, e1, ra, h1⟩ => by cases ra; exact h1 (!x) S1 H1 (Ext.refl e1.inn) rfl) (wG.bind (rp := rpB) h))
/-! the same as values: each operand a bool -/
theorem pe_d1 {op} (ha : PE X a (tD X.K X.mg W f)) : PE X (.BoolOp op [a] pos) (tD X.K X.mg W f) := pe_one ha
def dAndV (f g : En → R PD) : En → R PD := fun ρ => (f ρ).bind fun a => (toB a).bind fun c => if c = true then g ρ else .ok (.bool false)
def dOrV (f g : En → R PD) : En → R PD := fun ρ => (f ρ).bind fun a => (toB a).bind fun c => if c = true then .ok (.bool true) else g ρ
def dNotV (f : En → R PD) : En → R PD := fun ρ => (f ρ).bind fun a => (toB a).bind fun c => .ok (.bool (!c))
theorem pe_dand (ha : PE X a (tD X.K X.mg W f1)) (hb : PE X (.BoolOp .And (b :: rest) pos) (tD X.K X.mg W f2)) : PE X (.BoolOp .And (a :: b :: rest) pos) (tD X.K X.mg W (dAndV f1 f2)) := PEimp (pe_and ha hb) fun σ H Q ⟨G, ρ, S, rel, h⟩ =>
  tG.mk rel (wG.imp (fun x H1 ⟨S1, a, e1, ra, h1⟩ => by
    cases a with
    | bool c =>
      cases ra
      refine ⟨c, rfl, ?_⟩
      cases c with
      | true => exact tG.mk (rel.ext e1) h1
      | false => exact h1 (.bl false) S1 H1 (Ext.refl e1.inn) (.bl false)
    | _ => exact h1.elim) (wG.bind (rp := Rp X.K) h))
theorem pe_dor (ha : PE X a (tD X.K X.mg W f1)) (hb : PE X (.BoolOp .Or (b :: rest) pos) (tD X.K X.mg W f2)) : PE X (.BoolOp .Or (a :: b :: rest) pos) (tD X.K X.mg W (dOrV f1 f2)) := PEimp (pe_or ha hb) fun σ H Q ⟨G, ρ, S, rel, h⟩ =>
  tG.mk rel (wG.imp (fun x H1 ⟨S1, a, e1, ra, h1⟩ => by
    cases a with
    | bool c =>
      cases ra
      refine ⟨c, rfl, ?_⟩
      cases c with
      | false => exact tG.mk (rel.ext e1) h1
      | true => exact h1 (.bl true) S1 H1 (Ext.refl e1.inn) (.bl true)
    | _ => exact h1.elim) (wG.bind (rp := Rp X.K) h))
theorem pe_dnot (ha : PE X a (tD X.K X.mg W f)) : PE X (.UnaryOp .Not a pos) (tD X.K X.mg W (dNotV f)) := PEimp (pe_not ha) fun σ H Q ⟨G, ρ, S, rel, h⟩ =>
  tG.mk rel (wG.imp (fun x H1 ⟨S1, a, e1, ra, h1⟩ => by
    cases a with
    | bool c =>
      cases ra
      exact ⟨c, rfl, h1 (.bl (!c)) S1 H1 (Ext.refl e1.inn) (.bl _)⟩
    | _ => exact h1.elim) (wG.bind (rp := Rp X.K) h))
theorem pe_dif {c : Expr} (hc : PT X c (tDT X.K X.mg W t1)) (ha : PE X a (tD X.K X.mg W f1)) (hb : PE X b (tD X.K X.mg W f2)) : PE X (.IfExp c a b pos) (tD X.K X.mg W (dIf t1 f1 f2)) := PEimp (pe_ifExp hc ha hb) fun σ H Q ⟨G, ρ, S, rel, h⟩ =>
  tG.mk rel (wG.imp (fun x H1 ⟨S1, a, e1, ra, h1⟩ => by
    cases ra
    cases x with
    | true => exact tG.mk (rel.ext e1) h1
    | false => exact tG.mk (rel.ext e1) h1) (wG.bind (rp := rpB) h))

/-! argument lists -/
variable {fs : En → R (List PD)} {es : List Expr}
theorem pad_nil : PA X [] (tDA X.K X.mg W dNil) := PAimp pa_nil fun σ H Q ⟨G, ρ, S, r, h⟩ => h [] S H (Ext.refl r.inn) .nil
theorem pad_cons (ha : PE X e (tD X.K X.mg W f)) (hr : PA X es (tDA X.K X.mg W fs)) (hs : starEach (e :: es) X.env = (false, eval e X.env) :: starEach es X.env := by rfl) : PA X (e :: es) (tDA X.K X.mg W (dCons f fs)) :=
  PAimp (pa_cons ha hr hs) fun σ H Q ⟨G, ρ, S, rel, h⟩ => by
    refine tG.mk rel (wG.imp ?_ (wG.bind (rp := Rp X.K) h))
    rintro x H1 ⟨S1, a, e1, ra, h1⟩
    refine tG.mk (rel.ext e1) (wG.imp ?_ (wG.bind (rp := RpA X.K) h1))
    rintro xs H2 ⟨S2, as, e2, ras, h2⟩
    exact h2 (x :: xs) S2 H2 (Ext.refl e2.inn) (.cons (Rp.mono e2.sub _ _ ra) ras)
/-- (a, b, ..) -/
def gTupD (ds : List PD) : R PD := if ds.length ≤ 1000 then .ok (.tuple ds) else .no
def gLstD (ds : List PD) : R PD := if ds.length ≤ 1000 then .ok (.list ds) else .no
theorem le_line {n : Nat} (h : n ≤ 1000) : n ≤ sizeLine := Nat.le_trans h (by decide)
theorem pd_tup {x1} (h : PA X es (tDA X.K X.mg W fs)) : PE X (.Tuple es x1 pos) (tD X.K X.mg W (dA gTupD fs)) := PEimp (pe_tup h) fun σ H Q ⟨G, ρ, S, rel, h⟩ => by
  refine tG.mk rel (wG.imp ?_ (wG.bind (rp := RpA X.K) h))
  rintro xs H1 ⟨S1, as, e1, ra, h1⟩
  unfold gTupD at h1
  by_cases hl : as.length ≤ 1000
  · rw [if_pos hl] at h1
    refine ⟨by rw [ra.length]; exact le_line hl, fun p hp => ?_⟩
    have e2 : Ext S1 H1 (upd S1 p (.tup xs)) (upd H1 p (.tup xs)) := Ext.known e1.inn hp
    exact h1 _ _ _ e2 (.tup (SqT.of upd_same) (RpA.mono e2.sub _ _ ra))
  · rw [if_neg hl] at h1; exact h1.elim
theorem pd_lst (h : PA X es (tDA X.K X.mg W fs)) : PE X (.List es pos) (tD X.K X.mg W (dA gLstD fs)) := PEimp (pe_lst h) fun σ H Q ⟨G, ρ, S, rel, h⟩ => by
  refine tG.mk rel (wG.imp ?_ (wG.bind (rp := RpA X.K) h))
  rintro xs H1 ⟨S1, as, e1, ra, h1⟩
  unfold gLstD at h1
  by_cases hl : as.length ≤ 1000
  · rw [if_pos hl] at h1
    refine ⟨by rw [ra.length]; exact le_line hl, fun p hp => ?_⟩
    have e2 : Ext S1 H1 (upd S1 p (.lst xs)) (upd H1 p (.lst xs)) := Ext.known e1.inn hp
    exact h1 _ _ _ e2 (.lst (SqL.of upd_same) (RpA.mono e2.sub _ _ ra))
  · rw [if_neg hl] at h1; exact h1.elim

/-! calls -/
/-- a def's promise by its work on data: n arguments -/
def spD (K : PySem.W.Frag) (mg : MG) (n : Nat) (g : List PD → R PD) : Sp := fun vs H Q E => ∃ S ds, Same S H ∧ RpA K S vs ds ∧ ds.length = n ∧ match g ds with
  | .ok d => ∀ v S' H', Ext S H S' H' → Rp K S' v d → Q v H'
  | .ex c => ∀ cls S' H', mg c = some cls → Ext S H S' H' → E cls none H'
  | .no => False
def gCall (n : Nat) (ds : List PD) (g : List PD → R PD) (as : List PD) : R PD := if (as ++ ds).length = n then g (as ++ ds) else .no
theorem tCallD_of {n : Nat} {ds : List PD} {dvs : List V} {g : List PD → R PD} (hd : ∀ S, RpA X.K S dvs ds) : ∀ σ H Q, tD X.K X.mg W (dA (gCall n ds g) fs) σ H Q → tCallSD (spD X.K X.mg n g) dvs (fun σ => L2.WE W σ) (tDA X.K X.mg W fs) σ H Q := by
  rintro σ H Q ⟨G, ρ, S, rel, h⟩
  refine tG.mk rel (wG.imp ?_ (wG.bind (rp := RpA X.K) h))
  rintro xs H1 ⟨S1, as, e1, ra, h1⟩
  unfold gCall at h1
  by_cases hl : (as ++ ds).length = n
  · rw [if_pos hl] at h1
    refine ⟨S1, as ++ ds, e1.inn, ra.append (hd S1), hl, ?_⟩
    cases q : g (as ++ ds) with
    | ok d => rw [q] at h1; exact h1
    | ex c => rw [q] at h1; exact h1
    | no => rw [q] at h1; exact h1
  · rw [if_neg hl] at h1; exact h1.elim
end
end DL

set_option Elab.async false
set_option linter.all false
set_option maxRecDepth 100000
set_option maxHeartbeats 4000000
set_option autoImplicit false
/-! the data layer 3: calls, statements, defs -/
namespace DL
open PySem L2

/-- a def that stands by a name of the module, with its promise: k its level, n its parameters, Bs what its defaults may fill up -/
structure FnAt (P : Program) (w : World) (K : PySem.W.Frag) (mg : MG) (base : Heap) (x : Str) (k n : Nat) (Bs : List (List PD)) (g : List PD → R PD) : Prop where
  ex : ∃ (f : Addr) (fd : FuncData) (ps : List Str), FnOk P w K mg base (L2.CX P w) k f fd ps (spD K mg n g) ∧ mg x = some (.ref f) ∧ PySem.W.keepIn K (.ref f) = true ∧
    ∀ ds, ds ∈ Bs → ∃ (us : List Value) (dvs : List V), Binds K fd ps us ∧ Vals dvs us ∧ ∀ S, RpA K S dvs ds
section
variable {X : Cx} {W : WX} {f : En → R PD} {fs : En → R (List PD)} {a b e : Expr} {es : List Expr} {pos p : Pos} {x : Str} {k n : Nat} {Bs : List (List PD)} {ds : List PD} {g : List PD → R PD}
theorem pd_call (Fn : FnAt X.prog X.w X.K X.mg X.base x k n Bs g) (hB : ds ∈ Bs) (hr : Room k X.A) (tk : Takes X W) (hg : Gl X x) (ha : PA X (e :: es) (tDA X.K X.mg W fs))
    (hdb : (x == ("__debug__" : Str)) = false := by decide) (he : starEach (e :: es) X.env = (false, eval e X.env) :: starEach es X.env := by rfl) (hpl : (backTo pos (starEach es X.env)).any (·.1) = false := by rfl) :
    PE X (.Call (.Name x p) (e :: es) [] pos) (tD X.K X.mg W (dA (gCall n ds g) fs)) := by
  obtain ⟨f, fd, ps, hF, hm, hk, hb⟩ := Fn.ex
  obtain ⟨us, dvs, b1, b2, b3⟩ := hb ds hB
  exact PEimp (pe_callSD hF hr hg hm hk b1 b2 (fun σ => passAt tk σ) ha hdb he hpl) (tCallD_of b3)
/-- the same where nothing may be raised out of here -/
theorem takesF {X : Cx} : Takes X (fun _ _ _ _ => False) := takes0
end

/-! ### statements -/
inductive Fl where
  | nx (ρ : En)
  | rt (d : PD)
  | rm (d : PD) (ρ : En)
  | bk (ρ : En)
  | ct (ρ : En)
  | ex (c : Str) (ρ : En)
  | no
def wS (K : PySem.W.Frag) (mg : MG) (W : WX) (G : F) (S : Hp) (D : Ends) : Fl → Prop
  | .nx ρ => ∀ σ S' H, Same S S' → Rel K G S' σ ρ H → D.nx σ H
  | .bk ρ => ∀ σ S' H, Same S S' → Rel K G S' σ ρ H → D.bk σ H
  | .ct ρ => ∀ σ S' H, Same S S' → Rel K G S' σ ρ H → D.ct σ H
  | .rt d => ∀ v S' H, Ext G.S G.H S' H → Rp K S' v d → D.rt v H
  | .rm d ρ => ∀ v σ S' H, Same S S' → Rel K G S' σ ρ H → Rp K S' v d → D.rt v H
  | .ex c ρ => ∀ cls σ S' H, mg c = some cls → Same S S' → Rel K G S' σ ρ H → W cls none σ H
  | .no => False
def tS (K : PySem.W.Frag) (mg : MG) (W : WX) (f : En → Fl) : TS := fun D σ H => ∃ G ρ S, Rel K G S σ ρ H ∧ wS K mg W G S D (f ρ)
theorem Rel.fin {K : PySem.W.Frag} {G : F} {S H : Hp} {σ : St} {ρ : En} (r : Rel K G S σ ρ H) : Ext G.S G.H S H := ⟨r.entS, r.ent, r.inn, fun a o h => (r.new a o h).imp id (·.1)⟩
theorem wS.mono {K : PySem.W.Frag} {mg : MG} {W : WX} {G : F} {S S1 : Hp} {D : Ends} {r : Fl} (e : Same S S1) (h : wS K mg W G S D r) : wS K mg W G S1 D r := by
  cases r with
  | nx ρ => exact fun σ S' H s q => h σ S' H (e.trans s) q
  | bk ρ => exact fun σ S' H s q => h σ S' H (e.trans s) q
  | ct ρ => exact fun σ S' H s q => h σ S' H (e.trans s) q
  | rt d => exact h
  | rm d ρ => exact fun v σ S' H s q => h v σ S' H (e.trans s) q
  | ex c ρ => exact fun cls σ S' H m s q => h cls σ S' H m (e.trans s) q
  | no => exact h
/-- other ends -/
theorem wS.imp {K : PySem.W.Frag} {mg : MG} {W : WX} {G : F} {S : Hp} {D D' : Ends} {r : Fl} (h : wS K mg W G S D r) (i1 : ∀ σ H, D.nx σ H → D'.nx σ H) (i2 : ∀ v H, D.rt v H → D'.rt v H) (i3 : ∀ σ H, D.bk σ H → D'.bk σ H) (i4 : ∀ σ H, D.ct σ H → D'.ct σ H) : wS K mg W G S D' r := by
  cases r with
  | nx ρ => exact fun σ S' H s q => i1 _ _ (h σ S' H s q)
  | bk ρ => exact fun σ S' H s q => i3 _ _ (h σ S' H s q)
  | ct ρ => exact fun σ S' H s q => i4 _ _ (h σ S' H s q)
  | rt d => exact fun v S' H s q => i2 _ _ (h v S' H s q)
  | rm d ρ => exact fun v σ S' H s q z => i2 _ _ (h v σ S' H s q z)
  | ex c ρ => exact h
  | no => exact h
/-- an expression, then what a statement makes of it -/
def sE {A : Type} (f : En → R A) (k : A → En → Fl) : En → Fl := fun ρ => match f ρ with
  | .ok a => k a ρ
  | .ex c => .ex c ρ
  | .no => .no
theorem wS.ofE {A B : Type} {rp : Hp → B → A → Prop} {K : PySem.W.Frag} {mg : MG} {W : WX} {G : F} {S H : Hp} {D : Ends} {σ : St} {ρ : En} {f : En → R A} {k : A → En → Fl} (rel : Rel K G S σ ρ H) (h : wS K mg W G S D (sE f k ρ)) :
    wG rp mg W σ S H (fun b H1 => ∃ S1 a, Ext S H S1 H1 ∧ rp S1 b a ∧ Rel K G S1 σ ρ H1 ∧ wS K mg W G S1 D (k a ρ)) (f ρ) := by
  unfold sE at h
  cases q : f ρ with
  | ok a => rw [q] at h; exact fun b S' H' e x => ⟨S', a, e, x, rel.ext e, h.mono e.sub⟩
  | ex c => rw [q] at h; exact fun cls S' H' m e => h cls σ S' H' m e.sub (rel.ext e)
  | no => rw [q] at h; exact h
def sNx : En → Fl := .nx
def sSeq (f g : En → Fl) : En → Fl := fun ρ => match f ρ with
  | .nx ρ' => g ρ'
  | r => r
def sSet (i : Nat) (f : En → R PD) : En → Fl := sE f fun d ρ => .nx (ρ.set i (some (.d d)))
def sRet (f : En → R PD) : En → Fl := sE f fun d _ => .rt d
def sRetN : En → Fl := fun _ => .rt .none
def sRetM (f : En → R PD) : En → Fl := sE f fun d ρ => .rm d ρ
def sRetMN : En → Fl := fun ρ => .rm .none ρ
def sIf (c : En → R Bool) (f g : En → Fl) : En → Fl := sE c fun b ρ => if b = true then f ρ else g ρ
def sDrop (f : En → R PD) : En → Fl := sE f fun _ ρ => .nx ρ
def sRaise (c : Str) : En → Fl := fun ρ => .ex c ρ
def sPar (i j : Nat) (f g : En → R PD) : En → Fl := sE f fun a => sE g fun b ρ => .nx ((ρ.set i (some (.d a))).set j (some (.d b)))
def sForget (i : Nat) (f : En → Fl) : En → Fl := fun ρ => f (ρ.set i none)
def whileN (c : En → R Bool) (f : En → Fl) : Nat → En → Fl
  | 0, _ => .no
  | n + 1, ρ => sE c (fun b ρ => if b = true then (match f ρ with
    | .nx ρ' => whileN c f n ρ'
    | .ct ρ' => whileN c f n ρ'
    | .bk ρ' => .nx ρ'
    | r => r) else .nx ρ) ρ
open Classical in
noncomputable def sWhile (c : En → R Bool) (f : En → Fl) : En → Fl := fun ρ => if h : ∃ n, whileN c f n ρ ≠ .no then whileN c f (Classical.choose h) ρ else .no
theorem whileN_more {c : En → R Bool} {f : En → Fl} : ∀ {n m : Nat} {ρ : En}, n ≤ m → whileN c f n ρ ≠ .no → whileN c f m ρ = whileN c f n ρ
  | 0, _, _, _, h => absurd rfl h
  | n + 1, 0, _, h, _ => absurd h (by omega)
  | n + 1, m + 1, ρ, hl, h => by
    have ih : ∀ ρ', whileN c f n ρ' ≠ .no → whileN c f m ρ' = whileN c f n ρ' := fun ρ' => whileN_more (by omega)
    unfold whileN sE at h ⊢
    cases q : c ρ with
    | ok b =>
      rw [q] at h
      cases b with
      | true =>
        simp only [if_true] at h ⊢
        cases q2 : f ρ with
        | nx ρ' => rw [q2] at h; exact ih ρ' h
        | ct ρ' => rw [q2] at h; exact ih ρ' h
        | bk ρ' => rfl
        | rt d => rfl
        | rm d ρ' => rfl
        | ex c ρ' => rfl
        | no => rfl
      | false => rfl
    | ex c => rfl
    | no => rfl
theorem sWhile_of {c : En → R Bool} {f : En → Fl} {ρ : En} (n : Nat) {r : Fl} (h : whileN c f n ρ = r) (hr : r ≠ .no) : sWhile c f ρ = r := by
  have hx : ∃ n, whileN c f n ρ ≠ .no := ⟨n, by rw [h]; exact hr⟩
  unfold sWhile
  rw [dif_pos hx]
  have h1 := Classical.choose_spec hx
  have h2 : whileN c f n ρ ≠ .no := by rw [h]; exact hr
  rcases Nat.le_total n (Classical.choose hx) with z | z
  · rw [whileN_more z h2, h]
  · rw [← whileN_more z h1, h]
theorem sWhile_at {c : En → R Bool} {f : En → Fl} {ρ : En} (h : sWhile c f ρ ≠ .no) : ∃ n, whileN c f n ρ = sWhile c f ρ := by
  by_cases hx : ∃ n, whileN c f n ρ ≠ .no
  · exact ⟨Classical.choose hx, by unfold sWhile; rw [dif_pos hx]⟩
  · unfold sWhile at h
    rw [dif_neg hx] at h
    exact absurd rfl h
/-- one turn more -/
theorem sWhile_eq {c : En → R Bool} {f : En → Fl} {ρ : En} : sWhile c f ρ = sE c (fun b ρ => if b = true then (match f ρ with
    | .nx ρ' => sWhile c f ρ'
    | .ct ρ' => sWhile c f ρ'
    | .bk ρ' => .nx ρ'
    | r => r) else .nx ρ) ρ := by
  have key : ∀ n, whileN c f (n + 1) ρ ≠ .no → whileN c f (n + 1) ρ = sE c (fun b ρ => if b = true then (match f ρ with
    | .nx ρ' => sWhile c f ρ'
    | .ct ρ' => sWhile c f ρ'
    | .bk ρ' => .nx ρ'
    | r => r) else .nx ρ) ρ := by
    intro n h
    unfold whileN sE at h ⊢
    cases q : c ρ with
    | ok b =>
      rw [q] at h
      cases b with
      | true =>
        simp only [if_true] at h ⊢
        cases q2 : f ρ with
        | nx ρ' => rw [q2] at h; exact (sWhile_of n rfl h).symm
        | ct ρ' => rw [q2] at h; exact (sWhile_of n rfl h).symm
        | bk ρ' => rfl
        | rt d => rfl
        | rm d ρ' => rfl
        | ex c ρ' => rfl
        | no => rfl
      | false => rfl
    | ex c => rfl
    | no => rfl
  by_cases h : sWhile c f ρ = .no
  · -- neither runs
    rw [h]
    cases q : sE c (fun b ρ => if b = true then (match f ρ with
      | .nx ρ' => sWhile c f ρ'
      | .ct ρ' => sWhile c f ρ'
      | .bk ρ' => .nx ρ'
      | r => r) else .nx ρ) ρ with
    | no => rfl
    | _ =>
      exfalso
      have hx : ∃ n, whileN c f (n + 1) ρ ≠ .no := by
        unfold sE at q
        cases q1 : c ρ with
        | ok b =>
          rw [q1] at q
          cases b with
          | true =>
            simp only [if_true] at q
            cases q2 : f ρ with
            | nx ρ' =>
              rw [q2] at q
              dsimp only at q
              obtain ⟨n, hn⟩ := sWhile_at (c := c) (f := f) (ρ := ρ') (by rw [q]; intro z; cases z)
              refine ⟨n, ?_⟩
              unfold whileN sE
              rw [q1]
              simp only [if_true, q2]
              rw [hn, q]
              intro z; cases z
            | ct ρ' =>
              rw [q2] at q
              dsimp only at q
              obtain ⟨n, hn⟩ := sWhile_at (c := c) (f := f) (ρ := ρ') (by rw [q]; intro z; cases z)
              refine ⟨n, ?_⟩
              unfold whileN sE
              rw [q1]
              simp only [if_true, q2]
              rw [hn, q]
              intro z; cases z
            | bk ρ' => exact ⟨0, by unfold whileN sE; rw [q1]; simp only [if_true, q2]; intro z; cases z⟩
            | rt d => exact ⟨0, by unfold whileN sE; rw [q1]; simp only [if_true, q2]; intro z; cases z⟩
            | rm d ρ' => exact ⟨0, by unfold whileN sE; rw [q1]; simp only [if_true, q2]; intro z; cases z⟩
            | ex c ρ' => exact ⟨0, by unfold whileN sE; rw [q1]; simp only [if_true, q2]; intro z; cases z⟩
            | no => rw [q2] at q; cases q
          | false => exact ⟨0, by unfold whileN sE; rw [q1]; intro z; cases z⟩
        | ex c => exact ⟨0, by unfold whileN sE; rw [q1]; intro z; cases z⟩
        | no => rw [q1] at q; cases q
      obtain ⟨n, hn⟩ := hx
      rw [sWhile_of (n + 1) rfl hn] at h
      exact hn h
  · obtain ⟨n, hn⟩ := sWhile_at h
    cases n with
    | zero => exact absurd hn.symm h
    | succ n => rw [← hn]; exact key n (by rw [hn]; exact h)
section
variable {X : Cx} {W : WX} {f f1 f2 : En → R PD} {c e e2 : Expr} {pos pos' : Pos} {t : En → R Bool} {g h : En → Fl} {st : Stmt} {sts a b : List Stmt} {i j : Nat} {x y : Str}
theorem sd_nil : PSs X [] (tS X.K X.mg W sNx) := PSsimp pss_nil fun D σ H ⟨G, ρ, S, r, q⟩ => q σ S H (Same.refl _) r
theorem tSeq_of {t1 t2 : TS} (i1 : ∀ D σ H, tS X.K X.mg W g D σ H → t1 D σ H) (i2 : ∀ D σ H, tS X.K X.mg W h D σ H → t2 D σ H) : ∀ D σ H, tS X.K X.mg W (sSeq g h) D σ H → tSeq t1 t2 D σ H := by
  rintro D σ H ⟨G, ρ, S, r, q⟩
  refine i1 _ σ H ⟨G, ρ, S, r, ?_⟩
  unfold sSeq at q
  cases z : g ρ with
  | nx ρ' => rw [z] at q; exact fun σ' S' H' s r' => i2 D σ' H' ⟨G, ρ', S', r', q.mono s⟩
  | bk ρ' => rw [z] at q; exact q
  | ct ρ' => rw [z] at q; exact q
  | rt d => rw [z] at q; exact q
  | rm d ρ' => rw [z] at q; exact q
  | ex c ρ' => rw [z] at q; exact q
  | no => rw [z] at q; exact q
theorem sd_cons (h1 : PS X st (tS X.K X.mg W g)) (h2 : PSs X sts (tS X.K X.mg W h)) : PSs X (st :: sts) (tS X.K X.mg W (sSeq g h)) := PSsimp (pss_cons h1 h2) (tSeq_of (fun _ _ _ q => q) fun _ _ _ q => q)
theorem sd_one (h1 : PS X st (tS X.K X.mg W g)) : PSs X [st] (tS X.K X.mg W g) := pss_one h1
theorem sd_set (i : Nat) (hN : X.N.Nodup) (hi : X.N[i]? = some x) (hx : Loc X.env.scope x) (he : PE X e (tD X.K X.mg W f)) (hs : swapsWith e (some (.Name x pos')) pos.line X.env = pure false := by rfl) (hf : X.fn x = true ∨ X.env.scope.names.lookup x = some .local := by first | exact .inl rfl | exact .inr rfl | assumption)
    (hw : swappedStores [.Name x pos'] e X.env = pure none := by rfl) :
    PS X (.Assign [.Name x pos'] e pos) (tS X.K X.mg W (sSet i f)) := PSimp (ps_asg he (pg_name hN hi hx hf) hs hw) fun D σ H ⟨G, ρ, S, r, q⟩ =>
  tG.mk r (wG.imp (fun v H1 ⟨S1, a, e1, ra, r1, q1⟩ => q1 _ S1 H1 (Same.refl _) (r1.setD ra i)) (wS.ofE (rp := Rp X.K) r q))
theorem sd_ret (he : PE X e (tD X.K X.mg W f)) : PS X (.Return (some e) pos) (tS X.K X.mg W (sRet f)) := PSimp (ps_ret he) fun D σ H ⟨G, ρ, S, r, q⟩ =>
  tG.mk r (wG.imp (fun v H1 ⟨S1, a, e1, ra, r1, q1⟩ => q1 v S1 H1 r1.fin ra) (wS.ofE (rp := Rp X.K) r q))
theorem sd_retM (he : PE X e (tD X.K X.mg W f)) : PS X (.Return (some e) pos) (tS X.K X.mg W (sRetM f)) := PSimp (ps_ret he) fun D σ H ⟨G, ρ, S, r, q⟩ =>
  tG.mk r (wG.imp (fun v H1 ⟨S1, a, e1, ra, r1, q1⟩ => q1 v σ S1 H1 (Same.refl _) r1 ra) (wS.ofE (rp := Rp X.K) r q))
theorem sd_retMN : PS X (.Return none pos) (tS X.K X.mg W sRetMN) := PSimp ps_retN fun D σ H ⟨G, ρ, S, r, q⟩ => q .non σ S H (Same.refl _) r .non
theorem sd_retN : PS X (.Return none pos) (tS X.K X.mg W sRetN) := PSimp ps_retN fun D σ H ⟨G, ρ, S, r, q⟩ => q .non S H r.fin .non
theorem sd_expr (he : PE X e (tD X.K X.mg W f)) (hs : swapsWith e none pos.line X.env = pure false := by rfl) : PS X (.Expr e pos) (tS X.K X.mg W (sDrop f)) := PSimp (ps_expr he hs) fun D σ H ⟨G, ρ, S, r, q⟩ =>
  tG.mk r (wG.imp (fun v H1 ⟨S1, a, e1, ra, r1, q1⟩ => q1 σ S1 H1 (Same.refl _) r1) (wS.ofE (rp := Rp X.K) r q))
theorem sd_if (hc : PT X c (tDT X.K X.mg W t)) (ha : PSs X a (tS X.K X.mg W g)) (hb : PSs X b (tS X.K X.mg W h)) : PS X (.If c a b pos) (tS X.K X.mg W (sIf t g h)) := PSimp (ps_if hc ha hb) fun D σ H ⟨G, ρ, S, r, q⟩ =>
  tG.mk r (wG.imp (fun v H1 ⟨S1, a, e1, ra, r1, q1⟩ => by
    cases ra
    cases v with
    | true => exact ⟨G, ρ, S1, r1, q1⟩
    | false => exact ⟨G, ρ, S1, r1, q1⟩) (wS.ofE (rp := rpB) r q))
theorem sd_pass : PS X (.Pass pos) (tS X.K X.mg W sNx) := PSimp ps_pass fun D σ H ⟨G, ρ, S, r, q⟩ => q σ S H (Same.refl _) r
def sBk : En → Fl := .bk
def sCt : En → Fl := .ct
theorem sd_break : PS X (.Break pos) (tS X.K X.mg W sBk) := PSimp ps_break fun D σ H ⟨G, ρ, S, r, q⟩ => q σ S H (Same.refl _) r
theorem sd_continue : PS X (.Continue pos) (tS X.K X.mg W sCt) := PSimp ps_continue fun D σ H ⟨G, ρ, S, r, q⟩ => q σ S H (Same.refl _) r
/-- a, b = e, e2 -/
theorem sd_par {px py pt : Pos} {kt k2 pt2} (i j : Nat) (hc : X.calm = true) (hN : X.N.Nodup) (hi : X.N[i]? = some x) (hj : X.N[j]? = some y) (hij : i ≠ j) (hx : X.env.scope.names.lookup x = some .local) (hy : X.env.scope.names.lookup y = some .local)
    (ha : PE X e (tD X.K X.mg W f1)) (hb : PE X e2 (tD X.K X.mg W f2)) (hw : swappedStores [.Tuple [.Name x px, .Name y py] kt pt] (.Tuple [e, e2] k2 pt2) X.env = pure (some [x, y]))
    (hs : swapsWithSole [.Tuple [.Name x px, .Name y py] kt pt] (.Tuple [e, e2] k2 pt2) pos.line X.env = pure false := by rfl)
    (hse : starEach [e, e2] X.env = (false, eval e X.env) :: starEach [e2] X.env := by rfl) (hse2 : starEach [e2] X.env = (false, eval e2 X.env) :: starEach [] X.env := by rfl) :
    PS X (.Assign [.Tuple [.Name x px, .Name y py] kt pt] (.Tuple [e, e2] k2 pt2) pos) (tS X.K X.mg W (sPar i j f1 f2)) := PSimp (ps_par hc hN hi hj hij hx hy (pa_cons ha (pa_cons hb pa_nil hse2) hse) hw hs) fun D σ H ⟨G, ρ, S, r, q⟩ => by
  refine tG.mk r (wG.imp ?_ (wS.ofE (rp := Rp X.K) r q))
  rintro v H1 ⟨S1, a, e1, ra, r1, q1⟩
  refine tG.mk r1 (wG.imp ?_ (wS.ofE (rp := Rp X.K) r1 q1))
  rintro v2 H2 ⟨S2, b, e2, rb, r2, q2⟩
  exact ⟨v, v2, rfl, q2 _ S2 H2 (Same.refl _) ((r2.setD (Rp.mono e2.sub _ _ ra) i).setD rb j)⟩
theorem sd_while (hp : PassesOwn (model X.prog X.w) X.A X.env X.xe) (hc : PT X c (tDT X.K X.mg W t)) (hb : PSs X a (tS X.K X.mg W g)) : PS X (.While c a [] pos) (tS X.K X.mg W (sWhile t g)) := PSimp (ps_while hp hc hb) fun D σ H ⟨G, ρ, S, r, q⟩ => by
  by_cases hn : sWhile t g ρ = .no
  · rw [hn] at q; exact q.elim
  · obtain ⟨n, en⟩ := sWhile_at hn
    refine ⟨fun m σ H => ∃ ρ S', Same S S' ∧ Rel X.K G S' σ ρ H ∧ wS X.K X.mg W G S' D (whileN t g m ρ), ⟨n, ρ, S, Same.refl _, r, by rw [en]; exact q⟩, ?_⟩
    rintro m σ H ⟨ρ, S', s, r, q⟩
    cases m with
    | zero => exact q.elim
    | succ m =>
      unfold whileN at q
      refine tG.mk r (wG.imp ?_ (wS.ofE (rp := rpB) r q))
      rintro v H1 ⟨S1, a, e1, ra, r1, q1⟩
      cases ra
      cases v with
      | true =>
        simp only [if_true] at q1 ⊢
        refine ⟨fun σ' H' => ∃ ρ S', Same S S' ∧ Rel X.K G S' σ' ρ H' ∧ wS X.K X.mg W G S' D (whileN t g m ρ), fun σ' H' h => ⟨m, Nat.lt_succ_self m, h⟩, G, ρ, S1, r1, ?_⟩
        cases z : g ρ with
        | nx ρ' => rw [z] at q1; exact fun σ' S2 H2 s2 r2 => ⟨ρ', S2, s.trans (e1.sub.trans s2), r2, q1.mono s2⟩
        | ct ρ' => rw [z] at q1; exact fun σ' S2 H2 s2 r2 => ⟨ρ', S2, s.trans (e1.sub.trans s2), r2, q1.mono s2⟩
        | bk ρ' => rw [z] at q1; exact q1
        | rt d => rw [z] at q1; exact q1
        | rm d ρ' => rw [z] at q1; exact q1
        | ex c ρ' => rw [z] at q1; exact q1
        | no => rw [z] at q1; exact q1
      | false =>
        simp only [Bool.false_eq_true, if_false] at q1 ⊢
        exact q1 σ S1 H1 (Same.refl _) r1
end
end DL

set_option Elab.async false
set_option linter.all false
set_option maxRecDepth 100000
set_option maxHeartbeats 4000000
set_option autoImplicit false
/-! the data layer 4: targets, loops, comprehensions -/
namespace DL
open PySem L2

/-! ### targets -/
inductive Tg where
  | one (i : Nat)
  | many (is : List Nat)
  | manyL (is : List Nat)
def Tg.slots : Tg → List Nat
  | .one i => [i]
  | .many is => is
  | .manyL is => is
def putAll : List Nat → List PD → En → En
  | i :: is, d :: ds, ρ => putAll is ds (ρ.set i (some (.d d)))
  | _, _, ρ => ρ
def Tg.put : Tg → PD → En → Option En
  | .one i, d, ρ => some (ρ.set i (some (.d d)))
  | .many is, .tuple ds, ρ => if ds.length = is.length then some (putAll is ds ρ) else none
  | .manyL is, .list ds, ρ => if ds.length = is.length then some (putAll is ds ρ) else none
  | _, _, _ => none
def gNames : List Nat → TGs
  | [] => gNil
  | i :: is => gCons (gName i) (gNames is)
def gOf (K : PySem.W.Frag) : Tg → TG
  | .one i => gName i
  | .many is => gTup K is.length (gNames is)
  | .manyL is => gLst K is.length (gNames is)
theorem wipe_at : ∀ {vs : List Nat} {σ : St} {i : Nat}, (wipe σ vs)[i]? = if i ∈ vs then (if i < σ.length then some none else none) else σ[i]?
  | [], σ, i => by simp [wipe]
  | v :: vs, σ, i => by
    unfold wipe
    by_cases h : v = i
    · subst h
      by_cases hl : v < σ.length
      · rw [List.getElem?_set_self (by rw [wipe_length]; exact hl), if_pos (List.mem_cons_self), if_pos hl]
      · rw [List.getElem?_eq_none (by rw [List.length_set, wipe_length]; omega), if_pos (List.mem_cons_self), if_neg hl]
    · rw [List.getElem?_set_ne h, wipe_at]
      by_cases hm : i ∈ vs
      · rw [if_pos hm, if_pos (List.mem_cons_of_mem _ hm)]
      · rw [if_neg hm, if_neg (by simp only [List.mem_cons, not_or]; exact ⟨fun e => h e.symm, hm⟩)]
theorem wipe_set {vs : List Nat} {σ : St} {i : Nat} {w : Option V} (h : i ∈ vs) : wipe (σ.set i w) vs = wipe σ vs := by
  apply List.ext_getElem?
  intro j
  rw [wipe_at, wipe_at, List.length_set]
  by_cases hm : j ∈ vs
  · rw [if_pos hm, if_pos hm]
  · rw [if_neg hm, if_neg hm]
    exact List.getElem?_set_ne (fun e => hm (by rw [← e]; exact h))
section
variable {K : PySem.W.Frag} {G : F} {S H : Hp} {σ : St} {ρ ρ' : En}
theorem gNames_ok : ∀ {is : List Nat} {vs : List V} {ds : List PD} {σ : St} {ρ : En} {Q : St → Hp → Prop}, RpA K S vs ds → ds.length = is.length → Rel K G S σ ρ H →
    (∀ σ', Rel K G S σ' (putAll is ds ρ) H → (∀ us : List Nat, (∀ i ∈ is, i ∈ us) → wipe σ' us = wipe σ us) → Q σ' H) → gNames is vs σ H Q
  | [], _, [], σ, ρ, Q, h, hl, r, q => by
    cases h
    exact ⟨rfl, q σ r fun _ _ => rfl⟩
  | i :: is, _, d :: ds, σ, ρ, Q, h, hl, r, q => by
    cases h with
    | cons h1 h2 =>
      refine ⟨_, _, rfl, ?_⟩
      refine gNames_ok h2 (by simpa using hl) (r.setD h1 i) fun σ' r' w' => ?_
      refine q σ' r' fun us hu => ?_
      rw [w' us fun j hj => hu j (List.mem_cons_of_mem _ hj), wipe_set (hu i List.mem_cons_self)]
  | [], _, _ :: _, _, _, _, _, hl, _, _ => by cases hl
  | _ :: _, _, [], _, _, _, _, hl, _, _ => by cases hl
theorem gOf_ok {tg : Tg} {v : V} {d : PD} {Q : St → Hp → Prop} (r : Rel K G S σ ρ H) (h : Rp K S v d) (hp : tg.put d ρ = some ρ') (q : ∀ σ', Rel K G S σ' ρ' H → (∀ us : List Nat, (∀ i ∈ tg.slots, i ∈ us) → wipe σ' us = wipe σ us) → Q σ' H) : gOf K tg v σ H Q := by
  cases tg with
  | one i =>
    have e : some (ρ.set i (some (.d d))) = some ρ' := hp
    cases e
    exact q _ (r.setD h i) fun us hu => wipe_set (hu i (by simp [Tg.slots]))
  | many is =>
    cases d with
    | tuple ds =>
      have e : (if ds.length = is.length then some (putAll is ds ρ) else none) = some ρ' := hp
      by_cases hl : ds.length = is.length
      · rw [if_pos hl] at e
        cases e
        cases h with
        | tup hs ha =>
          exact ⟨_, _, rfl, Same.seqT r.inn hs, by rw [ha.length]; exact hl, gNames_ok ha hl r q⟩
      · rw [if_neg hl] at e; cases e
    | _ => cases hp
  | manyL is =>
    cases d with
    | list ds =>
      have e : (if ds.length = is.length then some (putAll is ds ρ) else none) = some ρ' := hp
      by_cases hl : ds.length = is.length
      · rw [if_pos hl] at e
        cases e
        cases h with
        | lst hs ha =>
          exact ⟨_, _, rfl, Same.seq r.inn hs, by rw [ha.length]; exact hl, gNames_ok ha hl r q⟩
      · rw [if_neg hl] at e; cases e
    | _ => cases hp
end

/-! ### what is walked -/
def ItOk (K : PySem.W.Frag) (S : Hp) (J : It) (ds : List PD) : Prop := ∀ S1 H1, Same S S1 → Same S1 H1 → ∀ i : Nat,
  (∀ d, ds[i]? = some d → J.go i H1 ∧ ∀ x H2, J.yld i H1 x H2 → ∃ S2, Ext S1 H1 S2 H2 ∧ Rp K S2 x d) ∧ (ds.length ≤ i → J.stop i H1)
abbrev tI (K : PySem.W.Frag) (mg : MG) (W : WX) (f : En → R (List PD)) : TI := tG (ItOk K) K mg W f
theorem ItOk.mono {K : PySem.W.Frag} {S S' : Hp} {J : It} {ds : List PD} (e : Same S S') (h : ItOk K S J ds) : ItOk K S' J ds := fun S1 H1 s1 s2 => h S1 H1 (e.trans s1) s2

/-- a list's items, a tuple's -/
def asL : PD → R (List PD)
  | .list ds => .ok ds
  | _ => .no
def asT : PD → R (List PD)
  | .tuple ds => .ok ds
  | _ => .no
def iL (f : En → R PD) : En → R (List PD) := fun ρ => (f ρ).bind asL
def iT (f : En → R PD) : En → R (List PD) := fun ρ => (f ρ).bind asT
theorem itl_ok {K : PySem.W.Frag} {S : Hp} {a : Addr} {xs : List V} {ds : List PD} (hs : SqL K S a xs) (ha : RpA K S xs ds) : ItOk K S (Itl K a) ds := by
  intro S1 H1 s1 s2 i
  have h1 : SqL K H1 a xs := Same.seq (s1.trans s2) hs
  refine ⟨fun d hd => ?_, fun hl => ⟨xs, h1, by rw [ha.length]; exact hl⟩⟩
  obtain ⟨v, hv, hr⟩ := ha.get hd
  exact ⟨⟨xs, v, h1, hv⟩, fun x H2 ⟨e, y⟩ => by
    subst e
    have := y xs h1
    rw [hv] at this
    cases this
    exact ⟨S1, Ext.refl s2, Rp.mono s1 _ _ hr⟩⟩
theorem itt_ok {K : PySem.W.Frag} {S : Hp} {a : Addr} {xs : List V} {ds : List PD} (hs : SqT K S a xs) (ha : RpA K S xs ds) : ItOk K S (Itt K a) ds := by
  intro S1 H1 s1 s2 i
  have h1 : SqT K H1 a xs := Same.seqT (s1.trans s2) hs
  refine ⟨fun d hd => ?_, fun hl => ⟨xs, h1, by rw [ha.length]; exact hl⟩⟩
  obtain ⟨v, hv, hr⟩ := ha.get hd
  exact ⟨⟨xs, v, h1, hv⟩, fun x H2 ⟨e, y⟩ => by
    subst e
    have := y xs h1
    rw [hv] at this
    cases this
    exact ⟨S1, Ext.refl s2, Rp.mono s1 _ _ hr⟩⟩
section
variable {X : Cx} {W : WX} {tg l : Expr} {f f1 f2 : En → R PD} {p pos : Pos}
theorem pi_l (hl : PE X l (tD X.K X.mg W f)) : PI X tg l (tI X.K X.mg W (iL f)) := PIimp (pi_list hl) fun σ H Q ⟨G, ρ, S, rel, h⟩ => by
  refine tG.mk rel (wG.imp ?_ (wG.bind (rp := Rp X.K) h))
  rintro x H1 ⟨S1, a, e1, ra, h1⟩
  cases a with
  | list ds =>
    cases ra with
    | lst hs ha => exact ⟨_, rfl, ⟨_, Same.seq e1.inn hs⟩, h1 _ S1 H1 (Ext.refl e1.inn) (itl_ok hs ha)⟩
  | _ => exact h1.elim
theorem pi_t (hl : PE X l (tD X.K X.mg W f)) : PI X tg l (tI X.K X.mg W (iT f)) := PIimp (pi_tup hl) fun σ H Q ⟨G, ρ, S, rel, h⟩ => by
  refine tG.mk rel (wG.imp ?_ (wG.bind (rp := Rp X.K) h))
  rintro x H1 ⟨S1, a, e1, ra, h1⟩
  cases a with
  | tuple ds =>
    cases ra with
    | tup hs ha => exact ⟨_, rfl, ⟨_, Same.seqT e1.inn hs⟩, h1 _ S1 H1 (Ext.refl e1.inn) (itt_ok hs ha)⟩
  | _ => exact h1.elim
/-- range(n), range(a, b) -/
def rng (lo : Int) (n : Nat) : List PD := (List.range n).map fun i => .int (lo + (i : Nat))
def gR1 : List PD → R (List PD)
  | [.int j] => if -(2 ^ 62) ≤ j ∧ j < 2 ^ 62 then .ok (rng 0 j.toNat) else .no
  | _ => .no
def gR2 : List PD → R (List PD)
  | [.int i, .int j] => if -(2 ^ 62) ≤ i ∧ i < 2 ^ 62 ∧ -(2 ^ 62) ≤ j ∧ j < 2 ^ 62 then .ok (rng i (j - i).toNat) else .no
  | _ => .no
def iA (g : List PD → R (List PD)) (f : En → R (List PD)) : En → R (List PD) := fun ρ => (f ρ).bind g
theorem itr_ok {K : PySem.W.Frag} {S : Hp} {lo : Int} {n : Nat} : ItOk K S (Itr lo n) (rng lo n) := by
  intro S1 H1 s1 s2 i
  refine ⟨fun d hd => ?_, fun hl => by show n ≤ i; simpa [rng] using hl⟩
  unfold rng at hd
  rw [List.getElem?_map] at hd
  by_cases h : i < n
  · rw [List.getElem?_range h] at hd
    cases hd
    exact ⟨h, fun x H2 ⟨e, y⟩ => by subst e y; exact ⟨S1, Ext.refl s2, .int _⟩⟩
  · rw [List.getElem?_eq_none (by simpa using h)] at hd
    cases hd
theorem pi_r1 {a : Expr} {fs : En → R (List PD)} (hg : Gl X "range") (hm : X.mg "range" = none) (ha : PA X [a] (tDA X.K X.mg W fs)) (hs : starEach [a] X.env = [(false, eval a X.env)] := by rfl) : PI X tg (.Call (.Name "range" p) [a] [] pos) (tI X.K X.mg W (iA gR1 fs)) :=
  PIimp (pi_range1 hg hm ha hs) fun σ H Q ⟨G, ρ, S, rel, h⟩ => by
    refine tG.mk rel (wG.imp ?_ (wG.bind (rp := RpA X.K) h))
    rintro xs H1 ⟨S1, as, e1, ra, h1⟩
    unfold gR1 at h1
    split at h1
    · rename_i j
      cases ra with
      | cons r1 r2 =>
        cases r2
        cases r1
        split at h1
        · rename_i hb
          exact ⟨j, rfl, hb.1, hb.2, h1 _ S1 H1 (Ext.refl e1.inn) itr_ok⟩
        · exact h1.elim
    · exact h1.elim
theorem pi_r2 {a b : Expr} {fs : En → R (List PD)} (hg : Gl X "range") (hm : X.mg "range" = none) (ha : PA X [a, b] (tDA X.K X.mg W fs)) (hs : starEach [a, b] X.env = [(false, eval a X.env), (false, eval b X.env)] := by rfl)
    (hs2 : starEach [b] X.env = [(false, eval b X.env)] := by rfl) : PI X tg (.Call (.Name "range" p) [a, b] [] pos) (tI X.K X.mg W (iA gR2 fs)) :=
  PIimp (pi_range2 hg hm ha hs hs2) fun σ H Q ⟨G, ρ, S, rel, h⟩ => by
    refine tG.mk rel (wG.imp ?_ (wG.bind (rp := RpA X.K) h))
    rintro xs H1 ⟨S1, as, e1, ra, h1⟩
    unfold gR2 at h1
    split at h1
    · rename_i i j
      cases ra with
      | cons r1 r2 =>
        cases r2 with
        | cons r2 r3 =>
          cases r3
          cases r1
          cases r2
          split at h1
          · rename_i hb
            exact ⟨i, j, rfl, hb, h1 _ S1 H1 (Ext.refl e1.inn) itr_ok⟩
          · exact h1.elim
    · exact h1.elim
/-- enumerate(list) -/
def enumFrom (n : Nat) : List PD → List PD
  | [] => []
  | d :: ds => .tuple [.int (n : Nat), d] :: enumFrom (n + 1) ds
theorem enumFrom_get : ∀ {ds : List PD} {n i : Nat} {e : PD}, (enumFrom n ds)[i]? = some e → ∃ d, ds[i]? = some d ∧ e = .tuple [.int ((n + i : Nat) : Nat), d]
  | [], _, _, _, h => by simp [enumFrom] at h
  | d :: ds, n, 0, e, h => by
    have : some (PyData.tuple [.int (n : Nat), d]) = some e := h
    cases this
    exact ⟨d, rfl, rfl⟩
  | d :: ds, n, i + 1, e, h => by
    have h' : (enumFrom (n + 1) ds)[i]? = some e := h
    obtain ⟨d', h1, h2⟩ := enumFrom_get h'
    exact ⟨d', h1, by rw [h2]; congr 3; omega⟩
theorem enumFrom_length : ∀ {ds : List PD} {n : Nat}, (enumFrom n ds).length = ds.length
  | [], _ => rfl
  | d :: ds, n => by simp [enumFrom, enumFrom_length]
def gEn : List PD → R (List PD)
  | [.list ds] => .ok (enumFrom 0 ds)
  | _ => .no
theorem pi_en {e : Expr} {fs : En → R (List PD)} {tpos : Pos} {elts : List Expr} {kk : Nat} (hg : Gl X "enumerate") (hm : X.mg "enumerate" = none) (ha : PA X [e] (tDA X.K X.mg W fs)) (hs : starEach [e] X.env = [(false, eval e X.env)] := by rfl) :
    PI X (.Tuple elts kk tpos) (.Call (.Name "enumerate" p) [e] [] pos) (tI X.K X.mg W (iA gEn fs)) :=
  PIimp (pi_enum hg hm ha hs) fun σ H Q ⟨G, ρ, S, rel, h⟩ => by
    refine tG.mk rel (wG.imp ?_ (wG.bind (rp := RpA X.K) h))
    rintro xs H1 ⟨S1, as, e1, ra, h1⟩
    unfold gEn at h1
    split at h1
    · rename_i ds
      cases ra with
      | cons r1 r2 =>
        cases r2
        cases r1 with
        | lst hs ha =>
          refine ⟨_, _, rfl, Same.seq e1.inn hs, h1 _ S1 H1 (Ext.refl e1.inn) ?_⟩
          intro S2 H2 s1 s2 i
          have hq : SqL X.K H2 _ _ := Same.seq (s1.trans s2) hs
          refine ⟨fun d hd => ?_, fun hl => ⟨_, hq, by rw [ha.length]; rw [enumFrom_length] at hl; exact hl⟩⟩
          obtain ⟨d', q1, q2⟩ := enumFrom_get hd
          obtain ⟨v, hv, hr⟩ := ha.get q1
          refine ⟨⟨_, v, hq, hv⟩, ?_⟩
          rintro x H3 ⟨T, y, rfl, hT, rfl, hy⟩
          have := hy _ hq
          rw [hv] at this
          cases this
          have e2 : Ext S2 H2 (upd S2 T (.tup [.int (i : Nat), v])) (upd H2 T (.tup [.int (i : Nat), v])) := Ext.known s2 hT
          refine ⟨_, e2, ?_⟩
          rw [q2]
          refine .tup (SqT.of upd_same) (.cons ?_ (.cons (Rp.mono (s1.trans e2.sub) _ _ hr) .nil))
          rw [Nat.zero_add]
          exact .int _
    · exact h1.elim
/-- zip of two lists, of two tuples -/
def zipD : List PD → List PD → List PD
  | a :: as, b :: bs => .tuple [a, b] :: zipD as bs
  | _, _ => []
theorem zipD_get : ∀ {as bs : List PD} {i : Nat} {e : PD}, (zipD as bs)[i]? = some e → ∃ a b, as[i]? = some a ∧ bs[i]? = some b ∧ e = .tuple [a, b]
  | [], _, _, _, h => by simp [zipD] at h
  | _ :: _, [], _, _, h => by simp [zipD] at h
  | a :: as, b :: bs, 0, e, h => by
    have : some (PyData.tuple [a, b]) = some e := h
    cases this
    exact ⟨a, b, rfl, rfl, rfl⟩
  | a :: as, b :: bs, i + 1, e, h => zipD_get (as := as) (bs := bs) h
theorem zipD_stop : ∀ {as bs : List PD} {i : Nat}, (zipD as bs).length ≤ i → as.length ≤ i ∨ bs.length ≤ i
  | [], _, _, _ => .inl (Nat.zero_le _)
  | _ :: _, [], _, _ => .inr (Nat.zero_le _)
  | a :: as, b :: bs, 0, h => by simp [zipD] at h
  | a :: as, b :: bs, i + 1, h => by
    have h' : (zipD as bs).length ≤ i := by simpa [zipD] using h
    rcases zipD_stop h' with z | z
    · exact .inl (by simpa using z)
    · exact .inr (by simpa using z)
def gZip : List PD → R (List PD)
  | [.list as, .list bs] => .ok (zipD as bs)
  | [.tuple as, .tuple bs] => .ok (zipD as bs)
  | _ => .no
theorem pi_zp {e e2 : Expr} {fs : En → R (List PD)} {tpos : Pos} {elts : List Expr} {kk : Nat} (hg : Gl X "zip") (hm : X.mg "zip" = none) (ha : PA X [e, e2] (tDA X.K X.mg W fs)) (hs : starEach [e, e2] X.env = (false, eval e X.env) :: starEach [e2] X.env := by rfl)
    (hpl : (backTo pos (starEach [e2] X.env)).any (·.1) = false := by rfl) :
    PI X (.Tuple elts kk tpos) (.Call (.Name "zip" p) [e, e2] [] pos) (tI X.K X.mg W (iA gZip fs)) :=
  PIimp (RZ.pi_zipA hg hm ha hs hpl) fun σ H Q ⟨G, ρ, S, rel, h⟩ => by
    refine tG.mk rel (wG.imp ?_ (wG.bind (rp := RpA X.K) h))
    rintro xs H1 ⟨S1, as, e1, ra, h1⟩
    unfold gZip at h1
    split at h1
    · rename_i as bs
      cases ra with
      | cons r1 r2 =>
        cases r2 with
        | cons r2 r3 =>
          cases r3
          cases r1 with
          | lst hs ha =>
            cases r2 with
            | lst hs2 ha2 =>
              refine ⟨_, _, _, _, rfl, .inl ⟨Same.seq e1.inn hs, Same.seq e1.inn hs2, h1 _ S1 H1 (Ext.refl e1.inn) ?_⟩⟩
              intro S2 H2 s1 s2 i
              have q1 := Same.seq (s1.trans s2) hs
              have q2 := Same.seq (s1.trans s2) hs2
              refine ⟨fun d hd => ?_, fun hl => ⟨_, _, q1, q2, by rw [ha.length, ha2.length]; exact zipD_stop hl⟩⟩
              obtain ⟨a, b, z1, z2, z3⟩ := zipD_get hd
              obtain ⟨v, hv, hr⟩ := ha.get z1
              obtain ⟨u, hu, hr2⟩ := ha2.get z2
              refine ⟨⟨_, _, v, u, q1, q2, hv, hu⟩, ?_⟩
              rintro x H3 ⟨T, y, y2, rfl, hT, rfl, hy, hy2⟩
              have w1 := hy _ q1
              have w2 := hy2 _ q2
              rw [hv] at w1
              rw [hu] at w2
              cases w1
              cases w2
              have e2 : Ext S2 H2 (upd S2 T (.tup [v, u])) (upd H2 T (.tup [v, u])) := Ext.known s2 hT
              refine ⟨_, e2, ?_⟩
              rw [z3]
              exact .tup (SqT.of upd_same) (.cons (Rp.mono (s1.trans e2.sub) _ _ hr) (.cons (Rp.mono (s1.trans e2.sub) _ _ hr2) .nil))
    · rename_i as bs
      cases ra with
      | cons r1 r2 =>
        cases r2 with
        | cons r2 r3 =>
          cases r3
          cases r1 with
          | tup hs ha =>
            cases r2 with
            | tup hs2 ha2 =>
              refine ⟨_, _, _, _, rfl, .inr ⟨Same.seqT e1.inn hs, Same.seqT e1.inn hs2, h1 _ S1 H1 (Ext.refl e1.inn) ?_⟩⟩
              intro S2 H2 s1 s2 i
              have q1 := Same.seqT (s1.trans s2) hs
              have q2 := Same.seqT (s1.trans s2) hs2
              refine ⟨fun d hd => ?_, fun hl => ⟨_, _, q1, q2, by rw [ha.length, ha2.length]; exact zipD_stop hl⟩⟩
              obtain ⟨a, b, z1, z2, z3⟩ := zipD_get hd
              obtain ⟨v, hv, hr⟩ := ha.get z1
              obtain ⟨u, hu, hr2⟩ := ha2.get z2
              refine ⟨⟨_, _, v, u, q1, q2, hv, hu⟩, ?_⟩
              rintro x H3 ⟨T, y, y2, rfl, hT, rfl, hy, hy2⟩
              have w1 := hy _ q1
              have w2 := hy2 _ q2
              rw [hv] at w1
              rw [hu] at w2
              cases w1
              cases w2
              have e2 : Ext S2 H2 (upd S2 T (.tup [v, u])) (upd H2 T (.tup [v, u])) := Ext.known s2 hT
              refine ⟨_, e2, ?_⟩
              rw [z3]
              exact .tup (SqT.of upd_same) (.cons (Rp.mono (s1.trans e2.sub) _ _ hr) (.cons (Rp.mono (s1.trans e2.sub) _ _ hr2) .nil))
    · exact h1.elim
end

/-! ### for -/
def sForL (tg : Tg) (body : En → Fl) : List PD → En → Fl
  | [], ρ => .nx ρ
  | d :: ds, ρ => match tg.put d ρ with
    | none => .no
    | some ρ1 => match body ρ1 with
      | .nx ρ2 => sForL tg body ds ρ2
      | .ct ρ2 => sForL tg body ds ρ2
      | .bk ρ2 => .nx ρ2
      | r => r
def sFor (it : En → R (List PD)) (tg : Tg) (body : En → Fl) : En → Fl := sE it fun ds ρ => sForL tg body ds ρ
section
variable {X : Cx} {W : WX} {tg iter : Expr} {it : En → R (List PD)} {T : Tg} {g : En → Fl} {body : List Stmt} {pos : Pos}
theorem sd_for (hp : PassesOwn (model X.prog X.w) X.A X.env X.xe) (hc : X.calm = true) (hi : PI X tg iter (tI X.K X.mg W it)) (hg : PG X tg (gOf X.K T)) (hb : PSs X body (tS X.K X.mg W g)) (hs : ∀ x, foldedSetIterable iter X.env x = pure x := by intro _; rfl) :
    PS X (.For tg iter body [] pos) (tS X.K X.mg W (sFor it T g)) := PSimp (ps_for hp hc hi hg hb hs) fun D σ H ⟨G, ρ, S, r, q⟩ => by
  refine tG.mk r (wG.imp ?_ (wS.ofE (rp := ItOk X.K) r q))
  rintro J H1 ⟨S1, ds, e1, hJ, r1, q1⟩
  refine ⟨fun i m σ H => m = ds.length - i ∧ i ≤ ds.length ∧ ∃ ρ S2, Same S1 S2 ∧ Rel X.K G S2 σ ρ H ∧ wS X.K X.mg W G S2 D (sForL T g (ds.drop i) ρ), ⟨ds.length, by simp, Nat.zero_le _, ρ, S1, Same.refl _, r1, by simpa using q1⟩, ?_⟩
  rintro i m σ H ⟨rfl, hi, ρ, S2, s2, r2, q2⟩
  obtain ⟨go, stop⟩ := hJ S2 H s2 r2.inn i
  by_cases hlt : i < ds.length
  · have hd : ds[i]? = some ds[i] := List.getElem?_eq_getElem hlt
    obtain ⟨g1, g2⟩ := go _ hd
    refine .inr ⟨g1, fun σ H => i + 1 ≤ ds.length ∧ ∃ ρ S2, Same S1 S2 ∧ Rel X.K G S2 σ ρ H ∧ wS X.K X.mg W G S2 D (sForL T g (ds.drop (i + 1)) ρ), fun σ' H' h => ⟨ds.length - (i + 1), by omega, rfl, h⟩, ?_⟩
    intro x H3 y
    obtain ⟨S3, e3, rx⟩ := g2 x H3 y
    have r3 := r2.ext e3
    rw [List.drop_eq_getElem_cons hlt] at q2
    unfold sForL at q2
    cases z : T.put ds[i] ρ with
    | none => rw [z] at q2; exact q2.elim
    | some ρ1 =>
      rw [z] at q2
      refine gOf_ok r3 rx z fun σ' r' _ => ⟨G, ρ1, S3, r', ?_⟩
      dsimp only at q2
      cases z2 : g ρ1 with
      | nx ρ2 => rw [z2] at q2; exact fun σ'' S4 H4 s4 r4 => ⟨hlt, ρ2, S4, s2.trans (e3.sub.trans s4), r4, q2.mono (e3.sub.trans s4)⟩
      | ct ρ2 => rw [z2] at q2; exact fun σ'' S4 H4 s4 r4 => ⟨hlt, ρ2, S4, s2.trans (e3.sub.trans s4), r4, q2.mono (e3.sub.trans s4)⟩
      | bk ρ2 => rw [z2] at q2; exact q2.mono (r := .nx ρ2) e3.sub
      | rt d => rw [z2] at q2; exact q2
      | rm d ρ2 => rw [z2] at q2; exact q2.mono (r := .rm d ρ2) e3.sub
      | ex c ρ2 => rw [z2] at q2; exact q2.mono (r := .ex c ρ2) e3.sub
      | no => rw [z2] at q2; exact q2
  · have e : i = ds.length := by omega
    subst e
    rw [List.drop_length] at q2
    exact .inl ⟨stop (Nat.le_refl _), q2 σ S2 H (Same.refl _) r2⟩
end

/-! ### comprehensions -/
def wipeE (ρ : En) : List Nat → En
  | [] => ρ
  | v :: vs => (wipeE ρ vs).set v none
theorem Rel.wipe {K : PySem.W.Frag} {G : F} {S H : Hp} {σ : St} {ρ : En} (r : Rel K G S σ ρ H) : ∀ vs : List Nat, Rel K G S (wipe σ vs) (wipeE ρ vs) H
  | [] => r
  | v :: vs => (Rel.wipe r vs).forget v none
def lcL (tg : Tg) (tt : En → R Bool) (te : En → R PD) (ρ : En) : List PD → R (List PD)
  | [] => .ok []
  | d :: ds => match tg.put d ρ with
    | none => .no
    | some ρ1 => match tt ρ1 with
      | .ok true => (match te ρ1 with
        | .ok y => (match lcL tg tt te ρ ds with
          | .ok ys => .ok (y :: ys)
          | _ => .no)
        | _ => .no)
      | .ok false => lcL tg tt te ρ ds
      | _ => .no
def dLcL (it : En → R (List PD)) (tg : Tg) (vs : List Nat) (tt : En → R Bool) (te : En → R PD) : En → R (List PD) := fun ρ => (it ρ).bind fun ds => if ds.length ≤ 1000000 then lcL tg tt te (wipeE ρ vs) ds else .no
def dLc (it : En → R (List PD)) (tg : Tg) (vs : List Nat) (tt : En → R Bool) (te : En → R PD) : En → R PD := fun ρ => (dLcL it tg vs tt te ρ).bind fun ds => .ok (.list ds)
def bYes : En → R Bool := fun _ => .ok true
abbrev W0 : WX := fun _ _ _ _ => False
theorem tYes_of {K : PySem.W.Frag} {mg : MG} : ∀ σ H Q, tDT K mg W0 bYes σ H Q → tYes σ H Q := fun σ H Q ⟨G, ρ, S, rel, h⟩ => h true S H (Ext.refl rel.inn) rfl
theorem ptd_nil {X : Cx} : PTs X [] (tDT X.K X.mg W0 bYes) := ⟨fun pins s σ H Q I q => pts_nil.run pins s σ H Q I (tYes_of σ H Q q)⟩
/-- what a comprehension leaves: a new list at D, not yet known -/
theorem lc_of {K : PySem.W.Frag} {mg : MG} {W : WX} {it : En → R (List PD)} {T : Tg} {vs : List Nat} {tt : En → R Bool} {te : En → R PD} (hT : ∀ i ∈ T.slots, i ∈ vs) {σ : St} {H : Hp} {Q : VK} {G : F} {ρ : En} {S : Hp} (rel : Rel K G S σ ρ H)
    (h : match dLcL it T vs tt te ρ with
      | .ok ds => ∀ D S' H' xs, Ext S H S' H' → H D = none → S' D = none → H' D = some (.lst xs) → RpA K S' xs ds → Q (.ref D) H'
      | .ex c => ∀ cls S' H', mg c = some cls → Ext S H S' H' → W cls none σ H'
      | .no => False) : tLc (tI K mg W it) (gOf K T) (tDT K mg W0 tt) (tD K mg W0 te) vs σ H Q := by
  unfold dLcL at h
  have h2 : wG (ItOk K) mg W σ S H (fun J H1 => ∃ S1 ds, Ext S H S1 H1 ∧ ItOk K S1 J ds ∧ ds.length ≤ 1000000 ∧ ∃ ys, lcL T tt te (wipeE ρ vs) ds = .ok ys ∧ ∀ D S' H' xs, Ext S1 H1 S' H' → H1 D = none → S' D = none → H' D = some (.lst xs) → RpA K S' xs ys → Q (.ref D) H') (it ρ) := by
    cases q : it ρ with
    | ok ds =>
      rw [q] at h
      intro J S1 H1 e1 hJ
      simp only [R.bind_ok] at h
      by_cases hl : ds.length ≤ 1000000
      · rw [if_pos hl] at h
        cases q2 : lcL T tt te (wipeE ρ vs) ds with
        | ok ys =>
          rw [q2] at h
          exact ⟨S1, ds, e1, hJ, hl, ys, q2, fun D S' H' xs e a b c d => h D S' H' xs (e1.trans e) (e1.all.free a) b c d⟩
        | ex c =>
          exfalso
          have : ∀ ds, lcL T tt te (wipeE ρ vs) ds ≠ .ex c := by
            intro ds
            induction ds with
            | nil => unfold lcL; intro z; cases z
            | cons d ds ih =>
              unfold lcL
              intro z
              split at z
              · cases z
              · split at z
                · split at z
                  · split at z <;> cases z
                  · cases z
                · exact ih z
                · cases z
          exact this ds q2
        | no => rw [q2] at h; exact h.elim
      · rw [if_neg hl] at h; exact h.elim
    | ex c => rw [q] at h; exact h
    | no => rw [q] at h; exact h
  refine tG.mk rel (wG.imp ?_ h2)
  rintro J H1 ⟨S1, ds, e1, hJ, hlen, ys, hys, hq⟩ D hD
  have rel1 := rel.ext e1
  have hS1D : S1 D = none := e1.inn.free hD
  refine ⟨fun i m H => m = ds.length - i ∧ i ≤ ds.length ∧ ∃ S2 acc accd rest, Ext S1 H1 S2 H ∧ S2 D = none ∧ H D = some (.lst acc) ∧ RpA K S2 acc accd ∧ acc.length ≤ i ∧ lcL T tt te (wipeE ρ vs) (ds.drop i) = .ok rest ∧ accd ++ rest = ys,
    ⟨ds.length, by simp, Nat.zero_le _, S1, [], [], ys, Ext.fresh e1.inn hD, hS1D, upd_same, .nil, Nat.le_refl _, by simpa using hys, rfl⟩, ?_⟩
  rintro i m H2 ⟨rfl, hi, S2, acc, accd, rest, e2, hD2, hacc, racc, hal, hrest, htot⟩
  have rel2 := rel1.ext e2
  obtain ⟨go, stop⟩ := hJ S2 H2 e2.sub e2.inn i
  by_cases hlt : i < ds.length
  · have hd : ds[i]? = some ds[i] := List.getElem?_eq_getElem hlt
    obtain ⟨g1, g2⟩ := go _ hd
    refine .inr ⟨g1, fun H => i + 1 ≤ ds.length ∧ ∃ S2 acc accd rest, Ext S1 H1 S2 H ∧ S2 D = none ∧ H D = some (.lst acc) ∧ RpA K S2 acc accd ∧ acc.length ≤ i + 1 ∧ lcL T tt te (wipeE ρ vs) (ds.drop (i + 1)) = .ok rest ∧ accd ++ rest = ys,
      fun H' h => ⟨ds.length - (i + 1), by omega, rfl, h⟩, ?_⟩
    intro x H3 y
    obtain ⟨S3, e3, rx⟩ := g2 x H3 y
    have rel3 := (rel2.ext e3).wipe vs
    have new3 : ∀ {S4 H4 : Hp}, Ext S2 H2 S4 H4 → S4 D = none := fun {S4 H4} e => by
      cases q : S4 D with
      | none => rfl
      | some o =>
        rcases e.new D o q with z | z
        · rw [hD2] at z; cases z
        · rw [hacc] at z; cases z
    rw [List.drop_eq_getElem_cons hlt] at hrest
    unfold lcL at hrest
    cases z : T.put ds[i] (wipeE ρ vs) with
    | none => rw [z] at hrest; cases hrest
    | some ρ1 =>
      rw [z] at hrest
      dsimp only at hrest
      refine gOf_ok rel3 rx z fun σ' r' hw => ⟨?_, ?_⟩
      · rw [hw vs hT]
        apply List.ext_getElem?
        intro j
        rw [wipe_at, wipe_at, wipe_length]
        by_cases hm : j ∈ vs
        · rw [if_pos hm, if_pos hm]
        · rw [if_neg hm, if_neg hm]
      · refine tG.mk r' ?_
        cases zt : tt ρ1 with
        | ok b =>
          rw [zt] at hrest
          rintro b' S4 H4 e4 rfl
          cases b' with
          | true =>
            dsimp only at hrest
            rw [if_pos rfl]
            refine tG.mk (r'.ext e4) ?_
            cases ze : te ρ1 with
            | ok yd =>
              rw [ze] at hrest
              dsimp only at hrest
              cases zr : lcL T tt te (wipeE ρ vs) (ds.drop (i + 1)) with
              | ok rest' =>
                rw [zr] at hrest
                cases hrest
                intro yv S5 H5 e5 ry
                have e25 := (e3.trans e4).trans e5
                have hn := new3 e25
                refine ⟨acc, e25.all _ _ hacc, Nat.lt_of_le_of_lt (Nat.le_trans hal (Nat.le_trans (Nat.le_of_lt hlt) hlen)) (by decide), hlt, S5, acc ++ [yv], accd ++ [yd], rest', ?_, hn, upd_same, (RpA.mono e25.sub _ _ racc).snoc ry, by simp; omega, rfl, by rw [← htot]; simp⟩
                have e15 := e2.trans e25
                refine ⟨e15.sub, fun a o h => ?_, fun a o h => ?_, e15.new⟩
                · rw [upd_ne (ne_of_none h hD)]; exact e15.all a o h
                · rw [upd_ne (ne_of_none h hn)]; exact e15.inn a o h
              | ex c => rw [zr] at hrest; cases hrest
              | no => rw [zr] at hrest; cases hrest
            | ex c => rw [ze] at hrest; cases hrest
            | no => rw [ze] at hrest; cases hrest
          | false =>
            dsimp only at hrest
            rw [if_neg Bool.false_ne_true]
            have e24 := e3.trans e4
            exact ⟨hlt, S4, acc, accd, rest, e2.trans e24, new3 e24, e24.all _ _ hacc, RpA.mono e24.sub _ _ racc, by omega, hrest, htot⟩
        | ex c => rw [zt] at hrest; cases hrest
        | no => rw [zt] at hrest; cases hrest
  · have e : i = ds.length := by omega
    subst e
    rw [List.drop_length] at hrest
    have : (R.ok [] : R (List PD)) = .ok rest := hrest
    cases this
    refine .inl ⟨stop (Nat.le_refl _), hq D S2 H2 acc e2 hD hD2 hacc ?_⟩
    rw [← htot]
    simpa using racc
section
variable {X : Cx} {W : WX} {elt tg iter : Expr} {ifs : List Expr} {scope : Scope} {own : List (Str × Nat)} {pos : Pos} {it : En → R (List PD)} {T : Tg} {tt : En → R Bool} {te : En → R PD}
theorem pd_lc (own : List (Str × Nat)) (hc : X.calm = true) (hN : X.N.Nodup) (hi : PI X tg iter (tI X.K X.mg W it)) (ok : BlkOk X.N X.env.scope scope own) (hT : ∀ i ∈ T.slots, i ∈ own.map (·.2))
    (hg : ∀ (s : Shared) (H : Hp) (C : Addr) (cl : List (Str × Addr)) (fp : List Addr), PG (X.blk s H scope (compEnvC scope cl C X.env) fp) tg (gOf X.K T)) (ht : ∀ (s : Shared) (H : Hp) (C : Addr) (cl : List (Str × Addr)) (fp : List Addr), PTs (X.blk s H scope (compEnvC scope cl C X.env) fp) ifs (tDT X.K X.mg W0 tt))
    (he : ∀ (s : Shared) (H : Hp) (C : Addr) (cl : List (Str × Addr)) (fp : List Addr), PE (X.blk s H scope (compEnvC scope cl C X.env) fp) elt (tD X.K X.mg W0 te)) (hs : ∀ x, foldedSetIterable iter X.env x = pure x := by intro _; rfl) :
    PE X (.ListComp elt [⟨tg, iter, ifs, 0⟩] scope pos) (tD X.K X.mg W (dLc it T (own.map (·.2)) tt te)) := PEimp (pe_lc hc hN hi ok hg ht he hs) fun σ H Q ⟨G, ρ, S, rel, h⟩ => by
  refine lc_of hT rel ?_
  unfold dLc at h
  cases q : dLcL it T (own.map (·.2)) tt te ρ with
  | ok ds =>
    rw [q] at h
    intro D S' H' xs e hD hS hH hr
    have e2 : Ext S H (upd S' D (.lst xs)) H' := ⟨fun a o z => by rw [upd_ne (ne_of_none (e.sub _ _ z) hS)]; exact e.sub _ _ z, e.all, fun a o z => by
      by_cases ha : a = D
      · subst ha; rw [upd_same] at z; rw [hH]; exact z
      · rw [upd_ne ha] at z; exact e.inn a o z, fun a o z => by
      by_cases ha : a = D
      · subst ha; exact .inr hD
      · rw [upd_ne ha] at z; exact e.new a o z⟩
    refine h (.ref D) _ H' e2 (.lst (SqL.of upd_same) (RpA.mono (fun a o z => ?_) _ _ hr))
    rw [upd_ne (ne_of_none z hS)]; exact z
  | ex c => rw [q] at h; exact h
  | no => rw [q] at h; exact h
end
end DL

set_option Elab.async false
set_option linter.all false
set_option maxRecDepth 100000
set_option maxHeartbeats 4000000
set_option autoImplicit false
/-! the data layer 5: operators, built-ins, subscripts; raise; a def's promise -/
namespace DL
open PySem L2
abbrev ib (i : Int) : Nat := Builtin.Int.intBits i

/-! ### operators -/
theorem Rp.newL {K : PySem.W.Frag} {S H : Hp} {p : Addr} {vs : List V} {ds : List PD} (hS : Same S H) (hp : H p = none) (r : RpA K S vs ds) : Ext S H (upd S p (.lst vs)) (upd H p (.lst vs)) ∧ Rp K (upd S p (.lst vs)) (.ref p) (.list ds) := by
  have e : Ext S H (upd S p (.lst vs)) (upd H p (.lst vs)) := Ext.known hS hp
  exact ⟨e, .lst (SqL.of upd_same) (RpA.mono e.sub _ _ r)⟩
theorem Rp.newT {K : PySem.W.Frag} {S H : Hp} {p : Addr} {vs : List V} {ds : List PD} (hS : Same S H) (hp : H p = none) (r : RpA K S vs ds) : Ext S H (upd S p (.tup vs)) (upd H p (.tup vs)) ∧ Rp K (upd S p (.tup vs)) (.ref p) (.tuple ds) := by
  have e : Ext S H (upd S p (.tup vs)) (upd H p (.tup vs)) := Ext.known hS hp
  exact ⟨e, .tup (SqT.of upd_same) (RpA.mono e.sub _ _ r)⟩
theorem OpD_of {X : Cx} {fn : Value → Value → Sem Value} {g : PD → PD → R PD} (k : ∀ (pins : List (Addr × Obj)) (s : Shared) (σ : St) (H : Hp) (x y : V) (v u : Value) (Q : VK) (S : Hp) (a b d : PD), Inv X pins σ H s → RelV x v → RelV y u → Same S H → Rp X.K S x a → Rp X.K S y b → g a b = .ok d →
    (∀ v S' H', Ext S H S' H' → Rp X.K S' v d → Q v H') → wpAny (model X.prog X.w) X.A (fn v u) (EP X pins σ Q) X.xe s) : OpD X fn g := by
  intro pins s σ H x y v u Q I rx ry h
  obtain ⟨S, a, b, hS, ra, rb, h⟩ := h
  cases q : g a b with
  | ok d => rw [q] at h; exact k pins s σ H x y v u Q S a b d I rx ry hS ra rb q h
  | ex c => rw [q] at h; exact h.elim
  | no => rw [q] at h; exact h.elim
theorem CallD_ofX {X : Cx} {fv : Value} {g : List PD → R PD} (k : ∀ (pins : List (Addr × Obj)) (s : Shared) (σ : St) (H : Hp) (vs : List V) (us : List Value) (Q : VK) (S : Hp) (ds : List PD) (d : PD), Inv X pins σ H s → Vals vs us → Same S H → RpA X.K S vs ds → g ds = .ok d →
    (∀ v S' H', Ext S H S' H' → Rp X.K S' v d → Q v H') → wpAny (model X.prog X.w) X.A (call fv us) (EP X pins σ Q) X.xe s) : CallR X fv fun vs H Q => ∃ S ds, Same S H ∧ RpA X.K S vs ds ∧ match g ds with
  | .ok d => ∀ v S' H', Ext S H S' H' → Rp X.K S' v d → Q v H'
  | _ => False := by
  intro pins s σ H vs us Q I r h
  obtain ⟨S, ds, hS, ra, h⟩ := h
  cases q : g ds with
  | ok d => rw [q] at h; exact k pins s σ H vs us Q S ds d I r hS ra q h
  | ex c => rw [q] at h; exact h.elim
  | no => rw [q] at h; exact h.elim
def gAdd : PD → PD → R PD
  | .int i, .int j => .ok (.int (i + j))
  | .str x, .str y => if x.length + y.length ≤ 16777216 then .ok (.str (x.append y)) else .no
  | .list xs, .list ys => if xs.length + ys.length ≤ 16777216 then .ok (.list (xs ++ ys)) else .no
  | .tuple xs, .tuple ys => if xs.length + ys.length ≤ 16777216 then .ok (.tuple (xs ++ ys)) else .no
  | _, _ => .no
def gSub : PD → PD → R PD
  | .int i, .int j => .ok (.int (i - j))
  | _, _ => .no
def gMul : PD → PD → R PD
  | .int i, .int j => if ib i + ib j ≤ 134217728 then .ok (.int (i * j)) else .no
  | _, _ => .no
def gDiv : PD → PD → R PD
  | .int i, .int j => if j ≠ 0 ∧ Builtin.divisionGoesByPylong i j = false then .ok (.int (i.fdiv j)) else .no
  | _, _ => .no
def gMod : PD → PD → R PD
  | .int i, .int j => if j ≠ 0 then .ok (.int (i.fmod j)) else .no
  | _, _ => .no
def gPow : PD → PD → R PD
  | .int i, .int j => if 0 ≤ j ∧ (ib i : Int) * j ≤ 134217728 then .ok (.int (i ^ j.toNat)) else .no
  | _, _ => .no
def gShl : PD → PD → R PD
  | .int i, .int j => if 0 ≤ j ∧ (ib i : Int) + j ≤ 134217728 then .ok (.int (i * 2 ^ j.toNat)) else .no
  | _, _ => .no
def gShr : PD → PD → R PD
  | .int i, .int j => if 0 ≤ j then .ok (.int (i / 2 ^ j.toNat)) else .no
  | _, _ => .no
theorem noEx_add : NoEx gAdd := fun a b c h => by unfold gAdd at h; split at h <;> first | (split at h <;> cases h) | cases h
theorem noEx_sub : NoEx gSub := fun a b c h => by unfold gSub at h; split at h <;> cases h
theorem noEx_mul : NoEx gMul := fun a b c h => by unfold gMul at h; split at h <;> first | (split at h <;> cases h) | cases h
theorem noEx_div : NoEx gDiv := fun a b c h => by unfold gDiv at h; split at h <;> first | (split at h <;> cases h) | cases h
theorem noEx_mod : NoEx gMod := fun a b c h => by unfold gMod at h; split at h <;> first | (split at h <;> cases h) | cases h
theorem noEx_pow : NoEx gPow := fun a b c h => by unfold gPow at h; split at h <;> first | (split at h <;> cases h) | cases h
theorem noEx_shl : NoEx gShl := fun a b c h => by unfold gShl at h; split at h <;> first | (split at h <;> cases h) | cases h
theorem noEx_shr : NoEx gShr := fun a b c h => by unfold gShr at h; split at h <;> first | (split at h <;> cases h) | cases h
section
variable {X : Cx}
/-- list + list, whatever the lists are -/
theorem op_catL : OpR X (binaryOp .Add) (fun x y H Q => ∃ a b xs ys, x = .ref a ∧ y = .ref b ∧ SqL X.K H a xs ∧ SqL X.K H b ys ∧ xs.length + ys.length ≤ sizeLine ∧ ∀ p, H p = none → Q (.ref p) (upd H p (.lst (xs ++ ys)))) := by
  intro pins s σ H x y v u Q I rx ry h
  obtain ⟨a, b, xs, ys, rfl, rfl, ha, hb, hz, q⟩ := h
  cases rx
  cases ry
  obtain ⟨its, r1, ⟨⟨c1, d1, dt1, sl1⟩, n1, e1, q1, w1, z1⟩, _⟩ := I.list ha
  obtain ⟨its2, r2, ⟨⟨c2, d2, dt2, sl2⟩, n2, e2, q2, w2, z2⟩, _⟩ := I.list hb
  simp only at q1 z1 q2 z2
  subst q1 z1 q2 z2
  have l1 := r1.length
  have l2 := r2.length
  refine PySem.concat_meets ⟨_, e1, rfl⟩ ⟨_, e2, rfl⟩ PySem.noFill_list_add PySem.seq_list_add F.slot_list_add F.entry_list_add (F.args_list_add_2 _ _) (PyProof.Rows.list_addW a b its.toArray its2.toArray n1 n2 d1 d2 sl1 sl2 (by rw [List.size_toArray, List.size_toArray, ← l1, ← l2]; exact hz)) ⟨e1, e2, ?_⟩
  have ea : its.toArray ++ its2.toArray = (its ++ its2).toArray := by simp
  rw [ea]
  exact ⟨.ref _, _, I.lnew (t' := s.toks) (r1.append r2) (by rw [List.length_append]; exact hz), rfl, q _ I.fresh⟩
theorem od_add : OpD X (binaryOp .Add) gAdd := by
  refine OpD_of fun pins s σ H x y v u Q S a b d I rx ry hS ra rb q h => ?_
  unfold gAdd at q
  split at q
  · cases ra; cases rb
    cases q
    exact op_add pins s σ H _ _ v u Q I rx ry ⟨_, _, rfl, rfl, h _ S H (Ext.refl hS) (.int _)⟩
  · cases ra; cases rb
    split at q
    · rename_i hl
      cases q
      exact op_add_str pins s σ H _ _ v u Q I rx ry ⟨_, _, rfl, rfl, hl, h _ S H (Ext.refl hS) (.str _)⟩
    · cases q
  · cases ra with
    | lst h1 a1 =>
      cases rb with
      | lst h2 a2 =>
        split at q
        · rename_i hl
          cases q
          refine op_catL pins s σ H _ _ v u Q I rx ry ⟨_, _, _, _, rfl, rfl, Same.seq hS h1, Same.seq hS h2, by rw [a1.length, a2.length]; exact hl, fun p hp => ?_⟩
          have z := Rp.newL hS hp (a1.append a2)
          exact h _ _ _ z.1 z.2
        · cases q
  · cases ra with
    | tup h1 a1 =>
      cases rb with
      | tup h2 a2 =>
        split at q
        · rename_i hl
          cases q
          refine op_catA pins s σ H _ _ v u Q I rx ry ⟨_, _, _, _, rfl, rfl, Same.seqT hS h1, Same.seqT hS h2, by rw [a1.length, a2.length]; exact hl, fun e => ?_, fun _ e => ?_, fun _ _ p hp => ?_⟩
          · subst e
            cases a1
            exact h _ S H (Ext.refl hS) (.tup h2 a2)
          · subst e
            cases a2
            rw [List.append_nil] at h
            exact h _ S H (Ext.refl hS) (.tup h1 a1)
          · have z := Rp.newT hS hp (a1.append a2)
            exact h _ _ _ z.1 z.2
        · cases q
  · cases q
theorem od_sub : OpD X (binaryOp .Sub) gSub := by
  refine OpD_of fun pins s σ H x y v u Q S a b d I rx ry hS ra rb q h => ?_
  unfold gSub at q
  split at q
  · cases ra; cases rb
    cases q
    exact op_sub pins s σ H _ _ v u Q I rx ry ⟨_, _, rfl, rfl, h _ S H (Ext.refl hS) (.int _)⟩
  · cases q
theorem od_mul : OpD X (binaryOp .Mult) gMul := by
  refine OpD_of fun pins s σ H x y v u Q S a b d I rx ry hS ra rb q h => ?_
  unfold gMul at q
  split at q
  · cases ra; cases rb
    split at q
    · rename_i hl
      cases q
      exact op_mulX pins s σ H _ _ v u Q I rx ry ⟨_, _, rfl, rfl, by unfold CMulX; have h2 : Builtin.Int.intBits _ + Builtin.Int.intBits _ ≤ 134217728 := hl; omega, h _ S H (Ext.refl hS) (.int _)⟩
    · cases q
  · cases q
theorem op_fdivP : OpR X (binaryOp .FloorDiv) (rI (fun i j => j ≠ 0 ∧ Builtin.divisionGoesByPylong i j = false) fun i j => .int (i.fdiv j)) := opI fun _ _ _ _ _ _ _ hc q => PyProof.Rows.floordiv_int hc.1 q (.inl hc.2)
theorem op_powP : OpR X (binaryOp .Pow) (rI (fun i j => 0 ≤ j ∧ (ib i : Int) * j ≤ 134217728) fun i j => .int (i ^ j.toNat)) := opI fun _ _ _ _ _ _ _ hc q => PyProof.Rows.pow_int hc.1 (by
  have h2 := hc.2
  have e : (2 : Int) ^ 27 = 134217728 := by decide
  rw [e]
  exact h2) q
theorem od_div : OpD X (binaryOp .FloorDiv) gDiv := by
  refine OpD_of fun pins s σ H x y v u Q S a b d I rx ry hS ra rb q h => ?_
  unfold gDiv at q
  split at q
  · cases ra; cases rb
    split at q
    · rename_i hl
      cases q
      exact op_fdivP pins s σ H _ _ v u Q I rx ry ⟨_, _, rfl, rfl, hl, h _ S H (Ext.refl hS) (.int _)⟩
    · cases q
  · cases q
theorem od_mod : OpD X (binaryOp .Mod) gMod := by
  refine OpD_of fun pins s σ H x y v u Q S a b d I rx ry hS ra rb q h => ?_
  unfold gMod at q
  split at q
  · cases ra; cases rb
    split at q
    · rename_i hl
      cases q
      exact op_modN pins s σ H _ _ v u Q I rx ry ⟨_, _, rfl, rfl, hl, h _ S H (Ext.refl hS) (.int _)⟩
    · cases q
  · cases q
theorem od_pow : OpD X (binaryOp .Pow) gPow := by
  refine OpD_of fun pins s σ H x y v u Q S a b d I rx ry hS ra rb q h => ?_
  unfold gPow at q
  split at q
  · cases ra; cases rb
    split at q
    · rename_i hl
      cases q
      exact op_powP pins s σ H _ _ v u Q I rx ry ⟨_, _, rfl, rfl, hl, h _ S H (Ext.refl hS) (.int _)⟩
    · cases q
  · cases q
theorem shl_of {i j : Int} (h : 0 ≤ j ∧ (ib i : Int) + j ≤ 134217728) : CShl i j := by
  have e : (2 : Int) ^ 27 = 134217728 := by decide
  refine ⟨h.1, ?_⟩
  rw [e]
  exact h.2
theorem od_shl : OpD X (binaryOp .LShift) gShl := by
  refine OpD_of fun pins s σ H x y v u Q S a b d I rx ry hS ra rb q h => ?_
  unfold gShl at q
  split at q
  · cases ra; cases rb
    split at q
    · rename_i hl
      cases q
      exact op_shlW pins s σ H _ _ v u Q I rx ry ⟨_, _, rfl, rfl, shl_of hl, h _ S H (Ext.refl hS) (.int _)⟩
    · cases q
  · cases q
theorem od_shr : OpD X (binaryOp .RShift) gShr := by
  refine OpD_of fun pins s σ H x y v u Q S a b d I rx ry hS ra rb q h => ?_
  unfold gShr at q
  split at q
  · cases ra; cases rb
    split at q
    · rename_i hl
      cases q
      exact op_shr pins s σ H _ _ v u Q I rx ry ⟨_, _, rfl, rfl, hl, h _ S H (Ext.refl hS) (.int _)⟩
    · cases q
  · cases q
/-! ### comparisons -/
def cI (p : Int → Int → Bool) : PD → PD → R PD
  | .int i, .int j => .ok (.bool (p i j))
  | _, _ => .no
def gLt : PD → PD → R PD := cI fun i j => decide (i < j)
def gLe : PD → PD → R PD := cI fun i j => decide (i ≤ j)
def gGt : PD → PD → R PD := cI fun i j => decide (j < i)
def gGe : PD → PD → R PD := cI fun i j => decide (j ≤ i)
theorem noEx_cI {p : Int → Int → Bool} : NoEx (cI p) := fun a b c h => by unfold cI at h; split at h <;> cases h
theorem od_cI {op : CmpOp} {p : Int → Int → Bool} (ho : OpR X (compareOp op) (rI0 fun i j => .bl (p i j))) : OpD X (compareOp op) (cI p) := by
  refine OpD_of fun pins s σ H x y v u Q S a b d I rx ry hS ra rb q h => ?_
  unfold cI at q
  split at q
  · cases ra; cases rb
    cases q
    exact ho pins s σ H _ _ v u Q I rx ry ⟨_, _, rfl, rfl, h _ S H (Ext.refl hS) (.bl _)⟩
  · cases q
theorem od_lt : OpD X (compareOp .Lt) gLt := od_cI op_lt
theorem od_le : OpD X (compareOp .LtE) gLe := od_cI op_le
theorem od_gt : OpD X (compareOp .Gt) gGt := od_cI op_gt
theorem od_ge : OpD X (compareOp .GtE) gGe := od_cI op_ge
def gEq : PD → PD → R PD
  | .int i, .int j => .ok (.bool (decide (i = j)))
  | .str x, .str y => .ok (.bool (decide (x = y)))
  | a, b => if SeqAt.shaped a = true ∧ SeqAt.shaped b = true then .ok (.bool (PyData.eqv a b)) else .no
def gNe : PD → PD → R PD
  | .int i, .int j => .ok (.bool (!decide (i = j)))
  | .str x, .str y => .ok (.bool (!decide (x = y)))
  | a, b => if SeqAt.shaped a = true ∧ SeqAt.shaped b = true then .ok (.bool (!PyData.eqv a b)) else .no
theorem noEx_eq : NoEx gEq := fun a b c h => by unfold gEq at h; split at h <;> first | (split at h <;> cases h) | cases h
theorem noEx_ne : NoEx gNe := fun a b c h => by unfold gNe at h; split at h <;> first | (split at h <;> cases h) | cases h
theorem decV_int {i j : Int} : decide (V.int i = V.int j) = decide (i = j) := by
  by_cases h : i = j
  · subst h; simp
  · rw [decide_eq_false h, decide_eq_false (fun e => h (by cases e; rfl))]
theorem decV_str {i j : Str} : decide (V.str i = V.str j) = decide (i = j) := by
  by_cases h : i = j
  · subst h; simp
  · rw [decide_eq_false h, decide_eq_false (fun e => h (by cases e; rfl))]
theorem od_eq (hu : X.A.units + 64 < cLine) : OpD X (compareOp .Eq) gEq := by
  refine OpD_of fun pins s σ H x y v u Q S a b d I rx ry hS ra rb q h => ?_
  unfold gEq at q
  split at q
  · cases ra; cases rb
    cases q
    exact op_eq pins s σ H _ _ v u Q I rx ry ⟨rfl, by rw [decV_int]; exact h _ S H (Ext.refl hS) (.bl _)⟩
  · cases ra; cases rb
    cases q
    exact op_eq pins s σ H _ _ v u Q I rx ry ⟨rfl, by rw [decV_str]; exact h _ S H (Ext.refl hS) (.bl _)⟩
  · split at q
    · rename_i hl
      cases q
      exact op_eqD hu pins s σ H _ _ v u Q I rx ry ⟨a, b, Rp.dp _ _ (SeqAt.canLay_of_shaped hl.1) (Rp.mono hS _ _ ra), Rp.dp _ _ (SeqAt.canLay_of_shaped hl.2) (Rp.mono hS _ _ rb), hl.1, hl.2, h _ S H (Ext.refl hS) (.bl _)⟩
    · cases q
theorem od_ne (hu : X.A.units + 64 < cLine) : OpD X (compareOp .NotEq) gNe := by
  refine OpD_of fun pins s σ H x y v u Q S a b d I rx ry hS ra rb q h => ?_
  unfold gNe at q
  split at q
  · cases ra; cases rb
    cases q
    exact op_ne pins s σ H _ _ v u Q I rx ry ⟨rfl, by rw [decV_int]; exact h _ S H (Ext.refl hS) (.bl _)⟩
  · cases ra; cases rb
    cases q
    exact op_ne pins s σ H _ _ v u Q I rx ry ⟨rfl, by rw [decV_str]; exact h _ S H (Ext.refl hS) (.bl _)⟩
  · split at q
    · rename_i hl
      cases q
      exact op_neD hu pins s σ H _ _ v u Q I rx ry ⟨a, b, Rp.dp _ _ (SeqAt.canLay_of_shaped hl.1) (Rp.mono hS _ _ ra), Rp.dp _ _ (SeqAt.canLay_of_shaped hl.2) (Rp.mono hS _ _ rb), hl.1, hl.2, h _ S H (Ext.refl hS) (.bl _)⟩
    · cases q
end

/-! ### unary -/
def gNeg : PD → R PD
  | .int i => .ok (.int (-i))
  | _ => .no
section
variable {X : Cx} {W : WX} {f f1 f2 : En → R PD} {fs : En → R (List PD)} {a b e : Expr} {es : List Expr} {pos p : Pos} {x : Str}
theorem pd_neg (ha : PE X a (tD X.K X.mg W f)) : PE X (.UnaryOp .USub a pos) (tD X.K X.mg W (d1 gNeg f)) := PEimp (pe_un un_neg ha) fun σ H Q ⟨G, ρ, S, rel, h⟩ => by
  refine tG.mk rel (wG.imp ?_ (wG.bind (rp := Rp X.K) h))
  rintro v H1 ⟨S1, d, e1, ra, h1⟩
  cases d with
  | int i => cases ra; exact ⟨i, rfl, h1 _ S1 H1 (Ext.refl e1.inn) (.int _)⟩
  | _ => exact h1.elim

/-! ### subscripts -/
def gIx : PD → PD → R PD
  | .list ds, .int i => (match atI ds i with
    | some d => .ok d
    | none => .no)
  | .tuple ds, .int i => (match atI ds i with
    | some d => .ok d
    | none => .no)
  | .str z, .int i => if z.length ≤ 16777216 then (match atI z.cps.toList i with
    | some c => .ok (.str ⟨#[c]⟩)
    | none => .no) else .no
  | _, _ => .no
theorem noEx_ix : NoEx gIx := fun a b c h => by
  unfold gIx at h
  split at h
  · split at h <;> cases h
  · split at h <;> cases h
  · split at h
    · split at h <;> cases h
    · cases h
  · cases h
theorem atI_rp {K : PySem.W.Frag} {S : Hp} {vs : List V} {ds : List PD} {i : Int} {d : PD} (h : RpA K S vs ds) (e : atI ds i = some d) : ∃ v, atI vs i = some v ∧ Rp K S v d := by
  unfold atI at e ⊢
  rw [h.length]
  cases q : ixN ds.length i with
  | none => rw [q] at e; cases e
  | some j =>
    rw [q] at e
    exact h.get e
theorem pd_ix (ha : PE X a (tD X.K X.mg W f1)) (hb : PE X b (tD X.K X.mg W f2)) (hs : PlainIx b := by exact fun _ _ => rfl) : PE X (.Subscript a b pos) (tD X.K X.mg W (d2 gIx f1 f2)) :=
  PEimp (pe_ix (ix_seq (X := X)) ha hb hs) (d2_of (fun x y H Q ⟨S, a, b, hS, ra, rb, h⟩ => by
    cases q : gIx a b with
    | ex c => rw [q] at h; exact h.elim
    | no => rw [q] at h; exact h.elim
    | ok d =>
      rw [q] at h
      dsimp only at h
      unfold gIx at q
      split at q
      · cases rb
        cases ra with
        | lst h1 a1 =>
          split at q
          · rename_i d e
            cases q
            obtain ⟨v, hv, hr⟩ := atI_rp a1 e
            exact .inl ⟨_, _, _, v, rfl, rfl, Same.seq hS h1, hv, h v S H (Ext.refl hS) hr⟩
          · cases q
      · cases rb
        cases ra with
        | tup h1 a1 =>
          split at q
          · rename_i d e
            cases q
            obtain ⟨v, hv, hr⟩ := atI_rp a1 e
            exact .inr (.inl ⟨_, _, _, v, rfl, rfl, Same.seqT hS h1, hv, h v S H (Ext.refl hS) hr⟩)
          · cases q
      · cases rb
        cases ra
        split at q
        · rename_i hl
          split at q
          · rename_i c e
            cases q
            exact .inr (.inr ⟨_, _, c, rfl, rfl, hl, e, h _ S H (Ext.refl hS) (.str _)⟩)
          · cases q
        · cases q
      · cases q) noEx_ix)
def cutD {α : Type} (xs : List α) (lo hi : Option Int) : List α := (xs.drop (HT.sIx xs.length 0 lo)).take (HT.sIx xs.length xs.length hi - HT.sIx xs.length 0 lo)
def gSl (d : PD) (lo hi : Option Int) : R PD := match d with
  | .list ds => .ok (.list (cutD ds lo hi))
  | .tuple ds => .ok (.tuple (cutD ds lo hi))
  | .str z => if z.length ≤ 16777216 then .ok (.str (cutS z lo hi)) else .no
  | _ => .no
def toI : PD → R (Option Int)
  | .int i => .ok (some i)
  | _ => .no
def dP (f : En → R PD) : En → R (Option Int) := fun ρ => (f ρ).bind toI
def dP0 : En → R (Option Int) := fun _ => .ok none
def dSl (f : En → R PD) (lo hi : En → R (Option Int)) : En → R PD := fun ρ => (f ρ).bind fun d => (lo ρ).bind fun l => (hi ρ).bind fun h => gSl d l h
def rpO : Hp → Option Int → Option Int → Prop := fun _ b a => b = a
abbrev tDO (K : PySem.W.Frag) (mg : MG) (W : WX) (f : En → R (Option Int)) : TO := tG rpO K mg W f
theorem POimp {o : Option Expr} {t t' : TO} (h : PO X o t) (i : ∀ σ H Q, t' σ H Q → t σ H Q) : PO X o t' := ⟨fun pins s σ H Q I q => h.run pins s σ H Q I (i σ H Q q)⟩
theorem po_d0 : PO X none (tDO X.K X.mg W dP0) := POimp po_none fun σ H Q ⟨G, ρ, S, rel, h⟩ => h none S H (Ext.refl rel.inn) rfl
theorem po_d (he : PE X e (tD X.K X.mg W f)) : PO X (some e) (tDO X.K X.mg W (dP f)) := POimp (po_some he) fun σ H Q ⟨G, ρ, S, rel, h⟩ => by
  refine tG.mk rel (wG.imp ?_ (wG.bind (rp := Rp X.K) h))
  rintro v H1 ⟨S1, d, e1, ra, h1⟩
  cases d with
  | int i => cases ra; exact ⟨i, rfl, h1 (some i) S1 H1 (Ext.refl e1.inn) rfl⟩
  | _ => exact h1.elim
theorem cut_rp {K : PySem.W.Frag} {S : Hp} {vs : List V} {ds : List PD} {lo hi : Option Int} (h : RpA K S vs ds) : RpA K S (cutV vs lo hi) (cutD ds lo hi) := by
  unfold cutV cutD
  rw [h.length]
  exact (h.drop _).take _
theorem cut_all {α : Type} {xs : List α} {lo hi : Option Int} (h : HT.sIx xs.length 0 lo = 0 ∧ HT.sIx xs.length xs.length hi = xs.length) : cutD xs lo hi = xs := by
  unfold cutD
  rw [h.1, h.2]
  simp
theorem pd_sl {lo hi : Option Expr} {p2 : Pos} {l h : En → R (Option Int)} (ha : PE X a (tD X.K X.mg W f)) (hl : PO X lo (tDO X.K X.mg W l)) (hh : PO X hi (tDO X.K X.mg W h)) : PE X (.Subscript a (.Slice lo hi none p2) pos) (tD X.K X.mg W (dSl f l h)) :=
  PEimp (pe_slice (sl_list.or (sl_tupA.or sl_str)) ha hl hh) fun σ H Q ⟨G, ρ, S, rel, q⟩ => by
    refine tG.mk rel (wG.imp ?_ (wG.bind (rp := Rp X.K) q))
    rintro v H1 ⟨S1, d, e1, ra, q1⟩
    refine tG.mk (rel.ext e1) (wG.imp ?_ (wG.bind (rp := rpO) q1))
    rintro l H2 ⟨S2, l', e2, rl, q2⟩
    refine tG.mk ((rel.ext e1).ext e2) (wG.imp ?_ (wG.bind (rp := rpO) q2))
    rintro h H3 ⟨S3, h', e3, rh, q3⟩
    cases rl
    cases rh
    have ra3 := Rp.mono (e2.sub.trans e3.sub) _ _ ra
    have hS := e3.inn
    cases d with
    | list ds =>
      cases ra3 with
      | lst h1 a1 =>
        refine .inl ⟨_, _, rfl, Same.seq hS h1, fun p hp => ?_⟩
        have z := Rp.newL hS hp (cut_rp (lo := l) (hi := h) a1)
        exact q3 _ _ _ z.1 z.2
    | tuple ds =>
      cases ra3 with
      | tup h1 a1 =>
        refine .inr (.inl ⟨_, _, rfl, Same.seqT hS h1, fun hw => ?_, fun _ p hp => ?_⟩)
        · rw [a1.length] at hw
          have q4 : wG (Rp X.K) X.mg W σ S3 H3 Q (.ok (.tuple (cutD ds l h))) := q3
          rw [cut_all hw] at q4
          exact q4 _ S3 H3 (Ext.refl hS) (.tup h1 a1)
        · have z := Rp.newT hS hp (cut_rp (lo := l) (hi := h) a1)
          exact q3 _ _ _ z.1 z.2
    | str z =>
      cases ra3
      have q4 : wG (Rp X.K) X.mg W σ S3 H3 Q (if z.length ≤ 16777216 then .ok (.str (cutS z l h)) else .no) := q3
      by_cases hz : z.length ≤ 16777216
      · rw [if_pos hz] at q4
        exact .inr (.inr ⟨_, rfl, hz, q4 _ S3 H3 (Ext.refl hS) (.str _)⟩)
      · rw [if_neg hz] at q4
        exact q4.elim
    | _ => exact q3.elim

/-! ### built-ins by name -/
def CallD (X : Cx) (fv : Value) (g : List PD → R PD) : Prop := CallR X fv fun vs H Q => ∃ S ds, Same S H ∧ RpA X.K S vs ds ∧ match g ds with
  | .ok d => ∀ v S' H', Ext S H S' H' → Rp X.K S' v d → Q v H'
  | _ => False
def NoExL (g : List PD → R PD) : Prop := ∀ a c, g a ≠ .ex c
theorem cd_of {fv : Value} {g : List PD → R PD} (hn : NoExL g) : ∀ σ H Q, tD X.K X.mg W (dA g fs) σ H Q → tCB (fun vs H Q => ∃ S ds, Same S H ∧ RpA X.K S vs ds ∧ match g ds with
  | .ok d => ∀ v S' H', Ext S H S' H' → Rp X.K S' v d → Q v H'
  | _ => False) (tDA X.K X.mg W fs) σ H Q := by
  rintro σ H Q ⟨G, ρ, S, rel, h⟩
  refine tG.mk rel (wG.imp ?_ (wG.bind (rp := RpA X.K) h))
  rintro vs H1 ⟨S1, ds, e1, ra, h1⟩
  refine ⟨S1, ds, e1.inn, ra, ?_⟩
  cases q : g ds with
  | ok d => rw [q] at h1; exact h1
  | ex c => exact absurd q (hn ds c)
  | no => rw [q] at h1; exact h1
theorem pd_b {id : String} {g : List PD → R PD} (hc : CallD X (.builtin id) g) (hn : NoExL g) (hm : X.mg x = none) (hv : bootBuiltins x = some (.builtin id)) (ha : PA X (e :: es) (tDA X.K X.mg W fs)) (hg : Gl X x := by rfl) (hnn : x ≠ "__name__" := by decide) (hdb : (x == ("__debug__" : Str)) = false := by decide)
    (he : starEach (e :: es) X.env = (false, eval e X.env) :: starEach es X.env := by rfl) (hpl : (backTo pos (starEach es X.env)).any (·.1) = false := by rfl) : PE X (.Call (.Name x p) (e :: es) [] pos) (tD X.K X.mg W (dA g fs)) :=
  PEimp (pe_callB hc hg hm hv ha hnn hdb he hpl) (cd_of (fv := .builtin id) hn)
theorem pd_bt {T : String} {g : List PD → R PD} (hc : CallD X (.type T) g) (hn : NoExL g) (hm : X.mg x = none) (hv : bootBuiltins x = some (.type T)) (ha : PA X (e :: es) (tDA X.K X.mg W fs)) (hg : Gl X x := by rfl) (hnn : x ≠ "__name__" := by decide) (hdb : (x == ("__debug__" : Str)) = false := by decide)
    (he : starEach (e :: es) X.env = (false, eval e X.env) :: starEach es X.env := by rfl) (hpl : (backTo pos (starEach es X.env)).any (·.1) = false := by rfl) : PE X (.Call (.Name x p) (e :: es) [] pos) (tD X.K X.mg W (dA g fs)) :=
  PEimp (pe_callTy hc hg hm hv ha hnn hdb he hpl) (cd_of (fv := .type T) hn)
def gLen : List PD → R PD
  | [.list ds] => .ok (.int ds.length)
  | [.tuple ds] => .ok (.int ds.length)
  | [.str z] => if z.length ≤ 16777216 then .ok (.int z.length) else .no
  | _ => .no
theorem nx_len : NoExL gLen := fun a c h => by unfold gLen at h; split at h <;> first | (split at h <;> cases h) | cases h
theorem cd_len : CallD X (.builtin "len") gLen := by
  refine CallD_ofX fun pins s σ H vs us Q S ds d I r hS ra q h => ?_
  unfold gLen at q
  split at q
  · cases ra with
    | cons r1 r2 =>
      cases r2
      cases r1 with
      | lst h1 a1 =>
        cases q
        exact call_len pins s σ H _ us Q I r ⟨_, _, rfl, .inl ⟨_, Same.seq hS h1, rfl⟩, by rw [a1.length]; exact h _ S H (Ext.refl hS) (.int _)⟩
  · cases ra with
    | cons r1 r2 =>
      cases r2
      cases r1 with
      | tup h1 a1 =>
        cases q
        exact call_len pins s σ H _ us Q I r ⟨_, _, rfl, .inr ⟨_, Same.seqT hS h1, rfl⟩, by rw [a1.length]; exact h _ S H (Ext.refl hS) (.int _)⟩
  · cases ra with
    | cons r1 r2 =>
      cases r2
      cases r1
      split at q
      · rename_i hl
        cases q
        exact call_len pins s σ H _ us Q I r ⟨_, _, rfl, ⟨hl, rfl⟩, h _ S H (Ext.refl hS) (.int _)⟩
      · cases q
  · cases q
def gAbs : List PD → R PD
  | [.int i] => .ok (.int (if i < 0 then -i else i))
  | _ => .no
theorem nx_abs : NoExL gAbs := fun a c h => by unfold gAbs at h; split at h <;> cases h
theorem cd_abs : CallD X (.builtin "abs") gAbs := by
  refine CallD_ofX fun pins s σ H vs us Q S ds d I r hS ra q h => ?_
  unfold gAbs at q
  split at q
  · cases ra with
    | cons r1 r2 =>
      cases r2
      cases r1
      cases q
      exact call_abs pins s σ H _ us Q I r ⟨_, rfl, h _ S H (Ext.refl hS) (.int _)⟩
  · cases q
def gInt : List PD → R PD
  | [.int i] => .ok (.int i)
  | [.bool b] => .ok (.int (if b then 1 else 0))
  | _ => .no
theorem nx_int : NoExL gInt := fun a c h => by unfold gInt at h; split at h <;> cases h
theorem cd_int : CallD X (.type "int") gInt := by
  refine CallD_ofX fun pins s σ H vs us Q S ds d I r hS ra q h => ?_
  unfold gInt at q
  split at q
  · cases ra with
    | cons r1 r2 =>
      cases r2
      cases r1
      cases q
      exact call_int1 pins s σ H _ us Q I r (.inl ⟨_, rfl, h _ S H (Ext.refl hS) (.int _)⟩)
  · cases ra with
    | cons r1 r2 =>
      cases r2
      cases r1
      cases q
      exact call_int1 pins s σ H _ us Q I r (.inr ⟨_, rfl, h _ S H (Ext.refl hS) (.int _)⟩)
  · cases q
def gMax : List PD → R PD
  | [.int i, .int j] => .ok (.int (if j > i then j else i))
  | _ => .no
def gMin : List PD → R PD
  | [.int i, .int j] => .ok (.int (if j < i then j else i))
  | _ => .no
theorem nx_max : NoExL gMax := fun a c h => by unfold gMax at h; split at h <;> cases h
theorem nx_min : NoExL gMin := fun a c h => by unfold gMin at h; split at h <;> cases h
theorem cd_max (hc : X.calm = true) : CallD X (.builtin "max") gMax := by
  refine CallD_ofX fun pins s σ H vs us Q S ds d I r hS ra q h => ?_
  unfold gMax at q
  split at q
  · cases ra with
    | cons r1 r2 =>
      cases r2 with
      | cons r2 r3 =>
        cases r3
        cases r1
        cases r2
        cases q
        exact call_max2 hc pins s σ H _ us Q I r ⟨_, _, rfl, h _ S H (Ext.refl hS) (.int _)⟩
  · cases q
theorem cd_min (hc : X.calm = true) : CallD X (.builtin "min") gMin := by
  refine CallD_ofX fun pins s σ H vs us Q S ds d I r hS ra q h => ?_
  unfold gMin at q
  split at q
  · cases ra with
    | cons r1 r2 =>
      cases r2 with
      | cons r2 r3 =>
        cases r3
        cases r1
        cases r2
        cases q
        exact call_min2 hc pins s σ H _ us Q I r ⟨_, _, rfl, h _ S H (Ext.refl hS) (.int _)⟩
  · cases q
def gListOf : List PD → R PD
  | [.list ds] => .ok (.list ds)
  | [.tuple ds] => .ok (.list ds)
  | _ => .no
def gTupOf : List PD → R PD
  | [.list ds] => .ok (.tuple ds)
  | [.tuple ds] => .ok (.tuple ds)
  | _ => .no
theorem nx_listOf : NoExL gListOf := fun a c h => by unfold gListOf at h; split at h <;> cases h
theorem nx_tupOf : NoExL gTupOf := fun a c h => by unfold gTupOf at h; split at h <;> cases h
theorem cd_listOf : CallD X (.type "list") gListOf := by
  refine CallD_ofX fun pins s σ H vs us Q S ds d I r hS ra q h => ?_
  unfold gListOf at q
  split at q
  · cases ra with
    | cons r1 r2 =>
      cases r2
      cases r1 with
      | lst h1 a1 =>
        cases q
        refine call_list_of pins s σ H _ us Q I r ⟨_, _, rfl, .inl (Same.seq hS h1), fun p hp => ?_⟩
        have z := Rp.newL hS hp a1
        exact h _ _ _ z.1 z.2
  · cases ra with
    | cons r1 r2 =>
      cases r2
      cases r1 with
      | tup h1 a1 =>
        cases q
        refine call_list_of pins s σ H _ us Q I r ⟨_, _, rfl, .inr (Same.seqT hS h1), fun p hp => ?_⟩
        have z := Rp.newL hS hp a1
        exact h _ _ _ z.1 z.2
  · cases q
theorem cd_tupOf : CallD X (.type "tuple") gTupOf := by
  refine CallD_ofX fun pins s σ H vs us Q S ds d I r hS ra q h => ?_
  unfold gTupOf at q
  split at q
  · cases ra with
    | cons r1 r2 =>
      cases r2
      cases r1 with
      | lst h1 a1 =>
        cases q
        refine call_tuple_of pins s σ H _ us Q I r ⟨_, _, rfl, .inl ⟨Same.seq hS h1, fun p hp => ?_⟩⟩
        have z := Rp.newT hS hp a1
        exact h _ _ _ z.1 z.2
  · cases ra with
    | cons r1 r2 =>
      cases r2
      cases r1 with
      | tup h1 a1 =>
        cases q
        exact call_tuple_of pins s σ H _ us Q I r ⟨_, _, rfl, .inr ⟨Same.seqT hS h1, h _ S H (Ext.refl hS) (.tup h1 a1)⟩⟩
  · cases q
def intsOf : List PD → Option (List Int)
  | [] => some []
  | .int i :: r => (intsOf r).map (i :: ·)
  | _ :: _ => none
theorem intsOf_rp {K : PySem.W.Frag} {S : Hp} : ∀ {ds : List PD} {vs : List V} {ns : List Int}, RpA K S vs ds → intsOf ds = some ns → vs = ns.map V.int
  | [], _, _, h, e => by
    cases h
    cases e
    rfl
  | .int i :: r, _, ns, h, e => by
    cases h with
    | cons h1 h2 =>
      cases h1
      unfold intsOf at e
      cases q : intsOf r with
      | none => rw [q] at e; cases e
      | some ms =>
        rw [q] at e
        cases e
        rw [intsOf_rp h2 q]
        rfl
  | .none :: _, _, _, _, e => by cases e
  | .bool _ :: _, _, _, _, e => by cases e
  | .str _ :: _, _, _, _, e => by cases e
  | .list _ :: _, _, _, _, e => by cases e
  | .tuple _ :: _, _, _, _, e => by cases e
  | .dict _ :: _, _, _, _, e => by cases e
def gSum : List PD → R PD
  | [.list ds] => (match intsOf ds with
    | some ns => .ok (.int ns.sum)
    | none => .no)
  | _ => .no
theorem nx_sum : NoExL gSum := fun a c h => by
  unfold gSum at h
  split at h
  · split at h <;> cases h
  · cases h
theorem cd_sum (hc : X.calm = true) : CallD X (.builtin "sum") gSum := by
  refine CallD_ofX fun pins s σ H vs us Q S ds d I r hS ra q h => ?_
  unfold gSum at q
  split at q
  · cases ra with
    | cons r1 r2 =>
      cases r2
      cases r1 with
      | lst h1 a1 =>
        split at q
        · rename_i ns e
          have ev := intsOf_rp a1 e
          subst ev
          cases q
          exact cr_sum hc pins s σ H _ us Q I r ⟨_, ns, rfl, Same.seq hS h1, h _ S H (Ext.refl hS) (.int _)⟩
        · cases q
  · cases q
/-! isinstance(x, T), T a built-in type -/
def tyD : PD → String
  | .none => "NoneType"
  | .bool _ => "bool"
  | .int _ => "int"
  | .str _ => "str"
  | .list _ => "list"
  | .tuple _ => "tuple"
  | .dict _ => "dict"
def isExc : PD → Bool
  | .dict ((.none, _) :: _) => true
  | _ => false
theorem tyx_rp {K : PySem.W.Frag} {S H : Hp} {v : V} {d : PD} (hS : Same S H) (r : Rp K S v d) (hx : isExc d = false) : TyX K H v (.type (tyD d)) := by
  cases r with
  | non => exact .base .non
  | bl b => exact .base (.bl b)
  | int i => exact .base (.int i)
  | str x => exact .base (.str x)
  | lst h a =>
    rcases h with (h | ⟨o, h⟩) | ⟨o, its, n, h1, h2, _⟩
    · exact .base (.lst (hS _ _ h))
    · exact .base (.frz (hS _ _ h))
    · exact .kList h1 h2
  | tup h a =>
    rcases h with (h | ⟨o, h⟩) | ⟨o, its, n, h1, h2, _⟩
    · exact .base (.tup (hS _ _ h))
    · exact .fTuple (hS _ _ h)
    · exact .kTuple h1 h2
  | exc h => cases hx
  | dct h _ => exact .base (.dK (hS _ _ h))
def gIsi (T : String) (d : PD) : R PD := if isExc d = true then .no else match kitB (tyD d) T with
  | some b => .ok (.bool b)
  | none => .no
theorem pd_isi {T : String} {t : Str} {pt : Pos} (hm : X.mg "isinstance" = none) (hmt : X.mg t = none) (hv : bootBuiltins t = some (.type T)) (ha : PE X e (tD X.K X.mg W f)) (hg : Gl X "isinstance" := by rfl) (hgt : Gl X t := by rfl) (hnn : t ≠ "__name__" := by decide) (hdb : (t == ("__debug__" : Str)) = false := by decide)
    (he : starEach [e, .Name t pt] X.env = (false, eval e X.env) :: starEach [.Name t pt] X.env := by rfl) (he2 : starEach [.Name t pt] X.env = (false, eval (.Name t pt) X.env) :: starEach [] X.env := by rfl) (hpl : (backTo pos (starEach [.Name t pt] X.env)).any (·.1) = false := by rfl) :
    PE X (.Call (.Name "isinstance" p) [e, .Name t pt] [] pos) (tD X.K X.mg W (d1 (gIsi T) f)) :=
  PEimp (pe_callB call_isi hg hm (by decide +kernel) (pa_cons ha (pa_cons (pe_bltn (v := .ty T) hgt hmt hv rfl hnn hdb) pa_nil he2) he) (by decide) (by decide) he hpl) fun σ H Q ⟨G, ρ, S, rel, h⟩ => by
    refine tG.mk rel (wG.imp ?_ (wG.bind (rp := Rp X.K) h))
    rintro v H1 ⟨S1, d, e1, ra, h1⟩
    unfold gIsi at h1
    split at h1
    · exact h1.elim
    · rename_i hx
      split at h1
      · rename_i b hb
        exact ⟨v, .ty T, _, _, b, rfl, .ty T, tyx_rp e1.inn ra (by simpa using hx), kit_ty hb, h1 _ S1 H1 (Ext.refl e1.inn) (.bl b)⟩
      · exact h1.elim
end

/-! ### raise -/
structure ExAt (K : PySem.W.Frag) (mg : MG) (x : Str) : Prop where
  ex : ∃ C, mg x = some (.ref C) ∧ PySem.W.excIn K C He.veBase "ValueError.__new__" = true ∧ PySem.W.keepIn K (.ref C) = true ∧ PySem.W.subIn K (.ref C) (.type "BaseException") = some true ∧ PySem.W.typeIn K (.ref C) = some (.type "type")
section
variable {X : Cx} {W : WX} {x m : Str} {p p2 pos pos' : Pos} {j : Nat}
theorem sd_raise (hc : X.calm = true) (tk : Takes X W) (E : ExAt X.K X.mg x) (hg : Gl X x := by rfl) (hdb : (x == ("__debug__" : Str)) = false := by decide) : PS X (.Raise (some (.Call (.Name x p) [.Constant (.str m) j p2] [] pos)) none pos') (tS X.K X.mg W (sRaise x)) := by
  obtain ⟨C, h1, h2, h3, h4, h5⟩ := E.ex
  exact PSimp (ps_raise hc tk (pmk_own PySem.F.excBase_ValueError h2 h1 h3 (raises_own h4 h5) hg hdb)) fun D σ H ⟨G, ρ, S, r, q⟩ => q _ σ S H h1 (Same.refl _) r
end

/-! ### a def -/
def fnD (m : Nat) (den : En → Fl) (ds : List PD) : R PD := match den (ds.map (fun d => some (.d d)) ++ List.replicate (m - ds.length) none) with
  | .rt d => .ok d
  | .nx _ => .ok .none
  | .ex c _ => .ex c
  | _ => .no
theorem getL {α β : Type} {f : α → β} {l : List α} {m : Nat} {i : Nat} {b : β} {c : β} (h : (l.map f ++ List.replicate m c)[i]? = some b) (hb : b ≠ c) : ∃ a, l[i]? = some a ∧ b = f a := by
  by_cases hi : i < l.length
  · rw [List.getElem?_append_left (by simpa using hi), List.getElem?_map] at h
    cases e : l[i]? with
    | none => rw [e] at h; cases h
    | some a => rw [e] at h; cases h; exact ⟨a, rfl, rfl⟩
  · rw [List.getElem?_append_right (by simpa using hi), List.getElem?_replicate] at h
    split at h
    · cases h; exact absurd rfl hb
    · cases h
theorem Rel.start {K : PySem.W.Frag} {S H : Hp} {vs : List V} {ds : List PD} {N : List Str} (hS : Same S H) (r : RpA K S vs ds) : Rel K ⟨S, H, 0, []⟩ S (start N vs) (ds.map (fun d => some (.d d)) ++ List.replicate (N.length - ds.length) none) H := by
  refine ⟨fun _ => [], ⟨?_, hS, Same.refl _, Same.refl _, fun _ _ h => .inl h, (fun _ h => nomatch h), fun i x h => ?_, (fun _ _ h => nomatch h), (fun _ _ _ _ h => nomatch h), (fun _ _ h => nomatch h)⟩⟩
  · unfold L2.start; simp [r.length]
  · obtain ⟨d, h1, h2⟩ := getL h (by intro z; cases z)
    cases h2
    obtain ⟨v, hv, hr⟩ := r.get h1
    refine ⟨v, ?_, hr⟩
    unfold L2.start
    have hi : i < vs.length := (List.getElem?_eq_some_iff.mp hv).1
    rw [List.getElem?_append_left (by simpa using hi), List.getElem?_map, hv]
    rfl
section
variable {P : Program} {w : World} {K : PySem.W.Frag} {mg : MG} {base : Heap}
theorem okD {x qual : Str} {params : Arguments} {body : List Stmt} {scope : Scope} {dvs : List V} {kws : List (Str × V)} {f : Addr} {fd : FuncData} {N ps : List Str} {k n : Nat} {den : En → Fl} (F : FunD K x qual params body scope dvs kws f fd) (S : FnScope N ps scope) (hn : ps.length = n)
    (hb : ∀ (cdv : Value) (A : Around) (outer : List Env) (s : Shared) (H : Hp) (E : XK), Room k (A.deeper (PyProof.Rows.envOfC qual scope s.heap.objs.size f cdv)) → PSs (cxOf (L2.CX P w) P w K mg base N qual scope f cdv A outer s H E) body (tS K mg (fun cls d _ H => E cls d H) den)) :
    FnOk P w K mg base (L2.CX P w) (k + 1) f fd ps (spD K mg n (fnD N.length den)) := by
  refine F.ok S (fun vs H Q E h => ?_) (fun cdv A outer s H vs Q E hr h => ⟨_, hb cdv A outer s H E hr, ?_⟩)
  · obtain ⟨S', ds, _, hr, hl, _⟩ := h
    rw [hr.length, hl, hn]
  · obtain ⟨S', ds, hS, hr2, hl, h⟩ := h
    refine ⟨⟨S', H, 0, []⟩, _, S', Rel.start hS hr2, ?_⟩
    unfold fnD at h
    cases q : den (ds.map (fun d => some (.d d)) ++ List.replicate (N.length - ds.length) none) with
    | nx ρ => rw [q] at h; exact fun σ S2 H2 s2 r => h .non S2 H2 r.fin .non
    | rt d => rw [q] at h; exact fun v S2 H2 e r => h v S2 H2 e r
    | rm d ρ => rw [q] at h; exact h.elim
    | ex c ρ => rw [q] at h; exact fun cls σ S2 H2 m s2 r => h cls S2 H2 m r.fin
    | bk ρ => rw [q] at h; exact h.elim
    | ct ρ => rw [q] at h; exact h.elim
    | no => rw [q] at h; exact h.elim
theorem FnAt.imp {x : Str} {k n : Nat} {Bs : List (List PD)} {g g' : List PD → R PD} (F : FnAt P w K mg base x k n Bs g) (h : ∀ ds, g' ds = .no ∨ g' ds = g ds) : FnAt P w K mg base x k n Bs g' := by
  obtain ⟨f, fd, ps, h1, h2, h3, h4⟩ := F.ex
  refine ⟨f, fd, ps, h1.imp fun vs H Q E q => ?_, h2, h3, h4⟩
  obtain ⟨S, ds, a, b, c, q⟩ := q
  refine ⟨S, ds, a, b, c, ?_⟩
  rcases h ds with e | e
  · rw [e] at q; exact q.elim
  · rw [e] at q; exact q
end
end DL

set_option Elab.async false
set_option linter.all false
set_option maxRecDepth 100000
set_option maxHeartbeats 4000000
set_option autoImplicit false
/-! the data layer 6: in, is None, chains; lists of one's own; keyword calls; targets of an assignment -/
namespace DL
open PySem L2

/-! ### in, not in -/
def flatD : PD → Bool
  | .none => true
  | .bool _ => true
  | .int _ => true
  | .str _ => true
  | _ => false
def inL (d : PD) (ds : List PD) : R Bool := if flatD d = true ∧ ds.all flatD = true then .ok (ds.any fun y => PyData.eqv y d) else
  if SeqAt.shaped d = true ∧ SeqAt.shaped (.list ds) = true then .ok (ds.any fun y => PyData.eqv y d) else .no
def gIn (neg : Bool) : PD → PD → R PD
  | d, .list ds => (inL d ds).bind fun b => .ok (.bool (b != neg))
  | d, .tuple ds => (inL d ds).bind fun b => .ok (.bool (b != neg))
  | .str x, .str z => .ok (.bool ((!(Builtin.Str.occurrences z x 0 z.length 1).isEmpty) != neg))
  | _, _ => .no
theorem noEx_in {neg : Bool} : NoEx (gIn neg) := fun a b c h => by
  have no : ∀ d ds c, inL d ds ≠ .ex c := fun d ds c h => by
    unfold inL at h
    split at h
    · cases h
    · split at h <;> cases h
  unfold gIn at h
  split at h
  · rename_i ds
    cases q : inL a ds with
    | ok b => rw [q] at h; cases h
    | ex c => exact no _ _ _ q
    | no => rw [q] at h; cases h
  · rename_i ds
    cases q : inL a ds with
    | ok b => rw [q] at h; cases h
    | ex c => exact no _ _ _ q
    | no => rw [q] at h; cases h
  · cases h
  · cases h
theorem flat_rp {K : PySem.W.Frag} {S : Hp} {v : V} {d : PD} (r : Rp K S v d) (h : flatD d = true) : flatV v = true := by
  cases r <;> first | rfl | cases h
theorem eqv_rp {K : PySem.W.Frag} {S : Hp} {v u : V} {d e : PD} (r : Rp K S v d) (r2 : Rp K S u e) (h : flatD d = true) (h2 : flatD e = true) : eqV v u = PyData.eqv d e := by
  cases r <;> first | (cases h; done) | (cases r2 <;> first | (cases h2; done) | simp only [eqV, PyData.eqv])
theorem flatA_rp {K : PySem.W.Frag} {S : Hp} : ∀ {ds : List PD} {vs : List V}, RpA K S vs ds → ds.all flatD = true → vs.all flatV = true
  | [], _, h, _ => by cases h; rfl
  | d :: ds, _, h, f => by
    cases h with
    | cons h1 h2 =>
      rw [List.all_cons, Bool.and_eq_true] at f ⊢
      exact ⟨flat_rp h1 f.1, flatA_rp h2 f.2⟩
theorem inV_rp {K : PySem.W.Frag} {S : Hp} {v : V} {d : PD} (r : Rp K S v d) (hd : flatD d = true) : ∀ {ds : List PD} {vs : List V}, RpA K S vs ds → ds.all flatD = true → inV v vs = ds.any fun y => PyData.eqv y d
  | [], _, h, _ => by cases h; rfl
  | e :: ds, _, h, f => by
    cases h with
    | cons h1 h2 =>
      rw [List.all_cons, Bool.and_eq_true] at f
      have := inV_rp r hd h2 f.2
      unfold inV at this ⊢
      rw [List.any_cons, List.any_cons, eqv_rp h1 r f.1 hd, this]
section
variable {X : Cx}
def rInT (K : PySem.W.Frag) (neg : Bool) : R2 := fun x y H Q => ∃ d ds, Dp K H x d ∧ Dp K H y (.tuple ds) ∧ SeqAt.shaped d = true ∧ SeqAt.shaped (.list ds) = true ∧ Q (.bl ((ds.any fun z => PyData.eqv z d) != neg)) H
theorem op_inT (hu : X.A.units + 65 < cLine) : OpR X (compareOp .In) (rInT X.K false) := by
  intro pins s σ H x y v u Q I rx ry h
  obtain ⟨d, ds, hd, he, sd, se, q⟩ := h
  obtain ⟨as, r1⟩ := Dp.reads I d x v hd rx
  obtain ⟨bs, r2⟩ := Dp.reads I (.tuple ds) y u he ry
  refine SeqAt.in_tuple_reads r2 r1 (SeqAt.canLay_of_shaped se) (SeqAt.canLay_of_shaped sd) (PyProof.Rows.room_in_shaped sd hu) ⟨.bl _, H, I, rfl, ?_⟩
  simpa using q
theorem op_notInT (hu : X.A.units + 65 < cLine) : OpR X (compareOp .NotIn) (rInT X.K true) := by
  intro pins s σ H x y v u Q I rx ry h
  obtain ⟨d, ds, hd, he, sd, se, q⟩ := h
  obtain ⟨as, r1⟩ := Dp.reads I d x v hd rx
  obtain ⟨bs, r2⟩ := Dp.reads I (.tuple ds) y u he ry
  refine SeqAt.notIn_tuple_reads r2 r1 (SeqAt.canLay_of_shaped se) (SeqAt.canLay_of_shaped sd) (PyProof.Rows.room_in_shaped sd hu) ⟨.bl _, H, I, rfl, ?_⟩
  simpa using q
theorem inL_cases {d : PD} {ds : List PD} {b : Bool} (h : inL d ds = .ok b) : b = (ds.any fun y => PyData.eqv y d) ∧ ((flatD d = true ∧ ds.all flatD = true) ∨ (SeqAt.shaped d = true ∧ SeqAt.shaped (.list ds) = true)) := by
  unfold inL at h
  split at h
  · rename_i hf
    cases h
    exact ⟨rfl, .inl hf⟩
  · split at h
    · rename_i hf
      cases h
      exact ⟨rfl, .inr hf⟩
    · cases h
theorem od_in (hu : X.A.units + 65 < cLine) : OpD X (compareOp .In) (gIn false) := by
  refine OpD_of fun pins s σ H x y v u Q S a b d I rx ry hS ra rb q h => ?_
  unfold gIn at q
  split at q
  · rename_i ds
    cases e : inL a ds with
    | ok k =>
      rw [e] at q
      cases q
      obtain ⟨rfl, hc⟩ := inL_cases e
      cases rb with
      | lst h1 a1 =>
        rcases hc with ⟨f1, f2⟩ | ⟨f1, f2⟩
        · exact op_in_seq pins s σ H _ _ v u Q I rx ry ⟨_, _, rfl, .inl (Same.seq hS h1), flat_rp ra f1, flatA_rp a1 f2, by rw [if_neg Bool.false_ne_true, inV_rp ra f1 a1 f2]; exact h _ S H (Ext.refl hS) (by simpa using Rp.bl _)⟩
        · exact op_inD hu pins s σ H _ _ v u Q I rx ry ⟨_, _, Rp.dp _ _ (SeqAt.canLay_of_shaped f1) (Rp.mono hS _ _ ra), Rp.dp _ _ (SeqAt.canLay_of_shaped f2) (Rp.mono hS _ _ (.lst h1 a1)), f1, f2, h _ S H (Ext.refl hS) (by simpa using Rp.bl _)⟩
    | ex c => rw [e] at q; cases q
    | no => rw [e] at q; cases q
  · rename_i ds
    cases e : inL a ds with
    | ok k =>
      rw [e] at q
      cases q
      obtain ⟨rfl, hc⟩ := inL_cases e
      cases rb with
      | tup h1 a1 =>
        rcases hc with ⟨f1, f2⟩ | ⟨f1, f2⟩
        · exact op_in_seq pins s σ H _ _ v u Q I rx ry ⟨_, _, rfl, .inr (Same.seqT hS h1), flat_rp ra f1, flatA_rp a1 f2, by rw [if_neg Bool.false_ne_true, inV_rp ra f1 a1 f2]; exact h _ S H (Ext.refl hS) (by simpa using Rp.bl _)⟩
        · exact op_inT hu pins s σ H _ _ v u Q I rx ry ⟨_, _, Rp.dp _ _ (SeqAt.canLay_of_shaped f1) (Rp.mono hS _ _ ra), Rp.dp _ _ (SeqAt.canLay_of_shaped f2) (Rp.mono hS _ _ (.tup h1 a1)), f1, f2, h _ S H (Ext.refl hS) (.bl _)⟩
    | ex c => rw [e] at q; cases q
    | no => rw [e] at q; cases q
  · cases ra
    cases rb
    cases q
    exact op_in_str pins s σ H _ _ v u Q I rx ry ⟨_, _, rfl, rfl, h _ S H (Ext.refl hS) (by simpa using Rp.bl _)⟩
  · cases q
theorem od_notin (hu : X.A.units + 65 < cLine) : OpD X (compareOp .NotIn) (gIn true) := by
  refine OpD_of fun pins s σ H x y v u Q S a b d I rx ry hS ra rb q h => ?_
  unfold gIn at q
  split at q
  · rename_i ds
    cases e : inL a ds with
    | ok k =>
      rw [e] at q
      cases q
      obtain ⟨rfl, hc⟩ := inL_cases e
      cases rb with
      | lst h1 a1 =>
        rcases hc with ⟨f1, f2⟩ | ⟨f1, f2⟩
        · exact op_notIn_seq pins s σ H _ _ v u Q I rx ry ⟨_, _, rfl, .inl (Same.seq hS h1), flat_rp ra f1, flatA_rp a1 f2, by rw [if_pos rfl, inV_rp ra f1 a1 f2]; exact h _ S H (Ext.refl hS) (by simpa using Rp.bl _)⟩
        · exact op_notInD hu pins s σ H _ _ v u Q I rx ry ⟨_, _, Rp.dp _ _ (SeqAt.canLay_of_shaped f1) (Rp.mono hS _ _ ra), Rp.dp _ _ (SeqAt.canLay_of_shaped f2) (Rp.mono hS _ _ (.lst h1 a1)), f1, f2, h _ S H (Ext.refl hS) (by simpa using Rp.bl _)⟩
    | ex c => rw [e] at q; cases q
    | no => rw [e] at q; cases q
  · rename_i ds
    cases e : inL a ds with
    | ok k =>
      rw [e] at q
      cases q
      obtain ⟨rfl, hc⟩ := inL_cases e
      cases rb with
      | tup h1 a1 =>
        rcases hc with ⟨f1, f2⟩ | ⟨f1, f2⟩
        · exact op_notIn_seq pins s σ H _ _ v u Q I rx ry ⟨_, _, rfl, .inr (Same.seqT hS h1), flat_rp ra f1, flatA_rp a1 f2, by rw [if_pos rfl, inV_rp ra f1 a1 f2]; exact h _ S H (Ext.refl hS) (by simpa using Rp.bl _)⟩
        · exact op_notInT hu pins s σ H _ _ v u Q I rx ry ⟨_, _, Rp.dp _ _ (SeqAt.canLay_of_shaped f1) (Rp.mono hS _ _ ra), Rp.dp _ _ (SeqAt.canLay_of_shaped f2) (Rp.mono hS _ _ (.tup h1 a1)), f1, f2, h _ S H (Ext.refl hS) (.bl _)⟩
    | ex c => rw [e] at q; cases q
    | no => rw [e] at q; cases q
  · cases ra
    cases rb
    cases q
    exact op_notIn_str pins s σ H _ _ v u Q I rx ry ⟨_, _, rfl, rfl, h _ S H (Ext.refl hS) (by simpa using Rp.bl _)⟩
  · cases q
end

/-! ### is None; chains -/
def isNone : PD → Bool
  | .none => true
  | _ => false
def gIsN (neg : Bool) (d : PD) : R PD := .ok (.bool (isNone d != neg))
theorem isN_rp {K : PySem.W.Frag} {S : Hp} {v : V} {d : PD} (r : Rp K S v d) : decide (v = .non) = isNone d := by
  cases r with
  | non => simp [isNone]
  | bl b => simp [isNone]
  | int i => simp [isNone]
  | str x => simp [isNone]
  | lst _ _ => simp [isNone]
  | tup _ _ => simp [isNone]
  | exc _ => simp [isNone]
  | dct _ _ => simp [isNone]
section
variable {X : Cx} {W : WX} {f f1 f2 f3 : En → R PD} {a b c e : Expr} {pos pos' p : Pos} {j : Nat}
theorem tIsN_of : ∀ σ H Q, tD X.K X.mg W (d1 (gIsN false) f) σ H Q → tIsN (tD X.K X.mg W f) σ H Q := fun σ H Q ⟨G, ρ, S, rel, h⟩ => by
  refine tG.mk rel (wG.imp ?_ (wG.bind (rp := Rp X.K) h))
  rintro v H1 ⟨S1, d, e1, ra, h1⟩
  rw [isN_rp ra]
  exact h1 _ S1 H1 (Ext.refl e1.inn) (by simpa using Rp.bl _)
theorem tNotN_of : ∀ σ H Q, tD X.K X.mg W (d1 (gIsN true) f) σ H Q → tNotN (tD X.K X.mg W f) σ H Q := fun σ H Q ⟨G, ρ, S, rel, h⟩ => by
  refine tG.mk rel (wG.imp ?_ (wG.bind (rp := Rp X.K) h))
  rintro v H1 ⟨S1, d, e1, ra, h1⟩
  rw [isN_rp ra]
  exact h1 _ S1 H1 (Ext.refl e1.inn) (by simpa using Rp.bl _)
theorem pd_isN (ha : PE X a (tD X.K X.mg W f)) : PE X (.Compare a [.Is] [.Constant .none j pos'] pos) (tD X.K X.mg W (d1 (gIsN false) f)) := PEimp (pe_cmp (pc_isN ha)) tIsN_of
theorem pd_notN (ha : PE X a (tD X.K X.mg W f)) : PE X (.Compare a [.IsNot] [.Constant .none j pos'] pos) (tD X.K X.mg W (d1 (gIsN true) f)) := PEimp (pe_cmp (pc_notN ha)) tNotN_of
theorem pt_isN (ha : PE X a (tD X.K X.mg W f)) : PT X (.Compare a [.Is] [.Constant .none j pos'] pos) (tDT X.K X.mg W (dT (d1 (gIsN false) f))) := PTimp (pt_cmp (pc_isN ha)) (dT_of tIsN_of)
theorem pt_notN (ha : PE X a (tD X.K X.mg W f)) : PT X (.Compare a [.IsNot] [.Constant .none j pos'] pos) (tDT X.K X.mg W (dT (d1 (gIsN true) f))) := PTimp (pt_cmp (pc_notN ha)) (dT_of tNotN_of)
/-- a op b op c -/
def dCh (g g' : PD → PD → R PD) (f1 f2 f3 : En → R PD) : En → R PD := fun ρ => (f1 ρ).bind fun a => (f2 ρ).bind fun b => (g a b).bind fun z => (toB z).bind fun k => if k = true then (f3 ρ).bind fun c => g' b c else .ok (.bool false)
theorem tChain_of {op op' : CmpOp} {g g' : PD → PD → R PD} (hn : NoEx g) (hn' : NoEx g') : ∀ σ H Q, tD X.K X.mg W (dCh g g' f1 f2 f3) σ H Q → tChain (fun x y H Q => ∃ S a b, Same S H ∧ Rp X.K S x a ∧ Rp X.K S y b ∧ match g a b with
    | .ok d => ∀ v S' H', Ext S H S' H' → Rp X.K S' v d → Q v H'
    | _ => False) (fun x y H Q => ∃ S a b, Same S H ∧ Rp X.K S x a ∧ Rp X.K S y b ∧ match g' a b with
    | .ok d => ∀ v S' H', Ext S H S' H' → Rp X.K S' v d → Q v H'
    | _ => False) (tD X.K X.mg W f1) (tD X.K X.mg W f2) (tD X.K X.mg W f3) σ H Q := fun σ H Q ⟨G, ρ, S, rel, h⟩ => by
  refine tG.mk rel (wG.imp ?_ (wG.bind (rp := Rp X.K) h))
  rintro x H1 ⟨S1, a, e1, ra, h1⟩
  refine tG.mk (rel.ext e1) (wG.imp ?_ (wG.bind (rp := Rp X.K) h1))
  rintro y H2 ⟨S2, b, e2, rb, h2⟩
  refine ⟨S2, a, b, e2.inn, Rp.mono e2.sub _ _ ra, rb, ?_⟩
  cases q : g a b with
  | ok d =>
    rw [q] at h2
    intro z S3 H3 e3 rz
    have h3 := wG.mono e3 h2
    cases d with
    | bool k =>
      cases rz
      refine ⟨k, rfl, ?_⟩
      cases k with
      | true =>
        rw [if_pos rfl]
        have h4 : wG (Rp X.K) X.mg W σ S3 H3 Q ((f3 ρ).bind fun c => g' b c) := h3
        refine tG.mk (((rel.ext e1).ext e2).ext e3) (wG.imp ?_ (wG.bind (rp := Rp X.K) h4))
        rintro w H4 ⟨S4, c, e4, rc, h5⟩
        refine ⟨S4, b, c, e4.inn, Rp.mono (e3.sub.trans e4.sub) _ _ rb, rc, ?_⟩
        cases q2 : g' b c with
        | ok d => rw [q2] at h5; exact h5
        | ex c' => exact absurd q2 (hn' b c c')
        | no => rw [q2] at h5; exact h5
      | false =>
        rw [if_neg Bool.false_ne_true]
        exact h3 (.bl false) S3 H3 (Ext.refl e3.inn) (.bl false)
    | _ => exact h3.elim
  | ex c => exact absurd q (hn a b c)
  | no => rw [q] at h2; exact h2.elim
theorem pd_ch {op op' : CmpOp} {g g' : PD → PD → R PD} (ho : OpD X (compareOp op) g) (hn : NoEx g) (ho' : OpD X (compareOp op') g') (hn' : NoEx g') (ha : PE X a (tD X.K X.mg W f1)) (hb : PE X b (tD X.K X.mg W f2)) (hc : PE X c (tD X.K X.mg W f3))
    (hm : lastMarks [op, op'] [b, c] = false := by with_unfolding_all rfl) : PE X (.Compare a [op, op'] [b, c] pos) (tD X.K X.mg W (dCh g g' f1 f2 f3)) := PEimp (pe_chain ho ho' ha hb hc hm) (tChain_of (op := op) (op' := op') hn hn')
theorem pt_ch {op op' : CmpOp} {g g' : PD → PD → R PD} (ho : OpD X (compareOp op) g) (hn : NoEx g) (ho' : OpD X (compareOp op') g') (hn' : NoEx g') (ha : PE X a (tD X.K X.mg W f1)) (hb : PE X b (tD X.K X.mg W f2)) (hc : PE X c (tD X.K X.mg W f3))
    (hm : lastMarks [op, op'] [b, c] = false := by with_unfolding_all rfl) : PT X (.Compare a [op, op'] [b, c] pos) (tDT X.K X.mg W (dT (dCh g g' f1 f2 f3))) := PTimp (pt_chain ho ho' ha hb hc hm) (dT_of (tChain_of (op := op) (op' := op') hn hn'))
end

/-! ### tuple targets -/
def sAsg (tg : Tg) (f : En → R PD) : En → Fl := sE f fun d ρ => match tg.put d ρ with
  | some ρ' => .nx ρ'
  | none => .no
section
variable {X : Cx} {W : WX} {f : En → R PD} {tg e : Expr} {T : Tg} {pos : Pos}
theorem sd_asg (hg : PG X tg (gOf X.K T)) (he : PE X e (tD X.K X.mg W f)) (hs : swapsWithSole [tg] e pos.line X.env = pure false := by rfl) (hw : swappedStores [tg] e X.env = pure none := by rfl) (h1 : (assignEach [tg] X.env).map (·.2) = [assign tg X.env] := by rfl) : PS X (.Assign [tg] e pos) (tS X.K X.mg W (sAsg T f)) :=
  PSimp (ps_asg he hg hs hw h1) fun D σ H ⟨G, ρ, S, r, q⟩ => tG.mk r (wG.imp (fun v H1 ⟨S1, a, e1, ra, r1, q1⟩ => by
    cases z : T.put a ρ with
    | none => rw [z] at q1; exact q1.elim
    | some ρ' => rw [z] at q1; exact gOf_ok r1 ra z fun σ' r' _ => q1 σ' S1 H1 (Same.refl _) r') (wS.ofE (rp := Rp X.K) r q))
end

/-! ### lists of one's own -/
/-- an expression that makes a new list, held by no one -/
def tL (K : PySem.W.Frag) (mg : MG) (W : WX) (f : En → R (List PD)) : TE := fun σ H Q => ∃ G ρ S, Rel K G S σ ρ H ∧ match f ρ with
  | .ok ds => ∀ D S' H' xs, Ext S H S' H' → H D = none → S' D = none → H' D = some (.lst xs) → RpA K S' xs ds → Q (.ref D) H'
  | .ex c => ∀ cls S' H', mg c = some cls → Ext S H S' H' → W cls none σ H'
  | .no => False
def sSetL (i : Nat) (f : En → R (List PD)) : En → Fl := sE f fun ds ρ => .nx (ρ.set i (some (.l ds)))
section
variable {X : Cx} {W : WX} {f f1 f2 : En → R PD} {fl : En → R (List PD)} {e : Expr} {es : List Expr} {pos pos' : Pos} {x : Str} {g : En → Fl} {sts : List Stmt}
theorem sd_setL (i : Nat) (hN : X.N.Nodup) (hi : X.N[i]? = some x) (hx : Loc X.env.scope x) (he : PE X e (tL X.K X.mg W fl)) (hs : swapsWith e (some (.Name x pos')) pos.line X.env = pure false := by rfl) (hf : X.fn x = true ∨ X.env.scope.names.lookup x = some .local := by first | exact .inl rfl | exact .inr rfl | assumption)
    (hw : swappedStores [.Name x pos'] e X.env = pure none := by rfl) :
    PS X (.Assign [.Name x pos'] e pos) (tS X.K X.mg W (sSetL i fl)) := PSimp (ps_asg he (pg_name hN hi hx hf) hs hw) fun D σ H ⟨G, ρ, S, r, q⟩ => by
  refine ⟨G, ρ, S, r, ?_⟩
  unfold sSetL sE at q
  cases z : fl ρ with
  | ok ds => rw [z] at q; exact fun D' S' H' xs e hD hS hH hr => q _ S' H' e.sub (r.newO (x := .l ds) e hD hS (ne_some hH) ⟨D', rfl, rfl, xs, hH, hr⟩ i)
  | ex c => rw [z] at q; exact fun cls S' H' m e => q cls σ S' H' m e.sub (r.ext e)
  | no => rw [z] at q; exact q
/-- a display -/
def lDisp (fl : En → R (List PD)) : En → R (List PD) := fun ρ => (fl ρ).bind fun ds => if ds.length ≤ 1000 then .ok ds else .no
theorem pl_lst (h : PA X es (tDA X.K X.mg W fl)) : PE X (.List es pos) (tL X.K X.mg W (lDisp fl)) := PEimp (pe_lst h) fun σ H Q ⟨G, ρ, S, rel, q⟩ => by
  unfold lDisp at q
  refine tG.mk rel ?_
  cases z : fl ρ with
  | ok ds =>
    rw [z] at q
    intro xs S1 H1 e1 ra
    simp only [R.bind_ok] at q
    by_cases hl : ds.length ≤ 1000
    · rw [if_pos hl] at q
      refine ⟨by rw [ra.length]; exact le_line hl, fun p hp => ?_⟩
      have e2 := e1.trans (Ext.fresh (o := .lst xs) e1.inn hp)
      exact q p S1 _ xs e2 (e1.all.free hp) (e1.inn.free hp) upd_same ra
    · rw [if_neg hl] at q; exact q.elim
  | ex c => rw [z] at q; exact q
  | no => rw [z] at q; exact q
theorem pl_lc {elt tg iter : Expr} {ifs : List Expr} {scope : Scope} {it : En → R (List PD)} {T : Tg} {tt : En → R Bool} {te : En → R PD} (own : List (Str × Nat)) (hc : X.calm = true) (hN : X.N.Nodup) (hi : PI X tg iter (tI X.K X.mg W it)) (ok : BlkOk X.N X.env.scope scope own) (hT : ∀ i ∈ T.slots, i ∈ own.map (·.2))
    (hg : ∀ (s : Shared) (H : Hp) (C : Addr) (cl : List (Str × Addr)) (fp : List Addr), PG (X.blk s H scope (compEnvC scope cl C X.env) fp) tg (gOf X.K T)) (ht : ∀ (s : Shared) (H : Hp) (C : Addr) (cl : List (Str × Addr)) (fp : List Addr), PTs (X.blk s H scope (compEnvC scope cl C X.env) fp) ifs (tDT X.K X.mg W0 tt))
    (he : ∀ (s : Shared) (H : Hp) (C : Addr) (cl : List (Str × Addr)) (fp : List Addr), PE (X.blk s H scope (compEnvC scope cl C X.env) fp) elt (tD X.K X.mg W0 te)) (hs : ∀ x, foldedSetIterable iter X.env x = pure x := by intro _; rfl) :
    PE X (.ListComp elt [⟨tg, iter, ifs, 0⟩] scope pos) (tL X.K X.mg W (dLcL it T (own.map (·.2)) tt te)) := PEimp (pe_lc hc hN hi ok hg ht he hs) fun σ H Q ⟨G, ρ, S, rel, h⟩ => lc_of hT rel h
/-- list(e) -/
def lOf : PD → R (List PD)
  | .list ds => .ok ds
  | .tuple ds => .ok ds
  | _ => .no
def lList (f : En → R PD) : En → R (List PD) := fun ρ => (f ρ).bind lOf
theorem pl_of {p : Pos} (hm : X.mg "list" = none) (ha : PE X e (tD X.K X.mg W f)) (hg : Gl X "list" := by rfl) (hs : starEach [e] X.env = (false, eval e X.env) :: starEach [] X.env := by rfl) (hpl : (backTo pos (starEach [] X.env)).any (·.1) = false := by rfl) :
    PE X (.Call (.Name "list" p) [e] [] pos) (tL X.K X.mg W (lList f)) := PEimp (pe_callTy call_list_of hg hm (by decide +kernel) (pa_cons ha pa_nil hs) (by decide) (by decide) hs hpl) fun σ H Q ⟨G, ρ, S, rel, q⟩ => by
  unfold lList at q
  refine tG.mk rel ?_
  cases z : f ρ with
  | ok d =>
    rw [z] at q
    intro v S1 H1 e1 ra
    cases d with
    | list ds =>
      cases ra with
      | lst h1 a1 => exact ⟨_, _, rfl, .inl (Same.seq e1.inn h1), fun p hp => q p S1 _ _ (e1.trans (Ext.fresh e1.inn hp)) (e1.all.free hp) (e1.inn.free hp) upd_same a1⟩
    | tuple ds =>
      cases ra with
      | tup h1 a1 => exact ⟨_, _, rfl, .inr (Same.seqT e1.inn h1), fun p hp => q p S1 _ _ (e1.trans (Ext.fresh e1.inn hp)) (e1.all.free hp) (e1.inn.free hp) upd_same a1⟩
    | _ => exact q.elim
  | ex c => rw [z] at q; exact q
  | no => rw [z] at q; exact q
/-- it is known from here on -/
def sFrz (i : Nat) (g : En → Fl) : En → Fl := fun ρ => match ρ[i]? with
  | some (some (.l xs)) => g (ρ.set i (some (.d (.list xs))))
  | _ => g ρ
theorem sd_frz (i : Nat) (h : PSs X sts (tS X.K X.mg W g)) : PSs X sts (tS X.K X.mg W (sFrz i g)) := PSsimp h fun D σ H ⟨G, ρ, S, r, q⟩ => by
  unfold sFrz at q
  split at q
  · rename_i xs e
    obtain ⟨a, vs, h1, h2, h4, h5, h6⟩ := r.known e
    refine ⟨G, _, _, h6, q.mono fun b o e => ?_⟩
    rw [upd_ne (ne_of_none e h2)]; exact e
  · exact ⟨G, ρ, S, r, q⟩
/-- an expression that looks at a list of one's own, its value no list or tuple -/
def atomD : PD → R PD
  | .none => .ok .none
  | .bool b => .ok (.bool b)
  | .int i => .ok (.int i)
  | .str x => .ok (.str x)
  | _ => .no
def dLend (i : Nat) (f : En → R PD) : En → R PD := fun ρ => match ρ[i]? with
  | some (some (.l xs)) => (f (ρ.set i (some (.d (.list xs))))).bind atomD
  | _ => f ρ
def dLendB (i : Nat) (f : En → R Bool) : En → R Bool := fun ρ => match ρ[i]? with
  | some (some (.l xs)) => f (ρ.set i (some (.d (.list xs))))
  | _ => f ρ
theorem pd_lend (i : Nat) (h : PE X e (tD X.K X.mg W f)) : PE X e (tD X.K X.mg W (dLend i f)) := PEimp h fun σ H Q ⟨G, ρ, S, r, q⟩ => by
  unfold dLend at q
  split at q
  · rename_i xs e
    obtain ⟨a, vs, h1, h2, h4, h5, h6⟩ := r.known e
    refine tG.mk h6 ?_
    cases z : f (ρ.set i (some (.d (.list xs)))) with
    | ok d =>
      rw [z] at q
      intro v S' H' e' ra
      cases d with
      | none => cases ra; exact q _ S H' (Ext.grow r.inn e'.all) .non
      | bool b => cases ra; exact q _ S H' (Ext.grow r.inn e'.all) (.bl b)
      | int b => cases ra; exact q _ S H' (Ext.grow r.inn e'.all) (.int b)
      | str b => cases ra; exact q _ S H' (Ext.grow r.inn e'.all) (.str b)
      | _ => exact q.elim
    | ex c => rw [z] at q; exact fun cls S' H' m e' => q cls S H' m (Ext.grow r.inn e'.all)
    | no => rw [z] at q; exact q
  · exact ⟨G, ρ, S, r, q⟩
theorem pt_lend {t : En → R Bool} (i : Nat) (h : PT X e (tDT X.K X.mg W t)) : PT X e (tDT X.K X.mg W (dLendB i t)) := PTimp h fun σ H Q ⟨G, ρ, S, r, q⟩ => by
  unfold dLendB at q
  split at q
  · rename_i xs e
    obtain ⟨a, vs, h1, h2, h4, h5, h6⟩ := r.known e
    refine tG.mk h6 ?_
    cases z : t (ρ.set i (some (.d (.list xs)))) with
    | ok d => rw [z] at q; exact fun v S' H' e' ra => q v S H' (Ext.grow r.inn e'.all) ra
    | ex c => rw [z] at q; exact fun cls S' H' m e' => q cls S H' m (Ext.grow r.inn e'.all)
    | no => rw [z] at q; exact q
  · exact ⟨G, ρ, S, r, q⟩
/-- its item -/
def dIxO (i : Nat) (f : En → R PD) : En → R PD := fun ρ => match ρ[i]? with
  | some (some (.l xs)) => (f ρ).bind fun d => match d with
    | .int k => (match atI xs k with
      | some d => .ok d
      | none => .no)
    | _ => .no
  | some (some (.d d)) => (f ρ).bind fun k => gIx d k
  | _ => .no
theorem pd_ixO (i : Nat) {p : Pos} (hb : PE X e (tD X.K X.mg W f)) (hN : X.N[i]? = some x := by rfl) (hv : Vis X.env.scope x := by first | exact Or.inl rfl | exact Or.inr (Or.inl rfl) | exact Or.inr (Or.inr rfl)) (hd : (x == ("__debug__" : Str)) = false := by decide)
    (hcd : (x == ("__classdict__" : Str)) = false := by decide) (hs : PlainIx e := by exact fun _ _ => rfl) : PE X (.Subscript (.Name x p) e pos) (tD X.K X.mg W (dIxO i f)) := PEimp (pe_ix (ix_seq (X := X)) (pe_var hN hv hd hcd) hb hs) fun σ H Q ⟨G, ρ, S, r, q⟩ => by
  unfold dIxO at q
  split at q
  · rename_i xs e
    obtain ⟨a, vs, h1, h2, h4, h5, h6⟩ := r.known e
    refine ⟨_, h1, tG.mk r (wG.imp ?_ (wG.bind (rp := Rp X.K) q))⟩
    rintro v H1 ⟨S1, d, e1, ra, q1⟩
    cases d with
    | int k =>
      cases ra
      dsimp only at q1
      split at q1
      · rename_i d e
        obtain ⟨v, hv, hr⟩ := atI_rp h5 e
        exact .inl ⟨_, _, _, v, rfl, rfl, SqL.of (e1.all _ _ h4), hv, q1 v S1 H1 (Ext.refl e1.inn) (Rp.mono e1.sub _ _ hr)⟩
      · exact q1.elim
    | _ => exact q1.elim
  · rename_i d e
    have hq : tD X.K X.mg W (d2 gIx (dV i) f) σ H Q := ⟨G, ρ, S, r, by
      unfold d2 dV
      rw [e]
      exact q⟩
    obtain ⟨v, h1, h2⟩ := r.slotD i _ e
    refine ⟨v, h1, tG.mk r (wG.imp ?_ (wG.bind (rp := Rp X.K) q))⟩
    rintro w H1 ⟨S1, k, e1, rk, q1⟩
    have h3 := Rp.mono e1.sub _ _ h2
    cases z : gIx d k with
    | ok y =>
      rw [z] at q1
      unfold gIx at z
      split at z
      · cases rk
        cases h3 with
        | lst s1 a1 =>
          split at z
          · rename_i d e
            cases z
            obtain ⟨v, hv, hr⟩ := atI_rp a1 e
            exact .inl ⟨_, _, _, v, rfl, rfl, Same.seq e1.inn s1, hv, q1 v S1 H1 (Ext.refl e1.inn) hr⟩
          · cases z
      · cases rk
        cases h3 with
        | tup s1 a1 =>
          split at z
          · rename_i d e
            cases z
            obtain ⟨v, hv, hr⟩ := atI_rp a1 e
            exact .inr (.inl ⟨_, _, _, v, rfl, rfl, Same.seqT e1.inn s1, hv, q1 v S1 H1 (Ext.refl e1.inn) hr⟩)
          · cases z
      · cases rk
        cases h3
        split at z
        · rename_i hl
          split at z
          · rename_i c e
            cases z
            exact .inr (.inr ⟨_, _, c, rfl, rfl, hl, e, q1 _ S1 H1 (Ext.refl e1.inn) (.str _)⟩)
          · cases z
        · cases z
      · cases z
    | ex c => exact absurd z (noEx_ix _ _ _)
    | no => rw [z] at q1; exact q1.elim
  · exact q.elim
/-- x.append(e) -/
def sApp (i : Nat) (f : En → R PD) : En → Fl := fun ρ => match ρ[i]? with
  | some (some (.l xs)) => sE f (fun d ρ => if xs.length < 16777216 then .nx (ρ.set i (some (.l (xs ++ [d])))) else .no) ρ
  | _ => .no
theorem sd_app (i : Nat) {p apos cpos : Pos} (hb : PE X e (tD X.K X.mg W f)) (hN : X.N[i]? = some x := by rfl) (hv : Vis X.env.scope x := by first | exact Or.inl rfl | exact Or.inr (Or.inl rfl) | exact Or.inr (Or.inr rfl)) (hd : (x == ("__debug__" : Str)) = false := by decide)
    (hcd : (x == ("__classdict__" : Str)) = false := by decide) (hse : starEach [e] X.env = (false, eval e X.env) :: starEach [] X.env := by rfl)
    (hbase : attributeBase (.Name x p) "append" X.env (eval (.Name x p) X.env) = eval (.Name x p) X.env := by rfl)
    (hfew : ((backTo cpos (starEach [e] X.env)).all (fun x => !x.1) && (backToKw cpos (keywordEach [] X.env)).all (fun x => x.1.isSome)
      && decide (([e] : List Expr).length + ([] : List Keyword).length + (if ([] : List Keyword).isEmpty then 0 else 1) < 30)) = true := by rfl)
    (hline : (apos.endLine == cpos.line) = true := by rfl) (hplain : (backTo cpos (starEach [] X.env)).any (·.1) = false := by rfl) (hsw : swapsWith (.Call (.Attribute (.Name x p) "append" apos) [e] [] cpos) none pos.line X.env = pure false := by rfl) :
    PS X (.Expr (.Call (.Attribute (.Name x p) "append" apos) [e] [] cpos) pos) (tS X.K X.mg W (sApp i f)) :=
  PSimp (ps_expr (pe_bm PySem.F.plainAttrs_list PySem.F.slot_list_append PySem.F.type_list_append mt_append (pe_var hN hv hd hcd) (pa_cons hb pa_nil hse) hbase hfew hline hse hplain) hsw) fun D σ H ⟨G, ρ, S, r, q⟩ => by
    unfold sApp at q
    split at q
    · rename_i xs e
      obtain ⟨a, vs, h1, h2, h4, h5, h6⟩ := r.known e
      refine ⟨_, h1, .inl ⟨rfl, _, SqL.of h4⟩, tG.mk r (wG.imp ?_ (wS.ofE (rp := Rp X.K) r q))⟩
      rintro v H1 ⟨S1, d, e1, ra, r1, q1⟩
      by_cases hl : xs.length < 16777216
      · rw [if_pos hl] at q1
        refine ⟨a, vs, v, rfl, rfl, e1.all _ _ h4, by rw [h5.length]; exact hl, q1 σ S1 _ (Same.refl _) ?_⟩
        have hS1 : S1 a = none := by
          cases z : S1 a with
          | none => rfl
          | some o =>
            rcases e1.new a o z with w | w
            · rw [h2] at w; cases w
            · rw [h4] at w; cases w
        exact r1.changeL e h1 ((RpA.mono e1.sub _ _ h5).snoc ra)
      · rw [if_neg hl] at q1; exact q1.elim
    · exact q.elim
end
end DL

set_option Elab.async false
set_option linter.all false
set_option maxRecDepth 100000
set_option maxHeartbeats 4000000
set_option autoImplicit false
/-! the data layer 7: a comprehension given to a name; keyword calls; the end of a law -/
namespace DL
open PySem L2
theorem lcKnown {K : PySem.W.Frag} {S H S' H' : Hp} {D : Addr} {xs : List V} {ds : List PD} (e : Ext S H S' H') (hD : H D = none) (hS : S' D = none) (hH : H' D = some (.lst xs)) (hr : RpA K S' xs ds) : Ext S H (upd S' D (.lst xs)) H' ∧ Rp K (upd S' D (.lst xs)) (.ref D) (.list ds) := by
  have e2 : Ext S H (upd S' D (.lst xs)) H' := ⟨fun a o z => by rw [upd_ne (ne_of_none (e.sub _ _ z) hS)]; exact e.sub _ _ z, e.all, fun a o z => by
    by_cases ha : a = D
    · subst ha; rw [upd_same] at z; rw [hH]; exact z
    · rw [upd_ne ha] at z; exact e.inn a o z, fun a o z => by
    by_cases ha : a = D
    · subst ha; exact .inr hD
    · rw [upd_ne ha] at z; exact e.new a o z⟩
  refine ⟨e2, .lst (SqL.of upd_same) (RpA.mono (fun a o z => ?_) _ _ hr)⟩
  rw [upd_ne (ne_of_none z hS)]; exact z
section
variable {X : Cx} {W : WX} {elt tg iter : Expr} {ifs : List Expr} {scope : Scope} {pos spos py : Pos} {it : En → R (List PD)} {T : Tg} {tt : En → R Bool} {te : En → R PD} {y : Str}
theorem sd_setLc (i : Nat) (own : List (Str × Nat)) (hc : X.calm = true) (hN : X.N.Nodup) (hy : X.N[i]? = some y) (hyl : X.env.scope.names.lookup y = some .local)
    (hsw : swapsWith (.ListComp elt [⟨tg, iter, ifs, 0⟩] scope pos) (some (.Name y py)) spos.line X.env = pure true) (hi : PI X tg iter (tI X.K X.mg W it)) (ok : BlkOk X.N X.env.scope scope own) (hT : ∀ i ∈ T.slots, i ∈ own.map (·.2))
    (hg : ∀ (s : Shared) (H : Hp) (C : Addr) (cl : List (Str × Addr)) (fp : List Addr), PG (X.blk s H scope (compEnvC scope cl C X.env) fp) tg (gOf X.K T)) (ht : ∀ (s : Shared) (H : Hp) (C : Addr) (cl : List (Str × Addr)) (fp : List Addr), PTs (X.blk s H scope (compEnvC scope cl C X.env) fp) ifs (tDT X.K X.mg W0 tt))
    (he : ∀ (s : Shared) (H : Hp) (C : Addr) (cl : List (Str × Addr)) (fp : List Addr), PE (X.blk s H scope (compEnvC scope cl C X.env) fp) elt (tD X.K X.mg W0 te)) (hs : ∀ x, foldedSetIterable iter X.env x = pure x := by intro _; rfl) :
    PS X (.Assign [.Name y py] (.ListComp elt [⟨tg, iter, ifs, 0⟩] scope pos) spos) (tS X.K X.mg W (sSet i (dLc it T (own.map (·.2)) tt te))) := PSimp (ps_setLc hc hN hy hyl hsw hi ok hg ht he hs) fun D σ H ⟨G, ρ, S, r, q⟩ => by
  refine lc_of hT r ?_
  unfold sSet sE dLc at q
  cases z : dLcL it T (own.map (·.2)) tt te ρ with
  | ok ds =>
    rw [z] at q
    intro D' S' H' xs e hD hS hH hr
    have k := lcKnown e hD hS hH hr
    exact q _ _ H' k.1.sub ((r.ext k.1).setD k.2 i)
  | ex c => rw [z] at q; exact fun cls S' H' m e => q cls σ S' H' m e.sub (r.ext e)
  | no => rw [z] at q; exact q
theorem sd_setLcO (i : Nat) (own : List (Str × Nat)) (hc : X.calm = true) (hN : X.N.Nodup) (hy : X.N[i]? = some y) (hyl : X.env.scope.names.lookup y = some .local)
    (hsw : swapsWith (.ListComp elt [⟨tg, iter, ifs, 0⟩] scope pos) (some (.Name y py)) spos.line X.env = pure true) (hi : PI X tg iter (tI X.K X.mg W it)) (ok : BlkOk X.N X.env.scope scope own) (hT : ∀ i ∈ T.slots, i ∈ own.map (·.2))
    (hg : ∀ (s : Shared) (H : Hp) (C : Addr) (cl : List (Str × Addr)) (fp : List Addr), PG (X.blk s H scope (compEnvC scope cl C X.env) fp) tg (gOf X.K T)) (ht : ∀ (s : Shared) (H : Hp) (C : Addr) (cl : List (Str × Addr)) (fp : List Addr), PTs (X.blk s H scope (compEnvC scope cl C X.env) fp) ifs (tDT X.K X.mg W0 tt))
    (he : ∀ (s : Shared) (H : Hp) (C : Addr) (cl : List (Str × Addr)) (fp : List Addr), PE (X.blk s H scope (compEnvC scope cl C X.env) fp) elt (tD X.K X.mg W0 te)) (hs : ∀ x, foldedSetIterable iter X.env x = pure x := by intro _; rfl) :
    PS X (.Assign [.Name y py] (.ListComp elt [⟨tg, iter, ifs, 0⟩] scope pos) spos) (tS X.K X.mg W (sSetL i (dLcL it T (own.map (·.2)) tt te))) := PSimp (ps_setLc hc hN hy hyl hsw hi ok hg ht he hs) fun D σ H ⟨G, ρ, S, r, q⟩ => by
  refine lc_of hT r ?_
  unfold sSetL sE at q
  cases z : dLcL it T (own.map (·.2)) tt te ρ with
  | ok ds =>
    rw [z] at q
    exact fun D' S' H' xs e hD hS hH hr => q _ S' H' e.sub (r.newO (x := .l ds) e hD hS (ne_some hH) ⟨D', rfl, rfl, xs, hH, hr⟩ i)
  | ex c => rw [z] at q; exact fun cls S' H' m e => q cls σ S' H' m e.sub (r.ext e)
  | no => rw [z] at q; exact q
end

/-! ### f(e, .., k = v, ..) -/
theorem KBn.mk1 {K : PySem.W.Frag} {x qual : Str} {params : Arguments} {body : List Stmt} {scope : Scope} {dvs : List V} {kws : List (Str × V)} {f : Addr} {fd : FuncData} {ps : List Str} (Fn : FunD K x qual params body scope dvs kws f fd) (n : Nat) (ks : List Str) (g : {α : Type} → List α → List α → List α → List α) (hd : dvs ≠ [])
    (hrel : ∀ {vs ds zs : List V} {us its ws : List Value}, Vals vs us → Vals ds its → Vals zs ws → Vals (g vs ds zs) (g us its ws))
    (h : ∀ (T : Addr) (kV doc pm : Value) (an : Option Addr) (cdv ct : Value) (us its ws : List Value), us.length = n → its.length = dvs.length → ws.length = ks.length →
      ∃ k, bindArgs (PySem.W.fnOf x qual params body scope (.ref T) kV doc pm an cdv ct) ⟨us, ks.zip ws⟩ = seqItems? (.ref T) >>= k ∧ k (some its.toArray) = pure (ps.zip (g us its ws))) :
    ∃ its : List Value, KBn K fd ps n ks (fun us ws => g us its ws) (fun vs zs => g vs dvs zs) := by
  obtain ⟨oc, od, dV, kV, doc, pm, an, cdv, ct, osl, rfl, lk, hcd, hD, hK⟩ := Fn.ex
  rcases hD with ⟨e, _⟩ | ⟨_, T, o, its, m, rfl, lT, oT, rT⟩
  · exact absurd e hd
  · refine ⟨its, ⟨fun s us ws X l1 l2 => ?_, fun r1 r2 => hrel r1 rT r2⟩⟩
    obtain ⟨k, e1, e2⟩ := h T kV doc pm an cdv ct us its ws l1 rT.length.symm l2
    refine BindsTo.of_looks fun M => ?_
    rw [e1]
    exact looks_items X lT oT (.of_pure e2)
/-- called by np positional values and keywords ks: arr puts them (data) in the parameters' order -/
structure KwAt (P : Program) (w : World) (K : PySem.W.Frag) (mg : MG) (base : Heap) (x : Str) (k n : Nat) (np : Nat) (ks : List Str) (arr : List PD → List PD → List PD) (g : List PD → R PD) : Prop where
  ex : ∃ (f : Addr) (fd : FuncData) (ps : List Str) (gv : List Value → List Value → List Value) (gV : List V → List V → List V), FnOk P w K mg base (L2.CX P w) k f fd ps (spD K mg n g) ∧ mg x = some (.ref f) ∧ PySem.W.keepIn K (.ref f) = true ∧ KBn K fd ps np ks gv gV ∧
    ∀ S vs zs ds es, RpA K S vs ds → RpA K S zs es → RpA K S (gV vs zs) (arr ds es)
def gKw (n np nk : Nat) (arr : List PD → List PD → List PD) (g : List PD → R PD) (as bs : List PD) : R PD := if as.length = np ∧ bs.length = nk ∧ (arr as bs).length = n then g (arr as bs) else .no
def dKw (g : List PD → List PD → R PD) (f1 f2 : En → R (List PD)) : En → R PD := fun ρ => (f1 ρ).bind fun as => (f2 ρ).bind fun bs => g as bs
theorem passL' {X : Cx} {W : WX} {E : XK} (tk : Takes X W) (h : ∀ cls d σ H, E cls d H → W cls d σ H) : Passes (L2.CX X.prog X.w) X E := fun pins σ H s e s' I c => passes_call tk h pins σ H s e s' I c
section
variable {X : Cx} {fs gs : En → R (List PD)} {e : Expr} {es : List Expr} {kws : List Keyword} {pos p kpos : Pos} {x : Str} {k n np : Nat} {ks : List Str} {arr : List PD → List PD → List PD} {g : List PD → R PD} {E : XK} {nm : Option Str} {f : En → R PD} {W : WX}
abbrev tDK := @tDA
theorem PKimp {kws : List Keyword} {t t' : TA} (h : PK X kws t) (i : ∀ σ H Q, t' σ H Q → t σ H Q) : PK X kws t' := ⟨fun pos pins s σ H Q I q => h.run pos pins s σ H Q I (i σ H Q q)⟩
theorem pkd_nil : PK X [] (tDA X.K X.mg W dNil) := PKimp pk_nil fun σ H Q ⟨G, ρ, S, r, h⟩ => h [] S H (Ext.refl r.inn) .nil
theorem pkd_cons (ha : PE X e (tD X.K X.mg W f)) (hr : PK X kws (tDA X.K X.mg W fs)) : PK X (⟨nm, e, kpos⟩ :: kws) (tDA X.K X.mg W (dCons f fs)) :=
  PKimp (pk_cons ha hr) fun σ H Q ⟨G, ρ, S, rel, h⟩ => by
    refine tG.mk rel (wG.imp ?_ (wG.bind (rp := Rp X.K) h))
    rintro x H1 ⟨S1, a, e1, ra, h1⟩
    refine tG.mk (rel.ext e1) (wG.imp ?_ (wG.bind (rp := RpA X.K) h1))
    rintro xs H2 ⟨S2, as, e2, ras, h2⟩
    exact h2 (x :: xs) S2 H2 (Ext.refl e2.inn) (.cons (Rp.mono e2.sub _ _ ra) ras)
/-- W hangs not on the slots here (a def's own body) -/
theorem pd_kw (Fn : KwAt X.prog X.w X.K X.mg X.base x k n np ks arr g) (hr : Room k X.A) (tk : Takes X (fun cls d _ H => E cls d H)) (ha : PA X (e :: es) (tDA X.K X.mg (fun cls d _ H => E cls d H) fs)) (hkw : PK X kws (tDA X.K X.mg (fun cls d _ H => E cls d H) gs)) (hg : Gl X x := by rfl)
    (hall : (backToKw pos (keywordEach kws X.env)).all (·.1.isSome) = true := by rfl) (hks : (backToKw pos (keywordEach kws X.env)).filterMap (·.1) = ks := by rfl)
    (hdb : (x == ("__debug__" : Str)) = false := by decide) (he : starEach (e :: es) X.env = (false, eval e X.env) :: starEach es X.env := by rfl)
    (hpl : ((backTo pos (starEach (e :: es) X.env)).any (·.1) || (backToKw pos (keywordEach kws X.env)).any (·.1.isNone)) = false := by rfl) {nk : Nat} (hnk : ks.length = nk := by rfl) :
    PE X (.Call (.Name x p) (e :: es) kws pos) (tD X.K X.mg (fun cls d _ H => E cls d H) (dKw (gKw n np nk arr g) fs gs)) := by
  subst hnk
  obtain ⟨f, fd, ps, gv, gV, hF, hm, hk, hb, hR⟩ := Fn.ex
  refine PEimp (pe_callN hF hr hg hm hk hb (E := E) (passL' tk fun _ _ _ _ h => h) ha hkw hall hks hdb he hpl) ?_
  rintro σ H Q ⟨G, ρ, S, rel, h⟩
  refine tG.mk rel (wG.imp ?_ (wG.bind (rp := RpA X.K) h))
  rintro vs H1 ⟨S1, as, e1, ra, h1⟩
  refine tG.mk (rel.ext e1) (wG.imp ?_ (wG.bind (rp := RpA X.K) h1))
  rintro zs H2 ⟨S2, bs, e2, rb, h2⟩
  unfold gKw at h2
  by_cases hl : as.length = np ∧ bs.length = ks.length ∧ (arr as bs).length = n
  · rw [if_pos hl] at h2
    refine ⟨ra.length.trans hl.1, rb.length.trans hl.2.1, S2, _, e2.inn, hR S2 vs zs as bs (RpA.mono e2.sub _ _ ra) rb, hl.2.2, ?_⟩
    cases q : g (arr as bs) with
    | ok d => rw [q] at h2; exact h2
    | ex c => rw [q] at h2; exact h2
    | no => rw [q] at h2; exact h2
  · rw [if_neg hl] at h2; exact h2.elim
end

/-! ### the end of a law -/
theorem scr_rp {K : PySem.W.Frag} {S : Hp} : ∀ ns : List Int, RpA K S (ns.map V.int) (ns.map PyData.int)
  | [] => .nil
  | n :: ns => .cons (.int n) (scr_rp ns)
theorem walkD {l : PySem.W.OpenLaw} {n k : Nat} {q : Program} {loose : List Str} {XP : (Str → Option Value) → Heap → Prop} {YP : World → Heap → Prop} {d : DefRec} {x : Str} {g : List PD → R PD}
    (hn : l.most = some n) (hn2 : n ≤ sizeLine) (hdf : d.params.defaults = []) (hr : Room k PySem.callerA)
    (F : ∀ (w : World) (mg : Str → Option Value) (fa : Addr) (h : Heap), YP w h → h.Ns mainGlobals mg → mg d.name = some (.ref fa) →
      ∃ (K : PySem.W.Frag) (fd : FuncData), K.In h ∧ (∀ (s : Shared) (u : Value), BindsTo s fd ⟨[u], []⟩ [(x, u)]) ∧
        ∀ base : Heap, K.In base → base.Ns mainGlobals mg → FnOk l.prog w K mg base (L2.CX l.prog w) k fa fd [x] (spD K mg 1 g))
    (hg : ∀ ns : List Int, ns.length ≤ n → (∀ z ∈ ns, Builtin.Int.intBits z ≤ 1048576) → g [.list (ns.map PyData.int)] = .ok (.bool true)) :
    PySem.W.WalkO q loose XP YP l.row.toRowW d [] (fun f vs => PySem.call f vs) := by
  refine Att.attach_callB hn hdf fun w s₀ s₁ mg mb fa o pm cd doc a vs ns G Y ho hd hcd hmg hobj hints hlen hbits hgen => ?_
  obtain ⟨K, fd, KX, hb, hF⟩ := F w mg fa _ Y G.T.g hmg
  refine law_call KX G.T.g G.T.b G.T.builtins G.T.nolimit hgen hobj hints (Nat.le_trans hlen hn2) hr hF hb (fun H hO hS => ?_) fun H e s' z => ?_
  · refine ⟨H, [.list (ns.map PyData.int)], Same.refl _, .cons (.lst hS (scr_rp ns)) .nil, rfl, ?_⟩
    rw [hg ns hlen hbits]
    intro v S' H' _ r
    cases r
    rfl
  · obtain ⟨_, _, _, _, _, _, _, _, _, _, _, _, z⟩ := z
    exact z
end DL
namespace DL
open PySem L2
theorem mem0 {α : Type} {a : α} {l : List α} : a ∈ a :: l := List.mem_cons_self
theorem mem1 {α : Type} {a b : α} {l : List α} : b ∈ a :: b :: l := List.mem_cons_of_mem _ List.mem_cons_self
theorem mem2 {α : Type} {a b c : α} {l : List α} : c ∈ a :: b :: c :: l := List.mem_cons_of_mem _ (List.mem_cons_of_mem _ List.mem_cons_self)
theorem un65 {k : Nat} {A : Around} (r : Room k A) : A.units + 65 < cLine := by have := r.un; omega
end DL

set_option Elab.async false
set_option linter.all false
set_option maxRecDepth 100000
set_option maxHeartbeats 4000000
set_option autoImplicit false
/-! the data layer 8: ranges with a step, bit_length, a store into a list of one's own, str -/
namespace DL
open PySem L2
def rng3 (lo c : Int) (n : Nat) : List PD := (List.range n).map fun i => .int (lo + (i : Nat) * c)
def gR3 : List PD → R (List PD)
  | [.int i, .int j, .int c] => if c ≠ 0 ∧ c.natAbs < 1073741824 ∧ Builtin.Range.small i j c = true ∧ 0 ≤ Builtin.Range.rangeSize i j c then .ok (rng3 i c (Builtin.Range.rangeSize i j c).toNat) else .no
  | _ => .no
theorem itc_ok {K : PySem.W.Frag} {S : Hp} {lo c : Int} {n : Nat} : ItOk K S (Itc lo c n) (rng3 lo c n) := by
  intro S1 H1 s1 s2 i
  refine ⟨fun d hd => ?_, fun hl => by show n ≤ i; simpa [rng3] using hl⟩
  unfold rng3 at hd
  rw [List.getElem?_map] at hd
  by_cases h : i < n
  · rw [List.getElem?_range h] at hd
    cases hd
    exact ⟨h, fun x H2 ⟨e, y⟩ => by subst e y; exact ⟨S1, Ext.refl s2, .int _⟩⟩
  · rw [List.getElem?_eq_none (by simpa using h)] at hd
    cases hd
section
variable {X : Cx} {W : WX} {tg : Expr} {f f1 f2 : En → R PD} {fs : En → R (List PD)} {p pos apos : Pos} {e o : Expr} {x : Str}
theorem pi_r3 {a b c : Expr} (hg : Gl X "range") (hm : X.mg "range" = none) (ha : PA X [a, b, c] (tDA X.K X.mg W fs))
    (hs : starEach [a, b, c] X.env = (false, eval a X.env) :: starEach [b, c] X.env := by rfl) (hpl : (backTo pos (starEach [b, c] X.env)).any (·.1) = false := by rfl) : PI X tg (.Call (.Name "range" p) [a, b, c] [] pos) (tI X.K X.mg W (iA gR3 fs)) :=
  PIimp (pi_range3 hg hm ha hs hpl) fun σ H Q ⟨G, ρ, S, rel, h⟩ => by
    refine tG.mk rel (wG.imp ?_ (wG.bind (rp := RpA X.K) h))
    rintro xs H1 ⟨S1, as, e1, ra, h1⟩
    unfold gR3 at h1
    split at h1
    · rename_i i j c
      cases ra with
      | cons r1 r2 =>
        cases r2 with
        | cons r2 r3 =>
          cases r3 with
          | cons r3 r4 =>
            cases r4
            cases r1
            cases r2
            cases r3
            split at h1
            · rename_i hb
              refine ⟨i, j, c, _, rfl, ⟨hb.1, hb.2.1, hb.2.2.1, ?_⟩, h1 _ S1 H1 (Ext.refl e1.inn) itc_ok⟩
              exact (Int.toNat_of_nonneg hb.2.2.2).symm
            · exact h1.elim
    · exact h1.elim
def gm_bit_length : PD → R PD
  | .int i => .ok (.int (Builtin.Int.intBits i : Nat))
  | _ => .no
theorem pd_m_bit_length (ho : PE X o (tD X.K X.mg W f)) (hbase : attributeBase o "bit_length" X.env (eval o X.env) = eval o X.env := by rfl) (hline : (apos.endLine == pos.line) = true := by rfl) : PE X (.Call (.Attribute o "bit_length" apos) [] [] pos) (tD X.K X.mg W (d1 gm_bit_length f)) :=
  PEimp (pe_bits ho hbase hline) fun σ H Q ⟨G, ρ, S, rel, h⟩ => by
    refine tG.mk rel (wG.imp ?_ (wG.bind (rp := Rp X.K) h))
    rintro v H1 ⟨S1, d, e1, ra, h1⟩
    cases d with
    | int i => cases ra; exact ⟨i, rfl, h1 _ S1 H1 (Ext.refl e1.inn) (.int _)⟩
    | _ => exact h1.elim
def gStr : List PD → R PD
  | [.int i] => if i.natAbs.log2 < 1920 then .ok (.str (toString i)) else .no
  | _ => .no
theorem nx_str : NoExL gStr := fun a c h => by unfold gStr at h; split at h <;> first | (split at h <;> cases h) | cases h
theorem cd_str : CallD X (.type "str") gStr := by
  refine CallD_ofX fun pins s σ H vs us Q S ds d I r hS ra q h => ?_
  unfold gStr at q
  split at q
  · cases ra with
    | cons r1 r2 =>
      cases r2
      cases r1
      split at q
      · rename_i hl
        cases q
        exact call_str_int pins s σ H _ us Q I r ⟨_, rfl, hl, h _ S H (Ext.refl hS) (.str _)⟩
      · cases q
  · cases q
/-- x[k] = e, x a list of one's own -/
def sPut (i : Nat) (fk fe : En → R PD) : En → Fl := fun ρ => match ρ[i]? with
  | some (some (.l xs)) => sE fe (fun d => sE fk fun k ρ => match k with
    | .int z => (match ixN xs.length z with
      | some j => .nx (ρ.set i (some (.l (xs.set j d))))
      | none => .no)
    | _ => .no) ρ
  | _ => .no
theorem sd_put (i : Nat) {px pt : Pos} {kx : Expr} {fk fe : En → R PD} (hk : PE X kx (tD X.K X.mg W fk)) (he : PE X e (tD X.K X.mg W fe)) (hN : X.N[i]? = some x := by rfl) (hv : Vis X.env.scope x := by first | exact Or.inl rfl | exact Or.inr (Or.inl rfl) | exact Or.inr (Or.inr rfl))
    (hd : (x == ("__debug__" : Str)) = false := by decide) (hcd : (x == ("__classdict__" : Str)) = false := by decide)
    (ha : ∀ v, assign (.Subscript (.Name x px) kx pt) X.env v = (do
      let ov ← holding [v] (eval (.Name x px) X.env)
      let iv ← holding [v, ov] (eval kx X.env)
      standAt pt
      holding [v, ov, iv] (setItem ov iv v)
      release [v, ov, iv] []) := by intro _; rfl)
    (hs : swapsWithSole [.Subscript (.Name x px) kx pt] e pos.line X.env = pure false := by rfl) (hw : swappedStores [.Subscript (.Name x px) kx pt] e X.env = pure none := by rfl)
    (h1 : (assignEach [.Subscript (.Name x px) kx pt] X.env).map (·.2) = [assign (.Subscript (.Name x px) kx pt) X.env] := by rfl) :
    PS X (.Assign [.Subscript (.Name x px) kx pt] e pos) (tS X.K X.mg W (sPut i fk fe)) :=
  PSimp (ps_asg he (pg_sub (pe_var hN hv hd hcd) hk set_list ha) hs hw h1) fun D σ H ⟨G, ρ, S, r, q⟩ => by
    unfold sPut at q
    split at q
    · rename_i xs e
      obtain ⟨a, vs, h1, h2, h4, h5, h6⟩ := r.known e
      refine tG.mk r (wG.imp ?_ (wS.ofE (rp := Rp X.K) r q))
      rintro v H1 ⟨S1, d, e1, ra, r1, q1⟩
      refine ⟨_, h1, tG.mk r1 (wG.imp ?_ (wS.ofE (rp := Rp X.K) r1 q1))⟩
      rintro kv H2 ⟨S2, k, e2, rk, r2, q2⟩
      cases k with
      | int z =>
        cases rk
        dsimp only at q2
        split at q2
        · rename_i j hj
          have e12 := e1.trans e2
          have hS2 : S2 a = none := by
            cases z : S2 a with
            | none => rfl
            | some o =>
              rcases e12.new a o z with w | w
              · rw [h2] at w; cases w
              · rw [h4] at w; cases w
          exact ⟨a, vs, z, j, rfl, rfl, e12.all _ _ h4, by rw [h5.length]; exact hj, q2 σ S2 _ (Same.refl _) (r2.changeL e h1 (RpA.set (Rp.mono e2.sub _ _ ra) j (RpA.mono e12.sub _ _ h5)))⟩
        · exact q2.elim
      | _ => exact q2.elim
    · exact q.elim
end
end DL

set_option Elab.async false
set_option linter.all false
set_option maxRecDepth 100000
set_option maxHeartbeats 4000000
set_option autoImplicit false
/-! the data layer 9: a list times a number -/
namespace DL
open PySem L2 PySem.Spec PyProof.Rows
theorem q_mul_int (l : Addr) (items : Array Value) (n : Nat) (d : Option Addr) (sl : Array (Option Value)) (x : Int) (u : Tok) (hc0 : ¬(!Builtin.List.listFitsIndex x) = true)
    (hc1 : ¬items.size * x.toNat > (2 ^ 63 - 1) / 8) (hc2 : ¬Builtin.List.listTooLong (items.size * x.toNat) = true) :
    Meets (Builtin.«list.__mul__» ⟨[.ref l, .int x u], []⟩) (fun _ R s => s.heap.get? l = some { cls := .type "list", dict := d, data := .seq items n, slots := sl } ∧ R (.ok (.ret (Value.ref s.heap.objs.size))) { s with heap := s.heap.push { cls := Value.type "list", data := Data.seq (List.foldl (fun x1 x2 => x1 ++ x2) #[] (List.replicate (if items.isEmpty = true then 0 else x.toNat) items)) }, toks := s.toks }) :=
  .of_wp fun prog w A R s h => by
    obtain ⟨hp, g, d, tk, os⟩ := s; obtain ⟨hl, h⟩ := h
    have hsz := AutoListH.joined_fits hc2
    wp_walk; refine wpAny_ite_false (decide_eq_false (Nat.not_lt.mpr hsz)) ?_; wp_walk; exact ⟨_, rfl, h⟩
theorem q_rmul_int (a : Int) (t : Tok) (l : Addr) (items : Array Value) (n : Nat) (d : Option Addr) (sl : Array (Option Value)) :
    Meets (Builtin.«int.__rmul__» ⟨[.int a t, .ref l], []⟩) (fun _ R s => s.heap.get? l = some { cls := .type "list", dict := d, data := .seq items n, slots := sl } ∧ R (.ok (.ret Value.notImplemented)) s) :=
  .of_wp fun prog w A R s h => by obtain ⟨hp, g, d, tk, os⟩ := s; obtain ⟨hl, h⟩ := h; wp_walk; exact ⟨_, rfl, h⟩
section
variable {X : Cx}
theorem op_repS : OpR X (binaryOp .Mult) (fun x y H Q => ∃ a k xs, x = V.ref a ∧ y = V.int k ∧ SqL X.K H a xs ∧ -(2 ^ 63) ≤ k ∧ k < 2 ^ 63 ∧ xs.length * k.toNat ≤ sizeLine ∧ ∀ p, H p = none → Q (.ref p) (upd H p (.lst (List.replicate k.toNat xs).flatten))) := by
  intro pins s σ H x y v u Q I rx ry h
  obtain ⟨a, k, xs, rfl, rfl, hs, h1, h2, hzz, q⟩ := h
  obtain rfl : v = Value.ref a := rx
  obtain ⟨t, rfl⟩ := ry
  obtain ⟨its, rv, ⟨⟨cls, dd, data, sl⟩, n, ho, hc, hdn, hd⟩, hlen⟩ := I.list hs
  have hc1 : cls = Value.type "list" := hc
  have hd1 : data = Data.seq its.toArray n := hd
  subst hc1 hd1
  have hlen2 : its.toArray.size * k.toNat ≤ sizeLine := by rw [List.size_toArray, ← rv.length]; exact hzz
  have hcap : ¬ its.toArray.size * k.toNat > (2 ^ 63 - 1) / 8 := by
    have : (sizeLine : Nat) ≤ (2 ^ 63 - 1) / 8 := by decide
    omega
  have hfit : ¬ (!Builtin.List.listFitsIndex k) = true := by
    rw [fitsIndex_both h1 h2]
    exact Bool.false_ne_true
  have hlong : ¬ Builtin.List.listTooLong (its.toArray.size * k.toNat) = true := by
    rw [notLongL hlen2]
    exact Bool.false_ne_true
  have hnew : List.foldl (fun x1 x2 => x1 ++ x2) #[] (List.replicate (if its.toArray.isEmpty = true then 0 else k.toNat) its.toArray) = (List.replicate k.toNat its).flatten.toArray := by
    have f0 : ∀ m : Nat, List.foldl (fun x1 x2 => x1 ++ x2) #[] (List.replicate m its.toArray) = (List.replicate m its).flatten.toArray := fun m => by
      have := foldl_rep its m []
      rw [List.nil_append] at this
      exact this
    rw [f0]
    cases its with
    | nil => simp
    | cons a r' => rw [if_neg (by simp)]
  refine wpAny_binaryOp_repeat_ref (T := "list") (U := "int") (by decide) ⟨_, ho, rfl⟩ (fun s' => typeIs_int s' k t) noFill_list_mul F.fills_int_mul F.slot_int_rmul repeat_list F.slot_int_index.lookup
    (call_meets F.slot_int_rmul (typeIs_int s k t) F.entry_int_rmul (F.args_int_rmul_2 _ _) (q_rmul_int k t a its.toArray n dd sl)
      ⟨ho, rfl, ⟨_, ho, rfl⟩, call_meets F.slot_list_mul ⟨_, ho, rfl⟩ F.entry_list_mul (F.args_list_mul_2 _ _) (q_mul_int a its.toArray n dd sl k t hfit hcap hlong) ⟨ho, ?_⟩⟩)
  rw [hnew]
  refine ⟨.ref s.heap.objs.size, upd H s.heap.objs.size (.lst (List.replicate k.toNat xs).flatten), I.laid (t' := s.toks) (fun b o e => Heap.get?_push_of_some _ e) (Nat.le_refl _) ⟨?_, _, 0, rv.rep k.toNat, Heap.get?_push_size _ rfl⟩, rfl, q _ (I.hok.fresh (Nat.le_refl _))⟩
  rw [PyProof.Rows.lm_len_rep_flat, Nat.mul_comm]
  exact hzz
def gMulL : PD → PD → R PD
  | .list ds, .int k => if -(2 ^ 63) ≤ k ∧ k < 2 ^ 63 ∧ ds.length * k.toNat ≤ 16777216 then .ok (.list (List.replicate k.toNat ds).flatten) else .no
  | _, _ => .no
theorem noEx_mulL : NoEx gMulL := fun a b c h => by unfold gMulL at h; split at h <;> first | (split at h <;> cases h) | cases h
theorem RpA.rep {K : PySem.W.Frag} {S : Hp} {ds : List PD} {vs : List V} (h : RpA K S vs ds) : ∀ k : Nat, RpA K S (List.replicate k vs).flatten (List.replicate k ds).flatten
  | 0 => .nil
  | k + 1 => by
    rw [List.replicate_succ, List.replicate_succ, List.flatten_cons, List.flatten_cons]
    exact h.append (RpA.rep h k)
theorem od_mulL : OpD X (binaryOp .Mult) gMulL := by
  refine OpD_of fun pins s σ H x y v u Q S a b d I rx ry hS ra rb q h => ?_
  unfold gMulL at q
  split at q
  · cases ra with
    | lst h1 a1 =>
      cases rb
      split at q
      · rename_i hl
        cases q
        refine op_repS pins s σ H _ _ v u Q I rx ry ⟨_, _, _, rfl, rfl, Same.seq hS h1, hl.1, hl.2.1, by rw [a1.length]; exact hl.2.2, fun p hp => ?_⟩
        exact h _ _ _ (Rp.newL hS hp (a1.rep _)).1 (Rp.newL hS hp (a1.rep _)).2
      · cases q
  · cases q
end
end DL

set_option Elab.async false
set_option linter.all false
set_option maxRecDepth 100000
set_option maxHeartbeats 4000000
set_option autoImplicit false
/-! the data layer 10: lists of lists of one's own -/
namespace DL
open PySem L2
section
variable {K : PySem.W.Frag} {G : F} {S S' H H' : Hp} {σ : St} {ρ : En}
theorem LLs.length : ∀ {bs : List Addr} {xss : List (List PD)}, LLs K S H bs xss → bs.length = xss.length
  | [], [], _ => rfl
  | b :: bs, xs :: xss, ⟨_, h⟩ => by simp [LLs.length h]
  | [], _ :: _, h => h.elim
  | _ :: _, [], h => h.elim
theorem LLs.get : ∀ {bs : List Addr} {xss : List (List PD)} {k : Nat} {xs : List PD}, LLs K S H bs xss → xss[k]? = some xs → ∃ b vs, bs[k]? = some b ∧ H b = some (.lst vs) ∧ RpA K S vs xs
  | [], [], _, _, _, e => by simp at e
  | b :: bs, xs :: xss, 0, ys, ⟨⟨vs, h1, h2⟩, h⟩, e => by
    simp at e
    subst e
    exact ⟨b, vs, rfl, h1, h2⟩
  | b :: bs, xs :: xss, k + 1, ys, ⟨_, h⟩, e => by simpa using LLs.get h (by simpa using e)
  | [], _ :: _, _, _, h, _ => h.elim
  | _ :: _, [], _, _, h, _ => h.elim
theorem LLs.set {vs : List V} {ys : List PD} (hr : RpA K S vs ys) : ∀ {bs : List Addr} {xss : List (List PD)} {k : Nat} {b : Addr}, bs.Nodup → LLs K S H bs xss → bs[k]? = some b → LLs K S (upd H b (.lst vs)) bs (xss.set k ys)
  | [], [], _, _, _, h, _ => trivial
  | c :: bs, xs :: xss, 0, b, nd, ⟨_, h⟩, e => by
    simp at e
    subst e
    have hn := List.nodup_cons.mp nd
    refine ⟨⟨vs, upd_same, hr⟩, LLs.keep (Same.refl _) (fun a ha o q => ?_) h⟩
    rw [upd_ne (fun z => hn.1 (by rw [← z]; exact ha))]; exact q
  | c :: bs, xs :: xss, k + 1, b, nd, ⟨⟨us, h1, h2⟩, h⟩, e => by
    have hn := List.nodup_cons.mp nd
    have e' : bs[k]? = some b := by simpa using e
    refine ⟨⟨us, ?_, h2⟩, LLs.set hr hn.2 h e'⟩
    rw [upd_ne (fun z => hn.1 (by rw [z]; exact List.mem_of_getElem? e'))]; exact h1
  | [], _ :: _, _, _, _, h, _ => h.elim
  | _ :: _, [], _, _, _, h, _ => h.elim
/-- one of the lists changes -/
theorem Rel.changeLL (r : Rel K G S σ ρ H) {i k : Nat} {xss : List (List PD)} {es : List PD} {vs : List V} (hi : ρ[i]? = some (some (.ll xss))) {p b : Addr} {bs : List Addr} (hp : σ[i]? = some (some (.ref p))) (hH : H p = some (.lst (bs.map V.ref))) (hb : bs[k]? = some b) (ho : RpA K S vs es) :
    Rel K G S σ (ρ.set i (some (.ll (xss.set k es)))) (upd H b (.lst vs)) := by
  obtain ⟨φ, r⟩ := r
  obtain ⟨v, h1, a, rfl, bs', hf, hnd, hH', hl⟩ := r.slot i _ hi
  rw [hp] at h1
  cases h1
  rw [hH] at hH'
  have eb : bs.map V.ref = bs'.map V.ref := HO.lst.inj (Option.some.inj hH')
  have eb' : bs = bs' := by
    have inj : ∀ {l m : List Addr}, l.map V.ref = m.map V.ref → l = m := by
      intro l
      induction l with
      | nil => intro m h; cases m with
        | nil => rfl
        | cons _ _ => cases h
      | cons x l ih => intro m h; cases m with
        | nil => cases h
        | cons y m =>
          simp only [List.map_cons, List.cons.injEq] at h
          obtain ⟨h1, h2⟩ := h
          cases h1
          rw [ih h2]
    exact inj eb
  subst eb'
  have hbm : b ∈ φ i := by rw [hf]; exact .tail _ (List.mem_of_getElem? hb)
  have hpm : p ∈ φ i := by rw [hf]; exact .head _
  have hnb : p ≠ b := fun z => by
    rw [hf] at hnd
    exact (List.nodup_cons.mp hnd).1 (by rw [z]; exact List.mem_of_getElem? hb)
  have there : ∀ a ∈ φ i, upd H b (.lst vs) a ≠ none := fun a ha => by
    by_cases e : a = b
    · subst e; exact ne_some upd_same
    · rw [upd_ne e]; exact (r.fr i a ha).2.2
  have z := r.set (i := i) (x := .ll (xss.set k es)) (v := .ref p) (fp := φ i) (S' := S) (H' := upd H b (.lst vs)) (fun a o hn q => by rw [upd_ne (fun e => hn (by rw [e]; exact hbm))]; exact q) (Same.refl _)
    (fun a o q => by rw [upd_ne (ne_of_none q (r.fr i b hbm).1)]; exact r.inn a o q) (fun _ _ q => .inl q) there (fun a ha => ⟨(r.fr i a ha).1, there a ha, .inl ha⟩) (fun a ha hP => absurd hP (r.nop hi (fun _ _ z => by cases z) a ha))
    ⟨p, rfl, bs, hf, hnd, by rw [upd_ne hnb]; exact hH, LLs.set ho (by rw [hf] at hnd; exact (List.nodup_cons.mp hnd).2) hl hb⟩
  rw [set_self hp] at z
  exact ⟨_, z⟩
theorem Rel.slotLL (r : Rel K G S σ ρ H) {i : Nat} {xss : List (List PD)} (hi : ρ[i]? = some (some (.ll xss))) : ∃ a bs, σ[i]? = some (some (.ref a)) ∧ S a = none ∧ H a = some (.lst (bs.map V.ref)) ∧ LLs K S H bs xss ∧ ∀ b ∈ bs, S b = none ∧ b ≠ a := by
  obtain ⟨φ, r⟩ := r
  obtain ⟨v, h1, a, rfl, bs, hf, hnd, hH, hl⟩ := r.slot i _ hi
  refine ⟨a, bs, h1, (r.fr i a (by rw [hf]; exact .head _)).1, hH, hl, fun b hb => ⟨(r.fr i b (by rw [hf]; exact .tail _ hb)).1, fun z => ?_⟩⟩
  rw [hf] at hnd
  exact (List.nodup_cons.mp hnd).1 (by rw [← z]; exact hb)
/-- what is known once the lists at addresses are known -/
def updAll (S H : Hp) (as : List Addr) : Hp := fun b => if b ∈ as then H b else S b
/-- all the lists are known from here on -/
theorem Rel.knownLL {xss : List (List PD)} {i : Nat} (r : Rel K G S σ ρ H) (hi : ρ[i]? = some (some (.ll xss))) : ∃ S', Same S S' ∧ Rel K G S' σ (ρ.set i (some (.d (.list (xss.map .list))))) H := by
  obtain ⟨φ, r⟩ := r
  obtain ⟨v, h1, a, rfl, bs, hf, hnd, hH, hl⟩ := r.slot i _ hi
  have hP := r.nop hi (fun _ _ z => by cases z)
  have sub : Same S (updAll S H (φ i)) := fun b o e => by
    unfold updAll
    split
    · rename_i hb
      rw [(r.fr i b hb).1] at e; cases e
    · exact e
  have hin : ∀ b ∈ φ i, updAll S H (φ i) b = H b := fun b hb => if_pos hb
  have rp : ∀ {bs : List Addr} {xss : List (List PD)}, (∀ b ∈ bs, b ∈ φ i) → LLs K S H bs xss → RpA K (updAll S H (φ i)) (bs.map V.ref) (xss.map .list) := by
    intro bs
    induction bs with
    | nil => intro xss _ h; cases xss with
      | nil => exact .nil
      | cons _ _ => exact h.elim
    | cons b bs ih => intro xss k h; cases xss with
      | nil => exact h.elim
      | cons xs xss =>
        obtain ⟨⟨vs, q1, q2⟩, q3⟩ := h
        exact .cons (.lst (SqL.of (by rw [hin b (k b (.head _))]; exact q1)) (RpA.mono sub _ _ q2)) (ih (fun c hc => k c (.tail _ hc)) q3)
  refine ⟨updAll S H (φ i), sub, φset φ i [], ?_⟩
  have z := r.set (i := i) (x := .d (.list (xss.map .list))) (v := .ref a) (fp := []) (S' := updAll S H (φ i)) (H' := H) (fun _ _ _ q => q) sub (fun b o e => by
      unfold updAll at e
      split at e
      · exact e
      · exact r.inn b o e) (fun b o e => by
      unfold updAll at e
      split at e
      · rename_i hb
        exact .inr (.inr ⟨hb, hP b hb⟩)
      · exact .inl e) (fun b hb => (r.fr i b hb).2.2) (fun b hb => nomatch hb) (fun b hb => nomatch hb)
      (.lst (SqL.of (by rw [hin a (by rw [hf]; exact .head _)]; exact hH)) (rp (fun b hb => by rw [hf]; exact .tail _ hb) hl))
  rw [set_self h1] at z
  exact z
end
section
variable {X : Cx} {W : WX} {f f1 f2 : En → R PD} {fl fl1 fl2 : En → R (List PD)} {e : Expr} {es es1 es2 : List Expr} {pos pos' : Pos} {x : Str} {g : En → Fl} {sts : List Stmt}
/-- two lists -/
def tLL (K : PySem.W.Frag) (mg : MG) (W : WX) (f : En → R (List (List PD))) : TE := fun σ H Q => ∃ G ρ S, Rel K G S σ ρ H ∧ match f ρ with
  | .ok xss => ∀ D bs S' H', Ext S H S' H' → (D :: bs).Nodup → (∀ a ∈ D :: bs, H a = none ∧ S' a = none ∧ H' a ≠ none) → H' D = some (.lst (bs.map V.ref)) → LLs K S' H' bs xss → Q (.ref D) H'
  | .ex c => ∀ cls S' H', mg c = some cls → Ext S H S' H' → W cls none σ H'
  | .no => False
def sSetLL (i : Nat) (f : En → R (List (List PD))) : En → Fl := sE f fun ds ρ => .nx (ρ.set i (some (.ll ds)))
theorem sd_setLL {f : En → R (List (List PD))} (i : Nat) (hN : X.N.Nodup) (hi : X.N[i]? = some x) (hx : Loc X.env.scope x) (he : PE X e (tLL X.K X.mg W f)) (hs : swapsWith e (some (.Name x pos')) pos.line X.env = pure false := by rfl) (hf : X.fn x = true ∨ X.env.scope.names.lookup x = some .local := by first | exact .inl rfl | exact .inr rfl | assumption)
    (hw : swappedStores [.Name x pos'] e X.env = pure none := by rfl) :
    PS X (.Assign [.Name x pos'] e pos) (tS X.K X.mg W (sSetLL i f)) := PSimp (ps_asg he (pg_name hN hi hx hf) hs hw) fun D σ H ⟨G, ρ, S, r, q⟩ => by
  refine ⟨G, ρ, S, r, ?_⟩
  unfold sSetLL sE at q
  cases z : f ρ with
  | ok xss =>
    rw [z] at q
    exact fun D' bs S' H' e hnd hn hH hl => q _ S' H' e.sub (r.newP (x := .ll xss) (fp := D' :: bs) e hn ⟨D', rfl, bs, rfl, hnd, hH, hl⟩ i)
  | ex c => rw [z] at q; exact fun cls S' H' m e => q cls σ S' H' m e.sub (r.ext e)
  | no => rw [z] at q; exact q
def lDisp2 (fl1 fl2 : En → R (List PD)) : En → R (List (List PD)) := fun ρ => (fl1 ρ).bind fun xs => if xs.length ≤ 1000 then (fl2 ρ).bind fun ys => if ys.length ≤ 1000 then .ok [xs, ys] else .no else .no
theorem pl_lst2 {p1 p2 : Pos} (h1 : PA X es1 (tDA X.K X.mg W fl1)) (h2 : PA X es2 (tDA X.K X.mg W fl2))
    (hse : starEach [.List es1 p1, .List es2 p2] X.env = (false, eval (.List es1 p1) X.env) :: starEach [.List es2 p2] X.env := by rfl) (hse2 : starEach [.List es2 p2] X.env = (false, eval (.List es2 p2) X.env) :: starEach [] X.env := by rfl) :
    PE X (.List [.List es1 p1, .List es2 p2] pos) (tLL X.K X.mg W (lDisp2 fl1 fl2)) := PEimp (pe_lst (pa_cons (pe_lst h1) (pa_cons (pe_lst h2) pa_nil hse2) hse)) fun σ H Q ⟨G, ρ, S, rel, q⟩ => by
  unfold lDisp2 at q
  refine tG.mk rel ?_
  cases z : fl1 ρ with
  | ok xs =>
    rw [z] at q
    intro vs S1 H1 e1 ra
    simp only [R.bind_ok] at q
    by_cases hl : xs.length ≤ 1000
    · rw [if_pos hl] at q
      refine ⟨by rw [ra.length]; exact le_line hl, fun p hp => ?_⟩
      have e2 := Ext.fresh (o := .lst vs) e1.inn hp
      have rel2 := (rel.ext e1).ext e2
      refine tG.mk rel2 ?_
      cases z2 : fl2 ρ with
      | ok ys =>
        rw [z2] at q
        intro us S3 H3 e3 rb
        simp only [R.bind_ok] at q
        by_cases hl2 : ys.length ≤ 1000
        · rw [if_pos hl2] at q
          refine ⟨by rw [rb.length]; exact le_line hl2, fun p2 hp2 => ⟨by show 2 ≤ sizeLine; decide, fun D hD => ?_⟩⟩
          have e4 := Ext.fresh (o := .lst us) e3.inn hp2
          have e5 := Ext.fresh (o := .lst [V.ref p, V.ref p2]) e4.inn hD
          have eT := e1.trans (e2.trans (e3.trans (e4.trans e5)))
          have hHp : upd H1 p (.lst vs) p = some (.lst vs) := upd_same
          have hp3 : H3 p = some (.lst vs) := e3.all _ _ hHp
          have n1 : p ≠ p2 := ne_of_none hp3 hp2
          have hp4 : upd H3 p2 (.lst us) p = some (.lst vs) := by rw [upd_ne n1]; exact hp3
          have hp24 : upd H3 p2 (.lst us) p2 = some (.lst us) := upd_same
          have n2 : p ≠ D := ne_of_none hp4 hD
          have n3 : p2 ≠ D := ne_of_none hp24 hD
          have s3p : S3 p = none := by
            cases w : S3 p with
            | none => rfl
            | some o =>
              rcases e3.new p o w with w | w
              · rw [e1.inn.free hp] at w; cases w
              · rw [upd_same] at w; cases w
          refine q D [p, p2] S3 _ eT (by simp [n1, n2.symm, n3.symm]) (fun a ha => ?_) upd_same ⟨⟨vs, by rw [upd_ne n2]; exact hp4, RpA.mono e3.sub _ _ ra⟩, ⟨us, by rw [upd_ne n3]; exact hp24, rb⟩, trivial⟩
          have fr : ∀ {a : Addr}, H1 a = none → H a = none := fun w => e1.all.free w
          have fr2 : ∀ {a : Addr}, upd H1 p (.lst vs) a = none → H1 a = none := fun w => e2.all.free w
          rcases List.mem_cons.mp ha with rfl | ha
          · refine ⟨fr (fr2 (e3.all.free (e4.all.free hD))), e4.inn.free hD, ne_some upd_same⟩
          · rcases List.mem_cons.mp ha with rfl | ha
            · exact ⟨fr hp, s3p, ne_some (by rw [upd_ne n2]; exact hp4)⟩
            · rw [List.mem_singleton] at ha
              subst ha
              exact ⟨fr (fr2 (e3.all.free hp2)), e3.inn.free hp2, ne_some (by rw [upd_ne n3]; exact hp24)⟩
        · rw [if_neg hl2] at q; exact q.elim
      | ex c => rw [z2] at q; exact fun cls S' H' m e => q cls S' H' m (e1.trans (e2.trans e))
      | no => rw [z2] at q; exact q
    · rw [if_neg hl] at q; exact q.elim
  | ex c => rw [z] at q; exact q
  | no => rw [z] at q; exact q
def sFrzLL (i : Nat) (g : En → Fl) : En → Fl := fun ρ => match ρ[i]? with
  | some (some (.ll xss)) => g (ρ.set i (some (.d (.list (xss.map .list)))))
  | _ => g ρ
theorem sd_frzLL (i : Nat) (h : PSs X sts (tS X.K X.mg W g)) : PSs X sts (tS X.K X.mg W (sFrzLL i g)) := PSsimp h fun D σ H ⟨G, ρ, S, r, q⟩ => by
  unfold sFrzLL at q
  split at q
  · rename_i xs e
    obtain ⟨S', s, r'⟩ := r.knownLL e
    exact ⟨G, _, _, r', q.mono s⟩
  · exact ⟨G, ρ, S, r, q⟩
theorem atI_map {α β : Type} {f : α → β} {xs : List α} {k : Int} {y : α} (h : atI xs k = some y) : atI (xs.map f) k = some (f y) := by
  unfold atI at h ⊢
  rw [List.length_map]
  cases e : ixN xs.length k with
  | none => rw [e] at h; cases h
  | some j =>
    rw [e] at h
    simp only [Option.bind_some] at h ⊢
    rw [List.getElem?_map, h]
    rfl
theorem atI_nth {α : Type} {xs : List α} {k : Int} {y : α} (h : atI xs k = some y) : ∃ j, ixN xs.length k = some j ∧ xs[j]? = some y := by
  unfold atI at h
  cases e : ixN xs.length k with
  | none => rw [e] at h; cases h
  | some j =>
    rw [e] at h
    exact ⟨j, rfl, h⟩
theorem LLs.at {K : PySem.W.Frag} {S H : Hp} {bs : List Addr} {xss : List (List PD)} {k : Int} {xs : List PD} (h : LLs K S H bs xss) (e : atI xss k = some xs) : ∃ j b vs, ixN xss.length k = some j ∧ bs[j]? = some b ∧ atI (bs.map V.ref) k = some (.ref b) ∧ H b = some (.lst vs) ∧ RpA K S vs xs := by
  obtain ⟨j, h1, h2⟩ := atI_nth e
  obtain ⟨b, vs, q1, q2, q3⟩ := h.get h2
  refine ⟨j, b, vs, h1, q1, ?_, q2, q3⟩
  unfold atI
  rw [List.length_map, h.length, h1]
  simp only [Option.bind_some, List.getElem?_map, q1]
  rfl
/-- x[k][j] -/
def dIx2 (i : Nat) (fk fj : En → R PD) : En → R PD := fun ρ => match ρ[i]? with
  | some (some (.ll xss)) => (fk ρ).bind fun k => match k with
    | .int k => (match atI xss k with
      | some xs => (fj ρ).bind fun j => match j with
        | .int j => (match atI xs j with
          | some d => .ok d
          | none => .no)
        | _ => .no
      | none => .no)
    | _ => .no
  | _ => .no
theorem pd_ix2 (i : Nat) {p p2 : Pos} {ek ej : Expr} {fk fj : En → R PD} (hk : PE X ek (tD X.K X.mg W fk)) (hj : PE X ej (tD X.K X.mg W fj)) (hN : X.N[i]? = some x := by rfl) (hv : Vis X.env.scope x := by first | exact Or.inl rfl | exact Or.inr (Or.inl rfl) | exact Or.inr (Or.inr rfl)) (hd : (x == ("__debug__" : Str)) = false := by decide)
    (hcd : (x == ("__classdict__" : Str)) = false := by decide) (hs : PlainIx ek := by exact fun _ _ => rfl) (hs2 : PlainIx ej := by exact fun _ _ => rfl) : PE X (.Subscript (.Subscript (.Name x p) ek p2) ej pos) (tD X.K X.mg W (dIx2 i fk fj)) :=
  PEimp (pe_ix (ix_seq (X := X)) (pe_ix (ix_seq (X := X)) (pe_var hN hv hd hcd) hk hs) hj hs2) fun σ H Q ⟨G, ρ, S, r, q⟩ => by
  unfold dIx2 at q
  split at q
  · rename_i xss e
    obtain ⟨a, bs, h1, h2, h3, h4, h5⟩ := r.slotLL e
    refine ⟨_, h1, tG.mk r (wG.imp ?_ (wG.bind (rp := Rp X.K) q))⟩
    rintro v H1 ⟨S1, d, e1, ra, q1⟩
    cases d with
    | int k =>
      cases ra
      dsimp only at q1
      split at q1
      · rename_i xs ex
        obtain ⟨j, b, vs, z1, z2, z3, z4, z5⟩ := h4.at ex
        refine .inl ⟨_, _, _, .ref b, rfl, rfl, SqL.of (e1.all _ _ h3), z3, tG.mk (r.ext e1) (wG.imp ?_ (wG.bind (rp := Rp X.K) q1))⟩
        rintro v2 H2 ⟨S2, d2, e2, rb, q2⟩
        cases d2 with
        | int j2 =>
          cases rb
          dsimp only at q2
          split at q2
          · rename_i d e3
            have e12 := e1.trans e2
            obtain ⟨v3, hv3, hr3⟩ := atI_rp z5 e3
            exact .inl ⟨_, _, _, v3, rfl, rfl, SqL.of (e12.all _ _ z4), hv3, q2 v3 S2 H2 (Ext.refl e2.inn) (Rp.mono e12.sub _ _ hr3)⟩
          · exact q2.elim
        | _ => exact q2.elim
      · exact q1.elim
    | _ => exact q1.elim
  · exact q.elim
/-- x[k][j] = e -/
def sPut2 (i : Nat) (fk fj fe : En → R PD) : En → Fl := fun ρ => match ρ[i]? with
  | some (some (.ll xss)) => sE fe (fun d => sE fk fun k => match k with
    | .int k => (match atI xss k with
      | some xs => sE fj fun j ρ => (match j with
        | .int j => (match ixN xs.length j with
          | some j => .nx (ρ.set i (some (.ll (xss.set ((ixN xss.length k).getD 0) (xs.set j d)))))
          | none => .no)
        | _ => .no)
      | none => fun _ => .no)
    | _ => fun _ => .no) ρ
  | _ => .no
theorem free_of {S1 H1 S2 H2 : Hp} (e : Ext S1 H1 S2 H2) {a : Addr} {o : HO} (h : S1 a = none) (h2 : H1 a = some o) : S2 a = none := e.none h (ne_some h2)
theorem sd_put2 (i : Nat) {px p2 pt : Pos} {ek ej : Expr} {fk fj fe : En → R PD} (hk : PE X ek (tD X.K X.mg W fk)) (hj : PE X ej (tD X.K X.mg W fj)) (he : PE X e (tD X.K X.mg W fe)) (hN : X.N[i]? = some x := by rfl) (hv : Vis X.env.scope x := by first | exact Or.inl rfl | exact Or.inr (Or.inl rfl) | exact Or.inr (Or.inr rfl))
    (hd : (x == ("__debug__" : Str)) = false := by decide) (hcd : (x == ("__classdict__" : Str)) = false := by decide) (hsx : PlainIx ek := by exact fun _ _ => rfl)
    (ha : ∀ v, assign (.Subscript (.Subscript (.Name x px) ek p2) ej pt) X.env v = (do
      let ov ← holding [v] (eval (.Subscript (.Name x px) ek p2) X.env)
      let iv ← holding [v, ov] (eval ej X.env)
      standAt pt
      holding [v, ov, iv] (setItem ov iv v)
      release [v, ov, iv] []) := by intro _; rfl)
    (hs : swapsWithSole [.Subscript (.Subscript (.Name x px) ek p2) ej pt] e pos.line X.env = pure false := by rfl) (hw : swappedStores [.Subscript (.Subscript (.Name x px) ek p2) ej pt] e X.env = pure none := by rfl)
    (h1 : (assignEach [.Subscript (.Subscript (.Name x px) ek p2) ej pt] X.env).map (·.2) = [assign (.Subscript (.Subscript (.Name x px) ek p2) ej pt) X.env] := by rfl) :
    PS X (.Assign [.Subscript (.Subscript (.Name x px) ek p2) ej pt] e pos) (tS X.K X.mg W (sPut2 i fk fj fe)) :=
  PSimp (ps_asg he (pg_sub (pe_ix (ix_seq (X := X)) (pe_var hN hv hd hcd) hk hsx) hj set_list ha) hs hw h1) fun D σ H ⟨G, ρ, S, r, q⟩ => by
    unfold sPut2 at q
    split at q
    · rename_i xss e
      obtain ⟨a, bs, h1, h2, h3, h4, h5⟩ := r.slotLL e
      refine tG.mk r (wG.imp ?_ (wS.ofE (rp := Rp X.K) r q))
      rintro v H1 ⟨S1, d, e1, ra, r1, q1⟩
      refine ⟨_, h1, tG.mk r1 (wG.imp ?_ (wS.ofE (rp := Rp X.K) r1 q1))⟩
      rintro kv H2 ⟨S2, k, e2, rk, r2, q2⟩
      cases k with
      | int k =>
        cases rk
        dsimp only at q2
        cases ex : atI xss k with
        | none => rw [ex] at q2; exact q2.elim
        | some xs =>
          rw [ex] at q2
          dsimp only at q2
          obtain ⟨m, b, vs, z1, z2, z3, z4, z5⟩ := h4.at ex
          rw [z1] at q2
          have e12 := e1.trans e2
          refine .inl ⟨_, _, _, .ref b, rfl, rfl, SqL.of (e12.all _ _ h3), z3, tG.mk r2 (wG.imp ?_ (wS.ofE (rp := Rp X.K) r2 q2))⟩
          rintro jv H3 ⟨S3, j, e3, rj, r3, q3⟩
          cases j with
          | int j =>
            cases rj
            dsimp only at q3
            split at q3
            · rename_i j2 hj2
              have e123 := e12.trans e3
              exact ⟨b, vs, j, j2, rfl, rfl, e123.all _ _ z4, by rw [z5.length]; exact hj2, q3 σ S3 _ (Same.refl _) (r3.changeLL e h1 (e123.all _ _ h3) z2 (RpA.set (Rp.mono (e2.sub.trans e3.sub) _ _ ra) j2 (RpA.mono e123.sub _ _ z5)))⟩
            · exact q3.elim
          | _ => exact q3.elim
      | _ => exact q2.elim
    · exact q.elim
/-- x[k].append(e) -/
def sApp2 (i : Nat) (fk fe : En → R PD) : En → Fl := fun ρ => match ρ[i]? with
  | some (some (.ll xss)) => sE fk (fun k => match k with
    | .int k => (match atI xss k with
      | some xs => sE fe fun d ρ => if xs.length < 16777216 then .nx (ρ.set i (some (.ll (xss.set ((ixN xss.length k).getD 0) (xs ++ [d]))))) else .no
      | none => fun _ => .no)
    | _ => fun _ => .no) ρ
  | _ => .no
end
end DL

set_option Elab.async false
set_option linter.all false
set_option maxRecDepth 100000
set_option maxHeartbeats 4000000
set_option autoImplicit false
/-! the data layer 11: exceptions that are caught and kept -/
namespace DL
open PySem L2
/-- whether a class of the program's errors is, or is under, T -/
def subX (c T : Str) : Bool := decide (T = "YardError") || (decide (T = "ValueError") || decide (c = T))
structure XAt (K : PySem.W.Frag) (mg : MG) (es : List Str) (T : Str) : Prop where
  nm : mg T = some (.ref (He.ga K T))
  ex : ∀ c ∈ es, mg c = some (.ref (He.ga K c)) ∧ PySem.W.exmOne K (.ref (He.ga K c)) (.ref (He.ga K T)) = some (subX c T)
def sTryK (es : List Str) (T : Str) (i j : Nat) (f : En → Fl) : En → Fl := fun ρ => match f ρ with
  | .ex c ρ' => if c ∈ es ∧ i < ρ'.length then (if subX c T = true then .nx (((ρ'.set i none).set j (some (.d (exD c)))).set i none) else .ex c ρ') else .no
  | r => r
def noX : Fl → Fl
  | .ex _ _ => .no
  | r => r
def sTryC (es : List Str) (T : Str) (f g : En → Fl) : En → Fl := fun ρ => match f ρ with
  | .ex c ρ' => if c ∈ es then (if subX c T = true then noX (g ρ') else .ex c ρ') else .no
  | r => r
section
variable {X : Cx} {W : WX} {f : En → Fl} {g : En → Fl} {es : List Str} {T n y : Str} {i j : Nat} {body suite : List Stmt} {b₀ : Stmt} {np py pn' pa pos pos' : Pos}
theorem sd_tryK (F : XAt X.K X.mg es T) (hs : X.stack = X.env :: X.outer) (hf : X.env.frame = some X.env.locals) (hex : X.ex = []) (hN : X.N.Nodup) (hi : X.N[i]? = some n) (hln : X.env.kindOf n = some .local) (hj : X.N[j]? = some y) (hlj : X.env.scope.names.lookup y = some .local)
    (hgl : Gl X T) (tk : Takes X W) (hB : ∀ (W : WX) (pn : List (Addr × Obj)) (xe : Value → Shared → Prop), Takes (X.tr pn xe) W → PassesOwn (model X.prog X.w) X.A X.env xe → PSs (X.tr pn xe) body (tS X.K X.mg W f))
    (hd : (n == ("__debug__" : Str)) = false := by decide) (hcd : (n == ("__classdict__" : Str)) = false := by decide) (hdT : (T == ("__debug__" : Str)) = false := by decide) (hv : Vis X.env.scope n := by exact Or.inl rfl)
    (hsw : swapsWith (.Name n pn') (some (.Name y py)) pa.line X.env = pure false := by rfl) (hw : swappedStores [.Name y py] (.Name n pn') X.env = pure none := by rfl) :
    PS X (.Try body [.ExceptHandler (some (.Name T np)) (some n) [.Assign [.Name y py] (.Name n pn') pa] pos'] [] [] pos) (tS X.K X.mg W (sTryK es T i j f)) := by
  refine PSimp (ps_try_keep (c := .ref (He.ga X.K T)) (i := i) hex hs hf hN hi hln ⟨hgl, hdT, .inl F.nm⟩ tk (tb := fun W => tS X.K X.mg W f) hB
    (fun a oe cls d pn hz hf => pss_one (ps_asg (X := X.suite a ((a, oe) :: pn)) (pe_var (X := X.suite a ((a, oe) :: pn)) hi hv hd hcd) (pg_name (X := X.suite a ((a, oe) :: pn)) hN hj (.inl hlj) (.inr hlj)) hsw hw))) ?_
  rintro D σ H ⟨G, ρ, S, r, q⟩
  refine ⟨G, ρ, S, r, ?_⟩
  unfold sTryK at q
  cases z : f ρ with
  | nx ρ' => rw [z] at q; exact q
  | rt d => rw [z] at q; exact q
  | rm d ρ' => rw [z] at q; exact q
  | bk ρ' => rw [z] at q; exact q
  | ct ρ' => rw [z] at q; exact q
  | no => rw [z] at q; exact q
  | ex c ρ' =>
    rw [z] at q
    dsimp only at q
    intro cls σ' S' H' hm s rel
    by_cases hc : c ∈ es ∧ i < ρ'.length
    · rw [if_pos hc] at q
      obtain ⟨f1, f2⟩ := F.ex c hc.1
      rw [f1] at hm
      cases hm
      refine ⟨_, f2, fun hb => ⟨rfl, fun a ha => ?_⟩, fun hb => ?_⟩
      · rw [if_pos hb] at q
        refine ⟨.ref a, List.getElem?_set_self (by rw [rel.len]; exact hc.2), fun _ => ?_⟩
        have e := Ext.known (o := ExK (.ref (He.ga X.K c)) a) rel.inn ha
        have r1 := ((rel.ext e).forget i (some (.ref a))).setD (.exc (K := X.K) (c := c) upd_same) j
        exact q _ _ _ (s.trans e.sub) (r1.forget i none)
      · rw [if_neg (by rw [hb]; exact Bool.false_ne_true)] at q
        exact q _ σ' S' H' f1 s rel
    · rw [if_neg hc] at q; exact q.elim
theorem sd_tryC (F : XAt X.K X.mg es T) (hs : X.stack = X.env :: X.outer) (hf : X.env.frame = some X.env.locals)
    (hgl : Gl X T) (tk : Takes X W) (hB : ∀ (W : WX) (pn : List (Addr × Obj)) (xe : Value → Shared → Prop), Takes (X.tr pn xe) W → PassesOwn (model X.prog X.w) X.A X.env xe → PSs (X.tr pn xe) body (tS X.K X.mg W f))
    (hS : ∀ (a : Addr) (pn : List (Addr × Obj)), PSs (X.suite a pn) (b₀ :: suite) (tS X.K X.mg W0 g)) (hdT : (T == ("__debug__" : Str)) = false := by decide) :
    PS X (.Try body [.ExceptHandler (some (.Name T np)) none (b₀ :: suite) pos'] [] [] pos) (tS X.K X.mg W (sTryC es T f g)) := by
  refine PSimp (ps_try_only (c := .ref (He.ga X.K T)) hs hf ⟨hgl, hdT, .inl F.nm⟩ tk (tb := fun W => tS X.K X.mg W f) hB (ts := fun _ _ _ => tS X.K X.mg W0 g) (fun a oe cls d pn hz hf => hS a ((a, oe) :: pn))) ?_
  rintro D σ H ⟨G, ρ, S, r, q⟩
  refine ⟨G, ρ, S, r, ?_⟩
  unfold sTryC at q
  cases z : f ρ with
  | nx ρ' => rw [z] at q; exact q
  | rt d => rw [z] at q; exact q
  | rm d ρ' => rw [z] at q; exact q
  | bk ρ' => rw [z] at q; exact q
  | ct ρ' => rw [z] at q; exact q
  | no => rw [z] at q; exact q
  | ex c ρ' =>
    rw [z] at q
    dsimp only at q
    intro cls σ' S' H' hm s rel
    by_cases hc : c ∈ es
    · rw [if_pos hc] at q
      obtain ⟨f1, f2⟩ := F.ex c hc
      rw [f1] at hm
      cases hm
      refine ⟨_, f2, fun hb a ha => ?_, fun hb => ?_⟩
      · rw [if_pos hb] at q
        refine ⟨G, ρ', S', rel, ?_⟩
        cases w : g ρ' with
        | nx ρ' => rw [w] at q; exact q.mono (r := .nx ρ') s
        | rt d => rw [w] at q; exact q
        | rm d ρ' => rw [w] at q; exact q.mono (r := .rm d ρ') s
        | bk ρ' => rw [w] at q; exact q.mono (r := .bk ρ') s
        | ct ρ' => rw [w] at q; exact q.mono (r := .ct ρ') s
        | no => rw [w] at q; exact q
        | ex c ρ' => rw [w] at q; exact q.elim
      · rw [if_neg (by rw [hb]; exact Bool.false_ne_true)] at q
        exact q _ σ' S' H' f1 s rel
    · rw [if_neg hc] at q; exact q.elim
end
/-! isinstance(e, T) of a kept error -/
structure XIs (K : PySem.W.Frag) (es : List Str) (T : Str) (cv : Value) : Prop where
  ex : ∀ c ∈ es, ExcC K (He.ga K c) ∧ PySem.W.kitOne K (.ref (He.ga K c)) cv = some (subX c T)
theorem keyD_none {k : L2.Key} (h : KeyD k .none) : False := by cases k <;> exact h
def gIsE (es : List Str) (T : Str) : PD → R PD
  | .dict [(.none, .str c)] => if c ∈ es then .ok (.bool (subX c T)) else .no
  | _ => .no
theorem call_isK {X : Cx} : CallR X (.builtin "isinstance") (fun xs H Q => ∃ (a : Addr) (c : V) (cv : Value) (b : Bool) (D : Addr), xs = [.ref a, c] ∧ H a = some (ExK (.ref D) a) ∧ ExcC X.K D ∧ (∀ u, RelV c u → u = cv) ∧ PySem.W.kitOne X.K (.ref D) cv = some b ∧ Q (.bl b) H) := by
  intro pins s σ H xs us Q I r h
  obtain ⟨a, c, cv, b, D, rfl, ha, C, hcv, e, q⟩ := h
  cases r with
  | cons rx rr =>
    cases rr with
    | cons rt rr =>
      cases rr
      cases rx
      have ec := hcv _ rt
      subst ec
      obtain ⟨⟨oe, vs, hget, hz, hv⟩, _, _⟩ := I.hok a _ ha
      have J : PySem.W.InstAt s.heap a oe D none := by
        obtain ⟨oc, od, oda, osl⟩ := oe
        obtain ⟨h1, h2⟩ := hz
        dsimp only at h1 h2 hv
        subst h1 h2 hv
        exact ⟨hget, rfl, rfl, trivial⟩
      exact PySem.W.kia_one (PySem.W.handS_kitx_exc C.hg C.hk C.hs C.hd C.ha C.hn C.ht C.hm) I.kIn J e (fun z => nomatch z) fun tk => ⟨.bl b, H, I.kept (t' := tk) fun _ _ z => z, rfl, q⟩
def excCB (K : PySem.W.Frag) (D : Addr) : Bool := decide (PySem.W.findIn K (.ref D) "__getattribute__" = some (some (.builtin "BaseException.__getattribute__"))) && (decide (PySem.W.findIn K (.ref D) "__getattr__" = some none) && (decide (PySem.W.subIn K (.ref D) (.type "BaseException") = some true) && (PySem.W.hasDictIn K D && (decide (PySem.W.findIn K (.ref D) "__class__" = some (some (.builtin "object.__class__"))) &&
  (decide (PySem.W.specialIn K (.builtin "object.__class__") "__get__" = some (some (.builtin "getset_descriptor.__get__"))) && (decide (PySem.W.takesIn K (.builtin "object.__class__") = some true) && decide (PySem.W.mroIn K D (.type "object") = some true)))))))
theorem excC_ok {K : PySem.W.Frag} {D : Addr} (h : excCB K D = true) : ExcC K D := by
  unfold excCB at h
  simp only [Bool.and_eq_true, decide_eq_true_eq] at h
  obtain ⟨h1, h2, h3, h4, h5, h6, h7, h8⟩ := h
  exact ⟨h1, h2, h3, h4, h5, h6, h7, h8⟩
def xisB (K : PySem.W.Frag) (es : List Str) (T : Str) (cv : Value) : Bool := es.all fun c => excCB K (He.ga K c) && decide (PySem.W.kitOne K (.ref (He.ga K c)) cv = some (subX c T))
theorem xis_ok {K : PySem.W.Frag} {es : List Str} {T : Str} {cv : Value} (h : xisB K es T cv = true) : XIs K es T cv := ⟨fun c hc => by
  have := List.all_eq_true.mp h c hc
  simp only [Bool.and_eq_true, decide_eq_true_eq] at this
  exact ⟨excC_ok this.1, this.2⟩⟩
def xatB (K : PySem.W.Frag) (es : List Str) (T : Str) : Bool := es.all fun c => decide (PySem.W.exmOne K (.ref (He.ga K c)) (.ref (He.ga K T)) = some (subX c T))
theorem xat_ok {K : PySem.W.Frag} {mg : MG} {es : List Str} {T : Str} (h : xatB K es T = true) (hT : mg T = some (.ref (He.ga K T))) (hc : ∀ c ∈ es, mg c = some (.ref (He.ga K c))) : XAt K mg es T := ⟨hT, fun c hm => by
  have := List.all_eq_true.mp h c hm
  exact ⟨hc c hm, by simpa using this⟩⟩
section
variable {X : Cx} {W : WX} {f : En → R PD} {es : List Str} {T : Str} {e : Expr} {p pt pos : Pos}
theorem isE_of {cv : Value} {c : V} (F : XIs X.K es T cv) (hc : ∀ u, RelV c u → u = cv) {te : TE} (ht : ∀ σ H Q, Q c H → te σ H Q) : ∀ σ H Q, tD X.K X.mg W (d1 (gIsE es T) f) σ H Q → (tD X.K X.mg W f) σ H fun x H1 => te σ H1 fun y H2 => (fun xs H Q => ∃ (a : Addr) (c : V) (cv : Value) (b : Bool) (D : Addr), xs = [V.ref a, c] ∧ H a = some (ExK (.ref D) a) ∧ ExcC X.K D ∧ (∀ u, RelV c u → u = cv) ∧ PySem.W.kitOne X.K (.ref D) cv = some b ∧ Q (V.bl b) H) [x, y] H2 Q := by
  rintro σ H Q ⟨G, ρ, S, rel, h⟩
  refine tG.mk rel (wG.imp ?_ (wG.bind (rp := Rp X.K) h))
  rintro v H1 ⟨S1, d, e1, ra, h1⟩
  refine ht _ _ _ ?_
  unfold gIsE at h1
  split at h1
  · rename_i c'
    cases ra with
    | exc hh =>
      split at h1
      · rename_i hm
        obtain ⟨f1, f2⟩ := F.ex _ hm
        exact ⟨_, c, cv, _, _, rfl, e1.inn _ _ hh, f1, hc, f2, h1 _ S1 H1 (Ext.refl e1.inn) (.bl _)⟩
      · exact h1.elim
    | dct hh hk =>
      cases hk with
      | cons hkd _ _ => exact (keyD_none hkd).elim
  · exact h1.elim
theorem pd_isE (F : XIs X.K es T (.ref (He.ga X.K T))) (hm : X.mg "isinstance" = none) (hT : X.mg T = some (.ref (He.ga X.K T))) (ha : PE X e (tD X.K X.mg W f)) (hg : Gl X "isinstance" := by rfl) (hgt : Gl X T := by rfl) (hdb : (T == ("__debug__" : Str)) = false := by decide)
    (he : starEach [e, .Name T pt] X.env = (false, eval e X.env) :: starEach [.Name T pt] X.env := by rfl) (he2 : starEach [.Name T pt] X.env = (false, eval (.Name T pt) X.env) :: starEach [] X.env := by rfl) (hpl : (backTo pos (starEach [.Name T pt] X.env)).any (·.1) = false := by rfl) :
    PE X (.Call (.Name "isinstance" p) [e, .Name T pt] [] pos) (tD X.K X.mg W (d1 (gIsE es T) f)) :=
  PEimp (pe_callB call_isK hg hm (by decide +kernel) (pa_cons ha (pa_cons (pe_glob (v := .ref (He.ga X.K T)) hgt hT rfl hdb) pa_nil he2) he) (by decide) (by decide) he hpl) fun σ H Q h => isE_of (c := .ref (He.ga X.K T)) (te := fun σ H Q => Q (.ref (He.ga X.K T)) H) F (fun u hu => hu) (fun _ _ _ q => q) σ H Q h
theorem pd_isV {B : String} (F : XIs X.K es T (.type B)) (hm : X.mg "isinstance" = none) (hmt : X.mg T = none) (hv : bootBuiltins T = some (.type B)) (ha : PE X e (tD X.K X.mg W f)) (hg : Gl X "isinstance" := by rfl) (hgt : Gl X T := by rfl) (hnn : T ≠ "__name__" := by decide) (hdb : (T == ("__debug__" : Str)) = false := by decide)
    (he : starEach [e, .Name T pt] X.env = (false, eval e X.env) :: starEach [.Name T pt] X.env := by rfl) (he2 : starEach [.Name T pt] X.env = (false, eval (.Name T pt) X.env) :: starEach [] X.env := by rfl) (hpl : (backTo pos (starEach [.Name T pt] X.env)).any (·.1) = false := by rfl) :
    PE X (.Call (.Name "isinstance" p) [e, .Name T pt] [] pos) (tD X.K X.mg W (d1 (gIsE es T) f)) :=
  PEimp (pe_callB call_isK hg hm (by decide +kernel) (pa_cons ha (pa_cons (pe_bltn (v := .ty B) hgt hmt hv rfl hnn hdb) pa_nil he2) he) (by decide) (by decide) he hpl) fun σ H Q h => isE_of (c := .ty B) (te := fun σ H Q => Q (.ty B) H) F (fun u hu => hu) (fun _ _ _ q => q) σ H Q h
end
end DL

set_option Elab.async false
set_option linter.all false
set_option maxRecDepth 100000
set_option maxHeartbeats 4000000
set_option autoImplicit false
/-! list(reversed(a list)) -/
namespace DXb
open PySem PySem.Spec PyProof.Rows RT
section
variable {prog : Program} {w : World} {A : Around} {E : Value → Shared → Prop} {s : Shared}
theorem extend_rev {R : Result → Shared → Prop} (hh : A.handled = none) {it l : Addr} {items : Array Value} (S : Addr) (res : Value) (c₀ : Nat) (hS : s.heap.get? S = some { cls := .type "list", data := .seq #[] c₀ })
    (hit : s.heap.IsRevIter it l ((items.size : Int) - 1)) (hl : s.heap.IsList l items) (hne : l ≠ it) (hSi : S ≠ it) (hSl : S ≠ l) (hn : items.size ≤ sizeLine)
    (hR : ∀ h' tk acc' c', (∀ b o, b ≠ S → b ≠ it → s.heap.get? b = some o → h'.get? b = some o) → h'.get? S = some { cls := .type "list", dict := none, data := .seq acc' c', slots := #[] } →
      ItemsOf (fun i v => items[items.size - 1 - i]? = some v) acc' items.size → R (.ok (.ret res)) { s with heap := h', toks := tk }) :
    wpAny (model prog w) A.in1 (Builtin.List.listExtendWith (.ref S) (.ref it) res)
      (fun fin s' => match fin with | .done f => R (.ok f) s' | .again c' => c'.quiet = true ∧ codeAny (model prog w) A c' R s') (fun e s' => R (.error e) s') s := by
  have W := (Walks.listRev (prog := prog) (w := w) (A := A.in1) hh it l hne items).toS
  have hSf : S ∉ [it, l] := by simp only [List.mem_cons, List.not_mem_nil, or_false, not_or]; exact ⟨hSi, hSl⟩
  have hT : s.TypeIs (.ref it) "list_reverseiterator" := hit.typeIs
  have h1 : Builtin.List.listSameRef (.ref S) (.ref it) = false := by simp [Builtin.List.listSameRef, hSi]
  unfold Builtin.List.listExtendWith
  refine wpAny_bind (wpAny_typeOf hT ?_)
  rw [if_neg (by rw [h1]; decide)]
  refine wpAny_bind (wpAny_pyIter_revIter hit ?_)
  refine wpAny_bind (wpAny_holding ?_)
  unfold Builtin.List.listLengthHint
  refine wpAny_bind (wpAny_specialOf hT nolen_lri ?_)
  show wpAny _ A.in1 (specialOf (Value.ref it) (Str.ofString "__length_hint__") >>= _) _ _ _
  refine wpAny_bind (wpAny_specialOf hT hint_lri ?_)
  generalize hid : ("list_reverseiterator.__length_hint__" : String) = id0
  wp_delta
  rw [show splitId id0 = some ("list_reverseiterator", "__length_hint__") from by subst hid; decide +kernel]
  subst hid
  refine wpAny_bind (wpAny_isInstance (b := true) hT (by rw [isSubtype_type]; kernel_rfl) ?_)
  refine wpAny_pure ?_
  rw [if_neg (by decide)]
  have e0 : ((items.size : Nat) : Int) - 1 - ((0 : Nat) : Int) = (items.size : Int) - 1 := by omega
  refine wpAny_pure ⟨plainId_quiet F.plain_extend_loop _, codeAny_extend_loopS W hn _ hSf _ items.size 0 _ _ _ rfl (Nat.zero_le _) ⟨Nat.zero_le _, by rw [e0]; exact hit, hl⟩ hS (ItemsOf.nil _) fun s' acc' c' hm hS' hacc => ?_⟩
  rw [Moved.eq_with hm]
  refine hR s'.heap s'.toks acc' c' (fun b o hb hi e => hm.heap b o (fun hmem => ?_) e) hS' hacc
  rcases List.mem_cons.mp hmem with e' | hmem
  · exact hb e'
  · exact hi (List.mem_singleton.mp hmem)
theorem list_init_rev {R : Result → Shared → Prop} (hh : A.handled = none) {it l : Addr} {items : Array Value} (S : Addr) (hS : s.heap.get? S = some { cls := .type "list", data := .seq #[] })
    (hit : s.heap.IsRevIter it l ((items.size : Int) - 1)) (hl : s.heap.IsList l items) (hne : l ≠ it) (hSi : S ≠ it) (hSl : S ≠ l) (hn : items.size ≤ sizeLine)
    (hR : ∀ h' tk acc' c', (∀ b o, b ≠ S → b ≠ it → s.heap.get? b = some o → h'.get? b = some o) → h'.get? S = some { cls := .type "list", dict := none, data := .seq acc' c', slots := #[] } →
      ItemsOf (fun i v => items[items.size - 1 - i]? = some v) acc' items.size → R (.ok (.ret .none)) { s with heap := h', toks := tk }) :
    wpAny (model prog w) A.in1 (Builtin.«list.__init__» ⟨[.ref S, .ref it], []⟩)
      (fun fin s' => match fin with | .done f => R (.ok f) s' | .again c' => c'.quiet = true ∧ codeAny (model prog w) A c' R s') (fun e s' => R (.error e) s') s := by
  show wpAny _ _ (do let old ← Builtin.List.listItems (.ref S); Builtin.List.listUpdate (.ref S) (fun _ => #[]); letGo old.toList.reverse; Builtin.List.listExtendWith (.ref S) (.ref it) .none) _ _ s
  refine wpAny_bind ?_
  unfold Builtin.List.listItems
  refine wpAny_bind (wpAny_seqItems hS rfl (wpAny_pure ?_))
  show wpAny _ _ (updateSeq S (fun _ => #[]) >>= fun _ => letGo (#[] : Array Value).toList.reverse >>= fun _ => Builtin.List.listExtendWith (.ref S) (.ref it) .none) _ _ s
  refine wpAny_bind (wpAny_updateSeq hS rfl ?_)
  have hS₂ := Heap.get?_update_self (Obj.mapSeq (fun _ => (#[] : Array Value))) hS rfl
  have oth : ∀ b o, b ≠ S → s.heap.get? b = some o → (s.heap.update S (Obj.mapSeq (fun _ => (#[] : Array Value)))).get? b = some o :=
    fun b o hb e => (Heap.get?_update_other _ _ (Ne.symm hb)).trans e
  refine wpAny_bind (wpAny_letGo ?_)
  refine extend_rev hh S .none _ hS₂ (hit.at fun o e => oth _ _ (Ne.symm hSi) e) ?_ hne hSi hSl hn fun h' tk acc' c' hk hS' hacc => ?_
  · obtain ⟨o, q, r⟩ := hl
    exact ⟨o, oth _ _ (Ne.symm hSl) q, r⟩
  · exact hR h' tk acc' c' (fun b o hb hi e => hk b o hb hi (oth b o hb e)) hS' hacc
theorem call_list_rev {it l : Addr} {items : Array Value} {Q : Value → Shared → Prop} (hh : A.handled = none) (hit : s.heap.IsRevIter it l ((items.size : Int) - 1)) (hl : s.heap.IsList l items) (hne : l ≠ it) (hn : items.size ≤ sizeLine)
    (hQ : ∀ h' tk acc' c', (∀ b o, b ≠ it → s.heap.get? b = some o → h'.get? b = some o) → h'.get? s.heap.objs.size = some { cls := .type "list", dict := none, data := .seq acc' c', slots := #[] } →
      ItemsOf (fun i v => items[items.size - 1 - i]? = some v) acc' items.size → Q (.ref s.heap.objs.size) { s with heap := h', toks := tk }) :
    wpAny (model prog w) A (call (.type "list") [.ref it]) Q E s := by
  refine callType_codes (Q₁ := fun obj s₁ => obj = .ref s.heap.objs.size ∧ s₁ = { s with heap := s.heap.push { cls := .type "list", data := .seq #[] } }) F.called_list (F.typeCall_list_1 _) F.entry_list_init
    (code_list_new _ ⟨rfl, rfl⟩) fun obj s₁ h₁ => ?_
  obtain ⟨rfl, rfl⟩ := h₁
  have hS : (s.heap.push { cls := .type "list", data := .seq #[] }).get? s.heap.objs.size = some { cls := .type "list", data := .seq #[] } := Heap.get?_push_size _ rfl
  obtain ⟨oi, hoi, _⟩ := id hit
  obtain ⟨ol, hol, _⟩ := id hl
  have hSi : s.heap.objs.size ≠ it := Nat.ne_of_gt (Heap.lt_size hoi)
  have hSl : s.heap.objs.size ≠ l := Nat.ne_of_gt (Heap.lt_size hol)
  refine ⟨⟨_, hS, rfl⟩, F.args_list_init_2 _ _, list_init_rev (A := A.in1) hh _ hS (hit.at fun o e => Heap.get?_push_of_some _ e) (hl.push _) hne hSi hSl hn fun h' tk acc' c' hk hS' hacc => ?_⟩
  exact ⟨rfl, hQ h' tk acc' c' (fun b o hb e => hk b o (Nat.ne_of_lt (Heap.lt_size e)) hb (Heap.get?_push_of_some _ e)) hS' hacc⟩
end
end DXb
namespace DL
open PySem PySem.Spec PyProof.Rows L2 DXb
/-- list(reversed(x)), x a list: a new list -/
def tLstRev (K : PySem.W.Frag) (te : TE) : TE := fun σ H Q => te σ H fun v H1 => ∃ (a : Addr) (xs : List V), v = .ref a ∧ SqL K H1 a xs ∧ ∀ q, H1 q = none → Q (.ref q) (upd H1 q (.lst xs.reverse))
section
variable {X : Cx}
theorem pe_lstRev {e : Expr} {te : TE} {p p2 pos pos2 : Pos} (hc : X.calm = true) (hg : Gl X "list") (hm : X.mg "list" = none) (hg2 : Gl X "reversed") (hm2 : X.mg "reversed" = none) (he : PE X e te)
    (hs : starEach [e] X.env = (false, eval e X.env) :: starEach [] X.env := by rfl)
    (hs2 : starEach [.Call (.Name "reversed" p2) [e] [] pos2] X.env = (false, eval (.Call (.Name "reversed" p2) [e] [] pos2) X.env) :: starEach [] X.env := by rfl) :
    PE X (.Call (.Name "list" p) [.Call (.Name "reversed" p2) [e] [] pos2] [] pos) (tLstRev X.K te) := by
  refine ⟨fun pins s σ H Q I h => ?_⟩
  refine Call_ (ld_blt I hg hm boot_list (PyProof.Rows.callWith_type1 (args_cons (Call_ (ld_blt I hg2 hm2 PyProof.Rows.boot_reversed (PyProof.Rows.callWith_type1 (args_cons (thn (he.run pins s σ H _ I h) fun u s1 ⟨v, H1, I1, r1, q1⟩ => args_nil ?_) hs) hs rfl))) hs2) hs2 rfl))
  obtain ⟨a, xs, ev, hq, q⟩ := q1
  subst ev
  obtain rfl : u = Value.ref a := r1
  obtain ⟨its, rv, p', hz⟩ := I1.list hq
  refine call_reversed_list p'.isList (args_nil ?_)
  have k0 : ∀ b o, s1.heap.get? b = some o → (s1.heap.push (revObj a ((its.toArray.size : Int) - 1))).get? b = some o := fun b o e => Heap.get?_push_of_some _ e
  have I2 : Inv X pins σ H1 { s1 with heap := s1.heap.push (revObj a ((its.toArray.size : Int) - 1)) } := I1.kept (t' := s1.toks) k0
  obtain ⟨f0, f1, f2, f3, f4, f5⟩ := I1.fpOk (H' := H1) (b := s1.heap.objs.size) (Nat.le_refl _) (I1.hok.fresh (Nat.le_refl _))
  have hl := p'.isList
  obtain ⟨ol, hol, _⟩ := id hl
  have hne : a ≠ s1.heap.objs.size := Nat.ne_of_lt (Heap.lt_size hol)
  have hn : its.toArray.size ≤ sizeLine := by rw [List.size_toArray, ← rv.length]; exact hz
  refine call_list_rev (s := { s1 with heap := s1.heap.push (revObj a ((its.toArray.size : Int) - 1)) }) (I1.ok.hd hc) ⟨_, Heap.get?_push_size _ rfl, rfl, rfl⟩ (hl.push _) hne hn fun h' tk acc c hk hS hi => ?_
  have I3 : Inv X pins σ H1 { s1 with heap := h', toks := tk } := I2.turned (t' := tk) (fun b o hb e => hk b o hb e) f0 f1 f3 f4 f5
  have hp0 := I2.hok.fresh (Nat.le_refl _)
  have n0 : X.s_0.heap.get? (s1.heap.push (revObj a ((its.toArray.size : Int) - 1))).objs.size = none := by
    cases q : X.s_0.heap.get? (s1.heap.push (revObj a ((its.toArray.size : Int) - 1))).objs.size with
    | none => rfl
    | some o => exact absurd (Heap.lt_size q) (Nat.not_lt.mpr I2.sz)
  have rl := RT.vals_rev rv hi
  have I4 := invTrack (o := .lst xs.reverse) I3 hS (fun v z => nomatch z) hp0 n0 (fun z => absurd I2.lt (by rw [← z]; exact Nat.lt_irrefl _)) (fun p hp z => by
    have := Heap.lt_size (I2.pin p hp).1
    rw [z] at this
    exact absurd this (Nat.lt_irrefl _)) ⟨by rw [List.length_reverse]; exact hz, acc.toList, c, rl, by rw [Array.toArray_toList]; exact hS⟩
  exact ⟨.ref (s1.heap.push (revObj a ((its.toArray.size : Int) - 1))).objs.size, _, I4, rfl, q _ hp0⟩
end
end DL

set_option Elab.async false
set_option linter.all false
set_option maxRecDepth 100000
set_option maxHeartbeats 4000000
set_option autoImplicit false
/-! the data layer 12: dict displays, list.count, list.index, list(reversed(x)), x[::-1] -/
namespace DL
open PySem L2
section
variable {X : Cx} {W : WX} {f f1 f2 : En → R PD} {o e : Expr} {p p2 pk pos pos2 apos cpos : Pos} {j : Nat}
theorem pd_dict0 : PE X (.Dict [] [] pos) (tD X.K X.mg W (dC (.dict []))) := PEimp pe_dnewK fun σ H Q ⟨G, ρ, S, r, h⟩ => fun p hp => h (.ref p) _ _ (Ext.known r.inn hp) (.dct upd_same .nil)
def dDisp1 (i : Int) (f : En → R PD) : En → R PD := fun ρ => (f ρ).bind fun d => .ok (.dict [(.int i, d)])
theorem pd_dict1 {i : Int} (he : PE X e (tD X.K X.mg W f)) : PE X (.Dict [some (.Constant (.int i) j pk)] [e] pos) (tD X.K X.mg W (dDisp1 i f)) :=
  PEimp (pe_disp (pps_cons pe_int he pps_nil) rfl rfl (by intro z; cases z) (by show 1 ≤ 15; decide)) fun σ H Q ⟨G, ρ, S, r, h⟩ => by
    intro p hp
    have e1 := Ext.fresh (o := .dK []) r.inn hp
    refine tG.mk (r.ext e1) ?_
    unfold dDisp1 at h
    cases z : f ρ with
    | ok d =>
      rw [z] at h
      intro v S2 H2 e2 rv
      have h2 : H2 p = some (.dK []) := e2.all _ _ upd_same
      have hs : S2 p = none := free_of e2 (r.inn.free hp) upd_same
      refine ⟨h2, [(.inl i, v)], rfl, by show 1 ≤ 15; decide, ?_⟩
      have e3 : Ext S H (upd S2 p (.dK [(.inl i, v)])) (upd H2 p (.dK [(.inl i, v)])) := by
        have e12 := e1.trans e2
        refine ⟨fun a o q => ?_, fun a o q => ?_, fun a o q => ?_, fun a o q => ?_⟩
        · rw [upd_ne (ne_of_none (e12.sub _ _ q) hs)]; exact e12.sub _ _ q
        · rw [upd_ne (ne_of_none q hp)]; exact e12.all _ _ q
        · by_cases ha : a = p
          · subst ha; rw [upd_same] at q ⊢; exact q
          · rw [upd_ne ha] at q ⊢; exact e12.inn _ _ q
        · by_cases ha : a = p
          · subst ha; exact .inr hp
          · rw [upd_ne ha] at q; exact e12.new _ _ q
      refine h (.ref p) _ _ e3 (.dct upd_same (.cons rfl (Rp.mono (fun a o q => ?_) _ _ rv) .nil))
      rw [upd_ne (ne_of_none q hs)]; exact q
    | ex c => rw [z] at h; exact fun cls S' H' m e2 => h cls S' H' m (e1.trans e2)
    | no => rw [z] at h; exact h
/-! methods of lists -/
theorem mt_lcountF : MtR X "list.count" (fun x xs H Q => ∃ (a : Addr) (ys : List V) (y : V), x = .ref a ∧ xs = [y] ∧ SqL X.K H a ys ∧ flatV y = true ∧ ys.all flatV = true ∧ Q (.int (ys.countP fun z => eqV z y : Nat)) H) := by
  intro pins s σ H x xs v us Q I rx rxs h
  obtain ⟨a, ys, y, rfl, rfl, hs, fy, fys, q⟩ := h
  cases rx
  obtain ⟨u, rfl, ry⟩ := rxs.one
  obtain ⟨its, rv, ⟨⟨cls, dd, data, sl⟩, n, ho, hc, hdn, hd⟩, hlen⟩ := I.list hs
  simp only at hc hd
  subst hc hd
  refine call_meets PySem.F.slot_list_count ⟨_, ho, rfl⟩ PySem.F.entry_list_count (PySem.F.args_list_count_2 _ _)
    (SeqAt.list_countAt a its.toArray n dd sl u (eqU y)) ⟨ho, fun u' hu' => mem_eqAt ry fy rv fys u' (by simpa using hu'), ?_⟩
  have ec : ∀ {ys : List V} {its : List Value}, Vals ys its → ys.all flatV = true → its.countP (eqU y) = ys.countP fun z => eqV z y := by
    intro ys
    induction ys with
    | nil => intro its r _; cases r; rfl
    | cons z ys ih =>
      intro its r f
      cases r with
      | cons r1 r2 =>
        rw [List.all_cons, Bool.and_eq_true] at f
        rw [List.countP_cons, List.countP_cons, ih r2 f.2, eqU_of r1 f.1]
  refine ⟨.int (ys.countP fun z => eqV z y : Nat), H, I.tok _, ⟨s.toks, ?_⟩, q⟩
  show Value.int ((its.toArray.toList.countP (eqU y) : Nat) : Int) s.toks = _
  rw [show its.toArray.toList = its by simp, ec rv fys]
def gm_count : PD → PD → R PD
  | .list ds, d => if flatD d = true ∧ ds.all flatD = true then .ok (.int (ds.countP fun z => PyData.eqv z d : Nat)) else .no
  | _, _ => .no
theorem countV_rp {K : PySem.W.Frag} {S : Hp} {v : V} {d : PD} (r : Rp K S v d) (hd : flatD d = true) : ∀ {ds : List PD} {vs : List V}, RpA K S vs ds → ds.all flatD = true → vs.countP (fun z => eqV z v) = ds.countP fun z => PyData.eqv z d
  | [], _, h, _ => by cases h; rfl
  | e :: ds, _, h, f => by
    cases h with
    | cons h1 h2 =>
      rw [List.all_cons, Bool.and_eq_true] at f
      rw [List.countP_cons, List.countP_cons, countV_rp r hd h2 f.2, eqv_rp h1 r f.1 hd]
/-- o.m(e): o is looked at first -/
def dM (k : PD → Bool) (g : PD → PD → R PD) (f1 f2 : En → R PD) : En → R PD := fun ρ => (f1 ρ).bind fun a => if k a = true then (f2 ρ).bind (g a) else .no
def isL : PD → Bool
  | .list _ => true
  | _ => false
def isS : PD → Bool
  | .str _ => true
  | _ => false
/-- a method of lists, by its work on data -/
theorem pd_lm {id : String} {name : Str} {r : V → List V → Hp → VK → Prop} {g : PD → PD → R PD} (slot : Slot "list" name id) (hty : typeOf (.builtin id) = pure (.type "method_descriptor")) (hm : MtR X id r)
    (hg : ∀ (a : Addr) (xs : List V) (ds : List PD) (u : V) (b : PD) (S H : Hp) (Q : VK), Same S H → SqL X.K S a xs → RpA X.K S xs ds → Rp X.K S u b → (match g (.list ds) b with
      | .ok d => ∀ v S' H', Ext S H S' H' → Rp X.K S' v d → Q v H'
      | _ => False) → r (.ref a) [u] H Q) (hn : NoEx g)
    (ho : PE X o (tD X.K X.mg W f1)) (he : PE X e (tD X.K X.mg W f2)) (hbase : attributeBase o name X.env (eval o X.env) = eval o X.env := by rfl)
    (hfew : ((backTo cpos (starEach [e] X.env)).all (fun x => !x.1) && (backToKw cpos (keywordEach [] X.env)).all (fun x => x.1.isSome) && decide (([e] : List Expr).length + ([] : List Keyword).length + (if ([] : List Keyword).isEmpty then 0 else 1) < 30)) = true := by rfl)
    (hline : (apos.endLine == cpos.line) = true := by rfl) (hs : starEach [e] X.env = (false, eval e X.env) :: starEach [] X.env := by rfl) (hplain : (backTo cpos (starEach [] X.env)).any (·.1) = false := by rfl) :
    PE X (.Call (.Attribute o name apos) [e] [] cpos) (tD X.K X.mg W (dM isL g f1 f2)) := PEimp (pe_bm PySem.F.plainAttrs_list slot hty hm ho (pa_cons he pa_nil hs) hbase hfew hline hs hplain) fun σ H Q ⟨G, ρ, S, rel, h⟩ => by
  refine tG.mk rel (wG.imp ?_ (wG.bind (rp := Rp X.K) h))
  rintro x H1 ⟨S1, a, e1, ra, h1⟩
  cases a with
  | list ds =>
    cases ra with
    | lst hq ha =>
      rw [if_pos (show isL (.list ds) = true from rfl)] at h1
      refine ⟨.inl ⟨rfl, _, Same.seq e1.inn hq⟩, tG.mk (rel.ext e1) (wG.imp ?_ (wG.bind (rp := Rp X.K) h1))⟩
      rintro y H2 ⟨S2, b, e2, rb, h2⟩
      refine hg _ _ ds y b S2 H2 Q e2.inn (Same.seq e2.sub hq) (RpA.mono e2.sub _ _ ha) rb ?_
      cases z : g (.list ds) b with
      | ok d => rw [z] at h2; exact h2
      | ex c => exact absurd z (hn _ _ _)
      | no => rw [z] at h2; exact h2
  | _ => rw [if_neg (by intro z; cases z)] at h1; exact h1.elim
theorem nx_count : NoEx gm_count := fun a b c h => by
  unfold gm_count at h
  split at h
  · split at h <;> cases h
  · cases h
theorem pd_m_count (ho : PE X o (tD X.K X.mg W f1)) (he : PE X e (tD X.K X.mg W f2)) (hbase : attributeBase o "count" X.env (eval o X.env) = eval o X.env := by rfl)
    (hfew : ((backTo cpos (starEach [e] X.env)).all (fun x => !x.1) && (backToKw cpos (keywordEach [] X.env)).all (fun x => x.1.isSome) && decide (([e] : List Expr).length + ([] : List Keyword).length + (if ([] : List Keyword).isEmpty then 0 else 1) < 30)) = true := by rfl)
    (hline : (apos.endLine == cpos.line) = true := by rfl) (hs : starEach [e] X.env = (false, eval e X.env) :: starEach [] X.env := by rfl) (hplain : (backTo cpos (starEach [] X.env)).any (·.1) = false := by rfl) :
    PE X (.Call (.Attribute o "count" apos) [e] [] cpos) (tD X.K X.mg W (dM isL gm_count f1 f2)) :=
  pd_lm PySem.F.slot_list_count PySem.F.type_list_count mt_lcountF (fun a xs ds u b S H Q hS hq ha rb h => by
    unfold gm_count at h
    dsimp only at h
    by_cases hf : flatD b = true ∧ ds.all flatD = true
    · rw [if_pos hf] at h
      exact ⟨_, _, u, rfl, rfl, Same.seq hS hq, flat_rp rb hf.1, flatA_rp ha hf.2, by rw [countV_rp rb hf.1 ha hf.2]; exact h _ S H (Ext.refl hS) (.int _)⟩
    · rw [if_neg hf] at h; exact h.elim) nx_count ho he hbase hfew hline hs hplain
def fstEq (d : PD) : List PD → Option Nat
  | [] => none
  | z :: ds => if PyData.eqv z d = true then some 0 else (fstEq d ds).map (· + 1)
theorem fstEq_ok {d : PD} : ∀ {ds : List PD} {j : Nat}, fstEq d ds = some j → ∃ z, ds[j]? = some z ∧ PyData.eqv z d = true ∧ ∀ (m : Nat) (z' : PD), m < j → ds[m]? = some z' → PyData.eqv z' d = false
  | [], _, h => nomatch h
  | z :: ds, j, h => by
    unfold fstEq at h
    by_cases c : PyData.eqv z d = true
    · rw [if_pos c] at h
      cases h
      exact ⟨z, rfl, c, fun m _ hm => absurd hm (Nat.not_lt_zero _)⟩
    · rw [if_neg c] at h
      cases e : fstEq d ds with
      | none => rw [e] at h; cases h
      | some k =>
        rw [e] at h
        cases h
        obtain ⟨z', h1, h2, h3⟩ := fstEq_ok e
        refine ⟨z', by simpa using h1, h2, fun m z'' hm hz => ?_⟩
        cases m with
        | zero => simp at hz; subst hz; simpa using c
        | succ m => exact h3 m z'' (Nat.lt_of_succ_lt_succ hm) (by simpa using hz)
def gm_index : PD → PD → R PD
  | .list ds, d => if SeqAt.shaped (.list ds) = true ∧ SeqAt.shaped d = true then (match fstEq d ds with
    | some j => .ok (.int (j : Nat))
    | none => .no) else .no
  | _, _ => .no
theorem nx_index : NoEx gm_index := fun a b c h => by
  unfold gm_index at h
  split at h
  · split at h
    · split at h <;> cases h
    · cases h
  · cases h
theorem pd_m_index (hu : X.A.units + 65 < cLine) (ho : PE X o (tD X.K X.mg W f1)) (he : PE X e (tD X.K X.mg W f2)) (hbase : attributeBase o "index" X.env (eval o X.env) = eval o X.env := by rfl)
    (hfew : ((backTo cpos (starEach [e] X.env)).all (fun x => !x.1) && (backToKw cpos (keywordEach [] X.env)).all (fun x => x.1.isSome) && decide (([e] : List Expr).length + ([] : List Keyword).length + (if ([] : List Keyword).isEmpty then 0 else 1) < 30)) = true := by rfl)
    (hline : (apos.endLine == cpos.line) = true := by rfl) (hs : starEach [e] X.env = (false, eval e X.env) :: starEach [] X.env := by rfl) (hplain : (backTo cpos (starEach [] X.env)).any (·.1) = false := by rfl) :
    PE X (.Call (.Attribute o "index" apos) [e] [] cpos) (tD X.K X.mg W (dM isL gm_index f1 f2)) :=
  pd_lm PySem.F.slot_list_index PySem.F.type_list_index (mt_indexD hu) (fun a xs ds u b S H Q hS hq ha rb h => by
    unfold gm_index at h
    dsimp only at h
    by_cases hf : SeqAt.shaped (.list ds) = true ∧ SeqAt.shaped b = true
    · rw [if_pos hf] at h
      cases ej : fstEq b ds with
      | none => rw [ej] at h; exact h.elim
      | some j =>
        rw [ej] at h
        obtain ⟨z, h1, h2, h3⟩ := fstEq_ok ej
        exact ⟨_, u, b, ds, j, z, rfl, rfl, Rp.dp _ _ (SeqAt.canLay_of_shaped hf.1) (Rp.mono hS _ _ (.lst hq ha)), Rp.dp _ _ (SeqAt.canLay_of_shaped hf.2) (Rp.mono hS _ _ rb), hf.1, hf.2, h1, h2, h3, h _ S H (Ext.refl hS) (.int _)⟩
    · rw [if_neg hf] at h; exact h.elim) nx_index ho he hbase hfew hline hs hplain
/-! turned about -/
def gRevL : PD → R PD
  | .list ds => .ok (.list ds.reverse)
  | _ => .no
theorem revL_of {te : TE} (h : ∀ σ H Q, tD X.K X.mg W f σ H Q → te σ H Q) : ∀ σ H Q, tD X.K X.mg W (d1 gRevL f) σ H Q → (te σ H fun v H1 => ∃ (a : Addr) (xs : List V), v = .ref a ∧ SqL X.K H1 a xs ∧ ∀ q, H1 q = none → Q (.ref q) (upd H1 q (.lst xs.reverse))) := by
  rintro σ H Q ⟨G, ρ, S, rel, q⟩
  refine h _ _ _ (tG.mk rel (wG.imp ?_ (wG.bind (rp := Rp X.K) q)))
  rintro x H1 ⟨S1, a, e1, ra, h1⟩
  cases a with
  | list ds =>
    cases ra with
    | lst hq ha =>
      refine ⟨_, _, rfl, Same.seq e1.inn hq, fun p hp => ?_⟩
      obtain ⟨e2, r2⟩ := Rp.newL e1.inn hp ha.reverse
      exact h1 _ _ _ e2 r2
  | _ => exact h1.elim
theorem pd_lrev (hc : X.calm = true) (hm : X.mg "list" = none) (hm2 : X.mg "reversed" = none) (he : PE X e (tD X.K X.mg W f)) (hg : Gl X "list" := by rfl) (hg2 : Gl X "reversed" := by rfl)
    (hs : starEach [e] X.env = (false, eval e X.env) :: starEach [] X.env := by rfl)
    (hs2 : starEach [.Call (.Name "reversed" p2) [e] [] pos2] X.env = (false, eval (.Call (.Name "reversed" p2) [e] [] pos2) X.env) :: starEach [] X.env := by rfl) :
    PE X (.Call (.Name "list" p) [.Call (.Name "reversed" p2) [e] [] pos2] [] pos) (tD X.K X.mg W (d1 gRevL f)) := PEimp (pe_lstRev hc hg hm hg2 hm2 he hs hs2) fun σ H Q h => revL_of (te := tD X.K X.mg W f) (fun _ _ _ q => q) σ H Q h
theorem pd_turn {k : Nat} {p1 p3 : Pos} (he : PE X e (tD X.K X.mg W f)) : PE X (.Subscript e (.Slice none none (some (.UnaryOp .USub (.Constant (.int 1) k p1) p2)) p3) pos) (tD X.K X.mg W (d1 gRevL f)) := PEimp (pe_revL he) fun σ H Q h => revL_of (te := tD X.K X.mg W f) (fun _ _ _ q => q) σ H Q h
end
/-! max, min of a list of ints -/
def maxI : List Int → Int
  | [] => 0
  | [n] => n
  | n :: l => max n (maxI l)
def minI : List Int → Int
  | [] => 0
  | [n] => n
  | n :: l => min n (minI l)
theorem maxI_mem : ∀ {l : List Int}, l ≠ [] → maxI l ∈ l ∧ ∀ y ∈ l, y ≤ maxI l
  | [], h => absurd rfl h
  | [n], _ => ⟨.head _, fun y hy => by rw [List.mem_singleton] at hy; subst hy; exact Int.le_refl _⟩
  | n :: m :: l, _ => by
    obtain ⟨h1, h2⟩ := maxI_mem (l := m :: l) (by intro z; cases z)
    show max n (maxI (m :: l)) ∈ _ ∧ ∀ y ∈ _, y ≤ max n (maxI (m :: l))
    constructor
    · rcases Int.le_total n (maxI (m :: l)) with z | z
      · rw [Int.max_eq_right z]; exact .tail _ h1
      · rw [Int.max_eq_left z]; exact .head _
    · intro y hy
      rcases List.mem_cons.mp hy with rfl | hy
      · omega
      · have := h2 y hy; omega
theorem minI_mem : ∀ {l : List Int}, l ≠ [] → minI l ∈ l ∧ ∀ y ∈ l, minI l ≤ y
  | [], h => absurd rfl h
  | [n], _ => ⟨.head _, fun y hy => by rw [List.mem_singleton] at hy; subst hy; exact Int.le_refl _⟩
  | n :: m :: l, _ => by
    obtain ⟨h1, h2⟩ := minI_mem (l := m :: l) (by intro z; cases z)
    show min n (minI (m :: l)) ∈ _ ∧ ∀ y ∈ _, min n (minI (m :: l)) ≤ y
    constructor
    · rcases Int.le_total n (minI (m :: l)) with z | z
      · rw [Int.min_eq_left z]; exact .head _
      · rw [Int.min_eq_right z]; exact .tail _ h1
    · intro y hy
      rcases List.mem_cons.mp hy with rfl | hy
      · omega
      · have := h2 y hy; omega
theorem maxI_uniq {l : List Int} {m : Int} (h1 : m ∈ l) (h2 : ∀ y ∈ l, y ≤ m) : m = maxI l := by
  obtain ⟨z1, z2⟩ := maxI_mem (l := l) (fun e => by rw [e] at h1; cases h1)
  have := h2 _ z1
  have := z2 _ h1
  omega
theorem minI_uniq {l : List Int} {m : Int} (h1 : m ∈ l) (h2 : ∀ y ∈ l, m ≤ y) : m = minI l := by
  obtain ⟨z1, z2⟩ := minI_mem (l := l) (fun e => by rw [e] at h1; cases h1)
  have := h2 _ z1
  have := z2 _ h1
  omega
def gMaxL : List PD → R PD
  | [.list ds] => (match intsOf ds with
    | some ns => if 0 < ns.length then .ok (.int (maxI ns)) else .no
    | none => .no)
  | _ => .no
def gMinL : List PD → R PD
  | [.list ds] => (match intsOf ds with
    | some ns => if 0 < ns.length then .ok (.int (minI ns)) else .no
    | none => .no)
  | _ => .no
theorem nx_maxL : NoExL gMaxL := fun a c h => by
  unfold gMaxL at h
  split at h
  · split at h
    · split at h <;> cases h
    · cases h
  · cases h
theorem nx_minL : NoExL gMinL := fun a c h => by
  unfold gMinL at h
  split at h
  · split at h
    · split at h <;> cases h
    · cases h
  · cases h
theorem cd_maxL {X : Cx} (hc : X.calm = true) : CallD X (.builtin "max") gMaxL := by
  refine CallD_ofX fun pins s σ H vs us Q S ds d I r hS ra q h => ?_
  unfold gMaxL at q
  split at q
  · cases ra with
    | cons r1 r2 =>
      cases r2
      cases r1 with
      | lst h1 a1 =>
        split at q
        · rename_i ns e
          have ev := intsOf_rp a1 e
          subst ev
          split at q
          · rename_i hl
            cases q
            exact cr_max hc pins s σ H _ us Q I r ⟨_, ns, rfl, Same.seq hS h1, hl, fun m h1 h2 => h _ S H (Ext.refl hS) (by rw [maxI_uniq h1 h2]; exact .int _)⟩
          · cases q
        · cases q
  · cases q
theorem cd_minL {X : Cx} (hc : X.calm = true) : CallD X (.builtin "min") gMinL := by
  refine CallD_ofX fun pins s σ H vs us Q S ds d I r hS ra q h => ?_
  unfold gMinL at q
  split at q
  · cases ra with
    | cons r1 r2 =>
      cases r2
      cases r1 with
      | lst h1 a1 =>
        split at q
        · rename_i ns e
          have ev := intsOf_rp a1 e
          subst ev
          split at q
          · rename_i hl
            cases q
            exact cr_min hc pins s σ H _ us Q I r ⟨_, ns, rfl, Same.seq hS h1, hl, fun m h1 h2 => h _ S H (Ext.refl hS) (by rw [minI_uniq h1 h2]; exact .int _)⟩
          · cases q
        · cases q
  · cases q
end DL

set_option Elab.async false
set_option linter.all false
set_option maxRecDepth 100000
set_option maxHeartbeats 4000000
set_option autoImplicit false
/-! reckoning of dens by simp -/
namespace DL
open PySem L2

/-! ### bounds -/
class Bd (i : Int) (n : outParam Nat) : Prop where
  h : i.natAbs < 2 ^ n
theorem Bd.le {i : Int} {n m : Nat} [b : Bd i n] (h : n ≤ m) : i.natAbs < 2 ^ m := Nat.lt_of_lt_of_le b.h (Nat.pow_le_pow_right (by decide) h)
theorem ib_le {i : Int} {n : Nat} (h : i.natAbs < 2 ^ n) : ib i ≤ n := by
  unfold DL.ib Builtin.Int.intBits
  by_cases e : i = 0
  · subst e; simp
  · have : (i == 0) = false := by simpa using e
    rw [this]
    have h2 : i.natAbs ≠ 0 := by omega
    have := (Nat.log2_lt h2).mpr h
    simp only [Bool.false_eq_true, if_false]
    omega
theorem lt_of_ib {i : Int} {n : Nat} (h : Builtin.Int.intBits i ≤ n) : i.natAbs < 2 ^ n := by
  unfold Builtin.Int.intBits at h
  by_cases e : i = 0
  · subst e; exact Nat.two_pow_pos n
  · have h1 : (i == 0) = false := by simpa using e
    rw [h1] at h
    simp only [Bool.false_eq_true, if_false] at h
    have h2 : i.natAbs ≠ 0 := by omega
    exact (Nat.log2_lt h2).mp (by omega)
theorem Bd.ib {i : Int} {n : Nat} [b : Bd i n] : ib i ≤ n := ib_le b.h
instance bd_mul {i j : Int} {n m : Nat} [a : Bd i n] [b : Bd j m] : Bd (i * j) (n + m) := ⟨by
  rw [Int.natAbs_mul, Nat.pow_add]
  exact Nat.mul_lt_mul'' a.h b.h⟩
theorem two_pow_max {n m : Nat} : 2 ^ n ≤ 2 ^ (max n m) ∧ 2 ^ m ≤ 2 ^ (max n m) := ⟨Nat.pow_le_pow_right (by decide) (Nat.le_max_left _ _), Nat.pow_le_pow_right (by decide) (Nat.le_max_right _ _)⟩
instance bd_add {i j : Int} {n m : Nat} [a : Bd i n] [b : Bd j m] : Bd (i + j) (max n m + 1) := ⟨by
  have h1 := a.h
  have h2 := b.h
  have h3 := @two_pow_max n m
  rw [Nat.pow_succ]
  omega⟩
instance bd_sub {i j : Int} {n m : Nat} [a : Bd i n] [b : Bd j m] : Bd (i - j) (max n m + 1) := ⟨by
  have h1 := a.h
  have h2 := b.h
  have h3 := @two_pow_max n m
  rw [Nat.pow_succ]
  omega⟩
instance bd_neg {i : Int} {n : Nat} [a : Bd i n] : Bd (-i) n := ⟨by rw [Int.natAbs_neg]; exact a.h⟩
instance bd_lit {k : Nat} : Bd (no_index (OfNat.ofNat k : Int)) ((OfNat.ofNat k : Nat).log2 + 1) := ⟨by
  show (Int.natAbs ((k : Nat) : Int)) < _
  rw [Int.natAbs_natCast]
  exact Nat.lt_log2_self⟩
theorem natAbs_fdiv_le (i j : Int) : (i.fdiv j).natAbs ≤ i.natAbs := by
  match i, j with
  | 0, j => simp
  | .ofNat (m+1), .ofNat n =>
    show ((m+1)/n : Nat) ≤ m+1
    exact Nat.div_le_self _ _
  | .ofNat (m+1), .negSucc n =>
    show m / (n+1) + 1 ≤ m + 1
    exact Nat.succ_le_succ (Nat.div_le_self _ _)
  | .negSucc m, .ofNat 0 => simp
  | .negSucc m, .ofNat (n+1) =>
    show m / (n+1) + 1 ≤ m + 1
    exact Nat.succ_le_succ (Nat.div_le_self _ _)
  | .negSucc m, .negSucc n =>
    show (m+1)/(n+1) ≤ m+1
    exact Nat.div_le_self _ _
theorem natAbs_fmod_lt (a : Int) {b : Int} (hb : b ≠ 0) : (a.fmod b).natAbs < b.natAbs := by
  have h1 := Int.emod_nonneg a hb
  have h2 := Int.emod_lt a hb
  rw [Int.fmod_eq_emod]
  split
  · omega
  · rename_i h
    have h3 : ¬ b ∣ a := fun z => h (.inr z)
    have h4 : a % b ≠ 0 := fun z => h3 (Int.dvd_of_emod_eq_zero z)
    have h5 : ¬ 0 ≤ b := fun z => h (.inl z)
    omega
instance bd_fdiv {i j : Int} {n : Nat} [a : Bd i n] : Bd (i.fdiv j) n := ⟨Nat.lt_of_le_of_lt (natAbs_fdiv_le i j) a.h⟩
class NZ (j : Int) : Prop where
  h : j ≠ 0
instance nz_lit {k : Nat} [h : NeZero k] : NZ (no_index (OfNat.ofNat k : Int)) := ⟨by
  have := h.out
  show ((k : Nat) : Int) ≠ 0
  omega⟩
instance bd_fmod {i j : Int} {m : Nat} [b : Bd j m] [z : NZ j] : Bd (i.fmod j) m := ⟨Nat.lt_trans (natAbs_fmod_lt i z.h) b.h⟩
instance bd_emod {i j : Int} {m : Nat} [b : Bd j m] [z : NZ j] : Bd (i % j) m := ⟨by
  have h1 := Int.emod_nonneg i z.h
  have h2 := Int.emod_lt i z.h
  have h3 := b.h
  omega⟩
instance bd_ediv {i j : Int} {n : Nat} [a : Bd i n] : Bd (i / j) n := ⟨Nat.lt_of_le_of_lt (Int.natAbs_ediv_le_natAbs i j) a.h⟩
instance bd_pow {i : Int} {n k : Nat} [a : Bd i n] : Bd (i ^ k) (n * k + 1) := ⟨by
  rw [Int.natAbs_pow]
  have h := a.h
  have : i.natAbs ^ k ≤ (2 ^ n) ^ k := Nat.pow_le_pow_left (Nat.le_of_lt h) k
  rw [← Nat.pow_mul] at this
  rw [Nat.pow_succ]
  have := Nat.two_pow_pos (n * k)
  omega⟩
theorem Bd.mono {i : Int} {n m : Nat} (b : Bd i n) (h : n ≤ m) : Bd i m := ⟨Bd.le h⟩
theorem bd_of {i : Int} {n : Nat} (h : i.natAbs < 2 ^ n) : Bd i n := ⟨h⟩
theorem pylong_of {i j : Int} {m : Nat} [b : Bd j m] (h : m ≤ 9000) : Builtin.divisionGoesByPylong i j = false := by
  unfold Builtin.divisionGoesByPylong
  have hd : (if (j == 0) = true then 0 else j.natAbs.log2 / 30 + 1) ≤ 300 := by
    by_cases e : j = 0
    · subst e; simp
    · have h1 : (j == 0) = false := by simpa using e
      rw [h1]
      simp only [Bool.false_eq_true, if_false]
      have h2 : j.natAbs ≠ 0 := by omega
      have := (Nat.log2_lt h2).mpr (Bd.le (i := j) h)
      omega
  simp only [Bool.and_eq_false_iff, decide_eq_false_iff_not]
  exact .inl (by omega)
theorem pylong_of' {i j : Int} {m : Nat} [b : Bd i m] (h : m ≤ 4500) : Builtin.divisionGoesByPylong i j = false := by
  unfold Builtin.divisionGoesByPylong
  have hd : (if (i == 0) = true then 0 else i.natAbs.log2 / 30 + 1) ≤ 150 := by
    by_cases e : i = 0
    · subst e; simp
    · have h1 : (i == 0) = false := by simpa using e
      rw [h1]
      simp only [Bool.false_eq_true, if_false]
      have h2 : i.natAbs ≠ 0 := by omega
      have := (Nat.log2_lt h2).mpr (Bd.le (i := i) h)
      omega
  simp only [Bool.and_eq_false_iff, decide_eq_false_iff_not]
  exact .inr (by omega)

/-! ### operators on numbers -/
section
variable {i j : Int} {n m : Nat}
theorem gAdd_i : gAdd (.int i) (.int j) = .ok (.int (i + j)) := rfl
theorem gSub_i : gSub (.int i) (.int j) = .ok (.int (i - j)) := rfl
theorem gMul_i [a : Bd i n] [b : Bd j m] (h : n + m ≤ 134217728) : gMul (.int i) (.int j) = .ok (.int (i * j)) := by
  have h1 := Bd.ib (i := i)
  have h2 := Bd.ib (i := j)
  unfold gMul
  exact if_pos (by omega)
theorem gDiv_i [b : Bd j m] (hj : j ≠ 0) (h : m ≤ 9000) : gDiv (.int i) (.int j) = .ok (.int (i.fdiv j)) := by
  unfold gDiv
  exact if_pos ⟨hj, pylong_of h⟩
theorem gMod_i (hj : j ≠ 0) : gMod (.int i) (.int j) = .ok (.int (i.fmod j)) := by
  unfold gMod
  exact if_pos hj
theorem gDiv_p [b : Bd j m] (hj : 0 < j) (h : m ≤ 9000) : gDiv (.int i) (.int j) = .ok (.int (i / j)) := by
  rw [gDiv_i (by omega) h, Int.fdiv_eq_ediv_of_nonneg _ (by omega)]
theorem gMod_p (hj : 0 < j) : gMod (.int i) (.int j) = .ok (.int (i % j)) := by
  rw [gMod_i (by omega), Int.fmod_eq_emod_of_nonneg _ (by omega)]
theorem gPow_i [a : Bd i n] (hj : 0 ≤ j) (h : (n : Int) * j ≤ 134217728) : gPow (.int i) (.int j) = .ok (.int (i ^ j.toNat)) := by
  unfold gPow
  have h1 := Bd.ib (i := i)
  exact if_pos ⟨hj, Int.le_trans (Int.mul_le_mul_of_nonneg_right (by omega) hj) h⟩
theorem gPow_l {k : Nat} [a : Bd i n] (h : n * k ≤ 134217728) : gPow (.int i) (.int (no_index (OfNat.ofNat k : Int))) = .ok (.int (i ^ (OfNat.ofNat k : Nat))) := by
  rw [gPow_i (j := (OfNat.ofNat k : Int)) (by show (0 : Int) ≤ ((k : Nat) : Int); omega) (by
    show (n : Int) * ((k : Nat) : Int) ≤ 134217728
    have : ((n * k : Nat) : Int) = (n : Int) * (k : Int) := Int.natCast_mul n k
    omega)]
  rfl
theorem gShl_l {k : Nat} [a : Bd i n] (h : n + k ≤ 134217728) : gShl (.int i) (.int (no_index (OfNat.ofNat k : Int))) = .ok (.int (i * 2 ^ (OfNat.ofNat k : Nat))) := by
  have h1 := Bd.ib (i := i)
  unfold gShl
  exact if_pos ⟨(by show (0 : Int) ≤ ((k : Nat) : Int); omega), (by show (DL.ib i : Int) + ((k : Nat) : Int) ≤ _; omega)⟩
theorem gShr_l {k : Nat} : gShr (.int i) (.int (no_index (OfNat.ofNat k : Int))) = .ok (.int (i / 2 ^ (OfNat.ofNat k : Nat))) := by
  unfold gShr
  exact if_pos (by show (0 : Int) ≤ ((k : Nat) : Int); omega)
theorem gShl_i [a : Bd i n] (hj : 0 ≤ j) (h : (n : Int) + j ≤ 134217728) : gShl (.int i) (.int j) = .ok (.int (i * 2 ^ j.toNat)) := by
  unfold gShl
  have h1 := Bd.ib (i := i)
  exact if_pos ⟨hj, by omega⟩
theorem gShr_i (hj : 0 ≤ j) : gShr (.int i) (.int j) = .ok (.int (i / 2 ^ j.toNat)) := if_pos hj
theorem gLt_i : gLt (.int i) (.int j) = .ok (.bool (decide (i < j))) := rfl
theorem gLe_i : gLe (.int i) (.int j) = .ok (.bool (decide (i ≤ j))) := rfl
theorem gGt_i : gGt (.int i) (.int j) = .ok (.bool (decide (j < i))) := rfl
theorem gGe_i : gGe (.int i) (.int j) = .ok (.bool (decide (j ≤ i))) := rfl
theorem gEq_i : gEq (.int i) (.int j) = .ok (.bool (decide (i = j))) := rfl
theorem gNe_i : gNe (.int i) (.int j) = .ok (.bool (!decide (i = j))) := rfl
theorem gNeg_i : gNeg (.int i) = .ok (.int (-i)) := rfl
theorem gAbs_i : gAbs [.int i] = .ok (.int (i.natAbs : Int)) := by
  show R.ok (PyData.int (if i < 0 then -i else i)) = _
  congr 2
  split <;> omega
theorem gInt_i : gInt [.int i] = .ok (.int i) := rfl
theorem gInt_b {b : Bool} : gInt [.bool b] = .ok (.int (if b = true then 1 else 0)) := rfl
theorem gEq_s {x y : Str} : gEq (.str x) (.str y) = .ok (.bool (decide (x = y))) := rfl
theorem gNe_s {x y : Str} : gNe (.str x) (.str y) = .ok (.bool (!decide (x = y))) := rfl
theorem gEq_b {x y : Bool} : gEq (.bool x) (.bool y) = .ok (.bool (x == y)) := rfl
theorem gNe_b {x y : Bool} : gNe (.bool x) (.bool y) = .ok (.bool (!(x == y))) := rfl
instance bd_abs [a : Bd i n] : Bd ((i.natAbs : Nat) : Int) n := ⟨by rw [Int.natAbs_natCast]; exact a.h⟩
instance bd_ite {p : Prop} [Decidable p] [a : Bd i n] [b : Bd j m] : Bd (if p then i else j) (max n m) := ⟨by
  have h1 := a.h
  have h2 := b.h
  have h3 := @two_pow_max n m
  split <;> omega⟩
end

/-! ### flow -/
def Fl.seq (r : Fl) (g : En → Fl) : Fl := match r with
  | .nx ρ => g ρ
  | r => r
def R.fl {A : Type} (r : R A) (ρ : En) (k : A → Fl) : Fl := match r with
  | .ok a => k a
  | .ex c => .ex c ρ
  | .no => .no
def R.bind2 {A B C : Type} (g : A → B → R C) (x : R A) (y : R B) : R C := match x with
  | .ok a => (match y with
    | .ok b => g a b
    | .ex c => .ex c
    | .no => .no)
  | .ex c => .ex c
  | .no => .no
def kSet (i : Nat) (ρ : En) (d : PD) : Fl := .nx (ρ.set i (some (.d d)))
def kIf (f g : En → Fl) (ρ : En) (b : Bool) : Fl := if b = true then f ρ else g ρ
def kPar (i j : Nat) (ρ : En) (a b : PD) : R Fl := .ok (.nx ((ρ.set i (some (.d a))).set j (some (.d b))))
def kAsg (tg : Tg) (ρ : En) (d : PD) : Fl := match tg.put d ρ with
  | some ρ' => .nx ρ'
  | none => .no
def kFor (tg : Tg) (body : En → Fl) (ρ : En) (ds : List PD) : Fl := sForL tg body ds ρ
def kNx (ρ : En) (_ : PD) : Fl := .nx ρ
def kId (x : Fl) : Fl := x
section
variable {A B : Type} {f f1 f2 : En → R PD} {fl : En → R (List PD)} {t t1 t2 : En → R Bool} {g h : En → Fl} {ρ : En} {i j : Nat} {r : Fl} {d e : PD} {ds : List PD} {c : Str} {b : Bool}
theorem ev_seq : sSeq g h ρ = (g ρ).seq h := rfl
theorem seq_nx : (Fl.nx ρ).seq h = h ρ := rfl
theorem seq_rt : (Fl.rt d).seq h = .rt d := rfl
theorem seq_ex : (Fl.ex c ρ).seq h = .ex c ρ := rfl
theorem seq_bk : (Fl.bk ρ).seq h = .bk ρ := rfl
theorem seq_ct : (Fl.ct ρ).seq h = .ct ρ := rfl
theorem seq_ite {p : Prop} [Decidable p] {x y : Fl} : (if p then x else y).seq h = if p then x.seq h else y.seq h := by split <;> rfl
theorem fl_ok {a : A} {k : A → Fl} : (R.ok a).fl ρ k = k a := rfl
theorem fl_ex {k : A → Fl} : (R.ex c : R A).fl ρ k = .ex c ρ := rfl
theorem fl_ite {p : Prop} [Decidable p] {x y : R A} {k : A → Fl} : (if p then x else y).fl ρ k = if p then x.fl ρ k else y.fl ρ k := by split <;> rfl
theorem ev_set : sSet i f ρ = (f ρ).fl ρ (kSet i ρ) := rfl
theorem kSet_ev : kSet i ρ d = .nx (ρ.set i (some (.d d))) := rfl
theorem ev_ret : sRet f ρ = (f ρ).fl ρ Fl.rt := rfl
theorem ev_retN : sRetN ρ = .rt .none := rfl
theorem ev_nx : sNx ρ = .nx ρ := rfl
theorem ev_bk : sBk ρ = .bk ρ := rfl
theorem ev_ct : sCt ρ = .ct ρ := rfl
theorem ev_raise : sRaise c ρ = .ex c ρ := rfl
theorem ev_if : sIf t g h ρ = (t ρ).fl ρ (kIf g h ρ) := rfl
theorem kIf_ev : kIf g h ρ b = if b = true then g ρ else h ρ := rfl
theorem ev_drop : sDrop f ρ = (f ρ).fl ρ (kNx ρ) := rfl
theorem kNx_ev : kNx ρ d = .nx ρ := rfl
theorem ev_par : sPar i j f1 f2 ρ = (R.bind2 (kPar i j ρ) (f1 ρ) (f2 ρ)).fl ρ kId := by
  unfold sPar sE R.bind2 R.fl
  cases e1 : f1 ρ with
  | ok a => cases e2 : f2 ρ <;> simp only [e2] <;> rfl
  | ex c => rfl
  | no => rfl
theorem kPar_ev : kPar i j ρ d e = .ok (.nx ((ρ.set i (some (.d d))).set j (some (.d e)))) := rfl
theorem kId_ev : kId r = r := rfl
theorem ev_asg {tg : Tg} : sAsg tg f ρ = (f ρ).fl ρ (kAsg tg ρ) := rfl
theorem kAsg_ev {tg : Tg} : kAsg tg ρ d = match tg.put d ρ with
  | some ρ' => .nx ρ'
  | none => .no := rfl
theorem ev_for {it : En → R (List PD)} {tg : Tg} : sFor it tg g ρ = (it ρ).fl ρ (kFor tg g ρ) := rfl
theorem kFor_ev {tg : Tg} : kFor tg g ρ ds = sForL tg g ds ρ := rfl
/-! values -/
def dVg : Option (Option SV) → R PD
  | some (some (.d d)) => .ok d
  | _ => .no
theorem ev_V : dV i ρ = dVg ρ[i]? := rfl
theorem dVg_ok : dVg (some (some (.d d))) = .ok d := rfl
theorem ev_C : dC d ρ = .ok d := rfl
theorem ev_1 {g : PD → R PD} : d1 g f ρ = (f ρ).bind g := rfl
theorem ev_2 {g : PD → PD → R PD} : d2 g f1 f2 ρ = R.bind2 g (f1 ρ) (f2 ρ) := by
  unfold d2 R.bind2 R.bind
  cases f1 ρ with
  | ok a => cases f2 ρ <;> rfl
  | ex c => rfl
  | no => rfl
theorem bind2_ok {C : Type} {g : A → B → R C} {a : A} {b : B} : R.bind2 g (.ok a) (.ok b) = g a b := rfl
theorem bind2_ite1 {C : Type} {g : A → B → R C} {p : Prop} [Decidable p] {x y : R A} {z : R B} : R.bind2 g (if p then x else y) z = if p then R.bind2 g x z else R.bind2 g y z := by split <;> rfl
theorem bind2_ite2 {C : Type} {g : A → B → R C} {p : Prop} [Decidable p] {x y : R B} {a : A} : R.bind2 g (.ok a) (if p then x else y) = if p then R.bind2 g (.ok a) x else R.bind2 g (.ok a) y := by split <;> rfl
theorem bind_ite {C : Type} {g : A → R C} {p : Prop} [Decidable p] {x y : R A} : R.bind (if p then x else y) g = if p then x.bind g else y.bind g := by split <;> rfl
theorem ev_A {g : List PD → R PD} : dA g fl ρ = (fl ρ).bind g := rfl
theorem ev_nil : dNil ρ = .ok [] := rfl
def kCons (d : PD) (ds : List PD) : R (List PD) := .ok (d :: ds)
theorem ev_cons : dCons f fl ρ = R.bind2 kCons (f ρ) (fl ρ) := by
  unfold dCons R.bind2 R.bind kCons
  cases f ρ with
  | ok a => cases fl ρ <;> rfl
  | ex c => rfl
  | no => rfl
theorem kCons_ev : kCons d ds = .ok (d :: ds) := rfl
theorem ev_T : dT f ρ = (f ρ).bind toB := rfl
theorem toB_ev : toB (.bool b) = .ok b := rfl
def kAnd (t : En → R Bool) (ρ : En) (a : Bool) : R Bool := if a = true then t ρ else .ok false
def kOr (t : En → R Bool) (ρ : En) (a : Bool) : R Bool := if a = true then .ok true else t ρ
def kNot (a : Bool) : R Bool := .ok (!a)
theorem ev_and : dAnd t1 t2 ρ = (t1 ρ).bind (kAnd t2 ρ) := rfl
theorem ev_or : dOr t1 t2 ρ = (t1 ρ).bind (kOr t2 ρ) := rfl
theorem ev_not : dNot t ρ = (t ρ).bind kNot := rfl
theorem kAnd_ev : kAnd t ρ b = if b = true then t ρ else .ok false := rfl
theorem kOr_ev : kOr t ρ b = if b = true then .ok true else t ρ := rfl
theorem kNot_ev : kNot b = .ok (!b) := rfl
def kAndV (f : En → R PD) (ρ : En) (a : PD) : R PD := (toB a).bind fun c => if c = true then f ρ else .ok (.bool false)
def kOrV (f : En → R PD) (ρ : En) (a : PD) : R PD := (toB a).bind fun c => if c = true then .ok (.bool true) else f ρ
def kNotV (a : PD) : R PD := (toB a).bind fun c => .ok (.bool (!c))
theorem ev_andV : dAndV f1 f2 ρ = (f1 ρ).bind (kAndV f2 ρ) := rfl
theorem ev_orV : dOrV f1 f2 ρ = (f1 ρ).bind (kOrV f2 ρ) := rfl
theorem ev_notV : dNotV f ρ = (f ρ).bind kNotV := rfl
theorem kAndV_ev : kAndV f ρ (.bool b) = if b = true then f ρ else .ok (.bool false) := rfl
theorem kOrV_ev : kOrV f ρ (.bool b) = if b = true then .ok (.bool true) else f ρ := rfl
theorem kNotV_ev : kNotV (.bool b) = .ok (.bool (!b)) := rfl
def kIfE (f1 f2 : En → R PD) (ρ : En) (a : Bool) : R PD := if a = true then f1 ρ else f2 ρ
theorem ev_ife : dIf t f1 f2 ρ = (t ρ).bind (kIfE f1 f2 ρ) := rfl
theorem kIfE_ev : kIfE f1 f2 ρ b = if b = true then f1 ρ else f2 ρ := rfl
def kCh (g g' : PD → PD → R PD) (f3 : En → R PD) (ρ : En) (a b : PD) : R PD := (g a b).bind fun z => (toB z).bind fun k => if k = true then (f3 ρ).bind (g' b) else .ok (.bool false)
theorem ev_ch {g g' : PD → PD → R PD} {f3 : En → R PD} : dCh g g' f1 f2 f3 ρ = R.bind2 (kCh g g' f3 ρ) (f1 ρ) (f2 ρ) := by
  unfold dCh R.bind2 kCh R.bind
  cases f1 ρ with
  | ok a => cases f2 ρ <;> rfl
  | ex c => rfl
  | no => rfl
theorem tup_ev (h : ds.length ≤ 1000) : gTupD ds = .ok (.tuple ds) := if_pos h
theorem lst_ev (h : ds.length ≤ 1000) : gLstD ds = .ok (.list ds) := if_pos h
theorem call_ev {n : Nat} {es : List PD} {m : List PD → R PD} (h : (ds ++ es).length = n) : gCall n es m ds = m (ds ++ es) := if_pos h
theorem kw_ev {m : List PD → R PD} {n np nk : Nat} {arr : List PD → List PD → List PD} {as bs : List PD} (h : as.length = np ∧ bs.length = nk ∧ (arr as bs).length = n) : gKw n np nk arr m as bs = m (arr as bs) := if_pos h
theorem ev_kw {g : List PD → List PD → R PD} {f1 f2 : En → R (List PD)} : dKw g f1 f2 ρ = R.bind2 g (f1 ρ) (f2 ρ) := by
  unfold dKw R.bind2 R.bind
  cases f1 ρ with
  | ok a => cases f2 ρ <;> rfl
  | ex c => rfl
  | no => rfl
/-! a def -/
def startE : Nat → List PD → En
  | 0, _ => []
  | m + 1, [] => none :: startE m []
  | m + 1, d :: ds => some (.d d) :: startE m ds
def Fl.fin : Fl → R PD
  | .rt d => .ok d
  | .nx _ => .ok .none
  | .ex c _ => .ex c
  | _ => .no
theorem startE_nil : ∀ m, startE m [] = List.replicate m none
  | 0 => rfl
  | m + 1 => by show none :: startE m [] = _; rw [startE_nil m]; rfl
theorem startE_eq : ∀ (m : Nat) (ds : List PD), ds.length ≤ m → ds.map (fun d => some (SV.d d)) ++ List.replicate (m - ds.length) none = startE m ds
  | m, [], _ => by rw [startE_nil]; simp
  | 0, _ :: _, h => by simp at h
  | m + 1, d :: ds, h => by
    show some (SV.d d) :: (ds.map (fun d => some (SV.d d)) ++ List.replicate (m + 1 - (ds.length + 1)) none) = some (.d d) :: startE m ds
    rw [← startE_eq m ds (by simpa using h)]
    congr 3
    omega
theorem ev_fn {m : Nat} {den : En → Fl} (h : ds.length ≤ m) : fnD m den ds = (den (startE m ds)).fin := by
  unfold fnD
  rw [startE_eq m ds h]
  rfl
theorem startE_0 {ds : List PD} : startE 0 ds = [] := by cases ds <;> rfl
theorem startE_s {m : Nat} : startE (m + 1) [] = none :: startE m [] := rfl
theorem startE_c {m : Nat} : startE (m + 1) (d :: ds) = some (.d d) :: startE m ds := rfl
theorem fin_rt : (Fl.rt d).fin = .ok d := rfl
theorem fin_nx : (Fl.nx ρ).fin = .ok .none := rfl
theorem fin_ex : (Fl.ex c ρ).fin = .ex c := rfl
theorem fin_ite {p : Prop} [Decidable p] {x y : Fl} : (if p then x else y).fin = if p then x.fin else y.fin := by split <;> rfl
/-! subscripts -/
theorem ix_t {k : Nat} (h : ds[k]? = some d) : gIx (.tuple ds) (.int (k : Int)) = .ok d := by
  unfold gIx atI
  have hk : k < ds.length := (List.getElem?_eq_some_iff.mp h).1
  have : ixN ds.length (k : Int) = some k := by
    unfold ixN
    rw [if_pos (by omega), if_pos (by omega)]
    rfl
  simp only [this, Option.bind_some, h]
theorem ix_l {k : Nat} (h : ds[k]? = some d) : gIx (.list ds) (.int (k : Int)) = .ok d := by
  unfold gIx atI
  have hk : k < ds.length := (List.getElem?_eq_some_iff.mp h).1
  have : ixN ds.length (k : Int) = some k := by
    unfold ixN
    rw [if_pos (by omega), if_pos (by omega)]
    rfl
  simp only [this, Option.bind_some, h]
variable {x0 x1 x2 x3 : PD}
theorem ix_t0 : gIx (.tuple (x0 :: ds)) (.int 0) = .ok x0 := ix_t (k := 0) rfl
theorem ix_t1 : gIx (.tuple (x0 :: x1 :: ds)) (.int 1) = .ok x1 := ix_t (k := 1) rfl
theorem ix_t2 : gIx (.tuple (x0 :: x1 :: x2 :: ds)) (.int 2) = .ok x2 := ix_t (k := 2) rfl
theorem ix_t3 : gIx (.tuple (x0 :: x1 :: x2 :: x3 :: ds)) (.int 3) = .ok x3 := ix_t (k := 3) rfl
theorem ix_l0 : gIx (.list (x0 :: ds)) (.int 0) = .ok x0 := ix_l (k := 0) rfl
theorem ix_l1 : gIx (.list (x0 :: x1 :: ds)) (.int 1) = .ok x1 := ix_l (k := 1) rfl
theorem ix_l2 : gIx (.list (x0 :: x1 :: x2 :: ds)) (.int 2) = .ok x2 := ix_l (k := 2) rfl
theorem ix_ints {zs : List Int} {k : Int} (h0 : 0 ≤ k) (h1 : k < zs.length) : gIx (.list (zs.map PyData.int)) (.int k) = .ok (.int (zs.getD k.toNat 0)) := by
  obtain ⟨n, rfl⟩ := Int.eq_ofNat_of_zero_le h0
  refine ix_l ?_
  have : n < zs.length := by omega
  rw [List.getElem?_map, List.getElem?_eq_getElem this]
  simp [this]
theorem len_l : gLen [.list ds] = .ok (.int ds.length) := rfl
theorem len_t : gLen [.tuple ds] = .ok (.int ds.length) := rfl
/-! iteration -/
theorem ev_iL : iL f ρ = (f ρ).bind asL := rfl
theorem ev_iT : iT f ρ = (f ρ).bind asT := rfl
theorem asL_ev : asL (.list ds) = .ok ds := rfl
theorem asT_ev : asT (.tuple ds) = .ok ds := rfl
theorem ev_iA {g : List PD → R (List PD)} : iA g fl ρ = (fl ρ).bind g := rfl
theorem ev_P : dP f ρ = (f ρ).bind toI := rfl
theorem toI_ev {k : Int} : toI (.int k) = .ok (some k) := rfl
theorem ev_P0 : dP0 ρ = .ok none := rfl
def kSl (hi : R (Option Int)) (d : PD) (lo : Option Int) : R PD := hi.bind (gSl d lo)
theorem ev_sl {lo hi : En → R (Option Int)} : dSl f lo hi ρ = R.bind2 (kSl (hi ρ)) (f ρ) (lo ρ) := by
  unfold dSl R.bind2 kSl R.bind
  cases f ρ with
  | ok a => cases lo ρ <;> rfl
  | ex c => rfl
  | no => rfl
theorem kSl_ev {hi lo : Option Int} : kSl (.ok hi) d lo = gSl d lo hi := rfl
theorem sl_hi {k : Nat} : gSl (.list ds) none (some (k : Int)) = .ok (.list (ds.take k)) := by
  unfold gSl cutD
  have h1 : HT.sIx ds.length 0 none = 0 := rfl
  have h2 : HT.sIx ds.length ds.length (some (k : Int)) = min k ds.length := HT.sIx_nat _ _ _
  simp only [h1, h2, Nat.sub_zero, List.drop_zero]
  congr 2
  rw [List.take_eq_take_iff]
  omega
theorem sl_lo {k : Nat} : gSl (.list ds) (some (k : Int)) none = .ok (.list (ds.drop k)) := by
  unfold gSl cutD
  have h1 : HT.sIx ds.length ds.length none = ds.length := rfl
  have h2 : HT.sIx ds.length 0 (some (k : Int)) = min k ds.length := HT.sIx_nat _ _ _
  simp only [h1, h2]
  congr 2
  have : (ds.drop (min k ds.length)) = ds.drop k := by
    by_cases h : k ≤ ds.length
    · rw [Nat.min_eq_left h]
    · rw [Nat.min_eq_right (by omega), List.drop_length, List.drop_eq_nil_of_le (by omega)]
  rw [this]
  apply List.take_of_length_le
  rw [List.length_drop]
  omega
theorem sl_lohi {k l : Nat} : gSl (.list ds) (some (k : Int)) (some (l : Int)) = .ok (.list ((ds.take l).drop k)) := by
  unfold gSl cutD
  have h1 : HT.sIx ds.length ds.length (some (l : Int)) = min l ds.length := HT.sIx_nat _ _ _
  have h2 : HT.sIx ds.length 0 (some (k : Int)) = min k ds.length := HT.sIx_nat _ _ _
  simp only [h1, h2]
  congr 2
  rw [List.drop_take]
  by_cases h : k ≤ ds.length
  · rw [Nat.min_eq_left h]
    rw [List.take_eq_take_iff, List.length_drop]
    omega
  · have e : min k ds.length = ds.length := Nat.min_eq_right (by omega)
    rw [e, List.drop_length, List.drop_eq_nil_of_le (by omega)]
    simp
theorem add_l {xs ys : List PD} (h : xs.length + ys.length ≤ 16777216) : gAdd (.list xs) (.list ys) = .ok (.list (xs ++ ys)) := if_pos h
theorem put_1 : (Tg.one i).put d ρ = some (ρ.set i (some (.d d))) := rfl
/-- a loop that keeps an invariant and never leaves -/
theorem for_inv {tg : Tg} (I : List PD → En → Prop) : ∀ (ds pre : List PD) (ρ : En), I pre ρ →
    (∀ pre d post ρ, ds = pre ++ d :: post ∨ True → I pre ρ → d ∈ ds → ∃ ρ1, tg.put d ρ = some ρ1 ∧ ∃ ρ2, (g ρ1 = .nx ρ2 ∨ g ρ1 = .ct ρ2) ∧ I (pre ++ [d]) ρ2) →
    ∃ ρ', sForL tg g ds ρ = .nx ρ' ∧ I (pre ++ ds) ρ'
  | [], pre, ρ, h, _ => ⟨ρ, rfl, by simpa using h⟩
  | d :: ds, pre, ρ, h, st => by
    obtain ⟨ρ1, e1, ρ2, e2, h2⟩ := st pre d ds ρ (.inr trivial) h List.mem_cons_self
    obtain ⟨ρ', e3, h3⟩ := for_inv I ds (pre ++ [d]) ρ2 h2 fun pre d post ρ _ hI hm => st pre d post ρ (.inr trivial) hI (List.mem_cons_of_mem _ hm)
    refine ⟨ρ', ?_, by simpa using h3⟩
    unfold sForL
    rw [e1]
    rcases e2 with e2 | e2 <;> (dsimp only; rw [e2]; exact e3)
/-! a while's turn -/
def Fl.turn (r : Fl) (g : En → Fl) : Fl := match r with
  | .nx ρ => g ρ
  | .ct ρ => g ρ
  | .bk ρ => .nx ρ
  | r => r
noncomputable def kWh (t : En → R Bool) (g : En → Fl) (ρ : En) (b : Bool) : Fl := if b = true then (g ρ).turn (sWhile t g) else .nx ρ
theorem ev_while : sWhile t g ρ = (t ρ).fl ρ (kWh t g ρ) := by
  rw [sWhile_eq]
  unfold sE R.fl kWh Fl.turn
  cases t ρ with
  | ok b => cases b <;> simp only [if_true, if_false, Bool.false_eq_true] <;> cases g ρ <;> rfl
  | ex c => rfl
  | no => rfl
theorem kWh_ev : kWh t g ρ b = if b = true then (g ρ).turn (sWhile t g) else .nx ρ := rfl
theorem turn_nx : (Fl.nx ρ).turn h = h ρ := rfl
theorem turn_ct : (Fl.ct ρ).turn h = h ρ := rfl
theorem turn_bk : (Fl.bk ρ).turn h = .nx ρ := rfl
theorem turn_rt : (Fl.rt d).turn h = .rt d := rfl
theorem turn_ite {p : Prop} [Decidable p] {x y : Fl} : (if p then x else y).turn h = if p then x.turn h else y.turn h := by split <;> rfl
/-! kinds -/
theorem isi_ev {T : String} {b : Bool} (h : kitB (tyD d) T = some b) (hx : isExc d = false := by rfl) : gIsi T d = .ok (.bool b) := by
  unfold gIsi
  rw [if_neg (by rw [hx]; exact Bool.false_ne_true), h]
theorem isi_int_int {z : Int} : gIsi "int" (.int z) = .ok (.bool true) := isi_ev (by show kitB "int" "int" = some true; decide +kernel)
theorem isi_bool_int {z : Int} : gIsi "bool" (.int z) = .ok (.bool false) := isi_ev (by show kitB "int" "bool" = some false; decide +kernel)
theorem isi_int_bool : gIsi "int" (.bool b) = .ok (.bool true) := isi_ev (by show kitB "bool" "int" = some true; decide +kernel)
theorem isi_bool_bool : gIsi "bool" (.bool b) = .ok (.bool true) := isi_ev (by show kitB "bool" "bool" = some true; decide +kernel)
theorem isi_int_str {z : Str} : gIsi "int" (.str z) = .ok (.bool false) := isi_ev (by show kitB "str" "int" = some false; decide +kernel)
theorem isi_int_none : gIsi "int" .none = .ok (.bool false) := isi_ev (by show kitB "NoneType" "int" = some false; decide +kernel)
theorem isi_int_list : gIsi "int" (.list ds) = .ok (.bool false) := isi_ev (by show kitB "list" "int" = some false; decide +kernel)
theorem isi_int_tup : gIsi "int" (.tuple ds) = .ok (.bool false) := isi_ev (by show kitB "tuple" "int" = some false; decide +kernel)
theorem isi_bool_str {z : Str} : gIsi "bool" (.str z) = .ok (.bool false) := isi_ev (by show kitB "str" "bool" = some false; decide +kernel)
theorem isi_bool_none : gIsi "bool" .none = .ok (.bool false) := isi_ev (by show kitB "NoneType" "bool" = some false; decide +kernel)
theorem isi_bool_list : gIsi "bool" (.list ds) = .ok (.bool false) := isi_ev (by show kitB "list" "bool" = some false; decide +kernel)
theorem isi_bool_tup : gIsi "bool" (.tuple ds) = .ok (.bool false) := isi_ev (by show kitB "tuple" "bool" = some false; decide +kernel)
theorem isi_tup_tup : gIsi "tuple" (.tuple ds) = .ok (.bool true) := isi_ev (by show kitB "tuple" "tuple" = some true; decide +kernel)
theorem isi_tup_int {z : Int} : gIsi "tuple" (.int z) = .ok (.bool false) := isi_ev (by show kitB "int" "tuple" = some false; decide +kernel)
theorem isi_tup_bool : gIsi "tuple" (.bool b) = .ok (.bool false) := isi_ev (by show kitB "bool" "tuple" = some false; decide +kernel)
theorem isi_tup_str {z : Str} : gIsi "tuple" (.str z) = .ok (.bool false) := isi_ev (by show kitB "str" "tuple" = some false; decide +kernel)
theorem isi_tup_none : gIsi "tuple" .none = .ok (.bool false) := isi_ev (by show kitB "NoneType" "tuple" = some false; decide +kernel)
theorem isi_tup_list : gIsi "tuple" (.list ds) = .ok (.bool false) := isi_ev (by show kitB "list" "tuple" = some false; decide +kernel)
theorem isi_list_list : gIsi "list" (.list ds) = .ok (.bool true) := isi_ev (by show kitB "list" "list" = some true; decide +kernel)
theorem isi_list_tup : gIsi "list" (.tuple ds) = .ok (.bool false) := isi_ev (by show kitB "tuple" "list" = some false; decide +kernel)
theorem isi_list_int {z : Int} : gIsi "list" (.int z) = .ok (.bool false) := isi_ev (by show kitB "int" "list" = some false; decide +kernel)
theorem isi_list_bool : gIsi "list" (.bool b) = .ok (.bool false) := isi_ev (by show kitB "bool" "list" = some false; decide +kernel)
theorem isi_list_str {z : Str} : gIsi "list" (.str z) = .ok (.bool false) := isi_ev (by show kitB "str" "list" = some false; decide +kernel)
theorem isi_list_none : gIsi "list" .none = .ok (.bool false) := isi_ev (by show kitB "NoneType" "list" = some false; decide +kernel)
theorem isi_str_str {z : Str} : gIsi "str" (.str z) = .ok (.bool true) := isi_ev (by show kitB "str" "str" = some true; decide +kernel)
theorem isi_str_int {z : Int} : gIsi "str" (.int z) = .ok (.bool false) := isi_ev (by show kitB "int" "str" = some false; decide +kernel)
theorem isi_str_bool : gIsi "str" (.bool b) = .ok (.bool false) := isi_ev (by show kitB "bool" "str" = some false; decide +kernel)
theorem isi_str_none : gIsi "str" .none = .ok (.bool false) := isi_ev (by show kitB "NoneType" "str" = some false; decide +kernel)
theorem isi_str_list : gIsi "str" (.list ds) = .ok (.bool false) := isi_ev (by show kitB "list" "str" = some false; decide +kernel)
theorem isi_str_tup : gIsi "str" (.tuple ds) = .ok (.bool false) := isi_ev (by show kitB "tuple" "str" = some false; decide +kernel)
/-! loops whose turns leave the first slots as they are -/
def Keeps (pre : En) (n : Nat) (r : Fl) : Prop := ∃ ys : En, ys.length = n ∧ r = .nx (pre ++ ys)
theorem for_keep {pre : En} {n : Nat} {i : Nat} (hi : pre.length ≤ i) : ∀ (ds : List PD) (ys : En), ys.length = n → (∀ d ∈ ds, ∀ ys : En, ys.length = n → Keeps pre n (g (pre ++ ys.set (i - pre.length) (some (.d d))))) → Keeps pre n (sForL (.one i) g ds (pre ++ ys))
  | [], ys, hy, _ => ⟨ys, hy, rfl⟩
  | d :: ds, ys, hy, h => by
    unfold sForL
    obtain ⟨zs, hz, e⟩ := h d List.mem_cons_self ys hy
    have e0 : (pre ++ ys).set i (some (.d d)) = pre ++ ys.set (i - pre.length) (some (.d d)) := List.set_append_right _ _ hi
    simp only [put_1, e0, e]
    exact for_keep hi ds zs hz fun d hd => h d (List.mem_cons_of_mem _ hd)
end
instance nz_pow {i : Int} {k : Nat} [h : NZ i] : NZ (i ^ k) := ⟨Int.pow_ne_zero h.h⟩
/-! equality of plain data -/
mutual
def plain : PD → Bool
  | .int _ => true
  | .str _ => true
  | .list xs => plainA xs
  | .tuple xs => plainA xs
  | _ => false
def plainA : List PD → Bool
  | [] => true
  | x :: xs => plain x && plainA xs
end
mutual
theorem eqv_plain : ∀ (d e : PD), plain d = true → plain e = true → (PyData.eqv d e = true ↔ d = e)
  | .int i, .int j, _, _ => by simp [PyData.eqv]
  | .str i, .str j, _, _ => by simp [PyData.eqv]
  | .list xs, .list ys, h, g => by
    have := eqvA_plain xs ys (by simpa [plain] using h) (by simpa [plain] using g)
    simp [PyData.eqv, this]
  | .tuple xs, .tuple ys, h, g => by
    have := eqvA_plain xs ys (by simpa [plain] using h) (by simpa [plain] using g)
    simp [PyData.eqv, this]
  | .int _, .str _, _, _ => by simp [PyData.eqv]
  | .int _, .list _, _, _ => by simp [PyData.eqv]
  | .int _, .tuple _, _, _ => by simp [PyData.eqv]
  | .str _, .int _, _, _ => by simp [PyData.eqv]
  | .str _, .list _, _, _ => by simp [PyData.eqv]
  | .str _, .tuple _, _, _ => by simp [PyData.eqv]
  | .list _, .int _, _, _ => by simp [PyData.eqv]
  | .list _, .str _, _, _ => by simp [PyData.eqv]
  | .list _, .tuple _, _, _ => by simp [PyData.eqv]
  | .tuple _, .int _, _, _ => by simp [PyData.eqv]
  | .tuple _, .str _, _, _ => by simp [PyData.eqv]
  | .tuple _, .list _, _, _ => by simp [PyData.eqv]
  | .none, _, h, _ => by simp [plain] at h
  | .bool _, _, h, _ => by simp [plain] at h
  | .dict _, _, h, _ => by simp [plain] at h
  | .int _, .none, _, g => by simp [plain] at g
  | .int _, .bool _, _, g => by simp [plain] at g
  | .int _, .dict _, _, g => by simp [plain] at g
  | .str _, .none, _, g => by simp [plain] at g
  | .str _, .bool _, _, g => by simp [plain] at g
  | .str _, .dict _, _, g => by simp [plain] at g
  | .list _, .none, _, g => by simp [plain] at g
  | .list _, .bool _, _, g => by simp [plain] at g
  | .list _, .dict _, _, g => by simp [plain] at g
  | .tuple _, .none, _, g => by simp [plain] at g
  | .tuple _, .bool _, _, g => by simp [plain] at g
  | .tuple _, .dict _, _, g => by simp [plain] at g
theorem eqvA_plain : ∀ (xs ys : List PD), plainA xs = true → plainA ys = true → (PyData.eqvAll xs ys = true ↔ xs = ys)
  | [], [], _, _ => by simp [PyData.eqvAll]
  | x :: xs, y :: ys, h, g => by
    have h1 : plain x = true ∧ plainA xs = true := by simpa [plainA] using h
    have g1 : plain y = true ∧ plainA ys = true := by simpa [plainA] using g
    simp [PyData.eqvAll, eqv_plain x y h1.1 g1.1, eqvA_plain xs ys h1.2 g1.2]
  | [], _ :: _, _, _ => by simp [PyData.eqvAll]
  | _ :: _, [], _, _ => by simp [PyData.eqvAll]
end
theorem gEq_t {xs ys : List PD} {b : Bool} (h1 : SeqAt.shaped (.tuple xs) = true) (h2 : SeqAt.shaped (.tuple ys) = true) (h3 : PyData.eqv (.tuple xs) (.tuple ys) = b) : gEq (.tuple xs) (.tuple ys) = .ok (.bool b) := by
  subst h3
  exact if_pos ⟨h1, h2⟩
theorem gNe_t {xs ys : List PD} {b : Bool} (h1 : SeqAt.shaped (.tuple xs) = true) (h2 : SeqAt.shaped (.tuple ys) = true) (h3 : PyData.eqv (.tuple xs) (.tuple ys) = b) : gNe (.tuple xs) (.tuple ys) = .ok (.bool (!b)) := by
  subst h3
  exact if_pos ⟨h1, h2⟩
theorem gEq_l {xs ys : List PD} {b : Bool} (h1 : SeqAt.shaped (.list xs) = true) (h2 : SeqAt.shaped (.list ys) = true) (h3 : PyData.eqv (.list xs) (.list ys) = b) : gEq (.list xs) (.list ys) = .ok (.bool b) := by
  subst h3
  exact if_pos ⟨h1, h2⟩
theorem gNe_l {xs ys : List PD} {b : Bool} (h1 : SeqAt.shaped (.list xs) = true) (h2 : SeqAt.shaped (.list ys) = true) (h3 : PyData.eqv (.list xs) (.list ys) = b) : gNe (.list xs) (.list ys) = .ok (.bool (!b)) := by
  subst h3
  exact if_pos ⟨h1, h2⟩
theorem gEq_tself {xs : List PD} (h1 : SeqAt.shaped (.tuple xs) = true) (h2 : plainA xs = true) : gEq (.tuple xs) (.tuple xs) = .ok (.bool true) :=
  gEq_t h1 h1 ((eqv_plain _ _ (by simpa [plain] using h2) (by simpa [plain] using h2)).mpr rfl)
theorem gNe_tself {xs : List PD} (h1 : SeqAt.shaped (.tuple xs) = true) (h2 : plainA xs = true) : gNe (.tuple xs) (.tuple xs) = .ok (.bool false) :=
  gNe_t h1 h1 ((eqv_plain _ _ (by simpa [plain] using h2) (by simpa [plain] using h2)).mpr rfl)
section
variable {a b c a' b' c' : Int}
theorem sh2 : SeqAt.shaped (.tuple [.int a, .int b]) = true := rfl
theorem sh3 : SeqAt.shaped (.tuple [.int a, .int b, .int c]) = true := rfl
theorem gEq_2 : gEq (.tuple [.int a, .int b]) (.tuple [.int a', .int b']) = .ok (.bool (decide (a = a' ∧ b = b'))) := gEq_t sh2 sh2 (by simp only [PyData.eqv, PyData.eqvAll, Bool.decide_and, Bool.and_true]; rfl)
theorem gNe_2 : gNe (.tuple [.int a, .int b]) (.tuple [.int a', .int b']) = .ok (.bool (!decide (a = a' ∧ b = b'))) := gNe_t sh2 sh2 (by simp only [PyData.eqv, PyData.eqvAll, Bool.decide_and, Bool.and_true]; rfl)
theorem gEq_3 : gEq (.tuple [.int a, .int b, .int c]) (.tuple [.int a', .int b', .int c']) = .ok (.bool (decide (a = a' ∧ b = b' ∧ c = c'))) := gEq_t sh3 sh3 (by simp only [PyData.eqv, PyData.eqvAll, Bool.decide_and, Bool.and_true]; rfl)
theorem gNe_3 : gNe (.tuple [.int a, .int b, .int c]) (.tuple [.int a', .int b', .int c']) = .ok (.bool (!decide (a = a' ∧ b = b' ∧ c = c'))) := gNe_t sh3 sh3 (by simp only [PyData.eqv, PyData.eqvAll, Bool.decide_and, Bool.and_true]; rfl)
end
/-! ### lists of one's own, loops, comprehensions -/
def kSetL (i : Nat) (ρ : En) (ds : List PD) : Fl := .nx (ρ.set i (some (.l ds)))
def kDisp (ds : List PD) : R (List PD) := if ds.length ≤ 1000 then .ok ds else .no
def kFrz (i : Nat) (g : En → Fl) (ρ : En) : Option (Option SV) → Fl
  | some (some (.l xs)) => g (ρ.set i (some (.d (.list xs))))
  | _ => g ρ
def kLend (i : Nat) (f : En → R PD) (ρ : En) : Option (Option SV) → R PD
  | some (some (.l xs)) => (f (ρ.set i (some (.d (.list xs))))).bind atomD
  | _ => f ρ
def kLendB (i : Nat) (f : En → R Bool) (ρ : En) : Option (Option SV) → R Bool
  | some (some (.l xs)) => f (ρ.set i (some (.d (.list xs))))
  | _ => f ρ
def kApp (i : Nat) (xs : List PD) (ρ : En) (d : PD) : Fl := if xs.length < 16777216 then .nx (ρ.set i (some (.l (xs ++ [d])))) else .no
def kAppO (i : Nat) (f : En → R PD) (ρ : En) : Option (Option SV) → Fl
  | some (some (.l xs)) => (f ρ).fl ρ (kApp i xs ρ)
  | _ => .no
def kPut2 (i : Nat) (xs : List PD) (ρ : En) (d k : PD) : R Fl := match k with
  | .int z => (match ixN xs.length z with
    | some j => .ok (.nx (ρ.set i (some (.l (xs.set j d)))))
    | none => .no)
  | _ => .no
def kPutO (i : Nat) (fk fe : En → R PD) (ρ : En) : Option (Option SV) → Fl
  | some (some (.l xs)) => (R.bind2 (kPut2 i xs ρ) (fe ρ) (fk ρ)).fl ρ kId
  | _ => .no
def kIxO (f : En → R PD) (ρ : En) : Option (Option SV) → R PD
  | some (some (.l xs)) => (f ρ).bind (gIx (.list xs))
  | some (some (.d d)) => (f ρ).bind (gIx d)
  | _ => .no
def kLst (ds : List PD) : R PD := .ok (.list ds)
def kLcL (tg : Tg) (vs : List Nat) (tt : En → R Bool) (te : En → R PD) (ρ : En) (ds : List PD) : R (List PD) := if ds.length ≤ 1000000 then lcL tg tt te (wipeE ρ vs) ds else .no
section
variable {f fk fe : En → R PD} {fl : En → R (List PD)} {t : En → R Bool} {g : En → Fl} {ρ ρ1 : En} {i : Nat} {d e : PD} {ds xs : List PD} {x : PD}
theorem ev_setL : sSetL i fl ρ = (fl ρ).fl ρ (kSetL i ρ) := rfl
theorem kSetL_ev : kSetL i ρ ds = .nx (ρ.set i (some (.l ds))) := rfl
theorem ev_lDisp : lDisp fl ρ = (fl ρ).bind kDisp := rfl
theorem kDisp_ev (h : ds.length ≤ 1000) : kDisp ds = .ok ds := if_pos h
theorem ev_lList : lList f ρ = (f ρ).bind lOf := rfl
theorem lOf_l : lOf (.list ds) = .ok ds := rfl
theorem lOf_t : lOf (.tuple ds) = .ok ds := rfl
theorem ev_frz : sFrz i g ρ = kFrz i g ρ ρ[i]? := by
  unfold sFrz kFrz
  cases h : ρ[i]? with
  | none => rfl
  | some o =>
    cases o with
    | none => rfl
    | some v => cases v <;> rfl
theorem frz_l : kFrz i g ρ (some (some (.l xs))) = g (ρ.set i (some (.d (.list xs)))) := rfl
theorem frz_d : kFrz i g ρ (some (some (.d x))) = g ρ := rfl
theorem frz_n : kFrz i g ρ (some none) = g ρ := rfl
theorem ev_lend : dLend i f ρ = kLend i f ρ ρ[i]? := by
  unfold dLend kLend
  cases h : ρ[i]? with
  | none => rfl
  | some o =>
    cases o with
    | none => rfl
    | some v => cases v <;> rfl
theorem lend_l : kLend i f ρ (some (some (.l xs))) = (f (ρ.set i (some (.d (.list xs))))).bind atomD := rfl
theorem lend_d : kLend i f ρ (some (some (.d x))) = f ρ := rfl
theorem atom_i {z : Int} : atomD (.int z) = .ok (.int z) := rfl
theorem atom_b {z : Bool} : atomD (.bool z) = .ok (.bool z) := rfl
theorem atom_s {z : Str} : atomD (.str z) = .ok (.str z) := rfl
theorem ev_lendB : dLendB i t ρ = kLendB i t ρ ρ[i]? := by
  unfold dLendB kLendB
  cases h : ρ[i]? with
  | none => rfl
  | some o =>
    cases o with
    | none => rfl
    | some v => cases v <;> rfl
theorem lendB_l : kLendB i t ρ (some (some (.l xs))) = t (ρ.set i (some (.d (.list xs)))) := rfl
theorem lendB_d : kLendB i t ρ (some (some (.d x))) = t ρ := rfl
theorem ev_app : sApp i f ρ = kAppO i f ρ ρ[i]? := by
  unfold sApp kAppO
  cases h : ρ[i]? with
  | none => rfl
  | some o =>
    cases o with
    | none => rfl
    | some v => cases v <;> rfl
theorem app_l : kAppO i f ρ (some (some (.l xs))) = (f ρ).fl ρ (kApp i xs ρ) := rfl
theorem kApp_ev (h : xs.length < 16777216) : kApp i xs ρ d = .nx (ρ.set i (some (.l (xs ++ [d])))) := if_pos h
theorem ev_put : sPut i fk fe ρ = kPutO i fk fe ρ ρ[i]? := by
  unfold sPut kPutO
  cases h : ρ[i]? with
  | none => rfl
  | some o =>
    cases o with
    | none => rfl
    | some v =>
      cases v with
      | d x => rfl
      | k x => rfl
      | ll x => rfl
      | o c x => rfl
      | me c x => rfl
      | l xs =>
        show sE fe _ ρ = (R.bind2 (kPut2 i xs ρ) (fe ρ) (fk ρ)).fl ρ kId
        unfold sE R.bind2 R.fl kPut2
        cases h1 : fe ρ with
        | ok a =>
          cases h2 : fk ρ with
          | ok b =>
            simp only [h2]
            cases b with
            | int z =>
              show _ = _
              cases hj : ixN xs.length z with
              | none => simp only [hj]
              | some j => simp only [hj]; rfl
            | _ => rfl
          | ex c => simp only [h2]
          | no => simp only [h2]
        | ex c => rfl
        | no => rfl
theorem put_l : kPutO i fk fe ρ (some (some (.l xs))) = (R.bind2 (kPut2 i xs ρ) (fe ρ) (fk ρ)).fl ρ kId := rfl
theorem kPut2_ev {z : Int} {j : Nat} (h : ixN xs.length z = some j) : kPut2 i xs ρ d (.int z) = .ok (.nx (ρ.set i (some (.l (xs.set j d))))) := by
  unfold kPut2
  simp only [h]
theorem ev_ixO : dIxO i f ρ = kIxO f ρ ρ[i]? := by
  unfold dIxO kIxO
  cases h : ρ[i]? with
  | none => rfl
  | some o =>
    cases o with
    | none => rfl
    | some v =>
      cases v with
      | d x => rfl
      | k x => rfl
      | ll x => rfl
      | o c x => rfl
      | me c x => rfl
      | l xs =>
        show R.bind (f ρ) _ = R.bind (f ρ) _
        congr 1
        funext d
        cases d <;> rfl
theorem ixO_l : kIxO f ρ (some (some (.l xs))) = (f ρ).bind (gIx (.list xs)) := rfl
theorem ixO_d : kIxO f ρ (some (some (.d x))) = (f ρ).bind (gIx x) := rfl
theorem forL_nil {tg : Tg} : sForL tg g [] ρ = .nx ρ := rfl
theorem forL_1 : sForL (.one i) g (d :: ds) ρ = (g (ρ.set i (some (.d d)))).turn (sForL (.one i) g ds) := by
  rw [sForL]
  show (match g (ρ.set i (some (.d d))) with
      | .nx ρ2 => sForL (.one i) g ds ρ2
      | .ct ρ2 => sForL (.one i) g ds ρ2
      | .bk ρ2 => .nx ρ2
      | r => r) = _
  unfold Fl.turn
  cases g (ρ.set i (some (.d d))) <;> rfl
theorem forL_m {is : List Nat} (h : xs.length = is.length) : sForL (.many is) g (.tuple xs :: ds) ρ = (g (putAll is xs ρ)).turn (sForL (.many is) g ds) := by
  rw [sForL]
  have : Tg.put (.many is) (.tuple xs) ρ = some (putAll is xs ρ) := if_pos h
  rw [this]
  show (match g (putAll is xs ρ) with
      | .nx ρ2 => sForL (.many is) g ds ρ2
      | .ct ρ2 => sForL (.many is) g ds ρ2
      | .bk ρ2 => .nx ρ2
      | r => r) = _
  unfold Fl.turn
  cases g (putAll is xs ρ) <;> rfl
theorem put_m {is : List Nat} (h : xs.length = is.length) : Tg.put (.many is) (.tuple xs) ρ = some (putAll is xs ρ) := if_pos h
theorem putAll_c {is : List Nat} : putAll (i :: is) (d :: ds) ρ = putAll is ds (ρ.set i (some (.d d))) := rfl
theorem putAll_n : putAll [] ds ρ = ρ := by cases ds <;> rfl
theorem ev_lc {it : En → R (List PD)} {tg : Tg} {vs : List Nat} : dLc it tg vs t f ρ = (dLcL it tg vs t f ρ).bind kLst := rfl
theorem kLst_ev : kLst ds = .ok (.list ds) := rfl
theorem ev_lcL {it : En → R (List PD)} {tg : Tg} {vs : List Nat} : dLcL it tg vs t f ρ = (it ρ).bind (kLcL tg vs t f ρ) := rfl
theorem kLcL_ev {tg : Tg} {vs : List Nat} (h : ds.length ≤ 1000000) : kLcL tg vs t f ρ ds = lcL tg t f (wipeE ρ vs) ds := if_pos h
theorem wipe_n : wipeE ρ [] = ρ := rfl
theorem wipe_c {vs : List Nat} : wipeE ρ (i :: vs) = (wipeE ρ vs).set i none := rfl
/-- a comprehension without a test -/
theorem lcL_map {tg : Tg} (h : PD → PD) : ∀ (ds : List PD), (∀ d ∈ ds, ∃ ρ1, tg.put d ρ = some ρ1 ∧ f ρ1 = .ok (h d)) → lcL tg bYes f ρ ds = .ok (ds.map h)
  | [], _ => rfl
  | d :: ds, k => by
    obtain ⟨ρ1, e1, e2⟩ := k d List.mem_cons_self
    rw [lcL, e1]
    show (match bYes ρ1 with
      | .ok true => (match f ρ1 with
        | .ok y => (match lcL tg bYes f ρ ds with
          | .ok ys => R.ok (y :: ys)
          | _ => .no)
        | _ => .no)
      | .ok false => lcL tg bYes f ρ ds
      | _ => .no) = _
    rw [lcL_map h ds fun d hd => k d (List.mem_cons_of_mem _ hd), e2]
    rfl
/-- a comprehension with a test -/
theorem lcL_filter {tg : Tg} (q : PD → Bool) (h : PD → PD) : ∀ (ds : List PD), (∀ d ∈ ds, ∃ ρ1, tg.put d ρ = some ρ1 ∧ t ρ1 = .ok (q d) ∧ (q d = true → f ρ1 = .ok (h d))) → lcL tg t f ρ ds = .ok ((ds.filter q).map h)
  | [], _ => rfl
  | d :: ds, k => by
    obtain ⟨ρ1, e1, e2, e3⟩ := k d List.mem_cons_self
    have ih := lcL_filter q h ds fun d hd => k d (List.mem_cons_of_mem _ hd)
    rw [lcL, e1]
    show (match t ρ1 with
      | .ok true => (match f ρ1 with
        | .ok y => (match lcL tg t f ρ ds with
          | .ok ys => R.ok (y :: ys)
          | _ => .no)
        | _ => .no)
      | .ok false => lcL tg t f ρ ds
      | _ => .no) = _
    rw [ih, e2]
    cases z : q d with
    | true =>
      rw [e3 z, List.filter_cons_of_pos z]
      rfl
    | false =>
      rw [List.filter_cons_of_neg (by simp [z])]
end
theorem r1_2 : gR1 [.int 2] = .ok [.int 0, .int 1] := rfl
theorem r1_3 : gR1 [.int 3] = .ok [.int 0, .int 1, .int 2] := rfl
theorem bits_ev {z : Int} : gm_bit_length (.int z) = .ok (.int (Builtin.Int.intBits z : Nat)) := rfl
section
variable {a b c d a' b' c' d' : Int}
theorem gEq_22 : gEq (.tuple [.tuple [.int a, .int b], .tuple [.int c, .int d]]) (.tuple [.tuple [.int a', .int b'], .tuple [.int c', .int d']]) = .ok (.bool (decide ((a = a' ∧ b = b') ∧ c = c' ∧ d = d'))) :=
  gEq_t rfl rfl (by simp only [PyData.eqv, PyData.eqvAll, Bool.decide_and, Bool.and_true]; rfl)
theorem gNe_22 : gNe (.tuple [.tuple [.int a, .int b], .tuple [.int c, .int d]]) (.tuple [.tuple [.int a', .int b'], .tuple [.int c', .int d']]) = .ok (.bool (!decide ((a = a' ∧ b = b') ∧ c = c' ∧ d = d'))) :=
  gNe_t rfl rfl (by simp only [PyData.eqv, PyData.eqvAll, Bool.decide_and, Bool.and_true]; rfl)
end
section
variable {a b c d e : PD}
theorem len_t2 : gLen [.tuple [a, b]] = .ok (.int 2) := rfl
theorem len_t3 : gLen [.tuple [a, b, c]] = .ok (.int 3) := rfl
theorem len_t1 : gLen [.tuple [a]] = .ok (.int 1) := rfl
theorem len_t4 : gLen [.tuple [a, b, c, d]] = .ok (.int 4) := rfl
end
/-- range(0, n, 2) -/
theorem r3_2 {n : Int} (h0 : 0 ≤ n) (h1 : n < 2 ^ 40) : ∃ m : Nat, gR3 [.int 0, .int n, .int 2] = .ok (rng3 0 2 m) ∧ ∀ i : Nat, i < m → 2 * (i : Int) < n := by
  have hs : Builtin.Range.small 0 n 2 = true := by
    unfold Builtin.Range.small Builtin.Range.rangeSize Builtin.Range.rangeFitsLong
    by_cases h : 0 < n
    · simp [h]
      omega
    · have : n = 0 := by omega
      subst this
      decide
  have hz : 0 ≤ Builtin.Range.rangeSize 0 n 2 := by
    unfold Builtin.Range.rangeSize
    simp
    split <;> omega
  refine ⟨(Builtin.Range.rangeSize 0 n 2).toNat, ?_, fun i hi => ?_⟩
  · unfold gR3
    exact if_pos ⟨by decide, by decide, hs, hz⟩
  · unfold Builtin.Range.rangeSize at hi
    simp at hi
    split at hi <;> omega
/-! in, of numbers -/
theorem eqvI_any {d : Int} : ∀ zs : List Int, ((zs.map PyData.int).any fun y => PyData.eqv y (.int d)) = zs.any fun y => y == d
  | [] => rfl
  | z :: zs => by
    show (PyData.eqv (.int z) (.int d) || (zs.map PyData.int).any fun y => PyData.eqv y (.int d)) = (z == d || zs.any fun y => y == d)
    rw [eqvI_any zs]
    rfl
theorem flatI_all : ∀ zs : List Int, (zs.map PyData.int).all flatD = true
  | [] => rfl
  | z :: zs => flatI_all zs
theorem in_t {d : Int} {zs : List Int} {neg : Bool} : gIn neg (.int d) (.tuple (zs.map PyData.int)) = .ok (.bool ((zs.any fun y => y == d) != neg)) := by
  have : inL (.int d) (zs.map PyData.int) = .ok (zs.any fun y => y == d) := by
    unfold inL
    rw [if_pos ⟨rfl, flatI_all zs⟩, eqvI_any]
  show (inL (.int d) (zs.map PyData.int)).bind _ = _
  rw [this]
  rfl
theorem in_l {d : Int} {zs : List Int} {neg : Bool} : gIn neg (.int d) (.list (zs.map PyData.int)) = .ok (.bool ((zs.any fun y => y == d) != neg)) := by
  have : inL (.int d) (zs.map PyData.int) = .ok (zs.any fun y => y == d) := by
    unfold inL
    rw [if_pos ⟨rfl, flatI_all zs⟩, eqvI_any]
  show (inL (.int d) (zs.map PyData.int)).bind _ = _
  rw [this]
  rfl
/-- the ninety roots -/
def rootsL : List Int := ((List.range 98).map fun i => (2 : Int) + (i : Nat)).filter fun d => !([4, 9, 16, 25, 36, 49, 64, 81].any fun y => y == d)
theorem roots_lc {i : Nat} {f : En → R PD} {t : En → R Bool} {ρ : En} (hf : ∀ d : Int, f (ρ.set i (some (.d (.int d)))) = .ok (.int d)) (ht : ∀ d : Int, t (ρ.set i (some (.d (.int d)))) = .ok (([4, 9, 16, 25, 36, 49, 64, 81].any fun y => y == d) != true)) :
    lcL (.one i) t f ρ (rng 2 98) = .ok (rootsL.map PyData.int) := by
  rw [lcL_filter (fun d => match d with
    | .int z => !([4, 9, 16, 25, 36, 49, 64, 81].any fun y => y == z)
    | _ => false) id]
  · rw [List.map_id]
    unfold rng rootsL
    rw [List.filter_map, List.filter_map]
    rw [List.map_map]
    rfl
  · intro d hd
    unfold rng at hd
    obtain ⟨k, _, rfl⟩ := List.mem_map.mp hd
    refine ⟨_, rfl, ?_, fun _ => hf _⟩
    rw [ht]
    simp
theorem r2_roots : gR2 [.int 2, .int 100] = .ok (rng 2 98) := rfl
theorem rootsL_len : rootsL.length = 90 := by decide
end DL

set_option Elab.async false
set_option linter.all false
set_option maxRecDepth 100000
set_option maxHeartbeats 4000000
set_option autoImplicit false
namespace DL
open PySem L2
noncomputable def den_is_whole : En → Fl := sRet (dAndV (d1 (gIsi "int") (dV 0)) (dNotV (d1 (gIsi "bool") (dV 0))))
noncomputable def m_is_whole : List PD → R PD := fnD 1 den_is_whole
theorem mm_is_whole : m_is_whole = fnD 1 den_is_whole := rfl
noncomputable def lt1_root_floor : En → R Bool := dT (dC (.bool true))
noncomputable def lb1_root_floor : En → Fl := sSeq (sSet 2 (d2 gDiv (d2 gAdd (dV 1) (d2 gDiv (dV 0) (dV 1))) (dC (.int 2)))) (sSeq (sIf (dT (d2 gGe (dV 2) (dV 1))) (sRet (dV 1)) (sNx)) (sSet 1 (dV 2)))
noncomputable def den_root_floor : En → Fl := sSeq (sIf (dT (d2 gEq (dV 0) (dC (.int 0)))) (sRet (dC (.int 0))) (sNx)) (sSeq (sSet 1 (d2 gShl (dC (.int 1)) (d2 gDiv (d2 gAdd (d1 gm_bit_length (dV 0)) (dC (.int 1))) (dC (.int 2))))) (sWhile lt1_root_floor lb1_root_floor))
noncomputable def m_root_floor : List PD → R PD := fnD 3 den_root_floor
theorem mm_root_floor : m_root_floor = fnD 3 den_root_floor := rfl
def c_GREATEST_ROOT : PD := (.int 99)
def c_LEAST_ROOT : PD := (.int 2)
noncomputable def den_is_root : En → Fl := sSeq (sIf (dOr (dNot (dT (dA (gCall 1 [] m_is_whole) (dCons (dV 0) (dNil))))) (dNot (dT (dCh gLe gLe (dC c_LEAST_ROOT) (dV 0) (dC c_GREATEST_ROOT))))) (sRet (dC (.bool false))) (sNx)) (sRet (d2 gNe (d2 gMul (dA (gCall 1 [] m_root_floor) (dCons (dV 0) (dNil))) (dA (gCall 1 [] m_root_floor) (dCons (dV 0) (dNil)))) (dV 0)))
noncomputable def m_is_root : List PD → R PD := fnD 1 den_is_root
theorem mm_is_root : m_is_root = fnD 1 den_is_root := rfl
noncomputable def lt1_divisor : En → R Bool := dT (d2 gNe (dV 1) (dC (.int 0)))
noncomputable def lb1_divisor : En → Fl := sPar 0 1 (dV 1) (d2 gMod (dV 0) (dV 1))
noncomputable def den_divisor : En → Fl := sSeq (sWhile lt1_divisor lb1_divisor) (sRet (dA gAbs (dCons (dV 0) (dNil))))
noncomputable def m_divisor : List PD → R PD := fnD 2 den_divisor
theorem mm_divisor : m_divisor = fnD 2 den_divisor := rfl
noncomputable def den_lowest : En → Fl := sSeq (sSet 3 (dA (gCall 2 [] m_divisor) (dCons (dA (gCall 2 [] m_divisor) (dCons (dV 0) (dCons (dV 1) (dNil)))) (dCons (dV 2) (dNil))))) (sSeq (sIf (dT (d2 gLt (dV 2) (dC (.int 0)))) (sSet 3 (d2 gSub (dC (.int 0)) (dV 3))) (sNx)) (sRet (dA gTupD (dCons (d2 gDiv (dV 0) (dV 3)) (dCons (d2 gDiv (dV 1) (dV 3)) (dCons (d2 gDiv (dV 2) (dV 3)) (dNil)))))))
noncomputable def m_lowest : List PD → R PD := fnD 4 den_lowest
theorem mm_lowest : m_lowest = fnD 4 den_lowest := rfl
noncomputable def den_length : En → Fl := sSeq (sIf (dOr (dNot (dT (dA (gCall 1 [] m_is_whole) (dCons (dV 0) (dNil))))) (dOr (dNot (dT (dA (gCall 1 [] m_is_whole) (dCons (dV 1) (dNil))))) (dOr (dNot (dT (dA (gCall 1 [] m_is_whole) (dCons (dV 2) (dNil))))) (dT (d2 gEq (dV 2) (dC (.int 0))))))) (sRaise "NoLength") (sNx)) (sRet (dA (gCall 3 [] m_lowest) (dCons (dV 0) (dCons (dV 1) (dCons (dV 2) (dNil))))))
noncomputable def m_length : List PD → R PD := fnD 3 den_length
theorem mm_length : m_length = fnD 3 den_length := rfl
noncomputable def den_law_whole : En → Fl := sRet (dAndV (d1 (gIsi "int") (dV 0)) (dNotV (d1 (gIsi "bool") (dV 0))))
noncomputable def m_law_whole : List PD → R PD := fnD 1 den_law_whole
theorem mm_law_whole : m_law_whole = fnD 1 den_law_whole := rfl
noncomputable def den_law_great : En → Fl := sSeq (sSet 2 (d2 gMul (d2 gAdd (d2 gAdd (dV 0) (dV 1)) (dC (.int 1))) (dC (.int 105152070229383420083013462309641843003)))) (sRet (d2 gMod (dV 2) (dC (.int 170141183460469231731687303715884105727))))
noncomputable def m_law_great : List PD → R PD := fnD 3 den_law_great
theorem mm_law_great : m_law_great = fnD 3 den_law_great := rfl
def xl_be93e3 : List Str := ["NoLength", "NoBoard", "NoText", "NoDeed", "NoName", "Grain", "Unfit", "TooMany", "NoRow", "Apart"]
noncomputable def den_law_alone : En → Fl := sSeq (sSet 1 (d2 gAdd (d2 gAdd (dA gInt (dCons (d1 (gIsE xl_be93e3 "NoLength") (dV 0)) (dNil))) (dA gInt (dCons (d1 (gIsE xl_be93e3 "NoBoard") (dV 0)) (dNil)))) (dA gInt (dCons (d1 (gIsE xl_be93e3 "NoText") (dV 0)) (dNil))))) (sSeq (sSet 1 (d2 gAdd (d2 gAdd (d2 gAdd (dV 1) (dA gInt (dCons (d1 (gIsE xl_be93e3 "NoDeed") (dV 0)) (dNil)))) (dA gInt (dCons (d1 (gIsE xl_be93e3 "NoName") (dV 0)) (dNil)))) (dA gInt (dCons (d1 (gIsE xl_be93e3 "Grain") (dV 0)) (dNil))))) (sSeq (sSet 1 (d2 gAdd (d2 gAdd (d2 gAdd (dV 1) (dA gInt (dCons (d1 (gIsE xl_be93e3 "Unfit") (dV 0)) (dNil)))) (dA gInt (dCons (d1 (gIsE xl_be93e3 "TooMany") (dV 0)) (dNil)))) (dA gInt (dCons (d1 (gIsE xl_be93e3 "NoRow") (dV 0)) (dNil))))) (sSeq (sSet 1 (d2 gAdd (dV 1) (dA gInt (dCons (d1 (gIsE xl_be93e3 "Apart") (dV 0)) (dNil))))) (sRet (dAndV (d2 gEq (dV 1) (dC (.int 1))) (dAndV (d1 (gIsE xl_be93e3 "YardError") (dV 0)) (d1 (gIsE xl_be93e3 "ValueError") (dV 0))))))))
noncomputable def m_law_alone : List PD → R PD := fnD 2 den_law_alone
theorem mm_law_alone : m_law_alone = fnD 2 den_law_alone := rfl
noncomputable def den_law_number : En → Fl := sSeq (sSet 3 (dA (gCall 2 [] m_law_great) (dCons (dV 0) (dCons (dV 1) (dNil))))) (sSeq (sIf (dT (d2 gEq (d2 gMod (dV 3) (dC (.int 40))) (dC (.int 0)))) (sSeq (sSet 4 (d2 gMul (d2 gPow (dC (.int 10)) (dC (.int 40))) (d2 gPow (dV 2) (dC (.int 8))))) (sRet (d2 gAdd (d2 gSub (d2 gMod (d2 gPow (d2 gDiv (dV 3) (dC (.int 40))) (dC (.int 10))) (d2 gSub (d2 gMul (dC (.int 2)) (dV 4)) (dC (.int 1)))) (dV 4)) (dC (.int 1))))) (sNx)) (sSeq (sIf (dT (d2 gEq (d2 gMod (dV 3) (dC (.int 5))) (dC (.int 0)))) (sRet (d2 gSub (d2 gMod (d2 gMul (d2 gDiv (dV 3) (dC (.int 5))) (dV 3)) (d2 gSub (d2 gMul (dC (.int 2)) (dV 2)) (dC (.int 1)))) (d2 gSub (dV 2) (dC (.int 1))))) (sNx)) (sSeq (sIf (dT (d2 gEq (d2 gMod (dV 3) (dC (.int 5))) (dC (.int 1)))) (sRet (d2 gSub (d2 gMod (d2 gDiv (dV 3) (dC (.int 5))) (dC (.int 2001))) (dC (.int 1000)))) (sNx)) (sSeq (sIf (dT (d2 gEq (d2 gMod (dV 3) (dC (.int 5))) (dC (.int 2)))) (sRet (d2 gIx (dA gLstD (dCons (dC (.int 0)) (dCons (dC (.int 1)) (dCons (d1 gNeg (dC (.int 1))) (dCons (dC (.int 12)) (dCons (d1 gNeg (dC (.int 60))) (dCons (d2 gDiv (dV 2) (dC (.int 10))) (dNil)))))))) (d2 gMod (d2 gDiv (dV 3) (dC (.int 5))) (dC (.int 6))))) (sNx)) (sRet (d2 gSub (d2 gMod (d2 gDiv (dV 3) (dC (.int 5))) (dC (.int 25))) (dC (.int 12))))))))
noncomputable def m_law_number : List PD → R PD := fnD 5 den_law_number
theorem mm_law_number : m_law_number = fnD 5 den_law_number := rfl
noncomputable def den_law_thing : En → Fl := sSeq (sSet 2 (dA (gCall 2 [] m_law_great) (dCons (dV 0) (dCons (dV 1) (dNil))))) (sSeq (sIf (dT (d2 gEq (d2 gMod (dV 2) (dC (.int 5))) (dC (.int 0)))) (sRet (dA gTupD (dCons (d2 gIx (dA gLstD (dCons (dC (.bool true)) (dCons (dC (.bool false)) (dCons (dC .none) (dCons (dC (.str "4")) (dCons (dC (.str "")) (dCons (dA gLstD (dCons (dC (.int 4)) (dNil))) (dCons (dA gTupD (dCons (dC (.int 1)) (dCons (dC (.int 2)) (dNil)))) (dCons (dC (.dict [])) (dCons (dDisp1 1 (dC (.int 2))) (dNil))))))))))) (d2 gMod (d2 gDiv (dV 2) (dC (.int 5))) (dC (.int 9)))) (dCons (dC (.bool false)) (dNil))))) (sNx)) (sSeq (sIf (dT (d2 gEq (d2 gMod (dV 2) (dC (.int 5))) (dC (.int 1)))) (sRet (dA gTupD (dCons (d2 gIx (dA gLstD (dCons (dC (.int 0)) (dCons (dC (.int 0)) (dCons (dC (.int 1)) (dCons (d1 gNeg (dC (.int 3))) (dCons (dC (.int 49)) (dCons (dC (.int 50)) (dCons (dC (.int 99)) (dCons (dC (.int 100)) (dNil)))))))))) (d2 gMod (d2 gDiv (dV 2) (dC (.int 5))) (dC (.int 8)))) (dCons (dC (.bool true)) (dNil))))) (sNx)) (sRet (dA gTupD (dCons (dA (gCall 3 [] m_law_number) (dCons (dV 0) (dCons (d2 gAdd (dV 1) (dC (.int 40))) (dCons (d2 gPow (dC (.int 10)) (dC (.int 40))) (dNil))))) (dCons (dC (.bool true)) (dNil)))))))
noncomputable def m_law_thing : List PD → R PD := fnD 3 den_law_thing
theorem mm_law_thing : m_law_thing = fnD 3 den_law_thing := rfl
noncomputable def den_law_refused_v2 : En → Fl := sSeq (sSet 1 (dC .none)) (sSeq (sTryK xl_be93e3 "YardError" 2 1 (sIf (dT (d2 gEq (dA gLen (dCons (dV 0) (dNil))) (dC (.int 3)))) (sDrop (dA (gCall 3 [] m_length) (dCons (d2 gIx (dV 0) (dC (.int 0))) (dCons (d2 gIx (dV 0) (dC (.int 1))) (dCons (d2 gIx (dV 0) (dC (.int 2))) (dNil)))))) (sIf (dT (d2 gEq (dA gLen (dCons (dV 0) (dNil))) (dC (.int 2)))) (sDrop (dA (gCall 3 [(.int 1)] m_length) (dCons (d2 gIx (dV 0) (dC (.int 0))) (dCons (d2 gIx (dV 0) (dC (.int 1))) (dNil))))) (sDrop (dA (gCall 3 [(.int 0), (.int 1)] m_length) (dCons (d2 gIx (dV 0) (dC (.int 0))) (dNil))))))) (sRet (dAndV (d1 (gIsN true) (dV 1)) (dAndV (d1 (gIsE xl_be93e3 "NoLength") (dV 1)) (dA (gCall 1 [] m_law_alone) (dCons (dV 1) (dNil)))))))
noncomputable def m_law_refused_v2 : List PD → R PD := fnD 3 den_law_refused_v2
theorem mm_law_refused_v2 : m_law_refused_v2 = fnD 3 den_law_refused_v2 := rfl
noncomputable def den_law_truth : En → Fl := sRet (dAndV (d1 (gIsi "bool") (dV 0)) (d2 gEq (dV 0) (dV 1)))
noncomputable def m_law_truth : List PD → R PD := fnD 2 den_law_truth
theorem mm_law_truth : m_law_truth = fnD 2 den_law_truth := rfl
noncomputable def le1_law_is_root : En → R PD := d2 gMul (dV 1) (dV 1)
noncomputable def den_law_is_root : En → Fl := sSeq (sIf (dOr (dNot (dT (dA (gCall 1 [] m_law_whole) (dCons (dV 0) (dNil))))) (dOr (dT (d2 gLt (dV 0) (dC (.int 2)))) (dT (d2 gGt (dV 0) (dC (.int 99)))))) (sRet (dC (.bool false))) (sNx)) (sRet (d2 (gIn true) (dV 0) (dLc (iA gR1 (dCons (dC (.int 10)) (dNil))) (.one 1) [1] bYes le1_law_is_root)))
noncomputable def m_law_is_root : List PD → R PD := fnD 2 den_law_is_root
theorem mm_law_is_root : m_law_is_root = fnD 2 den_law_is_root := rfl
noncomputable def lb1_law_asked_v5 : En → Fl := sIf (dOr (dNot (dT (dA (gCall 2 [] m_law_truth) (dCons (dA (gCall 1 [] m_is_whole) (dCons (dV 1) (dNil))) (dCons (dV 2) (dNil)))))) (dNot (dT (dA (gCall 2 [] m_law_truth) (dCons (dA (gCall 1 [] m_is_root) (dCons (dV 1) (dNil))) (dCons (dA (gCall 1 [] m_law_is_root) (dCons (dV 1) (dNil))) (dNil))))))) (sRet (dC (.bool false))) (sNx)
noncomputable def le2_law_asked_v5 : En → R PD := dV 1
noncomputable def le3_law_asked_v5 : En → R PD := dV 2
noncomputable def lb4_law_asked_v5 : En → Fl := sSeq (sSet 4 (dLc (iL (dSl (dV 0) (dP0) (dP (dV 3)))) (.many [1, 2]) [1, 2] bYes le2_law_asked_v5)) (sSeq (sSet 5 (d2 (gIn false) (dC (.bool false)) (dLc (iL (dSl (dV 0) (dP0) (dP (dV 3)))) (.many [1, 2]) [1, 2] bYes le3_law_asked_v5))) (sIf (dT (d2 gNe (dA (gCall 1 [] m_law_refused_v2) (dCons (dV 4) (dNil))) (dOrV (dV 5) (dAndV (d2 gEq (dV 3) (dC (.int 3))) (d2 gEq (d2 gIx (dV 4) (dC (.int 2))) (dC (.int 0))))))) (sRet (dC (.bool false))) (sNx)))
noncomputable def den_law_asked_v5 : En → Fl := sSeq (sFor (iL (dV 0)) (.many [1, 2]) lb1_law_asked_v5) (sSeq (sFor (iT (dA gTupD (dCons (dC (.int 1)) (dCons (dC (.int 2)) (dCons (dC (.int 3)) (dNil)))))) (.one 3) lb4_law_asked_v5) (sRet (dC (.bool true))))
noncomputable def m_law_asked_v5 : List PD → R PD := fnD 6 den_law_asked_v5
theorem mm_law_asked_v5 : m_law_asked_v5 = fnD 6 den_law_asked_v5 := rfl
noncomputable def lb1_law_k02 : En → Fl := sIf (dNot (dT (dA (gCall 2 [] m_law_truth) (dCons (dA (gCall 1 [] m_is_root) (dCons (dV 1) (dNil))) (dCons (dA (gCall 1 [] m_law_is_root) (dCons (dV 1) (dNil))) (dNil)))))) (sRet (dC (.bool false))) (sNx)
noncomputable def lb2_law_k02 : En → Fl := sIf (dNot (dT (dA (gCall 1 [] m_law_asked_v5) (dCons (dA gLstD (dCons (dA (gCall 2 [] m_law_thing) (dCons (dV 2) (dCons (dC (.int 0)) (dNil)))) (dCons (dA (gCall 2 [] m_law_thing) (dCons (dV 2) (dCons (dC (.int 9)) (dNil)))) (dCons (dA (gCall 2 [] m_law_thing) (dCons (dV 2) (dCons (dC (.int 18)) (dNil)))) (dNil))))) (dNil))))) (sRet (dC (.bool false))) (sNx)
noncomputable def den_law_k02 : En → Fl := sSeq (sFor (iA gR2 (dCons (d1 gNeg (dC (.int 1))) (dCons (dC (.int 102)) (dNil)))) (.one 1) lb1_law_k02) (sSeq (sFor (iL (d2 gAdd (dA gLstD (dCons (dC (.int 0)) (dCons (dC (.int 1)) (dCons (dC (.int 2)) (dNil))))) (dSl (dV 0) (dP0) (dP (dC (.int 60)))))) (.one 2) lb2_law_k02) (sRet (dA (gCall 1 [] m_law_asked_v5) (dCons (dA gLstD (dCons (dA gTupD (dCons (dC (.int 1)) (dCons (dC (.bool true)) (dNil)))) (dCons (dA gTupD (dCons (dC (.bool true)) (dCons (dC (.bool false)) (dNil)))) (dCons (dA gTupD (dCons (dC (.int 0)) (dCons (dC (.bool true)) (dNil)))) (dNil))))) (dNil)))))
noncomputable def m_law_k02 : List PD → R PD := fnD 3 den_law_k02
theorem mm_law_k02 : m_law_k02 = fnD 3 den_law_k02 := rfl
noncomputable def lt1_law_divisor : En → R Bool := dT (d2 gGt (dV 1) (dC (.int 0)))
noncomputable def lb1_law_divisor : En → Fl := sPar 0 1 (dV 1) (d2 gMod (dV 0) (dV 1))
noncomputable def den_law_divisor : En → Fl := sSeq (sSet 0 (dA gAbs (dCons (dV 0) (dNil)))) (sSeq (sSet 1 (dA gAbs (dCons (dV 1) (dNil)))) (sSeq (sWhile lt1_law_divisor lb1_law_divisor) (sRet (dV 0))))
noncomputable def m_law_divisor : List PD → R PD := fnD 2 den_law_divisor
theorem mm_law_divisor : m_law_divisor = fnD 2 den_law_divisor := rfl
noncomputable def den_law_stands : En → Fl := sSeq (sIf (dOr (dNot (dT (d1 (gIsi "tuple") (dV 0)))) (dT (d2 gNe (dA gLen (dCons (dV 0) (dNil))) (dC (.int 3))))) (sRet (dC (.bool false))) (sNx)) (sSeq (sIf (dOr (dNot (dT (dA (gCall 1 [] m_law_whole) (dCons (d2 gIx (dV 0) (dC (.int 0))) (dNil))))) (dOr (dNot (dT (dA (gCall 1 [] m_law_whole) (dCons (d2 gIx (dV 0) (dC (.int 1))) (dNil))))) (dOr (dNot (dT (dA (gCall 1 [] m_law_whole) (dCons (d2 gIx (dV 0) (dC (.int 2))) (dNil))))) (dT (d2 gLt (d2 gIx (dV 0) (dC (.int 2))) (dC (.int 1))))))) (sRet (dC (.bool false))) (sNx)) (sSeq (sIf (dT (d2 gNe (dA (gCall 2 [] m_law_divisor) (dCons (dA (gCall 2 [] m_law_divisor) (dCons (d2 gIx (dV 0) (dC (.int 0))) (dCons (d2 gIx (dV 0) (dC (.int 1))) (dNil)))) (dCons (d2 gIx (dV 0) (dC (.int 2))) (dNil)))) (dC (.int 1)))) (sRet (dC (.bool false))) (sNx)) (sRet (dAndV (d2 gEq (d2 gMul (d2 gIx (dV 0) (dC (.int 0))) (dV 3)) (d2 gMul (dV 1) (d2 gIx (dV 0) (dC (.int 2))))) (d2 gEq (d2 gMul (d2 gIx (dV 0) (dC (.int 1))) (dV 3)) (d2 gMul (dV 2) (d2 gIx (dV 0) (dC (.int 2)))))))))
noncomputable def m_law_stands : List PD → R PD := fnD 4 den_law_stands
theorem mm_law_stands : m_law_stands = fnD 4 den_law_stands := rfl
noncomputable def den_added : En → Fl := sSeq (sSet 2 (d2 gMul (d2 gIx (dV 0) (dC (.int 2))) (d2 gIx (dV 1) (dC (.int 2))))) (sRet (dA (gCall 3 [] m_lowest) (dCons (d2 gAdd (d2 gMul (d2 gIx (dV 0) (dC (.int 0))) (d2 gIx (dV 1) (dC (.int 2)))) (d2 gMul (d2 gIx (dV 1) (dC (.int 0))) (d2 gIx (dV 0) (dC (.int 2))))) (dCons (d2 gAdd (d2 gMul (d2 gIx (dV 0) (dC (.int 1))) (d2 gIx (dV 1) (dC (.int 2)))) (d2 gMul (d2 gIx (dV 1) (dC (.int 1))) (d2 gIx (dV 0) (dC (.int 2))))) (dCons (dV 2) (dNil))))))
noncomputable def m_added : List PD → R PD := fnD 3 den_added
theorem mm_added : m_added = fnD 3 den_added := rfl
noncomputable def den_taken : En → Fl := sRet (dA (gCall 2 [] m_added) (dCons (dV 0) (dCons (dA gTupD (dCons (d2 gSub (dC (.int 0)) (d2 gIx (dV 1) (dC (.int 0)))) (dCons (d2 gSub (dC (.int 0)) (d2 gIx (dV 1) (dC (.int 1)))) (dCons (d2 gIx (dV 1) (dC (.int 2))) (dNil))))) (dNil))))
noncomputable def m_taken : List PD → R PD := fnD 2 den_taken
theorem mm_taken : m_taken = fnD 2 den_taken := rfl
noncomputable def den_law_lowest : En → Fl := sSeq (sSet 3 (dA (gCall 2 [] m_law_divisor) (dCons (dA (gCall 2 [] m_law_divisor) (dCons (dV 0) (dCons (dV 1) (dNil)))) (dCons (dV 2) (dNil))))) (sSeq (sIf (dT (d2 gLt (dV 2) (dC (.int 0)))) (sSet 3 (d2 gSub (dC (.int 0)) (dV 3))) (sNx)) (sRet (dA gTupD (dCons (d2 gDiv (dV 0) (dV 3)) (dCons (d2 gDiv (dV 1) (dV 3)) (dCons (d2 gDiv (dV 2) (dV 3)) (dNil)))))))
noncomputable def m_law_lowest : List PD → R PD := fnD 4 den_law_lowest
theorem mm_law_lowest : m_law_lowest = fnD 4 den_law_lowest := rfl
noncomputable def den_law_same : En → Fl := sSeq (sIf (dOr (dNot (dT (d1 (gIsi "tuple") (dV 0)))) (dT (d2 gNe (dA gLen (dCons (dV 0) (dNil))) (dC (.int 3))))) (sRet (dC (.bool false))) (sNx)) (sSeq (sIf (dOr (dNot (dT (dA (gCall 1 [] m_law_whole) (dCons (d2 gIx (dV 0) (dC (.int 0))) (dNil))))) (dOr (dNot (dT (dA (gCall 1 [] m_law_whole) (dCons (d2 gIx (dV 0) (dC (.int 1))) (dNil))))) (dNot (dT (dA (gCall 1 [] m_law_whole) (dCons (d2 gIx (dV 0) (dC (.int 2))) (dNil))))))) (sRet (dC (.bool false))) (sNx)) (sRet (d2 gEq (dV 0) (dV 1))))
noncomputable def m_law_same : List PD → R PD := fnD 2 den_law_same
theorem mm_law_same : m_law_same = fnD 2 den_law_same := rfl
noncomputable def den_law_length : En → Fl := sSeq (sSet 3 (dA (gCall 3 [] m_law_number) (dCons (dV 0) (dCons (dV 1) (dCons (dV 2) (dNil)))))) (sSeq (sSet 4 (dA (gCall 3 [] m_law_number) (dCons (dV 0) (dCons (d2 gAdd (dV 1) (dC (.int 10))) (dCons (dV 2) (dNil)))))) (sSeq (sSet 5 (d2 gAdd (dC (.int 1)) (dA gAbs (dCons (dA (gCall 3 [] m_law_number) (dCons (dV 0) (dCons (d2 gAdd (dV 1) (dC (.int 20))) (dCons (d2 gDiv (dV 2) (dC (.int 10))) (dNil))))) (dNil))))) (sRet (dA (gCall 3 [] m_law_lowest) (dCons (dV 3) (dCons (dV 4) (dCons (dV 5) (dNil))))))))
noncomputable def m_law_length : List PD → R PD := fnD 6 den_law_length
theorem mm_law_length : m_law_length = fnD 6 den_law_length := rfl
noncomputable def den_law_sum : En → Fl := sSeq (sSet 3 (d2 gAdd (d2 gMul (d2 gIx (dV 0) (dC (.int 0))) (d2 gIx (dV 1) (dC (.int 2)))) (d2 gMul (d2 gMul (dV 2) (d2 gIx (dV 1) (dC (.int 0)))) (d2 gIx (dV 0) (dC (.int 2)))))) (sSeq (sSet 4 (d2 gAdd (d2 gMul (d2 gIx (dV 0) (dC (.int 1))) (d2 gIx (dV 1) (dC (.int 2)))) (d2 gMul (d2 gMul (dV 2) (d2 gIx (dV 1) (dC (.int 1)))) (d2 gIx (dV 0) (dC (.int 2)))))) (sRet (dA (gCall 3 [] m_law_lowest) (dCons (dV 3) (dCons (dV 4) (dCons (d2 gMul (d2 gIx (dV 0) (dC (.int 2))) (d2 gIx (dV 1) (dC (.int 2)))) (dNil)))))))
noncomputable def m_law_sum : List PD → R PD := fnD 5 den_law_sum
theorem mm_law_sum : m_law_sum = fnD 5 den_law_sum := rfl
noncomputable def lq1_law_root : En → R Bool := dT (d2 (gIn true) (dV 3) (dA gTupD (dCons (dC (.int 4)) (dCons (dC (.int 9)) (dCons (dC (.int 16)) (dCons (dC (.int 25)) (dCons (dC (.int 36)) (dCons (dC (.int 49)) (dCons (dC (.int 64)) (dCons (dC (.int 81)) (dNil)))))))))))
noncomputable def le1_law_root : En → R PD := dV 3
noncomputable def den_law_root : En → Fl := sSeq (sSet 2 (dLc (iA gR2 (dCons (dC (.int 2)) (dCons (dC (.int 100)) (dNil)))) (.one 3) [3] lq1_law_root le1_law_root)) (sRet (d2 gIx (dV 2) (d2 gMod (d2 gDiv (dA (gCall 2 [] m_law_great) (dCons (dV 0) (dCons (dV 1) (dNil)))) (dC (.int 7))) (dA gLen (dCons (dV 2) (dNil))))))
noncomputable def m_law_root : List PD → R PD := fnD 4 den_law_root
theorem mm_law_root : m_law_root = fnD 4 den_law_root := rfl
noncomputable def den_sign_of : En → Fl := sSeq (sIf (dOr (dT (d2 gEq (dV 1) (dC (.int 0)))) (dOr (dT (d2 gEq (dV 2) (dC (.int 0)))) (dT (d2 gEq (d2 gGt (dV 1) (dC (.int 0))) (d2 gGt (dV 2) (dC (.int 0))))))) (sRet (d2 gAdd (dV 1) (dV 2))) (sNx)) (sSeq (sIf (dT (d2 gGt (dV 1) (dC (.int 0)))) (sRet (d2 gSub (d2 gMul (dV 1) (dV 1)) (d2 gMul (d2 gMul (dV 0) (dV 2)) (dV 2)))) (sNx)) (sRet (d2 gSub (d2 gMul (d2 gMul (dV 0) (dV 2)) (dV 2)) (d2 gMul (dV 1) (dV 1)))))
noncomputable def m_sign_of : List PD → R PD := fnD 3 den_sign_of
theorem mm_sign_of : m_sign_of = fnD 3 den_sign_of := rfl
noncomputable def den_under : En → Fl := sSeq (sSet 3 (dA (gCall 2 [] m_taken) (dCons (dV 1) (dCons (dV 2) (dNil))))) (sRet (d2 gLt (dA (gCall 3 [] m_sign_of) (dCons (dV 0) (dCons (d2 gIx (dV 3) (dC (.int 0))) (dCons (d2 gIx (dV 3) (dC (.int 1))) (dNil))))) (dC (.int 0))))
noncomputable def m_under : List PD → R PD := fnD 4 den_under
theorem mm_under : m_under = fnD 4 den_under := rfl
noncomputable def den_floor_of : En → Fl := sSeq (sSet 2 (dA (gCall 1 [] m_root_floor) (dCons (d2 gMul (d2 gMul (dV 0) (d2 gIx (dV 1) (dC (.int 1)))) (d2 gIx (dV 1) (dC (.int 1)))) (dNil)))) (sSeq (sIf (dT (d2 gLt (d2 gIx (dV 1) (dC (.int 1))) (dC (.int 0)))) (sSet 2 (d2 gSub (d2 gSub (dC (.int 0)) (dV 2)) (dC (.int 1)))) (sNx)) (sRet (d2 gDiv (d2 gAdd (d2 gIx (dV 1) (dC (.int 0))) (dV 2)) (d2 gIx (dV 1) (dC (.int 2))))))
noncomputable def m_floor_of : List PD → R PD := fnD 3 den_floor_of
theorem mm_floor_of : m_floor_of = fnD 3 den_floor_of := rfl
noncomputable def den_law_sign : En → Fl := sSeq (sIf (dAnd (dT (d2 gGe (dV 1) (dC (.int 0)))) (dT (d2 gGe (dV 2) (dC (.int 0))))) (sRet (dA gInt (dCons (d2 gGt (d2 gAdd (dV 1) (dV 2)) (dC (.int 0))) (dNil)))) (sNx)) (sSeq (sIf (dAnd (dT (d2 gLe (dV 1) (dC (.int 0)))) (dT (d2 gLe (dV 2) (dC (.int 0))))) (sRet (d1 gNeg (dC (.int 1)))) (sNx)) (sSeq (sIf (dT (d2 gGt (dV 1) (dC (.int 0)))) (sRet (d2 gIx (dA gLstD (dCons (d1 gNeg (dC (.int 1))) (dCons (dC (.int 1)) (dNil)))) (dA gInt (dCons (d2 gGt (d2 gMul (dV 1) (dV 1)) (d2 gMul (d2 gMul (dV 0) (dV 2)) (dV 2))) (dNil))))) (sNx)) (sRet (d2 gIx (dA gLstD (dCons (d1 gNeg (dC (.int 1))) (dCons (dC (.int 1)) (dNil)))) (dA gInt (dCons (d2 gGt (d2 gMul (d2 gMul (dV 0) (dV 2)) (dV 2)) (d2 gMul (dV 1) (dV 1))) (dNil)))))))
noncomputable def m_law_sign : List PD → R PD := fnD 3 den_law_sign
theorem mm_law_sign : m_law_sign = fnD 3 den_law_sign := rfl
noncomputable def den_law_below : En → Fl := sSeq (sSet 3 (d2 gSub (d2 gMul (d2 gIx (dV 1) (dC (.int 0))) (d2 gIx (dV 2) (dC (.int 2)))) (d2 gMul (d2 gIx (dV 2) (dC (.int 0))) (d2 gIx (dV 1) (dC (.int 2)))))) (sSeq (sSet 4 (d2 gSub (d2 gMul (d2 gIx (dV 1) (dC (.int 1))) (d2 gIx (dV 2) (dC (.int 2)))) (d2 gMul (d2 gIx (dV 2) (dC (.int 1))) (d2 gIx (dV 1) (dC (.int 2)))))) (sRet (d2 gLt (dA (gCall 3 [] m_law_sign) (dCons (dV 0) (dCons (dV 3) (dCons (dV 4) (dNil))))) (dC (.int 0)))))
noncomputable def m_law_below : List PD → R PD := fnD 5 den_law_below
theorem mm_law_below : m_law_below = fnD 5 den_law_below := rfl
noncomputable def den_fraction : En → Fl := sSeq (sSet 2 (dA (gCall 2 [] m_divisor) (dCons (dV 0) (dCons (dV 1) (dNil))))) (sSeq (sIf (dT (d2 gLt (dV 1) (dC (.int 0)))) (sSet 2 (d2 gSub (dC (.int 0)) (dV 2))) (sNx)) (sRet (dA gTupD (dCons (d2 gDiv (dV 0) (dV 2)) (dCons (d2 gDiv (dV 1) (dV 2)) (dNil))))))
noncomputable def m_fraction : List PD → R PD := fnD 3 den_fraction
theorem mm_fraction : m_fraction = fnD 3 den_fraction := rfl
noncomputable def den_parts : En → Fl := sRet (dA gTupD (dCons (dA (gCall 2 [] m_fraction) (dCons (d2 gIx (dV 0) (dC (.int 0))) (dCons (d2 gIx (dV 0) (dC (.int 2))) (dNil)))) (dCons (dA (gCall 2 [] m_fraction) (dCons (d2 gIx (dV 0) (dC (.int 1))) (dCons (d2 gIx (dV 0) (dC (.int 2))) (dNil)))) (dNil))))
noncomputable def m_parts : List PD → R PD := fnD 1 den_parts
theorem mm_parts : m_parts = fnD 1 den_parts := rfl
noncomputable def den_by_parts : En → Fl := sRet (dA (gCall 3 [] m_lowest) (dCons (d2 gMul (d2 gIx (dV 0) (dC (.int 0))) (d2 gIx (dV 1) (dC (.int 1)))) (dCons (d2 gMul (d2 gIx (dV 1) (dC (.int 0))) (d2 gIx (dV 0) (dC (.int 1)))) (dCons (d2 gMul (d2 gIx (dV 0) (dC (.int 1))) (d2 gIx (dV 1) (dC (.int 1)))) (dNil)))))
noncomputable def m_by_parts : List PD → R PD := fnD 2 den_by_parts
theorem mm_by_parts : m_by_parts = fnD 2 den_by_parts := rfl
noncomputable def den_law_is_fraction : En → Fl := sSeq (sIf (dOr (dNot (dT (d1 (gIsi "tuple") (dV 0)))) (dOr (dT (d2 gNe (dA gLen (dCons (dV 0) (dNil))) (dC (.int 2)))) (dOr (dNot (dT (dA (gCall 1 [] m_law_whole) (dCons (d2 gIx (dV 0) (dC (.int 0))) (dNil))))) (dNot (dT (dA (gCall 1 [] m_law_whole) (dCons (d2 gIx (dV 0) (dC (.int 1))) (dNil)))))))) (sRet (dC (.bool false))) (sNx)) (sSeq (sIf (dOr (dT (d2 gLt (d2 gIx (dV 0) (dC (.int 1))) (dC (.int 1)))) (dT (d2 gNe (dA (gCall 2 [] m_law_divisor) (dCons (d2 gIx (dV 0) (dC (.int 0))) (dCons (d2 gIx (dV 0) (dC (.int 1))) (dNil)))) (dC (.int 1))))) (sRet (dC (.bool false))) (sNx)) (sRet (d2 gEq (d2 gMul (d2 gIx (dV 0) (dC (.int 0))) (dV 2)) (d2 gMul (dV 1) (d2 gIx (dV 0) (dC (.int 1)))))))
noncomputable def m_law_is_fraction : List PD → R PD := fnD 3 den_law_is_fraction
theorem mm_law_is_fraction : m_law_is_fraction = fnD 3 den_law_is_fraction := rfl
noncomputable def den_plus : En → Fl := sRet (dA (gCall 2 [] m_fraction) (dCons (d2 gAdd (d2 gMul (d2 gIx (dV 0) (dC (.int 0))) (d2 gIx (dV 1) (dC (.int 1)))) (d2 gMul (d2 gIx (dV 1) (dC (.int 0))) (d2 gIx (dV 0) (dC (.int 1))))) (dCons (d2 gMul (d2 gIx (dV 0) (dC (.int 1))) (d2 gIx (dV 1) (dC (.int 1)))) (dNil))))
noncomputable def m_plus : List PD → R PD := fnD 2 den_plus
theorem mm_plus : m_plus = fnD 2 den_plus := rfl
noncomputable def den_minus : En → Fl := sRet (dA (gCall 2 [] m_fraction) (dCons (d2 gSub (d2 gMul (d2 gIx (dV 0) (dC (.int 0))) (d2 gIx (dV 1) (dC (.int 1)))) (d2 gMul (d2 gIx (dV 1) (dC (.int 0))) (d2 gIx (dV 0) (dC (.int 1))))) (dCons (d2 gMul (d2 gIx (dV 0) (dC (.int 1))) (d2 gIx (dV 1) (dC (.int 1)))) (dNil))))
noncomputable def m_minus : List PD → R PD := fnD 2 den_minus
theorem mm_minus : m_minus = fnD 2 den_minus := rfl
noncomputable def den_times : En → Fl := sRet (dA (gCall 2 [] m_fraction) (dCons (d2 gMul (d2 gIx (dV 0) (dC (.int 0))) (d2 gIx (dV 1) (dC (.int 0)))) (dCons (d2 gMul (d2 gIx (dV 0) (dC (.int 1))) (d2 gIx (dV 1) (dC (.int 1)))) (dNil))))
noncomputable def m_times : List PD → R PD := fnD 2 den_times
theorem mm_times : m_times = fnD 2 den_times := rfl
noncomputable def le1_together : En → R PD := dA (gCall 2 [] m_plus) (dCons (dV 2) (dCons (dV 3) (dNil)))
noncomputable def le2_together : En → R PD := dA gTupOf (dCons (dLc (iA gZip (dCons (dV 4) (dCons (dV 5) (dNil)))) (.many [2, 3]) [2, 3] bYes le1_together) (dNil))
noncomputable def den_together : En → Fl := sRet (dA gTupOf (dCons (dLc (iA gZip (dCons (dV 0) (dCons (dV 1) (dNil)))) (.many [4, 5]) [4, 5] bYes le2_together) (dNil)))
noncomputable def m_together : List PD → R PD := fnD 6 den_together
theorem mm_together : m_together = fnD 6 den_together := rfl
noncomputable def le1_less : En → R PD := dA (gCall 2 [] m_minus) (dCons (dV 2) (dCons (dV 3) (dNil)))
noncomputable def le2_less : En → R PD := dA gTupOf (dCons (dLc (iA gZip (dCons (dV 4) (dCons (dV 5) (dNil)))) (.many [2, 3]) [2, 3] bYes le1_less) (dNil))
noncomputable def den_less : En → Fl := sRet (dA gTupOf (dCons (dLc (iA gZip (dCons (dV 0) (dCons (dV 1) (dNil)))) (.many [4, 5]) [4, 5] bYes le2_less) (dNil)))
noncomputable def m_less : List PD → R PD := fnD 6 den_less
theorem mm_less : m_less = fnD 6 den_less := rfl
noncomputable def den_over : En → Fl := sRet (dA gTupD (dCons (dA gTupD (dCons (d2 gIx (d2 gIx (dV 0) (dC (.int 0))) (dC (.int 0))) (dCons (d2 gIx (d2 gIx (dV 0) (dC (.int 1))) (dC (.int 0))) (dNil)))) (dCons (dA gTupD (dCons (d2 gIx (d2 gIx (dV 0) (dC (.int 0))) (dC (.int 1))) (dCons (d2 gIx (d2 gIx (dV 0) (dC (.int 1))) (dC (.int 1))) (dNil)))) (dNil))))
noncomputable def m_over : List PD → R PD := fnD 1 den_over
theorem mm_over : m_over = fnD 1 den_over := rfl
noncomputable def le1_table_of : En → R PD := dA (gCall 2 [] m_times) (dCons (dV 3) (dCons (dV 2) (dNil)))
noncomputable def le2_table_of : En → R PD := dA gTupOf (dCons (dLc (iT (dA (gCall 1 [] m_parts) (dCons (dV 1) (dNil)))) (.one 2) [2] bYes le1_table_of) (dNil))
noncomputable def den_table_of : En → Fl := sRet (dA gTupOf (dCons (dLc (iT (dA (gCall 1 [] m_parts) (dCons (dV 0) (dNil)))) (.one 3) [3] bYes le2_table_of) (dNil)))
noncomputable def m_table_of : List PD → R PD := fnD 4 den_table_of
theorem mm_table_of : m_table_of = fnD 4 den_table_of := rfl
def c_NOUGHT : PD := (.tuple [(.int 0), (.int 1)])
noncomputable def lb1_table : En → Fl := sSet 1 (dA (gCall 2 [] m_together) (dCons (dV 1) (dCons (dA (gCall 2 [] m_table_of) (dCons (dV 2) (dCons (dV 3) (dNil)))) (dNil))))
noncomputable def den_table : En → Fl := sSeq (sSet 1 (dA gTupD (dCons (dA gTupD (dCons (dC c_NOUGHT) (dCons (dC c_NOUGHT) (dNil)))) (dCons (dA gTupD (dCons (dC c_NOUGHT) (dCons (dC c_NOUGHT) (dNil)))) (dNil))))) (sSeq (sFor (iL (dV 0)) (.many [2, 3]) lb1_table) (sRet (dV 1)))
noncomputable def m_table : List PD → R PD := fnD 4 den_table
theorem mm_table : m_table = fnD 4 den_table := rfl
noncomputable def den_law_mix_v2 : En → Fl := sSeq (sIf (dAnd (dT (d2 gEq (d2 gMod (dV 0) (dC (.int 2))) (dC (.int 0)))) (dT (d2 gGt (d2 gShr (dV 0) (d2 gAdd (d2 gMul (dC (.int 20)) (dV 1)) (dC (.int 1)))) (dC (.int 0))))) (sRet (d2 gMod (d2 gShr (dV 0) (d2 gAdd (d2 gMul (dC (.int 20)) (dV 1)) (dC (.int 1)))) (dC (.int 1048576)))) (sNx)) (sSeq (sSet 2 (d2 gMod (d2 gMul (d2 gAdd (d2 gAdd (d2 gAdd (d2 gMod (dV 0) (dC (.int 2147483647))) (d2 gMul (d2 gMul (dC (.int 48271)) (dV 1)) (dV 1))) (dV 1)) (dC (.int 1))) (dC (.int 69621))) (dC (.int 2147483629)))) (sSeq (sSet 2 (d2 gMod (d2 gAdd (d2 gAdd (d2 gMul (dV 2) (dV 2)) (d2 gMul (dC (.int 7919)) (dV 1))) (dC (.int 5))) (dC (.int 2147483587)))) (sRet (d2 gMod (d2 gMul (dV 2) (dV 2)) (dC (.int 2147483629))))))
noncomputable def m_law_mix_v2 : List PD → R PD := fnD 3 den_law_mix_v2
theorem mm_law_mix_v2 : m_law_mix_v2 = fnD 3 den_law_mix_v2 := rfl
noncomputable def lt1_law_fraction : En → R Bool := dT (d2 gNe (dV 3) (dC (.int 0)))
noncomputable def lb1_law_fraction : En → Fl := sPar 2 3 (dV 3) (d2 gMod (dV 2) (dV 3))
noncomputable def den_law_fraction : En → Fl := sSeq (sPar 2 3 (dA gAbs (dCons (dV 1) (dNil))) (dA gAbs (dCons (dV 0) (dNil)))) (sSeq (sWhile lt1_law_fraction lb1_law_fraction) (sSeq (sIf (dT (d2 gLt (dV 1) (dC (.int 0)))) (sSet 2 (d2 gSub (dC (.int 0)) (dV 2))) (sNx)) (sRet (dA gTupD (dCons (d2 gDiv (dV 0) (dV 2)) (dCons (d2 gDiv (dV 1) (dV 2)) (dNil)))))))
noncomputable def m_law_fraction : List PD → R PD := fnD 4 den_law_fraction
theorem mm_law_fraction : m_law_fraction = fnD 4 den_law_fraction := rfl
noncomputable def lb1_law_is : En → Fl := sIf (dNot (dT (dA (gCall 1 [] m_law_whole) (dCons (d2 gIx (dV 0) (dV 2)) (dNil))))) (sRet (dC (.bool false))) (sNx)
noncomputable def den_law_is : En → Fl := sSeq (sIf (dOr (dNot (dT (d1 (gIsi "tuple") (dV 0)))) (dT (d2 gNe (dA gLen (dCons (dV 0) (dNil))) (dA gLen (dCons (dV 1) (dNil)))))) (sRet (dC (.bool false))) (sNx)) (sSeq (sFor (iA gR1 (dCons (dA gLen (dCons (dV 1) (dNil))) (dNil))) (.one 2) lb1_law_is) (sRet (d2 gEq (dV 0) (dV 1))))
noncomputable def m_law_is : List PD → R PD := fnD 3 den_law_is
theorem mm_law_is : m_law_is = fnD 3 den_law_is := rfl
noncomputable def den_law_add : En → Fl := sRet (dA (gCall 2 [] m_law_fraction) (dCons (d2 gAdd (d2 gMul (d2 gIx (dV 0) (dC (.int 0))) (d2 gIx (dV 1) (dC (.int 1)))) (d2 gMul (d2 gIx (dV 1) (dC (.int 0))) (d2 gIx (dV 0) (dC (.int 1))))) (dCons (d2 gMul (d2 gIx (dV 0) (dC (.int 1))) (d2 gIx (dV 1) (dC (.int 1)))) (dNil))))
noncomputable def m_law_add : List PD → R PD := fnD 2 den_law_add
theorem mm_law_add : m_law_add = fnD 2 den_law_add := rfl
noncomputable def den_by : En → Fl := sRet (dA (gCall 2 [] m_fraction) (dCons (d2 gMul (d2 gIx (dV 0) (dC (.int 0))) (d2 gIx (dV 1) (dC (.int 1)))) (dCons (d2 gMul (d2 gIx (dV 0) (dC (.int 1))) (d2 gIx (dV 1) (dC (.int 0)))) (dNil))))
noncomputable def m_by : List PD → R PD := fnD 2 den_by
theorem mm_by : m_by = fnD 2 den_by := rfl
noncomputable def den_is_less : En → Fl := sRet (d2 gLt (d2 gMul (d2 gIx (dV 0) (dC (.int 0))) (d2 gIx (dV 1) (dC (.int 1)))) (d2 gMul (d2 gIx (dV 1) (dC (.int 0))) (d2 gIx (dV 0) (dC (.int 1)))))
noncomputable def m_is_less : List PD → R PD := fnD 2 den_is_less
theorem mm_is_less : m_is_less = fnD 2 den_is_less := rfl
end DL

set_option autoImplicit false
set_option linter.all false
/-! plain arithmetic: fractions and lengths in lowest terms -/
namespace MB
theorem ratne {b : Int} (h : b ≠ 0) : (b : Rat) ≠ 0 := by
  intro e
  exact h (by exact_mod_cast e)
theorem rnum (q : Rat) : (q.num : Rat) = q * ((q.den : Int) : Rat) := by
  have h : ((q.den : Int) : Rat) ≠ 0 := ratne (by have := q.den_nz; omega)
  have h1 := Rat.num_divInt_den q
  rw [Rat.divInt_eq_div] at h1
  grind
theorem rdpos (q : Rat) : 0 < (q.den : Int) := by exact_mod_cast q.den_pos
theorem rgcd (q : Rat) : Int.gcd q.num q.den = 1 := by
  have := q.reduced
  simpa [Int.gcd, Nat.Coprime] using this
theorem dvd_of_gcd {a b c : Int} (h : a ∣ b * c) (g : Int.gcd a c = 1) : a ∣ b := by
  have : a ∣ (Int.gcd a c : Int) * b := Int.dvd_gcd_mul_iff_dvd_mul.mpr (by rw [Int.mul_comm]; exact h)
  rw [g] at this
  simpa using this
/-- two fractions in lowest terms, of one worth, are one -/
theorem fr_uniq {a b : Int} {q : Rat} (hb : 0 < b) (hg : Int.gcd a b = 1) (h : q = (a : Rat) / (b : Rat)) : q.num = a ∧ (q.den : Int) = b := by
  have hb0 : (b : Rat) ≠ 0 := ratne (by omega)
  have h1 : q * (b : Rat) = a := by grind
  have h2 := rnum q
  have e : q.num * b = a * q.den := by
    have : ((q.num * b : Int) : Rat) = ((a * (q.den : Int) : Int) : Rat) := by
      rw [Rat.intCast_mul, Rat.intCast_mul, h2]
      grind
    exact_mod_cast this
  have hq := rdpos q
  have hq1 := rgcd q
  have d1 : (q.den : Int) ∣ b := by
    have : (q.den : Int) ∣ b * q.num := ⟨a, by rw [Int.mul_comm, e, Int.mul_comm]⟩
    exact dvd_of_gcd this (by rw [Int.gcd_comm]; exact hq1)
  have d2 : b ∣ (q.den : Int) := by
    have : b ∣ q.den * a := ⟨q.num, by rw [Int.mul_comm, ← e, Int.mul_comm]⟩
    exact dvd_of_gcd this (by rw [Int.gcd_comm]; exact hg)
  have eb : (q.den : Int) = b := Int.dvd_antisymm (by omega) (by omega) d1 d2
  refine ⟨?_, eb⟩
  rw [eb] at e
  exact Int.eq_of_mul_eq_mul_right (by omega) e
/-- divided by a divisor -/
theorem fdiv_dvd {a g : Int} (hg : g ≠ 0) (h : g ∣ a) : a.fdiv g * g = a := by
  rw [Int.fdiv_eq_ediv_of_dvd h]
  exact Int.ediv_mul_cancel h
/-- the sign's share -/
def shr (g : Nat) (n : Int) : Int := if n < 0 then 0 - (g : Int) else g
theorem shr_ne {g : Nat} {n : Int} (h : g ≠ 0) : shr g n ≠ 0 := by unfold shr; split <;> omega
theorem shr_dvd {g : Nat} {n a : Int} (h : (g : Int) ∣ a) : shr g n ∣ a := by
  unfold shr
  split
  · rw [Int.zero_sub]; exact Int.neg_dvd.mpr h
  · exact h
theorem gcd_fdiv {a b : Int} {g : Nat} {n : Int} (hg : g ≠ 0) (ha : (g : Int) ∣ a) (hb : (g : Int) ∣ b) : Int.gcd (a.fdiv (shr g n)) (b.fdiv (shr g n)) * g = Int.gcd a b := by
  have e1 := fdiv_dvd (shr_ne (n := n) hg) (shr_dvd (n := n) ha)
  have e2 := fdiv_dvd (shr_ne (n := n) hg) (shr_dvd (n := n) hb)
  have : Int.gcd (a.fdiv (shr g n) * shr g n) (b.fdiv (shr g n) * shr g n) = Int.gcd a b := by rw [e1, e2]
  rw [Int.gcd_mul_right] at this
  have hs : (shr g n).natAbs = g := by unfold shr; split <;> omega
  rw [hs] at this
  exact this
theorem fdiv_pos {n : Int} {g : Nat} (hg : g ≠ 0) (hn : n ≠ 0) (h : (g : Int) ∣ n) : 0 < n.fdiv (shr g n) := by
  have e := fdiv_dvd (shr_ne (n := n) hg) (shr_dvd (n := n) h)
  generalize n.fdiv (shr g n) = k at e
  unfold shr at e
  have hg' : (0 : Int) < g := by omega
  rcases Int.lt_trichotomy k 0 with hk | hk | hk
  · exfalso
    split at e
    · have : 0 < k * (0 - (g : Int)) := Int.mul_pos_of_neg_of_neg hk (by omega)
      omega
    · have := Int.mul_neg_of_neg_of_pos hk hg'
      omega
  · subst hk
    exfalso
    rw [Int.zero_mul] at e
    omega
  · exact hk
/-- a fraction brought to lowest terms -/
theorem fr_of {a b : Int} (hb : b ≠ 0) : a.fdiv (shr (Int.gcd a b) b) = ((a : Rat) / (b : Rat)).num ∧ b.fdiv (shr (Int.gcd a b) b) = (((a : Rat) / (b : Rat)).den : Int) := by
  have hg : Int.gcd a b ≠ 0 := by
    intro e
    exact hb (Int.gcd_eq_zero_iff.mp e).2
  have ha' := Int.gcd_dvd_left a b
  have hb' := Int.gcd_dvd_right a b
  have e1 := fdiv_dvd (shr_ne (n := b) hg) (shr_dvd (n := b) ha')
  have e2 := fdiv_dvd (shr_ne (n := b) hg) (shr_dvd (n := b) hb')
  have hp := fdiv_pos hg hb hb'
  have hs := shr_ne (n := b) hg
  have hgg := gcd_fdiv (n := b) hg ha' hb'
  generalize shr (Int.gcd a b) b = s at *
  generalize a.fdiv s = A at *
  generalize b.fdiv s = B at *
  have hone : Int.gcd A B = 1 := by
    have : Int.gcd A B * Int.gcd a b = 1 * Int.gcd a b := by rw [hgg, Nat.one_mul]
    exact Nat.eq_of_mul_eq_mul_right (by omega) this
  have hB : (B : Rat) ≠ 0 := ratne (by omega)
  have hS : (s : Rat) ≠ 0 := ratne hs
  have h := fr_uniq (q := (a : Rat) / (b : Rat)) hp hone (by
    rw [← e1, ← e2, Rat.intCast_mul, Rat.intCast_mul]
    grind)
  exact ⟨h.1.symm, h.2.symm⟩

/-! ### lengths -/
structure Ln where
  a : Int
  b : Int
  n : Int
/-- in lowest terms -/
def Low (a b n : Int) : Prop := 0 < n ∧ Int.gcd (Int.gcd a b) n = 1
theorem gcd3_mul {a b n : Int} {k : Int} : Int.gcd (Int.gcd (a * k) (b * k)) (n * k) = Int.gcd (Int.gcd a b) n * k.natAbs := by
  rw [Int.gcd_mul_right]
  have : ((Int.gcd a b * k.natAbs : Nat) : Int) = (Int.gcd a b : Int) * (k.natAbs : Int) := by push_cast; rfl
  rw [this]
  have e : Int.gcd ((Int.gcd a b : Int) * (k.natAbs : Int)) (n * k) = Int.gcd ((Int.gcd a b : Int) * k) (n * k) := by
    simp only [Int.gcd, Int.natAbs_mul, Int.natAbs_natCast]
  rw [e, Int.gcd_mul_right]
theorem low_uniq {a b n a' b' n' : Int} (h : Low a b n) (h' : Low a' b' n') (e1 : a * n' = a' * n) (e2 : b * n' = b' * n) : a = a' ∧ b = b' ∧ n = n' := by
  have g1 := gcd3_mul (a := a) (b := b) (n := n) (k := n')
  have g2 := gcd3_mul (a := a') (b := b') (n := n') (k := n)
  rw [h.2] at g1
  rw [h'.2] at g2
  rw [e1, e2, Int.mul_comm n n'] at g1
  have : n'.natAbs = n.natAbs := by omega
  have hn := h.1
  have hn' := h'.1
  have en : n = n' := by omega
  subst en
  exact ⟨Int.eq_of_mul_eq_mul_right (by omega) e1, Int.eq_of_mul_eq_mul_right (by omega) e2, rfl⟩
/-- the number that all three are divided by -/
def g3 (a b n : Int) : Nat := Int.gcd (Int.gcd a b) n
def lA (a b n : Int) : Int := a.fdiv (shr (g3 a b n) n)
def lB (a b n : Int) : Int := b.fdiv (shr (g3 a b n) n)
def lN (a b n : Int) : Int := n.fdiv (shr (g3 a b n) n)
theorem g3_ne {a b n : Int} (hn : n ≠ 0) : g3 a b n ≠ 0 := by
  intro e
  exact hn (Int.gcd_eq_zero_iff.mp e).2
theorem g3_dvd {a b n : Int} : (g3 a b n : Int) ∣ a ∧ (g3 a b n : Int) ∣ b ∧ (g3 a b n : Int) ∣ n := by
  have h1 : (g3 a b n : Int) ∣ (Int.gcd a b : Int) := Int.gcd_dvd_left _ _
  exact ⟨Int.dvd_trans h1 (Int.gcd_dvd_left _ _), Int.dvd_trans h1 (Int.gcd_dvd_right _ _), Int.gcd_dvd_right _ _⟩
theorem lmul {a b n : Int} (hn : n ≠ 0) : lA a b n * shr (g3 a b n) n = a ∧ lB a b n * shr (g3 a b n) n = b ∧ lN a b n * shr (g3 a b n) n = n := by
  obtain ⟨h1, h2, h3⟩ := g3_dvd (a := a) (b := b) (n := n)
  have hs := shr_ne (n := n) (g3_ne (a := a) (b := b) hn)
  exact ⟨fdiv_dvd hs (shr_dvd h1), fdiv_dvd hs (shr_dvd h2), fdiv_dvd hs (shr_dvd h3)⟩
theorem low_of {a b n : Int} (hn : n ≠ 0) : Low (lA a b n) (lB a b n) (lN a b n) := by
  have hg := g3_ne (a := a) (b := b) hn
  refine ⟨fdiv_pos hg hn g3_dvd.2.2, ?_⟩
  obtain ⟨e1, e2, e3⟩ := lmul (a := a) (b := b) hn
  have h := gcd3_mul (a := lA a b n) (b := lB a b n) (n := lN a b n) (k := shr (g3 a b n) n)
  rw [e1, e2, e3] at h
  have hs : (shr (g3 a b n) n).natAbs = g3 a b n := by unfold shr; split <;> omega
  rw [hs] at h
  have h' : 1 * g3 a b n = Int.gcd (Int.gcd (lA a b n) (lB a b n)) (lN a b n) * g3 a b n := by rw [Nat.one_mul]; exact h
  exact (Nat.eq_of_mul_eq_mul_right (by omega) h').symm
theorem lcross {a b n : Int} (hn : n ≠ 0) : lA a b n * n = a * lN a b n ∧ lB a b n * n = b * lN a b n := by
  obtain ⟨e1, e2, e3⟩ := lmul (a := a) (b := b) hn
  generalize lA a b n = A at *
  generalize lB a b n = B at *
  generalize lN a b n = N at *
  generalize shr (g3 a b n) n = s at *
  subst e1 e2 e3
  constructor <;> grind
/-- lowest depends on the two fractions alone -/
theorem low_eq {a b n a' b' n' : Int} (hn : n ≠ 0) (hn' : n' ≠ 0) (e1 : a * n' = a' * n) (e2 : b * n' = b' * n) : lA a b n = lA a' b' n' ∧ lB a b n = lB a' b' n' ∧ lN a b n = lN a' b' n' := by
  obtain ⟨c1, c2⟩ := lcross (a := a) (b := b) hn
  obtain ⟨c1', c2'⟩ := lcross (a := a') (b := b') hn'
  refine low_uniq (low_of hn) (low_of hn') ?_ ?_
  · have : lA a b n * lN a' b' n' * (n * n') = lA a' b' n' * lN a b n * (n * n') := by grind
    exact Int.eq_of_mul_eq_mul_right (Int.mul_ne_zero hn hn') this
  · have : lB a b n * lN a' b' n' * (n * n') = lB a' b' n' * lN a b n * (n * n') := by grind
    exact Int.eq_of_mul_eq_mul_right (Int.mul_ne_zero hn hn') this
theorem low_self {a b n : Int} (h : Low a b n) : lA a b n = a ∧ lB a b n = b ∧ lN a b n = n := by
  have hn : n ≠ 0 := by have := h.1; omega
  have c := lcross (a := a) (b := b) hn
  exact low_uniq (low_of hn) h c.1 c.2
/-! fractions, as lengths whose second part is 0 -/
def fT (a b : Int) : Int := lA a 0 b
def fB (a b : Int) : Int := lN a 0 b
def LowF (a b : Int) : Prop := 0 < b ∧ Int.gcd a b = 1
theorem g3_zero {a b : Int} : g3 a 0 b = Int.gcd a b := by unfold g3; rw [Int.gcd_zero]; simp [Int.gcd]
theorem fT_eq {a b : Int} : fT a b = a.fdiv (shr (Int.gcd a b) b) := by unfold fT lA; rw [g3_zero]
theorem fB_eq {a b : Int} : fB a b = b.fdiv (shr (Int.gcd a b) b) := by unfold fB lN; rw [g3_zero]
theorem lowF_low {a b : Int} : LowF a b ↔ Low a 0 b := by
  unfold LowF Low
  have : Int.gcd (Int.gcd a 0) b = Int.gcd a b := g3_zero
  rw [this]
theorem lowF_of {a b : Int} (hb : b ≠ 0) : LowF (fT a b) (fB a b) := by
  rw [lowF_low]
  have h := low_of (a := a) (b := 0) hb
  have e : lB a 0 b = 0 := by unfold lB; exact Int.zero_fdiv _
  rw [e] at h
  exact h
theorem fcross {a b : Int} (hb : b ≠ 0) : fT a b * b = a * fB a b := (lcross (a := a) (b := 0) hb).1
theorem lowF_uniq {a b a' b' : Int} (h : LowF a b) (h' : LowF a' b') (e : a * b' = a' * b) : a = a' ∧ b = b' := by
  have := low_uniq (lowF_low.mp h) (lowF_low.mp h') e (by simp)
  exact ⟨this.1, this.2.2⟩
theorem lowF_eq {a b a' b' : Int} (hb : b ≠ 0) (hb' : b' ≠ 0) (e : a * b' = a' * b) : fT a b = fT a' b' ∧ fB a b = fB a' b' := by
  have := low_eq (b := 0) (b' := 0) hb hb' e (by simp)
  exact ⟨this.1, this.2.2⟩
theorem lowF_self {a b : Int} (h : LowF a b) : fT a b = a ∧ fB a b = b := by
  have := low_self (lowF_low.mp h)
  exact ⟨this.1, this.2.2⟩
theorem lowF_is {a b a' b' : Int} (hb : b ≠ 0) (h : LowF a' b') (e : a * b' = a' * b) : fT a b = a' ∧ fB a b = b' := by
  have hb' : b' ≠ 0 := by have := h.1; omega
  have h1 := lowF_eq hb hb' e
  have h2 := lowF_self h
  exact ⟨h1.1.trans h2.1, h1.2.trans h2.2⟩
theorem fB_pos {a b : Int} (hb : b ≠ 0) : 0 < fB a b := (lowF_of hb).1
/-- a length put together of its parts is itself -/
theorem by_parts_self {a b n : Int} (h : Low a b n) : lA (fT a n * fB b n) (fT b n * fB a n) (fB a n * fB b n) = a ∧ lB (fT a n * fB b n) (fT b n * fB a n) (fB a n * fB b n) = b ∧ lN (fT a n * fB b n) (fT b n * fB a n) (fB a n * fB b n) = n := by
  have hn : n ≠ 0 := by have := h.1; omega
  have p1 := fB_pos (a := a) hn
  have p2 := fB_pos (a := b) hn
  have c1 := fcross (a := a) hn
  have c2 := fcross (a := b) hn
  have e := low_eq (a := fT a n * fB b n) (b := fT b n * fB a n) (n := fB a n * fB b n) (a' := a) (b' := b) (n' := n) (Int.mul_ne_zero (by omega) (by omega)) hn (by grind) (by grind)
  have s := low_self h
  exact ⟨e.1.trans s.1, e.2.1.trans s.2.1, e.2.2.trans s.2.2⟩
/-- the parts of a length put together of two fractions -/
theorem parts_by {p q r s : Int} (hf : LowF p q) (hg : LowF r s) : fT (lA (p * s) (r * q) (q * s)) (lN (p * s) (r * q) (q * s)) = p ∧ fB (lA (p * s) (r * q) (q * s)) (lN (p * s) (r * q) (q * s)) = q ∧
    fT (lB (p * s) (r * q) (q * s)) (lN (p * s) (r * q) (q * s)) = r ∧ fB (lB (p * s) (r * q) (q * s)) (lN (p * s) (r * q) (q * s)) = s := by
  have hq := hf.1
  have hs := hg.1
  have hn : q * s ≠ 0 := Int.mul_ne_zero (by omega) (by omega)
  have c := lcross (a := p * s) (b := r * q) hn
  have hN : lN (p * s) (r * q) (q * s) ≠ 0 := by have := (low_of (a := p * s) (b := r * q) hn).1; omega
  have e1 : lA (p * s) (r * q) (q * s) * q = p * lN (p * s) (r * q) (q * s) := by
    have : (lA (p * s) (r * q) (q * s) * q) * s = (p * lN (p * s) (r * q) (q * s)) * s := by grind
    exact Int.eq_of_mul_eq_mul_right (by omega) this
  have e2 : lB (p * s) (r * q) (q * s) * s = r * lN (p * s) (r * q) (q * s) := by
    have : (lB (p * s) (r * q) (q * s) * s) * q = (r * lN (p * s) (r * q) (q * s)) * q := by grind
    exact Int.eq_of_mul_eq_mul_right (by omega) this
  have h1 := lowF_is hN hf e1
  have h2 := lowF_is hN hg e2
  exact ⟨h1.1, h1.2, h2.1, h2.2⟩
end MB

set_option Elab.async false
set_option linter.all false
set_option maxRecDepth 100000
set_option maxHeartbeats 1000000
set_option autoImplicit false
/-! what the defs of the lengths are worth -/
namespace DL
open PySem L2 MB
theorem divisor_loop : ∀ (k : Nat) (a b : Int), b.natAbs ≤ k → ∃ g : Int, g.natAbs = Int.gcd a b ∧ sWhile lt1_divisor lb1_divisor [some (.d (.int a)), some (.d (.int b))] = .nx [some (.d (.int g)), some (.d (.int 0))] := by
  intro k
  induction k with
  | zero =>
    intro a b h
    have hb : b = 0 := by omega
    subst hb
    refine ⟨a, by simp, ?_⟩
    rw [ev_while]
    simp only [lt1_divisor, ev_seq, seq_nx, seq_rt, seq_ex, seq_bk, seq_ct, seq_ite, fl_ok, fl_ex, fl_ite, ev_set, kSet_ev, ev_ret, ev_retN, ev_nx, ev_bk, ev_ct, ev_raise, ev_if, kIf_ev, ev_drop, kNx_ev, ev_par, kPar_ev, kId_ev, ev_asg, kAsg_ev, ev_for, kFor_ev, ev_V, dVg_ok, ev_C, ev_1, ev_2, bind2_ok, bind2_ite1, bind2_ite2, bind_ite, ev_A, ev_nil, ev_cons, kCons_ev, ev_T, toB_ev, ev_and, ev_or, ev_not, kAnd_ev, kOr_ev, kNot_ev, ev_andV, ev_orV, ev_notV, kAndV_ev, kOrV_ev, kNotV_ev, ev_ife, kIfE_ev, ev_ch, kCh, tup_ev, lst_ev, call_ev, kw_ev, ev_kw, ev_fn, startE_0, startE_s, startE_c, fin_rt, fin_nx, fin_ex, fin_ite, ix_t0, ix_t1, ix_t2, ix_t3, ix_l0, ix_l1, ix_l2, len_l, len_t1, len_t2, len_t3, len_t4, beq_self_eq_true, ev_iL, ev_iT, asL_ev, asT_ev, ev_iA, ev_P, toI_ev, ev_P0, ev_sl, kSl_ev, put_1, gAdd_i, gSub_i, gMul_i, gDiv_p, gMod_p, gPow_l, gShl_l, gShr_l, gLt_i, gLe_i, gGt_i, gGe_i, gEq_i, gNe_i, gNeg_i, gAbs_i, gInt_i, gInt_b, gEq_s, gNe_s, gEq_b, gNe_b, gEq_2, gNe_2, gEq_3, gNe_3, gEq_22, gNe_22, DL.R.bind_ok, DL.R.bind_ex, ev_setL, kSetL_ev, ev_lDisp, kDisp_ev, ev_lList, lOf_l, lOf_t, ev_frz, frz_l, frz_d, frz_n, ev_lend, lend_l, lend_d, atom_i, atom_b, atom_s, ev_lendB, lendB_l, lendB_d, ev_app, app_l, kApp_ev, ev_put, put_l, ev_ixO, ixO_l, ixO_d, put_m, putAll_c, putAll_n, ev_lc, kLst_ev, ev_lcL, wipe_n, wipe_c, r1_2, r1_3, bits_ev, List.getElem?_cons_zero, List.getElem?_cons_succ, List.set_cons_zero, List.set_cons_succ, List.length_cons, List.length_nil, List.length_map, List.append_nil, List.cons_append, List.nil_append, ev_if, turn_nx, turn_ct, turn_bk, turn_rt, turn_ite, kWh_ev, isi_int_int, isi_bool_int, isi_int_bool, isi_bool_bool, isi_int_str, isi_int_none, isi_int_list, isi_int_tup, isi_bool_str, isi_bool_none, isi_bool_list, isi_bool_tup, isi_tup_tup, isi_tup_int, isi_tup_bool, isi_tup_str, isi_tup_none, isi_tup_list, isi_list_list, isi_list_tup, isi_list_int, isi_list_bool, isi_list_str, isi_list_none, isi_str_str, isi_str_int, isi_str_bool, isi_str_none, isi_str_list, isi_str_tup, decide_true, decide_false, not_true_eq_false, not_false_eq_true, ne_eq, decide_eq_true_eq, Bool.not_eq_true', decide_eq_false_iff_not, Bool.not_true, Bool.not_false, Bool.false_eq_true, if_true, if_false, reduceIte]
  | succ k ih =>
    intro a b h
    by_cases hb : b = 0
    · subst hb
      refine ⟨a, by simp, ?_⟩
      rw [ev_while]
      simp only [lt1_divisor, ev_seq, seq_nx, seq_rt, seq_ex, seq_bk, seq_ct, seq_ite, fl_ok, fl_ex, fl_ite, ev_set, kSet_ev, ev_ret, ev_retN, ev_nx, ev_bk, ev_ct, ev_raise, ev_if, kIf_ev, ev_drop, kNx_ev, ev_par, kPar_ev, kId_ev, ev_asg, kAsg_ev, ev_for, kFor_ev, ev_V, dVg_ok, ev_C, ev_1, ev_2, bind2_ok, bind2_ite1, bind2_ite2, bind_ite, ev_A, ev_nil, ev_cons, kCons_ev, ev_T, toB_ev, ev_and, ev_or, ev_not, kAnd_ev, kOr_ev, kNot_ev, ev_andV, ev_orV, ev_notV, kAndV_ev, kOrV_ev, kNotV_ev, ev_ife, kIfE_ev, ev_ch, kCh, tup_ev, lst_ev, call_ev, kw_ev, ev_kw, ev_fn, startE_0, startE_s, startE_c, fin_rt, fin_nx, fin_ex, fin_ite, ix_t0, ix_t1, ix_t2, ix_t3, ix_l0, ix_l1, ix_l2, len_l, len_t1, len_t2, len_t3, len_t4, beq_self_eq_true, ev_iL, ev_iT, asL_ev, asT_ev, ev_iA, ev_P, toI_ev, ev_P0, ev_sl, kSl_ev, put_1, gAdd_i, gSub_i, gMul_i, gDiv_p, gMod_p, gPow_l, gShl_l, gShr_l, gLt_i, gLe_i, gGt_i, gGe_i, gEq_i, gNe_i, gNeg_i, gAbs_i, gInt_i, gInt_b, gEq_s, gNe_s, gEq_b, gNe_b, gEq_2, gNe_2, gEq_3, gNe_3, gEq_22, gNe_22, DL.R.bind_ok, DL.R.bind_ex, ev_setL, kSetL_ev, ev_lDisp, kDisp_ev, ev_lList, lOf_l, lOf_t, ev_frz, frz_l, frz_d, frz_n, ev_lend, lend_l, lend_d, atom_i, atom_b, atom_s, ev_lendB, lendB_l, lendB_d, ev_app, app_l, kApp_ev, ev_put, put_l, ev_ixO, ixO_l, ixO_d, put_m, putAll_c, putAll_n, ev_lc, kLst_ev, ev_lcL, wipe_n, wipe_c, r1_2, r1_3, bits_ev, List.getElem?_cons_zero, List.getElem?_cons_succ, List.set_cons_zero, List.set_cons_succ, List.length_cons, List.length_nil, List.length_map, List.append_nil, List.cons_append, List.nil_append, ev_if, turn_nx, turn_ct, turn_bk, turn_rt, turn_ite, kWh_ev, isi_int_int, isi_bool_int, isi_int_bool, isi_bool_bool, isi_int_str, isi_int_none, isi_int_list, isi_int_tup, isi_bool_str, isi_bool_none, isi_bool_list, isi_bool_tup, isi_tup_tup, isi_tup_int, isi_tup_bool, isi_tup_str, isi_tup_none, isi_tup_list, isi_list_list, isi_list_tup, isi_list_int, isi_list_bool, isi_list_str, isi_list_none, isi_str_str, isi_str_int, isi_str_bool, isi_str_none, isi_str_list, isi_str_tup, decide_true, decide_false, not_true_eq_false, not_false_eq_true, ne_eq, decide_eq_true_eq, Bool.not_eq_true', decide_eq_false_iff_not, Bool.not_true, Bool.not_false, Bool.false_eq_true, if_true, if_false, reduceIte]
    · obtain ⟨g, hg, e⟩ := ih b (a.fmod b) (by
        have h1 := natAbs_fmod_lt a hb
        omega)
      refine ⟨g, ?_, ?_⟩
      · rw [hg]
        have e1 : a = b * a.fdiv b + a.fmod b := (Int.mul_fdiv_add_fmod a b).symm
        have : Int.gcd b (b * a.fdiv b + a.fmod b) = Int.gcd b (a.fmod b) := Int.gcd_mul_left_add_right _ _ _
        rw [← e1] at this
        rw [← this, Int.gcd_comm]
      · rw [ev_while]
        simp only [lt1_divisor, lb1_divisor, ev_seq, seq_nx, seq_rt, seq_ex, seq_bk, seq_ct, seq_ite, fl_ok, fl_ex, fl_ite, ev_set, kSet_ev, ev_ret, ev_retN, ev_nx, ev_bk, ev_ct, ev_raise, ev_if, kIf_ev, ev_drop, kNx_ev, ev_par, kPar_ev, kId_ev, ev_asg, kAsg_ev, ev_for, kFor_ev, ev_V, dVg_ok, ev_C, ev_1, ev_2, bind2_ok, bind2_ite1, bind2_ite2, bind_ite, ev_A, ev_nil, ev_cons, kCons_ev, ev_T, toB_ev, ev_and, ev_or, ev_not, kAnd_ev, kOr_ev, kNot_ev, ev_andV, ev_orV, ev_notV, kAndV_ev, kOrV_ev, kNotV_ev, ev_ife, kIfE_ev, ev_ch, kCh, tup_ev, lst_ev, call_ev, kw_ev, ev_kw, ev_fn, startE_0, startE_s, startE_c, fin_rt, fin_nx, fin_ex, fin_ite, ix_t0, ix_t1, ix_t2, ix_t3, ix_l0, ix_l1, ix_l2, len_l, len_t1, len_t2, len_t3, len_t4, beq_self_eq_true, ev_iL, ev_iT, asL_ev, asT_ev, ev_iA, ev_P, toI_ev, ev_P0, ev_sl, kSl_ev, put_1, gAdd_i, gSub_i, gMul_i, gDiv_p, gMod_p, gPow_l, gShl_l, gShr_l, gLt_i, gLe_i, gGt_i, gGe_i, gEq_i, gNe_i, gNeg_i, gAbs_i, gInt_i, gInt_b, gEq_s, gNe_s, gEq_b, gNe_b, gEq_2, gNe_2, gEq_3, gNe_3, gEq_22, gNe_22, DL.R.bind_ok, DL.R.bind_ex, ev_setL, kSetL_ev, ev_lDisp, kDisp_ev, ev_lList, lOf_l, lOf_t, ev_frz, frz_l, frz_d, frz_n, ev_lend, lend_l, lend_d, atom_i, atom_b, atom_s, ev_lendB, lendB_l, lendB_d, ev_app, app_l, kApp_ev, ev_put, put_l, ev_ixO, ixO_l, ixO_d, put_m, putAll_c, putAll_n, ev_lc, kLst_ev, ev_lcL, wipe_n, wipe_c, r1_2, r1_3, bits_ev, List.getElem?_cons_zero, List.getElem?_cons_succ, List.set_cons_zero, List.set_cons_succ, List.length_cons, List.length_nil, List.length_map, List.append_nil, List.cons_append, List.nil_append, ev_if, turn_nx, turn_ct, turn_bk, turn_rt, turn_ite, kWh_ev, isi_int_int, isi_bool_int, isi_int_bool, isi_bool_bool, isi_int_str, isi_int_none, isi_int_list, isi_int_tup, isi_bool_str, isi_bool_none, isi_bool_list, isi_bool_tup, isi_tup_tup, isi_tup_int, isi_tup_bool, isi_tup_str, isi_tup_none, isi_tup_list, isi_list_list, isi_list_tup, isi_list_int, isi_list_bool, isi_list_str, isi_list_none, isi_str_str, isi_str_int, isi_str_bool, isi_str_none, isi_str_list, isi_str_tup, decide_true, decide_false, not_true_eq_false, not_false_eq_true, ne_eq, decide_eq_true_eq, Bool.not_eq_true', decide_eq_false_iff_not, Bool.not_true, Bool.not_false, Bool.false_eq_true, if_true, if_false, reduceIte, gMod_i, hb]
        exact e
theorem divisor_eq (a b : Int) : m_divisor [.int a, .int b] = .ok (.int (Int.gcd a b : Int)) := by
  obtain ⟨g, hg, e⟩ := divisor_loop b.natAbs a b (Nat.le_refl _)
  simp +decide only [m_divisor, den_divisor, ev_seq, seq_nx, seq_rt, seq_ex, seq_bk, seq_ct, seq_ite, fl_ok, fl_ex, fl_ite, ev_set, kSet_ev, ev_ret, ev_retN, ev_nx, ev_bk, ev_ct, ev_raise, ev_if, kIf_ev, ev_drop, kNx_ev, ev_par, kPar_ev, kId_ev, ev_asg, kAsg_ev, ev_for, kFor_ev, ev_V, dVg_ok, ev_C, ev_1, ev_2, bind2_ok, bind2_ite1, bind2_ite2, bind_ite, ev_A, ev_nil, ev_cons, kCons_ev, ev_T, toB_ev, ev_and, ev_or, ev_not, kAnd_ev, kOr_ev, kNot_ev, ev_andV, ev_orV, ev_notV, kAndV_ev, kOrV_ev, kNotV_ev, ev_ife, kIfE_ev, ev_ch, kCh, tup_ev, lst_ev, call_ev, kw_ev, ev_kw, ev_fn, startE_0, startE_s, startE_c, fin_rt, fin_nx, fin_ex, fin_ite, ix_t0, ix_t1, ix_t2, ix_t3, ix_l0, ix_l1, ix_l2, len_l, len_t1, len_t2, len_t3, len_t4, beq_self_eq_true, ev_iL, ev_iT, asL_ev, asT_ev, ev_iA, ev_P, toI_ev, ev_P0, ev_sl, kSl_ev, put_1, gAdd_i, gSub_i, gMul_i, gDiv_p, gMod_p, gPow_l, gShl_l, gShr_l, gLt_i, gLe_i, gGt_i, gGe_i, gEq_i, gNe_i, gNeg_i, gAbs_i, gInt_i, gInt_b, gEq_s, gNe_s, gEq_b, gNe_b, gEq_2, gNe_2, gEq_3, gNe_3, gEq_22, gNe_22, DL.R.bind_ok, DL.R.bind_ex, ev_setL, kSetL_ev, ev_lDisp, kDisp_ev, ev_lList, lOf_l, lOf_t, ev_frz, frz_l, frz_d, frz_n, ev_lend, lend_l, lend_d, atom_i, atom_b, atom_s, ev_lendB, lendB_l, lendB_d, ev_app, app_l, kApp_ev, ev_put, put_l, ev_ixO, ixO_l, ixO_d, put_m, putAll_c, putAll_n, ev_lc, kLst_ev, ev_lcL, wipe_n, wipe_c, r1_2, r1_3, bits_ev, List.getElem?_cons_zero, List.getElem?_cons_succ, List.set_cons_zero, List.set_cons_succ, List.length_cons, List.length_nil, List.length_map, List.append_nil, List.cons_append, List.nil_append, ev_if, turn_nx, turn_ct, turn_bk, turn_rt, turn_ite, kWh_ev, isi_int_int, isi_bool_int, isi_int_bool, isi_bool_bool, isi_int_str, isi_int_none, isi_int_list, isi_int_tup, isi_bool_str, isi_bool_none, isi_bool_list, isi_bool_tup, isi_tup_tup, isi_tup_int, isi_tup_bool, isi_tup_str, isi_tup_none, isi_tup_list, isi_list_list, isi_list_tup, isi_list_int, isi_list_bool, isi_list_str, isi_list_none, isi_str_str, isi_str_int, isi_str_bool, isi_str_none, isi_str_list, isi_str_tup, decide_true, decide_false, not_true_eq_false, not_false_eq_true, ne_eq, decide_eq_true_eq, Bool.not_eq_true', decide_eq_false_iff_not, Bool.not_true, Bool.not_false, Bool.false_eq_true, if_true, if_false, reduceIte, e, hg]
theorem bd_shr {a b n : Int} (hn : n ≠ 0) {k : Nat} (h : Bd n k) : Bd (shr (g3 a b n) n) k := ⟨by
  have hd : (g3 a b n : Int) ∣ n := g3_dvd.2.2
  have h1 : (shr (g3 a b n) n).natAbs = g3 a b n := by unfold shr; split <;> omega
  rw [h1]
  have h2 : g3 a b n ∣ n.natAbs := by have := Int.natAbs_dvd_natAbs.mpr hd; simpa using this
  exact Nat.lt_of_le_of_lt (Nat.le_of_dvd (by omega) h2) h.h⟩
theorem lowest_eq (a b n : Int) (hn : n ≠ 0) {k : Nat} [h3 : Bd n k] (hk : k ≤ 9000) : m_lowest [.int a, .int b, .int n] = .ok (.tuple [.int (lA a b n), .int (lB a b n), .int (lN a b n)]) := by
  have hs : shr (g3 a b n) n ≠ 0 := shr_ne (g3_ne hn)
  have bs : Bd (shr (g3 a b n) n) k := bd_shr hn h3
  have e2 : Int.gcd (Int.gcd a b) n = g3 a b n := rfl
  by_cases h : n < 0
  · have e : 0 - ((g3 a b n : Nat) : Int) = shr (g3 a b n) n := by unfold shr; rw [if_pos h]
    simp +decide only [m_lowest, den_lowest, ev_seq, seq_nx, seq_rt, seq_ex, seq_bk, seq_ct, seq_ite, fl_ok, fl_ex, fl_ite, ev_set, kSet_ev, ev_ret, ev_retN, ev_nx, ev_bk, ev_ct, ev_raise, ev_if, kIf_ev, ev_drop, kNx_ev, ev_par, kPar_ev, kId_ev, ev_asg, kAsg_ev, ev_for, kFor_ev, ev_V, dVg_ok, ev_C, ev_1, ev_2, bind2_ok, bind2_ite1, bind2_ite2, bind_ite, ev_A, ev_nil, ev_cons, kCons_ev, ev_T, toB_ev, ev_and, ev_or, ev_not, kAnd_ev, kOr_ev, kNot_ev, ev_andV, ev_orV, ev_notV, kAndV_ev, kOrV_ev, kNotV_ev, ev_ife, kIfE_ev, ev_ch, kCh, tup_ev, lst_ev, call_ev, kw_ev, ev_kw, ev_fn, startE_0, startE_s, startE_c, fin_rt, fin_nx, fin_ex, fin_ite, ix_t0, ix_t1, ix_t2, ix_t3, ix_l0, ix_l1, ix_l2, len_l, len_t1, len_t2, len_t3, len_t4, beq_self_eq_true, ev_iL, ev_iT, asL_ev, asT_ev, ev_iA, ev_P, toI_ev, ev_P0, ev_sl, kSl_ev, put_1, gAdd_i, gSub_i, gMul_i, gDiv_p, gMod_p, gPow_l, gShl_l, gShr_l, gLt_i, gLe_i, gGt_i, gGe_i, gEq_i, gNe_i, gNeg_i, gAbs_i, gInt_i, gInt_b, gEq_s, gNe_s, gEq_b, gNe_b, gEq_2, gNe_2, gEq_3, gNe_3, gEq_22, gNe_22, DL.R.bind_ok, DL.R.bind_ex, ev_setL, kSetL_ev, ev_lDisp, kDisp_ev, ev_lList, lOf_l, lOf_t, ev_frz, frz_l, frz_d, frz_n, ev_lend, lend_l, lend_d, atom_i, atom_b, atom_s, ev_lendB, lendB_l, lendB_d, ev_app, app_l, kApp_ev, ev_put, put_l, ev_ixO, ixO_l, ixO_d, put_m, putAll_c, putAll_n, ev_lc, kLst_ev, ev_lcL, wipe_n, wipe_c, r1_2, r1_3, bits_ev, List.getElem?_cons_zero, List.getElem?_cons_succ, List.set_cons_zero, List.set_cons_succ, List.length_cons, List.length_nil, List.length_map, List.append_nil, List.cons_append, List.nil_append, ev_if, turn_nx, turn_ct, turn_bk, turn_rt, turn_ite, kWh_ev, isi_int_int, isi_bool_int, isi_int_bool, isi_bool_bool, isi_int_str, isi_int_none, isi_int_list, isi_int_tup, isi_bool_str, isi_bool_none, isi_bool_list, isi_bool_tup, isi_tup_tup, isi_tup_int, isi_tup_bool, isi_tup_str, isi_tup_none, isi_tup_list, isi_list_list, isi_list_tup, isi_list_int, isi_list_bool, isi_list_str, isi_list_none, isi_str_str, isi_str_int, isi_str_bool, isi_str_none, isi_str_list, isi_str_tup, decide_true, decide_false, not_true_eq_false, not_false_eq_true, ne_eq, decide_eq_true_eq, Bool.not_eq_true', decide_eq_false_iff_not, Bool.not_true, Bool.not_false, Bool.false_eq_true, if_true, if_false, reduceIte, gDiv_i, divisor_eq, e2, h, e, hs, hk, lA, lB, lN]
  · have e : ((g3 a b n : Nat) : Int) = shr (g3 a b n) n := by unfold shr; rw [if_neg h]
    simp +decide only [m_lowest, den_lowest, ev_seq, seq_nx, seq_rt, seq_ex, seq_bk, seq_ct, seq_ite, fl_ok, fl_ex, fl_ite, ev_set, kSet_ev, ev_ret, ev_retN, ev_nx, ev_bk, ev_ct, ev_raise, ev_if, kIf_ev, ev_drop, kNx_ev, ev_par, kPar_ev, kId_ev, ev_asg, kAsg_ev, ev_for, kFor_ev, ev_V, dVg_ok, ev_C, ev_1, ev_2, bind2_ok, bind2_ite1, bind2_ite2, bind_ite, ev_A, ev_nil, ev_cons, kCons_ev, ev_T, toB_ev, ev_and, ev_or, ev_not, kAnd_ev, kOr_ev, kNot_ev, ev_andV, ev_orV, ev_notV, kAndV_ev, kOrV_ev, kNotV_ev, ev_ife, kIfE_ev, ev_ch, kCh, tup_ev, lst_ev, call_ev, kw_ev, ev_kw, ev_fn, startE_0, startE_s, startE_c, fin_rt, fin_nx, fin_ex, fin_ite, ix_t0, ix_t1, ix_t2, ix_t3, ix_l0, ix_l1, ix_l2, len_l, len_t1, len_t2, len_t3, len_t4, beq_self_eq_true, ev_iL, ev_iT, asL_ev, asT_ev, ev_iA, ev_P, toI_ev, ev_P0, ev_sl, kSl_ev, put_1, gAdd_i, gSub_i, gMul_i, gDiv_p, gMod_p, gPow_l, gShl_l, gShr_l, gLt_i, gLe_i, gGt_i, gGe_i, gEq_i, gNe_i, gNeg_i, gAbs_i, gInt_i, gInt_b, gEq_s, gNe_s, gEq_b, gNe_b, gEq_2, gNe_2, gEq_3, gNe_3, gEq_22, gNe_22, DL.R.bind_ok, DL.R.bind_ex, ev_setL, kSetL_ev, ev_lDisp, kDisp_ev, ev_lList, lOf_l, lOf_t, ev_frz, frz_l, frz_d, frz_n, ev_lend, lend_l, lend_d, atom_i, atom_b, atom_s, ev_lendB, lendB_l, lendB_d, ev_app, app_l, kApp_ev, ev_put, put_l, ev_ixO, ixO_l, ixO_d, put_m, putAll_c, putAll_n, ev_lc, kLst_ev, ev_lcL, wipe_n, wipe_c, r1_2, r1_3, bits_ev, List.getElem?_cons_zero, List.getElem?_cons_succ, List.set_cons_zero, List.set_cons_succ, List.length_cons, List.length_nil, List.length_map, List.append_nil, List.cons_append, List.nil_append, ev_if, turn_nx, turn_ct, turn_bk, turn_rt, turn_ite, kWh_ev, isi_int_int, isi_bool_int, isi_int_bool, isi_bool_bool, isi_int_str, isi_int_none, isi_int_list, isi_int_tup, isi_bool_str, isi_bool_none, isi_bool_list, isi_bool_tup, isi_tup_tup, isi_tup_int, isi_tup_bool, isi_tup_str, isi_tup_none, isi_tup_list, isi_list_list, isi_list_tup, isi_list_int, isi_list_bool, isi_list_str, isi_list_none, isi_str_str, isi_str_int, isi_str_bool, isi_str_none, isi_str_list, isi_str_tup, decide_true, decide_false, not_true_eq_false, not_false_eq_true, ne_eq, decide_eq_true_eq, Bool.not_eq_true', decide_eq_false_iff_not, Bool.not_true, Bool.not_false, Bool.false_eq_true, if_true, if_false, reduceIte, gDiv_i, divisor_eq, e2, h, e, hs, hk, lA, lB, lN]
theorem is_whole_int (z : Int) : m_is_whole [.int z] = .ok (.bool true) := by
  simp +decide only [m_is_whole, den_is_whole, ev_seq, seq_nx, seq_rt, seq_ex, seq_bk, seq_ct, seq_ite, fl_ok, fl_ex, fl_ite, ev_set, kSet_ev, ev_ret, ev_retN, ev_nx, ev_bk, ev_ct, ev_raise, ev_if, kIf_ev, ev_drop, kNx_ev, ev_par, kPar_ev, kId_ev, ev_asg, kAsg_ev, ev_for, kFor_ev, ev_V, dVg_ok, ev_C, ev_1, ev_2, bind2_ok, bind2_ite1, bind2_ite2, bind_ite, ev_A, ev_nil, ev_cons, kCons_ev, ev_T, toB_ev, ev_and, ev_or, ev_not, kAnd_ev, kOr_ev, kNot_ev, ev_andV, ev_orV, ev_notV, kAndV_ev, kOrV_ev, kNotV_ev, ev_ife, kIfE_ev, ev_ch, kCh, tup_ev, lst_ev, call_ev, kw_ev, ev_kw, ev_fn, startE_0, startE_s, startE_c, fin_rt, fin_nx, fin_ex, fin_ite, ix_t0, ix_t1, ix_t2, ix_t3, ix_l0, ix_l1, ix_l2, len_l, len_t1, len_t2, len_t3, len_t4, beq_self_eq_true, ev_iL, ev_iT, asL_ev, asT_ev, ev_iA, ev_P, toI_ev, ev_P0, ev_sl, kSl_ev, put_1, gAdd_i, gSub_i, gMul_i, gDiv_p, gMod_p, gPow_l, gShl_l, gShr_l, gLt_i, gLe_i, gGt_i, gGe_i, gEq_i, gNe_i, gNeg_i, gAbs_i, gInt_i, gInt_b, gEq_s, gNe_s, gEq_b, gNe_b, gEq_2, gNe_2, gEq_3, gNe_3, gEq_22, gNe_22, DL.R.bind_ok, DL.R.bind_ex, ev_setL, kSetL_ev, ev_lDisp, kDisp_ev, ev_lList, lOf_l, lOf_t, ev_frz, frz_l, frz_d, frz_n, ev_lend, lend_l, lend_d, atom_i, atom_b, atom_s, ev_lendB, lendB_l, lendB_d, ev_app, app_l, kApp_ev, ev_put, put_l, ev_ixO, ixO_l, ixO_d, put_m, putAll_c, putAll_n, ev_lc, kLst_ev, ev_lcL, wipe_n, wipe_c, r1_2, r1_3, bits_ev, List.getElem?_cons_zero, List.getElem?_cons_succ, List.set_cons_zero, List.set_cons_succ, List.length_cons, List.length_nil, List.length_map, List.append_nil, List.cons_append, List.nil_append, ev_if, turn_nx, turn_ct, turn_bk, turn_rt, turn_ite, kWh_ev, isi_int_int, isi_bool_int, isi_int_bool, isi_bool_bool, isi_int_str, isi_int_none, isi_int_list, isi_int_tup, isi_bool_str, isi_bool_none, isi_bool_list, isi_bool_tup, isi_tup_tup, isi_tup_int, isi_tup_bool, isi_tup_str, isi_tup_none, isi_tup_list, isi_list_list, isi_list_tup, isi_list_int, isi_list_bool, isi_list_str, isi_list_none, isi_str_str, isi_str_int, isi_str_bool, isi_str_none, isi_str_list, isi_str_tup, decide_true, decide_false, not_true_eq_false, not_false_eq_true, ne_eq, decide_eq_true_eq, Bool.not_eq_true', decide_eq_false_iff_not, Bool.not_true, Bool.not_false, Bool.false_eq_true, if_true, if_false, reduceIte]
theorem law_whole_int (z : Int) : m_law_whole [.int z] = .ok (.bool true) := by
  simp +decide only [m_law_whole, den_law_whole, ev_seq, seq_nx, seq_rt, seq_ex, seq_bk, seq_ct, seq_ite, fl_ok, fl_ex, fl_ite, ev_set, kSet_ev, ev_ret, ev_retN, ev_nx, ev_bk, ev_ct, ev_raise, ev_if, kIf_ev, ev_drop, kNx_ev, ev_par, kPar_ev, kId_ev, ev_asg, kAsg_ev, ev_for, kFor_ev, ev_V, dVg_ok, ev_C, ev_1, ev_2, bind2_ok, bind2_ite1, bind2_ite2, bind_ite, ev_A, ev_nil, ev_cons, kCons_ev, ev_T, toB_ev, ev_and, ev_or, ev_not, kAnd_ev, kOr_ev, kNot_ev, ev_andV, ev_orV, ev_notV, kAndV_ev, kOrV_ev, kNotV_ev, ev_ife, kIfE_ev, ev_ch, kCh, tup_ev, lst_ev, call_ev, kw_ev, ev_kw, ev_fn, startE_0, startE_s, startE_c, fin_rt, fin_nx, fin_ex, fin_ite, ix_t0, ix_t1, ix_t2, ix_t3, ix_l0, ix_l1, ix_l2, len_l, len_t1, len_t2, len_t3, len_t4, beq_self_eq_true, ev_iL, ev_iT, asL_ev, asT_ev, ev_iA, ev_P, toI_ev, ev_P0, ev_sl, kSl_ev, put_1, gAdd_i, gSub_i, gMul_i, gDiv_p, gMod_p, gPow_l, gShl_l, gShr_l, gLt_i, gLe_i, gGt_i, gGe_i, gEq_i, gNe_i, gNeg_i, gAbs_i, gInt_i, gInt_b, gEq_s, gNe_s, gEq_b, gNe_b, gEq_2, gNe_2, gEq_3, gNe_3, gEq_22, gNe_22, DL.R.bind_ok, DL.R.bind_ex, ev_setL, kSetL_ev, ev_lDisp, kDisp_ev, ev_lList, lOf_l, lOf_t, ev_frz, frz_l, frz_d, frz_n, ev_lend, lend_l, lend_d, atom_i, atom_b, atom_s, ev_lendB, lendB_l, lendB_d, ev_app, app_l, kApp_ev, ev_put, put_l, ev_ixO, ixO_l, ixO_d, put_m, putAll_c, putAll_n, ev_lc, kLst_ev, ev_lcL, wipe_n, wipe_c, r1_2, r1_3, bits_ev, List.getElem?_cons_zero, List.getElem?_cons_succ, List.set_cons_zero, List.set_cons_succ, List.length_cons, List.length_nil, List.length_map, List.append_nil, List.cons_append, List.nil_append, ev_if, turn_nx, turn_ct, turn_bk, turn_rt, turn_ite, kWh_ev, isi_int_int, isi_bool_int, isi_int_bool, isi_bool_bool, isi_int_str, isi_int_none, isi_int_list, isi_int_tup, isi_bool_str, isi_bool_none, isi_bool_list, isi_bool_tup, isi_tup_tup, isi_tup_int, isi_tup_bool, isi_tup_str, isi_tup_none, isi_tup_list, isi_list_list, isi_list_tup, isi_list_int, isi_list_bool, isi_list_str, isi_list_none, isi_str_str, isi_str_int, isi_str_bool, isi_str_none, isi_str_list, isi_str_tup, decide_true, decide_false, not_true_eq_false, not_false_eq_true, ne_eq, decide_eq_true_eq, Bool.not_eq_true', decide_eq_false_iff_not, Bool.not_true, Bool.not_false, Bool.false_eq_true, if_true, if_false, reduceIte]
theorem length_eq (a b n : Int) (hn : n ≠ 0) {k : Nat} [h3 : Bd n k] (hk : k ≤ 9000) : m_length [.int a, .int b, .int n] = .ok (.tuple [.int (lA a b n), .int (lB a b n), .int (lN a b n)]) := by
  simp +decide only [m_length, den_length, ev_seq, seq_nx, seq_rt, seq_ex, seq_bk, seq_ct, seq_ite, fl_ok, fl_ex, fl_ite, ev_set, kSet_ev, ev_ret, ev_retN, ev_nx, ev_bk, ev_ct, ev_raise, ev_if, kIf_ev, ev_drop, kNx_ev, ev_par, kPar_ev, kId_ev, ev_asg, kAsg_ev, ev_for, kFor_ev, ev_V, dVg_ok, ev_C, ev_1, ev_2, bind2_ok, bind2_ite1, bind2_ite2, bind_ite, ev_A, ev_nil, ev_cons, kCons_ev, ev_T, toB_ev, ev_and, ev_or, ev_not, kAnd_ev, kOr_ev, kNot_ev, ev_andV, ev_orV, ev_notV, kAndV_ev, kOrV_ev, kNotV_ev, ev_ife, kIfE_ev, ev_ch, kCh, tup_ev, lst_ev, call_ev, kw_ev, ev_kw, ev_fn, startE_0, startE_s, startE_c, fin_rt, fin_nx, fin_ex, fin_ite, ix_t0, ix_t1, ix_t2, ix_t3, ix_l0, ix_l1, ix_l2, len_l, len_t1, len_t2, len_t3, len_t4, beq_self_eq_true, ev_iL, ev_iT, asL_ev, asT_ev, ev_iA, ev_P, toI_ev, ev_P0, ev_sl, kSl_ev, put_1, gAdd_i, gSub_i, gMul_i, gDiv_p, gMod_p, gPow_l, gShl_l, gShr_l, gLt_i, gLe_i, gGt_i, gGe_i, gEq_i, gNe_i, gNeg_i, gAbs_i, gInt_i, gInt_b, gEq_s, gNe_s, gEq_b, gNe_b, gEq_2, gNe_2, gEq_3, gNe_3, gEq_22, gNe_22, DL.R.bind_ok, DL.R.bind_ex, ev_setL, kSetL_ev, ev_lDisp, kDisp_ev, ev_lList, lOf_l, lOf_t, ev_frz, frz_l, frz_d, frz_n, ev_lend, lend_l, lend_d, atom_i, atom_b, atom_s, ev_lendB, lendB_l, lendB_d, ev_app, app_l, kApp_ev, ev_put, put_l, ev_ixO, ixO_l, ixO_d, put_m, putAll_c, putAll_n, ev_lc, kLst_ev, ev_lcL, wipe_n, wipe_c, r1_2, r1_3, bits_ev, List.getElem?_cons_zero, List.getElem?_cons_succ, List.set_cons_zero, List.set_cons_succ, List.length_cons, List.length_nil, List.length_map, List.append_nil, List.cons_append, List.nil_append, ev_if, turn_nx, turn_ct, turn_bk, turn_rt, turn_ite, kWh_ev, isi_int_int, isi_bool_int, isi_int_bool, isi_bool_bool, isi_int_str, isi_int_none, isi_int_list, isi_int_tup, isi_bool_str, isi_bool_none, isi_bool_list, isi_bool_tup, isi_tup_tup, isi_tup_int, isi_tup_bool, isi_tup_str, isi_tup_none, isi_tup_list, isi_list_list, isi_list_tup, isi_list_int, isi_list_bool, isi_list_str, isi_list_none, isi_str_str, isi_str_int, isi_str_bool, isi_str_none, isi_str_list, isi_str_tup, decide_true, decide_false, not_true_eq_false, not_false_eq_true, ne_eq, decide_eq_true_eq, Bool.not_eq_true', decide_eq_false_iff_not, Bool.not_true, Bool.not_false, Bool.false_eq_true, if_true, if_false, reduceIte, is_whole_int, hn, lowest_eq, hk]
theorem law_divisor_loop : ∀ (k : Nat) (a b : Int), 0 ≤ b → 0 ≤ a → b.natAbs ≤ k → sWhile lt1_law_divisor lb1_law_divisor [some (.d (.int a)), some (.d (.int b))] = .nx [some (.d (.int (Int.gcd a b : Int))), some (.d (.int 0))] := by
  intro k
  induction k with
  | zero =>
    intro a b h0 ha h
    have hb : b = 0 := by omega
    subst hb
    rw [ev_while]
    have : (a.natAbs : Int) = a := by omega
    simp +decide only [lt1_law_divisor, ev_seq, seq_nx, seq_rt, seq_ex, seq_bk, seq_ct, seq_ite, fl_ok, fl_ex, fl_ite, ev_set, kSet_ev, ev_ret, ev_retN, ev_nx, ev_bk, ev_ct, ev_raise, ev_if, kIf_ev, ev_drop, kNx_ev, ev_par, kPar_ev, kId_ev, ev_asg, kAsg_ev, ev_for, kFor_ev, ev_V, dVg_ok, ev_C, ev_1, ev_2, bind2_ok, bind2_ite1, bind2_ite2, bind_ite, ev_A, ev_nil, ev_cons, kCons_ev, ev_T, toB_ev, ev_and, ev_or, ev_not, kAnd_ev, kOr_ev, kNot_ev, ev_andV, ev_orV, ev_notV, kAndV_ev, kOrV_ev, kNotV_ev, ev_ife, kIfE_ev, ev_ch, kCh, tup_ev, lst_ev, call_ev, kw_ev, ev_kw, ev_fn, startE_0, startE_s, startE_c, fin_rt, fin_nx, fin_ex, fin_ite, ix_t0, ix_t1, ix_t2, ix_t3, ix_l0, ix_l1, ix_l2, len_l, len_t1, len_t2, len_t3, len_t4, beq_self_eq_true, ev_iL, ev_iT, asL_ev, asT_ev, ev_iA, ev_P, toI_ev, ev_P0, ev_sl, kSl_ev, put_1, gAdd_i, gSub_i, gMul_i, gDiv_p, gMod_p, gPow_l, gShl_l, gShr_l, gLt_i, gLe_i, gGt_i, gGe_i, gEq_i, gNe_i, gNeg_i, gAbs_i, gInt_i, gInt_b, gEq_s, gNe_s, gEq_b, gNe_b, gEq_2, gNe_2, gEq_3, gNe_3, gEq_22, gNe_22, DL.R.bind_ok, DL.R.bind_ex, ev_setL, kSetL_ev, ev_lDisp, kDisp_ev, ev_lList, lOf_l, lOf_t, ev_frz, frz_l, frz_d, frz_n, ev_lend, lend_l, lend_d, atom_i, atom_b, atom_s, ev_lendB, lendB_l, lendB_d, ev_app, app_l, kApp_ev, ev_put, put_l, ev_ixO, ixO_l, ixO_d, put_m, putAll_c, putAll_n, ev_lc, kLst_ev, ev_lcL, wipe_n, wipe_c, r1_2, r1_3, bits_ev, List.getElem?_cons_zero, List.getElem?_cons_succ, List.set_cons_zero, List.set_cons_succ, List.length_cons, List.length_nil, List.length_map, List.append_nil, List.cons_append, List.nil_append, ev_if, turn_nx, turn_ct, turn_bk, turn_rt, turn_ite, kWh_ev, isi_int_int, isi_bool_int, isi_int_bool, isi_bool_bool, isi_int_str, isi_int_none, isi_int_list, isi_int_tup, isi_bool_str, isi_bool_none, isi_bool_list, isi_bool_tup, isi_tup_tup, isi_tup_int, isi_tup_bool, isi_tup_str, isi_tup_none, isi_tup_list, isi_list_list, isi_list_tup, isi_list_int, isi_list_bool, isi_list_str, isi_list_none, isi_str_str, isi_str_int, isi_str_bool, isi_str_none, isi_str_list, isi_str_tup, decide_true, decide_false, not_true_eq_false, not_false_eq_true, ne_eq, decide_eq_true_eq, Bool.not_eq_true', decide_eq_false_iff_not, Bool.not_true, Bool.not_false, Bool.false_eq_true, if_true, if_false, reduceIte, Int.gcd_zero, this]
  | succ k ih =>
    intro a b h0 ha h
    by_cases hb : b = 0
    · subst hb
      rw [ev_while]
      have : (a.natAbs : Int) = a := by omega
      simp +decide only [lt1_law_divisor, ev_seq, seq_nx, seq_rt, seq_ex, seq_bk, seq_ct, seq_ite, fl_ok, fl_ex, fl_ite, ev_set, kSet_ev, ev_ret, ev_retN, ev_nx, ev_bk, ev_ct, ev_raise, ev_if, kIf_ev, ev_drop, kNx_ev, ev_par, kPar_ev, kId_ev, ev_asg, kAsg_ev, ev_for, kFor_ev, ev_V, dVg_ok, ev_C, ev_1, ev_2, bind2_ok, bind2_ite1, bind2_ite2, bind_ite, ev_A, ev_nil, ev_cons, kCons_ev, ev_T, toB_ev, ev_and, ev_or, ev_not, kAnd_ev, kOr_ev, kNot_ev, ev_andV, ev_orV, ev_notV, kAndV_ev, kOrV_ev, kNotV_ev, ev_ife, kIfE_ev, ev_ch, kCh, tup_ev, lst_ev, call_ev, kw_ev, ev_kw, ev_fn, startE_0, startE_s, startE_c, fin_rt, fin_nx, fin_ex, fin_ite, ix_t0, ix_t1, ix_t2, ix_t3, ix_l0, ix_l1, ix_l2, len_l, len_t1, len_t2, len_t3, len_t4, beq_self_eq_true, ev_iL, ev_iT, asL_ev, asT_ev, ev_iA, ev_P, toI_ev, ev_P0, ev_sl, kSl_ev, put_1, gAdd_i, gSub_i, gMul_i, gDiv_p, gMod_p, gPow_l, gShl_l, gShr_l, gLt_i, gLe_i, gGt_i, gGe_i, gEq_i, gNe_i, gNeg_i, gAbs_i, gInt_i, gInt_b, gEq_s, gNe_s, gEq_b, gNe_b, gEq_2, gNe_2, gEq_3, gNe_3, gEq_22, gNe_22, DL.R.bind_ok, DL.R.bind_ex, ev_setL, kSetL_ev, ev_lDisp, kDisp_ev, ev_lList, lOf_l, lOf_t, ev_frz, frz_l, frz_d, frz_n, ev_lend, lend_l, lend_d, atom_i, atom_b, atom_s, ev_lendB, lendB_l, lendB_d, ev_app, app_l, kApp_ev, ev_put, put_l, ev_ixO, ixO_l, ixO_d, put_m, putAll_c, putAll_n, ev_lc, kLst_ev, ev_lcL, wipe_n, wipe_c, r1_2, r1_3, bits_ev, List.getElem?_cons_zero, List.getElem?_cons_succ, List.set_cons_zero, List.set_cons_succ, List.length_cons, List.length_nil, List.length_map, List.append_nil, List.cons_append, List.nil_append, ev_if, turn_nx, turn_ct, turn_bk, turn_rt, turn_ite, kWh_ev, isi_int_int, isi_bool_int, isi_int_bool, isi_bool_bool, isi_int_str, isi_int_none, isi_int_list, isi_int_tup, isi_bool_str, isi_bool_none, isi_bool_list, isi_bool_tup, isi_tup_tup, isi_tup_int, isi_tup_bool, isi_tup_str, isi_tup_none, isi_tup_list, isi_list_list, isi_list_tup, isi_list_int, isi_list_bool, isi_list_str, isi_list_none, isi_str_str, isi_str_int, isi_str_bool, isi_str_none, isi_str_list, isi_str_tup, decide_true, decide_false, not_true_eq_false, not_false_eq_true, ne_eq, decide_eq_true_eq, Bool.not_eq_true', decide_eq_false_iff_not, Bool.not_true, Bool.not_false, Bool.false_eq_true, if_true, if_false, reduceIte, Int.gcd_zero, this]
    · have e := ih b (a.fmod b) (Int.fmod_nonneg_of_pos a (by omega)) h0 (by
        have h1 := natAbs_fmod_lt a hb
        omega)
      rw [ev_while]
      have hp : 0 < b := by omega
      have e1 : a = b * a.fdiv b + a.fmod b := (Int.mul_fdiv_add_fmod a b).symm
      have e2 : Int.gcd b (b * a.fdiv b + a.fmod b) = Int.gcd b (a.fmod b) := Int.gcd_mul_left_add_right _ _ _
      rw [← e1] at e2
      rw [Int.gcd_comm a b, e2]
      rw [Int.fmod_eq_emod_of_nonneg _ h0] at e ⊢
      simp +decide only [lt1_law_divisor, lb1_law_divisor, ev_seq, seq_nx, seq_rt, seq_ex, seq_bk, seq_ct, seq_ite, fl_ok, fl_ex, fl_ite, ev_set, kSet_ev, ev_ret, ev_retN, ev_nx, ev_bk, ev_ct, ev_raise, ev_if, kIf_ev, ev_drop, kNx_ev, ev_par, kPar_ev, kId_ev, ev_asg, kAsg_ev, ev_for, kFor_ev, ev_V, dVg_ok, ev_C, ev_1, ev_2, bind2_ok, bind2_ite1, bind2_ite2, bind_ite, ev_A, ev_nil, ev_cons, kCons_ev, ev_T, toB_ev, ev_and, ev_or, ev_not, kAnd_ev, kOr_ev, kNot_ev, ev_andV, ev_orV, ev_notV, kAndV_ev, kOrV_ev, kNotV_ev, ev_ife, kIfE_ev, ev_ch, kCh, tup_ev, lst_ev, call_ev, kw_ev, ev_kw, ev_fn, startE_0, startE_s, startE_c, fin_rt, fin_nx, fin_ex, fin_ite, ix_t0, ix_t1, ix_t2, ix_t3, ix_l0, ix_l1, ix_l2, len_l, len_t1, len_t2, len_t3, len_t4, beq_self_eq_true, ev_iL, ev_iT, asL_ev, asT_ev, ev_iA, ev_P, toI_ev, ev_P0, ev_sl, kSl_ev, put_1, gAdd_i, gSub_i, gMul_i, gDiv_p, gMod_p, gPow_l, gShl_l, gShr_l, gLt_i, gLe_i, gGt_i, gGe_i, gEq_i, gNe_i, gNeg_i, gAbs_i, gInt_i, gInt_b, gEq_s, gNe_s, gEq_b, gNe_b, gEq_2, gNe_2, gEq_3, gNe_3, gEq_22, gNe_22, DL.R.bind_ok, DL.R.bind_ex, ev_setL, kSetL_ev, ev_lDisp, kDisp_ev, ev_lList, lOf_l, lOf_t, ev_frz, frz_l, frz_d, frz_n, ev_lend, lend_l, lend_d, atom_i, atom_b, atom_s, ev_lendB, lendB_l, lendB_d, ev_app, app_l, kApp_ev, ev_put, put_l, ev_ixO, ixO_l, ixO_d, put_m, putAll_c, putAll_n, ev_lc, kLst_ev, ev_lcL, wipe_n, wipe_c, r1_2, r1_3, bits_ev, List.getElem?_cons_zero, List.getElem?_cons_succ, List.set_cons_zero, List.set_cons_succ, List.length_cons, List.length_nil, List.length_map, List.append_nil, List.cons_append, List.nil_append, ev_if, turn_nx, turn_ct, turn_bk, turn_rt, turn_ite, kWh_ev, isi_int_int, isi_bool_int, isi_int_bool, isi_bool_bool, isi_int_str, isi_int_none, isi_int_list, isi_int_tup, isi_bool_str, isi_bool_none, isi_bool_list, isi_bool_tup, isi_tup_tup, isi_tup_int, isi_tup_bool, isi_tup_str, isi_tup_none, isi_tup_list, isi_list_list, isi_list_tup, isi_list_int, isi_list_bool, isi_list_str, isi_list_none, isi_str_str, isi_str_int, isi_str_bool, isi_str_none, isi_str_list, isi_str_tup, decide_true, decide_false, not_true_eq_false, not_false_eq_true, ne_eq, decide_eq_true_eq, Bool.not_eq_true', decide_eq_false_iff_not, Bool.not_true, Bool.not_false, Bool.false_eq_true, if_true, if_false, reduceIte, hb, hp]
      exact e
theorem law_divisor_eq (a b : Int) : m_law_divisor [.int a, .int b] = .ok (.int (Int.gcd a b : Int)) := by
  have e := law_divisor_loop _ (a.natAbs : Int) (b.natAbs : Int) (by omega) (by omega) (Nat.le_refl _)
  have e2 : Int.gcd (a.natAbs : Int) (b.natAbs : Int) = Int.gcd a b := by simp [Int.gcd]
  simp +decide only [m_law_divisor, den_law_divisor, ev_seq, seq_nx, seq_rt, seq_ex, seq_bk, seq_ct, seq_ite, fl_ok, fl_ex, fl_ite, ev_set, kSet_ev, ev_ret, ev_retN, ev_nx, ev_bk, ev_ct, ev_raise, ev_if, kIf_ev, ev_drop, kNx_ev, ev_par, kPar_ev, kId_ev, ev_asg, kAsg_ev, ev_for, kFor_ev, ev_V, dVg_ok, ev_C, ev_1, ev_2, bind2_ok, bind2_ite1, bind2_ite2, bind_ite, ev_A, ev_nil, ev_cons, kCons_ev, ev_T, toB_ev, ev_and, ev_or, ev_not, kAnd_ev, kOr_ev, kNot_ev, ev_andV, ev_orV, ev_notV, kAndV_ev, kOrV_ev, kNotV_ev, ev_ife, kIfE_ev, ev_ch, kCh, tup_ev, lst_ev, call_ev, kw_ev, ev_kw, ev_fn, startE_0, startE_s, startE_c, fin_rt, fin_nx, fin_ex, fin_ite, ix_t0, ix_t1, ix_t2, ix_t3, ix_l0, ix_l1, ix_l2, len_l, len_t1, len_t2, len_t3, len_t4, beq_self_eq_true, ev_iL, ev_iT, asL_ev, asT_ev, ev_iA, ev_P, toI_ev, ev_P0, ev_sl, kSl_ev, put_1, gAdd_i, gSub_i, gMul_i, gDiv_p, gMod_p, gPow_l, gShl_l, gShr_l, gLt_i, gLe_i, gGt_i, gGe_i, gEq_i, gNe_i, gNeg_i, gAbs_i, gInt_i, gInt_b, gEq_s, gNe_s, gEq_b, gNe_b, gEq_2, gNe_2, gEq_3, gNe_3, gEq_22, gNe_22, DL.R.bind_ok, DL.R.bind_ex, ev_setL, kSetL_ev, ev_lDisp, kDisp_ev, ev_lList, lOf_l, lOf_t, ev_frz, frz_l, frz_d, frz_n, ev_lend, lend_l, lend_d, atom_i, atom_b, atom_s, ev_lendB, lendB_l, lendB_d, ev_app, app_l, kApp_ev, ev_put, put_l, ev_ixO, ixO_l, ixO_d, put_m, putAll_c, putAll_n, ev_lc, kLst_ev, ev_lcL, wipe_n, wipe_c, r1_2, r1_3, bits_ev, List.getElem?_cons_zero, List.getElem?_cons_succ, List.set_cons_zero, List.set_cons_succ, List.length_cons, List.length_nil, List.length_map, List.append_nil, List.cons_append, List.nil_append, ev_if, turn_nx, turn_ct, turn_bk, turn_rt, turn_ite, kWh_ev, isi_int_int, isi_bool_int, isi_int_bool, isi_bool_bool, isi_int_str, isi_int_none, isi_int_list, isi_int_tup, isi_bool_str, isi_bool_none, isi_bool_list, isi_bool_tup, isi_tup_tup, isi_tup_int, isi_tup_bool, isi_tup_str, isi_tup_none, isi_tup_list, isi_list_list, isi_list_tup, isi_list_int, isi_list_bool, isi_list_str, isi_list_none, isi_str_str, isi_str_int, isi_str_bool, isi_str_none, isi_str_list, isi_str_tup, decide_true, decide_false, not_true_eq_false, not_false_eq_true, ne_eq, decide_eq_true_eq, Bool.not_eq_true', decide_eq_false_iff_not, Bool.not_true, Bool.not_false, Bool.false_eq_true, if_true, if_false, reduceIte, e, e2]
/-- crosswise -/
def Cross (A B N t m u : Int) : Prop := A * u = t * N ∧ B * u = m * N
theorem law_stands_eq (A B N t m u : Int) (hL : Low A B N) (hC : Cross A B N t m u) {k1 k2 k3 k4 k5 k6 : Nat} [Bd A k1] [Bd B k2] [Bd N k3] [Bd t k4] [Bd m k5] [Bd u k6] (h1 : k1 + k6 ≤ 134217728) (h2 : k4 + k3 ≤ 134217728) (h3 : k2 + k6 ≤ 134217728) (h4 : k5 + k3 ≤ 134217728) :
    m_law_stands [.tuple [.int A, .int B, .int N], .int t, .int m, .int u] = .ok (.bool true) := by
  have g : ((Int.gcd (Int.gcd A B) N : Nat) : Int) = 1 := by rw [hL.2]; rfl
  have p : ¬ N < 1 := by have := hL.1; omega
  simp +decide only [m_law_stands, den_law_stands, ev_seq, seq_nx, seq_rt, seq_ex, seq_bk, seq_ct, seq_ite, fl_ok, fl_ex, fl_ite, ev_set, kSet_ev, ev_ret, ev_retN, ev_nx, ev_bk, ev_ct, ev_raise, ev_if, kIf_ev, ev_drop, kNx_ev, ev_par, kPar_ev, kId_ev, ev_asg, kAsg_ev, ev_for, kFor_ev, ev_V, dVg_ok, ev_C, ev_1, ev_2, bind2_ok, bind2_ite1, bind2_ite2, bind_ite, ev_A, ev_nil, ev_cons, kCons_ev, ev_T, toB_ev, ev_and, ev_or, ev_not, kAnd_ev, kOr_ev, kNot_ev, ev_andV, ev_orV, ev_notV, kAndV_ev, kOrV_ev, kNotV_ev, ev_ife, kIfE_ev, ev_ch, kCh, tup_ev, lst_ev, call_ev, kw_ev, ev_kw, ev_fn, startE_0, startE_s, startE_c, fin_rt, fin_nx, fin_ex, fin_ite, ix_t0, ix_t1, ix_t2, ix_t3, ix_l0, ix_l1, ix_l2, len_l, len_t1, len_t2, len_t3, len_t4, beq_self_eq_true, ev_iL, ev_iT, asL_ev, asT_ev, ev_iA, ev_P, toI_ev, ev_P0, ev_sl, kSl_ev, put_1, gAdd_i, gSub_i, gMul_i, gDiv_p, gMod_p, gPow_l, gShl_l, gShr_l, gLt_i, gLe_i, gGt_i, gGe_i, gEq_i, gNe_i, gNeg_i, gAbs_i, gInt_i, gInt_b, gEq_s, gNe_s, gEq_b, gNe_b, gEq_2, gNe_2, gEq_3, gNe_3, gEq_22, gNe_22, DL.R.bind_ok, DL.R.bind_ex, ev_setL, kSetL_ev, ev_lDisp, kDisp_ev, ev_lList, lOf_l, lOf_t, ev_frz, frz_l, frz_d, frz_n, ev_lend, lend_l, lend_d, atom_i, atom_b, atom_s, ev_lendB, lendB_l, lendB_d, ev_app, app_l, kApp_ev, ev_put, put_l, ev_ixO, ixO_l, ixO_d, put_m, putAll_c, putAll_n, ev_lc, kLst_ev, ev_lcL, wipe_n, wipe_c, r1_2, r1_3, bits_ev, List.getElem?_cons_zero, List.getElem?_cons_succ, List.set_cons_zero, List.set_cons_succ, List.length_cons, List.length_nil, List.length_map, List.append_nil, List.cons_append, List.nil_append, ev_if, turn_nx, turn_ct, turn_bk, turn_rt, turn_ite, kWh_ev, isi_int_int, isi_bool_int, isi_int_bool, isi_bool_bool, isi_int_str, isi_int_none, isi_int_list, isi_int_tup, isi_bool_str, isi_bool_none, isi_bool_list, isi_bool_tup, isi_tup_tup, isi_tup_int, isi_tup_bool, isi_tup_str, isi_tup_none, isi_tup_list, isi_list_list, isi_list_tup, isi_list_int, isi_list_bool, isi_list_str, isi_list_none, isi_str_str, isi_str_int, isi_str_bool, isi_str_none, isi_str_list, isi_str_tup, decide_true, decide_false, not_true_eq_false, not_false_eq_true, ne_eq, decide_eq_true_eq, Bool.not_eq_true', decide_eq_false_iff_not, Bool.not_true, Bool.not_false, Bool.false_eq_true, if_true, if_false, reduceIte, law_whole_int, law_divisor_eq, g, p, h1, h2, h3, h4, hC.1, hC.2]
/-- the great number drawn -/
def gr (c k : Int) : Int := (c + k + 1) * 105152070229383420083013462309641843003 % 170141183460469231731687303715884105727
instance bd_gr {c k : Int} : Bd (gr c k) 127 := (bd_emod : Bd (gr c k) _).mono (by decide)
theorem gr_nonneg (c k : Int) : 0 ≤ gr c k := Int.emod_nonneg _ (by decide)
theorem law_great_eq (c k : Int) {n : Nat} [Bd (c + k + 1) n] (h : n ≤ 134217000) : m_law_great [.int c, .int k] = .ok (.int (gr c k)) := by
  have h' : n + (Nat.log2 105152070229383420083013462309641843003 + 1) ≤ 134217728 := by
    have : Nat.log2 105152070229383420083013462309641843003 = 126 := by decide
    omega
  simp +decide only [m_law_great, den_law_great, ev_seq, seq_nx, seq_rt, seq_ex, seq_bk, seq_ct, seq_ite, fl_ok, fl_ex, fl_ite, ev_set, kSet_ev, ev_ret, ev_retN, ev_nx, ev_bk, ev_ct, ev_raise, ev_if, kIf_ev, ev_drop, kNx_ev, ev_par, kPar_ev, kId_ev, ev_asg, kAsg_ev, ev_for, kFor_ev, ev_V, dVg_ok, ev_C, ev_1, ev_2, bind2_ok, bind2_ite1, bind2_ite2, bind_ite, ev_A, ev_nil, ev_cons, kCons_ev, ev_T, toB_ev, ev_and, ev_or, ev_not, kAnd_ev, kOr_ev, kNot_ev, ev_andV, ev_orV, ev_notV, kAndV_ev, kOrV_ev, kNotV_ev, ev_ife, kIfE_ev, ev_ch, kCh, tup_ev, lst_ev, call_ev, kw_ev, ev_kw, ev_fn, startE_0, startE_s, startE_c, fin_rt, fin_nx, fin_ex, fin_ite, ix_t0, ix_t1, ix_t2, ix_t3, ix_l0, ix_l1, ix_l2, len_l, len_t1, len_t2, len_t3, len_t4, beq_self_eq_true, ev_iL, ev_iT, asL_ev, asT_ev, ev_iA, ev_P, toI_ev, ev_P0, ev_sl, kSl_ev, put_1, gAdd_i, gSub_i, gMul_i, gDiv_p, gMod_p, gPow_l, gShl_l, gShr_l, gLt_i, gLe_i, gGt_i, gGe_i, gEq_i, gNe_i, gNeg_i, gAbs_i, gInt_i, gInt_b, gEq_s, gNe_s, gEq_b, gNe_b, gEq_2, gNe_2, gEq_3, gNe_3, gEq_22, gNe_22, DL.R.bind_ok, DL.R.bind_ex, ev_setL, kSetL_ev, ev_lDisp, kDisp_ev, ev_lList, lOf_l, lOf_t, ev_frz, frz_l, frz_d, frz_n, ev_lend, lend_l, lend_d, atom_i, atom_b, atom_s, ev_lendB, lendB_l, lendB_d, ev_app, app_l, kApp_ev, ev_put, put_l, ev_ixO, ixO_l, ixO_d, put_m, putAll_c, putAll_n, ev_lc, kLst_ev, ev_lcL, wipe_n, wipe_c, r1_2, r1_3, bits_ev, List.getElem?_cons_zero, List.getElem?_cons_succ, List.set_cons_zero, List.set_cons_succ, List.length_cons, List.length_nil, List.length_map, List.append_nil, List.cons_append, List.nil_append, ev_if, turn_nx, turn_ct, turn_bk, turn_rt, turn_ite, kWh_ev, isi_int_int, isi_bool_int, isi_int_bool, isi_bool_bool, isi_int_str, isi_int_none, isi_int_list, isi_int_tup, isi_bool_str, isi_bool_none, isi_bool_list, isi_bool_tup, isi_tup_tup, isi_tup_int, isi_tup_bool, isi_tup_str, isi_tup_none, isi_tup_list, isi_list_list, isi_list_tup, isi_list_int, isi_list_bool, isi_list_str, isi_list_none, isi_str_str, isi_str_int, isi_str_bool, isi_str_none, isi_str_list, isi_str_tup, decide_true, decide_false, not_true_eq_false, not_false_eq_true, ne_eq, decide_eq_true_eq, Bool.not_eq_true', decide_eq_false_iff_not, Bool.not_true, Bool.not_false, Bool.false_eq_true, if_true, if_false, reduceIte, h', gr]
theorem getD_bd {zs : List Int} {k n : Nat} (h : ∀ z ∈ zs, z.natAbs < 2 ^ n) : Bd (zs.getD k 0) n := by
  constructor
  rw [List.getD_eq_getElem?_getD]
  cases e : zs[k]? with
  | none => exact Nat.two_pow_pos n
  | some z => exact h z (List.mem_of_getElem? e)
theorem law_number_ok (c k most : Int) {n : Nat} [Bd (c + k + 1) n] (hn : n ≤ 134217000) [bm : Bd most 140] (hm : 1 ≤ most) : ∃ z : Int, m_law_number [.int c, .int k, .int most] = .ok (.int z) ∧ Bd z 1400 := by
  have hg := gr_nonneg c k
  have bg := @bd_gr c k
  have e := law_great_eq c k hn
  generalize gr c k = g at *
  have hp8 : 1 ≤ most ^ 8 := Int.pow_pos (by omega)
  by_cases c1 : g % 40 = 0
  · have hw : (0 : Int) < 2 * (10 ^ 40 * most ^ 8) - 1 := by omega
    have nz : NZ (2 * (10 ^ 40 * most ^ 8) - 1) := ⟨by omega⟩
    refine ⟨(g / 40) ^ 10 % (2 * (10 ^ 40 * most ^ 8) - 1) - 10 ^ 40 * most ^ 8 + 1, ?_, Bd.mono inferInstance (by decide)⟩
    simp +decide only [m_law_number, den_law_number, ev_seq, seq_nx, seq_rt, seq_ex, seq_bk, seq_ct, seq_ite, fl_ok, fl_ex, fl_ite, ev_set, kSet_ev, ev_ret, ev_retN, ev_nx, ev_bk, ev_ct, ev_raise, ev_if, kIf_ev, ev_drop, kNx_ev, ev_par, kPar_ev, kId_ev, ev_asg, kAsg_ev, ev_for, kFor_ev, ev_V, dVg_ok, ev_C, ev_1, ev_2, bind2_ok, bind2_ite1, bind2_ite2, bind_ite, ev_A, ev_nil, ev_cons, kCons_ev, ev_T, toB_ev, ev_and, ev_or, ev_not, kAnd_ev, kOr_ev, kNot_ev, ev_andV, ev_orV, ev_notV, kAndV_ev, kOrV_ev, kNotV_ev, ev_ife, kIfE_ev, ev_ch, kCh, tup_ev, lst_ev, call_ev, kw_ev, ev_kw, ev_fn, startE_0, startE_s, startE_c, fin_rt, fin_nx, fin_ex, fin_ite, ix_t0, ix_t1, ix_t2, ix_t3, ix_l0, ix_l1, ix_l2, len_l, len_t1, len_t2, len_t3, len_t4, beq_self_eq_true, ev_iL, ev_iT, asL_ev, asT_ev, ev_iA, ev_P, toI_ev, ev_P0, ev_sl, kSl_ev, put_1, gAdd_i, gSub_i, gMul_i, gDiv_p, gMod_p, gPow_l, gShl_l, gShr_l, gLt_i, gLe_i, gGt_i, gGe_i, gEq_i, gNe_i, gNeg_i, gAbs_i, gInt_i, gInt_b, gEq_s, gNe_s, gEq_b, gNe_b, gEq_2, gNe_2, gEq_3, gNe_3, gEq_22, gNe_22, DL.R.bind_ok, DL.R.bind_ex, ev_setL, kSetL_ev, ev_lDisp, kDisp_ev, ev_lList, lOf_l, lOf_t, ev_frz, frz_l, frz_d, frz_n, ev_lend, lend_l, lend_d, atom_i, atom_b, atom_s, ev_lendB, lendB_l, lendB_d, ev_app, app_l, kApp_ev, ev_put, put_l, ev_ixO, ixO_l, ixO_d, put_m, putAll_c, putAll_n, ev_lc, kLst_ev, ev_lcL, wipe_n, wipe_c, r1_2, r1_3, bits_ev, List.getElem?_cons_zero, List.getElem?_cons_succ, List.set_cons_zero, List.set_cons_succ, List.length_cons, List.length_nil, List.length_map, List.append_nil, List.cons_append, List.nil_append, ev_if, turn_nx, turn_ct, turn_bk, turn_rt, turn_ite, kWh_ev, isi_int_int, isi_bool_int, isi_int_bool, isi_bool_bool, isi_int_str, isi_int_none, isi_int_list, isi_int_tup, isi_bool_str, isi_bool_none, isi_bool_list, isi_bool_tup, isi_tup_tup, isi_tup_int, isi_tup_bool, isi_tup_str, isi_tup_none, isi_tup_list, isi_list_list, isi_list_tup, isi_list_int, isi_list_bool, isi_list_str, isi_list_none, isi_str_str, isi_str_int, isi_str_bool, isi_str_none, isi_str_list, isi_str_tup, decide_true, decide_false, not_true_eq_false, not_false_eq_true, ne_eq, decide_eq_true_eq, Bool.not_eq_true', decide_eq_false_iff_not, Bool.not_true, Bool.not_false, Bool.false_eq_true, if_true, if_false, reduceIte, e, c1, hw]
  by_cases c2 : g % 5 = 0
  · have hw : (0 : Int) < 2 * most - 1 := by omega
    have nz : NZ (2 * most - 1) := ⟨by omega⟩
    refine ⟨g / 5 * g % (2 * most - 1) - (most - 1), ?_, Bd.mono inferInstance (by decide)⟩
    simp +decide only [m_law_number, den_law_number, ev_seq, seq_nx, seq_rt, seq_ex, seq_bk, seq_ct, seq_ite, fl_ok, fl_ex, fl_ite, ev_set, kSet_ev, ev_ret, ev_retN, ev_nx, ev_bk, ev_ct, ev_raise, ev_if, kIf_ev, ev_drop, kNx_ev, ev_par, kPar_ev, kId_ev, ev_asg, kAsg_ev, ev_for, kFor_ev, ev_V, dVg_ok, ev_C, ev_1, ev_2, bind2_ok, bind2_ite1, bind2_ite2, bind_ite, ev_A, ev_nil, ev_cons, kCons_ev, ev_T, toB_ev, ev_and, ev_or, ev_not, kAnd_ev, kOr_ev, kNot_ev, ev_andV, ev_orV, ev_notV, kAndV_ev, kOrV_ev, kNotV_ev, ev_ife, kIfE_ev, ev_ch, kCh, tup_ev, lst_ev, call_ev, kw_ev, ev_kw, ev_fn, startE_0, startE_s, startE_c, fin_rt, fin_nx, fin_ex, fin_ite, ix_t0, ix_t1, ix_t2, ix_t3, ix_l0, ix_l1, ix_l2, len_l, len_t1, len_t2, len_t3, len_t4, beq_self_eq_true, ev_iL, ev_iT, asL_ev, asT_ev, ev_iA, ev_P, toI_ev, ev_P0, ev_sl, kSl_ev, put_1, gAdd_i, gSub_i, gMul_i, gDiv_p, gMod_p, gPow_l, gShl_l, gShr_l, gLt_i, gLe_i, gGt_i, gGe_i, gEq_i, gNe_i, gNeg_i, gAbs_i, gInt_i, gInt_b, gEq_s, gNe_s, gEq_b, gNe_b, gEq_2, gNe_2, gEq_3, gNe_3, gEq_22, gNe_22, DL.R.bind_ok, DL.R.bind_ex, ev_setL, kSetL_ev, ev_lDisp, kDisp_ev, ev_lList, lOf_l, lOf_t, ev_frz, frz_l, frz_d, frz_n, ev_lend, lend_l, lend_d, atom_i, atom_b, atom_s, ev_lendB, lendB_l, lendB_d, ev_app, app_l, kApp_ev, ev_put, put_l, ev_ixO, ixO_l, ixO_d, put_m, putAll_c, putAll_n, ev_lc, kLst_ev, ev_lcL, wipe_n, wipe_c, r1_2, r1_3, bits_ev, List.getElem?_cons_zero, List.getElem?_cons_succ, List.set_cons_zero, List.set_cons_succ, List.length_cons, List.length_nil, List.length_map, List.append_nil, List.cons_append, List.nil_append, ev_if, turn_nx, turn_ct, turn_bk, turn_rt, turn_ite, kWh_ev, isi_int_int, isi_bool_int, isi_int_bool, isi_bool_bool, isi_int_str, isi_int_none, isi_int_list, isi_int_tup, isi_bool_str, isi_bool_none, isi_bool_list, isi_bool_tup, isi_tup_tup, isi_tup_int, isi_tup_bool, isi_tup_str, isi_tup_none, isi_tup_list, isi_list_list, isi_list_tup, isi_list_int, isi_list_bool, isi_list_str, isi_list_none, isi_str_str, isi_str_int, isi_str_bool, isi_str_none, isi_str_list, isi_str_tup, decide_true, decide_false, not_true_eq_false, not_false_eq_true, ne_eq, decide_eq_true_eq, Bool.not_eq_true', decide_eq_false_iff_not, Bool.not_true, Bool.not_false, Bool.false_eq_true, if_true, if_false, reduceIte, e, c1, c2, hw]
  by_cases c3 : g % 5 = 1
  · refine ⟨g / 5 % 2001 - 1000, ?_, Bd.mono inferInstance (by decide)⟩
    simp +decide only [m_law_number, den_law_number, ev_seq, seq_nx, seq_rt, seq_ex, seq_bk, seq_ct, seq_ite, fl_ok, fl_ex, fl_ite, ev_set, kSet_ev, ev_ret, ev_retN, ev_nx, ev_bk, ev_ct, ev_raise, ev_if, kIf_ev, ev_drop, kNx_ev, ev_par, kPar_ev, kId_ev, ev_asg, kAsg_ev, ev_for, kFor_ev, ev_V, dVg_ok, ev_C, ev_1, ev_2, bind2_ok, bind2_ite1, bind2_ite2, bind_ite, ev_A, ev_nil, ev_cons, kCons_ev, ev_T, toB_ev, ev_and, ev_or, ev_not, kAnd_ev, kOr_ev, kNot_ev, ev_andV, ev_orV, ev_notV, kAndV_ev, kOrV_ev, kNotV_ev, ev_ife, kIfE_ev, ev_ch, kCh, tup_ev, lst_ev, call_ev, kw_ev, ev_kw, ev_fn, startE_0, startE_s, startE_c, fin_rt, fin_nx, fin_ex, fin_ite, ix_t0, ix_t1, ix_t2, ix_t3, ix_l0, ix_l1, ix_l2, len_l, len_t1, len_t2, len_t3, len_t4, beq_self_eq_true, ev_iL, ev_iT, asL_ev, asT_ev, ev_iA, ev_P, toI_ev, ev_P0, ev_sl, kSl_ev, put_1, gAdd_i, gSub_i, gMul_i, gDiv_p, gMod_p, gPow_l, gShl_l, gShr_l, gLt_i, gLe_i, gGt_i, gGe_i, gEq_i, gNe_i, gNeg_i, gAbs_i, gInt_i, gInt_b, gEq_s, gNe_s, gEq_b, gNe_b, gEq_2, gNe_2, gEq_3, gNe_3, gEq_22, gNe_22, DL.R.bind_ok, DL.R.bind_ex, ev_setL, kSetL_ev, ev_lDisp, kDisp_ev, ev_lList, lOf_l, lOf_t, ev_frz, frz_l, frz_d, frz_n, ev_lend, lend_l, lend_d, atom_i, atom_b, atom_s, ev_lendB, lendB_l, lendB_d, ev_app, app_l, kApp_ev, ev_put, put_l, ev_ixO, ixO_l, ixO_d, put_m, putAll_c, putAll_n, ev_lc, kLst_ev, ev_lcL, wipe_n, wipe_c, r1_2, r1_3, bits_ev, List.getElem?_cons_zero, List.getElem?_cons_succ, List.set_cons_zero, List.set_cons_succ, List.length_cons, List.length_nil, List.length_map, List.append_nil, List.cons_append, List.nil_append, ev_if, turn_nx, turn_ct, turn_bk, turn_rt, turn_ite, kWh_ev, isi_int_int, isi_bool_int, isi_int_bool, isi_bool_bool, isi_int_str, isi_int_none, isi_int_list, isi_int_tup, isi_bool_str, isi_bool_none, isi_bool_list, isi_bool_tup, isi_tup_tup, isi_tup_int, isi_tup_bool, isi_tup_str, isi_tup_none, isi_tup_list, isi_list_list, isi_list_tup, isi_list_int, isi_list_bool, isi_list_str, isi_list_none, isi_str_str, isi_str_int, isi_str_bool, isi_str_none, isi_str_list, isi_str_tup, decide_true, decide_false, not_true_eq_false, not_false_eq_true, ne_eq, decide_eq_true_eq, Bool.not_eq_true', decide_eq_false_iff_not, Bool.not_true, Bool.not_false, Bool.false_eq_true, if_true, if_false, reduceIte, e, c1, c2, c3]
  by_cases c4 : g % 5 = 2
  · have hl : [PyData.int 0, .int 1, .int (-1), .int 12, .int (-60), .int (most / 10)] = [0, 1, -1, 12, -60, most / 10].map PyData.int := rfl
    refine ⟨[0, 1, -1, 12, -60, most / 10].getD (g / 5 % 6).toNat 0, ?_, Bd.mono (getD_bd (n := 140) ?_) (by decide)⟩
    · have h0 : 0 ≤ g / 5 % 6 := by omega
      have h1 : g / 5 % 6 < (([0, 1, -1, 12, -60, most / 10] : List Int).length : Nat) := by show g / 5 % 6 < 6; omega
      simp +decide only [m_law_number, den_law_number, ev_seq, seq_nx, seq_rt, seq_ex, seq_bk, seq_ct, seq_ite, fl_ok, fl_ex, fl_ite, ev_set, kSet_ev, ev_ret, ev_retN, ev_nx, ev_bk, ev_ct, ev_raise, ev_if, kIf_ev, ev_drop, kNx_ev, ev_par, kPar_ev, kId_ev, ev_asg, kAsg_ev, ev_for, kFor_ev, ev_V, dVg_ok, ev_C, ev_1, ev_2, bind2_ok, bind2_ite1, bind2_ite2, bind_ite, ev_A, ev_nil, ev_cons, kCons_ev, ev_T, toB_ev, ev_and, ev_or, ev_not, kAnd_ev, kOr_ev, kNot_ev, ev_andV, ev_orV, ev_notV, kAndV_ev, kOrV_ev, kNotV_ev, ev_ife, kIfE_ev, ev_ch, kCh, tup_ev, lst_ev, call_ev, kw_ev, ev_kw, ev_fn, startE_0, startE_s, startE_c, fin_rt, fin_nx, fin_ex, fin_ite, ix_t0, ix_t1, ix_t2, ix_t3, ix_l0, ix_l1, ix_l2, len_l, len_t1, len_t2, len_t3, len_t4, beq_self_eq_true, ev_iL, ev_iT, asL_ev, asT_ev, ev_iA, ev_P, toI_ev, ev_P0, ev_sl, kSl_ev, put_1, gAdd_i, gSub_i, gMul_i, gDiv_p, gMod_p, gPow_l, gShl_l, gShr_l, gLt_i, gLe_i, gGt_i, gGe_i, gEq_i, gNe_i, gNeg_i, gAbs_i, gInt_i, gInt_b, gEq_s, gNe_s, gEq_b, gNe_b, gEq_2, gNe_2, gEq_3, gNe_3, gEq_22, gNe_22, DL.R.bind_ok, DL.R.bind_ex, ev_setL, kSetL_ev, ev_lDisp, kDisp_ev, ev_lList, lOf_l, lOf_t, ev_frz, frz_l, frz_d, frz_n, ev_lend, lend_l, lend_d, atom_i, atom_b, atom_s, ev_lendB, lendB_l, lendB_d, ev_app, app_l, kApp_ev, ev_put, put_l, ev_ixO, ixO_l, ixO_d, put_m, putAll_c, putAll_n, ev_lc, kLst_ev, ev_lcL, wipe_n, wipe_c, r1_2, r1_3, bits_ev, List.getElem?_cons_zero, List.getElem?_cons_succ, List.set_cons_zero, List.set_cons_succ, List.length_cons, List.length_nil, List.length_map, List.append_nil, List.cons_append, List.nil_append, ev_if, turn_nx, turn_ct, turn_bk, turn_rt, turn_ite, kWh_ev, isi_int_int, isi_bool_int, isi_int_bool, isi_bool_bool, isi_int_str, isi_int_none, isi_int_list, isi_int_tup, isi_bool_str, isi_bool_none, isi_bool_list, isi_bool_tup, isi_tup_tup, isi_tup_int, isi_tup_bool, isi_tup_str, isi_tup_none, isi_tup_list, isi_list_list, isi_list_tup, isi_list_int, isi_list_bool, isi_list_str, isi_list_none, isi_str_str, isi_str_int, isi_str_bool, isi_str_none, isi_str_list, isi_str_tup, decide_true, decide_false, not_true_eq_false, not_false_eq_true, ne_eq, decide_eq_true_eq, Bool.not_eq_true', decide_eq_false_iff_not, Bool.not_true, Bool.not_false, Bool.false_eq_true, if_true, if_false, reduceIte, e, c1, c2, c3, c4, hl, ix_ints h0 h1]
    · have := bm.h
      intro z hz
      simp only [List.mem_cons, List.not_mem_nil, or_false] at hz
      rcases hz with rfl | rfl | rfl | rfl | rfl | rfl
      · decide
      · decide
      · decide
      · decide
      · decide
      · exact (bd_ediv (i := most)).h
  · refine ⟨g / 5 % 25 - 12, ?_, Bd.mono inferInstance (by decide)⟩
    simp +decide only [m_law_number, den_law_number, ev_seq, seq_nx, seq_rt, seq_ex, seq_bk, seq_ct, seq_ite, fl_ok, fl_ex, fl_ite, ev_set, kSet_ev, ev_ret, ev_retN, ev_nx, ev_bk, ev_ct, ev_raise, ev_if, kIf_ev, ev_drop, kNx_ev, ev_par, kPar_ev, kId_ev, ev_asg, kAsg_ev, ev_for, kFor_ev, ev_V, dVg_ok, ev_C, ev_1, ev_2, bind2_ok, bind2_ite1, bind2_ite2, bind_ite, ev_A, ev_nil, ev_cons, kCons_ev, ev_T, toB_ev, ev_and, ev_or, ev_not, kAnd_ev, kOr_ev, kNot_ev, ev_andV, ev_orV, ev_notV, kAndV_ev, kOrV_ev, kNotV_ev, ev_ife, kIfE_ev, ev_ch, kCh, tup_ev, lst_ev, call_ev, kw_ev, ev_kw, ev_fn, startE_0, startE_s, startE_c, fin_rt, fin_nx, fin_ex, fin_ite, ix_t0, ix_t1, ix_t2, ix_t3, ix_l0, ix_l1, ix_l2, len_l, len_t1, len_t2, len_t3, len_t4, beq_self_eq_true, ev_iL, ev_iT, asL_ev, asT_ev, ev_iA, ev_P, toI_ev, ev_P0, ev_sl, kSl_ev, put_1, gAdd_i, gSub_i, gMul_i, gDiv_p, gMod_p, gPow_l, gShl_l, gShr_l, gLt_i, gLe_i, gGt_i, gGe_i, gEq_i, gNe_i, gNeg_i, gAbs_i, gInt_i, gInt_b, gEq_s, gNe_s, gEq_b, gNe_b, gEq_2, gNe_2, gEq_3, gNe_3, gEq_22, gNe_22, DL.R.bind_ok, DL.R.bind_ex, ev_setL, kSetL_ev, ev_lDisp, kDisp_ev, ev_lList, lOf_l, lOf_t, ev_frz, frz_l, frz_d, frz_n, ev_lend, lend_l, lend_d, atom_i, atom_b, atom_s, ev_lendB, lendB_l, lendB_d, ev_app, app_l, kApp_ev, ev_put, put_l, ev_ixO, ixO_l, ixO_d, put_m, putAll_c, putAll_n, ev_lc, kLst_ev, ev_lcL, wipe_n, wipe_c, r1_2, r1_3, bits_ev, List.getElem?_cons_zero, List.getElem?_cons_succ, List.set_cons_zero, List.set_cons_succ, List.length_cons, List.length_nil, List.length_map, List.append_nil, List.cons_append, List.nil_append, ev_if, turn_nx, turn_ct, turn_bk, turn_rt, turn_ite, kWh_ev, isi_int_int, isi_bool_int, isi_int_bool, isi_bool_bool, isi_int_str, isi_int_none, isi_int_list, isi_int_tup, isi_bool_str, isi_bool_none, isi_bool_list, isi_bool_tup, isi_tup_tup, isi_tup_int, isi_tup_bool, isi_tup_str, isi_tup_none, isi_tup_list, isi_list_list, isi_list_tup, isi_list_int, isi_list_bool, isi_list_str, isi_list_none, isi_str_str, isi_str_int, isi_str_bool, isi_str_none, isi_str_list, isi_str_tup, decide_true, decide_false, not_true_eq_false, not_false_eq_true, ne_eq, decide_eq_true_eq, Bool.not_eq_true', decide_eq_false_iff_not, Bool.not_true, Bool.not_false, Bool.false_eq_true, if_true, if_false, reduceIte, e, c1, c2, c3, c4]

theorem cell_bd {z : Int} (h : Builtin.Int.intBits z ≤ 1048576) : Bd z 1048576 := ⟨lt_of_ib h⟩
instance bd_lA {a b n : Int} {k : Nat} [Bd a k] : Bd (lA a b n) k := bd_fdiv
instance bd_lB {a b n : Int} {k : Nat} [Bd b k] : Bd (lB a b n) k := bd_fdiv
instance bd_lN {a b n : Int} {k : Nat} [Bd n k] : Bd (lN a b n) k := bd_fdiv
theorem stands_of (a b n : Int) (hn : n ≠ 0) {k1 k2 k3 : Nat} [Bd a k1] [Bd b k2] [Bd n k3] (h1 : k1 + k3 ≤ 134217728) (h2 : k2 + k3 ≤ 134217728) :
    m_law_stands [.tuple [.int (lA a b n), .int (lB a b n), .int (lN a b n)], .int a, .int b, .int n] = .ok (.bool true) :=
  law_stands_eq _ _ _ _ _ _ (low_of hn) (lcross hn) h1 h1 h2 h2
/-! lengths as data -/
@[reducible] def L3 (a b n : Int) : PD := .tuple [.int a, .int b, .int n]
@[reducible] def F2 (a b : Int) : PD := .tuple [.int a, .int b]
theorem law_lowest_eq (a b n : Int) (hn : n ≠ 0) {k : Nat} [h3 : Bd n k] (hk : k ≤ 9000) : m_law_lowest [.int a, .int b, .int n] = .ok (.tuple [.int (lA a b n), .int (lB a b n), .int (lN a b n)]) := by
  have hs : shr (g3 a b n) n ≠ 0 := shr_ne (g3_ne hn)
  have bs : Bd (shr (g3 a b n) n) k := bd_shr hn h3
  have e2 : Int.gcd (Int.gcd a b) n = g3 a b n := rfl
  by_cases h : n < 0
  · have e : 0 - ((g3 a b n : Nat) : Int) = shr (g3 a b n) n := by unfold shr; rw [if_pos h]
    simp +decide only [m_law_lowest, den_law_lowest, ev_seq, seq_nx, seq_rt, seq_ex, seq_bk, seq_ct, seq_ite, fl_ok, fl_ex, fl_ite, ev_set, kSet_ev, ev_ret, ev_retN, ev_nx, ev_bk, ev_ct, ev_raise, ev_if, kIf_ev, ev_drop, kNx_ev, ev_par, kPar_ev, kId_ev, ev_asg, kAsg_ev, ev_for, kFor_ev, ev_V, dVg_ok, ev_C, ev_1, ev_2, bind2_ok, bind2_ite1, bind2_ite2, bind_ite, ev_A, ev_nil, ev_cons, kCons_ev, ev_T, toB_ev, ev_and, ev_or, ev_not, kAnd_ev, kOr_ev, kNot_ev, ev_andV, ev_orV, ev_notV, kAndV_ev, kOrV_ev, kNotV_ev, ev_ife, kIfE_ev, ev_ch, kCh, tup_ev, lst_ev, call_ev, kw_ev, ev_kw, ev_fn, startE_0, startE_s, startE_c, fin_rt, fin_nx, fin_ex, fin_ite, ix_t0, ix_t1, ix_t2, ix_t3, ix_l0, ix_l1, ix_l2, len_l, len_t1, len_t2, len_t3, len_t4, beq_self_eq_true, ev_iL, ev_iT, asL_ev, asT_ev, ev_iA, ev_P, toI_ev, ev_P0, ev_sl, kSl_ev, put_1, gAdd_i, gSub_i, gMul_i, gDiv_p, gMod_p, gPow_l, gShl_l, gShr_l, gLt_i, gLe_i, gGt_i, gGe_i, gEq_i, gNe_i, gNeg_i, gAbs_i, gInt_i, gInt_b, gEq_s, gNe_s, gEq_b, gNe_b, gEq_2, gNe_2, gEq_3, gNe_3, gEq_22, gNe_22, DL.R.bind_ok, DL.R.bind_ex, ev_setL, kSetL_ev, ev_lDisp, kDisp_ev, ev_lList, lOf_l, lOf_t, ev_frz, frz_l, frz_d, frz_n, ev_lend, lend_l, lend_d, atom_i, atom_b, atom_s, ev_lendB, lendB_l, lendB_d, ev_app, app_l, kApp_ev, ev_put, put_l, ev_ixO, ixO_l, ixO_d, put_m, putAll_c, putAll_n, ev_lc, kLst_ev, ev_lcL, wipe_n, wipe_c, r1_2, r1_3, bits_ev, List.getElem?_cons_zero, List.getElem?_cons_succ, List.set_cons_zero, List.set_cons_succ, List.length_cons, List.length_nil, List.length_map, List.append_nil, List.cons_append, List.nil_append, ev_if, turn_nx, turn_ct, turn_bk, turn_rt, turn_ite, kWh_ev, isi_int_int, isi_bool_int, isi_int_bool, isi_bool_bool, isi_int_str, isi_int_none, isi_int_list, isi_int_tup, isi_bool_str, isi_bool_none, isi_bool_list, isi_bool_tup, isi_tup_tup, isi_tup_int, isi_tup_bool, isi_tup_str, isi_tup_none, isi_tup_list, isi_list_list, isi_list_tup, isi_list_int, isi_list_bool, isi_list_str, isi_list_none, isi_str_str, isi_str_int, isi_str_bool, isi_str_none, isi_str_list, isi_str_tup, decide_true, decide_false, not_true_eq_false, not_false_eq_true, ne_eq, decide_eq_true_eq, Bool.not_eq_true', decide_eq_false_iff_not, Bool.not_true, Bool.not_false, Bool.false_eq_true, if_true, if_false, reduceIte, gDiv_i, law_divisor_eq, e2, h, e, hs, hk, lA, lB, lN]
  · have e : ((g3 a b n : Nat) : Int) = shr (g3 a b n) n := by unfold shr; rw [if_neg h]
    simp +decide only [m_law_lowest, den_law_lowest, ev_seq, seq_nx, seq_rt, seq_ex, seq_bk, seq_ct, seq_ite, fl_ok, fl_ex, fl_ite, ev_set, kSet_ev, ev_ret, ev_retN, ev_nx, ev_bk, ev_ct, ev_raise, ev_if, kIf_ev, ev_drop, kNx_ev, ev_par, kPar_ev, kId_ev, ev_asg, kAsg_ev, ev_for, kFor_ev, ev_V, dVg_ok, ev_C, ev_1, ev_2, bind2_ok, bind2_ite1, bind2_ite2, bind_ite, ev_A, ev_nil, ev_cons, kCons_ev, ev_T, toB_ev, ev_and, ev_or, ev_not, kAnd_ev, kOr_ev, kNot_ev, ev_andV, ev_orV, ev_notV, kAndV_ev, kOrV_ev, kNotV_ev, ev_ife, kIfE_ev, ev_ch, kCh, tup_ev, lst_ev, call_ev, kw_ev, ev_kw, ev_fn, startE_0, startE_s, startE_c, fin_rt, fin_nx, fin_ex, fin_ite, ix_t0, ix_t1, ix_t2, ix_t3, ix_l0, ix_l1, ix_l2, len_l, len_t1, len_t2, len_t3, len_t4, beq_self_eq_true, ev_iL, ev_iT, asL_ev, asT_ev, ev_iA, ev_P, toI_ev, ev_P0, ev_sl, kSl_ev, put_1, gAdd_i, gSub_i, gMul_i, gDiv_p, gMod_p, gPow_l, gShl_l, gShr_l, gLt_i, gLe_i, gGt_i, gGe_i, gEq_i, gNe_i, gNeg_i, gAbs_i, gInt_i, gInt_b, gEq_s, gNe_s, gEq_b, gNe_b, gEq_2, gNe_2, gEq_3, gNe_3, gEq_22, gNe_22, DL.R.bind_ok, DL.R.bind_ex, ev_setL, kSetL_ev, ev_lDisp, kDisp_ev, ev_lList, lOf_l, lOf_t, ev_frz, frz_l, frz_d, frz_n, ev_lend, lend_l, lend_d, atom_i, atom_b, atom_s, ev_lendB, lendB_l, lendB_d, ev_app, app_l, kApp_ev, ev_put, put_l, ev_ixO, ixO_l, ixO_d, put_m, putAll_c, putAll_n, ev_lc, kLst_ev, ev_lcL, wipe_n, wipe_c, r1_2, r1_3, bits_ev, List.getElem?_cons_zero, List.getElem?_cons_succ, List.set_cons_zero, List.set_cons_succ, List.length_cons, List.length_nil, List.length_map, List.append_nil, List.cons_append, List.nil_append, ev_if, turn_nx, turn_ct, turn_bk, turn_rt, turn_ite, kWh_ev, isi_int_int, isi_bool_int, isi_int_bool, isi_bool_bool, isi_int_str, isi_int_none, isi_int_list, isi_int_tup, isi_bool_str, isi_bool_none, isi_bool_list, isi_bool_tup, isi_tup_tup, isi_tup_int, isi_tup_bool, isi_tup_str, isi_tup_none, isi_tup_list, isi_list_list, isi_list_tup, isi_list_int, isi_list_bool, isi_list_str, isi_list_none, isi_str_str, isi_str_int, isi_str_bool, isi_str_none, isi_str_list, isi_str_tup, decide_true, decide_false, not_true_eq_false, not_false_eq_true, ne_eq, decide_eq_true_eq, Bool.not_eq_true', decide_eq_false_iff_not, Bool.not_true, Bool.not_false, Bool.false_eq_true, if_true, if_false, reduceIte, gDiv_i, law_divisor_eq, e2, h, e, hs, hk, lA, lB, lN]
theorem law_same_eq (a b n : Int) : m_law_same [.tuple [.int a, .int b, .int n], .tuple [.int a, .int b, .int n]] = .ok (.bool true) := by
  simp +decide only [m_law_same, den_law_same, ev_seq, seq_nx, seq_rt, seq_ex, seq_bk, seq_ct, seq_ite, fl_ok, fl_ex, fl_ite, ev_set, kSet_ev, ev_ret, ev_retN, ev_nx, ev_bk, ev_ct, ev_raise, ev_if, kIf_ev, ev_drop, kNx_ev, ev_par, kPar_ev, kId_ev, ev_asg, kAsg_ev, ev_for, kFor_ev, ev_V, dVg_ok, ev_C, ev_1, ev_2, bind2_ok, bind2_ite1, bind2_ite2, bind_ite, ev_A, ev_nil, ev_cons, kCons_ev, ev_T, toB_ev, ev_and, ev_or, ev_not, kAnd_ev, kOr_ev, kNot_ev, ev_andV, ev_orV, ev_notV, kAndV_ev, kOrV_ev, kNotV_ev, ev_ife, kIfE_ev, ev_ch, kCh, tup_ev, lst_ev, call_ev, kw_ev, ev_kw, ev_fn, startE_0, startE_s, startE_c, fin_rt, fin_nx, fin_ex, fin_ite, ix_t0, ix_t1, ix_t2, ix_t3, ix_l0, ix_l1, ix_l2, len_l, len_t1, len_t2, len_t3, len_t4, beq_self_eq_true, ev_iL, ev_iT, asL_ev, asT_ev, ev_iA, ev_P, toI_ev, ev_P0, ev_sl, kSl_ev, put_1, gAdd_i, gSub_i, gMul_i, gDiv_p, gMod_p, gPow_l, gShl_l, gShr_l, gLt_i, gLe_i, gGt_i, gGe_i, gEq_i, gNe_i, gNeg_i, gAbs_i, gInt_i, gInt_b, gEq_s, gNe_s, gEq_b, gNe_b, gEq_2, gNe_2, gEq_3, gNe_3, gEq_22, gNe_22, DL.R.bind_ok, DL.R.bind_ex, ev_setL, kSetL_ev, ev_lDisp, kDisp_ev, ev_lList, lOf_l, lOf_t, ev_frz, frz_l, frz_d, frz_n, ev_lend, lend_l, lend_d, atom_i, atom_b, atom_s, ev_lendB, lendB_l, lendB_d, ev_app, app_l, kApp_ev, ev_put, put_l, ev_ixO, ixO_l, ixO_d, put_m, putAll_c, putAll_n, ev_lc, kLst_ev, ev_lcL, wipe_n, wipe_c, r1_2, r1_3, bits_ev, List.getElem?_cons_zero, List.getElem?_cons_succ, List.set_cons_zero, List.set_cons_succ, List.length_cons, List.length_nil, List.length_map, List.append_nil, List.cons_append, List.nil_append, ev_if, turn_nx, turn_ct, turn_bk, turn_rt, turn_ite, kWh_ev, isi_int_int, isi_bool_int, isi_int_bool, isi_bool_bool, isi_int_str, isi_int_none, isi_int_list, isi_int_tup, isi_bool_str, isi_bool_none, isi_bool_list, isi_bool_tup, isi_tup_tup, isi_tup_int, isi_tup_bool, isi_tup_str, isi_tup_none, isi_tup_list, isi_list_list, isi_list_tup, isi_list_int, isi_list_bool, isi_list_str, isi_list_none, isi_str_str, isi_str_int, isi_str_bool, isi_str_none, isi_str_list, isi_str_tup, decide_true, decide_false, not_true_eq_false, not_false_eq_true, ne_eq, decide_eq_true_eq, Bool.not_eq_true', decide_eq_false_iff_not, Bool.not_true, Bool.not_false, Bool.false_eq_true, if_true, if_false, reduceIte, law_whole_int, and_self]
theorem added_eq (a b n a' b' n' : Int) (hn : n * n' ≠ 0) {k1 k2 k3 k4 k5 k6 : Nat} [Bd a k1] [Bd b k2] [Bd n k3] [Bd a' k4] [Bd b' k5] [Bd n' k6] (h1 : k1 ≤ 4000000) (h2 : k2 ≤ 4000000) (h3 : k3 ≤ 4000) (h4 : k4 ≤ 4000000) (h5 : k5 ≤ 4000000) (h6 : k6 ≤ 4000) :
    m_added [.tuple [.int a, .int b, .int n], .tuple [.int a', .int b', .int n']] = .ok (.tuple [.int (lA (a * n' + a' * n) (b * n' + b' * n) (n * n')), .int (lB (a * n' + a' * n) (b * n' + b' * n) (n * n')), .int (lN (a * n' + a' * n) (b * n' + b' * n) (n * n'))]) := by
  have i1 : k3 + k6 ≤ 134217728 := by omega
  have i2 : k1 + k6 ≤ 134217728 := by omega
  have i3 : k4 + k3 ≤ 134217728 := by omega
  have i4 : k2 + k6 ≤ 134217728 := by omega
  have i5 : k5 + k3 ≤ 134217728 := by omega
  have i6 : k3 + k6 ≤ 9000 := by omega
  simp +decide only [m_added, den_added, ev_seq, seq_nx, seq_rt, seq_ex, seq_bk, seq_ct, seq_ite, fl_ok, fl_ex, fl_ite, ev_set, kSet_ev, ev_ret, ev_retN, ev_nx, ev_bk, ev_ct, ev_raise, ev_if, kIf_ev, ev_drop, kNx_ev, ev_par, kPar_ev, kId_ev, ev_asg, kAsg_ev, ev_for, kFor_ev, ev_V, dVg_ok, ev_C, ev_1, ev_2, bind2_ok, bind2_ite1, bind2_ite2, bind_ite, ev_A, ev_nil, ev_cons, kCons_ev, ev_T, toB_ev, ev_and, ev_or, ev_not, kAnd_ev, kOr_ev, kNot_ev, ev_andV, ev_orV, ev_notV, kAndV_ev, kOrV_ev, kNotV_ev, ev_ife, kIfE_ev, ev_ch, kCh, tup_ev, lst_ev, call_ev, kw_ev, ev_kw, ev_fn, startE_0, startE_s, startE_c, fin_rt, fin_nx, fin_ex, fin_ite, ix_t0, ix_t1, ix_t2, ix_t3, ix_l0, ix_l1, ix_l2, len_l, len_t1, len_t2, len_t3, len_t4, beq_self_eq_true, ev_iL, ev_iT, asL_ev, asT_ev, ev_iA, ev_P, toI_ev, ev_P0, ev_sl, kSl_ev, put_1, gAdd_i, gSub_i, gMul_i, gDiv_p, gMod_p, gPow_l, gShl_l, gShr_l, gLt_i, gLe_i, gGt_i, gGe_i, gEq_i, gNe_i, gNeg_i, gAbs_i, gInt_i, gInt_b, gEq_s, gNe_s, gEq_b, gNe_b, gEq_2, gNe_2, gEq_3, gNe_3, gEq_22, gNe_22, DL.R.bind_ok, DL.R.bind_ex, ev_setL, kSetL_ev, ev_lDisp, kDisp_ev, ev_lList, lOf_l, lOf_t, ev_frz, frz_l, frz_d, frz_n, ev_lend, lend_l, lend_d, atom_i, atom_b, atom_s, ev_lendB, lendB_l, lendB_d, ev_app, app_l, kApp_ev, ev_put, put_l, ev_ixO, ixO_l, ixO_d, put_m, putAll_c, putAll_n, ev_lc, kLst_ev, ev_lcL, wipe_n, wipe_c, r1_2, r1_3, bits_ev, List.getElem?_cons_zero, List.getElem?_cons_succ, List.set_cons_zero, List.set_cons_succ, List.length_cons, List.length_nil, List.length_map, List.append_nil, List.cons_append, List.nil_append, ev_if, turn_nx, turn_ct, turn_bk, turn_rt, turn_ite, kWh_ev, isi_int_int, isi_bool_int, isi_int_bool, isi_bool_bool, isi_int_str, isi_int_none, isi_int_list, isi_int_tup, isi_bool_str, isi_bool_none, isi_bool_list, isi_bool_tup, isi_tup_tup, isi_tup_int, isi_tup_bool, isi_tup_str, isi_tup_none, isi_tup_list, isi_list_list, isi_list_tup, isi_list_int, isi_list_bool, isi_list_str, isi_list_none, isi_str_str, isi_str_int, isi_str_bool, isi_str_none, isi_str_list, isi_str_tup, decide_true, decide_false, not_true_eq_false, not_false_eq_true, ne_eq, decide_eq_true_eq, Bool.not_eq_true', decide_eq_false_iff_not, Bool.not_true, Bool.not_false, Bool.false_eq_true, if_true, if_false, reduceIte, i1, i2, i3, i4, i5, i6, lowest_eq, hn]
theorem taken_eq (a b n a' b' n' : Int) (hn : n * n' ≠ 0) {k1 k2 k3 k4 k5 k6 : Nat} [Bd a k1] [Bd b k2] [Bd n k3] [Bd a' k4] [Bd b' k5] [Bd n' k6] (h1 : k1 ≤ 3900000) (h2 : k2 ≤ 3900000) (h3 : k3 ≤ 4000) (h4 : k4 ≤ 3900000) (h5 : k5 ≤ 3900000) (h6 : k6 ≤ 4000) :
    m_taken [.tuple [.int a, .int b, .int n], .tuple [.int a', .int b', .int n']] = .ok (.tuple [.int (lA (a * n' - a' * n) (b * n' - b' * n) (n * n')), .int (lB (a * n' - a' * n) (b * n' - b' * n) (n * n')), .int (lN (a * n' - a' * n) (b * n' - b' * n) (n * n'))]) := by
  have b1 : Bd (0 - a') k4 := by rw [Int.zero_sub]; infer_instance
  have b2 : Bd (0 - b') k5 := by rw [Int.zero_sub]; infer_instance
  have e := added_eq a b n (0 - a') (0 - b') n' hn (by omega) (by omega) h3 (by omega) (by omega) h6
  have e1 : a * n' + (0 - a') * n = a * n' - a' * n := by grind
  have e2 : b * n' + (0 - b') * n = b * n' - b' * n := by grind
  rw [e1, e2] at e
  simp +decide only [m_taken, den_taken, ev_seq, seq_nx, seq_rt, seq_ex, seq_bk, seq_ct, seq_ite, fl_ok, fl_ex, fl_ite, ev_set, kSet_ev, ev_ret, ev_retN, ev_nx, ev_bk, ev_ct, ev_raise, ev_if, kIf_ev, ev_drop, kNx_ev, ev_par, kPar_ev, kId_ev, ev_asg, kAsg_ev, ev_for, kFor_ev, ev_V, dVg_ok, ev_C, ev_1, ev_2, bind2_ok, bind2_ite1, bind2_ite2, bind_ite, ev_A, ev_nil, ev_cons, kCons_ev, ev_T, toB_ev, ev_and, ev_or, ev_not, kAnd_ev, kOr_ev, kNot_ev, ev_andV, ev_orV, ev_notV, kAndV_ev, kOrV_ev, kNotV_ev, ev_ife, kIfE_ev, ev_ch, kCh, tup_ev, lst_ev, call_ev, kw_ev, ev_kw, ev_fn, startE_0, startE_s, startE_c, fin_rt, fin_nx, fin_ex, fin_ite, ix_t0, ix_t1, ix_t2, ix_t3, ix_l0, ix_l1, ix_l2, len_l, len_t1, len_t2, len_t3, len_t4, beq_self_eq_true, ev_iL, ev_iT, asL_ev, asT_ev, ev_iA, ev_P, toI_ev, ev_P0, ev_sl, kSl_ev, put_1, gAdd_i, gSub_i, gMul_i, gDiv_p, gMod_p, gPow_l, gShl_l, gShr_l, gLt_i, gLe_i, gGt_i, gGe_i, gEq_i, gNe_i, gNeg_i, gAbs_i, gInt_i, gInt_b, gEq_s, gNe_s, gEq_b, gNe_b, gEq_2, gNe_2, gEq_3, gNe_3, gEq_22, gNe_22, DL.R.bind_ok, DL.R.bind_ex, ev_setL, kSetL_ev, ev_lDisp, kDisp_ev, ev_lList, lOf_l, lOf_t, ev_frz, frz_l, frz_d, frz_n, ev_lend, lend_l, lend_d, atom_i, atom_b, atom_s, ev_lendB, lendB_l, lendB_d, ev_app, app_l, kApp_ev, ev_put, put_l, ev_ixO, ixO_l, ixO_d, put_m, putAll_c, putAll_n, ev_lc, kLst_ev, ev_lcL, wipe_n, wipe_c, r1_2, r1_3, bits_ev, List.getElem?_cons_zero, List.getElem?_cons_succ, List.set_cons_zero, List.set_cons_succ, List.length_cons, List.length_nil, List.length_map, List.append_nil, List.cons_append, List.nil_append, ev_if, turn_nx, turn_ct, turn_bk, turn_rt, turn_ite, kWh_ev, isi_int_int, isi_bool_int, isi_int_bool, isi_bool_bool, isi_int_str, isi_int_none, isi_int_list, isi_int_tup, isi_bool_str, isi_bool_none, isi_bool_list, isi_bool_tup, isi_tup_tup, isi_tup_int, isi_tup_bool, isi_tup_str, isi_tup_none, isi_tup_list, isi_list_list, isi_list_tup, isi_list_int, isi_list_bool, isi_list_str, isi_list_none, isi_str_str, isi_str_int, isi_str_bool, isi_str_none, isi_str_list, isi_str_tup, decide_true, decide_false, not_true_eq_false, not_false_eq_true, ne_eq, decide_eq_true_eq, Bool.not_eq_true', decide_eq_false_iff_not, Bool.not_true, Bool.not_false, Bool.false_eq_true, if_true, if_false, reduceIte, e]
theorem lg1 : Nat.log2 1 = 0 := by decide
/-- a length drawn -/
theorem law_length_ok (c k most : Int) [Bd c 1048576] {m : Nat} [Bd k m] (hm : m ≤ 1000000) [bm : Bd most 140] (h1 : 10 ≤ most) : ∃ a b t : Int, m_law_length [.int c, .int k, .int most] = .ok (.tuple [.int a, .int b, .int t]) ∧ Low a b t ∧ Bd a 1400 ∧ Bd b 1400 ∧ Bd t 1401 := by
  have l10 : Nat.log2 10 = 3 := by decide
  have l20 : Nat.log2 20 = 4 := by decide
  have := lg1
  obtain ⟨a, ea, ba⟩ := law_number_ok c k most (by omega) (by omega)
  obtain ⟨b, eb, bb⟩ := law_number_ok c (k + 10) most (by omega) (by omega)
  obtain ⟨u, eu, bu⟩ := law_number_ok c (k + 20) (most / 10) (by omega) (by omega)
  have hn : (1 : Int) + (u.natAbs : Int) ≠ 0 := by omega
  have hbn : Bd ((1 : Int) + (u.natAbs : Int)) 1401 := Bd.mono inferInstance (by decide)
  refine ⟨_, _, _, ?_, low_of (a := a) (b := b) hn, inferInstance, inferInstance, inferInstance⟩
  simp +decide only [m_law_length, den_law_length, ev_seq, seq_nx, seq_rt, seq_ex, seq_bk, seq_ct, seq_ite, fl_ok, fl_ex, fl_ite, ev_set, kSet_ev, ev_ret, ev_retN, ev_nx, ev_bk, ev_ct, ev_raise, ev_if, kIf_ev, ev_drop, kNx_ev, ev_par, kPar_ev, kId_ev, ev_asg, kAsg_ev, ev_for, kFor_ev, ev_V, dVg_ok, ev_C, ev_1, ev_2, bind2_ok, bind2_ite1, bind2_ite2, bind_ite, ev_A, ev_nil, ev_cons, kCons_ev, ev_T, toB_ev, ev_and, ev_or, ev_not, kAnd_ev, kOr_ev, kNot_ev, ev_andV, ev_orV, ev_notV, kAndV_ev, kOrV_ev, kNotV_ev, ev_ife, kIfE_ev, ev_ch, kCh, tup_ev, lst_ev, call_ev, kw_ev, ev_kw, ev_fn, startE_0, startE_s, startE_c, fin_rt, fin_nx, fin_ex, fin_ite, ix_t0, ix_t1, ix_t2, ix_t3, ix_l0, ix_l1, ix_l2, len_l, len_t1, len_t2, len_t3, len_t4, beq_self_eq_true, ev_iL, ev_iT, asL_ev, asT_ev, ev_iA, ev_P, toI_ev, ev_P0, ev_sl, kSl_ev, put_1, gAdd_i, gSub_i, gMul_i, gDiv_p, gMod_p, gPow_l, gShl_l, gShr_l, gLt_i, gLe_i, gGt_i, gGe_i, gEq_i, gNe_i, gNeg_i, gAbs_i, gInt_i, gInt_b, gEq_s, gNe_s, gEq_b, gNe_b, gEq_2, gNe_2, gEq_3, gNe_3, gEq_22, gNe_22, DL.R.bind_ok, DL.R.bind_ex, ev_setL, kSetL_ev, ev_lDisp, kDisp_ev, ev_lList, lOf_l, lOf_t, ev_frz, frz_l, frz_d, frz_n, ev_lend, lend_l, lend_d, atom_i, atom_b, atom_s, ev_lendB, lendB_l, lendB_d, ev_app, app_l, kApp_ev, ev_put, put_l, ev_ixO, ixO_l, ixO_d, put_m, putAll_c, putAll_n, ev_lc, kLst_ev, ev_lcL, wipe_n, wipe_c, r1_2, r1_3, bits_ev, List.getElem?_cons_zero, List.getElem?_cons_succ, List.set_cons_zero, List.set_cons_succ, List.length_cons, List.length_nil, List.length_map, List.append_nil, List.cons_append, List.nil_append, ev_if, turn_nx, turn_ct, turn_bk, turn_rt, turn_ite, kWh_ev, isi_int_int, isi_bool_int, isi_int_bool, isi_bool_bool, isi_int_str, isi_int_none, isi_int_list, isi_int_tup, isi_bool_str, isi_bool_none, isi_bool_list, isi_bool_tup, isi_tup_tup, isi_tup_int, isi_tup_bool, isi_tup_str, isi_tup_none, isi_tup_list, isi_list_list, isi_list_tup, isi_list_int, isi_list_bool, isi_list_str, isi_list_none, isi_str_str, isi_str_int, isi_str_bool, isi_str_none, isi_str_list, isi_str_tup, decide_true, decide_false, not_true_eq_false, not_false_eq_true, ne_eq, decide_eq_true_eq, Bool.not_eq_true', decide_eq_false_iff_not, Bool.not_true, Bool.not_false, Bool.false_eq_true, if_true, if_false, reduceIte, ea, eb, eu, law_lowest_eq, hn]
theorem law_sum_eq (a b n a' b' n' s : Int) (hn : n * n' ≠ 0) {k1 k2 k3 k4 k5 k6 k7 : Nat} [Bd a k1] [Bd b k2] [Bd n k3] [Bd a' k4] [Bd b' k5] [Bd n' k6] [Bd s k7] (h1 : k1 ≤ 4000000) (h2 : k2 ≤ 4000000) (h3 : k3 ≤ 4000) (h4 : k4 ≤ 4000000) (h5 : k5 ≤ 4000000) (h6 : k6 ≤ 4000) (h7 : k7 ≤ 100) :
    m_law_sum [.tuple [.int a, .int b, .int n], .tuple [.int a', .int b', .int n'], .int s] = .ok (.tuple [.int (lA (a * n' + s * a' * n) (b * n' + s * b' * n) (n * n')), .int (lB (a * n' + s * a' * n) (b * n' + s * b' * n) (n * n')), .int (lN (a * n' + s * a' * n) (b * n' + s * b' * n) (n * n'))]) := by
  have i1 : k3 + k6 ≤ 134217728 := by omega
  have i2 : k1 + k6 ≤ 134217728 := by omega
  have i3 : k7 + k4 ≤ 134217728 := by omega
  have i3' : k7 + k4 + k3 ≤ 134217728 := by omega
  have i4 : k2 + k6 ≤ 134217728 := by omega
  have i5 : k7 + k5 ≤ 134217728 := by omega
  have i5' : k7 + k5 + k3 ≤ 134217728 := by omega
  have i6 : k3 + k6 ≤ 9000 := by omega
  simp +decide only [m_law_sum, den_law_sum, ev_seq, seq_nx, seq_rt, seq_ex, seq_bk, seq_ct, seq_ite, fl_ok, fl_ex, fl_ite, ev_set, kSet_ev, ev_ret, ev_retN, ev_nx, ev_bk, ev_ct, ev_raise, ev_if, kIf_ev, ev_drop, kNx_ev, ev_par, kPar_ev, kId_ev, ev_asg, kAsg_ev, ev_for, kFor_ev, ev_V, dVg_ok, ev_C, ev_1, ev_2, bind2_ok, bind2_ite1, bind2_ite2, bind_ite, ev_A, ev_nil, ev_cons, kCons_ev, ev_T, toB_ev, ev_and, ev_or, ev_not, kAnd_ev, kOr_ev, kNot_ev, ev_andV, ev_orV, ev_notV, kAndV_ev, kOrV_ev, kNotV_ev, ev_ife, kIfE_ev, ev_ch, kCh, tup_ev, lst_ev, call_ev, kw_ev, ev_kw, ev_fn, startE_0, startE_s, startE_c, fin_rt, fin_nx, fin_ex, fin_ite, ix_t0, ix_t1, ix_t2, ix_t3, ix_l0, ix_l1, ix_l2, len_l, len_t1, len_t2, len_t3, len_t4, beq_self_eq_true, ev_iL, ev_iT, asL_ev, asT_ev, ev_iA, ev_P, toI_ev, ev_P0, ev_sl, kSl_ev, put_1, gAdd_i, gSub_i, gMul_i, gDiv_p, gMod_p, gPow_l, gShl_l, gShr_l, gLt_i, gLe_i, gGt_i, gGe_i, gEq_i, gNe_i, gNeg_i, gAbs_i, gInt_i, gInt_b, gEq_s, gNe_s, gEq_b, gNe_b, gEq_2, gNe_2, gEq_3, gNe_3, gEq_22, gNe_22, DL.R.bind_ok, DL.R.bind_ex, ev_setL, kSetL_ev, ev_lDisp, kDisp_ev, ev_lList, lOf_l, lOf_t, ev_frz, frz_l, frz_d, frz_n, ev_lend, lend_l, lend_d, atom_i, atom_b, atom_s, ev_lendB, lendB_l, lendB_d, ev_app, app_l, kApp_ev, ev_put, put_l, ev_ixO, ixO_l, ixO_d, put_m, putAll_c, putAll_n, ev_lc, kLst_ev, ev_lcL, wipe_n, wipe_c, r1_2, r1_3, bits_ev, List.getElem?_cons_zero, List.getElem?_cons_succ, List.set_cons_zero, List.set_cons_succ, List.length_cons, List.length_nil, List.length_map, List.append_nil, List.cons_append, List.nil_append, ev_if, turn_nx, turn_ct, turn_bk, turn_rt, turn_ite, kWh_ev, isi_int_int, isi_bool_int, isi_int_bool, isi_bool_bool, isi_int_str, isi_int_none, isi_int_list, isi_int_tup, isi_bool_str, isi_bool_none, isi_bool_list, isi_bool_tup, isi_tup_tup, isi_tup_int, isi_tup_bool, isi_tup_str, isi_tup_none, isi_tup_list, isi_list_list, isi_list_tup, isi_list_int, isi_list_bool, isi_list_str, isi_list_none, isi_str_str, isi_str_int, isi_str_bool, isi_str_none, isi_str_list, isi_str_tup, decide_true, decide_false, not_true_eq_false, not_false_eq_true, ne_eq, decide_eq_true_eq, Bool.not_eq_true', decide_eq_false_iff_not, Bool.not_true, Bool.not_false, Bool.false_eq_true, if_true, if_false, reduceIte, i1, i2, i3, i3', i4, i5, i5', i6, law_lowest_eq, hn]
/-- the cells that a law's loop goes over -/
theorem cells_of {ns : List Int} {zs : List Int} {k : Nat} (hb : ∀ z ∈ ns, PySem.Builtin.Int.intBits z ≤ 1048576) {b : Nat} (hz : ∀ z ∈ zs, z.natAbs < 2 ^ 200) {d : PD} (hd : d ∈ zs.map PyData.int ++ (ns.map PyData.int).take k) : ∃ z : Int, d = .int z ∧ Bd z 1048576 := by
  rw [List.mem_append] at hd
  rcases hd with hd | hd
  · obtain ⟨z, h, rfl⟩ := List.mem_map.mp hd
    exact ⟨z, rfl, Bd.mono ⟨hz z h⟩ (by decide)⟩
  · obtain ⟨z, h, rfl⟩ := List.mem_map.mp (List.mem_of_mem_take hd)
    exact ⟨z, rfl, cell_bd (hb z h)⟩
/-! fractions -/
instance bd_fT {a b : Int} {k : Nat} [Bd a k] : Bd (fT a b) k := bd_lA
instance bd_fB {a b : Int} {k : Nat} [Bd b k] : Bd (fB a b) k := bd_lN
theorem bd_shrF {a b : Int} (hb : b ≠ 0) {k : Nat} (h : Bd b k) : Bd (shr (Int.gcd a b) b) k := by
  have := bd_shr (a := a) (b := 0) hb h
  rw [g3_zero] at this
  exact this
theorem gcd_ne {a b : Int} (hb : b ≠ 0) : Int.gcd a b ≠ 0 := fun e => hb (Int.gcd_eq_zero_iff.mp e).2
theorem fraction_eq (t b : Int) (hb : b ≠ 0) {k : Nat} [h3 : Bd b k] (hk : k ≤ 9000) : m_fraction [.int t, .int b] = .ok (.tuple [.int (fT t b), .int (fB t b)]) := by
  have hs : shr (Int.gcd t b) b ≠ 0 := shr_ne (gcd_ne hb)
  have bs : Bd (shr (Int.gcd t b) b) k := bd_shrF hb h3
  by_cases h : b < 0
  · have e : 0 - ((Int.gcd t b : Nat) : Int) = shr (Int.gcd t b) b := by unfold shr; rw [if_pos h]
    simp +decide only [m_fraction, den_fraction, ev_seq, seq_nx, seq_rt, seq_ex, seq_bk, seq_ct, seq_ite, fl_ok, fl_ex, fl_ite, ev_set, kSet_ev, ev_ret, ev_retN, ev_nx, ev_bk, ev_ct, ev_raise, ev_if, kIf_ev, ev_drop, kNx_ev, ev_par, kPar_ev, kId_ev, ev_asg, kAsg_ev, ev_for, kFor_ev, ev_V, dVg_ok, ev_C, ev_1, ev_2, bind2_ok, bind2_ite1, bind2_ite2, bind_ite, ev_A, ev_nil, ev_cons, kCons_ev, ev_T, toB_ev, ev_and, ev_or, ev_not, kAnd_ev, kOr_ev, kNot_ev, ev_andV, ev_orV, ev_notV, kAndV_ev, kOrV_ev, kNotV_ev, ev_ife, kIfE_ev, ev_ch, kCh, tup_ev, lst_ev, call_ev, kw_ev, ev_kw, ev_fn, startE_0, startE_s, startE_c, fin_rt, fin_nx, fin_ex, fin_ite, ix_t0, ix_t1, ix_t2, ix_t3, ix_l0, ix_l1, ix_l2, len_l, len_t1, len_t2, len_t3, len_t4, beq_self_eq_true, ev_iL, ev_iT, asL_ev, asT_ev, ev_iA, ev_P, toI_ev, ev_P0, ev_sl, kSl_ev, put_1, gAdd_i, gSub_i, gMul_i, gDiv_p, gMod_p, gPow_l, gShl_l, gShr_l, gLt_i, gLe_i, gGt_i, gGe_i, gEq_i, gNe_i, gNeg_i, gAbs_i, gInt_i, gInt_b, gEq_s, gNe_s, gEq_b, gNe_b, gEq_2, gNe_2, gEq_3, gNe_3, gEq_22, gNe_22, DL.R.bind_ok, DL.R.bind_ex, ev_setL, kSetL_ev, ev_lDisp, kDisp_ev, ev_lList, lOf_l, lOf_t, ev_frz, frz_l, frz_d, frz_n, ev_lend, lend_l, lend_d, atom_i, atom_b, atom_s, ev_lendB, lendB_l, lendB_d, ev_app, app_l, kApp_ev, ev_put, put_l, ev_ixO, ixO_l, ixO_d, put_m, putAll_c, putAll_n, ev_lc, kLst_ev, ev_lcL, wipe_n, wipe_c, r1_2, r1_3, bits_ev, List.getElem?_cons_zero, List.getElem?_cons_succ, List.set_cons_zero, List.set_cons_succ, List.length_cons, List.length_nil, List.length_map, List.append_nil, List.cons_append, List.nil_append, ev_if, turn_nx, turn_ct, turn_bk, turn_rt, turn_ite, kWh_ev, isi_int_int, isi_bool_int, isi_int_bool, isi_bool_bool, isi_int_str, isi_int_none, isi_int_list, isi_int_tup, isi_bool_str, isi_bool_none, isi_bool_list, isi_bool_tup, isi_tup_tup, isi_tup_int, isi_tup_bool, isi_tup_str, isi_tup_none, isi_tup_list, isi_list_list, isi_list_tup, isi_list_int, isi_list_bool, isi_list_str, isi_list_none, isi_str_str, isi_str_int, isi_str_bool, isi_str_none, isi_str_list, isi_str_tup, decide_true, decide_false, not_true_eq_false, not_false_eq_true, ne_eq, decide_eq_true_eq, Bool.not_eq_true', decide_eq_false_iff_not, Bool.not_true, Bool.not_false, Bool.false_eq_true, if_true, if_false, reduceIte, gDiv_i, divisor_eq, h, e, hs, hk, fT_eq, fB_eq]
  · have e : ((Int.gcd t b : Nat) : Int) = shr (Int.gcd t b) b := by unfold shr; rw [if_neg h]
    simp +decide only [m_fraction, den_fraction, ev_seq, seq_nx, seq_rt, seq_ex, seq_bk, seq_ct, seq_ite, fl_ok, fl_ex, fl_ite, ev_set, kSet_ev, ev_ret, ev_retN, ev_nx, ev_bk, ev_ct, ev_raise, ev_if, kIf_ev, ev_drop, kNx_ev, ev_par, kPar_ev, kId_ev, ev_asg, kAsg_ev, ev_for, kFor_ev, ev_V, dVg_ok, ev_C, ev_1, ev_2, bind2_ok, bind2_ite1, bind2_ite2, bind_ite, ev_A, ev_nil, ev_cons, kCons_ev, ev_T, toB_ev, ev_and, ev_or, ev_not, kAnd_ev, kOr_ev, kNot_ev, ev_andV, ev_orV, ev_notV, kAndV_ev, kOrV_ev, kNotV_ev, ev_ife, kIfE_ev, ev_ch, kCh, tup_ev, lst_ev, call_ev, kw_ev, ev_kw, ev_fn, startE_0, startE_s, startE_c, fin_rt, fin_nx, fin_ex, fin_ite, ix_t0, ix_t1, ix_t2, ix_t3, ix_l0, ix_l1, ix_l2, len_l, len_t1, len_t2, len_t3, len_t4, beq_self_eq_true, ev_iL, ev_iT, asL_ev, asT_ev, ev_iA, ev_P, toI_ev, ev_P0, ev_sl, kSl_ev, put_1, gAdd_i, gSub_i, gMul_i, gDiv_p, gMod_p, gPow_l, gShl_l, gShr_l, gLt_i, gLe_i, gGt_i, gGe_i, gEq_i, gNe_i, gNeg_i, gAbs_i, gInt_i, gInt_b, gEq_s, gNe_s, gEq_b, gNe_b, gEq_2, gNe_2, gEq_3, gNe_3, gEq_22, gNe_22, DL.R.bind_ok, DL.R.bind_ex, ev_setL, kSetL_ev, ev_lDisp, kDisp_ev, ev_lList, lOf_l, lOf_t, ev_frz, frz_l, frz_d, frz_n, ev_lend, lend_l, lend_d, atom_i, atom_b, atom_s, ev_lendB, lendB_l, lendB_d, ev_app, app_l, kApp_ev, ev_put, put_l, ev_ixO, ixO_l, ixO_d, put_m, putAll_c, putAll_n, ev_lc, kLst_ev, ev_lcL, wipe_n, wipe_c, r1_2, r1_3, bits_ev, List.getElem?_cons_zero, List.getElem?_cons_succ, List.set_cons_zero, List.set_cons_succ, List.length_cons, List.length_nil, List.length_map, List.append_nil, List.cons_append, List.nil_append, ev_if, turn_nx, turn_ct, turn_bk, turn_rt, turn_ite, kWh_ev, isi_int_int, isi_bool_int, isi_int_bool, isi_bool_bool, isi_int_str, isi_int_none, isi_int_list, isi_int_tup, isi_bool_str, isi_bool_none, isi_bool_list, isi_bool_tup, isi_tup_tup, isi_tup_int, isi_tup_bool, isi_tup_str, isi_tup_none, isi_tup_list, isi_list_list, isi_list_tup, isi_list_int, isi_list_bool, isi_list_str, isi_list_none, isi_str_str, isi_str_int, isi_str_bool, isi_str_none, isi_str_list, isi_str_tup, decide_true, decide_false, not_true_eq_false, not_false_eq_true, ne_eq, decide_eq_true_eq, Bool.not_eq_true', decide_eq_false_iff_not, Bool.not_true, Bool.not_false, Bool.false_eq_true, if_true, if_false, reduceIte, gDiv_i, divisor_eq, h, e, hs, hk, fT_eq, fB_eq]
theorem parts_eq (a b n : Int) (hn : n ≠ 0) {k : Nat} [h3 : Bd n k] (hk : k ≤ 9000) : m_parts [.tuple [.int a, .int b, .int n]] = .ok (.tuple [.tuple [.int (fT a n), .int (fB a n)], .tuple [.int (fT b n), .int (fB b n)]]) := by
  simp +decide only [m_parts, den_parts, ev_seq, seq_nx, seq_rt, seq_ex, seq_bk, seq_ct, seq_ite, fl_ok, fl_ex, fl_ite, ev_set, kSet_ev, ev_ret, ev_retN, ev_nx, ev_bk, ev_ct, ev_raise, ev_if, kIf_ev, ev_drop, kNx_ev, ev_par, kPar_ev, kId_ev, ev_asg, kAsg_ev, ev_for, kFor_ev, ev_V, dVg_ok, ev_C, ev_1, ev_2, bind2_ok, bind2_ite1, bind2_ite2, bind_ite, ev_A, ev_nil, ev_cons, kCons_ev, ev_T, toB_ev, ev_and, ev_or, ev_not, kAnd_ev, kOr_ev, kNot_ev, ev_andV, ev_orV, ev_notV, kAndV_ev, kOrV_ev, kNotV_ev, ev_ife, kIfE_ev, ev_ch, kCh, tup_ev, lst_ev, call_ev, kw_ev, ev_kw, ev_fn, startE_0, startE_s, startE_c, fin_rt, fin_nx, fin_ex, fin_ite, ix_t0, ix_t1, ix_t2, ix_t3, ix_l0, ix_l1, ix_l2, len_l, len_t1, len_t2, len_t3, len_t4, beq_self_eq_true, ev_iL, ev_iT, asL_ev, asT_ev, ev_iA, ev_P, toI_ev, ev_P0, ev_sl, kSl_ev, put_1, gAdd_i, gSub_i, gMul_i, gDiv_p, gMod_p, gPow_l, gShl_l, gShr_l, gLt_i, gLe_i, gGt_i, gGe_i, gEq_i, gNe_i, gNeg_i, gAbs_i, gInt_i, gInt_b, gEq_s, gNe_s, gEq_b, gNe_b, gEq_2, gNe_2, gEq_3, gNe_3, gEq_22, gNe_22, DL.R.bind_ok, DL.R.bind_ex, ev_setL, kSetL_ev, ev_lDisp, kDisp_ev, ev_lList, lOf_l, lOf_t, ev_frz, frz_l, frz_d, frz_n, ev_lend, lend_l, lend_d, atom_i, atom_b, atom_s, ev_lendB, lendB_l, lendB_d, ev_app, app_l, kApp_ev, ev_put, put_l, ev_ixO, ixO_l, ixO_d, put_m, putAll_c, putAll_n, ev_lc, kLst_ev, ev_lcL, wipe_n, wipe_c, r1_2, r1_3, bits_ev, List.getElem?_cons_zero, List.getElem?_cons_succ, List.set_cons_zero, List.set_cons_succ, List.length_cons, List.length_nil, List.length_map, List.append_nil, List.cons_append, List.nil_append, ev_if, turn_nx, turn_ct, turn_bk, turn_rt, turn_ite, kWh_ev, isi_int_int, isi_bool_int, isi_int_bool, isi_bool_bool, isi_int_str, isi_int_none, isi_int_list, isi_int_tup, isi_bool_str, isi_bool_none, isi_bool_list, isi_bool_tup, isi_tup_tup, isi_tup_int, isi_tup_bool, isi_tup_str, isi_tup_none, isi_tup_list, isi_list_list, isi_list_tup, isi_list_int, isi_list_bool, isi_list_str, isi_list_none, isi_str_str, isi_str_int, isi_str_bool, isi_str_none, isi_str_list, isi_str_tup, decide_true, decide_false, not_true_eq_false, not_false_eq_true, ne_eq, decide_eq_true_eq, Bool.not_eq_true', decide_eq_false_iff_not, Bool.not_true, Bool.not_false, Bool.false_eq_true, if_true, if_false, reduceIte, fraction_eq, hn, hk]
theorem by_parts_eq (p q r s : Int) (hn : q * s ≠ 0) {k1 k2 k3 k4 : Nat} [Bd p k1] [Bd q k2] [Bd r k3] [Bd s k4] (h1 : k1 ≤ 4000) (h2 : k2 ≤ 4000) (h3 : k3 ≤ 4000) (h4 : k4 ≤ 4000) :
    m_by_parts [.tuple [.int p, .int q], .tuple [.int r, .int s]] = .ok (.tuple [.int (lA (p * s) (r * q) (q * s)), .int (lB (p * s) (r * q) (q * s)), .int (lN (p * s) (r * q) (q * s))]) := by
  have i1 : k2 + k4 ≤ 134217728 := by omega
  have i2 : k1 + k4 ≤ 134217728 := by omega
  have i3 : k3 + k2 ≤ 134217728 := by omega
  have i6 : k2 + k4 ≤ 9000 := by omega
  simp +decide only [m_by_parts, den_by_parts, ev_seq, seq_nx, seq_rt, seq_ex, seq_bk, seq_ct, seq_ite, fl_ok, fl_ex, fl_ite, ev_set, kSet_ev, ev_ret, ev_retN, ev_nx, ev_bk, ev_ct, ev_raise, ev_if, kIf_ev, ev_drop, kNx_ev, ev_par, kPar_ev, kId_ev, ev_asg, kAsg_ev, ev_for, kFor_ev, ev_V, dVg_ok, ev_C, ev_1, ev_2, bind2_ok, bind2_ite1, bind2_ite2, bind_ite, ev_A, ev_nil, ev_cons, kCons_ev, ev_T, toB_ev, ev_and, ev_or, ev_not, kAnd_ev, kOr_ev, kNot_ev, ev_andV, ev_orV, ev_notV, kAndV_ev, kOrV_ev, kNotV_ev, ev_ife, kIfE_ev, ev_ch, kCh, tup_ev, lst_ev, call_ev, kw_ev, ev_kw, ev_fn, startE_0, startE_s, startE_c, fin_rt, fin_nx, fin_ex, fin_ite, ix_t0, ix_t1, ix_t2, ix_t3, ix_l0, ix_l1, ix_l2, len_l, len_t1, len_t2, len_t3, len_t4, beq_self_eq_true, ev_iL, ev_iT, asL_ev, asT_ev, ev_iA, ev_P, toI_ev, ev_P0, ev_sl, kSl_ev, put_1, gAdd_i, gSub_i, gMul_i, gDiv_p, gMod_p, gPow_l, gShl_l, gShr_l, gLt_i, gLe_i, gGt_i, gGe_i, gEq_i, gNe_i, gNeg_i, gAbs_i, gInt_i, gInt_b, gEq_s, gNe_s, gEq_b, gNe_b, gEq_2, gNe_2, gEq_3, gNe_3, gEq_22, gNe_22, DL.R.bind_ok, DL.R.bind_ex, ev_setL, kSetL_ev, ev_lDisp, kDisp_ev, ev_lList, lOf_l, lOf_t, ev_frz, frz_l, frz_d, frz_n, ev_lend, lend_l, lend_d, atom_i, atom_b, atom_s, ev_lendB, lendB_l, lendB_d, ev_app, app_l, kApp_ev, ev_put, put_l, ev_ixO, ixO_l, ixO_d, put_m, putAll_c, putAll_n, ev_lc, kLst_ev, ev_lcL, wipe_n, wipe_c, r1_2, r1_3, bits_ev, List.getElem?_cons_zero, List.getElem?_cons_succ, List.set_cons_zero, List.set_cons_succ, List.length_cons, List.length_nil, List.length_map, List.append_nil, List.cons_append, List.nil_append, ev_if, turn_nx, turn_ct, turn_bk, turn_rt, turn_ite, kWh_ev, isi_int_int, isi_bool_int, isi_int_bool, isi_bool_bool, isi_int_str, isi_int_none, isi_int_list, isi_int_tup, isi_bool_str, isi_bool_none, isi_bool_list, isi_bool_tup, isi_tup_tup, isi_tup_int, isi_tup_bool, isi_tup_str, isi_tup_none, isi_tup_list, isi_list_list, isi_list_tup, isi_list_int, isi_list_bool, isi_list_str, isi_list_none, isi_str_str, isi_str_int, isi_str_bool, isi_str_none, isi_str_list, isi_str_tup, decide_true, decide_false, not_true_eq_false, not_false_eq_true, ne_eq, decide_eq_true_eq, Bool.not_eq_true', decide_eq_false_iff_not, Bool.not_true, Bool.not_false, Bool.false_eq_true, if_true, if_false, reduceIte, lowest_eq, hn, i1, i2, i3, i6]
theorem law_is_fraction_eq (A B t u : Int) (h : LowF A B) (hc : A * u = t * B) {k1 k2 k3 k4 : Nat} [Bd A k1] [Bd B k2] [Bd t k3] [Bd u k4] (h1 : k1 ≤ 4000000) (h2 : k2 ≤ 4000000) (h3 : k3 ≤ 4000000) (h4 : k4 ≤ 4000000) :
    m_law_is_fraction [.tuple [.int A, .int B], .int t, .int u] = .ok (.bool true) := by
  have g : ((Int.gcd A B : Nat) : Int) = 1 := by rw [h.2]; rfl
  have p : ¬ B < 1 := by have := h.1; omega
  have i1 : k1 + k4 ≤ 134217728 := by omega
  have i2 : k3 + k2 ≤ 134217728 := by omega
  simp +decide only [m_law_is_fraction, den_law_is_fraction, ev_seq, seq_nx, seq_rt, seq_ex, seq_bk, seq_ct, seq_ite, fl_ok, fl_ex, fl_ite, ev_set, kSet_ev, ev_ret, ev_retN, ev_nx, ev_bk, ev_ct, ev_raise, ev_if, kIf_ev, ev_drop, kNx_ev, ev_par, kPar_ev, kId_ev, ev_asg, kAsg_ev, ev_for, kFor_ev, ev_V, dVg_ok, ev_C, ev_1, ev_2, bind2_ok, bind2_ite1, bind2_ite2, bind_ite, ev_A, ev_nil, ev_cons, kCons_ev, ev_T, toB_ev, ev_and, ev_or, ev_not, kAnd_ev, kOr_ev, kNot_ev, ev_andV, ev_orV, ev_notV, kAndV_ev, kOrV_ev, kNotV_ev, ev_ife, kIfE_ev, ev_ch, kCh, tup_ev, lst_ev, call_ev, kw_ev, ev_kw, ev_fn, startE_0, startE_s, startE_c, fin_rt, fin_nx, fin_ex, fin_ite, ix_t0, ix_t1, ix_t2, ix_t3, ix_l0, ix_l1, ix_l2, len_l, len_t1, len_t2, len_t3, len_t4, beq_self_eq_true, ev_iL, ev_iT, asL_ev, asT_ev, ev_iA, ev_P, toI_ev, ev_P0, ev_sl, kSl_ev, put_1, gAdd_i, gSub_i, gMul_i, gDiv_p, gMod_p, gPow_l, gShl_l, gShr_l, gLt_i, gLe_i, gGt_i, gGe_i, gEq_i, gNe_i, gNeg_i, gAbs_i, gInt_i, gInt_b, gEq_s, gNe_s, gEq_b, gNe_b, gEq_2, gNe_2, gEq_3, gNe_3, gEq_22, gNe_22, DL.R.bind_ok, DL.R.bind_ex, ev_setL, kSetL_ev, ev_lDisp, kDisp_ev, ev_lList, lOf_l, lOf_t, ev_frz, frz_l, frz_d, frz_n, ev_lend, lend_l, lend_d, atom_i, atom_b, atom_s, ev_lendB, lendB_l, lendB_d, ev_app, app_l, kApp_ev, ev_put, put_l, ev_ixO, ixO_l, ixO_d, put_m, putAll_c, putAll_n, ev_lc, kLst_ev, ev_lcL, wipe_n, wipe_c, r1_2, r1_3, bits_ev, List.getElem?_cons_zero, List.getElem?_cons_succ, List.set_cons_zero, List.set_cons_succ, List.length_cons, List.length_nil, List.length_map, List.append_nil, List.cons_append, List.nil_append, ev_if, turn_nx, turn_ct, turn_bk, turn_rt, turn_ite, kWh_ev, isi_int_int, isi_bool_int, isi_int_bool, isi_bool_bool, isi_int_str, isi_int_none, isi_int_list, isi_int_tup, isi_bool_str, isi_bool_none, isi_bool_list, isi_bool_tup, isi_tup_tup, isi_tup_int, isi_tup_bool, isi_tup_str, isi_tup_none, isi_tup_list, isi_list_list, isi_list_tup, isi_list_int, isi_list_bool, isi_list_str, isi_list_none, isi_str_str, isi_str_int, isi_str_bool, isi_str_none, isi_str_list, isi_str_tup, decide_true, decide_false, not_true_eq_false, not_false_eq_true, ne_eq, decide_eq_true_eq, Bool.not_eq_true', decide_eq_false_iff_not, Bool.not_true, Bool.not_false, Bool.false_eq_true, if_true, if_false, reduceIte, law_whole_int, law_divisor_eq, g, p, i1, i2, hc]
end DL

set_option Elab.async false
set_option linter.all false
set_option maxRecDepth 100000
set_option maxHeartbeats 1000000
set_option autoImplicit false
/-! what the defs of fractions are worth -/
namespace DL
open PySem L2 MB
theorem law_fraction_loop : ∀ (k : Nat) (t b x y : Int), 0 ≤ x → 0 ≤ y → y.natAbs ≤ k → sWhile lt1_law_fraction lb1_law_fraction [some (.d (.int t)), some (.d (.int b)), some (.d (.int x)), some (.d (.int y))] = .nx [some (.d (.int t)), some (.d (.int b)), some (.d (.int (Int.gcd x y : Int))), some (.d (.int 0))] := by
  intro k
  induction k with
  | zero =>
    intro t b x y hx hy h
    have hb : y = 0 := by omega
    subst hb
    rw [ev_while]
    have : (x.natAbs : Int) = x := by omega
    simp +decide only [lt1_law_fraction, ev_seq, seq_nx, seq_rt, seq_ex, seq_bk, seq_ct, seq_ite, fl_ok, fl_ex, fl_ite, ev_set, kSet_ev, ev_ret, ev_retN, ev_nx, ev_bk, ev_ct, ev_raise, ev_if, kIf_ev, ev_drop, kNx_ev, ev_par, kPar_ev, kId_ev, ev_asg, kAsg_ev, ev_for, kFor_ev, ev_V, dVg_ok, ev_C, ev_1, ev_2, bind2_ok, bind2_ite1, bind2_ite2, bind_ite, ev_A, ev_nil, ev_cons, kCons_ev, ev_T, toB_ev, ev_and, ev_or, ev_not, kAnd_ev, kOr_ev, kNot_ev, ev_andV, ev_orV, ev_notV, kAndV_ev, kOrV_ev, kNotV_ev, ev_ife, kIfE_ev, ev_ch, kCh, tup_ev, lst_ev, call_ev, kw_ev, ev_kw, ev_fn, startE_0, startE_s, startE_c, fin_rt, fin_nx, fin_ex, fin_ite, ix_t0, ix_t1, ix_t2, ix_t3, ix_l0, ix_l1, ix_l2, len_l, len_t1, len_t2, len_t3, len_t4, beq_self_eq_true, ev_iL, ev_iT, asL_ev, asT_ev, ev_iA, ev_P, toI_ev, ev_P0, ev_sl, kSl_ev, put_1, gAdd_i, gSub_i, gMul_i, gDiv_p, gMod_p, gPow_l, gShl_l, gShr_l, gLt_i, gLe_i, gGt_i, gGe_i, gEq_i, gNe_i, gNeg_i, gAbs_i, gInt_i, gInt_b, gEq_s, gNe_s, gEq_b, gNe_b, gEq_2, gNe_2, gEq_3, gNe_3, gEq_22, gNe_22, DL.R.bind_ok, DL.R.bind_ex, ev_setL, kSetL_ev, ev_lDisp, kDisp_ev, ev_lList, lOf_l, lOf_t, ev_frz, frz_l, frz_d, frz_n, ev_lend, lend_l, lend_d, atom_i, atom_b, atom_s, ev_lendB, lendB_l, lendB_d, ev_app, app_l, kApp_ev, ev_put, put_l, ev_ixO, ixO_l, ixO_d, put_m, putAll_c, putAll_n, ev_lc, kLst_ev, ev_lcL, wipe_n, wipe_c, r1_2, r1_3, bits_ev, List.getElem?_cons_zero, List.getElem?_cons_succ, List.set_cons_zero, List.set_cons_succ, List.length_cons, List.length_nil, List.length_map, List.append_nil, List.cons_append, List.nil_append, ev_if, turn_nx, turn_ct, turn_bk, turn_rt, turn_ite, kWh_ev, isi_int_int, isi_bool_int, isi_int_bool, isi_bool_bool, isi_int_str, isi_int_none, isi_int_list, isi_int_tup, isi_bool_str, isi_bool_none, isi_bool_list, isi_bool_tup, isi_tup_tup, isi_tup_int, isi_tup_bool, isi_tup_str, isi_tup_none, isi_tup_list, isi_list_list, isi_list_tup, isi_list_int, isi_list_bool, isi_list_str, isi_list_none, isi_str_str, isi_str_int, isi_str_bool, isi_str_none, isi_str_list, isi_str_tup, decide_true, decide_false, not_true_eq_false, not_false_eq_true, ne_eq, decide_eq_true_eq, Bool.not_eq_true', decide_eq_false_iff_not, Bool.not_true, Bool.not_false, Bool.false_eq_true, if_true, if_false, reduceIte, Int.gcd_zero, this]
  | succ k ih =>
    intro t b x y hx hy h
    by_cases hb : y = 0
    · subst hb
      rw [ev_while]
      have : (x.natAbs : Int) = x := by omega
      simp +decide only [lt1_law_fraction, ev_seq, seq_nx, seq_rt, seq_ex, seq_bk, seq_ct, seq_ite, fl_ok, fl_ex, fl_ite, ev_set, kSet_ev, ev_ret, ev_retN, ev_nx, ev_bk, ev_ct, ev_raise, ev_if, kIf_ev, ev_drop, kNx_ev, ev_par, kPar_ev, kId_ev, ev_asg, kAsg_ev, ev_for, kFor_ev, ev_V, dVg_ok, ev_C, ev_1, ev_2, bind2_ok, bind2_ite1, bind2_ite2, bind_ite, ev_A, ev_nil, ev_cons, kCons_ev, ev_T, toB_ev, ev_and, ev_or, ev_not, kAnd_ev, kOr_ev, kNot_ev, ev_andV, ev_orV, ev_notV, kAndV_ev, kOrV_ev, kNotV_ev, ev_ife, kIfE_ev, ev_ch, kCh, tup_ev, lst_ev, call_ev, kw_ev, ev_kw, ev_fn, startE_0, startE_s, startE_c, fin_rt, fin_nx, fin_ex, fin_ite, ix_t0, ix_t1, ix_t2, ix_t3, ix_l0, ix_l1, ix_l2, len_l, len_t1, len_t2, len_t3, len_t4, beq_self_eq_true, ev_iL, ev_iT, asL_ev, asT_ev, ev_iA, ev_P, toI_ev, ev_P0, ev_sl, kSl_ev, put_1, gAdd_i, gSub_i, gMul_i, gDiv_p, gMod_p, gPow_l, gShl_l, gShr_l, gLt_i, gLe_i, gGt_i, gGe_i, gEq_i, gNe_i, gNeg_i, gAbs_i, gInt_i, gInt_b, gEq_s, gNe_s, gEq_b, gNe_b, gEq_2, gNe_2, gEq_3, gNe_3, gEq_22, gNe_22, DL.R.bind_ok, DL.R.bind_ex, ev_setL, kSetL_ev, ev_lDisp, kDisp_ev, ev_lList, lOf_l, lOf_t, ev_frz, frz_l, frz_d, frz_n, ev_lend, lend_l, lend_d, atom_i, atom_b, atom_s, ev_lendB, lendB_l, lendB_d, ev_app, app_l, kApp_ev, ev_put, put_l, ev_ixO, ixO_l, ixO_d, put_m, putAll_c, putAll_n, ev_lc, kLst_ev, ev_lcL, wipe_n, wipe_c, r1_2, r1_3, bits_ev, List.getElem?_cons_zero, List.getElem?_cons_succ, List.set_cons_zero, List.set_cons_succ, List.length_cons, List.length_nil, List.length_map, List.append_nil, List.cons_append, List.nil_append, ev_if, turn_nx, turn_ct, turn_bk, turn_rt, turn_ite, kWh_ev, isi_int_int, isi_bool_int, isi_int_bool, isi_bool_bool, isi_int_str, isi_int_none, isi_int_list, isi_int_tup, isi_bool_str, isi_bool_none, isi_bool_list, isi_bool_tup, isi_tup_tup, isi_tup_int, isi_tup_bool, isi_tup_str, isi_tup_none, isi_tup_list, isi_list_list, isi_list_tup, isi_list_int, isi_list_bool, isi_list_str, isi_list_none, isi_str_str, isi_str_int, isi_str_bool, isi_str_none, isi_str_list, isi_str_tup, decide_true, decide_false, not_true_eq_false, not_false_eq_true, ne_eq, decide_eq_true_eq, Bool.not_eq_true', decide_eq_false_iff_not, Bool.not_true, Bool.not_false, Bool.false_eq_true, if_true, if_false, reduceIte, Int.gcd_zero, this]
    · have hp : 0 < y := by omega
      have e := ih t b y (x % y) hy (Int.emod_nonneg x hb) (by
        have h1 := Int.emod_lt_of_pos x hp
        have h2 := Int.emod_nonneg x hb
        omega)
      rw [ev_while]
      have e1 : x = y * (x / y) + x % y := (Int.mul_ediv_add_emod x y).symm
      have e2 : Int.gcd y (y * (x / y) + x % y) = Int.gcd y (x % y) := Int.gcd_mul_left_add_right _ _ _
      rw [← e1] at e2
      rw [Int.gcd_comm x y, e2]
      simp +decide only [lt1_law_fraction, lb1_law_fraction, ev_seq, seq_nx, seq_rt, seq_ex, seq_bk, seq_ct, seq_ite, fl_ok, fl_ex, fl_ite, ev_set, kSet_ev, ev_ret, ev_retN, ev_nx, ev_bk, ev_ct, ev_raise, ev_if, kIf_ev, ev_drop, kNx_ev, ev_par, kPar_ev, kId_ev, ev_asg, kAsg_ev, ev_for, kFor_ev, ev_V, dVg_ok, ev_C, ev_1, ev_2, bind2_ok, bind2_ite1, bind2_ite2, bind_ite, ev_A, ev_nil, ev_cons, kCons_ev, ev_T, toB_ev, ev_and, ev_or, ev_not, kAnd_ev, kOr_ev, kNot_ev, ev_andV, ev_orV, ev_notV, kAndV_ev, kOrV_ev, kNotV_ev, ev_ife, kIfE_ev, ev_ch, kCh, tup_ev, lst_ev, call_ev, kw_ev, ev_kw, ev_fn, startE_0, startE_s, startE_c, fin_rt, fin_nx, fin_ex, fin_ite, ix_t0, ix_t1, ix_t2, ix_t3, ix_l0, ix_l1, ix_l2, len_l, len_t1, len_t2, len_t3, len_t4, beq_self_eq_true, ev_iL, ev_iT, asL_ev, asT_ev, ev_iA, ev_P, toI_ev, ev_P0, ev_sl, kSl_ev, put_1, gAdd_i, gSub_i, gMul_i, gDiv_p, gMod_p, gPow_l, gShl_l, gShr_l, gLt_i, gLe_i, gGt_i, gGe_i, gEq_i, gNe_i, gNeg_i, gAbs_i, gInt_i, gInt_b, gEq_s, gNe_s, gEq_b, gNe_b, gEq_2, gNe_2, gEq_3, gNe_3, gEq_22, gNe_22, DL.R.bind_ok, DL.R.bind_ex, ev_setL, kSetL_ev, ev_lDisp, kDisp_ev, ev_lList, lOf_l, lOf_t, ev_frz, frz_l, frz_d, frz_n, ev_lend, lend_l, lend_d, atom_i, atom_b, atom_s, ev_lendB, lendB_l, lendB_d, ev_app, app_l, kApp_ev, ev_put, put_l, ev_ixO, ixO_l, ixO_d, put_m, putAll_c, putAll_n, ev_lc, kLst_ev, ev_lcL, wipe_n, wipe_c, r1_2, r1_3, bits_ev, List.getElem?_cons_zero, List.getElem?_cons_succ, List.set_cons_zero, List.set_cons_succ, List.length_cons, List.length_nil, List.length_map, List.append_nil, List.cons_append, List.nil_append, ev_if, turn_nx, turn_ct, turn_bk, turn_rt, turn_ite, kWh_ev, isi_int_int, isi_bool_int, isi_int_bool, isi_bool_bool, isi_int_str, isi_int_none, isi_int_list, isi_int_tup, isi_bool_str, isi_bool_none, isi_bool_list, isi_bool_tup, isi_tup_tup, isi_tup_int, isi_tup_bool, isi_tup_str, isi_tup_none, isi_tup_list, isi_list_list, isi_list_tup, isi_list_int, isi_list_bool, isi_list_str, isi_list_none, isi_str_str, isi_str_int, isi_str_bool, isi_str_none, isi_str_list, isi_str_tup, decide_true, decide_false, not_true_eq_false, not_false_eq_true, ne_eq, decide_eq_true_eq, Bool.not_eq_true', decide_eq_false_iff_not, Bool.not_true, Bool.not_false, Bool.false_eq_true, if_true, if_false, reduceIte, hb, hp]
      exact e
theorem law_fraction_eq (t b : Int) (hb : b ≠ 0) {k : Nat} [h3 : Bd b k] (hk : k ≤ 9000) : m_law_fraction [.int t, .int b] = .ok (.tuple [.int (fT t b), .int (fB t b)]) := by
  have hs : shr (Int.gcd t b) b ≠ 0 := shr_ne (gcd_ne hb)
  have bs : Bd (shr (Int.gcd t b) b) k := bd_shrF hb h3
  have e := law_fraction_loop _ t b (b.natAbs : Int) (t.natAbs : Int) (by omega) (by omega) (Nat.le_refl _)
  have e2 : Int.gcd (b.natAbs : Int) (t.natAbs : Int) = Int.gcd t b := by rw [Int.gcd_comm]; simp [Int.gcd]
  rw [e2] at e
  by_cases h : b < 0
  · have es : 0 - ((Int.gcd t b : Nat) : Int) = shr (Int.gcd t b) b := by unfold shr; rw [if_pos h]
    simp +decide only [m_law_fraction, den_law_fraction, ev_seq, seq_nx, seq_rt, seq_ex, seq_bk, seq_ct, seq_ite, fl_ok, fl_ex, fl_ite, ev_set, kSet_ev, ev_ret, ev_retN, ev_nx, ev_bk, ev_ct, ev_raise, ev_if, kIf_ev, ev_drop, kNx_ev, ev_par, kPar_ev, kId_ev, ev_asg, kAsg_ev, ev_for, kFor_ev, ev_V, dVg_ok, ev_C, ev_1, ev_2, bind2_ok, bind2_ite1, bind2_ite2, bind_ite, ev_A, ev_nil, ev_cons, kCons_ev, ev_T, toB_ev, ev_and, ev_or, ev_not, kAnd_ev, kOr_ev, kNot_ev, ev_andV, ev_orV, ev_notV, kAndV_ev, kOrV_ev, kNotV_ev, ev_ife, kIfE_ev, ev_ch, kCh, tup_ev, lst_ev, call_ev, kw_ev, ev_kw, ev_fn, startE_0, startE_s, startE_c, fin_rt, fin_nx, fin_ex, fin_ite, ix_t0, ix_t1, ix_t2, ix_t3, ix_l0, ix_l1, ix_l2, len_l, len_t1, len_t2, len_t3, len_t4, beq_self_eq_true, ev_iL, ev_iT, asL_ev, asT_ev, ev_iA, ev_P, toI_ev, ev_P0, ev_sl, kSl_ev, put_1, gAdd_i, gSub_i, gMul_i, gDiv_p, gMod_p, gPow_l, gShl_l, gShr_l, gLt_i, gLe_i, gGt_i, gGe_i, gEq_i, gNe_i, gNeg_i, gAbs_i, gInt_i, gInt_b, gEq_s, gNe_s, gEq_b, gNe_b, gEq_2, gNe_2, gEq_3, gNe_3, gEq_22, gNe_22, DL.R.bind_ok, DL.R.bind_ex, ev_setL, kSetL_ev, ev_lDisp, kDisp_ev, ev_lList, lOf_l, lOf_t, ev_frz, frz_l, frz_d, frz_n, ev_lend, lend_l, lend_d, atom_i, atom_b, atom_s, ev_lendB, lendB_l, lendB_d, ev_app, app_l, kApp_ev, ev_put, put_l, ev_ixO, ixO_l, ixO_d, put_m, putAll_c, putAll_n, ev_lc, kLst_ev, ev_lcL, wipe_n, wipe_c, r1_2, r1_3, bits_ev, List.getElem?_cons_zero, List.getElem?_cons_succ, List.set_cons_zero, List.set_cons_succ, List.length_cons, List.length_nil, List.length_map, List.append_nil, List.cons_append, List.nil_append, ev_if, turn_nx, turn_ct, turn_bk, turn_rt, turn_ite, kWh_ev, isi_int_int, isi_bool_int, isi_int_bool, isi_bool_bool, isi_int_str, isi_int_none, isi_int_list, isi_int_tup, isi_bool_str, isi_bool_none, isi_bool_list, isi_bool_tup, isi_tup_tup, isi_tup_int, isi_tup_bool, isi_tup_str, isi_tup_none, isi_tup_list, isi_list_list, isi_list_tup, isi_list_int, isi_list_bool, isi_list_str, isi_list_none, isi_str_str, isi_str_int, isi_str_bool, isi_str_none, isi_str_list, isi_str_tup, decide_true, decide_false, not_true_eq_false, not_false_eq_true, ne_eq, decide_eq_true_eq, Bool.not_eq_true', decide_eq_false_iff_not, Bool.not_true, Bool.not_false, Bool.false_eq_true, if_true, if_false, reduceIte, gDiv_i, e, h, es, hs, hk, fT_eq, fB_eq]
  · have es : ((Int.gcd t b : Nat) : Int) = shr (Int.gcd t b) b := by unfold shr; rw [if_neg h]
    simp +decide only [m_law_fraction, den_law_fraction, ev_seq, seq_nx, seq_rt, seq_ex, seq_bk, seq_ct, seq_ite, fl_ok, fl_ex, fl_ite, ev_set, kSet_ev, ev_ret, ev_retN, ev_nx, ev_bk, ev_ct, ev_raise, ev_if, kIf_ev, ev_drop, kNx_ev, ev_par, kPar_ev, kId_ev, ev_asg, kAsg_ev, ev_for, kFor_ev, ev_V, dVg_ok, ev_C, ev_1, ev_2, bind2_ok, bind2_ite1, bind2_ite2, bind_ite, ev_A, ev_nil, ev_cons, kCons_ev, ev_T, toB_ev, ev_and, ev_or, ev_not, kAnd_ev, kOr_ev, kNot_ev, ev_andV, ev_orV, ev_notV, kAndV_ev, kOrV_ev, kNotV_ev, ev_ife, kIfE_ev, ev_ch, kCh, tup_ev, lst_ev, call_ev, kw_ev, ev_kw, ev_fn, startE_0, startE_s, startE_c, fin_rt, fin_nx, fin_ex, fin_ite, ix_t0, ix_t1, ix_t2, ix_t3, ix_l0, ix_l1, ix_l2, len_l, len_t1, len_t2, len_t3, len_t4, beq_self_eq_true, ev_iL, ev_iT, asL_ev, asT_ev, ev_iA, ev_P, toI_ev, ev_P0, ev_sl, kSl_ev, put_1, gAdd_i, gSub_i, gMul_i, gDiv_p, gMod_p, gPow_l, gShl_l, gShr_l, gLt_i, gLe_i, gGt_i, gGe_i, gEq_i, gNe_i, gNeg_i, gAbs_i, gInt_i, gInt_b, gEq_s, gNe_s, gEq_b, gNe_b, gEq_2, gNe_2, gEq_3, gNe_3, gEq_22, gNe_22, DL.R.bind_ok, DL.R.bind_ex, ev_setL, kSetL_ev, ev_lDisp, kDisp_ev, ev_lList, lOf_l, lOf_t, ev_frz, frz_l, frz_d, frz_n, ev_lend, lend_l, lend_d, atom_i, atom_b, atom_s, ev_lendB, lendB_l, lendB_d, ev_app, app_l, kApp_ev, ev_put, put_l, ev_ixO, ixO_l, ixO_d, put_m, putAll_c, putAll_n, ev_lc, kLst_ev, ev_lcL, wipe_n, wipe_c, r1_2, r1_3, bits_ev, List.getElem?_cons_zero, List.getElem?_cons_succ, List.set_cons_zero, List.set_cons_succ, List.length_cons, List.length_nil, List.length_map, List.append_nil, List.cons_append, List.nil_append, ev_if, turn_nx, turn_ct, turn_bk, turn_rt, turn_ite, kWh_ev, isi_int_int, isi_bool_int, isi_int_bool, isi_bool_bool, isi_int_str, isi_int_none, isi_int_list, isi_int_tup, isi_bool_str, isi_bool_none, isi_bool_list, isi_bool_tup, isi_tup_tup, isi_tup_int, isi_tup_bool, isi_tup_str, isi_tup_none, isi_tup_list, isi_list_list, isi_list_tup, isi_list_int, isi_list_bool, isi_list_str, isi_list_none, isi_str_str, isi_str_int, isi_str_bool, isi_str_none, isi_str_list, isi_str_tup, decide_true, decide_false, not_true_eq_false, not_false_eq_true, ne_eq, decide_eq_true_eq, Bool.not_eq_true', decide_eq_false_iff_not, Bool.not_true, Bool.not_false, Bool.false_eq_true, if_true, if_false, reduceIte, gDiv_i, e, h, es, hs, hk, fT_eq, fB_eq]
theorem law_is_2 (a b : Int) : m_law_is [.tuple [.int a, .int b], .tuple [.int a, .int b]] = .ok (.bool true) := by
  simp +decide only [m_law_is, den_law_is, lb1_law_is, ev_seq, seq_nx, seq_rt, seq_ex, seq_bk, seq_ct, seq_ite, fl_ok, fl_ex, fl_ite, ev_set, kSet_ev, ev_ret, ev_retN, ev_nx, ev_bk, ev_ct, ev_raise, ev_if, kIf_ev, ev_drop, kNx_ev, ev_par, kPar_ev, kId_ev, ev_asg, kAsg_ev, ev_for, kFor_ev, ev_V, dVg_ok, ev_C, ev_1, ev_2, bind2_ok, bind2_ite1, bind2_ite2, bind_ite, ev_A, ev_nil, ev_cons, kCons_ev, ev_T, toB_ev, ev_and, ev_or, ev_not, kAnd_ev, kOr_ev, kNot_ev, ev_andV, ev_orV, ev_notV, kAndV_ev, kOrV_ev, kNotV_ev, ev_ife, kIfE_ev, ev_ch, kCh, tup_ev, lst_ev, call_ev, kw_ev, ev_kw, ev_fn, startE_0, startE_s, startE_c, fin_rt, fin_nx, fin_ex, fin_ite, ix_t0, ix_t1, ix_t2, ix_t3, ix_l0, ix_l1, ix_l2, len_l, len_t1, len_t2, len_t3, len_t4, beq_self_eq_true, ev_iL, ev_iT, asL_ev, asT_ev, ev_iA, ev_P, toI_ev, ev_P0, ev_sl, kSl_ev, put_1, gAdd_i, gSub_i, gMul_i, gDiv_p, gMod_p, gPow_l, gShl_l, gShr_l, gLt_i, gLe_i, gGt_i, gGe_i, gEq_i, gNe_i, gNeg_i, gAbs_i, gInt_i, gInt_b, gEq_s, gNe_s, gEq_b, gNe_b, gEq_2, gNe_2, gEq_3, gNe_3, gEq_22, gNe_22, DL.R.bind_ok, DL.R.bind_ex, ev_setL, kSetL_ev, ev_lDisp, kDisp_ev, ev_lList, lOf_l, lOf_t, ev_frz, frz_l, frz_d, frz_n, ev_lend, lend_l, lend_d, atom_i, atom_b, atom_s, ev_lendB, lendB_l, lendB_d, ev_app, app_l, kApp_ev, ev_put, put_l, ev_ixO, ixO_l, ixO_d, put_m, putAll_c, putAll_n, ev_lc, kLst_ev, ev_lcL, wipe_n, wipe_c, r1_2, r1_3, bits_ev, List.getElem?_cons_zero, List.getElem?_cons_succ, List.set_cons_zero, List.set_cons_succ, List.length_cons, List.length_nil, List.length_map, List.append_nil, List.cons_append, List.nil_append, ev_if, turn_nx, turn_ct, turn_bk, turn_rt, turn_ite, kWh_ev, isi_int_int, isi_bool_int, isi_int_bool, isi_bool_bool, isi_int_str, isi_int_none, isi_int_list, isi_int_tup, isi_bool_str, isi_bool_none, isi_bool_list, isi_bool_tup, isi_tup_tup, isi_tup_int, isi_tup_bool, isi_tup_str, isi_tup_none, isi_tup_list, isi_list_list, isi_list_tup, isi_list_int, isi_list_bool, isi_list_str, isi_list_none, isi_str_str, isi_str_int, isi_str_bool, isi_str_none, isi_str_list, isi_str_tup, decide_true, decide_false, not_true_eq_false, not_false_eq_true, ne_eq, decide_eq_true_eq, Bool.not_eq_true', decide_eq_false_iff_not, Bool.not_true, Bool.not_false, Bool.false_eq_true, if_true, if_false, reduceIte, forL_1, forL_nil, law_whole_int, and_self]
theorem law_is_3 (a b c : Int) : m_law_is [.tuple [.int a, .int b, .int c], .tuple [.int a, .int b, .int c]] = .ok (.bool true) := by
  simp +decide only [m_law_is, den_law_is, lb1_law_is, ev_seq, seq_nx, seq_rt, seq_ex, seq_bk, seq_ct, seq_ite, fl_ok, fl_ex, fl_ite, ev_set, kSet_ev, ev_ret, ev_retN, ev_nx, ev_bk, ev_ct, ev_raise, ev_if, kIf_ev, ev_drop, kNx_ev, ev_par, kPar_ev, kId_ev, ev_asg, kAsg_ev, ev_for, kFor_ev, ev_V, dVg_ok, ev_C, ev_1, ev_2, bind2_ok, bind2_ite1, bind2_ite2, bind_ite, ev_A, ev_nil, ev_cons, kCons_ev, ev_T, toB_ev, ev_and, ev_or, ev_not, kAnd_ev, kOr_ev, kNot_ev, ev_andV, ev_orV, ev_notV, kAndV_ev, kOrV_ev, kNotV_ev, ev_ife, kIfE_ev, ev_ch, kCh, tup_ev, lst_ev, call_ev, kw_ev, ev_kw, ev_fn, startE_0, startE_s, startE_c, fin_rt, fin_nx, fin_ex, fin_ite, ix_t0, ix_t1, ix_t2, ix_t3, ix_l0, ix_l1, ix_l2, len_l, len_t1, len_t2, len_t3, len_t4, beq_self_eq_true, ev_iL, ev_iT, asL_ev, asT_ev, ev_iA, ev_P, toI_ev, ev_P0, ev_sl, kSl_ev, put_1, gAdd_i, gSub_i, gMul_i, gDiv_p, gMod_p, gPow_l, gShl_l, gShr_l, gLt_i, gLe_i, gGt_i, gGe_i, gEq_i, gNe_i, gNeg_i, gAbs_i, gInt_i, gInt_b, gEq_s, gNe_s, gEq_b, gNe_b, gEq_2, gNe_2, gEq_3, gNe_3, gEq_22, gNe_22, DL.R.bind_ok, DL.R.bind_ex, ev_setL, kSetL_ev, ev_lDisp, kDisp_ev, ev_lList, lOf_l, lOf_t, ev_frz, frz_l, frz_d, frz_n, ev_lend, lend_l, lend_d, atom_i, atom_b, atom_s, ev_lendB, lendB_l, lendB_d, ev_app, app_l, kApp_ev, ev_put, put_l, ev_ixO, ixO_l, ixO_d, put_m, putAll_c, putAll_n, ev_lc, kLst_ev, ev_lcL, wipe_n, wipe_c, r1_2, r1_3, bits_ev, List.getElem?_cons_zero, List.getElem?_cons_succ, List.set_cons_zero, List.set_cons_succ, List.length_cons, List.length_nil, List.length_map, List.append_nil, List.cons_append, List.nil_append, ev_if, turn_nx, turn_ct, turn_bk, turn_rt, turn_ite, kWh_ev, isi_int_int, isi_bool_int, isi_int_bool, isi_bool_bool, isi_int_str, isi_int_none, isi_int_list, isi_int_tup, isi_bool_str, isi_bool_none, isi_bool_list, isi_bool_tup, isi_tup_tup, isi_tup_int, isi_tup_bool, isi_tup_str, isi_tup_none, isi_tup_list, isi_list_list, isi_list_tup, isi_list_int, isi_list_bool, isi_list_str, isi_list_none, isi_str_str, isi_str_int, isi_str_bool, isi_str_none, isi_str_list, isi_str_tup, decide_true, decide_false, not_true_eq_false, not_false_eq_true, ne_eq, decide_eq_true_eq, Bool.not_eq_true', decide_eq_false_iff_not, Bool.not_true, Bool.not_false, Bool.false_eq_true, if_true, if_false, reduceIte, forL_1, forL_nil, law_whole_int, and_self]
section
variable (a b c d : Int) {k1 k2 k3 k4 : Nat} [Bd a k1] [Bd b k2] [Bd c k3] [Bd d k4]
theorem plus_eq (hn : b * d ≠ 0) (h1 : k1 ≤ 4000) (h2 : k2 ≤ 4000) (h3 : k3 ≤ 4000) (h4 : k4 ≤ 4000) : m_plus [.tuple [.int a, .int b], .tuple [.int c, .int d]] = .ok (.tuple [.int (fT (a * d + c * b) (b * d)), .int (fB (a * d + c * b) (b * d))]) := by
  have i1 : k2 + k4 ≤ 134217728 := by omega
  have i2 : k1 + k4 ≤ 134217728 := by omega
  have i3 : k3 + k2 ≤ 134217728 := by omega
  have i6 : k2 + k4 ≤ 9000 := by omega
  simp +decide only [m_plus, den_plus, ev_seq, seq_nx, seq_rt, seq_ex, seq_bk, seq_ct, seq_ite, fl_ok, fl_ex, fl_ite, ev_set, kSet_ev, ev_ret, ev_retN, ev_nx, ev_bk, ev_ct, ev_raise, ev_if, kIf_ev, ev_drop, kNx_ev, ev_par, kPar_ev, kId_ev, ev_asg, kAsg_ev, ev_for, kFor_ev, ev_V, dVg_ok, ev_C, ev_1, ev_2, bind2_ok, bind2_ite1, bind2_ite2, bind_ite, ev_A, ev_nil, ev_cons, kCons_ev, ev_T, toB_ev, ev_and, ev_or, ev_not, kAnd_ev, kOr_ev, kNot_ev, ev_andV, ev_orV, ev_notV, kAndV_ev, kOrV_ev, kNotV_ev, ev_ife, kIfE_ev, ev_ch, kCh, tup_ev, lst_ev, call_ev, kw_ev, ev_kw, ev_fn, startE_0, startE_s, startE_c, fin_rt, fin_nx, fin_ex, fin_ite, ix_t0, ix_t1, ix_t2, ix_t3, ix_l0, ix_l1, ix_l2, len_l, len_t1, len_t2, len_t3, len_t4, beq_self_eq_true, ev_iL, ev_iT, asL_ev, asT_ev, ev_iA, ev_P, toI_ev, ev_P0, ev_sl, kSl_ev, put_1, gAdd_i, gSub_i, gMul_i, gDiv_p, gMod_p, gPow_l, gShl_l, gShr_l, gLt_i, gLe_i, gGt_i, gGe_i, gEq_i, gNe_i, gNeg_i, gAbs_i, gInt_i, gInt_b, gEq_s, gNe_s, gEq_b, gNe_b, gEq_2, gNe_2, gEq_3, gNe_3, gEq_22, gNe_22, DL.R.bind_ok, DL.R.bind_ex, ev_setL, kSetL_ev, ev_lDisp, kDisp_ev, ev_lList, lOf_l, lOf_t, ev_frz, frz_l, frz_d, frz_n, ev_lend, lend_l, lend_d, atom_i, atom_b, atom_s, ev_lendB, lendB_l, lendB_d, ev_app, app_l, kApp_ev, ev_put, put_l, ev_ixO, ixO_l, ixO_d, put_m, putAll_c, putAll_n, ev_lc, kLst_ev, ev_lcL, wipe_n, wipe_c, r1_2, r1_3, bits_ev, List.getElem?_cons_zero, List.getElem?_cons_succ, List.set_cons_zero, List.set_cons_succ, List.length_cons, List.length_nil, List.length_map, List.append_nil, List.cons_append, List.nil_append, ev_if, turn_nx, turn_ct, turn_bk, turn_rt, turn_ite, kWh_ev, isi_int_int, isi_bool_int, isi_int_bool, isi_bool_bool, isi_int_str, isi_int_none, isi_int_list, isi_int_tup, isi_bool_str, isi_bool_none, isi_bool_list, isi_bool_tup, isi_tup_tup, isi_tup_int, isi_tup_bool, isi_tup_str, isi_tup_none, isi_tup_list, isi_list_list, isi_list_tup, isi_list_int, isi_list_bool, isi_list_str, isi_list_none, isi_str_str, isi_str_int, isi_str_bool, isi_str_none, isi_str_list, isi_str_tup, decide_true, decide_false, not_true_eq_false, not_false_eq_true, ne_eq, decide_eq_true_eq, Bool.not_eq_true', decide_eq_false_iff_not, Bool.not_true, Bool.not_false, Bool.false_eq_true, if_true, if_false, reduceIte, fraction_eq, hn, i1, i2, i3, i6]
theorem minus_eq (hn : b * d ≠ 0) (h1 : k1 ≤ 4000) (h2 : k2 ≤ 4000) (h3 : k3 ≤ 4000) (h4 : k4 ≤ 4000) : m_minus [.tuple [.int a, .int b], .tuple [.int c, .int d]] = .ok (.tuple [.int (fT (a * d - c * b) (b * d)), .int (fB (a * d - c * b) (b * d))]) := by
  have i1 : k2 + k4 ≤ 134217728 := by omega
  have i2 : k1 + k4 ≤ 134217728 := by omega
  have i3 : k3 + k2 ≤ 134217728 := by omega
  have i6 : k2 + k4 ≤ 9000 := by omega
  simp +decide only [m_minus, den_minus, ev_seq, seq_nx, seq_rt, seq_ex, seq_bk, seq_ct, seq_ite, fl_ok, fl_ex, fl_ite, ev_set, kSet_ev, ev_ret, ev_retN, ev_nx, ev_bk, ev_ct, ev_raise, ev_if, kIf_ev, ev_drop, kNx_ev, ev_par, kPar_ev, kId_ev, ev_asg, kAsg_ev, ev_for, kFor_ev, ev_V, dVg_ok, ev_C, ev_1, ev_2, bind2_ok, bind2_ite1, bind2_ite2, bind_ite, ev_A, ev_nil, ev_cons, kCons_ev, ev_T, toB_ev, ev_and, ev_or, ev_not, kAnd_ev, kOr_ev, kNot_ev, ev_andV, ev_orV, ev_notV, kAndV_ev, kOrV_ev, kNotV_ev, ev_ife, kIfE_ev, ev_ch, kCh, tup_ev, lst_ev, call_ev, kw_ev, ev_kw, ev_fn, startE_0, startE_s, startE_c, fin_rt, fin_nx, fin_ex, fin_ite, ix_t0, ix_t1, ix_t2, ix_t3, ix_l0, ix_l1, ix_l2, len_l, len_t1, len_t2, len_t3, len_t4, beq_self_eq_true, ev_iL, ev_iT, asL_ev, asT_ev, ev_iA, ev_P, toI_ev, ev_P0, ev_sl, kSl_ev, put_1, gAdd_i, gSub_i, gMul_i, gDiv_p, gMod_p, gPow_l, gShl_l, gShr_l, gLt_i, gLe_i, gGt_i, gGe_i, gEq_i, gNe_i, gNeg_i, gAbs_i, gInt_i, gInt_b, gEq_s, gNe_s, gEq_b, gNe_b, gEq_2, gNe_2, gEq_3, gNe_3, gEq_22, gNe_22, DL.R.bind_ok, DL.R.bind_ex, ev_setL, kSetL_ev, ev_lDisp, kDisp_ev, ev_lList, lOf_l, lOf_t, ev_frz, frz_l, frz_d, frz_n, ev_lend, lend_l, lend_d, atom_i, atom_b, atom_s, ev_lendB, lendB_l, lendB_d, ev_app, app_l, kApp_ev, ev_put, put_l, ev_ixO, ixO_l, ixO_d, put_m, putAll_c, putAll_n, ev_lc, kLst_ev, ev_lcL, wipe_n, wipe_c, r1_2, r1_3, bits_ev, List.getElem?_cons_zero, List.getElem?_cons_succ, List.set_cons_zero, List.set_cons_succ, List.length_cons, List.length_nil, List.length_map, List.append_nil, List.cons_append, List.nil_append, ev_if, turn_nx, turn_ct, turn_bk, turn_rt, turn_ite, kWh_ev, isi_int_int, isi_bool_int, isi_int_bool, isi_bool_bool, isi_int_str, isi_int_none, isi_int_list, isi_int_tup, isi_bool_str, isi_bool_none, isi_bool_list, isi_bool_tup, isi_tup_tup, isi_tup_int, isi_tup_bool, isi_tup_str, isi_tup_none, isi_tup_list, isi_list_list, isi_list_tup, isi_list_int, isi_list_bool, isi_list_str, isi_list_none, isi_str_str, isi_str_int, isi_str_bool, isi_str_none, isi_str_list, isi_str_tup, decide_true, decide_false, not_true_eq_false, not_false_eq_true, ne_eq, decide_eq_true_eq, Bool.not_eq_true', decide_eq_false_iff_not, Bool.not_true, Bool.not_false, Bool.false_eq_true, if_true, if_false, reduceIte, fraction_eq, hn, i1, i2, i3, i6]
theorem times_eq (hn : b * d ≠ 0) (h1 : k1 ≤ 4000) (h2 : k2 ≤ 4000) (h3 : k3 ≤ 4000) (h4 : k4 ≤ 4000) : m_times [.tuple [.int a, .int b], .tuple [.int c, .int d]] = .ok (.tuple [.int (fT (a * c) (b * d)), .int (fB (a * c) (b * d))]) := by
  have i1 : k2 + k4 ≤ 134217728 := by omega
  have i2 : k1 + k3 ≤ 134217728 := by omega
  have i6 : k2 + k4 ≤ 9000 := by omega
  simp +decide only [m_times, den_times, ev_seq, seq_nx, seq_rt, seq_ex, seq_bk, seq_ct, seq_ite, fl_ok, fl_ex, fl_ite, ev_set, kSet_ev, ev_ret, ev_retN, ev_nx, ev_bk, ev_ct, ev_raise, ev_if, kIf_ev, ev_drop, kNx_ev, ev_par, kPar_ev, kId_ev, ev_asg, kAsg_ev, ev_for, kFor_ev, ev_V, dVg_ok, ev_C, ev_1, ev_2, bind2_ok, bind2_ite1, bind2_ite2, bind_ite, ev_A, ev_nil, ev_cons, kCons_ev, ev_T, toB_ev, ev_and, ev_or, ev_not, kAnd_ev, kOr_ev, kNot_ev, ev_andV, ev_orV, ev_notV, kAndV_ev, kOrV_ev, kNotV_ev, ev_ife, kIfE_ev, ev_ch, kCh, tup_ev, lst_ev, call_ev, kw_ev, ev_kw, ev_fn, startE_0, startE_s, startE_c, fin_rt, fin_nx, fin_ex, fin_ite, ix_t0, ix_t1, ix_t2, ix_t3, ix_l0, ix_l1, ix_l2, len_l, len_t1, len_t2, len_t3, len_t4, beq_self_eq_true, ev_iL, ev_iT, asL_ev, asT_ev, ev_iA, ev_P, toI_ev, ev_P0, ev_sl, kSl_ev, put_1, gAdd_i, gSub_i, gMul_i, gDiv_p, gMod_p, gPow_l, gShl_l, gShr_l, gLt_i, gLe_i, gGt_i, gGe_i, gEq_i, gNe_i, gNeg_i, gAbs_i, gInt_i, gInt_b, gEq_s, gNe_s, gEq_b, gNe_b, gEq_2, gNe_2, gEq_3, gNe_3, gEq_22, gNe_22, DL.R.bind_ok, DL.R.bind_ex, ev_setL, kSetL_ev, ev_lDisp, kDisp_ev, ev_lList, lOf_l, lOf_t, ev_frz, frz_l, frz_d, frz_n, ev_lend, lend_l, lend_d, atom_i, atom_b, atom_s, ev_lendB, lendB_l, lendB_d, ev_app, app_l, kApp_ev, ev_put, put_l, ev_ixO, ixO_l, ixO_d, put_m, putAll_c, putAll_n, ev_lc, kLst_ev, ev_lcL, wipe_n, wipe_c, r1_2, r1_3, bits_ev, List.getElem?_cons_zero, List.getElem?_cons_succ, List.set_cons_zero, List.set_cons_succ, List.length_cons, List.length_nil, List.length_map, List.append_nil, List.cons_append, List.nil_append, ev_if, turn_nx, turn_ct, turn_bk, turn_rt, turn_ite, kWh_ev, isi_int_int, isi_bool_int, isi_int_bool, isi_bool_bool, isi_int_str, isi_int_none, isi_int_list, isi_int_tup, isi_bool_str, isi_bool_none, isi_bool_list, isi_bool_tup, isi_tup_tup, isi_tup_int, isi_tup_bool, isi_tup_str, isi_tup_none, isi_tup_list, isi_list_list, isi_list_tup, isi_list_int, isi_list_bool, isi_list_str, isi_list_none, isi_str_str, isi_str_int, isi_str_bool, isi_str_none, isi_str_list, isi_str_tup, decide_true, decide_false, not_true_eq_false, not_false_eq_true, ne_eq, decide_eq_true_eq, Bool.not_eq_true', decide_eq_false_iff_not, Bool.not_true, Bool.not_false, Bool.false_eq_true, if_true, if_false, reduceIte, fraction_eq, hn, i1, i2, i6]
theorem by_eq (hn : b * c ≠ 0) (h1 : k1 ≤ 4000) (h2 : k2 ≤ 4000) (h3 : k3 ≤ 4000) (h4 : k4 ≤ 4000) : m_by [.tuple [.int a, .int b], .tuple [.int c, .int d]] = .ok (.tuple [.int (fT (a * d) (b * c)), .int (fB (a * d) (b * c))]) := by
  have i1 : k2 + k3 ≤ 134217728 := by omega
  have i2 : k1 + k4 ≤ 134217728 := by omega
  have i6 : k2 + k3 ≤ 9000 := by omega
  simp +decide only [m_by, den_by, ev_seq, seq_nx, seq_rt, seq_ex, seq_bk, seq_ct, seq_ite, fl_ok, fl_ex, fl_ite, ev_set, kSet_ev, ev_ret, ev_retN, ev_nx, ev_bk, ev_ct, ev_raise, ev_if, kIf_ev, ev_drop, kNx_ev, ev_par, kPar_ev, kId_ev, ev_asg, kAsg_ev, ev_for, kFor_ev, ev_V, dVg_ok, ev_C, ev_1, ev_2, bind2_ok, bind2_ite1, bind2_ite2, bind_ite, ev_A, ev_nil, ev_cons, kCons_ev, ev_T, toB_ev, ev_and, ev_or, ev_not, kAnd_ev, kOr_ev, kNot_ev, ev_andV, ev_orV, ev_notV, kAndV_ev, kOrV_ev, kNotV_ev, ev_ife, kIfE_ev, ev_ch, kCh, tup_ev, lst_ev, call_ev, kw_ev, ev_kw, ev_fn, startE_0, startE_s, startE_c, fin_rt, fin_nx, fin_ex, fin_ite, ix_t0, ix_t1, ix_t2, ix_t3, ix_l0, ix_l1, ix_l2, len_l, len_t1, len_t2, len_t3, len_t4, beq_self_eq_true, ev_iL, ev_iT, asL_ev, asT_ev, ev_iA, ev_P, toI_ev, ev_P0, ev_sl, kSl_ev, put_1, gAdd_i, gSub_i, gMul_i, gDiv_p, gMod_p, gPow_l, gShl_l, gShr_l, gLt_i, gLe_i, gGt_i, gGe_i, gEq_i, gNe_i, gNeg_i, gAbs_i, gInt_i, gInt_b, gEq_s, gNe_s, gEq_b, gNe_b, gEq_2, gNe_2, gEq_3, gNe_3, gEq_22, gNe_22, DL.R.bind_ok, DL.R.bind_ex, ev_setL, kSetL_ev, ev_lDisp, kDisp_ev, ev_lList, lOf_l, lOf_t, ev_frz, frz_l, frz_d, frz_n, ev_lend, lend_l, lend_d, atom_i, atom_b, atom_s, ev_lendB, lendB_l, lendB_d, ev_app, app_l, kApp_ev, ev_put, put_l, ev_ixO, ixO_l, ixO_d, put_m, putAll_c, putAll_n, ev_lc, kLst_ev, ev_lcL, wipe_n, wipe_c, r1_2, r1_3, bits_ev, List.getElem?_cons_zero, List.getElem?_cons_succ, List.set_cons_zero, List.set_cons_succ, List.length_cons, List.length_nil, List.length_map, List.append_nil, List.cons_append, List.nil_append, ev_if, turn_nx, turn_ct, turn_bk, turn_rt, turn_ite, kWh_ev, isi_int_int, isi_bool_int, isi_int_bool, isi_bool_bool, isi_int_str, isi_int_none, isi_int_list, isi_int_tup, isi_bool_str, isi_bool_none, isi_bool_list, isi_bool_tup, isi_tup_tup, isi_tup_int, isi_tup_bool, isi_tup_str, isi_tup_none, isi_tup_list, isi_list_list, isi_list_tup, isi_list_int, isi_list_bool, isi_list_str, isi_list_none, isi_str_str, isi_str_int, isi_str_bool, isi_str_none, isi_str_list, isi_str_tup, decide_true, decide_false, not_true_eq_false, not_false_eq_true, ne_eq, decide_eq_true_eq, Bool.not_eq_true', decide_eq_false_iff_not, Bool.not_true, Bool.not_false, Bool.false_eq_true, if_true, if_false, reduceIte, fraction_eq, hn, i1, i2, i6]
theorem is_less_eq (h1 : k1 ≤ 4000) (h2 : k2 ≤ 4000) (h3 : k3 ≤ 4000) (h4 : k4 ≤ 4000) : m_is_less [.tuple [.int a, .int b], .tuple [.int c, .int d]] = .ok (.bool (decide (a * d < c * b))) := by
  have i2 : k1 + k4 ≤ 134217728 := by omega
  have i3 : k3 + k2 ≤ 134217728 := by omega
  simp +decide only [m_is_less, den_is_less, ev_seq, seq_nx, seq_rt, seq_ex, seq_bk, seq_ct, seq_ite, fl_ok, fl_ex, fl_ite, ev_set, kSet_ev, ev_ret, ev_retN, ev_nx, ev_bk, ev_ct, ev_raise, ev_if, kIf_ev, ev_drop, kNx_ev, ev_par, kPar_ev, kId_ev, ev_asg, kAsg_ev, ev_for, kFor_ev, ev_V, dVg_ok, ev_C, ev_1, ev_2, bind2_ok, bind2_ite1, bind2_ite2, bind_ite, ev_A, ev_nil, ev_cons, kCons_ev, ev_T, toB_ev, ev_and, ev_or, ev_not, kAnd_ev, kOr_ev, kNot_ev, ev_andV, ev_orV, ev_notV, kAndV_ev, kOrV_ev, kNotV_ev, ev_ife, kIfE_ev, ev_ch, kCh, tup_ev, lst_ev, call_ev, kw_ev, ev_kw, ev_fn, startE_0, startE_s, startE_c, fin_rt, fin_nx, fin_ex, fin_ite, ix_t0, ix_t1, ix_t2, ix_t3, ix_l0, ix_l1, ix_l2, len_l, len_t1, len_t2, len_t3, len_t4, beq_self_eq_true, ev_iL, ev_iT, asL_ev, asT_ev, ev_iA, ev_P, toI_ev, ev_P0, ev_sl, kSl_ev, put_1, gAdd_i, gSub_i, gMul_i, gDiv_p, gMod_p, gPow_l, gShl_l, gShr_l, gLt_i, gLe_i, gGt_i, gGe_i, gEq_i, gNe_i, gNeg_i, gAbs_i, gInt_i, gInt_b, gEq_s, gNe_s, gEq_b, gNe_b, gEq_2, gNe_2, gEq_3, gNe_3, gEq_22, gNe_22, DL.R.bind_ok, DL.R.bind_ex, ev_setL, kSetL_ev, ev_lDisp, kDisp_ev, ev_lList, lOf_l, lOf_t, ev_frz, frz_l, frz_d, frz_n, ev_lend, lend_l, lend_d, atom_i, atom_b, atom_s, ev_lendB, lendB_l, lendB_d, ev_app, app_l, kApp_ev, ev_put, put_l, ev_ixO, ixO_l, ixO_d, put_m, putAll_c, putAll_n, ev_lc, kLst_ev, ev_lcL, wipe_n, wipe_c, r1_2, r1_3, bits_ev, List.getElem?_cons_zero, List.getElem?_cons_succ, List.set_cons_zero, List.set_cons_succ, List.length_cons, List.length_nil, List.length_map, List.append_nil, List.cons_append, List.nil_append, ev_if, turn_nx, turn_ct, turn_bk, turn_rt, turn_ite, kWh_ev, isi_int_int, isi_bool_int, isi_int_bool, isi_bool_bool, isi_int_str, isi_int_none, isi_int_list, isi_int_tup, isi_bool_str, isi_bool_none, isi_bool_list, isi_bool_tup, isi_tup_tup, isi_tup_int, isi_tup_bool, isi_tup_str, isi_tup_none, isi_tup_list, isi_list_list, isi_list_tup, isi_list_int, isi_list_bool, isi_list_str, isi_list_none, isi_str_str, isi_str_int, isi_str_bool, isi_str_none, isi_str_list, isi_str_tup, decide_true, decide_false, not_true_eq_false, not_false_eq_true, ne_eq, decide_eq_true_eq, Bool.not_eq_true', decide_eq_false_iff_not, Bool.not_true, Bool.not_false, Bool.false_eq_true, if_true, if_false, reduceIte, i2, i3]
end
theorem law_mix_v2_ok (c k : Int) (hk : 0 ≤ k) {n : Nat} [Bd k n] (hn : n ≤ 100) : ∃ z : Int, m_law_mix_v2 [.int c, .int k] = .ok (.int z) ∧ 0 ≤ z ∧ Bd z 31 := by
  have h20 : 0 ≤ 20 * k + 1 := by omega
  have l20 : Nat.log2 20 = 4 := by decide
  have i1 : Nat.log2 20 + 1 + n ≤ 134217728 := by omega
  have l4 : Nat.log2 48271 = 15 := by decide
  have l5 : Nat.log2 7919 = 12 := by decide
  have l6 : Nat.log2 69621 = 16 := by decide
  have l7 : Nat.log2 2147483647 = 30 := by decide
  have i2 : Nat.log2 48271 + 1 + n ≤ 134217728 := by omega
  have i3 : Nat.log2 48271 + 1 + n + n ≤ 134217728 := by omega
  have i4 : Nat.log2 7919 + 1 + n ≤ 134217728 := by omega
  have i5 : max (max (max (Nat.log2 2147483647 + 1) (Nat.log2 48271 + 1 + n + n) + 1) n + 1) (Nat.log2 1 + 1) + 1 + (Nat.log2 69621 + 1) ≤ 134217728 := by
    have := lg1
    omega
  by_cases h : c % 2 = 0 ∧ 0 < c / 2 ^ (20 * k + 1).toNat
  · refine ⟨c / 2 ^ (20 * k + 1).toNat % 1048576, ?_, Int.emod_nonneg _ (by decide), Bd.mono inferInstance (by decide)⟩
    simp +decide only [m_law_mix_v2, den_law_mix_v2, ev_seq, seq_nx, seq_rt, seq_ex, seq_bk, seq_ct, seq_ite, fl_ok, fl_ex, fl_ite, ev_set, kSet_ev, ev_ret, ev_retN, ev_nx, ev_bk, ev_ct, ev_raise, ev_if, kIf_ev, ev_drop, kNx_ev, ev_par, kPar_ev, kId_ev, ev_asg, kAsg_ev, ev_for, kFor_ev, ev_V, dVg_ok, ev_C, ev_1, ev_2, bind2_ok, bind2_ite1, bind2_ite2, bind_ite, ev_A, ev_nil, ev_cons, kCons_ev, ev_T, toB_ev, ev_and, ev_or, ev_not, kAnd_ev, kOr_ev, kNot_ev, ev_andV, ev_orV, ev_notV, kAndV_ev, kOrV_ev, kNotV_ev, ev_ife, kIfE_ev, ev_ch, kCh, tup_ev, lst_ev, call_ev, kw_ev, ev_kw, ev_fn, startE_0, startE_s, startE_c, fin_rt, fin_nx, fin_ex, fin_ite, ix_t0, ix_t1, ix_t2, ix_t3, ix_l0, ix_l1, ix_l2, len_l, len_t1, len_t2, len_t3, len_t4, beq_self_eq_true, ev_iL, ev_iT, asL_ev, asT_ev, ev_iA, ev_P, toI_ev, ev_P0, ev_sl, kSl_ev, put_1, gAdd_i, gSub_i, gMul_i, gDiv_p, gMod_p, gPow_l, gShl_l, gShr_l, gLt_i, gLe_i, gGt_i, gGe_i, gEq_i, gNe_i, gNeg_i, gAbs_i, gInt_i, gInt_b, gEq_s, gNe_s, gEq_b, gNe_b, gEq_2, gNe_2, gEq_3, gNe_3, gEq_22, gNe_22, DL.R.bind_ok, DL.R.bind_ex, ev_setL, kSetL_ev, ev_lDisp, kDisp_ev, ev_lList, lOf_l, lOf_t, ev_frz, frz_l, frz_d, frz_n, ev_lend, lend_l, lend_d, atom_i, atom_b, atom_s, ev_lendB, lendB_l, lendB_d, ev_app, app_l, kApp_ev, ev_put, put_l, ev_ixO, ixO_l, ixO_d, put_m, putAll_c, putAll_n, ev_lc, kLst_ev, ev_lcL, wipe_n, wipe_c, r1_2, r1_3, bits_ev, List.getElem?_cons_zero, List.getElem?_cons_succ, List.set_cons_zero, List.set_cons_succ, List.length_cons, List.length_nil, List.length_map, List.append_nil, List.cons_append, List.nil_append, ev_if, turn_nx, turn_ct, turn_bk, turn_rt, turn_ite, kWh_ev, isi_int_int, isi_bool_int, isi_int_bool, isi_bool_bool, isi_int_str, isi_int_none, isi_int_list, isi_int_tup, isi_bool_str, isi_bool_none, isi_bool_list, isi_bool_tup, isi_tup_tup, isi_tup_int, isi_tup_bool, isi_tup_str, isi_tup_none, isi_tup_list, isi_list_list, isi_list_tup, isi_list_int, isi_list_bool, isi_list_str, isi_list_none, isi_str_str, isi_str_int, isi_str_bool, isi_str_none, isi_str_list, isi_str_tup, decide_true, decide_false, not_true_eq_false, not_false_eq_true, ne_eq, decide_eq_true_eq, Bool.not_eq_true', decide_eq_false_iff_not, Bool.not_true, Bool.not_false, Bool.false_eq_true, if_true, if_false, reduceIte, gShr_i, h20, i1, h.1, h.2]
  · refine ⟨((((c % 2147483647 + 48271 * k * k + k + 1) * 69621 % 2147483629) * ((c % 2147483647 + 48271 * k * k + k + 1) * 69621 % 2147483629) + 7919 * k + 5) % 2147483587) * ((((c % 2147483647 + 48271 * k * k + k + 1) * 69621 % 2147483629) * ((c % 2147483647 + 48271 * k * k + k + 1) * 69621 % 2147483629) + 7919 * k + 5) % 2147483587) % 2147483629, ?_, Int.emod_nonneg _ (by decide), Bd.mono inferInstance (by decide)⟩
    · by_cases h1 : c % 2 = 0
      · have h2 : ¬ 0 < c / 2 ^ (20 * k + 1).toNat := fun z => h ⟨h1, z⟩
        simp +decide only [m_law_mix_v2, den_law_mix_v2, ev_seq, seq_nx, seq_rt, seq_ex, seq_bk, seq_ct, seq_ite, fl_ok, fl_ex, fl_ite, ev_set, kSet_ev, ev_ret, ev_retN, ev_nx, ev_bk, ev_ct, ev_raise, ev_if, kIf_ev, ev_drop, kNx_ev, ev_par, kPar_ev, kId_ev, ev_asg, kAsg_ev, ev_for, kFor_ev, ev_V, dVg_ok, ev_C, ev_1, ev_2, bind2_ok, bind2_ite1, bind2_ite2, bind_ite, ev_A, ev_nil, ev_cons, kCons_ev, ev_T, toB_ev, ev_and, ev_or, ev_not, kAnd_ev, kOr_ev, kNot_ev, ev_andV, ev_orV, ev_notV, kAndV_ev, kOrV_ev, kNotV_ev, ev_ife, kIfE_ev, ev_ch, kCh, tup_ev, lst_ev, call_ev, kw_ev, ev_kw, ev_fn, startE_0, startE_s, startE_c, fin_rt, fin_nx, fin_ex, fin_ite, ix_t0, ix_t1, ix_t2, ix_t3, ix_l0, ix_l1, ix_l2, len_l, len_t1, len_t2, len_t3, len_t4, beq_self_eq_true, ev_iL, ev_iT, asL_ev, asT_ev, ev_iA, ev_P, toI_ev, ev_P0, ev_sl, kSl_ev, put_1, gAdd_i, gSub_i, gMul_i, gDiv_p, gMod_p, gPow_l, gShl_l, gShr_l, gLt_i, gLe_i, gGt_i, gGe_i, gEq_i, gNe_i, gNeg_i, gAbs_i, gInt_i, gInt_b, gEq_s, gNe_s, gEq_b, gNe_b, gEq_2, gNe_2, gEq_3, gNe_3, gEq_22, gNe_22, DL.R.bind_ok, DL.R.bind_ex, ev_setL, kSetL_ev, ev_lDisp, kDisp_ev, ev_lList, lOf_l, lOf_t, ev_frz, frz_l, frz_d, frz_n, ev_lend, lend_l, lend_d, atom_i, atom_b, atom_s, ev_lendB, lendB_l, lendB_d, ev_app, app_l, kApp_ev, ev_put, put_l, ev_ixO, ixO_l, ixO_d, put_m, putAll_c, putAll_n, ev_lc, kLst_ev, ev_lcL, wipe_n, wipe_c, r1_2, r1_3, bits_ev, List.getElem?_cons_zero, List.getElem?_cons_succ, List.set_cons_zero, List.set_cons_succ, List.length_cons, List.length_nil, List.length_map, List.append_nil, List.cons_append, List.nil_append, ev_if, turn_nx, turn_ct, turn_bk, turn_rt, turn_ite, kWh_ev, isi_int_int, isi_bool_int, isi_int_bool, isi_bool_bool, isi_int_str, isi_int_none, isi_int_list, isi_int_tup, isi_bool_str, isi_bool_none, isi_bool_list, isi_bool_tup, isi_tup_tup, isi_tup_int, isi_tup_bool, isi_tup_str, isi_tup_none, isi_tup_list, isi_list_list, isi_list_tup, isi_list_int, isi_list_bool, isi_list_str, isi_list_none, isi_str_str, isi_str_int, isi_str_bool, isi_str_none, isi_str_list, isi_str_tup, decide_true, decide_false, not_true_eq_false, not_false_eq_true, ne_eq, decide_eq_true_eq, Bool.not_eq_true', decide_eq_false_iff_not, Bool.not_true, Bool.not_false, Bool.false_eq_true, if_true, if_false, reduceIte, gShr_i, h20, i1, i2, i3, i4, i5, h1, h2]
      · simp +decide only [m_law_mix_v2, den_law_mix_v2, ev_seq, seq_nx, seq_rt, seq_ex, seq_bk, seq_ct, seq_ite, fl_ok, fl_ex, fl_ite, ev_set, kSet_ev, ev_ret, ev_retN, ev_nx, ev_bk, ev_ct, ev_raise, ev_if, kIf_ev, ev_drop, kNx_ev, ev_par, kPar_ev, kId_ev, ev_asg, kAsg_ev, ev_for, kFor_ev, ev_V, dVg_ok, ev_C, ev_1, ev_2, bind2_ok, bind2_ite1, bind2_ite2, bind_ite, ev_A, ev_nil, ev_cons, kCons_ev, ev_T, toB_ev, ev_and, ev_or, ev_not, kAnd_ev, kOr_ev, kNot_ev, ev_andV, ev_orV, ev_notV, kAndV_ev, kOrV_ev, kNotV_ev, ev_ife, kIfE_ev, ev_ch, kCh, tup_ev, lst_ev, call_ev, kw_ev, ev_kw, ev_fn, startE_0, startE_s, startE_c, fin_rt, fin_nx, fin_ex, fin_ite, ix_t0, ix_t1, ix_t2, ix_t3, ix_l0, ix_l1, ix_l2, len_l, len_t1, len_t2, len_t3, len_t4, beq_self_eq_true, ev_iL, ev_iT, asL_ev, asT_ev, ev_iA, ev_P, toI_ev, ev_P0, ev_sl, kSl_ev, put_1, gAdd_i, gSub_i, gMul_i, gDiv_p, gMod_p, gPow_l, gShl_l, gShr_l, gLt_i, gLe_i, gGt_i, gGe_i, gEq_i, gNe_i, gNeg_i, gAbs_i, gInt_i, gInt_b, gEq_s, gNe_s, gEq_b, gNe_b, gEq_2, gNe_2, gEq_3, gNe_3, gEq_22, gNe_22, DL.R.bind_ok, DL.R.bind_ex, ev_setL, kSetL_ev, ev_lDisp, kDisp_ev, ev_lList, lOf_l, lOf_t, ev_frz, frz_l, frz_d, frz_n, ev_lend, lend_l, lend_d, atom_i, atom_b, atom_s, ev_lendB, lendB_l, lendB_d, ev_app, app_l, kApp_ev, ev_put, put_l, ev_ixO, ixO_l, ixO_d, put_m, putAll_c, putAll_n, ev_lc, kLst_ev, ev_lcL, wipe_n, wipe_c, r1_2, r1_3, bits_ev, List.getElem?_cons_zero, List.getElem?_cons_succ, List.set_cons_zero, List.set_cons_succ, List.length_cons, List.length_nil, List.length_map, List.append_nil, List.cons_append, List.nil_append, ev_if, turn_nx, turn_ct, turn_bk, turn_rt, turn_ite, kWh_ev, isi_int_int, isi_bool_int, isi_int_bool, isi_bool_bool, isi_int_str, isi_int_none, isi_int_list, isi_int_tup, isi_bool_str, isi_bool_none, isi_bool_list, isi_bool_tup, isi_tup_tup, isi_tup_int, isi_tup_bool, isi_tup_str, isi_tup_none, isi_tup_list, isi_list_list, isi_list_tup, isi_list_int, isi_list_bool, isi_list_str, isi_list_none, isi_str_str, isi_str_int, isi_str_bool, isi_str_none, isi_str_list, isi_str_tup, decide_true, decide_false, not_true_eq_false, not_false_eq_true, ne_eq, decide_eq_true_eq, Bool.not_eq_true', decide_eq_false_iff_not, Bool.not_true, Bool.not_false, Bool.false_eq_true, if_true, if_false, reduceIte, gShr_i, h20, i1, i2, i3, i4, i5, h1]
end DL

set_option autoImplicit false
set_option linter.all false
/-! plain arithmetic: roots, and the sign of a + b * root d -/
namespace MB
/-- d lies between two squares -/
def Root (d : Int) : Prop := ∃ k : Int, 0 < k ∧ k * k < d ∧ d < (k + 1) * (k + 1)
theorem Root.pos {d : Int} (h : Root d) : 0 < d := by
  obtain ⟨k, h1, h2, _⟩ := h
  have : 0 ≤ k * k := Int.mul_nonneg (by omega) (by omega)
  omega
theorem sq_lt {x y : Int} (hx : 0 ≤ x) (h : x * x < y * y) (hy : 0 ≤ y) : x < y := by
  rcases Int.lt_or_le x y with z | z
  · exact z
  · exfalso
    have := Int.mul_self_le_mul_self hy z
    omega
theorem irr_nat {d : Int} (h : Root d) : ∀ (n : Nat) (a b : Int), 0 ≤ a → 0 ≤ b → b.toNat ≤ n → a * a = d * (b * b) → b = 0 := by
  obtain ⟨k, hk, h1, h2⟩ := h
  have hd : 0 < d := by
    have : 0 ≤ k * k := Int.mul_nonneg (by omega) (by omega)
    omega
  intro n
  induction n with
  | zero => intro a b _ hb hn _; omega
  | succ n ih =>
    intro a b ha hb hn e
    by_cases hb0 : b = 0
    · exact hb0
    exfalso
    have hbp : 0 < b := by omega
    have hbb : 0 < b * b := Int.mul_pos hbp hbp
    -- k b < a < (k + 1) b
    have l1 : k * b < a := sq_lt (Int.mul_nonneg (by omega) hb) (by
      have := Int.mul_lt_mul_of_pos_right h1 hbb
      have e2 : k * b * (k * b) = k * k * (b * b) := by grind
      omega) ha
    have l2 : a < (k + 1) * b := sq_lt ha (by
      have := Int.mul_lt_mul_of_pos_right h2 hbb
      have e2 : (k + 1) * b * ((k + 1) * b) = (k + 1) * (k + 1) * (b * b) := by grind
      omega) (Int.mul_nonneg (by omega) hb)
    have e3 : (k + 1) * b = k * b + b := by grind
    have e4 : (d * b - k * a) * (d * b - k * a) = d * ((a - k * b) * (a - k * b)) := by grind
    have p1 : 0 ≤ d * b - k * a := by
      -- k a < (k (k + 1)) b ... from squares
      rcases Int.lt_or_le (d * b - k * a) 0 with z | z
      · exfalso
        have z1 : d * b < k * a := by omega
        have z2 := Int.mul_self_le_mul_self (Int.mul_nonneg (by omega) hb) (Int.le_of_lt z1)
        have z3 : k * a * (k * a) = k * k * (d * (b * b)) := by rw [← e]; grind
        have z4 : d * b * (d * b) = d * (d * (b * b)) := by grind
        have z5 : 0 < d * (b * b) := Int.mul_pos hd hbb
        have z6 := Int.mul_lt_mul_of_pos_right h1 z5
        omega
      · exact z
    have := ih (d * b - k * a) (a - k * b) p1 (by omega) (by omega) e4
    omega
theorem irr {d : Int} (h : Root d) {a b : Int} (e : a * a = d * b * b) : b = 0 := by
  have e2 : (a.natAbs : Int) * (a.natAbs : Int) = d * ((b.natAbs : Int) * (b.natAbs : Int)) := by
    have f1 : (a.natAbs : Int) * (a.natAbs : Int) = a * a := by rw [← Int.natCast_mul, Int.natAbs_mul_self]
    have f2 : (b.natAbs : Int) * (b.natAbs : Int) = b * b := by rw [← Int.natCast_mul, Int.natAbs_mul_self]
    rw [f1, f2, e, Int.mul_assoc]
  have := irr_nat h _ _ _ (by omega) (by omega) (Nat.le_refl _) e2
  omega
/-- a + b * root d is below 0 -/
def Lt0 (d a b : Int) : Prop := (a ≤ 0 ∧ b ≤ 0 ∧ ¬(a = 0 ∧ b = 0)) ∨ (0 < a ∧ b < 0 ∧ a * a < d * b * b) ∨ (a < 0 ∧ 0 < b ∧ d * b * b < a * a)
instance (d a b : Int) : Decidable (Lt0 d a b) := by unfold Lt0; infer_instance
theorem lt0_scale {d a b s : Int} (hs : 0 < s) : Lt0 d (a * s) (b * s) ↔ Lt0 d a b := by
  have q1 : a * s * (a * s) = a * a * (s * s) := by grind
  have q2 : d * (b * s) * (b * s) = d * b * b * (s * s) := by grind
  have hss : 0 < s * s := Int.mul_pos hs hs
  have pos (x : Int) : 0 < x * s ↔ 0 < x := ⟨fun h => by
    rcases Int.lt_or_le 0 x with z | z
    · exact z
    · have := Int.mul_le_mul_of_nonneg_right z (Int.le_of_lt hs); omega, fun h => Int.mul_pos h hs⟩
  have neg (x : Int) : x * s < 0 ↔ x < 0 := by
    have := pos (-x)
    have e : -x * s = -(x * s) := by grind
    rw [e] at this
    omega
  unfold Lt0
  rw [q1, q2]
  have pa := pos a
  have pb := pos b
  have na := neg a
  have nb := neg b
  have m1 : a * a * (s * s) < d * b * b * (s * s) ↔ a * a < d * b * b := ⟨fun h => Int.lt_of_mul_lt_mul_right h (Int.le_of_lt hss), fun h => Int.mul_lt_mul_of_pos_right h hss⟩
  have m2 : d * b * b * (s * s) < a * a * (s * s) ↔ d * b * b < a * a := ⟨fun h => Int.lt_of_mul_lt_mul_right h (Int.le_of_lt hss), fun h => Int.mul_lt_mul_of_pos_right h hss⟩
  rw [m1, m2]
  generalize a * s = x at *
  generalize b * s = y at *
  omega
/-- the whole part of b * root d -/
def IsFl (d b R : Int) : Prop := ∃ r : Int, 0 ≤ r ∧ r * r ≤ d * b * b ∧ d * b * b < (r + 1) * (r + 1) ∧ R = (if b < 0 then 0 - r - 1 else r)
theorem fl_low {d b R x : Int} (h : IsFl d b R) (hx : -R ≤ x) : ¬ Lt0 d x b := by
  obtain ⟨r, h0, h1, h2, rfl⟩ := h
  intro z
  unfold Lt0 at z
  split at hx
  · rename_i hb
    have := Int.mul_self_le_mul_self (by omega : 0 ≤ r + 1) (by omega : r + 1 ≤ x)
    omega
  · rename_i hb
    rcases z with ⟨z1, z2, z3⟩ | ⟨z1, z2, z3⟩ | ⟨z1, z2, z3⟩
    · have : b = 0 := by omega
      subst this
      have h1' : r * r ≤ 0 := by simpa using h1
      have : r = 0 := by
        rcases Int.lt_or_le 0 r with w | w
        · have := Int.mul_pos w w; omega
        · omega
      omega
    · omega
    · have := Int.mul_self_le_mul_self (by omega : 0 ≤ -x) (by omega : -x ≤ r)
      have e : -x * -x = x * x := by grind
      omega
theorem fl_high {d b R y : Int} (hd : Root d) (h : IsFl d b R) (hy : y ≤ -R - 1) : Lt0 d y b := by
  obtain ⟨r, h0, h1, h2, rfl⟩ := h
  unfold Lt0
  split at hy
  · rename_i hb
    by_cases hy0 : y ≤ 0
    · exact .inl ⟨hy0, by omega, by omega⟩
    · refine .inr (.inl ⟨by omega, hb, ?_⟩)
      have := Int.mul_self_le_mul_self (by omega : 0 ≤ y) (by omega : y ≤ r)
      have ne : y * y ≠ d * b * b := fun e => by have := irr hd e; omega
      omega
  · rename_i hb
    by_cases hb0 : b = 0
    · exact .inl ⟨by omega, by omega, by omega⟩
    · refine .inr (.inr ⟨by omega, by omega, ?_⟩)
      have := Int.mul_self_le_mul_self (by omega : 0 ≤ r + 1) (by omega : r + 1 ≤ -y)
      have e : -y * -y = y * y := by grind
      omega
/-- one step towards the root -/
theorem newton {n f q : Int} (hf : 0 < f) (hq : n < f * (q + 1)) (hq0 : 0 ≤ q) : n < ((f + q) / 2 + 1) * ((f + q) / 2 + 1) := by
  have h1 : f + q + 1 ≤ 2 * ((f + q) / 2 + 1) := by omega
  generalize (f + q) / 2 + 1 = c at h1
  have h2 := Int.mul_self_le_mul_self (by omega : 0 ≤ f + q + 1) h1
  have e1 : 2 * c * (2 * c) = 4 * (c * c) := by grind
  have e2 : (f + q + 1) * (f + q + 1) = (f - (q + 1)) * (f - (q + 1)) + 4 * (f * (q + 1)) := by grind
  have h3 : 0 ≤ (f - (q + 1)) * (f - (q + 1)) := by
    rcases Int.le_total 0 (f - (q + 1)) with w | w
    · exact Int.mul_nonneg w w
    · exact Int.mul_nonneg_of_nonpos_of_nonpos w w
  omega
end MB

set_option Elab.async false
set_option linter.all false
set_option maxRecDepth 100000
set_option maxHeartbeats 1000000
set_option autoImplicit false
/-! what the defs of roots and of the order are worth -/
namespace DL
open PySem L2 MB
theorem root_loop (n : Int) (hn : 0 < n) : ∀ (k : Nat) (f : Int) (x2 : Option SV), f.toNat ≤ k → 0 < f → Bd f 9000 → n < (f + 1) * (f + 1) → ∃ r : Int, 0 ≤ r ∧ r * r ≤ n ∧ n < (r + 1) * (r + 1) ∧
    sWhile lt1_root_floor lb1_root_floor [some (.d (.int n)), some (.d (.int f)), x2] = .rt (.int r) := by
  intro k
  induction k with
  | zero => intro f x2 h0 hf _ _; omega
  | succ k ih =>
    intro f x2 h0 hf bf hn2
    have hq0 : 0 ≤ n / f := Int.ediv_nonneg (by omega) (by omega)
    have hq1 : n < f * (n / f + 1) := by
      have := Int.lt_mul_ediv_self_add (x := n) hf
      have e : f * (n / f + 1) = f * (n / f) + f := by grind
      omega
    have hq2 : f * (n / f) ≤ n := Int.mul_ediv_self_le (by omega)
    rw [ev_while]
    by_cases hc : f ≤ (f + n / f) / 2
    · refine ⟨f, by omega, ?_, hn2, ?_⟩
      · have h1 : f ≤ n / f := by omega
        have := Int.mul_le_mul_of_nonneg_left h1 (by omega : 0 ≤ f)
        omega
      · simp +decide only [lt1_root_floor, lb1_root_floor, ev_seq, seq_nx, seq_rt, seq_ex, seq_bk, seq_ct, seq_ite, fl_ok, fl_ex, fl_ite, ev_set, kSet_ev, ev_ret, ev_retN, ev_nx, ev_bk, ev_ct, ev_raise, ev_if, kIf_ev, ev_drop, kNx_ev, ev_par, kPar_ev, kId_ev, ev_asg, kAsg_ev, ev_for, kFor_ev, ev_V, dVg_ok, ev_C, ev_1, ev_2, bind2_ok, bind2_ite1, bind2_ite2, bind_ite, ev_A, ev_nil, ev_cons, kCons_ev, ev_T, toB_ev, ev_and, ev_or, ev_not, kAnd_ev, kOr_ev, kNot_ev, ev_andV, ev_orV, ev_notV, kAndV_ev, kOrV_ev, kNotV_ev, ev_ife, kIfE_ev, ev_ch, kCh, tup_ev, lst_ev, call_ev, kw_ev, ev_kw, ev_fn, startE_0, startE_s, startE_c, fin_rt, fin_nx, fin_ex, fin_ite, ix_t0, ix_t1, ix_t2, ix_t3, ix_l0, ix_l1, ix_l2, len_l, len_t1, len_t2, len_t3, len_t4, beq_self_eq_true, ev_iL, ev_iT, asL_ev, asT_ev, ev_iA, ev_P, toI_ev, ev_P0, ev_sl, kSl_ev, put_1, gAdd_i, gSub_i, gMul_i, gDiv_p, gMod_p, gPow_l, gShl_l, gShr_l, gLt_i, gLe_i, gGt_i, gGe_i, gEq_i, gNe_i, gNeg_i, gAbs_i, gInt_i, gInt_b, gEq_s, gNe_s, gEq_b, gNe_b, gEq_2, gNe_2, gEq_3, gNe_3, gEq_22, gNe_22, DL.R.bind_ok, DL.R.bind_ex, ev_setL, kSetL_ev, ev_lDisp, kDisp_ev, ev_lList, lOf_l, lOf_t, ev_frz, frz_l, frz_d, frz_n, ev_lend, lend_l, lend_d, atom_i, atom_b, atom_s, ev_lendB, lendB_l, lendB_d, ev_app, app_l, kApp_ev, ev_put, put_l, ev_ixO, ixO_l, ixO_d, put_m, putAll_c, putAll_n, ev_lc, kLst_ev, ev_lcL, wipe_n, wipe_c, r1_2, r1_3, bits_ev, List.getElem?_cons_zero, List.getElem?_cons_succ, List.set_cons_zero, List.set_cons_succ, List.length_cons, List.length_nil, List.length_map, List.append_nil, List.cons_append, List.nil_append, ev_if, turn_nx, turn_ct, turn_bk, turn_rt, turn_ite, kWh_ev, isi_int_int, isi_bool_int, isi_int_bool, isi_bool_bool, isi_int_str, isi_int_none, isi_int_list, isi_int_tup, isi_bool_str, isi_bool_none, isi_bool_list, isi_bool_tup, isi_tup_tup, isi_tup_int, isi_tup_bool, isi_tup_str, isi_tup_none, isi_tup_list, isi_list_list, isi_list_tup, isi_list_int, isi_list_bool, isi_list_str, isi_list_none, isi_str_str, isi_str_int, isi_str_bool, isi_str_none, isi_str_list, isi_str_tup, decide_true, decide_false, not_true_eq_false, not_false_eq_true, ne_eq, decide_eq_true_eq, Bool.not_eq_true', decide_eq_false_iff_not, Bool.not_true, Bool.not_false, Bool.false_eq_true, if_true, if_false, reduceIte, hf, hc]
    · have nw := newton hf hq1 hq0
      have hp : 0 < (f + n / f) / 2 := by
        rcases Int.lt_or_le 0 ((f + n / f) / 2) with z | z
        · exact z
        · have : (f + n / f) / 2 = 0 := by omega
          rw [this] at nw
          omega
      obtain ⟨r, h1, h2, h3, e⟩ := ih ((f + n / f) / 2) (some (.d (.int ((f + n / f) / 2)))) (by omega) hp ⟨by have := bf.h; omega⟩ nw
      refine ⟨r, h1, h2, h3, ?_⟩
      simp +decide only [lt1_root_floor, lb1_root_floor, ev_seq, seq_nx, seq_rt, seq_ex, seq_bk, seq_ct, seq_ite, fl_ok, fl_ex, fl_ite, ev_set, kSet_ev, ev_ret, ev_retN, ev_nx, ev_bk, ev_ct, ev_raise, ev_if, kIf_ev, ev_drop, kNx_ev, ev_par, kPar_ev, kId_ev, ev_asg, kAsg_ev, ev_for, kFor_ev, ev_V, dVg_ok, ev_C, ev_1, ev_2, bind2_ok, bind2_ite1, bind2_ite2, bind_ite, ev_A, ev_nil, ev_cons, kCons_ev, ev_T, toB_ev, ev_and, ev_or, ev_not, kAnd_ev, kOr_ev, kNot_ev, ev_andV, ev_orV, ev_notV, kAndV_ev, kOrV_ev, kNotV_ev, ev_ife, kIfE_ev, ev_ch, kCh, tup_ev, lst_ev, call_ev, kw_ev, ev_kw, ev_fn, startE_0, startE_s, startE_c, fin_rt, fin_nx, fin_ex, fin_ite, ix_t0, ix_t1, ix_t2, ix_t3, ix_l0, ix_l1, ix_l2, len_l, len_t1, len_t2, len_t3, len_t4, beq_self_eq_true, ev_iL, ev_iT, asL_ev, asT_ev, ev_iA, ev_P, toI_ev, ev_P0, ev_sl, kSl_ev, put_1, gAdd_i, gSub_i, gMul_i, gDiv_p, gMod_p, gPow_l, gShl_l, gShr_l, gLt_i, gLe_i, gGt_i, gGe_i, gEq_i, gNe_i, gNeg_i, gAbs_i, gInt_i, gInt_b, gEq_s, gNe_s, gEq_b, gNe_b, gEq_2, gNe_2, gEq_3, gNe_3, gEq_22, gNe_22, DL.R.bind_ok, DL.R.bind_ex, ev_setL, kSetL_ev, ev_lDisp, kDisp_ev, ev_lList, lOf_l, lOf_t, ev_frz, frz_l, frz_d, frz_n, ev_lend, lend_l, lend_d, atom_i, atom_b, atom_s, ev_lendB, lendB_l, lendB_d, ev_app, app_l, kApp_ev, ev_put, put_l, ev_ixO, ixO_l, ixO_d, put_m, putAll_c, putAll_n, ev_lc, kLst_ev, ev_lcL, wipe_n, wipe_c, r1_2, r1_3, bits_ev, List.getElem?_cons_zero, List.getElem?_cons_succ, List.set_cons_zero, List.set_cons_succ, List.length_cons, List.length_nil, List.length_map, List.append_nil, List.cons_append, List.nil_append, ev_if, turn_nx, turn_ct, turn_bk, turn_rt, turn_ite, kWh_ev, isi_int_int, isi_bool_int, isi_int_bool, isi_bool_bool, isi_int_str, isi_int_none, isi_int_list, isi_int_tup, isi_bool_str, isi_bool_none, isi_bool_list, isi_bool_tup, isi_tup_tup, isi_tup_int, isi_tup_bool, isi_tup_str, isi_tup_none, isi_tup_list, isi_list_list, isi_list_tup, isi_list_int, isi_list_bool, isi_list_str, isi_list_none, isi_str_str, isi_str_int, isi_str_bool, isi_str_none, isi_str_list, isi_str_tup, decide_true, decide_false, not_true_eq_false, not_false_eq_true, ne_eq, decide_eq_true_eq, Bool.not_eq_true', decide_eq_false_iff_not, Bool.not_true, Bool.not_false, Bool.false_eq_true, if_true, if_false, reduceIte, hf, hc]
      exact e
theorem root_floor_eq (n : Int) (hn : 0 ≤ n) [b : Bd n 8000] : ∃ r : Int, 0 ≤ r ∧ r * r ≤ n ∧ n < (r + 1) * (r + 1) ∧ m_root_floor [.int n] = .ok (.int r) := by
  by_cases h0 : n = 0
  · subst h0
    refine ⟨0, by decide, by decide, by decide, ?_⟩
    simp +decide only [m_root_floor, den_root_floor, ev_seq, seq_nx, seq_rt, seq_ex, seq_bk, seq_ct, seq_ite, fl_ok, fl_ex, fl_ite, ev_set, kSet_ev, ev_ret, ev_retN, ev_nx, ev_bk, ev_ct, ev_raise, ev_if, kIf_ev, ev_drop, kNx_ev, ev_par, kPar_ev, kId_ev, ev_asg, kAsg_ev, ev_for, kFor_ev, ev_V, dVg_ok, ev_C, ev_1, ev_2, bind2_ok, bind2_ite1, bind2_ite2, bind_ite, ev_A, ev_nil, ev_cons, kCons_ev, ev_T, toB_ev, ev_and, ev_or, ev_not, kAnd_ev, kOr_ev, kNot_ev, ev_andV, ev_orV, ev_notV, kAndV_ev, kOrV_ev, kNotV_ev, ev_ife, kIfE_ev, ev_ch, kCh, tup_ev, lst_ev, call_ev, kw_ev, ev_kw, ev_fn, startE_0, startE_s, startE_c, fin_rt, fin_nx, fin_ex, fin_ite, ix_t0, ix_t1, ix_t2, ix_t3, ix_l0, ix_l1, ix_l2, len_l, len_t1, len_t2, len_t3, len_t4, beq_self_eq_true, ev_iL, ev_iT, asL_ev, asT_ev, ev_iA, ev_P, toI_ev, ev_P0, ev_sl, kSl_ev, put_1, gAdd_i, gSub_i, gMul_i, gDiv_p, gMod_p, gPow_l, gShl_l, gShr_l, gLt_i, gLe_i, gGt_i, gGe_i, gEq_i, gNe_i, gNeg_i, gAbs_i, gInt_i, gInt_b, gEq_s, gNe_s, gEq_b, gNe_b, gEq_2, gNe_2, gEq_3, gNe_3, gEq_22, gNe_22, DL.R.bind_ok, DL.R.bind_ex, ev_setL, kSetL_ev, ev_lDisp, kDisp_ev, ev_lList, lOf_l, lOf_t, ev_frz, frz_l, frz_d, frz_n, ev_lend, lend_l, lend_d, atom_i, atom_b, atom_s, ev_lendB, lendB_l, lendB_d, ev_app, app_l, kApp_ev, ev_put, put_l, ev_ixO, ixO_l, ixO_d, put_m, putAll_c, putAll_n, ev_lc, kLst_ev, ev_lcL, wipe_n, wipe_c, r1_2, r1_3, bits_ev, List.getElem?_cons_zero, List.getElem?_cons_succ, List.set_cons_zero, List.set_cons_succ, List.length_cons, List.length_nil, List.length_map, List.append_nil, List.cons_append, List.nil_append, ev_if, turn_nx, turn_ct, turn_bk, turn_rt, turn_ite, kWh_ev, isi_int_int, isi_bool_int, isi_int_bool, isi_bool_bool, isi_int_str, isi_int_none, isi_int_list, isi_int_tup, isi_bool_str, isi_bool_none, isi_bool_list, isi_bool_tup, isi_tup_tup, isi_tup_int, isi_tup_bool, isi_tup_str, isi_tup_none, isi_tup_list, isi_list_list, isi_list_tup, isi_list_int, isi_list_bool, isi_list_str, isi_list_none, isi_str_str, isi_str_int, isi_str_bool, isi_str_none, isi_str_list, isi_str_tup, decide_true, decide_false, not_true_eq_false, not_false_eq_true, ne_eq, decide_eq_true_eq, Bool.not_eq_true', decide_eq_false_iff_not, Bool.not_true, Bool.not_false, Bool.false_eq_true, if_true, if_false, reduceIte]
  · have hb := ib_le b.h
    have h1 : n.natAbs < 2 ^ (ib n) := lt_of_ib (Nat.le_refl _)
    generalize hz : ib n = z at *
    have hj : ((z : Int) + 1) / 2 = (((z + 1) / 2 : Nat) : Int) := by omega
    have hle : n < 2 ^ ((z + 1) / 2) * 2 ^ ((z + 1) / 2) := by
      have e : (2 : Int) ^ ((z + 1) / 2) * 2 ^ ((z + 1) / 2) = ((2 ^ ((z + 1) / 2 + (z + 1) / 2) : Nat) : Int) := by
        rw [← Int.pow_add]; push_cast; rfl
      have h2 : 2 ^ z ≤ 2 ^ ((z + 1) / 2 + (z + 1) / 2) := Nat.pow_le_pow_right (by decide) (by omega)
      rw [e]
      omega
    have hpos : (0 : Int) < 2 ^ ((z + 1) / 2) := Int.pow_pos (by decide)
    have bf : Bd ((2 : Int) ^ ((z + 1) / 2)) 9000 := by
      constructor
      have e : ((2 : Int) ^ ((z + 1) / 2)).natAbs = 2 ^ ((z + 1) / 2) := by rw [Int.natAbs_pow]; rfl
      rw [e]
      exact Nat.pow_lt_pow_right (by decide) (by omega)
    have hlt : n < (2 ^ ((z + 1) / 2) + 1) * (2 ^ ((z + 1) / 2) + 1) := by
      generalize (2 : Int) ^ ((z + 1) / 2) = f at *
      have : (f + 1) * (f + 1) = f * f + 2 * f + 1 := by grind
      omega
    obtain ⟨r, r1, r2, r3, e⟩ := root_loop n (by omega) _ _ none (Nat.le_refl _) hpos bf hlt
    refine ⟨r, r1, r2, r3, ?_⟩
    have hz' : Builtin.Int.intBits n = z := hz
    have hs : gShl (.int 1) (.int (((z : Int) + 1) / 2)) = .ok (.int (2 ^ ((z + 1) / 2))) := by
      rw [gShl_i (by omega) (by have : Nat.log2 1 = 0 := by decide
                                omega), hj, Int.toNat_natCast, Int.one_mul]
    simp +decide only [m_root_floor, den_root_floor, ev_seq, seq_nx, seq_rt, seq_ex, seq_bk, seq_ct, seq_ite, fl_ok, fl_ex, fl_ite, ev_set, kSet_ev, ev_ret, ev_retN, ev_nx, ev_bk, ev_ct, ev_raise, ev_if, kIf_ev, ev_drop, kNx_ev, ev_par, kPar_ev, kId_ev, ev_asg, kAsg_ev, ev_for, kFor_ev, ev_V, dVg_ok, ev_C, ev_1, ev_2, bind2_ok, bind2_ite1, bind2_ite2, bind_ite, ev_A, ev_nil, ev_cons, kCons_ev, ev_T, toB_ev, ev_and, ev_or, ev_not, kAnd_ev, kOr_ev, kNot_ev, ev_andV, ev_orV, ev_notV, kAndV_ev, kOrV_ev, kNotV_ev, ev_ife, kIfE_ev, ev_ch, kCh, tup_ev, lst_ev, call_ev, kw_ev, ev_kw, ev_fn, startE_0, startE_s, startE_c, fin_rt, fin_nx, fin_ex, fin_ite, ix_t0, ix_t1, ix_t2, ix_t3, ix_l0, ix_l1, ix_l2, len_l, len_t1, len_t2, len_t3, len_t4, beq_self_eq_true, ev_iL, ev_iT, asL_ev, asT_ev, ev_iA, ev_P, toI_ev, ev_P0, ev_sl, kSl_ev, put_1, gAdd_i, gSub_i, gMul_i, gDiv_p, gMod_p, gPow_l, gShl_l, gShr_l, gLt_i, gLe_i, gGt_i, gGe_i, gEq_i, gNe_i, gNeg_i, gAbs_i, gInt_i, gInt_b, gEq_s, gNe_s, gEq_b, gNe_b, gEq_2, gNe_2, gEq_3, gNe_3, gEq_22, gNe_22, DL.R.bind_ok, DL.R.bind_ex, ev_setL, kSetL_ev, ev_lDisp, kDisp_ev, ev_lList, lOf_l, lOf_t, ev_frz, frz_l, frz_d, frz_n, ev_lend, lend_l, lend_d, atom_i, atom_b, atom_s, ev_lendB, lendB_l, lendB_d, ev_app, app_l, kApp_ev, ev_put, put_l, ev_ixO, ixO_l, ixO_d, put_m, putAll_c, putAll_n, ev_lc, kLst_ev, ev_lcL, wipe_n, wipe_c, r1_2, r1_3, bits_ev, List.getElem?_cons_zero, List.getElem?_cons_succ, List.set_cons_zero, List.set_cons_succ, List.length_cons, List.length_nil, List.length_map, List.append_nil, List.cons_append, List.nil_append, ev_if, turn_nx, turn_ct, turn_bk, turn_rt, turn_ite, kWh_ev, isi_int_int, isi_bool_int, isi_int_bool, isi_bool_bool, isi_int_str, isi_int_none, isi_int_list, isi_int_tup, isi_bool_str, isi_bool_none, isi_bool_list, isi_bool_tup, isi_tup_tup, isi_tup_int, isi_tup_bool, isi_tup_str, isi_tup_none, isi_tup_list, isi_list_list, isi_list_tup, isi_list_int, isi_list_bool, isi_list_str, isi_list_none, isi_str_str, isi_str_int, isi_str_bool, isi_str_none, isi_str_list, isi_str_tup, decide_true, decide_false, not_true_eq_false, not_false_eq_true, ne_eq, decide_eq_true_eq, Bool.not_eq_true', decide_eq_false_iff_not, Bool.not_true, Bool.not_false, Bool.false_eq_true, if_true, if_false, reduceIte, h0, hz', hs, e]
theorem sign_of_eq (d a b : Int) (hd : 0 < d) {k1 k2 k3 : Nat} [Bd d k1] [Bd a k2] [Bd b k3] (h1 : k1 ≤ 1000000) (h2 : k2 ≤ 1000000) (h3 : k3 ≤ 1000000) : ∃ v : Int, m_sign_of [.int d, .int a, .int b] = .ok (.int v) ∧ (v < 0 ↔ Lt0 d a b) := by
  have i1 : k2 + k2 ≤ 134217728 := by omega
  have i2 : k1 + k3 ≤ 134217728 := by omega
  have i3 : k1 + k3 + k3 ≤ 134217728 := by omega
  by_cases ha : a = 0
  · refine ⟨a + b, ?_, by unfold Lt0; omega⟩
    simp +decide only [m_sign_of, den_sign_of, ev_seq, seq_nx, seq_rt, seq_ex, seq_bk, seq_ct, seq_ite, fl_ok, fl_ex, fl_ite, ev_set, kSet_ev, ev_ret, ev_retN, ev_nx, ev_bk, ev_ct, ev_raise, ev_if, kIf_ev, ev_drop, kNx_ev, ev_par, kPar_ev, kId_ev, ev_asg, kAsg_ev, ev_for, kFor_ev, ev_V, dVg_ok, ev_C, ev_1, ev_2, bind2_ok, bind2_ite1, bind2_ite2, bind_ite, ev_A, ev_nil, ev_cons, kCons_ev, ev_T, toB_ev, ev_and, ev_or, ev_not, kAnd_ev, kOr_ev, kNot_ev, ev_andV, ev_orV, ev_notV, kAndV_ev, kOrV_ev, kNotV_ev, ev_ife, kIfE_ev, ev_ch, kCh, tup_ev, lst_ev, call_ev, kw_ev, ev_kw, ev_fn, startE_0, startE_s, startE_c, fin_rt, fin_nx, fin_ex, fin_ite, ix_t0, ix_t1, ix_t2, ix_t3, ix_l0, ix_l1, ix_l2, len_l, len_t1, len_t2, len_t3, len_t4, beq_self_eq_true, ev_iL, ev_iT, asL_ev, asT_ev, ev_iA, ev_P, toI_ev, ev_P0, ev_sl, kSl_ev, put_1, gAdd_i, gSub_i, gMul_i, gDiv_p, gMod_p, gPow_l, gShl_l, gShr_l, gLt_i, gLe_i, gGt_i, gGe_i, gEq_i, gNe_i, gNeg_i, gAbs_i, gInt_i, gInt_b, gEq_s, gNe_s, gEq_b, gNe_b, gEq_2, gNe_2, gEq_3, gNe_3, gEq_22, gNe_22, DL.R.bind_ok, DL.R.bind_ex, ev_setL, kSetL_ev, ev_lDisp, kDisp_ev, ev_lList, lOf_l, lOf_t, ev_frz, frz_l, frz_d, frz_n, ev_lend, lend_l, lend_d, atom_i, atom_b, atom_s, ev_lendB, lendB_l, lendB_d, ev_app, app_l, kApp_ev, ev_put, put_l, ev_ixO, ixO_l, ixO_d, put_m, putAll_c, putAll_n, ev_lc, kLst_ev, ev_lcL, wipe_n, wipe_c, r1_2, r1_3, bits_ev, List.getElem?_cons_zero, List.getElem?_cons_succ, List.set_cons_zero, List.set_cons_succ, List.length_cons, List.length_nil, List.length_map, List.append_nil, List.cons_append, List.nil_append, ev_if, turn_nx, turn_ct, turn_bk, turn_rt, turn_ite, kWh_ev, isi_int_int, isi_bool_int, isi_int_bool, isi_bool_bool, isi_int_str, isi_int_none, isi_int_list, isi_int_tup, isi_bool_str, isi_bool_none, isi_bool_list, isi_bool_tup, isi_tup_tup, isi_tup_int, isi_tup_bool, isi_tup_str, isi_tup_none, isi_tup_list, isi_list_list, isi_list_tup, isi_list_int, isi_list_bool, isi_list_str, isi_list_none, isi_str_str, isi_str_int, isi_str_bool, isi_str_none, isi_str_list, isi_str_tup, decide_true, decide_false, not_true_eq_false, not_false_eq_true, ne_eq, decide_eq_true_eq, Bool.not_eq_true', decide_eq_false_iff_not, Bool.not_true, Bool.not_false, Bool.false_eq_true, if_true, if_false, reduceIte, ha]
  by_cases hb : b = 0
  · refine ⟨a + b, ?_, by unfold Lt0; omega⟩
    simp +decide only [m_sign_of, den_sign_of, ev_seq, seq_nx, seq_rt, seq_ex, seq_bk, seq_ct, seq_ite, fl_ok, fl_ex, fl_ite, ev_set, kSet_ev, ev_ret, ev_retN, ev_nx, ev_bk, ev_ct, ev_raise, ev_if, kIf_ev, ev_drop, kNx_ev, ev_par, kPar_ev, kId_ev, ev_asg, kAsg_ev, ev_for, kFor_ev, ev_V, dVg_ok, ev_C, ev_1, ev_2, bind2_ok, bind2_ite1, bind2_ite2, bind_ite, ev_A, ev_nil, ev_cons, kCons_ev, ev_T, toB_ev, ev_and, ev_or, ev_not, kAnd_ev, kOr_ev, kNot_ev, ev_andV, ev_orV, ev_notV, kAndV_ev, kOrV_ev, kNotV_ev, ev_ife, kIfE_ev, ev_ch, kCh, tup_ev, lst_ev, call_ev, kw_ev, ev_kw, ev_fn, startE_0, startE_s, startE_c, fin_rt, fin_nx, fin_ex, fin_ite, ix_t0, ix_t1, ix_t2, ix_t3, ix_l0, ix_l1, ix_l2, len_l, len_t1, len_t2, len_t3, len_t4, beq_self_eq_true, ev_iL, ev_iT, asL_ev, asT_ev, ev_iA, ev_P, toI_ev, ev_P0, ev_sl, kSl_ev, put_1, gAdd_i, gSub_i, gMul_i, gDiv_p, gMod_p, gPow_l, gShl_l, gShr_l, gLt_i, gLe_i, gGt_i, gGe_i, gEq_i, gNe_i, gNeg_i, gAbs_i, gInt_i, gInt_b, gEq_s, gNe_s, gEq_b, gNe_b, gEq_2, gNe_2, gEq_3, gNe_3, gEq_22, gNe_22, DL.R.bind_ok, DL.R.bind_ex, ev_setL, kSetL_ev, ev_lDisp, kDisp_ev, ev_lList, lOf_l, lOf_t, ev_frz, frz_l, frz_d, frz_n, ev_lend, lend_l, lend_d, atom_i, atom_b, atom_s, ev_lendB, lendB_l, lendB_d, ev_app, app_l, kApp_ev, ev_put, put_l, ev_ixO, ixO_l, ixO_d, put_m, putAll_c, putAll_n, ev_lc, kLst_ev, ev_lcL, wipe_n, wipe_c, r1_2, r1_3, bits_ev, List.getElem?_cons_zero, List.getElem?_cons_succ, List.set_cons_zero, List.set_cons_succ, List.length_cons, List.length_nil, List.length_map, List.append_nil, List.cons_append, List.nil_append, ev_if, turn_nx, turn_ct, turn_bk, turn_rt, turn_ite, kWh_ev, isi_int_int, isi_bool_int, isi_int_bool, isi_bool_bool, isi_int_str, isi_int_none, isi_int_list, isi_int_tup, isi_bool_str, isi_bool_none, isi_bool_list, isi_bool_tup, isi_tup_tup, isi_tup_int, isi_tup_bool, isi_tup_str, isi_tup_none, isi_tup_list, isi_list_list, isi_list_tup, isi_list_int, isi_list_bool, isi_list_str, isi_list_none, isi_str_str, isi_str_int, isi_str_bool, isi_str_none, isi_str_list, isi_str_tup, decide_true, decide_false, not_true_eq_false, not_false_eq_true, ne_eq, decide_eq_true_eq, Bool.not_eq_true', decide_eq_false_iff_not, Bool.not_true, Bool.not_false, Bool.false_eq_true, if_true, if_false, reduceIte, ha, hb]
  by_cases pa : 0 < a
  · by_cases pb : 0 < b
    · refine ⟨a + b, ?_, by unfold Lt0; omega⟩
      simp +decide only [m_sign_of, den_sign_of, ev_seq, seq_nx, seq_rt, seq_ex, seq_bk, seq_ct, seq_ite, fl_ok, fl_ex, fl_ite, ev_set, kSet_ev, ev_ret, ev_retN, ev_nx, ev_bk, ev_ct, ev_raise, ev_if, kIf_ev, ev_drop, kNx_ev, ev_par, kPar_ev, kId_ev, ev_asg, kAsg_ev, ev_for, kFor_ev, ev_V, dVg_ok, ev_C, ev_1, ev_2, bind2_ok, bind2_ite1, bind2_ite2, bind_ite, ev_A, ev_nil, ev_cons, kCons_ev, ev_T, toB_ev, ev_and, ev_or, ev_not, kAnd_ev, kOr_ev, kNot_ev, ev_andV, ev_orV, ev_notV, kAndV_ev, kOrV_ev, kNotV_ev, ev_ife, kIfE_ev, ev_ch, kCh, tup_ev, lst_ev, call_ev, kw_ev, ev_kw, ev_fn, startE_0, startE_s, startE_c, fin_rt, fin_nx, fin_ex, fin_ite, ix_t0, ix_t1, ix_t2, ix_t3, ix_l0, ix_l1, ix_l2, len_l, len_t1, len_t2, len_t3, len_t4, beq_self_eq_true, ev_iL, ev_iT, asL_ev, asT_ev, ev_iA, ev_P, toI_ev, ev_P0, ev_sl, kSl_ev, put_1, gAdd_i, gSub_i, gMul_i, gDiv_p, gMod_p, gPow_l, gShl_l, gShr_l, gLt_i, gLe_i, gGt_i, gGe_i, gEq_i, gNe_i, gNeg_i, gAbs_i, gInt_i, gInt_b, gEq_s, gNe_s, gEq_b, gNe_b, gEq_2, gNe_2, gEq_3, gNe_3, gEq_22, gNe_22, DL.R.bind_ok, DL.R.bind_ex, ev_setL, kSetL_ev, ev_lDisp, kDisp_ev, ev_lList, lOf_l, lOf_t, ev_frz, frz_l, frz_d, frz_n, ev_lend, lend_l, lend_d, atom_i, atom_b, atom_s, ev_lendB, lendB_l, lendB_d, ev_app, app_l, kApp_ev, ev_put, put_l, ev_ixO, ixO_l, ixO_d, put_m, putAll_c, putAll_n, ev_lc, kLst_ev, ev_lcL, wipe_n, wipe_c, r1_2, r1_3, bits_ev, List.getElem?_cons_zero, List.getElem?_cons_succ, List.set_cons_zero, List.set_cons_succ, List.length_cons, List.length_nil, List.length_map, List.append_nil, List.cons_append, List.nil_append, ev_if, turn_nx, turn_ct, turn_bk, turn_rt, turn_ite, kWh_ev, isi_int_int, isi_bool_int, isi_int_bool, isi_bool_bool, isi_int_str, isi_int_none, isi_int_list, isi_int_tup, isi_bool_str, isi_bool_none, isi_bool_list, isi_bool_tup, isi_tup_tup, isi_tup_int, isi_tup_bool, isi_tup_str, isi_tup_none, isi_tup_list, isi_list_list, isi_list_tup, isi_list_int, isi_list_bool, isi_list_str, isi_list_none, isi_str_str, isi_str_int, isi_str_bool, isi_str_none, isi_str_list, isi_str_tup, decide_true, decide_false, not_true_eq_false, not_false_eq_true, ne_eq, decide_eq_true_eq, Bool.not_eq_true', decide_eq_false_iff_not, Bool.not_true, Bool.not_false, Bool.false_eq_true, if_true, if_false, reduceIte, ha, hb, pa, pb]
    · refine ⟨a * a - d * b * b, ?_, by unfold Lt0; omega⟩
      simp +decide only [m_sign_of, den_sign_of, ev_seq, seq_nx, seq_rt, seq_ex, seq_bk, seq_ct, seq_ite, fl_ok, fl_ex, fl_ite, ev_set, kSet_ev, ev_ret, ev_retN, ev_nx, ev_bk, ev_ct, ev_raise, ev_if, kIf_ev, ev_drop, kNx_ev, ev_par, kPar_ev, kId_ev, ev_asg, kAsg_ev, ev_for, kFor_ev, ev_V, dVg_ok, ev_C, ev_1, ev_2, bind2_ok, bind2_ite1, bind2_ite2, bind_ite, ev_A, ev_nil, ev_cons, kCons_ev, ev_T, toB_ev, ev_and, ev_or, ev_not, kAnd_ev, kOr_ev, kNot_ev, ev_andV, ev_orV, ev_notV, kAndV_ev, kOrV_ev, kNotV_ev, ev_ife, kIfE_ev, ev_ch, kCh, tup_ev, lst_ev, call_ev, kw_ev, ev_kw, ev_fn, startE_0, startE_s, startE_c, fin_rt, fin_nx, fin_ex, fin_ite, ix_t0, ix_t1, ix_t2, ix_t3, ix_l0, ix_l1, ix_l2, len_l, len_t1, len_t2, len_t3, len_t4, beq_self_eq_true, ev_iL, ev_iT, asL_ev, asT_ev, ev_iA, ev_P, toI_ev, ev_P0, ev_sl, kSl_ev, put_1, gAdd_i, gSub_i, gMul_i, gDiv_p, gMod_p, gPow_l, gShl_l, gShr_l, gLt_i, gLe_i, gGt_i, gGe_i, gEq_i, gNe_i, gNeg_i, gAbs_i, gInt_i, gInt_b, gEq_s, gNe_s, gEq_b, gNe_b, gEq_2, gNe_2, gEq_3, gNe_3, gEq_22, gNe_22, DL.R.bind_ok, DL.R.bind_ex, ev_setL, kSetL_ev, ev_lDisp, kDisp_ev, ev_lList, lOf_l, lOf_t, ev_frz, frz_l, frz_d, frz_n, ev_lend, lend_l, lend_d, atom_i, atom_b, atom_s, ev_lendB, lendB_l, lendB_d, ev_app, app_l, kApp_ev, ev_put, put_l, ev_ixO, ixO_l, ixO_d, put_m, putAll_c, putAll_n, ev_lc, kLst_ev, ev_lcL, wipe_n, wipe_c, r1_2, r1_3, bits_ev, List.getElem?_cons_zero, List.getElem?_cons_succ, List.set_cons_zero, List.set_cons_succ, List.length_cons, List.length_nil, List.length_map, List.append_nil, List.cons_append, List.nil_append, ev_if, turn_nx, turn_ct, turn_bk, turn_rt, turn_ite, kWh_ev, isi_int_int, isi_bool_int, isi_int_bool, isi_bool_bool, isi_int_str, isi_int_none, isi_int_list, isi_int_tup, isi_bool_str, isi_bool_none, isi_bool_list, isi_bool_tup, isi_tup_tup, isi_tup_int, isi_tup_bool, isi_tup_str, isi_tup_none, isi_tup_list, isi_list_list, isi_list_tup, isi_list_int, isi_list_bool, isi_list_str, isi_list_none, isi_str_str, isi_str_int, isi_str_bool, isi_str_none, isi_str_list, isi_str_tup, decide_true, decide_false, not_true_eq_false, not_false_eq_true, ne_eq, decide_eq_true_eq, Bool.not_eq_true', decide_eq_false_iff_not, Bool.not_true, Bool.not_false, Bool.false_eq_true, if_true, if_false, reduceIte, ha, hb, pa, pb, i1, i2, i3]
  · by_cases pb : 0 < b
    · refine ⟨d * b * b - a * a, ?_, by unfold Lt0; omega⟩
      simp +decide only [m_sign_of, den_sign_of, ev_seq, seq_nx, seq_rt, seq_ex, seq_bk, seq_ct, seq_ite, fl_ok, fl_ex, fl_ite, ev_set, kSet_ev, ev_ret, ev_retN, ev_nx, ev_bk, ev_ct, ev_raise, ev_if, kIf_ev, ev_drop, kNx_ev, ev_par, kPar_ev, kId_ev, ev_asg, kAsg_ev, ev_for, kFor_ev, ev_V, dVg_ok, ev_C, ev_1, ev_2, bind2_ok, bind2_ite1, bind2_ite2, bind_ite, ev_A, ev_nil, ev_cons, kCons_ev, ev_T, toB_ev, ev_and, ev_or, ev_not, kAnd_ev, kOr_ev, kNot_ev, ev_andV, ev_orV, ev_notV, kAndV_ev, kOrV_ev, kNotV_ev, ev_ife, kIfE_ev, ev_ch, kCh, tup_ev, lst_ev, call_ev, kw_ev, ev_kw, ev_fn, startE_0, startE_s, startE_c, fin_rt, fin_nx, fin_ex, fin_ite, ix_t0, ix_t1, ix_t2, ix_t3, ix_l0, ix_l1, ix_l2, len_l, len_t1, len_t2, len_t3, len_t4, beq_self_eq_true, ev_iL, ev_iT, asL_ev, asT_ev, ev_iA, ev_P, toI_ev, ev_P0, ev_sl, kSl_ev, put_1, gAdd_i, gSub_i, gMul_i, gDiv_p, gMod_p, gPow_l, gShl_l, gShr_l, gLt_i, gLe_i, gGt_i, gGe_i, gEq_i, gNe_i, gNeg_i, gAbs_i, gInt_i, gInt_b, gEq_s, gNe_s, gEq_b, gNe_b, gEq_2, gNe_2, gEq_3, gNe_3, gEq_22, gNe_22, DL.R.bind_ok, DL.R.bind_ex, ev_setL, kSetL_ev, ev_lDisp, kDisp_ev, ev_lList, lOf_l, lOf_t, ev_frz, frz_l, frz_d, frz_n, ev_lend, lend_l, lend_d, atom_i, atom_b, atom_s, ev_lendB, lendB_l, lendB_d, ev_app, app_l, kApp_ev, ev_put, put_l, ev_ixO, ixO_l, ixO_d, put_m, putAll_c, putAll_n, ev_lc, kLst_ev, ev_lcL, wipe_n, wipe_c, r1_2, r1_3, bits_ev, List.getElem?_cons_zero, List.getElem?_cons_succ, List.set_cons_zero, List.set_cons_succ, List.length_cons, List.length_nil, List.length_map, List.append_nil, List.cons_append, List.nil_append, ev_if, turn_nx, turn_ct, turn_bk, turn_rt, turn_ite, kWh_ev, isi_int_int, isi_bool_int, isi_int_bool, isi_bool_bool, isi_int_str, isi_int_none, isi_int_list, isi_int_tup, isi_bool_str, isi_bool_none, isi_bool_list, isi_bool_tup, isi_tup_tup, isi_tup_int, isi_tup_bool, isi_tup_str, isi_tup_none, isi_tup_list, isi_list_list, isi_list_tup, isi_list_int, isi_list_bool, isi_list_str, isi_list_none, isi_str_str, isi_str_int, isi_str_bool, isi_str_none, isi_str_list, isi_str_tup, decide_true, decide_false, not_true_eq_false, not_false_eq_true, ne_eq, decide_eq_true_eq, Bool.not_eq_true', decide_eq_false_iff_not, Bool.not_true, Bool.not_false, Bool.false_eq_true, if_true, if_false, reduceIte, ha, hb, pa, pb, i1, i2, i3]
    · refine ⟨a + b, ?_, by unfold Lt0; omega⟩
      simp +decide only [m_sign_of, den_sign_of, ev_seq, seq_nx, seq_rt, seq_ex, seq_bk, seq_ct, seq_ite, fl_ok, fl_ex, fl_ite, ev_set, kSet_ev, ev_ret, ev_retN, ev_nx, ev_bk, ev_ct, ev_raise, ev_if, kIf_ev, ev_drop, kNx_ev, ev_par, kPar_ev, kId_ev, ev_asg, kAsg_ev, ev_for, kFor_ev, ev_V, dVg_ok, ev_C, ev_1, ev_2, bind2_ok, bind2_ite1, bind2_ite2, bind_ite, ev_A, ev_nil, ev_cons, kCons_ev, ev_T, toB_ev, ev_and, ev_or, ev_not, kAnd_ev, kOr_ev, kNot_ev, ev_andV, ev_orV, ev_notV, kAndV_ev, kOrV_ev, kNotV_ev, ev_ife, kIfE_ev, ev_ch, kCh, tup_ev, lst_ev, call_ev, kw_ev, ev_kw, ev_fn, startE_0, startE_s, startE_c, fin_rt, fin_nx, fin_ex, fin_ite, ix_t0, ix_t1, ix_t2, ix_t3, ix_l0, ix_l1, ix_l2, len_l, len_t1, len_t2, len_t3, len_t4, beq_self_eq_true, ev_iL, ev_iT, asL_ev, asT_ev, ev_iA, ev_P, toI_ev, ev_P0, ev_sl, kSl_ev, put_1, gAdd_i, gSub_i, gMul_i, gDiv_p, gMod_p, gPow_l, gShl_l, gShr_l, gLt_i, gLe_i, gGt_i, gGe_i, gEq_i, gNe_i, gNeg_i, gAbs_i, gInt_i, gInt_b, gEq_s, gNe_s, gEq_b, gNe_b, gEq_2, gNe_2, gEq_3, gNe_3, gEq_22, gNe_22, DL.R.bind_ok, DL.R.bind_ex, ev_setL, kSetL_ev, ev_lDisp, kDisp_ev, ev_lList, lOf_l, lOf_t, ev_frz, frz_l, frz_d, frz_n, ev_lend, lend_l, lend_d, atom_i, atom_b, atom_s, ev_lendB, lendB_l, lendB_d, ev_app, app_l, kApp_ev, ev_put, put_l, ev_ixO, ixO_l, ixO_d, put_m, putAll_c, putAll_n, ev_lc, kLst_ev, ev_lcL, wipe_n, wipe_c, r1_2, r1_3, bits_ev, List.getElem?_cons_zero, List.getElem?_cons_succ, List.set_cons_zero, List.set_cons_succ, List.length_cons, List.length_nil, List.length_map, List.append_nil, List.cons_append, List.nil_append, ev_if, turn_nx, turn_ct, turn_bk, turn_rt, turn_ite, kWh_ev, isi_int_int, isi_bool_int, isi_int_bool, isi_bool_bool, isi_int_str, isi_int_none, isi_int_list, isi_int_tup, isi_bool_str, isi_bool_none, isi_bool_list, isi_bool_tup, isi_tup_tup, isi_tup_int, isi_tup_bool, isi_tup_str, isi_tup_none, isi_tup_list, isi_list_list, isi_list_tup, isi_list_int, isi_list_bool, isi_list_str, isi_list_none, isi_str_str, isi_str_int, isi_str_bool, isi_str_none, isi_str_list, isi_str_tup, decide_true, decide_false, not_true_eq_false, not_false_eq_true, ne_eq, decide_eq_true_eq, Bool.not_eq_true', decide_eq_false_iff_not, Bool.not_true, Bool.not_false, Bool.false_eq_true, if_true, if_false, reduceIte, ha, hb, pa, pb]
theorem law_sign_eq (d a b : Int) (hd : Root d) {k1 k2 k3 : Nat} [Bd d k1] [Bd a k2] [Bd b k3] (h1 : k1 ≤ 1000000) (h2 : k2 ≤ 1000000) (h3 : k3 ≤ 1000000) : ∃ v : Int, m_law_sign [.int d, .int a, .int b] = .ok (.int v) ∧ (v < 0 ↔ Lt0 d a b) := by
  have i1 : k2 + k2 ≤ 134217728 := by omega
  have i2 : k1 + k3 ≤ 134217728 := by omega
  have i3 : k1 + k3 + k3 ≤ 134217728 := by omega
  by_cases c1 : 0 ≤ a ∧ 0 ≤ b
  · by_cases c : 0 < a + b
    · refine ⟨1, ?_, by unfold Lt0; omega⟩
      simp +decide only [m_law_sign, den_law_sign, ev_seq, seq_nx, seq_rt, seq_ex, seq_bk, seq_ct, seq_ite, fl_ok, fl_ex, fl_ite, ev_set, kSet_ev, ev_ret, ev_retN, ev_nx, ev_bk, ev_ct, ev_raise, ev_if, kIf_ev, ev_drop, kNx_ev, ev_par, kPar_ev, kId_ev, ev_asg, kAsg_ev, ev_for, kFor_ev, ev_V, dVg_ok, ev_C, ev_1, ev_2, bind2_ok, bind2_ite1, bind2_ite2, bind_ite, ev_A, ev_nil, ev_cons, kCons_ev, ev_T, toB_ev, ev_and, ev_or, ev_not, kAnd_ev, kOr_ev, kNot_ev, ev_andV, ev_orV, ev_notV, kAndV_ev, kOrV_ev, kNotV_ev, ev_ife, kIfE_ev, ev_ch, kCh, tup_ev, lst_ev, call_ev, kw_ev, ev_kw, ev_fn, startE_0, startE_s, startE_c, fin_rt, fin_nx, fin_ex, fin_ite, ix_t0, ix_t1, ix_t2, ix_t3, ix_l0, ix_l1, ix_l2, len_l, len_t1, len_t2, len_t3, len_t4, beq_self_eq_true, ev_iL, ev_iT, asL_ev, asT_ev, ev_iA, ev_P, toI_ev, ev_P0, ev_sl, kSl_ev, put_1, gAdd_i, gSub_i, gMul_i, gDiv_p, gMod_p, gPow_l, gShl_l, gShr_l, gLt_i, gLe_i, gGt_i, gGe_i, gEq_i, gNe_i, gNeg_i, gAbs_i, gInt_i, gInt_b, gEq_s, gNe_s, gEq_b, gNe_b, gEq_2, gNe_2, gEq_3, gNe_3, gEq_22, gNe_22, DL.R.bind_ok, DL.R.bind_ex, ev_setL, kSetL_ev, ev_lDisp, kDisp_ev, ev_lList, lOf_l, lOf_t, ev_frz, frz_l, frz_d, frz_n, ev_lend, lend_l, lend_d, atom_i, atom_b, atom_s, ev_lendB, lendB_l, lendB_d, ev_app, app_l, kApp_ev, ev_put, put_l, ev_ixO, ixO_l, ixO_d, put_m, putAll_c, putAll_n, ev_lc, kLst_ev, ev_lcL, wipe_n, wipe_c, r1_2, r1_3, bits_ev, List.getElem?_cons_zero, List.getElem?_cons_succ, List.set_cons_zero, List.set_cons_succ, List.length_cons, List.length_nil, List.length_map, List.append_nil, List.cons_append, List.nil_append, ev_if, turn_nx, turn_ct, turn_bk, turn_rt, turn_ite, kWh_ev, isi_int_int, isi_bool_int, isi_int_bool, isi_bool_bool, isi_int_str, isi_int_none, isi_int_list, isi_int_tup, isi_bool_str, isi_bool_none, isi_bool_list, isi_bool_tup, isi_tup_tup, isi_tup_int, isi_tup_bool, isi_tup_str, isi_tup_none, isi_tup_list, isi_list_list, isi_list_tup, isi_list_int, isi_list_bool, isi_list_str, isi_list_none, isi_str_str, isi_str_int, isi_str_bool, isi_str_none, isi_str_list, isi_str_tup, decide_true, decide_false, not_true_eq_false, not_false_eq_true, ne_eq, decide_eq_true_eq, Bool.not_eq_true', decide_eq_false_iff_not, Bool.not_true, Bool.not_false, Bool.false_eq_true, if_true, if_false, reduceIte, c1.1, c1.2, c]
    · refine ⟨0, ?_, by unfold Lt0; omega⟩
      simp +decide only [m_law_sign, den_law_sign, ev_seq, seq_nx, seq_rt, seq_ex, seq_bk, seq_ct, seq_ite, fl_ok, fl_ex, fl_ite, ev_set, kSet_ev, ev_ret, ev_retN, ev_nx, ev_bk, ev_ct, ev_raise, ev_if, kIf_ev, ev_drop, kNx_ev, ev_par, kPar_ev, kId_ev, ev_asg, kAsg_ev, ev_for, kFor_ev, ev_V, dVg_ok, ev_C, ev_1, ev_2, bind2_ok, bind2_ite1, bind2_ite2, bind_ite, ev_A, ev_nil, ev_cons, kCons_ev, ev_T, toB_ev, ev_and, ev_or, ev_not, kAnd_ev, kOr_ev, kNot_ev, ev_andV, ev_orV, ev_notV, kAndV_ev, kOrV_ev, kNotV_ev, ev_ife, kIfE_ev, ev_ch, kCh, tup_ev, lst_ev, call_ev, kw_ev, ev_kw, ev_fn, startE_0, startE_s, startE_c, fin_rt, fin_nx, fin_ex, fin_ite, ix_t0, ix_t1, ix_t2, ix_t3, ix_l0, ix_l1, ix_l2, len_l, len_t1, len_t2, len_t3, len_t4, beq_self_eq_true, ev_iL, ev_iT, asL_ev, asT_ev, ev_iA, ev_P, toI_ev, ev_P0, ev_sl, kSl_ev, put_1, gAdd_i, gSub_i, gMul_i, gDiv_p, gMod_p, gPow_l, gShl_l, gShr_l, gLt_i, gLe_i, gGt_i, gGe_i, gEq_i, gNe_i, gNeg_i, gAbs_i, gInt_i, gInt_b, gEq_s, gNe_s, gEq_b, gNe_b, gEq_2, gNe_2, gEq_3, gNe_3, gEq_22, gNe_22, DL.R.bind_ok, DL.R.bind_ex, ev_setL, kSetL_ev, ev_lDisp, kDisp_ev, ev_lList, lOf_l, lOf_t, ev_frz, frz_l, frz_d, frz_n, ev_lend, lend_l, lend_d, atom_i, atom_b, atom_s, ev_lendB, lendB_l, lendB_d, ev_app, app_l, kApp_ev, ev_put, put_l, ev_ixO, ixO_l, ixO_d, put_m, putAll_c, putAll_n, ev_lc, kLst_ev, ev_lcL, wipe_n, wipe_c, r1_2, r1_3, bits_ev, List.getElem?_cons_zero, List.getElem?_cons_succ, List.set_cons_zero, List.set_cons_succ, List.length_cons, List.length_nil, List.length_map, List.append_nil, List.cons_append, List.nil_append, ev_if, turn_nx, turn_ct, turn_bk, turn_rt, turn_ite, kWh_ev, isi_int_int, isi_bool_int, isi_int_bool, isi_bool_bool, isi_int_str, isi_int_none, isi_int_list, isi_int_tup, isi_bool_str, isi_bool_none, isi_bool_list, isi_bool_tup, isi_tup_tup, isi_tup_int, isi_tup_bool, isi_tup_str, isi_tup_none, isi_tup_list, isi_list_list, isi_list_tup, isi_list_int, isi_list_bool, isi_list_str, isi_list_none, isi_str_str, isi_str_int, isi_str_bool, isi_str_none, isi_str_list, isi_str_tup, decide_true, decide_false, not_true_eq_false, not_false_eq_true, ne_eq, decide_eq_true_eq, Bool.not_eq_true', decide_eq_false_iff_not, Bool.not_true, Bool.not_false, Bool.false_eq_true, if_true, if_false, reduceIte, c1.1, c1.2, c]
  by_cases c2 : a ≤ 0 ∧ b ≤ 0
  · refine ⟨-1, ?_, by unfold Lt0; omega⟩
    by_cases ha : 0 ≤ a
    · have hb : ¬ 0 ≤ b := fun z => c1 ⟨ha, z⟩
      simp +decide only [m_law_sign, den_law_sign, ev_seq, seq_nx, seq_rt, seq_ex, seq_bk, seq_ct, seq_ite, fl_ok, fl_ex, fl_ite, ev_set, kSet_ev, ev_ret, ev_retN, ev_nx, ev_bk, ev_ct, ev_raise, ev_if, kIf_ev, ev_drop, kNx_ev, ev_par, kPar_ev, kId_ev, ev_asg, kAsg_ev, ev_for, kFor_ev, ev_V, dVg_ok, ev_C, ev_1, ev_2, bind2_ok, bind2_ite1, bind2_ite2, bind_ite, ev_A, ev_nil, ev_cons, kCons_ev, ev_T, toB_ev, ev_and, ev_or, ev_not, kAnd_ev, kOr_ev, kNot_ev, ev_andV, ev_orV, ev_notV, kAndV_ev, kOrV_ev, kNotV_ev, ev_ife, kIfE_ev, ev_ch, kCh, tup_ev, lst_ev, call_ev, kw_ev, ev_kw, ev_fn, startE_0, startE_s, startE_c, fin_rt, fin_nx, fin_ex, fin_ite, ix_t0, ix_t1, ix_t2, ix_t3, ix_l0, ix_l1, ix_l2, len_l, len_t1, len_t2, len_t3, len_t4, beq_self_eq_true, ev_iL, ev_iT, asL_ev, asT_ev, ev_iA, ev_P, toI_ev, ev_P0, ev_sl, kSl_ev, put_1, gAdd_i, gSub_i, gMul_i, gDiv_p, gMod_p, gPow_l, gShl_l, gShr_l, gLt_i, gLe_i, gGt_i, gGe_i, gEq_i, gNe_i, gNeg_i, gAbs_i, gInt_i, gInt_b, gEq_s, gNe_s, gEq_b, gNe_b, gEq_2, gNe_2, gEq_3, gNe_3, gEq_22, gNe_22, DL.R.bind_ok, DL.R.bind_ex, ev_setL, kSetL_ev, ev_lDisp, kDisp_ev, ev_lList, lOf_l, lOf_t, ev_frz, frz_l, frz_d, frz_n, ev_lend, lend_l, lend_d, atom_i, atom_b, atom_s, ev_lendB, lendB_l, lendB_d, ev_app, app_l, kApp_ev, ev_put, put_l, ev_ixO, ixO_l, ixO_d, put_m, putAll_c, putAll_n, ev_lc, kLst_ev, ev_lcL, wipe_n, wipe_c, r1_2, r1_3, bits_ev, List.getElem?_cons_zero, List.getElem?_cons_succ, List.set_cons_zero, List.set_cons_succ, List.length_cons, List.length_nil, List.length_map, List.append_nil, List.cons_append, List.nil_append, ev_if, turn_nx, turn_ct, turn_bk, turn_rt, turn_ite, kWh_ev, isi_int_int, isi_bool_int, isi_int_bool, isi_bool_bool, isi_int_str, isi_int_none, isi_int_list, isi_int_tup, isi_bool_str, isi_bool_none, isi_bool_list, isi_bool_tup, isi_tup_tup, isi_tup_int, isi_tup_bool, isi_tup_str, isi_tup_none, isi_tup_list, isi_list_list, isi_list_tup, isi_list_int, isi_list_bool, isi_list_str, isi_list_none, isi_str_str, isi_str_int, isi_str_bool, isi_str_none, isi_str_list, isi_str_tup, decide_true, decide_false, not_true_eq_false, not_false_eq_true, ne_eq, decide_eq_true_eq, Bool.not_eq_true', decide_eq_false_iff_not, Bool.not_true, Bool.not_false, Bool.false_eq_true, if_true, if_false, reduceIte, ha, hb, c2.1, c2.2]
    · simp +decide only [m_law_sign, den_law_sign, ev_seq, seq_nx, seq_rt, seq_ex, seq_bk, seq_ct, seq_ite, fl_ok, fl_ex, fl_ite, ev_set, kSet_ev, ev_ret, ev_retN, ev_nx, ev_bk, ev_ct, ev_raise, ev_if, kIf_ev, ev_drop, kNx_ev, ev_par, kPar_ev, kId_ev, ev_asg, kAsg_ev, ev_for, kFor_ev, ev_V, dVg_ok, ev_C, ev_1, ev_2, bind2_ok, bind2_ite1, bind2_ite2, bind_ite, ev_A, ev_nil, ev_cons, kCons_ev, ev_T, toB_ev, ev_and, ev_or, ev_not, kAnd_ev, kOr_ev, kNot_ev, ev_andV, ev_orV, ev_notV, kAndV_ev, kOrV_ev, kNotV_ev, ev_ife, kIfE_ev, ev_ch, kCh, tup_ev, lst_ev, call_ev, kw_ev, ev_kw, ev_fn, startE_0, startE_s, startE_c, fin_rt, fin_nx, fin_ex, fin_ite, ix_t0, ix_t1, ix_t2, ix_t3, ix_l0, ix_l1, ix_l2, len_l, len_t1, len_t2, len_t3, len_t4, beq_self_eq_true, ev_iL, ev_iT, asL_ev, asT_ev, ev_iA, ev_P, toI_ev, ev_P0, ev_sl, kSl_ev, put_1, gAdd_i, gSub_i, gMul_i, gDiv_p, gMod_p, gPow_l, gShl_l, gShr_l, gLt_i, gLe_i, gGt_i, gGe_i, gEq_i, gNe_i, gNeg_i, gAbs_i, gInt_i, gInt_b, gEq_s, gNe_s, gEq_b, gNe_b, gEq_2, gNe_2, gEq_3, gNe_3, gEq_22, gNe_22, DL.R.bind_ok, DL.R.bind_ex, ev_setL, kSetL_ev, ev_lDisp, kDisp_ev, ev_lList, lOf_l, lOf_t, ev_frz, frz_l, frz_d, frz_n, ev_lend, lend_l, lend_d, atom_i, atom_b, atom_s, ev_lendB, lendB_l, lendB_d, ev_app, app_l, kApp_ev, ev_put, put_l, ev_ixO, ixO_l, ixO_d, put_m, putAll_c, putAll_n, ev_lc, kLst_ev, ev_lcL, wipe_n, wipe_c, r1_2, r1_3, bits_ev, List.getElem?_cons_zero, List.getElem?_cons_succ, List.set_cons_zero, List.set_cons_succ, List.length_cons, List.length_nil, List.length_map, List.append_nil, List.cons_append, List.nil_append, ev_if, turn_nx, turn_ct, turn_bk, turn_rt, turn_ite, kWh_ev, isi_int_int, isi_bool_int, isi_int_bool, isi_bool_bool, isi_int_str, isi_int_none, isi_int_list, isi_int_tup, isi_bool_str, isi_bool_none, isi_bool_list, isi_bool_tup, isi_tup_tup, isi_tup_int, isi_tup_bool, isi_tup_str, isi_tup_none, isi_tup_list, isi_list_list, isi_list_tup, isi_list_int, isi_list_bool, isi_list_str, isi_list_none, isi_str_str, isi_str_int, isi_str_bool, isi_str_none, isi_str_list, isi_str_tup, decide_true, decide_false, not_true_eq_false, not_false_eq_true, ne_eq, decide_eq_true_eq, Bool.not_eq_true', decide_eq_false_iff_not, Bool.not_true, Bool.not_false, Bool.false_eq_true, if_true, if_false, reduceIte, ha, c2.1, c2.2]
  have ne : b ≠ 0 → a * a ≠ d * b * b := fun hb e => hb (irr hd e)
  by_cases pa : 0 < a
  · have nb : b < 0 := by omega
    have ne' := ne (by omega)
    have q1 : ¬ 0 ≤ b := by omega
    have q2 : ¬ a ≤ 0 := by omega
    have q3 : 0 ≤ a := by omega
    by_cases c : d * b * b < a * a
    · refine ⟨1, ?_, by unfold Lt0; omega⟩
      simp +decide only [m_law_sign, den_law_sign, ev_seq, seq_nx, seq_rt, seq_ex, seq_bk, seq_ct, seq_ite, fl_ok, fl_ex, fl_ite, ev_set, kSet_ev, ev_ret, ev_retN, ev_nx, ev_bk, ev_ct, ev_raise, ev_if, kIf_ev, ev_drop, kNx_ev, ev_par, kPar_ev, kId_ev, ev_asg, kAsg_ev, ev_for, kFor_ev, ev_V, dVg_ok, ev_C, ev_1, ev_2, bind2_ok, bind2_ite1, bind2_ite2, bind_ite, ev_A, ev_nil, ev_cons, kCons_ev, ev_T, toB_ev, ev_and, ev_or, ev_not, kAnd_ev, kOr_ev, kNot_ev, ev_andV, ev_orV, ev_notV, kAndV_ev, kOrV_ev, kNotV_ev, ev_ife, kIfE_ev, ev_ch, kCh, tup_ev, lst_ev, call_ev, kw_ev, ev_kw, ev_fn, startE_0, startE_s, startE_c, fin_rt, fin_nx, fin_ex, fin_ite, ix_t0, ix_t1, ix_t2, ix_t3, ix_l0, ix_l1, ix_l2, len_l, len_t1, len_t2, len_t3, len_t4, beq_self_eq_true, ev_iL, ev_iT, asL_ev, asT_ev, ev_iA, ev_P, toI_ev, ev_P0, ev_sl, kSl_ev, put_1, gAdd_i, gSub_i, gMul_i, gDiv_p, gMod_p, gPow_l, gShl_l, gShr_l, gLt_i, gLe_i, gGt_i, gGe_i, gEq_i, gNe_i, gNeg_i, gAbs_i, gInt_i, gInt_b, gEq_s, gNe_s, gEq_b, gNe_b, gEq_2, gNe_2, gEq_3, gNe_3, gEq_22, gNe_22, DL.R.bind_ok, DL.R.bind_ex, ev_setL, kSetL_ev, ev_lDisp, kDisp_ev, ev_lList, lOf_l, lOf_t, ev_frz, frz_l, frz_d, frz_n, ev_lend, lend_l, lend_d, atom_i, atom_b, atom_s, ev_lendB, lendB_l, lendB_d, ev_app, app_l, kApp_ev, ev_put, put_l, ev_ixO, ixO_l, ixO_d, put_m, putAll_c, putAll_n, ev_lc, kLst_ev, ev_lcL, wipe_n, wipe_c, r1_2, r1_3, bits_ev, List.getElem?_cons_zero, List.getElem?_cons_succ, List.set_cons_zero, List.set_cons_succ, List.length_cons, List.length_nil, List.length_map, List.append_nil, List.cons_append, List.nil_append, ev_if, turn_nx, turn_ct, turn_bk, turn_rt, turn_ite, kWh_ev, isi_int_int, isi_bool_int, isi_int_bool, isi_bool_bool, isi_int_str, isi_int_none, isi_int_list, isi_int_tup, isi_bool_str, isi_bool_none, isi_bool_list, isi_bool_tup, isi_tup_tup, isi_tup_int, isi_tup_bool, isi_tup_str, isi_tup_none, isi_tup_list, isi_list_list, isi_list_tup, isi_list_int, isi_list_bool, isi_list_str, isi_list_none, isi_str_str, isi_str_int, isi_str_bool, isi_str_none, isi_str_list, isi_str_tup, decide_true, decide_false, not_true_eq_false, not_false_eq_true, ne_eq, decide_eq_true_eq, Bool.not_eq_true', decide_eq_false_iff_not, Bool.not_true, Bool.not_false, Bool.false_eq_true, if_true, if_false, reduceIte, q1, q2, q3, pa, c, i1, i2, i3]
    · refine ⟨-1, ?_, by unfold Lt0; omega⟩
      simp +decide only [m_law_sign, den_law_sign, ev_seq, seq_nx, seq_rt, seq_ex, seq_bk, seq_ct, seq_ite, fl_ok, fl_ex, fl_ite, ev_set, kSet_ev, ev_ret, ev_retN, ev_nx, ev_bk, ev_ct, ev_raise, ev_if, kIf_ev, ev_drop, kNx_ev, ev_par, kPar_ev, kId_ev, ev_asg, kAsg_ev, ev_for, kFor_ev, ev_V, dVg_ok, ev_C, ev_1, ev_2, bind2_ok, bind2_ite1, bind2_ite2, bind_ite, ev_A, ev_nil, ev_cons, kCons_ev, ev_T, toB_ev, ev_and, ev_or, ev_not, kAnd_ev, kOr_ev, kNot_ev, ev_andV, ev_orV, ev_notV, kAndV_ev, kOrV_ev, kNotV_ev, ev_ife, kIfE_ev, ev_ch, kCh, tup_ev, lst_ev, call_ev, kw_ev, ev_kw, ev_fn, startE_0, startE_s, startE_c, fin_rt, fin_nx, fin_ex, fin_ite, ix_t0, ix_t1, ix_t2, ix_t3, ix_l0, ix_l1, ix_l2, len_l, len_t1, len_t2, len_t3, len_t4, beq_self_eq_true, ev_iL, ev_iT, asL_ev, asT_ev, ev_iA, ev_P, toI_ev, ev_P0, ev_sl, kSl_ev, put_1, gAdd_i, gSub_i, gMul_i, gDiv_p, gMod_p, gPow_l, gShl_l, gShr_l, gLt_i, gLe_i, gGt_i, gGe_i, gEq_i, gNe_i, gNeg_i, gAbs_i, gInt_i, gInt_b, gEq_s, gNe_s, gEq_b, gNe_b, gEq_2, gNe_2, gEq_3, gNe_3, gEq_22, gNe_22, DL.R.bind_ok, DL.R.bind_ex, ev_setL, kSetL_ev, ev_lDisp, kDisp_ev, ev_lList, lOf_l, lOf_t, ev_frz, frz_l, frz_d, frz_n, ev_lend, lend_l, lend_d, atom_i, atom_b, atom_s, ev_lendB, lendB_l, lendB_d, ev_app, app_l, kApp_ev, ev_put, put_l, ev_ixO, ixO_l, ixO_d, put_m, putAll_c, putAll_n, ev_lc, kLst_ev, ev_lcL, wipe_n, wipe_c, r1_2, r1_3, bits_ev, List.getElem?_cons_zero, List.getElem?_cons_succ, List.set_cons_zero, List.set_cons_succ, List.length_cons, List.length_nil, List.length_map, List.append_nil, List.cons_append, List.nil_append, ev_if, turn_nx, turn_ct, turn_bk, turn_rt, turn_ite, kWh_ev, isi_int_int, isi_bool_int, isi_int_bool, isi_bool_bool, isi_int_str, isi_int_none, isi_int_list, isi_int_tup, isi_bool_str, isi_bool_none, isi_bool_list, isi_bool_tup, isi_tup_tup, isi_tup_int, isi_tup_bool, isi_tup_str, isi_tup_none, isi_tup_list, isi_list_list, isi_list_tup, isi_list_int, isi_list_bool, isi_list_str, isi_list_none, isi_str_str, isi_str_int, isi_str_bool, isi_str_none, isi_str_list, isi_str_tup, decide_true, decide_false, not_true_eq_false, not_false_eq_true, ne_eq, decide_eq_true_eq, Bool.not_eq_true', decide_eq_false_iff_not, Bool.not_true, Bool.not_false, Bool.false_eq_true, if_true, if_false, reduceIte, q1, q2, q3, pa, c, i1, i2, i3]
  · have q0 : ¬ b ≤ 0 := by omega
    have q1 : ¬ 0 ≤ a := by omega
    have q2 : a ≤ 0 := by omega
    have ne' := ne (by omega)
    by_cases c : a * a < d * b * b
    · refine ⟨1, ?_, by unfold Lt0; omega⟩
      simp +decide only [m_law_sign, den_law_sign, ev_seq, seq_nx, seq_rt, seq_ex, seq_bk, seq_ct, seq_ite, fl_ok, fl_ex, fl_ite, ev_set, kSet_ev, ev_ret, ev_retN, ev_nx, ev_bk, ev_ct, ev_raise, ev_if, kIf_ev, ev_drop, kNx_ev, ev_par, kPar_ev, kId_ev, ev_asg, kAsg_ev, ev_for, kFor_ev, ev_V, dVg_ok, ev_C, ev_1, ev_2, bind2_ok, bind2_ite1, bind2_ite2, bind_ite, ev_A, ev_nil, ev_cons, kCons_ev, ev_T, toB_ev, ev_and, ev_or, ev_not, kAnd_ev, kOr_ev, kNot_ev, ev_andV, ev_orV, ev_notV, kAndV_ev, kOrV_ev, kNotV_ev, ev_ife, kIfE_ev, ev_ch, kCh, tup_ev, lst_ev, call_ev, kw_ev, ev_kw, ev_fn, startE_0, startE_s, startE_c, fin_rt, fin_nx, fin_ex, fin_ite, ix_t0, ix_t1, ix_t2, ix_t3, ix_l0, ix_l1, ix_l2, len_l, len_t1, len_t2, len_t3, len_t4, beq_self_eq_true, ev_iL, ev_iT, asL_ev, asT_ev, ev_iA, ev_P, toI_ev, ev_P0, ev_sl, kSl_ev, put_1, gAdd_i, gSub_i, gMul_i, gDiv_p, gMod_p, gPow_l, gShl_l, gShr_l, gLt_i, gLe_i, gGt_i, gGe_i, gEq_i, gNe_i, gNeg_i, gAbs_i, gInt_i, gInt_b, gEq_s, gNe_s, gEq_b, gNe_b, gEq_2, gNe_2, gEq_3, gNe_3, gEq_22, gNe_22, DL.R.bind_ok, DL.R.bind_ex, ev_setL, kSetL_ev, ev_lDisp, kDisp_ev, ev_lList, lOf_l, lOf_t, ev_frz, frz_l, frz_d, frz_n, ev_lend, lend_l, lend_d, atom_i, atom_b, atom_s, ev_lendB, lendB_l, lendB_d, ev_app, app_l, kApp_ev, ev_put, put_l, ev_ixO, ixO_l, ixO_d, put_m, putAll_c, putAll_n, ev_lc, kLst_ev, ev_lcL, wipe_n, wipe_c, r1_2, r1_3, bits_ev, List.getElem?_cons_zero, List.getElem?_cons_succ, List.set_cons_zero, List.set_cons_succ, List.length_cons, List.length_nil, List.length_map, List.append_nil, List.cons_append, List.nil_append, ev_if, turn_nx, turn_ct, turn_bk, turn_rt, turn_ite, kWh_ev, isi_int_int, isi_bool_int, isi_int_bool, isi_bool_bool, isi_int_str, isi_int_none, isi_int_list, isi_int_tup, isi_bool_str, isi_bool_none, isi_bool_list, isi_bool_tup, isi_tup_tup, isi_tup_int, isi_tup_bool, isi_tup_str, isi_tup_none, isi_tup_list, isi_list_list, isi_list_tup, isi_list_int, isi_list_bool, isi_list_str, isi_list_none, isi_str_str, isi_str_int, isi_str_bool, isi_str_none, isi_str_list, isi_str_tup, decide_true, decide_false, not_true_eq_false, not_false_eq_true, ne_eq, decide_eq_true_eq, Bool.not_eq_true', decide_eq_false_iff_not, Bool.not_true, Bool.not_false, Bool.false_eq_true, if_true, if_false, reduceIte, q0, q1, q2, pa, c, i1, i2, i3]
    · refine ⟨-1, ?_, by unfold Lt0; omega⟩
      simp +decide only [m_law_sign, den_law_sign, ev_seq, seq_nx, seq_rt, seq_ex, seq_bk, seq_ct, seq_ite, fl_ok, fl_ex, fl_ite, ev_set, kSet_ev, ev_ret, ev_retN, ev_nx, ev_bk, ev_ct, ev_raise, ev_if, kIf_ev, ev_drop, kNx_ev, ev_par, kPar_ev, kId_ev, ev_asg, kAsg_ev, ev_for, kFor_ev, ev_V, dVg_ok, ev_C, ev_1, ev_2, bind2_ok, bind2_ite1, bind2_ite2, bind_ite, ev_A, ev_nil, ev_cons, kCons_ev, ev_T, toB_ev, ev_and, ev_or, ev_not, kAnd_ev, kOr_ev, kNot_ev, ev_andV, ev_orV, ev_notV, kAndV_ev, kOrV_ev, kNotV_ev, ev_ife, kIfE_ev, ev_ch, kCh, tup_ev, lst_ev, call_ev, kw_ev, ev_kw, ev_fn, startE_0, startE_s, startE_c, fin_rt, fin_nx, fin_ex, fin_ite, ix_t0, ix_t1, ix_t2, ix_t3, ix_l0, ix_l1, ix_l2, len_l, len_t1, len_t2, len_t3, len_t4, beq_self_eq_true, ev_iL, ev_iT, asL_ev, asT_ev, ev_iA, ev_P, toI_ev, ev_P0, ev_sl, kSl_ev, put_1, gAdd_i, gSub_i, gMul_i, gDiv_p, gMod_p, gPow_l, gShl_l, gShr_l, gLt_i, gLe_i, gGt_i, gGe_i, gEq_i, gNe_i, gNeg_i, gAbs_i, gInt_i, gInt_b, gEq_s, gNe_s, gEq_b, gNe_b, gEq_2, gNe_2, gEq_3, gNe_3, gEq_22, gNe_22, DL.R.bind_ok, DL.R.bind_ex, ev_setL, kSetL_ev, ev_lDisp, kDisp_ev, ev_lList, lOf_l, lOf_t, ev_frz, frz_l, frz_d, frz_n, ev_lend, lend_l, lend_d, atom_i, atom_b, atom_s, ev_lendB, lendB_l, lendB_d, ev_app, app_l, kApp_ev, ev_put, put_l, ev_ixO, ixO_l, ixO_d, put_m, putAll_c, putAll_n, ev_lc, kLst_ev, ev_lcL, wipe_n, wipe_c, r1_2, r1_3, bits_ev, List.getElem?_cons_zero, List.getElem?_cons_succ, List.set_cons_zero, List.set_cons_succ, List.length_cons, List.length_nil, List.length_map, List.append_nil, List.cons_append, List.nil_append, ev_if, turn_nx, turn_ct, turn_bk, turn_rt, turn_ite, kWh_ev, isi_int_int, isi_bool_int, isi_int_bool, isi_bool_bool, isi_int_str, isi_int_none, isi_int_list, isi_int_tup, isi_bool_str, isi_bool_none, isi_bool_list, isi_bool_tup, isi_tup_tup, isi_tup_int, isi_tup_bool, isi_tup_str, isi_tup_none, isi_tup_list, isi_list_list, isi_list_tup, isi_list_int, isi_list_bool, isi_list_str, isi_list_none, isi_str_str, isi_str_int, isi_str_bool, isi_str_none, isi_str_list, isi_str_tup, decide_true, decide_false, not_true_eq_false, not_false_eq_true, ne_eq, decide_eq_true_eq, Bool.not_eq_true', decide_eq_false_iff_not, Bool.not_true, Bool.not_false, Bool.false_eq_true, if_true, if_false, reduceIte, q0, q1, q2, pa, c, i1, i2, i3]
theorem roots_ok : ∀ d ∈ rootsL, Root d ∧ 2 ≤ d ∧ d ≤ 99 := by
  have h : ∀ d ∈ rootsL, ((1 * 1 < d ∧ d < 2 * 2) ∨ (2 * 2 < d ∧ d < 3 * 3) ∨ (3 * 3 < d ∧ d < 4 * 4) ∨ (4 * 4 < d ∧ d < 5 * 5) ∨ (5 * 5 < d ∧ d < 6 * 6) ∨ (6 * 6 < d ∧ d < 7 * 7) ∨ (7 * 7 < d ∧ d < 8 * 8) ∨ (8 * 8 < d ∧ d < 9 * 9) ∨ (9 * 9 < d ∧ d < 10 * 10)) ∧ 2 ≤ d ∧ d ≤ 99 := by decide +kernel
  intro d hd
  obtain ⟨h1, h2⟩ := h d hd
  refine ⟨?_, h2⟩
  rcases h1 with ⟨a, b⟩ | ⟨a, b⟩ | ⟨a, b⟩ | ⟨a, b⟩ | ⟨a, b⟩ | ⟨a, b⟩ | ⟨a, b⟩ | ⟨a, b⟩ | ⟨a, b⟩
  · exact ⟨1, by decide, a, b⟩
  · exact ⟨2, by decide, a, b⟩
  · exact ⟨3, by decide, a, b⟩
  · exact ⟨4, by decide, a, b⟩
  · exact ⟨5, by decide, a, b⟩
  · exact ⟨6, by decide, a, b⟩
  · exact ⟨7, by decide, a, b⟩
  · exact ⟨8, by decide, a, b⟩
  · exact ⟨9, by decide, a, b⟩
theorem roots_at (j : Int) (h0 : 0 ≤ j) (h1 : j < 90) : ∃ d : Int, gIx (.list (rootsL.map PyData.int)) (.int j) = .ok (.int d) ∧ Root d ∧ Bd d 7 := by
  have hl : j < (rootsL.length : Int) := by rw [rootsL_len]; exact h1
  refine ⟨_, ix_ints h0 hl, ?_⟩
  have hm : rootsL.getD j.toNat 0 ∈ rootsL := by
    have h2 : j.toNat < rootsL.length := by omega
    rw [List.getD_eq_getElem?_getD, List.getElem?_eq_getElem h2]
    exact List.getElem_mem h2
  obtain ⟨a, b, c⟩ := roots_ok _ hm
  exact ⟨a, ⟨by omega⟩⟩
theorem tup8 : PyData.tuple [.int 4, .int 9, .int 16, .int 25, .int 36, .int 49, .int 64, .int 81] = .tuple (([4, 9, 16, 25, 36, 49, 64, 81] : List Int).map PyData.int) := rfl
theorem lst8 : PyData.list [.int 4, .int 9, .int 16, .int 25, .int 36, .int 49, .int 64, .int 81] = .list (([4, 9, 16, 25, 36, 49, 64, 81] : List Int).map PyData.int) := rfl
theorem rng98 : (rng 2 98).length ≤ 1000000 := by decide
theorem law_root_eq (c k : Int) {n : Nat} [Bd (c + k + 1) n] (h : n ≤ 134217000) : ∃ d : Int, m_law_root [.int c, .int k] = .ok (.int d) ∧ Root d ∧ Bd d 7 := by
  have e := law_great_eq c k h
  have g0 := gr_nonneg c k
  obtain ⟨d, e1, e2⟩ := roots_at (gr c k / 7 % 90) (by omega) (by omega)
  refine ⟨d, ?_, e2⟩
  have L := roots_lc (i := 3) (f := le1_law_root) (t := lq1_law_root) (ρ := [some (.d (.int c)), some (.d (.int k)), none, none]) (fun d => by simp +decide only [le1_law_root, ev_seq, seq_nx, seq_rt, seq_ex, seq_bk, seq_ct, seq_ite, fl_ok, fl_ex, fl_ite, ev_set, kSet_ev, ev_ret, ev_retN, ev_nx, ev_bk, ev_ct, ev_raise, ev_if, kIf_ev, ev_drop, kNx_ev, ev_par, kPar_ev, kId_ev, ev_asg, kAsg_ev, ev_for, kFor_ev, ev_V, dVg_ok, ev_C, ev_1, ev_2, bind2_ok, bind2_ite1, bind2_ite2, bind_ite, ev_A, ev_nil, ev_cons, kCons_ev, ev_T, toB_ev, ev_and, ev_or, ev_not, kAnd_ev, kOr_ev, kNot_ev, ev_andV, ev_orV, ev_notV, kAndV_ev, kOrV_ev, kNotV_ev, ev_ife, kIfE_ev, ev_ch, kCh, tup_ev, lst_ev, call_ev, kw_ev, ev_kw, ev_fn, startE_0, startE_s, startE_c, fin_rt, fin_nx, fin_ex, fin_ite, ix_t0, ix_t1, ix_t2, ix_t3, ix_l0, ix_l1, ix_l2, len_l, len_t1, len_t2, len_t3, len_t4, beq_self_eq_true, ev_iL, ev_iT, asL_ev, asT_ev, ev_iA, ev_P, toI_ev, ev_P0, ev_sl, kSl_ev, put_1, gAdd_i, gSub_i, gMul_i, gDiv_p, gMod_p, gPow_l, gShl_l, gShr_l, gLt_i, gLe_i, gGt_i, gGe_i, gEq_i, gNe_i, gNeg_i, gAbs_i, gInt_i, gInt_b, gEq_s, gNe_s, gEq_b, gNe_b, gEq_2, gNe_2, gEq_3, gNe_3, gEq_22, gNe_22, DL.R.bind_ok, DL.R.bind_ex, ev_setL, kSetL_ev, ev_lDisp, kDisp_ev, ev_lList, lOf_l, lOf_t, ev_frz, frz_l, frz_d, frz_n, ev_lend, lend_l, lend_d, atom_i, atom_b, atom_s, ev_lendB, lendB_l, lendB_d, ev_app, app_l, kApp_ev, ev_put, put_l, ev_ixO, ixO_l, ixO_d, put_m, putAll_c, putAll_n, ev_lc, kLst_ev, ev_lcL, wipe_n, wipe_c, r1_2, r1_3, bits_ev, List.getElem?_cons_zero, List.getElem?_cons_succ, List.set_cons_zero, List.set_cons_succ, List.length_cons, List.length_nil, List.length_map, List.append_nil, List.cons_append, List.nil_append, ev_if, turn_nx, turn_ct, turn_bk, turn_rt, turn_ite, kWh_ev, isi_int_int, isi_bool_int, isi_int_bool, isi_bool_bool, isi_int_str, isi_int_none, isi_int_list, isi_int_tup, isi_bool_str, isi_bool_none, isi_bool_list, isi_bool_tup, isi_tup_tup, isi_tup_int, isi_tup_bool, isi_tup_str, isi_tup_none, isi_tup_list, isi_list_list, isi_list_tup, isi_list_int, isi_list_bool, isi_list_str, isi_list_none, isi_str_str, isi_str_int, isi_str_bool, isi_str_none, isi_str_list, isi_str_tup, decide_true, decide_false, not_true_eq_false, not_false_eq_true, ne_eq, decide_eq_true_eq, Bool.not_eq_true', decide_eq_false_iff_not, Bool.not_true, Bool.not_false, Bool.false_eq_true, if_true, if_false, reduceIte]) (fun d => by
    simp +decide only [lq1_law_root, ev_seq, seq_nx, seq_rt, seq_ex, seq_bk, seq_ct, seq_ite, fl_ok, fl_ex, fl_ite, ev_set, kSet_ev, ev_ret, ev_retN, ev_nx, ev_bk, ev_ct, ev_raise, ev_if, kIf_ev, ev_drop, kNx_ev, ev_par, kPar_ev, kId_ev, ev_asg, kAsg_ev, ev_for, kFor_ev, ev_V, dVg_ok, ev_C, ev_1, ev_2, bind2_ok, bind2_ite1, bind2_ite2, bind_ite, ev_A, ev_nil, ev_cons, kCons_ev, ev_T, toB_ev, ev_and, ev_or, ev_not, kAnd_ev, kOr_ev, kNot_ev, ev_andV, ev_orV, ev_notV, kAndV_ev, kOrV_ev, kNotV_ev, ev_ife, kIfE_ev, ev_ch, kCh, tup_ev, lst_ev, call_ev, kw_ev, ev_kw, ev_fn, startE_0, startE_s, startE_c, fin_rt, fin_nx, fin_ex, fin_ite, ix_t0, ix_t1, ix_t2, ix_t3, ix_l0, ix_l1, ix_l2, len_l, len_t1, len_t2, len_t3, len_t4, beq_self_eq_true, ev_iL, ev_iT, asL_ev, asT_ev, ev_iA, ev_P, toI_ev, ev_P0, ev_sl, kSl_ev, put_1, gAdd_i, gSub_i, gMul_i, gDiv_p, gMod_p, gPow_l, gShl_l, gShr_l, gLt_i, gLe_i, gGt_i, gGe_i, gEq_i, gNe_i, gNeg_i, gAbs_i, gInt_i, gInt_b, gEq_s, gNe_s, gEq_b, gNe_b, gEq_2, gNe_2, gEq_3, gNe_3, gEq_22, gNe_22, DL.R.bind_ok, DL.R.bind_ex, ev_setL, kSetL_ev, ev_lDisp, kDisp_ev, ev_lList, lOf_l, lOf_t, ev_frz, frz_l, frz_d, frz_n, ev_lend, lend_l, lend_d, atom_i, atom_b, atom_s, ev_lendB, lendB_l, lendB_d, ev_app, app_l, kApp_ev, ev_put, put_l, ev_ixO, ixO_l, ixO_d, put_m, putAll_c, putAll_n, ev_lc, kLst_ev, ev_lcL, wipe_n, wipe_c, r1_2, r1_3, bits_ev, List.getElem?_cons_zero, List.getElem?_cons_succ, List.set_cons_zero, List.set_cons_succ, List.length_cons, List.length_nil, List.length_map, List.append_nil, List.cons_append, List.nil_append, ev_if, turn_nx, turn_ct, turn_bk, turn_rt, turn_ite, kWh_ev, isi_int_int, isi_bool_int, isi_int_bool, isi_bool_bool, isi_int_str, isi_int_none, isi_int_list, isi_int_tup, isi_bool_str, isi_bool_none, isi_bool_list, isi_bool_tup, isi_tup_tup, isi_tup_int, isi_tup_bool, isi_tup_str, isi_tup_none, isi_tup_list, isi_list_list, isi_list_tup, isi_list_int, isi_list_bool, isi_list_str, isi_list_none, isi_str_str, isi_str_int, isi_str_bool, isi_str_none, isi_str_list, isi_str_tup, decide_true, decide_false, not_true_eq_false, not_false_eq_true, ne_eq, decide_eq_true_eq, Bool.not_eq_true', decide_eq_false_iff_not, Bool.not_true, Bool.not_false, Bool.false_eq_true, if_true, if_false, reduceIte]
    rw [tup8, in_t]
    rfl)
  have hl : gLen [.list (rootsL.map PyData.int)] = .ok (.int 90) := by rw [len_l, List.length_map, rootsL_len]; rfl
  simp +decide only [m_law_root, den_law_root, ev_seq, seq_nx, seq_rt, seq_ex, seq_bk, seq_ct, seq_ite, fl_ok, fl_ex, fl_ite, ev_set, kSet_ev, ev_ret, ev_retN, ev_nx, ev_bk, ev_ct, ev_raise, ev_if, kIf_ev, ev_drop, kNx_ev, ev_par, kPar_ev, kId_ev, ev_asg, kAsg_ev, ev_for, kFor_ev, ev_V, dVg_ok, ev_C, ev_1, ev_2, bind2_ok, bind2_ite1, bind2_ite2, bind_ite, ev_A, ev_nil, ev_cons, kCons_ev, ev_T, toB_ev, ev_and, ev_or, ev_not, kAnd_ev, kOr_ev, kNot_ev, ev_andV, ev_orV, ev_notV, kAndV_ev, kOrV_ev, kNotV_ev, ev_ife, kIfE_ev, ev_ch, kCh, tup_ev, lst_ev, call_ev, kw_ev, ev_kw, ev_fn, startE_0, startE_s, startE_c, fin_rt, fin_nx, fin_ex, fin_ite, ix_t0, ix_t1, ix_t2, ix_t3, ix_l0, ix_l1, ix_l2, len_l, len_t1, len_t2, len_t3, len_t4, beq_self_eq_true, ev_iL, ev_iT, asL_ev, asT_ev, ev_iA, ev_P, toI_ev, ev_P0, ev_sl, kSl_ev, put_1, gAdd_i, gSub_i, gMul_i, gDiv_p, gMod_p, gPow_l, gShl_l, gShr_l, gLt_i, gLe_i, gGt_i, gGe_i, gEq_i, gNe_i, gNeg_i, gAbs_i, gInt_i, gInt_b, gEq_s, gNe_s, gEq_b, gNe_b, gEq_2, gNe_2, gEq_3, gNe_3, gEq_22, gNe_22, DL.R.bind_ok, DL.R.bind_ex, ev_setL, kSetL_ev, ev_lDisp, kDisp_ev, ev_lList, lOf_l, lOf_t, ev_frz, frz_l, frz_d, frz_n, ev_lend, lend_l, lend_d, atom_i, atom_b, atom_s, ev_lendB, lendB_l, lendB_d, ev_app, app_l, kApp_ev, ev_put, put_l, ev_ixO, ixO_l, ixO_d, put_m, putAll_c, putAll_n, ev_lc, kLst_ev, ev_lcL, wipe_n, wipe_c, r1_2, r1_3, bits_ev, List.getElem?_cons_zero, List.getElem?_cons_succ, List.set_cons_zero, List.set_cons_succ, List.length_cons, List.length_nil, List.length_map, List.append_nil, List.cons_append, List.nil_append, ev_if, turn_nx, turn_ct, turn_bk, turn_rt, turn_ite, kWh_ev, isi_int_int, isi_bool_int, isi_int_bool, isi_bool_bool, isi_int_str, isi_int_none, isi_int_list, isi_int_tup, isi_bool_str, isi_bool_none, isi_bool_list, isi_bool_tup, isi_tup_tup, isi_tup_int, isi_tup_bool, isi_tup_str, isi_tup_none, isi_tup_list, isi_list_list, isi_list_tup, isi_list_int, isi_list_bool, isi_list_str, isi_list_none, isi_str_str, isi_str_int, isi_str_bool, isi_str_none, isi_str_list, isi_str_tup, decide_true, decide_false, not_true_eq_false, not_false_eq_true, ne_eq, decide_eq_true_eq, Bool.not_eq_true', decide_eq_false_iff_not, Bool.not_true, Bool.not_false, Bool.false_eq_true, if_true, if_false, reduceIte, r2_roots, kLcL_ev rng98, L, e, hl, e1]
theorem under_eq (d a b n a' b' n' : Int) (hd : 0 < d) (hn : 0 < n) (hn' : 0 < n') [Bd d 7] {k1 k2 k3 k4 k5 k6 : Nat} [Bd a k1] [Bd b k2] [Bd n k3] [Bd a' k4] [Bd b' k5] [Bd n' k6] (h1 : k1 ≤ 3900) (h2 : k2 ≤ 3900) (h3 : k3 ≤ 3900) (h4 : k4 ≤ 3900) (h5 : k5 ≤ 3900) (h6 : k6 ≤ 3900) :
    m_under [.int d, .tuple [.int a, .int b, .int n], .tuple [.int a', .int b', .int n']] = .ok (.bool (decide (Lt0 d (a * n' - a' * n) (b * n' - b' * n)))) := by
  have hm : n * n' ≠ 0 := Int.mul_ne_zero (by omega) (by omega)
  have e := taken_eq a b n a' b' n' hm (by omega) (by omega) (by omega) (by omega) (by omega) (by omega)
  obtain ⟨m1, m2, m3⟩ := lmul (a := a * n' - a' * n) (b := b * n' - b' * n) hm
  have hs : 0 < shr (g3 (a * n' - a' * n) (b * n' - b' * n) (n * n')) (n * n') := by
    have h0 := g3_ne (a := a * n' - a' * n) (b := b * n' - b' * n) hm
    have : ¬ n * n' < 0 := by have := Int.mul_pos hn hn'; omega
    unfold shr
    rw [if_neg this]
    omega
  have sc := lt0_scale (d := d) (a := lA (a * n' - a' * n) (b * n' - b' * n) (n * n')) (b := lB (a * n' - a' * n) (b * n' - b' * n) (n * n')) hs
  rw [m1, m2] at sc
  obtain ⟨v, ev, hv⟩ := sign_of_eq d (lA (a * n' - a' * n) (b * n' - b' * n) (n * n')) (lB (a * n' - a' * n) (b * n' - b' * n) (n * n')) hd (by decide) (show max (k1 + k6) (k4 + k3) + 1 ≤ 1000000 by omega) (show max (k2 + k6) (k5 + k3) + 1 ≤ 1000000 by omega)
  have hb : decide (v < 0) = decide (Lt0 d (a * n' - a' * n) (b * n' - b' * n)) := by rw [decide_eq_decide, hv, sc]
  simp +decide only [m_under, den_under, ev_seq, seq_nx, seq_rt, seq_ex, seq_bk, seq_ct, seq_ite, fl_ok, fl_ex, fl_ite, ev_set, kSet_ev, ev_ret, ev_retN, ev_nx, ev_bk, ev_ct, ev_raise, ev_if, kIf_ev, ev_drop, kNx_ev, ev_par, kPar_ev, kId_ev, ev_asg, kAsg_ev, ev_for, kFor_ev, ev_V, dVg_ok, ev_C, ev_1, ev_2, bind2_ok, bind2_ite1, bind2_ite2, bind_ite, ev_A, ev_nil, ev_cons, kCons_ev, ev_T, toB_ev, ev_and, ev_or, ev_not, kAnd_ev, kOr_ev, kNot_ev, ev_andV, ev_orV, ev_notV, kAndV_ev, kOrV_ev, kNotV_ev, ev_ife, kIfE_ev, ev_ch, kCh, tup_ev, lst_ev, call_ev, kw_ev, ev_kw, ev_fn, startE_0, startE_s, startE_c, fin_rt, fin_nx, fin_ex, fin_ite, ix_t0, ix_t1, ix_t2, ix_t3, ix_l0, ix_l1, ix_l2, len_l, len_t1, len_t2, len_t3, len_t4, beq_self_eq_true, ev_iL, ev_iT, asL_ev, asT_ev, ev_iA, ev_P, toI_ev, ev_P0, ev_sl, kSl_ev, put_1, gAdd_i, gSub_i, gMul_i, gDiv_p, gMod_p, gPow_l, gShl_l, gShr_l, gLt_i, gLe_i, gGt_i, gGe_i, gEq_i, gNe_i, gNeg_i, gAbs_i, gInt_i, gInt_b, gEq_s, gNe_s, gEq_b, gNe_b, gEq_2, gNe_2, gEq_3, gNe_3, gEq_22, gNe_22, DL.R.bind_ok, DL.R.bind_ex, ev_setL, kSetL_ev, ev_lDisp, kDisp_ev, ev_lList, lOf_l, lOf_t, ev_frz, frz_l, frz_d, frz_n, ev_lend, lend_l, lend_d, atom_i, atom_b, atom_s, ev_lendB, lendB_l, lendB_d, ev_app, app_l, kApp_ev, ev_put, put_l, ev_ixO, ixO_l, ixO_d, put_m, putAll_c, putAll_n, ev_lc, kLst_ev, ev_lcL, wipe_n, wipe_c, r1_2, r1_3, bits_ev, List.getElem?_cons_zero, List.getElem?_cons_succ, List.set_cons_zero, List.set_cons_succ, List.length_cons, List.length_nil, List.length_map, List.append_nil, List.cons_append, List.nil_append, ev_if, turn_nx, turn_ct, turn_bk, turn_rt, turn_ite, kWh_ev, isi_int_int, isi_bool_int, isi_int_bool, isi_bool_bool, isi_int_str, isi_int_none, isi_int_list, isi_int_tup, isi_bool_str, isi_bool_none, isi_bool_list, isi_bool_tup, isi_tup_tup, isi_tup_int, isi_tup_bool, isi_tup_str, isi_tup_none, isi_tup_list, isi_list_list, isi_list_tup, isi_list_int, isi_list_bool, isi_list_str, isi_list_none, isi_str_str, isi_str_int, isi_str_bool, isi_str_none, isi_str_list, isi_str_tup, decide_true, decide_false, not_true_eq_false, not_false_eq_true, ne_eq, decide_eq_true_eq, Bool.not_eq_true', decide_eq_false_iff_not, Bool.not_true, Bool.not_false, Bool.false_eq_true, if_true, if_false, reduceIte, e, ev, hb]
theorem law_below_eq (d a b n a' b' n' : Int) (hd : Root d) [Bd d 7] {k1 k2 k3 k4 k5 k6 : Nat} [Bd a k1] [Bd b k2] [Bd n k3] [Bd a' k4] [Bd b' k5] [Bd n' k6] (h1 : k1 ≤ 100000) (h2 : k2 ≤ 100000) (h3 : k3 ≤ 100000) (h4 : k4 ≤ 100000) (h5 : k5 ≤ 100000) (h6 : k6 ≤ 100000) :
    m_law_below [.int d, .tuple [.int a, .int b, .int n], .tuple [.int a', .int b', .int n']] = .ok (.bool (decide (Lt0 d (a * n' - a' * n) (b * n' - b' * n)))) := by
  obtain ⟨v, ev, hv⟩ := law_sign_eq d (a * n' - a' * n) (b * n' - b' * n) hd (by decide) (show max (k1 + k6) (k4 + k3) + 1 ≤ 1000000 by omega) (show max (k2 + k6) (k5 + k3) + 1 ≤ 1000000 by omega)
  have hb : decide (v < 0) = decide (Lt0 d (a * n' - a' * n) (b * n' - b' * n)) := by rw [decide_eq_decide, hv]
  have i1 : k1 + k6 ≤ 134217728 := by omega
  have i2 : k4 + k3 ≤ 134217728 := by omega
  have i3 : k2 + k6 ≤ 134217728 := by omega
  have i4 : k5 + k3 ≤ 134217728 := by omega
  simp +decide only [m_law_below, den_law_below, ev_seq, seq_nx, seq_rt, seq_ex, seq_bk, seq_ct, seq_ite, fl_ok, fl_ex, fl_ite, ev_set, kSet_ev, ev_ret, ev_retN, ev_nx, ev_bk, ev_ct, ev_raise, ev_if, kIf_ev, ev_drop, kNx_ev, ev_par, kPar_ev, kId_ev, ev_asg, kAsg_ev, ev_for, kFor_ev, ev_V, dVg_ok, ev_C, ev_1, ev_2, bind2_ok, bind2_ite1, bind2_ite2, bind_ite, ev_A, ev_nil, ev_cons, kCons_ev, ev_T, toB_ev, ev_and, ev_or, ev_not, kAnd_ev, kOr_ev, kNot_ev, ev_andV, ev_orV, ev_notV, kAndV_ev, kOrV_ev, kNotV_ev, ev_ife, kIfE_ev, ev_ch, kCh, tup_ev, lst_ev, call_ev, kw_ev, ev_kw, ev_fn, startE_0, startE_s, startE_c, fin_rt, fin_nx, fin_ex, fin_ite, ix_t0, ix_t1, ix_t2, ix_t3, ix_l0, ix_l1, ix_l2, len_l, len_t1, len_t2, len_t3, len_t4, beq_self_eq_true, ev_iL, ev_iT, asL_ev, asT_ev, ev_iA, ev_P, toI_ev, ev_P0, ev_sl, kSl_ev, put_1, gAdd_i, gSub_i, gMul_i, gDiv_p, gMod_p, gPow_l, gShl_l, gShr_l, gLt_i, gLe_i, gGt_i, gGe_i, gEq_i, gNe_i, gNeg_i, gAbs_i, gInt_i, gInt_b, gEq_s, gNe_s, gEq_b, gNe_b, gEq_2, gNe_2, gEq_3, gNe_3, gEq_22, gNe_22, DL.R.bind_ok, DL.R.bind_ex, ev_setL, kSetL_ev, ev_lDisp, kDisp_ev, ev_lList, lOf_l, lOf_t, ev_frz, frz_l, frz_d, frz_n, ev_lend, lend_l, lend_d, atom_i, atom_b, atom_s, ev_lendB, lendB_l, lendB_d, ev_app, app_l, kApp_ev, ev_put, put_l, ev_ixO, ixO_l, ixO_d, put_m, putAll_c, putAll_n, ev_lc, kLst_ev, ev_lcL, wipe_n, wipe_c, r1_2, r1_3, bits_ev, List.getElem?_cons_zero, List.getElem?_cons_succ, List.set_cons_zero, List.set_cons_succ, List.length_cons, List.length_nil, List.length_map, List.append_nil, List.cons_append, List.nil_append, ev_if, turn_nx, turn_ct, turn_bk, turn_rt, turn_ite, kWh_ev, isi_int_int, isi_bool_int, isi_int_bool, isi_bool_bool, isi_int_str, isi_int_none, isi_int_list, isi_int_tup, isi_bool_str, isi_bool_none, isi_bool_list, isi_bool_tup, isi_tup_tup, isi_tup_int, isi_tup_bool, isi_tup_str, isi_tup_none, isi_tup_list, isi_list_list, isi_list_tup, isi_list_int, isi_list_bool, isi_list_str, isi_list_none, isi_str_str, isi_str_int, isi_str_bool, isi_str_none, isi_str_list, isi_str_tup, decide_true, decide_false, not_true_eq_false, not_false_eq_true, ne_eq, decide_eq_true_eq, Bool.not_eq_true', decide_eq_false_iff_not, Bool.not_true, Bool.not_false, Bool.false_eq_true, if_true, if_false, reduceIte, i1, i2, i3, i4, ev, hb]
theorem floor_of_eq (d a b n : Int) (hd : 0 < d) (hn : 0 < n) [Bd d 7] {k1 k2 k3 : Nat} [Bd a k1] [bb : Bd b k2] [Bd n k3] (h1 : k1 ≤ 3900) (h2 : k2 ≤ 3900) (h3 : k3 ≤ 3900) : ∃ F R : Int, m_floor_of [.int d, .tuple [.int a, .int b, .int n]] = .ok (.int F) ∧ IsFl d b R ∧ F = (a + R) / n ∧ Bd R 8002 := by
  have i1 : 7 + k2 ≤ 134217728 := by omega
  have i2 : 7 + k2 + k2 ≤ 134217728 := by omega
  have i3 : k3 ≤ 9000 := by omega
  have hb2 : 0 ≤ d * b * b := by
    rw [Int.mul_assoc]
    refine Int.mul_nonneg (by omega) ?_
    rcases Int.le_total 0 b with w | w
    · exact Int.mul_nonneg w w
    · exact Int.mul_nonneg_of_nonpos_of_nonpos w w
  have bB : Bd (d * b * b) 8000 := Bd.mono inferInstance (show 7 + k2 + k2 ≤ 8000 by omega)
  obtain ⟨r, r1, r2, r3, er⟩ := root_floor_eq (d * b * b) hb2
  have hr : r.natAbs < 2 ^ 8000 := by
    have h := bB.h
    have : r ≤ r * r := by
      rcases Int.lt_or_le 0 r with w | w
      · have := Int.mul_le_mul_of_nonneg_left (show 1 ≤ r by omega) r1; omega
      · have : r = 0 := by omega
        subst this; decide
    omega
  by_cases hb : b < 0
  · refine ⟨(a + (0 - r - 1)) / n, 0 - r - 1, ?_, ⟨r, r1, r2, r3, by rw [if_pos hb]⟩, rfl, ⟨?_⟩⟩
    · simp +decide only [m_floor_of, den_floor_of, ev_seq, seq_nx, seq_rt, seq_ex, seq_bk, seq_ct, seq_ite, fl_ok, fl_ex, fl_ite, ev_set, kSet_ev, ev_ret, ev_retN, ev_nx, ev_bk, ev_ct, ev_raise, ev_if, kIf_ev, ev_drop, kNx_ev, ev_par, kPar_ev, kId_ev, ev_asg, kAsg_ev, ev_for, kFor_ev, ev_V, dVg_ok, ev_C, ev_1, ev_2, bind2_ok, bind2_ite1, bind2_ite2, bind_ite, ev_A, ev_nil, ev_cons, kCons_ev, ev_T, toB_ev, ev_and, ev_or, ev_not, kAnd_ev, kOr_ev, kNot_ev, ev_andV, ev_orV, ev_notV, kAndV_ev, kOrV_ev, kNotV_ev, ev_ife, kIfE_ev, ev_ch, kCh, tup_ev, lst_ev, call_ev, kw_ev, ev_kw, ev_fn, startE_0, startE_s, startE_c, fin_rt, fin_nx, fin_ex, fin_ite, ix_t0, ix_t1, ix_t2, ix_t3, ix_l0, ix_l1, ix_l2, len_l, len_t1, len_t2, len_t3, len_t4, beq_self_eq_true, ev_iL, ev_iT, asL_ev, asT_ev, ev_iA, ev_P, toI_ev, ev_P0, ev_sl, kSl_ev, put_1, gAdd_i, gSub_i, gMul_i, gDiv_p, gMod_p, gPow_l, gShl_l, gShr_l, gLt_i, gLe_i, gGt_i, gGe_i, gEq_i, gNe_i, gNeg_i, gAbs_i, gInt_i, gInt_b, gEq_s, gNe_s, gEq_b, gNe_b, gEq_2, gNe_2, gEq_3, gNe_3, gEq_22, gNe_22, DL.R.bind_ok, DL.R.bind_ex, ev_setL, kSetL_ev, ev_lDisp, kDisp_ev, ev_lList, lOf_l, lOf_t, ev_frz, frz_l, frz_d, frz_n, ev_lend, lend_l, lend_d, atom_i, atom_b, atom_s, ev_lendB, lendB_l, lendB_d, ev_app, app_l, kApp_ev, ev_put, put_l, ev_ixO, ixO_l, ixO_d, put_m, putAll_c, putAll_n, ev_lc, kLst_ev, ev_lcL, wipe_n, wipe_c, r1_2, r1_3, bits_ev, List.getElem?_cons_zero, List.getElem?_cons_succ, List.set_cons_zero, List.set_cons_succ, List.length_cons, List.length_nil, List.length_map, List.append_nil, List.cons_append, List.nil_append, ev_if, turn_nx, turn_ct, turn_bk, turn_rt, turn_ite, kWh_ev, isi_int_int, isi_bool_int, isi_int_bool, isi_bool_bool, isi_int_str, isi_int_none, isi_int_list, isi_int_tup, isi_bool_str, isi_bool_none, isi_bool_list, isi_bool_tup, isi_tup_tup, isi_tup_int, isi_tup_bool, isi_tup_str, isi_tup_none, isi_tup_list, isi_list_list, isi_list_tup, isi_list_int, isi_list_bool, isi_list_str, isi_list_none, isi_str_str, isi_str_int, isi_str_bool, isi_str_none, isi_str_list, isi_str_tup, decide_true, decide_false, not_true_eq_false, not_false_eq_true, ne_eq, decide_eq_true_eq, Bool.not_eq_true', decide_eq_false_iff_not, Bool.not_true, Bool.not_false, Bool.false_eq_true, if_true, if_false, reduceIte, i1, i2, i3, er, hb, hn]
    · have e : (2 : Nat) ^ 8002 = 4 * 2 ^ 8000 := by rw [show 8002 = 2 + 8000 from rfl, Nat.pow_add]
      rw [e]
      generalize (2 : Nat) ^ 8000 = Z at *
      omega
  · refine ⟨(a + r) / n, r, ?_, ⟨r, r1, r2, r3, by rw [if_neg hb]⟩, rfl, ⟨?_⟩⟩
    · simp +decide only [m_floor_of, den_floor_of, ev_seq, seq_nx, seq_rt, seq_ex, seq_bk, seq_ct, seq_ite, fl_ok, fl_ex, fl_ite, ev_set, kSet_ev, ev_ret, ev_retN, ev_nx, ev_bk, ev_ct, ev_raise, ev_if, kIf_ev, ev_drop, kNx_ev, ev_par, kPar_ev, kId_ev, ev_asg, kAsg_ev, ev_for, kFor_ev, ev_V, dVg_ok, ev_C, ev_1, ev_2, bind2_ok, bind2_ite1, bind2_ite2, bind_ite, ev_A, ev_nil, ev_cons, kCons_ev, ev_T, toB_ev, ev_and, ev_or, ev_not, kAnd_ev, kOr_ev, kNot_ev, ev_andV, ev_orV, ev_notV, kAndV_ev, kOrV_ev, kNotV_ev, ev_ife, kIfE_ev, ev_ch, kCh, tup_ev, lst_ev, call_ev, kw_ev, ev_kw, ev_fn, startE_0, startE_s, startE_c, fin_rt, fin_nx, fin_ex, fin_ite, ix_t0, ix_t1, ix_t2, ix_t3, ix_l0, ix_l1, ix_l2, len_l, len_t1, len_t2, len_t3, len_t4, beq_self_eq_true, ev_iL, ev_iT, asL_ev, asT_ev, ev_iA, ev_P, toI_ev, ev_P0, ev_sl, kSl_ev, put_1, gAdd_i, gSub_i, gMul_i, gDiv_p, gMod_p, gPow_l, gShl_l, gShr_l, gLt_i, gLe_i, gGt_i, gGe_i, gEq_i, gNe_i, gNeg_i, gAbs_i, gInt_i, gInt_b, gEq_s, gNe_s, gEq_b, gNe_b, gEq_2, gNe_2, gEq_3, gNe_3, gEq_22, gNe_22, DL.R.bind_ok, DL.R.bind_ex, ev_setL, kSetL_ev, ev_lDisp, kDisp_ev, ev_lList, lOf_l, lOf_t, ev_frz, frz_l, frz_d, frz_n, ev_lend, lend_l, lend_d, atom_i, atom_b, atom_s, ev_lendB, lendB_l, lendB_d, ev_app, app_l, kApp_ev, ev_put, put_l, ev_ixO, ixO_l, ixO_d, put_m, putAll_c, putAll_n, ev_lc, kLst_ev, ev_lcL, wipe_n, wipe_c, r1_2, r1_3, bits_ev, List.getElem?_cons_zero, List.getElem?_cons_succ, List.set_cons_zero, List.set_cons_succ, List.length_cons, List.length_nil, List.length_map, List.append_nil, List.cons_append, List.nil_append, ev_if, turn_nx, turn_ct, turn_bk, turn_rt, turn_ite, kWh_ev, isi_int_int, isi_bool_int, isi_int_bool, isi_bool_bool, isi_int_str, isi_int_none, isi_int_list, isi_int_tup, isi_bool_str, isi_bool_none, isi_bool_list, isi_bool_tup, isi_tup_tup, isi_tup_int, isi_tup_bool, isi_tup_str, isi_tup_none, isi_tup_list, isi_list_list, isi_list_tup, isi_list_int, isi_list_bool, isi_list_str, isi_list_none, isi_str_str, isi_str_int, isi_str_bool, isi_str_none, isi_str_list, isi_str_tup, decide_true, decide_false, not_true_eq_false, not_false_eq_true, ne_eq, decide_eq_true_eq, Bool.not_eq_true', decide_eq_false_iff_not, Bool.not_true, Bool.not_false, Bool.false_eq_true, if_true, if_false, reduceIte, i1, i2, i3, er, hb, hn]
    · have e : (2 : Nat) ^ 8002 = 4 * 2 ^ 8000 := by rw [show 8002 = 2 + 8000 from rfl, Nat.pow_add]
      rw [e]
      generalize (2 : Nat) ^ 8000 = Z at *
      omega
end DL

set_option autoImplicit false
set_option linter.all false
/-! plain arithmetic: fractions and lengths as rationals -/
namespace MB
theorem fT_num {a b : Int} (hb : b ≠ 0) : fT a b = ((a : Rat) / (b : Rat)).num := by rw [fT_eq]; exact (fr_of hb).1
theorem fB_den {a b : Int} (hb : b ≠ 0) : fB a b = (((a : Rat) / (b : Rat)).den : Int) := by rw [fB_eq]; exact (fr_of hb).2
theorem num_div (q : Rat) : (q.num : Rat) / ((q.den : Int) : Rat) = q := by
  have h : ((q.den : Int) : Rat) ≠ 0 := ratne (by have := q.den_nz; omega)
  have := rnum q
  grind
theorem lowF_rat (q : Rat) : LowF q.num q.den := ⟨rdpos q, rgcd q⟩
theorem rat_of_lowF {a b : Int} (h : LowF a b) : ((a : Rat) / (b : Rat)).num = a ∧ (((a : Rat) / (b : Rat)).den : Int) = b := by
  have hb : b ≠ 0 := by have := h.1; omega
  have s := lowF_self h
  exact ⟨by rw [← fT_num hb, s.1], by rw [← fB_den hb, s.2]⟩
/-- the length of two fractions -/
def qA (x y : Rat) : Int := lA (x.num * y.den) (y.num * x.den) (x.den * y.den)
def qB (x y : Rat) : Int := lB (x.num * y.den) (y.num * x.den) (x.den * y.den)
def qN (x y : Rat) : Int := lN (x.num * y.den) (y.num * x.den) (x.den * y.den)
theorem qden (x y : Rat) : (x.den : Int) * (y.den : Int) ≠ 0 := Int.mul_ne_zero (by have := x.den_nz; omega) (by have := y.den_nz; omega)
theorem q_low (x y : Rat) : Low (qA x y) (qB x y) (qN x y) := low_of (qden x y)
theorem qN_pos (x y : Rat) : 0 < qN x y := (q_low x y).1
theorem qN_ne (x y : Rat) : ((qN x y : Int) : Rat) ≠ 0 := ratne (by have := qN_pos x y; omega)
theorem q_val (x y : Rat) : ((qA x y : Int) : Rat) = x * ((qN x y : Int) : Rat) ∧ ((qB x y : Int) : Rat) = y * ((qN x y : Int) : Rat) := by
  have c := lcross (a := x.num * y.den) (b := y.num * x.den) (qden x y)
  have hx : ((x.den : Int) : Rat) ≠ 0 := ratne (by have := x.den_nz; omega)
  have hy : ((y.den : Int) : Rat) ≠ 0 := ratne (by have := y.den_nz; omega)
  have nx := rnum x
  have ny := rnum y
  have c1 : ((qA x y * (x.den * y.den) : Int) : Rat) = ((x.num * y.den * qN x y : Int) : Rat) := congrArg _ c.1
  have c2 : ((qB x y * (x.den * y.den) : Int) : Rat) = ((y.num * x.den * qN x y : Int) : Rat) := congrArg _ c.2
  simp only [Rat.intCast_mul] at c1 c2
  constructor <;> grind
/-- a length by its numbers -/
theorem q_of {a b n : Int} (hn : n ≠ 0) : lA a b n = qA ((a : Rat) / n) ((b : Rat) / n) ∧ lB a b n = qB ((a : Rat) / n) ((b : Rat) / n) ∧ lN a b n = qN ((a : Rat) / n) ((b : Rat) / n) := by
  have hn' : (n : Rat) ≠ 0 := ratne hn
  generalize hx : (a : Rat) / n = x
  generalize hy : (b : Rat) / n = y
  have nx := rnum x
  have ny := rnum y
  have e1 : a * (x.den * y.den) = x.num * y.den * n := by
    have : ((a * (x.den * y.den) : Int) : Rat) = ((x.num * y.den * n : Int) : Rat) := by
      simp only [Rat.intCast_mul]
      grind
    exact_mod_cast this
  have e2 : b * (x.den * y.den) = y.num * x.den * n := by
    have : ((b * (x.den * y.den) : Int) : Rat) = ((y.num * x.den * n : Int) : Rat) := by
      simp only [Rat.intCast_mul]
      grind
    exact_mod_cast this
  exact low_eq hn (qden x y) e1 e2
theorem q_self {a b n : Int} (h : Low a b n) : qA ((a : Rat) / n) ((b : Rat) / n) = a ∧ qB ((a : Rat) / n) ((b : Rat) / n) = b ∧ qN ((a : Rat) / n) ((b : Rat) / n) = n := by
  have hn : n ≠ 0 := by have := h.1; omega
  have e := q_of (a := a) (b := b) hn
  have s := low_self h
  exact ⟨e.1.symm.trans s.1, e.2.1.symm.trans s.2.1, e.2.2.symm.trans s.2.2⟩
/-- the parts of a length -/
theorem q_parts (x y : Rat) : fT (qA x y) (qN x y) = x.num ∧ fB (qA x y) (qN x y) = x.den ∧ fT (qB x y) (qN x y) = y.num ∧ fB (qB x y) (qN x y) = y.den := by
  have hn : qN x y ≠ 0 := by have := qN_pos x y; omega
  have hn' := qN_ne x y
  have v := q_val x y
  have ex : ((qA x y : Int) : Rat) / ((qN x y : Int) : Rat) = x := by grind
  have ey : ((qB x y : Int) : Rat) / ((qN x y : Int) : Rat) = y := by grind
  refine ⟨?_, ?_, ?_, ?_⟩
  · rw [fT_num hn, ex]
  · rw [fB_den hn, ex]
  · rw [fT_num hn, ey]
  · rw [fB_den hn, ey]
theorem cast_num (a : Int) : (a : Rat).num = a := rfl
theorem cast_den (a : Int) : (a : Rat).den = 1 := rfl
end MB

set_option Elab.async false
set_option linter.all false
set_option maxRecDepth 100000
set_option maxHeartbeats 1000000
set_option autoImplicit false
/-! fractions, lengths and tables as rationals -/
namespace DL
open PySem L2 MB
class BR (q : Rat) (n m : outParam Nat) : Prop where
  num : q.num.natAbs < 2 ^ n
  den : q.den < 2 ^ m
theorem BR.mono {q : Rat} {n m n' m' : Nat} (b : BR q n m) (h : n ≤ n') (h' : m ≤ m') : BR q n' m' := ⟨Nat.lt_of_lt_of_le b.num (Nat.pow_le_pow_right (by decide) h), Nat.lt_of_lt_of_le b.den (Nat.pow_le_pow_right (by decide) h')⟩
instance bd_num {q : Rat} {n m : Nat} [b : BR q n m] : Bd q.num n := ⟨b.num⟩
instance bd_den {q : Rat} {n m : Nat} [b : BR q n m] : Bd (q.den : Int) m := ⟨by rw [Int.natAbs_natCast]; exact b.den⟩
theorem br_frac {a b : Int} (hb : b ≠ 0) {n m : Nat} (h1 : Bd a n) (h2 : Bd b m) : BR ((a : Rat) / (b : Rat)) n m := by
  have e1 := fT_num (a := a) hb
  have e2 := fB_den (a := a) hb
  have b1 : Bd (fT a b) n := bd_fT
  have b2 : Bd (fB a b) m := bd_fB
  rw [e1] at b1
  rw [e2] at b2
  exact ⟨b1.h, by have := b2.h; rw [Int.natAbs_natCast] at this; exact this⟩
theorem add_val (p q : Rat) : p + q = ((p.num * q.den + q.num * p.den : Int) : Rat) / ((p.den * q.den : Int) : Rat) := by
  have h1 : ((p.den : Int) : Rat) ≠ 0 := ratne (by have := p.den_nz; omega)
  have h2 : ((q.den : Int) : Rat) ≠ 0 := ratne (by have := q.den_nz; omega)
  have e1 := rnum p
  have e2 := rnum q
  simp only [Rat.intCast_mul, Rat.intCast_add]
  grind
theorem sub_val (p q : Rat) : p - q = ((p.num * q.den - q.num * p.den : Int) : Rat) / ((p.den * q.den : Int) : Rat) := by
  have h1 : ((p.den : Int) : Rat) ≠ 0 := ratne (by have := p.den_nz; omega)
  have h2 : ((q.den : Int) : Rat) ≠ 0 := ratne (by have := q.den_nz; omega)
  have e1 := rnum p
  have e2 := rnum q
  simp only [Rat.intCast_mul, Rat.intCast_sub]
  grind
theorem mul_val (p q : Rat) : p * q = ((p.num * q.num : Int) : Rat) / ((p.den * q.den : Int) : Rat) := by
  have h1 : ((p.den : Int) : Rat) ≠ 0 := ratne (by have := p.den_nz; omega)
  have h2 : ((q.den : Int) : Rat) ≠ 0 := ratne (by have := q.den_nz; omega)
  have e1 := rnum p
  have e2 := rnum q
  simp only [Rat.intCast_mul]
  grind
theorem div_val (p q : Rat) (hq : q ≠ 0) : p / q = ((p.num * q.den : Int) : Rat) / ((p.den * q.num : Int) : Rat) := by
  have h1 : ((p.den : Int) : Rat) ≠ 0 := ratne (by have := p.den_nz; omega)
  have h2 : ((q.den : Int) : Rat) ≠ 0 := ratne (by have := q.den_nz; omega)
  have e1 := rnum p
  have e2 := rnum q
  simp only [Rat.intCast_mul]
  rw [e1, e2]
  grind
theorem den_ne (p q : Rat) : (p.den : Int) * (q.den : Int) ≠ 0 := qden p q
section
variable {p q : Rat} {n m n' m' : Nat} [a : BR p n m] [b : BR q n' m']
instance br_add : BR (p + q) (n + n' + m + m' + 1) (m + m') := by
  rw [add_val]
  exact br_frac (den_ne p q) (Bd.mono (inferInstance : Bd (p.num * q.den + q.num * p.den) (max (n + m') (n' + m) + 1)) (by omega)) inferInstance
instance br_sub : BR (p - q) (n + n' + m + m' + 1) (m + m') := by
  rw [sub_val]
  exact br_frac (den_ne p q) (Bd.mono (inferInstance : Bd (p.num * q.den - q.num * p.den) (max (n + m') (n' + m) + 1)) (by omega)) inferInstance
instance br_mul : BR (p * q) (n + n') (m + m') := by
  rw [mul_val]
  exact br_frac (den_ne p q) inferInstance inferInstance
omit b in
instance br_neg : BR (-p) n m := ⟨by rw [Rat.neg_num, Int.natAbs_neg]; exact a.num, by rw [Rat.neg_den]; exact a.den⟩
end
instance br_int {a : Int} {n : Nat} [b : Bd a n] : BR (a : Rat) n 1 := ⟨b.h, by show 1 < 2 ^ 1; decide⟩
instance br_zero : BR (0 : Rat) 1 1 := ⟨by decide, by decide⟩
/-! data -/
@[reducible] def frD (q : Rat) : PD := .tuple [.int q.num, .int (q.den : Int)]
@[reducible] def lnD (x y : Rat) : PD := .tuple [.int (qA x y), .int (qB x y), .int (qN x y)]
theorem fraction_fr (a b : Int) (hb : b ≠ 0) {k : Nat} [Bd b k] (hk : k ≤ 9000) : m_fraction [.int a, .int b] = .ok (frD ((a : Rat) / (b : Rat))) := by
  rw [fraction_eq a b hb hk, fT_num hb, fB_den hb]
theorem law_fraction_fr (a b : Int) (hb : b ≠ 0) {k : Nat} [Bd b k] (hk : k ≤ 9000) : m_law_fraction [.int a, .int b] = .ok (frD ((a : Rat) / (b : Rat))) := by
  rw [law_fraction_eq a b hb hk, fT_num hb, fB_den hb]
section
variable (p q : Rat) {n m n' m' : Nat} [BR p n m] [BR q n' m']
theorem plus_fr (h : m + m' ≤ 9000) (h1 : n ≤ 60000000) (h2 : n' ≤ 60000000) : m_plus [frD p, frD q] = .ok (frD (p + q)) := by
  have i1 : n + m' ≤ 134217728 := by omega
  have i2 : n' + m ≤ 134217728 := by omega
  have i3 : m + m' ≤ 134217728 := by omega
  have e := fraction_fr (p.num * q.den + q.num * p.den) (p.den * q.den) (den_ne p q) h
  rw [← add_val] at e
  simp +decide only [m_plus, den_plus, ev_seq, seq_nx, seq_rt, seq_ex, seq_bk, seq_ct, seq_ite, fl_ok, fl_ex, fl_ite, ev_set, kSet_ev, ev_ret, ev_retN, ev_nx, ev_bk, ev_ct, ev_raise, ev_if, kIf_ev, ev_drop, kNx_ev, ev_par, kPar_ev, kId_ev, ev_asg, kAsg_ev, ev_for, kFor_ev, ev_V, dVg_ok, ev_C, ev_1, ev_2, bind2_ok, bind2_ite1, bind2_ite2, bind_ite, ev_A, ev_nil, ev_cons, kCons_ev, ev_T, toB_ev, ev_and, ev_or, ev_not, kAnd_ev, kOr_ev, kNot_ev, ev_andV, ev_orV, ev_notV, kAndV_ev, kOrV_ev, kNotV_ev, ev_ife, kIfE_ev, ev_ch, kCh, tup_ev, lst_ev, call_ev, kw_ev, ev_kw, ev_fn, startE_0, startE_s, startE_c, fin_rt, fin_nx, fin_ex, fin_ite, ix_t0, ix_t1, ix_t2, ix_t3, ix_l0, ix_l1, ix_l2, len_l, len_t1, len_t2, len_t3, len_t4, beq_self_eq_true, ev_iL, ev_iT, asL_ev, asT_ev, ev_iA, ev_P, toI_ev, ev_P0, ev_sl, kSl_ev, put_1, gAdd_i, gSub_i, gMul_i, gDiv_p, gMod_p, gPow_l, gShl_l, gShr_l, gLt_i, gLe_i, gGt_i, gGe_i, gEq_i, gNe_i, gNeg_i, gAbs_i, gInt_i, gInt_b, gEq_s, gNe_s, gEq_b, gNe_b, gEq_2, gNe_2, gEq_3, gNe_3, gEq_22, gNe_22, DL.R.bind_ok, DL.R.bind_ex, ev_setL, kSetL_ev, ev_lDisp, kDisp_ev, ev_lList, lOf_l, lOf_t, ev_frz, frz_l, frz_d, frz_n, ev_lend, lend_l, lend_d, atom_i, atom_b, atom_s, ev_lendB, lendB_l, lendB_d, ev_app, app_l, kApp_ev, ev_put, put_l, ev_ixO, ixO_l, ixO_d, put_m, putAll_c, putAll_n, ev_lc, kLst_ev, ev_lcL, wipe_n, wipe_c, r1_2, r1_3, bits_ev, List.getElem?_cons_zero, List.getElem?_cons_succ, List.set_cons_zero, List.set_cons_succ, List.length_cons, List.length_nil, List.length_map, List.append_nil, List.cons_append, List.nil_append, ev_if, turn_nx, turn_ct, turn_bk, turn_rt, turn_ite, kWh_ev, isi_int_int, isi_bool_int, isi_int_bool, isi_bool_bool, isi_int_str, isi_int_none, isi_int_list, isi_int_tup, isi_bool_str, isi_bool_none, isi_bool_list, isi_bool_tup, isi_tup_tup, isi_tup_int, isi_tup_bool, isi_tup_str, isi_tup_none, isi_tup_list, isi_list_list, isi_list_tup, isi_list_int, isi_list_bool, isi_list_str, isi_list_none, isi_str_str, isi_str_int, isi_str_bool, isi_str_none, isi_str_list, isi_str_tup, decide_true, decide_false, not_true_eq_false, not_false_eq_true, ne_eq, decide_eq_true_eq, Bool.not_eq_true', decide_eq_false_iff_not, Bool.not_true, Bool.not_false, Bool.false_eq_true, if_true, if_false, reduceIte, i1, i2, i3, e]
theorem minus_fr (h : m + m' ≤ 9000) (h1 : n ≤ 60000000) (h2 : n' ≤ 60000000) : m_minus [frD p, frD q] = .ok (frD (p - q)) := by
  have i1 : n + m' ≤ 134217728 := by omega
  have i2 : n' + m ≤ 134217728 := by omega
  have i3 : m + m' ≤ 134217728 := by omega
  have e := fraction_fr (p.num * q.den - q.num * p.den) (p.den * q.den) (den_ne p q) h
  rw [← sub_val] at e
  simp +decide only [m_minus, den_minus, ev_seq, seq_nx, seq_rt, seq_ex, seq_bk, seq_ct, seq_ite, fl_ok, fl_ex, fl_ite, ev_set, kSet_ev, ev_ret, ev_retN, ev_nx, ev_bk, ev_ct, ev_raise, ev_if, kIf_ev, ev_drop, kNx_ev, ev_par, kPar_ev, kId_ev, ev_asg, kAsg_ev, ev_for, kFor_ev, ev_V, dVg_ok, ev_C, ev_1, ev_2, bind2_ok, bind2_ite1, bind2_ite2, bind_ite, ev_A, ev_nil, ev_cons, kCons_ev, ev_T, toB_ev, ev_and, ev_or, ev_not, kAnd_ev, kOr_ev, kNot_ev, ev_andV, ev_orV, ev_notV, kAndV_ev, kOrV_ev, kNotV_ev, ev_ife, kIfE_ev, ev_ch, kCh, tup_ev, lst_ev, call_ev, kw_ev, ev_kw, ev_fn, startE_0, startE_s, startE_c, fin_rt, fin_nx, fin_ex, fin_ite, ix_t0, ix_t1, ix_t2, ix_t3, ix_l0, ix_l1, ix_l2, len_l, len_t1, len_t2, len_t3, len_t4, beq_self_eq_true, ev_iL, ev_iT, asL_ev, asT_ev, ev_iA, ev_P, toI_ev, ev_P0, ev_sl, kSl_ev, put_1, gAdd_i, gSub_i, gMul_i, gDiv_p, gMod_p, gPow_l, gShl_l, gShr_l, gLt_i, gLe_i, gGt_i, gGe_i, gEq_i, gNe_i, gNeg_i, gAbs_i, gInt_i, gInt_b, gEq_s, gNe_s, gEq_b, gNe_b, gEq_2, gNe_2, gEq_3, gNe_3, gEq_22, gNe_22, DL.R.bind_ok, DL.R.bind_ex, ev_setL, kSetL_ev, ev_lDisp, kDisp_ev, ev_lList, lOf_l, lOf_t, ev_frz, frz_l, frz_d, frz_n, ev_lend, lend_l, lend_d, atom_i, atom_b, atom_s, ev_lendB, lendB_l, lendB_d, ev_app, app_l, kApp_ev, ev_put, put_l, ev_ixO, ixO_l, ixO_d, put_m, putAll_c, putAll_n, ev_lc, kLst_ev, ev_lcL, wipe_n, wipe_c, r1_2, r1_3, bits_ev, List.getElem?_cons_zero, List.getElem?_cons_succ, List.set_cons_zero, List.set_cons_succ, List.length_cons, List.length_nil, List.length_map, List.append_nil, List.cons_append, List.nil_append, ev_if, turn_nx, turn_ct, turn_bk, turn_rt, turn_ite, kWh_ev, isi_int_int, isi_bool_int, isi_int_bool, isi_bool_bool, isi_int_str, isi_int_none, isi_int_list, isi_int_tup, isi_bool_str, isi_bool_none, isi_bool_list, isi_bool_tup, isi_tup_tup, isi_tup_int, isi_tup_bool, isi_tup_str, isi_tup_none, isi_tup_list, isi_list_list, isi_list_tup, isi_list_int, isi_list_bool, isi_list_str, isi_list_none, isi_str_str, isi_str_int, isi_str_bool, isi_str_none, isi_str_list, isi_str_tup, decide_true, decide_false, not_true_eq_false, not_false_eq_true, ne_eq, decide_eq_true_eq, Bool.not_eq_true', decide_eq_false_iff_not, Bool.not_true, Bool.not_false, Bool.false_eq_true, if_true, if_false, reduceIte, i1, i2, i3, e]
theorem times_fr (h : m + m' ≤ 9000) (h1 : n ≤ 60000000) (h2 : n' ≤ 60000000) : m_times [frD p, frD q] = .ok (frD (p * q)) := by
  have i1 : n + n' ≤ 134217728 := by omega
  have i3 : m + m' ≤ 134217728 := by omega
  have e := fraction_fr (p.num * q.num) (p.den * q.den) (den_ne p q) h
  rw [← mul_val] at e
  simp +decide only [m_times, den_times, ev_seq, seq_nx, seq_rt, seq_ex, seq_bk, seq_ct, seq_ite, fl_ok, fl_ex, fl_ite, ev_set, kSet_ev, ev_ret, ev_retN, ev_nx, ev_bk, ev_ct, ev_raise, ev_if, kIf_ev, ev_drop, kNx_ev, ev_par, kPar_ev, kId_ev, ev_asg, kAsg_ev, ev_for, kFor_ev, ev_V, dVg_ok, ev_C, ev_1, ev_2, bind2_ok, bind2_ite1, bind2_ite2, bind_ite, ev_A, ev_nil, ev_cons, kCons_ev, ev_T, toB_ev, ev_and, ev_or, ev_not, kAnd_ev, kOr_ev, kNot_ev, ev_andV, ev_orV, ev_notV, kAndV_ev, kOrV_ev, kNotV_ev, ev_ife, kIfE_ev, ev_ch, kCh, tup_ev, lst_ev, call_ev, kw_ev, ev_kw, ev_fn, startE_0, startE_s, startE_c, fin_rt, fin_nx, fin_ex, fin_ite, ix_t0, ix_t1, ix_t2, ix_t3, ix_l0, ix_l1, ix_l2, len_l, len_t1, len_t2, len_t3, len_t4, beq_self_eq_true, ev_iL, ev_iT, asL_ev, asT_ev, ev_iA, ev_P, toI_ev, ev_P0, ev_sl, kSl_ev, put_1, gAdd_i, gSub_i, gMul_i, gDiv_p, gMod_p, gPow_l, gShl_l, gShr_l, gLt_i, gLe_i, gGt_i, gGe_i, gEq_i, gNe_i, gNeg_i, gAbs_i, gInt_i, gInt_b, gEq_s, gNe_s, gEq_b, gNe_b, gEq_2, gNe_2, gEq_3, gNe_3, gEq_22, gNe_22, DL.R.bind_ok, DL.R.bind_ex, ev_setL, kSetL_ev, ev_lDisp, kDisp_ev, ev_lList, lOf_l, lOf_t, ev_frz, frz_l, frz_d, frz_n, ev_lend, lend_l, lend_d, atom_i, atom_b, atom_s, ev_lendB, lendB_l, lendB_d, ev_app, app_l, kApp_ev, ev_put, put_l, ev_ixO, ixO_l, ixO_d, put_m, putAll_c, putAll_n, ev_lc, kLst_ev, ev_lcL, wipe_n, wipe_c, r1_2, r1_3, bits_ev, List.getElem?_cons_zero, List.getElem?_cons_succ, List.set_cons_zero, List.set_cons_succ, List.length_cons, List.length_nil, List.length_map, List.append_nil, List.cons_append, List.nil_append, ev_if, turn_nx, turn_ct, turn_bk, turn_rt, turn_ite, kWh_ev, isi_int_int, isi_bool_int, isi_int_bool, isi_bool_bool, isi_int_str, isi_int_none, isi_int_list, isi_int_tup, isi_bool_str, isi_bool_none, isi_bool_list, isi_bool_tup, isi_tup_tup, isi_tup_int, isi_tup_bool, isi_tup_str, isi_tup_none, isi_tup_list, isi_list_list, isi_list_tup, isi_list_int, isi_list_bool, isi_list_str, isi_list_none, isi_str_str, isi_str_int, isi_str_bool, isi_str_none, isi_str_list, isi_str_tup, decide_true, decide_false, not_true_eq_false, not_false_eq_true, ne_eq, decide_eq_true_eq, Bool.not_eq_true', decide_eq_false_iff_not, Bool.not_true, Bool.not_false, Bool.false_eq_true, if_true, if_false, reduceIte, i1, i3, e]
theorem by_fr (hq : q ≠ 0) (h : m + n' ≤ 9000) (h1 : n ≤ 60000000) (h2 : m' ≤ 60000000) : m_by [frD p, frD q] = .ok (frD (p / q)) := by
  have i1 : n + m' ≤ 134217728 := by omega
  have i3 : m + n' ≤ 134217728 := by omega
  have hn : (p.den : Int) * q.num ≠ 0 := Int.mul_ne_zero (by have := p.den_nz; omega) (fun e => hq (Rat.num_eq_zero.mp e))
  have e := fraction_fr (p.num * q.den) (p.den * q.num) hn h
  rw [← div_val p q hq] at e
  simp +decide only [m_by, den_by, ev_seq, seq_nx, seq_rt, seq_ex, seq_bk, seq_ct, seq_ite, fl_ok, fl_ex, fl_ite, ev_set, kSet_ev, ev_ret, ev_retN, ev_nx, ev_bk, ev_ct, ev_raise, ev_if, kIf_ev, ev_drop, kNx_ev, ev_par, kPar_ev, kId_ev, ev_asg, kAsg_ev, ev_for, kFor_ev, ev_V, dVg_ok, ev_C, ev_1, ev_2, bind2_ok, bind2_ite1, bind2_ite2, bind_ite, ev_A, ev_nil, ev_cons, kCons_ev, ev_T, toB_ev, ev_and, ev_or, ev_not, kAnd_ev, kOr_ev, kNot_ev, ev_andV, ev_orV, ev_notV, kAndV_ev, kOrV_ev, kNotV_ev, ev_ife, kIfE_ev, ev_ch, kCh, tup_ev, lst_ev, call_ev, kw_ev, ev_kw, ev_fn, startE_0, startE_s, startE_c, fin_rt, fin_nx, fin_ex, fin_ite, ix_t0, ix_t1, ix_t2, ix_t3, ix_l0, ix_l1, ix_l2, len_l, len_t1, len_t2, len_t3, len_t4, beq_self_eq_true, ev_iL, ev_iT, asL_ev, asT_ev, ev_iA, ev_P, toI_ev, ev_P0, ev_sl, kSl_ev, put_1, gAdd_i, gSub_i, gMul_i, gDiv_p, gMod_p, gPow_l, gShl_l, gShr_l, gLt_i, gLe_i, gGt_i, gGe_i, gEq_i, gNe_i, gNeg_i, gAbs_i, gInt_i, gInt_b, gEq_s, gNe_s, gEq_b, gNe_b, gEq_2, gNe_2, gEq_3, gNe_3, gEq_22, gNe_22, DL.R.bind_ok, DL.R.bind_ex, ev_setL, kSetL_ev, ev_lDisp, kDisp_ev, ev_lList, lOf_l, lOf_t, ev_frz, frz_l, frz_d, frz_n, ev_lend, lend_l, lend_d, atom_i, atom_b, atom_s, ev_lendB, lendB_l, lendB_d, ev_app, app_l, kApp_ev, ev_put, put_l, ev_ixO, ixO_l, ixO_d, put_m, putAll_c, putAll_n, ev_lc, kLst_ev, ev_lcL, wipe_n, wipe_c, r1_2, r1_3, bits_ev, List.getElem?_cons_zero, List.getElem?_cons_succ, List.set_cons_zero, List.set_cons_succ, List.length_cons, List.length_nil, List.length_map, List.append_nil, List.cons_append, List.nil_append, ev_if, turn_nx, turn_ct, turn_bk, turn_rt, turn_ite, kWh_ev, isi_int_int, isi_bool_int, isi_int_bool, isi_bool_bool, isi_int_str, isi_int_none, isi_int_list, isi_int_tup, isi_bool_str, isi_bool_none, isi_bool_list, isi_bool_tup, isi_tup_tup, isi_tup_int, isi_tup_bool, isi_tup_str, isi_tup_none, isi_tup_list, isi_list_list, isi_list_tup, isi_list_int, isi_list_bool, isi_list_str, isi_list_none, isi_str_str, isi_str_int, isi_str_bool, isi_str_none, isi_str_list, isi_str_tup, decide_true, decide_false, not_true_eq_false, not_false_eq_true, ne_eq, decide_eq_true_eq, Bool.not_eq_true', decide_eq_false_iff_not, Bool.not_true, Bool.not_false, Bool.false_eq_true, if_true, if_false, reduceIte, i1, i3, e]
end
/-- the law's own sum, of fractions in any terms -/
theorem law_add_eq (a b c d : Int) (hb : b ≠ 0) (hd : d ≠ 0) {k1 k2 k3 k4 : Nat} [Bd a k1] [Bd b k2] [Bd c k3] [Bd d k4] (h : k2 + k4 ≤ 9000) (h1 : k1 + k4 ≤ 134217728) (h3 : k3 + k2 ≤ 134217728) :
    m_law_add [.tuple [.int a, .int b], .tuple [.int c, .int d]] = .ok (frD ((a : Rat) / b + (c : Rat) / d)) := by
  have i1 : k2 + k4 ≤ 134217728 := by omega
  have hn : b * d ≠ 0 := Int.mul_ne_zero hb hd
  have e := law_fraction_fr (a * d + c * b) (b * d) hn h
  have hb' := ratne hb
  have hd' := ratne hd
  have v : ((a * d + c * b : Int) : Rat) / ((b * d : Int) : Rat) = (a : Rat) / b + (c : Rat) / d := by
    simp only [Rat.intCast_mul, Rat.intCast_add]
    grind
  rw [v] at e
  simp +decide only [m_law_add, den_law_add, ev_seq, seq_nx, seq_rt, seq_ex, seq_bk, seq_ct, seq_ite, fl_ok, fl_ex, fl_ite, ev_set, kSet_ev, ev_ret, ev_retN, ev_nx, ev_bk, ev_ct, ev_raise, ev_if, kIf_ev, ev_drop, kNx_ev, ev_par, kPar_ev, kId_ev, ev_asg, kAsg_ev, ev_for, kFor_ev, ev_V, dVg_ok, ev_C, ev_1, ev_2, bind2_ok, bind2_ite1, bind2_ite2, bind_ite, ev_A, ev_nil, ev_cons, kCons_ev, ev_T, toB_ev, ev_and, ev_or, ev_not, kAnd_ev, kOr_ev, kNot_ev, ev_andV, ev_orV, ev_notV, kAndV_ev, kOrV_ev, kNotV_ev, ev_ife, kIfE_ev, ev_ch, kCh, tup_ev, lst_ev, call_ev, kw_ev, ev_kw, ev_fn, startE_0, startE_s, startE_c, fin_rt, fin_nx, fin_ex, fin_ite, ix_t0, ix_t1, ix_t2, ix_t3, ix_l0, ix_l1, ix_l2, len_l, len_t1, len_t2, len_t3, len_t4, beq_self_eq_true, ev_iL, ev_iT, asL_ev, asT_ev, ev_iA, ev_P, toI_ev, ev_P0, ev_sl, kSl_ev, put_1, gAdd_i, gSub_i, gMul_i, gDiv_p, gMod_p, gPow_l, gShl_l, gShr_l, gLt_i, gLe_i, gGt_i, gGe_i, gEq_i, gNe_i, gNeg_i, gAbs_i, gInt_i, gInt_b, gEq_s, gNe_s, gEq_b, gNe_b, gEq_2, gNe_2, gEq_3, gNe_3, gEq_22, gNe_22, DL.R.bind_ok, DL.R.bind_ex, ev_setL, kSetL_ev, ev_lDisp, kDisp_ev, ev_lList, lOf_l, lOf_t, ev_frz, frz_l, frz_d, frz_n, ev_lend, lend_l, lend_d, atom_i, atom_b, atom_s, ev_lendB, lendB_l, lendB_d, ev_app, app_l, kApp_ev, ev_put, put_l, ev_ixO, ixO_l, ixO_d, put_m, putAll_c, putAll_n, ev_lc, kLst_ev, ev_lcL, wipe_n, wipe_c, r1_2, r1_3, bits_ev, List.getElem?_cons_zero, List.getElem?_cons_succ, List.set_cons_zero, List.set_cons_succ, List.length_cons, List.length_nil, List.length_map, List.append_nil, List.cons_append, List.nil_append, ev_if, turn_nx, turn_ct, turn_bk, turn_rt, turn_ite, kWh_ev, isi_int_int, isi_bool_int, isi_int_bool, isi_bool_bool, isi_int_str, isi_int_none, isi_int_list, isi_int_tup, isi_bool_str, isi_bool_none, isi_bool_list, isi_bool_tup, isi_tup_tup, isi_tup_int, isi_tup_bool, isi_tup_str, isi_tup_none, isi_tup_list, isi_list_list, isi_list_tup, isi_list_int, isi_list_bool, isi_list_str, isi_list_none, isi_str_str, isi_str_int, isi_str_bool, isi_str_none, isi_str_list, isi_str_tup, decide_true, decide_false, not_true_eq_false, not_false_eq_true, ne_eq, decide_eq_true_eq, Bool.not_eq_true', decide_eq_false_iff_not, Bool.not_true, Bool.not_false, Bool.false_eq_true, if_true, if_false, reduceIte, i1, h1, h3, e]
instance bd_qA {x y : Rat} {n m n' m' : Nat} [BR x n m] [BR y n' m'] : Bd (qA x y) (n + m') := bd_lA
instance bd_qB {x y : Rat} {n m n' m' : Nat} [BR x n m] [BR y n' m'] : Bd (qB x y) (n' + m) := bd_lB
instance bd_qN {x y : Rat} {n m n' m' : Nat} [BR x n m] [BR y n' m'] : Bd (qN x y) (m + m') := bd_lN
theorem parts_ln (x y : Rat) {n m n' m' : Nat} [BR x n m] [BR y n' m'] (h : m + m' ≤ 9000) : m_parts [lnD x y] = .ok (.tuple [frD x, frD y]) := by
  have hn : qN x y ≠ 0 := by have := qN_pos x y; omega
  have e := parts_eq (qA x y) (qB x y) (qN x y) hn h
  have q := q_parts x y
  rw [q.1, q.2.1, q.2.2.1, q.2.2.2] at e
  exact e
theorem by_parts_ln (x y : Rat) {n m n' m' : Nat} [BR x n m] [BR y n' m'] (h : m + m' ≤ 9000) (h1 : n ≤ 60000000) (h2 : n' ≤ 60000000) : m_by_parts [frD x, frD y] = .ok (lnD x y) := by
  have i1 : n + m' ≤ 134217728 := by omega
  have i2 : n' + m ≤ 134217728 := by omega
  have i3 : m + m' ≤ 134217728 := by omega
  simp +decide only [m_by_parts, den_by_parts, ev_seq, seq_nx, seq_rt, seq_ex, seq_bk, seq_ct, seq_ite, fl_ok, fl_ex, fl_ite, ev_set, kSet_ev, ev_ret, ev_retN, ev_nx, ev_bk, ev_ct, ev_raise, ev_if, kIf_ev, ev_drop, kNx_ev, ev_par, kPar_ev, kId_ev, ev_asg, kAsg_ev, ev_for, kFor_ev, ev_V, dVg_ok, ev_C, ev_1, ev_2, bind2_ok, bind2_ite1, bind2_ite2, bind_ite, ev_A, ev_nil, ev_cons, kCons_ev, ev_T, toB_ev, ev_and, ev_or, ev_not, kAnd_ev, kOr_ev, kNot_ev, ev_andV, ev_orV, ev_notV, kAndV_ev, kOrV_ev, kNotV_ev, ev_ife, kIfE_ev, ev_ch, kCh, tup_ev, lst_ev, call_ev, kw_ev, ev_kw, ev_fn, startE_0, startE_s, startE_c, fin_rt, fin_nx, fin_ex, fin_ite, ix_t0, ix_t1, ix_t2, ix_t3, ix_l0, ix_l1, ix_l2, len_l, len_t1, len_t2, len_t3, len_t4, beq_self_eq_true, ev_iL, ev_iT, asL_ev, asT_ev, ev_iA, ev_P, toI_ev, ev_P0, ev_sl, kSl_ev, put_1, gAdd_i, gSub_i, gMul_i, gDiv_p, gMod_p, gPow_l, gShl_l, gShr_l, gLt_i, gLe_i, gGt_i, gGe_i, gEq_i, gNe_i, gNeg_i, gAbs_i, gInt_i, gInt_b, gEq_s, gNe_s, gEq_b, gNe_b, gEq_2, gNe_2, gEq_3, gNe_3, gEq_22, gNe_22, DL.R.bind_ok, DL.R.bind_ex, ev_setL, kSetL_ev, ev_lDisp, kDisp_ev, ev_lList, lOf_l, lOf_t, ev_frz, frz_l, frz_d, frz_n, ev_lend, lend_l, lend_d, atom_i, atom_b, atom_s, ev_lendB, lendB_l, lendB_d, ev_app, app_l, kApp_ev, ev_put, put_l, ev_ixO, ixO_l, ixO_d, put_m, putAll_c, putAll_n, ev_lc, kLst_ev, ev_lcL, wipe_n, wipe_c, r1_2, r1_3, bits_ev, List.getElem?_cons_zero, List.getElem?_cons_succ, List.set_cons_zero, List.set_cons_succ, List.length_cons, List.length_nil, List.length_map, List.append_nil, List.cons_append, List.nil_append, ev_if, turn_nx, turn_ct, turn_bk, turn_rt, turn_ite, kWh_ev, isi_int_int, isi_bool_int, isi_int_bool, isi_bool_bool, isi_int_str, isi_int_none, isi_int_list, isi_int_tup, isi_bool_str, isi_bool_none, isi_bool_list, isi_bool_tup, isi_tup_tup, isi_tup_int, isi_tup_bool, isi_tup_str, isi_tup_none, isi_tup_list, isi_list_list, isi_list_tup, isi_list_int, isi_list_bool, isi_list_str, isi_list_none, isi_str_str, isi_str_int, isi_str_bool, isi_str_none, isi_str_list, isi_str_tup, decide_true, decide_false, not_true_eq_false, not_false_eq_true, ne_eq, decide_eq_true_eq, Bool.not_eq_true', decide_eq_false_iff_not, Bool.not_true, Bool.not_false, Bool.false_eq_true, if_true, if_false, reduceIte, lowest_eq, qden x y, i1, i2, i3, h]
  rfl
/-! tables -/
structure Tab where
  a : Rat
  b : Rat
  c : Rat
  d : Rat
@[reducible] def tabD (t : Tab) : PD := .tuple [.tuple [frD t.a, frD t.b], .tuple [frD t.c, frD t.d]]
def Tab.add (s t : Tab) : Tab := ⟨s.a + t.a, s.b + t.b, s.c + t.c, s.d + t.d⟩
def Tab.sub (s t : Tab) : Tab := ⟨s.a - t.a, s.b - t.b, s.c - t.c, s.d - t.d⟩
def Tab.over (s : Tab) : Tab := ⟨s.a, s.c, s.b, s.d⟩
def Tab.zero : Tab := ⟨0, 0, 0, 0⟩
/-- a board: its sides' parts -/
structure Bo where
  x : Rat
  y : Rat
  u : Rat
  v : Rat
@[reducible] def boD (b : Bo) : PD := .tuple [lnD b.x b.y, lnD b.u b.v]
def Bo.tab (b : Bo) : Tab := ⟨b.x * b.u, b.x * b.v, b.y * b.u, b.y * b.v⟩
class BT (t : Tab) (n m : outParam Nat) : Prop where
  a : BR t.a n m
  b : BR t.b n m
  c : BR t.c n m
  d : BR t.d n m
class BB (t : Bo) (n m : outParam Nat) : Prop where
  x : BR t.x n m
  y : BR t.y n m
  u : BR t.u n m
  v : BR t.v n m
theorem BT.mono {t : Tab} {n m n' m' : Nat} (h : BT t n m) (e : n ≤ n') (e' : m ≤ m') : BT t n' m' := ⟨h.a.mono e e', h.b.mono e e', h.c.mono e e', h.d.mono e e'⟩
section
variable {s t : Tab} {n m n' m' : Nat} [i : BT s n m] [j : BT t n' m']
instance bt_add : BT (s.add t) (n + n' + m + m' + 1) (m + m') := ⟨@br_add _ _ _ _ _ _ i.a j.a, @br_add _ _ _ _ _ _ i.b j.b, @br_add _ _ _ _ _ _ i.c j.c, @br_add _ _ _ _ _ _ i.d j.d⟩
instance bt_sub : BT (s.sub t) (n + n' + m + m' + 1) (m + m') := ⟨@br_sub _ _ _ _ _ _ i.a j.a, @br_sub _ _ _ _ _ _ i.b j.b, @br_sub _ _ _ _ _ _ i.c j.c, @br_sub _ _ _ _ _ _ i.d j.d⟩
omit j in
instance bt_over : BT s.over n m := ⟨i.a, i.c, i.b, i.d⟩
end
instance bt_tab {b : Bo} {n m : Nat} [i : BB b n m] : BT b.tab (n + n) (m + m) := ⟨@br_mul _ _ _ _ _ _ i.x i.u, @br_mul _ _ _ _ _ _ i.x i.v, @br_mul _ _ _ _ _ _ i.y i.u, @br_mul _ _ _ _ _ _ i.y i.v⟩
instance bt_zero : BT Tab.zero 1 1 := ⟨br_zero, br_zero, br_zero, br_zero⟩
theorem zip_t {xs ys : List PD} : gZip [.tuple xs, .tuple ys] = .ok (zipD xs ys) := rfl
theorem zipD_c {x y : PD} {xs ys : List PD} : zipD (x :: xs) (y :: ys) = .tuple [x, y] :: zipD xs ys := rfl
theorem zipD_n : zipD [] [] = [] := rfl
theorem tupOf_l {ds : List PD} : gTupOf [.list ds] = .ok (.tuple ds) := rfl
theorem lcL_n {tg : Tg} {t : En → R Bool} {f : En → R PD} {ρ : En} : lcL tg t f ρ [] = .ok [] := rfl
theorem lcL_2 {i j : Nat} {x y : PD} {ds : List PD} {f : En → R PD} {ρ : En} {v : PD} {vs : List PD} (h1 : f ((ρ.set i (some (.d x))).set j (some (.d y))) = .ok v) (h2 : lcL (.many [i, j]) bYes f ρ ds = .ok vs) : lcL (.many [i, j]) bYes f ρ (.tuple [x, y] :: ds) = .ok (v :: vs) := by
  rw [lcL]
  have : Tg.put (.many [i, j]) (.tuple [x, y]) ρ = some ((ρ.set i (some (.d x))).set j (some (.d y))) := rfl
  rw [this]
  simp only [bYes, h1, h2]
theorem lcL_1 {i : Nat} {x : PD} {ds : List PD} {f : En → R PD} {ρ : En} {v : PD} {vs : List PD} (h1 : f (ρ.set i (some (.d x))) = .ok v) (h2 : lcL (.one i) bYes f ρ ds = .ok vs) : lcL (.one i) bYes f ρ (x :: ds) = .ok (v :: vs) := by
  rw [lcL]
  have : Tg.put (.one i) x ρ = some (ρ.set i (some (.d x))) := rfl
  rw [this]
  simp only [bYes, h1, h2]
theorem together_eq (s t : Tab) {n m n' m' : Nat} [i : BT s n m] [j : BT t n' m'] (h : m + m' ≤ 9000) (h1 : n ≤ 60000000) (h2 : n' ≤ 60000000) : m_together [tabD s, tabD t] = .ok (tabD (s.add t)) := by
  have e1 := @plus_fr s.a t.a n m n' m' i.a j.a h h1 h2
  have e2 := @plus_fr s.b t.b n m n' m' i.b j.b h h1 h2
  have e3 := @plus_fr s.c t.c n m n' m' i.c j.c h h1 h2
  have e4 := @plus_fr s.d t.d n m n' m' i.d j.d h h1 h2
  have row : ∀ (o1 o2 : PD) (p q r u : PD) (v w : PD) (x2 x3 x4 x5 : Option SV), m_plus [p, r] = .ok v → m_plus [q, u] = .ok w → le2_together [some (.d o1), some (.d o2), x2, x3, some (.d (.tuple [p, q])), some (.d (.tuple [r, u]))] = .ok (.tuple [v, w]) := by
    intro o1 o2 p q r u v w x2 x3 x4 x5 h1 h2
    have L : lcL (.many [2, 3]) bYes le1_together [some (.d o1), some (.d o2), none, none, some (.d (.tuple [p, q])), some (.d (.tuple [r, u]))] [.tuple [p, r], .tuple [q, u]] = .ok [v, w] :=
      lcL_2 (by simp +decide only [le1_together, ev_seq, seq_nx, seq_rt, seq_ex, seq_bk, seq_ct, seq_ite, fl_ok, fl_ex, fl_ite, ev_set, kSet_ev, ev_ret, ev_retN, ev_nx, ev_bk, ev_ct, ev_raise, ev_if, kIf_ev, ev_drop, kNx_ev, ev_par, kPar_ev, kId_ev, ev_asg, kAsg_ev, ev_for, kFor_ev, ev_V, dVg_ok, ev_C, ev_1, ev_2, bind2_ok, bind2_ite1, bind2_ite2, bind_ite, ev_A, ev_nil, ev_cons, kCons_ev, ev_T, toB_ev, ev_and, ev_or, ev_not, kAnd_ev, kOr_ev, kNot_ev, ev_andV, ev_orV, ev_notV, kAndV_ev, kOrV_ev, kNotV_ev, ev_ife, kIfE_ev, ev_ch, kCh, tup_ev, lst_ev, call_ev, kw_ev, ev_kw, ev_fn, startE_0, startE_s, startE_c, fin_rt, fin_nx, fin_ex, fin_ite, ix_t0, ix_t1, ix_t2, ix_t3, ix_l0, ix_l1, ix_l2, len_l, len_t1, len_t2, len_t3, len_t4, beq_self_eq_true, ev_iL, ev_iT, asL_ev, asT_ev, ev_iA, ev_P, toI_ev, ev_P0, ev_sl, kSl_ev, put_1, gAdd_i, gSub_i, gMul_i, gDiv_p, gMod_p, gPow_l, gShl_l, gShr_l, gLt_i, gLe_i, gGt_i, gGe_i, gEq_i, gNe_i, gNeg_i, gAbs_i, gInt_i, gInt_b, gEq_s, gNe_s, gEq_b, gNe_b, gEq_2, gNe_2, gEq_3, gNe_3, gEq_22, gNe_22, DL.R.bind_ok, DL.R.bind_ex, ev_setL, kSetL_ev, ev_lDisp, kDisp_ev, ev_lList, lOf_l, lOf_t, ev_frz, frz_l, frz_d, frz_n, ev_lend, lend_l, lend_d, atom_i, atom_b, atom_s, ev_lendB, lendB_l, lendB_d, ev_app, app_l, kApp_ev, ev_put, put_l, ev_ixO, ixO_l, ixO_d, put_m, putAll_c, putAll_n, ev_lc, kLst_ev, ev_lcL, wipe_n, wipe_c, r1_2, r1_3, bits_ev, List.getElem?_cons_zero, List.getElem?_cons_succ, List.set_cons_zero, List.set_cons_succ, List.length_cons, List.length_nil, List.length_map, List.append_nil, List.cons_append, List.nil_append, ev_if, turn_nx, turn_ct, turn_bk, turn_rt, turn_ite, kWh_ev, isi_int_int, isi_bool_int, isi_int_bool, isi_bool_bool, isi_int_str, isi_int_none, isi_int_list, isi_int_tup, isi_bool_str, isi_bool_none, isi_bool_list, isi_bool_tup, isi_tup_tup, isi_tup_int, isi_tup_bool, isi_tup_str, isi_tup_none, isi_tup_list, isi_list_list, isi_list_tup, isi_list_int, isi_list_bool, isi_list_str, isi_list_none, isi_str_str, isi_str_int, isi_str_bool, isi_str_none, isi_str_list, isi_str_tup, decide_true, decide_false, not_true_eq_false, not_false_eq_true, ne_eq, decide_eq_true_eq, Bool.not_eq_true', decide_eq_false_iff_not, Bool.not_true, Bool.not_false, Bool.false_eq_true, if_true, if_false, reduceIte, h1]) (lcL_2 (by simp +decide only [le1_together, ev_seq, seq_nx, seq_rt, seq_ex, seq_bk, seq_ct, seq_ite, fl_ok, fl_ex, fl_ite, ev_set, kSet_ev, ev_ret, ev_retN, ev_nx, ev_bk, ev_ct, ev_raise, ev_if, kIf_ev, ev_drop, kNx_ev, ev_par, kPar_ev, kId_ev, ev_asg, kAsg_ev, ev_for, kFor_ev, ev_V, dVg_ok, ev_C, ev_1, ev_2, bind2_ok, bind2_ite1, bind2_ite2, bind_ite, ev_A, ev_nil, ev_cons, kCons_ev, ev_T, toB_ev, ev_and, ev_or, ev_not, kAnd_ev, kOr_ev, kNot_ev, ev_andV, ev_orV, ev_notV, kAndV_ev, kOrV_ev, kNotV_ev, ev_ife, kIfE_ev, ev_ch, kCh, tup_ev, lst_ev, call_ev, kw_ev, ev_kw, ev_fn, startE_0, startE_s, startE_c, fin_rt, fin_nx, fin_ex, fin_ite, ix_t0, ix_t1, ix_t2, ix_t3, ix_l0, ix_l1, ix_l2, len_l, len_t1, len_t2, len_t3, len_t4, beq_self_eq_true, ev_iL, ev_iT, asL_ev, asT_ev, ev_iA, ev_P, toI_ev, ev_P0, ev_sl, kSl_ev, put_1, gAdd_i, gSub_i, gMul_i, gDiv_p, gMod_p, gPow_l, gShl_l, gShr_l, gLt_i, gLe_i, gGt_i, gGe_i, gEq_i, gNe_i, gNeg_i, gAbs_i, gInt_i, gInt_b, gEq_s, gNe_s, gEq_b, gNe_b, gEq_2, gNe_2, gEq_3, gNe_3, gEq_22, gNe_22, DL.R.bind_ok, DL.R.bind_ex, ev_setL, kSetL_ev, ev_lDisp, kDisp_ev, ev_lList, lOf_l, lOf_t, ev_frz, frz_l, frz_d, frz_n, ev_lend, lend_l, lend_d, atom_i, atom_b, atom_s, ev_lendB, lendB_l, lendB_d, ev_app, app_l, kApp_ev, ev_put, put_l, ev_ixO, ixO_l, ixO_d, put_m, putAll_c, putAll_n, ev_lc, kLst_ev, ev_lcL, wipe_n, wipe_c, r1_2, r1_3, bits_ev, List.getElem?_cons_zero, List.getElem?_cons_succ, List.set_cons_zero, List.set_cons_succ, List.length_cons, List.length_nil, List.length_map, List.append_nil, List.cons_append, List.nil_append, ev_if, turn_nx, turn_ct, turn_bk, turn_rt, turn_ite, kWh_ev, isi_int_int, isi_bool_int, isi_int_bool, isi_bool_bool, isi_int_str, isi_int_none, isi_int_list, isi_int_tup, isi_bool_str, isi_bool_none, isi_bool_list, isi_bool_tup, isi_tup_tup, isi_tup_int, isi_tup_bool, isi_tup_str, isi_tup_none, isi_tup_list, isi_list_list, isi_list_tup, isi_list_int, isi_list_bool, isi_list_str, isi_list_none, isi_str_str, isi_str_int, isi_str_bool, isi_str_none, isi_str_list, isi_str_tup, decide_true, decide_false, not_true_eq_false, not_false_eq_true, ne_eq, decide_eq_true_eq, Bool.not_eq_true', decide_eq_false_iff_not, Bool.not_true, Bool.not_false, Bool.false_eq_true, if_true, if_false, reduceIte, h2]) lcL_n)
    simp +decide only [le2_together, ev_seq, seq_nx, seq_rt, seq_ex, seq_bk, seq_ct, seq_ite, fl_ok, fl_ex, fl_ite, ev_set, kSet_ev, ev_ret, ev_retN, ev_nx, ev_bk, ev_ct, ev_raise, ev_if, kIf_ev, ev_drop, kNx_ev, ev_par, kPar_ev, kId_ev, ev_asg, kAsg_ev, ev_for, kFor_ev, ev_V, dVg_ok, ev_C, ev_1, ev_2, bind2_ok, bind2_ite1, bind2_ite2, bind_ite, ev_A, ev_nil, ev_cons, kCons_ev, ev_T, toB_ev, ev_and, ev_or, ev_not, kAnd_ev, kOr_ev, kNot_ev, ev_andV, ev_orV, ev_notV, kAndV_ev, kOrV_ev, kNotV_ev, ev_ife, kIfE_ev, ev_ch, kCh, tup_ev, lst_ev, call_ev, kw_ev, ev_kw, ev_fn, startE_0, startE_s, startE_c, fin_rt, fin_nx, fin_ex, fin_ite, ix_t0, ix_t1, ix_t2, ix_t3, ix_l0, ix_l1, ix_l2, len_l, len_t1, len_t2, len_t3, len_t4, beq_self_eq_true, ev_iL, ev_iT, asL_ev, asT_ev, ev_iA, ev_P, toI_ev, ev_P0, ev_sl, kSl_ev, put_1, gAdd_i, gSub_i, gMul_i, gDiv_p, gMod_p, gPow_l, gShl_l, gShr_l, gLt_i, gLe_i, gGt_i, gGe_i, gEq_i, gNe_i, gNeg_i, gAbs_i, gInt_i, gInt_b, gEq_s, gNe_s, gEq_b, gNe_b, gEq_2, gNe_2, gEq_3, gNe_3, gEq_22, gNe_22, DL.R.bind_ok, DL.R.bind_ex, ev_setL, kSetL_ev, ev_lDisp, kDisp_ev, ev_lList, lOf_l, lOf_t, ev_frz, frz_l, frz_d, frz_n, ev_lend, lend_l, lend_d, atom_i, atom_b, atom_s, ev_lendB, lendB_l, lendB_d, ev_app, app_l, kApp_ev, ev_put, put_l, ev_ixO, ixO_l, ixO_d, put_m, putAll_c, putAll_n, ev_lc, kLst_ev, ev_lcL, wipe_n, wipe_c, r1_2, r1_3, bits_ev, List.getElem?_cons_zero, List.getElem?_cons_succ, List.set_cons_zero, List.set_cons_succ, List.length_cons, List.length_nil, List.length_map, List.append_nil, List.cons_append, List.nil_append, ev_if, turn_nx, turn_ct, turn_bk, turn_rt, turn_ite, kWh_ev, isi_int_int, isi_bool_int, isi_int_bool, isi_bool_bool, isi_int_str, isi_int_none, isi_int_list, isi_int_tup, isi_bool_str, isi_bool_none, isi_bool_list, isi_bool_tup, isi_tup_tup, isi_tup_int, isi_tup_bool, isi_tup_str, isi_tup_none, isi_tup_list, isi_list_list, isi_list_tup, isi_list_int, isi_list_bool, isi_list_str, isi_list_none, isi_str_str, isi_str_int, isi_str_bool, isi_str_none, isi_str_list, isi_str_tup, decide_true, decide_false, not_true_eq_false, not_false_eq_true, ne_eq, decide_eq_true_eq, Bool.not_eq_true', decide_eq_false_iff_not, Bool.not_true, Bool.not_false, Bool.false_eq_true, if_true, if_false, reduceIte, zip_t, zipD_c, zipD_n, kLcL_ev, L, tupOf_l]
  have L : lcL (.many [4, 5]) bYes le2_together [some (.d (tabD s)), some (.d (tabD t)), none, none, none, none] [.tuple [.tuple [frD s.a, frD s.b], .tuple [frD t.a, frD t.b]], .tuple [.tuple [frD s.c, frD s.d], .tuple [frD t.c, frD t.d]]] = .ok [.tuple [frD (s.a + t.a), frD (s.b + t.b)], .tuple [frD (s.c + t.c), frD (s.d + t.d)]] :=
    lcL_2 (row _ _ _ _ _ _ _ _ _ _ none none e1 e2) (lcL_2 (row _ _ _ _ _ _ _ _ _ _ none none e3 e4) lcL_n)
  simp +decide only [m_together, den_together, ev_seq, seq_nx, seq_rt, seq_ex, seq_bk, seq_ct, seq_ite, fl_ok, fl_ex, fl_ite, ev_set, kSet_ev, ev_ret, ev_retN, ev_nx, ev_bk, ev_ct, ev_raise, ev_if, kIf_ev, ev_drop, kNx_ev, ev_par, kPar_ev, kId_ev, ev_asg, kAsg_ev, ev_for, kFor_ev, ev_V, dVg_ok, ev_C, ev_1, ev_2, bind2_ok, bind2_ite1, bind2_ite2, bind_ite, ev_A, ev_nil, ev_cons, kCons_ev, ev_T, toB_ev, ev_and, ev_or, ev_not, kAnd_ev, kOr_ev, kNot_ev, ev_andV, ev_orV, ev_notV, kAndV_ev, kOrV_ev, kNotV_ev, ev_ife, kIfE_ev, ev_ch, kCh, tup_ev, lst_ev, call_ev, kw_ev, ev_kw, ev_fn, startE_0, startE_s, startE_c, fin_rt, fin_nx, fin_ex, fin_ite, ix_t0, ix_t1, ix_t2, ix_t3, ix_l0, ix_l1, ix_l2, len_l, len_t1, len_t2, len_t3, len_t4, beq_self_eq_true, ev_iL, ev_iT, asL_ev, asT_ev, ev_iA, ev_P, toI_ev, ev_P0, ev_sl, kSl_ev, put_1, gAdd_i, gSub_i, gMul_i, gDiv_p, gMod_p, gPow_l, gShl_l, gShr_l, gLt_i, gLe_i, gGt_i, gGe_i, gEq_i, gNe_i, gNeg_i, gAbs_i, gInt_i, gInt_b, gEq_s, gNe_s, gEq_b, gNe_b, gEq_2, gNe_2, gEq_3, gNe_3, gEq_22, gNe_22, DL.R.bind_ok, DL.R.bind_ex, ev_setL, kSetL_ev, ev_lDisp, kDisp_ev, ev_lList, lOf_l, lOf_t, ev_frz, frz_l, frz_d, frz_n, ev_lend, lend_l, lend_d, atom_i, atom_b, atom_s, ev_lendB, lendB_l, lendB_d, ev_app, app_l, kApp_ev, ev_put, put_l, ev_ixO, ixO_l, ixO_d, put_m, putAll_c, putAll_n, ev_lc, kLst_ev, ev_lcL, wipe_n, wipe_c, r1_2, r1_3, bits_ev, List.getElem?_cons_zero, List.getElem?_cons_succ, List.set_cons_zero, List.set_cons_succ, List.length_cons, List.length_nil, List.length_map, List.append_nil, List.cons_append, List.nil_append, ev_if, turn_nx, turn_ct, turn_bk, turn_rt, turn_ite, kWh_ev, isi_int_int, isi_bool_int, isi_int_bool, isi_bool_bool, isi_int_str, isi_int_none, isi_int_list, isi_int_tup, isi_bool_str, isi_bool_none, isi_bool_list, isi_bool_tup, isi_tup_tup, isi_tup_int, isi_tup_bool, isi_tup_str, isi_tup_none, isi_tup_list, isi_list_list, isi_list_tup, isi_list_int, isi_list_bool, isi_list_str, isi_list_none, isi_str_str, isi_str_int, isi_str_bool, isi_str_none, isi_str_list, isi_str_tup, decide_true, decide_false, not_true_eq_false, not_false_eq_true, ne_eq, decide_eq_true_eq, Bool.not_eq_true', decide_eq_false_iff_not, Bool.not_true, Bool.not_false, Bool.false_eq_true, if_true, if_false, reduceIte, zip_t, zipD_c, zipD_n, kLcL_ev, L, tupOf_l]
  rfl
theorem less_eq (s t : Tab) {n m n' m' : Nat} [i : BT s n m] [j : BT t n' m'] (h : m + m' ≤ 9000) (h1 : n ≤ 60000000) (h2 : n' ≤ 60000000) : m_less [tabD s, tabD t] = .ok (tabD (s.sub t)) := by
  have e1 := @minus_fr s.a t.a n m n' m' i.a j.a h h1 h2
  have e2 := @minus_fr s.b t.b n m n' m' i.b j.b h h1 h2
  have e3 := @minus_fr s.c t.c n m n' m' i.c j.c h h1 h2
  have e4 := @minus_fr s.d t.d n m n' m' i.d j.d h h1 h2
  have row : ∀ (o1 o2 : PD) (p q r u : PD) (v w : PD) (x2 x3 x4 x5 : Option SV), m_minus [p, r] = .ok v → m_minus [q, u] = .ok w → le2_less [some (.d o1), some (.d o2), x2, x3, some (.d (.tuple [p, q])), some (.d (.tuple [r, u]))] = .ok (.tuple [v, w]) := by
    intro o1 o2 p q r u v w x2 x3 x4 x5 h1 h2
    have L : lcL (.many [2, 3]) bYes le1_less [some (.d o1), some (.d o2), none, none, some (.d (.tuple [p, q])), some (.d (.tuple [r, u]))] [.tuple [p, r], .tuple [q, u]] = .ok [v, w] :=
      lcL_2 (by simp +decide only [le1_less, ev_seq, seq_nx, seq_rt, seq_ex, seq_bk, seq_ct, seq_ite, fl_ok, fl_ex, fl_ite, ev_set, kSet_ev, ev_ret, ev_retN, ev_nx, ev_bk, ev_ct, ev_raise, ev_if, kIf_ev, ev_drop, kNx_ev, ev_par, kPar_ev, kId_ev, ev_asg, kAsg_ev, ev_for, kFor_ev, ev_V, dVg_ok, ev_C, ev_1, ev_2, bind2_ok, bind2_ite1, bind2_ite2, bind_ite, ev_A, ev_nil, ev_cons, kCons_ev, ev_T, toB_ev, ev_and, ev_or, ev_not, kAnd_ev, kOr_ev, kNot_ev, ev_andV, ev_orV, ev_notV, kAndV_ev, kOrV_ev, kNotV_ev, ev_ife, kIfE_ev, ev_ch, kCh, tup_ev, lst_ev, call_ev, kw_ev, ev_kw, ev_fn, startE_0, startE_s, startE_c, fin_rt, fin_nx, fin_ex, fin_ite, ix_t0, ix_t1, ix_t2, ix_t3, ix_l0, ix_l1, ix_l2, len_l, len_t1, len_t2, len_t3, len_t4, beq_self_eq_true, ev_iL, ev_iT, asL_ev, asT_ev, ev_iA, ev_P, toI_ev, ev_P0, ev_sl, kSl_ev, put_1, gAdd_i, gSub_i, gMul_i, gDiv_p, gMod_p, gPow_l, gShl_l, gShr_l, gLt_i, gLe_i, gGt_i, gGe_i, gEq_i, gNe_i, gNeg_i, gAbs_i, gInt_i, gInt_b, gEq_s, gNe_s, gEq_b, gNe_b, gEq_2, gNe_2, gEq_3, gNe_3, gEq_22, gNe_22, DL.R.bind_ok, DL.R.bind_ex, ev_setL, kSetL_ev, ev_lDisp, kDisp_ev, ev_lList, lOf_l, lOf_t, ev_frz, frz_l, frz_d, frz_n, ev_lend, lend_l, lend_d, atom_i, atom_b, atom_s, ev_lendB, lendB_l, lendB_d, ev_app, app_l, kApp_ev, ev_put, put_l, ev_ixO, ixO_l, ixO_d, put_m, putAll_c, putAll_n, ev_lc, kLst_ev, ev_lcL, wipe_n, wipe_c, r1_2, r1_3, bits_ev, List.getElem?_cons_zero, List.getElem?_cons_succ, List.set_cons_zero, List.set_cons_succ, List.length_cons, List.length_nil, List.length_map, List.append_nil, List.cons_append, List.nil_append, ev_if, turn_nx, turn_ct, turn_bk, turn_rt, turn_ite, kWh_ev, isi_int_int, isi_bool_int, isi_int_bool, isi_bool_bool, isi_int_str, isi_int_none, isi_int_list, isi_int_tup, isi_bool_str, isi_bool_none, isi_bool_list, isi_bool_tup, isi_tup_tup, isi_tup_int, isi_tup_bool, isi_tup_str, isi_tup_none, isi_tup_list, isi_list_list, isi_list_tup, isi_list_int, isi_list_bool, isi_list_str, isi_list_none, isi_str_str, isi_str_int, isi_str_bool, isi_str_none, isi_str_list, isi_str_tup, decide_true, decide_false, not_true_eq_false, not_false_eq_true, ne_eq, decide_eq_true_eq, Bool.not_eq_true', decide_eq_false_iff_not, Bool.not_true, Bool.not_false, Bool.false_eq_true, if_true, if_false, reduceIte, h1]) (lcL_2 (by simp +decide only [le1_less, ev_seq, seq_nx, seq_rt, seq_ex, seq_bk, seq_ct, seq_ite, fl_ok, fl_ex, fl_ite, ev_set, kSet_ev, ev_ret, ev_retN, ev_nx, ev_bk, ev_ct, ev_raise, ev_if, kIf_ev, ev_drop, kNx_ev, ev_par, kPar_ev, kId_ev, ev_asg, kAsg_ev, ev_for, kFor_ev, ev_V, dVg_ok, ev_C, ev_1, ev_2, bind2_ok, bind2_ite1, bind2_ite2, bind_ite, ev_A, ev_nil, ev_cons, kCons_ev, ev_T, toB_ev, ev_and, ev_or, ev_not, kAnd_ev, kOr_ev, kNot_ev, ev_andV, ev_orV, ev_notV, kAndV_ev, kOrV_ev, kNotV_ev, ev_ife, kIfE_ev, ev_ch, kCh, tup_ev, lst_ev, call_ev, kw_ev, ev_kw, ev_fn, startE_0, startE_s, startE_c, fin_rt, fin_nx, fin_ex, fin_ite, ix_t0, ix_t1, ix_t2, ix_t3, ix_l0, ix_l1, ix_l2, len_l, len_t1, len_t2, len_t3, len_t4, beq_self_eq_true, ev_iL, ev_iT, asL_ev, asT_ev, ev_iA, ev_P, toI_ev, ev_P0, ev_sl, kSl_ev, put_1, gAdd_i, gSub_i, gMul_i, gDiv_p, gMod_p, gPow_l, gShl_l, gShr_l, gLt_i, gLe_i, gGt_i, gGe_i, gEq_i, gNe_i, gNeg_i, gAbs_i, gInt_i, gInt_b, gEq_s, gNe_s, gEq_b, gNe_b, gEq_2, gNe_2, gEq_3, gNe_3, gEq_22, gNe_22, DL.R.bind_ok, DL.R.bind_ex, ev_setL, kSetL_ev, ev_lDisp, kDisp_ev, ev_lList, lOf_l, lOf_t, ev_frz, frz_l, frz_d, frz_n, ev_lend, lend_l, lend_d, atom_i, atom_b, atom_s, ev_lendB, lendB_l, lendB_d, ev_app, app_l, kApp_ev, ev_put, put_l, ev_ixO, ixO_l, ixO_d, put_m, putAll_c, putAll_n, ev_lc, kLst_ev, ev_lcL, wipe_n, wipe_c, r1_2, r1_3, bits_ev, List.getElem?_cons_zero, List.getElem?_cons_succ, List.set_cons_zero, List.set_cons_succ, List.length_cons, List.length_nil, List.length_map, List.append_nil, List.cons_append, List.nil_append, ev_if, turn_nx, turn_ct, turn_bk, turn_rt, turn_ite, kWh_ev, isi_int_int, isi_bool_int, isi_int_bool, isi_bool_bool, isi_int_str, isi_int_none, isi_int_list, isi_int_tup, isi_bool_str, isi_bool_none, isi_bool_list, isi_bool_tup, isi_tup_tup, isi_tup_int, isi_tup_bool, isi_tup_str, isi_tup_none, isi_tup_list, isi_list_list, isi_list_tup, isi_list_int, isi_list_bool, isi_list_str, isi_list_none, isi_str_str, isi_str_int, isi_str_bool, isi_str_none, isi_str_list, isi_str_tup, decide_true, decide_false, not_true_eq_false, not_false_eq_true, ne_eq, decide_eq_true_eq, Bool.not_eq_true', decide_eq_false_iff_not, Bool.not_true, Bool.not_false, Bool.false_eq_true, if_true, if_false, reduceIte, h2]) lcL_n)
    simp +decide only [le2_less, ev_seq, seq_nx, seq_rt, seq_ex, seq_bk, seq_ct, seq_ite, fl_ok, fl_ex, fl_ite, ev_set, kSet_ev, ev_ret, ev_retN, ev_nx, ev_bk, ev_ct, ev_raise, ev_if, kIf_ev, ev_drop, kNx_ev, ev_par, kPar_ev, kId_ev, ev_asg, kAsg_ev, ev_for, kFor_ev, ev_V, dVg_ok, ev_C, ev_1, ev_2, bind2_ok, bind2_ite1, bind2_ite2, bind_ite, ev_A, ev_nil, ev_cons, kCons_ev, ev_T, toB_ev, ev_and, ev_or, ev_not, kAnd_ev, kOr_ev, kNot_ev, ev_andV, ev_orV, ev_notV, kAndV_ev, kOrV_ev, kNotV_ev, ev_ife, kIfE_ev, ev_ch, kCh, tup_ev, lst_ev, call_ev, kw_ev, ev_kw, ev_fn, startE_0, startE_s, startE_c, fin_rt, fin_nx, fin_ex, fin_ite, ix_t0, ix_t1, ix_t2, ix_t3, ix_l0, ix_l1, ix_l2, len_l, len_t1, len_t2, len_t3, len_t4, beq_self_eq_true, ev_iL, ev_iT, asL_ev, asT_ev, ev_iA, ev_P, toI_ev, ev_P0, ev_sl, kSl_ev, put_1, gAdd_i, gSub_i, gMul_i, gDiv_p, gMod_p, gPow_l, gShl_l, gShr_l, gLt_i, gLe_i, gGt_i, gGe_i, gEq_i, gNe_i, gNeg_i, gAbs_i, gInt_i, gInt_b, gEq_s, gNe_s, gEq_b, gNe_b, gEq_2, gNe_2, gEq_3, gNe_3, gEq_22, gNe_22, DL.R.bind_ok, DL.R.bind_ex, ev_setL, kSetL_ev, ev_lDisp, kDisp_ev, ev_lList, lOf_l, lOf_t, ev_frz, frz_l, frz_d, frz_n, ev_lend, lend_l, lend_d, atom_i, atom_b, atom_s, ev_lendB, lendB_l, lendB_d, ev_app, app_l, kApp_ev, ev_put, put_l, ev_ixO, ixO_l, ixO_d, put_m, putAll_c, putAll_n, ev_lc, kLst_ev, ev_lcL, wipe_n, wipe_c, r1_2, r1_3, bits_ev, List.getElem?_cons_zero, List.getElem?_cons_succ, List.set_cons_zero, List.set_cons_succ, List.length_cons, List.length_nil, List.length_map, List.append_nil, List.cons_append, List.nil_append, ev_if, turn_nx, turn_ct, turn_bk, turn_rt, turn_ite, kWh_ev, isi_int_int, isi_bool_int, isi_int_bool, isi_bool_bool, isi_int_str, isi_int_none, isi_int_list, isi_int_tup, isi_bool_str, isi_bool_none, isi_bool_list, isi_bool_tup, isi_tup_tup, isi_tup_int, isi_tup_bool, isi_tup_str, isi_tup_none, isi_tup_list, isi_list_list, isi_list_tup, isi_list_int, isi_list_bool, isi_list_str, isi_list_none, isi_str_str, isi_str_int, isi_str_bool, isi_str_none, isi_str_list, isi_str_tup, decide_true, decide_false, not_true_eq_false, not_false_eq_true, ne_eq, decide_eq_true_eq, Bool.not_eq_true', decide_eq_false_iff_not, Bool.not_true, Bool.not_false, Bool.false_eq_true, if_true, if_false, reduceIte, zip_t, zipD_c, zipD_n, kLcL_ev, L, tupOf_l]
  have L : lcL (.many [4, 5]) bYes le2_less [some (.d (tabD s)), some (.d (tabD t)), none, none, none, none] [.tuple [.tuple [frD s.a, frD s.b], .tuple [frD t.a, frD t.b]], .tuple [.tuple [frD s.c, frD s.d], .tuple [frD t.c, frD t.d]]] = .ok [.tuple [frD (s.a - t.a), frD (s.b - t.b)], .tuple [frD (s.c - t.c), frD (s.d - t.d)]] :=
    lcL_2 (row _ _ _ _ _ _ _ _ _ _ none none e1 e2) (lcL_2 (row _ _ _ _ _ _ _ _ _ _ none none e3 e4) lcL_n)
  simp +decide only [m_less, den_less, ev_seq, seq_nx, seq_rt, seq_ex, seq_bk, seq_ct, seq_ite, fl_ok, fl_ex, fl_ite, ev_set, kSet_ev, ev_ret, ev_retN, ev_nx, ev_bk, ev_ct, ev_raise, ev_if, kIf_ev, ev_drop, kNx_ev, ev_par, kPar_ev, kId_ev, ev_asg, kAsg_ev, ev_for, kFor_ev, ev_V, dVg_ok, ev_C, ev_1, ev_2, bind2_ok, bind2_ite1, bind2_ite2, bind_ite, ev_A, ev_nil, ev_cons, kCons_ev, ev_T, toB_ev, ev_and, ev_or, ev_not, kAnd_ev, kOr_ev, kNot_ev, ev_andV, ev_orV, ev_notV, kAndV_ev, kOrV_ev, kNotV_ev, ev_ife, kIfE_ev, ev_ch, kCh, tup_ev, lst_ev, call_ev, kw_ev, ev_kw, ev_fn, startE_0, startE_s, startE_c, fin_rt, fin_nx, fin_ex, fin_ite, ix_t0, ix_t1, ix_t2, ix_t3, ix_l0, ix_l1, ix_l2, len_l, len_t1, len_t2, len_t3, len_t4, beq_self_eq_true, ev_iL, ev_iT, asL_ev, asT_ev, ev_iA, ev_P, toI_ev, ev_P0, ev_sl, kSl_ev, put_1, gAdd_i, gSub_i, gMul_i, gDiv_p, gMod_p, gPow_l, gShl_l, gShr_l, gLt_i, gLe_i, gGt_i, gGe_i, gEq_i, gNe_i, gNeg_i, gAbs_i, gInt_i, gInt_b, gEq_s, gNe_s, gEq_b, gNe_b, gEq_2, gNe_2, gEq_3, gNe_3, gEq_22, gNe_22, DL.R.bind_ok, DL.R.bind_ex, ev_setL, kSetL_ev, ev_lDisp, kDisp_ev, ev_lList, lOf_l, lOf_t, ev_frz, frz_l, frz_d, frz_n, ev_lend, lend_l, lend_d, atom_i, atom_b, atom_s, ev_lendB, lendB_l, lendB_d, ev_app, app_l, kApp_ev, ev_put, put_l, ev_ixO, ixO_l, ixO_d, put_m, putAll_c, putAll_n, ev_lc, kLst_ev, ev_lcL, wipe_n, wipe_c, r1_2, r1_3, bits_ev, List.getElem?_cons_zero, List.getElem?_cons_succ, List.set_cons_zero, List.set_cons_succ, List.length_cons, List.length_nil, List.length_map, List.append_nil, List.cons_append, List.nil_append, ev_if, turn_nx, turn_ct, turn_bk, turn_rt, turn_ite, kWh_ev, isi_int_int, isi_bool_int, isi_int_bool, isi_bool_bool, isi_int_str, isi_int_none, isi_int_list, isi_int_tup, isi_bool_str, isi_bool_none, isi_bool_list, isi_bool_tup, isi_tup_tup, isi_tup_int, isi_tup_bool, isi_tup_str, isi_tup_none, isi_tup_list, isi_list_list, isi_list_tup, isi_list_int, isi_list_bool, isi_list_str, isi_list_none, isi_str_str, isi_str_int, isi_str_bool, isi_str_none, isi_str_list, isi_str_tup, decide_true, decide_false, not_true_eq_false, not_false_eq_true, ne_eq, decide_eq_true_eq, Bool.not_eq_true', decide_eq_false_iff_not, Bool.not_true, Bool.not_false, Bool.false_eq_true, if_true, if_false, reduceIte, zip_t, zipD_c, zipD_n, kLcL_ev, L, tupOf_l]
  rfl
theorem over_eq (s : Tab) : m_over [tabD s] = .ok (tabD s.over) := by
  simp +decide only [m_over, den_over, ev_seq, seq_nx, seq_rt, seq_ex, seq_bk, seq_ct, seq_ite, fl_ok, fl_ex, fl_ite, ev_set, kSet_ev, ev_ret, ev_retN, ev_nx, ev_bk, ev_ct, ev_raise, ev_if, kIf_ev, ev_drop, kNx_ev, ev_par, kPar_ev, kId_ev, ev_asg, kAsg_ev, ev_for, kFor_ev, ev_V, dVg_ok, ev_C, ev_1, ev_2, bind2_ok, bind2_ite1, bind2_ite2, bind_ite, ev_A, ev_nil, ev_cons, kCons_ev, ev_T, toB_ev, ev_and, ev_or, ev_not, kAnd_ev, kOr_ev, kNot_ev, ev_andV, ev_orV, ev_notV, kAndV_ev, kOrV_ev, kNotV_ev, ev_ife, kIfE_ev, ev_ch, kCh, tup_ev, lst_ev, call_ev, kw_ev, ev_kw, ev_fn, startE_0, startE_s, startE_c, fin_rt, fin_nx, fin_ex, fin_ite, ix_t0, ix_t1, ix_t2, ix_t3, ix_l0, ix_l1, ix_l2, len_l, len_t1, len_t2, len_t3, len_t4, beq_self_eq_true, ev_iL, ev_iT, asL_ev, asT_ev, ev_iA, ev_P, toI_ev, ev_P0, ev_sl, kSl_ev, put_1, gAdd_i, gSub_i, gMul_i, gDiv_p, gMod_p, gPow_l, gShl_l, gShr_l, gLt_i, gLe_i, gGt_i, gGe_i, gEq_i, gNe_i, gNeg_i, gAbs_i, gInt_i, gInt_b, gEq_s, gNe_s, gEq_b, gNe_b, gEq_2, gNe_2, gEq_3, gNe_3, gEq_22, gNe_22, DL.R.bind_ok, DL.R.bind_ex, ev_setL, kSetL_ev, ev_lDisp, kDisp_ev, ev_lList, lOf_l, lOf_t, ev_frz, frz_l, frz_d, frz_n, ev_lend, lend_l, lend_d, atom_i, atom_b, atom_s, ev_lendB, lendB_l, lendB_d, ev_app, app_l, kApp_ev, ev_put, put_l, ev_ixO, ixO_l, ixO_d, put_m, putAll_c, putAll_n, ev_lc, kLst_ev, ev_lcL, wipe_n, wipe_c, r1_2, r1_3, bits_ev, List.getElem?_cons_zero, List.getElem?_cons_succ, List.set_cons_zero, List.set_cons_succ, List.length_cons, List.length_nil, List.length_map, List.append_nil, List.cons_append, List.nil_append, ev_if, turn_nx, turn_ct, turn_bk, turn_rt, turn_ite, kWh_ev, isi_int_int, isi_bool_int, isi_int_bool, isi_bool_bool, isi_int_str, isi_int_none, isi_int_list, isi_int_tup, isi_bool_str, isi_bool_none, isi_bool_list, isi_bool_tup, isi_tup_tup, isi_tup_int, isi_tup_bool, isi_tup_str, isi_tup_none, isi_tup_list, isi_list_list, isi_list_tup, isi_list_int, isi_list_bool, isi_list_str, isi_list_none, isi_str_str, isi_str_int, isi_str_bool, isi_str_none, isi_str_list, isi_str_tup, decide_true, decide_false, not_true_eq_false, not_false_eq_true, ne_eq, decide_eq_true_eq, Bool.not_eq_true', decide_eq_false_iff_not, Bool.not_true, Bool.not_false, Bool.false_eq_true, if_true, if_false, reduceIte]
  rfl
theorem table_of_eq (b : Bo) {n m : Nat} [i : BB b n m] (h : m + m ≤ 9000) (h1 : n ≤ 60000000) : m_table_of [lnD b.x b.y, lnD b.u b.v] = .ok (tabD b.tab) := by
  have p1 := @parts_ln b.x b.y n m n m i.x i.y h
  have p2 := @parts_ln b.u b.v n m n m i.u i.v h
  have e1 := @times_fr b.x b.u n m n m i.x i.u h h1 h1
  have e2 := @times_fr b.x b.v n m n m i.x i.v h h1 h1
  have e3 := @times_fr b.y b.u n m n m i.y i.u h h1 h1
  have e4 := @times_fr b.y b.v n m n m i.y i.v h h1 h1
  have row : ∀ (p : Rat) (v w : PD) (x2 : Option SV), m_times [frD p, frD b.u] = .ok v → m_times [frD p, frD b.v] = .ok w → le2_table_of [some (.d (lnD b.x b.y)), some (.d (lnD b.u b.v)), x2, some (.d (frD p))] = .ok (.tuple [v, w]) := by
    intro p v w x2 h1 h2
    have L : lcL (.one 2) bYes le1_table_of [some (.d (lnD b.x b.y)), some (.d (lnD b.u b.v)), none, some (.d (frD p))] [frD b.u, frD b.v] = .ok [v, w] :=
      lcL_1 (by simp +decide only [le1_table_of, ev_seq, seq_nx, seq_rt, seq_ex, seq_bk, seq_ct, seq_ite, fl_ok, fl_ex, fl_ite, ev_set, kSet_ev, ev_ret, ev_retN, ev_nx, ev_bk, ev_ct, ev_raise, ev_if, kIf_ev, ev_drop, kNx_ev, ev_par, kPar_ev, kId_ev, ev_asg, kAsg_ev, ev_for, kFor_ev, ev_V, dVg_ok, ev_C, ev_1, ev_2, bind2_ok, bind2_ite1, bind2_ite2, bind_ite, ev_A, ev_nil, ev_cons, kCons_ev, ev_T, toB_ev, ev_and, ev_or, ev_not, kAnd_ev, kOr_ev, kNot_ev, ev_andV, ev_orV, ev_notV, kAndV_ev, kOrV_ev, kNotV_ev, ev_ife, kIfE_ev, ev_ch, kCh, tup_ev, lst_ev, call_ev, kw_ev, ev_kw, ev_fn, startE_0, startE_s, startE_c, fin_rt, fin_nx, fin_ex, fin_ite, ix_t0, ix_t1, ix_t2, ix_t3, ix_l0, ix_l1, ix_l2, len_l, len_t1, len_t2, len_t3, len_t4, beq_self_eq_true, ev_iL, ev_iT, asL_ev, asT_ev, ev_iA, ev_P, toI_ev, ev_P0, ev_sl, kSl_ev, put_1, gAdd_i, gSub_i, gMul_i, gDiv_p, gMod_p, gPow_l, gShl_l, gShr_l, gLt_i, gLe_i, gGt_i, gGe_i, gEq_i, gNe_i, gNeg_i, gAbs_i, gInt_i, gInt_b, gEq_s, gNe_s, gEq_b, gNe_b, gEq_2, gNe_2, gEq_3, gNe_3, gEq_22, gNe_22, DL.R.bind_ok, DL.R.bind_ex, ev_setL, kSetL_ev, ev_lDisp, kDisp_ev, ev_lList, lOf_l, lOf_t, ev_frz, frz_l, frz_d, frz_n, ev_lend, lend_l, lend_d, atom_i, atom_b, atom_s, ev_lendB, lendB_l, lendB_d, ev_app, app_l, kApp_ev, ev_put, put_l, ev_ixO, ixO_l, ixO_d, put_m, putAll_c, putAll_n, ev_lc, kLst_ev, ev_lcL, wipe_n, wipe_c, r1_2, r1_3, bits_ev, List.getElem?_cons_zero, List.getElem?_cons_succ, List.set_cons_zero, List.set_cons_succ, List.length_cons, List.length_nil, List.length_map, List.append_nil, List.cons_append, List.nil_append, ev_if, turn_nx, turn_ct, turn_bk, turn_rt, turn_ite, kWh_ev, isi_int_int, isi_bool_int, isi_int_bool, isi_bool_bool, isi_int_str, isi_int_none, isi_int_list, isi_int_tup, isi_bool_str, isi_bool_none, isi_bool_list, isi_bool_tup, isi_tup_tup, isi_tup_int, isi_tup_bool, isi_tup_str, isi_tup_none, isi_tup_list, isi_list_list, isi_list_tup, isi_list_int, isi_list_bool, isi_list_str, isi_list_none, isi_str_str, isi_str_int, isi_str_bool, isi_str_none, isi_str_list, isi_str_tup, decide_true, decide_false, not_true_eq_false, not_false_eq_true, ne_eq, decide_eq_true_eq, Bool.not_eq_true', decide_eq_false_iff_not, Bool.not_true, Bool.not_false, Bool.false_eq_true, if_true, if_false, reduceIte, h1]) (lcL_1 (by simp +decide only [le1_table_of, ev_seq, seq_nx, seq_rt, seq_ex, seq_bk, seq_ct, seq_ite, fl_ok, fl_ex, fl_ite, ev_set, kSet_ev, ev_ret, ev_retN, ev_nx, ev_bk, ev_ct, ev_raise, ev_if, kIf_ev, ev_drop, kNx_ev, ev_par, kPar_ev, kId_ev, ev_asg, kAsg_ev, ev_for, kFor_ev, ev_V, dVg_ok, ev_C, ev_1, ev_2, bind2_ok, bind2_ite1, bind2_ite2, bind_ite, ev_A, ev_nil, ev_cons, kCons_ev, ev_T, toB_ev, ev_and, ev_or, ev_not, kAnd_ev, kOr_ev, kNot_ev, ev_andV, ev_orV, ev_notV, kAndV_ev, kOrV_ev, kNotV_ev, ev_ife, kIfE_ev, ev_ch, kCh, tup_ev, lst_ev, call_ev, kw_ev, ev_kw, ev_fn, startE_0, startE_s, startE_c, fin_rt, fin_nx, fin_ex, fin_ite, ix_t0, ix_t1, ix_t2, ix_t3, ix_l0, ix_l1, ix_l2, len_l, len_t1, len_t2, len_t3, len_t4, beq_self_eq_true, ev_iL, ev_iT, asL_ev, asT_ev, ev_iA, ev_P, toI_ev, ev_P0, ev_sl, kSl_ev, put_1, gAdd_i, gSub_i, gMul_i, gDiv_p, gMod_p, gPow_l, gShl_l, gShr_l, gLt_i, gLe_i, gGt_i, gGe_i, gEq_i, gNe_i, gNeg_i, gAbs_i, gInt_i, gInt_b, gEq_s, gNe_s, gEq_b, gNe_b, gEq_2, gNe_2, gEq_3, gNe_3, gEq_22, gNe_22, DL.R.bind_ok, DL.R.bind_ex, ev_setL, kSetL_ev, ev_lDisp, kDisp_ev, ev_lList, lOf_l, lOf_t, ev_frz, frz_l, frz_d, frz_n, ev_lend, lend_l, lend_d, atom_i, atom_b, atom_s, ev_lendB, lendB_l, lendB_d, ev_app, app_l, kApp_ev, ev_put, put_l, ev_ixO, ixO_l, ixO_d, put_m, putAll_c, putAll_n, ev_lc, kLst_ev, ev_lcL, wipe_n, wipe_c, r1_2, r1_3, bits_ev, List.getElem?_cons_zero, List.getElem?_cons_succ, List.set_cons_zero, List.set_cons_succ, List.length_cons, List.length_nil, List.length_map, List.append_nil, List.cons_append, List.nil_append, ev_if, turn_nx, turn_ct, turn_bk, turn_rt, turn_ite, kWh_ev, isi_int_int, isi_bool_int, isi_int_bool, isi_bool_bool, isi_int_str, isi_int_none, isi_int_list, isi_int_tup, isi_bool_str, isi_bool_none, isi_bool_list, isi_bool_tup, isi_tup_tup, isi_tup_int, isi_tup_bool, isi_tup_str, isi_tup_none, isi_tup_list, isi_list_list, isi_list_tup, isi_list_int, isi_list_bool, isi_list_str, isi_list_none, isi_str_str, isi_str_int, isi_str_bool, isi_str_none, isi_str_list, isi_str_tup, decide_true, decide_false, not_true_eq_false, not_false_eq_true, ne_eq, decide_eq_true_eq, Bool.not_eq_true', decide_eq_false_iff_not, Bool.not_true, Bool.not_false, Bool.false_eq_true, if_true, if_false, reduceIte, h2]) lcL_n)
    simp +decide only [le2_table_of, ev_seq, seq_nx, seq_rt, seq_ex, seq_bk, seq_ct, seq_ite, fl_ok, fl_ex, fl_ite, ev_set, kSet_ev, ev_ret, ev_retN, ev_nx, ev_bk, ev_ct, ev_raise, ev_if, kIf_ev, ev_drop, kNx_ev, ev_par, kPar_ev, kId_ev, ev_asg, kAsg_ev, ev_for, kFor_ev, ev_V, dVg_ok, ev_C, ev_1, ev_2, bind2_ok, bind2_ite1, bind2_ite2, bind_ite, ev_A, ev_nil, ev_cons, kCons_ev, ev_T, toB_ev, ev_and, ev_or, ev_not, kAnd_ev, kOr_ev, kNot_ev, ev_andV, ev_orV, ev_notV, kAndV_ev, kOrV_ev, kNotV_ev, ev_ife, kIfE_ev, ev_ch, kCh, tup_ev, lst_ev, call_ev, kw_ev, ev_kw, ev_fn, startE_0, startE_s, startE_c, fin_rt, fin_nx, fin_ex, fin_ite, ix_t0, ix_t1, ix_t2, ix_t3, ix_l0, ix_l1, ix_l2, len_l, len_t1, len_t2, len_t3, len_t4, beq_self_eq_true, ev_iL, ev_iT, asL_ev, asT_ev, ev_iA, ev_P, toI_ev, ev_P0, ev_sl, kSl_ev, put_1, gAdd_i, gSub_i, gMul_i, gDiv_p, gMod_p, gPow_l, gShl_l, gShr_l, gLt_i, gLe_i, gGt_i, gGe_i, gEq_i, gNe_i, gNeg_i, gAbs_i, gInt_i, gInt_b, gEq_s, gNe_s, gEq_b, gNe_b, gEq_2, gNe_2, gEq_3, gNe_3, gEq_22, gNe_22, DL.R.bind_ok, DL.R.bind_ex, ev_setL, kSetL_ev, ev_lDisp, kDisp_ev, ev_lList, lOf_l, lOf_t, ev_frz, frz_l, frz_d, frz_n, ev_lend, lend_l, lend_d, atom_i, atom_b, atom_s, ev_lendB, lendB_l, lendB_d, ev_app, app_l, kApp_ev, ev_put, put_l, ev_ixO, ixO_l, ixO_d, put_m, putAll_c, putAll_n, ev_lc, kLst_ev, ev_lcL, wipe_n, wipe_c, r1_2, r1_3, bits_ev, List.getElem?_cons_zero, List.getElem?_cons_succ, List.set_cons_zero, List.set_cons_succ, List.length_cons, List.length_nil, List.length_map, List.append_nil, List.cons_append, List.nil_append, ev_if, turn_nx, turn_ct, turn_bk, turn_rt, turn_ite, kWh_ev, isi_int_int, isi_bool_int, isi_int_bool, isi_bool_bool, isi_int_str, isi_int_none, isi_int_list, isi_int_tup, isi_bool_str, isi_bool_none, isi_bool_list, isi_bool_tup, isi_tup_tup, isi_tup_int, isi_tup_bool, isi_tup_str, isi_tup_none, isi_tup_list, isi_list_list, isi_list_tup, isi_list_int, isi_list_bool, isi_list_str, isi_list_none, isi_str_str, isi_str_int, isi_str_bool, isi_str_none, isi_str_list, isi_str_tup, decide_true, decide_false, not_true_eq_false, not_false_eq_true, ne_eq, decide_eq_true_eq, Bool.not_eq_true', decide_eq_false_iff_not, Bool.not_true, Bool.not_false, Bool.false_eq_true, if_true, if_false, reduceIte, p2, kLcL_ev, L, tupOf_l]
  have L : lcL (.one 3) bYes le2_table_of [some (.d (lnD b.x b.y)), some (.d (lnD b.u b.v)), none, none] [frD b.x, frD b.y] = .ok [.tuple [frD (b.x * b.u), frD (b.x * b.v)], .tuple [frD (b.y * b.u), frD (b.y * b.v)]] :=
    lcL_1 (row _ _ _ none e1 e2) (lcL_1 (row _ _ _ none e3 e4) lcL_n)
  simp +decide only [m_table_of, den_table_of, ev_seq, seq_nx, seq_rt, seq_ex, seq_bk, seq_ct, seq_ite, fl_ok, fl_ex, fl_ite, ev_set, kSet_ev, ev_ret, ev_retN, ev_nx, ev_bk, ev_ct, ev_raise, ev_if, kIf_ev, ev_drop, kNx_ev, ev_par, kPar_ev, kId_ev, ev_asg, kAsg_ev, ev_for, kFor_ev, ev_V, dVg_ok, ev_C, ev_1, ev_2, bind2_ok, bind2_ite1, bind2_ite2, bind_ite, ev_A, ev_nil, ev_cons, kCons_ev, ev_T, toB_ev, ev_and, ev_or, ev_not, kAnd_ev, kOr_ev, kNot_ev, ev_andV, ev_orV, ev_notV, kAndV_ev, kOrV_ev, kNotV_ev, ev_ife, kIfE_ev, ev_ch, kCh, tup_ev, lst_ev, call_ev, kw_ev, ev_kw, ev_fn, startE_0, startE_s, startE_c, fin_rt, fin_nx, fin_ex, fin_ite, ix_t0, ix_t1, ix_t2, ix_t3, ix_l0, ix_l1, ix_l2, len_l, len_t1, len_t2, len_t3, len_t4, beq_self_eq_true, ev_iL, ev_iT, asL_ev, asT_ev, ev_iA, ev_P, toI_ev, ev_P0, ev_sl, kSl_ev, put_1, gAdd_i, gSub_i, gMul_i, gDiv_p, gMod_p, gPow_l, gShl_l, gShr_l, gLt_i, gLe_i, gGt_i, gGe_i, gEq_i, gNe_i, gNeg_i, gAbs_i, gInt_i, gInt_b, gEq_s, gNe_s, gEq_b, gNe_b, gEq_2, gNe_2, gEq_3, gNe_3, gEq_22, gNe_22, DL.R.bind_ok, DL.R.bind_ex, ev_setL, kSetL_ev, ev_lDisp, kDisp_ev, ev_lList, lOf_l, lOf_t, ev_frz, frz_l, frz_d, frz_n, ev_lend, lend_l, lend_d, atom_i, atom_b, atom_s, ev_lendB, lendB_l, lendB_d, ev_app, app_l, kApp_ev, ev_put, put_l, ev_ixO, ixO_l, ixO_d, put_m, putAll_c, putAll_n, ev_lc, kLst_ev, ev_lcL, wipe_n, wipe_c, r1_2, r1_3, bits_ev, List.getElem?_cons_zero, List.getElem?_cons_succ, List.set_cons_zero, List.set_cons_succ, List.length_cons, List.length_nil, List.length_map, List.append_nil, List.cons_append, List.nil_append, ev_if, turn_nx, turn_ct, turn_bk, turn_rt, turn_ite, kWh_ev, isi_int_int, isi_bool_int, isi_int_bool, isi_bool_bool, isi_int_str, isi_int_none, isi_int_list, isi_int_tup, isi_bool_str, isi_bool_none, isi_bool_list, isi_bool_tup, isi_tup_tup, isi_tup_int, isi_tup_bool, isi_tup_str, isi_tup_none, isi_tup_list, isi_list_list, isi_list_tup, isi_list_int, isi_list_bool, isi_list_str, isi_list_none, isi_str_str, isi_str_int, isi_str_bool, isi_str_none, isi_str_list, isi_str_tup, decide_true, decide_false, not_true_eq_false, not_false_eq_true, ne_eq, decide_eq_true_eq, Bool.not_eq_true', decide_eq_false_iff_not, Bool.not_true, Bool.not_false, Bool.false_eq_true, if_true, if_false, reduceIte, p1, kLcL_ev, L, tupOf_l]
  rfl
/-- the table of boards -/
def tabL : Tab → List Bo → Tab
  | t, [] => t
  | t, b :: bs => tabL (t.add b.tab) bs
theorem table_loop : ∀ (bs : List Bo) (t : Tab) (n m k l : Nat) (h0 : PD) (x2 x3 : Option SV), BT t n m → (∀ b ∈ bs, BB b k l) → m + bs.length * (2 * l) ≤ 8000 → 2 * l ≤ 900 → n + bs.length * (2 * k + 8900) ≤ 50000000 → k ≤ 1000000 →
    ∃ y2 y3, sForL (.many [2, 3]) lb1_table (bs.map boD) [some (.d h0), some (.d (tabD t)), x2, x3] = .nx [some (.d h0), some (.d (tabD (tabL t bs))), y2, y3] ∧ BT (tabL t bs) (n + bs.length * (2 * k + 8900)) (m + bs.length * (2 * l))
  | [], t, n, m, k, l, h0, x2, x3, ht, _, _, _, _, _ => ⟨x2, x3, rfl, by simpa [tabL] using ht⟩
  | b :: bs, t, n, m, k, l, h0, x2, x3, ht, hb, hm, hl, hn, hk => by
    have bb := hb b List.mem_cons_self
    rw [List.length_cons, Nat.add_mul] at hm hn
    have e1 := table_of_eq b (n := k) (m := l) (by omega) (by omega)
    have e2 := together_eq t b.tab (n := n) (m := m) (n' := k + k) (m' := l + l) (by omega) (by omega) (by omega)
    have ht' : BT (t.add b.tab) (n + (2 * k + 8900)) (m + (2 * l)) := BT.mono (inferInstance : BT (t.add b.tab) (n + (k + k) + m + (l + l) + 1) (m + (l + l))) (by omega) (by omega)
    obtain ⟨y2, y3, e, h⟩ := table_loop bs (t.add b.tab) (n + (2 * k + 8900)) (m + (2 * l)) k l h0 (some (.d (lnD b.x b.y))) (some (.d (lnD b.u b.v))) ht' (fun c hc => hb c (List.mem_cons_of_mem _ hc)) (by omega) hl (by omega) hk
    refine ⟨y2, y3, ?_, ?_⟩
    · simp +decide only [List.map_cons, forL_m, ev_seq, seq_nx, seq_rt, seq_ex, seq_bk, seq_ct, seq_ite, fl_ok, fl_ex, fl_ite, ev_set, kSet_ev, ev_ret, ev_retN, ev_nx, ev_bk, ev_ct, ev_raise, ev_if, kIf_ev, ev_drop, kNx_ev, ev_par, kPar_ev, kId_ev, ev_asg, kAsg_ev, ev_for, kFor_ev, ev_V, dVg_ok, ev_C, ev_1, ev_2, bind2_ok, bind2_ite1, bind2_ite2, bind_ite, ev_A, ev_nil, ev_cons, kCons_ev, ev_T, toB_ev, ev_and, ev_or, ev_not, kAnd_ev, kOr_ev, kNot_ev, ev_andV, ev_orV, ev_notV, kAndV_ev, kOrV_ev, kNotV_ev, ev_ife, kIfE_ev, ev_ch, kCh, tup_ev, lst_ev, call_ev, kw_ev, ev_kw, ev_fn, startE_0, startE_s, startE_c, fin_rt, fin_nx, fin_ex, fin_ite, ix_t0, ix_t1, ix_t2, ix_t3, ix_l0, ix_l1, ix_l2, len_l, len_t1, len_t2, len_t3, len_t4, beq_self_eq_true, ev_iL, ev_iT, asL_ev, asT_ev, ev_iA, ev_P, toI_ev, ev_P0, ev_sl, kSl_ev, put_1, gAdd_i, gSub_i, gMul_i, gDiv_p, gMod_p, gPow_l, gShl_l, gShr_l, gLt_i, gLe_i, gGt_i, gGe_i, gEq_i, gNe_i, gNeg_i, gAbs_i, gInt_i, gInt_b, gEq_s, gNe_s, gEq_b, gNe_b, gEq_2, gNe_2, gEq_3, gNe_3, gEq_22, gNe_22, DL.R.bind_ok, DL.R.bind_ex, ev_setL, kSetL_ev, ev_lDisp, kDisp_ev, ev_lList, lOf_l, lOf_t, ev_frz, frz_l, frz_d, frz_n, ev_lend, lend_l, lend_d, atom_i, atom_b, atom_s, ev_lendB, lendB_l, lendB_d, ev_app, app_l, kApp_ev, ev_put, put_l, ev_ixO, ixO_l, ixO_d, put_m, putAll_c, putAll_n, ev_lc, kLst_ev, ev_lcL, wipe_n, wipe_c, r1_2, r1_3, bits_ev, List.getElem?_cons_zero, List.getElem?_cons_succ, List.set_cons_zero, List.set_cons_succ, List.length_cons, List.length_nil, List.length_map, List.append_nil, List.cons_append, List.nil_append, ev_if, turn_nx, turn_ct, turn_bk, turn_rt, turn_ite, kWh_ev, isi_int_int, isi_bool_int, isi_int_bool, isi_bool_bool, isi_int_str, isi_int_none, isi_int_list, isi_int_tup, isi_bool_str, isi_bool_none, isi_bool_list, isi_bool_tup, isi_tup_tup, isi_tup_int, isi_tup_bool, isi_tup_str, isi_tup_none, isi_tup_list, isi_list_list, isi_list_tup, isi_list_int, isi_list_bool, isi_list_str, isi_list_none, isi_str_str, isi_str_int, isi_str_bool, isi_str_none, isi_str_list, isi_str_tup, decide_true, decide_false, not_true_eq_false, not_false_eq_true, ne_eq, decide_eq_true_eq, Bool.not_eq_true', decide_eq_false_iff_not, Bool.not_true, Bool.not_false, Bool.false_eq_true, if_true, if_false, reduceIte]
      simp +decide only [lb1_table, ev_seq, seq_nx, seq_rt, seq_ex, seq_bk, seq_ct, seq_ite, fl_ok, fl_ex, fl_ite, ev_set, kSet_ev, ev_ret, ev_retN, ev_nx, ev_bk, ev_ct, ev_raise, ev_if, kIf_ev, ev_drop, kNx_ev, ev_par, kPar_ev, kId_ev, ev_asg, kAsg_ev, ev_for, kFor_ev, ev_V, dVg_ok, ev_C, ev_1, ev_2, bind2_ok, bind2_ite1, bind2_ite2, bind_ite, ev_A, ev_nil, ev_cons, kCons_ev, ev_T, toB_ev, ev_and, ev_or, ev_not, kAnd_ev, kOr_ev, kNot_ev, ev_andV, ev_orV, ev_notV, kAndV_ev, kOrV_ev, kNotV_ev, ev_ife, kIfE_ev, ev_ch, kCh, tup_ev, lst_ev, call_ev, kw_ev, ev_kw, ev_fn, startE_0, startE_s, startE_c, fin_rt, fin_nx, fin_ex, fin_ite, ix_t0, ix_t1, ix_t2, ix_t3, ix_l0, ix_l1, ix_l2, len_l, len_t1, len_t2, len_t3, len_t4, beq_self_eq_true, ev_iL, ev_iT, asL_ev, asT_ev, ev_iA, ev_P, toI_ev, ev_P0, ev_sl, kSl_ev, put_1, gAdd_i, gSub_i, gMul_i, gDiv_p, gMod_p, gPow_l, gShl_l, gShr_l, gLt_i, gLe_i, gGt_i, gGe_i, gEq_i, gNe_i, gNeg_i, gAbs_i, gInt_i, gInt_b, gEq_s, gNe_s, gEq_b, gNe_b, gEq_2, gNe_2, gEq_3, gNe_3, gEq_22, gNe_22, DL.R.bind_ok, DL.R.bind_ex, ev_setL, kSetL_ev, ev_lDisp, kDisp_ev, ev_lList, lOf_l, lOf_t, ev_frz, frz_l, frz_d, frz_n, ev_lend, lend_l, lend_d, atom_i, atom_b, atom_s, ev_lendB, lendB_l, lendB_d, ev_app, app_l, kApp_ev, ev_put, put_l, ev_ixO, ixO_l, ixO_d, put_m, putAll_c, putAll_n, ev_lc, kLst_ev, ev_lcL, wipe_n, wipe_c, r1_2, r1_3, bits_ev, List.getElem?_cons_zero, List.getElem?_cons_succ, List.set_cons_zero, List.set_cons_succ, List.length_cons, List.length_nil, List.length_map, List.append_nil, List.cons_append, List.nil_append, ev_if, turn_nx, turn_ct, turn_bk, turn_rt, turn_ite, kWh_ev, isi_int_int, isi_bool_int, isi_int_bool, isi_bool_bool, isi_int_str, isi_int_none, isi_int_list, isi_int_tup, isi_bool_str, isi_bool_none, isi_bool_list, isi_bool_tup, isi_tup_tup, isi_tup_int, isi_tup_bool, isi_tup_str, isi_tup_none, isi_tup_list, isi_list_list, isi_list_tup, isi_list_int, isi_list_bool, isi_list_str, isi_list_none, isi_str_str, isi_str_int, isi_str_bool, isi_str_none, isi_str_list, isi_str_tup, decide_true, decide_false, not_true_eq_false, not_false_eq_true, ne_eq, decide_eq_true_eq, Bool.not_eq_true', decide_eq_false_iff_not, Bool.not_true, Bool.not_false, Bool.false_eq_true, if_true, if_false, reduceIte, e1, e2]
      exact e
    · have el : n + (b :: bs).length * (2 * k + 8900) = n + (2 * k + 8900) + bs.length * (2 * k + 8900) := by
        rw [List.length_cons, Nat.add_mul]; omega
      have el2 : m + (b :: bs).length * (2 * l) = m + (2 * l) + bs.length * (2 * l) := by
        rw [List.length_cons, Nat.add_mul]; omega
      rw [el, el2]
      exact h
theorem zeroD : tabD Tab.zero = .tuple [.tuple [c_NOUGHT, c_NOUGHT], .tuple [c_NOUGHT, c_NOUGHT]] := rfl
theorem table_eq (bs : List Bo) (k l : Nat) (hb : ∀ b ∈ bs, BB b k l) (h : 1 + bs.length * (2 * l) ≤ 8000) (hl : 2 * l ≤ 900) (hn : 1 + bs.length * (2 * k + 8900) ≤ 50000000) (hk : k ≤ 1000000) :
    m_table [.list (bs.map boD)] = .ok (tabD (tabL Tab.zero bs)) ∧ BT (tabL Tab.zero bs) (1 + bs.length * (2 * k + 8900)) (1 + bs.length * (2 * l)) := by
  obtain ⟨y2, y3, e, hB⟩ := table_loop bs Tab.zero 1 1 k l (.list (bs.map boD)) none none bt_zero hb h hl hn hk
  refine ⟨?_, hB⟩
  simp +decide only [m_table, den_table, ev_seq, seq_nx, seq_rt, seq_ex, seq_bk, seq_ct, seq_ite, fl_ok, fl_ex, fl_ite, ev_set, kSet_ev, ev_ret, ev_retN, ev_nx, ev_bk, ev_ct, ev_raise, ev_if, kIf_ev, ev_drop, kNx_ev, ev_par, kPar_ev, kId_ev, ev_asg, kAsg_ev, ev_for, kFor_ev, ev_V, dVg_ok, ev_C, ev_1, ev_2, bind2_ok, bind2_ite1, bind2_ite2, bind_ite, ev_A, ev_nil, ev_cons, kCons_ev, ev_T, toB_ev, ev_and, ev_or, ev_not, kAnd_ev, kOr_ev, kNot_ev, ev_andV, ev_orV, ev_notV, kAndV_ev, kOrV_ev, kNotV_ev, ev_ife, kIfE_ev, ev_ch, kCh, tup_ev, lst_ev, call_ev, kw_ev, ev_kw, ev_fn, startE_0, startE_s, startE_c, fin_rt, fin_nx, fin_ex, fin_ite, ix_t0, ix_t1, ix_t2, ix_t3, ix_l0, ix_l1, ix_l2, len_l, len_t1, len_t2, len_t3, len_t4, beq_self_eq_true, ev_iL, ev_iT, asL_ev, asT_ev, ev_iA, ev_P, toI_ev, ev_P0, ev_sl, kSl_ev, put_1, gAdd_i, gSub_i, gMul_i, gDiv_p, gMod_p, gPow_l, gShl_l, gShr_l, gLt_i, gLe_i, gGt_i, gGe_i, gEq_i, gNe_i, gNeg_i, gAbs_i, gInt_i, gInt_b, gEq_s, gNe_s, gEq_b, gNe_b, gEq_2, gNe_2, gEq_3, gNe_3, gEq_22, gNe_22, DL.R.bind_ok, DL.R.bind_ex, ev_setL, kSetL_ev, ev_lDisp, kDisp_ev, ev_lList, lOf_l, lOf_t, ev_frz, frz_l, frz_d, frz_n, ev_lend, lend_l, lend_d, atom_i, atom_b, atom_s, ev_lendB, lendB_l, lendB_d, ev_app, app_l, kApp_ev, ev_put, put_l, ev_ixO, ixO_l, ixO_d, put_m, putAll_c, putAll_n, ev_lc, kLst_ev, ev_lcL, wipe_n, wipe_c, r1_2, r1_3, bits_ev, List.getElem?_cons_zero, List.getElem?_cons_succ, List.set_cons_zero, List.set_cons_succ, List.length_cons, List.length_nil, List.length_map, List.append_nil, List.cons_append, List.nil_append, ev_if, turn_nx, turn_ct, turn_bk, turn_rt, turn_ite, kWh_ev, isi_int_int, isi_bool_int, isi_int_bool, isi_bool_bool, isi_int_str, isi_int_none, isi_int_list, isi_int_tup, isi_bool_str, isi_bool_none, isi_bool_list, isi_bool_tup, isi_tup_tup, isi_tup_int, isi_tup_bool, isi_tup_str, isi_tup_none, isi_tup_list, isi_list_list, isi_list_tup, isi_list_int, isi_list_bool, isi_list_str, isi_list_none, isi_str_str, isi_str_int, isi_str_bool, isi_str_none, isi_str_list, isi_str_tup, decide_true, decide_false, not_true_eq_false, not_false_eq_true, ne_eq, decide_eq_true_eq, Bool.not_eq_true', decide_eq_false_iff_not, Bool.not_true, Bool.not_false, Bool.false_eq_true, if_true, if_false, reduceIte, ← zeroD, e]
end DL

set_option Elab.async false
set_option linter.all false
set_option maxRecDepth 100000
set_option maxHeartbeats 1000000
set_option autoImplicit false
namespace DL
open PySem L2 MB
theorem bind_okN {α β : Type} {f : α → R β} {x : α} : (R.ok x).bind f = f x := by rw [DL.R.bind_ok]
theorem ev_iAN {g : List PD → R (List PD)} {fs : En → R (List PD)} {ρ : En} : iA g fs ρ = (fs ρ).bind g := by rw [ev_iA]
theorem ev_forN {g : En → Fl} {ρ : En} {it : En → R (List PD)} {tg : Tg} : sFor it tg g ρ = (it ρ).fl ρ (kFor tg g ρ) := by rw [ev_for]
theorem fl_okN {α : Type} {k : α → Fl} {ρ : En} {x : α} : (R.ok x).fl ρ k = k x := by rw [fl_ok]
/-! kept errors -/
theorem isE_ev {es : List Str} {T c : Str} (h : c ∈ es) : gIsE es T (exD c) = .ok (.bool (subX c T)) := if_pos h
theorem isN_ex {c : Str} {b : Bool} : gIsN b (exD c) = .ok (.bool (false != b)) := rfl
theorem isN_nn {b : Bool} : gIsN b .none = .ok (.bool (true != b)) := rfl
theorem ev_tryK {es : List Str} {T : Str} {i j : Nat} {f : En → Fl} {ρ : En} : sTryK es T i j f ρ = match f ρ with
  | .ex c ρ' => if c ∈ es ∧ i < ρ'.length then (if subX c T = true then .nx (((ρ'.set i none).set j (some (.d (exD c)))).set i none) else .ex c ρ') else .no
  | r => r := rfl
theorem subX_V {c : Str} : subX c "ValueError" = true := by unfold subX; simp +decide
theorem subX_Y {c : Str} : subX c "YardError" = true := by unfold subX; simp +decide
theorem law_alone_NoLength : m_law_alone [exD "NoLength"] = .ok (.bool true) := by
  have h : ∀ T : Str, gIsE xl_be93e3 T (exD "NoLength") = .ok (.bool (subX "NoLength" T)) := fun T => isE_ev (by decide)
  simp +decide only [m_law_alone, den_law_alone, ev_seq, seq_nx, seq_rt, seq_ex, seq_bk, seq_ct, seq_ite, fl_ok, fl_ex, fl_ite, ev_set, kSet_ev, ev_ret, ev_retN, ev_nx, ev_bk, ev_ct, ev_raise, ev_if, kIf_ev, ev_drop, kNx_ev, ev_par, kPar_ev, kId_ev, ev_asg, kAsg_ev, ev_for, kFor_ev, ev_V, dVg_ok, ev_C, ev_1, ev_2, bind2_ok, bind2_ite1, bind2_ite2, bind_ite, ev_A, ev_nil, ev_cons, kCons_ev, ev_T, toB_ev, ev_and, ev_or, ev_not, kAnd_ev, kOr_ev, kNot_ev, ev_andV, ev_orV, ev_notV, kAndV_ev, kOrV_ev, kNotV_ev, ev_ife, kIfE_ev, ev_ch, kCh, tup_ev, lst_ev, call_ev, kw_ev, ev_kw, ev_fn, startE_0, startE_s, startE_c, fin_rt, fin_nx, fin_ex, fin_ite, ix_t0, ix_t1, ix_t2, ix_t3, ix_l0, ix_l1, ix_l2, len_l, len_t1, len_t2, len_t3, len_t4, beq_self_eq_true, ev_iL, ev_iT, asL_ev, asT_ev, ev_iA, ev_P, toI_ev, ev_P0, ev_sl, kSl_ev, put_1, gAdd_i, gSub_i, gMul_i, gDiv_p, gMod_p, gPow_l, gShl_l, gShr_l, gLt_i, gLe_i, gGt_i, gGe_i, gEq_i, gNe_i, gNeg_i, gAbs_i, gInt_i, gInt_b, gEq_s, gNe_s, gEq_b, gNe_b, gEq_2, gNe_2, gEq_3, gNe_3, gEq_22, gNe_22, DL.R.bind_ok, DL.R.bind_ex, ev_setL, kSetL_ev, ev_lDisp, kDisp_ev, ev_lList, lOf_l, lOf_t, ev_frz, frz_l, frz_d, frz_n, ev_lend, lend_l, lend_d, atom_i, atom_b, atom_s, ev_lendB, lendB_l, lendB_d, ev_app, app_l, kApp_ev, ev_put, put_l, ev_ixO, ixO_l, ixO_d, put_m, putAll_c, putAll_n, ev_lc, kLst_ev, ev_lcL, wipe_n, wipe_c, r1_2, r1_3, bits_ev, List.getElem?_cons_zero, List.getElem?_cons_succ, List.set_cons_zero, List.set_cons_succ, List.length_cons, List.length_nil, List.length_map, List.append_nil, List.cons_append, List.nil_append, ev_if, turn_nx, turn_ct, turn_bk, turn_rt, turn_ite, kWh_ev, isi_int_int, isi_bool_int, isi_int_bool, isi_bool_bool, isi_int_str, isi_int_none, isi_int_list, isi_int_tup, isi_bool_str, isi_bool_none, isi_bool_list, isi_bool_tup, isi_tup_tup, isi_tup_int, isi_tup_bool, isi_tup_str, isi_tup_none, isi_tup_list, isi_list_list, isi_list_tup, isi_list_int, isi_list_bool, isi_list_str, isi_list_none, isi_str_str, isi_str_int, isi_str_bool, isi_str_none, isi_str_list, isi_str_tup, decide_true, decide_false, not_true_eq_false, not_false_eq_true, ne_eq, decide_eq_true_eq, Bool.not_eq_true', decide_eq_false_iff_not, Bool.not_true, Bool.not_false, Bool.false_eq_true, if_true, if_false, reduceIte, h, subX_V, subX_Y]
theorem isi_int_d0 : gIsi "int" (.dict []) = .ok (.bool false) := isi_ev (by show kitB "dict" "int" = some false; decide +kernel)
theorem isi_bool_d0 : gIsi "bool" (.dict []) = .ok (.bool false) := isi_ev (by show kitB "dict" "bool" = some false; decide +kernel)
theorem isi_int_d1 : gIsi "int" (.dict [(.int 1, .int 2)]) = .ok (.bool false) := isi_ev (by show kitB "dict" "int" = some false; decide +kernel)
theorem isi_bool_d1 : gIsi "bool" (.dict [(.int 1, .int 2)]) = .ok (.bool false) := isi_ev (by show kitB "dict" "bool" = some false; decide +kernel)
/-! the things -/
def odd9 : List PD := [.bool true, .bool false, .none, .str "4", .str "", .list [.int 4], .tuple [.int 1, .int 2], .dict [], .dict [(.int 1, .int 2)]]
def Th (d : PD) (g : Bool) : Prop := (g = true ∧ ∃ z : Int, d = .int z ∧ Bd z 1400) ∨ (g = false ∧ d ∈ odd9)
theorem odd_whole {d : PD} (h : d ∈ odd9) : m_is_whole [d] = .ok (.bool false) ∧ m_law_whole [d] = .ok (.bool false) := by
  simp only [odd9, List.mem_cons, List.not_mem_nil, or_false] at h
  rcases h with rfl | rfl | rfl | rfl | rfl | rfl | rfl | rfl | rfl <;>
    exact ⟨by simp +decide only [m_is_whole, den_is_whole, ev_seq, seq_nx, seq_rt, seq_ex, seq_bk, seq_ct, seq_ite, fl_ok, fl_ex, fl_ite, ev_set, kSet_ev, ev_ret, ev_retN, ev_nx, ev_bk, ev_ct, ev_raise, ev_if, kIf_ev, ev_drop, kNx_ev, ev_par, kPar_ev, kId_ev, ev_asg, kAsg_ev, ev_for, kFor_ev, ev_V, dVg_ok, ev_C, ev_1, ev_2, bind2_ok, bind2_ite1, bind2_ite2, bind_ite, ev_A, ev_nil, ev_cons, kCons_ev, ev_T, toB_ev, ev_and, ev_or, ev_not, kAnd_ev, kOr_ev, kNot_ev, ev_andV, ev_orV, ev_notV, kAndV_ev, kOrV_ev, kNotV_ev, ev_ife, kIfE_ev, ev_ch, kCh, tup_ev, lst_ev, call_ev, kw_ev, ev_kw, ev_fn, startE_0, startE_s, startE_c, fin_rt, fin_nx, fin_ex, fin_ite, ix_t0, ix_t1, ix_t2, ix_t3, ix_l0, ix_l1, ix_l2, len_l, len_t1, len_t2, len_t3, len_t4, beq_self_eq_true, ev_iL, ev_iT, asL_ev, asT_ev, ev_iA, ev_P, toI_ev, ev_P0, ev_sl, kSl_ev, put_1, gAdd_i, gSub_i, gMul_i, gDiv_p, gMod_p, gPow_l, gShl_l, gShr_l, gLt_i, gLe_i, gGt_i, gGe_i, gEq_i, gNe_i, gNeg_i, gAbs_i, gInt_i, gInt_b, gEq_s, gNe_s, gEq_b, gNe_b, gEq_2, gNe_2, gEq_3, gNe_3, gEq_22, gNe_22, DL.R.bind_ok, DL.R.bind_ex, ev_setL, kSetL_ev, ev_lDisp, kDisp_ev, ev_lList, lOf_l, lOf_t, ev_frz, frz_l, frz_d, frz_n, ev_lend, lend_l, lend_d, atom_i, atom_b, atom_s, ev_lendB, lendB_l, lendB_d, ev_app, app_l, kApp_ev, ev_put, put_l, ev_ixO, ixO_l, ixO_d, put_m, putAll_c, putAll_n, ev_lc, kLst_ev, ev_lcL, wipe_n, wipe_c, r1_2, r1_3, bits_ev, List.getElem?_cons_zero, List.getElem?_cons_succ, List.set_cons_zero, List.set_cons_succ, List.length_cons, List.length_nil, List.length_map, List.append_nil, List.cons_append, List.nil_append, ev_if, turn_nx, turn_ct, turn_bk, turn_rt, turn_ite, kWh_ev, isi_int_int, isi_bool_int, isi_int_bool, isi_bool_bool, isi_int_str, isi_int_none, isi_int_list, isi_int_tup, isi_bool_str, isi_bool_none, isi_bool_list, isi_bool_tup, isi_tup_tup, isi_tup_int, isi_tup_bool, isi_tup_str, isi_tup_none, isi_tup_list, isi_list_list, isi_list_tup, isi_list_int, isi_list_bool, isi_list_str, isi_list_none, isi_str_str, isi_str_int, isi_str_bool, isi_str_none, isi_str_list, isi_str_tup, decide_true, decide_false, not_true_eq_false, not_false_eq_true, ne_eq, decide_eq_true_eq, Bool.not_eq_true', decide_eq_false_iff_not, Bool.not_true, Bool.not_false, Bool.false_eq_true, if_true, if_false, reduceIte, isi_int_d0, isi_bool_d0, isi_int_d1, isi_bool_d1], by simp +decide only [m_law_whole, den_law_whole, ev_seq, seq_nx, seq_rt, seq_ex, seq_bk, seq_ct, seq_ite, fl_ok, fl_ex, fl_ite, ev_set, kSet_ev, ev_ret, ev_retN, ev_nx, ev_bk, ev_ct, ev_raise, ev_if, kIf_ev, ev_drop, kNx_ev, ev_par, kPar_ev, kId_ev, ev_asg, kAsg_ev, ev_for, kFor_ev, ev_V, dVg_ok, ev_C, ev_1, ev_2, bind2_ok, bind2_ite1, bind2_ite2, bind_ite, ev_A, ev_nil, ev_cons, kCons_ev, ev_T, toB_ev, ev_and, ev_or, ev_not, kAnd_ev, kOr_ev, kNot_ev, ev_andV, ev_orV, ev_notV, kAndV_ev, kOrV_ev, kNotV_ev, ev_ife, kIfE_ev, ev_ch, kCh, tup_ev, lst_ev, call_ev, kw_ev, ev_kw, ev_fn, startE_0, startE_s, startE_c, fin_rt, fin_nx, fin_ex, fin_ite, ix_t0, ix_t1, ix_t2, ix_t3, ix_l0, ix_l1, ix_l2, len_l, len_t1, len_t2, len_t3, len_t4, beq_self_eq_true, ev_iL, ev_iT, asL_ev, asT_ev, ev_iA, ev_P, toI_ev, ev_P0, ev_sl, kSl_ev, put_1, gAdd_i, gSub_i, gMul_i, gDiv_p, gMod_p, gPow_l, gShl_l, gShr_l, gLt_i, gLe_i, gGt_i, gGe_i, gEq_i, gNe_i, gNeg_i, gAbs_i, gInt_i, gInt_b, gEq_s, gNe_s, gEq_b, gNe_b, gEq_2, gNe_2, gEq_3, gNe_3, gEq_22, gNe_22, DL.R.bind_ok, DL.R.bind_ex, ev_setL, kSetL_ev, ev_lDisp, kDisp_ev, ev_lList, lOf_l, lOf_t, ev_frz, frz_l, frz_d, frz_n, ev_lend, lend_l, lend_d, atom_i, atom_b, atom_s, ev_lendB, lendB_l, lendB_d, ev_app, app_l, kApp_ev, ev_put, put_l, ev_ixO, ixO_l, ixO_d, put_m, putAll_c, putAll_n, ev_lc, kLst_ev, ev_lcL, wipe_n, wipe_c, r1_2, r1_3, bits_ev, List.getElem?_cons_zero, List.getElem?_cons_succ, List.set_cons_zero, List.set_cons_succ, List.length_cons, List.length_nil, List.length_map, List.append_nil, List.cons_append, List.nil_append, ev_if, turn_nx, turn_ct, turn_bk, turn_rt, turn_ite, kWh_ev, isi_int_int, isi_bool_int, isi_int_bool, isi_bool_bool, isi_int_str, isi_int_none, isi_int_list, isi_int_tup, isi_bool_str, isi_bool_none, isi_bool_list, isi_bool_tup, isi_tup_tup, isi_tup_int, isi_tup_bool, isi_tup_str, isi_tup_none, isi_tup_list, isi_list_list, isi_list_tup, isi_list_int, isi_list_bool, isi_list_str, isi_list_none, isi_str_str, isi_str_int, isi_str_bool, isi_str_none, isi_str_list, isi_str_tup, decide_true, decide_false, not_true_eq_false, not_false_eq_true, ne_eq, decide_eq_true_eq, Bool.not_eq_true', decide_eq_false_iff_not, Bool.not_true, Bool.not_false, Bool.false_eq_true, if_true, if_false, reduceIte, isi_int_d0, isi_bool_d0, isi_int_d1, isi_bool_d1]⟩
theorem th_whole {d : PD} {g : Bool} (h : Th d g) : m_is_whole [d] = .ok (.bool g) ∧ m_law_whole [d] = .ok (.bool g) := by
  rcases h with ⟨rfl, z, rfl, _⟩ | ⟨rfl, h⟩
  · exact ⟨is_whole_int z, law_whole_int z⟩
  · exact odd_whole h
theorem squares_lc (x0 : Option SV) : lcL (.one 1) bYes le1_law_is_root [x0, none] (rng 0 10) = .ok ([0, 1, 4, 9, 16, 25, 36, 49, 64, 81].map PyData.int) := by
  have e : ∀ z : Int, le1_law_is_root [x0, some (.d (.int z))] = .ok (.int (z * z)) ∨ True := fun _ => .inr trivial
  have r : rng 0 10 = [.int 0, .int 1, .int 2, .int 3, .int 4, .int 5, .int 6, .int 7, .int 8, .int 9] := rfl
  rw [r]
  refine lcL_1 ?_ (lcL_1 ?_ (lcL_1 ?_ (lcL_1 ?_ (lcL_1 ?_ (lcL_1 ?_ (lcL_1 ?_ (lcL_1 ?_ (lcL_1 ?_ (lcL_1 ?_ lcL_n))))))))) <;>
    (simp +decide only [le1_law_is_root, ev_seq, seq_nx, seq_rt, seq_ex, seq_bk, seq_ct, seq_ite, fl_ok, fl_ex, fl_ite, ev_set, kSet_ev, ev_ret, ev_retN, ev_nx, ev_bk, ev_ct, ev_raise, ev_if, kIf_ev, ev_drop, kNx_ev, ev_par, kPar_ev, kId_ev, ev_asg, kAsg_ev, ev_for, kFor_ev, ev_V, dVg_ok, ev_C, ev_1, ev_2, bind2_ok, bind2_ite1, bind2_ite2, bind_ite, ev_A, ev_nil, ev_cons, kCons_ev, ev_T, toB_ev, ev_and, ev_or, ev_not, kAnd_ev, kOr_ev, kNot_ev, ev_andV, ev_orV, ev_notV, kAndV_ev, kOrV_ev, kNotV_ev, ev_ife, kIfE_ev, ev_ch, kCh, tup_ev, lst_ev, call_ev, kw_ev, ev_kw, ev_fn, startE_0, startE_s, startE_c, fin_rt, fin_nx, fin_ex, fin_ite, ix_t0, ix_t1, ix_t2, ix_t3, ix_l0, ix_l1, ix_l2, len_l, len_t1, len_t2, len_t3, len_t4, beq_self_eq_true, ev_iL, ev_iT, asL_ev, asT_ev, ev_iA, ev_P, toI_ev, ev_P0, ev_sl, kSl_ev, put_1, gAdd_i, gSub_i, gMul_i, gDiv_p, gMod_p, gPow_l, gShl_l, gShr_l, gLt_i, gLe_i, gGt_i, gGe_i, gEq_i, gNe_i, gNeg_i, gAbs_i, gInt_i, gInt_b, gEq_s, gNe_s, gEq_b, gNe_b, gEq_2, gNe_2, gEq_3, gNe_3, gEq_22, gNe_22, DL.R.bind_ok, DL.R.bind_ex, ev_setL, kSetL_ev, ev_lDisp, kDisp_ev, ev_lList, lOf_l, lOf_t, ev_frz, frz_l, frz_d, frz_n, ev_lend, lend_l, lend_d, atom_i, atom_b, atom_s, ev_lendB, lendB_l, lendB_d, ev_app, app_l, kApp_ev, ev_put, put_l, ev_ixO, ixO_l, ixO_d, put_m, putAll_c, putAll_n, ev_lc, kLst_ev, ev_lcL, wipe_n, wipe_c, r1_2, r1_3, bits_ev, List.getElem?_cons_zero, List.getElem?_cons_succ, List.set_cons_zero, List.set_cons_succ, List.length_cons, List.length_nil, List.length_map, List.append_nil, List.cons_append, List.nil_append, ev_if, turn_nx, turn_ct, turn_bk, turn_rt, turn_ite, kWh_ev, isi_int_int, isi_bool_int, isi_int_bool, isi_bool_bool, isi_int_str, isi_int_none, isi_int_list, isi_int_tup, isi_bool_str, isi_bool_none, isi_bool_list, isi_bool_tup, isi_tup_tup, isi_tup_int, isi_tup_bool, isi_tup_str, isi_tup_none, isi_tup_list, isi_list_list, isi_list_tup, isi_list_int, isi_list_bool, isi_list_str, isi_list_none, isi_str_str, isi_str_int, isi_str_bool, isi_str_none, isi_str_list, isi_str_tup, decide_true, decide_false, not_true_eq_false, not_false_eq_true, ne_eq, decide_eq_true_eq, Bool.not_eq_true', decide_eq_false_iff_not, Bool.not_true, Bool.not_false, Bool.false_eq_true, if_true, if_false, reduceIte]; rfl)
theorem root_int (z : Int) [bz : Bd z 1400] : ∃ b : Bool, m_is_root [.int z] = .ok (.bool b) ∧ m_law_is_root [.int z] = .ok (.bool b) := by
  have w1 := is_whole_int z
  have w2 := law_whole_int z
  by_cases c1 : z < 2
  · refine ⟨false, ?_, ?_⟩
    · have c : ¬ 2 ≤ z := by omega
      simp +decide only [m_is_root, den_is_root, ev_seq, seq_nx, seq_rt, seq_ex, seq_bk, seq_ct, seq_ite, fl_ok, fl_ex, fl_ite, ev_set, kSet_ev, ev_ret, ev_retN, ev_nx, ev_bk, ev_ct, ev_raise, ev_if, kIf_ev, ev_drop, kNx_ev, ev_par, kPar_ev, kId_ev, ev_asg, kAsg_ev, ev_for, kFor_ev, ev_V, dVg_ok, ev_C, ev_1, ev_2, bind2_ok, bind2_ite1, bind2_ite2, bind_ite, ev_A, ev_nil, ev_cons, kCons_ev, ev_T, toB_ev, ev_and, ev_or, ev_not, kAnd_ev, kOr_ev, kNot_ev, ev_andV, ev_orV, ev_notV, kAndV_ev, kOrV_ev, kNotV_ev, ev_ife, kIfE_ev, ev_ch, kCh, tup_ev, lst_ev, call_ev, kw_ev, ev_kw, ev_fn, startE_0, startE_s, startE_c, fin_rt, fin_nx, fin_ex, fin_ite, ix_t0, ix_t1, ix_t2, ix_t3, ix_l0, ix_l1, ix_l2, len_l, len_t1, len_t2, len_t3, len_t4, beq_self_eq_true, ev_iL, ev_iT, asL_ev, asT_ev, ev_iA, ev_P, toI_ev, ev_P0, ev_sl, kSl_ev, put_1, gAdd_i, gSub_i, gMul_i, gDiv_p, gMod_p, gPow_l, gShl_l, gShr_l, gLt_i, gLe_i, gGt_i, gGe_i, gEq_i, gNe_i, gNeg_i, gAbs_i, gInt_i, gInt_b, gEq_s, gNe_s, gEq_b, gNe_b, gEq_2, gNe_2, gEq_3, gNe_3, gEq_22, gNe_22, DL.R.bind_ok, DL.R.bind_ex, ev_setL, kSetL_ev, ev_lDisp, kDisp_ev, ev_lList, lOf_l, lOf_t, ev_frz, frz_l, frz_d, frz_n, ev_lend, lend_l, lend_d, atom_i, atom_b, atom_s, ev_lendB, lendB_l, lendB_d, ev_app, app_l, kApp_ev, ev_put, put_l, ev_ixO, ixO_l, ixO_d, put_m, putAll_c, putAll_n, ev_lc, kLst_ev, ev_lcL, wipe_n, wipe_c, r1_2, r1_3, bits_ev, List.getElem?_cons_zero, List.getElem?_cons_succ, List.set_cons_zero, List.set_cons_succ, List.length_cons, List.length_nil, List.length_map, List.append_nil, List.cons_append, List.nil_append, ev_if, turn_nx, turn_ct, turn_bk, turn_rt, turn_ite, kWh_ev, isi_int_int, isi_bool_int, isi_int_bool, isi_bool_bool, isi_int_str, isi_int_none, isi_int_list, isi_int_tup, isi_bool_str, isi_bool_none, isi_bool_list, isi_bool_tup, isi_tup_tup, isi_tup_int, isi_tup_bool, isi_tup_str, isi_tup_none, isi_tup_list, isi_list_list, isi_list_tup, isi_list_int, isi_list_bool, isi_list_str, isi_list_none, isi_str_str, isi_str_int, isi_str_bool, isi_str_none, isi_str_list, isi_str_tup, decide_true, decide_false, not_true_eq_false, not_false_eq_true, ne_eq, decide_eq_true_eq, Bool.not_eq_true', decide_eq_false_iff_not, Bool.not_true, Bool.not_false, Bool.false_eq_true, if_true, if_false, reduceIte, c_LEAST_ROOT, c_GREATEST_ROOT, ev_ch, DL.bind2_ok, kCh, gLe_i, w1, c]
    · simp +decide only [m_law_is_root, den_law_is_root, ev_seq, seq_nx, seq_rt, seq_ex, seq_bk, seq_ct, seq_ite, fl_ok, fl_ex, fl_ite, ev_set, kSet_ev, ev_ret, ev_retN, ev_nx, ev_bk, ev_ct, ev_raise, ev_if, kIf_ev, ev_drop, kNx_ev, ev_par, kPar_ev, kId_ev, ev_asg, kAsg_ev, ev_for, kFor_ev, ev_V, dVg_ok, ev_C, ev_1, ev_2, bind2_ok, bind2_ite1, bind2_ite2, bind_ite, ev_A, ev_nil, ev_cons, kCons_ev, ev_T, toB_ev, ev_and, ev_or, ev_not, kAnd_ev, kOr_ev, kNot_ev, ev_andV, ev_orV, ev_notV, kAndV_ev, kOrV_ev, kNotV_ev, ev_ife, kIfE_ev, ev_ch, kCh, tup_ev, lst_ev, call_ev, kw_ev, ev_kw, ev_fn, startE_0, startE_s, startE_c, fin_rt, fin_nx, fin_ex, fin_ite, ix_t0, ix_t1, ix_t2, ix_t3, ix_l0, ix_l1, ix_l2, len_l, len_t1, len_t2, len_t3, len_t4, beq_self_eq_true, ev_iL, ev_iT, asL_ev, asT_ev, ev_iA, ev_P, toI_ev, ev_P0, ev_sl, kSl_ev, put_1, gAdd_i, gSub_i, gMul_i, gDiv_p, gMod_p, gPow_l, gShl_l, gShr_l, gLt_i, gLe_i, gGt_i, gGe_i, gEq_i, gNe_i, gNeg_i, gAbs_i, gInt_i, gInt_b, gEq_s, gNe_s, gEq_b, gNe_b, gEq_2, gNe_2, gEq_3, gNe_3, gEq_22, gNe_22, DL.R.bind_ok, DL.R.bind_ex, ev_setL, kSetL_ev, ev_lDisp, kDisp_ev, ev_lList, lOf_l, lOf_t, ev_frz, frz_l, frz_d, frz_n, ev_lend, lend_l, lend_d, atom_i, atom_b, atom_s, ev_lendB, lendB_l, lendB_d, ev_app, app_l, kApp_ev, ev_put, put_l, ev_ixO, ixO_l, ixO_d, put_m, putAll_c, putAll_n, ev_lc, kLst_ev, ev_lcL, wipe_n, wipe_c, r1_2, r1_3, bits_ev, List.getElem?_cons_zero, List.getElem?_cons_succ, List.set_cons_zero, List.set_cons_succ, List.length_cons, List.length_nil, List.length_map, List.append_nil, List.cons_append, List.nil_append, ev_if, turn_nx, turn_ct, turn_bk, turn_rt, turn_ite, kWh_ev, isi_int_int, isi_bool_int, isi_int_bool, isi_bool_bool, isi_int_str, isi_int_none, isi_int_list, isi_int_tup, isi_bool_str, isi_bool_none, isi_bool_list, isi_bool_tup, isi_tup_tup, isi_tup_int, isi_tup_bool, isi_tup_str, isi_tup_none, isi_tup_list, isi_list_list, isi_list_tup, isi_list_int, isi_list_bool, isi_list_str, isi_list_none, isi_str_str, isi_str_int, isi_str_bool, isi_str_none, isi_str_list, isi_str_tup, decide_true, decide_false, not_true_eq_false, not_false_eq_true, ne_eq, decide_eq_true_eq, Bool.not_eq_true', decide_eq_false_iff_not, Bool.not_true, Bool.not_false, Bool.false_eq_true, if_true, if_false, reduceIte, w2, c1]
  · by_cases c2 : 99 < z
    · refine ⟨false, ?_, ?_⟩
      · have c : ¬ z ≤ 99 := by omega
        have c' : 2 ≤ z := by omega
        simp +decide only [m_is_root, den_is_root, ev_seq, seq_nx, seq_rt, seq_ex, seq_bk, seq_ct, seq_ite, fl_ok, fl_ex, fl_ite, ev_set, kSet_ev, ev_ret, ev_retN, ev_nx, ev_bk, ev_ct, ev_raise, ev_if, kIf_ev, ev_drop, kNx_ev, ev_par, kPar_ev, kId_ev, ev_asg, kAsg_ev, ev_for, kFor_ev, ev_V, dVg_ok, ev_C, ev_1, ev_2, bind2_ok, bind2_ite1, bind2_ite2, bind_ite, ev_A, ev_nil, ev_cons, kCons_ev, ev_T, toB_ev, ev_and, ev_or, ev_not, kAnd_ev, kOr_ev, kNot_ev, ev_andV, ev_orV, ev_notV, kAndV_ev, kOrV_ev, kNotV_ev, ev_ife, kIfE_ev, ev_ch, kCh, tup_ev, lst_ev, call_ev, kw_ev, ev_kw, ev_fn, startE_0, startE_s, startE_c, fin_rt, fin_nx, fin_ex, fin_ite, ix_t0, ix_t1, ix_t2, ix_t3, ix_l0, ix_l1, ix_l2, len_l, len_t1, len_t2, len_t3, len_t4, beq_self_eq_true, ev_iL, ev_iT, asL_ev, asT_ev, ev_iA, ev_P, toI_ev, ev_P0, ev_sl, kSl_ev, put_1, gAdd_i, gSub_i, gMul_i, gDiv_p, gMod_p, gPow_l, gShl_l, gShr_l, gLt_i, gLe_i, gGt_i, gGe_i, gEq_i, gNe_i, gNeg_i, gAbs_i, gInt_i, gInt_b, gEq_s, gNe_s, gEq_b, gNe_b, gEq_2, gNe_2, gEq_3, gNe_3, gEq_22, gNe_22, DL.R.bind_ok, DL.R.bind_ex, ev_setL, kSetL_ev, ev_lDisp, kDisp_ev, ev_lList, lOf_l, lOf_t, ev_frz, frz_l, frz_d, frz_n, ev_lend, lend_l, lend_d, atom_i, atom_b, atom_s, ev_lendB, lendB_l, lendB_d, ev_app, app_l, kApp_ev, ev_put, put_l, ev_ixO, ixO_l, ixO_d, put_m, putAll_c, putAll_n, ev_lc, kLst_ev, ev_lcL, wipe_n, wipe_c, r1_2, r1_3, bits_ev, List.getElem?_cons_zero, List.getElem?_cons_succ, List.set_cons_zero, List.set_cons_succ, List.length_cons, List.length_nil, List.length_map, List.append_nil, List.cons_append, List.nil_append, ev_if, turn_nx, turn_ct, turn_bk, turn_rt, turn_ite, kWh_ev, isi_int_int, isi_bool_int, isi_int_bool, isi_bool_bool, isi_int_str, isi_int_none, isi_int_list, isi_int_tup, isi_bool_str, isi_bool_none, isi_bool_list, isi_bool_tup, isi_tup_tup, isi_tup_int, isi_tup_bool, isi_tup_str, isi_tup_none, isi_tup_list, isi_list_list, isi_list_tup, isi_list_int, isi_list_bool, isi_list_str, isi_list_none, isi_str_str, isi_str_int, isi_str_bool, isi_str_none, isi_str_list, isi_str_tup, decide_true, decide_false, not_true_eq_false, not_false_eq_true, ne_eq, decide_eq_true_eq, Bool.not_eq_true', decide_eq_false_iff_not, Bool.not_true, Bool.not_false, Bool.false_eq_true, if_true, if_false, reduceIte, c_LEAST_ROOT, c_GREATEST_ROOT, ev_ch, DL.bind2_ok, kCh, gLe_i, w1, c, c']
      · simp +decide only [m_law_is_root, den_law_is_root, ev_seq, seq_nx, seq_rt, seq_ex, seq_bk, seq_ct, seq_ite, fl_ok, fl_ex, fl_ite, ev_set, kSet_ev, ev_ret, ev_retN, ev_nx, ev_bk, ev_ct, ev_raise, ev_if, kIf_ev, ev_drop, kNx_ev, ev_par, kPar_ev, kId_ev, ev_asg, kAsg_ev, ev_for, kFor_ev, ev_V, dVg_ok, ev_C, ev_1, ev_2, bind2_ok, bind2_ite1, bind2_ite2, bind_ite, ev_A, ev_nil, ev_cons, kCons_ev, ev_T, toB_ev, ev_and, ev_or, ev_not, kAnd_ev, kOr_ev, kNot_ev, ev_andV, ev_orV, ev_notV, kAndV_ev, kOrV_ev, kNotV_ev, ev_ife, kIfE_ev, ev_ch, kCh, tup_ev, lst_ev, call_ev, kw_ev, ev_kw, ev_fn, startE_0, startE_s, startE_c, fin_rt, fin_nx, fin_ex, fin_ite, ix_t0, ix_t1, ix_t2, ix_t3, ix_l0, ix_l1, ix_l2, len_l, len_t1, len_t2, len_t3, len_t4, beq_self_eq_true, ev_iL, ev_iT, asL_ev, asT_ev, ev_iA, ev_P, toI_ev, ev_P0, ev_sl, kSl_ev, put_1, gAdd_i, gSub_i, gMul_i, gDiv_p, gMod_p, gPow_l, gShl_l, gShr_l, gLt_i, gLe_i, gGt_i, gGe_i, gEq_i, gNe_i, gNeg_i, gAbs_i, gInt_i, gInt_b, gEq_s, gNe_s, gEq_b, gNe_b, gEq_2, gNe_2, gEq_3, gNe_3, gEq_22, gNe_22, DL.R.bind_ok, DL.R.bind_ex, ev_setL, kSetL_ev, ev_lDisp, kDisp_ev, ev_lList, lOf_l, lOf_t, ev_frz, frz_l, frz_d, frz_n, ev_lend, lend_l, lend_d, atom_i, atom_b, atom_s, ev_lendB, lendB_l, lendB_d, ev_app, app_l, kApp_ev, ev_put, put_l, ev_ixO, ixO_l, ixO_d, put_m, putAll_c, putAll_n, ev_lc, kLst_ev, ev_lcL, wipe_n, wipe_c, r1_2, r1_3, bits_ev, List.getElem?_cons_zero, List.getElem?_cons_succ, List.set_cons_zero, List.set_cons_succ, List.length_cons, List.length_nil, List.length_map, List.append_nil, List.cons_append, List.nil_append, ev_if, turn_nx, turn_ct, turn_bk, turn_rt, turn_ite, kWh_ev, isi_int_int, isi_bool_int, isi_int_bool, isi_bool_bool, isi_int_str, isi_int_none, isi_int_list, isi_int_tup, isi_bool_str, isi_bool_none, isi_bool_list, isi_bool_tup, isi_tup_tup, isi_tup_int, isi_tup_bool, isi_tup_str, isi_tup_none, isi_tup_list, isi_list_list, isi_list_tup, isi_list_int, isi_list_bool, isi_list_str, isi_list_none, isi_str_str, isi_str_int, isi_str_bool, isi_str_none, isi_str_list, isi_str_tup, decide_true, decide_false, not_true_eq_false, not_false_eq_true, ne_eq, decide_eq_true_eq, Bool.not_eq_true', decide_eq_false_iff_not, Bool.not_true, Bool.not_false, Bool.false_eq_true, if_true, if_false, reduceIte, w2, c1, c2]
    · have c3 : 2 ≤ z := by omega
      have c4 : z ≤ 99 := by omega
      have b8 : Bd z 8000 := bz.mono (by decide)
      obtain ⟨r, r0, r1, r2, e⟩ := root_floor_eq z (by omega)
      have r9 : r ≤ 9 := by
        refine Int.not_lt.mp fun w => ?_
        have := Int.mul_self_le_mul_self (show (0 : Int) ≤ 10 by decide) (show 10 ≤ r by omega)
        omega
      have bR : Bd r 4 := ⟨by omega⟩
      have key : ([0, 1, 4, 9, 16, 25, 36, 49, 64, 81].any fun y => y == z) = decide (r * r = z) := by
        have hr : r = 0 ∨ r = 1 ∨ r = 2 ∨ r = 3 ∨ r = 4 ∨ r = 5 ∨ r = 6 ∨ r = 7 ∨ r = 8 ∨ r = 9 := by omega
        rw [Bool.eq_iff_iff]
        simp only [List.any_cons, List.any_nil, Bool.or_false, Bool.or_eq_true, beq_iff_eq, decide_eq_true_eq]
        rcases hr with rfl | rfl | rfl | rfl | rfl | rfl | rfl | rfl | rfl | rfl <;> omega
      have sq := squares_lc (some (.d (.int z)))
      have hl : (rng 0 10).length ≤ 1000000 := by decide
      have r10 : gR1 [.int 10] = .ok (rng 0 10) := rfl
      have gi := in_l (d := z) (zs := [0, 1, 4, 9, 16, 25, 36, 49, 64, 81]) (neg := true)
      rw [key] at gi
      have bn : (decide (r * r = z) != true) = !decide (r * r = z) := by cases decide (r * r = z) <;> rfl
      rw [bn] at gi
      refine ⟨!decide (r * r = z), ?_, ?_⟩
      · by_cases c : r * r = z
        · simp +decide only [m_is_root, den_is_root, ev_seq, seq_nx, seq_rt, seq_ex, seq_bk, seq_ct, seq_ite, fl_ok, fl_ex, fl_ite, ev_set, kSet_ev, ev_ret, ev_retN, ev_nx, ev_bk, ev_ct, ev_raise, ev_if, kIf_ev, ev_drop, kNx_ev, ev_par, kPar_ev, kId_ev, ev_asg, kAsg_ev, ev_for, kFor_ev, ev_V, dVg_ok, ev_C, ev_1, ev_2, bind2_ok, bind2_ite1, bind2_ite2, bind_ite, ev_A, ev_nil, ev_cons, kCons_ev, ev_T, toB_ev, ev_and, ev_or, ev_not, kAnd_ev, kOr_ev, kNot_ev, ev_andV, ev_orV, ev_notV, kAndV_ev, kOrV_ev, kNotV_ev, ev_ife, kIfE_ev, ev_ch, kCh, tup_ev, lst_ev, call_ev, kw_ev, ev_kw, ev_fn, startE_0, startE_s, startE_c, fin_rt, fin_nx, fin_ex, fin_ite, ix_t0, ix_t1, ix_t2, ix_t3, ix_l0, ix_l1, ix_l2, len_l, len_t1, len_t2, len_t3, len_t4, beq_self_eq_true, ev_iL, ev_iT, asL_ev, asT_ev, ev_iA, ev_P, toI_ev, ev_P0, ev_sl, kSl_ev, put_1, gAdd_i, gSub_i, gMul_i, gDiv_p, gMod_p, gPow_l, gShl_l, gShr_l, gLt_i, gLe_i, gGt_i, gGe_i, gEq_i, gNe_i, gNeg_i, gAbs_i, gInt_i, gInt_b, gEq_s, gNe_s, gEq_b, gNe_b, gEq_2, gNe_2, gEq_3, gNe_3, gEq_22, gNe_22, DL.R.bind_ok, DL.R.bind_ex, ev_setL, kSetL_ev, ev_lDisp, kDisp_ev, ev_lList, lOf_l, lOf_t, ev_frz, frz_l, frz_d, frz_n, ev_lend, lend_l, lend_d, atom_i, atom_b, atom_s, ev_lendB, lendB_l, lendB_d, ev_app, app_l, kApp_ev, ev_put, put_l, ev_ixO, ixO_l, ixO_d, put_m, putAll_c, putAll_n, ev_lc, kLst_ev, ev_lcL, wipe_n, wipe_c, r1_2, r1_3, bits_ev, List.getElem?_cons_zero, List.getElem?_cons_succ, List.set_cons_zero, List.set_cons_succ, List.length_cons, List.length_nil, List.length_map, List.append_nil, List.cons_append, List.nil_append, ev_if, turn_nx, turn_ct, turn_bk, turn_rt, turn_ite, kWh_ev, isi_int_int, isi_bool_int, isi_int_bool, isi_bool_bool, isi_int_str, isi_int_none, isi_int_list, isi_int_tup, isi_bool_str, isi_bool_none, isi_bool_list, isi_bool_tup, isi_tup_tup, isi_tup_int, isi_tup_bool, isi_tup_str, isi_tup_none, isi_tup_list, isi_list_list, isi_list_tup, isi_list_int, isi_list_bool, isi_list_str, isi_list_none, isi_str_str, isi_str_int, isi_str_bool, isi_str_none, isi_str_list, isi_str_tup, decide_true, decide_false, not_true_eq_false, not_false_eq_true, ne_eq, decide_eq_true_eq, Bool.not_eq_true', decide_eq_false_iff_not, Bool.not_true, Bool.not_false, Bool.false_eq_true, if_true, if_false, reduceIte, c_LEAST_ROOT, c_GREATEST_ROOT, ev_ch, DL.bind2_ok, kCh, gLe_i, w1, c3, c4, e, c]
        · simp +decide only [m_is_root, den_is_root, ev_seq, seq_nx, seq_rt, seq_ex, seq_bk, seq_ct, seq_ite, fl_ok, fl_ex, fl_ite, ev_set, kSet_ev, ev_ret, ev_retN, ev_nx, ev_bk, ev_ct, ev_raise, ev_if, kIf_ev, ev_drop, kNx_ev, ev_par, kPar_ev, kId_ev, ev_asg, kAsg_ev, ev_for, kFor_ev, ev_V, dVg_ok, ev_C, ev_1, ev_2, bind2_ok, bind2_ite1, bind2_ite2, bind_ite, ev_A, ev_nil, ev_cons, kCons_ev, ev_T, toB_ev, ev_and, ev_or, ev_not, kAnd_ev, kOr_ev, kNot_ev, ev_andV, ev_orV, ev_notV, kAndV_ev, kOrV_ev, kNotV_ev, ev_ife, kIfE_ev, ev_ch, kCh, tup_ev, lst_ev, call_ev, kw_ev, ev_kw, ev_fn, startE_0, startE_s, startE_c, fin_rt, fin_nx, fin_ex, fin_ite, ix_t0, ix_t1, ix_t2, ix_t3, ix_l0, ix_l1, ix_l2, len_l, len_t1, len_t2, len_t3, len_t4, beq_self_eq_true, ev_iL, ev_iT, asL_ev, asT_ev, ev_iA, ev_P, toI_ev, ev_P0, ev_sl, kSl_ev, put_1, gAdd_i, gSub_i, gMul_i, gDiv_p, gMod_p, gPow_l, gShl_l, gShr_l, gLt_i, gLe_i, gGt_i, gGe_i, gEq_i, gNe_i, gNeg_i, gAbs_i, gInt_i, gInt_b, gEq_s, gNe_s, gEq_b, gNe_b, gEq_2, gNe_2, gEq_3, gNe_3, gEq_22, gNe_22, DL.R.bind_ok, DL.R.bind_ex, ev_setL, kSetL_ev, ev_lDisp, kDisp_ev, ev_lList, lOf_l, lOf_t, ev_frz, frz_l, frz_d, frz_n, ev_lend, lend_l, lend_d, atom_i, atom_b, atom_s, ev_lendB, lendB_l, lendB_d, ev_app, app_l, kApp_ev, ev_put, put_l, ev_ixO, ixO_l, ixO_d, put_m, putAll_c, putAll_n, ev_lc, kLst_ev, ev_lcL, wipe_n, wipe_c, r1_2, r1_3, bits_ev, List.getElem?_cons_zero, List.getElem?_cons_succ, List.set_cons_zero, List.set_cons_succ, List.length_cons, List.length_nil, List.length_map, List.append_nil, List.cons_append, List.nil_append, ev_if, turn_nx, turn_ct, turn_bk, turn_rt, turn_ite, kWh_ev, isi_int_int, isi_bool_int, isi_int_bool, isi_bool_bool, isi_int_str, isi_int_none, isi_int_list, isi_int_tup, isi_bool_str, isi_bool_none, isi_bool_list, isi_bool_tup, isi_tup_tup, isi_tup_int, isi_tup_bool, isi_tup_str, isi_tup_none, isi_tup_list, isi_list_list, isi_list_tup, isi_list_int, isi_list_bool, isi_list_str, isi_list_none, isi_str_str, isi_str_int, isi_str_bool, isi_str_none, isi_str_list, isi_str_tup, decide_true, decide_false, not_true_eq_false, not_false_eq_true, ne_eq, decide_eq_true_eq, Bool.not_eq_true', decide_eq_false_iff_not, Bool.not_true, Bool.not_false, Bool.false_eq_true, if_true, if_false, reduceIte, c_LEAST_ROOT, c_GREATEST_ROOT, ev_ch, DL.bind2_ok, kCh, gLe_i, w1, c3, c4, e, c]
      · generalize rng 0 10 = RR at *
        simp +decide only [m_law_is_root, den_law_is_root, ev_seq, seq_nx, seq_rt, seq_ex, seq_bk, seq_ct, seq_ite, fl_ok, fl_ex, fl_ite, ev_set, kSet_ev, ev_ret, ev_retN, ev_nx, ev_bk, ev_ct, ev_raise, ev_if, kIf_ev, ev_drop, kNx_ev, ev_par, kPar_ev, kId_ev, ev_asg, kAsg_ev, ev_for, kFor_ev, ev_V, dVg_ok, ev_C, ev_1, ev_2, bind2_ok, bind2_ite1, bind2_ite2, bind_ite, ev_A, ev_nil, ev_cons, kCons_ev, ev_T, toB_ev, ev_and, ev_or, ev_not, kAnd_ev, kOr_ev, kNot_ev, ev_andV, ev_orV, ev_notV, kAndV_ev, kOrV_ev, kNotV_ev, ev_ife, kIfE_ev, ev_ch, kCh, tup_ev, lst_ev, call_ev, kw_ev, ev_kw, ev_fn, startE_0, startE_s, startE_c, fin_rt, fin_nx, fin_ex, fin_ite, ix_t0, ix_t1, ix_t2, ix_t3, ix_l0, ix_l1, ix_l2, len_l, len_t1, len_t2, len_t3, len_t4, beq_self_eq_true, ev_iL, ev_iT, asL_ev, asT_ev, ev_iA, ev_P, toI_ev, ev_P0, ev_sl, kSl_ev, put_1, gAdd_i, gSub_i, gMul_i, gDiv_p, gMod_p, gPow_l, gShl_l, gShr_l, gLt_i, gLe_i, gGt_i, gGe_i, gEq_i, gNe_i, gNeg_i, gAbs_i, gInt_i, gInt_b, gEq_s, gNe_s, gEq_b, gNe_b, gEq_2, gNe_2, gEq_3, gNe_3, gEq_22, gNe_22, DL.R.bind_ok, DL.R.bind_ex, ev_setL, kSetL_ev, ev_lDisp, kDisp_ev, ev_lList, lOf_l, lOf_t, ev_frz, frz_l, frz_d, frz_n, ev_lend, lend_l, lend_d, atom_i, atom_b, atom_s, ev_lendB, lendB_l, lendB_d, ev_app, app_l, kApp_ev, ev_put, put_l, ev_ixO, ixO_l, ixO_d, put_m, putAll_c, putAll_n, ev_lc, kLst_ev, ev_lcL, wipe_n, wipe_c, r1_2, r1_3, bits_ev, List.getElem?_cons_zero, List.getElem?_cons_succ, List.set_cons_zero, List.set_cons_succ, List.length_cons, List.length_nil, List.length_map, List.append_nil, List.cons_append, List.nil_append, ev_if, turn_nx, turn_ct, turn_bk, turn_rt, turn_ite, kWh_ev, isi_int_int, isi_bool_int, isi_int_bool, isi_bool_bool, isi_int_str, isi_int_none, isi_int_list, isi_int_tup, isi_bool_str, isi_bool_none, isi_bool_list, isi_bool_tup, isi_tup_tup, isi_tup_int, isi_tup_bool, isi_tup_str, isi_tup_none, isi_tup_list, isi_list_list, isi_list_tup, isi_list_int, isi_list_bool, isi_list_str, isi_list_none, isi_str_str, isi_str_int, isi_str_bool, isi_str_none, isi_str_list, isi_str_tup, decide_true, decide_false, not_true_eq_false, not_false_eq_true, ne_eq, decide_eq_true_eq, Bool.not_eq_true', decide_eq_false_iff_not, Bool.not_true, Bool.not_false, Bool.false_eq_true, if_true, if_false, reduceIte, w2, c1, c2, r10, kLcL_ev hl, sq, gi]
theorem root_th {d : PD} {g : Bool} (h : Th d g) : ∃ b : Bool, m_is_root [d] = .ok (.bool b) ∧ m_law_is_root [d] = .ok (.bool b) := by
  rcases h with ⟨rfl, z, rfl, bz⟩ | ⟨rfl, h⟩
  · exact root_int z
  · obtain ⟨w1, w2⟩ := odd_whole h
    refine ⟨false, ?_, ?_⟩
    · simp +decide only [m_is_root, den_is_root, ev_seq, seq_nx, seq_rt, seq_ex, seq_bk, seq_ct, seq_ite, fl_ok, fl_ex, fl_ite, ev_set, kSet_ev, ev_ret, ev_retN, ev_nx, ev_bk, ev_ct, ev_raise, ev_if, kIf_ev, ev_drop, kNx_ev, ev_par, kPar_ev, kId_ev, ev_asg, kAsg_ev, ev_for, kFor_ev, ev_V, dVg_ok, ev_C, ev_1, ev_2, bind2_ok, bind2_ite1, bind2_ite2, bind_ite, ev_A, ev_nil, ev_cons, kCons_ev, ev_T, toB_ev, ev_and, ev_or, ev_not, kAnd_ev, kOr_ev, kNot_ev, ev_andV, ev_orV, ev_notV, kAndV_ev, kOrV_ev, kNotV_ev, ev_ife, kIfE_ev, ev_ch, kCh, tup_ev, lst_ev, call_ev, kw_ev, ev_kw, ev_fn, startE_0, startE_s, startE_c, fin_rt, fin_nx, fin_ex, fin_ite, ix_t0, ix_t1, ix_t2, ix_t3, ix_l0, ix_l1, ix_l2, len_l, len_t1, len_t2, len_t3, len_t4, beq_self_eq_true, ev_iL, ev_iT, asL_ev, asT_ev, ev_iA, ev_P, toI_ev, ev_P0, ev_sl, kSl_ev, put_1, gAdd_i, gSub_i, gMul_i, gDiv_p, gMod_p, gPow_l, gShl_l, gShr_l, gLt_i, gLe_i, gGt_i, gGe_i, gEq_i, gNe_i, gNeg_i, gAbs_i, gInt_i, gInt_b, gEq_s, gNe_s, gEq_b, gNe_b, gEq_2, gNe_2, gEq_3, gNe_3, gEq_22, gNe_22, DL.R.bind_ok, DL.R.bind_ex, ev_setL, kSetL_ev, ev_lDisp, kDisp_ev, ev_lList, lOf_l, lOf_t, ev_frz, frz_l, frz_d, frz_n, ev_lend, lend_l, lend_d, atom_i, atom_b, atom_s, ev_lendB, lendB_l, lendB_d, ev_app, app_l, kApp_ev, ev_put, put_l, ev_ixO, ixO_l, ixO_d, put_m, putAll_c, putAll_n, ev_lc, kLst_ev, ev_lcL, wipe_n, wipe_c, r1_2, r1_3, bits_ev, List.getElem?_cons_zero, List.getElem?_cons_succ, List.set_cons_zero, List.set_cons_succ, List.length_cons, List.length_nil, List.length_map, List.append_nil, List.cons_append, List.nil_append, ev_if, turn_nx, turn_ct, turn_bk, turn_rt, turn_ite, kWh_ev, isi_int_int, isi_bool_int, isi_int_bool, isi_bool_bool, isi_int_str, isi_int_none, isi_int_list, isi_int_tup, isi_bool_str, isi_bool_none, isi_bool_list, isi_bool_tup, isi_tup_tup, isi_tup_int, isi_tup_bool, isi_tup_str, isi_tup_none, isi_tup_list, isi_list_list, isi_list_tup, isi_list_int, isi_list_bool, isi_list_str, isi_list_none, isi_str_str, isi_str_int, isi_str_bool, isi_str_none, isi_str_list, isi_str_tup, decide_true, decide_false, not_true_eq_false, not_false_eq_true, ne_eq, decide_eq_true_eq, Bool.not_eq_true', decide_eq_false_iff_not, Bool.not_true, Bool.not_false, Bool.false_eq_true, if_true, if_false, reduceIte, w1]
    · simp +decide only [m_law_is_root, den_law_is_root, ev_seq, seq_nx, seq_rt, seq_ex, seq_bk, seq_ct, seq_ite, fl_ok, fl_ex, fl_ite, ev_set, kSet_ev, ev_ret, ev_retN, ev_nx, ev_bk, ev_ct, ev_raise, ev_if, kIf_ev, ev_drop, kNx_ev, ev_par, kPar_ev, kId_ev, ev_asg, kAsg_ev, ev_for, kFor_ev, ev_V, dVg_ok, ev_C, ev_1, ev_2, bind2_ok, bind2_ite1, bind2_ite2, bind_ite, ev_A, ev_nil, ev_cons, kCons_ev, ev_T, toB_ev, ev_and, ev_or, ev_not, kAnd_ev, kOr_ev, kNot_ev, ev_andV, ev_orV, ev_notV, kAndV_ev, kOrV_ev, kNotV_ev, ev_ife, kIfE_ev, ev_ch, kCh, tup_ev, lst_ev, call_ev, kw_ev, ev_kw, ev_fn, startE_0, startE_s, startE_c, fin_rt, fin_nx, fin_ex, fin_ite, ix_t0, ix_t1, ix_t2, ix_t3, ix_l0, ix_l1, ix_l2, len_l, len_t1, len_t2, len_t3, len_t4, beq_self_eq_true, ev_iL, ev_iT, asL_ev, asT_ev, ev_iA, ev_P, toI_ev, ev_P0, ev_sl, kSl_ev, put_1, gAdd_i, gSub_i, gMul_i, gDiv_p, gMod_p, gPow_l, gShl_l, gShr_l, gLt_i, gLe_i, gGt_i, gGe_i, gEq_i, gNe_i, gNeg_i, gAbs_i, gInt_i, gInt_b, gEq_s, gNe_s, gEq_b, gNe_b, gEq_2, gNe_2, gEq_3, gNe_3, gEq_22, gNe_22, DL.R.bind_ok, DL.R.bind_ex, ev_setL, kSetL_ev, ev_lDisp, kDisp_ev, ev_lList, lOf_l, lOf_t, ev_frz, frz_l, frz_d, frz_n, ev_lend, lend_l, lend_d, atom_i, atom_b, atom_s, ev_lendB, lendB_l, lendB_d, ev_app, app_l, kApp_ev, ev_put, put_l, ev_ixO, ixO_l, ixO_d, put_m, putAll_c, putAll_n, ev_lc, kLst_ev, ev_lcL, wipe_n, wipe_c, r1_2, r1_3, bits_ev, List.getElem?_cons_zero, List.getElem?_cons_succ, List.set_cons_zero, List.set_cons_succ, List.length_cons, List.length_nil, List.length_map, List.append_nil, List.cons_append, List.nil_append, ev_if, turn_nx, turn_ct, turn_bk, turn_rt, turn_ite, kWh_ev, isi_int_int, isi_bool_int, isi_int_bool, isi_bool_bool, isi_int_str, isi_int_none, isi_int_list, isi_int_tup, isi_bool_str, isi_bool_none, isi_bool_list, isi_bool_tup, isi_tup_tup, isi_tup_int, isi_tup_bool, isi_tup_str, isi_tup_none, isi_tup_list, isi_list_list, isi_list_tup, isi_list_int, isi_list_bool, isi_list_str, isi_list_none, isi_str_str, isi_str_int, isi_str_bool, isi_str_none, isi_str_list, isi_str_tup, decide_true, decide_false, not_true_eq_false, not_false_eq_true, ne_eq, decide_eq_true_eq, Bool.not_eq_true', decide_eq_false_iff_not, Bool.not_true, Bool.not_false, Bool.false_eq_true, if_true, if_false, reduceIte, w2]
theorem law_truth_b (b : Bool) : m_law_truth [.bool b, .bool b] = .ok (.bool true) := by
  simp +decide only [m_law_truth, den_law_truth, ev_seq, seq_nx, seq_rt, seq_ex, seq_bk, seq_ct, seq_ite, fl_ok, fl_ex, fl_ite, ev_set, kSet_ev, ev_ret, ev_retN, ev_nx, ev_bk, ev_ct, ev_raise, ev_if, kIf_ev, ev_drop, kNx_ev, ev_par, kPar_ev, kId_ev, ev_asg, kAsg_ev, ev_for, kFor_ev, ev_V, dVg_ok, ev_C, ev_1, ev_2, bind2_ok, bind2_ite1, bind2_ite2, bind_ite, ev_A, ev_nil, ev_cons, kCons_ev, ev_T, toB_ev, ev_and, ev_or, ev_not, kAnd_ev, kOr_ev, kNot_ev, ev_andV, ev_orV, ev_notV, kAndV_ev, kOrV_ev, kNotV_ev, ev_ife, kIfE_ev, ev_ch, kCh, tup_ev, lst_ev, call_ev, kw_ev, ev_kw, ev_fn, startE_0, startE_s, startE_c, fin_rt, fin_nx, fin_ex, fin_ite, ix_t0, ix_t1, ix_t2, ix_t3, ix_l0, ix_l1, ix_l2, len_l, len_t1, len_t2, len_t3, len_t4, beq_self_eq_true, ev_iL, ev_iT, asL_ev, asT_ev, ev_iA, ev_P, toI_ev, ev_P0, ev_sl, kSl_ev, put_1, gAdd_i, gSub_i, gMul_i, gDiv_p, gMod_p, gPow_l, gShl_l, gShr_l, gLt_i, gLe_i, gGt_i, gGe_i, gEq_i, gNe_i, gNeg_i, gAbs_i, gInt_i, gInt_b, gEq_s, gNe_s, gEq_b, gNe_b, gEq_2, gNe_2, gEq_3, gNe_3, gEq_22, gNe_22, DL.R.bind_ok, DL.R.bind_ex, ev_setL, kSetL_ev, ev_lDisp, kDisp_ev, ev_lList, lOf_l, lOf_t, ev_frz, frz_l, frz_d, frz_n, ev_lend, lend_l, lend_d, atom_i, atom_b, atom_s, ev_lendB, lendB_l, lendB_d, ev_app, app_l, kApp_ev, ev_put, put_l, ev_ixO, ixO_l, ixO_d, put_m, putAll_c, putAll_n, ev_lc, kLst_ev, ev_lcL, wipe_n, wipe_c, r1_2, r1_3, bits_ev, List.getElem?_cons_zero, List.getElem?_cons_succ, List.set_cons_zero, List.set_cons_succ, List.length_cons, List.length_nil, List.length_map, List.append_nil, List.cons_append, List.nil_append, ev_if, turn_nx, turn_ct, turn_bk, turn_rt, turn_ite, kWh_ev, isi_int_int, isi_bool_int, isi_int_bool, isi_bool_bool, isi_int_str, isi_int_none, isi_int_list, isi_int_tup, isi_bool_str, isi_bool_none, isi_bool_list, isi_bool_tup, isi_tup_tup, isi_tup_int, isi_tup_bool, isi_tup_str, isi_tup_none, isi_tup_list, isi_list_list, isi_list_tup, isi_list_int, isi_list_bool, isi_list_str, isi_list_none, isi_str_str, isi_str_int, isi_str_bool, isi_str_none, isi_str_list, isi_str_tup, decide_true, decide_false, not_true_eq_false, not_false_eq_true, ne_eq, decide_eq_true_eq, Bool.not_eq_true', decide_eq_false_iff_not, Bool.not_true, Bool.not_false, Bool.false_eq_true, if_true, if_false, reduceIte]
/-! a length of three things -/
theorem length_bad {d1 d2 d3 : PD} {g1 g2 g3 : Bool} (h1 : Th d1 g1) (h2 : Th d2 g2) (h3 : Th d3 g3) (h : g1 = false ∨ g2 = false ∨ g3 = false ∨ d3 = .int 0) : m_length [d1, d2, d3] = .ex "NoLength" := by
  obtain ⟨w1, _⟩ := th_whole h1
  obtain ⟨w2, _⟩ := th_whole h2
  obtain ⟨w3, _⟩ := th_whole h3
  cases g1 with
  | false => simp +decide only [m_length, den_length, ev_seq, seq_nx, seq_rt, seq_ex, seq_bk, seq_ct, seq_ite, fl_ok, fl_ex, fl_ite, ev_set, kSet_ev, ev_ret, ev_retN, ev_nx, ev_bk, ev_ct, ev_raise, ev_if, kIf_ev, ev_drop, kNx_ev, ev_par, kPar_ev, kId_ev, ev_asg, kAsg_ev, ev_for, kFor_ev, ev_V, dVg_ok, ev_C, ev_1, ev_2, bind2_ok, bind2_ite1, bind2_ite2, bind_ite, ev_A, ev_nil, ev_cons, kCons_ev, ev_T, toB_ev, ev_and, ev_or, ev_not, kAnd_ev, kOr_ev, kNot_ev, ev_andV, ev_orV, ev_notV, kAndV_ev, kOrV_ev, kNotV_ev, ev_ife, kIfE_ev, ev_ch, kCh, tup_ev, lst_ev, call_ev, kw_ev, ev_kw, ev_fn, startE_0, startE_s, startE_c, fin_rt, fin_nx, fin_ex, fin_ite, ix_t0, ix_t1, ix_t2, ix_t3, ix_l0, ix_l1, ix_l2, len_l, len_t1, len_t2, len_t3, len_t4, beq_self_eq_true, ev_iL, ev_iT, asL_ev, asT_ev, ev_iA, ev_P, toI_ev, ev_P0, ev_sl, kSl_ev, put_1, gAdd_i, gSub_i, gMul_i, gDiv_p, gMod_p, gPow_l, gShl_l, gShr_l, gLt_i, gLe_i, gGt_i, gGe_i, gEq_i, gNe_i, gNeg_i, gAbs_i, gInt_i, gInt_b, gEq_s, gNe_s, gEq_b, gNe_b, gEq_2, gNe_2, gEq_3, gNe_3, gEq_22, gNe_22, DL.R.bind_ok, DL.R.bind_ex, ev_setL, kSetL_ev, ev_lDisp, kDisp_ev, ev_lList, lOf_l, lOf_t, ev_frz, frz_l, frz_d, frz_n, ev_lend, lend_l, lend_d, atom_i, atom_b, atom_s, ev_lendB, lendB_l, lendB_d, ev_app, app_l, kApp_ev, ev_put, put_l, ev_ixO, ixO_l, ixO_d, put_m, putAll_c, putAll_n, ev_lc, kLst_ev, ev_lcL, wipe_n, wipe_c, r1_2, r1_3, bits_ev, List.getElem?_cons_zero, List.getElem?_cons_succ, List.set_cons_zero, List.set_cons_succ, List.length_cons, List.length_nil, List.length_map, List.append_nil, List.cons_append, List.nil_append, ev_if, turn_nx, turn_ct, turn_bk, turn_rt, turn_ite, kWh_ev, isi_int_int, isi_bool_int, isi_int_bool, isi_bool_bool, isi_int_str, isi_int_none, isi_int_list, isi_int_tup, isi_bool_str, isi_bool_none, isi_bool_list, isi_bool_tup, isi_tup_tup, isi_tup_int, isi_tup_bool, isi_tup_str, isi_tup_none, isi_tup_list, isi_list_list, isi_list_tup, isi_list_int, isi_list_bool, isi_list_str, isi_list_none, isi_str_str, isi_str_int, isi_str_bool, isi_str_none, isi_str_list, isi_str_tup, decide_true, decide_false, not_true_eq_false, not_false_eq_true, ne_eq, decide_eq_true_eq, Bool.not_eq_true', decide_eq_false_iff_not, Bool.not_true, Bool.not_false, Bool.false_eq_true, if_true, if_false, reduceIte, w1]
  | true => cases g2 with
    | false => simp +decide only [m_length, den_length, ev_seq, seq_nx, seq_rt, seq_ex, seq_bk, seq_ct, seq_ite, fl_ok, fl_ex, fl_ite, ev_set, kSet_ev, ev_ret, ev_retN, ev_nx, ev_bk, ev_ct, ev_raise, ev_if, kIf_ev, ev_drop, kNx_ev, ev_par, kPar_ev, kId_ev, ev_asg, kAsg_ev, ev_for, kFor_ev, ev_V, dVg_ok, ev_C, ev_1, ev_2, bind2_ok, bind2_ite1, bind2_ite2, bind_ite, ev_A, ev_nil, ev_cons, kCons_ev, ev_T, toB_ev, ev_and, ev_or, ev_not, kAnd_ev, kOr_ev, kNot_ev, ev_andV, ev_orV, ev_notV, kAndV_ev, kOrV_ev, kNotV_ev, ev_ife, kIfE_ev, ev_ch, kCh, tup_ev, lst_ev, call_ev, kw_ev, ev_kw, ev_fn, startE_0, startE_s, startE_c, fin_rt, fin_nx, fin_ex, fin_ite, ix_t0, ix_t1, ix_t2, ix_t3, ix_l0, ix_l1, ix_l2, len_l, len_t1, len_t2, len_t3, len_t4, beq_self_eq_true, ev_iL, ev_iT, asL_ev, asT_ev, ev_iA, ev_P, toI_ev, ev_P0, ev_sl, kSl_ev, put_1, gAdd_i, gSub_i, gMul_i, gDiv_p, gMod_p, gPow_l, gShl_l, gShr_l, gLt_i, gLe_i, gGt_i, gGe_i, gEq_i, gNe_i, gNeg_i, gAbs_i, gInt_i, gInt_b, gEq_s, gNe_s, gEq_b, gNe_b, gEq_2, gNe_2, gEq_3, gNe_3, gEq_22, gNe_22, DL.R.bind_ok, DL.R.bind_ex, ev_setL, kSetL_ev, ev_lDisp, kDisp_ev, ev_lList, lOf_l, lOf_t, ev_frz, frz_l, frz_d, frz_n, ev_lend, lend_l, lend_d, atom_i, atom_b, atom_s, ev_lendB, lendB_l, lendB_d, ev_app, app_l, kApp_ev, ev_put, put_l, ev_ixO, ixO_l, ixO_d, put_m, putAll_c, putAll_n, ev_lc, kLst_ev, ev_lcL, wipe_n, wipe_c, r1_2, r1_3, bits_ev, List.getElem?_cons_zero, List.getElem?_cons_succ, List.set_cons_zero, List.set_cons_succ, List.length_cons, List.length_nil, List.length_map, List.append_nil, List.cons_append, List.nil_append, ev_if, turn_nx, turn_ct, turn_bk, turn_rt, turn_ite, kWh_ev, isi_int_int, isi_bool_int, isi_int_bool, isi_bool_bool, isi_int_str, isi_int_none, isi_int_list, isi_int_tup, isi_bool_str, isi_bool_none, isi_bool_list, isi_bool_tup, isi_tup_tup, isi_tup_int, isi_tup_bool, isi_tup_str, isi_tup_none, isi_tup_list, isi_list_list, isi_list_tup, isi_list_int, isi_list_bool, isi_list_str, isi_list_none, isi_str_str, isi_str_int, isi_str_bool, isi_str_none, isi_str_list, isi_str_tup, decide_true, decide_false, not_true_eq_false, not_false_eq_true, ne_eq, decide_eq_true_eq, Bool.not_eq_true', decide_eq_false_iff_not, Bool.not_true, Bool.not_false, Bool.false_eq_true, if_true, if_false, reduceIte, w1, w2]
    | true => cases g3 with
      | false => simp +decide only [m_length, den_length, ev_seq, seq_nx, seq_rt, seq_ex, seq_bk, seq_ct, seq_ite, fl_ok, fl_ex, fl_ite, ev_set, kSet_ev, ev_ret, ev_retN, ev_nx, ev_bk, ev_ct, ev_raise, ev_if, kIf_ev, ev_drop, kNx_ev, ev_par, kPar_ev, kId_ev, ev_asg, kAsg_ev, ev_for, kFor_ev, ev_V, dVg_ok, ev_C, ev_1, ev_2, bind2_ok, bind2_ite1, bind2_ite2, bind_ite, ev_A, ev_nil, ev_cons, kCons_ev, ev_T, toB_ev, ev_and, ev_or, ev_not, kAnd_ev, kOr_ev, kNot_ev, ev_andV, ev_orV, ev_notV, kAndV_ev, kOrV_ev, kNotV_ev, ev_ife, kIfE_ev, ev_ch, kCh, tup_ev, lst_ev, call_ev, kw_ev, ev_kw, ev_fn, startE_0, startE_s, startE_c, fin_rt, fin_nx, fin_ex, fin_ite, ix_t0, ix_t1, ix_t2, ix_t3, ix_l0, ix_l1, ix_l2, len_l, len_t1, len_t2, len_t3, len_t4, beq_self_eq_true, ev_iL, ev_iT, asL_ev, asT_ev, ev_iA, ev_P, toI_ev, ev_P0, ev_sl, kSl_ev, put_1, gAdd_i, gSub_i, gMul_i, gDiv_p, gMod_p, gPow_l, gShl_l, gShr_l, gLt_i, gLe_i, gGt_i, gGe_i, gEq_i, gNe_i, gNeg_i, gAbs_i, gInt_i, gInt_b, gEq_s, gNe_s, gEq_b, gNe_b, gEq_2, gNe_2, gEq_3, gNe_3, gEq_22, gNe_22, DL.R.bind_ok, DL.R.bind_ex, ev_setL, kSetL_ev, ev_lDisp, kDisp_ev, ev_lList, lOf_l, lOf_t, ev_frz, frz_l, frz_d, frz_n, ev_lend, lend_l, lend_d, atom_i, atom_b, atom_s, ev_lendB, lendB_l, lendB_d, ev_app, app_l, kApp_ev, ev_put, put_l, ev_ixO, ixO_l, ixO_d, put_m, putAll_c, putAll_n, ev_lc, kLst_ev, ev_lcL, wipe_n, wipe_c, r1_2, r1_3, bits_ev, List.getElem?_cons_zero, List.getElem?_cons_succ, List.set_cons_zero, List.set_cons_succ, List.length_cons, List.length_nil, List.length_map, List.append_nil, List.cons_append, List.nil_append, ev_if, turn_nx, turn_ct, turn_bk, turn_rt, turn_ite, kWh_ev, isi_int_int, isi_bool_int, isi_int_bool, isi_bool_bool, isi_int_str, isi_int_none, isi_int_list, isi_int_tup, isi_bool_str, isi_bool_none, isi_bool_list, isi_bool_tup, isi_tup_tup, isi_tup_int, isi_tup_bool, isi_tup_str, isi_tup_none, isi_tup_list, isi_list_list, isi_list_tup, isi_list_int, isi_list_bool, isi_list_str, isi_list_none, isi_str_str, isi_str_int, isi_str_bool, isi_str_none, isi_str_list, isi_str_tup, decide_true, decide_false, not_true_eq_false, not_false_eq_true, ne_eq, decide_eq_true_eq, Bool.not_eq_true', decide_eq_false_iff_not, Bool.not_true, Bool.not_false, Bool.false_eq_true, if_true, if_false, reduceIte, w1, w2, w3]
      | true =>
        have h0 : d3 = .int 0 := by simpa using h
        subst h0
        simp +decide only [m_length, den_length, ev_seq, seq_nx, seq_rt, seq_ex, seq_bk, seq_ct, seq_ite, fl_ok, fl_ex, fl_ite, ev_set, kSet_ev, ev_ret, ev_retN, ev_nx, ev_bk, ev_ct, ev_raise, ev_if, kIf_ev, ev_drop, kNx_ev, ev_par, kPar_ev, kId_ev, ev_asg, kAsg_ev, ev_for, kFor_ev, ev_V, dVg_ok, ev_C, ev_1, ev_2, bind2_ok, bind2_ite1, bind2_ite2, bind_ite, ev_A, ev_nil, ev_cons, kCons_ev, ev_T, toB_ev, ev_and, ev_or, ev_not, kAnd_ev, kOr_ev, kNot_ev, ev_andV, ev_orV, ev_notV, kAndV_ev, kOrV_ev, kNotV_ev, ev_ife, kIfE_ev, ev_ch, kCh, tup_ev, lst_ev, call_ev, kw_ev, ev_kw, ev_fn, startE_0, startE_s, startE_c, fin_rt, fin_nx, fin_ex, fin_ite, ix_t0, ix_t1, ix_t2, ix_t3, ix_l0, ix_l1, ix_l2, len_l, len_t1, len_t2, len_t3, len_t4, beq_self_eq_true, ev_iL, ev_iT, asL_ev, asT_ev, ev_iA, ev_P, toI_ev, ev_P0, ev_sl, kSl_ev, put_1, gAdd_i, gSub_i, gMul_i, gDiv_p, gMod_p, gPow_l, gShl_l, gShr_l, gLt_i, gLe_i, gGt_i, gGe_i, gEq_i, gNe_i, gNeg_i, gAbs_i, gInt_i, gInt_b, gEq_s, gNe_s, gEq_b, gNe_b, gEq_2, gNe_2, gEq_3, gNe_3, gEq_22, gNe_22, DL.R.bind_ok, DL.R.bind_ex, ev_setL, kSetL_ev, ev_lDisp, kDisp_ev, ev_lList, lOf_l, lOf_t, ev_frz, frz_l, frz_d, frz_n, ev_lend, lend_l, lend_d, atom_i, atom_b, atom_s, ev_lendB, lendB_l, lendB_d, ev_app, app_l, kApp_ev, ev_put, put_l, ev_ixO, ixO_l, ixO_d, put_m, putAll_c, putAll_n, ev_lc, kLst_ev, ev_lcL, wipe_n, wipe_c, r1_2, r1_3, bits_ev, List.getElem?_cons_zero, List.getElem?_cons_succ, List.set_cons_zero, List.set_cons_succ, List.length_cons, List.length_nil, List.length_map, List.append_nil, List.cons_append, List.nil_append, ev_if, turn_nx, turn_ct, turn_bk, turn_rt, turn_ite, kWh_ev, isi_int_int, isi_bool_int, isi_int_bool, isi_bool_bool, isi_int_str, isi_int_none, isi_int_list, isi_int_tup, isi_bool_str, isi_bool_none, isi_bool_list, isi_bool_tup, isi_tup_tup, isi_tup_int, isi_tup_bool, isi_tup_str, isi_tup_none, isi_tup_list, isi_list_list, isi_list_tup, isi_list_int, isi_list_bool, isi_list_str, isi_list_none, isi_str_str, isi_str_int, isi_str_bool, isi_str_none, isi_str_list, isi_str_tup, decide_true, decide_false, not_true_eq_false, not_false_eq_true, ne_eq, decide_eq_true_eq, Bool.not_eq_true', decide_eq_false_iff_not, Bool.not_true, Bool.not_false, Bool.false_eq_true, if_true, if_false, reduceIte, w1, w2, w3]
theorem length_good {a b n : Int} [bn : Bd n 1400] (h : n ≠ 0) : ∃ t : PD, m_length [.int a, .int b, .int n] = .ok t := ⟨_, length_eq a b n h (by decide)⟩
/-! what is refused -/
theorem refused1 {d1 : PD} {g1 : Bool} (h1 : Th d1 g1) : m_law_refused_v2 [.list [d1]] = .ok (.bool (!g1)) := by
  have t0 : Th (.int 0) true := .inl ⟨rfl, 0, rfl, (show Bd (0 : Int) 8 from ⟨by decide⟩).mono (by decide)⟩
  have t1 : Th (.int 1) true := .inl ⟨rfl, 1, rfl, (show Bd (1 : Int) 8 from ⟨by decide⟩).mono (by decide)⟩
  have a := law_alone_NoLength
  have m1 : ("NoLength" : Str) ∈ xl_be93e3 := by decide
  have i1 : gIsE xl_be93e3 "NoLength" (exD "NoLength") = .ok (.bool (subX "NoLength" "NoLength")) := isE_ev (by decide)
  have s1 : subX "NoLength" "NoLength" = true := by decide
  have s2 : subX "NoLength" "YardError" = true := subX_Y
  cases hg : g1 with
  | false =>
    have e := length_bad h1 t0 t1 (.inl hg)
    simp +decide only [m_law_refused_v2, den_law_refused_v2, ev_seq, seq_nx, seq_rt, seq_ex, seq_bk, seq_ct, seq_ite, fl_ok, fl_ex, fl_ite, ev_set, kSet_ev, ev_ret, ev_retN, ev_nx, ev_bk, ev_ct, ev_raise, ev_if, kIf_ev, ev_drop, kNx_ev, ev_par, kPar_ev, kId_ev, ev_asg, kAsg_ev, ev_for, kFor_ev, ev_V, dVg_ok, ev_C, ev_1, ev_2, bind2_ok, bind2_ite1, bind2_ite2, bind_ite, ev_A, ev_nil, ev_cons, kCons_ev, ev_T, toB_ev, ev_and, ev_or, ev_not, kAnd_ev, kOr_ev, kNot_ev, ev_andV, ev_orV, ev_notV, kAndV_ev, kOrV_ev, kNotV_ev, ev_ife, kIfE_ev, ev_ch, kCh, tup_ev, lst_ev, call_ev, kw_ev, ev_kw, ev_fn, startE_0, startE_s, startE_c, fin_rt, fin_nx, fin_ex, fin_ite, ix_t0, ix_t1, ix_t2, ix_t3, ix_l0, ix_l1, ix_l2, len_l, len_t1, len_t2, len_t3, len_t4, beq_self_eq_true, ev_iL, ev_iT, asL_ev, asT_ev, ev_iA, ev_P, toI_ev, ev_P0, ev_sl, kSl_ev, put_1, gAdd_i, gSub_i, gMul_i, gDiv_p, gMod_p, gPow_l, gShl_l, gShr_l, gLt_i, gLe_i, gGt_i, gGe_i, gEq_i, gNe_i, gNeg_i, gAbs_i, gInt_i, gInt_b, gEq_s, gNe_s, gEq_b, gNe_b, gEq_2, gNe_2, gEq_3, gNe_3, gEq_22, gNe_22, DL.R.bind_ok, DL.R.bind_ex, ev_setL, kSetL_ev, ev_lDisp, kDisp_ev, ev_lList, lOf_l, lOf_t, ev_frz, frz_l, frz_d, frz_n, ev_lend, lend_l, lend_d, atom_i, atom_b, atom_s, ev_lendB, lendB_l, lendB_d, ev_app, app_l, kApp_ev, ev_put, put_l, ev_ixO, ixO_l, ixO_d, put_m, putAll_c, putAll_n, ev_lc, kLst_ev, ev_lcL, wipe_n, wipe_c, r1_2, r1_3, bits_ev, List.getElem?_cons_zero, List.getElem?_cons_succ, List.set_cons_zero, List.set_cons_succ, List.length_cons, List.length_nil, List.length_map, List.append_nil, List.cons_append, List.nil_append, ev_if, turn_nx, turn_ct, turn_bk, turn_rt, turn_ite, kWh_ev, isi_int_int, isi_bool_int, isi_int_bool, isi_bool_bool, isi_int_str, isi_int_none, isi_int_list, isi_int_tup, isi_bool_str, isi_bool_none, isi_bool_list, isi_bool_tup, isi_tup_tup, isi_tup_int, isi_tup_bool, isi_tup_str, isi_tup_none, isi_tup_list, isi_list_list, isi_list_tup, isi_list_int, isi_list_bool, isi_list_str, isi_list_none, isi_str_str, isi_str_int, isi_str_bool, isi_str_none, isi_str_list, isi_str_tup, decide_true, decide_false, not_true_eq_false, not_false_eq_true, ne_eq, decide_eq_true_eq, Bool.not_eq_true', decide_eq_false_iff_not, Bool.not_true, Bool.not_false, Bool.false_eq_true, if_true, if_false, reduceIte, ev_tryK, e, a, m1, i1, s1, s2, isN_ex, and_self]
  | true =>
    rcases h1 with ⟨_, z, rfl, _⟩ | ⟨q, _⟩
    · obtain ⟨t, e⟩ := length_good (a := z) (b := 0) (n := 1) (bn := (show Bd (1 : Int) 8 from ⟨by decide⟩).mono (by decide)) (by decide)
      simp +decide only [m_law_refused_v2, den_law_refused_v2, ev_seq, seq_nx, seq_rt, seq_ex, seq_bk, seq_ct, seq_ite, fl_ok, fl_ex, fl_ite, ev_set, kSet_ev, ev_ret, ev_retN, ev_nx, ev_bk, ev_ct, ev_raise, ev_if, kIf_ev, ev_drop, kNx_ev, ev_par, kPar_ev, kId_ev, ev_asg, kAsg_ev, ev_for, kFor_ev, ev_V, dVg_ok, ev_C, ev_1, ev_2, bind2_ok, bind2_ite1, bind2_ite2, bind_ite, ev_A, ev_nil, ev_cons, kCons_ev, ev_T, toB_ev, ev_and, ev_or, ev_not, kAnd_ev, kOr_ev, kNot_ev, ev_andV, ev_orV, ev_notV, kAndV_ev, kOrV_ev, kNotV_ev, ev_ife, kIfE_ev, ev_ch, kCh, tup_ev, lst_ev, call_ev, kw_ev, ev_kw, ev_fn, startE_0, startE_s, startE_c, fin_rt, fin_nx, fin_ex, fin_ite, ix_t0, ix_t1, ix_t2, ix_t3, ix_l0, ix_l1, ix_l2, len_l, len_t1, len_t2, len_t3, len_t4, beq_self_eq_true, ev_iL, ev_iT, asL_ev, asT_ev, ev_iA, ev_P, toI_ev, ev_P0, ev_sl, kSl_ev, put_1, gAdd_i, gSub_i, gMul_i, gDiv_p, gMod_p, gPow_l, gShl_l, gShr_l, gLt_i, gLe_i, gGt_i, gGe_i, gEq_i, gNe_i, gNeg_i, gAbs_i, gInt_i, gInt_b, gEq_s, gNe_s, gEq_b, gNe_b, gEq_2, gNe_2, gEq_3, gNe_3, gEq_22, gNe_22, DL.R.bind_ok, DL.R.bind_ex, ev_setL, kSetL_ev, ev_lDisp, kDisp_ev, ev_lList, lOf_l, lOf_t, ev_frz, frz_l, frz_d, frz_n, ev_lend, lend_l, lend_d, atom_i, atom_b, atom_s, ev_lendB, lendB_l, lendB_d, ev_app, app_l, kApp_ev, ev_put, put_l, ev_ixO, ixO_l, ixO_d, put_m, putAll_c, putAll_n, ev_lc, kLst_ev, ev_lcL, wipe_n, wipe_c, r1_2, r1_3, bits_ev, List.getElem?_cons_zero, List.getElem?_cons_succ, List.set_cons_zero, List.set_cons_succ, List.length_cons, List.length_nil, List.length_map, List.append_nil, List.cons_append, List.nil_append, ev_if, turn_nx, turn_ct, turn_bk, turn_rt, turn_ite, kWh_ev, isi_int_int, isi_bool_int, isi_int_bool, isi_bool_bool, isi_int_str, isi_int_none, isi_int_list, isi_int_tup, isi_bool_str, isi_bool_none, isi_bool_list, isi_bool_tup, isi_tup_tup, isi_tup_int, isi_tup_bool, isi_tup_str, isi_tup_none, isi_tup_list, isi_list_list, isi_list_tup, isi_list_int, isi_list_bool, isi_list_str, isi_list_none, isi_str_str, isi_str_int, isi_str_bool, isi_str_none, isi_str_list, isi_str_tup, decide_true, decide_false, not_true_eq_false, not_false_eq_true, ne_eq, decide_eq_true_eq, Bool.not_eq_true', decide_eq_false_iff_not, Bool.not_true, Bool.not_false, Bool.false_eq_true, if_true, if_false, reduceIte, ev_tryK, e, isN_nn]
    · rw [hg] at q; cases q
theorem refused2 {d1 d2 : PD} {g1 g2 : Bool} (h1 : Th d1 g1) (h2 : Th d2 g2) : m_law_refused_v2 [.list [d1, d2]] = .ok (.bool (!(g1 && g2))) := by
  have t1 : Th (.int 1) true := .inl ⟨rfl, 1, rfl, (show Bd (1 : Int) 8 from ⟨by decide⟩).mono (by decide)⟩
  have a := law_alone_NoLength
  have m1 : ("NoLength" : Str) ∈ xl_be93e3 := by decide
  have i1 : gIsE xl_be93e3 "NoLength" (exD "NoLength") = .ok (.bool (subX "NoLength" "NoLength")) := isE_ev (by decide)
  have s1 : subX "NoLength" "NoLength" = true := by decide
  have s2 : subX "NoLength" "YardError" = true := subX_Y
  by_cases hg : g1 = false ∨ g2 = false
  · have e := length_bad h1 h2 t1 (hg.elim .inl fun w => .inr (.inl w))
    have hb : (!(g1 && g2)) = true := by rcases hg with rfl | rfl <;> simp
    rw [hb]
    simp +decide only [m_law_refused_v2, den_law_refused_v2, ev_seq, seq_nx, seq_rt, seq_ex, seq_bk, seq_ct, seq_ite, fl_ok, fl_ex, fl_ite, ev_set, kSet_ev, ev_ret, ev_retN, ev_nx, ev_bk, ev_ct, ev_raise, ev_if, kIf_ev, ev_drop, kNx_ev, ev_par, kPar_ev, kId_ev, ev_asg, kAsg_ev, ev_for, kFor_ev, ev_V, dVg_ok, ev_C, ev_1, ev_2, bind2_ok, bind2_ite1, bind2_ite2, bind_ite, ev_A, ev_nil, ev_cons, kCons_ev, ev_T, toB_ev, ev_and, ev_or, ev_not, kAnd_ev, kOr_ev, kNot_ev, ev_andV, ev_orV, ev_notV, kAndV_ev, kOrV_ev, kNotV_ev, ev_ife, kIfE_ev, ev_ch, kCh, tup_ev, lst_ev, call_ev, kw_ev, ev_kw, ev_fn, startE_0, startE_s, startE_c, fin_rt, fin_nx, fin_ex, fin_ite, ix_t0, ix_t1, ix_t2, ix_t3, ix_l0, ix_l1, ix_l2, len_l, len_t1, len_t2, len_t3, len_t4, beq_self_eq_true, ev_iL, ev_iT, asL_ev, asT_ev, ev_iA, ev_P, toI_ev, ev_P0, ev_sl, kSl_ev, put_1, gAdd_i, gSub_i, gMul_i, gDiv_p, gMod_p, gPow_l, gShl_l, gShr_l, gLt_i, gLe_i, gGt_i, gGe_i, gEq_i, gNe_i, gNeg_i, gAbs_i, gInt_i, gInt_b, gEq_s, gNe_s, gEq_b, gNe_b, gEq_2, gNe_2, gEq_3, gNe_3, gEq_22, gNe_22, DL.R.bind_ok, DL.R.bind_ex, ev_setL, kSetL_ev, ev_lDisp, kDisp_ev, ev_lList, lOf_l, lOf_t, ev_frz, frz_l, frz_d, frz_n, ev_lend, lend_l, lend_d, atom_i, atom_b, atom_s, ev_lendB, lendB_l, lendB_d, ev_app, app_l, kApp_ev, ev_put, put_l, ev_ixO, ixO_l, ixO_d, put_m, putAll_c, putAll_n, ev_lc, kLst_ev, ev_lcL, wipe_n, wipe_c, r1_2, r1_3, bits_ev, List.getElem?_cons_zero, List.getElem?_cons_succ, List.set_cons_zero, List.set_cons_succ, List.length_cons, List.length_nil, List.length_map, List.append_nil, List.cons_append, List.nil_append, ev_if, turn_nx, turn_ct, turn_bk, turn_rt, turn_ite, kWh_ev, isi_int_int, isi_bool_int, isi_int_bool, isi_bool_bool, isi_int_str, isi_int_none, isi_int_list, isi_int_tup, isi_bool_str, isi_bool_none, isi_bool_list, isi_bool_tup, isi_tup_tup, isi_tup_int, isi_tup_bool, isi_tup_str, isi_tup_none, isi_tup_list, isi_list_list, isi_list_tup, isi_list_int, isi_list_bool, isi_list_str, isi_list_none, isi_str_str, isi_str_int, isi_str_bool, isi_str_none, isi_str_list, isi_str_tup, decide_true, decide_false, not_true_eq_false, not_false_eq_true, ne_eq, decide_eq_true_eq, Bool.not_eq_true', decide_eq_false_iff_not, Bool.not_true, Bool.not_false, Bool.false_eq_true, if_true, if_false, reduceIte, ev_tryK, e, a, m1, i1, s1, s2, isN_ex, and_self]
  · rcases h1 with ⟨rfl, z, rfl, _⟩ | ⟨q, _⟩
    · rcases h2 with ⟨rfl, y, rfl, _⟩ | ⟨q, _⟩
      · obtain ⟨t, e⟩ := length_good (a := z) (b := y) (n := 1) (bn := (show Bd (1 : Int) 8 from ⟨by decide⟩).mono (by decide)) (by decide)
        have hb : (!(true && true)) = false := rfl
        rw [hb]
        simp +decide only [m_law_refused_v2, den_law_refused_v2, ev_seq, seq_nx, seq_rt, seq_ex, seq_bk, seq_ct, seq_ite, fl_ok, fl_ex, fl_ite, ev_set, kSet_ev, ev_ret, ev_retN, ev_nx, ev_bk, ev_ct, ev_raise, ev_if, kIf_ev, ev_drop, kNx_ev, ev_par, kPar_ev, kId_ev, ev_asg, kAsg_ev, ev_for, kFor_ev, ev_V, dVg_ok, ev_C, ev_1, ev_2, bind2_ok, bind2_ite1, bind2_ite2, bind_ite, ev_A, ev_nil, ev_cons, kCons_ev, ev_T, toB_ev, ev_and, ev_or, ev_not, kAnd_ev, kOr_ev, kNot_ev, ev_andV, ev_orV, ev_notV, kAndV_ev, kOrV_ev, kNotV_ev, ev_ife, kIfE_ev, ev_ch, kCh, tup_ev, lst_ev, call_ev, kw_ev, ev_kw, ev_fn, startE_0, startE_s, startE_c, fin_rt, fin_nx, fin_ex, fin_ite, ix_t0, ix_t1, ix_t2, ix_t3, ix_l0, ix_l1, ix_l2, len_l, len_t1, len_t2, len_t3, len_t4, beq_self_eq_true, ev_iL, ev_iT, asL_ev, asT_ev, ev_iA, ev_P, toI_ev, ev_P0, ev_sl, kSl_ev, put_1, gAdd_i, gSub_i, gMul_i, gDiv_p, gMod_p, gPow_l, gShl_l, gShr_l, gLt_i, gLe_i, gGt_i, gGe_i, gEq_i, gNe_i, gNeg_i, gAbs_i, gInt_i, gInt_b, gEq_s, gNe_s, gEq_b, gNe_b, gEq_2, gNe_2, gEq_3, gNe_3, gEq_22, gNe_22, DL.R.bind_ok, DL.R.bind_ex, ev_setL, kSetL_ev, ev_lDisp, kDisp_ev, ev_lList, lOf_l, lOf_t, ev_frz, frz_l, frz_d, frz_n, ev_lend, lend_l, lend_d, atom_i, atom_b, atom_s, ev_lendB, lendB_l, lendB_d, ev_app, app_l, kApp_ev, ev_put, put_l, ev_ixO, ixO_l, ixO_d, put_m, putAll_c, putAll_n, ev_lc, kLst_ev, ev_lcL, wipe_n, wipe_c, r1_2, r1_3, bits_ev, List.getElem?_cons_zero, List.getElem?_cons_succ, List.set_cons_zero, List.set_cons_succ, List.length_cons, List.length_nil, List.length_map, List.append_nil, List.cons_append, List.nil_append, ev_if, turn_nx, turn_ct, turn_bk, turn_rt, turn_ite, kWh_ev, isi_int_int, isi_bool_int, isi_int_bool, isi_bool_bool, isi_int_str, isi_int_none, isi_int_list, isi_int_tup, isi_bool_str, isi_bool_none, isi_bool_list, isi_bool_tup, isi_tup_tup, isi_tup_int, isi_tup_bool, isi_tup_str, isi_tup_none, isi_tup_list, isi_list_list, isi_list_tup, isi_list_int, isi_list_bool, isi_list_str, isi_list_none, isi_str_str, isi_str_int, isi_str_bool, isi_str_none, isi_str_list, isi_str_tup, decide_true, decide_false, not_true_eq_false, not_false_eq_true, ne_eq, decide_eq_true_eq, Bool.not_eq_true', decide_eq_false_iff_not, Bool.not_true, Bool.not_false, Bool.false_eq_true, if_true, if_false, reduceIte, ev_tryK, e, isN_nn]
      · exact absurd (.inr q) hg
    · exact absurd (.inl q) hg
theorem refused3 {d1 d2 d3 : PD} {g1 g2 g3 : Bool} (h1 : Th d1 g1) (h2 : Th d2 g2) (h3 : Th d3 g3) : ∃ b : Bool, m_law_refused_v2 [.list [d1, d2, d3]] = .ok (.bool b) ∧ (g1 = false ∨ g2 = false ∨ g3 = false → b = true) ∧ (∀ z : Int, g1 = true → g2 = true → g3 = true → d3 = .int z → b = decide (z = 0)) := by
  have a := law_alone_NoLength
  have m1 : ("NoLength" : Str) ∈ xl_be93e3 := by decide
  have i1 : gIsE xl_be93e3 "NoLength" (exD "NoLength") = .ok (.bool (subX "NoLength" "NoLength")) := isE_ev (by decide)
  have s1 : subX "NoLength" "NoLength" = true := by decide
  have s2 : subX "NoLength" "YardError" = true := subX_Y
  by_cases hg : g1 = false ∨ g2 = false ∨ g3 = false ∨ d3 = .int 0
  · have e := length_bad h1 h2 h3 hg
    refine ⟨true, ?_, fun _ => rfl, fun z w1 w2 w3 w4 => ?_⟩
    · simp +decide only [m_law_refused_v2, den_law_refused_v2, ev_seq, seq_nx, seq_rt, seq_ex, seq_bk, seq_ct, seq_ite, fl_ok, fl_ex, fl_ite, ev_set, kSet_ev, ev_ret, ev_retN, ev_nx, ev_bk, ev_ct, ev_raise, ev_if, kIf_ev, ev_drop, kNx_ev, ev_par, kPar_ev, kId_ev, ev_asg, kAsg_ev, ev_for, kFor_ev, ev_V, dVg_ok, ev_C, ev_1, ev_2, bind2_ok, bind2_ite1, bind2_ite2, bind_ite, ev_A, ev_nil, ev_cons, kCons_ev, ev_T, toB_ev, ev_and, ev_or, ev_not, kAnd_ev, kOr_ev, kNot_ev, ev_andV, ev_orV, ev_notV, kAndV_ev, kOrV_ev, kNotV_ev, ev_ife, kIfE_ev, ev_ch, kCh, tup_ev, lst_ev, call_ev, kw_ev, ev_kw, ev_fn, startE_0, startE_s, startE_c, fin_rt, fin_nx, fin_ex, fin_ite, ix_t0, ix_t1, ix_t2, ix_t3, ix_l0, ix_l1, ix_l2, len_l, len_t1, len_t2, len_t3, len_t4, beq_self_eq_true, ev_iL, ev_iT, asL_ev, asT_ev, ev_iA, ev_P, toI_ev, ev_P0, ev_sl, kSl_ev, put_1, gAdd_i, gSub_i, gMul_i, gDiv_p, gMod_p, gPow_l, gShl_l, gShr_l, gLt_i, gLe_i, gGt_i, gGe_i, gEq_i, gNe_i, gNeg_i, gAbs_i, gInt_i, gInt_b, gEq_s, gNe_s, gEq_b, gNe_b, gEq_2, gNe_2, gEq_3, gNe_3, gEq_22, gNe_22, DL.R.bind_ok, DL.R.bind_ex, ev_setL, kSetL_ev, ev_lDisp, kDisp_ev, ev_lList, lOf_l, lOf_t, ev_frz, frz_l, frz_d, frz_n, ev_lend, lend_l, lend_d, atom_i, atom_b, atom_s, ev_lendB, lendB_l, lendB_d, ev_app, app_l, kApp_ev, ev_put, put_l, ev_ixO, ixO_l, ixO_d, put_m, putAll_c, putAll_n, ev_lc, kLst_ev, ev_lcL, wipe_n, wipe_c, r1_2, r1_3, bits_ev, List.getElem?_cons_zero, List.getElem?_cons_succ, List.set_cons_zero, List.set_cons_succ, List.length_cons, List.length_nil, List.length_map, List.append_nil, List.cons_append, List.nil_append, ev_if, turn_nx, turn_ct, turn_bk, turn_rt, turn_ite, kWh_ev, isi_int_int, isi_bool_int, isi_int_bool, isi_bool_bool, isi_int_str, isi_int_none, isi_int_list, isi_int_tup, isi_bool_str, isi_bool_none, isi_bool_list, isi_bool_tup, isi_tup_tup, isi_tup_int, isi_tup_bool, isi_tup_str, isi_tup_none, isi_tup_list, isi_list_list, isi_list_tup, isi_list_int, isi_list_bool, isi_list_str, isi_list_none, isi_str_str, isi_str_int, isi_str_bool, isi_str_none, isi_str_list, isi_str_tup, decide_true, decide_false, not_true_eq_false, not_false_eq_true, ne_eq, decide_eq_true_eq, Bool.not_eq_true', decide_eq_false_iff_not, Bool.not_true, Bool.not_false, Bool.false_eq_true, if_true, if_false, reduceIte, ev_tryK, e, a, m1, i1, s1, s2, isN_ex, and_self]
    · subst w1 w2 w3 w4
      have : z = 0 := by simpa using hg
      rw [this]; rfl
  · refine ⟨false, ?_, fun w => absurd (w.elim .inl fun w => .inr (w.elim .inl fun w => .inr (.inl w))) hg, fun z _ _ _ w4 => ?_⟩
    · rcases h1 with ⟨rfl, x, rfl, _⟩ | ⟨q, _⟩
      · rcases h2 with ⟨rfl, y, rfl, _⟩ | ⟨q, _⟩
        · rcases h3 with ⟨rfl, z, rfl, bz⟩ | ⟨q, _⟩
          · have hz : z ≠ 0 := fun w => hg (.inr (.inr (.inr (by rw [w]))))
            obtain ⟨t, e⟩ := length_good (a := x) (b := y) (n := z) hz
            simp +decide only [m_law_refused_v2, den_law_refused_v2, ev_seq, seq_nx, seq_rt, seq_ex, seq_bk, seq_ct, seq_ite, fl_ok, fl_ex, fl_ite, ev_set, kSet_ev, ev_ret, ev_retN, ev_nx, ev_bk, ev_ct, ev_raise, ev_if, kIf_ev, ev_drop, kNx_ev, ev_par, kPar_ev, kId_ev, ev_asg, kAsg_ev, ev_for, kFor_ev, ev_V, dVg_ok, ev_C, ev_1, ev_2, bind2_ok, bind2_ite1, bind2_ite2, bind_ite, ev_A, ev_nil, ev_cons, kCons_ev, ev_T, toB_ev, ev_and, ev_or, ev_not, kAnd_ev, kOr_ev, kNot_ev, ev_andV, ev_orV, ev_notV, kAndV_ev, kOrV_ev, kNotV_ev, ev_ife, kIfE_ev, ev_ch, kCh, tup_ev, lst_ev, call_ev, kw_ev, ev_kw, ev_fn, startE_0, startE_s, startE_c, fin_rt, fin_nx, fin_ex, fin_ite, ix_t0, ix_t1, ix_t2, ix_t3, ix_l0, ix_l1, ix_l2, len_l, len_t1, len_t2, len_t3, len_t4, beq_self_eq_true, ev_iL, ev_iT, asL_ev, asT_ev, ev_iA, ev_P, toI_ev, ev_P0, ev_sl, kSl_ev, put_1, gAdd_i, gSub_i, gMul_i, gDiv_p, gMod_p, gPow_l, gShl_l, gShr_l, gLt_i, gLe_i, gGt_i, gGe_i, gEq_i, gNe_i, gNeg_i, gAbs_i, gInt_i, gInt_b, gEq_s, gNe_s, gEq_b, gNe_b, gEq_2, gNe_2, gEq_3, gNe_3, gEq_22, gNe_22, DL.R.bind_ok, DL.R.bind_ex, ev_setL, kSetL_ev, ev_lDisp, kDisp_ev, ev_lList, lOf_l, lOf_t, ev_frz, frz_l, frz_d, frz_n, ev_lend, lend_l, lend_d, atom_i, atom_b, atom_s, ev_lendB, lendB_l, lendB_d, ev_app, app_l, kApp_ev, ev_put, put_l, ev_ixO, ixO_l, ixO_d, put_m, putAll_c, putAll_n, ev_lc, kLst_ev, ev_lcL, wipe_n, wipe_c, r1_2, r1_3, bits_ev, List.getElem?_cons_zero, List.getElem?_cons_succ, List.set_cons_zero, List.set_cons_succ, List.length_cons, List.length_nil, List.length_map, List.append_nil, List.cons_append, List.nil_append, ev_if, turn_nx, turn_ct, turn_bk, turn_rt, turn_ite, kWh_ev, isi_int_int, isi_bool_int, isi_int_bool, isi_bool_bool, isi_int_str, isi_int_none, isi_int_list, isi_int_tup, isi_bool_str, isi_bool_none, isi_bool_list, isi_bool_tup, isi_tup_tup, isi_tup_int, isi_tup_bool, isi_tup_str, isi_tup_none, isi_tup_list, isi_list_list, isi_list_tup, isi_list_int, isi_list_bool, isi_list_str, isi_list_none, isi_str_str, isi_str_int, isi_str_bool, isi_str_none, isi_str_list, isi_str_tup, decide_true, decide_false, not_true_eq_false, not_false_eq_true, ne_eq, decide_eq_true_eq, Bool.not_eq_true', decide_eq_false_iff_not, Bool.not_true, Bool.not_false, Bool.false_eq_true, if_true, if_false, reduceIte, ev_tryK, e, isN_nn]
          · exact absurd (.inr (.inr (.inl q))) hg
        · exact absurd (.inr (.inl q)) hg
      · exact absurd (.inl q) hg
    · subst w4
      refine (decide_eq_false fun w => ?_).symm
      exact hg (.inr (.inr (.inr (by rw [w]))))
/-! three things asked -/
theorem asked_turn (t1 d : PD) {g : Bool} (h : Th d g) (x3 x4 x5 : Option SV) : lb1_law_asked_v5 [some (.d t1), some (.d d), some (.d (.bool g)), x3, x4, x5] = .nx [some (.d t1), some (.d d), some (.d (.bool g)), x3, x4, x5] := by
  obtain ⟨w, _⟩ := th_whole h
  obtain ⟨b, r1, r2⟩ := root_th h
  have l1 := law_truth_b g
  have l2 := law_truth_b b
  simp +decide only [lb1_law_asked_v5, ev_seq, seq_nx, seq_rt, seq_ex, seq_bk, seq_ct, seq_ite, fl_ok, fl_ex, fl_ite, ev_set, kSet_ev, ev_ret, ev_retN, ev_nx, ev_bk, ev_ct, ev_raise, ev_if, kIf_ev, ev_drop, kNx_ev, ev_par, kPar_ev, kId_ev, ev_asg, kAsg_ev, ev_for, kFor_ev, ev_V, dVg_ok, ev_C, ev_1, ev_2, bind2_ok, bind2_ite1, bind2_ite2, bind_ite, ev_A, ev_nil, ev_cons, kCons_ev, ev_T, toB_ev, ev_and, ev_or, ev_not, kAnd_ev, kOr_ev, kNot_ev, ev_andV, ev_orV, ev_notV, kAndV_ev, kOrV_ev, kNotV_ev, ev_ife, kIfE_ev, ev_ch, kCh, tup_ev, lst_ev, call_ev, kw_ev, ev_kw, ev_fn, startE_0, startE_s, startE_c, fin_rt, fin_nx, fin_ex, fin_ite, ix_t0, ix_t1, ix_t2, ix_t3, ix_l0, ix_l1, ix_l2, len_l, len_t1, len_t2, len_t3, len_t4, beq_self_eq_true, ev_iL, ev_iT, asL_ev, asT_ev, ev_iA, ev_P, toI_ev, ev_P0, ev_sl, kSl_ev, put_1, gAdd_i, gSub_i, gMul_i, gDiv_p, gMod_p, gPow_l, gShl_l, gShr_l, gLt_i, gLe_i, gGt_i, gGe_i, gEq_i, gNe_i, gNeg_i, gAbs_i, gInt_i, gInt_b, gEq_s, gNe_s, gEq_b, gNe_b, gEq_2, gNe_2, gEq_3, gNe_3, gEq_22, gNe_22, DL.R.bind_ok, DL.R.bind_ex, ev_setL, kSetL_ev, ev_lDisp, kDisp_ev, ev_lList, lOf_l, lOf_t, ev_frz, frz_l, frz_d, frz_n, ev_lend, lend_l, lend_d, atom_i, atom_b, atom_s, ev_lendB, lendB_l, lendB_d, ev_app, app_l, kApp_ev, ev_put, put_l, ev_ixO, ixO_l, ixO_d, put_m, putAll_c, putAll_n, ev_lc, kLst_ev, ev_lcL, wipe_n, wipe_c, r1_2, r1_3, bits_ev, List.getElem?_cons_zero, List.getElem?_cons_succ, List.set_cons_zero, List.set_cons_succ, List.length_cons, List.length_nil, List.length_map, List.append_nil, List.cons_append, List.nil_append, ev_if, turn_nx, turn_ct, turn_bk, turn_rt, turn_ite, kWh_ev, isi_int_int, isi_bool_int, isi_int_bool, isi_bool_bool, isi_int_str, isi_int_none, isi_int_list, isi_int_tup, isi_bool_str, isi_bool_none, isi_bool_list, isi_bool_tup, isi_tup_tup, isi_tup_int, isi_tup_bool, isi_tup_str, isi_tup_none, isi_tup_list, isi_list_list, isi_list_tup, isi_list_int, isi_list_bool, isi_list_str, isi_list_none, isi_str_str, isi_str_int, isi_str_bool, isi_str_none, isi_str_list, isi_str_tup, decide_true, decide_false, not_true_eq_false, not_false_eq_true, ne_eq, decide_eq_true_eq, Bool.not_eq_true', decide_eq_false_iff_not, Bool.not_true, Bool.not_false, Bool.false_eq_true, if_true, if_false, reduceIte, w, r1, r2, l1, l2]
theorem lc_things (f : En → R PD) (ρ : En) (h : PD × Bool → PD) (hf : ∀ p : PD × Bool, f ((ρ.set 1 (some (.d p.1))).set 2 (some (.d (.bool p.2)))) = .ok (h p)) : ∀ l : List (PD × Bool), lcL (.many [1, 2]) bYes f ρ (l.map fun p => .tuple [p.1, .bool p.2]) = .ok (l.map h)
  | [] => rfl
  | p :: l => by
    rw [List.map_cons, List.map_cons]
    exact lcL_2 (hf p) (lc_things f ρ h hf l)
theorem in_bools : ∀ gs : List Bool, gIn false (.bool false) (.list (gs.map PyData.bool)) = .ok (.bool (gs.any fun g => !g))
  | gs => by
    have e1 : (gs.map PyData.bool).all flatD = true := by rw [List.all_eq_true]; intro x hx; obtain ⟨g, _, rfl⟩ := List.mem_map.mp hx; rfl
    have e2 : ((gs.map PyData.bool).any fun y => PyData.eqv y (.bool false)) = gs.any fun g => !g := by
      rw [List.any_map]
      congr 1
      funext g
      cases g <;> rfl
    have : inL (.bool false) (gs.map PyData.bool) = .ok (gs.any fun g => !g) := by
      unfold inL
      rw [if_pos ⟨rfl, e1⟩, e2]
    show (inL (.bool false) (gs.map PyData.bool)).bind _ = _
    rw [this]
    cases gs.any fun g => !g <;> rfl
theorem asked_ok (d1 d2 d3 : PD) (g1 g2 g3 : Bool) (h1 : Th d1 g1) (h2 : Th d2 g2) (h3 : Th d3 g3) : m_law_asked_v5 [.list [.tuple [d1, .bool g1], .tuple [d2, .bool g2], .tuple [d3, .bool g3]]] = .ok (.bool true) := by
  have T : ∀ (m : Nat), gSl (.list [.tuple [d1, .bool g1], .tuple [d2, .bool g2], .tuple [d3, .bool g3]]) none (some (m : Int)) = .ok (.list ((([(d1, g1), (d2, g2), (d3, g3)] : List (PD × Bool)).take m).map fun p => .tuple [p.1, .bool p.2])) := fun m => by
    rw [List.map_take]; exact sl_hi
  generalize hL : (PyData.list [.tuple [d1, .bool g1], .tuple [d2, .bool g2], .tuple [d3, .bool g3]] : PD) = L at *
  have A : ∀ (m : Nat) (x1 x2 x4 x5 : Option SV) (bad : Bool), (([(d1, g1), (d2, g2), (d3, g3)] : List (PD × Bool)).take m).length ≤ 1000000 → ((([(d1, g1), (d2, g2), (d3, g3)] : List (PD × Bool)).take m).map fun p => p.2).any (fun g => !g) = bad →
      (∃ b : Bool, m_law_refused_v2 [.list ((([(d1, g1), (d2, g2), (d3, g3)] : List (PD × Bool)).take m).map fun p => p.1)] = .ok (.bool b) ∧ (bad = true → b = true) ∧ (bad = false → (m = 3 → ∃ z : Int, d3 = .int z ∧ b = decide (z = 0)) ∧ (m ≠ 3 → b = false))) → m = 1 ∨ m = 2 ∨ m = 3 →
      ∃ y4 y5, lb4_law_asked_v5 [some (.d L), x1, x2, some (.d (.int (m : Int))), x4, x5] = .nx [some (.d L), x1, x2, some (.d (.int (m : Int))), y4, y5] := by
    intro m x1 x2 x4 x5 bad hlen hbad ⟨b, hb, hb1, hb2⟩ hm
    have c1 := lc_things le2_law_asked_v5 [some (.d L), none, none, some (.d (.int (m : Int))), x4, x5] (fun p => p.1) (fun p => by simp +decide only [le2_law_asked_v5, ev_seq, seq_nx, seq_rt, seq_ex, seq_bk, seq_ct, seq_ite, fl_ok, fl_ex, fl_ite, ev_set, kSet_ev, ev_ret, ev_retN, ev_nx, ev_bk, ev_ct, ev_raise, ev_if, kIf_ev, ev_drop, kNx_ev, ev_par, kPar_ev, kId_ev, ev_asg, kAsg_ev, ev_for, kFor_ev, ev_V, dVg_ok, ev_C, ev_1, ev_2, bind2_ok, bind2_ite1, bind2_ite2, bind_ite, ev_A, ev_nil, ev_cons, kCons_ev, ev_T, toB_ev, ev_and, ev_or, ev_not, kAnd_ev, kOr_ev, kNot_ev, ev_andV, ev_orV, ev_notV, kAndV_ev, kOrV_ev, kNotV_ev, ev_ife, kIfE_ev, ev_ch, kCh, tup_ev, lst_ev, call_ev, kw_ev, ev_kw, ev_fn, startE_0, startE_s, startE_c, fin_rt, fin_nx, fin_ex, fin_ite, ix_t0, ix_t1, ix_t2, ix_t3, ix_l0, ix_l1, ix_l2, len_l, len_t1, len_t2, len_t3, len_t4, beq_self_eq_true, ev_iL, ev_iT, asL_ev, asT_ev, ev_iA, ev_P, toI_ev, ev_P0, ev_sl, kSl_ev, put_1, gAdd_i, gSub_i, gMul_i, gDiv_p, gMod_p, gPow_l, gShl_l, gShr_l, gLt_i, gLe_i, gGt_i, gGe_i, gEq_i, gNe_i, gNeg_i, gAbs_i, gInt_i, gInt_b, gEq_s, gNe_s, gEq_b, gNe_b, gEq_2, gNe_2, gEq_3, gNe_3, gEq_22, gNe_22, DL.R.bind_ok, DL.R.bind_ex, ev_setL, kSetL_ev, ev_lDisp, kDisp_ev, ev_lList, lOf_l, lOf_t, ev_frz, frz_l, frz_d, frz_n, ev_lend, lend_l, lend_d, atom_i, atom_b, atom_s, ev_lendB, lendB_l, lendB_d, ev_app, app_l, kApp_ev, ev_put, put_l, ev_ixO, ixO_l, ixO_d, put_m, putAll_c, putAll_n, ev_lc, kLst_ev, ev_lcL, wipe_n, wipe_c, r1_2, r1_3, bits_ev, List.getElem?_cons_zero, List.getElem?_cons_succ, List.set_cons_zero, List.set_cons_succ, List.length_cons, List.length_nil, List.length_map, List.append_nil, List.cons_append, List.nil_append, ev_if, turn_nx, turn_ct, turn_bk, turn_rt, turn_ite, kWh_ev, isi_int_int, isi_bool_int, isi_int_bool, isi_bool_bool, isi_int_str, isi_int_none, isi_int_list, isi_int_tup, isi_bool_str, isi_bool_none, isi_bool_list, isi_bool_tup, isi_tup_tup, isi_tup_int, isi_tup_bool, isi_tup_str, isi_tup_none, isi_tup_list, isi_list_list, isi_list_tup, isi_list_int, isi_list_bool, isi_list_str, isi_list_none, isi_str_str, isi_str_int, isi_str_bool, isi_str_none, isi_str_list, isi_str_tup, decide_true, decide_false, not_true_eq_false, not_false_eq_true, ne_eq, decide_eq_true_eq, Bool.not_eq_true', decide_eq_false_iff_not, Bool.not_true, Bool.not_false, Bool.false_eq_true, if_true, if_false, reduceIte]) (([(d1, g1), (d2, g2), (d3, g3)] : List (PD × Bool)).take m)
    have c2 := lc_things le3_law_asked_v5 [some (.d L), none, none, some (.d (.int (m : Int))), some (.d (.list ((([(d1, g1), (d2, g2), (d3, g3)] : List (PD × Bool)).take m).map fun p => p.1))), x5] (fun p => .bool p.2) (fun p => by simp +decide only [le3_law_asked_v5, ev_seq, seq_nx, seq_rt, seq_ex, seq_bk, seq_ct, seq_ite, fl_ok, fl_ex, fl_ite, ev_set, kSet_ev, ev_ret, ev_retN, ev_nx, ev_bk, ev_ct, ev_raise, ev_if, kIf_ev, ev_drop, kNx_ev, ev_par, kPar_ev, kId_ev, ev_asg, kAsg_ev, ev_for, kFor_ev, ev_V, dVg_ok, ev_C, ev_1, ev_2, bind2_ok, bind2_ite1, bind2_ite2, bind_ite, ev_A, ev_nil, ev_cons, kCons_ev, ev_T, toB_ev, ev_and, ev_or, ev_not, kAnd_ev, kOr_ev, kNot_ev, ev_andV, ev_orV, ev_notV, kAndV_ev, kOrV_ev, kNotV_ev, ev_ife, kIfE_ev, ev_ch, kCh, tup_ev, lst_ev, call_ev, kw_ev, ev_kw, ev_fn, startE_0, startE_s, startE_c, fin_rt, fin_nx, fin_ex, fin_ite, ix_t0, ix_t1, ix_t2, ix_t3, ix_l0, ix_l1, ix_l2, len_l, len_t1, len_t2, len_t3, len_t4, beq_self_eq_true, ev_iL, ev_iT, asL_ev, asT_ev, ev_iA, ev_P, toI_ev, ev_P0, ev_sl, kSl_ev, put_1, gAdd_i, gSub_i, gMul_i, gDiv_p, gMod_p, gPow_l, gShl_l, gShr_l, gLt_i, gLe_i, gGt_i, gGe_i, gEq_i, gNe_i, gNeg_i, gAbs_i, gInt_i, gInt_b, gEq_s, gNe_s, gEq_b, gNe_b, gEq_2, gNe_2, gEq_3, gNe_3, gEq_22, gNe_22, DL.R.bind_ok, DL.R.bind_ex, ev_setL, kSetL_ev, ev_lDisp, kDisp_ev, ev_lList, lOf_l, lOf_t, ev_frz, frz_l, frz_d, frz_n, ev_lend, lend_l, lend_d, atom_i, atom_b, atom_s, ev_lendB, lendB_l, lendB_d, ev_app, app_l, kApp_ev, ev_put, put_l, ev_ixO, ixO_l, ixO_d, put_m, putAll_c, putAll_n, ev_lc, kLst_ev, ev_lcL, wipe_n, wipe_c, r1_2, r1_3, bits_ev, List.getElem?_cons_zero, List.getElem?_cons_succ, List.set_cons_zero, List.set_cons_succ, List.length_cons, List.length_nil, List.length_map, List.append_nil, List.cons_append, List.nil_append, ev_if, turn_nx, turn_ct, turn_bk, turn_rt, turn_ite, kWh_ev, isi_int_int, isi_bool_int, isi_int_bool, isi_bool_bool, isi_int_str, isi_int_none, isi_int_list, isi_int_tup, isi_bool_str, isi_bool_none, isi_bool_list, isi_bool_tup, isi_tup_tup, isi_tup_int, isi_tup_bool, isi_tup_str, isi_tup_none, isi_tup_list, isi_list_list, isi_list_tup, isi_list_int, isi_list_bool, isi_list_str, isi_list_none, isi_str_str, isi_str_int, isi_str_bool, isi_str_none, isi_str_list, isi_str_tup, decide_true, decide_false, not_true_eq_false, not_false_eq_true, ne_eq, decide_eq_true_eq, Bool.not_eq_true', decide_eq_false_iff_not, Bool.not_true, Bool.not_false, Bool.false_eq_true, if_true, if_false, reduceIte]) (([(d1, g1), (d2, g2), (d3, g3)] : List (PD × Bool)).take m)
    have c3 := in_bools ((([(d1, g1), (d2, g2), (d3, g3)] : List (PD × Bool)).take m).map fun p => p.2)
    rw [hbad, List.map_map] at c3
    have c3' : gIn false (.bool false) (.list ((([(d1, g1), (d2, g2), (d3, g3)] : List (PD × Bool)).take m).map fun p => PyData.bool p.2)) = .ok (.bool bad) := c3
    have tm := T m
    have i3 : ∀ z : Int, m = 3 → d3 = .int z → gIx (.list ((([(d1, g1), (d2, g2), (d3, g3)] : List (PD × Bool)).take m).map fun p => p.1)) (.int 2) = .ok (.int z) := fun z w1 w2 => by
      subst w1 w2; exact ix_l2
    have hlen2 : ((([(d1, g1), (d2, g2), (d3, g3)] : List (PD × Bool)).take m).map fun p => (PyData.tuple [p.1, .bool p.2] : PD)).length ≤ 1000000 := by rw [List.length_map]; exact hlen
    generalize (([(d1, g1), (d2, g2), (d3, g3)] : List (PD × Bool)).take m).map (fun p => p.1) = S1 at *
    generalize (([(d1, g1), (d2, g2), (d3, g3)] : List (PD × Bool)).take m).map (fun p => PyData.bool p.2) = S2 at *
    generalize (([(d1, g1), (d2, g2), (d3, g3)] : List (PD × Bool)).take m).map (fun p => (PyData.tuple [p.1, .bool p.2] : PD)) = S0 at *
    have hmm : m = 3 ∨ ((m : Int) ≠ 3 ∧ m ≠ 3) := by omega
    cases bad with
    | true =>
      have hbt := hb1 rfl
      subst hbt
      refine ⟨some (.d (.list S1)), some (.d (.bool true)), ?_⟩
      generalize (m : Int) = M at *
      simp +decide only [lb4_law_asked_v5, ev_seq, seq_nx, seq_rt, seq_ex, seq_bk, seq_ct, seq_ite, fl_ok, fl_ex, fl_ite, ev_set, kSet_ev, ev_ret, ev_retN, ev_nx, ev_bk, ev_ct, ev_raise, ev_if, kIf_ev, ev_drop, kNx_ev, ev_par, kPar_ev, kId_ev, ev_asg, kAsg_ev, ev_for, kFor_ev, ev_V, dVg_ok, ev_C, ev_1, ev_2, bind2_ok, bind2_ite1, bind2_ite2, bind_ite, ev_A, ev_nil, ev_cons, kCons_ev, ev_T, toB_ev, ev_and, ev_or, ev_not, kAnd_ev, kOr_ev, kNot_ev, ev_andV, ev_orV, ev_notV, kAndV_ev, kOrV_ev, kNotV_ev, ev_ife, kIfE_ev, ev_ch, kCh, tup_ev, lst_ev, call_ev, kw_ev, ev_kw, ev_fn, startE_0, startE_s, startE_c, fin_rt, fin_nx, fin_ex, fin_ite, ix_t0, ix_t1, ix_t2, ix_t3, ix_l0, ix_l1, ix_l2, len_l, len_t1, len_t2, len_t3, len_t4, beq_self_eq_true, ev_iL, ev_iT, asL_ev, asT_ev, ev_iA, ev_P, toI_ev, ev_P0, ev_sl, kSl_ev, put_1, gAdd_i, gSub_i, gMul_i, gDiv_p, gMod_p, gPow_l, gShl_l, gShr_l, gLt_i, gLe_i, gGt_i, gGe_i, gEq_i, gNe_i, gNeg_i, gAbs_i, gInt_i, gInt_b, gEq_s, gNe_s, gEq_b, gNe_b, gEq_2, gNe_2, gEq_3, gNe_3, gEq_22, gNe_22, DL.R.bind_ok, DL.R.bind_ex, ev_setL, kSetL_ev, ev_lDisp, kDisp_ev, ev_lList, lOf_l, lOf_t, ev_frz, frz_l, frz_d, frz_n, ev_lend, lend_l, lend_d, atom_i, atom_b, atom_s, ev_lendB, lendB_l, lendB_d, ev_app, app_l, kApp_ev, ev_put, put_l, ev_ixO, ixO_l, ixO_d, put_m, putAll_c, putAll_n, ev_lc, kLst_ev, ev_lcL, wipe_n, wipe_c, r1_2, r1_3, bits_ev, List.getElem?_cons_zero, List.getElem?_cons_succ, List.set_cons_zero, List.set_cons_succ, List.length_cons, List.length_nil, List.length_map, List.append_nil, List.cons_append, List.nil_append, ev_if, turn_nx, turn_ct, turn_bk, turn_rt, turn_ite, kWh_ev, isi_int_int, isi_bool_int, isi_int_bool, isi_bool_bool, isi_int_str, isi_int_none, isi_int_list, isi_int_tup, isi_bool_str, isi_bool_none, isi_bool_list, isi_bool_tup, isi_tup_tup, isi_tup_int, isi_tup_bool, isi_tup_str, isi_tup_none, isi_tup_list, isi_list_list, isi_list_tup, isi_list_int, isi_list_bool, isi_list_str, isi_list_none, isi_str_str, isi_str_int, isi_str_bool, isi_str_none, isi_str_list, isi_str_tup, decide_true, decide_false, not_true_eq_false, not_false_eq_true, ne_eq, decide_eq_true_eq, Bool.not_eq_true', decide_eq_false_iff_not, Bool.not_true, Bool.not_false, Bool.false_eq_true, if_true, if_false, reduceIte, tm, kLcL_ev hlen2, c1, c2, c3', hb]
    | false =>
      refine ⟨some (.d (.list S1)), some (.d (.bool false)), ?_⟩
      rcases hmm with h3 | ⟨hm1, hm2⟩
      · obtain ⟨z, hz, hbz⟩ := (hb2 rfl).1 h3
        have i3' := i3 z h3 hz
        have hM : (m : Int) = 3 := by omega
        rw [hM] at tm c1 c2
        rw [hM]
        by_cases c : z = 0
        · rw [decide_eq_true c] at hbz
          subst hbz
          simp +decide only [lb4_law_asked_v5, ev_seq, seq_nx, seq_rt, seq_ex, seq_bk, seq_ct, seq_ite, fl_ok, fl_ex, fl_ite, ev_set, kSet_ev, ev_ret, ev_retN, ev_nx, ev_bk, ev_ct, ev_raise, ev_if, kIf_ev, ev_drop, kNx_ev, ev_par, kPar_ev, kId_ev, ev_asg, kAsg_ev, ev_for, kFor_ev, ev_V, dVg_ok, ev_C, ev_1, ev_2, bind2_ok, bind2_ite1, bind2_ite2, bind_ite, ev_A, ev_nil, ev_cons, kCons_ev, ev_T, toB_ev, ev_and, ev_or, ev_not, kAnd_ev, kOr_ev, kNot_ev, ev_andV, ev_orV, ev_notV, kAndV_ev, kOrV_ev, kNotV_ev, ev_ife, kIfE_ev, ev_ch, kCh, tup_ev, lst_ev, call_ev, kw_ev, ev_kw, ev_fn, startE_0, startE_s, startE_c, fin_rt, fin_nx, fin_ex, fin_ite, ix_t0, ix_t1, ix_t2, ix_t3, ix_l0, ix_l1, ix_l2, len_l, len_t1, len_t2, len_t3, len_t4, beq_self_eq_true, ev_iL, ev_iT, asL_ev, asT_ev, ev_iA, ev_P, toI_ev, ev_P0, ev_sl, kSl_ev, put_1, gAdd_i, gSub_i, gMul_i, gDiv_p, gMod_p, gPow_l, gShl_l, gShr_l, gLt_i, gLe_i, gGt_i, gGe_i, gEq_i, gNe_i, gNeg_i, gAbs_i, gInt_i, gInt_b, gEq_s, gNe_s, gEq_b, gNe_b, gEq_2, gNe_2, gEq_3, gNe_3, gEq_22, gNe_22, DL.R.bind_ok, DL.R.bind_ex, ev_setL, kSetL_ev, ev_lDisp, kDisp_ev, ev_lList, lOf_l, lOf_t, ev_frz, frz_l, frz_d, frz_n, ev_lend, lend_l, lend_d, atom_i, atom_b, atom_s, ev_lendB, lendB_l, lendB_d, ev_app, app_l, kApp_ev, ev_put, put_l, ev_ixO, ixO_l, ixO_d, put_m, putAll_c, putAll_n, ev_lc, kLst_ev, ev_lcL, wipe_n, wipe_c, r1_2, r1_3, bits_ev, List.getElem?_cons_zero, List.getElem?_cons_succ, List.set_cons_zero, List.set_cons_succ, List.length_cons, List.length_nil, List.length_map, List.append_nil, List.cons_append, List.nil_append, ev_if, turn_nx, turn_ct, turn_bk, turn_rt, turn_ite, kWh_ev, isi_int_int, isi_bool_int, isi_int_bool, isi_bool_bool, isi_int_str, isi_int_none, isi_int_list, isi_int_tup, isi_bool_str, isi_bool_none, isi_bool_list, isi_bool_tup, isi_tup_tup, isi_tup_int, isi_tup_bool, isi_tup_str, isi_tup_none, isi_tup_list, isi_list_list, isi_list_tup, isi_list_int, isi_list_bool, isi_list_str, isi_list_none, isi_str_str, isi_str_int, isi_str_bool, isi_str_none, isi_str_list, isi_str_tup, decide_true, decide_false, not_true_eq_false, not_false_eq_true, ne_eq, decide_eq_true_eq, Bool.not_eq_true', decide_eq_false_iff_not, Bool.not_true, Bool.not_false, Bool.false_eq_true, if_true, if_false, reduceIte, tm, kLcL_ev hlen2, c1, c2, c3', hb, i3', c]
        · rw [decide_eq_false c] at hbz
          subst hbz
          simp +decide only [lb4_law_asked_v5, ev_seq, seq_nx, seq_rt, seq_ex, seq_bk, seq_ct, seq_ite, fl_ok, fl_ex, fl_ite, ev_set, kSet_ev, ev_ret, ev_retN, ev_nx, ev_bk, ev_ct, ev_raise, ev_if, kIf_ev, ev_drop, kNx_ev, ev_par, kPar_ev, kId_ev, ev_asg, kAsg_ev, ev_for, kFor_ev, ev_V, dVg_ok, ev_C, ev_1, ev_2, bind2_ok, bind2_ite1, bind2_ite2, bind_ite, ev_A, ev_nil, ev_cons, kCons_ev, ev_T, toB_ev, ev_and, ev_or, ev_not, kAnd_ev, kOr_ev, kNot_ev, ev_andV, ev_orV, ev_notV, kAndV_ev, kOrV_ev, kNotV_ev, ev_ife, kIfE_ev, ev_ch, kCh, tup_ev, lst_ev, call_ev, kw_ev, ev_kw, ev_fn, startE_0, startE_s, startE_c, fin_rt, fin_nx, fin_ex, fin_ite, ix_t0, ix_t1, ix_t2, ix_t3, ix_l0, ix_l1, ix_l2, len_l, len_t1, len_t2, len_t3, len_t4, beq_self_eq_true, ev_iL, ev_iT, asL_ev, asT_ev, ev_iA, ev_P, toI_ev, ev_P0, ev_sl, kSl_ev, put_1, gAdd_i, gSub_i, gMul_i, gDiv_p, gMod_p, gPow_l, gShl_l, gShr_l, gLt_i, gLe_i, gGt_i, gGe_i, gEq_i, gNe_i, gNeg_i, gAbs_i, gInt_i, gInt_b, gEq_s, gNe_s, gEq_b, gNe_b, gEq_2, gNe_2, gEq_3, gNe_3, gEq_22, gNe_22, DL.R.bind_ok, DL.R.bind_ex, ev_setL, kSetL_ev, ev_lDisp, kDisp_ev, ev_lList, lOf_l, lOf_t, ev_frz, frz_l, frz_d, frz_n, ev_lend, lend_l, lend_d, atom_i, atom_b, atom_s, ev_lendB, lendB_l, lendB_d, ev_app, app_l, kApp_ev, ev_put, put_l, ev_ixO, ixO_l, ixO_d, put_m, putAll_c, putAll_n, ev_lc, kLst_ev, ev_lcL, wipe_n, wipe_c, r1_2, r1_3, bits_ev, List.getElem?_cons_zero, List.getElem?_cons_succ, List.set_cons_zero, List.set_cons_succ, List.length_cons, List.length_nil, List.length_map, List.append_nil, List.cons_append, List.nil_append, ev_if, turn_nx, turn_ct, turn_bk, turn_rt, turn_ite, kWh_ev, isi_int_int, isi_bool_int, isi_int_bool, isi_bool_bool, isi_int_str, isi_int_none, isi_int_list, isi_int_tup, isi_bool_str, isi_bool_none, isi_bool_list, isi_bool_tup, isi_tup_tup, isi_tup_int, isi_tup_bool, isi_tup_str, isi_tup_none, isi_tup_list, isi_list_list, isi_list_tup, isi_list_int, isi_list_bool, isi_list_str, isi_list_none, isi_str_str, isi_str_int, isi_str_bool, isi_str_none, isi_str_list, isi_str_tup, decide_true, decide_false, not_true_eq_false, not_false_eq_true, ne_eq, decide_eq_true_eq, Bool.not_eq_true', decide_eq_false_iff_not, Bool.not_true, Bool.not_false, Bool.false_eq_true, if_true, if_false, reduceIte, tm, kLcL_ev hlen2, c1, c2, c3', hb, i3', c]
      · have hbf := (hb2 rfl).2 hm2
        subst hbf
        generalize (m : Int) = M at *
        simp +decide only [lb4_law_asked_v5, ev_seq, seq_nx, seq_rt, seq_ex, seq_bk, seq_ct, seq_ite, fl_ok, fl_ex, fl_ite, ev_set, kSet_ev, ev_ret, ev_retN, ev_nx, ev_bk, ev_ct, ev_raise, ev_if, kIf_ev, ev_drop, kNx_ev, ev_par, kPar_ev, kId_ev, ev_asg, kAsg_ev, ev_for, kFor_ev, ev_V, dVg_ok, ev_C, ev_1, ev_2, bind2_ok, bind2_ite1, bind2_ite2, bind_ite, ev_A, ev_nil, ev_cons, kCons_ev, ev_T, toB_ev, ev_and, ev_or, ev_not, kAnd_ev, kOr_ev, kNot_ev, ev_andV, ev_orV, ev_notV, kAndV_ev, kOrV_ev, kNotV_ev, ev_ife, kIfE_ev, ev_ch, kCh, tup_ev, lst_ev, call_ev, kw_ev, ev_kw, ev_fn, startE_0, startE_s, startE_c, fin_rt, fin_nx, fin_ex, fin_ite, ix_t0, ix_t1, ix_t2, ix_t3, ix_l0, ix_l1, ix_l2, len_l, len_t1, len_t2, len_t3, len_t4, beq_self_eq_true, ev_iL, ev_iT, asL_ev, asT_ev, ev_iA, ev_P, toI_ev, ev_P0, ev_sl, kSl_ev, put_1, gAdd_i, gSub_i, gMul_i, gDiv_p, gMod_p, gPow_l, gShl_l, gShr_l, gLt_i, gLe_i, gGt_i, gGe_i, gEq_i, gNe_i, gNeg_i, gAbs_i, gInt_i, gInt_b, gEq_s, gNe_s, gEq_b, gNe_b, gEq_2, gNe_2, gEq_3, gNe_3, gEq_22, gNe_22, DL.R.bind_ok, DL.R.bind_ex, ev_setL, kSetL_ev, ev_lDisp, kDisp_ev, ev_lList, lOf_l, lOf_t, ev_frz, frz_l, frz_d, frz_n, ev_lend, lend_l, lend_d, atom_i, atom_b, atom_s, ev_lendB, lendB_l, lendB_d, ev_app, app_l, kApp_ev, ev_put, put_l, ev_ixO, ixO_l, ixO_d, put_m, putAll_c, putAll_n, ev_lc, kLst_ev, ev_lcL, wipe_n, wipe_c, r1_2, r1_3, bits_ev, List.getElem?_cons_zero, List.getElem?_cons_succ, List.set_cons_zero, List.set_cons_succ, List.length_cons, List.length_nil, List.length_map, List.append_nil, List.cons_append, List.nil_append, ev_if, turn_nx, turn_ct, turn_bk, turn_rt, turn_ite, kWh_ev, isi_int_int, isi_bool_int, isi_int_bool, isi_bool_bool, isi_int_str, isi_int_none, isi_int_list, isi_int_tup, isi_bool_str, isi_bool_none, isi_bool_list, isi_bool_tup, isi_tup_tup, isi_tup_int, isi_tup_bool, isi_tup_str, isi_tup_none, isi_tup_list, isi_list_list, isi_list_tup, isi_list_int, isi_list_bool, isi_list_str, isi_list_none, isi_str_str, isi_str_int, isi_str_bool, isi_str_none, isi_str_list, isi_str_tup, decide_true, decide_false, not_true_eq_false, not_false_eq_true, ne_eq, decide_eq_true_eq, Bool.not_eq_true', decide_eq_false_iff_not, Bool.not_true, Bool.not_false, Bool.false_eq_true, if_true, if_false, reduceIte, tm, kLcL_ev hlen2, c1, c2, c3', hb, hm1]
  have hbd : ∀ {d : PD} {g : Bool}, Th d g → g = true → ∃ z : Int, d = .int z := fun h hg => by
    rcases h with ⟨_, z, q, _⟩ | ⟨q, _⟩
    · exact ⟨z, q⟩
    · rw [hg] at q; cases q
  obtain ⟨b3, r3, r3a, r3b⟩ := refused3 h1 h2 h3
  have A1 := fun (x1 x2 x4 x5 : Option SV) => A 1 x1 x2 x4 x5 (!g1) (by simp) (by simp) ⟨!g1, refused1 h1, fun h => h, fun h => ⟨fun w => by omega, fun _ => h⟩⟩ (by simp)
  have A2 := fun (x1 x2 x4 x5 : Option SV) => A 2 x1 x2 x4 x5 (!(g1 && g2)) (by simp) (by simp) ⟨!(g1 && g2), refused2 h1 h2, fun h => h, fun h => ⟨fun w => by omega, fun _ => h⟩⟩ (by simp)
  have A3 := fun (x1 x2 x4 x5 : Option SV) => A 3 x1 x2 x4 x5 (!(g1 && (g2 && g3))) (by simp) (by simp) ⟨b3, r3, fun h => r3a (by cases g1 <;> cases g2 <;> cases g3 <;> simp_all), fun h => ⟨fun _ => by
    have q : g1 = true ∧ g2 = true ∧ g3 = true := by cases g1 <;> cases g2 <;> cases g3 <;> simp_all
    obtain ⟨z, hz⟩ := hbd h3 q.2.2
    exact ⟨z, hz, r3b z q.1 q.2.1 q.2.2 hz⟩, fun w => absurd rfl w⟩⟩ (by simp)
  have F1 : sForL (.many [1, 2]) lb1_law_asked_v5 [.tuple [d1, .bool g1], .tuple [d2, .bool g2], .tuple [d3, .bool g3]] [some (.d L), none, none, none, none, none] = .nx [some (.d L), some (.d d3), some (.d (.bool g3)), none, none, none] := by
    rw [forL_m rfl]
    show (lb1_law_asked_v5 [some (.d L), some (.d d1), some (.d (.bool g1)), none, none, none]).turn _ = _
    rw [asked_turn L d1 h1]
    show sForL (.many [1, 2]) lb1_law_asked_v5 [.tuple [d2, .bool g2], .tuple [d3, .bool g3]] _ = _
    rw [forL_m rfl]
    show (lb1_law_asked_v5 [some (.d L), some (.d d2), some (.d (.bool g2)), none, none, none]).turn _ = _
    rw [asked_turn L d2 h2]
    show sForL (.many [1, 2]) lb1_law_asked_v5 [.tuple [d3, .bool g3]] _ = _
    rw [forL_m rfl]
    show (lb1_law_asked_v5 [some (.d L), some (.d d3), some (.d (.bool g3)), none, none, none]).turn _ = _
    rw [asked_turn L d3 h3]
    rfl
  obtain ⟨y4, y5, a1⟩ := A1 (some (.d d3)) (some (.d (.bool g3))) none none
  obtain ⟨z4, z5, a2⟩ := A2 (some (.d d3)) (some (.d (.bool g3))) y4 y5
  obtain ⟨w4, w5, a3⟩ := A3 (some (.d d3)) (some (.d (.bool g3))) z4 z5
  have F2 : sForL (.one 3) lb4_law_asked_v5 [.int 1, .int 2, .int 3] [some (.d L), some (.d d3), some (.d (.bool g3)), none, none, none] = .nx [some (.d L), some (.d d3), some (.d (.bool g3)), some (.d (.int 3)), w4, w5] := by
    rw [forL_1]
    show (lb4_law_asked_v5 [some (.d L), some (.d d3), some (.d (.bool g3)), some (.d (.int ((1 : Nat) : Int))), none, none]).turn _ = _
    rw [a1]
    show sForL (.one 3) lb4_law_asked_v5 [.int 2, .int 3] _ = _
    rw [forL_1]
    show (lb4_law_asked_v5 [some (.d L), some (.d d3), some (.d (.bool g3)), some (.d (.int ((2 : Nat) : Int))), y4, y5]).turn _ = _
    rw [a2]
    show sForL (.one 3) lb4_law_asked_v5 [.int 3] _ = _
    rw [forL_1]
    show (lb4_law_asked_v5 [some (.d L), some (.d d3), some (.d (.bool g3)), some (.d (.int ((3 : Nat) : Int))), z4, z5]).turn _ = _
    rw [a3]
    rfl
  have lo : asL L = .ok [.tuple [d1, .bool g1], .tuple [d2, .bool g2], .tuple [d3, .bool g3]] := by rw [← hL]; rfl
  generalize ([.tuple [d1, .bool g1], .tuple [d2, .bool g2], .tuple [d3, .bool g3]] : List PD) = TS at *
  simp +decide only [m_law_asked_v5, den_law_asked_v5, ev_seq, seq_nx, seq_rt, seq_ex, seq_bk, seq_ct, seq_ite, fl_ok, fl_ex, fl_ite, ev_set, kSet_ev, ev_ret, ev_retN, ev_nx, ev_bk, ev_ct, ev_raise, ev_if, kIf_ev, ev_drop, kNx_ev, ev_par, kPar_ev, kId_ev, ev_asg, kAsg_ev, ev_for, kFor_ev, ev_V, dVg_ok, ev_C, ev_1, ev_2, bind2_ok, bind2_ite1, bind2_ite2, bind_ite, ev_A, ev_nil, ev_cons, kCons_ev, ev_T, toB_ev, ev_and, ev_or, ev_not, kAnd_ev, kOr_ev, kNot_ev, ev_andV, ev_orV, ev_notV, kAndV_ev, kOrV_ev, kNotV_ev, ev_ife, kIfE_ev, ev_ch, kCh, tup_ev, lst_ev, call_ev, kw_ev, ev_kw, ev_fn, startE_0, startE_s, startE_c, fin_rt, fin_nx, fin_ex, fin_ite, ix_t0, ix_t1, ix_t2, ix_t3, ix_l0, ix_l1, ix_l2, len_l, len_t1, len_t2, len_t3, len_t4, beq_self_eq_true, ev_iL, ev_iT, asL_ev, asT_ev, ev_iA, ev_P, toI_ev, ev_P0, ev_sl, kSl_ev, put_1, gAdd_i, gSub_i, gMul_i, gDiv_p, gMod_p, gPow_l, gShl_l, gShr_l, gLt_i, gLe_i, gGt_i, gGe_i, gEq_i, gNe_i, gNeg_i, gAbs_i, gInt_i, gInt_b, gEq_s, gNe_s, gEq_b, gNe_b, gEq_2, gNe_2, gEq_3, gNe_3, gEq_22, gNe_22, DL.R.bind_ok, DL.R.bind_ex, ev_setL, kSetL_ev, ev_lDisp, kDisp_ev, ev_lList, lOf_l, lOf_t, ev_frz, frz_l, frz_d, frz_n, ev_lend, lend_l, lend_d, atom_i, atom_b, atom_s, ev_lendB, lendB_l, lendB_d, ev_app, app_l, kApp_ev, ev_put, put_l, ev_ixO, ixO_l, ixO_d, put_m, putAll_c, putAll_n, ev_lc, kLst_ev, ev_lcL, wipe_n, wipe_c, r1_2, r1_3, bits_ev, List.getElem?_cons_zero, List.getElem?_cons_succ, List.set_cons_zero, List.set_cons_succ, List.length_cons, List.length_nil, List.length_map, List.append_nil, List.cons_append, List.nil_append, ev_if, turn_nx, turn_ct, turn_bk, turn_rt, turn_ite, kWh_ev, isi_int_int, isi_bool_int, isi_int_bool, isi_bool_bool, isi_int_str, isi_int_none, isi_int_list, isi_int_tup, isi_bool_str, isi_bool_none, isi_bool_list, isi_bool_tup, isi_tup_tup, isi_tup_int, isi_tup_bool, isi_tup_str, isi_tup_none, isi_tup_list, isi_list_list, isi_list_tup, isi_list_int, isi_list_bool, isi_list_str, isi_list_none, isi_str_str, isi_str_int, isi_str_bool, isi_str_none, isi_str_list, isi_str_tup, decide_true, decide_false, not_true_eq_false, not_false_eq_true, ne_eq, decide_eq_true_eq, Bool.not_eq_true', decide_eq_false_iff_not, Bool.not_true, Bool.not_false, Bool.false_eq_true, if_true, if_false, reduceIte, lo, F1, F2]
/-! the things drawn -/
theorem law_thing_ok (c k : Int) {n : Nat} [Bd (c + k + 1) n] [Bd (c + (k + 40) + 1) n] (hn : n ≤ 134217000) : ∃ (d : PD) (g : Bool), m_law_thing [.int c, .int k] = .ok (.tuple [d, .bool g]) ∧ Th d g := by
  have e := law_great_eq c k hn
  have hg := gr_nonneg c k
  have bm : Bd ((10 : Int) ^ 40) 140 := ⟨by decide⟩
  obtain ⟨z, ez, bz⟩ := law_number_ok c (k + 40) (10 ^ 40) hn (by decide)
  generalize gr c k = g at *
  by_cases c0 : g % 5 = 0
  · have h0 : 0 ≤ g / 5 % 9 := by omega
    obtain ⟨j, hj⟩ := Int.eq_ofNat_of_zero_le h0
    have hj9 : j < odd9.length := by show j < 9; omega
    have ix : gIx (.list odd9) (.int (g / 5 % 9)) = .ok odd9[j] := by rw [hj]; exact ix_l (List.getElem?_eq_getElem hj9)
    refine ⟨odd9[j], false, ?_, .inr ⟨rfl, List.getElem_mem hj9⟩⟩
    have ix' : gIx (.list [.bool true, .bool false, .none, .str "4", .str "", .list [.int 4], .tuple [.int 1, .int 2], .dict [], .dict [(.int 1, .int 2)]]) (.int (g / 5 % 9)) = .ok odd9[j] := ix
    generalize odd9[j] = o at *
    have dd : ∀ ρ : En, dDisp1 1 (dC (.int 2)) ρ = .ok (.dict [(.int 1, .int 2)]) := fun _ => rfl
    simp +decide only [m_law_thing, den_law_thing, ev_seq, seq_nx, seq_rt, seq_ex, seq_bk, seq_ct, seq_ite, fl_ok, fl_ex, fl_ite, ev_set, kSet_ev, ev_ret, ev_retN, ev_nx, ev_bk, ev_ct, ev_raise, ev_if, kIf_ev, ev_drop, kNx_ev, ev_par, kPar_ev, kId_ev, ev_asg, kAsg_ev, ev_for, kFor_ev, ev_V, dVg_ok, ev_C, ev_1, ev_2, bind2_ok, bind2_ite1, bind2_ite2, bind_ite, ev_A, ev_nil, ev_cons, kCons_ev, ev_T, toB_ev, ev_and, ev_or, ev_not, kAnd_ev, kOr_ev, kNot_ev, ev_andV, ev_orV, ev_notV, kAndV_ev, kOrV_ev, kNotV_ev, ev_ife, kIfE_ev, ev_ch, kCh, tup_ev, lst_ev, call_ev, kw_ev, ev_kw, ev_fn, startE_0, startE_s, startE_c, fin_rt, fin_nx, fin_ex, fin_ite, ix_t0, ix_t1, ix_t2, ix_t3, ix_l0, ix_l1, ix_l2, len_l, len_t1, len_t2, len_t3, len_t4, beq_self_eq_true, ev_iL, ev_iT, asL_ev, asT_ev, ev_iA, ev_P, toI_ev, ev_P0, ev_sl, kSl_ev, put_1, gAdd_i, gSub_i, gMul_i, gDiv_p, gMod_p, gPow_l, gShl_l, gShr_l, gLt_i, gLe_i, gGt_i, gGe_i, gEq_i, gNe_i, gNeg_i, gAbs_i, gInt_i, gInt_b, gEq_s, gNe_s, gEq_b, gNe_b, gEq_2, gNe_2, gEq_3, gNe_3, gEq_22, gNe_22, DL.R.bind_ok, DL.R.bind_ex, ev_setL, kSetL_ev, ev_lDisp, kDisp_ev, ev_lList, lOf_l, lOf_t, ev_frz, frz_l, frz_d, frz_n, ev_lend, lend_l, lend_d, atom_i, atom_b, atom_s, ev_lendB, lendB_l, lendB_d, ev_app, app_l, kApp_ev, ev_put, put_l, ev_ixO, ixO_l, ixO_d, put_m, putAll_c, putAll_n, ev_lc, kLst_ev, ev_lcL, wipe_n, wipe_c, r1_2, r1_3, bits_ev, List.getElem?_cons_zero, List.getElem?_cons_succ, List.set_cons_zero, List.set_cons_succ, List.length_cons, List.length_nil, List.length_map, List.append_nil, List.cons_append, List.nil_append, ev_if, turn_nx, turn_ct, turn_bk, turn_rt, turn_ite, kWh_ev, isi_int_int, isi_bool_int, isi_int_bool, isi_bool_bool, isi_int_str, isi_int_none, isi_int_list, isi_int_tup, isi_bool_str, isi_bool_none, isi_bool_list, isi_bool_tup, isi_tup_tup, isi_tup_int, isi_tup_bool, isi_tup_str, isi_tup_none, isi_tup_list, isi_list_list, isi_list_tup, isi_list_int, isi_list_bool, isi_list_str, isi_list_none, isi_str_str, isi_str_int, isi_str_bool, isi_str_none, isi_str_list, isi_str_tup, decide_true, decide_false, not_true_eq_false, not_false_eq_true, ne_eq, decide_eq_true_eq, Bool.not_eq_true', decide_eq_false_iff_not, Bool.not_true, Bool.not_false, Bool.false_eq_true, if_true, if_false, reduceIte, e, c0, ix', dd]
  · by_cases c1 : g % 5 = 1
    · have h0 : 0 ≤ g / 5 % 8 := by omega
      have h1 : g / 5 % 8 < (([0, 0, 1, -3, 49, 50, 99, 100] : List Int).length : Nat) := by show g / 5 % 8 < 8; omega
      have ix := ix_ints (zs := [0, 0, 1, -3, 49, 50, 99, 100]) h0 h1
      refine ⟨.int (([0, 0, 1, -3, 49, 50, 99, 100] : List Int).getD (g / 5 % 8).toNat 0), true, ?_, .inl ⟨rfl, _, rfl, ?_⟩⟩
      · have ix' : gIx (.list [.int 0, .int 0, .int 1, .int (-3), .int 49, .int 50, .int 99, .int 100]) (.int (g / 5 % 8)) = _ := ix
        generalize ([0, 0, 1, -3, 49, 50, 99, 100] : List Int).getD (g / 5 % 8).toNat 0 = o at *
        simp +decide only [m_law_thing, den_law_thing, ev_seq, seq_nx, seq_rt, seq_ex, seq_bk, seq_ct, seq_ite, fl_ok, fl_ex, fl_ite, ev_set, kSet_ev, ev_ret, ev_retN, ev_nx, ev_bk, ev_ct, ev_raise, ev_if, kIf_ev, ev_drop, kNx_ev, ev_par, kPar_ev, kId_ev, ev_asg, kAsg_ev, ev_for, kFor_ev, ev_V, dVg_ok, ev_C, ev_1, ev_2, bind2_ok, bind2_ite1, bind2_ite2, bind_ite, ev_A, ev_nil, ev_cons, kCons_ev, ev_T, toB_ev, ev_and, ev_or, ev_not, kAnd_ev, kOr_ev, kNot_ev, ev_andV, ev_orV, ev_notV, kAndV_ev, kOrV_ev, kNotV_ev, ev_ife, kIfE_ev, ev_ch, kCh, tup_ev, lst_ev, call_ev, kw_ev, ev_kw, ev_fn, startE_0, startE_s, startE_c, fin_rt, fin_nx, fin_ex, fin_ite, ix_t0, ix_t1, ix_t2, ix_t3, ix_l0, ix_l1, ix_l2, len_l, len_t1, len_t2, len_t3, len_t4, beq_self_eq_true, ev_iL, ev_iT, asL_ev, asT_ev, ev_iA, ev_P, toI_ev, ev_P0, ev_sl, kSl_ev, put_1, gAdd_i, gSub_i, gMul_i, gDiv_p, gMod_p, gPow_l, gShl_l, gShr_l, gLt_i, gLe_i, gGt_i, gGe_i, gEq_i, gNe_i, gNeg_i, gAbs_i, gInt_i, gInt_b, gEq_s, gNe_s, gEq_b, gNe_b, gEq_2, gNe_2, gEq_3, gNe_3, gEq_22, gNe_22, DL.R.bind_ok, DL.R.bind_ex, ev_setL, kSetL_ev, ev_lDisp, kDisp_ev, ev_lList, lOf_l, lOf_t, ev_frz, frz_l, frz_d, frz_n, ev_lend, lend_l, lend_d, atom_i, atom_b, atom_s, ev_lendB, lendB_l, lendB_d, ev_app, app_l, kApp_ev, ev_put, put_l, ev_ixO, ixO_l, ixO_d, put_m, putAll_c, putAll_n, ev_lc, kLst_ev, ev_lcL, wipe_n, wipe_c, r1_2, r1_3, bits_ev, List.getElem?_cons_zero, List.getElem?_cons_succ, List.set_cons_zero, List.set_cons_succ, List.length_cons, List.length_nil, List.length_map, List.append_nil, List.cons_append, List.nil_append, ev_if, turn_nx, turn_ct, turn_bk, turn_rt, turn_ite, kWh_ev, isi_int_int, isi_bool_int, isi_int_bool, isi_bool_bool, isi_int_str, isi_int_none, isi_int_list, isi_int_tup, isi_bool_str, isi_bool_none, isi_bool_list, isi_bool_tup, isi_tup_tup, isi_tup_int, isi_tup_bool, isi_tup_str, isi_tup_none, isi_tup_list, isi_list_list, isi_list_tup, isi_list_int, isi_list_bool, isi_list_str, isi_list_none, isi_str_str, isi_str_int, isi_str_bool, isi_str_none, isi_str_list, isi_str_tup, decide_true, decide_false, not_true_eq_false, not_false_eq_true, ne_eq, decide_eq_true_eq, Bool.not_eq_true', decide_eq_false_iff_not, Bool.not_true, Bool.not_false, Bool.false_eq_true, if_true, if_false, reduceIte, e, c0, c1, ix']
      · refine Bd.mono (getD_bd (n := 8) ?_) (by decide)
        intro z hz
        simp only [List.mem_cons, List.not_mem_nil, or_false] at hz
        rcases hz with rfl | rfl | rfl | rfl | rfl | rfl | rfl | rfl <;> decide
    · refine ⟨.int z, true, ?_, .inl ⟨rfl, z, rfl, bz⟩⟩
      simp +decide only [m_law_thing, den_law_thing, ev_seq, seq_nx, seq_rt, seq_ex, seq_bk, seq_ct, seq_ite, fl_ok, fl_ex, fl_ite, ev_set, kSet_ev, ev_ret, ev_retN, ev_nx, ev_bk, ev_ct, ev_raise, ev_if, kIf_ev, ev_drop, kNx_ev, ev_par, kPar_ev, kId_ev, ev_asg, kAsg_ev, ev_for, kFor_ev, ev_V, dVg_ok, ev_C, ev_1, ev_2, bind2_ok, bind2_ite1, bind2_ite2, bind_ite, ev_A, ev_nil, ev_cons, kCons_ev, ev_T, toB_ev, ev_and, ev_or, ev_not, kAnd_ev, kOr_ev, kNot_ev, ev_andV, ev_orV, ev_notV, kAndV_ev, kOrV_ev, kNotV_ev, ev_ife, kIfE_ev, ev_ch, kCh, tup_ev, lst_ev, call_ev, kw_ev, ev_kw, ev_fn, startE_0, startE_s, startE_c, fin_rt, fin_nx, fin_ex, fin_ite, ix_t0, ix_t1, ix_t2, ix_t3, ix_l0, ix_l1, ix_l2, len_l, len_t1, len_t2, len_t3, len_t4, beq_self_eq_true, ev_iL, ev_iT, asL_ev, asT_ev, ev_iA, ev_P, toI_ev, ev_P0, ev_sl, kSl_ev, put_1, gAdd_i, gSub_i, gMul_i, gDiv_p, gMod_p, gPow_l, gShl_l, gShr_l, gLt_i, gLe_i, gGt_i, gGe_i, gEq_i, gNe_i, gNeg_i, gAbs_i, gInt_i, gInt_b, gEq_s, gNe_s, gEq_b, gNe_b, gEq_2, gNe_2, gEq_3, gNe_3, gEq_22, gNe_22, DL.R.bind_ok, DL.R.bind_ex, ev_setL, kSetL_ev, ev_lDisp, kDisp_ev, ev_lList, lOf_l, lOf_t, ev_frz, frz_l, frz_d, frz_n, ev_lend, lend_l, lend_d, atom_i, atom_b, atom_s, ev_lendB, lendB_l, lendB_d, ev_app, app_l, kApp_ev, ev_put, put_l, ev_ixO, ixO_l, ixO_d, put_m, putAll_c, putAll_n, ev_lc, kLst_ev, ev_lcL, wipe_n, wipe_c, r1_2, r1_3, bits_ev, List.getElem?_cons_zero, List.getElem?_cons_succ, List.set_cons_zero, List.set_cons_succ, List.length_cons, List.length_nil, List.length_map, List.append_nil, List.cons_append, List.nil_append, ev_if, turn_nx, turn_ct, turn_bk, turn_rt, turn_ite, kWh_ev, isi_int_int, isi_bool_int, isi_int_bool, isi_bool_bool, isi_int_str, isi_int_none, isi_int_list, isi_int_tup, isi_bool_str, isi_bool_none, isi_bool_list, isi_bool_tup, isi_tup_tup, isi_tup_int, isi_tup_bool, isi_tup_str, isi_tup_none, isi_tup_list, isi_list_list, isi_list_tup, isi_list_int, isi_list_bool, isi_list_str, isi_list_none, isi_str_str, isi_str_int, isi_str_bool, isi_str_none, isi_str_list, isi_str_tup, decide_true, decide_false, not_true_eq_false, not_false_eq_true, ne_eq, decide_eq_true_eq, Bool.not_eq_true', decide_eq_false_iff_not, Bool.not_true, Bool.not_false, Bool.false_eq_true, if_true, if_false, reduceIte, e, c0, c1, ez]
theorem k02_turn (s : PD) (c : Int) [bc : Bd c 1048576] (x1 : Option SV) : lb2_law_k02 [some (.d s), x1, some (.d (.int c))] = .nx [some (.d s), x1, some (.d (.int c))] := by
  have b : ∀ k : Int, k.natAbs < 2 ^ 10 → Bd (c + k + 1) 1048580 := fun k hk => by
    have bk : Bd k 10 := ⟨hk⟩
    have b1 : Bd (1 : Int) 1 := ⟨by decide⟩
    exact Bd.mono (show Bd (c + k + 1) (max (max 1048576 10 + 1) 1 + 1) from inferInstance) (by decide)
  have b0 := b 0 (by decide)
  have b40 := b (0 + 40) (by decide)
  have b9 := b 9 (by decide)
  have b49 := b (9 + 40) (by decide)
  have b18 := b 18 (by decide)
  have b58 := b (18 + 40) (by decide)
  obtain ⟨d1, g1, e1, h1⟩ := law_thing_ok c 0 (n := 1048580) (by decide)
  obtain ⟨d2, g2, e2, h2⟩ := law_thing_ok c 9 (n := 1048580) (by decide)
  obtain ⟨d3, g3, e3, h3⟩ := law_thing_ok c 18 (n := 1048580) (by decide)
  have a := asked_ok d1 d2 d3 g1 g2 g3 h1 h2 h3
  simp +decide only [lb2_law_k02, ev_seq, seq_nx, seq_rt, seq_ex, seq_bk, seq_ct, seq_ite, fl_ok, fl_ex, fl_ite, ev_set, kSet_ev, ev_ret, ev_retN, ev_nx, ev_bk, ev_ct, ev_raise, ev_if, kIf_ev, ev_drop, kNx_ev, ev_par, kPar_ev, kId_ev, ev_asg, kAsg_ev, ev_for, kFor_ev, ev_V, dVg_ok, ev_C, ev_1, ev_2, bind2_ok, bind2_ite1, bind2_ite2, bind_ite, ev_A, ev_nil, ev_cons, kCons_ev, ev_T, toB_ev, ev_and, ev_or, ev_not, kAnd_ev, kOr_ev, kNot_ev, ev_andV, ev_orV, ev_notV, kAndV_ev, kOrV_ev, kNotV_ev, ev_ife, kIfE_ev, ev_ch, kCh, tup_ev, lst_ev, call_ev, kw_ev, ev_kw, ev_fn, startE_0, startE_s, startE_c, fin_rt, fin_nx, fin_ex, fin_ite, ix_t0, ix_t1, ix_t2, ix_t3, ix_l0, ix_l1, ix_l2, len_l, len_t1, len_t2, len_t3, len_t4, beq_self_eq_true, ev_iL, ev_iT, asL_ev, asT_ev, ev_iA, ev_P, toI_ev, ev_P0, ev_sl, kSl_ev, put_1, gAdd_i, gSub_i, gMul_i, gDiv_p, gMod_p, gPow_l, gShl_l, gShr_l, gLt_i, gLe_i, gGt_i, gGe_i, gEq_i, gNe_i, gNeg_i, gAbs_i, gInt_i, gInt_b, gEq_s, gNe_s, gEq_b, gNe_b, gEq_2, gNe_2, gEq_3, gNe_3, gEq_22, gNe_22, DL.R.bind_ok, DL.R.bind_ex, ev_setL, kSetL_ev, ev_lDisp, kDisp_ev, ev_lList, lOf_l, lOf_t, ev_frz, frz_l, frz_d, frz_n, ev_lend, lend_l, lend_d, atom_i, atom_b, atom_s, ev_lendB, lendB_l, lendB_d, ev_app, app_l, kApp_ev, ev_put, put_l, ev_ixO, ixO_l, ixO_d, put_m, putAll_c, putAll_n, ev_lc, kLst_ev, ev_lcL, wipe_n, wipe_c, r1_2, r1_3, bits_ev, List.getElem?_cons_zero, List.getElem?_cons_succ, List.set_cons_zero, List.set_cons_succ, List.length_cons, List.length_nil, List.length_map, List.append_nil, List.cons_append, List.nil_append, ev_if, turn_nx, turn_ct, turn_bk, turn_rt, turn_ite, kWh_ev, isi_int_int, isi_bool_int, isi_int_bool, isi_bool_bool, isi_int_str, isi_int_none, isi_int_list, isi_int_tup, isi_bool_str, isi_bool_none, isi_bool_list, isi_bool_tup, isi_tup_tup, isi_tup_int, isi_tup_bool, isi_tup_str, isi_tup_none, isi_tup_list, isi_list_list, isi_list_tup, isi_list_int, isi_list_bool, isi_list_str, isi_list_none, isi_str_str, isi_str_int, isi_str_bool, isi_str_none, isi_str_list, isi_str_tup, decide_true, decide_false, not_true_eq_false, not_false_eq_true, ne_eq, decide_eq_true_eq, Bool.not_eq_true', decide_eq_false_iff_not, Bool.not_true, Bool.not_false, Bool.false_eq_true, if_true, if_false, reduceIte, e1, e2, e3, a]
theorem k02_turn1 (s : PD) (z : Int) (hz : z.natAbs < 2 ^ 8) (x2 : Option SV) : lb1_law_k02 [some (.d s), some (.d (.int z)), x2] = .nx [some (.d s), some (.d (.int z)), x2] := by
  have bz : Bd z 1400 := (show Bd z 8 from ⟨hz⟩).mono (by decide)
  obtain ⟨b, e1, e2⟩ := root_int z
  have l := law_truth_b b
  simp +decide only [lb1_law_k02, ev_seq, seq_nx, seq_rt, seq_ex, seq_bk, seq_ct, seq_ite, fl_ok, fl_ex, fl_ite, ev_set, kSet_ev, ev_ret, ev_retN, ev_nx, ev_bk, ev_ct, ev_raise, ev_if, kIf_ev, ev_drop, kNx_ev, ev_par, kPar_ev, kId_ev, ev_asg, kAsg_ev, ev_for, kFor_ev, ev_V, dVg_ok, ev_C, ev_1, ev_2, bind2_ok, bind2_ite1, bind2_ite2, bind_ite, ev_A, ev_nil, ev_cons, kCons_ev, ev_T, toB_ev, ev_and, ev_or, ev_not, kAnd_ev, kOr_ev, kNot_ev, ev_andV, ev_orV, ev_notV, kAndV_ev, kOrV_ev, kNotV_ev, ev_ife, kIfE_ev, ev_ch, kCh, tup_ev, lst_ev, call_ev, kw_ev, ev_kw, ev_fn, startE_0, startE_s, startE_c, fin_rt, fin_nx, fin_ex, fin_ite, ix_t0, ix_t1, ix_t2, ix_t3, ix_l0, ix_l1, ix_l2, len_l, len_t1, len_t2, len_t3, len_t4, beq_self_eq_true, ev_iL, ev_iT, asL_ev, asT_ev, ev_iA, ev_P, toI_ev, ev_P0, ev_sl, kSl_ev, put_1, gAdd_i, gSub_i, gMul_i, gDiv_p, gMod_p, gPow_l, gShl_l, gShr_l, gLt_i, gLe_i, gGt_i, gGe_i, gEq_i, gNe_i, gNeg_i, gAbs_i, gInt_i, gInt_b, gEq_s, gNe_s, gEq_b, gNe_b, gEq_2, gNe_2, gEq_3, gNe_3, gEq_22, gNe_22, DL.R.bind_ok, DL.R.bind_ex, ev_setL, kSetL_ev, ev_lDisp, kDisp_ev, ev_lList, lOf_l, lOf_t, ev_frz, frz_l, frz_d, frz_n, ev_lend, lend_l, lend_d, atom_i, atom_b, atom_s, ev_lendB, lendB_l, lendB_d, ev_app, app_l, kApp_ev, ev_put, put_l, ev_ixO, ixO_l, ixO_d, put_m, putAll_c, putAll_n, ev_lc, kLst_ev, ev_lcL, wipe_n, wipe_c, r1_2, r1_3, bits_ev, List.getElem?_cons_zero, List.getElem?_cons_succ, List.set_cons_zero, List.set_cons_succ, List.length_cons, List.length_nil, List.length_map, List.append_nil, List.cons_append, List.nil_append, ev_if, turn_nx, turn_ct, turn_bk, turn_rt, turn_ite, kWh_ev, isi_int_int, isi_bool_int, isi_int_bool, isi_bool_bool, isi_int_str, isi_int_none, isi_int_list, isi_int_tup, isi_bool_str, isi_bool_none, isi_bool_list, isi_bool_tup, isi_tup_tup, isi_tup_int, isi_tup_bool, isi_tup_str, isi_tup_none, isi_tup_list, isi_list_list, isi_list_tup, isi_list_int, isi_list_bool, isi_list_str, isi_list_none, isi_str_str, isi_str_int, isi_str_bool, isi_str_none, isi_str_list, isi_str_tup, decide_true, decide_false, not_true_eq_false, not_false_eq_true, ne_eq, decide_eq_true_eq, Bool.not_eq_true', decide_eq_false_iff_not, Bool.not_true, Bool.not_false, Bool.false_eq_true, if_true, if_false, reduceIte, e1, e2, l]
theorem law_k02_true (ns : List Int) (hl : ns.length ≤ 63) (hb : ∀ z ∈ ns, PySem.Builtin.Int.intBits z ≤ 1048576) : DL.m_law_k02 [.list (ns.map PySem.PyData.int)] = .ok (.bool true) := by
  have hs : gSl (.list (ns.map PyData.int)) none (some 60) = .ok (.list ((ns.map PyData.int).take 60)) := sl_hi (k := 60)
  have hlen : ([PyData.int 0, PyData.int 1, PyData.int 2] : List PD).length + ((ns.map PyData.int).take 60).length ≤ 16777216 := by simp; omega
  have hadd := add_l hlen
  have K1 := for_keep (g := lb1_law_k02) (pre := [some (.d (.list (ns.map PyData.int)))]) (n := 2) (i := 1) (Nat.le_refl 1) (rng (-1) 103) [none, none] rfl (by
    intro d hd ys hy
    unfold rng at hd
    obtain ⟨i, hi, rfl⟩ := List.mem_map.mp hd
    have hi2 := List.mem_range.mp hi
    match ys, hy with
    | [x1, x2], _ => exact ⟨[_, x2], rfl, k02_turn1 _ (-1 + (i : Nat)) (by omega) x2⟩)
  obtain ⟨ys, hy, e1⟩ := K1
  match ys, hy with
  | [y1, y2], _ =>
  have K2 := for_keep (g := lb2_law_k02) (pre := [some (.d (.list (ns.map PyData.int))), y1]) (n := 1) (i := 2) (Nat.le_refl 2) ([PyData.int 0, PyData.int 1, PyData.int 2] ++ (ns.map PyData.int).take 60) [y2] rfl (by
    intro d hd ys hy
    obtain ⟨z, rfl, bz⟩ := cells_of (zs := [0, 1, 2]) (k := 60) (b := 0) hb (by decide) hd
    match ys, hy with
    | [x2], _ => exact ⟨[_], rfl, k02_turn _ z y1⟩)
  obtain ⟨zs, hz, e2⟩ := K2
  match zs, hz with
  | [z2], _ =>
  simp only [List.cons_append, List.nil_append] at e1
  have e2' : sForL (.one 2) lb2_law_k02 ([PyData.int 0, PyData.int 1, PyData.int 2] ++ (ns.map PyData.int).take 60) [some (.d (.list (ns.map PyData.int))), y1, y2] = .nx [some (.d (.list (ns.map PyData.int))), y1, z2] := e2
  have t1 : Th (.int 1) true := .inl ⟨rfl, 1, rfl, (show Bd (1 : Int) 8 from ⟨by decide⟩).mono (by decide)⟩
  have t0 : Th (.int 0) true := .inl ⟨rfl, 0, rfl, (show Bd (0 : Int) 8 from ⟨by decide⟩).mono (by decide)⟩
  have tt : Th (.bool true) false := .inr ⟨rfl, List.mem_cons_self⟩
  have a := asked_ok (.int 1) (.bool true) (.int 0) true false true t1 tt t0
  have r2 : gR2 [.int (-1), .int 102] = .ok (rng (-1) 103) := rfl
  have fin : ∀ (NS R1 S1 S2 : List PD), gSl (.list NS) none (some 60) = .ok (.list S1) → gAdd (.list [.int 0, .int 1, .int 2]) (.list S1) = .ok (.list S2) → gR2 [.int (-1), .int 102] = .ok R1 → sForL (.one 1) lb1_law_k02 R1 [some (.d (.list NS)), none, none] = .nx [some (.d (.list NS)), y1, y2] → sForL (.one 2) lb2_law_k02 S2 [some (.d (.list NS)), y1, y2] = .nx [some (.d (.list NS)), y1, z2] → m_law_k02 [.list NS] = .ok (.bool true) := by
    intro NS R1 S1 S2 hs hadd r2 e1 e2
    simp +decide only [m_law_k02, den_law_k02, ev_seq, seq_nx, seq_rt, seq_ex, seq_bk, seq_ct, seq_ite, fl_okN, fl_ex, fl_ite, ev_set, kSet_ev, ev_ret, ev_retN, ev_nx, ev_bk, ev_ct, ev_raise, ev_if, kIf_ev, ev_drop, kNx_ev, ev_par, kPar_ev, kId_ev, ev_asg, kAsg_ev, ev_forN, kFor_ev, ev_V, dVg_ok, ev_C, ev_1, ev_2, bind2_ok, bind2_ite1, bind2_ite2, bind_ite, ev_A, ev_nil, ev_cons, kCons_ev, ev_T, toB_ev, ev_and, ev_or, ev_not, kAnd_ev, kOr_ev, kNot_ev, ev_andV, ev_orV, ev_notV, kAndV_ev, kOrV_ev, kNotV_ev, ev_ife, kIfE_ev, ev_ch, kCh, tup_ev, lst_ev, call_ev, kw_ev, ev_kw, ev_fn, startE_0, startE_s, startE_c, fin_rt, fin_nx, fin_ex, fin_ite, ix_t0, ix_t1, ix_t2, ix_t3, ix_l0, ix_l1, ix_l2, len_l, len_t1, len_t2, len_t3, len_t4, beq_self_eq_true, ev_iL, ev_iT, asL_ev, asT_ev, ev_iAN, ev_P, toI_ev, ev_P0, ev_sl, kSl_ev, put_1, gAdd_i, gSub_i, gMul_i, gDiv_p, gMod_p, gPow_l, gShl_l, gShr_l, gLt_i, gLe_i, gGt_i, gGe_i, gEq_i, gNe_i, gNeg_i, gAbs_i, gInt_i, gInt_b, gEq_s, gNe_s, gEq_b, gNe_b, gEq_2, gNe_2, gEq_3, gNe_3, gEq_22, gNe_22, bind_okN, DL.R.bind_ex, ev_setL, kSetL_ev, ev_lDisp, kDisp_ev, ev_lList, lOf_l, lOf_t, ev_frz, frz_l, frz_d, frz_n, ev_lend, lend_l, lend_d, atom_i, atom_b, atom_s, ev_lendB, lendB_l, lendB_d, ev_app, app_l, kApp_ev, ev_put, put_l, ev_ixO, ixO_l, ixO_d, put_m, putAll_c, putAll_n, ev_lc, kLst_ev, ev_lcL, wipe_n, wipe_c, r1_2, r1_3, bits_ev, List.getElem?_cons_zero, List.getElem?_cons_succ, List.set_cons_zero, List.set_cons_succ, List.length_cons, List.length_nil, List.length_map, List.append_nil, List.cons_append, List.nil_append, ev_if, turn_nx, turn_ct, turn_bk, turn_rt, turn_ite, kWh_ev, isi_int_int, isi_bool_int, isi_int_bool, isi_bool_bool, isi_int_str, isi_int_none, isi_int_list, isi_int_tup, isi_bool_str, isi_bool_none, isi_bool_list, isi_bool_tup, isi_tup_tup, isi_tup_int, isi_tup_bool, isi_tup_str, isi_tup_none, isi_tup_list, isi_list_list, isi_list_tup, isi_list_int, isi_list_bool, isi_list_str, isi_list_none, isi_str_str, isi_str_int, isi_str_bool, isi_str_none, isi_str_list, isi_str_tup, decide_true, decide_false, not_true_eq_false, not_false_eq_true, ne_eq, decide_eq_true_eq, Bool.not_eq_true', decide_eq_false_iff_not, Bool.not_true, Bool.not_false, Bool.false_eq_true, if_true, if_false, reduceIte, hs, hadd, r2, e1, e2, a]
  exact fin _ _ _ _ hs hadd r2 e1 e2'
end DL

set_option Elab.async false
set_option linter.all false
set_option maxRecDepth 100000
set_option maxHeartbeats 4000000
set_option autoImplicit false
namespace DL
section
open PySem L2
def top (i : Nat) : Stmt := PySem.Challenge.pw_boardglue_k02_no_length.main.body.getD i (.Pass ⟨0, 0, 0, 0⟩)
abbrev s_is_whole : Stmt := top 15
theorem sc_is_whole : FnScope ["thing"] ["thing"] (defScope s_is_whole) := ⟨rfl, rfl, rfl, by decide +kernel, rfl, by decide +kernel, by decide +kernel⟩
def d_is_whole : He.DefD := ⟨("is_whole", none), "is_whole", "is_whole", defArgs s_is_whole, defBody s_is_whole, defScope s_is_whole, [], []⟩
abbrev s_root_floor : Stmt := top 16
theorem sc_root_floor : FnScope ["number", "found", "closer"] ["number"] (defScope s_root_floor) := ⟨rfl, rfl, rfl, by decide +kernel, rfl, by decide +kernel, by decide +kernel⟩
def d_root_floor : He.DefD := ⟨("root_floor", none), "root_floor", "root_floor", defArgs s_root_floor, defBody s_root_floor, defScope s_root_floor, [], []⟩
abbrev s_is_root : Stmt := top 17
theorem sc_is_root : FnScope ["thing"] ["thing"] (defScope s_is_root) := ⟨rfl, rfl, rfl, by decide +kernel, rfl, by decide +kernel, by decide +kernel⟩
def d_is_root : He.DefD := ⟨("is_root", none), "is_root", "is_root", defArgs s_is_root, defBody s_is_root, defScope s_is_root, [], []⟩
abbrev s_divisor : Stmt := top 18
theorem sc_divisor : FnScope ["one", "other"] ["one", "other"] (defScope s_divisor) := ⟨rfl, rfl, rfl, by decide +kernel, rfl, by decide +kernel, by decide +kernel⟩
def d_divisor : He.DefD := ⟨("divisor", none), "divisor", "divisor", defArgs s_divisor, defBody s_divisor, defScope s_divisor, [], []⟩
abbrev s_lowest : Stmt := top 19
theorem sc_lowest : FnScope ["a", "b", "n", "share"] ["a", "b", "n"] (defScope s_lowest) := ⟨rfl, rfl, rfl, by decide +kernel, rfl, by decide +kernel, by decide +kernel⟩
def d_lowest : He.DefD := ⟨("lowest", none), "lowest", "lowest", defArgs s_lowest, defBody s_lowest, defScope s_lowest, [], []⟩
abbrev s_length : Stmt := top 20
theorem sc_length : FnScope ["a", "b", "n"] ["a", "b", "n"] (defScope s_length) := ⟨rfl, rfl, rfl, by decide +kernel, rfl, by decide +kernel, by decide +kernel⟩
def d_length : He.DefD := ⟨("length", none), "length", "length", defArgs s_length, defBody s_length, defScope s_length, [(He.Dv.int 0), (He.Dv.int 1)], []⟩
abbrev s_law_whole : Stmt := top 22
theorem sc_law_whole : FnScope ["_law_found"] ["_law_found"] (defScope s_law_whole) := ⟨rfl, rfl, rfl, by decide +kernel, rfl, by decide +kernel, by decide +kernel⟩
def d_law_whole : He.DefD := ⟨("_law_whole", none), "_law_whole", "_law_whole", defArgs s_law_whole, defBody s_law_whole, defScope s_law_whole, [], []⟩
abbrev s_law_great : Stmt := top 23
theorem sc_law_great : FnScope ["_law_cell", "_law_k", "_law_number_here"] ["_law_cell", "_law_k"] (defScope s_law_great) := ⟨rfl, rfl, rfl, by decide +kernel, rfl, by decide +kernel, by decide +kernel⟩
def d_law_great : He.DefD := ⟨("_law_great", none), "_law_great", "_law_great", defArgs s_law_great, defBody s_law_great, defScope s_law_great, [], []⟩
abbrev s_law_alone : Stmt := top 24
theorem sc_law_alone : FnScope ["_law_error", "_law_many"] ["_law_error"] (defScope s_law_alone) := ⟨rfl, rfl, rfl, by decide +kernel, rfl, by decide +kernel, by decide +kernel⟩
def d_law_alone : He.DefD := ⟨("_law_alone", none), "_law_alone", "_law_alone", defArgs s_law_alone, defBody s_law_alone, defScope s_law_alone, [], []⟩
abbrev s_law_number : Stmt := top 25
theorem sc_law_number : FnScope ["_law_cell", "_law_k", "_law_most", "_law_number_here", "_law_wide"] ["_law_cell", "_law_k", "_law_most"] (defScope s_law_number) := ⟨rfl, rfl, rfl, by decide +kernel, rfl, by decide +kernel, by decide +kernel⟩
def d_law_number : He.DefD := ⟨("_law_number", none), "_law_number", "_law_number", defArgs s_law_number, defBody s_law_number, defScope s_law_number, [], []⟩
abbrev s_law_thing : Stmt := top 26
theorem sc_law_thing : FnScope ["_law_cell", "_law_k", "_law_number_here"] ["_law_cell", "_law_k"] (defScope s_law_thing) := ⟨rfl, rfl, rfl, by decide +kernel, rfl, by decide +kernel, by decide +kernel⟩
def d_law_thing : He.DefD := ⟨("_law_thing", none), "_law_thing", "_law_thing", defArgs s_law_thing, defBody s_law_thing, defScope s_law_thing, [], []⟩
abbrev s_law_refused : Stmt := top 27
theorem sc_law_refused : FnScope ["_law_some", "_law_kept", "_law_error"] ["_law_some"] (defScope s_law_refused) := ⟨rfl, rfl, rfl, by decide +kernel, rfl, by decide +kernel, by decide +kernel⟩
def d_law_refused : He.DefD := ⟨("_law_refused", none), "_law_refused", "_law_refused", defArgs s_law_refused, defBody s_law_refused, defScope s_law_refused, [], []⟩
abbrev s_law_truth : Stmt := top 28
theorem sc_law_truth : FnScope ["_law_found", "_law_due"] ["_law_found", "_law_due"] (defScope s_law_truth) := ⟨rfl, rfl, rfl, by decide +kernel, rfl, by decide +kernel, by decide +kernel⟩
def d_law_truth : He.DefD := ⟨("_law_truth", none), "_law_truth", "_law_truth", defArgs s_law_truth, defBody s_law_truth, defScope s_law_truth, [], []⟩
abbrev s_law_is_root : Stmt := top 29
theorem sc_law_is_root : FnScope ["_law_thing_here", "_law_k"] ["_law_thing_here"] (defScope s_law_is_root) := ⟨rfl, rfl, rfl, by decide +kernel, rfl, by decide +kernel, by decide +kernel⟩
def d_law_is_root : He.DefD := ⟨("_law_is_root", none), "_law_is_root", "_law_is_root", defArgs s_law_is_root, defBody s_law_is_root, defScope s_law_is_root, [], []⟩
abbrev s_law_asked : Stmt := top 30
theorem sc_law_asked : FnScope ["_law_things", "_law_thing_here", "_law_good", "_law_many", "_law_some", "_law_bad"] ["_law_things"] (defScope s_law_asked) := ⟨rfl, rfl, rfl, by decide +kernel, rfl, by decide +kernel, by decide +kernel⟩
def d_law_asked : He.DefD := ⟨("_law_asked", none), "_law_asked", "_law_asked", defArgs s_law_asked, defBody s_law_asked, defScope s_law_asked, [], []⟩
abbrev s_law : Stmt := top 31
theorem sc_law : FnScope ["_law_script", "_law_number_here", "_law_cell"] ["_law_script"] (defScope s_law) := ⟨rfl, rfl, rfl, by decide +kernel, rfl, by decide +kernel, by decide +kernel⟩
def d_law : He.DefD := ⟨("law", none), "law", "law", defArgs s_law, defBody s_law, defScope s_law, [], []⟩
def fn : List He.DefD := [d_is_whole, d_root_floor, d_is_root, d_divisor, d_lowest, d_length, d_law_whole, d_law_great, d_law_alone, d_law_number, d_law_thing, d_law_refused, d_law_truth, d_law_is_root, d_law_asked, d_law]
def fa : List He.Fa := [.glo "is_whole", .glo "root_floor", .glo "is_root", .glo "divisor", .glo "lowest", .glo "length", .glo "_law_whole", .glo "_law_great", .glo "_law_alone", .glo "_law_number", .glo "_law_thing", .glo "_law_refused", .glo "_law_truth", .glo "_law_is_root", .glo "_law_asked", .glo "law", .free "ValueError", .free "abs", .free "bool", .free "int", .free "isinstance", .free "len", .free "range", .glo "NoLength", .exc "NoLength", .glo "YardError", .glo "NoBoard", .glo "NoText", .glo "NoDeed", .glo "NoName", .glo "Grain", .glo "Unfit", .glo "TooMany", .glo "NoRow", .glo "Apart", .int "LEAST_ROOT" 2, .int "GREATEST_ROOT" 99]
def ex (K : PySem.W.Frag) : Bool := (xatB K xl_be93e3 "YardError") && (xisB K xl_be93e3 "Apart" (.ref (He.ga K "Apart"))) && (xisB K xl_be93e3 "Grain" (.ref (He.ga K "Grain"))) && (xisB K xl_be93e3 "NoBoard" (.ref (He.ga K "NoBoard"))) && (xisB K xl_be93e3 "NoDeed" (.ref (He.ga K "NoDeed"))) && (xisB K xl_be93e3 "NoLength" (.ref (He.ga K "NoLength"))) && (xisB K xl_be93e3 "NoName" (.ref (He.ga K "NoName"))) && (xisB K xl_be93e3 "NoRow" (.ref (He.ga K "NoRow"))) && (xisB K xl_be93e3 "NoText" (.ref (He.ga K "NoText"))) && (xisB K xl_be93e3 "TooMany" (.ref (He.ga K "TooMany"))) && (xisB K xl_be93e3 "Unfit" (.ref (He.ga K "Unfit"))) && (xisB K xl_be93e3 "ValueError" (.type "ValueError")) && (xisB K xl_be93e3 "YardError" (.ref (He.ga K "YardError")))
section
variable {P : Program} {w : World} {K : PySem.W.Frag} {mg : MG} {base : Heap} {h : Heap}
theorem gc_LEAST_ROOT (KX : K.In h) (GN : h.Ns mainGlobals mg) (c : He.SaysX fa fn [] [] ex w h K) : ∃ u, mg "LEAST_ROOT" = some u ∧ RelV (.int 2) u ∧ ∀ S, Rp K S (.int 2) c_LEAST_ROOT := by
  obtain ⟨t, e⟩ := He.int_ok KX GN (c.t.d.fact 35 (f := .int "LEAST_ROOT" 2) rfl)
  exact ⟨_, e, ⟨_, rfl⟩, fun S => .int _⟩
theorem gc_GREATEST_ROOT (KX : K.In h) (GN : h.Ns mainGlobals mg) (c : He.SaysX fa fn [] [] ex w h K) : ∃ u, mg "GREATEST_ROOT" = some u ∧ RelV (.int 99) u ∧ ∀ S, Rp K S (.int 99) c_GREATEST_ROOT := by
  obtain ⟨t, e⟩ := He.int_ok KX GN (c.t.d.fact 36 (f := .int "GREATEST_ROOT" 99) rfl)
  exact ⟨_, e, ⟨_, rfl⟩, fun S => .int _⟩
theorem gx_all (KX : K.In h) (GN : h.Ns mainGlobals mg) (c : He.SaysX fa fn [] [] ex w h K) : ∀ x ∈ xl_be93e3, mg x = some (.ref (He.ga K x)) := by
  intro x hx
  unfold xl_be93e3 at hx
  simp only [List.mem_cons, List.not_mem_nil, or_false] at hx
  rcases hx with rfl | rfl | rfl | rfl | rfl | rfl | rfl | rfl | rfl | rfl
  · exact He.glo_ok KX GN (c.t.d.fact 23 (f := .glo "NoLength") rfl)
  · exact He.glo_ok KX GN (c.t.d.fact 26 (f := .glo "NoBoard") rfl)
  · exact He.glo_ok KX GN (c.t.d.fact 27 (f := .glo "NoText") rfl)
  · exact He.glo_ok KX GN (c.t.d.fact 28 (f := .glo "NoDeed") rfl)
  · exact He.glo_ok KX GN (c.t.d.fact 29 (f := .glo "NoName") rfl)
  · exact He.glo_ok KX GN (c.t.d.fact 30 (f := .glo "Grain") rfl)
  · exact He.glo_ok KX GN (c.t.d.fact 31 (f := .glo "Unfit") rfl)
  · exact He.glo_ok KX GN (c.t.d.fact 32 (f := .glo "TooMany") rfl)
  · exact He.glo_ok KX GN (c.t.d.fact 33 (f := .glo "NoRow") rfl)
  · exact He.glo_ok KX GN (c.t.d.fact 34 (f := .glo "Apart") rfl)
theorem gx_YardError (KX : K.In h) (GN : h.Ns mainGlobals mg) (c : He.SaysX fa fn [] [] ex w h K) : XAt K mg xl_be93e3 "YardError" := by
  have m := c.more
  unfold ex at m
  simp only [Bool.and_eq_true] at m
  have m1 := m.1.1.1.1.1.1.1.1.1.1.1.1
  exact xat_ok m1 (He.glo_ok KX GN (c.t.d.fact 25 (f := .glo "YardError") rfl)) (gx_all KX GN c)
theorem gi_Apart (KX : K.In h) (c : He.SaysX fa fn [] [] ex w h K) : XIs K xl_be93e3 "Apart" (.ref (He.ga K "Apart")) := by
  have m := c.more
  unfold ex at m
  simp only [Bool.and_eq_true] at m
  have m1 := m.1.1.1.1.1.1.1.1.1.1.1.2
  exact xis_ok m1
theorem gi_Grain (KX : K.In h) (c : He.SaysX fa fn [] [] ex w h K) : XIs K xl_be93e3 "Grain" (.ref (He.ga K "Grain")) := by
  have m := c.more
  unfold ex at m
  simp only [Bool.and_eq_true] at m
  have m1 := m.1.1.1.1.1.1.1.1.1.1.2
  exact xis_ok m1
theorem gi_NoBoard (KX : K.In h) (c : He.SaysX fa fn [] [] ex w h K) : XIs K xl_be93e3 "NoBoard" (.ref (He.ga K "NoBoard")) := by
  have m := c.more
  unfold ex at m
  simp only [Bool.and_eq_true] at m
  have m1 := m.1.1.1.1.1.1.1.1.1.2
  exact xis_ok m1
theorem gi_NoDeed (KX : K.In h) (c : He.SaysX fa fn [] [] ex w h K) : XIs K xl_be93e3 "NoDeed" (.ref (He.ga K "NoDeed")) := by
  have m := c.more
  unfold ex at m
  simp only [Bool.and_eq_true] at m
  have m1 := m.1.1.1.1.1.1.1.1.2
  exact xis_ok m1
theorem gi_NoLength (KX : K.In h) (c : He.SaysX fa fn [] [] ex w h K) : XIs K xl_be93e3 "NoLength" (.ref (He.ga K "NoLength")) := by
  have m := c.more
  unfold ex at m
  simp only [Bool.and_eq_true] at m
  have m1 := m.1.1.1.1.1.1.1.2
  exact xis_ok m1
theorem gi_NoName (KX : K.In h) (c : He.SaysX fa fn [] [] ex w h K) : XIs K xl_be93e3 "NoName" (.ref (He.ga K "NoName")) := by
  have m := c.more
  unfold ex at m
  simp only [Bool.and_eq_true] at m
  have m1 := m.1.1.1.1.1.1.2
  exact xis_ok m1
theorem gi_NoRow (KX : K.In h) (c : He.SaysX fa fn [] [] ex w h K) : XIs K xl_be93e3 "NoRow" (.ref (He.ga K "NoRow")) := by
  have m := c.more
  unfold ex at m
  simp only [Bool.and_eq_true] at m
  have m1 := m.1.1.1.1.1.2
  exact xis_ok m1
theorem gi_NoText (KX : K.In h) (c : He.SaysX fa fn [] [] ex w h K) : XIs K xl_be93e3 "NoText" (.ref (He.ga K "NoText")) := by
  have m := c.more
  unfold ex at m
  simp only [Bool.and_eq_true] at m
  have m1 := m.1.1.1.1.2
  exact xis_ok m1
theorem gi_TooMany (KX : K.In h) (c : He.SaysX fa fn [] [] ex w h K) : XIs K xl_be93e3 "TooMany" (.ref (He.ga K "TooMany")) := by
  have m := c.more
  unfold ex at m
  simp only [Bool.and_eq_true] at m
  have m1 := m.1.1.1.2
  exact xis_ok m1
theorem gi_Unfit (KX : K.In h) (c : He.SaysX fa fn [] [] ex w h K) : XIs K xl_be93e3 "Unfit" (.ref (He.ga K "Unfit")) := by
  have m := c.more
  unfold ex at m
  simp only [Bool.and_eq_true] at m
  have m1 := m.1.1.2
  exact xis_ok m1
theorem gi_ValueError (KX : K.In h) (c : He.SaysX fa fn [] [] ex w h K) : XIs K xl_be93e3 "ValueError" (.type "ValueError") := by
  have m := c.more
  unfold ex at m
  simp only [Bool.and_eq_true] at m
  have m1 := m.1.2
  exact xis_ok m1
theorem gi_YardError (KX : K.In h) (c : He.SaysX fa fn [] [] ex w h K) : XIs K xl_be93e3 "YardError" (.ref (He.ga K "YardError")) := by
  have m := c.more
  unfold ex at m
  simp only [Bool.and_eq_true] at m
  have m1 := m.2
  exact xis_ok m1
theorem ge_NoLength (KX : K.In h) (GN : h.Ns mainGlobals mg) (c : He.SaysX fa fn [] [] ex w h K) : ExAt K mg "NoLength" := ⟨_, He.glo_ok KX GN (c.t.d.fact 23 (f := .glo "NoLength") rfl), He.exc_ok (c.t.d.fact 24 (f := .exc "NoLength") rfl)⟩
theorem fo_is_whole (KX : K.In h) (GN : h.Ns mainGlobals mg) (c : He.SaysX fa fn [] [] ex w h K)  {fd : FuncData} (F : FunD K d_is_whole.name d_is_whole.qual d_is_whole.params d_is_whole.body d_is_whole.scope (d_is_whole.dvs K) (d_is_whole.kws K) (He.fAd K d_is_whole.at_) fd) : FnOk P w K mg base (L2.CX P w) 1 (He.fAd K d_is_whole.at_) fd ["thing"] (spD K mg 1 m_is_whole) := by
  have b_bool : mg "bool" = none := He.free_ok KX GN (c.t.d.fact 18 (f := .free "bool") rfl)
  have b_int : mg "int" = none := He.free_ok KX GN (c.t.d.fact 19 (f := .free "int") rfl)
  have b_isinstance : mg "isinstance" = none := He.free_ok KX GN (c.t.d.fact 20 (f := .free "isinstance") rfl)
  have S := sc_is_whole
  rw [mm_is_whole]
  have Z := okD (P := P) (w := w) (mg := mg) (base := base) (n := 1) (k := 0) (den := den_is_whole) F S rfl
  refine Z ?_
  intro cdv A outer s H E hr
  have tk : Takes (cxOf (L2.CX P w) P w K mg base ["thing"] "is_whole" (defScope s_is_whole) (He.fAd K d_is_whole.at_) cdv A outer s H E) (fun cls d _ H => E cls d H) := takes_of rfl rfl rfl rfl
  have hp : PassesOwn (model P w) (cxOf (L2.CX P w) P w K mg base ["thing"] "is_whole" (defScope s_is_whole) (He.fAd K d_is_whole.at_) cdv A outer s H E).A (cxOf (L2.CX P w) P w K mg base ["thing"] "is_whole" (defScope s_is_whole) (He.fAd K d_is_whole.at_) cdv A outer s H E).env (cxOf (L2.CX P w) P w K mg base ["thing"] "is_whole" (defScope s_is_whole) (He.fAd K d_is_whole.at_) cdv A outer s H E).xe := passes_of rfl
  exact sd_one (sd_ret (pe_dand (pd_isi (T := "int") b_isinstance b_int (by decide +kernel) (pd_v 0)) (pe_d1 (pe_dnot (pd_isi (T := "bool") b_isinstance b_bool (by decide +kernel) (pd_v 0))))))
theorem ok_is_whole (KX : K.In h) (GN : h.Ns mainGlobals mg) (c : He.SaysX fa fn [] [] ex w h K)  : FnAt P w K mg base "is_whole" 1 1 [[]] m_is_whole := by
  obtain ⟨fd, F⟩ := c.t.d.def_ 0 (d := d_is_whole) rfl
  refine ⟨_, fd, ["thing"], fo_is_whole KX GN c  F, He.glo_ok KX GN (c.t.d.fact 0 (f := .glo "is_whole") rfl), F.kp, ?_⟩
  · intro ds hd
    rw [List.mem_singleton] at hd
    subst hd
    exact ⟨[], [], FunD.bindsN F fun _ _ _ _ _ _ us hl => match us, hl with | [_], _ => rfl, .nil, fun _ => .nil⟩
theorem fo_root_floor (KX : K.In h) (GN : h.Ns mainGlobals mg) (c : He.SaysX fa fn [] [] ex w h K)  {fd : FuncData} (F : FunD K d_root_floor.name d_root_floor.qual d_root_floor.params d_root_floor.body d_root_floor.scope (d_root_floor.dvs K) (d_root_floor.kws K) (He.fAd K d_root_floor.at_) fd) : FnOk P w K mg base (L2.CX P w) 1 (He.fAd K d_root_floor.at_) fd ["number"] (spD K mg 1 m_root_floor) := by
  have S := sc_root_floor
  rw [mm_root_floor]
  have Z := okD (P := P) (w := w) (mg := mg) (base := base) (n := 1) (k := 0) (den := den_root_floor) F S rfl
  refine Z ?_
  intro cdv A outer s H E hr
  have tk : Takes (cxOf (L2.CX P w) P w K mg base ["number", "found", "closer"] "root_floor" (defScope s_root_floor) (He.fAd K d_root_floor.at_) cdv A outer s H E) (fun cls d _ H => E cls d H) := takes_of rfl rfl rfl rfl
  have hp : PassesOwn (model P w) (cxOf (L2.CX P w) P w K mg base ["number", "found", "closer"] "root_floor" (defScope s_root_floor) (He.fAd K d_root_floor.at_) cdv A outer s H E).A (cxOf (L2.CX P w) P w K mg base ["number", "found", "closer"] "root_floor" (defScope s_root_floor) (He.fAd K d_root_floor.at_) cdv A outer s H E).env (cxOf (L2.CX P w) P w K mg base ["number", "found", "closer"] "root_floor" (defScope s_root_floor) (He.fAd K d_root_floor.at_) cdv A outer s H E).xe := passes_of rfl
  exact sd_cons (sd_if (pt_cmpd (od_eq hr.units) noEx_eq (pd_v 0) (pd_int)) (sd_one (sd_ret (pd_int))) (sd_nil)) (sd_cons (sd_set 1 S.nd rfl (.inl rfl) (pd_bin od_shl noEx_shl (pd_int) (pd_bin od_div noEx_div (pd_bin od_add noEx_add (pd_m_bit_length (pd_v 0)) (pd_int)) (pd_int)))) (sd_one (sd_while hp (pt_d (pd_bl)) (sd_cons (sd_set 2 S.nd rfl (.inl rfl) (pd_bin od_div noEx_div (pd_bin od_add noEx_add (pd_v 1) (pd_bin od_div noEx_div (pd_v 0) (pd_v 1))) (pd_int))) (sd_cons (sd_if (pt_cmpd od_ge noEx_cI (pd_v 2) (pd_v 1)) (sd_one (sd_ret (pd_v 1))) (sd_nil)) (sd_one (sd_set 1 S.nd rfl (.inl rfl) (pd_v 2))))))))
theorem ok_root_floor (KX : K.In h) (GN : h.Ns mainGlobals mg) (c : He.SaysX fa fn [] [] ex w h K)  : FnAt P w K mg base "root_floor" 1 1 [[]] m_root_floor := by
  obtain ⟨fd, F⟩ := c.t.d.def_ 1 (d := d_root_floor) rfl
  refine ⟨_, fd, ["number"], fo_root_floor KX GN c  F, He.glo_ok KX GN (c.t.d.fact 1 (f := .glo "root_floor") rfl), F.kp, ?_⟩
  · intro ds hd
    rw [List.mem_singleton] at hd
    subst hd
    exact ⟨[], [], FunD.bindsN F fun _ _ _ _ _ _ us hl => match us, hl with | [_], _ => rfl, .nil, fun _ => .nil⟩
theorem fo_is_root (KX : K.In h) (GN : h.Ns mainGlobals mg) (c : He.SaysX fa fn [] [] ex w h K) (F_is_whole : FnAt P w K mg base "is_whole" 1 1 [[]] m_is_whole) (F_root_floor : FnAt P w K mg base "root_floor" 1 1 [[]] m_root_floor) {fd : FuncData} (F : FunD K d_is_root.name d_is_root.qual d_is_root.params d_is_root.body d_is_root.scope (d_is_root.dvs K) (d_is_root.kws K) (He.fAd K d_is_root.at_) fd) : FnOk P w K mg base (L2.CX P w) 2 (He.fAd K d_is_root.at_) fd ["thing"] (spD K mg 1 m_is_root) := by
  obtain ⟨u_GREATEST_ROOT, g_GREATEST_ROOT⟩ := gc_GREATEST_ROOT (mg := mg) KX GN c
  obtain ⟨u_LEAST_ROOT, g_LEAST_ROOT⟩ := gc_LEAST_ROOT (mg := mg) KX GN c
  have S := sc_is_root
  rw [mm_is_root]
  have Z := okD (P := P) (w := w) (mg := mg) (base := base) (n := 1) (k := 1) (den := den_is_root) F S rfl
  refine Z ?_
  intro cdv A outer s H E hr
  have tk : Takes (cxOf (L2.CX P w) P w K mg base ["thing"] "is_root" (defScope s_is_root) (He.fAd K d_is_root.at_) cdv A outer s H E) (fun cls d _ H => E cls d H) := takes_of rfl rfl rfl rfl
  have hp : PassesOwn (model P w) (cxOf (L2.CX P w) P w K mg base ["thing"] "is_root" (defScope s_is_root) (He.fAd K d_is_root.at_) cdv A outer s H E).A (cxOf (L2.CX P w) P w K mg base ["thing"] "is_root" (defScope s_is_root) (He.fAd K d_is_root.at_) cdv A outer s H E).env (cxOf (L2.CX P w) P w K mg base ["thing"] "is_root" (defScope s_is_root) (He.fAd K d_is_root.at_) cdv A outer s H E).xe := passes_of rfl
  exact sd_cons (sd_if (PW.pt (pw_dor (pt_dnot (pt_d (pd_call F_is_whole mem0 (hr.mono (by decide)) tk rfl (pad_cons (pd_v 0) (pad_nil))))) (pw_o1 (pt_dnot (pt_ch od_le noEx_cI od_le noEx_cI (pd_g rfl g_LEAST_ROOT.1 g_LEAST_ROOT.2.1 g_LEAST_ROOT.2.2) (pd_v 0) (pd_g rfl g_GREATEST_ROOT.1 g_GREATEST_ROOT.2.1 g_GREATEST_ROOT.2.2)))))) (sd_one (sd_ret (pd_bl))) (sd_nil)) (sd_one (sd_ret (pd_cmp (od_ne hr.units) noEx_ne (pd_bin od_mul noEx_mul (pd_call F_root_floor mem0 (hr.mono (by decide)) tk rfl (pad_cons (pd_v 0) (pad_nil))) (pd_call F_root_floor mem0 (hr.mono (by decide)) tk rfl (pad_cons (pd_v 0) (pad_nil)))) (pd_v 0))))
theorem ok_is_root (KX : K.In h) (GN : h.Ns mainGlobals mg) (c : He.SaysX fa fn [] [] ex w h K) (F_is_whole : FnAt P w K mg base "is_whole" 1 1 [[]] m_is_whole) (F_root_floor : FnAt P w K mg base "root_floor" 1 1 [[]] m_root_floor) : FnAt P w K mg base "is_root" 2 1 [[]] m_is_root := by
  obtain ⟨fd, F⟩ := c.t.d.def_ 2 (d := d_is_root) rfl
  refine ⟨_, fd, ["thing"], fo_is_root KX GN c F_is_whole F_root_floor F, He.glo_ok KX GN (c.t.d.fact 2 (f := .glo "is_root") rfl), F.kp, ?_⟩
  · intro ds hd
    rw [List.mem_singleton] at hd
    subst hd
    exact ⟨[], [], FunD.bindsN F fun _ _ _ _ _ _ us hl => match us, hl with | [_], _ => rfl, .nil, fun _ => .nil⟩
theorem fo_divisor (KX : K.In h) (GN : h.Ns mainGlobals mg) (c : He.SaysX fa fn [] [] ex w h K)  {fd : FuncData} (F : FunD K d_divisor.name d_divisor.qual d_divisor.params d_divisor.body d_divisor.scope (d_divisor.dvs K) (d_divisor.kws K) (He.fAd K d_divisor.at_) fd) : FnOk P w K mg base (L2.CX P w) 1 (He.fAd K d_divisor.at_) fd ["one", "other"] (spD K mg 2 m_divisor) := by
  have b_abs : mg "abs" = none := He.free_ok KX GN (c.t.d.fact 17 (f := .free "abs") rfl)
  have S := sc_divisor
  rw [mm_divisor]
  have Z := okD (P := P) (w := w) (mg := mg) (base := base) (n := 2) (k := 0) (den := den_divisor) F S rfl
  refine Z ?_
  intro cdv A outer s H E hr
  have tk : Takes (cxOf (L2.CX P w) P w K mg base ["one", "other"] "divisor" (defScope s_divisor) (He.fAd K d_divisor.at_) cdv A outer s H E) (fun cls d _ H => E cls d H) := takes_of rfl rfl rfl rfl
  have hp : PassesOwn (model P w) (cxOf (L2.CX P w) P w K mg base ["one", "other"] "divisor" (defScope s_divisor) (He.fAd K d_divisor.at_) cdv A outer s H E).A (cxOf (L2.CX P w) P w K mg base ["one", "other"] "divisor" (defScope s_divisor) (He.fAd K d_divisor.at_) cdv A outer s H E).env (cxOf (L2.CX P w) P w K mg base ["one", "other"] "divisor" (defScope s_divisor) (He.fAd K d_divisor.at_) cdv A outer s H E).xe := passes_of rfl
  exact sd_cons (sd_while hp (pt_cmpd (od_ne hr.units) noEx_ne (pd_v 1) (pd_int)) (sd_one (sd_par 0 1 rfl S.nd rfl rfl (by decide) rfl rfl (pd_v 1) (pd_bin od_mod noEx_mod (pd_v 0) (pd_v 1)) rfl))) (sd_one (sd_ret (pd_b cd_abs nx_abs b_abs (by decide +kernel) (pad_cons (pd_v 0) (pad_nil)))))
theorem ok_divisor (KX : K.In h) (GN : h.Ns mainGlobals mg) (c : He.SaysX fa fn [] [] ex w h K)  : FnAt P w K mg base "divisor" 1 2 [[]] m_divisor := by
  obtain ⟨fd, F⟩ := c.t.d.def_ 3 (d := d_divisor) rfl
  refine ⟨_, fd, ["one", "other"], fo_divisor KX GN c  F, He.glo_ok KX GN (c.t.d.fact 3 (f := .glo "divisor") rfl), F.kp, ?_⟩
  · intro ds hd
    rw [List.mem_singleton] at hd
    subst hd
    exact ⟨[], [], FunD.bindsN F fun _ _ _ _ _ _ us hl => match us, hl with | [_, _], _ => rfl, .nil, fun _ => .nil⟩
theorem fo_lowest (KX : K.In h) (GN : h.Ns mainGlobals mg) (c : He.SaysX fa fn [] [] ex w h K) (F_divisor : FnAt P w K mg base "divisor" 1 2 [[]] m_divisor) {fd : FuncData} (F : FunD K d_lowest.name d_lowest.qual d_lowest.params d_lowest.body d_lowest.scope (d_lowest.dvs K) (d_lowest.kws K) (He.fAd K d_lowest.at_) fd) : FnOk P w K mg base (L2.CX P w) 2 (He.fAd K d_lowest.at_) fd ["a", "b", "n"] (spD K mg 3 m_lowest) := by
  have S := sc_lowest
  rw [mm_lowest]
  have Z := okD (P := P) (w := w) (mg := mg) (base := base) (n := 3) (k := 1) (den := den_lowest) F S rfl
  refine Z ?_
  intro cdv A outer s H E hr
  have tk : Takes (cxOf (L2.CX P w) P w K mg base ["a", "b", "n", "share"] "lowest" (defScope s_lowest) (He.fAd K d_lowest.at_) cdv A outer s H E) (fun cls d _ H => E cls d H) := takes_of rfl rfl rfl rfl
  have hp : PassesOwn (model P w) (cxOf (L2.CX P w) P w K mg base ["a", "b", "n", "share"] "lowest" (defScope s_lowest) (He.fAd K d_lowest.at_) cdv A outer s H E).A (cxOf (L2.CX P w) P w K mg base ["a", "b", "n", "share"] "lowest" (defScope s_lowest) (He.fAd K d_lowest.at_) cdv A outer s H E).env (cxOf (L2.CX P w) P w K mg base ["a", "b", "n", "share"] "lowest" (defScope s_lowest) (He.fAd K d_lowest.at_) cdv A outer s H E).xe := passes_of rfl
  exact sd_cons (sd_set 3 S.nd rfl (.inl rfl) (pd_call F_divisor mem0 (hr.mono (by decide)) tk rfl (pad_cons (pd_call F_divisor mem0 (hr.mono (by decide)) tk rfl (pad_cons (pd_v 0) (pad_cons (pd_v 1) (pad_nil)))) (pad_cons (pd_v 2) (pad_nil))))) (sd_cons (sd_if (pt_cmpd od_lt noEx_cI (pd_v 2) (pd_int)) (sd_one (sd_set 3 S.nd rfl (.inl rfl) (pd_bin od_sub noEx_sub (pd_int) (pd_v 3)))) (sd_nil)) (sd_one (sd_ret (pd_tup (pad_cons (pd_bin od_div noEx_div (pd_v 0) (pd_v 3)) (pad_cons (pd_bin od_div noEx_div (pd_v 1) (pd_v 3)) (pad_cons (pd_bin od_div noEx_div (pd_v 2) (pd_v 3)) (pad_nil))))))))
theorem ok_lowest (KX : K.In h) (GN : h.Ns mainGlobals mg) (c : He.SaysX fa fn [] [] ex w h K) (F_divisor : FnAt P w K mg base "divisor" 1 2 [[]] m_divisor) : FnAt P w K mg base "lowest" 2 3 [[]] m_lowest := by
  obtain ⟨fd, F⟩ := c.t.d.def_ 4 (d := d_lowest) rfl
  refine ⟨_, fd, ["a", "b", "n"], fo_lowest KX GN c F_divisor F, He.glo_ok KX GN (c.t.d.fact 4 (f := .glo "lowest") rfl), F.kp, ?_⟩
  · intro ds hd
    rw [List.mem_singleton] at hd
    subst hd
    exact ⟨[], [], FunD.bindsN F fun _ _ _ _ _ _ us hl => match us, hl with | [_, _, _], _ => rfl, .nil, fun _ => .nil⟩
theorem fo_length (KX : K.In h) (GN : h.Ns mainGlobals mg) (c : He.SaysX fa fn [] [] ex w h K) (F_lowest : FnAt P w K mg base "lowest" 2 3 [[]] m_lowest) (F_is_whole : FnAt P w K mg base "is_whole" 1 1 [[]] m_is_whole) {fd : FuncData} (F : FunD K d_length.name d_length.qual d_length.params d_length.body d_length.scope (d_length.dvs K) (d_length.kws K) (He.fAd K d_length.at_) fd) : FnOk P w K mg base (L2.CX P w) 3 (He.fAd K d_length.at_) fd ["a", "b", "n"] (spD K mg 3 m_length) := by
  have e_NoLength := ge_NoLength (mg := mg) KX GN c
  have S := sc_length
  rw [mm_length]
  have Z := okD (P := P) (w := w) (mg := mg) (base := base) (n := 3) (k := 2) (den := den_length) F S rfl
  refine Z ?_
  intro cdv A outer s H E hr
  have tk : Takes (cxOf (L2.CX P w) P w K mg base ["a", "b", "n"] "length" (defScope s_length) (He.fAd K d_length.at_) cdv A outer s H E) (fun cls d _ H => E cls d H) := takes_of rfl rfl rfl rfl
  have hp : PassesOwn (model P w) (cxOf (L2.CX P w) P w K mg base ["a", "b", "n"] "length" (defScope s_length) (He.fAd K d_length.at_) cdv A outer s H E).A (cxOf (L2.CX P w) P w K mg base ["a", "b", "n"] "length" (defScope s_length) (He.fAd K d_length.at_) cdv A outer s H E).env (cxOf (L2.CX P w) P w K mg base ["a", "b", "n"] "length" (defScope s_length) (He.fAd K d_length.at_) cdv A outer s H E).xe := passes_of rfl
  exact sd_cons (sd_if (PW.pt (pw_dor (pt_dnot (pt_d (pd_call F_is_whole mem0 (hr.mono (by decide)) tk rfl (pad_cons (pd_v 0) (pad_nil))))) (pw_dor (pt_dnot (pt_d (pd_call F_is_whole mem0 (hr.mono (by decide)) tk rfl (pad_cons (pd_v 1) (pad_nil))))) (pw_dor (pt_dnot (pt_d (pd_call F_is_whole mem0 (hr.mono (by decide)) tk rfl (pad_cons (pd_v 2) (pad_nil))))) (pw_o1 (pt_cmpd (od_eq hr.units) noEx_eq (pd_v 2) (pd_int))))))) (sd_one (sd_raise rfl tk e_NoLength)) (sd_nil)) (sd_one (sd_ret (pd_call F_lowest mem0 (hr.mono (by decide)) tk rfl (pad_cons (pd_v 0) (pad_cons (pd_v 1) (pad_cons (pd_v 2) (pad_nil)))))))
theorem ok_length (KX : K.In h) (GN : h.Ns mainGlobals mg) (c : He.SaysX fa fn [] [] ex w h K) (F_lowest : FnAt P w K mg base "lowest" 2 3 [[]] m_lowest) (F_is_whole : FnAt P w K mg base "is_whole" 1 1 [[]] m_is_whole) : FnAt P w K mg base "length" 3 3 [[], [(.int 1)], [(.int 0), (.int 1)]] m_length := by
  obtain ⟨fd, F⟩ := c.t.d.def_ 5 (d := d_length) rfl
  refine ⟨_, fd, ["a", "b", "n"], fo_length KX GN c F_lowest F_is_whole F, He.glo_ok KX GN (c.t.d.fact 5 (f := .glo "length") rfl), F.kp, ?_⟩
  · intro ds hd
    simp only [List.mem_cons, List.not_mem_nil, or_false] at hd
    rcases hd with rfl | rfl | rfl
    · obtain ⟨us, hv, hb⟩ := FunD.binds1 (ps := ["a", "b", "n"]) F 3 2 (by intro z; cases z) rfl fun T kV doc pm an cdv ct us its h1 h2 => match us, its, h1, h2 with | [_, _, _], [_, _], _, _ => ⟨_, rfl, rfl⟩
      exact ⟨us, _, hb, hv, fun S => .nil⟩
    · obtain ⟨us, hv, hb⟩ := FunD.binds1 (ps := ["a", "b", "n"]) F 2 1 (by intro z; cases z) rfl fun T kV doc pm an cdv ct us its h1 h2 => match us, its, h1, h2 with | [_, _], [_, _], _, _ => ⟨_, rfl, rfl⟩
      exact ⟨us, _, hb, hv, fun S => .cons (.int _) (.nil)⟩
    · obtain ⟨us, hv, hb⟩ := FunD.binds1 (ps := ["a", "b", "n"]) F 1 0 (by intro z; cases z) rfl fun T kV doc pm an cdv ct us its h1 h2 => match us, its, h1, h2 with | [_], [_, _], _, _ => ⟨_, rfl, rfl⟩
      exact ⟨us, _, hb, hv, fun S => .cons (.int _) (.cons (.int _) (.nil))⟩
theorem fo_law_whole (KX : K.In h) (GN : h.Ns mainGlobals mg) (c : He.SaysX fa fn [] [] ex w h K)  {fd : FuncData} (F : FunD K d_law_whole.name d_law_whole.qual d_law_whole.params d_law_whole.body d_law_whole.scope (d_law_whole.dvs K) (d_law_whole.kws K) (He.fAd K d_law_whole.at_) fd) : FnOk P w K mg base (L2.CX P w) 1 (He.fAd K d_law_whole.at_) fd ["_law_found"] (spD K mg 1 m_law_whole) := by
  have b_bool : mg "bool" = none := He.free_ok KX GN (c.t.d.fact 18 (f := .free "bool") rfl)
  have b_int : mg "int" = none := He.free_ok KX GN (c.t.d.fact 19 (f := .free "int") rfl)
  have b_isinstance : mg "isinstance" = none := He.free_ok KX GN (c.t.d.fact 20 (f := .free "isinstance") rfl)
  have S := sc_law_whole
  rw [mm_law_whole]
  have Z := okD (P := P) (w := w) (mg := mg) (base := base) (n := 1) (k := 0) (den := den_law_whole) F S rfl
  refine Z ?_
  intro cdv A outer s H E hr
  have tk : Takes (cxOf (L2.CX P w) P w K mg base ["_law_found"] "_law_whole" (defScope s_law_whole) (He.fAd K d_law_whole.at_) cdv A outer s H E) (fun cls d _ H => E cls d H) := takes_of rfl rfl rfl rfl
  have hp : PassesOwn (model P w) (cxOf (L2.CX P w) P w K mg base ["_law_found"] "_law_whole" (defScope s_law_whole) (He.fAd K d_law_whole.at_) cdv A outer s H E).A (cxOf (L2.CX P w) P w K mg base ["_law_found"] "_law_whole" (defScope s_law_whole) (He.fAd K d_law_whole.at_) cdv A outer s H E).env (cxOf (L2.CX P w) P w K mg base ["_law_found"] "_law_whole" (defScope s_law_whole) (He.fAd K d_law_whole.at_) cdv A outer s H E).xe := passes_of rfl
  exact sd_one (sd_ret (pe_dand (pd_isi (T := "int") b_isinstance b_int (by decide +kernel) (pd_v 0)) (pe_d1 (pe_dnot (pd_isi (T := "bool") b_isinstance b_bool (by decide +kernel) (pd_v 0))))))
theorem ok_law_whole (KX : K.In h) (GN : h.Ns mainGlobals mg) (c : He.SaysX fa fn [] [] ex w h K)  : FnAt P w K mg base "_law_whole" 1 1 [[]] m_law_whole := by
  obtain ⟨fd, F⟩ := c.t.d.def_ 6 (d := d_law_whole) rfl
  refine ⟨_, fd, ["_law_found"], fo_law_whole KX GN c  F, He.glo_ok KX GN (c.t.d.fact 6 (f := .glo "_law_whole") rfl), F.kp, ?_⟩
  · intro ds hd
    rw [List.mem_singleton] at hd
    subst hd
    exact ⟨[], [], FunD.bindsN F fun _ _ _ _ _ _ us hl => match us, hl with | [_], _ => rfl, .nil, fun _ => .nil⟩
theorem fo_law_great (KX : K.In h) (GN : h.Ns mainGlobals mg) (c : He.SaysX fa fn [] [] ex w h K)  {fd : FuncData} (F : FunD K d_law_great.name d_law_great.qual d_law_great.params d_law_great.body d_law_great.scope (d_law_great.dvs K) (d_law_great.kws K) (He.fAd K d_law_great.at_) fd) : FnOk P w K mg base (L2.CX P w) 1 (He.fAd K d_law_great.at_) fd ["_law_cell", "_law_k"] (spD K mg 2 m_law_great) := by
  have S := sc_law_great
  rw [mm_law_great]
  have Z := okD (P := P) (w := w) (mg := mg) (base := base) (n := 2) (k := 0) (den := den_law_great) F S rfl
  refine Z ?_
  intro cdv A outer s H E hr
  have tk : Takes (cxOf (L2.CX P w) P w K mg base ["_law_cell", "_law_k", "_law_number_here"] "_law_great" (defScope s_law_great) (He.fAd K d_law_great.at_) cdv A outer s H E) (fun cls d _ H => E cls d H) := takes_of rfl rfl rfl rfl
  have hp : PassesOwn (model P w) (cxOf (L2.CX P w) P w K mg base ["_law_cell", "_law_k", "_law_number_here"] "_law_great" (defScope s_law_great) (He.fAd K d_law_great.at_) cdv A outer s H E).A (cxOf (L2.CX P w) P w K mg base ["_law_cell", "_law_k", "_law_number_here"] "_law_great" (defScope s_law_great) (He.fAd K d_law_great.at_) cdv A outer s H E).env (cxOf (L2.CX P w) P w K mg base ["_law_cell", "_law_k", "_law_number_here"] "_law_great" (defScope s_law_great) (He.fAd K d_law_great.at_) cdv A outer s H E).xe := passes_of rfl
  exact sd_cons (sd_set 2 S.nd rfl (.inl rfl) (pd_bin od_mul noEx_mul (pd_bin od_add noEx_add (pd_bin od_add noEx_add (pd_v 0) (pd_v 1)) (pd_int)) (pd_int))) (sd_one (sd_ret (pd_bin od_mod noEx_mod (pd_v 2) (pd_int))))
theorem ok_law_great (KX : K.In h) (GN : h.Ns mainGlobals mg) (c : He.SaysX fa fn [] [] ex w h K)  : FnAt P w K mg base "_law_great" 1 2 [[]] m_law_great := by
  obtain ⟨fd, F⟩ := c.t.d.def_ 7 (d := d_law_great) rfl
  refine ⟨_, fd, ["_law_cell", "_law_k"], fo_law_great KX GN c  F, He.glo_ok KX GN (c.t.d.fact 7 (f := .glo "_law_great") rfl), F.kp, ?_⟩
  · intro ds hd
    rw [List.mem_singleton] at hd
    subst hd
    exact ⟨[], [], FunD.bindsN F fun _ _ _ _ _ _ us hl => match us, hl with | [_, _], _ => rfl, .nil, fun _ => .nil⟩
theorem fo_law_alone (KX : K.In h) (GN : h.Ns mainGlobals mg) (c : He.SaysX fa fn [] [] ex w h K)  {fd : FuncData} (F : FunD K d_law_alone.name d_law_alone.qual d_law_alone.params d_law_alone.body d_law_alone.scope (d_law_alone.dvs K) (d_law_alone.kws K) (He.fAd K d_law_alone.at_) fd) : FnOk P w K mg base (L2.CX P w) 1 (He.fAd K d_law_alone.at_) fd ["_law_error"] (spD K mg 1 m_law_alone) := by
  have b_ValueError : mg "ValueError" = none := He.free_ok KX GN (c.t.d.fact 16 (f := .free "ValueError") rfl)
  have b_int : mg "int" = none := He.free_ok KX GN (c.t.d.fact 19 (f := .free "int") rfl)
  have b_isinstance : mg "isinstance" = none := He.free_ok KX GN (c.t.d.fact 20 (f := .free "isinstance") rfl)
  have i_Apart := gi_Apart KX c
  have n_Apart : mg "Apart" = some (.ref (He.ga K "Apart")) := He.glo_ok KX GN (c.t.d.fact 34 (f := .glo "Apart") rfl)
  have i_Grain := gi_Grain KX c
  have n_Grain : mg "Grain" = some (.ref (He.ga K "Grain")) := He.glo_ok KX GN (c.t.d.fact 30 (f := .glo "Grain") rfl)
  have i_NoBoard := gi_NoBoard KX c
  have n_NoBoard : mg "NoBoard" = some (.ref (He.ga K "NoBoard")) := He.glo_ok KX GN (c.t.d.fact 26 (f := .glo "NoBoard") rfl)
  have i_NoDeed := gi_NoDeed KX c
  have n_NoDeed : mg "NoDeed" = some (.ref (He.ga K "NoDeed")) := He.glo_ok KX GN (c.t.d.fact 28 (f := .glo "NoDeed") rfl)
  have i_NoLength := gi_NoLength KX c
  have n_NoLength : mg "NoLength" = some (.ref (He.ga K "NoLength")) := He.glo_ok KX GN (c.t.d.fact 23 (f := .glo "NoLength") rfl)
  have i_NoName := gi_NoName KX c
  have n_NoName : mg "NoName" = some (.ref (He.ga K "NoName")) := He.glo_ok KX GN (c.t.d.fact 29 (f := .glo "NoName") rfl)
  have i_NoRow := gi_NoRow KX c
  have n_NoRow : mg "NoRow" = some (.ref (He.ga K "NoRow")) := He.glo_ok KX GN (c.t.d.fact 33 (f := .glo "NoRow") rfl)
  have i_NoText := gi_NoText KX c
  have n_NoText : mg "NoText" = some (.ref (He.ga K "NoText")) := He.glo_ok KX GN (c.t.d.fact 27 (f := .glo "NoText") rfl)
  have i_TooMany := gi_TooMany KX c
  have n_TooMany : mg "TooMany" = some (.ref (He.ga K "TooMany")) := He.glo_ok KX GN (c.t.d.fact 32 (f := .glo "TooMany") rfl)
  have i_Unfit := gi_Unfit KX c
  have n_Unfit : mg "Unfit" = some (.ref (He.ga K "Unfit")) := He.glo_ok KX GN (c.t.d.fact 31 (f := .glo "Unfit") rfl)
  have i_ValueError := gi_ValueError KX c
  have i_YardError := gi_YardError KX c
  have n_YardError : mg "YardError" = some (.ref (He.ga K "YardError")) := He.glo_ok KX GN (c.t.d.fact 25 (f := .glo "YardError") rfl)
  have S := sc_law_alone
  rw [mm_law_alone]
  have Z := okD (P := P) (w := w) (mg := mg) (base := base) (n := 1) (k := 0) (den := den_law_alone) F S rfl
  refine Z ?_
  intro cdv A outer s H E hr
  have tk : Takes (cxOf (L2.CX P w) P w K mg base ["_law_error", "_law_many"] "_law_alone" (defScope s_law_alone) (He.fAd K d_law_alone.at_) cdv A outer s H E) (fun cls d _ H => E cls d H) := takes_of rfl rfl rfl rfl
  have hp : PassesOwn (model P w) (cxOf (L2.CX P w) P w K mg base ["_law_error", "_law_many"] "_law_alone" (defScope s_law_alone) (He.fAd K d_law_alone.at_) cdv A outer s H E).A (cxOf (L2.CX P w) P w K mg base ["_law_error", "_law_many"] "_law_alone" (defScope s_law_alone) (He.fAd K d_law_alone.at_) cdv A outer s H E).env (cxOf (L2.CX P w) P w K mg base ["_law_error", "_law_many"] "_law_alone" (defScope s_law_alone) (He.fAd K d_law_alone.at_) cdv A outer s H E).xe := passes_of rfl
  exact sd_cons (sd_set 1 S.nd rfl (.inl rfl) (pd_bin od_add noEx_add (pd_bin od_add noEx_add (pd_bt cd_int nx_int b_int (by decide +kernel) (pad_cons (pd_isE i_NoLength b_isinstance n_NoLength (pd_v 0)) (pad_nil))) (pd_bt cd_int nx_int b_int (by decide +kernel) (pad_cons (pd_isE i_NoBoard b_isinstance n_NoBoard (pd_v 0)) (pad_nil)))) (pd_bt cd_int nx_int b_int (by decide +kernel) (pad_cons (pd_isE i_NoText b_isinstance n_NoText (pd_v 0)) (pad_nil))))) (sd_cons (sd_set 1 S.nd rfl (.inl rfl) (pd_bin od_add noEx_add (pd_bin od_add noEx_add (pd_bin od_add noEx_add (pd_v 1) (pd_bt cd_int nx_int b_int (by decide +kernel) (pad_cons (pd_isE i_NoDeed b_isinstance n_NoDeed (pd_v 0)) (pad_nil)))) (pd_bt cd_int nx_int b_int (by decide +kernel) (pad_cons (pd_isE i_NoName b_isinstance n_NoName (pd_v 0)) (pad_nil)))) (pd_bt cd_int nx_int b_int (by decide +kernel) (pad_cons (pd_isE i_Grain b_isinstance n_Grain (pd_v 0)) (pad_nil))))) (sd_cons (sd_set 1 S.nd rfl (.inl rfl) (pd_bin od_add noEx_add (pd_bin od_add noEx_add (pd_bin od_add noEx_add (pd_v 1) (pd_bt cd_int nx_int b_int (by decide +kernel) (pad_cons (pd_isE i_Unfit b_isinstance n_Unfit (pd_v 0)) (pad_nil)))) (pd_bt cd_int nx_int b_int (by decide +kernel) (pad_cons (pd_isE i_TooMany b_isinstance n_TooMany (pd_v 0)) (pad_nil)))) (pd_bt cd_int nx_int b_int (by decide +kernel) (pad_cons (pd_isE i_NoRow b_isinstance n_NoRow (pd_v 0)) (pad_nil))))) (sd_cons (sd_set 1 S.nd rfl (.inl rfl) (pd_bin od_add noEx_add (pd_v 1) (pd_bt cd_int nx_int b_int (by decide +kernel) (pad_cons (pd_isE i_Apart b_isinstance n_Apart (pd_v 0)) (pad_nil))))) (sd_one (sd_ret (pe_dand (pd_cmp (od_eq hr.units) noEx_eq (pd_v 1) (pd_int)) (pe_dand (pd_isE i_YardError b_isinstance n_YardError (pd_v 0)) (pe_d1 (pd_isV (B := "ValueError") i_ValueError b_isinstance b_ValueError (by decide +kernel) (pd_v 0))))))))))
theorem ok_law_alone (KX : K.In h) (GN : h.Ns mainGlobals mg) (c : He.SaysX fa fn [] [] ex w h K)  : FnAt P w K mg base "_law_alone" 1 1 [[]] m_law_alone := by
  obtain ⟨fd, F⟩ := c.t.d.def_ 8 (d := d_law_alone) rfl
  refine ⟨_, fd, ["_law_error"], fo_law_alone KX GN c  F, He.glo_ok KX GN (c.t.d.fact 8 (f := .glo "_law_alone") rfl), F.kp, ?_⟩
  · intro ds hd
    rw [List.mem_singleton] at hd
    subst hd
    exact ⟨[], [], FunD.bindsN F fun _ _ _ _ _ _ us hl => match us, hl with | [_], _ => rfl, .nil, fun _ => .nil⟩
theorem fo_law_number (KX : K.In h) (GN : h.Ns mainGlobals mg) (c : He.SaysX fa fn [] [] ex w h K) (F_law_great : FnAt P w K mg base "_law_great" 1 2 [[]] m_law_great) {fd : FuncData} (F : FunD K d_law_number.name d_law_number.qual d_law_number.params d_law_number.body d_law_number.scope (d_law_number.dvs K) (d_law_number.kws K) (He.fAd K d_law_number.at_) fd) : FnOk P w K mg base (L2.CX P w) 2 (He.fAd K d_law_number.at_) fd ["_law_cell", "_law_k", "_law_most"] (spD K mg 3 m_law_number) := by
  have S := sc_law_number
  rw [mm_law_number]
  have Z := okD (P := P) (w := w) (mg := mg) (base := base) (n := 3) (k := 1) (den := den_law_number) F S rfl
  refine Z ?_
  intro cdv A outer s H E hr
  have tk : Takes (cxOf (L2.CX P w) P w K mg base ["_law_cell", "_law_k", "_law_most", "_law_number_here", "_law_wide"] "_law_number" (defScope s_law_number) (He.fAd K d_law_number.at_) cdv A outer s H E) (fun cls d _ H => E cls d H) := takes_of rfl rfl rfl rfl
  have hp : PassesOwn (model P w) (cxOf (L2.CX P w) P w K mg base ["_law_cell", "_law_k", "_law_most", "_law_number_here", "_law_wide"] "_law_number" (defScope s_law_number) (He.fAd K d_law_number.at_) cdv A outer s H E).A (cxOf (L2.CX P w) P w K mg base ["_law_cell", "_law_k", "_law_most", "_law_number_here", "_law_wide"] "_law_number" (defScope s_law_number) (He.fAd K d_law_number.at_) cdv A outer s H E).env (cxOf (L2.CX P w) P w K mg base ["_law_cell", "_law_k", "_law_most", "_law_number_here", "_law_wide"] "_law_number" (defScope s_law_number) (He.fAd K d_law_number.at_) cdv A outer s H E).xe := passes_of rfl
  exact sd_cons (sd_set 3 S.nd rfl (.inl rfl) (pd_call F_law_great mem0 (hr.mono (by decide)) tk rfl (pad_cons (pd_v 0) (pad_cons (pd_v 1) (pad_nil))))) (sd_cons (sd_if (pt_cmpd (od_eq hr.units) noEx_eq (pd_bin od_mod noEx_mod (pd_v 3) (pd_int)) (pd_int)) (sd_cons (sd_set 4 S.nd rfl (.inl rfl) (pd_bin od_mul noEx_mul (pd_bin od_pow noEx_pow (pd_int) (pd_int)) (pd_bin od_pow noEx_pow (pd_v 2) (pd_int)))) (sd_one (sd_ret (pd_bin od_add noEx_add (pd_bin od_sub noEx_sub (pd_bin od_mod noEx_mod (pd_bin od_pow noEx_pow (pd_bin od_div noEx_div (pd_v 3) (pd_int)) (pd_int)) (pd_bin od_sub noEx_sub (pd_bin od_mul noEx_mul (pd_int) (pd_v 4)) (pd_int))) (pd_v 4)) (pd_int))))) (sd_nil)) (sd_cons (sd_if (pt_cmpd (od_eq hr.units) noEx_eq (pd_bin od_mod noEx_mod (pd_v 3) (pd_int)) (pd_int)) (sd_one (sd_ret (pd_bin od_sub noEx_sub (pd_bin od_mod noEx_mod (pd_bin od_mul noEx_mul (pd_bin od_div noEx_div (pd_v 3) (pd_int)) (pd_v 3)) (pd_bin od_sub noEx_sub (pd_bin od_mul noEx_mul (pd_int) (pd_v 2)) (pd_int))) (pd_bin od_sub noEx_sub (pd_v 2) (pd_int))))) (sd_nil)) (sd_cons (sd_if (pt_cmpd (od_eq hr.units) noEx_eq (pd_bin od_mod noEx_mod (pd_v 3) (pd_int)) (pd_int)) (sd_one (sd_ret (pd_bin od_sub noEx_sub (pd_bin od_mod noEx_mod (pd_bin od_div noEx_div (pd_v 3) (pd_int)) (pd_int)) (pd_int)))) (sd_nil)) (sd_cons (sd_if (pt_cmpd (od_eq hr.units) noEx_eq (pd_bin od_mod noEx_mod (pd_v 3) (pd_int)) (pd_int)) (sd_one (sd_ret (pd_ix (pd_lst (pad_cons (pd_int) (pad_cons (pd_int) (pad_cons (pd_neg (pd_int)) (pad_cons (pd_int) (pad_cons (pd_neg (pd_int)) (pad_cons (pd_bin od_div noEx_div (pd_v 2) (pd_int)) (pad_nil)))))))) (pd_bin od_mod noEx_mod (pd_bin od_div noEx_div (pd_v 3) (pd_int)) (pd_int))))) (sd_nil)) (sd_one (sd_ret (pd_bin od_sub noEx_sub (pd_bin od_mod noEx_mod (pd_bin od_div noEx_div (pd_v 3) (pd_int)) (pd_int)) (pd_int))))))))
theorem ok_law_number (KX : K.In h) (GN : h.Ns mainGlobals mg) (c : He.SaysX fa fn [] [] ex w h K) (F_law_great : FnAt P w K mg base "_law_great" 1 2 [[]] m_law_great) : FnAt P w K mg base "_law_number" 2 3 [[]] m_law_number := by
  obtain ⟨fd, F⟩ := c.t.d.def_ 9 (d := d_law_number) rfl
  refine ⟨_, fd, ["_law_cell", "_law_k", "_law_most"], fo_law_number KX GN c F_law_great F, He.glo_ok KX GN (c.t.d.fact 9 (f := .glo "_law_number") rfl), F.kp, ?_⟩
  · intro ds hd
    rw [List.mem_singleton] at hd
    subst hd
    exact ⟨[], [], FunD.bindsN F fun _ _ _ _ _ _ us hl => match us, hl with | [_, _, _], _ => rfl, .nil, fun _ => .nil⟩
theorem fo_law_thing (KX : K.In h) (GN : h.Ns mainGlobals mg) (c : He.SaysX fa fn [] [] ex w h K) (F_law_great : FnAt P w K mg base "_law_great" 1 2 [[]] m_law_great) (F_law_number : FnAt P w K mg base "_law_number" 2 3 [[]] m_law_number) {fd : FuncData} (F : FunD K d_law_thing.name d_law_thing.qual d_law_thing.params d_law_thing.body d_law_thing.scope (d_law_thing.dvs K) (d_law_thing.kws K) (He.fAd K d_law_thing.at_) fd) : FnOk P w K mg base (L2.CX P w) 3 (He.fAd K d_law_thing.at_) fd ["_law_cell", "_law_k"] (spD K mg 2 m_law_thing) := by
  have S := sc_law_thing
  rw [mm_law_thing]
  have Z := okD (P := P) (w := w) (mg := mg) (base := base) (n := 2) (k := 2) (den := den_law_thing) F S rfl
  refine Z ?_
  intro cdv A outer s H E hr
  have tk : Takes (cxOf (L2.CX P w) P w K mg base ["_law_cell", "_law_k", "_law_number_here"] "_law_thing" (defScope s_law_thing) (He.fAd K d_law_thing.at_) cdv A outer s H E) (fun cls d _ H => E cls d H) := takes_of rfl rfl rfl rfl
  have hp : PassesOwn (model P w) (cxOf (L2.CX P w) P w K mg base ["_law_cell", "_law_k", "_law_number_here"] "_law_thing" (defScope s_law_thing) (He.fAd K d_law_thing.at_) cdv A outer s H E).A (cxOf (L2.CX P w) P w K mg base ["_law_cell", "_law_k", "_law_number_here"] "_law_thing" (defScope s_law_thing) (He.fAd K d_law_thing.at_) cdv A outer s H E).env (cxOf (L2.CX P w) P w K mg base ["_law_cell", "_law_k", "_law_number_here"] "_law_thing" (defScope s_law_thing) (He.fAd K d_law_thing.at_) cdv A outer s H E).xe := passes_of rfl
  exact sd_cons (sd_set 2 S.nd rfl (.inl rfl) (pd_call F_law_great mem0 (hr.mono (by decide)) tk rfl (pad_cons (pd_v 0) (pad_cons (pd_v 1) (pad_nil))))) (sd_cons (sd_if (pt_cmpd (od_eq hr.units) noEx_eq (pd_bin od_mod noEx_mod (pd_v 2) (pd_int)) (pd_int)) (sd_one (sd_ret (pd_tup (pad_cons (pd_ix (pd_lst (pad_cons (pd_bl) (pad_cons (pd_bl) (pad_cons (pd_non) (pad_cons (pd_str) (pad_cons (pd_str) (pad_cons (pd_lst (pad_cons (pd_int) (pad_nil))) (pad_cons (pd_tup (pad_cons (pd_int) (pad_cons (pd_int) (pad_nil)))) (pad_cons (pd_dict0) (pad_cons (pd_dict1 (pd_int)) (pad_nil))))))))))) (pd_bin od_mod noEx_mod (pd_bin od_div noEx_div (pd_v 2) (pd_int)) (pd_int))) (pad_cons (pd_bl) (pad_nil)))))) (sd_nil)) (sd_cons (sd_if (pt_cmpd (od_eq hr.units) noEx_eq (pd_bin od_mod noEx_mod (pd_v 2) (pd_int)) (pd_int)) (sd_one (sd_ret (pd_tup (pad_cons (pd_ix (pd_lst (pad_cons (pd_int) (pad_cons (pd_int) (pad_cons (pd_int) (pad_cons (pd_neg (pd_int)) (pad_cons (pd_int) (pad_cons (pd_int) (pad_cons (pd_int) (pad_cons (pd_int) (pad_nil)))))))))) (pd_bin od_mod noEx_mod (pd_bin od_div noEx_div (pd_v 2) (pd_int)) (pd_int))) (pad_cons (pd_bl) (pad_nil)))))) (sd_nil)) (sd_one (sd_ret (pd_tup (pad_cons (pd_call F_law_number mem0 (hr.mono (by decide)) tk rfl (pad_cons (pd_v 0) (pad_cons (pd_bin od_add noEx_add (pd_v 1) (pd_int)) (pad_cons (pd_bin od_pow noEx_pow (pd_int) (pd_int)) (pad_nil))))) (pad_cons (pd_bl) (pad_nil))))))))
theorem ok_law_thing (KX : K.In h) (GN : h.Ns mainGlobals mg) (c : He.SaysX fa fn [] [] ex w h K) (F_law_great : FnAt P w K mg base "_law_great" 1 2 [[]] m_law_great) (F_law_number : FnAt P w K mg base "_law_number" 2 3 [[]] m_law_number) : FnAt P w K mg base "_law_thing" 3 2 [[]] m_law_thing := by
  obtain ⟨fd, F⟩ := c.t.d.def_ 10 (d := d_law_thing) rfl
  refine ⟨_, fd, ["_law_cell", "_law_k"], fo_law_thing KX GN c F_law_great F_law_number F, He.glo_ok KX GN (c.t.d.fact 10 (f := .glo "_law_thing") rfl), F.kp, ?_⟩
  · intro ds hd
    rw [List.mem_singleton] at hd
    subst hd
    exact ⟨[], [], FunD.bindsN F fun _ _ _ _ _ _ us hl => match us, hl with | [_, _], _ => rfl, .nil, fun _ => .nil⟩
theorem fo_law_refused (KX : K.In h) (GN : h.Ns mainGlobals mg) (c : He.SaysX fa fn [] [] ex w h K) (F_law_alone : FnAt P w K mg base "_law_alone" 1 1 [[]] m_law_alone) (F_length : FnAt P w K mg base "length" 3 3 [[], [(.int 1)], [(.int 0), (.int 1)]] m_length) {fd : FuncData} (F : FunD K d_law_refused.name d_law_refused.qual d_law_refused.params d_law_refused.body d_law_refused.scope (d_law_refused.dvs K) (d_law_refused.kws K) (He.fAd K d_law_refused.at_) fd) : FnOk P w K mg base (L2.CX P w) 4 (He.fAd K d_law_refused.at_) fd ["_law_some"] (spD K mg 1 m_law_refused_v2) := by
  have b_isinstance : mg "isinstance" = none := He.free_ok KX GN (c.t.d.fact 20 (f := .free "isinstance") rfl)
  have b_len : mg "len" = none := He.free_ok KX GN (c.t.d.fact 21 (f := .free "len") rfl)
  have x_YardError := gx_YardError (mg := mg) KX GN c
  have i_NoLength := gi_NoLength KX c
  have n_NoLength : mg "NoLength" = some (.ref (He.ga K "NoLength")) := He.glo_ok KX GN (c.t.d.fact 23 (f := .glo "NoLength") rfl)
  have S := sc_law_refused
  rw [mm_law_refused_v2]
  have Z := okD (P := P) (w := w) (mg := mg) (base := base) (n := 1) (k := 3) (den := den_law_refused_v2) F S rfl
  refine Z ?_
  intro cdv A outer s H E hr
  have tk : Takes (cxOf (L2.CX P w) P w K mg base ["_law_some", "_law_kept", "_law_error"] "_law_refused" (defScope s_law_refused) (He.fAd K d_law_refused.at_) cdv A outer s H E) (fun cls d _ H => E cls d H) := takes_of rfl rfl rfl rfl
  have hp : PassesOwn (model P w) (cxOf (L2.CX P w) P w K mg base ["_law_some", "_law_kept", "_law_error"] "_law_refused" (defScope s_law_refused) (He.fAd K d_law_refused.at_) cdv A outer s H E).A (cxOf (L2.CX P w) P w K mg base ["_law_some", "_law_kept", "_law_error"] "_law_refused" (defScope s_law_refused) (He.fAd K d_law_refused.at_) cdv A outer s H E).env (cxOf (L2.CX P w) P w K mg base ["_law_some", "_law_kept", "_law_error"] "_law_refused" (defScope s_law_refused) (He.fAd K d_law_refused.at_) cdv A outer s H E).xe := passes_of rfl
  exact sd_cons (sd_set 1 S.nd rfl (.inl rfl) (pd_non)) (sd_cons (sd_tryK (i := 2) (j := 1) x_YardError rfl rfl rfl S.nd rfl rfl rfl rfl rfl tk (fun W pn xe tk hp => sd_one (sd_if (pt_cmpd (od_eq hr.units) noEx_eq (pd_b cd_len nx_len b_len (by decide +kernel) (pad_cons (pd_v 0) (pad_nil))) (pd_int)) (sd_one (sd_expr (pd_call F_length mem0 (hr.mono (by decide)) tk rfl (pad_cons (pd_ix (pd_v 0) (pd_int)) (pad_cons (pd_ix (pd_v 0) (pd_int)) (pad_cons (pd_ix (pd_v 0) (pd_int)) (pad_nil))))))) (sd_one (sd_if (pt_cmpd (od_eq hr.units) noEx_eq (pd_b cd_len nx_len b_len (by decide +kernel) (pad_cons (pd_v 0) (pad_nil))) (pd_int)) (sd_one (sd_expr (pd_call F_length mem1 (hr.mono (by decide)) tk rfl (pad_cons (pd_ix (pd_v 0) (pd_int)) (pad_cons (pd_ix (pd_v 0) (pd_int)) (pad_nil)))))) (sd_one (sd_expr (pd_call F_length mem2 (hr.mono (by decide)) tk rfl (pad_cons (pd_ix (pd_v 0) (pd_int)) (pad_nil)))))))))) (sd_one (sd_ret (pe_dand (pd_notN (pd_v 1)) (pe_dand (pd_isE i_NoLength b_isinstance n_NoLength (pd_v 1)) (pe_d1 (pd_call F_law_alone mem0 (hr.mono (by decide)) tk rfl (pad_cons (pd_v 1) (pad_nil)))))))))
theorem ok_law_refused (KX : K.In h) (GN : h.Ns mainGlobals mg) (c : He.SaysX fa fn [] [] ex w h K) (F_law_alone : FnAt P w K mg base "_law_alone" 1 1 [[]] m_law_alone) (F_length : FnAt P w K mg base "length" 3 3 [[], [(.int 1)], [(.int 0), (.int 1)]] m_length) : FnAt P w K mg base "_law_refused" 4 1 [[]] m_law_refused_v2 := by
  obtain ⟨fd, F⟩ := c.t.d.def_ 11 (d := d_law_refused) rfl
  refine ⟨_, fd, ["_law_some"], fo_law_refused KX GN c F_law_alone F_length F, He.glo_ok KX GN (c.t.d.fact 11 (f := .glo "_law_refused") rfl), F.kp, ?_⟩
  · intro ds hd
    rw [List.mem_singleton] at hd
    subst hd
    exact ⟨[], [], FunD.bindsN F fun _ _ _ _ _ _ us hl => match us, hl with | [_], _ => rfl, .nil, fun _ => .nil⟩
theorem fo_law_truth (KX : K.In h) (GN : h.Ns mainGlobals mg) (c : He.SaysX fa fn [] [] ex w h K)  {fd : FuncData} (F : FunD K d_law_truth.name d_law_truth.qual d_law_truth.params d_law_truth.body d_law_truth.scope (d_law_truth.dvs K) (d_law_truth.kws K) (He.fAd K d_law_truth.at_) fd) : FnOk P w K mg base (L2.CX P w) 1 (He.fAd K d_law_truth.at_) fd ["_law_found", "_law_due"] (spD K mg 2 m_law_truth) := by
  have b_bool : mg "bool" = none := He.free_ok KX GN (c.t.d.fact 18 (f := .free "bool") rfl)
  have b_isinstance : mg "isinstance" = none := He.free_ok KX GN (c.t.d.fact 20 (f := .free "isinstance") rfl)
  have S := sc_law_truth
  rw [mm_law_truth]
  have Z := okD (P := P) (w := w) (mg := mg) (base := base) (n := 2) (k := 0) (den := den_law_truth) F S rfl
  refine Z ?_
  intro cdv A outer s H E hr
  have tk : Takes (cxOf (L2.CX P w) P w K mg base ["_law_found", "_law_due"] "_law_truth" (defScope s_law_truth) (He.fAd K d_law_truth.at_) cdv A outer s H E) (fun cls d _ H => E cls d H) := takes_of rfl rfl rfl rfl
  have hp : PassesOwn (model P w) (cxOf (L2.CX P w) P w K mg base ["_law_found", "_law_due"] "_law_truth" (defScope s_law_truth) (He.fAd K d_law_truth.at_) cdv A outer s H E).A (cxOf (L2.CX P w) P w K mg base ["_law_found", "_law_due"] "_law_truth" (defScope s_law_truth) (He.fAd K d_law_truth.at_) cdv A outer s H E).env (cxOf (L2.CX P w) P w K mg base ["_law_found", "_law_due"] "_law_truth" (defScope s_law_truth) (He.fAd K d_law_truth.at_) cdv A outer s H E).xe := passes_of rfl
  exact sd_one (sd_ret (pe_dand (pd_isi (T := "bool") b_isinstance b_bool (by decide +kernel) (pd_v 0)) (pe_d1 (pd_cmp (od_eq hr.units) noEx_eq (pd_v 0) (pd_v 1)))))
theorem ok_law_truth (KX : K.In h) (GN : h.Ns mainGlobals mg) (c : He.SaysX fa fn [] [] ex w h K)  : FnAt P w K mg base "_law_truth" 1 2 [[]] m_law_truth := by
  obtain ⟨fd, F⟩ := c.t.d.def_ 12 (d := d_law_truth) rfl
  refine ⟨_, fd, ["_law_found", "_law_due"], fo_law_truth KX GN c  F, He.glo_ok KX GN (c.t.d.fact 12 (f := .glo "_law_truth") rfl), F.kp, ?_⟩
  · intro ds hd
    rw [List.mem_singleton] at hd
    subst hd
    exact ⟨[], [], FunD.bindsN F fun _ _ _ _ _ _ us hl => match us, hl with | [_, _], _ => rfl, .nil, fun _ => .nil⟩
theorem fo_law_is_root (KX : K.In h) (GN : h.Ns mainGlobals mg) (c : He.SaysX fa fn [] [] ex w h K) (F_law_whole : FnAt P w K mg base "_law_whole" 1 1 [[]] m_law_whole) {fd : FuncData} (F : FunD K d_law_is_root.name d_law_is_root.qual d_law_is_root.params d_law_is_root.body d_law_is_root.scope (d_law_is_root.dvs K) (d_law_is_root.kws K) (He.fAd K d_law_is_root.at_) fd) : FnOk P w K mg base (L2.CX P w) 2 (He.fAd K d_law_is_root.at_) fd ["_law_thing_here"] (spD K mg 1 m_law_is_root) := by
  have b_range : mg "range" = none := He.free_ok KX GN (c.t.d.fact 22 (f := .free "range") rfl)
  have S := sc_law_is_root
  rw [mm_law_is_root]
  have Z := okD (P := P) (w := w) (mg := mg) (base := base) (n := 1) (k := 1) (den := den_law_is_root) F S rfl
  refine Z ?_
  intro cdv A outer s H E hr
  have tk : Takes (cxOf (L2.CX P w) P w K mg base ["_law_thing_here", "_law_k"] "_law_is_root" (defScope s_law_is_root) (He.fAd K d_law_is_root.at_) cdv A outer s H E) (fun cls d _ H => E cls d H) := takes_of rfl rfl rfl rfl
  have hp : PassesOwn (model P w) (cxOf (L2.CX P w) P w K mg base ["_law_thing_here", "_law_k"] "_law_is_root" (defScope s_law_is_root) (He.fAd K d_law_is_root.at_) cdv A outer s H E).A (cxOf (L2.CX P w) P w K mg base ["_law_thing_here", "_law_k"] "_law_is_root" (defScope s_law_is_root) (He.fAd K d_law_is_root.at_) cdv A outer s H E).env (cxOf (L2.CX P w) P w K mg base ["_law_thing_here", "_law_k"] "_law_is_root" (defScope s_law_is_root) (He.fAd K d_law_is_root.at_) cdv A outer s H E).xe := passes_of rfl
  exact sd_cons (sd_if (PW.pt (pw_dor (pt_dnot (pt_d (pd_call F_law_whole mem0 (hr.mono (by decide)) tk rfl (pad_cons (pd_v 0) (pad_nil))))) (pw_dor (pt_cmpd od_lt noEx_cI (pd_v 0) (pd_int)) (pw_o1 (pt_cmpd od_gt noEx_cI (pd_v 0) (pd_int)))))) (sd_one (sd_ret (pd_bl))) (sd_nil)) (sd_one (sd_ret (pd_cmp (od_notin (un65 hr)) noEx_in (pd_v 0) (pd_lc [("_law_k", 1)] rfl S.nd (pi_r1 rfl b_range (pad_cons (pd_int) (pad_nil))) (blkOk_by (N := ["_law_thing_here", "_law_k"]) (sc := defScope s_law_is_root) (own := [("_law_k", 1)]) (by decide +kernel)) (by decide) (fun _ _ _ _ _ => pg_name (i := 1) S.nd rfl (.inl rfl)) (fun _ _ _ _ _ => ptd_nil) (fun _ _ _ _ _ => pd_bin od_mul noEx_mul (pd_v 1) (pd_v 1))))))
theorem ok_law_is_root (KX : K.In h) (GN : h.Ns mainGlobals mg) (c : He.SaysX fa fn [] [] ex w h K) (F_law_whole : FnAt P w K mg base "_law_whole" 1 1 [[]] m_law_whole) : FnAt P w K mg base "_law_is_root" 2 1 [[]] m_law_is_root := by
  obtain ⟨fd, F⟩ := c.t.d.def_ 13 (d := d_law_is_root) rfl
  refine ⟨_, fd, ["_law_thing_here"], fo_law_is_root KX GN c F_law_whole F, He.glo_ok KX GN (c.t.d.fact 13 (f := .glo "_law_is_root") rfl), F.kp, ?_⟩
  · intro ds hd
    rw [List.mem_singleton] at hd
    subst hd
    exact ⟨[], [], FunD.bindsN F fun _ _ _ _ _ _ us hl => match us, hl with | [_], _ => rfl, .nil, fun _ => .nil⟩
theorem fo_law_asked (KX : K.In h) (GN : h.Ns mainGlobals mg) (c : He.SaysX fa fn [] [] ex w h K) (F_law_refused : FnAt P w K mg base "_law_refused" 4 1 [[]] m_law_refused_v2) (F_law_truth : FnAt P w K mg base "_law_truth" 1 2 [[]] m_law_truth) (F_is_whole : FnAt P w K mg base "is_whole" 1 1 [[]] m_is_whole) (F_is_root : FnAt P w K mg base "is_root" 2 1 [[]] m_is_root) (F_law_is_root : FnAt P w K mg base "_law_is_root" 2 1 [[]] m_law_is_root) {fd : FuncData} (F : FunD K d_law_asked.name d_law_asked.qual d_law_asked.params d_law_asked.body d_law_asked.scope (d_law_asked.dvs K) (d_law_asked.kws K) (He.fAd K d_law_asked.at_) fd) : FnOk P w K mg base (L2.CX P w) 5 (He.fAd K d_law_asked.at_) fd ["_law_things"] (spD K mg 1 m_law_asked_v5) := by
  have S := sc_law_asked
  rw [mm_law_asked_v5]
  have Z := okD (P := P) (w := w) (mg := mg) (base := base) (n := 1) (k := 4) (den := den_law_asked_v5) F S rfl
  refine Z ?_
  intro cdv A outer s H E hr
  have tk : Takes (cxOf (L2.CX P w) P w K mg base ["_law_things", "_law_thing_here", "_law_good", "_law_many", "_law_some", "_law_bad"] "_law_asked" (defScope s_law_asked) (He.fAd K d_law_asked.at_) cdv A outer s H E) (fun cls d _ H => E cls d H) := takes_of rfl rfl rfl rfl
  have hp : PassesOwn (model P w) (cxOf (L2.CX P w) P w K mg base ["_law_things", "_law_thing_here", "_law_good", "_law_many", "_law_some", "_law_bad"] "_law_asked" (defScope s_law_asked) (He.fAd K d_law_asked.at_) cdv A outer s H E).A (cxOf (L2.CX P w) P w K mg base ["_law_things", "_law_thing_here", "_law_good", "_law_many", "_law_some", "_law_bad"] "_law_asked" (defScope s_law_asked) (He.fAd K d_law_asked.at_) cdv A outer s H E).env (cxOf (L2.CX P w) P w K mg base ["_law_things", "_law_thing_here", "_law_good", "_law_many", "_law_some", "_law_bad"] "_law_asked" (defScope s_law_asked) (He.fAd K d_law_asked.at_) cdv A outer s H E).xe := passes_of rfl
  exact sd_cons (sd_for hp rfl (pi_l (pd_v 0)) (pg_tup rfl (pgs_cons (pg_name (i := 1) S.nd rfl (.inl rfl)) (pgs_cons (pg_name (i := 2) S.nd rfl (.inl rfl)) (pgs_nil)))) (sd_one (sd_if (PW.pt (pw_dor (pt_dnot (pt_d (pd_call F_law_truth mem0 (hr.mono (by decide)) tk rfl (pad_cons (pd_call F_is_whole mem0 (hr.mono (by decide)) tk rfl (pad_cons (pd_v 1) (pad_nil))) (pad_cons (pd_v 2) (pad_nil)))))) (pw_o1 (pt_dnot (pt_d (pd_call F_law_truth mem0 (hr.mono (by decide)) tk rfl (pad_cons (pd_call F_is_root mem0 (hr.mono (by decide)) tk rfl (pad_cons (pd_v 1) (pad_nil))) (pad_cons (pd_call F_law_is_root mem0 (hr.mono (by decide)) tk rfl (pad_cons (pd_v 1) (pad_nil))) (pad_nil))))))))) (sd_one (sd_ret (pd_bl))) (sd_nil)))) (sd_cons (sd_for hp rfl (pi_t (pd_tup (pad_cons (pd_int) (pad_cons (pd_int) (pad_cons (pd_int) (pad_nil)))))) (pg_name (i := 3) S.nd rfl (.inl rfl)) (sd_cons (sd_setLc 4 [("_law_thing_here", 1), ("_law_good", 2)] rfl S.nd rfl rfl (sw_true rfl rfl rfl (by decide +kernel)) (pi_l (pd_sl (pd_v 0) (po_d0) (po_d (pd_v 3)))) (blkOk_by (N := ["_law_things", "_law_thing_here", "_law_good", "_law_many", "_law_some", "_law_bad"]) (sc := defScope s_law_asked) (own := [("_law_thing_here", 1), ("_law_good", 2)]) (by decide +kernel)) (by decide) (fun _ _ _ _ _ => pg_tup rfl (pgs_cons (pg_name (i := 1) S.nd rfl (.inl rfl)) (pgs_cons (pg_name (i := 2) S.nd rfl (.inl rfl)) (pgs_nil)))) (fun _ _ _ _ _ => ptd_nil) (fun _ _ _ _ _ => pd_v 1)) (sd_cons (sd_set 5 S.nd rfl (.inl rfl) (pd_cmp (od_in (un65 hr)) noEx_in (pd_bl) (pd_lc [("_law_thing_here", 1), ("_law_good", 2)] rfl S.nd (pi_l (pd_sl (pd_v 0) (po_d0) (po_d (pd_v 3)))) (blkOk_by (N := ["_law_things", "_law_thing_here", "_law_good", "_law_many", "_law_some", "_law_bad"]) (sc := defScope s_law_asked) (own := [("_law_thing_here", 1), ("_law_good", 2)]) (by decide +kernel)) (by decide) (fun _ _ _ _ _ => pg_tup rfl (pgs_cons (pg_name (i := 1) S.nd rfl (.inl rfl)) (pgs_cons (pg_name (i := 2) S.nd rfl (.inl rfl)) (pgs_nil)))) (fun _ _ _ _ _ => ptd_nil) (fun _ _ _ _ _ => pd_v 2)))) (sd_one (sd_if (pt_cmpd (od_ne hr.units) noEx_ne (pd_call F_law_refused mem0 (hr.mono (by decide)) tk rfl (pad_cons (pd_v 4) (pad_nil))) (pe_dor (pd_v 5) (pe_d1 (pe_dand (pd_cmp (od_eq hr.units) noEx_eq (pd_v 3) (pd_int)) (pe_d1 (pd_cmp (od_eq hr.units) noEx_eq (pd_ix (pd_v 4) (pd_int)) (pd_int))))))) (sd_one (sd_ret (pd_bl))) (sd_nil)))))) (sd_one (sd_ret (pd_bl))))
theorem ok_law_asked (KX : K.In h) (GN : h.Ns mainGlobals mg) (c : He.SaysX fa fn [] [] ex w h K) (F_law_refused : FnAt P w K mg base "_law_refused" 4 1 [[]] m_law_refused_v2) (F_law_truth : FnAt P w K mg base "_law_truth" 1 2 [[]] m_law_truth) (F_is_whole : FnAt P w K mg base "is_whole" 1 1 [[]] m_is_whole) (F_is_root : FnAt P w K mg base "is_root" 2 1 [[]] m_is_root) (F_law_is_root : FnAt P w K mg base "_law_is_root" 2 1 [[]] m_law_is_root) : FnAt P w K mg base "_law_asked" 5 1 [[]] m_law_asked_v5 := by
  obtain ⟨fd, F⟩ := c.t.d.def_ 14 (d := d_law_asked) rfl
  refine ⟨_, fd, ["_law_things"], fo_law_asked KX GN c F_law_refused F_law_truth F_is_whole F_is_root F_law_is_root F, He.glo_ok KX GN (c.t.d.fact 14 (f := .glo "_law_asked") rfl), F.kp, ?_⟩
  · intro ds hd
    rw [List.mem_singleton] at hd
    subst hd
    exact ⟨[], [], FunD.bindsN F fun _ _ _ _ _ _ us hl => match us, hl with | [_], _ => rfl, .nil, fun _ => .nil⟩
theorem fo_law (KX : K.In h) (GN : h.Ns mainGlobals mg) (c : He.SaysX fa fn [] [] ex w h K) (F_law_asked : FnAt P w K mg base "_law_asked" 5 1 [[]] m_law_asked_v5) (F_law_truth : FnAt P w K mg base "_law_truth" 1 2 [[]] m_law_truth) (F_is_root : FnAt P w K mg base "is_root" 2 1 [[]] m_is_root) (F_law_is_root : FnAt P w K mg base "_law_is_root" 2 1 [[]] m_law_is_root) (F_law_thing : FnAt P w K mg base "_law_thing" 3 2 [[]] m_law_thing) {fd : FuncData} (F : FunD K d_law.name d_law.qual d_law.params d_law.body d_law.scope (d_law.dvs K) (d_law.kws K) (He.fAd K d_law.at_) fd) : FnOk P w K mg base (L2.CX P w) 6 (He.fAd K d_law.at_) fd ["_law_script"] (spD K mg 1 m_law_k02) := by
  have b_range : mg "range" = none := He.free_ok KX GN (c.t.d.fact 22 (f := .free "range") rfl)
  have S := sc_law
  rw [mm_law_k02]
  have Z := okD (P := P) (w := w) (mg := mg) (base := base) (n := 1) (k := 5) (den := den_law_k02) F S rfl
  refine Z ?_
  intro cdv A outer s H E hr
  have tk : Takes (cxOf (L2.CX P w) P w K mg base ["_law_script", "_law_number_here", "_law_cell"] "law" (defScope s_law) (He.fAd K d_law.at_) cdv A outer s H E) (fun cls d _ H => E cls d H) := takes_of rfl rfl rfl rfl
  have hp : PassesOwn (model P w) (cxOf (L2.CX P w) P w K mg base ["_law_script", "_law_number_here", "_law_cell"] "law" (defScope s_law) (He.fAd K d_law.at_) cdv A outer s H E).A (cxOf (L2.CX P w) P w K mg base ["_law_script", "_law_number_here", "_law_cell"] "law" (defScope s_law) (He.fAd K d_law.at_) cdv A outer s H E).env (cxOf (L2.CX P w) P w K mg base ["_law_script", "_law_number_here", "_law_cell"] "law" (defScope s_law) (He.fAd K d_law.at_) cdv A outer s H E).xe := passes_of rfl
  exact sd_cons (sd_for hp rfl (pi_r2 rfl b_range (pad_cons (pd_neg (pd_int)) (pad_cons (pd_int) (pad_nil)))) (pg_name (i := 1) S.nd rfl (.inl rfl)) (sd_one (sd_if (pt_dnot (pt_d (pd_call F_law_truth mem0 (hr.mono (by decide)) tk rfl (pad_cons (pd_call F_is_root mem0 (hr.mono (by decide)) tk rfl (pad_cons (pd_v 1) (pad_nil))) (pad_cons (pd_call F_law_is_root mem0 (hr.mono (by decide)) tk rfl (pad_cons (pd_v 1) (pad_nil))) (pad_nil)))))) (sd_one (sd_ret (pd_bl))) (sd_nil)))) (sd_cons (sd_for hp rfl (pi_l (pd_bin od_add noEx_add (pd_lst (pad_cons (pd_int) (pad_cons (pd_int) (pad_cons (pd_int) (pad_nil))))) (pd_sl (pd_v 0) (po_d0) (po_d (pd_int))))) (pg_name (i := 2) S.nd rfl (.inl rfl)) (sd_one (sd_if (pt_dnot (pt_d (pd_call F_law_asked mem0 (hr.mono (by decide)) tk rfl (pad_cons (pd_lst (pad_cons (pd_call F_law_thing mem0 (hr.mono (by decide)) tk rfl (pad_cons (pd_v 2) (pad_cons (pd_int) (pad_nil)))) (pad_cons (pd_call F_law_thing mem0 (hr.mono (by decide)) tk rfl (pad_cons (pd_v 2) (pad_cons (pd_int) (pad_nil)))) (pad_cons (pd_call F_law_thing mem0 (hr.mono (by decide)) tk rfl (pad_cons (pd_v 2) (pad_cons (pd_int) (pad_nil)))) (pad_nil))))) (pad_nil))))) (sd_one (sd_ret (pd_bl))) (sd_nil)))) (sd_one (sd_ret (pd_call F_law_asked mem0 (hr.mono (by decide)) tk rfl (pad_cons (pd_lst (pad_cons (pd_tup (pad_cons (pd_int) (pad_cons (pd_bl) (pad_nil)))) (pad_cons (pd_tup (pad_cons (pd_bl) (pad_cons (pd_bl) (pad_nil)))) (pad_cons (pd_tup (pad_cons (pd_int) (pad_cons (pd_bl) (pad_nil)))) (pad_nil))))) (pad_nil))))))
theorem ok_law (KX : K.In h) (GN : h.Ns mainGlobals mg) (c : He.SaysX fa fn [] [] ex w h K) (F_law_asked : FnAt P w K mg base "_law_asked" 5 1 [[]] m_law_asked_v5) (F_law_truth : FnAt P w K mg base "_law_truth" 1 2 [[]] m_law_truth) (F_is_root : FnAt P w K mg base "is_root" 2 1 [[]] m_is_root) (F_law_is_root : FnAt P w K mg base "_law_is_root" 2 1 [[]] m_law_is_root) (F_law_thing : FnAt P w K mg base "_law_thing" 3 2 [[]] m_law_thing) : FnAt P w K mg base "law" 6 1 [[]] m_law_k02 := by
  obtain ⟨fd, F⟩ := c.t.d.def_ 15 (d := d_law) rfl
  refine ⟨_, fd, ["_law_script"], fo_law KX GN c F_law_asked F_law_truth F_is_root F_law_is_root F_law_thing F, He.glo_ok KX GN (c.t.d.fact 15 (f := .glo "law") rfl), F.kp, ?_⟩
  · intro ds hd
    rw [List.mem_singleton] at hd
    subst hd
    exact ⟨[], [], FunD.bindsN F fun _ _ _ _ _ _ us hl => match us, hl with | [_], _ => rfl, .nil, fun _ => .nil⟩
end
def names0 : List PySem.Str := ["YardError", "NoLength", "NoBoard", "NoText", "NoDeed", "NoName", "Grain", "Unfit", "TooMany", "NoRow", "Apart", "LEAST_ROOT", "GREATEST_ROOT", "is_whole", "root_floor", "is_root", "divisor", "lowest", "length", "_law_whole"]
def names1 : List PySem.Str := ["_law_great", "_law_alone", "_law_number", "_law_thing", "_law_refused", "_law_truth", "_law_is_root", "_law_asked"]
def names : List PySem.Str := names0 ++ names1
abbrev Rw : PySem.W.OpenRow := PySem.W.OpenLaw.row PySem.Challenge.rw_boardglue_k02_no_length
abbrev hk : PySem.W.Hook := He.hookX 5 fa fn [] [] ex
def ob (s : PySem.W.SharedT) : He.AlX := He.obsX 5 fa fn [] [] ex (HandSHeadRun.getT s)
theorem ob_eq (s : PySem.W.SharedT) : ob s = hk.obs s.abs := He.obsX_eq (HandSHeadRun.getT_eq s)
theorem run (w : World) : HandSHeadRun.RunEq Rw (PySem.W.view Rw.prog [31]) hk ob 20000 names w := by
  intro os
  kernel_rfl
theorem facts {P : Program} {w : World} {K : PySem.W.Frag} {h : Heap} {mg : MG} {f : Addr} (KX : K.In h) (GN : h.Ns mainGlobals mg) (hfa : mg ("law" : Str) = some (.ref f)) (c : He.SaysX fa fn [] [] ex w h K) :
    ∃ fd : FuncData, (∀ (s : Shared) (v : Value), BindsTo s fd ⟨[v], []⟩ [("_law_script", v)]) ∧ ∀ base : Heap, K.In base → base.Ns mainGlobals mg → FnOk P w K mg base (L2.CX P w) 6 f fd ["_law_script"] (spD K mg 1 m_law_k02) := by
  obtain ⟨fd, F⟩ := c.t.d.def_ 15 (d := d_law) rfl
  refine ⟨fd, fun s v => FunD.bindsA (ps := ["_law_script"]) F (fun _ _ _ _ _ _ us hl => match us, hl with | [_], _ => rfl) s [v] rfl, fun base hb hg => ?_⟩
  have F_is_whole := ok_is_whole (P := P) (w := w) (base := base) KX GN c 
  have F_root_floor := ok_root_floor (P := P) (w := w) (base := base) KX GN c 
  have F_is_root := ok_is_root (P := P) (w := w) (base := base) KX GN c F_is_whole F_root_floor
  have F_divisor := ok_divisor (P := P) (w := w) (base := base) KX GN c 
  have F_lowest := ok_lowest (P := P) (w := w) (base := base) KX GN c F_divisor
  have F_length := ok_length (P := P) (w := w) (base := base) KX GN c F_lowest F_is_whole
  have F_law_whole := ok_law_whole (P := P) (w := w) (base := base) KX GN c 
  have F_law_great := ok_law_great (P := P) (w := w) (base := base) KX GN c 
  have F_law_alone := ok_law_alone (P := P) (w := w) (base := base) KX GN c 
  have F_law_number := ok_law_number (P := P) (w := w) (base := base) KX GN c F_law_great
  have F_law_thing := ok_law_thing (P := P) (w := w) (base := base) KX GN c F_law_great F_law_number
  have F_law_refused := ok_law_refused (P := P) (w := w) (base := base) KX GN c F_law_alone F_length
  have F_law_truth := ok_law_truth (P := P) (w := w) (base := base) KX GN c 
  have F_law_is_root := ok_law_is_root (P := P) (w := w) (base := base) KX GN c F_law_whole
  have F_law_asked := ok_law_asked (P := P) (w := w) (base := base) KX GN c F_law_refused F_law_truth F_is_whole F_is_root F_law_is_root
  have e := hfa.symm.trans (He.glo_ok KX GN (c.t.d.fact 15 (f := .glo "law") rfl))
  cases e
  exact fo_law KX GN c F_law_asked F_law_truth F_is_root F_law_is_root F_law_thing F
end
end DL
open PySem PySem.W PySem.Calls PyProof.Rows
theorem PySem.Challenge.cw_boardglue_k02_no_length_holds : PySem.Challenge.rw_boardglue_k02_no_length.Holds := by
  w_on; o_law
  refine HandSHeadRun.head_any (r := OpenLaw.row PySem.Challenge.rw_boardglue_k02_no_length) (q := view (OpenLaw.row PySem.Challenge.rw_boardglue_k02_no_length).prog [31]) (H := DL.hk) (ob := DL.ob) (M := 20000) (loose := DL.names) (d := HandSHeadRun.topDef (OpenLaw.row PySem.Challenge.rw_boardglue_k02_no_length).prog 31) (kwd := []) DL.ob_eq
    (by kernel_rfl) (fun s => by kernel_rfl) DL.run (by kernel_rfl) (by kernel_rfl) (by kernel_rfl) (by rfl) (by first | assumption | decide +kernel) (by decide +kernel) ⟨rfl, rfl, rfl, rfl, rfl, by decide +kernel⟩ ?hw ?hc
  case hw => w_witness2
  case hc =>
    refine DL.walkD (l := PySem.Challenge.rw_boardglue_k02_no_length) (n := 63) (k := 6) (x := "_law_script") (g := DL.m_law_k02) rfl (by decide) (by kernel_rfl) ⟨rfl, by decide, by decide⟩ ?F DL.law_k02_true
    intro w mg fa h Y G hmg0
    obtain ⟨K, KX, c⟩ := Y
    have hmg : mg ("law" : PySem.Str) = some (.ref fa) := by
      have e : (HandSHeadRun.topDef (OpenLaw.row PySem.Challenge.rw_boardglue_k02_no_length).prog 31).name = ("law" : PySem.Str) := by kernel_rfl
      rw [← e]
      exact hmg0
    obtain ⟨fd, hb, hF⟩ := DL.facts (P := (PySem.Challenge.rw_boardglue_k02_no_length).prog) (w := w) KX G hmg c
    exact ⟨K, fd, KX, hb, hF⟩

