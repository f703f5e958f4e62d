import PyProof.Rows.All
import Wide.All
import OpenK.AllK
import Wide.FinOn
import HandS.ForExc
import HandS.ExcIs
import HandS.ExcValue
import HandS.TryMany
import HandS.ForMost
import HandS.SetFor
import HandS.Deep
import HandS.Conv
import HandS.IsInst
import HandS.Style
import HandS.TupAny
import PyProof.Rows.ListMulArg
import PyProof.StrOps2
import HandS.RevTup
import KE.DataEq
import KE.SortData
import HandS.SetKeys
import KE.DataFind
import HandS.NoneIn
import HandS.WordsDict
import HandS.Flow
import PyProof.Draws
import KE.GoesMore
import HandS.Iter
import HandS.Set
import PyProof.EqKinds
import PyProof.FactsAll.dict
import HandS.TupMul
import PyProof.FactsAll.subtypes_3
import PyProof.FactsAll.subtypes_4
import PySem.Challenge.RW_dealcourt_k11_what_is_one
set_option maxHeartbeats 4000000
set_option Elab.async false
set_option linter.all false
set_option maxRecDepth 100000
/-! DX0: an exception that is caught and kept: behind the suite it is a thing of the heap like others. -/
namespace L2
open PySem PySem.Spec PyProof.Rows
/-- an exception of the class cls, caught or made -/
def ExC (cls : Value) (a : Addr) : HO := .ext fun h => ∃ (o : Obj) (vs : Array Value), h.get? a = some o ∧ Zc cls none o ∧ o.data = .fields vs
theorem exC_ok {P : Program} {w : World} {H : Hp} {h : Heap} {a : Addr} {cls : Value} {o : Obj} {vs : Array Value} (e : h.get? a = some o) (z : Zc cls none o) (d : o.data = .fields vs) : ObjOk P w H h a (ExC cls a) :=
  ⟨⟨o, vs, e, z, d⟩, ⟨o, e⟩, fun _ _ ⟨o, v, q, r⟩ k => ⟨o, v, k o q, r⟩⟩
section
variable {X : Cx} {pins : List (Addr × Obj)} {σ : St} {H : Hp} {s : Shared}
/-- an object that was pinned, and is not older than the frame, is from now on one of the heap's -/
theorem Inv.track {a : Addr} {o : Obj} {vs : Array Value} {cls : Value} (I : Inv X ((a, o) :: pins) σ H s) (z : Zc cls none o) (d : o.data = .fields vs) (n0 : X.s_0.heap.get? a = none) (nc : ∀ x c, X.env.cells.lookup x = some c → c ≠ a) (np : ∀ p ∈ X.pn ++ pins, p.1 ≠ a) : Inv X pins σ (upd H a (ExC cls a)) s := by
  obtain ⟨pe, pn, pl, pf, pd⟩ := I.pin (a, o) (List.mem_append_right _ List.mem_cons_self)
  have pe : s.heap.get? a = some o := pe
  have pn : H a = none := pn
  have old : ∀ b ob, X.s_0.heap.get? b = some ob → b ≠ a := fun b ob e q => by rw [q, n0] at e; cases e
  have has : ∀ b u, H b = some u → b ≠ a := fun b u e q => by rw [q, pn] at e; cases e
  refine ⟨I.ok, I.os, I.bare, ⟨I.base.keep, I.base.slot, fun b ob e n hx => ?_, I.base.there, fun b xs e => ?_, fun b ob u e => ?_, fun b ps e => ?_⟩, I.loc, I.cell, ?_, fun x c e => ?_, fun p hp => ?_, fun b u e => ?_, I.len⟩
  · rw [upd_ne (old b ob e)]
    exact I.base.free b ob e n hx
  · have q := I.base.tups b xs e
    rw [upd_ne (has b _ q)]
    exact q
  · have q := I.base.frzs b ob u e
    rw [upd_ne (has b _ q)]
    exact q
  · obtain ⟨m, q⟩ := I.base.tbls b ps e
    exact ⟨m, by rw [upd_ne (has b _ q)]; exact q⟩
  · have hl : X.env.locals ≠ a := fun q => pl q.symm
    rw [upd_ne hl]
    exact I.free
  · rw [upd_ne (nc x c e)]
    exact I.freeC x c e
  · have hp2 : p ∈ X.pn ++ (a, o) :: pins := by
      rcases List.mem_append.mp hp with q | q
      · exact List.mem_append_left _ q
      · exact List.mem_append_right _ (List.mem_cons_of_mem _ q)
    obtain ⟨q1, q2, q3, q4, q5⟩ := I.pin p hp2
    exact ⟨q1, by rw [upd_ne (np p hp)]; exact q2, q3, q4, q5⟩
  · by_cases hb : b = a
    · subst hb
      rw [upd_same] at e
      cases e
      exact exC_ok pe z d
    · rw [upd_ne hb] at e
      refine (I.hok b u e).stay (fun c v hc q => q) (fun c q => ?_) fun c xs q => ?_
      · rw [upd_ne (has c _ q)]
        exact q
      · rw [upd_ne (has c _ q)]
        exact q
/-- what the clause 'except x as n' wishes: behind its suite the exception is kept in the heap -/
def wKeep (K : PySem.W.Frag) (n : Nat) (c : Value) (i : Nat) (ts : Addr → Value → TS) (Wout : WX) (D : Ends) : WX := fun cls d σ H =>
  d = none ∧ ∃ b, PySem.W.exmOne K cls c = some b ∧ (b = true → σ.length = n → ∀ a, H a = none → ts a cls { nx := fun σ' H' => H' a = none → D.nx (σ'.set i none) (upd H' a (ExC cls a)), rt := fun v H' => H' a = none → D.rt v (upd H' a (ExC cls a)), bk := fun σ' H' => H' a = none → D.bk (σ'.set i none) (upd H' a (ExC cls a)), ct := fun σ' H' => H' a = none → D.ct (σ'.set i none) (upd H' a (ExC cls a)) } (σ.set i (some (.ref a))) H) ∧
    (b = false → Wout cls d σ H)
theorem ps_try_keep {x n : Str} {c : Value} {i : Nat} {body suite : List Stmt} {b₀ : Stmt} {np pos pos' : Pos} {tb : WX → TS} {ts : Addr → Value → TS} {Wout : WX} (hs : X.stack = X.env :: X.outer) (hf : X.env.frame = some X.env.locals) (hN : X.N.Nodup) (hi : X.N[i]? = some n) (hln : X.env.kindOf n = some .local) (hc : Names X x c) (tk : Takes X Wout) (hex : X.ex = [])
    (hb : ∀ (W : WX) (pn : List (Addr × Obj)) (xe : Value → Shared → Prop), Takes (X.tr pn xe) W → PassesOwn (model X.prog X.w) X.A X.env xe → PSs (X.tr pn xe) body (tb W))
    (hsu : ∀ (a : Addr) (oe : Obj) (cls : Value) (pn : List (Addr × Obj)), Zc cls none oe → (∃ vs, oe.data = .fields vs) → PSs (X.suite a ((a, oe) :: pn)) (b₀ :: suite) (ts a cls)) :
    PS X (.Try body [.ExceptHandler (some (.Name x np)) (some n) (b₀ :: suite) pos'] [] [] pos) (fun D σ H => tb (wKeep X.K X.N.length c i ts Wout D) D σ H) := by
  refine ⟨fun pins s σ H D I h => wpAny_Try_except ?_⟩
  have ok := I.ok
  have here : X.A.frames = some (X.env :: X.outer) := by rw [ok.frames, hs]
  have isLoc : Loc X.env.scope n := .inl hln
  refine wpAny_mono ((hb (wKeep X.K X.N.length c i ts Wout D) (X.pn ++ pins) (fun e s₁ => wpAny (model X.prog X.w) X.A (noteFrame e X.env) (fun _ s₂ => wpAny (model X.prog X.w) X.A (setFlight e none) (fun _ s₃ =>
    wpAny (model X.prog X.w) X.A (handleBy e X.env [.ExceptHandler (some (.Name x np)) (some n) (b₀ :: suite) pos']) (SP X pins D) X.xe s₃) X.xe s₂) X.xe s₁) (fun u s' thrown => ?_) PassesOwn.looking).run [] s σ H D (I.toTry _) h) (fun f s1 done => ?_) (fun _ _ z => z)
  · obtain ⟨a, B, sI, pins', σ', H', cls, d, rfl, J', nb, up, sky, na, os, ag, hd0, b, hb1, hyes, hno⟩ := thrown
    subst hd0
    have J : Inv X pins σ' H' sI := J'.ofTry ok
    rw [hs] at sky
    show wpAny _ _ (noteFrame (.ref a) X.env) _ _ _
    refine Sky.land Zc.steady here hf sky fun h3 fl3 up3 => ?_
    have J3 : Inv X pins σ' H' { s' with heap := h3 } := J.landed nb fl3.1 (up.trans up3) os ag
    obtain ⟨oe3, vs3, he3, hz3, hd3⟩ := fl3.there
    have nfr : a ∉ frs (X.env :: X.outer) := fun hm => by
      obtain ⟨_, o', e', hnf⟩ := fl3.2.2.1.mem hm
      cases he3.symm.trans e'
      exact hnf _ hd3
    have nI : sI.heap.get? a = none := by
      cases q : sI.heap.get? a with
      | none => rfl
      | some o => exact absurd (nb a o q (by rw [hs]; exact nfr)) (by rw [fl3.2.1]; exact fun z => nomatch z)
    have n0 : X.s_0.heap.get? a = none := by
      cases q : X.s_0.heap.get? a with
      | none => rfl
      | some o =>
        obtain ⟨o', e'⟩ := J.base.there a o q (by rw [hex]; exact fun z => nomatch z)
        cases nI.symm.trans e'
    have nc : ∀ y c', X.env.cells.lookup y = some c' → c' ≠ a := fun y c' e q => by
      obtain ⟨v, ov, hov, _⟩ := J.cell y c' e
      rw [q] at hov
      cases nI.symm.trans hov
    have npp : ∀ p ∈ X.pn ++ pins, p.1 ≠ a := fun p hp q => by
      have := (J.pin p hp).1
      rw [q] at this
      cases nI.symm.trans this
    have nL : a ≠ X.env.locals := fun q => nfr (List.mem_filterMap.mpr ⟨X.env, List.mem_cons_self, by rw [hf, q]⟩)
    have nF : a ∉ X.fs := fun hm => by
      obtain ⟨e, he, q⟩ := List.mem_filterMap.mp hm
      exact nfr (List.mem_filterMap.mpr ⟨e, List.mem_cons_of_mem _ he, q⟩)
    have S3 := J3.suite he3 hd3 na nL nF
    refine wpAny_handleBy_cons (codeAny_handlers_test ?_) (by intro q; cases q)
    have LT : PySem.W.Looks (model X.prog X.w) h3 (typeOf (.ref a)) cls := fun A Q E s k q => wpAny_typeOf_ref (k _ _ he3) (by rw [hz3.1]; exact q)
    have LM := PySem.W.exm_one (M := model X.prog X.w) (J3.kIn) LT hb1
    have asked : ∀ {Q : Value → Shared → Prop} {E : Value → Shared → Prop}, Q c { s' with heap := h3 } → wpAny (model X.prog X.w) (X.A.mark (some (.ref a))) (eval (.Name x np) X.env) Q E { s' with heap := h3 } := fun {Q E} q => by
      obtain ⟨hg, hdbg, hm | ⟨hm, hv, hnn⟩⟩ := hc
      · exact ld_glob (X := X.suite a ((a, oe3) :: (X.pn ++ pins))) S3 hg hm q hdbg
      · exact ld_blt (X := X.suite a ((a, oe3) :: (X.pn ++ pins))) S3 hg hm hv q hnn hdbg
    refine asked (LM.here ?_)
    cases b with
    | true =>
      refine codeAny_handlers_suite_as (HandSPX.lands_againZ fl3 fun h4 fl4 up4 => ?_)
      have J4 : Inv X pins σ' H' { s' with heap := h4 } := J.landed nb fl4.1 ((up.trans up3).trans up4) os ag
      obtain ⟨oe4, vs4, he4, hz4, hd4⟩ := fl4.there
      have S4 := J4.suite he4 hd4 na nL nF
      refine store_ok (X := X.suite a ((a, oe4) :: (X.pn ++ pins))) (v := .ref a) S4 hN hi isLoc rfl (fun s5 S5 => ?_) (.inr hln)
      refine wpAny_mono ((hsu a oe4 cls (X.pn ++ pins) hz4 ⟨_, hd4⟩).run [] s5 _ H' _ S5 (hyes rfl J.len a na)) (fun f s6 fin6 => ?_) (fun _ _ z => False.elim z)
      have ends : ∀ {σ6 : St} {H6 : Hp} {Q : Shared → Prop}, Inv (X.suite a ((a, oe4) :: (X.pn ++ pins))) [] σ6 H6 s6 → (∀ s7, H6 a = none → Inv X pins (σ6.set i none) (upd H6 a (ExC cls a)) s7 → Q s7) →
          wpAny (model X.prog X.w) X.A (do bindName X.env n .none; unbindBehindTheSuite X.env n pos') (fun _ s7 => Q s7) X.xe s6 := fun {σ6 H6 Q} S6 hq => by
        have U : Inv X ((a, oe4) :: pins) σ6 H6 s6 := ⟨ok, S6.os, S6.bare, S6.base, S6.loc, S6.cell, S6.free, S6.freeC, fun p hp => S6.pin p (by
          refine List.mem_append_left _ ?_
          rcases List.mem_append.mp hp with q | q
          · exact List.mem_cons_of_mem _ (List.mem_append_left _ q)
          · rcases List.mem_cons.mp q with q | q
            · rw [q]; exact List.mem_cons_self
            · exact List.mem_cons_of_mem _ (List.mem_append_right _ q)), S6.hok, S6.len⟩
        have h6 : H6 a = none := (U.pin (a, oe4) (List.mem_append_right _ List.mem_cons_self)).2.1
        exact gone_ok U hN hi hln fun s7 U7 => hq s7 h6 (U7.track hz4 hd4 n0 nc npp)
      cases f with
      | next =>
        obtain ⟨σ6, H6, S6, q6⟩ := fin6
        exact ends S6 fun s7 h6 J7 => ⟨_, _, J7, q6 h6⟩
      | brk =>
        obtain ⟨σ6, H6, S6, q6⟩ := fin6
        exact ends S6 fun s7 h6 J7 => ⟨_, _, J7, q6 h6⟩
      | cont =>
        obtain ⟨σ6, H6, S6, q6⟩ := fin6
        exact ends S6 fun s7 h6 J7 => ⟨_, _, J7, q6 h6⟩
      | ret u =>
        obtain ⟨v6, σ6, H6, S6, r6, q6⟩ := fin6
        exact ends S6 fun s7 h6 J7 => ⟨_, _, _, J7, r6, q6 h6⟩
    | false =>
      show wpAny _ X.A (handleBy (.ref a) X.env []) _ _ _
      refine wpAny_handleBy_nil ?_
      obtain ⟨k1, k2, k3, oe, vs, T, oT, ts', he, hz, hd, h1, hr⟩ := id fl3
      unfold PySem.passOn
      refine wpAny_bind (wpAny_field he hd h1 ?_)
      rw [if_neg (show ¬ ((Value.ref T == Value.none) = true) from by simp)]
      have out : wpAny (model X.prog X.w) X.A (setFlight (.ref a) X.env.frame) (fun _ s4 => wpAny (model X.prog X.w) X.A (throw (.ref a) : Sem Flow) (SP X pins D) X.xe s4) X.xe { s' with heap := h3 } := by
        rw [hf]
        refine HandSPX.setFlight_upZ fl3 fun h4 hh4 up4 => wpAny_throw (tk _ _ ?_)
        exact ⟨a, B, sI, pins, σ', H', cls, none, rfl, J, nb, (up.trans up3).trans up4, .inr (.inr (by rw [hs]; exact hh4)), na, os, ag, hno rfl⟩
      first
        | exact wpAny_bind (wpAny_pure (wpAny_bind out))
        | exact wpAny_bind out
  · cases f with
    | ret u =>
      obtain ⟨v, σ', H', J', r, q⟩ := done
      exact ⟨v, σ', H', J'.ofTry ok, r, q⟩
    | next =>
      obtain ⟨σ', H', J', q⟩ := done
      exact wpAny_execs_nil ⟨σ', H', J'.ofTry ok, q⟩
    | brk =>
      obtain ⟨σ', H', J', q⟩ := done
      exact ⟨σ', H', J'.ofTry ok, q⟩
    | cont =>
      obtain ⟨σ', H', J', q⟩ := done
      exact ⟨σ', H', J'.ofTry ok, q⟩
end
end L2

/-! DL: a data layer over the hand layer: values are data (PyData), lists and dicts of the def's own are slots. -/
namespace DL
open PySem PySem.Spec PyProof.Rows L2
set_option autoImplicit true

/-! ### slots and values -/
inductive Hd where
  | lst | dct (ks : List Key) | ins (C dx : Addr) (ns : List Str)
/-- a thing of the def's own with things of its own within -/
inductive NT where
  | fz (x : PyData) | node (a : Addr) (h : Hd) (ts : List NT)
inductive Sl where
  | un | d (x : PyData) | lst (fr : Bool) (xs : List PyData) | dct (fr : Bool) (kvs : List (Key × PyData)) | v (x : V) | nt (fr : Bool) (t : NT) | al (i : Nat) (p : List Nat) (a : Addr) | ex (nm : Str)
inductive Vl where
  | d (x : PyData) | new (xs : List PyData) | dk (kvs : List (Key × PyData)) | bor (i : Nat) | v (x : V) | nt (t : NT) | bp (i : Nat) (p : List Nat) (a : Addr) | ex (nm : Str)
abbrev Ow := Addr → Option Nat
abbrev Ep := List Sl
def look : Ep → Nat → Sl
  | [], _ => .un
  | s :: _, 0 => s
  | _ :: r, n + 1 => look r n
def put : Ep → Nat → Sl → Ep
  | [], _, _ => []
  | _ :: r, 0, s => s :: r
  | a :: r, n + 1, s => a :: put r n s
theorem put_length : ∀ (ε : Ep) (i : Nat) (s : Sl), (put ε i s).length = ε.length
  | [], _, _ => rfl
  | _ :: _, 0, _ => rfl
  | _ :: r, n + 1, s => congrArg (· + 1) (put_length r n s)
theorem look_put_self : ∀ {ε : Ep} {i : Nat} {s : Sl}, i < ε.length → look (put ε i s) i = s
  | [], _, _, h => absurd h (Nat.not_lt_zero _)
  | _ :: _, 0, _, _ => rfl
  | _ :: r, n + 1, s, h => look_put_self (ε := r) (Nat.lt_of_succ_lt_succ h)
theorem look_put_ne : ∀ {ε : Ep} {i j : Nat} {s : Sl}, j ≠ i → look (put ε i s) j = look ε j
  | [], _, _, _, _ => rfl
  | _ :: _, 0, 0, _, h => absurd rfl h
  | _ :: _, 0, _ + 1, _, _ => rfl
  | _ :: _, _ + 1, 0, _, _ => rfl
  | _ :: r, n + 1, m + 1, s, h => look_put_ne (ε := r) fun e => h (congrArg (· + 1) e)
theorem look_out : ∀ {ε : Ep} {i : Nat}, ε.length ≤ i → look ε i = .un
  | [], _, _ => rfl
  | _ :: _, 0, h => absurd h (Nat.not_succ_le_zero _)
  | _ :: r, n + 1, h => look_out (ε := r) (Nat.le_of_succ_le_succ h)
theorem look_lt {ε : Ep} {i : Nat} (h : look ε i ≠ .un) : i < ε.length := by
  by_cases z : i < ε.length
  · exact z
  · exact absurd (look_out (Nat.le_of_not_lt z)) h

/-! ### decisions: simp goes into none of their ways -/
def onB (b : Bool) (X Y : Prop) : Prop := match b with
  | true => X
  | false => Y
theorem onB_t {X Y : Prop} : onB true X Y = X := rfl
theorem onB_f {X Y : Prop} : onB false X Y = Y := rfl
def onO {α : Type} (o : Option α) (k : α → Prop) : Prop := match o with
  | some d => k d
  | none => False
theorem onO_s {α : Type} {d : α} {k : α → Prop} : onO (some d) k = k d := rfl
theorem onO_get {α : Type} {o : Option α} {k : α → Prop} (h : onO o k) : ∃ d, o = some d ∧ k d := by
  cases o with
  | none => exact h.elim
  | some d => exact ⟨d, rfl, h⟩
theorem onO_of {α : Type} {o : Option α} {d : α} {k : α → Prop} (h : o = some d) (q : k d) : onO o k := by rw [h]; exact q
theorem onB_dec {P X Y : Prop} [Decidable P] (h1 : P → X) (h2 : ¬ P → Y) : onB (decide P) X Y := by
  by_cases h : P
  · rw [decide_eq_true h]; exact h1 h
  · rw [decide_eq_false h]; exact h2 h
theorem onB_beq {α : Type} [BEq α] [LawfulBEq α] {a b : α} {X Y : Prop} (h1 : a = b → X) (h2 : ¬ a = b → Y) : onB (a == b) X Y := by
  cases h : a == b with
  | true => exact h1 (eq_of_beq h)
  | false => exact h2 (fun e => by rw [e, beq_self_eq_true] at h; cases h)
theorem onB_ofT {b : Bool} {X Y : Prop} (h : b = true) (q : X) : onB b X Y := by rw [h]; exact q
theorem onB_ofF {b : Bool} {X Y : Prop} (h : b = false) (q : Y) : onB b X Y := by rw [h]; exact q
/-! ### data: as Dp of the hand layer, no list of the written part -/
def keyP : Key → PyData
  | .inl i => .int i
  | .inr s => .str s
mutual
inductive Dd (K : PySem.W.Frag) (H : Hp) : V → PyData → Prop
  | non : Dd K H .non .none
  | bl (b : Bool) : Dd K H (.bl b) (.bool b)
  | int (i : Int) : Dd K H (.int i) (.int i)
  | str (x : Str) : Dd K H (.str x) (.str x)
  | lst {a : Addr} {us : List V} {es : List PyData} : SqL K H a us → DdAll K H us es → Dd K H (.ref a) (.list es)
  | tup {a : Addr} {us : List V} {es : List PyData} : SqT K H a us → DdAll K H us es → Dd K H (.ref a) (.tuple es)
  | dct {a : Addr} {kv : List (Key × V)} {kvs : List (PyData × PyData)} : H a = some (.dK kv) → DdKv K H kv kvs → Dd K H (.ref a) (.dict kvs)
inductive DdKv (K : PySem.W.Frag) (H : Hp) : List (Key × V) → List (PyData × PyData) → Prop
  | nil : DdKv K H [] []
  | cons {k : Key} {v : V} {d : PyData} {us : List (Key × V)} {es : List (PyData × PyData)} : Dd K H v d → DdKv K H us es → DdKv K H ((k, v) :: us) ((keyP k, d) :: es)
inductive DdAll (K : PySem.W.Frag) (H : Hp) : List V → List PyData → Prop
  | nil : DdAll K H [] []
  | cons {v : V} {us : List V} {d : PyData} {es : List PyData} : Dd K H v d → DdAll K H us es → DdAll K H (v :: us) (d :: es)
end
mutual
theorem Dd.dp {K : PySem.W.Frag} {H : Hp} : ∀ {v : V} (d : PyData), Dd K H v d → d.canLay0 = true → Dp K H v d
  | _, .none, h, _ => by cases h; exact .non
  | _, .bool b, h, _ => by cases h; exact .bl b
  | _, .int b, h, _ => by cases h; exact .int b
  | _, .str b, h, _ => by cases h; exact .str b
  | _, .list ds, h, c => by
    cases h with
    | lst hs ha => exact .lst hs (DdAll.dp ds ha (by simpa [PyData.canLay0] using c))
  | _, .tuple ds, h, c => by
    cases h with
    | tup hs ha => exact .tup hs (DdAll.dp ds ha (by simpa [PyData.canLay0] using c))
  | _, .dict _, _, c => by simp [PyData.canLay0] at c
theorem DdAll.dp {K : PySem.W.Frag} {H : Hp} : ∀ {vs : List V} (ds : List PyData), DdAll K H vs ds → PyData.canLayAll0 ds = true → DpAll K H vs ds
  | _, [], h, _ => by cases h; exact .nil
  | _, d :: ds, h, c => by
    simp only [PyData.canLayAll0, Bool.and_eq_true] at c
    cases h with
    | cons h1 h2 => exact .cons (h1.dp d c.1) (DdAll.dp ds h2 c.2)
end
/-! ### data and heaps -/
section
variable {K : PySem.W.Frag} {H H' : Hp}
theorem seqT (e : Same H H') {a : Addr} {xs : List V} (h : SqT K H a xs) : SqT K H' a xs := by
  rcases h with (h | ⟨o, h⟩) | h
  · exact .inl (.inl (e _ _ h))
  · exact .inl (.inr ⟨o, e _ _ h⟩)
  · exact .inr h
mutual
theorem dp_ex (e : Same H H') : ∀ {v : V} (d : PyData), Dd K H v d → Dd K H' v d
  | _, .none, h => by cases h; exact .non
  | _, .bool b, h => by cases h; exact .bl b
  | _, .int b, h => by cases h; exact .int b
  | _, .str b, h => by cases h; exact .str b
  | _, .list ds, h => by
    cases h with
    | lst hs ha => exact .lst (e.seq hs) (dpa_ex e ds ha)
  | _, .tuple ds, h => by
    cases h with
    | tup hs ha => exact .tup (seqT e hs) (dpa_ex e ds ha)
  | _, .dict _, h => by
    cases h with
    | dct hs ha => exact .dct (e _ _ hs) (dpk_ex e _ ha)
theorem dpk_ex (e : Same H H') : ∀ {vs : List (Key × V)} (ds : List (PyData × PyData)), DdKv K H vs ds → DdKv K H' vs ds
  | _, [], h => by cases h; exact .nil
  | _, (_, d) :: ds, h => by
    cases h with
    | cons h1 h2 => exact .cons (dp_ex e d h1) (dpk_ex e ds h2)
theorem dpa_ex (e : Same H H') : ∀ {vs : List V} (ds : List PyData), DdAll K H vs ds → DdAll K H' vs ds
  | _, [], h => by cases h; exact .nil
  | _, d :: ds, h => by
    cases h with
    | cons h1 h2 => exact .cons (dp_ex e d h1) (dpa_ex e ds h2)
end
theorem dpa_len : ∀ {vs : List V} {ds : List PyData}, DdAll K H vs ds → vs.length = ds.length
  | _, _, .nil => rfl
  | _, _, .cons _ t => congrArg (· + 1) (dpa_len t)
theorem dpa_get : ∀ {vs : List V} {ds : List PyData} {i : Nat} {d : PyData}, DdAll K H vs ds → ds[i]? = some d → ∃ v, vs[i]? = some v ∧ Dd K H v d
  | _, _, _, _, .nil, e => by simp at e
  | _, _, 0, _, .cons h _, e => by simp at e; subst e; exact ⟨_, rfl, h⟩
  | _, _, i + 1, d, .cons _ t, e => by
    obtain ⟨v, h1, h2⟩ := dpa_get (i := i) (d := d) t (by simpa using e)
    exact ⟨v, by simpa using h1, h2⟩
theorem dpa_get2 : ∀ {vs : List V} {ds : List PyData} {i : Nat} {v : V}, DdAll K H vs ds → vs[i]? = some v → ∃ d, ds[i]? = some d ∧ Dd K H v d
  | _, _, _, _, .nil, e => by simp at e
  | _, _, 0, _, .cons h _, e => by simp at e; subst e; exact ⟨_, rfl, h⟩
  | _, _, i + 1, d, .cons _ t, e => by
    obtain ⟨v, h1, h2⟩ := dpa_get2 (i := i) (v := d) t (by simpa using e)
    exact ⟨v, by simpa using h1, h2⟩
theorem dpa_app : ∀ {vs us : List V} {ds es : List PyData}, DdAll K H vs ds → DdAll K H us es → DdAll K H (vs ++ us) (ds ++ es)
  | _, _, _, _, .nil, s => s
  | _, _, _, _, .cons h t, s => .cons h (dpa_app t s)
theorem dpa_one {v : V} {d : PyData} (h : Dd K H v d) : DdAll K H [v] [d] := .cons h .nil
theorem dpa_take : ∀ {vs : List V} {ds : List PyData} (n : Nat), DdAll K H vs ds → DdAll K H (vs.take n) (ds.take n)
  | _, _, 0, _ => .nil
  | _, _, n + 1, .nil => .nil
  | _, _, n + 1, .cons h t => .cons h (dpa_take n t)
theorem dpa_drop : ∀ {vs : List V} {ds : List PyData} (n : Nat), DdAll K H vs ds → DdAll K H (vs.drop n) (ds.drop n)
  | _, _, 0, h => h
  | _, _, n + 1, .nil => .nil
  | _, _, n + 1, .cons _ t => dpa_drop n t
theorem dpa_set : ∀ {vs : List V} {ds : List PyData} {v : V} {d : PyData} (n : Nat), Dd K H v d → DdAll K H vs ds → DdAll K H (vs.set n v) (ds.set n d)
  | _, _, _, _, _, _, .nil => .nil
  | _, _, _, _, 0, h, .cons _ t => .cons h t
  | _, _, _, _, n + 1, h, .cons a t => .cons a (dpa_set n h t)
theorem dpa_erase : ∀ {vs : List V} {ds : List PyData} (n : Nat), DdAll K H vs ds → DdAll K H (vs.eraseIdx n) (ds.eraseIdx n)
  | _, _, _, .nil => .nil
  | _, _, 0, .cons _ t => t
  | _, _, n + 1, .cons a t => .cons a (dpa_erase n t)
theorem dpa_ints : ∀ {vs : List V} (ns : List Int), DdAll K H vs (ns.map .int) → vs = ns.map V.int
  | _, [], h => by cases h; rfl
  | _, n :: ns, h => by
    cases h with
    | cons h1 h2 =>
      cases h1
      rw [dpa_ints ns h2]
      rfl
theorem dpa_ofInts : ∀ (ns : List Int), DdAll K H (ns.map V.int) (ns.map .int)
  | [] => .nil
  | n :: ns => .cons (.int n) (dpa_ofInts ns)
theorem dpa_strs : ∀ {vs : List V} (ns : List Str), DdAll K H vs (ns.map .str) → vs = ns.map V.str
  | _, [], h => by cases h; rfl
  | _, n :: ns, h => by
    cases h with
    | cons h1 h2 =>
      cases h1
      rw [dpa_strs ns h2]
      rfl
theorem dpa_ofStrs : ∀ (ns : List Str), DdAll K H (ns.map V.str) (ns.map .str)
  | [] => .nil
  | n :: ns => .cons (.str n) (dpa_ofStrs ns)
end
theorem same_new {H : Hp} {p : Addr} (h : H p = none) (o : HO) : Same H (upd H p o) := fun b u q => by rw [upd_ne (ne_of_none q h)]; exact q
theorem same_mut {G H : Hp} {p : Addr} (e : Same G H) (h : G p = none) (o : HO) : Same G (upd H p o) := fun b u q => by rw [upd_ne (ne_of_none q h)]; exact e b u q
theorem same_two {G H : Hp} {p : Addr} (e : Same G H) (h : H p = none) (o : HO) : Same (upd G p o) (upd H p o) := fun b u q => by
  by_cases hb : b = p
  · subst hb
    rw [upd_same] at q ⊢
    exact q
  · rw [upd_ne hb] at q ⊢
    exact e b u q
theorem same_frz {G H : Hp} {p : Addr} {o : HO} (e : Same G H) (h : H p = some o) : Same (upd G p o) H := fun b u q => by
  by_cases hb : b = p
  · subst hb
    rw [upd_same] at q
    rw [h]
    exact q
  · rw [upd_ne hb] at q
    exact e b u q

def KvOk (K : PySem.W.Frag) (G : Hp) (a : List (Key × V)) (b : List (Key × PyData)) : Prop := Paired (fun (p : Key × V) (q : Key × PyData) => p.1 = q.1 ∧ Dd K G p.2 q.2) a b

mutual
def adr : NT → List Addr
  | .fz _ => []
  | .node a _ ts => a :: adrs ts
def adrs : List NT → List Addr
  | [] => []
  | t :: ts => adr t ++ adrs ts
end
def Hd.ob : Hd → List V → HO
  | .lst, vs => .lst vs
  | .dct ks, vs => .dK (ks.zip vs)
  | .ins C dx ns, vs => .ins C dx (ns.zip vs)
def Hd.fit : Hd → Nat → Prop
  | .lst, _ => True
  | .dct ks, n => ks.length = n
  | .ins _ _ ns, n => ns.length = n
mutual
def TOk (K : PySem.W.Frag) (G H : Hp) : NT → V → Prop
  | .fz x, v => Dd K G v x
  | .node a h ts, v => v = .ref a ∧ G a = none ∧ h.fit ts.length ∧ ∃ vs, H a = some (h.ob vs) ∧ TOks K G H ts vs
def TOks (K : PySem.W.Frag) (G H : Hp) : List NT → List V → Prop
  | [], vs => vs = []
  | t :: ts, vs => ∃ v us, vs = v :: us ∧ TOk K G H t v ∧ TOks K G H ts us
end
mutual
theorem TOk.grow {K : PySem.W.Frag} {G H G' H' : Hp} (e : Same G G') : ∀ (t : NT) {v : V}, TOk K G H t v → (∀ a ∈ adr t, G a = none → ∀ u, H a = some u → G' a = none ∧ H' a = some u) → TOk K G' H' t v
  | .fz x, v, h, _ => dp_ex e x (show Dd K G v x by simpa [TOk] using h) |> fun q => by simpa [TOk] using q
  | .node a hd ts, v, h, k => by
    rw [TOk] at h ⊢
    obtain ⟨h1, h2, h3, vs, h4, h5⟩ := h
    obtain ⟨k1, k2⟩ := k a (by rw [adr]; exact List.mem_cons_self) h2 _ h4
    exact ⟨h1, k1, h3, vs, k2, TOks.grow e ts h5 fun b hb => k b (by rw [adr]; exact List.mem_cons_of_mem _ hb)⟩
theorem TOks.grow {K : PySem.W.Frag} {G H G' H' : Hp} (e : Same G G') : ∀ (ts : List NT) {vs : List V}, TOks K G H ts vs → (∀ a ∈ adrs ts, G a = none → ∀ u, H a = some u → G' a = none ∧ H' a = some u) → TOks K G' H' ts vs
  | [], vs, h, _ => by rw [TOks] at h ⊢; exact h
  | t :: ts, vs, h, k => by
    rw [TOks] at h ⊢
    obtain ⟨v, us, h1, h2, h3⟩ := h
    exact ⟨v, us, h1, TOk.grow e t h2 fun b hb => k b (by rw [adrs]; exact List.mem_append_left _ hb), TOks.grow e ts h3 fun b hb => k b (by rw [adrs]; exact List.mem_append_right _ hb)⟩
end
mutual
theorem TOk.has {K : PySem.W.Frag} {G H : Hp} : ∀ (t : NT) {v : V}, TOk K G H t v → ∀ a ∈ adr t, G a = none ∧ ∃ u, H a = some u
  | .fz x, v, h => fun a ha => by rw [adr] at ha; cases ha
  | .node b hd ts, v, h => fun a ha => by
    rw [TOk] at h
    obtain ⟨h1, h2, h3, vs, h4, h5⟩ := h
    rw [adr] at ha
    rcases List.mem_cons.mp ha with e | ha
    · rw [e]; exact ⟨h2, _, h4⟩
    · exact TOks.has ts h5 a ha
theorem TOks.has {K : PySem.W.Frag} {G H : Hp} : ∀ (ts : List NT) {vs : List V}, TOks K G H ts vs → ∀ a ∈ adrs ts, G a = none ∧ ∃ u, H a = some u
  | [], vs, h => fun a ha => by rw [adrs] at ha; cases ha
  | t :: ts, vs, h => fun a ha => by
    rw [TOks] at h
    obtain ⟨v, us, h1, h2, h3⟩ := h
    rw [adrs] at ha
    rcases List.mem_append.mp ha with ha | ha
    · exact TOk.has t h2 a ha
    · exact TOks.has ts h3 a ha
end
/-- an exception of the class that the module calls nm -/
def ExOk (K : PySem.W.Frag) (G : Hp) (nm : Str) (v : V) : Prop := ∃ a C, v = .ref a ∧ PySem.W.nsIn K mainGlobals nm = some (some (.ref C)) ∧ G a = some (ExC (.ref C) a)
theorem ExOk.ex {K : PySem.W.Frag} {G G' : Hp} {nm : Str} {v : V} (e : Same G G') (h : ExOk K G nm v) : ExOk K G' nm v := by
  obtain ⟨a, C, h1, h2, h3⟩ := h
  exact ⟨a, C, h1, h2, e _ _ h3⟩
structure Ct where
  H0 : Hp
  ow0 : Ow
  par : Nat → Option Addr
def SlOk (K : PySem.W.Frag) (c : Ct) (G H : Hp) (ow : Ow) (i : Nat) : Sl → Option V → Prop
  | .un, _ => True
  | .d x, o => ∃ v, o = some v ∧ Dd K G v x
  | .lst fr xs, o => ∃ p vs, o = some (.ref p) ∧ ow p = some i ∧ G p = none ∧ H p = some (.lst vs) ∧ DdAll K G vs xs ∧ (fr = true → c.H0 p = none) ∧ (fr = false → c.par i = some p)
  | .dct fr kvs, o => ∃ p kv, o = some (.ref p) ∧ ow p = some i ∧ G p = none ∧ H p = some (.dK kv) ∧ KvOk K G kv kvs ∧ (fr = true → c.H0 p = none) ∧ (fr = false → c.par i = some p)
  | .v x, o => o = some x
  | .nt fr t, o => ∃ v, o = some v ∧ TOk K G H t v ∧ (adr t).Nodup ∧ (∀ a ∈ adr t, ow a = some i) ∧ (fr = true → ∀ a ∈ adr t, c.H0 a = none) ∧ (fr = false → (∃ p, v = .ref p ∧ c.par i = some p) ∧ ∀ a ∈ adr t, c.H0 a = none ∨ c.ow0 a = some i)
  | .al _ _ a, o => o = some (.ref a)
  | .ex nm, o => ∃ v, o = some v ∧ ExOk K G nm v
structure Rep (K : PySem.W.Frag) (c : Ct) (G H : Hp) (ow : Ow) (σ : L2.St) (ε : Ep) : Prop where
  ex : Same G H
  dom : ∀ a, H a = none → c.H0 a = none
  len : σ.length = ε.length
  sl : ∀ i o, σ[i]? = some o → SlOk K c G H ow i (look ε i) o
structure Fr (G H : Hp) (ow : Ow) (G' H' : Hp) (ow' : Ow) : Prop where
  ex : Same G G'
  st : ∀ a o, H a = some o → ow a = none → H' a = some o ∧ ow' a = none ∧ (G a = none → G' a = none)
  dom : ∀ a, H' a = none → H a = none
theorem Fr.refl (G H : Hp) (ow : Ow) : Fr G H ow G H ow := ⟨Same.refl G, fun _ _ h1 h2 => ⟨h1, h2, fun h => h⟩, fun _ h => h⟩
theorem Fr.trans {G H ow G1 H1 ow1 G2 H2 ow2} (a : Fr G H ow G1 H1 ow1) (b : Fr G1 H1 ow1 G2 H2 ow2) : Fr G H ow G2 H2 ow2 where
  ex := a.ex.trans b.ex
  st := fun x o h1 h2 => by
    obtain ⟨q1, q2, q3⟩ := a.st x o h1 h2
    obtain ⟨r1, r2, r3⟩ := b.st x o q1 q2
    exact ⟨r1, r2, fun h => r3 (q3 h)⟩
  dom := fun x h => a.dom x (b.dom x h)
def VOk (K : PySem.W.Frag) (Hs G H : Hp) (ow : Ow) (σ : L2.St) : Vl → V → Prop
  | .d x, v => Dd K G v x
  | .new xs, v => ∃ p vs, v = .ref p ∧ Hs p = none ∧ ow p = none ∧ G p = none ∧ H p = some (.lst vs) ∧ DdAll K G vs xs
  | .dk kvs, v => ∃ p kv, v = .ref p ∧ Hs p = none ∧ ow p = none ∧ G p = none ∧ H p = some (.dK kv) ∧ KvOk K G kv kvs
  | .bor i, v => σ[i]? = some (some v)
  | .v x, v => v = x
  | .nt t, v => TOk K G H t v ∧ (adr t).Nodup ∧ ∀ a ∈ adr t, Hs a = none ∧ ow a = none
  | .bp _ _ a, v => v = .ref a
  | .ex nm, v => ExOk K G nm v
def VsOk (K : PySem.W.Frag) (Hs G H : Hp) (ow : Ow) (σ : L2.St) : List Vl → List V → Prop
  | [], vs => vs = []
  | r :: rs, vs => ∃ v us, vs = v :: us ∧ VOk K Hs G H ow σ r v ∧ VsOk K Hs G H ow σ rs us
section
variable {K : PySem.W.Frag} {c : Ct} {Hs G H G' H' : Hp} {ow ow' : Ow} {σ : L2.St} {ε ε' : Ep}
theorem VOk.fr {r : Vl} {v : V} (h : VOk K Hs G H ow σ r v) (F : Fr G H ow G' H' ow') : VOk K Hs G' H' ow' σ r v := by
  cases r with
  | d x => exact dp_ex F.ex x h
  | new xs =>
    obtain ⟨p, vs, e, h1, h2, h3, h4, h5⟩ := h
    obtain ⟨q1, q2, q3⟩ := F.st p _ h4 h2
    exact ⟨p, vs, e, h1, q2, q3 h3, q1, dpa_ex F.ex xs h5⟩
  | dk kvs =>
    obtain ⟨p, kv, e, h1, h2, h3, h4, h5⟩ := h
    obtain ⟨q1, q2, q3⟩ := F.st p _ h4 h2
    exact ⟨p, kv, e, h1, q2, q3 h3, q1, Paired.mapP h5 fun a b z => ⟨z.1, dp_ex F.ex _ z.2⟩⟩
  | bor i => exact h
  | v x => exact h
  | bp i p a => exact h
  | ex nm => exact ExOk.ex F.ex h
  | nt t =>
    obtain ⟨h1, h2, h3⟩ := h
    have hh := TOk.has t h1
    refine ⟨h1.grow F.ex t fun a ha z u hu => ?_, h2, fun a ha => ⟨(h3 a ha).1, ?_⟩⟩
    · obtain ⟨q1, q2, q3⟩ := F.st a u hu (h3 a ha).2
      exact ⟨q3 z, q1⟩
    · obtain ⟨u, hu⟩ := (hh a ha).2
      exact (F.st a u hu (h3 a ha).2).2.1
theorem VOk.since {Hr : Hp} {r : Vl} {v : V} (h : VOk K Hs G H ow σ r v) (d : ∀ a, Hs a = none → Hr a = none) : VOk K Hr G H ow σ r v := by
  cases r with
  | d x => exact h
  | new xs =>
    obtain ⟨p, vs, e, h1, h2⟩ := h
    exact ⟨p, vs, e, d p h1, h2⟩
  | dk kvs =>
    obtain ⟨p, kv, e, h1, h2⟩ := h
    exact ⟨p, kv, e, d p h1, h2⟩
  | bor i => exact h
  | v x => exact h
  | bp i p a => exact h
  | ex nm => exact h
  | nt t => exact ⟨h.1, h.2.1, fun a ha => ⟨d a (h.2.2 a ha).1, (h.2.2 a ha).2⟩⟩
theorem VsOk.fr : ∀ {rs : List Vl} {vs : List V}, VsOk K Hs G H ow σ rs vs → Fr G H ow G' H' ow' → VsOk K Hs G' H' ow' σ rs vs
  | [], _, h, _ => h
  | _ :: _, _, ⟨v, us, e, h1, h2⟩, F => ⟨v, us, e, h1.fr F, h2.fr F⟩
theorem VsOk.since {Hr : Hp} : ∀ {rs : List Vl} {vs : List V}, VsOk K Hs G H ow σ rs vs → (∀ a, Hs a = none → Hr a = none) → VsOk K Hr G H ow σ rs vs
  | [], _, h, _ => h
  | _ :: _, _, ⟨v, us, e, h1, h2⟩, F => ⟨v, us, e, h1.since F, h2.since F⟩

/-- what may be read: data that stands for good, or a list as it is now -/
def Pk (K : PySem.W.Frag) (G H : Hp) (v : V) (x : PyData) : Prop := Dd K G v x ∨ ∃ p vs xs, v = .ref p ∧ x = .list xs ∧ H p = some (.lst vs) ∧ DdAll K G vs xs
theorem Pk.dp {v : V} {x : PyData} (e : Same G H) (h : Pk K G H v x) : Dd K H v x := by
  rcases h with h | ⟨p, vs, xs, rfl, rfl, h1, h2⟩
  · exact dp_ex e x h
  · exact .lst (.inl (.inl h1)) (dpa_ex e xs h2)
theorem Pk.list {v : V} {xs : List PyData} (e : Same G H) (h : Pk K G H v (.list xs)) : ∃ p vs, v = .ref p ∧ SqL K H p vs ∧ DdAll K G vs xs := by
  rcases h with h | ⟨p, vs, ys, rfl, e1, h1, h2⟩
  · cases h with
    | lst hs ha => exact ⟨_, _, rfl, e.seq hs, ha⟩
  · cases e1
    exact ⟨p, vs, rfl, .inl (.inl h1), h2⟩
theorem Pk.tuple {v : V} {xs : List PyData} (e : Same G H) (h : Pk K G H v (.tuple xs)) : ∃ p vs, v = .ref p ∧ SqT K H p vs ∧ DdAll K G vs xs := by
  rcases h with h | ⟨p, vs, ys, rfl, e1, h1, h2⟩
  · cases h with
    | tup hs ha => exact ⟨_, _, rfl, seqT e hs, ha⟩
  · cases e1
theorem Pk.int {v : V} {i : Int} (h : Pk K G H v (.int i)) : v = .int i := by
  rcases h with h | ⟨p, vs, ys, _, e1, _⟩
  · cases h; rfl
  · cases e1
theorem Pk.bl {v : V} {i : Bool} (h : Pk K G H v (.bool i)) : v = .bl i := by
  rcases h with h | ⟨p, vs, ys, _, e1, _⟩
  · cases h; rfl
  · cases e1
theorem Pk.str {v : V} {i : Str} (h : Pk K G H v (.str i)) : v = .str i := by
  rcases h with h | ⟨p, vs, ys, _, e1, _⟩
  · cases h; rfl
  · cases e1
/-! ### places -/
def getN : NT → List Nat → Option NT
  | t, [] => some t
  | .node _ _ ts, i :: p => match ts[i]? with
    | some t => getN t p
    | none => none
  | .fz _, _ :: _ => none
section
variable {K : PySem.W.Frag} {G H : Hp}
theorem toks_get : ∀ {ts : List NT} {vs : List V} {i : Nat} {t : NT}, TOks K G H ts vs → ts[i]? = some t → ∃ v, vs[i]? = some v ∧ TOk K G H t v
  | [], _, _, _, _, e => by simp at e
  | s :: ts, vs, 0, t, h, e => by
    rw [TOks] at h
    obtain ⟨v, us, rfl, h1, _⟩ := h
    simp at e
    subst e
    exact ⟨v, rfl, h1⟩
  | s :: ts, vs, i + 1, t, h, e => by
    rw [TOks] at h
    obtain ⟨v, us, rfl, _, h2⟩ := h
    obtain ⟨w, e1, e2⟩ := toks_get (i := i) h2 (by simpa using e)
    exact ⟨w, by simpa using e1, e2⟩
theorem tok_get {s : NT} : ∀ (p : List Nat) (t : NT) {v : V}, TOk K G H t v → getN t p = some s → ∃ u, TOk K G H s u
  | [], t, v, h, e => by
    simp [getN] at e
    subst e
    exact ⟨v, h⟩
  | i :: p, .fz x, v, h, e => by simp [getN] at e
  | i :: p, .node b hd ts, v, h, e => by
    simp only [getN] at e
    split at e
    · rename_i t0 e0
      rw [TOk] at h
      obtain ⟨_, _, _, vs, _, h5⟩ := h
      obtain ⟨u, _, hu⟩ := toks_get h5 e0
      exact tok_get p t0 hu e
    · cases e
end
def fzAll : List NT → Option (List PyData)
  | [] => some []
  | .fz x :: ts => match fzAll ts with
    | some xs => some (x :: xs)
    | none => none
  | .node _ _ _ :: _ => none
theorem fzAll_ok {K : PySem.W.Frag} {G H : Hp} : ∀ {ts : List NT} {xs : List PyData} {vs : List V}, fzAll ts = some xs → TOks K G H ts vs → DdAll K G vs xs
  | [], xs, vs, e, h => by
    cases e
    rw [TOks] at h
    subst h
    exact .nil
  | .fz x :: ts, xs, vs, e, h => by
    rw [TOks] at h
    obtain ⟨v, us, rfl, h1, h2⟩ := h
    rw [TOk] at h1
    simp only [fzAll] at e
    split at e
    · rename_i ys e1
      cases e
      exact .cons h1 (fzAll_ok e1 h2)
    · cases e
  | .node _ _ _ :: _, _, _, e, _ => by cases e
def flatN : NT → Addr → Option PyData
  | .node b .lst ts, a => if a = b then (match fzAll ts with
    | some xs => some (.list xs)
    | none => none) else none
  | _, _ => none
def peekN : Sl → List Nat → Addr → Option PyData
  | .nt _ t, p, a => match getN t p with
    | some s => flatN s a
    | none => none
  | _, _, _ => none
def peek (ε : Ep) : Vl → Option PyData
  | .d x => some x
  | .new xs => some (.list xs)
  | .bor i => match look ε i with
    | .d x => some x
    | .lst _ xs => some (.list xs)
    | _ => none
  | .bp i p a => peekN (look ε i) p a
  | _ => none
theorem Rep.at {i : Nat} {o : Option V} (R : Rep K c G H ow σ ε) (h : σ[i]? = some o) : SlOk K c G H ow i (look ε i) o := R.sl i o h
theorem Rep.some_at {i : Nat} (R : Rep K c G H ow σ ε) (h : look ε i ≠ .un) : ∃ o, σ[i]? = some o := by
  have h1 := look_lt h
  rw [← R.len] at h1
  exact ⟨σ[i], List.getElem?_eq_getElem h1⟩
theorem peek_ok {r : Vl} {v : V} {x : PyData} (R : Rep K c G H ow σ ε) (h : VOk K Hs G H ow σ r v) (e : peek ε r = some x) : Pk K G H v x := by
  cases r with
  | d y => cases e; exact .inl h
  | new xs =>
    cases e
    obtain ⟨p, vs, e, h1, h2, h3, h4, h5⟩ := h
    exact .inr ⟨p, vs, xs, e, rfl, h4, h5⟩
  | dk _ => cases e
  | v y => cases e
  | nt _ => cases e
  | bp i p a =>
    have hv : v = .ref a := h
    subst hv
    cases hl : look ε i with
    | nt fr t =>
      obtain ⟨o, ho⟩ := R.some_at (i := i) (by rw [hl]; exact fun z => nomatch z)
      have q := R.at ho
      rw [hl] at q
      obtain ⟨u, e1, q, _⟩ := q
      simp only [peek, hl, peekN] at e
      split at e
      · rename_i s es
        obtain ⟨w, hw⟩ := tok_get p t q es
        cases s with
        | fz _ => cases e
        | node b hd ts =>
          cases hd with
          | dct _ => cases e
          | ins _ _ _ => cases e
          | lst =>
            simp only [flatN] at e
            split at e
            · rename_i hab
              subst hab
              split at e
              · rename_i xs ex
                cases e
                rw [TOk] at hw
                obtain ⟨_, _, _, vs, h4, h5⟩ := hw
                exact .inr ⟨a, vs, xs, rfl, rfl, h4, fzAll_ok ex h5⟩
              · cases e
            · cases e
      · cases e
    | un => simp [peek, peekN, hl] at e
    | d _ => simp [peek, peekN, hl] at e
    | lst _ _ => simp [peek, peekN, hl] at e
    | dct _ _ => simp [peek, peekN, hl] at e
    | v _ => simp [peek, peekN, hl] at e
    | al _ _ _ => simp [peek, peekN, hl] at e
    | ex _ => simp [peek, peekN, hl] at e
  | ex _ => cases e
  | bor i =>
    have h : σ[i]? = some (some v) := h
    have q := R.at h
    cases hl : look ε i with
    | un => simp [peek, hl] at e
    | dct _ _ => simp [peek, hl] at e
    | v _ => simp [peek, hl] at e
    | nt _ _ => simp [peek, hl] at e
    | al _ _ _ => simp [peek, hl] at e
    | ex _ => simp [peek, hl] at e
    | d y =>
      simp only [peek, hl, Option.some.injEq] at e
      rw [hl] at q
      subst e
      obtain ⟨u, e1, e2⟩ := q
      cases e1
      exact .inl e2
    | lst fr xs =>
      simp only [peek, hl, Option.some.injEq] at e
      rw [hl] at q
      subst e
      obtain ⟨p, vs, e1, _, _, e4, e5, _⟩ := q
      cases e1
      exact .inr ⟨p, vs, xs, rfl, rfl, e4, e5⟩
def peekAll (ε : Ep) : List Vl → Option (List PyData)
  | [] => some []
  | r :: rs => match peek ε r, peekAll ε rs with
    | some x, some xs => some (x :: xs)
    | _, _ => none
inductive PkAll (K : PySem.W.Frag) (G H : Hp) : List V → List PyData → Prop
  | nil : PkAll K G H [] []
  | cons {v vs x xs} : Pk K G H v x → PkAll K G H vs xs → PkAll K G H (v :: vs) (x :: xs)
theorem peekAll_ok (R : Rep K c G H ow σ ε) : ∀ {rs : List Vl} {vs : List V} {xs : List PyData}, VsOk K Hs G H ow σ rs vs → peekAll ε rs = some xs → PkAll K G H vs xs
  | [], _, _, h, e => by cases h; cases e; exact .nil
  | r :: rs, _, xs, ⟨v, us, e1, h1, h2⟩, e => by
    subst e1
    cases q1 : peek ε r with
    | none => simp [peekAll, q1] at e
    | some x =>
      cases q2 : peekAll ε rs with
      | none => simp [peekAll, q1, q2] at e
      | some ys =>
        simp only [peekAll, q1, q2, Option.some.injEq] at e
        subst e
        exact .cons (peek_ok R h1 q1) (peekAll_ok R h2 q2)

/-! ### the heap grows, is frozen, is changed -/
def owc (ow : Ow) (p : Addr) (x : Option Nat) : Ow := fun a => if a = p then x else ow a
open Classical in
def owcs (ow : Ow) (as : List Addr) (x : Option Nat) : Ow := fun a => if a ∈ as then x else ow a
theorem owcs_in {as : List Addr} {x : Option Nat} {a : Addr} (h : a ∈ as) : owcs ow as x a = x := by unfold owcs; rw [if_pos h]
theorem owcs_out {as : List Addr} {x : Option Nat} {a : Addr} (h : a ∉ as) : owcs ow as x a = ow a := by unfold owcs; rw [if_neg h]
theorem owc_self {p : Addr} {x : Option Nat} : owc ow p x p = x := by unfold owc; rw [if_pos rfl]
theorem owc_ne {p q : Addr} {x : Option Nat} (h : q ≠ p) : owc ow p x q = ow q := by unfold owc; rw [if_neg h]
theorem SlOk.grow {i : Nat} {s : Sl} {o : Option V} (h : SlOk K c G H ow i s o) (e1 : Same G G') (k : ∀ p u, ow p = some i → G p = none → H p = some u → ow' p = some i ∧ G' p = none ∧ H' p = some u) : SlOk K c G' H' ow' i s o := by
  cases s with
  | un => trivial
  | d x =>
    obtain ⟨v, e, h⟩ := h
    exact ⟨v, e, dp_ex e1 x h⟩
  | lst fr xs =>
    obtain ⟨p, vs, e, h1, h2, h3, h4, h5⟩ := h
    obtain ⟨q1, q2, q3⟩ := k p _ h1 h2 h3
    exact ⟨p, vs, e, q1, q2, q3, dpa_ex e1 xs h4, h5⟩
  | dct fr kvs =>
    obtain ⟨p, kv, e, h1, h2, h3, h4, h5⟩ := h
    obtain ⟨q1, q2, q3⟩ := k p _ h1 h2 h3
    exact ⟨p, kv, e, q1, q2, q3, Paired.mapP h4 fun a b z => ⟨z.1, dp_ex e1 _ z.2⟩, h5⟩
  | v x => exact h
  | al j p a => exact h
  | ex nm =>
    obtain ⟨v, e, h⟩ := h
    exact ⟨v, e, h.ex e1⟩
  | nt fr t =>
    obtain ⟨v, e, h1, h2, h3, h4⟩ := h
    refine ⟨v, e, h1.grow e1 t fun a ha z u hu => (k a u (h3 a ha) z hu).2, h2, fun a ha => ?_, h4⟩
    obtain ⟨z, u, hu⟩ := TOk.has t h1 a ha
    exact (k a u (h3 a ha) z hu).1
/-- a new object, not frozen -/
theorem grow_new {p : Addr} {o : HO} (R : Rep K c G H ow σ ε) (hp : H p = none) : Fr G H ow G (upd H p o) (owc ow p none) ∧ Rep K c G (upd H p o) (owc ow p none) σ ε ∧ owc ow p none p = none ∧ G p = none := by
  have hg : G p = none := Same.free R.ex hp
  refine ⟨⟨Same.refl G, fun a u h1 h2 => ?_, fun a h => ?_⟩, ⟨same_mut R.ex hg o, fun a h => ?_, R.len, fun i s h => ?_⟩, owc_self, hg⟩
  · have hne : a ≠ p := ne_of_none h1 hp
    rw [upd_ne hne, owc_ne hne]
    exact ⟨h1, h2, fun z => z⟩
  · by_cases ha : a = p
    · subst ha
      rw [upd_same] at h
      cases h
    · rw [upd_ne ha] at h
      exact h
  · by_cases ha : a = p
    · subst ha
      rw [upd_same] at h
      cases h
    · rw [upd_ne ha] at h
      exact R.dom a h
  · refine (R.sl i s h).grow (Same.refl G) fun q u z1 z2 z3 => ?_
    have hne : q ≠ p := ne_of_none z3 hp
    rw [upd_ne hne, owc_ne hne]
    exact ⟨z1, z2, z3⟩
/-- a new object, frozen at once -/
theorem grow_frz {p : Addr} {o : HO} (R : Rep K c G H ow σ ε) (hp : H p = none) : Fr G H ow (upd G p o) (upd H p o) ow ∧ Rep K c (upd G p o) (upd H p o) ow σ ε := by
  have hg : G p = none := Same.free R.ex hp
  refine ⟨⟨same_new hg o, fun a u h1 h2 => ?_, fun a h => ?_⟩, ⟨same_two R.ex hp o, fun a h => ?_, R.len, fun i s h => ?_⟩⟩
  · have hne : a ≠ p := ne_of_none h1 hp
    rw [upd_ne hne, upd_ne hne]
    exact ⟨h1, h2, fun z => z⟩
  · by_cases ha : a = p
    · subst ha
      rw [upd_same] at h
      cases h
    · rw [upd_ne ha] at h
      exact h
  · by_cases ha : a = p
    · subst ha
      rw [upd_same] at h
      cases h
    · rw [upd_ne ha] at h
      exact R.dom a h
  · refine (R.sl i s h).grow (same_new hg o) fun q u z1 z2 z3 => ?_
    have hne : q ≠ p := ne_of_none z3 hp
    rw [upd_ne hne, upd_ne hne]
    exact ⟨z1, z2, z3⟩
/-- freezing -/
def frz (ε : Ep) : Vl → Option (PyData × Ep)
  | .d x => some (x, ε)
  | .dk kvs => some (.dict (kvs.map fun q => (keyP q.1, q.2)), ε)
  | .new xs => some (.list xs, ε)
  | .bor i => match look ε i with
    | .d x => some (x, ε)
    | .lst _ xs => some (.list xs, put ε i (.d (.list xs)))
    | .dct _ kvs => some (.dict (kvs.map fun q => (keyP q.1, q.2)), put ε i (.d (.dict (kvs.map fun q => (keyP q.1, q.2)))))
    | _ => none
  | _ => none
theorem kv_dd {K : PySem.W.Frag} {G : Hp} : ∀ {a : List (Key × V)} {b : List (Key × PyData)}, KvOk K G a b → DdKv K G a (b.map fun q => (keyP q.1, q.2))
  | _, _, .nil => .nil
  | (k, v) :: _, (k', d) :: _, .cons h t => by
    obtain ⟨h1, h2⟩ := h
    have h1 : k = k' := h1
    subst h1
    exact .cons h2 (kv_dd t)
theorem frz_ok {Gs : Hp} {ows : Ow} {r : Vl} {v : V} {x : PyData} (F : Fr Gs Hs ows G H ow) (R : Rep K c G H ow σ ε) (h : VOk K Hs G H ow σ r v) (e : frz ε r = some (x, ε')) : ∃ G', Fr Gs Hs ows G' H ow ∧ Same G G' ∧ Rep K c G' H ow σ ε' ∧ Dd K G' v x := by
  cases r with
  | d y => cases e; exact ⟨G, F, Same.refl G, R, h⟩
  | v y => cases e
  | nt _ => cases e
  | bp _ _ _ => cases e
  | ex _ => cases e
  | dk kvs =>
    cases e
    obtain ⟨p, kv, rfl, h1, h2, h3, h4, h5⟩ := h
    have sg : Same G (upd G p (.dK kv)) := same_new h3 _
    refine ⟨upd G p (.dK kv), ⟨F.ex.trans sg, fun a u z1 z2 => ?_, F.dom⟩, sg, ⟨same_frz R.ex h4, R.dom, R.len, fun i s z => ?_⟩, .dct upd_same (dpk_ex sg _ (kv_dd h5))⟩
    · obtain ⟨q1, q2, q3⟩ := F.st a u z1 z2
      refine ⟨q1, q2, fun z => ?_⟩
      rw [upd_ne (ne_of_none z1 h1)]
      exact q3 z
    · refine (R.sl i s z).grow sg fun q u z1 z2 z3 => ⟨z1, ?_, z3⟩
      have hne : q ≠ p := fun e => by
        rw [e, h2] at z1
        cases z1
      rw [upd_ne hne]
      exact z2
  | new xs =>
    cases e
    obtain ⟨p, vs, rfl, h1, h2, h3, h4, h5⟩ := h
    have sg : Same G (upd G p (.lst vs)) := same_new h3 _
    refine ⟨upd G p (.lst vs), ⟨F.ex.trans sg, fun a u z1 z2 => ?_, F.dom⟩, sg, ⟨same_frz R.ex h4, R.dom, R.len, fun i s z => ?_⟩, .lst (.inl (.inl upd_same)) (dpa_ex sg xs h5)⟩
    · obtain ⟨q1, q2, q3⟩ := F.st a u z1 z2
      refine ⟨q1, q2, fun z => ?_⟩
      rw [upd_ne (ne_of_none z1 h1)]
      exact q3 z
    · refine (R.sl i s z).grow sg fun q u z1 z2 z3 => ⟨z1, ?_, z3⟩
      have hne : q ≠ p := fun e => by
        rw [e, h2] at z1
        cases z1
      rw [upd_ne hne]
      exact z2
  | bor i =>
    have h : σ[i]? = some (some v) := h
    have q := R.at h
    cases hl : look ε i with
    | un => simp [frz, hl] at e
    | dct fr kvs =>
      simp only [frz, hl, Option.some.injEq, Prod.mk.injEq] at e
      rw [hl] at q
      obtain ⟨rfl, rfl⟩ := e
      obtain ⟨p, kv, e1, h2, h3, h4, h5, _⟩ := q
      cases e1
      have sg : Same G (upd G p (.dK kv)) := same_new h3 _
      have dd : Dd K (upd G p (.dK kv)) (.ref p) (.dict (kvs.map fun q => (keyP q.1, q.2))) := .dct upd_same (dpk_ex sg _ (kv_dd h5))
      have hi : i < ε.length := look_lt (by rw [hl]; exact fun z => nomatch z)
      refine ⟨upd G p (.dK kv), ⟨F.ex.trans sg, fun a u z1 z2 => ?_, F.dom⟩, sg, ⟨same_frz R.ex h4, R.dom, by rw [put_length]; exact R.len, fun j s z => ?_⟩, dd⟩
      · obtain ⟨q1, q2, q3⟩ := F.st a u z1 z2
        refine ⟨q1, q2, fun z => ?_⟩
        rw [upd_ne (fun e => by rw [e, h2] at q2; cases q2)]
        exact q3 z
      · by_cases hj : j = i
        · subst hj
          rw [look_put_self hi]
          rw [h] at z
          cases z
          exact ⟨_, rfl, dd⟩
        · rw [look_put_ne hj]
          refine (R.sl j s z).grow sg fun q u z1 z2 z3 => ⟨z1, ?_, z3⟩
          have hne : q ≠ p := fun e => by
            rw [e, h2] at z1
            exact hj (Option.some.inj z1).symm
          rw [upd_ne hne]
          exact z2
    | v _ => simp [frz, hl] at e
    | nt _ _ => simp [frz, hl] at e
    | al _ _ _ => simp [frz, hl] at e
    | ex _ => simp [frz, hl] at e
    | d y =>
      simp only [frz, hl, Option.some.injEq, Prod.mk.injEq] at e
      rw [hl] at q
      obtain ⟨rfl, rfl⟩ := e
      obtain ⟨u, e1, e2⟩ := q
      cases e1
      exact ⟨G, F, Same.refl G, R, e2⟩
    | lst fr xs =>
      simp only [frz, hl, Option.some.injEq, Prod.mk.injEq] at e
      rw [hl] at q
      obtain ⟨rfl, rfl⟩ := e
      obtain ⟨p, vs, e1, h2, h3, h4, h5, _⟩ := q
      cases e1
      have sg : Same G (upd G p (.lst vs)) := same_new h3 _
      have dd : Dd K (upd G p (.lst vs)) (.ref p) (.list xs) := .lst (.inl (.inl upd_same)) (dpa_ex sg xs h5)
      have hi : i < ε.length := look_lt (by rw [hl]; exact fun z => nomatch z)
      refine ⟨upd G p (.lst vs), ⟨F.ex.trans sg, fun a u z1 z2 => ?_, F.dom⟩, sg, ⟨same_frz R.ex h4, R.dom, by rw [put_length]; exact R.len, fun j s z => ?_⟩, dd⟩
      · obtain ⟨q1, q2, q3⟩ := F.st a u z1 z2
        refine ⟨q1, q2, fun z => ?_⟩
        rw [upd_ne (fun e => by rw [e, h2] at q2; cases q2)]
        exact q3 z
      · by_cases hj : j = i
        · subst hj
          rw [look_put_self hi]
          rw [h] at z
          cases z
          exact ⟨_, rfl, dd⟩
        · rw [look_put_ne hj]
          refine (R.sl j s z).grow sg fun q u z1 z2 z3 => ⟨z1, ?_, z3⟩
          have hne : q ≠ p := fun e => by
            rw [e, h2] at z1
            exact hj (Option.some.inj z1).symm
          rw [upd_ne hne]
          exact z2
/-- a list of the def's own is changed -/
theorem mut_lst {i : Nat} {fr : Bool} {xs ys : List PyData} {v : V} (R : Rep K c G H ow σ ε) (h : σ[i]? = some (some v)) (hl : look ε i = .lst fr xs) :
    ∃ p vs, v = .ref p ∧ H p = some (.lst vs) ∧ DdAll K G vs xs ∧ ∀ us, DdAll K G us ys → Fr G H ow G (upd H p (.lst us)) ow ∧ Rep K c G (upd H p (.lst us)) ow σ (put ε i (.lst fr ys)) := by
  have q := R.at h
  rw [hl] at q
  obtain ⟨p, vs, e1, h2, h3, h4, h5, h6⟩ := q
  cases e1
  have hi : i < ε.length := look_lt (by rw [hl]; exact fun z => nomatch z)
  refine ⟨p, vs, rfl, h4, h5, fun us hu => ⟨⟨Same.refl G, fun a u z1 z2 => ?_, fun a z => ?_⟩, ⟨same_mut R.ex h3 _, fun a z => ?_, by rw [put_length]; exact R.len, fun j s z => ?_⟩⟩⟩
  · have hne : a ≠ p := fun e => by
      rw [e, h2] at z2
      cases z2
    rw [upd_ne hne]
    exact ⟨z1, z2, fun z => z⟩
  · by_cases ha : a = p
    · subst ha
      rw [upd_same] at z
      cases z
    · rw [upd_ne ha] at z
      exact z
  · by_cases ha : a = p
    · subst ha
      rw [upd_same] at z
      cases z
    · rw [upd_ne ha] at z
      exact R.dom a z
  · by_cases hj : j = i
    · subst hj
      rw [look_put_self hi]
      rw [h] at z
      cases z
      exact ⟨p, us, rfl, h2, h3, upd_same, hu, h6⟩
    · rw [look_put_ne hj]
      refine (R.sl j s z).grow (Same.refl G) fun q u z1 z2 z3 => ⟨z1, z2, ?_⟩
      have hne : q ≠ p := fun e => by
        rw [e, h2] at z1
        exact hj (Option.some.inj z1).symm
      rw [upd_ne hne]
      exact z3
/-- a name is stored -/
def slOf (ε : Ep) (r : Vl) : Option (Sl × Ep) := match r with
  | .new xs => some (.lst true xs, ε)
  | .dk kvs => some (.dct true kvs, ε)
  | .v x => some (.v x, ε)
  | .nt t => some (.nt true t, ε)
  | .bp i p a => some (.al i p a, ε)
  | .ex nm => some (.ex nm, ε)
  | r => match frz ε r with
    | some (x, ε') => some (.d x, ε')
    | none => none
theorem rep_put {i : Nat} {s : Sl} {v : V} (R : Rep K c G H ow σ ε) (hi : i < ε.length) (h : SlOk K c G H ow i s (some v)) : Rep K c G H ow (σ.set i (some v)) (put ε i s) := by
  refine ⟨R.ex, R.dom, by rw [put_length, List.length_set]; exact R.len, fun j o z => ?_⟩
  by_cases hj : j = i
  · subst hj
    rw [look_put_self hi]
    rw [List.getElem?_set_self (by rw [R.len]; exact hi)] at z
    cases z
    exact h
  · rw [look_put_ne hj]
    rw [List.getElem?_set_ne (fun e => hj e.symm)] at z
    exact R.sl j o z
theorem store_sl {Gs : Hp} {ows : Ow} {i : Nat} {r : Vl} {v : V} {s : Sl} (F : Fr Gs Hs ows G H ow) (hd : ∀ a, Hs a = none → c.H0 a = none) (R : Rep K c G H ow σ ε) (h : VOk K Hs G H ow σ r v) (hi : i < ε.length) (e : slOf ε r = some (s, ε')) :
    ∃ G' ow', Fr Gs Hs ows G' H ow' ∧ Rep K c G' H ow' (σ.set i (some v)) (put ε' i s) := by
  have fin : ∀ x, frz ε r = some (x, ε') → ∃ G' ow', Fr Gs Hs ows G' H ow' ∧ Rep K c G' H ow' (σ.set i (some v)) (put ε' i (.d x)) := fun x q => by
    obtain ⟨G', F', sg, R', d⟩ := frz_ok F R h q
    have hl : ε'.length = ε.length := R'.len.symm.trans R.len
    exact ⟨G', ow, F', rep_put R' (by rw [hl]; exact hi) ⟨v, rfl, d⟩⟩
  have owned : ∀ (p : Addr) (u : HO), Hs p = none → ow p = none → H p = some u → Fr Gs Hs ows G H (owc ow p (some i)) ∧ Rep K c G H (owc ow p (some i)) σ ε := fun p u z1 z2 z3 => by
    refine ⟨⟨F.ex, fun a w y1 y2 => ?_, F.dom⟩, ⟨R.ex, R.dom, R.len, fun j o z => (R.sl j o z).grow (Same.refl G) fun q w y1 y2 y3 => ⟨?_, y2, y3⟩⟩⟩
    · obtain ⟨q1, q2, q3⟩ := F.st a w y1 y2
      rw [owc_ne (ne_of_none y1 z1)]
      exact ⟨q1, q2, q3⟩
    · rw [owc_ne (fun e => by rw [e, z2] at y1; cases y1)]
      exact y1
  cases r with
  | d x => cases e; exact fin x rfl
  | v x =>
    cases e
    exact ⟨G, ow, F, rep_put R hi (congrArg some h)⟩
  | new xs =>
    cases e
    obtain ⟨p, vs, rfl, h1, h2, h3, h4, h5⟩ := h
    obtain ⟨F', R'⟩ := owned p _ h1 h2 h4
    exact ⟨G, _, F', rep_put R' hi ⟨p, vs, rfl, owc_self, h3, h4, h5, fun _ => hd p h1, fun z => nomatch z⟩⟩
  | dk kvs =>
    cases e
    obtain ⟨p, kv, rfl, h1, h2, h3, h4, h5⟩ := h
    obtain ⟨F', R'⟩ := owned p _ h1 h2 h4
    exact ⟨G, _, F', rep_put R' hi ⟨p, kv, rfl, owc_self, h3, h4, h5, fun _ => hd p h1, fun z => nomatch z⟩⟩
  | bp j p a =>
    cases e
    exact ⟨G, ow, F, rep_put R hi (congrArg some h)⟩
  | ex nm =>
    cases e
    exact ⟨G, ow, F, rep_put R hi ⟨v, rfl, h⟩⟩
  | nt t =>
    cases e
    obtain ⟨h1, h2, h3⟩ := h
    have hh := TOk.has t h1
    refine ⟨G, owcs ow (adr t) (some i), ⟨F.ex, fun a w y1 y2 => ?_, F.dom⟩, rep_put ⟨R.ex, R.dom, R.len, fun j o z => (R.sl j o z).grow (Same.refl G) fun q w y1 y2 y3 => ⟨?_, y2, y3⟩⟩ hi ⟨v, rfl, h1, h2, fun a ha => owcs_in ha, fun _ a ha => hd a (h3 a ha).1, fun z => nomatch z⟩⟩
    · obtain ⟨q1, q2, q3⟩ := F.st a w y1 y2
      exact ⟨q1, by rw [owcs_out fun m => by rw [(h3 a m).1] at y1; cases y1]; exact q2, q3⟩
    · rw [owcs_out fun m => by rw [(h3 q m).2] at y1; cases y1]
      exact y1
  | bor j =>
    unfold slOf at e
    cases q : frz ε (.bor j) with
    | none => simp only [q] at e; cases e
    | some z =>
      obtain ⟨x, ε2⟩ := z
      simp only [q] at e
      cases e
      exact fin x q
end

/-! ### forgotten slots -/
theorem wipe_in {σ : L2.St} {j : Nat} : ∀ {vs : List Nat}, j ∈ vs → j < σ.length → (wipe σ vs)[j]? = some none
  | [], h, _ => by simp at h
  | v :: vs, h, hl => by
    unfold wipe
    by_cases e : v = j
    · subst e
      exact List.getElem?_set_self (by rw [wipe_length]; exact hl)
    · rw [List.getElem?_set_ne e]
      rcases List.mem_cons.mp h with q | q
      · exact absurd q.symm e
      · exact wipe_in q hl
theorem wipe_set {σ : L2.St} {i : Nat} {x : Option V} {vs : List Nat} (h : i ∈ vs) : wipe (σ.set i x) vs = wipe σ vs := by
  apply List.ext_getElem?
  intro j
  by_cases hj : j ∈ vs
  · by_cases hl : j < σ.length
    · rw [wipe_in hj hl, wipe_in hj (by rw [List.length_set]; exact hl)]
    · rw [List.getElem?_eq_none (by rw [wipe_length, List.length_set]; omega), List.getElem?_eq_none (by rw [wipe_length]; omega)]
  · rw [wipe_out hj, wipe_out hj, List.getElem?_set_ne (fun e => hj (by rw [← e]; exact h))]
def wipeE (ε : Ep) : List Nat → Ep
  | [] => ε
  | v :: vs => put (wipeE ε vs) v .un
theorem wipeE_length (ε : Ep) : ∀ vs : List Nat, (wipeE ε vs).length = ε.length
  | [] => rfl
  | v :: vs => by unfold wipeE; rw [put_length, wipeE_length ε vs]
theorem look_wipe_in {ε : Ep} {j : Nat} : ∀ {vs : List Nat}, j ∈ vs → look (wipeE ε vs) j = .un
  | [], h => by simp at h
  | v :: vs, h => by
    unfold wipeE
    by_cases e : j = v
    · subst e
      by_cases hl : j < (wipeE ε vs).length
      · exact look_put_self hl
      · exact look_out (by rw [put_length]; omega)
    · rw [look_put_ne e]
      rcases List.mem_cons.mp h with q | q
      · exact absurd q e
      · exact look_wipe_in q
theorem look_wipe_out {ε : Ep} {j : Nat} : ∀ {vs : List Nat}, j ∉ vs → look (wipeE ε vs) j = look ε j
  | [], _ => rfl
  | v :: vs, h => by
    unfold wipeE
    rw [look_put_ne (fun e => h (by rw [e]; exact List.mem_cons_self))]
    exact look_wipe_out fun m => h (List.mem_cons_of_mem _ m)
theorem rep_wipe {K : PySem.W.Frag} {c : Ct} {G H : Hp} {ow : Ow} {σ : L2.St} {ε : Ep} (vs : List Nat) (R : Rep K c G H ow σ ε) : Rep K c G H ow (wipe σ vs) (wipeE ε vs) := by
  refine ⟨R.ex, R.dom, by rw [wipe_length, wipeE_length]; exact R.len, fun j o z => ?_⟩
  by_cases hj : j ∈ vs
  · rw [look_wipe_in hj]
    trivial
  · rw [look_wipe_out hj]
    rw [wipe_out hj] at z
    exact R.sl j o z
def keepS : Sl → Sl
  | .d x => .d x
  | .v x => .v x
  | _ => .un
def rstE (ε : Ep) (ε' : Ep) : List Nat → Ep
  | [] => ε'
  | v :: vs => put (rstE ε ε' vs) v (keepS (look ε v))
theorem rstE_length (ε ε' : Ep) : ∀ vs : List Nat, (rstE ε ε' vs).length = ε'.length
  | [] => rfl
  | v :: vs => by unfold rstE; rw [put_length, rstE_length ε ε' vs]
theorem look_rst_in {ε ε' : Ep} {j : Nat} (hl : j < ε'.length) : ∀ {vs : List Nat}, j ∈ vs → look (rstE ε ε' vs) j = keepS (look ε j)
  | [], h => by simp at h
  | v :: vs, h => by
    unfold rstE
    by_cases e : j = v
    · subst e
      exact look_put_self (by rw [rstE_length]; exact hl)
    · rw [look_put_ne e]
      rcases List.mem_cons.mp h with q | q
      · exact absurd q e
      · exact look_rst_in hl q
theorem look_rst_out {ε ε' : Ep} {j : Nat} : ∀ {vs : List Nat}, j ∉ vs → look (rstE ε ε' vs) j = look ε' j
  | [], _ => rfl
  | v :: vs, h => by
    unfold rstE
    rw [look_put_ne (fun e => h (by rw [e]; exact List.mem_cons_self))]
    exact look_rst_out fun m => h (List.mem_cons_of_mem _ m)
theorem rep_rst {K : PySem.W.Frag} {c : Ct} {G H G' H' : Hp} {ow ow' : Ow} {σ : L2.St} {ε ε' : Ep} {vs : List Nat} (R : Rep K c G H ow σ ε) (sg : Same G G') (R' : Rep K c G' H' ow' (wipe σ vs) ε') : Rep K c G' H' ow' σ (rstE ε ε' vs) := by
  refine ⟨R'.ex, R'.dom, by rw [rstE_length, ← R'.len, wipe_length], fun j o z => ?_⟩
  by_cases hj : j ∈ vs
  · have hl : j < ε'.length := by
      rw [← R'.len, wipe_length]
      exact (List.getElem?_eq_some_iff.mp z).1
    rw [look_rst_in hl hj]
    have q := R.sl j o z
    cases hs : look ε j with
    | d x =>
      rw [hs] at q
      obtain ⟨v, e, d⟩ := q
      exact ⟨v, e, dp_ex sg x d⟩
    | v x =>
      rw [hs] at q
      exact q
    | un => trivial
    | lst _ _ => trivial
    | dct _ _ => trivial
    | nt _ _ => trivial
    | al _ _ _ => trivial
    | ex _ => trivial
  · rw [look_rst_out hj]
    rw [← wipe_out (vs := vs) hj] at z
    exact R'.sl j o z
/-! ### judgements -/
abbrev TD := Ep → (Vl → Ep → Prop) → Prop
abbrev TDT := Ep → (Bool → Ep → Prop) → Prop
abbrev TDA := Ep → (List Vl → Ep → Prop) → Prop
abbrev TDF := Ep → (List PyData → Ep → Prop) → Prop
structure DEnds where
  nx : Ep → Prop
  rt : Vl → Ep → Prop
  bk : Ep → Prop := fun _ => False
  ct : Ep → Prop := fun _ => False
  xc : Str → Ep → Prop := fun _ _ => False
abbrev TDS := DEnds → Ep → Prop
abbrev TDG := PyData → Ep → (Ep → Prop) → Prop
abbrev TDGs := List PyData → Ep → (Ep → Prop) → Prop
def rdV (K : PySem.W.Frag) (t : TD) : TE := fun σ H Q => ∃ c G ow ε A, Rep K c G H ow σ ε ∧ t ε A ∧ ∀ r ε' G' H' ow' v, A r ε' → Fr G H ow G' H' ow' → Rep K c G' H' ow' σ ε' → VOk K H G' H' ow' σ r v → Q v H'
def rdT (K : PySem.W.Frag) (t : TDT) : TT := fun σ H Q => ∃ c G ow ε A, Rep K c G H ow σ ε ∧ t ε A ∧ ∀ b ε' G' H' ow', A b ε' → Fr G H ow G' H' ow' → Rep K c G' H' ow' σ ε' → Q b H'
def rdA (K : PySem.W.Frag) (t : TDA) : TA := fun σ H Q => ∃ c G ow ε A, Rep K c G H ow σ ε ∧ t ε A ∧ ∀ rs ε' G' H' ow' vs, A rs ε' → Fr G H ow G' H' ow' → Rep K c G' H' ow' σ ε' → VsOk K H G' H' ow' σ rs vs → Q vs H'
def rdF (K : PySem.W.Frag) (t : TDF) : TA := fun σ H Q => ∃ c G ow ε A, Rep K c G H ow σ ε ∧ t ε A ∧ ∀ ds ε' G' H' ow' vs, A ds ε' → Fr G H ow G' H' ow' → Rep K c G' H' ow' σ ε' → DdAll K G' vs ds → Q vs H'
/-- what is wished of an exception of the module's class nm -/
def XW (K : PySem.W.Frag) (W : WX) (nm : Str) (σ : L2.St) (H : Hp) : Prop := ∀ C : Addr, PySem.W.nsIn K mainGlobals nm = some (some (.ref C)) → W (.ref C) none σ H
def rdS (K : PySem.W.Frag) (W : WX) (t : TDS) : TS := fun D σ H => ∃ c G ow ε A, Rep K c G H ow σ ε ∧ t A ε ∧
  (∀ ε' σ' G' H' ow', A.nx ε' → Fr G H ow G' H' ow' → Rep K c G' H' ow' σ' ε' → D.nx σ' H') ∧
  (∀ r ε' σ' G' H' ow' v, A.rt r ε' → Fr G H ow G' H' ow' → Rep K c G' H' ow' σ' ε' → VOk K c.H0 G' H' ow' [] r v → D.rt v H') ∧
  (∀ ε' σ' G' H' ow', A.bk ε' → Fr G H ow G' H' ow' → Rep K c G' H' ow' σ' ε' → D.bk σ' H') ∧
  (∀ ε' σ' G' H' ow', A.ct ε' → Fr G H ow G' H' ow' → Rep K c G' H' ow' σ' ε' → D.ct σ' H') ∧
  (∀ nm ε' σ' G' H' ow', A.xc nm ε' → Fr G H ow G' H' ow' → Rep K c G' H' ow' σ' ε' → XW K W nm σ' H')
def noW : WX := fun _ _ _ _ => False
def Wrt (ws : List Nat) (σ σ' : L2.St) : Prop := ∀ vs : List Nat, (∀ j ∈ ws, j ∈ vs) → wipe σ' vs = wipe σ vs
def rdG (K : PySem.W.Frag) (ws : List Nat) (g : TDG) : TG := fun v σ H Q => ∃ c G ow ε x A, Rep K c G H ow σ ε ∧ Dd K G v x ∧ g x ε A ∧ ∀ ε' σ' G' H' ow', A ε' → Fr G H ow G' H' ow' → Rep K c G' H' ow' σ' ε' → Wrt ws σ σ' → Q σ' H'
def rdGs (K : PySem.W.Frag) (ws : List Nat) (g : TDGs) : TGs := fun vs σ H Q => ∃ c G ow ε xs A, Rep K c G H ow σ ε ∧ DdAll K G vs xs ∧ g xs ε A ∧ ∀ ε' σ' G' H' ow', A ε' → Fr G H ow G' H' ow' → Rep K c G' H' ow' σ' ε' → Wrt ws σ σ' → Q σ' H'
abbrev DV (X : Cx) (e : Expr) (t : TD) : Prop := PE X e (rdV X.K t)
abbrev DT (X : Cx) (e : Expr) (t : TDT) : Prop := PT X e (rdT X.K t)
abbrev DW (X : Cx) (e : Expr) (t : TDT) : Prop := PW X e (rdT X.K t)
abbrev DA (X : Cx) (es : List Expr) (t : TDA) : Prop := PA X es (rdA X.K t)
abbrev DF (X : Cx) (es : List Expr) (t : TDF) : Prop := PA X es (rdF X.K t)
abbrev DS (X : Cx) (W : WX) (st : Stmt) (t : TDS) : Prop := PS X st (rdS X.K W t)
abbrev DSs (X : Cx) (W : WX) (st : List Stmt) (t : TDS) : Prop := PSs X st (rdS X.K W t)
abbrev DG (X : Cx) (e : Expr) (ws : List Nat) (g : TDG) : Prop := PG X e (rdG X.K ws g)
abbrev DGs (X : Cx) (es : List Expr) (ws : List Nat) (g : TDGs) : Prop := PGs X es (rdGs X.K ws g)
section
variable {X : Cx}
theorem pe_w {e : Expr} {t t' : TE} (h : PE X e t) (i : ∀ σ H Q, t' σ H Q → t σ H Q) : PE X e t' := ⟨fun pins s σ H Q I q => h.run pins s σ H Q I (i σ H Q q)⟩
theorem pt_w {e : Expr} {t t' : TT} (h : PT X e t) (i : ∀ σ H Q, t' σ H Q → t σ H Q) : PT X e t' := ⟨fun pins s σ H Q I q => h.run pins s σ H Q I (i σ H Q q)⟩
theorem pw_w {e : Expr} {t t' : TT} (h : PW X e t) (i : ∀ σ H Q, t' σ H Q → t σ H Q) : PW X e t' := ⟨fun wh pins s σ H Q I q => h.run wh pins s σ H Q I (i σ H Q q)⟩
theorem pa_w {e : List Expr} {t t' : TA} (h : PA X e t) (i : ∀ σ H Q, t' σ H Q → t σ H Q) : PA X e t' := ⟨fun pos pins s σ H Q I q => h.run pos pins s σ H Q I (i σ H Q q)⟩
theorem ps_w {e : Stmt} {t t' : TS} (h : PS X e t) (i : ∀ D σ H, t' D σ H → t D σ H) : PS X e t' := ⟨fun pins s σ H D I q => h.run pins s σ H D I (i D σ H q)⟩
theorem pss_w {e : List Stmt} {t t' : TS} (h : PSs X e t) (i : ∀ D σ H, t' D σ H → t D σ H) : PSs X e t' := ⟨fun pins s σ H D I q => h.run pins s σ H D I (i D σ H q)⟩
theorem pg_w {e : Expr} {t t' : TG} (h : PG X e t) (i : ∀ v σ H Q, t' v σ H Q → t v σ H Q) : PG X e t' := ⟨fun pins s σ H v u Q I r q => h.run pins s σ H v u Q I r (i v σ H Q q)⟩
theorem pe_wl {e : Expr} {t t' : TE} (h : PE X e t) (i : ∀ σ H Q, σ.length = X.N.length → t' σ H Q → t σ H Q) : PE X e t' := ⟨fun pins s σ H Q I q => h.run pins s σ H Q I (i σ H Q I.len q)⟩
theorem ps_wl {e : Stmt} {t t' : TS} (h : PS X e t) (i : ∀ D σ H, σ.length = X.N.length → t' D σ H → t D σ H) : PS X e t' := ⟨fun pins s σ H D I q => h.run pins s σ H D I (i D σ H I.len q)⟩
theorem pg_wl {e : Expr} {t t' : TG} (h : PG X e t) (i : ∀ v σ H Q, σ.length = X.N.length → t' v σ H Q → t v σ H Q) : PG X e t' := ⟨fun pins s σ H v u Q I r q => h.run pins s σ H v u Q I r (i v σ H Q I.len q)⟩
theorem pgs_w {e : List Expr} {t t' : TGs} (h : PGs X e t) (i : ∀ v σ H Q, t' v σ H Q → t v σ H Q) : PGs X e t' := ⟨fun pins s σ H v u Q I r q => h.run pins s σ H v u Q I r (i v σ H Q q)⟩
end

/-! ### names, constants -/
def dVar (i : Nat) : TD := fun ε A => match look ε i with
  | .d x => A (.d x) ε
  | .lst _ _ => A (.bor i) ε
  | .dct _ _ => A (.bor i) ε
  | .v x => A (.v x) ε
  | .nt _ (.node a _ _) => A (.bp i [] a) ε
  | .nt _ (.fz _) => False
  | .al j p a => A (.bp j p a) ε
  | .ex nm => A (.ex nm) ε
  | .un => False
def dC (d : PyData) : TD := fun ε A => A (.d d) ε
section
variable {X : Cx}
theorem dvar_rd {K : PySem.W.Frag} {i : Nat} {σ : L2.St} {H : Hp} {Q : VK} (h : rdV K (dVar i) σ H Q) : tVar i σ H Q := by
  obtain ⟨c, G, ow, ε, A, R, h, k⟩ := h
  unfold dVar at h
  cases hl : look ε i with
  | un => rw [hl] at h; exact h.elim
  | d x =>
    rw [hl] at h
    obtain ⟨o, ho⟩ := R.some_at (i := i) (by rw [hl]; exact fun z => nomatch z)
    have q := R.at ho
    rw [hl] at q
    obtain ⟨v, rfl, d⟩ := q
    exact ⟨v, ho, k _ _ G H ow v h (Fr.refl _ _ _) R d⟩
  | lst fr xs =>
    rw [hl] at h
    obtain ⟨o, ho⟩ := R.some_at (i := i) (by rw [hl]; exact fun z => nomatch z)
    have q := R.at ho
    rw [hl] at q
    obtain ⟨p, vs, rfl, _⟩ := q
    exact ⟨_, ho, k _ _ G H ow _ h (Fr.refl _ _ _) R ho⟩
  | dct fr xs =>
    rw [hl] at h
    obtain ⟨o, ho⟩ := R.some_at (i := i) (by rw [hl]; exact fun z => nomatch z)
    have q := R.at ho
    rw [hl] at q
    obtain ⟨p, vs, rfl, _⟩ := q
    exact ⟨_, ho, k _ _ G H ow _ h (Fr.refl _ _ _) R ho⟩
  | v x =>
    rw [hl] at h
    obtain ⟨o, ho⟩ := R.some_at (i := i) (by rw [hl]; exact fun z => nomatch z)
    have q := R.at ho
    rw [hl] at q
    have q : o = some x := q
    subst q
    exact ⟨_, ho, k _ _ G H ow _ h (Fr.refl _ _ _) R rfl⟩
  | al j p a =>
    rw [hl] at h
    obtain ⟨o, ho⟩ := R.some_at (i := i) (by rw [hl]; exact fun z => nomatch z)
    have q := R.at ho
    rw [hl] at q
    have q : o = some (.ref a) := q
    subst q
    exact ⟨_, ho, k _ _ G H ow _ h (Fr.refl _ _ _) R rfl⟩
  | ex nm =>
    rw [hl] at h
    obtain ⟨o, ho⟩ := R.some_at (i := i) (by rw [hl]; exact fun z => nomatch z)
    have q := R.at ho
    rw [hl] at q
    obtain ⟨v, rfl, q⟩ := q
    exact ⟨_, ho, k _ _ G H ow _ h (Fr.refl _ _ _) R q⟩
  | nt fr t =>
    cases t with
    | fz x => rw [hl] at h; exact h.elim
    | node a hd ts =>
      rw [hl] at h
      obtain ⟨o, ho⟩ := R.some_at (i := i) (by rw [hl]; exact fun z => nomatch z)
      have q := R.at ho
      rw [hl] at q
      obtain ⟨v, rfl, q, _⟩ := q
      rw [TOk] at q
      exact ⟨_, ho, k _ _ G H ow _ h (Fr.refl _ _ _) R q.1⟩
theorem dv (i : Nat) {x : Str} {pos : Pos} (hN : X.N[i]? = some x := by rfl) (hv : Vis X.env.scope x := by first | exact Or.inl rfl | exact Or.inr (Or.inl rfl) | exact Or.inr (Or.inr rfl)) (hd : (x == ("__debug__" : Str)) = false := by decide)
    (hcd : (x == ("__classdict__" : Str)) = false := by decide) : DV X (.Name x pos) (dVar i) := pe_w (pe_var hN hv hd hcd) fun _ _ _ h => dvar_rd h
theorem dc_rd {K : PySem.W.Frag} {v : V} {d : PyData} {σ : L2.St} {H : Hp} {Q : VK} (hd : ∀ G, Dd K G v d) (h : rdV K (dC d) σ H Q) : tC v σ H Q := by
  obtain ⟨c, G, ow, ε, A, R, h, k⟩ := h
  exact k _ _ G H ow v h (Fr.refl _ _ _) R (hd G)
theorem dv_int {i j pos} : DV X (.Constant (.int i) j pos) (dC (.int i)) := pe_w pe_int fun _ _ _ h => dc_rd (fun _ => .int i) h
theorem dv_bl {b j pos} : DV X (.Constant (.bool b) j pos) (dC (.bool b)) := pe_w pe_bl fun _ _ _ h => dc_rd (fun _ => .bl b) h
theorem dv_non {j pos} : DV X (.Constant .none j pos) (dC .none) := pe_w pe_non fun _ _ _ h => dc_rd (fun _ => .non) h
theorem dv_str {x j pos} : DV X (.Constant (.str x) j pos) (dC (.str x)) := pe_w pe_str fun _ _ _ h => dc_rd (fun _ => .str x) h
/-- a constant of the module -/
theorem dv_glob {x : Str} {v : V} {d : PyData} {u : Value} {pos : Pos} (hg : Gl X x) (hm : X.mg x = some u) (r : RelV v u) (hD : ∀ G, Dd X.K G v d) (hd : (x == ("__debug__" : Str)) = false := by decide) : DV X (.Name x pos) (dC d) :=
  pe_w (pe_glob hg hm r hd) fun _ _ _ h => dc_rd hD h
end

/-! ### what an operation makes -/
inductive Res (K : PySem.W.Frag) (G H : Hp) : Vl → V → Hp → Prop
  | val {v : V} {d : PyData} : Dd K G v d → Res K G H (.d d) v H
  | lst {p : Addr} {vs : List V} {xs : List PyData} : H p = none → DdAll K G vs xs → Res K G H (.new xs) (.ref p) (upd H p (.lst vs))
  | tup {p : Addr} {vs : List V} {xs : List PyData} : H p = none → DdAll K G vs xs → Res K G H (.d (.tuple xs)) (.ref p) (upd H p (.tup vs))
  | dct {p : Addr} {kv : List (Key × V)} {kvs : List (Key × PyData)} : H p = none → KvOk K G kv kvs → Res K G H (.dk kvs) (.ref p) (upd H p (.dK kv))
  | raw {v : V} : Res K G H (.v v) v H
theorem res_fin {K : PySem.W.Frag} {c : Ct} {G H H' : Hp} {ow : Ow} {σ : L2.St} {ε : Ep} {r : Vl} {v : V} (R : Rep K c G H ow σ ε) (h : Res K G H r v H') : ∃ G' ow', Fr G H ow G' H' ow' ∧ Rep K c G' H' ow' σ ε ∧ VOk K H G' H' ow' σ r v := by
  cases h with
  | val d => exact ⟨G, ow, Fr.refl _ _ _, R, d⟩
  | raw => exact ⟨G, ow, Fr.refl _ _ _, R, rfl⟩
  | lst hp hd =>
    obtain ⟨F, R', z1, z2⟩ := grow_new (o := .lst _) R hp
    exact ⟨G, _, F, R', ⟨_, _, rfl, hp, z1, z2, upd_same, hd⟩⟩
  | dct hp hd =>
    obtain ⟨F, R', z1, z2⟩ := grow_new (o := .dK _) R hp
    exact ⟨G, _, F, R', ⟨_, _, rfl, hp, z1, z2, upd_same, hd⟩⟩
  | tup hp hd =>
    obtain ⟨F, R'⟩ := grow_frz (o := .tup _) R hp
    exact ⟨_, ow, F, R', .tup (.inl (.inl upd_same)) (dpa_ex F.ex _ hd)⟩
def OpD (K : PySem.W.Frag) (r : R2) (k : PyData → PyData → (Vl → Prop) → Prop) : Prop := ∀ G H x y v1 v2 (A : Vl → Prop) (Q : VK), Same G H → Pk K G H v1 x → Pk K G H v2 y → k x y A → (∀ r v H', A r → Res K G H r v H' → Q v H') → r v1 v2 H Q
def UnD (K : PySem.W.Frag) (r : V → Hp → VK → Prop) (k : PyData → (Vl → Prop) → Prop) : Prop := ∀ G H x v1 (A : Vl → Prop) (Q : VK), Same G H → Pk K G H v1 x → k x A → (∀ r v H', A r → Res K G H r v H' → Q v H') → r v1 H Q
def CallD (K : PySem.W.Frag) (r : List V → Hp → VK → Prop) (k : List PyData → (Vl → Prop) → Prop) : Prop := ∀ G H xs vs (A : Vl → Prop) (Q : VK), Same G H → PkAll K G H vs xs → k xs A → (∀ r v H', A r → Res K G H r v H' → Q v H') → r vs H Q
def dOp (k : PyData → PyData → (Vl → Prop) → Prop) (ta tb : TD) : TD := fun ε A => ta ε fun r1 ε1 => tb ε1 fun r2 ε2 => match peek ε2 r1, peek ε2 r2 with
  | some x, some y => k x y fun r => A r ε2
  | _, _ => False
def dUn (k : PyData → (Vl → Prop) → Prop) (ta : TD) : TD := fun ε A => ta ε fun r1 ε1 => match peek ε1 r1 with
  | some x => k x fun r => A r ε1
  | _ => False
section
variable {X : Cx} {a b : Expr} {ta tb : TD} {pos : Pos} {k : PyData → PyData → (Vl → Prop) → Prop} {r : R2}
theorem dop_rd {K : PySem.W.Frag} {σ : L2.St} {H : Hp} {Q : VK} (hk : OpD K r k) (h : rdV K (dOp k ta tb) σ H Q) : tOp r (rdV K ta) (rdV K tb) σ H Q := by
  obtain ⟨c, G, ow, ε, A, R, h, kk⟩ := h
  refine ⟨c, G, ow, ε, _, R, h, fun r1 ε1 G1 H1 ow1 v1 h1 F1 R1 V1 => ⟨c, G1, ow1, ε1, _, R1, h1, fun r2 ε2 G2 H2 ow2 v2 h2 F2 R2 V2 => ?_⟩⟩
  have F := F1.trans F2
  cases e1 : peek ε2 r1 with
  | none => simp only [e1] at h2
  | some x =>
    cases e2 : peek ε2 r2 with
    | none => simp only [e1, e2] at h2
    | some y =>
      simp only [e1, e2] at h2
      refine hk G2 H2 x y v1 v2 _ Q R2.ex (peek_ok R2 (V1.fr F2) e1) (peek_ok R2 V2 e2) h2 fun r v H' hr hres => ?_
      obtain ⟨G', ow', F3, R3, V3⟩ := res_fin R2 hres
      exact kk r ε2 G' H' ow' v hr (F.trans F3) R3 (V3.since F.dom)
theorem dv_op {op : Operator} (ho : OpR X (binaryOp op) r) (hk : OpD X.K r k) (ha : DV X a ta) (hb : DV X b tb) : DV X (.BinOp a op b pos) (dOp k ta tb) := pe_w (pe_op ho ha hb) fun _ _ _ h => dop_rd hk h
theorem dv_cmp {op : CmpOp} (ho : OpR X (compareOp op) r) (hk : OpD X.K r k) (ha : DV X a ta) (hb : DV X b tb) (hm : behindInMarks op b = false) : DV X (.Compare a [op] [b] pos) (dOp k ta tb) := pe_w (pe_cmpR ho ha hb hm) fun _ _ _ h => dop_rd hk h
theorem dv_ix (hr : IxR X r) (hk : OpD X.K r k) (ha : DV X a ta) (hb : DV X b tb) (hs : PlainIx b) : DV X (.Subscript a b pos) (dOp k ta tb) := pe_w (pe_ix hr ha hb hs) fun _ _ _ h => dop_rd hk h
/-- a value as a test -/
def dTest (t : TD) : TDT := fun ε A => t ε fun r ε1 => match r with
  | .d (.bool b) => A b ε1
  | _ => False
theorem dtest_rd {K : PySem.W.Frag} {t : TD} {σ : L2.St} {H : Hp} {Q : Bool → Hp → Prop} (h : rdT K (dTest t) σ H Q) : rdV K t σ H (fun x H1 => ∃ c, x = .bl c ∧ Q c H1) := by
  obtain ⟨c, G, ow, ε, A, R, h, kk⟩ := h
  refine ⟨c, G, ow, ε, _, R, h, fun r1 ε1 G1 H1 ow1 v1 h1 F1 R1 V1 => ?_⟩
  cases r1 with
  | d x =>
    cases x with
    | bool b =>
      have V1 : Dd K G1 v1 (.bool b) := V1
      cases V1
      exact ⟨b, rfl, kk b ε1 G1 H1 ow1 h1 F1 R1⟩
    | _ => exact h1.elim
  | _ => exact h1.elim
theorem dt_cmp {op : CmpOp} (ho : OpR X (compareOp op) r) (hk : OpD X.K r k) (ha : DV X a ta) (hb : DV X b tb) (hm : behindInMarks op b = false) : DT X (.Compare a [op] [b] pos) (dTest (dOp k ta tb)) := pt_w (pt_cmpR ho ha hb hm) fun _ _ _ h => by
  obtain ⟨c, G, ow, ε, A, R, h, kk⟩ := dtest_rd h
  exact dop_rd hk ⟨c, G, ow, ε, A, R, h, kk⟩
theorem dt_val {e : Expr} {t : TD} (h : DV X e t) (he : ∀ whole, isTrue e X.env whole = (do let v ← whole; standAt e.pos; holding [v] (truthy v)) := by intro _; rfl) : DT X e (dTest t) := pt_w (pt_val h he) fun _ _ _ h => dtest_rd h
end
/-! ### and, or, not -/
def dAnd (t u : TDT) : TDT := fun ε A => t ε fun c ε1 => onB c (u ε1 A) (A false ε1)
def dOr (t u : TDT) : TDT := fun ε A => t ε fun c ε1 => onB c (A true ε1) (u ε1 A)
def dNot (t : TDT) : TDT := fun ε A => t ε fun c ε1 => A (!c) ε1
def dAndV (t u : TD) : TD := fun ε A => t ε fun r ε1 => match r with
  | .d (.bool b) => onB b (u ε1 A) (A (.d (.bool false)) ε1)
  | _ => False
def dOrV (t u : TD) : TD := fun ε A => t ε fun r ε1 => match r with
  | .d (.bool b) => onB b (A (.d (.bool true)) ε1) (u ε1 A)
  | _ => False
def dNotV (t : TD) : TD := fun ε A => t ε fun r ε1 => match r with
  | .d (.bool b) => A (.d (.bool (!b))) ε1
  | _ => False
def dIfE (c : TDT) (t u : TD) : TD := fun ε A => c ε fun b ε1 => onB b (t ε1 A) (u ε1 A)
section
variable {X : Cx} {a b : Expr} {rest : List Expr} {tA tB' : TDT} {ta tb : TD} {pos : Pos} {K : PySem.W.Frag} {σ : L2.St} {H : Hp}
theorem rdt_fr {t : TDT} {c : Ct} {G : Hp} {ow : Ow} {ε : Ep} {A : Bool → Ep → Prop} {Gs Hs : Hp} {ows : Ow} {Q : Bool → Hp → Prop} (R : Rep K c G H ow σ ε) (F : Fr Gs Hs ows G H ow) (h : t ε A) (kk : ∀ b ε' G' H' ow', A b ε' → Fr Gs Hs ows G' H' ow' → Rep K c G' H' ow' σ ε' → Q b H') : rdT K t σ H Q :=
  ⟨c, G, ow, ε, A, R, h, fun b ε' G' H' ow' h1 F1 R1 => kk b ε' G' H' ow' h1 (F.trans F1) R1⟩
theorem rdv_fr {t : TD} {c : Ct} {G : Hp} {ow : Ow} {ε : Ep} {A : Vl → Ep → Prop} {Gs Hs : Hp} {ows : Ow} {Q : VK} (R : Rep K c G H ow σ ε) (F : Fr Gs Hs ows G H ow) (h : t ε A) (kk : ∀ r ε' G' H' ow' v, A r ε' → Fr Gs Hs ows G' H' ow' → Rep K c G' H' ow' σ ε' → VOk K Hs G' H' ow' σ r v → Q v H') : rdV K t σ H Q :=
  ⟨c, G, ow, ε, A, R, h, fun r ε' G' H' ow' v h1 F1 R1 V => kk r ε' G' H' ow' v h1 (F.trans F1) R1 (V.since F.dom)⟩
theorem dw_and1 (ha : DT X a tA) : DW X (.BoolOp .And [a] pos) tA := pw_and1 ha
theorem dw_or1 (ha : DT X a tA) : DW X (.BoolOp .Or [a] pos) tA := pw_or1 ha
theorem dw_and (ha : DT X a tA) (hb : DW X (.BoolOp .And (b :: rest) pos) tB') : DW X (.BoolOp .And (a :: b :: rest) pos) (dAnd tA tB') := pw_w (pw_and ha hb) fun σ H Q ⟨c, G, ow, ε, A, R, h, kk⟩ =>
  ⟨c, G, ow, ε, _, R, h, fun d ε1 G1 H1 ow1 h1 F1 R1 => by
    cases d with
    | true => exact iteT (rdt_fr R1 F1 h1 kk)
    | false => exact iteF (kk false ε1 G1 H1 ow1 h1 F1 R1)⟩
theorem dw_or (ha : DT X a tA) (hb : DW X (.BoolOp .Or (b :: rest) pos) tB') : DW X (.BoolOp .Or (a :: b :: rest) pos) (dOr tA tB') := pw_w (pw_or ha hb) fun σ H Q ⟨c, G, ow, ε, A, R, h, kk⟩ =>
  ⟨c, G, ow, ε, _, R, h, fun d ε1 G1 H1 ow1 h1 F1 R1 => by
    cases d with
    | true => exact iteT (kk true ε1 G1 H1 ow1 h1 F1 R1)
    | false => exact iteF (rdt_fr R1 F1 h1 kk)⟩
theorem dt_not (ha : DT X a tA) : DT X (.UnaryOp .Not a pos) (dNot tA) := pt_w (pt_not ha) fun σ H Q ⟨c, G, ow, ε, A, R, h, kk⟩ => ⟨c, G, ow, ε, _, R, h, fun d ε1 G1 H1 ow1 h1 F1 R1 => kk (!d) ε1 G1 H1 ow1 h1 F1 R1⟩
theorem dv_one {op} {t : TD} (h : DV X a t) : DV X (.BoolOp op [a] pos) t := pe_one h
theorem dv_and (ha : DV X a ta) (hb : DV X (.BoolOp .And (b :: rest) pos) tb) : DV X (.BoolOp .And (a :: b :: rest) pos) (dAndV ta tb) := pe_w (pe_and ha hb) fun σ H Q ⟨c, G, ow, ε, A, R, h, kk⟩ =>
  ⟨c, G, ow, ε, _, R, h, fun r ε1 G1 H1 ow1 v h1 F1 R1 V1 => by
    cases r with
    | d x =>
      cases x with
      | bool d =>
        have V1 : Dd X.K G1 v (.bool d) := V1
        cases V1
        refine ⟨d, rfl, ?_⟩
        cases d with
        | true => exact iteT (rdv_fr R1 F1 h1 kk)
        | false => exact iteF (kk _ ε1 G1 H1 ow1 (.bl false) h1 F1 R1 (.bl false))
      | _ => exact h1.elim
    | _ => exact h1.elim⟩
theorem dv_or (ha : DV X a ta) (hb : DV X (.BoolOp .Or (b :: rest) pos) tb) : DV X (.BoolOp .Or (a :: b :: rest) pos) (dOrV ta tb) := pe_w (pe_or ha hb) fun σ H Q ⟨c, G, ow, ε, A, R, h, kk⟩ =>
  ⟨c, G, ow, ε, _, R, h, fun r ε1 G1 H1 ow1 v h1 F1 R1 V1 => by
    cases r with
    | d x =>
      cases x with
      | bool d =>
        have V1 : Dd X.K G1 v (.bool d) := V1
        cases V1
        refine ⟨d, rfl, ?_⟩
        cases d with
        | false => exact iteF (rdv_fr R1 F1 h1 kk)
        | true => exact iteT (kk _ ε1 G1 H1 ow1 (.bl true) h1 F1 R1 (.bl true))
      | _ => exact h1.elim
    | _ => exact h1.elim⟩
theorem dv_not (ha : DV X a ta) : DV X (.UnaryOp .Not a pos) (dNotV ta) := pe_w (pe_not ha) fun σ H Q ⟨c, G, ow, ε, A, R, h, kk⟩ =>
  ⟨c, G, ow, ε, _, R, h, fun r ε1 G1 H1 ow1 v h1 F1 R1 V1 => by
    cases r with
    | d x =>
      cases x with
      | bool d =>
        have V1 : Dd X.K G1 v (.bool d) := V1
        cases V1
        exact ⟨d, rfl, kk _ ε1 G1 H1 ow1 (.bl (!d)) h1 F1 R1 (.bl _)⟩
      | _ => exact h1.elim
    | _ => exact h1.elim⟩
theorem dv_if {e : Expr} (hc : DT X e tA) (ha : DV X a ta) (hb : DV X b tb) : DV X (.IfExp e a b pos) (dIfE tA ta tb) := pe_w (pe_ifExp hc ha hb) fun σ H Q ⟨c, G, ow, ε, A, R, h, kk⟩ =>
  ⟨c, G, ow, ε, _, R, h, fun d ε1 G1 H1 ow1 h1 F1 R1 => by
    cases d with
    | true => exact iteT (rdv_fr R1 F1 h1 kk)
    | false => exact iteF (rdv_fr R1 F1 h1 kk)⟩
end
/-! ### arguments, displays -/
def daNil : TDA := fun ε A => A [] ε
def daCons (t : TD) (u : TDA) : TDA := fun ε A => t ε fun r ε1 => u ε1 fun rs ε2 => A (r :: rs) ε2
def dfNil : TDF := fun ε A => A [] ε
def dfCons (t : TD) (u : TDF) : TDF := fun ε A => t ε fun r ε1 => match frz ε1 r with
  | some (x, ε2) => u ε2 fun xs ε3 => A (x :: xs) ε3
  | none => False
def dTup (t : TDF) : TD := fun ε A => t ε fun xs ε1 => xs.length ≤ 1000000 ∧ A (.d (.tuple xs)) ε1
def dLst (t : TDF) : TD := fun ε A => t ε fun xs ε1 => xs.length ≤ 1000000 ∧ A (.new xs) ε1
theorem line_le {n : Nat} (h : n ≤ 1000000) : n ≤ sizeLine := Nat.le_trans h (by decide)
theorem line_lt {n : Nat} (h : n < 1000000) : n < sizeLine := Nat.lt_of_lt_of_le h (by decide)
section
variable {X : Cx} {e : Expr} {es : List Expr} {te : TD} {ta : TDA} {tf : TDF} {pos : Pos}
theorem da_nil : DA X [] daNil := pa_w pa_nil fun σ H Q ⟨c, G, ow, ε, A, R, h, kk⟩ => kk [] ε G H ow [] h (Fr.refl _ _ _) R rfl
theorem da_cons (ha : DV X e te) (hr : DA X es ta) (hs : starEach (e :: es) X.env = (false, eval e X.env) :: starEach es X.env := by rfl) : DA X (e :: es) (daCons te ta) := pa_w (pa_cons ha hr hs) fun σ H Q ⟨c, G, ow, ε, A, R, h, kk⟩ =>
  ⟨c, G, ow, ε, _, R, h, fun r ε1 G1 H1 ow1 v h1 F1 R1 V1 => ⟨c, G1, ow1, ε1, _, R1, h1, fun rs ε2 G2 H2 ow2 vs h2 F2 R2 V2 => kk _ ε2 G2 H2 ow2 _ h2 (F1.trans F2) R2 ⟨v, vs, rfl, V1.fr F2, V2.since F1.dom⟩⟩⟩
theorem df_nil : DF X [] dfNil := pa_w pa_nil fun σ H Q ⟨c, G, ow, ε, A, R, h, kk⟩ => kk [] ε G H ow [] h (Fr.refl _ _ _) R .nil
theorem df_cons (ha : DV X e te) (hr : DF X es tf) (hs : starEach (e :: es) X.env = (false, eval e X.env) :: starEach es X.env := by rfl) : DF X (e :: es) (dfCons te tf) := pa_w (pa_cons ha hr hs) fun σ H Q ⟨c, G, ow, ε, A, R, h, kk⟩ =>
  ⟨c, G, ow, ε, _, R, h, fun r ε1 G1 H1 ow1 v h1 F1 R1 V1 => by
    cases q : frz ε1 r with
    | none => simp only [q] at h1
    | some z =>
      obtain ⟨x, ε2⟩ := z
      simp only [q] at h1
      obtain ⟨G2, F2, sg, R2, d⟩ := frz_ok F1 R1 V1 q
      exact ⟨c, G2, ow1, ε2, _, R2, h1, fun xs ε3 G3 H3 ow3 vs h3 F3 R3 V3 => kk _ ε3 G3 H3 ow3 _ h3 (F2.trans F3) R3 (.cons (dp_ex F3.ex x d) V3)⟩⟩
theorem dv_tup {x1} (h : DF X es tf) : DV X (.Tuple es x1 pos) (dTup tf) := pe_w (pe_tup h) fun σ H Q ⟨c, G, ow, ε, A, R, h, kk⟩ =>
  ⟨c, G, ow, ε, _, R, h, fun xs ε1 G1 H1 ow1 vs h1 F1 R1 V1 => ⟨by rw [dpa_len V1]; exact line_le h1.1, fun p hp => by
    obtain ⟨G', ow', F2, R2, V2⟩ := res_fin R1 (.tup hp V1)
    exact kk _ ε1 G' _ ow' _ h1.2 (F1.trans F2) R2 (V2.since F1.dom)⟩⟩
theorem dv_lst (h : DF X es tf) : DV X (.List es pos) (dLst tf) := pe_w (pe_lst h) fun σ H Q ⟨c, G, ow, ε, A, R, h, kk⟩ =>
  ⟨c, G, ow, ε, _, R, h, fun xs ε1 G1 H1 ow1 vs h1 F1 R1 V1 => ⟨by rw [dpa_len V1]; exact line_le h1.1, fun p hp => by
    obtain ⟨G', ow', F2, R2, V2⟩ := res_fin R1 (.lst hp V1)
    exact kk _ ε1 G' _ ow' _ h1.2 (F1.trans F2) R2 (V2.since F1.dom)⟩⟩
end
def dDct : TD := fun ε A => A (.dk []) ε
theorem dv_dnew {X : Cx} {pos : Pos} : DV X (.Dict [] [] pos) dDct := pe_w pe_dnewK fun σ H Q ⟨c, G, ow, ε, A, R, h, kk⟩ p hp => by
  obtain ⟨G', ow', F2, R2, V2⟩ := res_fin R (.dct hp .nil)
  exact kk _ ε G' _ ow' _ h F2 R2 V2
/-! ### built-ins -/
def dCB (k : List PyData → (Vl → Prop) → Prop) (t : TDA) : TD := fun ε A => t ε fun rs ε1 => match peekAll ε1 rs with
  | some xs => k xs fun r => A r ε1
  | none => False
section
variable {X : Cx} {e : Expr} {es : List Expr} {ta : TDA} {pos p : Pos} {x : Str} {r : List V → Hp → VK → Prop} {k : List PyData → (Vl → Prop) → Prop} {id T : String}
theorem dcb_rd {K : PySem.W.Frag} {σ : L2.St} {H : Hp} {Q : VK} (hk : CallD K r k) (h : rdV K (dCB k ta) σ H Q) : tCB r (rdA K ta) σ H Q := by
  obtain ⟨c, G, ow, ε, A, R, h, kk⟩ := h
  refine ⟨c, G, ow, ε, _, R, h, fun rs ε1 G1 H1 ow1 vs h1 F1 R1 V1 => ?_⟩
  cases q : peekAll ε1 rs with
  | none => simp only [q] at h1
  | some xs =>
    simp only [q] at h1
    refine hk G1 H1 xs vs _ Q R1.ex (peekAll_ok R1 V1 q) h1 fun r v H' hr hres => ?_
    obtain ⟨G', ow', F3, R3, V3⟩ := res_fin R1 hres
    exact kk r ε1 G' H' ow' v hr (F1.trans F3) R3 (V3.since F1.dom)
theorem dv_callB (hc : CallR X (.builtin id) r) (hk : CallD X.K r k) (hg : Gl X x) (hm : X.mg x = none) (hv : bootBuiltins x = some (.builtin id)) (ha : DA X (e :: es) ta) (hn : x ≠ "__name__" := by decide) (hdb : (x == ("__debug__" : Str)) = false := by decide)
    (hs : starEach (e :: es) X.env = (false, eval e X.env) :: starEach es X.env := by rfl) (hp : (backTo pos (starEach es X.env)).any (·.1) = false := by rfl) : DV X (.Call (.Name x p) (e :: es) [] pos) (dCB k ta) := pe_w (pe_callB hc hg hm hv ha hn hdb hs hp) fun _ _ _ h => dcb_rd hk h
theorem dv_callTy (hc : CallR X (.type T) r) (hk : CallD X.K r k) (hg : Gl X x) (hm : X.mg x = none) (hv : bootBuiltins x = some (.type T)) (ha : DA X (e :: es) ta) (hn : x ≠ "__name__" := by decide) (hdb : (x == ("__debug__" : Str)) = false := by decide)
    (hs : starEach (e :: es) X.env = (false, eval e X.env) :: starEach es X.env := by rfl) (hp : (backTo pos (starEach es X.env)).any (·.1) = false := by rfl) : DV X (.Call (.Name x p) (e :: es) [] pos) (dCB k ta) := pe_w (pe_callTy hc hg hm hv ha hn hdb hs hp) fun _ _ _ h => dcb_rd hk h
end

/-! ### statements -/
def sNext : TDS := fun A ε => A.nx ε
def sSeq (t u : TDS) : TDS := fun A ε => t { A with nx := u A } ε
def sBrk : TDS := fun A ε => A.bk ε
def sCnt : TDS := fun A ε => A.ct ε
def sExpr (t : TD) : TDS := fun A ε => t ε fun _ ε1 => A.nx ε1
def unbor (ε : Ep) : Vl → Option (Vl × Ep)
  | .bor i => match look ε i with
    | .d x => some (.d x, ε)
    | .lst true xs => some (.new xs, put ε i .un)
    | .dct true kvs => some (.dk kvs, put ε i .un)
    | _ => none
  | .bp i [] a => match look ε i with
    | .nt true (.node b h ts) => if a = b then some (.nt (.node b h ts), put ε i .un) else none
    | _ => none
  | .bp _ _ _ => none
  | r => some (r, ε)
def sRet (t : TD) : TDS := fun A ε => t ε fun r ε1 => match unbor ε1 r with
  | some (r', ε2) => A.rt r' ε2
  | none => False
def sRetN : TDS := fun A ε => A.rt (.d .none) ε
def sIf (c : TDT) (t u : TDS) : TDS := fun A ε => c ε fun b ε1 => onB b (t A ε1) (u A ε1)
def sAsg (t : TD) (g : TDG) : TDS := fun A ε => t ε fun r ε1 => match frz ε1 r with
  | some (x, ε2) => g x ε2 A.nx
  | none => False
def sSet (i : Nat) (t : TD) : TDS := fun A ε => t ε fun r ε1 => match slOf ε1 r with
  | some (s, ε2) => A.nx (put ε2 i s)
  | none => False
def gNm (i : Nat) : TDG := fun x ε A => A (put ε i (.d x))
def gsNil : TDGs := fun xs ε A => match xs with
  | [] => A ε
  | _ => False
def gsCons (g : TDG) (gs : TDGs) : TDGs := fun xs ε A => match xs with
  | x :: r => g x ε fun ε1 => gs r ε1 A
  | [] => False
def gTp (n : Nat) (gs : TDGs) : TDG := fun x ε A => match x with
  | .tuple xs => xs.length = n ∧ gs xs ε A
  | _ => False
section
variable {X : Cx} {st : Stmt} {rest : List Stmt} {t u : TDS} {e : Expr} {te : TD} {pos : Pos} {K : PySem.W.Frag}
theorem rds_fr {c : Ct} {G H : Hp} {ow : Ow} {σ : L2.St} {ε : Ep} {A : DEnds} {Gs Hs : Hp} {ows : Ow} {D : Ends} (R : Rep K c G H ow σ ε) (F : Fr Gs Hs ows G H ow) (h : t A ε)
    (k1 : ∀ ε' σ' G' H' ow', A.nx ε' → Fr Gs Hs ows G' H' ow' → Rep K c G' H' ow' σ' ε' → D.nx σ' H')
    (k2 : ∀ r ε' σ' G' H' ow' v, A.rt r ε' → Fr Gs Hs ows G' H' ow' → Rep K c G' H' ow' σ' ε' → VOk K c.H0 G' H' ow' [] r v → D.rt v H')
    (k3 : ∀ ε' σ' G' H' ow', A.bk ε' → Fr Gs Hs ows G' H' ow' → Rep K c G' H' ow' σ' ε' → D.bk σ' H')
    (k4 : ∀ ε' σ' G' H' ow', A.ct ε' → Fr Gs Hs ows G' H' ow' → Rep K c G' H' ow' σ' ε' → D.ct σ' H')
    (k5 : ∀ nm ε' σ' G' H' ow', A.xc nm ε' → Fr Gs Hs ows G' H' ow' → Rep K c G' H' ow' σ' ε' → XW K W nm σ' H') : rdS K W t D σ H :=
  ⟨c, G, ow, ε, A, R, h, fun ε' σ' G' H' ow' q F1 R1 => k1 ε' σ' G' H' ow' q (F.trans F1) R1, fun r ε' σ' G' H' ow' v q F1 R1 V => k2 r ε' σ' G' H' ow' v q (F.trans F1) R1 V,
    fun ε' σ' G' H' ow' q F1 R1 => k3 ε' σ' G' H' ow' q (F.trans F1) R1, fun ε' σ' G' H' ow' q F1 R1 => k4 ε' σ' G' H' ow' q (F.trans F1) R1, fun nm ε' σ' G' H' ow' q F1 R1 => k5 nm ε' σ' G' H' ow' q (F.trans F1) R1⟩
theorem dss_nil : DSs X W [] sNext := pss_w pss_nil fun D σ H ⟨c, G, ow, ε, A, R, h, k1, k2, k3, k4, k5⟩ => k1 ε σ G H ow h (Fr.refl _ _ _) R
theorem dss_cons (h1 : DS X W st t) (h2 : DSs X W rest u) : DSs X W (st :: rest) (sSeq t u) := pss_w (pss_cons h1 h2) fun D σ H ⟨c, G, ow, ε, A, R, h, k1, k2, k3, k4, k5⟩ =>
  ⟨c, G, ow, ε, { A with nx := u A }, R, h, fun ε' σ' G' H' ow' q F1 R1 => rds_fr R1 F1 q k1 k2 k3 k4 k5, k2, k3, k4, k5⟩
theorem dss_one (h1 : DS X W st t) : DSs X W [st] t := pss_one h1
theorem ds_brk : DS X W (.Break pos) sBrk := ps_w ps_break fun D σ H ⟨c, G, ow, ε, A, R, h, k1, k2, k3, k4, k5⟩ => k3 ε σ G H ow h (Fr.refl _ _ _) R
theorem ds_cnt : DS X W (.Continue pos) sCnt := ps_w ps_continue fun D σ H ⟨c, G, ow, ε, A, R, h, k1, k2, k3, k4, k5⟩ => k4 ε σ G H ow h (Fr.refl _ _ _) R
theorem ds_pass : DS X W (.Pass pos) sNext := ps_w ps_pass fun D σ H ⟨c, G, ow, ε, A, R, h, k1, k2, k3, k4, k5⟩ => k1 ε σ G H ow h (Fr.refl _ _ _) R
theorem ds_expr (he : DV X e te) (hs : swapsWith e none pos.line X.env = pure false := by rfl) : DS X W (.Expr e pos) (sExpr te) := ps_w (ps_expr he hs) fun D σ H ⟨c, G, ow, ε, A, R, h, k1, k2, k3, k4, k5⟩ =>
  ⟨c, G, ow, ε, _, R, h, fun r ε1 G1 H1 ow1 v h1 F1 R1 V1 => k1 ε1 σ G1 H1 ow1 h1 F1 R1⟩
theorem unbor_ok {c : Ct} {Gs Hs G H : Hp} {ow ows : Ow} {σ : L2.St} {ε ε' : Ep} {r r' : Vl} {v : V} (hd : ∀ a, Hs a = none → c.H0 a = none) (F : Fr Gs Hs ows G H ow) (R : Rep K c G H ow σ ε) (V1 : VOk K Hs G H ow σ r v) (e : unbor ε r = some (r', ε')) :
    ∃ ow', Fr Gs Hs ows G H ow' ∧ Rep K c G H ow' σ ε' ∧ VOk K c.H0 G H ow' [] r' v := by
  have same : ∀ {r : Vl} {v : V}, r = r' → ε = ε' → VOk K Hs G H ow σ r v → (∀ i, r ≠ .bor i) → ∃ ow', Fr Gs Hs ows G H ow' ∧ Rep K c G H ow' σ ε' ∧ VOk K c.H0 G H ow' [] r' v := fun {r v} e e' V hb => by
    subst e e'
    refine ⟨ow, F, R, ?_⟩
    have V2 := V.since hd
    cases r with
    | bor i => exact absurd rfl (hb i)
    | d x => exact V2
    | new x => exact V2
    | dk _ => exact V2
    | v x => exact V2
    | nt _ => exact V2
    | bp _ _ _ => exact V2
    | ex _ => exact V2
  cases r with
  | d x => cases e; exact same rfl rfl V1 fun i z => nomatch z
  | new xs => cases e; exact same rfl rfl V1 fun i z => nomatch z
  | dk _ => cases e; exact same rfl rfl V1 fun i z => nomatch z
  | v x => cases e; exact same rfl rfl V1 fun i z => nomatch z
  | nt _ => cases e; exact same rfl rfl V1 fun i z => nomatch z
  | ex _ => cases e; exact same rfl rfl V1 fun i z => nomatch z
  | bp i p a =>
    cases p with
    | cons _ _ => simp [unbor] at e
    | nil =>
      cases hl : look ε i with
      | nt fr t =>
        cases fr with
        | false => simp [unbor, hl] at e
        | true =>
          cases t with
          | fz _ => simp [unbor, hl] at e
          | node b hd ts =>
            by_cases hab : a = b
            · subst hab
              simp only [unbor, hl, if_true, Option.some.injEq, Prod.mk.injEq] at e
              obtain ⟨rfl, rfl⟩ := e
              obtain ⟨o, ho⟩ := R.some_at (i := i) (by rw [hl]; exact fun z => nomatch z)
              have q := R.at ho
              rw [hl] at q
              obtain ⟨w, rfl, h1, h2, h3, h4, _⟩ := q
              have ew : w = v := by
                rw [TOk] at h1
                rw [h1.1]
                exact (show v = .ref a from V1).symm
              subst ew
              have hi : i < ε.length := look_lt (by rw [hl]; exact fun z => nomatch z)
              refine ⟨owcs ow (adr (.node a hd ts)) none, ⟨F.ex, fun b u z1 z2 => ?_, F.dom⟩, ⟨R.ex, R.dom, by rw [put_length]; exact R.len, fun j o z => ?_⟩, h1, h2, fun b hb => ⟨h4 rfl b hb, owcs_in hb⟩⟩
              · obtain ⟨q1, q2, q3⟩ := F.st b u z1 z2
                refine ⟨q1, ?_, q3⟩
                unfold owcs
                split
                · rfl
                · exact q2
              · by_cases hj : j = i
                · subst hj
                  rw [look_put_self hi]
                  trivial
                · rw [look_put_ne hj]
                  refine (R.sl j o z).grow (Same.refl G) fun q u z1 z2 z3 => ⟨?_, z2, z3⟩
                  rw [owcs_out (fun m => by rw [h3 q m] at z1; exact hj (Option.some.inj z1).symm)]
                  exact z1
            · simp [unbor, hl, hab] at e
      | _ => simp [unbor, hl] at e
  | bor i =>
    have V1 : σ[i]? = some (some v) := V1
    have q := R.at V1
    cases hl : look ε i with
    | un => simp [unbor, hl] at e
    | dct fr kvs =>
      cases fr with
      | false => simp [unbor, hl] at e
      | true =>
        simp only [unbor, hl, Option.some.injEq, Prod.mk.injEq] at e
        obtain ⟨rfl, rfl⟩ := e
        rw [hl] at q
        obtain ⟨p, vs, e1, h2, h3, h4, h5, h6, _⟩ := q
        cases e1
        have hi : i < ε.length := look_lt (by rw [hl]; exact fun z => nomatch z)
        refine ⟨owc ow p none, ⟨F.ex, fun a u z1 z2 => ?_, F.dom⟩, ⟨R.ex, R.dom, by rw [put_length]; exact R.len, fun j o z => ?_⟩, ⟨p, vs, rfl, h6 rfl, owc_self, h3, h4, h5⟩⟩
        · obtain ⟨q1, q2, q3⟩ := F.st a u z1 z2
          refine ⟨q1, ?_, q3⟩
          unfold owc
          split
          · rfl
          · exact q2
        · by_cases hj : j = i
          · subst hj
            rw [look_put_self hi]
            trivial
          · rw [look_put_ne hj]
            refine (R.sl j o z).grow (Same.refl G) fun q u z1 z2 z3 => ⟨?_, z2, z3⟩
            rw [owc_ne (fun e => by rw [e, h2] at z1; exact hj (Option.some.inj z1).symm)]
            exact z1
    | nt _ _ => simp [unbor, hl] at e
    | al _ _ _ => simp [unbor, hl] at e
    | ex _ => simp [unbor, hl] at e
    | v _ => simp [unbor, hl] at e
    | d x =>
      simp only [unbor, hl, Option.some.injEq, Prod.mk.injEq] at e
      obtain ⟨rfl, rfl⟩ := e
      rw [hl] at q
      obtain ⟨u, e1, e2⟩ := q
      cases e1
      exact ⟨ow, F, R, e2⟩
    | lst fr xs =>
      cases fr with
      | false => simp [unbor, hl] at e
      | true =>
        simp only [unbor, hl, Option.some.injEq, Prod.mk.injEq] at e
        obtain ⟨rfl, rfl⟩ := e
        rw [hl] at q
        obtain ⟨p, vs, e1, h2, h3, h4, h5, h6, _⟩ := q
        cases e1
        have hi : i < ε.length := look_lt (by rw [hl]; exact fun z => nomatch z)
        refine ⟨owc ow p none, ⟨F.ex, fun a u z1 z2 => ?_, F.dom⟩, ⟨R.ex, R.dom, by rw [put_length]; exact R.len, fun j o z => ?_⟩, ⟨p, vs, rfl, h6 rfl, owc_self, h3, h4, h5⟩⟩
        · obtain ⟨q1, q2, q3⟩ := F.st a u z1 z2
          refine ⟨q1, ?_, q3⟩
          unfold owc
          split
          · rfl
          · exact q2
        · by_cases hj : j = i
          · subst hj
            rw [look_put_self hi]
            trivial
          · rw [look_put_ne hj]
            refine (R.sl j o z).grow (Same.refl G) fun q u z1 z2 z3 => ⟨?_, z2, z3⟩
            rw [owc_ne (fun e => by rw [e, h2] at z1; exact hj (Option.some.inj z1).symm)]
            exact z1
theorem ds_ret (he : DV X e te) : DS X W (.Return (some e) pos) (sRet te) := ps_w (ps_ret he) fun D σ H ⟨c, G, ow, ε, A, R, h, k1, k2, k3, k4, k5⟩ =>
  ⟨c, G, ow, ε, _, R, h, fun r ε1 G1 H1 ow1 v h1 F1 R1 V1 => by
    cases q : unbor ε1 r with
    | none => simp only [q] at h1
    | some z =>
      obtain ⟨r', ε2⟩ := z
      simp only [q] at h1
      obtain ⟨ow2, F2, R2, V2⟩ := unbor_ok R.dom F1 R1 V1 q
      exact k2 r' ε2 σ G1 H1 ow2 v h1 F2 R2 V2⟩
theorem ds_retN : DS X W (.Return none pos) sRetN := ps_w ps_retN fun D σ H ⟨c, G, ow, ε, A, R, h, k1, k2, k3, k4, k5⟩ => k2 _ ε σ G H ow .non h (Fr.refl _ _ _) R .non
theorem ds_if {c : Expr} {a b : List Stmt} {tc : TDT} (hc : DT X c tc) (ha : DSs X W a t) (hb : DSs X W b u) : DS X W (.If c a b pos) (sIf tc t u) := ps_w (ps_if hc ha hb) fun D σ H ⟨c, G, ow, ε, A, R, h, k1, k2, k3, k4, k5⟩ =>
  ⟨c, G, ow, ε, _, R, h, fun d ε1 G1 H1 ow1 h1 F1 R1 => by
    cases d with
    | true => exact iteT (rds_fr R1 F1 h1 k1 k2 k3 k4 k5)
    | false => exact iteF (rds_fr R1 F1 h1 k1 k2 k3 k4 k5)⟩
/-! ### stores -/
theorem ds_set {i : Nat} {x : Str} {pos' : Pos} (hN : X.N.Nodup) (hi : X.N[i]? = some x) (hx : Loc X.env.scope x) (he : DV X e te) (hs : swapsWith e (some (.Name x pos')) pos.line X.env = pure false := by rfl) (hf : X.fn x = true ∨ X.env.scope.names.lookup x = some .local := by first | exact .inl rfl | exact .inr rfl | assumption) :
    DS X W (.Assign [.Name x pos'] e pos) (sSet i te) := ps_wl (ps_set hN hi hx he hs hf) fun D σ H hlen ⟨c, G, ow, ε, A, R, h, k1, k2, k3, k4, k5⟩ => ⟨c, G, ow, ε, _, R, h, fun r ε1 G1 H1 ow1 v h1 F1 R1 V1 => by
    cases q : slOf ε1 r with
    | none => simp only [q] at h1
    | some z =>
      obtain ⟨s, ε2⟩ := z
      simp only [q] at h1
      have hi2 : i < ε1.length := by
        rw [← R1.len, hlen]
        exact (List.getElem?_eq_some_iff.mp hi).1
      obtain ⟨G2, ow2, F2, R2⟩ := store_sl F1 R.dom R1 V1 hi2 q
      exact k1 _ _ G2 H1 ow2 h1 F2 R2⟩
theorem ds_asg {tg : Expr} {g : TDG} {ws : List Nat} (he : DV X e te) (hg : DG X tg ws g) (hs : swapsWithSole [tg] e pos.line X.env = pure false := by rfl) (hw : swappedStores [tg] e X.env = pure none := by rfl)
    (h1 : (assignEach [tg] X.env).map (·.2) = [assign tg X.env] := by rfl) : DS X W (.Assign [tg] e pos) (sAsg te g) := ps_w (ps_asg he hg hs hw h1) fun D σ H ⟨c, G, ow, ε, A, R, h, k1, k2, k3, k4, k5⟩ => ⟨c, G, ow, ε, _, R, h, fun r ε1 G1 H1 ow1 v h1 F1 R1 V1 => by
    cases q : frz ε1 r with
    | none => simp only [q] at h1
    | some z =>
      obtain ⟨x, ε2⟩ := z
      simp only [q] at h1
      obtain ⟨G2, F2, sg, R2, d⟩ := frz_ok F1 R1 V1 q
      exact ⟨c, G2, ow1, ε2, x, _, R2, d, h1, fun ε' σ' G' H' ow' z F3 R3 _ => k1 ε' σ' G' H' ow' z (F2.trans F3) R3⟩⟩
theorem dg_nm {i : Nat} {x : Str} {pos : Pos} (hN : X.N.Nodup) (hi : X.N[i]? = some x) (hx : Loc X.env.scope x) (hf : X.fn x = true ∨ X.env.scope.names.lookup x = some .local := by first | exact .inl rfl | exact .inr rfl | assumption) : DG X (.Name x pos) [i] (gNm i) :=
  pg_wl (pg_name hN hi hx hf) fun v σ H Q hlen ⟨c, G, ow, ε, x, A, R, d, h, k⟩ => by
    have hi2 : i < ε.length := by
      rw [← R.len, hlen]
      exact (List.getElem?_eq_some_iff.mp hi).1
    exact k _ _ G H ow h (Fr.refl _ _ _) (rep_put R hi2 ⟨v, rfl, d⟩) (fun vs z => wipe_set (z i (by simp)))
theorem dgs_nil : DGs X [] [] gsNil := pgs_w pgs_nil fun vs σ H Q ⟨c, G, ow, ε, xs, A, R, d, h, k⟩ => by
  cases d with
  | nil => exact ⟨rfl, k ε σ G H ow h (Fr.refl _ _ _) R (fun _ _ => rfl)⟩
  | cons _ _ => exact h.elim
theorem dgs_cons {e : Expr} {es : List Expr} {g : TDG} {gs : TDGs} {w1 w2 : List Nat} (h1 : DG X e w1 g) (h2 : DGs X es w2 gs)
    (hs : (assignEach (e :: es) X.env).map (·.2) = assign e X.env :: (assignEach es X.env).map (·.2) := by rfl) : DGs X (e :: es) (w1 ++ w2) (gsCons g gs) := pgs_w (pgs_cons h1 h2 hs) fun vs σ H Q ⟨c, G, ow, ε, xs, A, R, d, h, k⟩ => by
  cases d with
  | nil => exact h.elim
  | cons d1 d2 =>
    exact ⟨_, _, rfl, c, G, ow, ε, _, _, R, d1, h, fun ε1 σ1 G1 H1 ow1 q F1 R1 W1 => ⟨c, G1, ow1, ε1, _, _, R1, dpa_ex F1.ex _ d2, q, fun ε2 σ2 G2 H2 ow2 q2 F2 R2 W2 => k ε2 σ2 G2 H2 ow2 q2 (F1.trans F2) R2 fun vs z => (W2 vs fun j hj => z j (List.mem_append_right _ hj)).trans (W1 vs fun j hj => z j (List.mem_append_left _ hj))⟩⟩
theorem dg_tup {es : List Expr} {k : Nat} {gs : TDGs} {n : Nat} {ws : List Nat} (hc : X.calm = true) (h : DGs X es ws gs) (hn : (assignEach es X.env).length = n := by rfl) (hst : (assignEach es X.env).findIdx? (·.1) = none := by rfl) : DG X (.Tuple es k pos) ws (gTp n gs) :=
  pg_w (pg_tup hc h hn hst) fun v σ H Q ⟨c, G, ow, ε, x, A, R, d, h, k⟩ => by
    cases x with
    | tuple xs =>
      obtain ⟨p, vs, e1, h1, h2⟩ := Pk.tuple R.ex (Or.inl d : Pk X.K G H v (.tuple xs))
      exact ⟨p, vs, e1, h1, (dpa_len h2).trans h.1, c, G, ow, ε, xs, _, R, h2, h.2, k⟩
    | _ => exact h.elim
/-! ### while -/
def whGo (c : TDT) (b : TDS) (A : DEnds) : Nat → Ep → Prop
  | 0, _ => False
  | n + 1, ε => c ε fun k ε1 => onB k (b { nx := whGo c b A n, rt := A.rt, bk := A.nx, ct := whGo c b A n, xc := A.xc } ε1) (A.nx ε1)
def sWhile (c : TDT) (b : TDS) : TDS := fun A ε => ∃ n, whGo c b A n ε
theorem ds_while {c : Expr} {body : List Stmt} {tc : TDT} {tb : TDS} (hp : PassesOwn (model X.prog X.w) X.A X.env X.xe) (hc : DT X c tc) (hb : DSs X W body tb) : DS X W (.While c body [] pos) (sWhile tc tb) := ps_w (ps_while hp hc hb) fun D σ H ⟨c, G, ow, ε, A, R, ⟨n, h⟩, k1, k2, k3, k4, k5⟩ => by
  refine ⟨fun m σ' H' => ∃ G' ow' ε', Fr G H ow G' H' ow' ∧ Rep X.K c G' H' ow' σ' ε' ∧ whGo tc tb A m ε', ⟨n, G, ow, ε, Fr.refl _ _ _, R, h⟩, ?_⟩
  rintro m σ1 H1 ⟨G1, ow1, ε1, F1, R1, h1⟩
  cases m with
  | zero => exact h1.elim
  | succ m =>
    refine ⟨c, G1, ow1, ε1, _, R1, h1, fun b ε2 G2 H2 ow2 h2 F2 R2 => ?_⟩
    cases b with
    | true =>
      refine iteT ⟨fun σ' H' => ∃ G' ow' ε', Fr G H ow G' H' ow' ∧ Rep X.K c G' H' ow' σ' ε' ∧ whGo tc tb A m ε', fun σ' H' q => ⟨m, Nat.lt_succ_self m, q⟩, ?_⟩
      exact rds_fr R2 (F1.trans F2) h2 (fun ε' σ' G' H' ow' q F3 R3 => ⟨G', ow', ε', F3, R3, q⟩) k2 k1 (fun ε' σ' G' H' ow' q F3 R3 => ⟨G', ow', ε', F3, R3, q⟩) k5
    | false => exact iteF (k1 ε2 σ1 G2 H2 ow2 h2 (F1.trans F2) R2)
/-! ### for -/
def forGo (I : Ep → Prop) (g : TDG) (b : TDS) (A : DEnds) : List PyData → Ep → Prop
  | [], ε => I ε ∧ A.nx ε
  | x :: ds, ε => I ε ∧ g x ε fun ε1 => b { nx := forGo I g b A ds, rt := A.rt, bk := A.nx, ct := forGo I g b A ds, xc := A.xc } ε1
abbrev noI : Ep → Prop := fun _ => True
def sForL (t : TD) (g : TDG) (b : TDS) : TDS := fun A ε => t ε fun r ε1 => match frz ε1 r with
  | some (.list ds, ε2) => forGo noI g b A ds ε2
  | _ => False
def sForT (t : TD) (g : TDG) (b : TDS) : TDS := fun A ε => t ε fun r ε1 => match frz ε1 r with
  | some (.tuple ds, ε2) => forGo noI g b A ds ε2
  | _ => False
def rngD (lo : Int) (n : Nat) : List PyData := (List.range n).map fun i => .int (lo + ((i : Nat) : Int))
def sForR (t : TDA) (g : TDG) (b : TDS) : TDS := fun A ε => t ε fun rs ε1 => match peekAll ε1 rs with
  | some [.int j] => -(2 ^ 62) ≤ j ∧ j < 2 ^ 62 ∧ forGo noI g b A (rngD 0 j.toNat) ε1
  | _ => False
def sForR2 (t : TDA) (g : TDG) (b : TDS) : TDS := fun A ε => t ε fun rs ε1 => match peekAll ε1 rs with
  | some [.int i, .int j] => (-(2 ^ 62) ≤ i ∧ i < 2 ^ 62 ∧ -(2 ^ 62) ≤ j ∧ j < 2 ^ 62) ∧ forGo noI g b A (rngD i (j - i).toNat) ε1
  | _ => False
/-- the loop, whatever is walked: J goes along ds -/
theorem for_core {c : Ct} {G0 H0 : Hp} {ow0 : Ow} {G H : Hp} {ow : Ow} {σ : L2.St} {ε : Ep} {A : DEnds} {D : Ends} {J : It} {Ii : Ep → Prop} {g : TDG} {ws : List Nat} {tb : TDS} {ds : List PyData} (R : Rep K c G H ow σ ε) (F : Fr G0 H0 ow0 G H ow) (h : forGo Ii g tb A ds ε)
    (hgo : ∀ i x H' G' ow' σ' ε', ds[i]? = some x → Ii ε' → Fr G H ow G' H' ow' → Rep K c G' H' ow' σ' ε' → J.go i H' ∧ ∀ y H2, J.yld i H' y H2 → H2 = H' ∧ Dd K G' y x) (hst : ∀ H' G' ow' σ' ε', Ii ε' → Fr G H ow G' H' ow' → Rep K c G' H' ow' σ' ε' → J.stop ds.length H')
    (k1 : ∀ ε' σ' G' H' ow', A.nx ε' → Fr G0 H0 ow0 G' H' ow' → Rep K c G' H' ow' σ' ε' → D.nx σ' H')
    (k2 : ∀ r ε' σ' G' H' ow' v, A.rt r ε' → Fr G0 H0 ow0 G' H' ow' → Rep K c G' H' ow' σ' ε' → VOk K c.H0 G' H' ow' [] r v → D.rt v H')
    (k5 : ∀ nm ε' σ' G' H' ow', A.xc nm ε' → Fr G0 H0 ow0 G' H' ow' → Rep K c G' H' ow' σ' ε' → XW K Wx nm σ' H') :
    ∃ W : Nat → Nat → L2.St → Hp → Prop, (∃ m, W 0 m σ H) ∧ ∀ i m σ H, W i m σ H →
      (J.stop i H ∧ D.nx σ H) ∨ (J.go i H ∧ ∃ N : L2.St → Hp → Prop, (∀ σ' H', N σ' H' → ∃ m', m' < m ∧ W (i + 1) m' σ' H') ∧ ∀ x H', J.yld i H x H' → rdG K ws g x σ H' fun σ2 H2 => rdS K Wx tb { D with nx := N, ct := N, bk := D.nx } σ2 H2) := by
  refine ⟨fun i m σ' H' => m + i = ds.length ∧ ∃ G' ow' ε', Fr G H ow G' H' ow' ∧ Rep K c G' H' ow' σ' ε' ∧ forGo Ii g tb A (ds.drop i) ε', ⟨ds.length, rfl, G, ow, ε, Fr.refl _ _ _, R, h⟩, ?_⟩
  rintro i m σ1 H1 ⟨em, G1, ow1, ε1, F1, R1, h1⟩
  by_cases hi : i < ds.length
  · have hx : ds[i]? = some ds[i] := List.getElem?_eq_getElem hi
    rw [List.drop_eq_getElem_cons hi] at h1
    obtain ⟨hI, h1⟩ := h1
    obtain ⟨g1, g2⟩ := hgo i _ H1 G1 ow1 σ1 ε1 hx hI F1 R1
    refine .inr ⟨g1, fun σ' H' => (m - 1) + (i + 1) = ds.length ∧ ∃ G' ow' ε', Fr G H ow G' H' ow' ∧ Rep K c G' H' ow' σ' ε' ∧ forGo Ii g tb A (ds.drop (i + 1)) ε', fun σ' H' q => ⟨m - 1, by omega, q⟩, fun y H2 hy => ?_⟩
    obtain ⟨rfl, d⟩ := g2 y H2 hy
    refine ⟨c, G1, ow1, ε1, ds[i], _, R1, d, h1, fun ε2 σ2 G2 H2 ow2 q F2 R2 _ => ?_⟩
    exact rds_fr R2 (F1.trans F2) q (fun ε' σ' G' H' ow' z F3 R3 => ⟨by omega, G', ow', ε', F3, R3, z⟩) (fun r ε' σ' G' H' ow' v z F3 R3 V => k2 r ε' σ' G' H' ow' v z (F.trans F3) R3 V)
      (fun ε' σ' G' H' ow' z F3 R3 => k1 ε' σ' G' H' ow' z (F.trans F3) R3) (fun ε' σ' G' H' ow' z F3 R3 => ⟨by omega, G', ow', ε', F3, R3, z⟩) (fun nm ε' σ' G' H' ow' z F3 R3 => k5 nm ε' σ' G' H' ow' z (F.trans F3) R3)
  · have e : i = ds.length := by omega
    subst e
    rw [List.drop_length] at h1
    exact .inl ⟨hst H1 G1 ow1 σ1 ε1 h1.1 F1 R1, k1 ε1 σ1 G1 H1 ow1 h1.2 (F.trans F1) R1⟩
theorem ds_forL {iter tg : Expr} {body : List Stmt} {g : TDG} {ws : List Nat} {tb : TDS} (hp : PassesOwn (model X.prog X.w) X.A X.env X.xe) (hc : X.calm = true) (hi : DV X iter te) (hg : DG X tg ws g) (hb : DSs X W body tb) (hs : ∀ x, foldedSetIterable iter X.env x = pure x := by intro _; rfl) : DS X W (.For tg iter body [] pos) (sForL te g tb) :=
  ps_w (ps_for hp hc (pi_list hi) hg hb hs) fun D σ H ⟨c, G, ow, ε, A, R, h, k1, k2, k3, k4, k5⟩ => ⟨c, G, ow, ε, _, R, h, fun r ε1 G1 H1 ow1 v h1 F1 R1 V1 => by
    cases q : frz ε1 r with
    | none => simp only [q] at h1
    | some z =>
      obtain ⟨x, ε2⟩ := z
      obtain ⟨G2, F2, sg, R2, d⟩ := frz_ok F1 R1 V1 q
      cases x with
      | list ds =>
        simp only [q] at h1
        cases d with
        | lst hs ha =>
          rename_i a vs
          refine ⟨a, rfl, ⟨vs, R2.ex.seq hs⟩, for_core R2 F2 h1 (fun i x H' G' ow' σ' ε' hx _ f1 r1 => ?_) (fun H' G' ow' σ' ε' _ f1 r1 => ⟨vs, r1.ex.seq (f1.ex.seq hs), by rw [dpa_len ha]; exact Nat.le_refl _⟩) k1 k2 k5⟩
          obtain ⟨u, hu, du⟩ := dpa_get ha hx
          have hS : SqL X.K H' a vs := r1.ex.seq (f1.ex.seq hs)
          refine ⟨⟨vs, u, hS, hu⟩, fun y H2 hy => ⟨hy.1, ?_⟩⟩
          have e := hy.2 vs hS
          rw [hu] at e
          cases e
          exact dp_ex f1.ex _ du
      | _ => simp only [q] at h1⟩
theorem ds_forT {iter tg : Expr} {body : List Stmt} {g : TDG} {ws : List Nat} {tb : TDS} (hp : PassesOwn (model X.prog X.w) X.A X.env X.xe) (hc : X.calm = true) (hi : DV X iter te) (hg : DG X tg ws g) (hb : DSs X W body tb) (hs : ∀ x, foldedSetIterable iter X.env x = pure x := by intro _; rfl) : DS X W (.For tg iter body [] pos) (sForT te g tb) :=
  ps_w (ps_for hp hc (pi_tup hi) hg hb hs) fun D σ H ⟨c, G, ow, ε, A, R, h, k1, k2, k3, k4, k5⟩ => ⟨c, G, ow, ε, _, R, h, fun r ε1 G1 H1 ow1 v h1 F1 R1 V1 => by
    cases q : frz ε1 r with
    | none => simp only [q] at h1
    | some z =>
      obtain ⟨x, ε2⟩ := z
      obtain ⟨G2, F2, sg, R2, d⟩ := frz_ok F1 R1 V1 q
      cases x with
      | tuple ds =>
        simp only [q] at h1
        cases d with
        | tup hs ha =>
          rename_i a vs
          refine ⟨a, rfl, ⟨vs, seqT R2.ex hs⟩, for_core R2 F2 h1 (fun i x H' G' ow' σ' ε' hx _ f1 r1 => ?_) (fun H' G' ow' σ' ε' _ f1 r1 => ⟨vs, seqT r1.ex (seqT f1.ex hs), by rw [dpa_len ha]; exact Nat.le_refl _⟩) k1 k2 k5⟩
          obtain ⟨u, hu, du⟩ := dpa_get ha hx
          have hS : SqT X.K H' a vs := seqT r1.ex (seqT f1.ex hs)
          refine ⟨⟨vs, u, hS, hu⟩, fun y H2 hy => ⟨hy.1, ?_⟩⟩
          have e := hy.2 vs hS
          rw [hu] at e
          cases e
          exact dp_ex f1.ex _ du
      | _ => simp only [q] at h1⟩
theorem rngD_len (lo : Int) (n : Nat) : (rngD lo n).length = n := by simp [rngD]
theorem rngD_get {lo : Int} {n i : Nat} {x : PyData} (h : (rngD lo n)[i]? = some x) : i < n ∧ x = .int (lo + (i : Nat)) := by
  have hi : i < n := by
    have := (List.getElem?_eq_some_iff.mp h).1
    rw [rngD_len] at this
    exact this
  refine ⟨hi, ?_⟩
  unfold rngD at h
  rw [List.getElem?_map, List.getElem?_range hi] at h
  exact (Option.some.inj h).symm
theorem ds_forR {a tg : Expr} {body : List Stmt} {ta : TDA} {g : TDG} {ws : List Nat} {tb : TDS} {p pos' : Pos} (hp : PassesOwn (model X.prog X.w) X.A X.env X.xe) (hc : X.calm = true) (hgl : Gl X "range") (hm : X.mg "range" = none) (ha : DA X [a] ta) (hg : DG X tg ws g) (hb : DSs X W body tb)
    (hs : starEach [a] X.env = [(false, eval a X.env)] := by rfl) : DS X W (.For tg (.Call (.Name "range" p) [a] [] pos') body [] pos) (sForR ta g tb) :=
  ps_w (ps_for hp hc (pi_range1 hgl hm ha hs) hg hb) fun D σ H ⟨c, G, ow, ε, A, R, h, k1, k2, k3, k4, k5⟩ => ⟨c, G, ow, ε, _, R, h, fun rs ε1 G1 H1 ow1 vs h1 F1 R1 V1 => by
    cases q : peekAll ε1 rs with
    | none => simp only [q] at h1
    | some xs =>
      have P := peekAll_ok R1 V1 q
      match xs, P with
      | [.int j], .cons d .nil =>
        simp only [q] at h1
        refine ⟨j, by rw [Pk.int d], h1.1, h1.2.1, for_core R1 F1 h1.2.2 (fun i x H' G' ow' σ' ε' hx _ f1 r1 => ?_) (fun H' G' ow' σ' ε' _ f1 r1 => by rw [rngD_len]; exact Nat.le_refl _) k1 k2 k5⟩
        obtain ⟨z1, rfl⟩ := rngD_get hx
        exact ⟨z1, fun y H2 hy => ⟨hy.1, by rw [hy.2]; exact .int _⟩⟩
      | [], _ => simp only [q] at h1
      | .none :: _, _ => simp only [q] at h1
      | .bool _ :: _, _ => simp only [q] at h1
      | .str _ :: _, _ => simp only [q] at h1
      | .list _ :: _, _ => simp only [q] at h1
      | .tuple _ :: _, _ => simp only [q] at h1
      | .dict _ :: _, _ => simp only [q] at h1
      | .int _ :: _ :: _, _ => simp only [q] at h1⟩
theorem ds_forR2 {a b tg : Expr} {body : List Stmt} {ta : TDA} {g : TDG} {ws : List Nat} {tb : TDS} {p pos' : Pos} (hp : PassesOwn (model X.prog X.w) X.A X.env X.xe) (hc : X.calm = true) (hgl : Gl X "range") (hm : X.mg "range" = none) (ha : DA X [a, b] ta) (hg : DG X tg ws g) (hb : DSs X W body tb)
    (hs : starEach [a, b] X.env = [(false, eval a X.env), (false, eval b X.env)] := by rfl) (hs2 : starEach [b] X.env = [(false, eval b X.env)] := by rfl) : DS X W (.For tg (.Call (.Name "range" p) [a, b] [] pos') body [] pos) (sForR2 ta g tb) :=
  ps_w (ps_for hp hc (pi_range2 hgl hm ha hs hs2) hg hb) fun D σ H ⟨c, G, ow, ε, A, R, h, k1, k2, k3, k4, k5⟩ => ⟨c, G, ow, ε, _, R, h, fun rs ε1 G1 H1 ow1 vs h1 F1 R1 V1 => by
    cases q : peekAll ε1 rs with
    | none => simp only [q] at h1
    | some xs =>
      have P := peekAll_ok R1 V1 q
      have key : ∃ i j, xs = [.int i, .int j] := by
        rw [q] at h1
        split at h1
        · rename_i i j e
          exact ⟨i, j, Option.some.inj e⟩
        · exact h1.elim
      obtain ⟨i, j, rfl⟩ := key
      simp only [q] at h1
      match P with
      | .cons d (.cons d2 .nil) =>
        refine ⟨i, j, by rw [Pk.int d, Pk.int d2], h1.1, for_core R1 F1 h1.2 (fun i x H' G' ow' σ' ε' hx _ f1 r1 => ?_) (fun H' G' ow' σ' ε' _ f1 r1 => by rw [rngD_len]; exact Nat.le_refl _) k1 k2 k5⟩
        obtain ⟨z1, rfl⟩ := rngD_get hx
        exact ⟨z1, fun y H2 hy => ⟨hy.1, by rw [hy.2]; exact .int _⟩⟩⟩
end

/-! ### comprehensions -/
def dYes : TDT := fun ε A => A true ε
def lcGo (I : Ep → Prop) (g : TDG) (tt : TDT) (te : TD) (vs : List Nat) (A : List PyData → Ep → Prop) : List PyData → List PyData → Ep → Prop
  | [], acc, ε => I ε ∧ A acc ε
  | x :: ds, acc, ε => I ε ∧ g x ε fun ε1 => tt ε1 fun b ε2 => onB b (te ε2 fun r ε3 => match frz ε3 r with
      | some (y, ε4) => acc.length < 1000000 ∧ lcGo I g tt te vs A ds (acc ++ [y]) (wipeE ε4 vs)
      | none => False) (lcGo I g tt te vs A ds acc (wipeE ε2 vs))
def dLcL (t : TD) (g : TDG) (tt : TDT) (te : TD) (vs : List Nat) : TD := fun ε A => t ε fun r ε1 => match frz ε1 r with
  | some (.list ds, ε2) => lcGo noI g tt te vs (fun acc ε' => A (.new acc) (rstE ε2 ε' vs)) ds [] (wipeE ε2 vs)
  | _ => False
def dLcT (t : TD) (g : TDG) (tt : TDT) (te : TD) (vs : List Nat) : TD := fun ε A => t ε fun r ε1 => match frz ε1 r with
  | some (.tuple ds, ε2) => lcGo noI g tt te vs (fun acc ε' => A (.new acc) (rstE ε2 ε' vs)) ds [] (wipeE ε2 vs)
  | _ => False
def dLcR (t : TDA) (g : TDG) (tt : TDT) (te : TD) (vs : List Nat) : TD := fun ε A => t ε fun rs ε1 => match peekAll ε1 rs with
  | some [.int j] => -(2 ^ 62) ≤ j ∧ j < 2 ^ 62 ∧ lcGo noI g tt te vs (fun acc ε' => A (.new acc) (rstE ε1 ε' vs)) (rngD 0 j.toNat) [] (wipeE ε1 vs)
  | _ => False
section
variable {K : PySem.W.Frag}
theorem mut_tmp {c : Ct} {Gs Hs G H : Hp} {ows ow : Ow} {σ : L2.St} {ε : Ep} {D : Addr} {o : HO} (R : Rep K c G H ow σ ε) (F : Fr Gs Hs ows G H ow) (h0 : Hs D = none) (h1 : ow D = none) (h2 : G D = none) : Fr Gs Hs ows G (upd H D o) ow ∧ Rep K c G (upd H D o) ow σ ε := by
  refine ⟨⟨F.ex, fun a u z1 z2 => ?_, fun a z => ?_⟩, ⟨same_mut R.ex h2 o, fun a z => ?_, R.len, fun j s z => ?_⟩⟩
  · rw [upd_ne (ne_of_none z1 h0)]
    exact F.st a u z1 z2
  · by_cases ha : a = D
    · rw [ha]; exact h0
    · rw [upd_ne ha] at z
      exact F.dom a z
  · by_cases ha : a = D
    · rw [ha, upd_same] at z
      cases z
    · rw [upd_ne ha] at z
      exact R.dom a z
  · refine (R.sl j s z).grow (Same.refl G) fun q u z1 z2 z3 => ⟨z1, z2, ?_⟩
    rw [upd_ne (fun e => by rw [e, h1] at z1; cases z1)]
    exact z3
theorem lc_core {c : Ct} {G0 H0 : Hp} {ow0 : Ow} {G H : Hp} {ow : Ow} {σ : L2.St} {ε : Ep} {A : List PyData → Ep → Prop} {Q : VK} {J : It} {Ii : Ep → Prop} {g : TDG} {ws vs : List Nat} {tt : TDT} {te : TD} {ds : List PyData} (hws : ∀ j ∈ ws, j ∈ vs) (R : Rep K c G H ow σ ε) (F : Fr G0 H0 ow0 G H ow)
    (h : lcGo Ii g tt te vs A ds [] (wipeE ε vs))
    (hgo : ∀ i x H' G' ow' ε', ds[i]? = some x → Ii ε' → Fr G H ow G' H' ow' → Rep K c G' H' ow' (wipe σ vs) ε' → J.go i H' ∧ ∀ y H2, J.yld i H' y H2 → H2 = H' ∧ Dd K G' y x) (hst : ∀ H' G' ow' ε', Ii ε' → Fr G H ow G' H' ow' → Rep K c G' H' ow' (wipe σ vs) ε' → J.stop ds.length H')
    (kk : ∀ acc ε' G' H' ow' v, A acc ε' → Fr G0 H0 ow0 G' H' ow' → Rep K c G' H' ow' σ (rstE ε ε' vs) → VOk K H0 G' H' ow' σ (.new acc) v → Q v H') :
    ∀ D, H D = none → ∃ W : Nat → Nat → Hp → Prop, (∃ m, W 0 m (upd H D (.lst []))) ∧ ∀ i m H, W i m H →
      (J.stop i H ∧ Q (.ref D) H) ∨ (J.go i H ∧ ∃ Nx : Hp → Prop, (∀ H', Nx H' → ∃ m', m' < m ∧ W (i + 1) m' H') ∧ ∀ x H', J.yld i H x H' → rdG K ws g x (wipe σ vs) H' fun σ2 H2 => wipe σ2 vs = wipe σ vs ∧ rdT K tt σ2 H2 fun b H3 =>
        if b = true then rdV K te σ2 H3 fun y H4 => ∃ acc, H4 D = some (.lst acc) ∧ acc.length < sizeLine ∧ Nx (upd H4 D (.lst (acc ++ [y]))) else Nx H3) := by
  intro D hD
  have Rw := rep_wipe vs R
  obtain ⟨F1, R1, z1, z2⟩ := grow_new (o := .lst []) Rw hD
  refine ⟨fun i m H' => m + i = ds.length ∧ ∃ G' ow' ε' acc va, Fr G H ow G' H' ow' ∧ Rep K c G' H' ow' (wipe σ vs) ε' ∧ ow' D = none ∧ G' D = none ∧ H' D = some (.lst va) ∧ DdAll K G' va acc ∧ lcGo Ii g tt te vs A (ds.drop i) acc ε', ⟨ds.length, rfl, G, _, _, [], [], F1, R1, z1, z2, upd_same, .nil, h⟩, ?_⟩
  rintro i m H1 ⟨em, G1, ow1, ε1, acc, va, F1, R1, d1, d2, d3, d4, h1⟩
  by_cases hi : i < ds.length
  · have hx : ds[i]? = some ds[i] := List.getElem?_eq_getElem hi
    rw [List.drop_eq_getElem_cons hi] at h1
    obtain ⟨hI, h1⟩ := h1
    obtain ⟨g1, g2⟩ := hgo i _ H1 G1 ow1 ε1 hx hI F1 R1
    refine .inr ⟨g1, fun H' => (m - 1) + (i + 1) = ds.length ∧ ∃ G' ow' ε' acc va, Fr G H ow G' H' ow' ∧ Rep K c G' H' ow' (wipe σ vs) ε' ∧ ow' D = none ∧ G' D = none ∧ H' D = some (.lst va) ∧ DdAll K G' va acc ∧ lcGo Ii g tt te vs A (ds.drop (i + 1)) acc ε', fun H' q => ⟨m - 1, by omega, q⟩, fun y H2 hy => ?_⟩
    obtain ⟨rfl, d⟩ := g2 y H2 hy
    refine ⟨c, G1, ow1, ε1, ds[i], _, R1, d, h1, fun ε2 σ2 G2 H2 ow2 q F2 R2 W2 => ⟨?_, c, G2, ow2, ε2, _, R2, q, fun b ε3 G3 H3 ow3 q3 F3 R3 => ?_⟩⟩
    · have := W2 vs hws
      rw [this]
      apply List.ext_getElem?
      intro j
      by_cases hj : j ∈ vs
      · by_cases hl : j < σ.length
        · rw [wipe_in hj hl, wipe_in hj (by rw [wipe_length]; exact hl)]
        · rw [List.getElem?_eq_none (by rw [wipe_length, wipe_length]; omega), List.getElem?_eq_none (by rw [wipe_length]; omega)]
      · rw [wipe_out hj]
    · have ew : wipe σ2 vs = wipe σ vs := by
        have := W2 vs hws
        rw [this]
        apply List.ext_getElem?
        intro j
        by_cases hj : j ∈ vs
        · by_cases hl : j < σ.length
          · rw [wipe_in hj hl, wipe_in hj (by rw [wipe_length]; exact hl)]
          · rw [List.getElem?_eq_none (by rw [wipe_length, wipe_length]; omega), List.getElem?_eq_none (by rw [wipe_length]; omega)]
        · rw [wipe_out hj]
      have F13 := F2.trans F3
      obtain ⟨s1, s2, s3⟩ := F13.st D _ d3 d1
      cases b with
      | false =>
        refine iteF ⟨by omega, G3, ow3, _, acc, va, F1.trans F13, ?_, s2, s3 d2, s1, dpa_ex F13.ex _ d4, q3⟩
        rw [← ew]
        exact rep_wipe vs R3
      | true =>
        refine iteT ⟨c, G3, ow3, ε3, _, R3, q3, fun r ε4 G4 H4 ow4 v q4 F4 R4 V4 => ?_⟩
        cases qf : frz ε4 r with
        | none => simp only [qf] at q4
        | some z =>
          obtain ⟨y, ε5⟩ := z
          simp only [qf] at q4
          obtain ⟨G5, F5, sg, R5, dy⟩ := frz_ok F4 R4 V4 qf
          obtain ⟨t1, t2, t3⟩ := F5.st D _ s1 s2
          refine ⟨va, t1, ?_, by omega, ?_⟩
          · rw [dpa_len d4]
            exact line_lt q4.1
          · have Fa := (F1.trans F13).trans F5
            obtain ⟨Fb, Rb⟩ := mut_tmp (o := .lst (va ++ [v])) R5 Fa hD t2 (t3 (s3 d2))
            refine ⟨G5, ow4, _, acc ++ [y], va ++ [v], Fb, ?_, t2, t3 (s3 d2), upd_same, dpa_app (dpa_ex (F13.ex.trans F5.ex) _ d4) (dpa_one dy), q4.2⟩
            rw [← ew]
            exact rep_wipe vs Rb
  · have e : i = ds.length := by omega
    subst e
    rw [List.drop_length] at h1
    exact .inl ⟨hst H1 G1 ow1 ε1 h1.1 F1 R1, kk acc ε1 G1 H1 ow1 (.ref D) h1.2 (F.trans F1) (rep_rst R F1.ex R1) ⟨D, va, rfl, F.dom D hD, d1, d2, d3, d4⟩⟩
variable {t : TD} {ta : TDA} {g : TDG} {tt : TDT} {te : TD} {ws vs : List Nat} {σ : L2.St} {H : Hp} {Q : VK}
theorem lcL_rd (hws : ∀ j ∈ ws, j ∈ vs) (h : rdV K (dLcL t g tt te vs) σ H Q) : tLc (iList K (rdV K t)) (rdG K ws g) (rdT K tt) (rdV K te) vs σ H Q := by
  obtain ⟨c, G, ow, ε, A, R, h, kk⟩ := h
  refine ⟨c, G, ow, ε, _, R, h, fun r ε1 G1 H1 ow1 v h1 F1 R1 V1 => ?_⟩
  cases q : frz ε1 r with
  | none => simp only [q] at h1
  | some z =>
    obtain ⟨x, ε2⟩ := z
    obtain ⟨G2, F2, sg, R2, d⟩ := frz_ok F1 R1 V1 q
    cases x with
    | list ds =>
      simp only [q] at h1
      cases d with
      | lst hs ha =>
        rename_i a us
        refine ⟨a, rfl, ⟨us, R2.ex.seq hs⟩, lc_core hws R2 F2 h1 (fun i x H' G' ow' ε' hx _ f1 r1 => ?_) (fun H' G' ow' ε' _ f1 r1 => ⟨us, r1.ex.seq (f1.ex.seq hs), by rw [dpa_len ha]; exact Nat.le_refl _⟩) fun acc ε' G' H' ow' v q F R V => kk _ _ G' H' ow' v q F R V⟩
        obtain ⟨u, hu, du⟩ := dpa_get ha hx
        have hS : SqL K H' a us := r1.ex.seq (f1.ex.seq hs)
        refine ⟨⟨us, u, hS, hu⟩, fun y H2 hy => ⟨hy.1, ?_⟩⟩
        have e := hy.2 us hS
        rw [hu] at e
        cases e
        exact dp_ex f1.ex _ du
    | _ => simp only [q] at h1
theorem lcT_rd (hws : ∀ j ∈ ws, j ∈ vs) (h : rdV K (dLcT t g tt te vs) σ H Q) : tLc (iTup K (rdV K t)) (rdG K ws g) (rdT K tt) (rdV K te) vs σ H Q := by
  obtain ⟨c, G, ow, ε, A, R, h, kk⟩ := h
  refine ⟨c, G, ow, ε, _, R, h, fun r ε1 G1 H1 ow1 v h1 F1 R1 V1 => ?_⟩
  cases q : frz ε1 r with
  | none => simp only [q] at h1
  | some z =>
    obtain ⟨x, ε2⟩ := z
    obtain ⟨G2, F2, sg, R2, d⟩ := frz_ok F1 R1 V1 q
    cases x with
    | tuple ds =>
      simp only [q] at h1
      cases d with
      | tup hs ha =>
        rename_i a us
        refine ⟨a, rfl, ⟨us, seqT R2.ex hs⟩, lc_core hws R2 F2 h1 (fun i x H' G' ow' ε' hx _ f1 r1 => ?_) (fun H' G' ow' ε' _ f1 r1 => ⟨us, seqT r1.ex (seqT f1.ex hs), by rw [dpa_len ha]; exact Nat.le_refl _⟩) fun acc ε' G' H' ow' v q F R V => kk _ _ G' H' ow' v q F R V⟩
        obtain ⟨u, hu, du⟩ := dpa_get ha hx
        have hS : SqT K H' a us := seqT r1.ex (seqT f1.ex hs)
        refine ⟨⟨us, u, hS, hu⟩, fun y H2 hy => ⟨hy.1, ?_⟩⟩
        have e := hy.2 us hS
        rw [hu] at e
        cases e
        exact dp_ex f1.ex _ du
    | _ => simp only [q] at h1
theorem lcR_rd (hws : ∀ j ∈ ws, j ∈ vs) (h : rdV K (dLcR ta g tt te vs) σ H Q) : tLc (iRng1 (rdA K ta)) (rdG K ws g) (rdT K tt) (rdV K te) vs σ H Q := by
  obtain ⟨c, G, ow, ε, A, R, h, kk⟩ := h
  refine ⟨c, G, ow, ε, _, R, h, fun rs ε1 G1 H1 ow1 us h1 F1 R1 V1 => ?_⟩
  cases q : peekAll ε1 rs with
  | none => simp only [q] at h1
  | some xs =>
    have P := peekAll_ok R1 V1 q
    have key : ∃ j, xs = [.int j] := by
      rw [q] at h1
      split at h1
      · rename_i j e
        exact ⟨j, Option.some.inj e⟩
      · exact h1.elim
    obtain ⟨j, rfl⟩ := key
    simp only [q] at h1
    match P with
    | .cons d .nil =>
      refine ⟨j, by rw [Pk.int d], h1.1, h1.2.1, lc_core hws R1 F1 h1.2.2 (fun i x H' G' ow' ε' hx _ f1 r1 => ?_) (fun H' G' ow' ε' _ f1 r1 => by rw [rngD_len]; exact Nat.le_refl _) fun acc ε' G' H' ow' v q F R V => kk _ _ G' H' ow' v q F R V⟩
      obtain ⟨z1, rfl⟩ := rngD_get hx
      exact ⟨z1, fun y H2 hy => ⟨hy.1, by rw [hy.2]; exact .int _⟩⟩
end
section
variable {X : Cx} {elt tg iter : Expr} {ifs : List Expr} {scope : Scope} {own : List (Str × Nat)} {pos spos py : Pos} {t : TD} {ta : TDA} {g : TDG} {tt : TDT} {te : TD} {ws : List Nat} {i : Nat} {y : Str}
abbrev DTs (X : Cx) (ifs : List Expr) (t : TDT) : Prop := PTs X ifs (rdT X.K t)
theorem dts_nil : DTs X [] dYes := ⟨fun pins s σ H Q I ⟨c, G, ow, ε, A, R, h, kk⟩ => pts_nil.run pins s σ H Q I (kk true ε G H ow h (Fr.refl _ _ _) R)⟩
theorem dts_one {c : Expr} {t : TDT} (h : DT X c t) : DTs X [c] t := pts_one h
/-- what a comprehension's block asks: target, tests, element within the block -/
structure Blk (X : Cx) (tg : Expr) (ifs : List Expr) (elt : Expr) (scope : Scope) (own : List (Str × Nat)) (ws : List Nat) (g : TDG) (tt : TDT) (te : TD) : Prop where
  ok : BlkOk X.N X.env.scope scope own
  sub : ∀ j ∈ ws, j ∈ own.map (·.2)
  tgt : ∀ (s : Shared) (H : Hp) (C : Addr) (cl : List (Str × Addr)) (fp : List Addr), DG (X.blk s H scope (compEnvC scope cl C X.env) fp) tg ws g
  tst : ∀ (s : Shared) (H : Hp) (C : Addr) (cl : List (Str × Addr)) (fp : List Addr), DTs (X.blk s H scope (compEnvC scope cl C X.env) fp) ifs tt
  elt : ∀ (s : Shared) (H : Hp) (C : Addr) (cl : List (Str × Addr)) (fp : List Addr), DV (X.blk s H scope (compEnvC scope cl C X.env) fp) elt te
theorem dv_lcL (hc : X.calm = true) (hN : X.N.Nodup) (hi : DV X iter t) (b : Blk X tg ifs elt scope own ws g tt te) (hs : ∀ x, foldedSetIterable iter X.env x = pure x := by intro _; rfl) : DV X (.ListComp elt [⟨tg, iter, ifs, 0⟩] scope pos) (dLcL t g tt te (own.map (·.2))) :=
  pe_w (pe_lc hc hN (pi_list hi) b.ok b.tgt b.tst b.elt hs) fun _ _ _ h => lcL_rd b.sub h
theorem dv_lcT (hc : X.calm = true) (hN : X.N.Nodup) (hi : DV X iter t) (b : Blk X tg ifs elt scope own ws g tt te) (hs : ∀ x, foldedSetIterable iter X.env x = pure x := by intro _; rfl) : DV X (.ListComp elt [⟨tg, iter, ifs, 0⟩] scope pos) (dLcT t g tt te (own.map (·.2))) :=
  pe_w (pe_lc hc hN (pi_tup hi) b.ok b.tgt b.tst b.elt hs) fun _ _ _ h => lcT_rd b.sub h
theorem dv_lcR {a : Expr} {p pos' : Pos} (hc : X.calm = true) (hN : X.N.Nodup) (hgl : Gl X "range") (hm : X.mg "range" = none) (ha : DA X [a] ta) (b : Blk X tg ifs elt scope own ws g tt te) (hs : starEach [a] X.env = [(false, eval a X.env)] := by rfl) :
    DV X (.ListComp elt [⟨tg, .Call (.Name "range" p) [a] [] pos', ifs, 0⟩] scope pos) (dLcR ta g tt te (own.map (·.2))) :=
  pe_w (pe_lc hc hN (pi_range1 hgl hm ha hs) b.ok b.tgt b.tst b.elt) fun _ _ _ h => lcR_rd b.sub h
theorem setlc_rd {K : PySem.W.Frag} {td : TD} {tl : TE} {σ : L2.St} {H : Hp} {D : Ends} (hr : ∀ Q : VK, rdV K td σ H Q → tl σ H Q) (hlen : i < σ.length) (h : rdS K W (sSet i td) D σ H) : tAsg tl (gName i) D σ H := by
  obtain ⟨c, G, ow, ε, A, R, h, k1, k2, k3, k4, k5⟩ := h
  refine hr _ ⟨c, G, ow, ε, _, R, h, fun r ε1 G1 H1 ow1 v h1 F1 R1 V1 => ?_⟩
  cases q : slOf ε1 r with
  | none => simp only [q] at h1
  | some z =>
    obtain ⟨s, ε2⟩ := z
    simp only [q] at h1
    obtain ⟨G2, ow2, F2, R2⟩ := store_sl F1 R.dom R1 V1 (by rw [← R1.len]; exact hlen) q
    exact k1 _ _ G2 H1 ow2 h1 F2 R2
theorem ds_lcL (hc : X.calm = true) (hN : X.N.Nodup) (hy : X.N[i]? = some y) (hyl : X.env.scope.names.lookup y = some .local) (hsw : swapsWith (.ListComp elt [⟨tg, iter, ifs, 0⟩] scope pos) (some (.Name y py)) spos.line X.env = pure true)
    (hi : DV X iter t) (b : Blk X tg ifs elt scope own ws g tt te) (hs : ∀ x, foldedSetIterable iter X.env x = pure x := by intro _; rfl) : DS X W (.Assign [.Name y py] (.ListComp elt [⟨tg, iter, ifs, 0⟩] scope pos) spos) (sSet i (dLcL t g tt te (own.map (·.2)))) :=
  ps_wl (ps_setLc hc hN hy hyl hsw (pi_list hi) b.ok b.tgt b.tst b.elt hs) fun _ _ _ hl h => setlc_rd (fun _ => lcL_rd b.sub) (by rw [hl]; exact (List.getElem?_eq_some_iff.mp hy).1) h
theorem ds_lcT (hc : X.calm = true) (hN : X.N.Nodup) (hy : X.N[i]? = some y) (hyl : X.env.scope.names.lookup y = some .local) (hsw : swapsWith (.ListComp elt [⟨tg, iter, ifs, 0⟩] scope pos) (some (.Name y py)) spos.line X.env = pure true)
    (hi : DV X iter t) (b : Blk X tg ifs elt scope own ws g tt te) (hs : ∀ x, foldedSetIterable iter X.env x = pure x := by intro _; rfl) : DS X W (.Assign [.Name y py] (.ListComp elt [⟨tg, iter, ifs, 0⟩] scope pos) spos) (sSet i (dLcT t g tt te (own.map (·.2)))) :=
  ps_wl (ps_setLc hc hN hy hyl hsw (pi_tup hi) b.ok b.tgt b.tst b.elt hs) fun _ _ _ hl h => setlc_rd (fun _ => lcT_rd b.sub) (by rw [hl]; exact (List.getElem?_eq_some_iff.mp hy).1) h
theorem ds_lcR {a : Expr} {p pos' : Pos} (hc : X.calm = true) (hN : X.N.Nodup) (hy : X.N[i]? = some y) (hyl : X.env.scope.names.lookup y = some .local) (hsw : swapsWith (.ListComp elt [⟨tg, .Call (.Name "range" p) [a] [] pos', ifs, 0⟩] scope pos) (some (.Name y py)) spos.line X.env = pure true)
    (hgl : Gl X "range") (hm : X.mg "range" = none) (ha : DA X [a] ta) (b : Blk X tg ifs elt scope own ws g tt te) (hs : starEach [a] X.env = [(false, eval a X.env)] := by rfl) : DS X W (.Assign [.Name y py] (.ListComp elt [⟨tg, .Call (.Name "range" p) [a] [] pos', ifs, 0⟩] scope pos) spos) (sSet i (dLcR ta g tt te (own.map (·.2)))) :=
  ps_wl (ps_setLc hc hN hy hyl hsw (pi_range1 hgl hm ha hs) b.ok b.tgt b.tst b.elt) fun _ _ _ hl h => setlc_rd (fun _ => lcR_rd b.sub) (by rw [hl]; exact (List.getElem?_eq_some_iff.mp hy).1) h
end

/-! ### a list of the def's own is walked, left as it is -/
def sForB (j : Nat) (g : TDG) (b : TDS) : TDS := fun A ε => match look ε j with
  | .lst fr xs => forGo (fun ε' => look ε' j = .lst fr xs) g b { nx := A.nx, rt := A.rt, bk := A.bk, ct := A.ct, xc := A.xc } xs ε
  | _ => False
def dLcB (j : Nat) (g : TDG) (tt : TDT) (te : TD) (vs : List Nat) : TD := fun ε A => match look ε j with
  | .lst fr xs => lcGo (fun ε' => look ε' j = .lst fr xs) g tt te vs (fun acc ε' => A (.new acc) (rstE ε ε' vs)) xs [] (wipeE ε vs)
  | _ => False
section
variable {K : PySem.W.Frag} {t : TD} {g : TDG} {tt : TDT} {te : TD} {ws vs : List Nat} {σ : L2.St} {H : Hp} {Q : VK} {j : Nat}
theorem lcB_rd (hws : ∀ j ∈ ws, j ∈ vs) (h : rdV K (dLcB j g tt te vs) σ H Q) : tLc (iList K (tVar j)) (rdG K ws g) (rdT K tt) (rdV K te) vs σ H Q := by
  obtain ⟨c, G, ow, ε, A, R, h, kk⟩ := h
  unfold dLcB at h
  cases hl : look ε j with
  | un => simp only [hl] at h
  | d _ => simp only [hl] at h
  | dct _ _ => simp only [hl] at h
  | v _ => simp only [hl] at h
  | nt _ _ => simp only [hl] at h
  | al _ _ _ => simp only [hl] at h
  | ex _ => simp only [hl] at h
  | lst fr xs =>
    simp only [hl] at h
    obtain ⟨o, ho⟩ := R.some_at (i := j) (by rw [hl]; exact fun z => nomatch z)
    have q0 := R.at ho
    rw [hl] at q0
    obtain ⟨p, us, rfl, _, _, hp, ha, _⟩ := q0
    have at_ : ∀ H' G' ow' ε', look ε' j = .lst fr xs → Rep K c G' H' ow' (wipe σ vs) ε' → ∃ us, SqL K H' p us ∧ DdAll K G' us xs := fun H' G' ow' ε' e r => by
      obtain ⟨o', ho'⟩ := r.some_at (i := j) (by rw [e]; exact fun z => nomatch z)
      have q := r.at ho'
      rw [e] at q
      obtain ⟨p', us', rfl, _, _, h3, h4, _⟩ := q
      have e2 := (wipe_some ho').1
      rw [ho] at e2
      cases e2
      exact ⟨us', .inl (.inl h3), h4⟩
    refine ⟨.ref p, ho, p, rfl, ⟨us, .inl (.inl hp)⟩, lc_core hws R (Fr.refl _ _ _) h (fun i x H' G' ow' ε' hx hI f1 r1 => ?_) (fun H' G' ow' ε' hI f1 r1 => ?_) fun acc ε' G' H' ow' v q F R V => kk _ _ G' H' ow' v q F R V⟩
    · obtain ⟨us2, hS, ha2⟩ := at_ H' G' ow' ε' hI r1
      obtain ⟨u, hu, du⟩ := dpa_get ha2 hx
      refine ⟨⟨us2, u, hS, hu⟩, fun y H2 hy => ⟨hy.1, ?_⟩⟩
      have e := hy.2 us2 hS
      rw [hu] at e
      cases e
      exact du
    · obtain ⟨us2, hS, ha2⟩ := at_ H' G' ow' ε' hI r1
      exact ⟨us2, hS, by rw [dpa_len ha2]; exact Nat.le_refl _⟩
end
section
variable {X : Cx} {elt tg : Expr} {ifs : List Expr} {scope : Scope} {own : List (Str × Nat)} {pos spos py pz : Pos} {g : TDG} {tt : TDT} {te : TD} {ws : List Nat} {i : Nat} {y z : Str}
theorem dv_lcB (j : Nat) (hc : X.calm = true) (hN : X.N.Nodup) (b : Blk X tg ifs elt scope own ws g tt te) (hz : X.N[j]? = some z := by rfl) (hv : Vis X.env.scope z := by first | exact Or.inl rfl | exact Or.inr (Or.inl rfl) | exact Or.inr (Or.inr rfl)) (hd : (z == ("__debug__" : Str)) = false := by decide)
    (hcd : (z == ("__classdict__" : Str)) = false := by decide) (hs : ∀ x, foldedSetIterable (.Name z pz) X.env x = pure x := by intro _; rfl) : DV X (.ListComp elt [⟨tg, .Name z pz, ifs, 0⟩] scope pos) (dLcB j g tt te (own.map (·.2))) :=
  pe_w (pe_lc hc hN (pi_list (pe_var hz hv hd hcd)) b.ok b.tgt b.tst b.elt hs) fun _ _ _ h => lcB_rd b.sub h
theorem ds_lcB (j : Nat) (hc : X.calm = true) (hN : X.N.Nodup) (hy : X.N[i]? = some y) (hyl : X.env.scope.names.lookup y = some .local) (hsw : swapsWith (.ListComp elt [⟨tg, .Name z pz, ifs, 0⟩] scope pos) (some (.Name y py)) spos.line X.env = pure true)
    (b : Blk X tg ifs elt scope own ws g tt te) (hz : X.N[j]? = some z := by rfl) (hv : Vis X.env.scope z := by first | exact Or.inl rfl | exact Or.inr (Or.inl rfl) | exact Or.inr (Or.inr rfl)) (hd : (z == ("__debug__" : Str)) = false := by decide)
    (hcd : (z == ("__classdict__" : Str)) = false := by decide) (hs : ∀ x, foldedSetIterable (.Name z pz) X.env x = pure x := by intro _; rfl) : DS X W (.Assign [.Name y py] (.ListComp elt [⟨tg, .Name z pz, ifs, 0⟩] scope pos) spos) (sSet i (dLcB j g tt te (own.map (·.2)))) :=
  ps_wl (ps_setLc hc hN hy hyl hsw (pi_list (pe_var hz hv hd hcd)) b.ok b.tgt b.tst b.elt hs) fun _ _ _ hl h => setlc_rd (fun _ => lcB_rd b.sub) (by rw [hl]; exact (List.getElem?_eq_some_iff.mp hy).1) h
end
/-! ### a def's promise over data -/
abbrev DSp := List Sl → (Vl → List Sl → Prop) → Prop
def runS (S : DSp) (qs : List Sl) (k : Vl → List Sl → Prop) : Prop := S qs k
def spD (K : PySem.W.Frag) (n : Nat) (S : DSp) : Sp := fun vs H Q _ => ∃ (c : Ct) (G : Hp) (ow : Ow) (ps : List Sl) (A : Vl → List Sl → Prop), c.H0 = H ∧ Rep K c G H ow (vs.map some) ps ∧ ps.length = n ∧ (∀ i p, c.par i = some p → vs[i]? = some (.ref p)) ∧ S ps A ∧
  ∀ r ps' v G' H' ow', A r ps' → Fr G H ow G' H' ow' → Rep K c G' H' ow' (vs.map some) ps' → VOk K H G' H' ow' [] r v → Q v H'
def finS : Sl → Sl
  | .lst false xs => .lst false xs
  | .dct false kvs => .dct false kvs
  | .nt false t => .nt false t
  | _ => .un
def fin : Nat → Ep → List Sl
  | 0, _ => []
  | n + 1, [] => .un :: fin n []
  | n + 1, s :: ε => finS s :: fin n ε
theorem fin_length : ∀ (n : Nat) (ε : Ep), (fin n ε).length = n
  | 0, _ => rfl
  | n + 1, [] => congrArg (· + 1) (fin_length n [])
  | n + 1, _ :: ε => congrArg (· + 1) (fin_length n ε)
theorem look_fin : ∀ {n : Nat} {ε : Ep} {i : Nat}, i < n → look (fin n ε) i = finS (look ε i)
  | 0, _, _, h => absurd h (Nat.not_lt_zero _)
  | _ + 1, [], 0, _ => rfl
  | n + 1, [], i + 1, h => look_fin (n := n) (ε := []) (Nat.lt_of_succ_lt_succ h)
  | _ + 1, _ :: _, 0, _ => rfl
  | n + 1, _ :: r, i + 1, h => look_fin (n := n) (ε := r) (Nat.lt_of_succ_lt_succ h)
theorem look_app : ∀ {a b : Ep} {i : Nat}, i < a.length → look (a ++ b) i = look a i
  | [], _, _, h => absurd h (Nat.not_lt_zero _)
  | _ :: _, _, 0, _ => rfl
  | _ :: r, b, i + 1, h => look_app (a := r) (b := b) (Nat.lt_of_succ_lt_succ h)
theorem look_app2 : ∀ {a b : Ep} {i : Nat}, a.length ≤ i → look (a ++ b) i = look b (i - a.length)
  | [], _, _, _ => rfl
  | _ :: _, _, 0, h => absurd h (Nat.not_succ_le_zero _)
  | _ :: r, b, i + 1, h => by
    show look (r ++ b) i = look b (i + 1 - (r.length + 1))
    rw [look_app2 (Nat.le_of_succ_le_succ h), Nat.add_sub_add_right]
def uns (n : Nat) : Ep := List.replicate n .un
theorem look_uns : ∀ (n i : Nat), look (uns n) i = .un
  | 0, _ => rfl
  | _ + 1, 0 => rfl
  | n + 1, i + 1 => look_uns n i
section
variable {P : Program} {w : World} {K : PySem.W.Frag} {mg : Str → Option Value} {base : Heap}
theorem rep_start {c : Ct} {G H : Hp} {ow : Ow} {vs : List V} {ps : List Sl} {N : List Str} (R : Rep K c G H ow (vs.map some) ps) (hN : vs.length ≤ N.length) : Rep K c G H ow (L2.start N vs) (ps ++ uns (N.length - vs.length)) := by
  have hl : vs.length = ps.length := by
    have := R.len
    rw [List.length_map] at this
    exact this
  refine ⟨R.ex, R.dom, ?_, fun j o z => ?_⟩
  · simp [L2.start, uns, hl]
  · by_cases hj : j < vs.length
    · unfold L2.start at z
      rw [List.getElem?_append_left (by simpa using hj)] at z
      rw [look_app (by omega)]
      exact R.sl j o z
    · rw [look_app2 (by omega), look_uns]
      trivial
theorem rep_end {c : Ct} {G H : Hp} {ow : Ow} {vs : List V} {n : Nat} {σ : L2.St} {ε : Ep} (hn : vs.length = n) (hp : ∀ i p, c.par i = some p → vs[i]? = some (.ref p)) (R : Rep K c G H ow σ ε) : Rep K c G H ow (vs.map some) (fin n ε) := by
  refine ⟨R.ex, R.dom, by rw [fin_length, List.length_map, hn], fun j o z => ?_⟩
  have hj : j < n := by
    have := (List.getElem?_eq_some_iff.mp z).1
    rw [List.length_map, hn] at this
    exact this
  rw [look_fin hj]
  cases hs : look ε j with
  | lst fr xs =>
    cases fr with
    | true => trivial
    | false =>
      obtain ⟨o', ho⟩ := R.some_at (i := j) (by rw [hs]; exact fun z => nomatch z)
      have q := R.at ho
      rw [hs] at q
      obtain ⟨p, us, e, h1, h2, h3, h4, h5, h6⟩ := q
      have hv := hp j p (h6 rfl)
      rw [List.getElem?_map, hv] at z
      cases z
      exact ⟨p, us, rfl, h1, h2, h3, h4, h5, h6⟩
  | un => trivial
  | d _ => trivial
  | dct fr kvs =>
    cases fr with
    | true => trivial
    | false =>
      obtain ⟨o', ho⟩ := R.some_at (i := j) (by rw [hs]; exact fun z => nomatch z)
      have q := R.at ho
      rw [hs] at q
      obtain ⟨p, us, e, h1, h2, h3, h4, h5, h6⟩ := q
      have hv := hp j p (h6 rfl)
      rw [List.getElem?_map, hv] at z
      cases z
      exact ⟨p, us, rfl, h1, h2, h3, h4, h5, h6⟩
  | nt fr t =>
    cases fr with
    | true => trivial
    | false =>
      obtain ⟨o', ho⟩ := R.some_at (i := j) (by rw [hs]; exact fun z => nomatch z)
      have q := R.at ho
      rw [hs] at q
      obtain ⟨v, e, h1, h2, h3, h4, h5⟩ := q
      obtain ⟨⟨p, e1, e2⟩, h6⟩ := h5 rfl
      have hv := hp j p e2
      rw [List.getElem?_map, hv] at z
      cases z
      subst e1
      exact ⟨_, rfl, h1, h2, h3, h4, h5⟩
  | v _ => trivial
  | al _ _ _ => trivial
  | ex _ => trivial
/-- THE RULE for a def over data -/
theorem fnD {x qual : Str} {st : Stmt} {f : Addr} {fd : FuncData} {N ps : List Str} {k n : Nat} {S : DSp} (F : Fun K x qual st f fd) (sc : FnScope N ps (defScope st)) (hn : ps.length = n) (t : TDS)
    (hbody : ∀ (cdv : Value) (A : Around) (outer : List Env) (s : Shared) (H : Hp) (E : XK), Room k (A.deeper (envOfC qual (defScope st) s.heap.objs.size f cdv)) → DSs (cxOf CX0 P w K mg base N qual (defScope st) f cdv A outer s H E).nox noW (defBody st) t)
    (h : ∀ (qs : List Sl) (A : Vl → List Sl → Prop), qs.length = n → S qs A → t { nx := fun ε => A (.d .none) (fin n ε), rt := fun r ε => A r (fin n ε) } (qs ++ uns (N.length - n))) : FnOk P w K mg base CX0 (k + 1) f fd ps (spD K n S) := by
  have hNl : n ≤ N.length := by
    have := congrArg List.length sc.pre
    rw [List.length_take] at this
    omega
  have vl : ∀ {c : Ct} {G H : Hp} {ow : Ow} {vs : List V} {qs : List Sl}, Rep K c G H ow (vs.map some) qs → qs.length = n → vs.length = n := fun {c G H ow vs qs} R e => by
    have := R.len
    rw [List.length_map] at this
    omega
  refine F.ok sc (fun vs H Q E q => ?_) (fun cdv A outer s H vs Q E hr q => ?_)
  · obtain ⟨c, G, ow, qs, B, e, R, hl, hp, hS, kk⟩ := q
    exact (vl R hl).trans hn.symm
  · obtain ⟨c, G, ow, qs, B, e, R, hl, hp, hS, kk⟩ := q
    have hv := vl R hl
    have R1 := rep_start (N := N) R (by rw [hv]; exact hNl)
    rw [hv] at R1
    refine ⟨_, hbody cdv A outer s H E hr, c, G, ow, _, _, R1, h qs B hl hS, fun ε' σ' G' H' ow' z F1 R2 => kk _ _ .non G' H' ow' z F1 (rep_end hv hp R2) .non,
      fun r ε' σ' G' H' ow' v z F1 R2 V2 => kk _ _ v G' H' ow' z F1 (rep_end hv hp R2) (by rw [e] at V2; exact V2), fun ε' σ' G' H' ow' z F1 R2 => z.elim, fun ε' σ' G' H' ow' z F1 R2 => z.elim, fun nm ε' σ' G' H' ow' z F1 R2 => z.elim⟩
end
/-! ### calls -/
def dCall (S : DSp) (t : TDF) : TD := fun ε A => t ε fun ds ε1 => runS S (ds.map .d) fun r _ => A r ε1
/-- the first argument a list of the def's own, handed in to be changed -/
def dCallS (j : Nat) (S : DSp) (t : TDF) : TD := fun ε A => match look ε j with
  | .lst _ _ => t ε fun ds ε1 => match look ε1 j with
    | .lst fr xs => runS S (.lst false xs :: ds.map .d) fun r ps => match ps with
      | .lst false ys :: _ => A r (put ε1 j (.lst fr ys))
      | _ => False
    | _ => False
  | _ => False
section
variable {X : Cx} {k n : Nat} {f : Addr} {fd : FuncData} {ps : List Str} {S : DSp} {x : Str} {p pos : Pos} {e : Expr} {es : List Expr} {t : TDF} {K : PySem.W.Frag}
theorem look_mapd : ∀ (ds : List PyData) (i : Nat), (∃ d, ds[i]? = some d ∧ look (ds.map Sl.d) i = .d d) ∨ look (ds.map Sl.d) i = .un
  | [], _ => .inr rfl
  | d :: _, 0 => .inl ⟨d, rfl, rfl⟩
  | _ :: r, i + 1 => by
    rcases look_mapd r i with ⟨d, h1, h2⟩ | h
    · exact .inl ⟨d, by simpa using h1, h2⟩
    · exact .inr h
open Classical in
def owAt (H : Hp) (ow : Ow) : Ow := fun a => if H a = none then none else ow a
theorem owAt_some {H : Hp} {ow : Ow} {a : Addr} {o : HO} (h : H a = some o) : owAt H ow a = ow a := by unfold owAt; rw [if_neg (by rw [h]; exact fun z => nomatch z)]
theorem owAt_none {H : Hp} {ow : Ow} {a : Addr} (h : H a = none) : owAt H ow a = none := by unfold owAt; rw [if_pos h]
theorem dcall_rd {σ : L2.St} {H : Hp} {Q : VK} {E : XK} (hS : ∀ ps A, S ps A → ps.length = n) (h : rdV K (dCall S t) σ H Q) : tCall (spD K n S) [] E (rdF K t) σ H Q := by
  obtain ⟨c, G, ow, ε, A, R, h, kk⟩ := h
  refine ⟨c, G, ow, ε, _, R, h, fun ds ε1 G1 H1 ow1 vs h1 F1 R1 V1 => ?_⟩
  show spD K n S (vs ++ []) H1 Q E
  rw [List.append_nil]
  refine ⟨⟨H1, fun _ => none, fun _ => none⟩, G1, fun _ => none, ds.map .d, _, rfl, ⟨R1.ex, fun a z => z, by rw [List.length_map, List.length_map]; exact dpa_len V1, fun j o z => ?_⟩, hS _ _ h1, (fun i p z => by cases (show (none : Option Addr) = some p from z)), h1, fun r ps' v G2 H2 ow2 q F2 R2 V2 => ?_⟩
  · rcases look_mapd ds j with ⟨d, e1, e2⟩ | e2
    · rw [e2]
      obtain ⟨v, hv, hd⟩ := dpa_get V1 e1
      rw [List.getElem?_map, hv] at z
      cases z
      exact ⟨v, rfl, hd⟩
    · rw [e2]
      trivial
  · have F3 : Fr G1 H1 ow1 G2 H2 (owAt H1 ow1) := ⟨F2.ex, fun a o z1 z2 => by
      obtain ⟨q1, q2, q3⟩ := F2.st a o z1 rfl
      rw [owAt_some z1]
      exact ⟨q1, z2, q3⟩, F2.dom⟩
    have R3 : Rep K c G2 H2 (owAt H1 ow1) σ ε1 := ⟨R2.ex, fun a z => R1.dom a (F2.dom a z), R1.len, fun j o z => (R1.sl j o z).grow F2.ex fun p u z1 z2 z3 => by
      obtain ⟨q1, q2, q3⟩ := F2.st p u z3 rfl
      rw [owAt_some z3]
      exact ⟨z1, q3 z2, q1⟩⟩
    refine kk r ε1 G2 H2 _ v q (F1.trans F3) R3 ?_
    cases r with
    | d x => exact V2
    | v x => exact V2
    | bor i => exact nomatch (show ([] : L2.St)[i]? = some (some v) from V2)
    | new xs =>
      obtain ⟨p, us, e, h1, h2, h3, h4, h5⟩ := V2
      exact ⟨p, us, e, F1.dom p h1, owAt_none h1, h3, h4, h5⟩
    | dk _ =>
      obtain ⟨p, us, e, h1, h2, h3, h4, h5⟩ := V2
      exact ⟨p, us, e, F1.dom p h1, owAt_none h1, h3, h4, h5⟩
    | bp _ _ _ => exact V2
    | ex _ => exact V2
    | nt t => exact ⟨V2.1, V2.2.1, fun a ha => ⟨F1.dom a (V2.2.2 a ha).1, owAt_none (V2.2.2 a ha).1⟩⟩
theorem dv_call (F : FnOk X.prog X.w X.K X.mg X.base CX0 k f fd ps (spD X.K n S)) (hS : ∀ ps A, S ps A → ps.length = n) (hr : Room k X.A) (hg : Gl X x) (hm : X.mg x = some (.ref f)) (hk : PySem.W.keepIn X.K (.ref f) = true) (hb : Binds X.K fd ps [])
    (ha : DF X (e :: es) t) (hdb : (x == ("__debug__" : Str)) = false := by decide) (he : starEach (e :: es) X.env = (false, eval e X.env) :: starEach es X.env := by rfl) (hpl : (backTo pos (starEach es X.env)).any (·.1) = false := by rfl) :
    DV X (.Call (.Name x p) (e :: es) [] pos) (dCall S t) := pe_w (pe_call F hr hg hm hk hb .nil pass0 ha hdb he hpl) fun _ _ _ h => dcall_rd (E := E0) hS h
theorem dcallS_rd {j : Nat} {σ : L2.St} {H : Hp} {Q : VK} {E : XK} (hS : ∀ ps A, S ps A → ps.length = n) (h : rdV K (dCallS j S t) σ H Q) : tCall (spD K n S) [] E (tCons (tVar j) (rdF K t)) σ H Q := by
  obtain ⟨c, G, ow, ε, A, R, h, kk⟩ := h
  unfold dCallS at h
  cases hl : look ε j with
  | un => simp only [hl] at h
  | d _ => simp only [hl] at h
  | dct _ _ => simp only [hl] at h
  | v _ => simp only [hl] at h
  | nt _ _ => simp only [hl] at h
  | al _ _ _ => simp only [hl] at h
  | ex _ => simp only [hl] at h
  | lst fr0 xs0 =>
    simp only [hl] at h
    obtain ⟨o, ho⟩ := R.some_at (i := j) (by rw [hl]; exact fun z => nomatch z)
    have q0 := R.at ho
    rw [hl] at q0
    obtain ⟨p, vs0, rfl, _⟩ := q0
    refine ⟨.ref p, ho, c, G, ow, ε, _, R, h, fun ds ε1 G1 H1 ow1 vs h1 F1 R1 V1 => ?_⟩
    cases hl1 : look ε1 j with
    | un => simp only [hl1] at h1
    | d _ => simp only [hl1] at h1
    | dct _ _ => simp only [hl1] at h1
    | v _ => simp only [hl1] at h1
    | nt _ _ => simp only [hl1] at h1
    | al _ _ _ => simp only [hl1] at h1
    | ex _ => simp only [hl1] at h1
    | lst fr xs =>
      simp only [hl1] at h1
      have q1 := R1.at ho
      rw [hl1] at q1
      obtain ⟨p', us, e1, o1, o2, o3, o4, o5⟩ := q1
      cases e1
      show spD K n S (.ref p :: vs ++ []) H1 Q E
      rw [List.append_nil]
      have hj : j < ε1.length := look_lt (by rw [hl1]; exact fun z => nomatch z)
      refine ⟨⟨H1, fun _ => none, fun i => if i = 0 then some p else none⟩, G1, fun a => if a = p then some 0 else none, .lst false xs :: ds.map .d, _, rfl, ⟨R1.ex, fun a z => z, ?_, fun i o z => ?_⟩, hS _ _ h1, fun i p' z => ?_, h1, fun r ps' v G2 H2 ow2 q F2 R2 V2 => ?_⟩
      · simp [dpa_len V1]
      · cases i with
        | zero =>
          cases z
          exact ⟨p, us, rfl, if_pos rfl, o2, o3, o4, fun z => Bool.noConfusion z, fun _ => rfl⟩
        | succ i =>
          show SlOk _ _ _ _ _ _ (look (ds.map .d) i) o
          rcases look_mapd ds i with ⟨d, e1, e2⟩ | e2
          · rw [e2]
            obtain ⟨v, hv, hd⟩ := dpa_get V1 e1
            have z : (vs.map some)[i]? = some o := by simpa using z
            rw [List.getElem?_map, hv] at z
            cases z
            exact ⟨v, rfl, hd⟩
          · rw [e2]
            trivial
      · have z : (if i = 0 then some p else none) = some p' := z
        split at z
        · rename_i h0
          subst h0
          cases z
          rfl
        · cases z
      · have hps : ∃ ys r', ps' = .lst false ys :: r' := by
          split at q
          · exact ⟨_, _, rfl⟩
          · exact q.elim
        obtain ⟨ys, r', rfl⟩ := hps
        have q2 := R2.sl 0 (some (.ref p)) rfl
        obtain ⟨p2, ws, e2, w1, w2, w3, w4, _⟩ := (show SlOk _ _ _ _ _ _ (.lst false ys) (some (.ref p)) from q2)
        cases e2
        have ne : ∀ a, ow1 a = none → a ≠ p := fun a z e => by
          rw [e, o1] at z
          cases z
        have F3 : Fr G1 H1 ow1 G2 H2 (owAt H1 ow1) := ⟨F2.ex, fun a o z1 z2 => by
          obtain ⟨q1, q2, q3⟩ := F2.st a o z1 (if_neg (ne a z2))
          rw [owAt_some z1]
          exact ⟨q1, z2, q3⟩, F2.dom⟩
        have R3 : Rep K c G2 H2 (owAt H1 ow1) σ (put ε1 j (.lst fr ys)) := ⟨R2.ex, fun a z => R1.dom a (F2.dom a z), by rw [put_length]; exact R1.len, fun i o z => by
          by_cases hi : i = j
          · subst hi
            rw [look_put_self hj]
            rw [ho] at z
            cases z
            exact ⟨p, ws, rfl, by rw [owAt_some o3]; exact o1, w2, w3, w4, o5⟩
          · rw [look_put_ne hi]
            exact (R1.sl i o z).grow F2.ex fun p2 u z1 z2 z3 => by
              have hne : p2 ≠ p := fun e => by
                rw [e, o1] at z1
                exact hi (Option.some.inj z1).symm
              obtain ⟨q1, q2, q3⟩ := F2.st p2 u z3 (if_neg hne)
              rw [owAt_some z3]
              exact ⟨z1, q3 z2, q1⟩⟩
        refine kk r _ G2 H2 _ v q (F1.trans F3) R3 ?_
        cases r with
        | d x => exact V2
        | v x => exact V2
        | bor i => exact nomatch (show ([] : L2.St)[i]? = some (some v) from V2)
        | new xs =>
          obtain ⟨p, us, e, h1, h2, h3, h4, h5⟩ := V2
          exact ⟨p, us, e, F1.dom p h1, owAt_none h1, h3, h4, h5⟩
        | dk _ =>
          obtain ⟨p, us, e, h1, h2, h3, h4, h5⟩ := V2
          exact ⟨p, us, e, F1.dom p h1, owAt_none h1, h3, h4, h5⟩
        | bp _ _ _ => exact V2
        | ex _ => exact V2
        | nt t => exact ⟨V2.1, V2.2.1, fun a ha => ⟨F1.dom a (V2.2.2 a ha).1, owAt_none (V2.2.2 a ha).1⟩⟩
theorem dv_callS {y : Str} {py : Pos} (j : Nat) (F : FnOk X.prog X.w X.K X.mg X.base CX0 k f fd ps (spD X.K n S)) (hS : ∀ ps A, S ps A → ps.length = n) (hr : Room k X.A) (hg : Gl X x) (hm : X.mg x = some (.ref f)) (hk : PySem.W.keepIn X.K (.ref f) = true) (hb : Binds X.K fd ps [])
    (ha : DF X es t) (hN : X.N[j]? = some y := by rfl) (hv : Vis X.env.scope y := by first | exact Or.inl rfl | exact Or.inr (Or.inl rfl) | exact Or.inr (Or.inr rfl)) (hyd : (y == ("__debug__" : Str)) = false := by decide) (hcd : (y == ("__classdict__" : Str)) = false := by decide)
    (hdb : (x == ("__debug__" : Str)) = false := by decide) (he : starEach (.Name y py :: es) X.env = (false, eval (.Name y py) X.env) :: starEach es X.env := by rfl) (hpl : (backTo pos (starEach es X.env)).any (·.1) = false := by rfl) :
    DV X (.Call (.Name x p) (.Name y py :: es) [] pos) (dCallS j S t) := pe_w (pe_call F hr hg hm hk hb .nil pass0 (pa_cons (pe_var hN hv hyd hcd) ha he) hdb he hpl) fun _ _ _ h => dcallS_rd (E := E0) hS h
end

/-! ### operators over data -/
def kI0 (g : Int → Int → PyData) : PyData → PyData → (Vl → Prop) → Prop := fun x y A => match x, y with
  | .int i, .int j => A (.d (g i j))
  | _, _ => False
def kI (C : Int → Int → Prop) (g : Int → Int → PyData) : PyData → PyData → (Vl → Prop) → Prop := fun x y A => match x, y with
  | .int i, .int j => C i j ∧ A (.d (g i j))
  | _, _ => False
def kEq : PyData → PyData → (Vl → Prop) → Prop := fun x y A => SeqAt.shaped x = true ∧ SeqAt.shaped y = true ∧ A (.d (.bool (PyData.eqv x y)))
def kNe : PyData → PyData → (Vl → Prop) → Prop := fun x y A => SeqAt.shaped x = true ∧ SeqAt.shaped y = true ∧ A (.d (.bool (!PyData.eqv x y)))
def isN : PyData → Bool
  | .none => true
  | _ => false
def kIsN (neg : Bool) : PyData → PyData → (Vl → Prop) → Prop := fun x y A => match y with
  | .none => A (.d (.bool (if neg then !isN x else isN x)))
  | _ => False
def flatD : PyData → Bool
  | .none => true
  | .bool _ => true
  | .int _ => true
  | .str _ => true
  | _ => false
def inD (x : PyData) (ys : List PyData) : Bool := ys.any fun y => PyData.eqv y x
def kIn (neg : Bool) : PyData → PyData → (Vl → Prop) → Prop := fun x y A => match y with
  | .list ys => flatD x = true ∧ ys.all flatD = true ∧ A (.d (.bool (if neg then !inD x ys else inD x ys)))
  | .tuple ys => flatD x = true ∧ ys.all flatD = true ∧ A (.d (.bool (if neg then !inD x ys else inD x ys)))
  | _ => False
def kCat : PyData → PyData → (Vl → Prop) → Prop := fun x y A => match x, y with
  | .list xs, .list ys => xs.length + ys.length ≤ 1000000 ∧ A (.new (xs ++ ys))
  | _, _ => False
def kIx : PyData → PyData → (Vl → Prop) → Prop := fun x y A => match x, y with
  | .list xs, .int i => onO (atI xs i) fun d => A (.d d)
  | .tuple xs, .int i => onO (atI xs i) fun d => A (.d d)
  | _, _ => False
section
variable {K : PySem.W.Frag}
theorem od_I0 (g : Int → Int → Int) : OpD K (rI0 fun i j => .int (g i j)) (kI0 fun i j => .int (g i j)) := fun G H x y v1 v2 A Q e p1 p2 h k => by
  unfold kI0 at h
  split at h
  · cases p1.int
    cases p2.int
    exact ⟨_, _, rfl, rfl, k _ _ _ h (.val (.int _))⟩
  · exact h.elim
theorem od_B0 (g : Int → Int → Bool) : OpD K (rI0 fun i j => .bl (g i j)) (kI0 fun i j => .bool (g i j)) := fun G H x y v1 v2 A Q e p1 p2 h k => by
  unfold kI0 at h
  split at h
  · cases p1.int
    cases p2.int
    exact ⟨_, _, rfl, rfl, k _ _ _ h (.val (.bl _))⟩
  · exact h.elim
theorem od_I (C : Int → Int → Prop) (g : Int → Int → Int) : OpD K (rI C fun i j => .int (g i j)) (kI C fun i j => .int (g i j)) := fun G H x y v1 v2 A Q e p1 p2 h k => by
  unfold kI at h
  split at h
  · cases p1.int
    cases p2.int
    exact ⟨_, _, rfl, rfl, h.1, k _ _ _ h.2 (.val (.int _))⟩
  · exact h.elim
theorem od_eq : OpD K (rEqD K) kEq := fun G H x y v1 v2 A Q e p1 p2 h k => ⟨x, y, (p1.dp e).dp x (SeqAt.canLay_of_shaped h.1), (p2.dp e).dp y (SeqAt.canLay_of_shaped h.2.1), h.1, h.2.1, k _ _ _ h.2.2 (.val (.bl _))⟩
theorem od_ne : OpD K (rNeD K) kNe := fun G H x y v1 v2 A Q e p1 p2 h k => ⟨x, y, (p1.dp e).dp x (SeqAt.canLay_of_shaped h.1), (p2.dp e).dp y (SeqAt.canLay_of_shaped h.2.1), h.1, h.2.1, k _ _ _ h.2.2 (.val (.bl _))⟩
theorem isN_ok {G H : Hp} {x : PyData} {v : V} (p : Pk K G H v x) : decide (v = .non) = isN x := by
  rcases p with p | ⟨q, vs, xs, rfl, rfl, _⟩
  · cases p <;> rfl
  · rfl
theorem Pk.non {G H : Hp} {v : V} (p : Pk K G H v .none) : v = .non := by
  rcases p with p | ⟨q, vs, xs, _, e, _⟩
  · cases p; rfl
  · cases e
theorem od_isN : OpD K (fun x y H Q => y = .non ∧ Q (.bl (decide (x = .non))) H) (kIsN false) := fun G H x y v1 v2 A Q e p1 p2 h k => by
  unfold kIsN at h
  split at h
  · refine ⟨p2.non, ?_⟩
    rw [isN_ok p1]
    exact k _ _ _ h (.val (.bl _))
  · exact h.elim
theorem od_notN : OpD K (fun x y H Q => y = .non ∧ Q (.bl (!decide (x = .non))) H) (kIsN true) := fun G H x y v1 v2 A Q e p1 p2 h k => by
  unfold kIsN at h
  split at h
  · refine ⟨p2.non, ?_⟩
    rw [isN_ok p1]
    exact k _ _ _ h (.val (.bl _))
  · exact h.elim
theorem flat_ok {H : Hp} {v : V} : ∀ {x : PyData}, Dd K H v x → flatD x = true → flatV v = true
  | .none, h, _ => by cases h; rfl
  | .bool _, h, _ => by cases h; rfl
  | .int _, h, _ => by cases h; rfl
  | .str _, h, _ => by cases h; rfl
  | .list _, _, h => nomatch h
  | .tuple _, _, h => nomatch h
  | .dict _, _, h => nomatch h
theorem eqv_flat {H : Hp} {v u : V} {x y : PyData} (h1 : Dd K H v x) (h2 : Dd K H u y) (f1 : flatD x = true) (f2 : flatD y = true) : eqV u v = PyData.eqv y x := by
  cases h2 <;> first
    | (cases f2; done)
    | (cases h1 <;> first
        | (cases f1; done)
        | rfl
        | simp [eqV, PyData.eqv])
theorem flats_ok {H : Hp} : ∀ {vs : List V} {ys : List PyData}, DdAll K H vs ys → ys.all flatD = true → vs.all flatV = true
  | _, _, .nil, _ => rfl
  | _, _, .cons h t, f => by
    rw [List.all_cons, Bool.and_eq_true] at f ⊢
    exact ⟨flat_ok h f.1, flats_ok t f.2⟩
theorem inV_ok {H : Hp} {v : V} {x : PyData} (h1 : Dd K H v x) (f1 : flatD x = true) : ∀ {vs : List V} {ys : List PyData}, DdAll K H vs ys → ys.all flatD = true → inV v vs = inD x ys
  | _, _, .nil, _ => rfl
  | _, _, .cons h t, f => by
    rw [List.all_cons, Bool.and_eq_true] at f
    have ih := inV_ok h1 f1 t f.2
    unfold inV inD at ih ⊢
    rw [List.any_cons, List.any_cons, ih, eqv_flat h1 h f1 f.1]
theorem od_in (neg : Bool) : OpD K (rIn K neg) (kIn neg) := fun G H x y v1 v2 A Q e p1 p2 h k => by
  unfold kIn at h
  split at h
  · obtain ⟨p, vs, rfl, hs, ha⟩ := p2.list e
    obtain ⟨f1, f2, h⟩ := h
    refine ⟨p, vs, rfl, .inl hs, flat_ok (p1.dp e) f1, flats_ok ha f2, ?_⟩
    rw [inV_ok (p1.dp e) f1 (dpa_ex e _ ha) f2]
    exact k _ _ _ h (.val (.bl _))
  · obtain ⟨p, vs, rfl, hs, ha⟩ := p2.tuple e
    obtain ⟨f1, f2, h⟩ := h
    refine ⟨p, vs, rfl, .inr hs, flat_ok (p1.dp e) f1, flats_ok ha f2, ?_⟩
    rw [inV_ok (p1.dp e) f1 (dpa_ex e _ ha) f2]
    exact k _ _ _ h (.val (.bl _))
  · exact h.elim
/-- list + list, also of lists that may only be read -/
def rCatR (K : PySem.W.Frag) : R2 := fun x y H Q => ∃ l b xs zs, x = .ref l ∧ y = .ref b ∧ SqL K H l xs ∧ SqL K H b zs ∧ xs.length + zs.length ≤ sizeLine ∧ ∀ p, H p = none → Q (.ref p) (upd H p (.lst (xs ++ zs)))
theorem op_catR {X : Cx} : OpR X (binaryOp .Add) (rCatR X.K) := by
  intro pins s σ H x y v u Q I rx ry h
  obtain ⟨l, b, xs, zs, rfl, rfl, hH, hB, hz, q⟩ := h
  cases rx
  cases ry
  obtain ⟨is1, r, P1, _⟩ := I.list hH
  obtain ⟨is2, r2, P2, _⟩ := I.list hB
  obtain ⟨⟨c1, d1, dat1, sl1⟩, ho, hc, n, hd⟩ := P1.isList
  obtain ⟨⟨c2, d2, dat2, sl2⟩, ho2, hc2, n2, hd2⟩ := P2.isList
  simp only at hc hd hc2 hd2
  subst hc hd hc2 hd2
  have l1 := r.length
  have l2 := r2.length
  have hzz : (xs ++ zs).length ≤ sizeLine := by rw [List.length_append]; exact hz
  have fine : is1.toArray.size + is2.toArray.size ≤ sizeLine := by
    rw [List.size_toArray, List.size_toArray]
    omega
  refine concat_meets ⟨_, ho, rfl⟩ ⟨_, ho2, rfl⟩ noFill_list_add seq_list_add PySem.F.slot_list_add
    PySem.F.entry_list_add (PySem.F.args_list_add_2 _ _)
    (list_addW l b is1.toArray is2.toArray n n2 d1 d2 sl1 sl2 fine) ⟨ho, ho2, ?_⟩
  have ea : is1.toArray ++ is2.toArray = (is1 ++ is2).toArray := by simp
  rw [ea]
  exact ⟨.ref _, _, I.lnew (t' := s.toks) (r.append r2) hzz, rfl, q _ I.fresh⟩
theorem od_cat : OpD K (rCatR K) kCat := fun G H x y v1 v2 A Q e p1 p2 h k => by
  unfold kCat at h
  split at h
  · obtain ⟨p, vs, rfl, hs, ha⟩ := p1.list e
    obtain ⟨q, us, rfl, hs2, ha2⟩ := p2.list e
    exact ⟨p, q, vs, us, rfl, rfl, hs, hs2, by rw [dpa_len ha, dpa_len ha2]; exact line_le h.1, fun r hr => k _ _ _ h.2 (.lst hr (dpa_app ha ha2))⟩
  · exact h.elim
theorem at_ok {H : Hp} {vs : List V} {xs : List PyData} {i : Int} {d : PyData} (h : DdAll K H vs xs) (e : atI xs i = some d) : ∃ v, atI vs i = some v ∧ Dd K H v d := by
  unfold atI at e ⊢
  rw [dpa_len h]
  cases q : ixN xs.length i with
  | none => rw [q] at e; cases e
  | some j =>
    rw [q] at e
    exact dpa_get h e
theorem od_ix : OpD K (rIx K) kIx := fun G H x y v1 v2 A Q e p1 p2 h k => by
  unfold kIx at h
  split at h
  · obtain ⟨p, vs, rfl, hs, ha⟩ := p1.list e
    cases p2.int
    obtain ⟨d, hd, h⟩ := onO_get h
    obtain ⟨v, hv, dd⟩ := at_ok ha hd
    exact .inl ⟨p, vs, _, v, rfl, rfl, hs, hv, k _ _ _ h (.val dd)⟩
  · obtain ⟨p, vs, rfl, hs, ha⟩ := p1.tuple e
    cases p2.int
    obtain ⟨d, hd, h⟩ := onO_get h
    obtain ⟨v, hv, dd⟩ := at_ok ha hd
    exact .inr (.inl ⟨p, vs, _, v, rfl, rfl, hs, hv, k _ _ _ h (.val dd)⟩)
  · exact h.elim
end
/-! ### slices -/
abbrev TDO := Ep → (Option Int → Ep → Prop) → Prop
def rdO (K : PySem.W.Frag) (t : TDO) : TO := fun σ H Q => ∃ c G ow ε A, Rep K c G H ow σ ε ∧ t ε A ∧ ∀ o ε' G' H' ow', A o ε' → Fr G H ow G' H' ow' → Rep K c G' H' ow' σ ε' → Q o H'
abbrev DO (X : Cx) (e : Option Expr) (t : TDO) : Prop := PO X e (rdO X.K t)
def dNoPart : TDO := fun ε A => A none ε
def dPart (t : TD) : TDO := fun ε A => t ε fun r ε1 => match peek ε1 r with
  | some (.int i) => A (some i) ε1
  | _ => False
theorem po_w {X : Cx} {e : Option Expr} {t t' : TO} (h : PO X e t) (i : ∀ σ H Q, t' σ H Q → t σ H Q) : PO X e t' := ⟨fun pins s σ H Q I q => h.run pins s σ H Q I (i σ H Q q)⟩
theorem do_none {X : Cx} : DO X none dNoPart := po_w po_none fun σ H Q ⟨c, G, ow, ε, A, R, h, kk⟩ => kk none ε G H ow h (Fr.refl _ _ _) R
theorem do_some {X : Cx} {e : Expr} {t : TD} (h : DV X e t) : DO X (some e) (dPart t) := po_w (po_some h) fun σ H Q ⟨c, G, ow, ε, A, R, h, kk⟩ => ⟨c, G, ow, ε, _, R, h, fun r ε1 G1 H1 ow1 v h1 F1 R1 V1 => by
  split at h1
  · rename_i i e
    exact ⟨i, (peek_ok R1 V1 e).int, kk _ ε1 G1 H1 ow1 h1 F1 R1⟩
  · exact h1.elim⟩
def cutD (xs : List PyData) (lo hi : Option Int) : List PyData := (xs.drop (HT.sIx xs.length 0 lo)).take (HT.sIx xs.length xs.length hi - HT.sIx xs.length 0 lo)
def dSlL (t : TD) (tl th : TDO) : TD := fun ε A => t ε fun r ε1 => tl ε1 fun l ε2 => th ε2 fun u ε3 => match peek ε3 r with
  | some (.list xs) => A (.new (cutD xs l u)) ε3
  | _ => False
theorem cut_ok {K : PySem.W.Frag} {H : Hp} {vs : List V} {xs : List PyData} {lo hi : Option Int} (h : DdAll K H vs xs) : DdAll K H (cutV vs lo hi) (cutD xs lo hi) := by
  unfold cutV cutD
  rw [dpa_len h]
  exact dpa_take _ (dpa_drop _ h)
theorem dv_slL {X : Cx} {e : Expr} {lo hi : Option Expr} {t : TD} {tl th : TDO} {p2 pos : Pos} (he : DV X e t) (hl : DO X lo tl) (hh : DO X hi th) : DV X (.Subscript e (.Slice lo hi none p2) pos) (dSlL t tl th) :=
  pe_w (pe_slice sl_list he hl hh) fun σ H Q ⟨c, G, ow, ε, A, R, h, kk⟩ => ⟨c, G, ow, ε, _, R, h, fun r ε1 G1 H1 ow1 v h1 F1 R1 V1 => ⟨c, G1, ow1, ε1, _, R1, h1, fun l ε2 G2 H2 ow2 h2 F2 R2 => ⟨c, G2, ow2, ε2, _, R2, h2, fun u ε3 G3 H3 ow3 h3 F3 R3 => by
    have F := (F1.trans F2).trans F3
    split at h3
    · rename_i xs e
      obtain ⟨p, vs, rfl, hs, ha⟩ := (peek_ok R3 (V1.fr (F2.trans F3)) e).list R3.ex
      refine ⟨p, vs, rfl, hs, fun q hq => ?_⟩
      obtain ⟨G', ow', F4, R4, V4⟩ := res_fin R3 (.lst hq (cut_ok (lo := l) (hi := u) ha))
      exact kk _ _ G' _ ow' _ h3 (F.trans F4) R4 (V4.since F.dom)
    · exact h3.elim⟩⟩⟩
/-! ### built-ins over data -/
def kLen : List PyData → (Vl → Prop) → Prop := fun xs A => match xs with
  | [.list ys] => A (.d (.int (ys.length : Nat)))
  | [.tuple ys] => A (.d (.int (ys.length : Nat)))
  | [.str z] => z.length ≤ 1000000 ∧ A (.d (.int (z.length : Nat)))
  | _ => False
def kList : List PyData → (Vl → Prop) → Prop := fun xs A => match xs with
  | [.list ys] => A (.new ys)
  | [.tuple ys] => A (.new ys)
  | _ => False
def kTuple : List PyData → (Vl → Prop) → Prop := fun xs A => match xs with
  | [.list ys] => A (.d (.tuple ys))
  | [.tuple ys] => A (.d (.tuple ys))
  | _ => False
def kSorted : List PyData → (Vl → Prop) → Prop := fun xs A => ∃ ns : List Int, xs = [.list (ns.map .int)] ∧ ns.length < 64 ∧ ∀ ns' : List Int, ns'.Perm ns → ns'.Pairwise (· ≤ ·) → A (.new (ns'.map .int))
def kSortedS : List PyData → (Vl → Prop) → Prop := fun xs A => ∃ ns : List Str, xs = [.list (ns.map .str)] ∧ ns.length < 64 ∧ ∀ ns' : List Str, ns'.Perm ns → sortedS ns' = true → A (.new (ns'.map .str))
def kI2 (g : Int → Int → Int) : List PyData → (Vl → Prop) → Prop := fun xs A => match xs with
  | [.int i, .int j] => A (.d (.int (g i j)))
  | _ => False
def kAbs : List PyData → (Vl → Prop) → Prop := fun xs A => match xs with
  | [.int i] => A (.d (.int (if i < 0 then -i else i)))
  | _ => False
def kAll : List PyData → (Vl → Prop) → Prop := fun xs A => ∃ bs : List Bool, xs = [.list (bs.map .bool)] ∧ A (.d (.bool (bs.all id)))
def kAny : List PyData → (Vl → Prop) → Prop := fun xs A => ∃ bs : List Bool, xs = [.list (bs.map .bool)] ∧ A (.d (.bool (bs.any id)))
section
variable {K : PySem.W.Frag}
theorem pk1 {G H : Hp} {vs : List V} {x : PyData} (h : PkAll K G H vs [x]) : ∃ v, vs = [v] ∧ Pk K G H v x := by
  cases h with
  | cons h1 t => cases t; exact ⟨_, rfl, h1⟩
theorem pk2 {G H : Hp} {vs : List V} {x y : PyData} (h : PkAll K G H vs [x, y]) : ∃ v u, vs = [v, u] ∧ Pk K G H v x ∧ Pk K G H u y := by
  cases h with
  | cons h1 t =>
    obtain ⟨u, rfl, h2⟩ := pk1 t
    exact ⟨_, u, rfl, h1, h2⟩
theorem cd_len : CallD K (fun xs H Q => ∃ x n, xs = [x] ∧ LenV K x H n ∧ Q (.int n) H) kLen := fun G H xs vs A Q e p h k => by
  unfold kLen at h
  split at h
  · obtain ⟨v, rfl, p1⟩ := pk1 p
    obtain ⟨a, us, rfl, hs, ha⟩ := p1.list e
    exact ⟨_, _, rfl, .inl ⟨us, hs, (dpa_len ha).symm⟩, k _ _ _ h (.val (.int _))⟩
  · obtain ⟨v, rfl, p1⟩ := pk1 p
    obtain ⟨a, us, rfl, hs, ha⟩ := p1.tuple e
    exact ⟨_, _, rfl, .inr ⟨us, hs, (dpa_len ha).symm⟩, k _ _ _ h (.val (.int _))⟩
  · obtain ⟨v, rfl, p1⟩ := pk1 p
    cases p1.str
    exact ⟨_, _, rfl, ⟨line_le h.1, rfl⟩, k _ _ _ h.2 (.val (.int _))⟩
  · exact h.elim
theorem cd_list : CallD K (fun xs H Q => ∃ p ys, xs = [.ref p] ∧ (SqL K H p ys ∨ SqT K H p ys) ∧ ∀ l, H l = none → Q (.ref l) (upd H l (.lst ys))) kList := fun G H xs vs A Q e p h k => by
  unfold kList at h
  split at h
  · obtain ⟨v, rfl, p1⟩ := pk1 p
    obtain ⟨a, us, rfl, hs, ha⟩ := p1.list e
    exact ⟨_, us, rfl, .inl hs, fun l hl => k _ _ _ h (.lst hl ha)⟩
  · obtain ⟨v, rfl, p1⟩ := pk1 p
    obtain ⟨a, us, rfl, hs, ha⟩ := p1.tuple e
    exact ⟨_, us, rfl, .inr hs, fun l hl => k _ _ _ h (.lst hl ha)⟩
  · exact h.elim
theorem cd_tuple : CallD K (fun xs H Q => ∃ p ys, xs = [.ref p] ∧ ((SqL K H p ys ∧ ∀ l, H l = none → Q (.ref l) (upd H l (.tup ys))) ∨ (SqT K H p ys ∧ Q (.ref p) H))) kTuple := fun G H xs vs A Q e p h k => by
  unfold kTuple at h
  split at h
  · obtain ⟨v, rfl, p1⟩ := pk1 p
    obtain ⟨a, us, rfl, hs, ha⟩ := p1.list e
    exact ⟨_, us, rfl, .inl ⟨hs, fun l hl => k _ _ _ h (.tup hl ha)⟩⟩
  · obtain ⟨v, rfl, p1⟩ := pk1 p
    obtain ⟨a, us, rfl, hs, ha⟩ := p1.tuple e
    refine ⟨_, us, rfl, .inr ⟨hs, k _ _ _ h (.val ?_)⟩⟩
    rcases p1 with p1 | ⟨_, _, _, _, e2, _⟩
    · exact p1
    · cases e2
  · exact h.elim
theorem cd_sorted : CallD K (rSorted K) kSorted := fun G H xs vs A Q e p ⟨ns, e1, hl, h⟩ k => by
  subst e1
  obtain ⟨v, rfl, p1⟩ := pk1 p
  obtain ⟨a, us, rfl, hs, ha⟩ := p1.list e
  have eu := dpa_ints ns ha
  subst eu
  exact ⟨a, ns, rfl, hs, hl, fun ns' q h1 h2 h3 => k _ _ _ (h ns' h1 h2) (.lst h3 (dpa_ofInts ns'))⟩
theorem cd_sortedS : CallD K (rSortedS K) kSortedS := fun G H xs vs A Q e p ⟨ns, e1, hl, h⟩ k => by
  subst e1
  obtain ⟨v, rfl, p1⟩ := pk1 p
  obtain ⟨a, us, rfl, hs, ha⟩ := p1.list e
  have eu := dpa_strs ns ha
  subst eu
  exact ⟨a, ns, rfl, hs, hl, fun ns' q h1 h2 h3 => k _ _ _ (h ns' h1 h2) (.lst h3 (dpa_ofStrs ns'))⟩
theorem cd_max2 : CallD K (fun xs H Q => ∃ i j, xs = [.int i, .int j] ∧ Q (.int (if j > i then j else i)) H) (kI2 fun i j => if j > i then j else i) := fun G H xs vs A Q e p h k => by
  unfold kI2 at h
  split at h
  · obtain ⟨v, u, rfl, p1, p2⟩ := pk2 p
    cases p1.int
    cases p2.int
    exact ⟨_, _, rfl, k _ _ _ h (.val (.int _))⟩
  · exact h.elim
theorem cd_min2 : CallD K (fun xs H Q => ∃ i j, xs = [.int i, .int j] ∧ Q (.int (if j < i then j else i)) H) (kI2 fun i j => if j < i then j else i) := fun G H xs vs A Q e p h k => by
  unfold kI2 at h
  split at h
  · obtain ⟨v, u, rfl, p1, p2⟩ := pk2 p
    cases p1.int
    cases p2.int
    exact ⟨_, _, rfl, k _ _ _ h (.val (.int _))⟩
  · exact h.elim
theorem cd_abs : CallD K (fun xs H Q => ∃ i, xs = [.int i] ∧ Q (.int (if i < 0 then -i else i)) H) kAbs := fun G H xs vs A Q e p h k => by
  unfold kAbs at h
  split at h
  · obtain ⟨v, rfl, p1⟩ := pk1 p
    cases p1.int
    exact ⟨_, rfl, k _ _ _ h (.val (.int _))⟩
  · exact h.elim
theorem dpa_bls {H : Hp} : ∀ {vs : List V} (bs : List Bool), DdAll K H vs (bs.map .bool) → vs = bs.map V.bl
  | _, [], h => by cases h; rfl
  | _, n :: ns, h => by
    cases h with
    | cons h1 h2 =>
      cases h1
      rw [dpa_bls ns h2]
      rfl
theorem cd_all : CallD K (rAll K) kAll := fun G H xs vs A Q e p ⟨bs, e1, h⟩ k => by
  subst e1
  obtain ⟨v, rfl, p1⟩ := pk1 p
  obtain ⟨a, us, rfl, hs, ha⟩ := p1.list e
  have eu := dpa_bls bs ha
  subst eu
  exact ⟨a, bs, rfl, hs, k _ _ _ h (.val (.bl _))⟩
theorem cd_any : CallD K (rAny K) kAny := fun G H xs vs A Q e p ⟨bs, e1, h⟩ k => by
  subst e1
  obtain ⟨v, rfl, p1⟩ := pk1 p
  obtain ⟨a, us, rfl, hs, ha⟩ := p1.list e
  have eu := dpa_bls bs ha
  subst eu
  exact ⟨a, bs, rfl, hs, k _ _ _ h (.val (.bl _))⟩
end
def dLstRg (t : TD) : TD := fun ε A => t ε fun r ε1 => match peek ε1 r with
  | some (.int n) => (0 ≤ n ∧ n ≤ 1000000) ∧ A (.new (rngD 0 n.toNat)) ε1
  | _ => False
theorem rngD_ok {K : PySem.W.Frag} {H : Hp} (n : Int) : DdAll K H (rgV 0 n) (rngD 0 n.toNat) := by
  have q := dpa_ofInts (K := K) (H := H) ((List.range n.toNat).map fun i => 0 + ((i : Nat) : Int))
  rw [List.map_map, List.map_map] at q
  unfold rgV rngD
  rw [Int.sub_zero]
  exact q
theorem dv_listRg {X : Cx} {a : Expr} {t : TD} {p pos p2 pos2 : Pos} (hc : X.calm = true) (hg : Gl X "list") (hm : X.mg "list" = none) (hg2 : Gl X "range") (hm2 : X.mg "range" = none) (ha : DV X a t) (na2 : starEach [a] X.env = (false, eval a X.env) :: starEach [] X.env := by rfl)
    (na : starEach [.Call (.Name "range" p2) [a] [] pos2] X.env = (false, eval (.Call (.Name "range" p2) [a] [] pos2) X.env) :: starEach [] X.env := by rfl) : DV X (.Call (.Name "list" p) [.Call (.Name "range" p2) [a] [] pos2] [] pos) (dLstRg t) :=
  pe_w (pe_listRg hc hg hm (prg_1 hg2 hm2 ha na2) na) fun σ H Q ⟨c, G, ow, ε, A, R, h, kk⟩ => ⟨c, G, ow, ε, _, R, h, fun r ε1 G1 H1 ow1 v h1 F1 R1 V1 => by
    split at h1
    · rename_i n e
      refine ⟨n, (peek_ok R1 V1 e).int, .of_le (by omega) (by omega) (by omega) (by omega), fun q hq => ?_⟩
      obtain ⟨G', ow', F2, R2, V2⟩ := res_fin R1 (.lst hq (rngD_ok n))
      exact kk _ _ G' _ ow' _ h1.2 (F1.trans F2) R2 (V2.since F1.dom)
    · exact h1.elim⟩

/-! ### methods that change a list of the def's own -/
def dMut (j : Nat) (k : List PyData → List PyData → (PyData → List PyData → Prop) → Prop) (t : TDF) : TD := fun ε A => match look ε j with
  | .lst _ _ => t ε fun ds ε1 => match look ε1 j with
    | .lst fr xs => k ds xs fun d ys => A (.d d) (put ε1 j (.lst fr ys))
    | _ => False
  | _ => False
def MutD (K : PySem.W.Frag) (r : V → List V → Hp → VK → Prop) (k : List PyData → List PyData → (PyData → List PyData → Prop) → Prop) : Prop := ∀ G H p vs xs ds us (A : PyData → List PyData → Prop) (Q : VK), Same G H → G p = none → H p = some (.lst vs) → DdAll K G vs xs → DdAll K G us ds → k ds xs A →
  (∀ d ys v vs', A d ys → Dd K G v d → DdAll K G vs' ys → Q v (upd H p (.lst vs'))) → r (.ref p) us H Q
def kAppend : List PyData → List PyData → (PyData → List PyData → Prop) → Prop := fun ds xs A => match ds with
  | [y] => xs.length < 1000000 ∧ A .none (xs ++ [y])
  | _ => False
def kPopAt : List PyData → List PyData → (PyData → List PyData → Prop) → Prop := fun ds xs A => match ds with
  | [.int i] => 0 ≤ i ∧ xs.length ≤ 1000000 ∧ onO xs[i.toNat]? fun y => A y (xs.eraseIdx i.toNat)
  | _ => False
def kRemove : List PyData → List PyData → (PyData → List PyData → Prop) → Prop := fun ds xs A => match ds with
  | [.int k] => ∃ (ns : List Int) (j : Nat), xs = ns.map .int ∧ ns[j]? = some k ∧ (∀ m : Nat, m < j → ns[m]? ≠ some k) ∧ A .none ((ns.eraseIdx j).map .int)
  | _ => False
section
variable {K : PySem.W.Frag}
theorem md_append : MutD K rAppend kAppend := fun G H p vs xs ds us A Q e g hH hx hu h k => by
  unfold kAppend at h
  split at h
  · cases hu with
    | cons h1 t =>
      cases t
      exact ⟨p, vs, _, rfl, rfl, hH, by rw [dpa_len hx]; exact line_lt h.1, k _ _ _ _ h.2 .non (dpa_app hx (dpa_one h1))⟩
  · exact h.elim
theorem md_popAt : MutD K rPopAt kPopAt := fun G H p vs xs ds us A Q e g hH hx hu h k => by
  unfold kPopAt at h
  split at h
  · obtain ⟨h0, hl, h⟩ := h
    obtain ⟨y, hy, h⟩ := onO_get h
    cases hu with
    | cons h1 t =>
      cases t
      cases h1
      obtain ⟨v, hv, dv⟩ := dpa_get hx hy
      rename_i i _
      have hlt := (List.getElem?_eq_some_iff.mp hy).1
      have hlv := dpa_len hx
      exact ⟨p, vs, i, i.toNat, v, rfl, rfl, hH, by omega, by omega, seqIndex_at h0 (by omega), hv, k _ _ _ _ h dv (dpa_erase _ hx)⟩
  · exact h.elim
theorem md_remove : MutD K rRemI kRemove := fun G H p vs xs ds us A Q e g hH hx hu h k => by
  unfold kRemove at h
  split at h
  · obtain ⟨ns, j, rfl, h1, h2, h⟩ := h
    have ev := dpa_ints ns hx
    subst ev
    cases hu with
    | cons h3 t =>
      cases t
      cases h3
      exact ⟨p, ns, _, j, rfl, rfl, hH, h1, h2, k _ _ _ _ h .non (dpa_ofInts _)⟩
  · exact h.elim
theorem dmut_rd {j : Nat} {t : TDF} {T : String} {r : V → List V → Hp → VK → Prop} {k : List PyData → List PyData → (PyData → List PyData → Prop) → Prop} {σ : L2.St} {H : Hp} {Q : VK} (hT : T = "list") (hk : MutD K r k) (h : rdV K (dMut j k t) σ H Q) : tBM K T r (tVar j) (rdF K t) σ H Q := by
  obtain ⟨c, G, ow, ε, A, R, h, kk⟩ := h
  subst hT
  unfold dMut at h
  cases hl : look ε j with
  | un => simp only [hl] at h
  | d _ => simp only [hl] at h
  | dct _ _ => simp only [hl] at h
  | v _ => simp only [hl] at h
  | nt _ _ => simp only [hl] at h
  | al _ _ _ => simp only [hl] at h
  | ex _ => simp only [hl] at h
  | lst fr0 xs0 =>
    simp only [hl] at h
    obtain ⟨o, ho⟩ := R.some_at (i := j) (by rw [hl]; exact fun z => nomatch z)
    have q0 := R.at ho
    rw [hl] at q0
    obtain ⟨p, vs0, rfl, _, _, hp0, _⟩ := q0
    refine ⟨.ref p, ho, .inl ⟨rfl, vs0, .inl (.inl hp0)⟩, c, G, ow, ε, _, R, h, fun ds ε1 G1 H1 ow1 us h1 F1 R1 V1 => ?_⟩
    cases hl1 : look ε1 j with
    | un => simp only [hl1] at h1
    | d _ => simp only [hl1] at h1
    | dct _ _ => simp only [hl1] at h1
    | v _ => simp only [hl1] at h1
    | nt _ _ => simp only [hl1] at h1
    | al _ _ _ => simp only [hl1] at h1
    | ex _ => simp only [hl1] at h1
    | lst fr xs =>
      simp only [hl1] at h1
      have q1 := R1.at ho
      rw [hl1] at q1
      obtain ⟨p', vs, e1, o1, o2, o3, o4, o5⟩ := q1
      cases e1
      refine hk G1 H1 p vs xs ds us _ Q R1.ex o2 o3 o4 V1 h1 fun d ys v vs' hA hd hys => ?_
      obtain ⟨p2, vs2, e2, m1, m2, m3⟩ := mut_lst (ys := ys) R1 ho hl1
      cases e2
      obtain ⟨F2, R2⟩ := m3 vs' hys
      exact kk _ _ G1 _ ow1 v hA (F1.trans F2) R2 hd
end
section
variable {X : Cx} {e : Expr} {es : List Expr} {t : TDF} {name y : Str} {apos cpos py : Pos} {id : String} {r : V → List V → Hp → VK → Prop} {k : List PyData → List PyData → (PyData → List PyData → Prop) → Prop}
theorem dv_mut (j : Nat) (slot : Slot "list" name id) (hty : typeOf (.builtin id) = pure (.type "method_descriptor")) (hm : MtR X id r) (hk : MutD X.K r k) (ha : DF X (e :: es) t) (hN : X.N[j]? = some y := by rfl) (hv : Vis X.env.scope y := by first | exact Or.inl rfl | exact Or.inr (Or.inl rfl) | exact Or.inr (Or.inr rfl))
    (hyd : (y == ("__debug__" : Str)) = false := by decide) (hcd : (y == ("__classdict__" : Str)) = false := by decide)
    (hbase : attributeBase (.Name y py) name X.env (eval (.Name y py) X.env) = eval (.Name y py) X.env := by rfl)
    (hfew : ((backTo cpos (starEach (e :: es) X.env)).all (fun x => !x.1) && (backToKw cpos (keywordEach [] X.env)).all (fun x => x.1.isSome)
      && decide ((e :: es).length + ([] : List Keyword).length + (if ([] : List Keyword).isEmpty then 0 else 1) < 30)) = true := by rfl)
    (hline : (apos.endLine == cpos.line) = true := by rfl) (hs : starEach (e :: es) X.env = (false, eval e X.env) :: starEach es X.env := by rfl) (hplain : (backTo cpos (starEach es X.env)).any (·.1) = false := by rfl) :
    DV X (.Call (.Attribute (.Name y py) name apos) (e :: es) [] cpos) (dMut j k t) :=
  pe_w (pe_bm PySem.F.plainAttrs_list slot hty hm (pe_var hN hv hyd hcd) ha hbase hfew hline hs hplain) fun _ _ _ h => dmut_rd rfl hk h
end
/-! ### a place of a list of the def's own is stored -/
def sSetI (j : Nat) (te ti : TD) : TDS := fun A ε => te ε fun r ε1 => match frz ε1 r with
  | some (x, ε2) => match look ε2 j with
    | .lst _ _ => ti ε2 fun s ε3 => match peek ε3 s, look ε3 j with
      | some (.int i), .lst fr xs => onO (ixN xs.length i) fun m => A.nx (put ε3 j (.lst fr (xs.set m x)))
      | _, _ => False
    | _ => False
  | none => False
section
variable {X : Cx} {e i : Expr} {te ti : TD} {y : Str} {py pos pos' : Pos}
theorem ds_seti (j : Nat) (he : DV X e te) (hi : DV X i ti) (hN : X.N[j]? = some y := by rfl) (hv : Vis X.env.scope y := by first | exact Or.inl rfl | exact Or.inr (Or.inl rfl) | exact Or.inr (Or.inr rfl))
    (hyd : (y == ("__debug__" : Str)) = false := by decide) (hcd : (y == ("__classdict__" : Str)) = false := by decide)
    (hs : swapsWithSole [.Subscript (.Name y py) i pos'] e pos.line X.env = pure false := by rfl) (hw : swappedStores [.Subscript (.Name y py) i pos'] e X.env = pure none := by rfl)
    (h1 : (assignEach [.Subscript (.Name y py) i pos'] X.env).map (·.2) = [assign (.Subscript (.Name y py) i pos') X.env] := by rfl)
    (ha : ∀ v, assign (.Subscript (.Name y py) i pos') X.env v = (do
      let ov ← holding [v] (eval (.Name y py) X.env)
      let iv ← holding [v, ov] (eval i X.env)
      standAt pos'
      holding [v, ov, iv] (setItem ov iv v)
      release [v, ov, iv] []) := by intro _; rfl) : DS X W (.Assign [.Subscript (.Name y py) i pos'] e pos) (sSetI j te ti) :=
  ps_w (ps_asg he (pg_sub (pe_var hN hv hyd hcd) hi set_list ha) hs hw h1) fun D σ H ⟨c, G, ow, ε, A, R, h, k1, k2, k3, k4, k5⟩ => ⟨c, G, ow, ε, _, R, h, fun r ε1 G1 H1 ow1 v h1 F1 R1 V1 => by
    cases q : frz ε1 r with
    | none => simp only [q] at h1
    | some z =>
      obtain ⟨x, ε2⟩ := z
      simp only [q] at h1
      obtain ⟨G2, F2, sg, R2, d⟩ := frz_ok F1 R1 V1 q
      cases hl : look ε2 j with
      | un => simp only [hl] at h1
      | d _ => simp only [hl] at h1
      | dct _ _ => simp only [hl] at h1
      | v _ => simp only [hl] at h1
      | nt _ _ => simp only [hl] at h1
      | al _ _ _ => simp only [hl] at h1
      | ex _ => simp only [hl] at h1
      | lst fr0 xs0 =>
        simp only [hl] at h1
        obtain ⟨o, ho⟩ := R2.some_at (i := j) (by rw [hl]; exact fun z => nomatch z)
        have q0 := R2.at ho
        rw [hl] at q0
        obtain ⟨p, vs0, rfl, _⟩ := q0
        refine ⟨.ref p, ho, c, G2, ow1, ε2, _, R2, h1, fun s ε3 G3 H3 ow3 u h3 F3 R3 V3 => ?_⟩
        split at h3
        · rename_i i0 fr xs e3 hl3
          obtain ⟨m, hm, h3⟩ := onO_get h3
          obtain ⟨p2, vs2, e2, m1, m2, m3⟩ := mut_lst (ys := xs.set m x) R3 ho hl3
          cases e2
          obtain ⟨F4, R4⟩ := m3 (vs2.set m v) (dpa_set m (dp_ex F3.ex x d) m2)
          refine ⟨p, vs2, i0, m, rfl, (peek_ok R3 V3 e3).int, m1, by rw [dpa_len m2]; exact hm, ?_⟩
          exact k1 _ _ G3 _ ow3 h3 ((F2.trans F3).trans F4) R4
        · exact h3.elim⟩
end
/-! ### dicts of the def's own: keys are ints and texts -/
def keyD : PyData → Option Key
  | .int i => some (.inl i)
  | .str x => some (.inr x)
  | _ => none
def valD (kvs : List (Key × PyData)) (k : Key) : Option PyData := (kvs.find? fun kv => decide (kv.1 = k)).map (·.2)
def putD (kvs : List (Key × PyData)) (k : Key) (v : PyData) : List (Key × PyData) :=
  if (kvs.any fun kv => decide (kv.1 = k)) = true then kvs.map (fun kv => if kv.1 = k then (kv.1, v) else kv) else kvs ++ [(k, v)]
def dDIn (neg : Bool) (te : TD) (j : Nat) : TD := fun ε A => te ε fun r ε1 => match peek ε1 r, look ε1 j with
  | some x, .dct _ kvs => onO (keyD x) fun k => A (.d (.bool (if neg then !(valD kvs k).isSome else (valD kvs k).isSome))) ε1
  | _, _ => False
def sDPut (j : Nat) (tk tv : TD) : TDS := fun A ε => tv ε fun r ε1 => match frz ε1 r with
  | some (x, ε2) => match look ε2 j with
    | .dct _ _ => tk ε2 fun s ε3 => match peek ε3 s, look ε3 j with
      | some y, .dct fr kvs => onO (keyD y) fun k => kvs.length < 1000000 ∧ A.nx (put ε3 j (.dct fr (putD kvs k x)))
      | _, _ => False
    | _ => False
  | none => False
section
variable {K : PySem.W.Frag} {G : Hp}
theorem keyD_ok {H : Hp} {v : V} {x : PyData} {k : Key} (p : Pk K G H v x) (h : keyD x = some k) : v = kV k := by
  cases x with
  | int i => cases h; exact p.int
  | str i => cases h; exact p.str
  | _ => cases h
theorem kv_len : ∀ {a : List (Key × V)} {b : List (Key × PyData)}, KvOk K G a b → a.length = b.length
  | _, _, .nil => rfl
  | _, _, .cons _ t => congrArg (· + 1) (kv_len t)
theorem kv_val {k : Key} : ∀ {a : List (Key × V)} {b : List (Key × PyData)}, KvOk K G a b → (valV a k = none ∧ valD b k = none) ∨ ∃ v d, valV a k = some v ∧ valD b k = some d ∧ Dd K G v d
  | _, _, .nil => .inl ⟨rfl, rfl⟩
  | p :: a, q :: b, .cons ⟨e, h⟩ t => by
    by_cases hk : p.1 = k
    · exact .inr ⟨p.2, q.2, by simp [valV, List.find?_cons, hk], by simp [valD, List.find?_cons, ← e, hk], h⟩
    · have e1 : valV (p :: a) k = valV a k := by simp only [valV, List.find?_cons, hk, decide_false]
      have e2 : valD (q :: b) k = valD b k := by simp only [valD, List.find?_cons, ← e, hk, decide_false]
      rw [e1, e2]
      exact kv_val t
theorem kv_any {k : Key} : ∀ {a : List (Key × V)} {b : List (Key × PyData)}, KvOk K G a b → (a.any fun kv => decide (kv.1 = k)) = (b.any fun kv => decide (kv.1 = k))
  | _, _, .nil => rfl
  | _, _, .cons ⟨e, _⟩ t => by rw [List.any_cons, List.any_cons, kv_any t, e]
theorem kv_map {k : Key} {v : V} {d : PyData} (h : Dd K G v d) : ∀ {a : List (Key × V)} {b : List (Key × PyData)}, KvOk K G a b → KvOk K G (a.map fun kv => if kv.1 = k then (kv.1, v) else kv) (b.map fun kv => if kv.1 = k then (kv.1, d) else kv)
  | _, _, .nil => .nil
  | _, _, .cons (a := p) (b := q) ⟨e, h1⟩ t => by
    refine .cons ?_ (kv_map h t)
    by_cases hk : p.1 = k
    · have hq : q.1 = k := by rw [← e]; exact hk
      simp only [hk, hq, if_true]
      exact ⟨trivial, h⟩
    · have hq : ¬ q.1 = k := by rw [← e]; exact hk
      simp only [hk, hq, if_false]
      exact ⟨e, h1⟩
theorem kv_app : ∀ {a c : List (Key × V)} {b d : List (Key × PyData)}, KvOk K G a b → KvOk K G c d → KvOk K G (a ++ c) (b ++ d)
  | _, _, _, _, .nil, h => h
  | _, _, _, _, .cons p t, h => .cons p (kv_app t h)
theorem kv_put {k : Key} {v : V} {d : PyData} {a : List (Key × V)} {b : List (Key × PyData)} (h : Dd K G v d) (p : KvOk K G a b) : KvOk K G (putK a k v) (putD b k d) := by
  unfold putK putD
  rw [kv_any p]
  split
  · exact kv_map h p
  · exact kv_app p (.cons ⟨rfl, h⟩ .nil)
/-- a dict of the def's own is changed -/
theorem mut_dct {c : Ct} {H : Hp} {ow : Ow} {σ : L2.St} {ε : Ep} {i : Nat} {fr : Bool} {kvs ys : List (Key × PyData)} {v : V} (R : Rep K c G H ow σ ε) (h : σ[i]? = some (some v)) (hl : look ε i = .dct fr kvs) :
    ∃ p kv, v = .ref p ∧ H p = some (.dK kv) ∧ KvOk K G kv kvs ∧ ∀ us, KvOk K G us ys → Fr G H ow G (upd H p (.dK us)) ow ∧ Rep K c G (upd H p (.dK us)) ow σ (put ε i (.dct fr ys)) := by
  have q := R.at h
  rw [hl] at q
  obtain ⟨p, vs, e1, h2, h3, h4, h5, h6⟩ := q
  cases e1
  have hi : i < ε.length := look_lt (by rw [hl]; exact fun z => nomatch z)
  refine ⟨p, vs, rfl, h4, h5, fun us hu => ⟨⟨Same.refl G, fun a u z1 z2 => ?_, fun a z => ?_⟩, ⟨same_mut R.ex h3 _, fun a z => ?_, by rw [put_length]; exact R.len, fun j s z => ?_⟩⟩⟩
  · have hne : a ≠ p := fun e => by
      rw [e, h2] at z2
      cases z2
    rw [upd_ne hne]
    exact ⟨z1, z2, fun z => z⟩
  · by_cases ha : a = p
    · subst ha
      rw [upd_same] at z
      cases z
    · rw [upd_ne ha] at z
      exact z
  · by_cases ha : a = p
    · subst ha
      rw [upd_same] at z
      cases z
    · rw [upd_ne ha] at z
      exact R.dom a z
  · by_cases hj : j = i
    · subst hj
      rw [look_put_self hi]
      rw [h] at z
      cases z
      exact ⟨p, us, rfl, h2, h3, upd_same, hu, h6⟩
    · rw [look_put_ne hj]
      refine (R.sl j s z).grow (Same.refl G) fun q u z1 z2 z3 => ⟨z1, z2, ?_⟩
      have hne : q ≠ p := fun e => by
        rw [e, h2] at z1
        exact hj (Option.some.inj z1).symm
      rw [upd_ne hne]
      exact z3
end
section
variable {X : Cx} {e i : Expr} {te tk tv : TD} {y : Str} {py pos pos' : Pos} {σ : L2.St} {H : Hp} {Q : VK}
theorem ddin_get {K : PySem.W.Frag} {c : Ct} {G : Hp} {ow : Ow} {ε : Ep} {j : Nat} {fr : Bool} {kvs : List (Key × PyData)} {k : Key} (R : Rep K c G H ow σ ε) (hl : look ε j = .dct fr kvs) : ∃ p o, σ[j]? = some (some (.ref p)) ∧ DGet H p (kV k) o ∧ o.isSome = (valD kvs k).isSome := by
  obtain ⟨o, ho⟩ := R.some_at (i := j) (by rw [hl]; exact fun z => nomatch z)
  have q0 := R.at ho
  rw [hl] at q0
  obtain ⟨p, kv, rfl, _, _, h3, h4, _⟩ := q0
  refine ⟨p, valV kv k, ho, DGet.k h3, ?_⟩
  rcases kv_val (k := k) h4 with ⟨h1, h2⟩ | ⟨v, d, h1, h2, _⟩
  · rw [h1, h2]
    rfl
  · rw [h1, h2]
    rfl
theorem ddin_rd {K : PySem.W.Frag} {j : Nat} (h : rdV K (dDIn false te j) σ H Q) : tDIn (rdV K te) (tVar j) σ H Q := by
  obtain ⟨c, G, ow, ε, A, R, h, kk⟩ := h
  refine ⟨c, G, ow, ε, _, R, h, fun r ε1 G1 H1 ow1 v h1 F1 R1 V1 => ?_⟩
  split at h1
  · rename_i x kvs e hl
    obtain ⟨k, hk, h1⟩ := onO_get h1
    obtain ⟨p, o, ho, hg, ei⟩ := ddin_get (k := k) R1 hl
    refine ⟨.ref p, ho, p, o, rfl, by rw [keyD_ok (peek_ok R1 V1 e) hk]; exact hg, ?_⟩
    rw [ei]
    exact kk _ ε1 G1 H1 ow1 _ h1 F1 R1 (.bl _)
  · exact h1.elim
theorem ddnin_rd {K : PySem.W.Frag} {j : Nat} (h : rdV K (dDIn true te j) σ H Q) : tDNotIn (rdV K te) (tVar j) σ H Q := by
  obtain ⟨c, G, ow, ε, A, R, h, kk⟩ := h
  refine ⟨c, G, ow, ε, _, R, h, fun r ε1 G1 H1 ow1 v h1 F1 R1 V1 => ?_⟩
  split at h1
  · rename_i x kvs e hl
    obtain ⟨k, hk, h1⟩ := onO_get h1
    obtain ⟨p, o, ho, hg, ei⟩ := ddin_get (k := k) R1 hl
    refine ⟨.ref p, ho, p, o, rfl, by rw [keyD_ok (peek_ok R1 V1 e) hk]; exact hg, ?_⟩
    rw [ei]
    exact kk _ ε1 G1 H1 ow1 _ h1 F1 R1 (.bl _)
  · exact h1.elim
theorem dv_din (j : Nat) (hu : X.A.units + 1 < cLine) (he : DV X e te) (hN : X.N[j]? = some y := by rfl) (hv : Vis X.env.scope y := by first | exact Or.inl rfl | exact Or.inr (Or.inl rfl) | exact Or.inr (Or.inr rfl))
    (hyd : (y == ("__debug__" : Str)) = false := by decide) (hcd : (y == ("__classdict__" : Str)) = false := by decide) (hm : behindInMarks .In (.Name y py) = false := by rfl) : DV X (.Compare e [.In] [.Name y py] pos) (dDIn false te j) :=
  pe_w (pe_cmp (pc_din hu he (pe_var hN hv hyd hcd)) hm) fun _ _ _ h => ddin_rd h
theorem dv_dnin (j : Nat) (hu : X.A.units + 1 < cLine) (he : DV X e te) (hN : X.N[j]? = some y := by rfl) (hv : Vis X.env.scope y := by first | exact Or.inl rfl | exact Or.inr (Or.inl rfl) | exact Or.inr (Or.inr rfl))
    (hyd : (y == ("__debug__" : Str)) = false := by decide) (hcd : (y == ("__classdict__" : Str)) = false := by decide) (hm : behindInMarks .NotIn (.Name y py) = false := by rfl) : DV X (.Compare e [.NotIn] [.Name y py] pos) (dDIn true te j) :=
  pe_w (pe_cmp (pc_dnotin hu he (pe_var hN hv hyd hcd)) hm) fun _ _ _ h => ddnin_rd h
theorem dtest_tB {K : PySem.W.Frag} {t : TD} {u : TE} {Q : Bool → Hp → Prop} (hu : ∀ Q : VK, rdV K t σ H Q → u σ H Q) (h : rdT K (dTest t) σ H Q) : tB u σ H Q := hu _ (dtest_rd h)
theorem dt_din (j : Nat) (hu : X.A.units + 1 < cLine) (he : DV X e te) (hN : X.N[j]? = some y := by rfl) (hv : Vis X.env.scope y := by first | exact Or.inl rfl | exact Or.inr (Or.inl rfl) | exact Or.inr (Or.inr rfl))
    (hyd : (y == ("__debug__" : Str)) = false := by decide) (hcd : (y == ("__classdict__" : Str)) = false := by decide) (hm : behindInMarks .In (.Name y py) = false := by rfl) : DT X (.Compare e [.In] [.Name y py] pos) (dTest (dDIn false te j)) :=
  pt_w (pt_cmp (pc_din hu he (pe_var hN hv hyd hcd)) hm) fun _ _ _ h => dtest_tB (fun _ => ddin_rd) h
theorem dt_dnin (j : Nat) (hu : X.A.units + 1 < cLine) (he : DV X e te) (hN : X.N[j]? = some y := by rfl) (hv : Vis X.env.scope y := by first | exact Or.inl rfl | exact Or.inr (Or.inl rfl) | exact Or.inr (Or.inr rfl))
    (hyd : (y == ("__debug__" : Str)) = false := by decide) (hcd : (y == ("__classdict__" : Str)) = false := by decide) (hm : behindInMarks .NotIn (.Name y py) = false := by rfl) : DT X (.Compare e [.NotIn] [.Name y py] pos) (dTest (dDIn true te j)) :=
  pt_w (pt_cmp (pc_dnotin hu he (pe_var hN hv hyd hcd)) hm) fun _ _ _ h => dtest_tB (fun _ => ddnin_rd) h
theorem ds_dput (j : Nat) (hu : X.A.units + 1 < cLine) (he : DV X e tv) (hi : DV X i tk) (hN : X.N[j]? = some y := by rfl) (hv : Vis X.env.scope y := by first | exact Or.inl rfl | exact Or.inr (Or.inl rfl) | exact Or.inr (Or.inr rfl))
    (hyd : (y == ("__debug__" : Str)) = false := by decide) (hcd : (y == ("__classdict__" : Str)) = false := by decide) (hs : swapsWith e (some (.Subscript (.Name y py) i pos')) pos.line X.env = pure false := by rfl) : DS X W (.Assign [.Subscript (.Name y py) i pos'] e pos) (sDPut j tk tv) :=
  ps_w (ps_dput hu (pe_var hN hv hyd hcd) hi he hs) fun D σ H ⟨c, G, ow, ε, A, R, h, k1, k2, k3, k4, k5⟩ => ⟨c, G, ow, ε, _, R, h, fun r ε1 G1 H1 ow1 v h1 F1 R1 V1 => by
    cases q : frz ε1 r with
    | none => simp only [q] at h1
    | some z =>
      obtain ⟨x, ε2⟩ := z
      simp only [q] at h1
      obtain ⟨G2, F2, sg, R2, d⟩ := frz_ok F1 R1 V1 q
      cases hl : look ε2 j with
      | un => simp only [hl] at h1
      | d _ => simp only [hl] at h1
      | lst _ _ => simp only [hl] at h1
      | v _ => simp only [hl] at h1
      | nt _ _ => simp only [hl] at h1
      | al _ _ _ => simp only [hl] at h1
      | ex _ => simp only [hl] at h1
      | dct fr0 kvs0 =>
        simp only [hl] at h1
        obtain ⟨o, ho⟩ := R2.some_at (i := j) (by rw [hl]; exact fun z => nomatch z)
        have q0 := R2.at ho
        rw [hl] at q0
        obtain ⟨p, vs0, rfl, _⟩ := q0
        refine ⟨.ref p, ho, c, G2, ow1, ε2, _, R2, h1, fun s ε3 G3 H3 ow3 u h3 F3 R3 V3 => ?_⟩
        split at h3
        · rename_i y0 kvs e3 hl3
          obtain ⟨k, hk, h3⟩ := onO_get h3
          obtain ⟨p2, kv, e2, m1, m2, m3⟩ := mut_dct (ys := putD kvs k x) R3 ho hl3
          cases e2
          obtain ⟨F4, R4⟩ := m3 (putK kv k v) (kv_put (dp_ex F3.ex x d) m2)
          refine ⟨p, _, rfl, ?_, k1 _ _ G3 _ ow3 h3.2 ((F2.trans F3).trans F4) R4⟩
          rw [keyD_ok (peek_ok R3 V3 e3) hk]
          exact DPut.k m1 (by rw [kv_len m2]; exact line_lt h3.1)
        · exact h3.elim⟩
end
/-! ### isinstance of data, built-in types -/
def tyD : PyData → String
  | .none => "NoneType"
  | .bool _ => "bool"
  | .int _ => "int"
  | .str _ => "str"
  | .list _ => "list"
  | .tuple _ => "tuple"
  | .dict _ => "dict"
def dIsi (t : TD) (T : String) : TD := fun ε A => t ε fun r ε1 => match peek ε1 r with
  | some x => onO (kitB (tyD x) T) fun b => A (.d (.bool b)) ε1
  | none => False
theorem tyX_of {K : PySem.W.Frag} {H : Hp} {v : V} : ∀ {x : PyData}, Dd K H v x → TyX K H v (.type (tyD x))
  | .none, h => by cases h; exact .base .non
  | .bool _, h => by cases h; exact .base (.bl _)
  | .int _, h => by cases h; exact .base (.int _)
  | .str _, h => by cases h; exact .base (.str _)
  | .list _, h => by
    cases h with
    | lst hs _ =>
      rcases hs with (hs | ⟨o, hs⟩) | ⟨o, its, n, h1, h2, _⟩
      · exact .base (.lst hs)
      · exact .base (.frz hs)
      · exact .kList h1 h2
  | .tuple _, h => by
    cases h with
    | tup hs _ =>
      rcases hs with (hs | ⟨o, hs⟩) | ⟨o, its, n, h1, h2, _⟩
      · exact .base (.tup hs)
      · exact .fTuple hs
      · exact .kTuple h1 h2
  | .dict _, h => by
    cases h with
    | dct hs => exact .base (.dK hs)
theorem dv_isi {X : Cx} {e : Expr} {t : TD} {p pos pT : Pos} {x : Str} {T : String} (he : DV X e t) (hg : Gl X "isinstance") (hm : X.mg "isinstance" = none) (hv : bootBuiltins "isinstance" = some (.builtin "isinstance")) (hgT : Gl X x) (hmT : X.mg x = none) (hvT : bootBuiltins x = some (.type T)) (hnT : x ≠ "__name__" := by decide) (hdT : (x == ("__debug__" : Str)) = false := by decide)
    (hs : starEach [e, .Name x pT] X.env = (false, eval e X.env) :: starEach [.Name x pT] X.env := by rfl) (hs2 : starEach [.Name x pT] X.env = (false, eval (.Name x pT) X.env) :: starEach [] X.env := by rfl) (hp : (backTo pos (starEach [.Name x pT] X.env)).any (·.1) = false := by rfl) :
    DV X (.Call (.Name "isinstance" p) [e, .Name x pT] [] pos) (dIsi t T) :=
  pe_w (pe_callB call_isi hg hm hv (pa_cons he (pa_cons (pe_bltn hgT hmT hvT (v := .ty T) rfl hnT hdT) pa_nil hs2) hs) (by decide) (by decide) hs hp) fun σ H Q ⟨c, G, ow, ε, A, R, h, kk⟩ => ⟨c, G, ow, ε, _, R, h, fun r ε1 G1 H1 ow1 v h1 F1 R1 V1 => by
    split at h1
    · rename_i d e
      obtain ⟨b, hb, h1⟩ := onO_get h1
      exact ⟨v, .ty T, _, _, b, rfl, .ty T, tyX_of ((peek_ok R1 V1 e).dp R1.ex), kit_ty hb, kk _ ε1 G1 H1 ow1 _ h1 F1 R1 (.bl b)⟩
    · exact h1.elim⟩

/-! ### a unary minus; a, b = x, y -/
def kNeg : PyData → (Vl → Prop) → Prop := fun x A => match x with
  | .int i => A (.d (.int (-i)))
  | _ => False
theorem dv_neg {X : Cx} {e : Expr} {t : TD} {pos : Pos} (he : DV X e t) : DV X (.UnaryOp .USub e pos) (dUn kNeg t) := pe_w (pe_un un_neg he) fun σ H Q ⟨c, G, ow, ε, A, R, h, kk⟩ => ⟨c, G, ow, ε, _, R, h, fun r ε1 G1 H1 ow1 v h1 F1 R1 V1 => by
  split at h1
  · rename_i x e
    unfold kNeg at h1
    split at h1
    · exact ⟨_, (peek_ok R1 V1 e).int, kk _ ε1 G1 H1 ow1 _ h1 F1 R1 (.int _)⟩
    · exact h1.elim
  · exact h1.elim⟩
def sPar (i j : Nat) (t : TDF) : TDS := fun A ε => t ε fun xs ε1 => match xs with
  | [x, y] => A.nx (put (put ε1 i (.d x)) j (.d y))
  | _ => False
theorem ds_par {X : Cx} {i j : Nat} {x y : Str} {a b : Expr} {t : TDF} {px py pt : Pos} {kt k2 pt2 pos} (hc : X.calm = true) (hN : X.N.Nodup) (hi : X.N[i]? = some x) (hj : X.N[j]? = some y) (hij : i ≠ j)
    (hx : X.env.scope.names.lookup x = some .local) (hy : X.env.scope.names.lookup y = some .local) (ha : DF X [a, b] t)
    (hw : swappedStores [.Tuple [.Name x px, .Name y py] kt pt] (.Tuple [a, b] k2 pt2) X.env = pure (some [x, y]))
    (hs : swapsWithSole [.Tuple [.Name x px, .Name y py] kt pt] (.Tuple [a, b] k2 pt2) pos.line X.env = pure false := by rfl) :
    DS X W (.Assign [.Tuple [.Name x px, .Name y py] kt pt] (.Tuple [a, b] k2 pt2) pos) (sPar i j t) :=
  ps_wl (ps_par hc hN hi hj hij hx hy ha hw hs) fun D σ H hlen ⟨c, G, ow, ε, A, R, h, k1, k2, k3, k4, k5⟩ => ⟨c, G, ow, ε, _, R, h, fun xs ε1 G1 H1 ow1 vs h1 F1 R1 V1 => by
    match xs, V1 with
    | [x, y], .cons d1 (.cons d2 .nil) =>
      have e1 : i < ε1.length := by
        rw [← R1.len, hlen]
        exact (List.getElem?_eq_some_iff.mp hi).1
      have e2 : j < ε1.length := by
        rw [← R1.len, hlen]
        exact (List.getElem?_eq_some_iff.mp hj).1
      exact ⟨_, _, rfl, k1 _ _ G1 H1 ow1 h1 F1 (rep_put (rep_put R1 e1 ⟨_, rfl, d1⟩) (by rw [put_length]; exact e2) ⟨_, rfl, d2⟩)⟩
    | [], _ => exact h1.elim
    | [_], _ => exact h1.elim
    | _ :: _ :: _ :: _, _ => exact h1.elim⟩
/-! ### the law -/
def spLaw (K : PySem.W.Frag) : Sp := fun vs H Q _ => ∃ (a : Addr) (ns : List Int), vs = [.ref a] ∧ SqL K H a (ns.map V.int) ∧ ns.length ≤ 63 ∧ ∀ H', Q (.bl true) H'
def SLaw : DSp := fun ps A => ∃ ns : List Int, ps = [.d (.list (ns.map .int))] ∧ ns.length ≤ 63 ∧ ∀ ps', A (.d (.bool true)) ps'
theorem law_ok {P : Program} {w : World} {K : PySem.W.Frag} {mg : Str → Option Value} {base : Heap} {k : Nat} {f : Addr} {fd : FuncData} {ps : List Str} (F : FnOk P w K mg base CX0 k f fd ps (spD K 1 SLaw)) : FnOk P w K mg base CX0 k f fd ps (spLaw K) :=
  F.imp fun vs H Q E ⟨a, ns, e, hS, hl, q⟩ => by
    subst e
    refine ⟨⟨H, fun _ => none, fun _ => none⟩, H, fun _ => none, [.d (.list (ns.map .int))], fun r _ => r = .d (.bool true), rfl, ⟨Same.refl H, fun _ z => z, rfl, fun i o z => ?_⟩, rfl, (fun i p z => by cases (show (none : Option Addr) = some p from z)), ⟨ns, rfl, hl, fun _ => rfl⟩, fun r ps' v G' H' ow' z F R V => ?_⟩
    · match i with
      | 0 =>
        cases z
        exact ⟨_, rfl, .lst hS (dpa_ofInts ns)⟩
      | i + 1 => simp at z
    · subst z
      cases (show Dd K G' v (.bool true) from V)
      exact q H'

/-! ### readings, one step at a time: only what stands under ev is gone on with -/
def ev (P : Prop) : Prop := P
theorem ev_of {P : Prop} (h : ev P) : P := h
section
variable {A : Vl → Ep → Prop} {B : Bool → Ep → Prop} {C : List Vl → Ep → Prop} {D : DEnds} {E : List PyData → Ep → Prop} {N : Ep → Prop} {O : Option Int → Ep → Prop} {ε : Ep} {i j n : Nat} {t u v : TD} {p q : TDT} {a : TDA} {f : TDF} {g : TDG} {gs : TDGs} {s r : TDS} {x : PyData} {xs acc : List PyData} {to1 to2 : TDO} {S : DSp} {vs : List Nat}
theorem ap_seq : ev (sSeq s r D ε) = ev (s { nx := r D, rt := D.rt, bk := D.bk, ct := D.ct, xc := D.xc } ε) := id rfl
theorem ap_next : ev (sNext D ε) = ev (D.nx ε) := id rfl
theorem ap_brk : ev (sBrk D ε) = ev (D.bk ε) := id rfl
theorem ap_cnt : ev (sCnt D ε) = ev (D.ct ε) := id rfl
theorem ap_expr : ev (sExpr t D ε) = ev (t ε fun _ ε1 => D.nx ε1) := id rfl
theorem ap_ret : ev (sRet t D ε) = ev (t ε fun r ε1 => match unbor ε1 r with
  | some (r', ε2) => D.rt r' ε2
  | none => False) := id rfl
theorem ap_retN : ev (sRetN D ε) = ev (D.rt (.d .none) ε) := id rfl
theorem ap_if : ev (sIf p s r D ε) = ev (p ε fun b ε1 => onB b (s D ε1) (r D ε1)) := id rfl
theorem ap_asg : ev (sAsg t g D ε) = ev (t ε fun r ε1 => match frz ε1 r with
  | some (x, ε2) => g x ε2 D.nx
  | none => False) := id rfl
theorem ap_set : ev (sSet i t D ε) = ev (t ε fun r ε1 => match slOf ε1 r with
  | some (s, ε2) => D.nx (put ε2 i s)
  | none => False) := id rfl
theorem ap_seti : ev (sSetI j t u D ε) = ev (t ε fun r ε1 => match frz ε1 r with
  | some (x, ε2) => match look ε2 j with
    | .lst _ _ => u ε2 fun s ε3 => match peek ε3 s, look ε3 j with
      | some (.int i), .lst fr xs => onO (ixN xs.length i) fun m => D.nx (put ε3 j (.lst fr (xs.set m x)))
      | _, _ => False
    | _ => False
  | none => False) := id rfl
theorem ap_par : ev (sPar i j f D ε) = ev (f ε fun xs ε1 => match xs with
  | [x, y] => D.nx (put (put ε1 i (.d x)) j (.d y))
  | _ => False) := id rfl
theorem ap_dput : ev (sDPut j t u D ε) = ev (u ε fun r ε1 => match frz ε1 r with
  | some (x, ε2) => match look ε2 j with
    | .dct _ _ => t ε2 fun s ε3 => match peek ε3 s, look ε3 j with
      | some y, .dct fr kvs => onO (keyD y) fun k => kvs.length < 1000000 ∧ D.nx (put ε3 j (.dct fr (putD kvs k x)))
      | _, _ => False
    | _ => False
  | none => False) := id rfl
theorem ap_forL : ev (sForL t g s D ε) = ev (t ε fun r ε1 => match frz ε1 r with
  | some (.list ds, ε2) => forGo noI g s D ds ε2
  | _ => False) := id rfl
theorem ap_forT : ev (sForT t g s D ε) = ev (t ε fun r ε1 => match frz ε1 r with
  | some (.tuple ds, ε2) => forGo noI g s D ds ε2
  | _ => False) := id rfl
theorem ap_forR : ev (sForR a g s D ε) = ev (a ε fun rs ε1 => match peekAll ε1 rs with
  | some [.int j] => -(2 ^ 62) ≤ j ∧ j < 2 ^ 62 ∧ forGo noI g s D (rngD 0 j.toNat) ε1
  | _ => False) := id rfl
theorem ap_while : ev (sWhile p s D ε) = ev (∃ n, whGo p s D n ε) := id rfl
theorem ap_wh : ev (whGo p s D (n + 1) ε) = ev (p ε fun k ε1 => onB k (s { nx := whGo p s D n, rt := D.rt, bk := D.nx, ct := whGo p s D n, xc := D.xc } ε1) (D.nx ε1)) := id rfl
theorem ap_nm : ev (gNm i x ε N) = ev (N (put ε i (.d x))) := id rfl
theorem ap_gtp : ev (gTp n gs (.tuple xs) ε N) = (xs.length = n ∧ ev (gs xs ε N)) := id rfl
theorem ap_gnil : ev (gsNil [] ε N) = ev (N ε) := id rfl
theorem ap_gcons : ev (gsCons g gs (x :: xs) ε N) = ev (g x ε fun ε1 => gs xs ε1 N) := id rfl
theorem ap_var : ev (dVar i ε A) = ev (match look ε i with
  | .d x => A (.d x) ε
  | .lst _ _ => A (.bor i) ε
  | .dct _ _ => A (.bor i) ε
  | .v x => A (.v x) ε
  | .nt _ (.node a _ _) => A (.bp i [] a) ε
  | .nt _ (.fz _) => False
  | .al j p a => A (.bp j p a) ε
  | .ex nm => A (.ex nm) ε
  | .un => False) := id rfl
theorem ap_c : ev (dC x ε A) = ev (A (.d x) ε) := id rfl
theorem ap_op {k : PyData → PyData → (Vl → Prop) → Prop} : ev (dOp k t u ε A) = ev (t ε fun r1 ε1 => u ε1 fun r2 ε2 => match peek ε2 r1, peek ε2 r2 with
  | some x, some y => k x y fun r => A r ε2
  | _, _ => False) := id rfl
theorem ap_un {k : PyData → (Vl → Prop) → Prop} : ev (dUn k t ε A) = ev (t ε fun r1 ε1 => match peek ε1 r1 with
  | some x => k x fun r => A r ε1
  | _ => False) := id rfl
theorem ap_test : ev (dTest t ε B) = ev (t ε fun r ε1 => match r with
  | .d (.bool b) => B b ε1
  | _ => False) := id rfl
theorem ap_and : ev (dAnd p q ε B) = ev (p ε fun c ε1 => onB c (q ε1 B) (B false ε1)) := id rfl
theorem ap_or : ev (dOr p q ε B) = ev (p ε fun c ε1 => onB c (B true ε1) (q ε1 B)) := id rfl
theorem ap_not : ev (dNot p ε B) = ev (p ε fun c ε1 => B (!c) ε1) := id rfl
theorem ap_yes : ev (dYes ε B) = ev (B true ε) := id rfl
theorem ap_andV : ev (dAndV t u ε A) = ev (t ε fun r ε1 => match r with
  | .d (.bool b) => onB b (u ε1 A) (A (.d (.bool false)) ε1)
  | _ => False) := id rfl
theorem ap_orV : ev (dOrV t u ε A) = ev (t ε fun r ε1 => match r with
  | .d (.bool b) => onB b (A (.d (.bool true)) ε1) (u ε1 A)
  | _ => False) := id rfl
theorem ap_notV : ev (dNotV t ε A) = ev (t ε fun r ε1 => match r with
  | .d (.bool b) => A (.d (.bool (!b))) ε1
  | _ => False) := id rfl
theorem ap_ifE : ev (dIfE p t u ε A) = ev (p ε fun b ε1 => onB b (t ε1 A) (u ε1 A)) := id rfl
theorem ap_anil : ev (daNil ε C) = ev (C [] ε) := id rfl
theorem ap_acons : ev (daCons t a ε C) = ev (t ε fun r ε1 => a ε1 fun rs ε2 => C (r :: rs) ε2) := id rfl
theorem ap_fnil : ev (dfNil ε E) = ev (E [] ε) := id rfl
theorem ap_fcons : ev (dfCons t f ε E) = ev (t ε fun r ε1 => match frz ε1 r with
  | some (x, ε2) => f ε2 fun xs ε3 => E (x :: xs) ε3
  | none => False) := id rfl
theorem ap_tup : ev (dTup f ε A) = ev (f ε fun xs ε1 => xs.length ≤ 1000000 ∧ A (.d (.tuple xs)) ε1) := id rfl
theorem ap_lst : ev (dLst f ε A) = ev (f ε fun xs ε1 => xs.length ≤ 1000000 ∧ A (.new xs) ε1) := id rfl
theorem ap_dct : ev (dDct ε A) = ev (A (.dk []) ε) := id rfl
theorem ap_cb {k : List PyData → (Vl → Prop) → Prop} : ev (dCB k a ε A) = ev (a ε fun rs ε1 => match peekAll ε1 rs with
  | some xs => k xs fun r => A r ε1
  | none => False) := id rfl
theorem ap_isi {T : String} : ev (dIsi t T ε A) = ev (t ε fun r ε1 => match peek ε1 r with
  | some x => onO (kitB (tyD x) T) fun b => A (.d (.bool b)) ε1
  | none => False) := id rfl
theorem ap_sl : ev (dSlL t to1 to2 ε A) = ev (t ε fun r ε1 => to1 ε1 fun l ε2 => to2 ε2 fun u ε3 => match peek ε3 r with
  | some (.list xs) => A (.new (cutD xs l u)) ε3
  | _ => False) := id rfl
theorem ap_nopart : ev (dNoPart ε O) = ev (O none ε) := id rfl
theorem ap_part : ev (dPart t ε O) = ev (t ε fun r ε1 => match peek ε1 r with
  | some (.int i) => O (some i) ε1
  | _ => False) := id rfl
theorem ap_lstrg : ev (dLstRg t ε A) = ev (t ε fun r ε1 => match peek ε1 r with
  | some (.int n) => (0 ≤ n ∧ n ≤ 1000000) ∧ A (.new (rngD 0 n.toNat)) ε1
  | _ => False) := id rfl
theorem ap_mut {k : List PyData → List PyData → (PyData → List PyData → Prop) → Prop} : ev (dMut j k f ε A) = ev (match look ε j with
  | .lst _ _ => f ε fun ds ε1 => match look ε1 j with
    | .lst fr xs => k ds xs fun d ys => A (.d d) (put ε1 j (.lst fr ys))
    | _ => False
  | _ => False) := id rfl
theorem ap_call : ev (dCall S f ε A) = ev (f ε fun ds ε1 => runS S (ds.map .d) fun r _ => A r ε1) := id rfl
theorem ap_callS : ev (dCallS j S f ε A) = ev (match look ε j with
  | .lst _ _ => f ε fun ds ε1 => match look ε1 j with
    | .lst fr xs => runS S (.lst false xs :: ds.map .d) fun r ps => match ps with
      | .lst false ys :: _ => A r (put ε1 j (.lst fr ys))
      | _ => False
    | _ => False
  | _ => False) := id rfl
theorem ap_din {neg : Bool} : ev (dDIn neg t j ε A) = ev (t ε fun r ε1 => match peek ε1 r, look ε1 j with
  | some x, .dct _ kvs => onO (keyD x) fun k => A (.d (.bool (if neg then !(valD kvs k).isSome else (valD kvs k).isSome))) ε1
  | _, _ => False) := id rfl
theorem ap_lcL : ev (dLcL t g p u vs ε A) = ev (t ε fun r ε1 => match frz ε1 r with
  | some (.list ds, ε2) => lcGo noI g p u vs (fun acc ε' => A (.new acc) (rstE ε2 ε' vs)) ds [] (wipeE ε2 vs)
  | _ => False) := id rfl
theorem ap_lcT : ev (dLcT t g p u vs ε A) = ev (t ε fun r ε1 => match frz ε1 r with
  | some (.tuple ds, ε2) => lcGo noI g p u vs (fun acc ε' => A (.new acc) (rstE ε2 ε' vs)) ds [] (wipeE ε2 vs)
  | _ => False) := id rfl
theorem ap_lcR : ev (dLcR a g p u vs ε A) = ev (a ε fun rs ε1 => match peekAll ε1 rs with
  | some [.int j] => -(2 ^ 62) ≤ j ∧ j < 2 ^ 62 ∧ lcGo noI g p u vs (fun acc ε' => A (.new acc) (rstE ε1 ε' vs)) (rngD 0 j.toNat) [] (wipeE ε1 vs)
  | _ => False) := id rfl
theorem ap_lcnil {I : Ep → Prop} : ev (lcGo I g p u vs E [] acc ε) = (I ε ∧ ev (E acc ε)) := id rfl
theorem ap_lccons {I : Ep → Prop} : ev (lcGo I g p u vs E (x :: xs) acc ε) = (I ε ∧ ev (g x ε fun ε1 => p ε1 fun b ε2 => onB b (u ε2 fun r ε3 => match frz ε3 r with
    | some (y, ε4) => acc.length < 1000000 ∧ lcGo I g p u vs E xs (acc ++ [y]) (wipeE ε4 vs)
    | none => False) (lcGo I g p u vs E xs acc (wipeE ε2 vs)))) := id rfl
theorem ap_forB : ev (sForB j g s D ε) = ev (match look ε j with
  | .lst fr xs => forGo (fun ε' => look ε' j = .lst fr xs) g s { nx := D.nx, rt := D.rt, bk := D.bk, ct := D.ct, xc := D.xc } xs ε
  | _ => False) := id rfl
theorem ap_lcB : ev (dLcB j g p u vs ε A) = ev (match look ε j with
  | .lst fr xs => lcGo (fun ε' => look ε' j = .lst fr xs) g p u vs (fun acc ε' => A (.new acc) (rstE ε ε' vs)) xs [] (wipeE ε vs)
  | _ => False) := id rfl
theorem wp_nil : wipeE ε [] = ε := id rfl
theorem wp_cons : wipeE ε (i :: vs) = put (wipeE ε vs) i .un := id rfl
theorem rs_nil {ε' : Ep} : rstE ε ε' [] = ε' := id rfl
theorem rs_cons {ε' : Ep} : rstE ε ε' (i :: vs) = put (rstE ε ε' vs) i (keepS (look ε i)) := id rfl
theorem kp_d : keepS (.d x) = .d x := id rfl
theorem kp_un : keepS .un = .un := id rfl
theorem ev_ev {P : Prop} : ev (ev P) = ev P := id rfl
theorem kd_i {z1 : Int} : keyD (.int z1) = some (.inl z1) := id rfl
theorem kd_s {z1 : Str} : keyD (.str z1) = some (.inr z1) := id rfl
theorem ev_and {P Q : Prop} : ev (P ∧ Q) = (P ∧ ev Q) := id rfl
theorem ev_t {X Y : Prop} : ev (onB true X Y) = ev X := id rfl
theorem ev_f {X Y : Prop} : ev (onB false X Y) = ev Y := id rfl
theorem ev_s {α : Type} {d : α} {k : α → Prop} : ev (onO (some d) k) = ev (k d) := id rfl
/-! what operators and built-ins give, where the values are there -/
variable {V : Vl → Prop} {W : PyData → List PyData → Prop} {y : PyData} {ys : List PyData} {z1 z2 : Int} {gg : Int → Int → PyData} {g2 : Int → Int → Int} {CC : Int → Int → Prop} {neg : Bool}
theorem k_I0 : kI0 gg (.int z1) (.int z2) V = V (.d (gg z1 z2)) := id rfl
theorem k_I : kI CC gg (.int z1) (.int z2) V = (CC z1 z2 ∧ V (.d (gg z1 z2))) := id rfl
theorem k_Eq : kEq x y V = (SeqAt.shaped x = true ∧ SeqAt.shaped y = true ∧ V (.d (.bool (PyData.eqv x y)))) := id rfl
theorem k_Ne : kNe x y V = (SeqAt.shaped x = true ∧ SeqAt.shaped y = true ∧ V (.d (.bool (!PyData.eqv x y)))) := id rfl
theorem k_IsN : kIsN neg x .none V = V (.d (.bool (if neg then !isN x else isN x))) := id rfl
theorem k_InL : kIn neg x (.list ys) V = (flatD x = true ∧ ys.all flatD = true ∧ V (.d (.bool (if neg then !inD x ys else inD x ys)))) := id rfl
theorem k_InT : kIn neg x (.tuple ys) V = (flatD x = true ∧ ys.all flatD = true ∧ V (.d (.bool (if neg then !inD x ys else inD x ys)))) := id rfl
theorem k_Cat : kCat (.list xs) (.list ys) V = (xs.length + ys.length ≤ 1000000 ∧ V (.new (xs ++ ys))) := id rfl
theorem k_IxL : kIx (.list xs) (.int z1) V = onO (atI xs z1) fun d => V (.d d) := id rfl
theorem k_IxT : kIx (.tuple xs) (.int z1) V = onO (atI xs z1) fun d => V (.d d) := id rfl
theorem k_LenL : kLen [.list xs] V = V (.d (.int (xs.length : Nat))) := id rfl
theorem k_LenT : kLen [.tuple xs] V = V (.d (.int (xs.length : Nat))) := id rfl
theorem k_ListL : kList [.list xs] V = V (.new xs) := id rfl
theorem k_ListT : kList [.tuple xs] V = V (.new xs) := id rfl
theorem k_TupleL : kTuple [.list xs] V = V (.d (.tuple xs)) := id rfl
theorem k_TupleT : kTuple [.tuple xs] V = V (.d (.tuple xs)) := id rfl
theorem k_I2 : kI2 g2 [.int z1, .int z2] V = V (.d (.int (g2 z1 z2))) := id rfl
theorem k_Abs : kAbs [.int z1] V = V (.d (.int (if z1 < 0 then -z1 else z1))) := id rfl
theorem k_Neg : kNeg (.int z1) V = V (.d (.int (-z1))) := id rfl
theorem k_App : kAppend [y] xs W = (xs.length < 1000000 ∧ W .none (xs ++ [y])) := id rfl
theorem k_PopAt : kPopAt [.int z1] xs W = (0 ≤ z1 ∧ xs.length ≤ 1000000 ∧ onO xs[z1.toNat]? fun y => W y (xs.eraseIdx z1.toNat)) := id rfl
theorem lk_0 {s : Sl} {r : Ep} : look (s :: r) 0 = s := id rfl
theorem lk_s {s : Sl} {r : Ep} {n : Nat} : look (s :: r) (n + 1) = look r n := id rfl
theorem pt_0 {s s' : Sl} {r : Ep} : put (s :: r) 0 s' = s' :: r := id rfl
theorem pt_s {s s' : Sl} {r : Ep} {n : Nat} : put (s :: r) (n + 1) s' = s :: put r n s' := id rfl
end
end DL

/-! DL2: more rules of the data layer. -/
namespace DL
open PySem PySem.Spec PyProof.Rows L2
/-! ### is, is not of truths; int of a truth -/
def kIsB (neg : Bool) : PyData → PyData → (Vl → Prop) → Prop := fun x y A => match x, y with
  | .bool a, .bool b => A (.d (.bool (if neg then !decide (a = b) else decide (a = b))))
  | _, _ => False
def kInt : List PyData → (Vl → Prop) → Prop := fun xs A => match xs with
  | [.int i] => A (.d (.int i))
  | [.bool b] => A (.d (.int (if b then 1 else 0)))
  | _ => False
/-- tuple + tuple -/
def kCatT : PyData → PyData → (Vl → Prop) → Prop := fun x y A => match x, y with
  | .tuple xs, .tuple ys => xs.length + ys.length ≤ 1000000 ∧ A (.d (.tuple (xs ++ ys)))
  | _, _ => False
/-- list * int -/
def kRep : PyData → PyData → (Vl → Prop) → Prop := fun x y A => match x, y with
  | .list xs, .int k => (-(2 ^ 63) ≤ k ∧ k < 2 ^ 63 ∧ xs.length * k.toNat ≤ 1000000) ∧ A (.new (List.replicate k.toNat xs).flatten)
  | _, _ => False
/-- one sign in a text -/
def sign1 (s : Str) : Option Nat := match s.cps.toList with
  | [c] => some c
  | _ => none
def kInS (neg : Bool) : PyData → PyData → (Vl → Prop) → Prop := fun x y A => match x, y with
  | .str s, .str z => onO (sign1 s) fun c => A (.d (.bool (if neg then !decide (c ∈ z.cps.toList) else decide (c ∈ z.cps.toList))))
  | _, _ => False
section
variable {K : PySem.W.Frag}
theorem od_isB : OpD K rIsB (kIsB false) := fun G H x y v1 v2 A Q e p1 p2 h k => by
  unfold kIsB at h
  split at h
  · exact ⟨_, _, p1.bl, p2.bl, k _ _ _ h (.val (.bl _))⟩
  · exact h.elim
theorem od_notB : OpD K rNotB (kIsB true) := fun G H x y v1 v2 A Q e p1 p2 h k => by
  unfold kIsB at h
  split at h
  · exact ⟨_, _, p1.bl, p2.bl, k _ _ _ h (.val (.bl _))⟩
  · exact h.elim
theorem cd_int : CallD K (fun xs H Q => (∃ i, xs = [.int i] ∧ Q (.int i) H) ∨ ∃ k, xs = [.bl k] ∧ Q (.int (if k then 1 else 0)) H) kInt := fun G H xs vs A Q e p h k => by
  unfold kInt at h
  split at h
  · obtain ⟨v, rfl, p1⟩ := pk1 p
    cases p1.int
    exact .inl ⟨_, rfl, k _ _ _ h (.val (.int _))⟩
  · obtain ⟨v, rfl, p1⟩ := pk1 p
    cases p1.bl
    exact .inr ⟨_, rfl, k _ _ _ h (.val (.int _))⟩
  · exact h.elim
theorem Pk.tupD {G H : Hp} {v : V} {xs : List PyData} (h : Pk K G H v (.tuple xs)) : Dd K G v (.tuple xs) := by
  rcases h with h | ⟨_, _, _, _, e, _⟩
  · exact h
  · cases e
theorem od_catT : OpD K (rCatA K) kCatT := fun G H x y v1 v2 A Q e p1 p2 h k => by
  unfold kCatT at h
  split at h
  · rename_i xs ys
    have q1 := p1.tupD
    have q2 := p2.tupD
    obtain ⟨p, vs, rfl, hs, ha⟩ := p1.tuple e
    obtain ⟨q, us, rfl, hs2, ha2⟩ := p2.tuple e
    refine ⟨p, q, vs, us, rfl, rfl, hs, hs2, by rw [dpa_len ha, dpa_len ha2]; exact line_le h.1, fun h0 => ?_, fun h0 h1 => ?_, fun h0 h1 r hr => k _ _ _ h.2 (.tup hr (dpa_app ha ha2))⟩
    · subst h0
      cases ha
      exact k _ _ _ h.2 (.val q2)
    · subst h1
      cases ha2
      have hA := h.2
      rw [List.append_nil] at hA
      exact k _ _ _ hA (.val q1)
  · exact h.elim
def rRepR (K : PySem.W.Frag) : R2 := fun x y H Q => ∃ l k xs, x = .ref l ∧ y = .int k ∧ SqL K H l xs ∧ -(2 ^ 63) ≤ k ∧ k < 2 ^ 63 ∧ xs.length * k.toNat ≤ sizeLine ∧ ∀ p, H p = none → Q (.ref p) (upd H p (.lst (List.replicate k.toNat xs).flatten))
theorem op_repR {X : Cx} : OpR X (binaryOp .Mult) (rRepR X.K) := by
  intro pins s σ H x y v u Q I rx ry h
  obtain ⟨l, x, xs, rfl, rfl, hH, h1, h2, hz, q⟩ := h
  cases rx
  obtain ⟨t, rfl⟩ := ry
  obtain ⟨is1, r, P1, _⟩ := I.list hH
  obtain ⟨⟨cls, d, dat, sl⟩, ho, hc, n, hd⟩ := P1.isList
  simp only at hc hd
  subst hc hd
  have l1 := r.length
  have hs : sizeLine = 2 ^ 24 := rfl
  have big : is1.toArray.size * x.toNat ≤ 2 ^ 24 := by
    rw [List.size_toArray, ← l1, ← hs]
    exact hz
  refine wpAny_binaryOp_repeat_ref (T := "list") (U := "int") (by decide) ⟨_, ho, rfl⟩ (fun s' => typeIs_int s' x t) noFill_list_mul PySem.F.fills_int_mul PySem.F.slot_int_rmul
    repeat_list PySem.F.slot_int_index.lookup
    (call_meets PySem.F.slot_int_rmul (typeIs_int s x t) PySem.F.entry_int_rmul (PySem.F.args_int_rmul_2 _ _) (lm_int_rmul_list_any x t l is1.toArray n d sl)
      ⟨ho, rfl, ⟨_, ho, rfl⟩, call_meets PySem.F.slot_list_mul ⟨_, ho, rfl⟩ PySem.F.entry_list_mul (PySem.F.args_list_mul_2 _ _)
        (lm_list_mul_any l is1.toArray n d sl x t (by simp [Builtin.List.listFitsIndex]; omega) (by omega) (by simp [Builtin.List.listTooLong, sizeLine]; omega)) ⟨ho, ?_⟩⟩)
  rw [listMul_foldl_if]
  exact ⟨.ref _, _, I.lnew (t' := s.toks) (r.rep x.toNat) (by rw [PyProof.Rows.lm_len_rep_flat, Nat.mul_comm]; exact hz), rfl, q _ I.fresh⟩
theorem dpa_rep {H : Hp} {vs : List V} {xs : List PyData} (h : DdAll K H vs xs) : ∀ n : Nat, DdAll K H (List.replicate n vs).flatten (List.replicate n xs).flatten
  | 0 => .nil
  | n + 1 => by
    rw [List.replicate_succ, List.replicate_succ, List.flatten_cons, List.flatten_cons]
    exact dpa_app h (dpa_rep h n)
theorem od_rep : OpD K (rRepR K) kRep := fun G H x y v1 v2 A Q e p1 p2 h k => by
  unfold kRep at h
  split at h
  · obtain ⟨p, vs, rfl, hs, ha⟩ := p1.list e
    cases p2.int
    exact ⟨p, _, vs, rfl, rfl, hs, h.1.1, h.1.2.1, by rw [dpa_len ha]; exact line_le h.1.2.2, fun r hr => k _ _ _ h.2 (.lst hr (dpa_rep ha _))⟩
  · exact h.elim
theorem sign1_of {s : Str} {c : Nat} (h : sign1 s = some c) : s = ⟨#[c]⟩ := by
  unfold sign1 at h
  split at h
  · rename_i c' e
    cases h
    obtain ⟨a⟩ := s
    have : a = #[c] := by
      apply Array.ext'
      simpa using e
    rw [this]
  · cases h
theorem od_inS : OpD K (fun x y H Q => ∃ (c : Nat) (z : Str), x = .str ⟨#[c]⟩ ∧ y = .str z ∧ Q (.bl (decide (c ∈ z.cps.toList))) H) (kInS false) := fun G H x y v1 v2 A Q e p1 p2 h k => by
  unfold kInS at h
  split at h
  · obtain ⟨c, hc, h⟩ := onO_get h
    have e1 := sign1_of hc
    subst e1
    exact ⟨c, _, p1.str, p2.str, k _ _ _ h (.val (.bl _))⟩
  · exact h.elim
theorem od_notinS : OpD K (fun x y H Q => ∃ (c : Nat) (z : Str), x = .str ⟨#[c]⟩ ∧ y = .str z ∧ Q (.bl (!decide (c ∈ z.cps.toList))) H) (kInS true) := fun G H x y v1 v2 A Q e p1 p2 h k => by
  unfold kInS at h
  split at h
  · obtain ⟨c, hc, h⟩ := onO_get h
    have e1 := sign1_of hc
    subst e1
    exact ⟨c, _, p1.str, p2.str, k _ _ _ h (.val (.bl _))⟩
  · exact h.elim
end
/-! ### xs[::-1] -/
def dRev (t : TD) : TD := fun ε A => t ε fun r ε1 => match peek ε1 r with
  | some (.list xs) => A (.new xs.reverse) ε1
  | _ => False
theorem dpa_rev {K : PySem.W.Frag} {H : Hp} : ∀ {vs : List V} {xs : List PyData}, DdAll K H vs xs → DdAll K H vs.reverse xs.reverse
  | _, _, .nil => .nil
  | _, _, .cons h t => by
    rw [List.reverse_cons, List.reverse_cons]
    exact dpa_app (dpa_rev t) (dpa_one h)
theorem dv_rev {X : Cx} {e : Expr} {t : TD} {k : Nat} {p1 p2 p3 pos : Pos} (he : DV X e t) : DV X (.Subscript e (.Slice none none (some (.UnaryOp .USub (.Constant (.int 1) k p1) p2)) p3) pos) (dRev t) :=
  pe_w (pe_revL he) fun σ H Q ⟨c, G, ow, ε, A, R, h, kk⟩ => ⟨c, G, ow, ε, _, R, h, fun r ε1 G1 H1 ow1 v h1 F1 R1 V1 => by
    split at h1
    · rename_i xs e
      obtain ⟨p, vs, rfl, hs, ha⟩ := (peek_ok R1 V1 e).list R1.ex
      refine ⟨p, vs, rfl, hs, fun q hq => ?_⟩
      obtain ⟨G', ow', F4, R4, V4⟩ := res_fin R1 (.lst hq (dpa_rev ha))
      exact kk _ _ G' _ ow' _ h1 (F1.trans F4) R4 (V4.since F1.dom)
    · exact h1.elim⟩
/-! ### a < b < c -/
def dChain (k k' : PyData → PyData → (Vl → Prop) → Prop) (ta tb tc : TD) : TD := fun ε A => ta ε fun r1 ε1 => tb ε1 fun r2 ε2 => match r2, peek ε2 r1 with
  | .d y, some x => k x y fun r => match r with
    | .d (.bool b) => onB b (tc ε2 fun r3 ε3 => match peek ε3 r3 with
      | some z => k' y z fun r => A r ε3
      | none => False) (A (.d (.bool false)) ε2)
    | _ => False
  | _, _ => False
theorem dv_chain {X : Cx} {op op' : CmpOp} {r r' : R2} {k k' : PyData → PyData → (Vl → Prop) → Prop} {a b c : Expr} {ta tb tc : TD} {pos : Pos} (ho : OpR X (compareOp op) r) (ho' : OpR X (compareOp op') r') (hk : OpD X.K r k) (hk' : OpD X.K r' k') (ha : DV X a ta) (hb : DV X b tb) (hc : DV X c tc)
    (hm : lastMarks [op, op'] [b, c] = false := by with_unfolding_all rfl) : DV X (.Compare a [op, op'] [b, c] pos) (dChain k k' ta tb tc) :=
  pe_w (pe_chain ho ho' ha hb hc hm) fun σ H Q ⟨c, G, ow, ε, A, R, h, kk⟩ => ⟨c, G, ow, ε, _, R, h, fun r1 ε1 G1 H1 ow1 v1 h1 F1 R1 V1 => ⟨c, G1, ow1, ε1, _, R1, h1, fun r2 ε2 G2 H2 ow2 v2 h2 F2 R2 V2 => by
    have F := F1.trans F2
    split at h2
    · rename_i y x e1
      have d2 : Dd X.K G2 v2 y := V2
      refine hk G2 H2 x y v1 v2 _ _ R2.ex (peek_ok R2 (V1.fr F2) e1) (.inl d2) h2 fun r v H' hr hres => ?_
      obtain ⟨G', ow', F3, R3, V3⟩ := res_fin R2 hres
      split at hr
      · rename_i b
        have V3 : Dd X.K G' v (.bool b) := V3
        cases V3
        refine ⟨b, rfl, ?_⟩
        cases b with
        | true =>
          refine iteT ⟨c, G', ow', ε2, _, R3, hr, fun r3 ε3 G4 H4 ow4 v4 h4 F4 R4 V4 => ?_⟩
          split at h4
          · rename_i z e4
            refine hk' G4 H4 y z v2 v4 _ _ R4.ex (.inl (dp_ex (F3.trans F4).ex y d2)) (peek_ok R4 V4 e4) h4 fun r v H5 hr5 hres5 => ?_
            obtain ⟨G5, ow5, F5, R5, V5⟩ := res_fin R4 hres5
            exact kk _ _ G5 H5 ow5 v hr5 (((F.trans F3).trans F4).trans F5) R5 (V5.since ((F.trans F3).trans F4).dom)
          · exact h4.elim
        | false => exact iteF (kk _ _ G' _ ow' _ hr (F.trans F3) R3 (.bl false))
      · exact hr.elim
    · exact h2.elim⟩⟩
/-! ### a comprehension over a text's signs -/
def signs (s : Str) : List PyData := s.cps.toList.map fun c => .str ⟨#[c]⟩
def dLcS (t : TD) (g : TDG) (tt : TDT) (te : TD) (vs : List Nat) : TD := fun ε A => t ε fun r ε1 => match peek ε1 r with
  | some (.str s) => lcGo noI g tt te vs (fun acc ε' => A (.new acc) (rstE ε1 ε' vs)) (signs s) [] (wipeE ε1 vs)
  | _ => False
theorem lcS_rd {K : PySem.W.Frag} {t : TD} {g : TDG} {tt : TDT} {te : TD} {ws vs : List Nat} {σ : L2.St} {H : Hp} {Q : VK} (hws : ∀ j ∈ ws, j ∈ vs) (h : rdV K (dLcS t g tt te vs) σ H Q) : tLc (iStr (rdV K t)) (rdG K ws g) (rdT K tt) (rdV K te) vs σ H Q := by
  obtain ⟨c, G, ow, ε, A, R, h, kk⟩ := h
  refine ⟨c, G, ow, ε, _, R, h, fun r ε1 G1 H1 ow1 v h1 F1 R1 V1 => ?_⟩
  split at h1
  · rename_i s e
    have es := (peek_ok R1 V1 e).str
    have hl : (signs s).length = s.cps.size := by simp [signs]
    refine ⟨s, es, lc_core hws R1 F1 h1 (fun i x H' G' ow' ε' hx _ f1 r1 => ?_) (fun H' G' ow' ε' _ f1 r1 => by rw [hl]; exact Nat.le_refl _) fun acc ε' G' H' ow' v q F R V => kk _ _ G' H' ow' v q F R V⟩
    have hi : i < s.cps.size := by
      rw [← hl]
      exact (List.getElem?_eq_some_iff.mp hx).1
    refine ⟨hi, fun y H2 hy => ⟨hy.1, ?_⟩⟩
    obtain ⟨c, hc, rfl⟩ := hy.2
    have ex : x = .str ⟨#[c]⟩ := by
      unfold signs at hx
      rw [List.getElem?_map, Array.getElem?_toList, hc] at hx
      exact (Option.some.inj hx).symm
    subst ex
    exact .str _
  · exact h1.elim
section
variable {X : Cx} {elt tg iter : Expr} {ifs : List Expr} {scope : Scope} {own : List (Str × Nat)} {pos : Pos} {t : TD} {g : TDG} {tt : TDT} {te : TD} {ws : List Nat}
theorem dv_lcS (hc : X.calm = true) (hN : X.N.Nodup) (hi : DV X iter t) (b : Blk X tg ifs elt scope own ws g tt te) (hs : ∀ x, foldedSetIterable iter X.env x = pure x := by intro _; rfl) : DV X (.ListComp elt [⟨tg, iter, ifs, 0⟩] scope pos) (dLcS t g tt te (own.map (·.2))) :=
  pe_w (pe_lc hc hN (pi_str hi) b.ok b.tgt b.tst b.elt hs) fun _ _ _ h => lcS_rd b.sub h
end
/-! ### steps -/
section
variable {A : Vl → Ep → Prop} {V : Vl → Prop} {ε : Ep} {t u v : TD} {g : TDG} {p : TDT} {vs : List Nat} {b1 b2 neg : Bool} {z1 : Int} {xs ys : List PyData} {s1 s2 : Str} {k k' : PyData → PyData → (Vl → Prop) → Prop}
theorem ap_rev : ev (dRev t ε A) = ev (t ε fun r ε1 => match peek ε1 r with
  | some (.list xs) => A (.new xs.reverse) ε1
  | _ => False) := id rfl
theorem ap_chain : ev (dChain k k' t u v ε A) = ev (t ε fun r1 ε1 => u ε1 fun r2 ε2 => match r2, peek ε2 r1 with
  | .d y, some x => k x y fun r => match r with
    | .d (.bool b) => onB b (v ε2 fun r3 ε3 => match peek ε3 r3 with
      | some z => k' y z fun r => A r ε3
      | none => False) (A (.d (.bool false)) ε2)
    | _ => False
  | _, _ => False) := id rfl
theorem ap_lcS : ev (dLcS t g p u vs ε A) = ev (t ε fun r ε1 => match peek ε1 r with
  | some (.str s) => lcGo noI g p u vs (fun acc ε' => A (.new acc) (rstE ε1 ε' vs)) (signs s) [] (wipeE ε1 vs)
  | _ => False) := id rfl
theorem k_IsB : kIsB neg (.bool b1) (.bool b2) V = V (.d (.bool (if neg then !decide (b1 = b2) else decide (b1 = b2)))) := id rfl
theorem k_IntI : kInt [.int z1] V = V (.d (.int z1)) := id rfl
theorem k_IntB : kInt [.bool b1] V = V (.d (.int (if b1 then 1 else 0))) := id rfl
theorem k_CatT : kCatT (.tuple xs) (.tuple ys) V = (xs.length + ys.length ≤ 1000000 ∧ V (.d (.tuple (xs ++ ys)))) := id rfl
theorem k_Rep : kRep (.list xs) (.int z1) V = ((-(2 ^ 63) ≤ z1 ∧ z1 < 2 ^ 63 ∧ xs.length * z1.toNat ≤ 1000000) ∧ V (.new (List.replicate z1.toNat xs).flatten)) := id rfl
theorem k_InS : kInS neg (.str s1) (.str s2) V = onO (sign1 s1) fun c => V (.d (.bool (if neg then !decide (c ∈ s2.cps.toList) else decide (c ∈ s2.cps.toList)))) := id rfl
theorem k_LenS : kLen [.str s1] V = (s1.length ≤ 1000000 ∧ V (.d (.int (s1.length : Nat)))) := id rfl
end
/-! ### constants of the module -/
def gvD : Value → PyData → Bool
  | .none, .none => true
  | .bool a, .bool b => a == b
  | .int i _, .int j => i == j
  | .str x _, .str y => decide (x = y)
  | _, _ => false
def gvsD : List Value → List PyData → Bool
  | [], [] => true
  | v :: vs, d :: ds => gvD v d && gvsD vs ds
  | _, _ => false
def GlobD (K : PySem.W.Frag) (mg : Str → Option Value) (x : Str) (d : PyData) : Prop := ∃ u v, mg x = some u ∧ RelV v u ∧ ∀ G, Dd K G v d
theorem gvD_ok {K : PySem.W.Frag} {u : Value} {d : PyData} (h : gvD u d = true) : ∃ v, RelV v u ∧ ∀ G, Dd K G v d := by
  unfold gvD at h
  split at h
  · exact ⟨.non, rfl, fun _ => .non⟩
  · cases eq_of_beq h
    exact ⟨.bl _, rfl, fun _ => .bl _⟩
  · cases eq_of_beq h
    exact ⟨.int _, ⟨_, rfl⟩, fun _ => .int _⟩
  · cases of_decide_eq_true h
    exact ⟨.str _, ⟨_, rfl⟩, fun _ => .str _⟩
  · cases h
theorem gvsD_ok {K : PySem.W.Frag} : ∀ {us : List Value} {ds : List PyData}, gvsD us ds = true → ∃ vs, Vals vs us ∧ ∀ G, DdAll K G vs ds
  | [], [], _ => ⟨[], .nil, fun _ => .nil⟩
  | u :: us, d :: ds, h => by
    simp only [gvsD, Bool.and_eq_true] at h
    obtain ⟨v, r, p⟩ := gvD_ok (K := K) h.1
    obtain ⟨vs, rs, ps⟩ := gvsD_ok (K := K) h.2
    exact ⟨v :: vs, .cons r rs, fun G => .cons (p G) (ps G)⟩
  | [], _ :: _, h => by cases h
  | _ :: _, [], h => by cases h
theorem glob_flat {K : PySem.W.Frag} {mg : Str → Option Value} {x : Str} {u : Value} {d : PyData} (hm : mg x = some u) (h : gvD u d = true) : GlobD K mg x d := by
  obtain ⟨v, r, p⟩ := gvD_ok (K := K) h
  exact ⟨u, v, hm, r, p⟩
theorem glob_tup {K : PySem.W.Frag} {mg : Str → Option Value} {x : Str} {a : Addr} {od : Option Addr} {its : Array Value} {n : Nat} {sl : Array (Option Value)} {ds : List PyData} (hm : mg x = some (.ref a)) (hk : K.lookup a = some ⟨.type "tuple", od, .seq its n, sl⟩)
    (h : (decide (its.size ≤ 1000) && gvsD its.toList ds) = true) : GlobD K mg x (.tuple ds) := by
  rw [Bool.and_eq_true] at h
  obtain ⟨vs, r, p⟩ := gvsD_ok (K := K) h.2
  have hz := of_decide_eq_true h.1
  exact ⟨_, .ref a, hm, rfl, fun G => .tup (.inr ⟨_, its, n, hk, rfl, rfl, Nat.le_trans hz (by decide), r⟩) (p G)⟩
theorem dv_gd {X : Cx} {x : Str} {d : PyData} {pos : Pos} (h : GlobD X.K X.mg x d) (hg : Gl X x) (hd : (x == ("__debug__" : Str)) = false := by decide) : DV X (.Name x pos) (dC d) := by
  obtain ⟨u, v, hm, r, p⟩ := h
  exact dv_glob hg hm r p hd
/-! ### comprehensions that map and filter, their slots as they were -/
theorem lc_mf {g : TDG} {tt : TDT} {te : TD} {vs : List Nat} {p : PyData → Bool} {f : PyData → PyData} {e : PyData → Ep} {ε : Ep} {A : List PyData → Ep → Prop} : ∀ (its acc : List PyData),
    (∀ x ∈ its, ∀ (B : Vl → Ep → Prop) (C : Ep → Prop), (p x = true → B (.d (f x)) (e x)) → (p x = false → C (e x)) → g x ε fun ε1 => tt ε1 fun b ε2 => onB b (te ε2 B) (C ε2)) → (∀ x ∈ its, wipeE (e x) vs = ε) → acc.length + its.length ≤ 1000000 →
    A (acc ++ (its.filter p).map f) ε → lcGo noI g tt te vs A its acc ε
  | [], acc, _, _, _, h => ⟨trivial, by simpa using h⟩
  | x :: its, acc, h1, h2, hl, h => by
    rw [List.length_cons] at hl
    refine ⟨trivial, h1 x List.mem_cons_self _ (fun ε2 => lcGo noI g tt te vs A its acc (wipeE ε2 vs)) (fun hp => ?_) fun hp => ?_⟩
    · show acc.length < 1000000 ∧ lcGo noI g tt te vs A its (acc ++ [f x]) (wipeE (e x) vs)
      rw [h2 x List.mem_cons_self]
      refine ⟨by omega, lc_mf its _ (fun y hy => h1 y (List.mem_cons_of_mem _ hy)) (fun y hy => h2 y (List.mem_cons_of_mem _ hy)) (by simp; omega) ?_⟩
      rw [List.filter_cons, if_pos hp] at h
      simpa using h
    · show lcGo noI g tt te vs A its acc (wipeE (e x) vs)
      rw [h2 x List.mem_cons_self]
      refine lc_mf its _ (fun y hy => h1 y (List.mem_cons_of_mem _ hy)) (fun y hy => h2 y (List.mem_cons_of_mem _ hy)) (by omega) ?_
      rw [List.filter_cons, if_neg (by rw [hp]; decide)] at h
      exact h
theorem lc_map {g : TDG} {te : TD} {vs : List Nat} {f : PyData → PyData} {e : PyData → Ep} {ε : Ep} {A : List PyData → Ep → Prop} (its acc : List PyData)
    (h1 : ∀ x ∈ its, ∀ B : Vl → Ep → Prop, B (.d (f x)) (e x) → g x ε fun ε1 => te ε1 B) (h2 : ∀ x ∈ its, wipeE (e x) vs = ε) (hl : acc.length + its.length ≤ 1000000)
    (h : A (acc ++ its.map f) ε) : lcGo noI g dYes te vs A its acc ε :=
  lc_mf (p := fun _ => true) its acc (fun x hx B _ hb _ => h1 x hx B (hb rfl)) h2 hl (by rw [List.filter_eq_self.mpr fun _ _ => rfl]; exact h)
/-! ### what a thing is -/
def isTup : PyData → Bool
  | .tuple _ => true
  | _ => false
theorem kit_tuple : ∀ x : PyData, kitB (tyD x) "tuple" = some (isTup x)
  | .none => (by decide +kernel : kitB "NoneType" "tuple" = some false)
  | .bool _ => (by decide +kernel : kitB "bool" "tuple" = some false)
  | .int _ => (by decide +kernel : kitB "int" "tuple" = some false)
  | .str _ => (by decide +kernel : kitB "str" "tuple" = some false)
  | .list _ => (by decide +kernel : kitB "list" "tuple" = some false)
  | .tuple _ => (by decide +kernel : kitB "tuple" "tuple" = some true)
  | .dict _ => (by decide +kernel : kitB "dict" "tuple" = some false)
def isLst : PyData → Bool
  | .list _ => true
  | _ => false
theorem kit_list : ∀ x : PyData, kitB (tyD x) "list" = some (isLst x)
  | .none => (by decide +kernel : kitB "NoneType" "list" = some false)
  | .bool _ => (by decide +kernel : kitB "bool" "list" = some false)
  | .int _ => (by decide +kernel : kitB "int" "list" = some false)
  | .str _ => (by decide +kernel : kitB "str" "list" = some false)
  | .list _ => (by decide +kernel : kitB "list" "list" = some true)
  | .tuple _ => (by decide +kernel : kitB "tuple" "list" = some false)
  | .dict _ => (by decide +kernel : kitB "dict" "list" = some false)
def isStr : PyData → Bool
  | .str _ => true
  | _ => false
theorem kit_str : ∀ x : PyData, kitB (tyD x) "str" = some (isStr x)
  | .none => (by decide +kernel : kitB "NoneType" "str" = some false)
  | .bool _ => (by decide +kernel : kitB "bool" "str" = some false)
  | .int _ => (by decide +kernel : kitB "int" "str" = some false)
  | .str _ => (by decide +kernel : kitB "str" "str" = some true)
  | .list _ => (by decide +kernel : kitB "list" "str" = some false)
  | .tuple _ => (by decide +kernel : kitB "tuple" "str" = some false)
  | .dict _ => (by decide +kernel : kitB "dict" "str" = some false)
def isInt : PyData → Bool
  | .bool _ => true
  | .int _ => true
  | _ => false
theorem kit_int : ∀ x : PyData, kitB (tyD x) "int" = some (isInt x)
  | .none => (by decide +kernel : kitB "NoneType" "int" = some false)
  | .bool _ => (by decide +kernel : kitB "bool" "int" = some true)
  | .int _ => (by decide +kernel : kitB "int" "int" = some true)
  | .str _ => (by decide +kernel : kitB "str" "int" = some false)
  | .list _ => (by decide +kernel : kitB "list" "int" = some false)
  | .tuple _ => (by decide +kernel : kitB "tuple" "int" = some false)
  | .dict _ => (by decide +kernel : kitB "dict" "int" = some false)
def isBool : PyData → Bool
  | .bool _ => true
  | _ => false
theorem kit_bool : ∀ x : PyData, kitB (tyD x) "bool" = some (isBool x)
  | .none => (by decide +kernel : kitB "NoneType" "bool" = some false)
  | .bool _ => (by decide +kernel : kitB "bool" "bool" = some true)
  | .int _ => (by decide +kernel : kitB "int" "bool" = some false)
  | .str _ => (by decide +kernel : kitB "str" "bool" = some false)
  | .list _ => (by decide +kernel : kitB "list" "bool" = some false)
  | .tuple _ => (by decide +kernel : kitB "tuple" "bool" = some false)
  | .dict _ => (by decide +kernel : kitB "dict" "bool" = some false)
def isDict : PyData → Bool
  | .dict _ => true
  | _ => false
theorem kit_dict : ∀ x : PyData, kitB (tyD x) "dict" = some (isDict x)
  | .none => (by decide +kernel : kitB "NoneType" "dict" = some false)
  | .bool _ => (by decide +kernel : kitB "bool" "dict" = some false)
  | .int _ => (by decide +kernel : kitB "int" "dict" = some false)
  | .str _ => (by decide +kernel : kitB "str" "dict" = some false)
  | .list _ => (by decide +kernel : kitB "list" "dict" = some false)
  | .tuple _ => (by decide +kernel : kitB "tuple" "dict" = some false)
  | .dict _ => (by decide +kernel : kitB "dict" "dict" = some true)
/-- a decision that answers a truth -/
theorem onO_kit {o : Option Bool} {b : Bool} {k : Bool → Prop} (h : o = some b) (q : k b) : onO o k := onO_of h q
end DL

/-! DL3: texts; a def's promise that is its own reading. -/
namespace DL
open PySem PySem.Spec PyProof.Rows L2
/-! ### texts -/
def kCatS : PyData → PyData → (Vl → Prop) → Prop := fun x y A => match x, y with
  | .str a, .str b => a.length + b.length ≤ 1000000 ∧ A (.d (.str (a ++ b)))
  | _, _ => False
def repS (a : Str) (n : Nat) : Str := ⟨(List.replicate n a.cps.toList).flatten.toArray⟩
def kRepS : PyData → PyData → (Vl → Prop) → Prop := fun x y A => match x, y with
  | .str a, .int k => (-1000 ≤ k ∧ k ≤ 1000 ∧ a.length ≤ 1000) ∧ A (.d (.str (repS a k.toNat)))
  | _, _ => False
def kIxA : PyData → PyData → (Vl → Prop) → Prop := fun x y A => match x, y with
  | .list xs, .int i => onO (atI xs i) fun d => A (.d d)
  | .tuple xs, .int i => onO (atI xs i) fun d => A (.d d)
  | .str z, .int i => z.length ≤ 1000000 ∧ onO (atI z.cps.toList i) fun c => A (.d (.str ⟨#[c]⟩))
  | _, _ => False
/-- a slice of a list, a tuple, a text -/
def kSl (x : PyData) (l u : Option Int) (A : Vl → Prop) : Prop := match x with
  | .list xs => A (.new (cutD xs l u))
  | .tuple xs => A (.d (.tuple (cutD xs l u)))
  | .str z => z.length ≤ 1000000 ∧ A (.d (.str (cutS z l u)))
  | _ => False
section
variable {K : PySem.W.Frag}
theorem od_catS : OpD K (fun x y H Q => ∃ i j, x = .str i ∧ y = .str j ∧ i.length + j.length ≤ sizeLine ∧ Q (.str (i ++ j)) H) kCatS := fun G H x y v1 v2 A Q e p1 p2 h k => by
  unfold kCatS at h
  split at h
  · exact ⟨_, _, p1.str, p2.str, line_le h.1, k _ _ _ h.2 (.val (.str _))⟩
  · exact h.elim
def rRepS : R2 := fun x y H Q => ∃ a k, x = .str a ∧ y = .int k ∧ (-1000 ≤ k ∧ k ≤ 1000 ∧ a.length ≤ 1000) ∧ Q (.str (repS a k.toNat)) H
theorem od_repS : OpD K rRepS kRepS := fun G H x y v1 v2 A Q e p1 p2 h k => by
  unfold kRepS at h
  split at h
  · exact ⟨_, _, p1.str, p2.int, h.1, k _ _ _ h.2 (.val (.str _))⟩
  · exact h.elim
theorem fold_rep (a : Array Nat) : ∀ (n : Nat) (z : Array Nat), (List.replicate n a).foldl (· ++ ·) z = z ++ (List.replicate n a.toList).flatten.toArray
  | 0, z => by simp
  | n + 1, z => by
    rw [List.replicate_succ, List.foldl_cons, fold_rep a n, List.replicate_succ, List.flatten_cons, Array.append_assoc]
    refine congrArg (z ++ ·) ?_
    obtain ⟨a⟩ := a
    simp
theorem op_repS {X : Cx} : OpR X (binaryOp .Mult) rRepS := by
  intro pins s σ H x y v u Q I rx ry h
  obtain ⟨a, k, rfl, rfl, ⟨h1, h2, h3⟩, q⟩ := h
  obtain ⟨t, rfl⟩ := rx
  obtain ⟨t', rfl⟩ := ry
  refine P.mul_str (by rw [decide_eq_false (by omega), decide_eq_false (by omega)]; rfl) (fun hn _ hc => ?_) (fun hn _ => ?_) ?_
  · have h5 : (1000 : Int) ≤ (2 ^ 63 - 1) / k := by
      rw [Int.le_ediv_iff_mul_le (by omega)]
      have : (1000 : Int) * k ≤ 1000 * 1000 := Int.mul_le_mul_of_nonneg_left h2 (by decide)
      omega
    omega
  · have h5 : a.length * k.toNat ≤ 1000 * 1000 := Nat.mul_le_mul h3 (by omega)
    have : sizeLine = 16777216 := rfl
    simp [Builtin.Str.tooLong]
    omega
  · have fin : ∀ (z : Str) (t : Tok) (s' : Shared), z = repS a k.toNat → Inv X pins σ H s' → EP X pins σ Q (.str z t) s' := fun z t s' e I' => by
      subst e
      exact ⟨.str _, H, I', ⟨_, rfl⟩, q⟩
    split
    · rename_i hn
      have : k.toNat = 0 := by omega
      exact ⟨by decide, fin _ _ _ (by rw [this]; rfl) (I.tok _)⟩
    · split
      · rename_i hn hz
        refine fin _ _ _ ?_ I
        rw [Bool.or_eq_true] at hz
        rcases hz with hz | hz
        · have : k = 1 := by simpa using hz
          subst this
          obtain ⟨a⟩ := a
          simp [repS]
        · have hz : a.length = 0 := by simpa using hz
          obtain ⟨⟨a⟩⟩ := a
          have hz : a = [] := List.length_eq_zero_iff.mp (by simpa [Str.length] using hz)
          subst hz
          simp [repS]
      · refine ⟨?_, fin _ _ _ ?_ (I.tok _)⟩
        · have e : ((List.replicate k.toNat a.cps).foldl (· ++ ·) #[]).size = k.toNat * a.length := by
            rw [fold_rep]
            simp [Str.length]
          show Array.size _ ≤ sizeLine
          rw [e]
          have h5 : k.toNat * a.length ≤ 1000 * 1000 := Nat.mul_le_mul (by omega) h3
          have : sizeLine = 16777216 := rfl
          omega
        · rw [fold_rep]
          simp [repS]
end
end DL
namespace DL
open PySem PySem.Spec PyProof.Rows L2 HT
section
variable {prog : Program} {w : World} {A : Around} {E : Value → Shared → Prop} {s : Shared}
theorem sliceApplied_rev {sl : Addr} {vl vu vs : Value} {n : Nat} {Q : Int × Int × Nat → Shared → Prop} (hs : s.heap.IsSliceOf sl vl vu vs) (pl : IsPart vl none) (pu : IsPart vu none) (ps : IsPart vs (some (-1)))
    (h : Q ((n : Int) - 1, -1, n) s) : wpAny (model prog w) A (Builtin.Slice.sliceApplied (.ref sl) (pure (n : Int))) Q E s := by
  obtain ⟨os, hos, hcs, hds⟩ := id hs
  unfold Builtin.Slice.sliceApplied Builtin.Slice.sliceFields
  refine wpAny_bind (wpAny_bind (wpAny_field hos hds (x := vl) rfl (wpAny_bind (wpAny_field hos hds (x := vu) rfl (wpAny_bind (wpAny_field hos hds (x := vs) rfl (wpAny_pure ?_)))))))
  refine wpAny_bind (slicePart_ ps ?_)
  show wpAny _ _ (if ((-1 : Int) == 0) = true then _ else _) _ _ s
  rw [if_neg (by decide)]
  refine wpAny_bind (slicePart_ pl (wpAny_bind (slicePart_ pu (wpAny_bind (wpAny_pure ?_)))))
  have e : Builtin.Slice.slicePlaces ((n : Int) - 1) (-1) (-1) = n := by
    unfold Builtin.Slice.slicePlaces
    rw [if_neg (by decide)]
    by_cases hn : n = 0
    · subst hn; rfl
    · rw [if_pos (by omega)]
      have : ((n : Int) - 1 - -1 - 1) / (- -1) + 1 = n := by
        rw [show (- -1 : Int) = 1 from rfl, Int.ediv_one]
        omega
      rw [this]
      rfl
  show wpAny _ _ (pure ((n : Int) - 1, (-1 : Int), Builtin.Slice.slicePlaces ((n : Int) - 1) (-1) (-1))) _ _ s
  rw [e]
  exact wpAny_pure h
theorem getItem_tuple_rev {t sl : Addr} {items : Array Value} {vl vu vs : Value} {Q : Value → Shared → Prop} (ht : IsTup s.heap t items) (hs : s.heap.IsSliceOf sl vl vu vs) (pl : IsPart vl none) (pu : IsPart vu none) (ps : IsPart vs (some (-1)))
    (h : Q (.ref s.heap.objs.size) { s with heap := s.heap.push { cls := .type "tuple", data := .seq items.toList.reverse.toArray } })
    (hsz : items.size ≤ sizeLine) : wpAny (model prog w) A (getItem (.ref t) (.ref sl)) Q E s := by
  have htake : sizeOk (.seq items.toList.reverse.toArray) := by
    show items.toList.reverse.toArray.size ≤ sizeLine
    simpa using hsz
  obtain ⟨os, hos, hcs, hds⟩ := id hs
  have hTs : s.TypeIs (.ref sl) "slice" := ⟨os, hos, hcs⟩
  unfold getItem
  try with_reducible refine wpAny_holding ?_
  first | refine wpAny_bind (wpAny_pure ?_) | skip
  refine wpAny_bind (wpAny_sequenceKey ht.typeIs (by decide) ?_)
  refine wpAny_bind (wpAny_callSpecial?_slot (name := Str.ofString "__getitem__") ht.typeIs PyProof.Rows.slot_tuple_getitem
    (wpAny_call_entry PyProof.Rows.slot_tuple_getitem ht.typeIs entry_tuple_getitem ?_ (args_tuple_getitem _ _)))
  show wpAny _ _ (Builtin.Tuple.tupleItemsOf (.ref t) >>= _) _ _ s
  refine wpAny_bind (tupleItemsOf_ ht ?_)
  refine wpAny_bind (wpAny_typeOf hTs ?_)
  rw [if_pos (by decide)]
  refine wpAny_bind (sliceApplied_rev hs pl pu ps ?_)
  have hno : ¬ (((items.size : Int) - 1 == 0 && (-1 : Int) == 1 && items.size == items.size) = true) := by
    simp
  show wpAny _ _ (if ((items.size : Int) - 1 == 0 && (-1 : Int) == 1 && items.size == items.size) = true then _ else _) _ _ s
  rw [if_neg hno]
  have ep : (List.filterMap (fun (k : Nat) => items[((items.size : Int) - 1 + (k : Int) * -1).toNat]?) (List.range items.size)).toArray = items.toList.reverse.toArray := by
    have e1 : ((List.range items.size).filterMap fun (k : Nat) => items[((items.size : Int) - 1 + (k : Int) * -1).toNat]?) = ((List.range items.size).map fun k => items.size - 1 - k).filterMap (items[·]?) := by
      rw [List.filterMap_map]
      refine congrArg (fun f => (List.range items.size).filterMap f) (funext fun k => ?_)
      show items[((items.size : Int) - 1 + (k : Int) * -1).toNat]? = items[items.size - 1 - k]?
      have : ((items.size : Int) - 1 + (k : Int) * -1).toNat = items.size - 1 - k := by omega
      rw [this]
    rw [e1, PySem.W.krv_range, List.filterMap_reverse, PySem.W.krv_all]
  rw [ep]
  first
    | exact wpAny_bind (m := Builtin.Tuple.tupleExact _) (wpAny_newObj_type (wpAny_pure ⟨_, rfl, wpAny_pure h⟩) htake)
    | exact wpAny_bind (m := Builtin.Tuple.tupleExact _) (wpAny_newObj_type (wpAny_bind (wpAny_pure (wpAny_pure ⟨_, rfl, wpAny_pure h⟩))) htake)
    | exact wpAny_bind (wpAny_bind (m := Builtin.Tuple.tupleExact _) (wpAny_newObj_type (wpAny_pure (wpAny_pure ⟨_, rfl, wpAny_pure h⟩)) htake))
    | exact wpAny_bind (wpAny_bind (m := Builtin.Tuple.tupleExact _) (wpAny_newObj_type (wpAny_pure ⟨_, rfl, wpAny_pure h⟩) htake))
end
/-- xs[::-1] of a list or a tuple -/
def tRevA (K : PySem.W.Frag) (te : TE) : TE := fun σ H Q => te σ H fun x H1 => ∃ a xs, x = .ref a ∧ ((SqL K H1 a xs ∧ ∀ p, H1 p = none → Q (.ref p) (upd H1 p (.lst xs.reverse))) ∨ (SqT K H1 a xs ∧ ∀ p, H1 p = none → Q (.ref p) (upd H1 p (.tup xs.reverse))))
theorem pe_revA {X : Cx} {e : Expr} {te : TE} {k : Nat} {p1 p2 p3 pos : Pos} (he : PE X e te) : PE X (.Subscript e (.Slice none none (some (.UnaryOp .USub (.Constant (.int 1) k p1) p2)) p3) pos) (tRevA X.K te) := by
  refine ⟨fun pins s σ H Q I h => ?_⟩
  refine Subscript_ (thn (he.run pins s σ H _ I h) fun v s1 ⟨x, H1, I1, r1, q1⟩ => ?_)
  obtain ⟨a, xs, ex, q⟩ := q1
  subst ex
  cases r1
  have hst : PO X (some (.UnaryOp .USub (.Constant (.int 1) k p1) p2)) (tPart (tUn (rU fun i => .int (-i)) (tC (.int 1)))) := po_some (pe_un un_neg pe_int)
  refine wpAny_Slice (thn (po_none.run pins s1 σ H1 (fun o H2 => o = none ∧ H2 = H1) I1 ⟨rfl, rfl⟩) fun vl s2 ⟨l, H2, I2, pl, el, e2⟩ => ?_)
  subst el e2
  refine thn (po_none.run pins s2 σ H2 (fun o H3 => o = none ∧ H3 = H2) I2 ⟨rfl, rfl⟩) fun vu s3 ⟨u, H3, I3, pu, eu, e3⟩ => ?_
  subst eu e3
  refine thn (hst.run pins s3 σ H3 (fun o H4 => o = some (-1) ∧ H4 = H3) I3 ⟨1, rfl, -1, rfl, rfl, rfl⟩) fun vs s4 ⟨o, H4, I4, ps, eo, e4⟩ => ?_
  subst eo e4
  have I5 : Inv X pins σ H4 { s4 with heap := s4.heap.push { cls := .type "slice", data := .fields #[vl, vu, vs] } } := I4.kept (t' := s4.toks) fun b ob q => Heap.get?_push_of_some _ q
  show wpAny (model X.prog X.w) X.A (subscriptTail e (.Slice none none (some (.UnaryOp .USub (.Constant (.int 1) k p1) p2)) p3) (.ref a) (.ref s4.heap.objs.size)) (EP X pins σ Q) X.xe { s4 with heap := s4.heap.push { cls := .type "slice", data := .fields #[vl, vu, vs] } }
  rcases q with ⟨hx, q⟩ | ⟨hx, q⟩
  · obtain ⟨its, r, ht, hz⟩ := I5.list hx
    have hlen := r.length
    refine tail_any (ops := [.ref a, .ref s4.heap.objs.size]) ht.isList.typeIs (PySem.slot_list_getitem.lookup) ?_ (by with_unfolding_all rfl)
    refine wpAny_getItem_list_slice ht.isList (Heap.IsSliceOf.new _ vl vu vs) pl pu ps (by decide) ?_ (by rw [List.size_toArray]; omega)
    rw [PySem.W.krv_pick]
    refine ⟨.ref _, _, I5.laid (t' := s4.toks) (o := .lst xs.reverse) (fun b ob q => Heap.get?_push_of_some _ q) (Nat.le_refl _) ?_, rfl, q _ (I5.hok.fresh (Nat.le_refl _))⟩
    exact ⟨by rw [List.length_reverse]; exact hz, _, 0, r.reverse, Heap.get?_push_size _ rfl⟩
  · obtain ⟨its, r, ht, hz⟩ := I5.tuple hx
    have hlen := r.length
    refine tail_any (ops := [.ref a, .ref s4.heap.objs.size]) ht.typeIs (PyProof.Rows.slot_tuple_getitem.lookup) ?_ (by with_unfolding_all rfl)
    refine getItem_tuple_rev ht (Heap.IsSliceOf.new _ vl vu vs) pl pu ps ?_ (by rw [List.size_toArray]; omega)
    refine ⟨.ref _, _, I5.laid (t' := s4.toks) (o := .tup xs.reverse) (fun b ob q => Heap.get?_push_of_some _ q) (Nat.le_refl _) ?_, rfl, q _ (I5.hok.fresh (Nat.le_refl _))⟩
    exact ⟨by rw [List.length_reverse]; omega, _, r.reverse, IsTup.new _ _⟩
def dRevA (t : TD) : TD := fun ε A => t ε fun r ε1 => match peek ε1 r with
  | some (.list xs) => A (.new xs.reverse) ε1
  | some (.tuple xs) => A (.d (.tuple xs.reverse)) ε1
  | _ => False
theorem dv_revA {X : Cx} {e : Expr} {t : TD} {k : Nat} {p1 p2 p3 pos : Pos} (he : DV X e t) : DV X (.Subscript e (.Slice none none (some (.UnaryOp .USub (.Constant (.int 1) k p1) p2)) p3) pos) (dRevA t) :=
  pe_w (pe_revA he) fun σ H Q ⟨c, G, ow, ε, A, R, h, kk⟩ => ⟨c, G, ow, ε, _, R, h, fun r ε1 G1 H1 ow1 v h1 F1 R1 V1 => by
    split at h1
    · rename_i xs e
      obtain ⟨p, vs, rfl, hs, ha⟩ := (peek_ok R1 V1 e).list R1.ex
      refine ⟨p, vs, rfl, .inl ⟨hs, fun q hq => ?_⟩⟩
      obtain ⟨G', ow', F4, R4, V4⟩ := res_fin R1 (.lst hq (dpa_rev ha))
      exact kk _ _ G' _ ow' _ h1 (F1.trans F4) R4 (V4.since F1.dom)
    · rename_i xs e
      obtain ⟨p, vs, rfl, hs, ha⟩ := (peek_ok R1 V1 e).tuple R1.ex
      refine ⟨p, vs, rfl, .inr ⟨hs, fun q hq => ?_⟩⟩
      obtain ⟨G', ow', F4, R4, V4⟩ := res_fin R1 (.tup hq (dpa_rev ha))
      exact kk _ _ G' _ ow' _ h1 (F1.trans F4) R4 (V4.since F1.dom)
    · exact h1.elim⟩
section
variable {K : PySem.W.Frag}
theorem od_ixA : OpD K (rIx K) kIxA := fun G H x y v1 v2 A Q e p1 p2 h k => by
  unfold kIxA at h
  split at h
  · exact od_ix G H _ _ v1 v2 A Q e p1 p2 h k
  · exact od_ix G H _ _ v1 v2 A Q e p1 p2 h k
  · obtain ⟨hz, h⟩ := h
    obtain ⟨c, hc, h⟩ := onO_get h
    exact .inr (.inr ⟨_, _, c, p1.str, p2.int, line_le hz, hc, k _ _ _ h (.val (.str _))⟩)
  · exact h.elim
end
def rSl3 (K : PySem.W.Frag) : V → Option Int → Option Int → Hp → VK → Prop := fun x lo hi H Q => rSlL K x lo hi H Q ∨ rSlA K x lo hi H Q ∨ rSlS x lo hi H Q
theorem sl_three {X : Cx} : SlR X (rSl3 X.K) := sl_list.or (sl_tupA.or sl_str)
def dSl (t : TD) (tl th : TDO) : TD := fun ε A => t ε fun r ε1 => tl ε1 fun l ε2 => th ε2 fun u ε3 => match peek ε3 r with
  | some x => kSl x l u fun r => A r ε3
  | _ => False
theorem dv_sl {X : Cx} {e : Expr} {lo hi : Option Expr} {t : TD} {tl th : TDO} {p2 pos : Pos} (he : DV X e t) (hl : DO X lo tl) (hh : DO X hi th) : DV X (.Subscript e (.Slice lo hi none p2) pos) (dSl t tl th) :=
  pe_w (pe_slice sl_three he hl hh) fun σ H Q ⟨c, G, ow, ε, A, R, h, kk⟩ => ⟨c, G, ow, ε, _, R, h, fun r ε1 G1 H1 ow1 v h1 F1 R1 V1 => ⟨c, G1, ow1, ε1, _, R1, h1, fun l ε2 G2 H2 ow2 h2 F2 R2 => ⟨c, G2, ow2, ε2, _, R2, h2, fun u ε3 G3 H3 ow3 h3 F3 R3 => by
    have F := (F1.trans F2).trans F3
    split at h3
    · rename_i x e
      have pk := peek_ok R3 (V1.fr (F2.trans F3)) e
      have fin : ∀ r v H', A r ε3 → Res X.K G3 H3 r v H' → Q v H' := fun r v H' hr hres => by
        obtain ⟨G', ow', F4, R4, V4⟩ := res_fin R3 hres
        exact kk _ _ G' _ ow' _ hr (F.trans F4) R4 (V4.since F.dom)
      unfold kSl at h3
      split at h3
      · obtain ⟨p, vs, rfl, hs, ha⟩ := pk.list R3.ex
        exact .inl ⟨p, vs, rfl, hs, fun q hq => fin _ _ _ h3 (.lst hq (cut_ok (lo := l) (hi := u) ha))⟩
      · rename_i xs
        obtain ⟨p, vs, rfl, hs, ha⟩ := pk.tuple R3.ex
        refine .inr (.inl ⟨p, vs, rfl, hs, fun hw => ?_, fun _ q hq => fin _ _ _ h3 (.tup hq (cut_ok (lo := l) (hi := u) ha))⟩)
        have ew : cutD xs l u = xs := by
          rw [dpa_len ha] at hw
          unfold cutD
          rw [hw.1, hw.2, List.drop_zero, Nat.sub_zero, List.take_length]
        rw [ew] at h3
        exact fin _ _ _ h3 (.val pk.tupD)
      · exact .inr (.inr ⟨_, pk.str, line_le h3.1, fin _ _ _ h3.2 (.val (.str _))⟩)
      · exact h3.elim
    · exact h3.elim⟩⟩⟩
/-! ### join, str of an int -/
def dJoin (ta tb : TD) : TD := fun ε A => ta ε fun r1 ε1 => tb ε1 fun r2 ε2 => match peek ε2 r1, peek ε2 r2 with
  | some (.str a), some (.list ys) => ∃ zs : List Str, ys = zs.map .str ∧ (zs.map (·.length)).sum + zs.length * a.length ≤ 16777216 ∧ A (.d (.str (Txt.join a zs))) ε2
  | some (.str a), some (.tuple ys) => ∃ zs : List Str, ys = zs.map .str ∧ (zs.map (·.length)).sum + zs.length * a.length ≤ 16777216 ∧ A (.d (.str (Txt.join a zs))) ε2
  | _, _ => False
theorem peek_str {K : PySem.W.Frag} {c : Ct} {Hs G H : Hp} {ow : Ow} {σ : L2.St} {ε : Ep} {r : Vl} {v : V} {a : Str} (R : Rep K c G H ow σ ε) (h : VOk K Hs G H ow σ r v) (e : peek ε r = some (.str a)) : v = .str a := (peek_ok R h e).str
/-- the text that is joined by: a constant -/
def dJoinC (a : Str) (tb : TD) : TD := fun ε A => tb ε fun r2 ε2 => match peek ε2 r2 with
  | some (.list ys) => ∃ zs : List Str, ys = zs.map .str ∧ (zs.map (·.length)).sum + zs.length * a.length ≤ 16777216 ∧ A (.d (.str (Txt.join a zs))) ε2
  | some (.tuple ys) => ∃ zs : List Str, ys = zs.map .str ∧ (zs.map (·.length)).sum + zs.length * a.length ≤ 16777216 ∧ A (.d (.str (Txt.join a zs))) ε2
  | _ => False
theorem dv_joinC {X : Cx} {a : Str} {e : Expr} {j : Nat} {t : TD} {p apos pos : Pos} (he : DV X e t) (hs : starEach [e] X.env = [(false, eval e X.env)] := by rfl)
    (hbase : attributeBase (.Constant (.str a) j p) "join" X.env (eval (.Constant (.str a) j p) X.env) = eval (.Constant (.str a) j p) X.env := by rfl) (hline : (apos.endLine == pos.line) = true := by rfl) :
    DV X (.Call (.Attribute (.Constant (.str a) j p) "join" apos) [e] [] pos) (dJoinC a t) :=
  pe_w (pe_join pe_str he hs hbase hline) fun σ H Q ⟨c, G, ow, ε, A, R, h, kk⟩ => ⟨⟨a, rfl⟩, c, G, ow, ε, _, R, h, fun r ε1 G1 H1 ow1 v h1 F1 R1 V1 => by
    split at h1
    · rename_i ys e
      obtain ⟨zs, rfl, hz, h1⟩ := h1
      obtain ⟨p, vs, rfl, hs, ha⟩ := (peek_ok R1 V1 e).list R1.ex
      cases dpa_strs zs ha
      exact ⟨a, p, zs, rfl, rfl, .inl hs, hz, kk _ _ _ _ _ _ h1 F1 R1 (.str _)⟩
    · rename_i ys e
      obtain ⟨zs, rfl, hz, h1⟩ := h1
      obtain ⟨p, vs, rfl, hs, ha⟩ := (peek_ok R1 V1 e).tuple R1.ex
      cases dpa_strs zs ha
      exact ⟨a, p, zs, rfl, rfl, .inr hs, hz, kk _ _ _ _ _ _ h1 F1 R1 (.str _)⟩
    · exact h1.elim⟩
def kStrI : List PyData → (Vl → Prop) → Prop := fun xs A => match xs with
  | [.int i] => i.natAbs.log2 < 1920 ∧ A (.d (.str (toString i)))
  | _ => False
theorem cd_strI {K : PySem.W.Frag} : CallD K (fun xs H Q => ∃ i, xs = [.int i] ∧ i.natAbs.log2 < 1920 ∧ Q (.str (toString i)) H) kStrI := fun G H xs vs A Q e p h k => by
  unfold kStrI at h
  split at h
  · obtain ⟨v, rfl, p1⟩ := pk1 p
    cases p1.int
    exact ⟨_, rfl, h.1, k _ _ _ h.2 (.val (.str _))⟩
  · exact h.elim
/-! ### a def's promise that is its own reading -/
theorem spD_imp {P : Program} {w : World} {K : PySem.W.Frag} {mg : Str → Option Value} {base : Heap} {CX : CXT} {k n : Nat} {f : Addr} {fd : FuncData} {ps : List Str} {S S' : DSp} (F : FnOk P w K mg base CX k f fd ps (spD K n S)) (h : ∀ qs A, S' qs A → S qs A) : FnOk P w K mg base CX k f fd ps (spD K n S') :=
  F.imp fun vs H Q E ⟨c, G, ow, qs, A, e, R, hl, hp, hS, kk⟩ => ⟨c, G, ow, qs, A, e, R, hl, hp, h _ _ hS, kk⟩
def ownSp (n m : Nat) (t : TDS) : DSp := fun qs A => qs.length = n ∧ t { nx := fun ε => A (.d .none) (fin n ε), rt := fun r ε => A r (fin n ε) } (qs ++ uns m)
theorem ownSp_len {n m : Nat} {t : TDS} (qs : List Sl) (A) (h : ownSp n m t qs A) : qs.length = n := h.1
end DL
namespace DL
open PySem PySem.Spec PyProof.Rows L2
/-! ### steps -/
section
variable {A : Vl → Ep → Prop} {V : Vl → Prop} {ε : Ep} {t u v : TD} {o1 o2 : TDO} {l1 l2 : Option Int} {z1 : Int} {xs ys : List PyData} {s1 s2 : Str} {D : DEnds} {s r : TDS}
theorem ap_revA : ev (dRevA t ε A) = ev (t ε fun r ε1 => match peek ε1 r with
  | some (.list xs) => A (.new xs.reverse) ε1
  | some (.tuple xs) => A (.d (.tuple xs.reverse)) ε1
  | _ => False) := id rfl
theorem ap_slA : ev (dSl t o1 o2 ε A) = ev (t ε fun r ε1 => o1 ε1 fun l ε2 => o2 ε2 fun u ε3 => match peek ε3 r with
  | some x => kSl x l u fun r => A r ε3
  | _ => False) := id rfl
theorem ap_joinC : ev (dJoinC s1 t ε A) = ev (t ε fun r2 ε2 => match peek ε2 r2 with
  | some (.list ys) => ∃ zs : List Str, ys = zs.map .str ∧ (zs.map (·.length)).sum + zs.length * s1.length ≤ 16777216 ∧ A (.d (.str (Txt.join s1 zs))) ε2
  | some (.tuple ys) => ∃ zs : List Str, ys = zs.map .str ∧ (zs.map (·.length)).sum + zs.length * s1.length ≤ 16777216 ∧ A (.d (.str (Txt.join s1 zs))) ε2
  | _ => False) := id rfl
theorem k_SlL : kSl (.list xs) l1 l2 V = V (.new (cutD xs l1 l2)) := id rfl
theorem k_SlT : kSl (.tuple xs) l1 l2 V = V (.d (.tuple (cutD xs l1 l2))) := id rfl
theorem k_SlS : kSl (.str s1) l1 l2 V = (s1.length ≤ 1000000 ∧ V (.d (.str (cutS s1 l1 l2)))) := id rfl
theorem k_CatS : kCatS (.str s1) (.str s2) V = (s1.length + s2.length ≤ 1000000 ∧ V (.d (.str (s1 ++ s2)))) := id rfl
theorem k_RepS : kRepS (.str s1) (.int z1) V = ((-1000 ≤ z1 ∧ z1 ≤ 1000 ∧ s1.length ≤ 1000) ∧ V (.d (.str (repS s1 z1.toNat)))) := id rfl
theorem k_AxL : kIxA (.list xs) (.int z1) V = onO (atI xs z1) fun d => V (.d d) := id rfl
theorem k_AxT : kIxA (.tuple xs) (.int z1) V = onO (atI xs z1) fun d => V (.d d) := id rfl
theorem k_AxS : kIxA (.str s1) (.int z1) V = (s1.length ≤ 1000000 ∧ onO (atI s1.cps.toList z1) fun c => V (.d (.str ⟨#[c]⟩))) := id rfl
theorem k_StrI : kStrI [.int z1] V = (z1.natAbs.log2 < 1920 ∧ V (.d (.str (toString z1)))) := id rfl
end
end DL
namespace DL
open PySem PySem.Spec PyProof.Rows L2
theorem FnOk_no {P : Program} {w : World} {K : PySem.W.Frag} {mg : Str → Option Value} {base : Heap} {CX : CXT} {k n : Nat} {f : Addr} {fd : FuncData} {ps : List Str} (_ : ps.length = n) : FnOk P w K mg base CX k f fd ps (spD K n fun _ _ => False) :=
  ⟨fun _ _ _ _ ⟨_, _, _, _, _, _, _, _, _, h, _⟩ => h.elim, fun _ _ _ _ _ _ _ _ _ _ _ _ _ ⟨_, _, _, _, _, _, _, _, _, h, _⟩ => h.elim⟩
end DL
namespace DL
open PySem PySem.Spec PyProof.Rows L2
/-! ### == [], == () -/
def rEqE (K : PySem.W.Frag) (f : Bool → Bool) : R2 := fun x y H Q => ∃ a b xs, x = .ref a ∧ y = .ref b ∧ ((SqL K H a xs ∧ SqL K H b []) ∨ (SqT K H a xs ∧ SqT K H b [])) ∧ Q (.bl (f xs.isEmpty)) H
section
variable {X : Cx}
theorem op_eqE (hu : X.A.units + 64 < cLine) : OpR X (compareOp .Eq) (rEqE X.K id) := by
  intro pins s σ H x y v u Q I rx ry h
  obtain ⟨a, b, xs, rfl, rfl, hh, q⟩ := h
  cases rx
  cases ry
  have hu' : X.A.units < cLine := by omega
  rcases hh with ⟨h1, h2⟩ | ⟨h1, h2⟩
  · obtain ⟨its, r1, p1, _⟩ := I.list h1
    obtain ⟨its2, r2, p2, _⟩ := I.list h2
    have e2 := r2.length
    have e1 := r1.length
    by_cases hz : xs = []
    · subst hz
      have hz1 : its.toArray.size = its2.toArray.size := by simp only [List.size_toArray]; omega
      have R := SeqAt.RcAt.lists (A := X.A) (e := fun _ => true) p1.isList p2.isList hz1 hu' (fun j h1 _ => by simp only [List.size_toArray] at h1; rw [← e1] at h1; exact absurd h1 (Nat.not_lt_zero _))
      have ee : ((List.range its.toArray.size).all fun _ => true) = true := by simp
      rw [ee] at R
      exact R X.prog X.w X.xe _ ⟨.bl true, H, I, rfl, q⟩
    · have hz1 : (its.toArray.size != its2.toArray.size) = true := by
        have : xs.length ≠ 0 := fun e => hz (List.length_eq_zero_iff.mp e)
        simp only [List.size_toArray, bne_iff_ne, ne_eq]
        rw [← e1, ← e2]
        exact this
      have ee : xs.isEmpty = false := by cases xs with
        | nil => exact absurd rfl hz
        | cons _ _ => rfl
      rw [ee] at q
      exact SeqAt.RcAt.lists_lengths (A := X.A) p1.isList p2.isList hz1 hu' X.prog X.w X.xe _ ⟨.bl false, H, I, rfl, q⟩
  · obtain ⟨its, r1, p1, _⟩ := I.tuple h1
    obtain ⟨its2, r2, p2, _⟩ := I.tuple h2
    have e2 := r2.length
    have e1 := r1.length
    have z2 : its2 = [] := List.length_eq_zero_iff.mp (by rw [← e2]; rfl)
    subst z2
    have R := SeqAt.RcAt.tuples (A := X.A) (e := fun _ => true) p1 p2 hu' (fun j _ h2 => by simp at h2)
    have ee : ((List.range (min its.toArray.size ([] : List Value).toArray.size)).all (fun _ => true) && its.toArray.size == ([] : List Value).toArray.size) = xs.isEmpty := by
      cases xs with
      | nil =>
        have : its = [] := List.length_eq_zero_iff.mp (by rw [← e1]; rfl)
        subst this
        simp
      | cons z zs =>
        have : its.length ≠ 0 := by rw [← e1]; simp
        simp
        intro e
        subst e
        simp at this
    rw [ee] at R
    exact R X.prog X.w X.xe _ ⟨.bl _, H, I, rfl, q⟩
theorem op_neE (hu : X.A.units + 64 < cLine) : OpR X (compareOp .NotEq) (rEqE X.K (!·)) := by
  intro pins s σ H x y v u Q I rx ry h
  obtain ⟨a, b, xs, rfl, rfl, hh, q⟩ := h
  cases rx
  cases ry
  have hu' : X.A.units < cLine := by omega
  rcases hh with ⟨h1, h2⟩ | ⟨h1, h2⟩
  · obtain ⟨its, r1, p1, _⟩ := I.list h1
    obtain ⟨its2, r2, p2, _⟩ := I.list h2
    have e2 := r2.length
    have e1 := r1.length
    by_cases hz : xs = []
    · subst hz
      have hz1 : its.toArray.size = its2.toArray.size := by simp only [List.size_toArray]; omega
      have R := SeqAt.RcNeAt.lists (A := X.A) (e := fun _ => true) p1.isList p2.isList hz1 hu' (fun j h1 _ => by simp only [List.size_toArray] at h1; rw [← e1] at h1; exact absurd h1 (Nat.not_lt_zero _))
      have ee : ((List.range its.toArray.size).all fun _ => true) = true := by simp
      rw [ee] at R
      exact R X.prog X.w X.xe _ ⟨.bl false, H, I, rfl, q⟩
    · have hz1 : (its.toArray.size != its2.toArray.size) = true := by
        have : xs.length ≠ 0 := fun e => hz (List.length_eq_zero_iff.mp e)
        simp only [List.size_toArray, bne_iff_ne, ne_eq]
        rw [← e1, ← e2]
        exact this
      have ee : xs.isEmpty = false := by cases xs with
        | nil => exact absurd rfl hz
        | cons _ _ => rfl
      rw [ee] at q
      exact SeqAt.RcNeAt.lists_lengths (A := X.A) p1.isList p2.isList hz1 hu' X.prog X.w X.xe _ ⟨.bl true, H, I, rfl, q⟩
  · obtain ⟨its, r1, p1, _⟩ := I.tuple h1
    obtain ⟨its2, r2, p2, _⟩ := I.tuple h2
    have e2 := r2.length
    have e1 := r1.length
    have z2 : its2 = [] := List.length_eq_zero_iff.mp (by rw [← e2]; rfl)
    subst z2
    have R := SeqAt.RcNeAt.tuples (A := X.A) (e := fun _ => true) p1 p2 hu' (fun j _ h2 => by simp at h2)
    have ee : (!((List.range (min its.toArray.size ([] : List Value).toArray.size)).all (fun _ => true) && its.toArray.size == ([] : List Value).toArray.size)) = !xs.isEmpty := by
      cases xs with
      | nil =>
        have : its = [] := List.length_eq_zero_iff.mp (by rw [← e1]; rfl)
        subst this
        simp
      | cons z zs =>
        have : its.length ≠ 0 := by rw [← e1]; simp
        simp
        intro e
        subst e
        simp at this
    rw [ee] at R
    exact R X.prog X.w X.xe _ ⟨.bl _, H, I, rfl, q⟩
end
/-! ### data without dicts: what may be compared -/
def shp (x : PyData) : Bool := x.plain && decide (x.depth ≤ 60)
mutual
theorem Dd.dpP {K : PySem.W.Frag} {H : Hp} : ∀ {v : V} (d : PyData), Dd K H v d → d.plain = true → Dp K H v d
  | _, .none, h, _ => by cases h; exact .non
  | _, .bool b, h, _ => by cases h; exact .bl b
  | _, .int b, h, _ => by cases h; exact .int b
  | _, .str b, h, _ => by cases h; exact .str b
  | _, .list ds, h, c => by
    cases h with
    | lst hs ha => exact .lst hs (DdAll.dpP ds ha (by simpa [PyData.plain] using c))
  | _, .tuple ds, h, c => by
    cases h with
    | tup hs ha => exact .tup hs (DdAll.dpP ds ha (by simpa [PyData.plain] using c))
  | _, .dict _, _, c => by simp [PyData.plain] at c
theorem DdAll.dpP {K : PySem.W.Frag} {H : Hp} : ∀ {vs : List V} (ds : List PyData), DdAll K H vs ds → PyData.plainAll ds = true → DpAll K H vs ds
  | _, [], h, _ => by cases h; exact .nil
  | _, d :: ds, h, c => by
    simp only [PyData.plainAll, Bool.and_eq_true] at c
    cases h with
    | cons h1 h2 => exact .cons (h1.dpP d c.1) (DdAll.dpP ds h2 c.2)
end
def rEqP (K : PySem.W.Frag) (f : Bool → Bool) : R2 := fun x y H Q => ∃ d e, Dd K H x d ∧ Dd K H y e ∧ shp d = true ∧ shp e = true ∧ Q (.bl (f (PyData.eqv d e))) H
theorem shp_room {X : Cx} {d e : PyData} (hu : X.A.units + 64 < cLine) (h1 : shp d = true) : X.A.units + min d.depth e.depth < cLine := by
  unfold shp at h1
  rw [Bool.and_eq_true] at h1
  have := of_decide_eq_true h1.2
  omega
theorem shp_plain {d : PyData} (h : shp d = true) : d.plain = true := by
  unfold shp at h
  rw [Bool.and_eq_true] at h
  exact h.1
theorem op_eqP {X : Cx} (hu : X.A.units + 64 < cLine) : OpR X (compareOp .Eq) (rEqP X.K id) := by
  intro pins s σ H x y v u Q I rx ry h
  obtain ⟨d, e, hd, he, sd, se, q⟩ := h
  obtain ⟨as, r1⟩ := Dp.reads I d x v (hd.dpP d (shp_plain sd)) rx
  obtain ⟨bs, r2⟩ := Dp.reads I e y u (he.dpP e (shp_plain se)) ry
  exact SeqAt.eq_plain r1 r2 (shp_plain sd) (shp_plain se) (shp_room hu sd) ⟨.bl _, H, I, rfl, q⟩
theorem op_neP {X : Cx} (hu : X.A.units + 64 < cLine) : OpR X (compareOp .NotEq) (rEqP X.K (!·)) := by
  intro pins s σ H x y v u Q I rx ry h
  obtain ⟨d, e, hd, he, sd, se, q⟩ := h
  obtain ⟨as, r1⟩ := Dp.reads I d x v (hd.dpP d (shp_plain sd)) rx
  obtain ⟨bs, r2⟩ := Dp.reads I e y u (he.dpP e (shp_plain se)) ry
  exact SeqAt.ne_plain r1 r2 (shp_plain sd) (shp_plain se) (shp_room hu sd) ⟨.bl _, H, I, rfl, q⟩
theorem od_eqP {K : PySem.W.Frag} {f : Bool → Bool} {G H : Hp} {x y : PyData} {v1 v2 : V} {A : Vl → Prop} {Q : VK} (e : Same G H) (p1 : Pk K G H v1 x) (p2 : Pk K G H v2 y) (h1 : shp x = true) (h2 : shp y = true) (h : A (.d (.bool (f (PyData.eqv x y))))) (k : ∀ r v H', A r → Res K G H r v H' → Q v H') : rEqP K f v1 v2 H Q :=
  ⟨x, y, p1.dp e, p2.dp e, h1, h2, k _ _ _ h (.val (.bl _))⟩
def kEqA (f : Bool → Bool) : PyData → PyData → (Vl → Prop) → Prop := fun x y A => match x, y with
  | .list xs, .list [] => A (.d (.bool (f xs.isEmpty)))
  | .tuple xs, .tuple [] => A (.d (.bool (f xs.isEmpty)))
  | x, y => shp x = true ∧ shp y = true ∧ A (.d (.bool (f (PyData.eqv x y))))
theorem od_eqA {K : PySem.W.Frag} : OpD K (fun x y H Q => rEqE K id x y H Q ∨ rEqP K id x y H Q) (kEqA id) := fun G H x y v1 v2 A Q e p1 p2 h k => by
  unfold kEqA at h
  split at h
  · obtain ⟨p, vs, rfl, hs, ha⟩ := p1.list e
    obtain ⟨q, us, rfl, hs2, ha2⟩ := p2.list e
    cases ha2
    refine .inl ⟨p, q, vs, rfl, rfl, .inl ⟨hs, hs2⟩, k _ _ _ h ?_⟩
    rename_i xs
    have : vs.isEmpty = xs.isEmpty := by cases ha <;> rfl
    rw [this]
    exact .val (.bl _)
  · obtain ⟨p, vs, rfl, hs, ha⟩ := p1.tuple e
    obtain ⟨q, us, rfl, hs2, ha2⟩ := p2.tuple e
    cases ha2
    refine .inl ⟨p, q, vs, rfl, rfl, .inr ⟨hs, hs2⟩, k _ _ _ h ?_⟩
    rename_i xs
    have : vs.isEmpty = xs.isEmpty := by cases ha <;> rfl
    rw [this]
    exact .val (.bl _)
  · exact .inr (od_eqP e p1 p2 h.1 h.2.1 h.2.2 k)
theorem od_neA {K : PySem.W.Frag} : OpD K (fun x y H Q => rEqE K (!·) x y H Q ∨ rEqP K (!·) x y H Q) (kEqA (!·)) := fun G H x y v1 v2 A Q e p1 p2 h k => by
  unfold kEqA at h
  split at h
  · obtain ⟨p, vs, rfl, hs, ha⟩ := p1.list e
    obtain ⟨q, us, rfl, hs2, ha2⟩ := p2.list e
    cases ha2
    refine .inl ⟨p, q, vs, rfl, rfl, .inl ⟨hs, hs2⟩, k _ _ _ h ?_⟩
    rename_i xs
    have : vs.isEmpty = xs.isEmpty := by cases ha <;> rfl
    rw [this]
    exact .val (.bl _)
  · obtain ⟨p, vs, rfl, hs, ha⟩ := p1.tuple e
    obtain ⟨q, us, rfl, hs2, ha2⟩ := p2.tuple e
    cases ha2
    refine .inl ⟨p, q, vs, rfl, rfl, .inr ⟨hs, hs2⟩, k _ _ _ h ?_⟩
    rename_i xs
    have : vs.isEmpty = xs.isEmpty := by cases ha <;> rfl
    rw [this]
    exact .val (.bl _)
  · exact .inr (od_eqP e p1 p2 h.1 h.2.1 h.2.2 k)
theorem op_eqA {X : Cx} (hu : X.A.units + 64 < cLine) : OpR X (compareOp .Eq) (fun x y H Q => rEqE X.K id x y H Q ∨ rEqP X.K id x y H Q) := (op_eqE hu).or (op_eqP hu)
theorem op_neA {X : Cx} (hu : X.A.units + 64 < cLine) : OpR X (compareOp .NotEq) (fun x y H Q => rEqE X.K (!·) x y H Q ∨ rEqP X.K (!·) x y H Q) := (op_neE hu).or (op_neP hu)
section
variable {V : Vl → Prop} {xs ys : List PyData} {x y : PyData} {f : Bool → Bool} {b : Bool} {i : Int} {s : Str}
theorem k_EqL0 : kEqA f (.list xs) (.list []) V = V (.d (.bool (f xs.isEmpty))) := id rfl
theorem k_EqT0 : kEqA f (.tuple xs) (.tuple []) V = V (.d (.bool (f xs.isEmpty))) := id rfl
theorem k_EqLT : kEqA f (.list xs) (.tuple ys) V = (shp (.list xs) = true ∧ shp (.tuple ys) = true ∧ V (.d (.bool (f (PyData.eqv (.list xs) (.tuple ys)))))) := id rfl
theorem k_EqTL : kEqA f (.tuple xs) (.list ys) V = (shp (.tuple xs) = true ∧ shp (.list ys) = true ∧ V (.d (.bool (f (PyData.eqv (.tuple xs) (.list ys)))))) := id rfl
theorem k_EqI : kEqA f x (.int i) V = (shp x = true ∧ shp (.int i) = true ∧ V (.d (.bool (f (PyData.eqv x (.int i)))))) := by cases x <;> rfl
theorem k_EqB : kEqA f x (.bool b) V = (shp x = true ∧ shp (.bool b) = true ∧ V (.d (.bool (f (PyData.eqv x (.bool b)))))) := by cases x <;> rfl
theorem k_EqS : kEqA f x (.str s) V = (shp x = true ∧ shp (.str s) = true ∧ V (.d (.bool (f (PyData.eqv x (.str s)))))) := by cases x <;> rfl
theorem k_EqN : kEqA f x .none V = (shp x = true ∧ shp .none = true ∧ V (.d (.bool (f (PyData.eqv x .none))))) := by cases x <;> rfl
theorem k_EqLc : kEqA f (.list xs) (.list (y :: ys)) V = (shp (.list xs) = true ∧ shp (.list (y :: ys)) = true ∧ V (.d (.bool (f (PyData.eqv (.list xs) (.list (y :: ys))))))) := id rfl
theorem k_EqTc : kEqA f (.tuple xs) (.tuple (y :: ys)) V = (shp (.tuple xs) = true ∧ shp (.tuple (y :: ys)) = true ∧ V (.d (.bool (f (PyData.eqv (.tuple xs) (.tuple (y :: ys))))))) := id rfl
theorem k_EqG (h1 : shp x = true) (h2 : shp y = true) (h : V (.d (.bool (f (PyData.eqv x y))))) : kEqA f x y V := by
  unfold kEqA
  split
  · rename_i xs
    have : PyData.eqv (.list xs) (.list []) = xs.isEmpty := by cases xs <;> simp [PyData.eqv, PyData.eqvAll]
    rw [← this]
    exact h
  · rename_i xs
    have : PyData.eqv (.tuple xs) (.tuple []) = xs.isEmpty := by cases xs <;> simp [PyData.eqv, PyData.eqvAll]
    rw [← this]
    exact h
  · exact ⟨h1, h2, h⟩
end
end DL
namespace DL
open PySem PySem.Spec PyProof.Rows L2
/-! ### a + b, a * b of any -/
def kAdd : PyData → PyData → (Vl → Prop) → Prop := fun x y A => match x, y with
  | .int i, .int j => A (.d (.int (i + j)))
  | .list xs, .list ys => xs.length + ys.length ≤ 1000000 ∧ A (.new (xs ++ ys))
  | .tuple xs, .tuple ys => xs.length + ys.length ≤ 1000000 ∧ A (.d (.tuple (xs ++ ys)))
  | .str a, .str b => a.length + b.length ≤ 1000000 ∧ A (.d (.str (a ++ b)))
  | _, _ => False
def rAdd (K : PySem.W.Frag) : R2 := fun x y H Q => (rI0 fun i j => .int (i + j)) x y H Q ∨ rCatR K x y H Q ∨ rCatA K x y H Q ∨ (∃ i j, x = .str i ∧ y = .str j ∧ i.length + j.length ≤ sizeLine ∧ Q (.str (i ++ j)) H)
theorem op_addA {X : Cx} : OpR X (binaryOp .Add) (rAdd X.K) := op_add.or (op_catR.or (op_catA.or op_add_str))
theorem od_addA {K : PySem.W.Frag} : OpD K (rAdd K) kAdd := fun G H x y v1 v2 A Q e p1 p2 h k => by
  unfold kAdd at h
  split at h
  · exact .inl (od_I0 _ G H _ _ v1 v2 A Q e p1 p2 h k)
  · exact .inr (.inl (od_cat G H _ _ v1 v2 A Q e p1 p2 h k))
  · exact .inr (.inr (.inl (od_catT G H _ _ v1 v2 A Q e p1 p2 h k)))
  · exact .inr (.inr (.inr (od_catS G H _ _ v1 v2 A Q e p1 p2 h k)))
  · exact h.elim
def kMul : PyData → PyData → (Vl → Prop) → Prop := fun x y A => match x, y with
  | .int i, .int j => CMul i j ∧ A (.d (.int (i * j)))
  | .list xs, .int k => (-(2 ^ 63) ≤ k ∧ k < 2 ^ 63 ∧ xs.length * k.toNat ≤ 1000000) ∧ A (.new (List.replicate k.toNat xs).flatten)
  | .str a, .int k => (-1000 ≤ k ∧ k ≤ 1000 ∧ a.length ≤ 1000) ∧ A (.d (.str (repS a k.toNat)))
  | _, _ => False
def rMul (K : PySem.W.Frag) : R2 := fun x y H Q => (rI CMul fun i j => .int (i * j)) x y H Q ∨ rRepR K x y H Q ∨ rRepS x y H Q
theorem op_mulA {X : Cx} : OpR X (binaryOp .Mult) (rMul X.K) := op_mul.or (op_repR.or op_repS)
theorem od_mulA {K : PySem.W.Frag} : OpD K (rMul K) kMul := fun G H x y v1 v2 A Q e p1 p2 h k => by
  unfold kMul at h
  split at h
  · exact .inl (od_I _ _ G H _ _ v1 v2 A Q e p1 p2 h k)
  · exact .inr (.inl (od_rep G H _ _ v1 v2 A Q e p1 p2 h k))
  · exact .inr (.inr (od_repS G H _ _ v1 v2 A Q e p1 p2 h k))
  · exact h.elim
/-! ### a walk over a list, a tuple, a text -/
def iAny (K : PySem.W.Frag) (te : TE) : TI := fun σ H R => te σ H fun x H1 => (∃ a xs, x = .ref a ∧ SqL K H1 a xs ∧ R (Itl K a) H1) ∨ (∃ a xs, x = .ref a ∧ SqT K H1 a xs ∧ R (Itt K a) H1) ∨ (∃ z, x = .str z ∧ R (Its z) H1)
theorem pi_any {X : Cx} {tg e : Expr} {te : TE} (he : PE X e te) : PI X tg e (iAny X.K te) := by
  refine ⟨fun pins s σ H R I h => ?_⟩
  refine thn (he.run pins s σ H _ I h) fun v s1 ⟨y, H1, I1, r1, q1⟩ => ?_
  rcases q1 with ⟨a, xs, e, hq, q⟩ | ⟨a, xs, e, hq, q⟩ | ⟨x, ex, q⟩
  · subst e
    cases r1
    obtain ⟨its, rv, p, hz⟩ := I1.list hq
    refine wpAny_pyIter_list p.isList ?_
    refine ⟨s1.heap.objs.size, [s1.heap.objs.size], _, _, H1, rfl, I1.kept (t' := s1.toks) fun b o e => Heap.get?_push_of_some _ e, turn_list a _, ⟨_, Heap.get?_push_size _ rfl, rfl, rfl⟩, fun b hb => ?_, q⟩
    have e : b = s1.heap.objs.size := by simpa using hb
    subst e
    exact I1.fpOk (Nat.le_refl _) (I1.hok.fresh (Nat.le_refl _))
  · subst e
    cases r1
    obtain ⟨its, rv, p, hz⟩ := I1.tuple hq
    refine wpAny_pyIter_tuple (show s1.heap.IsTuple a its.toArray from p) ?_
    refine ⟨s1.heap.objs.size, [s1.heap.objs.size], _, _, H1, rfl, I1.kept (t' := s1.toks) fun b o e => Heap.get?_push_of_some _ e, turn_tuple a _, ⟨_, Heap.get?_push_size _ rfl, rfl, rfl⟩, fun b hb => ?_, q⟩
    have e : b = s1.heap.objs.size := by simpa using hb
    subst e
    exact I1.fpOk (Nat.le_refl _) (I1.hok.fresh (Nat.le_refl _))
  · subst ex
    obtain ⟨t, rfl⟩ := r1
    cases ha : x.cps.all (· < 128)
    · exact wpAny_pyIter_wide ha (pi_one (tk := s1.toks) I1 _ (turn_str _ x t "str_iterator" (.inr rfl)) ⟨_, Heap.get?_push_size _ rfl, rfl, rfl⟩ q)
    · exact wpAny_pyIter_ascii ha (pi_one (tk := s1.toks) I1 _ (turn_str _ x t "str_ascii_iterator" (.inl rfl)) ⟨_, Heap.get?_push_size _ rfl, rfl, rfl⟩ q)
/-- what is walked over -/
def itsOf : PyData → Option (List PyData)
  | .list ds => some ds
  | .tuple ds => some ds
  | .str s => some (signs s)
  | _ => none
/-- the walk goes along the items -/
theorem its_core {K : PySem.W.Frag} {G H : Hp} {x : PyData} {ds : List PyData} {v : V} (e : Same G H) (d : Dd K G v x) (h : itsOf x = some ds) :
    ∃ J : It, ((∃ a xs, v = .ref a ∧ SqL K H a xs ∧ J = Itl K a) ∨ (∃ a xs, v = .ref a ∧ SqT K H a xs ∧ J = Itt K a) ∨ (∃ z, v = .str z ∧ J = Its z)) ∧
      (∀ (i : Nat) (y : PyData) (G' H' : Hp), ds[i]? = some y → Same G G' → Same G' H' → J.go i H' ∧ ∀ u H2, J.yld i H' u H2 → H2 = H' ∧ Dd K G' u y) ∧ ∀ (G' H' : Hp), Same G G' → Same G' H' → J.stop ds.length H' := by
  cases x with
  | list ds' =>
    cases h
    cases d with
    | lst hs ha =>
      rename_i a us
      refine ⟨Itl K a, .inl ⟨a, us, rfl, e.seq hs, rfl⟩, fun i y G' H' hy s1 s2 => ?_, fun G' H' s1 s2 => ⟨us, s2.seq (s1.seq hs), by rw [dpa_len ha]; exact Nat.le_refl _⟩⟩
      obtain ⟨u, hu, du⟩ := dpa_get ha hy
      have hS : SqL K H' a us := s2.seq (s1.seq hs)
      refine ⟨⟨us, u, hS, hu⟩, fun y' H2 hy' => ⟨hy'.1, ?_⟩⟩
      have e' := hy'.2 us hS
      rw [hu] at e'
      cases e'
      exact dp_ex s1 _ du
  | tuple ds' =>
    cases h
    cases d with
    | tup hs ha =>
      rename_i a us
      refine ⟨Itt K a, .inr (.inl ⟨a, us, rfl, seqT e hs, rfl⟩), fun i y G' H' hy s1 s2 => ?_, fun G' H' s1 s2 => ⟨us, seqT s2 (seqT s1 hs), by rw [dpa_len ha]; exact Nat.le_refl _⟩⟩
      obtain ⟨u, hu, du⟩ := dpa_get ha hy
      have hS : SqT K H' a us := seqT s2 (seqT s1 hs)
      refine ⟨⟨us, u, hS, hu⟩, fun y' H2 hy' => ⟨hy'.1, ?_⟩⟩
      have e' := hy'.2 us hS
      rw [hu] at e'
      cases e'
      exact dp_ex s1 _ du
  | str s =>
    cases h
    cases d
    have hl : (signs s).length = s.cps.size := by simp [signs]
    refine ⟨Its s, .inr (.inr ⟨s, rfl, rfl⟩), fun i y G' H' hy s1 s2 => ?_, fun G' H' s1 s2 => by rw [hl]; exact Nat.le_refl _⟩
    have hi : i < s.cps.size := by
      rw [← hl]
      exact (List.getElem?_eq_some_iff.mp hy).1
    refine ⟨hi, fun y' H2 hy' => ⟨hy'.1, ?_⟩⟩
    obtain ⟨c, hc, rfl⟩ := hy'.2
    have ex : y = .str ⟨#[c]⟩ := by
      unfold signs at hy
      rw [List.getElem?_map, Array.getElem?_toList, hc] at hy
      exact (Option.some.inj hy).symm
    subst ex
    exact .str _
  | _ => cases h
def sForA (t : TD) (g : TDG) (b : TDS) : TDS := fun A ε => t ε fun r ε1 => match frz ε1 r with
  | some (x, ε2) => onO (itsOf x) fun ds => forGo noI g b A ds ε2
  | _ => False
theorem ds_forA {X : Cx} {te : TD} {pos : Pos} {iter tg : Expr} {body : List Stmt} {g : TDG} {ws : List Nat} {tb : TDS} (hp : PassesOwn (model X.prog X.w) X.A X.env X.xe) (hc : X.calm = true) (hi : DV X iter te) (hg : DG X tg ws g) (hb : DSs X W body tb) (hs : ∀ x, foldedSetIterable iter X.env x = pure x := by intro _; rfl) : DS X W (.For tg iter body [] pos) (sForA te g tb) :=
  ps_w (ps_for hp hc (pi_any hi) hg hb hs) fun D σ H ⟨c, G, ow, ε, A, R, h, k1, k2, k3, k4, k5⟩ => ⟨c, G, ow, ε, _, R, h, fun r ε1 G1 H1 ow1 v h1 F1 R1 V1 => by
    cases q : frz ε1 r with
    | none => simp only [q] at h1
    | some z =>
      obtain ⟨x, ε2⟩ := z
      obtain ⟨G2, F2, sg, R2, d⟩ := frz_ok F1 R1 V1 q
      simp only [q] at h1
      obtain ⟨ds, hds, h1⟩ := onO_get h1
      obtain ⟨J, hJ, j1, j2⟩ := its_core R2.ex d hds
      have core := for_core (J := J) (ws := ws) R2 F2 h1 (fun i x H' G' ow' σ' ε' hx _ f1 r1 => j1 i x G' H' hx f1.ex r1.ex) (fun H' G' ow' σ' ε' _ f1 r1 => j2 G' H' f1.ex r1.ex) k1 k2 k5
      rcases hJ with ⟨a, us, e1, e2, rfl⟩ | ⟨a, us, e1, e2, rfl⟩ | ⟨z, e1, rfl⟩
      · exact .inl ⟨a, us, e1, e2, core⟩
      · exact .inr (.inl ⟨a, us, e1, e2, core⟩)
      · exact .inr (.inr ⟨z, e1, core⟩)⟩
def dLcA (t : TD) (g : TDG) (tt : TDT) (te : TD) (vs : List Nat) : TD := fun ε A => t ε fun r ε1 => match frz ε1 r with
  | some (x, ε2) => onO (itsOf x) fun ds => lcGo noI g tt te vs (fun acc ε' => A (.new acc) (rstE ε2 ε' vs)) ds [] (wipeE ε2 vs)
  | _ => False
theorem lcA_rd {K : PySem.W.Frag} {t : TD} {g : TDG} {tt : TDT} {te : TD} {ws vs : List Nat} {σ : L2.St} {H : Hp} {Q : VK} (hws : ∀ j ∈ ws, j ∈ vs) (h : rdV K (dLcA t g tt te vs) σ H Q) : tLc (iAny K (rdV K t)) (rdG K ws g) (rdT K tt) (rdV K te) vs σ H Q := by
  obtain ⟨c, G, ow, ε, A, R, h, kk⟩ := h
  refine ⟨c, G, ow, ε, _, R, h, fun r ε1 G1 H1 ow1 v h1 F1 R1 V1 => ?_⟩
  cases q : frz ε1 r with
  | none => simp only [q] at h1
  | some z =>
    obtain ⟨x, ε2⟩ := z
    obtain ⟨G2, F2, sg, R2, d⟩ := frz_ok F1 R1 V1 q
    simp only [q] at h1
    obtain ⟨ds, hds, h1⟩ := onO_get h1
    obtain ⟨J, hJ, j1, j2⟩ := its_core R2.ex d hds
    have core := lc_core (J := J) hws (Q := Q) R2 F2 h1 (fun i x H' G' ow' ε' hx _ f1 r1 => j1 i x G' H' hx f1.ex r1.ex) (fun H' G' ow' ε' _ f1 r1 => j2 G' H' f1.ex r1.ex) fun acc ε' G' H' ow' v q F R V => kk _ _ G' H' ow' v q F R V
    rcases hJ with ⟨a, us, e1, e2, rfl⟩ | ⟨a, us, e1, e2, rfl⟩ | ⟨z, e1, rfl⟩
    · exact .inl ⟨a, us, e1, e2, core⟩
    · exact .inr (.inl ⟨a, us, e1, e2, core⟩)
    · exact .inr (.inr ⟨z, e1, core⟩)
section
variable {X : Cx} {elt tg iter : Expr} {ifs : List Expr} {scope : Scope} {own : List (Str × Nat)} {pos spos py : Pos} {t : TD} {g : TDG} {tt : TDT} {te : TD} {ws : List Nat} {i : Nat} {y : Str}
theorem dv_lcA (hc : X.calm = true) (hN : X.N.Nodup) (hi : DV X iter t) (b : Blk X tg ifs elt scope own ws g tt te) (hs : ∀ x, foldedSetIterable iter X.env x = pure x := by intro _; rfl) : DV X (.ListComp elt [⟨tg, iter, ifs, 0⟩] scope pos) (dLcA t g tt te (own.map (·.2))) :=
  pe_w (pe_lc hc hN (pi_any hi) b.ok b.tgt b.tst b.elt hs) fun _ _ _ h => lcA_rd b.sub h
theorem ds_lcA (hc : X.calm = true) (hN : X.N.Nodup) (hy : X.N[i]? = some y) (hyl : X.env.scope.names.lookup y = some .local) (hsw : swapsWith (.ListComp elt [⟨tg, iter, ifs, 0⟩] scope pos) (some (.Name y py)) spos.line X.env = pure true)
    (hi : DV X iter t) (b : Blk X tg ifs elt scope own ws g tt te) (hs : ∀ x, foldedSetIterable iter X.env x = pure x := by intro _; rfl) : DS X W (.Assign [.Name y py] (.ListComp elt [⟨tg, iter, ifs, 0⟩] scope pos) spos) (sSet i (dLcA t g tt te (own.map (·.2)))) :=
  ps_wl (ps_setLc hc hN hy hyl hsw (pi_any hi) b.ok b.tgt b.tst b.elt hs) fun _ _ _ hl h => setlc_rd (fun _ => lcA_rd b.sub) (by rw [hl]; exact (List.getElem?_eq_some_iff.mp hy).1) h
end
section
variable {A : Vl → Ep → Prop} {V : Vl → Prop} {ε : Ep} {t u v : TD} {g : TDG} {p : TDT} {vs : List Nat} {z1 z2 : Int} {xs ys : List PyData} {s1 s2 : Str} {D : DEnds} {s r : TDS}
theorem ap_forA : ev (sForA t g s D ε) = ev (t ε fun r ε1 => match frz ε1 r with
  | some (x, ε2) => onO (itsOf x) fun ds => forGo noI g s D ds ε2
  | _ => False) := id rfl
theorem ap_lcA : ev (dLcA t g p u vs ε A) = ev (t ε fun r ε1 => match frz ε1 r with
  | some (x, ε2) => onO (itsOf x) fun ds => lcGo noI g p u vs (fun acc ε' => A (.new acc) (rstE ε2 ε' vs)) ds [] (wipeE ε2 vs)
  | _ => False) := id rfl
theorem it_L : itsOf (.list xs) = some xs := id rfl
theorem it_T : itsOf (.tuple xs) = some xs := id rfl
theorem it_S : itsOf (.str s1) = some (signs s1) := id rfl
theorem k_AdI : kAdd (.int z1) (.int z2) V = V (.d (.int (z1 + z2))) := id rfl
theorem k_AdL : kAdd (.list xs) (.list ys) V = (xs.length + ys.length ≤ 1000000 ∧ V (.new (xs ++ ys))) := id rfl
theorem k_AdT : kAdd (.tuple xs) (.tuple ys) V = (xs.length + ys.length ≤ 1000000 ∧ V (.d (.tuple (xs ++ ys)))) := id rfl
theorem k_AdS : kAdd (.str s1) (.str s2) V = (s1.length + s2.length ≤ 1000000 ∧ V (.d (.str (s1 ++ s2)))) := id rfl
theorem k_MuI : kMul (.int z1) (.int z2) V = (CMul z1 z2 ∧ V (.d (.int (z1 * z2)))) := id rfl
theorem k_MuL : kMul (.list xs) (.int z2) V = ((-(2 ^ 63) ≤ z2 ∧ z2 < 2 ^ 63 ∧ xs.length * z2.toNat ≤ 1000000) ∧ V (.new (List.replicate z2.toNat xs).flatten)) := id rfl
theorem k_MuS : kMul (.str s1) (.int z2) V = ((-1000 ≤ z2 ∧ z2 ≤ 1000 ∧ s1.length ≤ 1000) ∧ V (.d (.str (repS s1 z2.toNat)))) := id rfl
end
end DL
namespace DL
open PySem PySem.Spec PyProof.Rows L2
/-! ### what a thing is, step by step -/
theorem isN_none : DL.isN .none = true := id rfl
theorem isN_bool (b : Bool) : DL.isN (.bool b) = false := id rfl
theorem isN_int (i : Int) : DL.isN (.int i) = false := id rfl
theorem isN_str (s : Str) : DL.isN (.str s) = false := id rfl
theorem isN_list (xs : List PyData) : DL.isN (.list xs) = false := id rfl
theorem isN_tuple (xs : List PyData) : DL.isN (.tuple xs) = false := id rfl
theorem isN_dict (kvs : List (PyData × PyData)) : DL.isN (.dict kvs) = false := id rfl
theorem isTup_none : DL.isTup .none = false := id rfl
theorem isTup_bool (b : Bool) : DL.isTup (.bool b) = false := id rfl
theorem isTup_int (i : Int) : DL.isTup (.int i) = false := id rfl
theorem isTup_str (s : Str) : DL.isTup (.str s) = false := id rfl
theorem isTup_list (xs : List PyData) : DL.isTup (.list xs) = false := id rfl
theorem isTup_tuple (xs : List PyData) : DL.isTup (.tuple xs) = true := id rfl
theorem isTup_dict (kvs : List (PyData × PyData)) : DL.isTup (.dict kvs) = false := id rfl
theorem isLst_none : DL.isLst .none = false := id rfl
theorem isLst_bool (b : Bool) : DL.isLst (.bool b) = false := id rfl
theorem isLst_int (i : Int) : DL.isLst (.int i) = false := id rfl
theorem isLst_str (s : Str) : DL.isLst (.str s) = false := id rfl
theorem isLst_list (xs : List PyData) : DL.isLst (.list xs) = true := id rfl
theorem isLst_tuple (xs : List PyData) : DL.isLst (.tuple xs) = false := id rfl
theorem isLst_dict (kvs : List (PyData × PyData)) : DL.isLst (.dict kvs) = false := id rfl
theorem isStr_none : DL.isStr .none = false := id rfl
theorem isStr_bool (b : Bool) : DL.isStr (.bool b) = false := id rfl
theorem isStr_int (i : Int) : DL.isStr (.int i) = false := id rfl
theorem isStr_str (s : Str) : DL.isStr (.str s) = true := id rfl
theorem isStr_list (xs : List PyData) : DL.isStr (.list xs) = false := id rfl
theorem isStr_tuple (xs : List PyData) : DL.isStr (.tuple xs) = false := id rfl
theorem isStr_dict (kvs : List (PyData × PyData)) : DL.isStr (.dict kvs) = false := id rfl
theorem isInt_none : DL.isInt .none = false := id rfl
theorem isInt_bool (b : Bool) : DL.isInt (.bool b) = true := id rfl
theorem isInt_int (i : Int) : DL.isInt (.int i) = true := id rfl
theorem isInt_str (s : Str) : DL.isInt (.str s) = false := id rfl
theorem isInt_list (xs : List PyData) : DL.isInt (.list xs) = false := id rfl
theorem isInt_tuple (xs : List PyData) : DL.isInt (.tuple xs) = false := id rfl
theorem isInt_dict (kvs : List (PyData × PyData)) : DL.isInt (.dict kvs) = false := id rfl
theorem isBool_none : DL.isBool .none = false := id rfl
theorem isBool_bool (b : Bool) : DL.isBool (.bool b) = true := id rfl
theorem isBool_int (i : Int) : DL.isBool (.int i) = false := id rfl
theorem isBool_str (s : Str) : DL.isBool (.str s) = false := id rfl
theorem isBool_list (xs : List PyData) : DL.isBool (.list xs) = false := id rfl
theorem isBool_tuple (xs : List PyData) : DL.isBool (.tuple xs) = false := id rfl
theorem isBool_dict (kvs : List (PyData × PyData)) : DL.isBool (.dict kvs) = false := id rfl
theorem isDict_none : DL.isDict .none = false := id rfl
theorem isDict_bool (b : Bool) : DL.isDict (.bool b) = false := id rfl
theorem isDict_int (i : Int) : DL.isDict (.int i) = false := id rfl
theorem isDict_str (s : Str) : DL.isDict (.str s) = false := id rfl
theorem isDict_list (xs : List PyData) : DL.isDict (.list xs) = false := id rfl
theorem isDict_tuple (xs : List PyData) : DL.isDict (.tuple xs) = false := id rfl
theorem isDict_dict (kvs : List (PyData × PyData)) : DL.isDict (.dict kvs) = true := id rfl
end DL

/-! DL4: things within things; calls that hand in what is changed; exceptions. -/
namespace DL
open PySem PySem.Spec PyProof.Rows L2
/-! ### places -/
def setN : NT → List Nat → NT → NT
  | _, [], u => u
  | .node a h ts, i :: p, u => match ts[i]? with
    | some t => .node a h (ts.set i (setN t p u))
    | none => .node a h ts
  | .fz x, _ :: _, _ => .fz x
theorem adrs_get {t : NT} {a : Addr} : ∀ {ts : List NT} {i : Nat}, ts[i]? = some t → a ∈ adr t → a ∈ adrs ts
  | [], _, e, _ => by simp at e
  | s :: ts, 0, e, h => by
    simp at e
    subst e
    rw [adrs]
    exact List.mem_append_left _ h
  | s :: ts, i + 1, e, h => by
    rw [adrs]
    exact List.mem_append_right _ (adrs_get (i := i) (by simpa using e) h)
theorem get_adr {a : Addr} {s : NT} : ∀ (p : List Nat) (t : NT), getN t p = some s → a ∈ adr s → a ∈ adr t
  | [], t, e, h => by
    simp [getN] at e
    subst e
    exact h
  | i :: p, .fz x, e, h => by simp [getN] at e
  | i :: p, .node b hd ts, e, h => by
    simp only [getN] at e
    split at e
    · rename_i t0 e0
      rw [adr]
      exact List.mem_cons_of_mem _ (adrs_get e0 (get_adr p t0 e h))
    · cases e
theorem nodup_get {t : NT} : ∀ {ts : List NT} {i : Nat}, (adrs ts).Nodup → ts[i]? = some t → (adr t).Nodup
  | [], _, _, e => by simp at e
  | s :: ts, 0, h, e => by
    simp at e
    subst e
    rw [adrs] at h
    exact (List.nodup_append.mp h).1
  | s :: ts, i + 1, h, e => by
    rw [adrs] at h
    exact nodup_get (i := i) (List.nodup_append.mp h).2.1 (by simpa using e)
theorem nodup_adr {a : Addr} {hd : Hd} {ts : List NT} (h : (adr (.node a hd ts)).Nodup) : a ∉ adrs ts ∧ (adrs ts).Nodup := by
  rw [adr] at h
  exact List.nodup_cons.mp h
section
variable {K : PySem.W.Frag} {G H G' H' : Hp}
theorem toks_len : ∀ {ts : List NT} {vs : List V}, TOks K G H ts vs → vs.length = ts.length
  | [], vs, h => by rw [TOks] at h; subst h; rfl
  | t :: ts, vs, h => by
    rw [TOks] at h
    obtain ⟨v, us, rfl, _, h2⟩ := h
    simp [toks_len h2]
/-- one among many is changed -/
theorem toks_set (e : Same G G') {s u : NT} (hsub : ∀ b ∈ adr s, True) : ∀ {ts : List NT} {vs : List V} {i : Nat} {t0 : NT} {w : V}, TOks K G H ts vs → ts[i]? = some t0 → vs[i]? = some w → (adrs ts).Nodup → (∀ b ∈ adr s, b ∈ adr t0) → TOk K G' H' u w →
    (∀ b ∈ adrs ts, b ∉ adr s → G b = none → ∀ o, H b = some o → G' b = none ∧ H' b = some o) → TOks K G' H' (ts.set i u) vs
  | [], _, _, _, _, _, e0, _, _, _, _, _ => by simp at e0
  | t :: ts, vs, 0, t0, w, h, e0, ew, hn, hs, hu, k => by
    rw [TOks] at h
    obtain ⟨v, us, rfl, h1, h2⟩ := h
    simp at e0 ew
    subst e0 ew
    rw [adrs] at hn
    show TOks K G' H' (u :: ts) (v :: us)
    rw [TOks]
    refine ⟨v, us, rfl, hu, h2.grow e ts fun b hb => k b (by rw [adrs]; exact List.mem_append_right _ hb) fun hm => ?_⟩
    exact (List.nodup_append.mp hn).2.2 b (hs b hm) b hb rfl
  | t :: ts, vs, i + 1, t0, w, h, e0, ew, hn, hs, hu, k => by
    rw [TOks] at h
    obtain ⟨v, us, rfl, h1, h2⟩ := h
    rw [adrs] at hn
    have e0' : ts[i]? = some t0 := by simpa using e0
    show TOks K G' H' (t :: ts.set i u) (v :: us)
    rw [TOks]
    refine ⟨v, us, rfl, h1.grow e t fun b hb => k b (by rw [adrs]; exact List.mem_append_left _ hb) fun hm => ?_, toks_set e hsub h2 e0' (by simpa using ew) (List.nodup_append.mp hn).2.1 hs hu fun b hb => k b (by rw [adrs]; exact List.mem_append_right _ hb)⟩
    exact (List.nodup_append.mp hn).2.2 b hb b (adrs_get e0' (hs b hm)) rfl
/-- a thing within is changed -/
theorem tok_set (e : Same G G') {s u : NT} : ∀ (p : List Nat) (t : NT) {v : V}, TOk K G H t v → (adr t).Nodup → getN t p = some s → (∀ w, TOk K G H s w → TOk K G' H' u w) →
    (∀ b ∈ adr t, b ∉ adr s → G b = none → ∀ o, H b = some o → G' b = none ∧ H' b = some o) → TOk K G' H' (setN t p u) v
  | [], t, v, h, hn, eg, hu, k => by
    simp [getN] at eg
    subst eg
    exact hu v h
  | i :: p, .fz x, v, h, hn, eg, hu, k => by simp [getN] at eg
  | i :: p, .node b hd ts, v, h, hn, eg, hu, k => by
    simp only [getN] at eg
    split at eg
    · rename_i t0 e0
      obtain ⟨n1, n2⟩ := nodup_adr hn
      rw [TOk] at h
      obtain ⟨h1, h2, h3, vs, h4, h5⟩ := h
      obtain ⟨w, ew, hw⟩ := toks_get h5 e0
      have hs : ∀ c ∈ adr s, c ∈ adr t0 := fun c hc => get_adr p t0 eg hc
      have hb : b ∉ adr s := fun hm => n1 (adrs_get e0 (hs b hm))
      have q := tok_set e p t0 hw (nodup_get n2 e0) eg hu fun c hc => k c (by rw [adr]; exact List.mem_cons_of_mem _ (adrs_get e0 hc))
      obtain ⟨k1, k2⟩ := k b (by rw [adr]; exact List.mem_cons_self) hb h2 _ h4
      simp only [setN, e0]
      rw [TOk]
      exact ⟨h1, k1, by rw [List.length_set]; exact h3, vs, k2, toks_set e (fun _ _ => trivial) h5 e0 ew n2 hs q fun c hc => k c (by rw [adr]; exact List.mem_cons_of_mem _ hc)⟩
    · cases eg
end
theorem adrs_set_mem {u : NT} {b : Addr} : ∀ {ts : List NT} {i : Nat} {t0 : NT}, ts[i]? = some t0 → (adrs ts).Nodup → b ∈ adrs (ts.set i u) → b ∈ adr u ∨ (b ∈ adrs ts ∧ b ∉ adr t0)
  | [], _, _, e, _, _ => by simp at e
  | t :: ts, 0, t0, e, hn, h => by
    simp at e
    subst e
    rw [adrs] at hn
    have h : b ∈ adrs (u :: ts) := h
    rw [adrs] at h
    rcases List.mem_append.mp h with h | h
    · exact .inl h
    · exact .inr ⟨by rw [adrs]; exact List.mem_append_right _ h, fun hm => (List.nodup_append.mp hn).2.2 b hm b h rfl⟩
  | t :: ts, i + 1, t0, e, hn, h => by
    have e' : ts[i]? = some t0 := by simpa using e
    rw [adrs] at hn
    have h : b ∈ adrs (t :: ts.set i u) := h
    rw [adrs] at h
    rcases List.mem_append.mp h with h | h
    · exact .inr ⟨by rw [adrs]; exact List.mem_append_left _ h, fun hm => (List.nodup_append.mp hn).2.2 b h b (adrs_get e' hm) rfl⟩
    · rcases adrs_set_mem e' (List.nodup_append.mp hn).2.1 h with h | ⟨h1, h2⟩
      · exact .inl h
      · exact .inr ⟨by rw [adrs]; exact List.mem_append_right _ h1, h2⟩
theorem adrs_set_nodup {u : NT} : ∀ {ts : List NT} {i : Nat} {t0 : NT}, ts[i]? = some t0 → (adrs ts).Nodup → (adr u).Nodup → (∀ b ∈ adr u, b ∈ adr t0 ∨ b ∉ adrs ts) → (adrs (ts.set i u)).Nodup
  | [], _, _, e, _, _, _ => by simp at e
  | t :: ts, 0, t0, e, hn, hu, hs => by
    simp at e
    subst e
    rw [adrs] at hn
    show (adrs (u :: ts)).Nodup
    rw [adrs]
    obtain ⟨n1, n2, n3⟩ := List.nodup_append.mp hn
    refine List.nodup_append.mpr ⟨hu, n2, fun b hb c hc e => ?_⟩
    subst e
    rcases hs b hb with q | q
    · exact n3 b q b hc rfl
    · exact q (by rw [adrs]; exact List.mem_append_right _ hc)
  | t :: ts, i + 1, t0, e, hn, hu, hs => by
    have e' : ts[i]? = some t0 := by simpa using e
    rw [adrs] at hn
    obtain ⟨n1, n2, n3⟩ := List.nodup_append.mp hn
    show (adrs (t :: ts.set i u)).Nodup
    rw [adrs]
    refine List.nodup_append.mpr ⟨n1, adrs_set_nodup e' n2 hu (fun b hb => ?_), fun b hb c hc e => ?_⟩
    · rcases hs b hb with q | q
      · exact .inl q
      · exact .inr fun m => q (by rw [adrs]; exact List.mem_append_right _ m)
    · subst e
      rcases adrs_set_mem e' n2 hc with q | ⟨q, _⟩
      · rcases hs b q with q | q
        · exact n3 b hb b (adrs_get e' q) rfl
        · exact q (by rw [adrs]; exact List.mem_append_left _ hb)
      · exact n3 b hb b q rfl
theorem adr_set {s u : NT} : ∀ (p : List Nat) (t : NT), (adr t).Nodup → getN t p = some s → (adr u).Nodup → (∀ b ∈ adr u, b ∈ adr s ∨ b ∉ adr t) → (adr (setN t p u)).Nodup ∧ ∀ b ∈ adr (setN t p u), b ∈ adr u ∨ (b ∈ adr t ∧ b ∉ adr s)
  | [], t, hn, eg, hu, hs => by
    simp [getN] at eg
    subst eg
    exact ⟨hu, fun b hb => .inl hb⟩
  | i :: p, .fz x, hn, eg, hu, hs => by simp [getN] at eg
  | i :: p, .node a hd ts, hn, eg, hu, hs => by
    simp only [getN] at eg
    split at eg
    · rename_i t0 e0
      obtain ⟨n1, n2⟩ := nodup_adr hn
      have sub : ∀ c ∈ adr s, c ∈ adr t0 := fun c hc => get_adr p t0 eg hc
      have up : ∀ c, c ∈ adr t0 → c ∈ adr (.node a hd ts) := fun c hc => by rw [adr]; exact List.mem_cons_of_mem _ (adrs_get e0 hc)
      obtain ⟨q1, q2⟩ := adr_set p t0 (nodup_get n2 e0) eg hu fun b hb => by
        rcases hs b hb with q | q
        · exact .inl q
        · exact .inr fun m => q (up b m)
      have cl : ∀ b ∈ adr (setN t0 p u), b ∈ adr t0 ∨ b ∉ adrs ts := fun b hb => by
        rcases q2 b hb with q | ⟨q, _⟩
        · rcases hs b q with q | q
          · exact .inl (sub b q)
          · exact .inr fun m => q (by rw [adr]; exact List.mem_cons_of_mem _ m)
        · exact .inl q
      have an : a ∉ adr (setN t0 p u) := fun m => by
        rcases q2 a m with q | ⟨q, _⟩
        · rcases hs a q with q | q
          · exact n1 (adrs_get e0 (sub a q))
          · exact q (by rw [adr]; exact List.mem_cons_self)
        · exact n1 (adrs_get e0 q)
      simp only [setN, e0]
      rw [adr, adr]
      refine ⟨List.nodup_cons.mpr ⟨fun m => ?_, adrs_set_nodup e0 n2 q1 cl⟩, fun b hb => ?_⟩
      · rcases adrs_set_mem e0 n2 m with q | ⟨q, _⟩
        · exact an q
        · exact n1 q
      · rcases List.mem_cons.mp hb with e | hb
        · subst e
          exact .inr ⟨List.mem_cons_self, fun m => n1 (adrs_get e0 (sub b m))⟩
        · rcases adrs_set_mem e0 n2 hb with q | ⟨q, z⟩
          · rcases q2 b q with q | ⟨q, z⟩
            · exact .inl q
            · exact .inr ⟨List.mem_cons_of_mem _ (adrs_get e0 q), z⟩
          · exact .inr ⟨List.mem_cons_of_mem _ q, fun m => z (sub b m)⟩
    · cases eg
end DL
namespace DL
open PySem PySem.Spec PyProof.Rows L2
theorem nodup_getp {s : NT} : ∀ (p : List Nat) (t : NT), (adr t).Nodup → getN t p = some s → (adr s).Nodup
  | [], t, hn, e => by
    simp [getN] at e
    subst e
    exact hn
  | i :: p, .fz x, hn, e => by simp [getN] at e
  | i :: p, .node b hd ts, hn, e => by
    simp only [getN] at e
    split at e
    · rename_i t0 e0
      exact nodup_getp p t0 (nodup_get (nodup_adr hn).2 e0) e
    · cases e
/-! ### calls: what is the caller's own is handed in -/
def parS (ε : Ep) : Vl → Option Sl
  | .d x => some (.d x)
  | .ex nm => some (.ex nm)
  | .bor j => match look ε j with
    | .lst _ xs => some (.lst false xs)
    | .dct _ kvs => some (.dct false kvs)
    | _ => none
  | .bp j p a => match look ε j with
    | .nt _ t => match getN t p with
      | some (.node b h ts) => if a = b then some (.nt false (.node b h ts)) else none
      | _ => none
    | _ => none
  | _ => none
def parAll (ε : Ep) : List Vl → Option (List Sl)
  | [] => some []
  | r :: rs => match parS ε r, parAll ε rs with
    | some s, some ss => some (s :: ss)
    | _, _ => none
def slotOf : Vl → Option Nat
  | .bor j => some j
  | .bp j _ _ => some j
  | _ => none
def bk1 : Vl → Sl → Sl → Option Sl
  | .bor _, .lst fr _, .lst false ys => some (.lst fr ys)
  | .bor _, .dct fr _, .dct false kvs => some (.dct fr kvs)
  | .bp _ p _, .nt fr t, .nt false u => some (.nt fr (setN t p u))
  | _, _, _ => none
def bkAll (ε : Ep) : List Vl → List Sl → Option Ep
  | [], _ => some ε
  | r :: rs, [] => none
  | r :: rs, s :: ss => match slotOf r with
    | none => bkAll ε rs ss
    | some j => match bk1 r (look ε j) s with
      | some s' => bkAll (put ε j s') rs ss
      | none => none
theorem nodup_idx {α β : Type} {f : α → Option β} {j : β} : ∀ {rs : List α} {k k' : Nat} {r r' : α}, (rs.filterMap f).Nodup → rs[k]? = some r → f r = some j → rs[k']? = some r' → f r' = some j → k = k'
  | [], _, _, _, _, _, e, _, _, _ => by simp at e
  | x :: rs, k, k', r, r', hn, e, h, e', h' => by
    have mem : ∀ {i : Nat} {y : α}, rs[i]? = some y → f y = some j → j ∈ rs.filterMap f := fun {i y} q z => List.mem_filterMap.mpr ⟨y, List.mem_of_getElem? q, z⟩
    have tl : (rs.filterMap f).Nodup := by
      rw [List.filterMap_cons] at hn
      split at hn
      · exact hn
      · exact (List.nodup_cons.mp hn).2
    have hd : f x = some j → j ∉ rs.filterMap f := fun z => by
      rw [List.filterMap_cons, z] at hn
      exact (List.nodup_cons.mp hn).1
    cases k with
    | zero =>
      cases k' with
      | zero => rfl
      | succ k' =>
        simp at e
        subst e
        exact absurd (mem (by simpa using e') h') (hd h)
    | succ k =>
      cases k' with
      | zero =>
        simp at e'
        subst e'
        exact absurd (mem (by simpa using e) h) (hd h')
      | succ k' => exact congrArg (· + 1) (nodup_idx tl (by simpa using e) h (by simpa using e') h')
theorem bkAll_ok : ∀ {rs : List Vl} {ss : List Sl} {ε ε' : Ep}, (rs.filterMap slotOf).Nodup → bkAll ε rs ss = some ε' → ε'.length = ε.length ∧ (∀ i, i ∉ rs.filterMap slotOf → look ε' i = look ε i) ∧
    ∀ (k : Nat) (r : Vl) (j : Nat), rs[k]? = some r → slotOf r = some j → ∃ s s', ss[k]? = some s ∧ bk1 r (look ε j) s = some s' ∧ look ε' j = s'
  | [], ss, ε, ε', hn, e => by
    have e : some ε = some ε' := by simpa [bkAll] using e
    cases e
    exact ⟨rfl, fun _ _ => rfl, fun k r j h => by simp at h⟩
  | r :: rs, [], ε, ε', hn, e => by simp [bkAll] at e
  | r :: rs, s :: ss, ε, ε', hn, e => by
    unfold bkAll at e
    cases hj : slotOf r with
    | none =>
      simp only [hj] at e
      rw [List.filterMap_cons, hj] at hn
      obtain ⟨h1, h2, h3⟩ := bkAll_ok hn e
      refine ⟨h1, fun i hi => h2 i (by rw [List.filterMap_cons, hj] at hi; exact hi), fun k r' j hk hr => ?_⟩
      cases k with
      | zero =>
        simp at hk
        subst hk
        rw [hj] at hr
        cases hr
      | succ k => exact h3 k r' j (by simpa using hk) hr
    | some j0 =>
      simp only [hj] at e
      cases hb : bk1 r (look ε j0) s with
      | none => simp only [hb] at e; cases e
      | some s0 =>
        simp only [hb] at e
        rw [List.filterMap_cons, hj] at hn
        obtain ⟨n1, n2⟩ := List.nodup_cons.mp hn
        obtain ⟨h1, h2, h3⟩ := bkAll_ok n2 e
        have hlt : j0 < ε.length := look_lt fun q => by
          rw [q] at hb
          cases r <;> simp [bk1] at hb
        refine ⟨by rw [h1, put_length], fun i hi => ?_, fun k r' j hk hr => ?_⟩
        · rw [List.filterMap_cons, hj] at hi
          have i1 : i ≠ j0 := fun z => hi (by rw [z]; exact List.mem_cons_self)
          have i2 : i ∉ rs.filterMap slotOf := fun z => hi (List.mem_cons_of_mem _ z)
          rw [h2 i i2, look_put_ne i1]
        · cases k with
          | zero =>
            simp at hk
            subst hk
            rw [hj] at hr
            cases hr
            exact ⟨s, s0, rfl, hb, by rw [h2 _ n1, look_put_self hlt]⟩
          | succ k =>
            obtain ⟨s1, s2, q1, q2, q3⟩ := h3 k r' j (by simpa using hk) hr
            have hne : j ≠ j0 := fun z => by
              subst z
              exact n1 (List.mem_filterMap.mpr ⟨r', List.mem_of_getElem? (by simpa using hk), hr⟩)
            rw [look_put_ne hne] at q2
            exact ⟨s1, s2, by simpa using q1, q2, q3⟩
theorem parAll_ok : ∀ {rs : List Vl} {ps : List Sl} {ε : Ep}, parAll ε rs = some ps → ps.length = rs.length ∧ ∀ (i : Nat) (r : Vl), rs[i]? = some r → parS ε r = some (look ps i)
  | [], ps, ε, e => by
    cases e
    exact ⟨rfl, fun i r h => by simp at h⟩
  | r :: rs, ps, ε, e => by
    cases q1 : parS ε r with
    | none => simp [parAll, q1] at e
    | some s =>
      cases q2 : parAll ε rs with
      | none => simp [parAll, q1, q2] at e
      | some ss =>
        simp only [parAll, q1, q2, Option.some.injEq] at e
        subst e
        obtain ⟨h1, h2⟩ := parAll_ok q2
        refine ⟨by simp [h1], fun i r' h => ?_⟩
        cases i with
        | zero =>
          simp at h
          subst h
          exact q1
        | succ i => exact h2 i r' (by simpa using h)
theorem vsok_get {K : PySem.W.Frag} {Hs G H : Hp} {ow : Ow} {σ : L2.St} : ∀ {rs : List Vl} {vs : List V}, VsOk K Hs G H ow σ rs vs → vs.length = rs.length ∧ ∀ (i : Nat) (r : Vl), rs[i]? = some r → ∃ v, vs[i]? = some v ∧ VOk K Hs G H ow σ r v
  | [], vs, h => by
    cases h
    exact ⟨rfl, fun i r h => by simp at h⟩
  | r :: rs, vs, ⟨v, us, e, h1, h2⟩ => by
    subst e
    obtain ⟨q1, q2⟩ := vsok_get h2
    refine ⟨by simp [q1], fun i r' h => ?_⟩
    cases i with
    | zero =>
      simp at h
      subst h
      exact ⟨v, rfl, h1⟩
    | succ i =>
      obtain ⟨w, w1, w2⟩ := q2 i r' (by simpa using h)
      exact ⟨w, by simpa using w1, w2⟩
/-- what of the caller's is handed in -/
def inR (ε : Ep) : Vl → Addr → Prop
  | .bp j p _, a => ∃ fr t s, look ε j = .nt fr t ∧ getN t p = some s ∧ a ∈ adr s
  | _, _ => True
def isB (ε : Ep) (H : Hp) (ow : Ow) (rs : List Vl) (a : Addr) (k : Nat) : Prop := ∃ r j, rs[k]? = some r ∧ slotOf r = some j ∧ ow a = some j ∧ H a ≠ none ∧ inR ε r a
open Classical in
noncomputable def owIn (ε : Ep) (H : Hp) (ow : Ow) (rs : List Vl) : Ow := fun a => if h : ∃ k, isB ε H ow rs a k then some h.choose else none
theorem owIn_some {ε : Ep} {H : Hp} {ow : Ow} {rs : List Vl} {a : Addr} {k : Nat} (h : owIn ε H ow rs a = some k) : isB ε H ow rs a k := by
  unfold owIn at h
  split at h
  · rename_i z
    cases h
    exact z.choose_spec
  · cases h
theorem owIn_is {ε : Ep} {H : Hp} {ow : Ow} {rs : List Vl} {a : Addr} {k : Nat} (hn : (rs.filterMap slotOf).Nodup) (h : isB ε H ow rs a k) : owIn ε H ow rs a = some k := by
  have z : ∃ k, isB ε H ow rs a k := ⟨k, h⟩
  have e : owIn ε H ow rs a = some z.choose := by
    unfold owIn
    rw [dif_pos z]
  rw [e]
  obtain ⟨r, j, h1, h2, h3, _⟩ := h
  obtain ⟨r', j', q1, q2, q3, _⟩ := z.choose_spec
  rw [h3] at q3
  cases q3
  exact congrArg some (nodup_idx hn q1 q2 h1 h2)
open Classical in
noncomputable def owOut (H1 : Hp) (ow1 ow' ow2 : Ow) (rs : List Vl) : Ow := fun a => match ow2 a with
  | some k => match rs[k]? with
    | some r => slotOf r
    | none => none
  | none => match ow' a with
    | none => if H1 a = none then none else ow1 a
    | some _ => none
theorem callM_core {K : PySem.W.Frag} {c : Ct} {Hs G1 H1 : Hp} {ow1 : Ow} {σ : L2.St} {ε1 : Ep} {rs : List Vl} {vs : List V} {ps : List Sl} (R1 : Rep K c G1 H1 ow1 σ ε1) (V1 : VsOk K Hs G1 H1 ow1 σ rs vs) (hp : parAll ε1 rs = some ps) (hn : (rs.filterMap slotOf).Nodup) :
    ∃ (par : Nat → Option Addr) (ow' : Ow), Rep K ⟨H1, ow', par⟩ G1 H1 ow' (vs.map some) ps ∧ (∀ i p, par i = some p → vs[i]? = some (.ref p)) ∧ ps.length = rs.length ∧
      ∀ G2 H2 ow2 ps' ε2, Fr G1 H1 ow' G2 H2 ow2 → Rep K ⟨H1, ow', par⟩ G2 H2 ow2 (vs.map some) ps' → bkAll ε1 rs ps' = some ε2 →
        ∃ ow3, Fr G1 H1 ow1 G2 H2 ow3 ∧ Rep K c G2 H2 ow3 σ ε2 ∧ ∀ r v, VOk K H1 G2 H2 ow2 [] r v → ∀ Ht : Hp, (∀ a, H1 a = none → Ht a = none) → VOk K Ht G2 H2 ow3 σ r v := by
  obtain ⟨pl, pg⟩ := parAll_ok hp
  obtain ⟨vl, vg⟩ := vsok_get V1
  let par : Nat → Option Addr := fun k => match rs[k]?, vs[k]? with
    | some r, some (.ref p) => if (slotOf r).isSome then some p else none
    | _, _ => none
  have parIs : ∀ {k r p}, rs[k]? = some r → vs[k]? = some (.ref p) → (slotOf r).isSome → par k = some p := fun {k r p} h1 h2 h3 => by
    show (match rs[k]?, vs[k]? with
      | some r, some (.ref p) => if (slotOf r).isSome then some p else none
      | _, _ => none) = some p
    rw [h1, h2]
    exact if_pos h3
  let ow' := owIn ε1 H1 ow1 rs
  have nb : ∀ {a}, ow1 a = none → ow' a = none := fun {a} h => by
    cases q : ow' a with
    | none => rfl
    | some k =>
      obtain ⟨r, j, _, _, h3, _⟩ := owIn_some q
      rw [h] at h3
      cases h3
  refine ⟨par, ow', ⟨R1.ex, fun a z => z, by rw [List.length_map, vl, pl], fun i o ho => ?_⟩, fun i p hpar => ?_, pl, fun G2 H2 ow2 ps' ε2 F2 R2 hbk => ?_⟩
  · -- the callee's names
    rw [List.getElem?_map] at ho
    cases hv : vs[i]? with
    | none => rw [hv] at ho; cases ho
    | some v =>
      rw [hv] at ho
      cases ho
      have hi : i < rs.length := by
        rw [← vl]
        exact (List.getElem?_eq_some_iff.mp hv).1
      have hr : rs[i]? = some rs[i] := List.getElem?_eq_getElem hi
      obtain ⟨v', hv', vo⟩ := vg i _ hr
      rw [hv] at hv'
      cases hv'
      have hs := pg i _ hr
      revert vo hs hr
      generalize rs[i] = r
      intro hr vo hs
      cases r with
      | d x =>
        cases hs' : look ps i <;> rw [hs'] at hs <;> cases hs
        exact ⟨v, rfl, vo⟩
      | ex nm =>
        cases hs' : look ps i <;> rw [hs'] at hs <;> cases hs
        exact ⟨v, rfl, vo⟩
      | new xs => cases hs
      | dk kvs => cases hs
      | v x => cases hs
      | nt t => cases hs
      | bor j =>
        have vo : σ[j]? = some (some v) := vo
        have q := R1.at vo
        cases hl : look ε1 j with
        | lst fr xs =>
          simp only [parS, hl, Option.some.injEq] at hs
          rw [← hs]
          rw [hl] at q
          obtain ⟨p, us, e, o1, o2, o3, o4, _⟩ := q
          cases e
          exact ⟨p, us, rfl, owIn_is hn ⟨_, j, hr, rfl, o1, by rw [o3]; exact (fun z => nomatch z), trivial⟩, o2, o3, o4, (fun z => nomatch z), fun _ => parIs hr hv rfl⟩
        | dct fr xs =>
          simp only [parS, hl, Option.some.injEq] at hs
          rw [← hs]
          rw [hl] at q
          obtain ⟨p, us, e, o1, o2, o3, o4, _⟩ := q
          cases e
          exact ⟨p, us, rfl, owIn_is hn ⟨_, j, hr, rfl, o1, by rw [o3]; exact (fun z => nomatch z), trivial⟩, o2, o3, o4, (fun z => nomatch z), fun _ => parIs hr hv rfl⟩
        | _ => simp [parS, hl] at hs
      | bp j p a =>
        have vo : v = .ref a := vo
        subst vo
        cases hl : look ε1 j with
        | nt fr t =>
          simp only [parS, hl] at hs
          cases hg : getN t p with
          | none => simp [hg] at hs
          | some s =>
            cases s with
            | fz x => simp [hg] at hs
            | node b hd ts =>
              by_cases hab : a = b
              · subst hab
                simp only [hg, if_true, Option.some.injEq] at hs
                rw [← hs]
                obtain ⟨o, ho⟩ := R1.some_at (i := j) (by rw [hl]; exact fun z => nomatch z)
                have q := R1.at ho
                rw [hl] at q
                obtain ⟨w, _, t1, t2, t3, _⟩ := q
                obtain ⟨u, hu⟩ := tok_get p t t1 hg
                have hu' := hu
                rw [TOk] at hu'
                obtain ⟨rfl, _⟩ := hu'
                have own : ∀ b ∈ adr (.node a hd ts), ow' b = some i := fun b hb => owIn_is hn ⟨_, j, hr, rfl, t3 b (get_adr p t hg hb), by
                  obtain ⟨_, z, hz⟩ := TOk.has t t1 b (get_adr p t hg hb)
                  rw [hz]
                  exact (fun z => nomatch z), ⟨fr, t, _, hl, hg, hb⟩⟩
                exact ⟨.ref a, rfl, hu, nodup_getp p t t2 hg, own, (fun z => nomatch z), fun _ => ⟨⟨a, rfl, parIs hr hv rfl⟩, fun b hb => .inr (own b hb)⟩⟩
              · simp [hg, hab] at hs
        | _ => simp [parS, hl] at hs
  · -- the handed in stay where they are
    have hpar : (match rs[i]?, vs[i]? with
      | some r, some (.ref p) => if (slotOf r).isSome then some p else none
      | _, _ => none) = some p := hpar
    split at hpar
    · rename_i h2
      split at hpar
      · cases hpar
        exact h2
      · cases hpar
    · cases hpar
  · -- back
    obtain ⟨bl, b1, b2⟩ := bkAll_ok hn hbk
    have keep : ∀ {a o}, H1 a = some o → ow' a = none → H2 a = some o ∧ ow2 a = none ∧ (G1 a = none → G2 a = none) := fun {a o} h1 h2 => F2.st a o h1 h2
    have out0 : ∀ {a o}, H1 a = some o → ow2 a = none → ow' a = none → owOut H1 ow1 ow' ow2 rs a = ow1 a := fun {a o} h0 h1 h2 => by
      unfold owOut
      rw [h1]
      simp only [h2]
      rw [if_neg (by rw [h0]; exact fun z => nomatch z)]
    have out1 : ∀ {a k r}, ow2 a = some k → rs[k]? = some r → owOut H1 ow1 ow' ow2 rs a = slotOf r := fun {a k r} h1 h2 => by
      unfold owOut
      rw [h1]
      simp only [h2]
    refine ⟨owOut H1 ow1 ow' ow2 rs, ⟨F2.ex, fun a o h1 h2 => ?_, F2.dom⟩, ⟨R2.ex, fun a z => R1.dom a (F2.dom a z), by rw [bl]; exact R1.len, fun i o ho => ?_⟩, fun r v hv Ht hd => ?_⟩
    · obtain ⟨q1, q2, q3⟩ := keep h1 (nb h2)
      exact ⟨q1, by rw [out0 h1 q2 (nb h2)]; exact h2, q3⟩
    · by_cases hm : i ∈ rs.filterMap slotOf
      · obtain ⟨r, hr0, hri⟩ := List.mem_filterMap.mp hm
        obtain ⟨k, hk⟩ := List.mem_iff_getElem?.mp hr0
        obtain ⟨s, s', hs, hb, hls⟩ := b2 k r i hk hri
        obtain ⟨vk, hvk, vok⟩ := vg k r hk
        have hsl : look ps' k = s := by
          have : ∀ {l : List Sl} {n : Nat} {s : Sl}, l[n]? = some s → look l n = s := by
            intro l
            induction l with
            | nil => intro n s h; simp at h
            | cons x l ih =>
              intro n s h
              cases n with
              | zero => simpa [look] using h
              | succ n => exact ih (by simpa using h)
          exact this hs
        have qk := R2.sl k (some vk) (by rw [List.getElem?_map, hvk]; rfl)
        rw [hsl] at qk
        rw [hls]
        cases r with
        | bor j =>
          cases hri
          have vok : σ[i]? = some (some vk) := vok
          rw [ho] at vok
          cases vok
          have q1 := R1.at ho
          cases hl : look ε1 i with
          | lst fr xs =>
            rw [hl] at hb q1
            cases s with
            | lst fr2 ys =>
              cases fr2 with
              | true => cases hb
              | false =>
                cases hb
                obtain ⟨p, us, e, o1, o2, o3, o4, o5, o6⟩ := q1
                obtain ⟨p2, ws, e2, w1, w2, w3, w4, _⟩ := qk
                cases e
                cases e2
                exact ⟨p, ws, rfl, by rw [out1 w1 hk]; rfl, w2, w3, w4, o5, o6⟩
            | _ => cases hb
          | dct fr xs =>
            rw [hl] at hb q1
            cases s with
            | dct fr2 ys =>
              cases fr2 with
              | true => cases hb
              | false =>
                cases hb
                obtain ⟨p, us, e, o1, o2, o3, o4, o5, o6⟩ := q1
                obtain ⟨p2, ws, e2, w1, w2, w3, w4, _⟩ := qk
                cases e
                cases e2
                exact ⟨p, ws, rfl, by rw [out1 w1 hk]; rfl, w2, w3, w4, o5, o6⟩
            | _ => cases hb
          | _ => rw [hl] at hb; cases s <;> cases hb
        | bp j pth a =>
          cases hri
          have vok : vk = .ref a := vok
          subst vok
          cases hl : look ε1 i with
          | nt fr t =>
            have q1 := R1.at ho
            rw [hl] at hb q1
            cases s with
            | nt fr2 u =>
              cases fr2 with
              | true => cases hb
              | false =>
                cases hb
                obtain ⟨w, rfl, t1, t2, t3, t4, t5⟩ := q1
                obtain ⟨v', e2, u1, u2, u3, _, u5⟩ := qk
                cases e2
                obtain ⟨_, u6⟩ := u5 rfl
                have hs0 := pg k _ hk
                simp only [parS, hl] at hs0
                cases hg : getN t pth with
                | none => simp [hg] at hs0
                | some s0 =>
                  cases s0 with
                  | fz x => simp [hg] at hs0
                  | node b hd ts =>
                    by_cases hab : a = b
                    · subst hab
                      have hin : ∀ {b}, ow' b = some k → b ∈ adr (.node a hd ts) := fun {b} hb => by
                        obtain ⟨r', j', h1, h2, _, _, h5⟩ := owIn_some hb
                        rw [hk] at h1
                        cases h1
                        obtain ⟨fr', t', s', e1, e2, e3⟩ := h5
                        rw [hl] at e1
                        cases e1
                        rw [hg] at e2
                        cases e2
                        exact e3
                      have free : ∀ b ∈ adr t, b ∉ adr (.node a hd ts) → ow' b = none := fun b hb hnb => by
                        cases q : ow' b with
                        | none => rfl
                        | some k' =>
                          obtain ⟨r', j', h1, h2, h3, _⟩ := owIn_some q
                          rw [t3 b hb] at h3
                          cases h3
                          have ek := nodup_idx hn h1 h2 hk rfl
                          subst ek
                          exact absurd (hin q) hnb
                      have cases_u : ∀ b ∈ adr u, b ∈ adr (.node a hd ts) ∨ H1 b = none := fun b hb => by
                        rcases u6 b hb with z | z
                        · exact .inr z
                        · exact .inl (hin z)
                      obtain ⟨n1, n2⟩ := adr_set pth t t2 hg u2 fun b hb => by
                        rcases cases_u b hb with z | z
                        · exact .inl z
                        · refine .inr fun m => ?_
                          obtain ⟨_, z2, hz⟩ := TOk.has t t1 b m
                          rw [z] at hz
                          cases hz
                      refine ⟨w, rfl, tok_set F2.ex pth t t1 t2 hg (fun w' hw' => ?_) (fun b hb hnb hG o hH => ?_), n1, fun b hb => ?_, fun hfr b hb => ?_, fun hfr => ⟨(t5 hfr).1, fun b hb => ?_⟩⟩
                      · rw [TOk] at hw'
                        rw [hw'.1]
                        exact u1
                      · obtain ⟨z1, z2, z3⟩ := keep hH (free b hb hnb)
                        exact ⟨z3 hG, z1⟩
                      · rcases n2 b hb with z | ⟨z, znb⟩
                        · rw [out1 (u3 b z) hk]
                          rfl
                        · obtain ⟨_, o, hH⟩ := TOk.has t t1 b z
                          obtain ⟨z1, z2, z3⟩ := keep hH (free b z znb)
                          rw [out0 hH z2 (free b z znb)]
                          exact t3 b z
                      · rcases n2 b hb with z | ⟨z, _⟩
                        · rcases cases_u b z with z | z
                          · exact t4 hfr b (get_adr pth t hg z)
                          · exact R1.dom b z
                        · exact t4 hfr b z
                      · rcases n2 b hb with z | ⟨z, _⟩
                        · rcases cases_u b z with z | z
                          · exact (t5 hfr).2 b (get_adr pth t hg z)
                          · exact .inl (R1.dom b z)
                        · exact (t5 hfr).2 b z
                    · simp [hg, hab] at hs0
            | _ => cases hb
          | _ => rw [hl] at hb; cases s <;> cases hb
        | _ => cases hri
      · rw [b1 i hm]
        refine (R1.sl i o ho).grow F2.ex fun p u z1 z2 z3 => ?_
        have hnp : ow' p = none := by
          cases q : ow' p with
          | none => rfl
          | some k =>
            obtain ⟨r, j, h1, h2, h3, _⟩ := owIn_some q
            rw [z1] at h3
            cases h3
            exact absurd (List.mem_filterMap.mpr ⟨r, List.mem_of_getElem? h1, h2⟩) hm
        obtain ⟨q1, q2, q3⟩ := keep z3 hnp
        exact ⟨by rw [out0 z3 q2 hnp]; exact z1, q3 z2, q1⟩
    · have fresh : ∀ {p}, H1 p = none → ow' p = none := fun {p} h => by
        cases q : ow' p with
        | none => rfl
        | some k =>
          obtain ⟨_, _, _, _, _, h4, _⟩ := owIn_some q
          exact absurd h h4
      have out2 : ∀ {p}, H1 p = none → ow2 p = none → owOut H1 ow1 ow' ow2 rs p = none := fun {p} h1 h2 => by
        unfold owOut
        rw [h2]
        simp only [fresh h1]
        rw [if_pos h1]
      cases r with
      | d x => exact hv
      | v x => exact hv
      | bp _ _ _ => exact hv
      | ex _ => exact hv
      | bor i => exact nomatch (show ([] : L2.St)[i]? = some (some v) from hv)
      | new xs =>
        obtain ⟨p, us, e, h1, h2, h3, h4, h5⟩ := hv
        exact ⟨p, us, e, hd p h1, out2 h1 h2, h3, h4, h5⟩
      | dk kvs =>
        obtain ⟨p, us, e, h1, h2, h3, h4, h5⟩ := hv
        exact ⟨p, us, e, hd p h1, out2 h1 h2, h3, h4, h5⟩
      | nt t => exact ⟨hv.1, hv.2.1, fun a ha => ⟨hd a (hv.2.2 a ha).1, out2 (hv.2.2 a ha).1 (hv.2.2 a ha).2⟩⟩
end DL

/-! DL5: calls and exceptions. -/
namespace DL
open PySem PySem.Spec PyProof.Rows L2
/-! ### arguments, each frozen or handed in -/
def frzX (ε : Ep) : Vl → Option (Vl × Ep)
  | .ex nm => some (.ex nm, ε)
  | r => match frz ε r with
    | some (x, ε') => some (.d x, ε')
    | none => none
def dmF (t : TD) (u : TDA) : TDA := fun ε A => t ε fun r ε1 => match frzX ε1 r with
  | some (r', ε2) => u ε2 fun rs ε3 => A (r' :: rs) ε3
  | none => False
section
variable {X : Cx} {e : Expr} {es : List Expr} {t : TD} {u : TDA}
theorem frzX_ok {K : PySem.W.Frag} {c : Ct} {Gs Hs G H : Hp} {ows ow : Ow} {σ : L2.St} {ε ε' : Ep} {r r' : Vl} {v : V} (F : Fr Gs Hs ows G H ow) (R : Rep K c G H ow σ ε) (h : VOk K Hs G H ow σ r v) (e : frzX ε r = some (r', ε')) : ∃ G', Fr Gs Hs ows G' H ow ∧ Rep K c G' H ow σ ε' ∧ VOk K Hs G' H ow σ r' v := by
  have gen : ∀ r, (match frz ε r with
    | some (x, ε') => some (Vl.d x, ε')
    | none => none) = some (r', ε') → VOk K Hs G H ow σ r v → ∃ G', Fr Gs Hs ows G' H ow ∧ Rep K c G' H ow σ ε' ∧ VOk K Hs G' H ow σ r' v := fun r e h => by
    cases q : frz ε r with
    | none => rw [q] at e; cases e
    | some z =>
      obtain ⟨x, ε2⟩ := z
      rw [q] at e
      cases e
      obtain ⟨G', F', _, R', d⟩ := frz_ok F R h q
      exact ⟨G', F', R', d⟩
  cases r with
  | ex nm =>
    cases e
    exact ⟨G, F, R, h⟩
  | d x => exact gen (.d x) e h
  | new x => exact gen (.new x) e h
  | dk x => exact gen (.dk x) e h
  | bor x => exact gen (.bor x) e h
  | v x => exact gen (.v x) e h
  | nt x => exact gen (.nt x) e h
  | bp i p a => exact gen (.bp i p a) e h
theorem da_consF (he : DV X e t) (ha : DA X es u) (hs : starEach (e :: es) X.env = (false, eval e X.env) :: starEach es X.env := by rfl) : DA X (e :: es) (dmF t u) :=
  ⟨fun pos pins s σ H Q I q => (pa_cons he ha hs).run pos pins s σ H Q I (by
    obtain ⟨c, G, ow, ε, A, R, h, kk⟩ := q
    refine ⟨c, G, ow, ε, _, R, h, fun r ε1 G1 H1 ow1 v h1 F1 R1 V1 => ?_⟩
    cases q : frzX ε1 r with
    | none => simp only [q] at h1
    | some z =>
      obtain ⟨r', ε2⟩ := z
      simp only [q] at h1
      obtain ⟨G2, F2, R2, V2⟩ := frzX_ok F1 R1 V1 q
      refine ⟨c, G2, ow1, ε2, _, R2, h1, fun rs ε3 G3 H3 ow3 vs h3 F3 R3 V3 => ?_⟩
      exact kk _ ε3 G3 H3 ow3 (v :: vs) h3 (F2.trans F3) R3 ⟨v, vs, rfl, V2.fr F3, V3.since F2.dom⟩)⟩
end
/-! ### a call -/
def dCallM (S : DSp) (t : TDA) : TD := fun ε A => t ε fun rs ε1 => onO (parAll ε1 rs) fun ps => (rs.filterMap slotOf).Nodup ∧ runS S ps fun r ps' => onO (bkAll ε1 rs ps') fun ε2 => A r ε2
theorem dcallM_rd {K : PySem.W.Frag} {n : Nat} {S : DSp} {t : TDA} {σ : L2.St} {H : Hp} {Q : VK} {E : XK} (hS : ∀ ps A, S ps A → ps.length = n) (h : rdV K (dCallM S t) σ H Q) : tCall (spD K n S) [] E (rdA K t) σ H Q := by
  obtain ⟨c, G, ow, ε, A, R, h, kk⟩ := h
  refine ⟨c, G, ow, ε, _, R, h, fun rs ε1 G1 H1 ow1 vs h1 F1 R1 V1 => ?_⟩
  show spD K n S (vs ++ []) H1 Q E
  rw [List.append_nil]
  obtain ⟨ps, hps, hn, h1⟩ := onO_get h1
  obtain ⟨par, ow', Rc, hpar, hl, back⟩ := callM_core R1 V1 hps hn
  refine ⟨⟨H1, ow', par⟩, G1, ow', ps, _, rfl, Rc, hS _ _ h1, hpar, h1, fun r ps' v G2 H2 ow2 q F2 R2 V2 => ?_⟩
  obtain ⟨ε2, hb, q⟩ := onO_get q
  obtain ⟨ow3, F3, R3, V3⟩ := back G2 H2 ow2 ps' ε2 F2 R2 hb
  exact kk r ε2 G2 H2 ow3 v q (F1.trans F3) R3 (V3 r v V2 H F1.dom)
section
variable {X : Cx} {k n : Nat} {f : Addr} {fd : FuncData} {ps : List Str} {S : DSp} {x : Str} {p pos : Pos} {e : Expr} {es : List Expr} {t : TDA}
theorem dv_callM (F : FnOk X.prog X.w X.K X.mg X.base CX0 k f fd ps (spD X.K n S)) (hS : ∀ ps A, S ps A → ps.length = n) (hr : Room k X.A) (hg : Gl X x) (hm : X.mg x = some (.ref f)) (hk : PySem.W.keepIn X.K (.ref f) = true) (hb : Binds X.K fd ps [])
    (ha : DA X (e :: es) t) (hdb : (x == ("__debug__" : Str)) = false := by decide) (he : starEach (e :: es) X.env = (false, eval e X.env) :: starEach es X.env := by rfl) (hpl : (backTo pos (starEach es X.env)).any (·.1) = false := by rfl) :
    DV X (.Call (.Name x p) (e :: es) [] pos) (dCallM S t) := pe_w (pe_call F hr hg hm hk hb .nil pass0 ha hdb he hpl) fun _ _ _ h => dcallM_rd (E := E0) hS h
theorem dv_callM0 (F : FnOk X.prog X.w X.K X.mg X.base CX0 k f fd ps (spD X.K n S)) (hS : ∀ ps A, S ps A → ps.length = n) (hr : Room k X.A) (hg : Gl X x) (hm : X.mg x = some (.ref f)) (hk : PySem.W.keepIn X.K (.ref f) = true) (hb : Binds X.K fd ps [])
    (hdb : (x == ("__debug__" : Str)) = false := by decide) : DV X (.Call (.Name x p) [] [] pos) (dCallM S daNil) := pe_w (pe_call0 F hr hg hm hk hb .nil pass0 hdb) fun σ H Q h => by
  refine dcallM_rd (E := E0) hS h |> fun q => ?_
  obtain ⟨c, G, ow, ε, A, R, h, kk⟩ := h
  have q : rdA X.K daNil σ H fun vs H1 => spD X.K n S (vs ++ []) H1 Q E0 := q
  obtain ⟨c, G, ow, ε, A, R, h, kk⟩ := q
  exact kk [] ε G H ow [] h (Fr.refl _ _ _) R rfl
end
/-! ### a def that may raise -/
abbrev DSpX := List Sl → (Vl → List Sl → Prop) → (Str → List Sl → Prop) → Prop
def runX (S : DSpX) (qs : List Sl) (k : Vl → List Sl → Prop) (x : Str → List Sl → Prop) : Prop := S qs k x
def spDX (K : PySem.W.Frag) (n : Nat) (S : DSpX) : Sp := fun vs H Q E => ∃ (c : Ct) (G : Hp) (ow : Ow) (ps : List Sl) (A : Vl → List Sl → Prop) (B : Str → List Sl → Prop), c.H0 = H ∧ Rep K c G H ow (vs.map some) ps ∧ ps.length = n ∧ (∀ i p, c.par i = some p → vs[i]? = some (.ref p)) ∧ S ps A B ∧
  (∀ r ps' v G' H' ow', A r ps' → Fr G H ow G' H' ow' → Rep K c G' H' ow' (vs.map some) ps' → VOk K H G' H' ow' [] r v → Q v H') ∧
  (∀ nm ps' G' H' ow', B nm ps' → Fr G H ow G' H' ow' → Rep K c G' H' ow' (vs.map some) ps' → ∀ C : Addr, PySem.W.nsIn K mainGlobals nm = some (some (.ref C)) → E (.ref C) none H')
def ownSpX (n m : Nat) (t : TDS) : DSpX := fun qs A B => qs.length = n ∧ t { nx := fun ε => A (.d .none) (fin n ε), rt := fun r ε => A r (fin n ε), xc := fun nm ε => B nm (fin n ε) } (qs ++ uns m)
theorem ownSpX_len {n m : Nat} {t : TDS} (qs : List Sl) (A B) (h : ownSpX n m t qs A B) : qs.length = n := h.1
section
variable {P : Program} {w : World} {K : PySem.W.Frag} {mg : Str → Option Value} {base : Heap}
theorem FnOkX_no {CX : CXT} {k n : Nat} {f : Addr} {fd : FuncData} {ps : List Str} (_ : ps.length = n) : FnOk P w K mg base CX k f fd ps (spDX K n fun _ _ _ => False) :=
  ⟨fun _ _ _ _ ⟨_, _, _, _, _, _, _, _, _, _, h, _⟩ => h.elim, fun _ _ _ _ _ _ _ _ _ _ _ _ _ ⟨_, _, _, _, _, _, _, _, _, _, h, _⟩ => h.elim⟩
theorem fnDX {x qual : Str} {st : Stmt} {f : Addr} {fd : FuncData} {N ps : List Str} {k n : Nat} {S : DSpX} (F : Fun K x qual st f fd) (sc : FnScope N ps (defScope st)) (hn : ps.length = n) (t : TDS)
    (hbody : ∀ (cdv : Value) (A : Around) (outer : List Env) (s : Shared) (H : Hp) (E : XK), Room k (A.deeper (envOfC qual (defScope st) s.heap.objs.size f cdv)) → Takes (cxOf (L2.CX P w) P w K mg base N qual (defScope st) f cdv A outer s H E) (fun cls d _ H => E cls d H) → DSs (cxOf (L2.CX P w) P w K mg base N qual (defScope st) f cdv A outer s H E) (fun cls d _ H => E cls d H) (defBody st) t)
    (h : ∀ (qs : List Sl) (A : Vl → List Sl → Prop) (B : Str → List Sl → Prop), qs.length = n → S qs A B → t { nx := fun ε => A (.d .none) (fin n ε), rt := fun r ε => A r (fin n ε), xc := fun nm ε => B nm (fin n ε) } (qs ++ uns (N.length - n))) : FnOk P w K mg base (L2.CX P w) (k + 1) f fd ps (spDX K n S) := by
  have hNl : n ≤ N.length := by
    have := congrArg List.length sc.pre
    rw [List.length_take] at this
    omega
  have vl : ∀ {c : Ct} {G H : Hp} {ow : Ow} {vs : List V} {qs : List Sl}, Rep K c G H ow (vs.map some) qs → qs.length = n → vs.length = n := fun {c G H ow vs qs} R e => by
    have := R.len
    rw [List.length_map] at this
    omega
  refine F.okX sc (fun vs H Q E q => ?_) (fun cdv A outer s H vs Q E hr q => ?_)
  · obtain ⟨c, G, ow, qs, B, Bx, e, R, hl, hp, hS, kk, kx⟩ := q
    exact (vl R hl).trans hn.symm
  · obtain ⟨c, G, ow, qs, B, Bx, e, R, hl, hp, hS, kk, kx⟩ := q
    have hv := vl R hl
    have R1 := rep_start (N := N) R (by rw [hv]; exact hNl)
    rw [hv] at R1
    refine ⟨_, hbody cdv A outer s H E hr (takes_of rfl rfl rfl rfl), c, G, ow, _, _, R1, h qs B Bx hl hS, fun ε' σ' G' H' ow' z F1 R2 => kk _ _ .non G' H' ow' z F1 (rep_end hv hp R2) .non,
      fun r ε' σ' G' H' ow' v z F1 R2 V2 => kk _ _ v G' H' ow' z F1 (rep_end hv hp R2) (by rw [e] at V2; exact V2), fun ε' σ' G' H' ow' z F1 R2 => z.elim, fun ε' σ' G' H' ow' z F1 R2 => z.elim, fun nm ε' σ' G' H' ow' z F1 R2 C hC => kx nm _ G' H' ow' z F1 (rep_end hv hp R2) C hC⟩
end
/-! ### raise -/
def sRaise (nm : Str) : TDS := fun A ε => A.xc nm ε
/-- what the module's class nm must say, so that it can be raised by raise nm('..') -/
structure ExRs (K : PySem.W.Frag) (mg : Str → Option Value) (nm : Str) : Prop where
  is : ∃ C : Addr, PySem.W.nsIn K mainGlobals nm = some (some (.ref C)) ∧ mg nm = some (.ref C) ∧ PySem.W.excIn K C [.type "ValueError", .type "Exception", .type "BaseException", .type "object"] "ValueError.__new__" = true ∧ PySem.W.keepIn K (.ref C) = true ∧
    PySem.W.subIn K (.ref C) (.type "BaseException") = some true ∧ PySem.W.typeIn K (.ref C) = some (.type "type")
theorem ds_raise {X : Cx} {W : WX} {x m : Str} {j : Nat} {p p2 pos pos' : Pos} (hc : X.calm = true) (tk : Takes X W) (E : ExRs X.K X.mg x) (hg : Gl X x) (hdb : (x == ("__debug__" : Str)) = false := by decide) :
    DS X W (.Raise (some (.Call (.Name x p) [.Constant (.str m) j p2] [] pos)) none pos') (sRaise x) := by
  obtain ⟨C, h1, h2, h3, h4, h5, h6⟩ := E.is
  exact ps_w (ps_raise hc tk (pmk_own PySem.F.excBase_ValueError h3 h2 h4 (raises_own h5 h6) hg hdb)) fun D σ H ⟨c, G, ow, ε, A, R, h, k1, k2, k3, k4, k5⟩ => k5 x ε σ G H ow h (Fr.refl _ _ _) R C h1
/-! ### calls that may raise -/
abbrev TDX := Ep → (Vl → Ep → Prop) → (Str → Ep → Prop) → Prop
def rdVX (K : PySem.W.Frag) (W : WX) (t : TDX) : TE := fun σ H Q => ∃ c G ow ε A B, Rep K c G H ow σ ε ∧ t ε A B ∧ (∀ r ε' G' H' ow' v, A r ε' → Fr G H ow G' H' ow' → Rep K c G' H' ow' σ ε' → VOk K H G' H' ow' σ r v → Q v H') ∧
  (∀ nm ε' G' H' ow', B nm ε' → Fr G H ow G' H' ow' → Rep K c G' H' ow' σ ε' → XW K W nm σ H')
abbrev DVX (X : Cx) (W : WX) (e : Expr) (t : TDX) : Prop := PE X e (rdVX X.K W t)
def dCallX (S : DSpX) (t : TDA) : TDX := fun ε A B => t ε fun rs ε1 => onO (parAll ε1 rs) fun ps => (rs.filterMap slotOf).Nodup ∧ runX S ps (fun r ps' => onO (bkAll ε1 rs ps') fun ε2 => A r ε2) fun nm ps' => onO (bkAll ε1 rs ps') fun ε2 => B nm ε2
section
variable {X : Cx} {W : WX} {k n : Nat} {f : Addr} {fd : FuncData} {ps : List Str} {S : DSpX} {x : Str} {p pos : Pos} {e : Expr} {es : List Expr} {t : TDA}
theorem dv_callX (tk : Takes X W) (F : FnOk X.prog X.w X.K X.mg X.base (L2.CX X.prog X.w) k f fd ps (spDX X.K n S)) (hS : ∀ ps A B, S ps A B → ps.length = n) (hr : Room k X.A) (hg : Gl X x) (hm : X.mg x = some (.ref f)) (hk : PySem.W.keepIn X.K (.ref f) = true) (hb : Binds X.K fd ps [])
    (ha : DA X (e :: es) t) (hdb : (x == ("__debug__" : Str)) = false := by decide) (he : starEach (e :: es) X.env = (false, eval e X.env) :: starEach es X.env := by rfl) (hpl : (backTo pos (starEach es X.env)).any (·.1) = false := by rfl) :
    DVX X W (.Call (.Name x p) (e :: es) [] pos) (dCallX S t) := pe_w (pe_callS F hr hg hm hk hb (fun σ => passAt tk σ) ha hdb he hpl) fun σ H Q ⟨c, G, ow, ε, A, B, R, h, k1, k2⟩ => ⟨c, G, ow, ε, _, R, h, fun rs ε1 G1 H1 ow1 vs h1 F1 R1 V1 => by
      obtain ⟨ps, hps, hn, h1⟩ := onO_get h1
      obtain ⟨par, ow', Rc, hpar, hl, back⟩ := callM_core R1 V1 hps hn
      refine ⟨⟨H1, ow', par⟩, G1, ow', ps, _, _, rfl, Rc, hS _ _ _ h1, hpar, h1, fun r ps' v G2 H2 ow2 q F2 R2 V2 => ?_, fun nm ps' G2 H2 ow2 q F2 R2 C hC => ?_⟩
      · obtain ⟨ε2, hb, q⟩ := onO_get q
        obtain ⟨ow3, F3, R3, V3⟩ := back G2 H2 ow2 ps' ε2 F2 R2 hb
        exact k1 r ε2 G2 H2 ow3 v q (F1.trans F3) R3 (V3 r v V2 H F1.dom)
      · obtain ⟨ε2, hb, q⟩ := onO_get q
        obtain ⟨ow3, F3, R3, V3⟩ := back G2 H2 ow2 ps' ε2 F2 R2 hb
        exact k2 nm ε2 G2 H2 ow3 q (F1.trans F3) R3 C hC⟩
def sExprX (t : TDX) : TDS := fun A ε => t ε (fun _ ε1 => A.nx ε1) A.xc
def sRetX (t : TDX) : TDS := fun A ε => t ε (fun r ε1 => match unbor ε1 r with
  | some (r', ε2) => A.rt r' ε2
  | none => False) A.xc
def sSetX (i : Nat) (t : TDX) : TDS := fun A ε => t ε (fun r ε1 => match slOf ε1 r with
  | some (s, ε2) => A.nx (put ε2 i s)
  | none => False) A.xc
variable {te : TDX}
theorem ds_exprX (he : DVX X W e te) (hs : swapsWith e none pos.line X.env = pure false := by rfl) : DS X W (.Expr e pos) (sExprX te) := ps_w (ps_expr he hs) fun D σ H ⟨c, G, ow, ε, A, R, h, k1, k2, k3, k4, k5⟩ =>
  ⟨c, G, ow, ε, _, _, R, h, fun r ε1 G1 H1 ow1 v h1 F1 R1 V1 => k1 ε1 σ G1 H1 ow1 h1 F1 R1, fun nm ε1 G1 H1 ow1 h1 F1 R1 => k5 nm ε1 σ G1 H1 ow1 h1 F1 R1⟩
theorem ds_retX (he : DVX X W e te) : DS X W (.Return (some e) pos) (sRetX te) := ps_w (ps_ret he) fun D σ H ⟨c, G, ow, ε, A, R, h, k1, k2, k3, k4, k5⟩ =>
  ⟨c, G, ow, ε, _, _, R, h, fun r ε1 G1 H1 ow1 v h1 F1 R1 V1 => by
    cases q : unbor ε1 r with
    | none => simp only [q] at h1
    | some z =>
      obtain ⟨r', ε2⟩ := z
      simp only [q] at h1
      obtain ⟨ow2, F2, R2, V2⟩ := unbor_ok R.dom F1 R1 V1 q
      exact k2 r' ε2 σ G1 H1 ow2 v h1 F2 R2 V2, fun nm ε1 G1 H1 ow1 h1 F1 R1 => k5 nm ε1 σ G1 H1 ow1 h1 F1 R1⟩
theorem ds_setX {i : Nat} {y : Str} {py : Pos} (hN : X.N.Nodup) (hi : X.N[i]? = some y) (hx : Loc X.env.scope y) (he : DVX X W e te) (hs : swapsWith e (some (.Name y py)) pos.line X.env = pure false := by rfl) (hf : X.fn y = true ∨ X.env.scope.names.lookup y = some .local := by first | exact .inl rfl | exact .inr rfl | assumption) :
    DS X W (.Assign [.Name y py] e pos) (sSetX i te) := ps_wl (ps_set hN hi hx he hs hf) fun D σ H hlen ⟨c, G, ow, ε, A, R, h, k1, k2, k3, k4, k5⟩ => ⟨c, G, ow, ε, _, _, R, h, fun r ε1 G1 H1 ow1 v h1 F1 R1 V1 => by
    cases q : slOf ε1 r with
    | none => simp only [q] at h1
    | some z =>
      obtain ⟨s, ε2⟩ := z
      simp only [q] at h1
      obtain ⟨G2, ow2, F2, R2⟩ := store_sl F1 R.dom R1 V1 (by rw [← R1.len, hlen]; exact (List.getElem?_eq_some_iff.mp hi).1) q
      exact k1 _ _ G2 H1 ow2 h1 F2 R2, fun nm ε1 G1 H1 ow1 h1 F1 R1 => k5 nm ε1 σ G1 H1 ow1 h1 F1 R1⟩
end
/-! ### try .. except C as n: y = n -/
/-- what a clause except x catches -/
structure ExCt (K : PySem.W.Frag) (mg : Str → Option Value) (x : Str) (f : Str → Option Bool) : Prop where
  is : ∃ cv : Value, mg x = some cv ∧ ∀ nm b, f nm = some b → ∀ C : Addr, PySem.W.nsIn K mainGlobals nm = some (some (.ref C)) → PySem.W.exmOne K (.ref C) cv = some b
def sTry (tb : TDS) (i j : Nat) (f : Str → Option Bool) : TDS := fun A ε => tb { nx := A.nx, rt := A.rt, bk := A.bk, ct := A.ct, xc := fun nm ε1 => onO (f nm) fun b => onB b (A.nx (put (put ε1 j (.ex nm)) i .un)) (A.xc nm ε1) } ε
section
variable {X : Cx} {W : WX}
theorem rep_un {K : PySem.W.Frag} {c : Ct} {G H : Hp} {ow : Ow} {σ : L2.St} {ε : Ep} {i : Nat} (R : Rep K c G H ow σ ε) (o : Option V) : Rep K c G H ow (σ.set i o) (put ε i .un) := by
  refine ⟨R.ex, R.dom, by rw [put_length, List.length_set]; exact R.len, fun j o' z => ?_⟩
  by_cases hj : j = i
  · subst hj
    by_cases hi : j < ε.length
    · rw [look_put_self hi]
      trivial
    · rw [look_out (by rw [put_length]; omega)]
      trivial
  · rw [look_put_ne hj]
    rw [List.getElem?_set_ne (fun e => hj e.symm)] at z
    exact R.sl j o' z
theorem ds_try {x n y : Str} {i j : Nat} {body : List Stmt} {np pn py pa pos pos' : Pos} {tb : TDS} {f : Str → Option Bool} (hs : X.stack = X.env :: X.outer) (hf : X.env.frame = some X.env.locals) (hex : X.ex = []) (hN : X.N.Nodup) (hi : X.N[i]? = some n) (hj : X.N[j]? = some y) (hij : j ≠ i) (hln : X.env.kindOf n = some .local) (hly : X.env.kindOf y = some .local)
    (hg : Gl X x) (hdb : (x == ("__debug__" : Str)) = false) (hc : ExCt X.K X.mg x f) (tk : Takes X W)
    (hb : ∀ (W : WX) (pn : List (Addr × Obj)) (xe : Value → Shared → Prop), Takes (X.tr pn xe) W → PassesOwn (model X.prog X.w) X.A X.env xe → DSs (X.tr pn xe) W body tb)
    (hsu : ∀ (a : Addr) (oe : Obj) (pn' : List (Addr × Obj)), PSs (X.suite a ((a, oe) :: pn')) [.Assign [.Name y py] (.Name n pn) pa] (tAsg (tVar i) (gName j))) :
    DS X W (.Try body [.ExceptHandler (some (.Name x np)) (some n) [.Assign [.Name y py] (.Name n pn) pa] pos'] [] [] pos) (sTry tb i j f) := by
  obtain ⟨cv, hmx, hcv⟩ := hc.is
  refine ps_wl (ps_try_keep (tb := fun W' => rdS X.K W' tb) (ts := fun _ _ => tAsg (tVar i) (gName j)) (c := cv) hs hf hN hi hln ⟨hg, hdb, .inl hmx⟩ tk hex (fun W' pn' xe tk' hp => hb W' pn' xe tk' hp) (fun a oe cls pn' _ _ => hsu a oe pn')) fun D σ H hlen ⟨c, G, ow, ε, A, R, h, k1, k2, k3, k4, k5⟩ => ?_
  refine ⟨c, G, ow, ε, _, R, h, k1, k2, k3, k4, fun nm ε1 σ1 G1 H1 ow1 h1 F1 R1 C hC => ?_⟩
  obtain ⟨b, hfb, h1⟩ := onO_get h1
  refine ⟨rfl, b, hcv nm b hfb C hC, fun hb' hl1 a ha => ?_, fun hb' => ?_⟩
  · subst hb'
    have hil : i < σ1.length := by rw [hl1]; exact (List.getElem?_eq_some_iff.mp hi).1
    have hjl : j < σ1.length := by rw [hl1]; exact (List.getElem?_eq_some_iff.mp hj).1
    refine ⟨.ref a, List.getElem?_set_self hil, ?_⟩
    show H1 a = none → D.nx (((σ1.set i (some (.ref a))).set j (some (.ref a))).set i none) (upd H1 a (ExC (.ref C) a))
    intro _
    obtain ⟨F2, R2⟩ := grow_frz (o := ExC (.ref C) a) R1 ha
    have e1 : ((σ1.set i (some (.ref a))).set j (some (.ref a))).set i none = (σ1.set j (some (.ref a))).set i none := by
      rw [List.set_comm _ _ (Ne.symm hij), List.set_set]
    rw [e1]
    have R3 : Rep X.K c (upd G1 a (ExC (.ref C) a)) (upd H1 a (ExC (.ref C) a)) ow1 (σ1.set j (some (.ref a))) (put ε1 j (.ex nm)) := rep_put R2 (by rw [← R1.len]; exact hjl) ⟨.ref a, rfl, a, C, rfl, hC, upd_same⟩
    exact k1 _ _ _ _ _ h1 (F1.trans F2) (rep_un R3 none)
  · subst hb'
    exact k5 nm ε1 σ1 G1 H1 ow1 h1 F1 R1 C hC
end
end DL
namespace DL
open PySem PySem.Spec PyProof.Rows L2
/-! ### isinstance of an exception; is None of a thing that may be one -/
def rIsX (K : PySem.W.Frag) : List V → Hp → VK → Prop := fun xs H Q => ∃ (a C : Addr) (c : V) (cv : Value) (b : Bool), xs = [.ref a, c] ∧ H a = some (ExC (.ref C) a) ∧ ExcC K C ∧ (∀ u, RelV c u → u = cv) ∧ PySem.W.kitOne K (.ref C) cv = some b ∧ Q (.bl b) H
theorem call_isX {X : Cx} : CallR X (.builtin "isinstance") (rIsX X.K) := by
  intro pins s σ H xs us Q I r h
  obtain ⟨a, D, c, cv, b, rfl, hH, C, hcv, e, q⟩ := h
  obtain ⟨u1, u2, rfl, rx, rt⟩ : ∃ u1 u2, us = [u1, u2] ∧ RelV (.ref a) u1 ∧ RelV c u2 := by
    cases r with
    | cons rx rr => cases rr with
      | cons rt rr => cases rr; exact ⟨_, _, rfl, rx, rt⟩
  cases rx
  cases hcv _ rt
  obtain ⟨⟨oe, vs, hget, ⟨h1, h2⟩, hv⟩, _, _⟩ := I.hok a _ hH
  have J : PySem.W.InstAt s.heap a oe D none := by
    obtain ⟨oc, od, oda, osl⟩ := oe
    dsimp only at h1 h2 hv
    subst h1 h2 hv
    exact ⟨hget, rfl, rfl, trivial⟩
  exact PySem.W.kia_one (PySem.W.handS_kitx_exc C.hg C.hk C.hs C.hd C.ha C.hn C.ht C.hm) I.kIn J e (fun z => nomatch z) fun tk => ⟨.bl b, H, I.kept (t' := tk) fun _ _ z => z, rfl, q⟩
/-- what isinstance with the value cv answers of exceptions -/
structure ExTy (K : PySem.W.Frag) (cv : Value) (f : Str → Option Bool) : Prop where
  is : ∀ nm b, f nm = some b → ∀ C : Addr, PySem.W.nsIn K mainGlobals nm = some (some (.ref C)) → ExcC K C ∧ PySem.W.kitOne K (.ref C) cv = some b
structure ExIs (K : PySem.W.Frag) (mg : Str → Option Value) (x : Str) (f : Str → Option Bool) : Prop where
  is : ∃ D : Addr, mg x = some (.ref D) ∧ ExTy K (.ref D) f
def dIsx (t : TD) (f : Str → Option Bool) : TD := fun ε A => t ε fun r ε1 => match r with
  | .ex nm => onO (f nm) fun b => A (.d (.bool b)) ε1
  | _ => False
section
variable {X : Cx} {e : Expr} {t : TD} {p pos pT : Pos} {x : Str} {f : Str → Option Bool}
theorem isx_rd {K : PySem.W.Frag} {c : V} {cv : Value} {σ : L2.St} {H : Hp} {Q : VK} (T : ExTy K cv f) (hcv : ∀ u, RelV c u → u = cv) (h : rdV K (dIsx t f) σ H Q) : rdV K t σ H fun v H1 => rIsX K [v, c] H1 Q := by
  obtain ⟨c', G, ow, ε, A, R, h, kk⟩ := h
  refine ⟨c', G, ow, ε, _, R, h, fun r ε1 G1 H1 ow1 v h1 F1 R1 V1 => ?_⟩
  cases r with
  | ex nm =>
    obtain ⟨b, hb, h1⟩ := onO_get h1
    obtain ⟨a, C, rfl, hC, hG⟩ := V1
    obtain ⟨q1, q2⟩ := T.is nm b hb C hC
    exact ⟨a, C, c, cv, b, rfl, R1.ex _ _ hG, q1, hcv, q2, kk _ ε1 G1 H1 ow1 (.bl b) h1 F1 R1 (.bl b)⟩
  | _ => exact h1.elim
theorem dv_isx (he : DV X e t) (hg : Gl X "isinstance") (hm : X.mg "isinstance" = none) (hv : bootBuiltins "isinstance" = some (.builtin "isinstance")) (hgT : Gl X x) (T : ExIs X.K X.mg x f) (hdT : (x == ("__debug__" : Str)) = false := by decide)
    (hs : starEach [e, .Name x pT] X.env = (false, eval e X.env) :: starEach [.Name x pT] X.env := by rfl) (hs2 : starEach [.Name x pT] X.env = (false, eval (.Name x pT) X.env) :: starEach [] X.env := by rfl) (hp : (backTo pos (starEach [.Name x pT] X.env)).any (·.1) = false := by rfl) :
    DV X (.Call (.Name "isinstance" p) [e, .Name x pT] [] pos) (dIsx t f) := by
  obtain ⟨D, hD, T⟩ := T.is
  exact pe_w (pe_callB call_isX hg hm hv (pa_cons he (pa_cons (pe_glob hgT hD (v := .ref D) rfl hdT) pa_nil hs2) hs) (by decide) (by decide) hs hp) fun σ H Q h => isx_rd (c := .ref D) T (fun u r => r) h
theorem dv_isxB {Tn : String} (he : DV X e t) (hg : Gl X "isinstance") (hm : X.mg "isinstance" = none) (hv : bootBuiltins "isinstance" = some (.builtin "isinstance")) (hgT : Gl X x) (hmT : X.mg x = none) (hvT : bootBuiltins x = some (.type Tn)) (T : ExTy X.K (.type Tn) f) (hnT : x ≠ "__name__" := by decide) (hdT : (x == ("__debug__" : Str)) = false := by decide)
    (hs : starEach [e, .Name x pT] X.env = (false, eval e X.env) :: starEach [.Name x pT] X.env := by rfl) (hs2 : starEach [.Name x pT] X.env = (false, eval (.Name x pT) X.env) :: starEach [] X.env := by rfl) (hp : (backTo pos (starEach [.Name x pT] X.env)).any (·.1) = false := by rfl) :
    DV X (.Call (.Name "isinstance" p) [e, .Name x pT] [] pos) (dIsx t f) :=
  pe_w (pe_callB call_isX hg hm hv (pa_cons he (pa_cons (pe_bltn hgT hmT hvT (v := .ty Tn) rfl hnT hdT) pa_nil hs2) hs) (by decide) (by decide) hs hp) fun σ H Q h => isx_rd (c := .ty Tn) T (fun u r => r) h
end
def isNx (neg : Bool) (ε : Ep) : Vl → Option Bool
  | .ex _ => some neg
  | .d x => some (if neg then !isN x else isN x)
  | .new _ => some neg
  | .bor i => match look ε i with
    | .lst _ _ => some neg
    | .dct _ _ => some neg
    | _ => none
  | _ => none
def dIsNx (neg : Bool) (t : TD) : TD := fun ε A => t ε fun r ε1 => onO (isNx neg ε1 r) fun b => A (.d (.bool b)) ε1
theorem isnx_ok {K : PySem.W.Frag} {c : Ct} {Hs G H : Hp} {ow : Ow} {σ : L2.St} {ε : Ep} {r : Vl} {v : V} {neg b : Bool} (R : Rep K c G H ow σ ε) (V1 : VOk K Hs G H ow σ r v) (h : isNx neg ε r = some b) : (if neg then !decide (v = .non) else decide (v = .non)) = b := by
  have ref : ∀ a : Addr, v = .ref a → some neg = some b → (if neg then !decide (v = .non) else decide (v = .non)) = b := fun a e h => by
    subst e
    cases h
    cases neg <;> rfl
  cases r with
  | ex nm =>
    obtain ⟨a, C, e, _⟩ := V1
    exact ref a e h
  | d x =>
    have e := isN_ok (.inl V1 : Pk K G H v x)
    rw [e]
    exact Option.some.inj h
  | new xs =>
    obtain ⟨p, _, e, _⟩ := V1
    exact ref p e h
  | bor i =>
    have V1 : σ[i]? = some (some v) := V1
    have q := R.at V1
    cases hl : look ε i with
    | lst fr xs =>
      rw [hl] at q
      obtain ⟨p, _, e, _⟩ := q
      cases e
      simp only [isNx, hl] at h
      exact ref p rfl h
    | dct fr xs =>
      rw [hl] at q
      obtain ⟨p, _, e, _⟩ := q
      cases e
      simp only [isNx, hl] at h
      exact ref p rfl h
    | _ => simp [isNx, hl] at h
  | _ => cases h
theorem dv_isN {X : Cx} {e : Expr} {t : TD} {pos : Pos} {j : Nat} {p2 : Pos} (he : DV X e t) (hm : behindInMarks .Is (.Constant .none j p2) = false := by rfl) : DV X (.Compare e [.Is] [.Constant .none j p2] pos) (dIsNx false t) :=
  pe_w (pe_cmpR op_isN he pe_non hm) fun σ H Q ⟨c, G, ow, ε, A, R, h, kk⟩ => ⟨c, G, ow, ε, _, R, h, fun r ε1 G1 H1 ow1 v h1 F1 R1 V1 => by
    obtain ⟨b, hb, h1⟩ := onO_get h1
    refine ⟨rfl, ?_⟩
    rw [show decide (v = .non) = b from isnx_ok R1 V1 hb]
    exact kk _ ε1 G1 H1 ow1 (.bl b) h1 F1 R1 (.bl b)⟩
theorem dv_notN {X : Cx} {e : Expr} {t : TD} {pos : Pos} {j : Nat} {p2 : Pos} (he : DV X e t) (hm : behindInMarks .IsNot (.Constant .none j p2) = false := by rfl) : DV X (.Compare e [.IsNot] [.Constant .none j p2] pos) (dIsNx true t) :=
  pe_w (pe_cmpR op_notN he pe_non hm) fun σ H Q ⟨c, G, ow, ε, A, R, h, kk⟩ => ⟨c, G, ow, ε, _, R, h, fun r ε1 G1 H1 ow1 v h1 F1 R1 V1 => by
    obtain ⟨b, hb, h1⟩ := onO_get h1
    refine ⟨rfl, ?_⟩
    rw [show (!decide (v = .non)) = b from isnx_ok R1 V1 hb]
    exact kk _ ε1 G1 H1 ow1 (.bl b) h1 F1 R1 (.bl b)⟩
/-! ### steps -/
section
variable {A : Vl → Ep → Prop} {V : Vl → Prop} {ε : Ep} {t u v : TD} {o : Vl → Ep → Prop} {B : Str → Ep → Prop} {a : TDA} {C : List Vl → Ep → Prop} {S : DSp} {Sx : DSpX} {D : DEnds} {s : TDS} {tx : TDX} {nm : Str} {f : Str → Option Bool} {i j : Nat} {neg : Bool} {r : Vl} {rs : List Vl}
theorem ap_mF : ev (dmF t a ε C) = ev (t ε fun r ε1 => match frzX ε1 r with
  | some (r', ε2) => a ε2 fun rs ε3 => C (r' :: rs) ε3
  | none => False) := id rfl
theorem ap_callM : ev (dCallM S a ε A) = ev (a ε fun rs ε1 => onO (parAll ε1 rs) fun ps => (rs.filterMap slotOf).Nodup ∧ runS S ps fun r ps' => onO (bkAll ε1 rs ps') fun ε2 => A r ε2) := id rfl
theorem ap_callX : ev (dCallX Sx a ε A B) = ev (a ε fun rs ε1 => onO (parAll ε1 rs) fun ps => (rs.filterMap slotOf).Nodup ∧ runX Sx ps (fun r ps' => onO (bkAll ε1 rs ps') fun ε2 => A r ε2) fun nm ps' => onO (bkAll ε1 rs ps') fun ε2 => B nm ε2) := id rfl
theorem ap_raise : ev (sRaise nm D ε) = ev (D.xc nm ε) := id rfl
theorem ap_exprX : ev (sExprX tx D ε) = ev (tx ε (fun _ ε1 => D.nx ε1) D.xc) := id rfl
theorem ap_retX : ev (sRetX tx D ε) = ev (tx ε (fun r ε1 => match unbor ε1 r with
  | some (r', ε2) => D.rt r' ε2
  | none => False) D.xc) := id rfl
theorem ap_setX : ev (sSetX i tx D ε) = ev (tx ε (fun r ε1 => match slOf ε1 r with
  | some (s, ε2) => D.nx (put ε2 i s)
  | none => False) D.xc) := id rfl
theorem ap_try : ev (sTry s i j f D ε) = ev (s { nx := D.nx, rt := D.rt, bk := D.bk, ct := D.ct, xc := fun nm ε1 => onO (f nm) fun b => onB b (D.nx (put (put ε1 j (.ex nm)) i .un)) (D.xc nm ε1) } ε) := id rfl
theorem ap_isx : ev (dIsx t f ε A) = ev (t ε fun r ε1 => match r with
  | .ex nm => onO (f nm) fun b => A (.d (.bool b)) ε1
  | _ => False) := id rfl
theorem ap_isNx : ev (dIsNx neg t ε A) = ev (t ε fun r ε1 => onO (isNx neg ε1 r) fun b => A (.d (.bool b)) ε1) := id rfl
theorem nx_ex : isNx neg ε (.ex nm) = some neg := id rfl
theorem nx_new {xs : List PyData} : isNx neg ε (.new xs) = some neg := id rfl
theorem nx_d {x : PyData} : isNx neg ε (.d x) = some (if neg then !isN x else isN x) := id rfl
theorem fx_ex : frzX ε (.ex nm) = some (.ex nm, ε) := id rfl
theorem fx_d {x : PyData} : frzX ε (.d x) = some (.d x, ε) := id rfl
theorem fx_new {xs : List PyData} : frzX ε (.new xs) = some (.d (.list xs), ε) := id rfl
theorem fx_bor : frzX ε (.bor i) = match frz ε (.bor i) with
  | some (x, ε') => some (.d x, ε')
  | none => none := id rfl
theorem pa_nil : parAll ε [] = some [] := id rfl
theorem pa_cons : parAll ε (r :: rs) = match parS ε r, parAll ε rs with
  | some s, some ss => some (s :: ss)
  | _, _ => none := id rfl
theorem bk_nil {ss : List Sl} : bkAll ε [] ss = some ε := by cases ss <;> rfl
theorem bk_cons {s : Sl} {ss : List Sl} : bkAll ε (r :: rs) (s :: ss) = match slotOf r with
  | none => bkAll ε rs ss
  | some j => match bk1 r (look ε j) s with
    | some s' => bkAll (put ε j s') rs ss
    | none => none := by rw [bkAll] <;> cases slotOf r <;> rfl
theorem takes_noW {X : Cx} : Takes X noW := fun _ _ ⟨_, _, _, _, _, _, _, _, _, _, _, _, _, _, _, _, w⟩ => w.elim
end
end DL

/-! DL6: in, sorted, count over data; unpacking. -/
namespace DL
open PySem PySem.Spec PyProof.Rows L2
/-! ### in -/
def kInA (neg : Bool) : PyData → PyData → (Vl → Prop) → Prop := fun x y A => match y with
  | .list ys => shp x = true ∧ shp (.list ys) = true ∧ A (.d (.bool (if neg then !inD x ys else inD x ys)))
  | .tuple ys => shp x = true ∧ shp (.tuple ys) = true ∧ A (.d (.bool (if neg then !inD x ys else inD x ys)))
  | _ => False
def rInP (K : PySem.W.Frag) (neg : Bool) : R2 := fun x y H Q => ∃ d ds, Dd K H x d ∧ (Dd K H y (.list ds) ∨ Dd K H y (.tuple ds)) ∧ shp d = true ∧ shp (.list ds) = true ∧ Q (.bl (if neg then !inD d ds else inD d ds)) H
theorem shp_tl {ds : List PyData} : shp (.tuple ds) = shp (.list ds) := by
  simp [shp, PyData.plain, PyData.depth]
theorem shp_all {ds : List PyData} (h : shp (.list ds) = true) : PyData.plainAll ds = true := by
  have := shp_plain h
  simpa [PyData.plain] using this
theorem in_room {X : Cx} {d : PyData} {ds : List PyData} (hu : X.A.units + 64 < cLine) (h : shp d = true) : X.A.units + 1 + min (PyData.depthAll ds) d.depth < cLine := by
  unfold shp at h
  rw [Bool.and_eq_true] at h
  have := of_decide_eq_true h.2
  omega
theorem op_inP {X : Cx} (hu : X.A.units + 64 < cLine) : OpR X (compareOp .In) (rInP X.K false) := by
  intro pins s σ H x y v u Q I rx ry h
  obtain ⟨d, ds, hd, he, sd, se, q⟩ := h
  obtain ⟨as, r1⟩ := Dp.reads I d x v (hd.dpP d (shp_plain sd)) rx
  rcases he with he | he
  · obtain ⟨bs, r2⟩ := Dp.reads I _ y u (he.dpP _ (shp_plain se)) ry
    exact SeqAt.in_list_data r2 r1 (shp_all se) (shp_plain sd) (in_room hu sd) ⟨.bl _, H, I, rfl, q⟩
  · obtain ⟨bs, r2⟩ := Dp.reads I _ y u (he.dpP _ (shp_plain (by rw [shp_tl]; exact se))) ry
    exact SeqAt.in_tuple_data r2 r1 (shp_all se) (shp_plain sd) (in_room hu sd) ⟨.bl _, H, I, rfl, q⟩
theorem op_notInP {X : Cx} (hu : X.A.units + 64 < cLine) : OpR X (compareOp .NotIn) (rInP X.K true) := by
  intro pins s σ H x y v u Q I rx ry h
  obtain ⟨d, ds, hd, he, sd, se, q⟩ := h
  obtain ⟨as, r1⟩ := Dp.reads I d x v (hd.dpP d (shp_plain sd)) rx
  rcases he with he | he
  · obtain ⟨bs, r2⟩ := Dp.reads I _ y u (he.dpP _ (shp_plain se)) ry
    exact SeqAt.notIn_list_data r2 r1 (shp_all se) (shp_plain sd) (in_room hu sd) ⟨.bl _, H, I, rfl, q⟩
  · obtain ⟨bs, r2⟩ := Dp.reads I _ y u (he.dpP _ (shp_plain (by rw [shp_tl]; exact se))) ry
    exact SeqAt.notIn_tuple_data r2 r1 (shp_all se) (shp_plain sd) (in_room hu sd) ⟨.bl _, H, I, rfl, q⟩
theorem od_inA {K : PySem.W.Frag} (neg : Bool) : OpD K (rInP K neg) (kInA neg) := fun G H x y v1 v2 A Q e p1 p2 h k => by
  unfold kInA at h
  split at h
  · exact ⟨x, _, p1.dp e, .inl (p2.dp e), h.1, h.2.1, k _ _ _ h.2.2 (.val (.bl _))⟩
  · exact ⟨x, _, p1.dp e, .inr (p2.dp e), h.1, by rw [← shp_tl]; exact h.2.1, k _ _ _ h.2.2 (.val (.bl _))⟩
  · exact h.elim
/-! ### sorted -/
def sortD (xs : List PyData) : List PyData := xs.mergeSort (PySem.W.dataLe false id)
def rSortD (K : PySem.W.Frag) : List V → Hp → VK → Prop := fun vs H Q => ∃ (a : Addr) (xs : List V) (ds : List PyData) (P : V → PyData → Prop), vs = [V.ref a] ∧ SqL K H a xs ∧ Paired P xs ds ∧ (∀ v d, P v d → Dd K H v d) ∧ PySem.W.AllAlike ds ∧ PySem.W.Sortable ds ∧ shp (.list ds) = true ∧ ds.length ≤ 1000000 ∧
  ∀ ys p, Paired P ys (sortD ds) → H p = none → Q (.ref p) (upd H p (.lst ys))
def kSortD : List PyData → (Vl → Prop) → Prop := fun xs A => match xs with
  | [.list ds] => (PySem.W.AllAlike ds ∧ PySem.W.Sortable ds ∧ shp (.list ds) = true ∧ ds.length ≤ 1000000) ∧ A (.new (sortD ds))
  | _ => False
def RvD (P : V → PyData → Prop) : Value → PyData → Prop := fun u d => ∃ v, RelV v u ∧ P v d
theorem rvd_of {P : V → PyData → Prop} : ∀ {ds : List PyData} {xs : List V} {us : List Value}, Vals xs us → Paired P xs ds → PySem.W.EachIs (RvD P) us ds
  | [], xs, us, r, h => by cases h; cases r; exact .nil
  | d :: ds, xs, us, r, h => by
    cases h with
    | cons h1 h2 =>
      cases r with
      | cons r t => exact .cons ⟨_, r, h1⟩ (rvd_of t h2)
theorem of_rvd {P : V → PyData → Prop} : ∀ {us : List Value} {ds : List PyData}, PySem.W.EachIs (RvD P) us ds → ∃ xs, Vals xs us ∧ Paired P xs ds
  | _, _, .nil => ⟨[], .nil, .nil⟩
  | _, _, .cons ⟨v, r, h1⟩ t => by
    obtain ⟨xs, a, b⟩ := of_rvd t
    exact ⟨v :: xs, .cons r a, .cons h1 b⟩
theorem pd_of {K : PySem.W.Frag} {G : Hp} : ∀ {ds : List PyData} {vs : List V}, DdAll K G vs ds → Paired (Dd K G) vs ds
  | [], _, h => by cases h; exact .nil
  | d :: ds, _, h => by
    cases h with
    | cons h1 h2 => exact .cons h1 (pd_of h2)
theorem of_pd {K : PySem.W.Frag} {G : Hp} : ∀ {ds : List PyData} {vs : List V}, Paired (Dd K G) vs ds → DdAll K G vs ds
  | [], _, h => by cases h; exact .nil
  | d :: ds, _, h => by
    cases h with
    | cons h1 h2 => exact .cons h1 (of_pd h2)
theorem depth_mem {d : PyData} : ∀ {ds : List PyData}, d ∈ ds → d.depth ≤ PyData.depthAll ds
  | x :: xs, h => by
    rw [PyData.depthAll]
    rcases List.mem_cons.mp h with rfl | h
    · exact Nat.le_max_left _ _
    · exact Nat.le_trans (depth_mem h) (Nat.le_max_right _ _)
theorem plain_mem {d : PyData} : ∀ {ds : List PyData}, d ∈ ds → PyData.plainAll ds = true → d.plain = true
  | x :: xs, h, p => by
    rw [PyData.plainAll, Bool.and_eq_true] at p
    rcases List.mem_cons.mp h with rfl | h
    · exact p.1
    · exact plain_mem h p.2
theorem each_reads {X : Cx} {P : V → PyData → Prop} {pins : List (Addr × Obj)} {σ : L2.St} {H : Hp} {s : Shared} (I : Inv X pins σ H s) (hP : ∀ v d, P v d → Dd X.K H v d) : ∀ {us : List Value} {ds : List PyData}, PyData.plainAll ds = true → PySem.W.EachIs (RvD P) us ds → PySem.W.EachIs (fun v b => ∃ as, Reads s.heap v (id b) as) us ds
  | _, _, _, .nil => .nil
  | _, _, p, .cons ⟨v, r, h1⟩ t => by
    rw [PyData.plainAll, Bool.and_eq_true] at p
    exact .cons (Dp.reads I _ _ _ ((hP _ _ h1).dpP _ p.1) r) (each_reads I hP p.2 t)
theorem cr_sortD {X : Cx} (hu : X.A.units + 64 < cLine) : CallR X (.builtin "sorted") (rSortD X.K) := by
  intro pins s σ H vs us Q I r h
  obtain ⟨a, xs, ds, P, rfl, hs, hd, hP, hal, hk, hp, hn, q⟩ := h
  obtain ⟨its, rv, hl, _⟩ := I.list hs
  rw [Vals.ref1 r]
  have e := rvd_of rv hd
  have hm : ds.map id = ds := List.map_id _
  have hz : ds.length ≤ sizeLine := line_le hn
  refine PySem.W.sorted_data (enc := id) hl.isList e (each_reads I hP (shp_all hp) e) (by rw [hm]; exact hal) (by rw [hm]; exact hk) hz (fun b hb => ?_) fun out ho eo => ?_
  · have h1 := depth_mem hb
    have h2 : PyData.depth (.list ds) ≤ 60 := by
      unfold shp at hp
      rw [Bool.and_eq_true] at hp
      exact of_decide_eq_true hp.2
    have h3 : PyData.depth (.list ds) = PyData.depthAll ds + 1 := by simp [PyData.depth]
    show X.A.units + 2 + b.depth < cLine
    omega
  · obtain ⟨ep, he'⟩ := PyProof.Rows.sortedAll_at s.heap its out.toArray
    obtain ⟨ys, v1, v2⟩ := of_rvd eo
    have hlen : ys.length ≤ sizeLine := by rw [v1.length, ho]; exact hz
    exact ⟨.ref _, upd H (s.heap.objs.size + 1) (.lst ys), I.laid (t' := s.toks) (fun _ _ => PyProof.Rows.sortedAll_old) (Nat.le_succ _) ⟨hlen, out, ep, v1, he'⟩, rfl, q ys _ v2 (I.hok.fresh (Nat.le_succ _))⟩
theorem cd_sortD {K : PySem.W.Frag} : CallD K (rSortD K) kSortD := fun G H xs vs A Q e p h k => by
  unfold kSortD at h
  split at h
  · obtain ⟨⟨h1, h2, h3, h4⟩, h⟩ := h
    obtain ⟨v, rfl, p1⟩ := pk1 p
    obtain ⟨a, us, rfl, hs, ha⟩ := p1.list e
    exact ⟨a, us, _, Dd K G, rfl, hs, pd_of ha, fun v d hd => dp_ex e d hd, h1, h2, h3, h4, fun ys q hy hq => k _ _ _ h (.lst hq (of_pd hy))⟩
  · exact h.elim
/-! ### methods that only read: x.m(..) -/
def tyM : String → PyData → Bool := fun T x => match x with
  | .str _ => T == "str"
  | .int _ => T == "int"
  | .list _ => T == "list"
  | _ => false
def dMeth (T : String) (k : PyData → List PyData → (Vl → Prop) → Prop) (ta : TD) (tb : TDF) : TD := fun ε A => ta ε fun r1 ε1 => match peek ε1 r1 with
  | some x0 => tyM T x0 = true ∧ tb ε1 fun ds ε2 => match peek ε2 r1 with
    | some x => k x ds fun r => A r ε2
    | none => False
  | none => False
def dMeth0 (T : String) (k : PyData → List PyData → (Vl → Prop) → Prop) (ta : TD) : TD := fun ε A => ta ε fun r1 ε1 => match peek ε1 r1 with
  | some x => tyM T x = true ∧ k x [] fun r => A r ε1
  | none => False
def MetD (K : PySem.W.Frag) (r : V → List V → Hp → VK → Prop) (k : PyData → List PyData → (Vl → Prop) → Prop) : Prop := ∀ G H v us x ds (A : Vl → Prop) (Q : VK), Same G H → Pk K G H v x → DdAll K G us ds → k x ds A →
  (∀ r v H', A r → Res K G H r v H' → Q v H') → r v us H Q
theorem tyM_ok {K : PySem.W.Frag} {G H : Hp} {T : String} {x : PyData} {v : V} (e : Same G H) (p : Pk K G H v x) (h : tyM T x = true) : tyV K T v H := by
  cases x with
  | str z => cases p.str; exact beq_iff_eq.mp h
  | int i => cases p.int; exact beq_iff_eq.mp h
  | list xs =>
    obtain ⟨a, us, rfl, hs, _⟩ := p.list e
    exact .inl ⟨beq_iff_eq.mp h, us, hs⟩
  | none => cases h
  | bool _ => cases h
  | tuple _ => cases h
  | dict _ => cases h
theorem dmeth_rd {K : PySem.W.Frag} {T : String} {r : V → List V → Hp → VK → Prop} {k : PyData → List PyData → (Vl → Prop) → Prop} {ta : TD} {tb : TDF} {σ : L2.St} {H : Hp} {Q : VK} (hk : MetD K r k) (h : rdV K (dMeth T k ta tb) σ H Q) : tBM K T r (rdV K ta) (rdF K tb) σ H Q := by
  obtain ⟨c, G, ow, ε, A, R, h, kk⟩ := h
  refine ⟨c, G, ow, ε, _, R, h, fun r1 ε1 G1 H1 ow1 v1 h1 F1 R1 V1 => ?_⟩
  cases e1 : peek ε1 r1 with
  | none => simp only [e1] at h1
  | some x0 =>
    simp only [e1] at h1
    refine ⟨tyM_ok R1.ex (peek_ok R1 V1 e1) h1.1, c, G1, ow1, ε1, _, R1, h1.2, fun ds ε2 G2 H2 ow2 vs h2 F2 R2 V2 => ?_⟩
    cases e2 : peek ε2 r1 with
    | none => simp only [e2] at h2
    | some x =>
      simp only [e2] at h2
      refine hk G2 H2 v1 vs x ds _ Q R2.ex (peek_ok R2 (V1.fr F2) e2) V2 h2 fun r v H' hr hres => ?_
      obtain ⟨G', ow', F3, R3, V3⟩ := res_fin R2 hres
      exact kk r ε2 G' H' ow' v hr ((F1.trans F2).trans F3) R3 (V3.since (F1.trans F2).dom)
theorem dmeth0_rd {K : PySem.W.Frag} {T : String} {r : V → List V → Hp → VK → Prop} {k : PyData → List PyData → (Vl → Prop) → Prop} {ta : TD} {σ : L2.St} {H : Hp} {Q : VK} (hk : MetD K r k) (h : rdV K (dMeth0 T k ta) σ H Q) : tBM0 K T r (rdV K ta) σ H Q := by
  obtain ⟨c, G, ow, ε, A, R, h, kk⟩ := h
  refine ⟨c, G, ow, ε, _, R, h, fun r1 ε1 G1 H1 ow1 v1 h1 F1 R1 V1 => ?_⟩
  cases e1 : peek ε1 r1 with
  | none => simp only [e1] at h1
  | some x0 =>
    simp only [e1] at h1
    refine ⟨tyM_ok R1.ex (peek_ok R1 V1 e1) h1.1, hk G1 H1 v1 [] x0 [] _ Q R1.ex (peek_ok R1 V1 e1) .nil h1.2 fun r v H' hr hres => ?_⟩
    obtain ⟨G', ow', F3, R3, V3⟩ := res_fin R1 hres
    exact kk r ε1 G' H' ow' v hr (F1.trans F3) R3 (V3.since F1.dom)
section
variable {X : Cx} {o e : Expr} {es : List Expr} {to : TD} {t : TDF} {name : Str} {apos cpos : Pos} {T id : String} {r : V → List V → Hp → VK → Prop} {k : PyData → List PyData → (Vl → Prop) → Prop}
theorem dv_meth0 (pa : PlainAttrs T) (slot : Slot T name id) (hty : typeOf (.builtin id) = pure (.type "method_descriptor")) (hm : MtR X id r) (hk : MetD X.K r k) (ho : DV X o to)
    (hbase : attributeBase o name X.env (eval o X.env) = eval o X.env := by rfl) (hline : (apos.endLine == cpos.line) = true := by rfl) : DV X (.Call (.Attribute o name apos) [] [] cpos) (dMeth0 T k to) :=
  pe_w (pe_bm0 pa slot hty hm ho hbase hline) fun _ _ _ h => dmeth0_rd hk h
theorem dv_meth (pa : PlainAttrs T) (slot : Slot T name id) (hty : typeOf (.builtin id) = pure (.type "method_descriptor")) (hm : MtR X id r) (hk : MetD X.K r k) (ho : DV X o to) (ha : DF X (e :: es) t)
    (hbase : attributeBase o name X.env (eval o X.env) = eval o X.env := by rfl)
    (hfew : ((backTo cpos (starEach (e :: es) X.env)).all (fun x => !x.1) && (backToKw cpos (keywordEach [] X.env)).all (fun x => x.1.isSome)
      && decide ((e :: es).length + ([] : List Keyword).length + (if ([] : List Keyword).isEmpty then 0 else 1) < 30)) = true := by rfl)
    (hline : (apos.endLine == cpos.line) = true := by rfl) (hs : starEach (e :: es) X.env = (false, eval e X.env) :: starEach es X.env := by rfl) (hplain : (backTo cpos (starEach es X.env)).any (·.1) = false := by rfl) :
    DV X (.Call (.Attribute o name apos) (e :: es) [] cpos) (dMeth T k to t) :=
  pe_w (pe_bm pa slot hty hm ho ha hbase hfew hline hs hplain) fun _ _ _ h => dmeth_rd hk h
end
/-! ### xs.count(x) -/
def kCount : PyData → List PyData → (Vl → Prop) → Prop := fun x ds A => match x, ds with
  | .list xs, [d] => shp d = true ∧ shp (.list xs) = true ∧ A (.d (.int ((xs.countP fun y => PyData.eqv y d : Nat) : Int)))
  | _, _ => False
def rCountD (K : PySem.W.Frag) : V → List V → Hp → VK → Prop := fun v us H Q => ∃ u d ds, us = [u] ∧ Dd K H u d ∧ Dd K H v (.list ds) ∧ shp d = true ∧ shp (.list ds) = true ∧ Q (.int ((ds.countP fun y => PyData.eqv y d : Nat) : Int)) H
theorem mt_countD {X : Cx} (hu : X.A.units + 64 < cLine) : MtR X "list.count" (rCountD X.K) := by
  intro pins s σ H x xs v us Q I rx rxs h
  obtain ⟨u, d, ds, rfl, hd, he, sd, se, q⟩ := h
  obtain ⟨z, rfl, rz⟩ := rxs.one
  obtain ⟨as, r1⟩ := Dp.reads I d u z (hd.dpP d (shp_plain sd)) rz
  cases he with
  | lst hs ha =>
    rename_i p vs
    cases rx
    obtain ⟨its, rv, pl, _⟩ := I.list hs
    have dp : DpAll X.K H vs ds := by
      exact ha.dpP ds (shp_all se)
    obtain ⟨bs, r2⟩ := Dp.readsAll I ds vs its dp rv
    exact SeqAt.count_list_data (vs := its.toArray) pl.isList (by simpa using r2) r1 (shp_all se) (shp_plain sd) (in_room hu sd) ⟨.int _, H, I.tok _, ⟨_, rfl⟩, q⟩
theorem me_countD {K : PySem.W.Frag} : MetD K (rCountD K) kCount := fun G H v us x ds A Q e p hu h k => by
  unfold kCount at h
  split at h
  · cases hu with
    | cons h1 t =>
      cases t
      exact ⟨_, _, _, rfl, dp_ex e _ h1, p.dp e, h.1, h.2.1, k _ _ _ h.2.2 (.val (.int _))⟩
  · exact h.elim
/-! ### (a, b, ..) = a tuple or a list -/
def gTpA (n : Nat) (gs : TDGs) : TDG := fun x ε A => match x with
  | .tuple xs => xs.length = n ∧ gs xs ε A
  | .list xs => xs.length = n ∧ gs xs ε A
  | _ => False
theorem pg_or {X : Cx} {e : Expr} {t u : TG} (h1 : PG X e t) (h2 : PG X e u) : PG X e (fun v σ H Q => t v σ H Q ∨ u v σ H Q) := by
  refine ⟨fun pins s σ H v w Q I r h => ?_⟩
  rcases h with h | h
  · exact h1.run pins s σ H v w Q I r h
  · exact h2.run pins s σ H v w Q I r h
theorem dg_tupA {X : Cx} {pos : Pos} {es : List Expr} {k : Nat} {gs : TDGs} {n : Nat} {ws : List Nat} (hc : X.calm = true) (h : DGs X es ws gs) (hn : (assignEach es X.env).length = n := by rfl) (hst : (assignEach es X.env).findIdx? (·.1) = none := by rfl) : DG X (.Tuple es k pos) ws (gTpA n gs) :=
  pg_w (pg_or (pg_tup hc h hn hst) (pg_unl hc h hn hst)) fun v σ H Q ⟨c, G, ow, ε, x, A, R, d, h, k⟩ => by
    cases x with
    | tuple xs =>
      obtain ⟨p, vs, e1, h1, h2⟩ := Pk.tuple R.ex (Or.inl d : Pk X.K G H v (.tuple xs))
      exact .inl ⟨p, vs, e1, h1, (dpa_len h2).trans h.1, c, G, ow, ε, xs, _, R, h2, h.2, k⟩
    | list xs =>
      obtain ⟨p, vs, e1, h1, h2⟩ := Pk.list R.ex (Or.inl d : Pk X.K G H v (.list xs))
      exact .inr ⟨p, vs, e1, h1, (dpa_len h2).trans h.1, c, G, ow, ε, xs, _, R, h2, h.2, k⟩
    | _ => exact h.elim
/-! ### a raising def where it does not raise -/
def dCallXn (S : DSpX) (t : TDA) : TD := fun ε A => dCallX S t ε A fun _ _ => False
theorem dv_ofX {X : Cx} {e : Expr} {tx : TDX} (h : DVX X noW e tx) : DV X e (fun ε A => tx ε A fun _ _ => False) :=
  pe_w h fun σ H Q ⟨c, G, ow, ε, A, R, h, kk⟩ => ⟨c, G, ow, ε, A, _, R, h, kk, fun nm ε' G' H' ow' q _ _ => q.elim⟩
/-! ### steps -/
section
variable {t : TD} {ts : TDF} {a : TDA} {Sx : DSpX} {f : Bool} {ε : Ep} {A : Vl → Ep → Prop} {N : Ep → Prop} {g : TDGs} {n : Nat} {xs : List PyData} {x : PyData} {B : Vl → Prop}
theorem ap_callXn : ev (dCallXn Sx a ε A) = ev (a ε fun rs ε1 => onO (parAll ε1 rs) fun ps => (rs.filterMap slotOf).Nodup ∧ runX Sx ps (fun r ps' => onO (bkAll ε1 rs ps') fun ε2 => A r ε2) fun nm ps' => onO (bkAll ε1 rs ps') fun ε2 => False) := id rfl
theorem ap_meth {T : String} {k : PyData → List PyData → (Vl → Prop) → Prop} : ev (dMeth T k t ts ε A) = ev (t ε fun r1 ε1 => match peek ε1 r1 with
  | some x0 => tyM T x0 = true ∧ ts ε1 fun ds ε2 => match peek ε2 r1 with
    | some x => k x ds fun r => A r ε2
    | none => False
  | none => False) := id rfl
theorem ap_meth0 {T : String} {k : PyData → List PyData → (Vl → Prop) → Prop} : ev (dMeth0 T k t ε A) = ev (t ε fun r1 ε1 => match peek ε1 r1 with
  | some x => tyM T x = true ∧ k x [] fun r => A r ε1
  | none => False) := id rfl
theorem ap_gtpAt : ev (gTpA n g (.tuple xs) ε N) = (xs.length = n ∧ ev (g xs ε N)) := id rfl
theorem ap_gtpAl : ev (gTpA n g (.list xs) ε N) = (xs.length = n ∧ ev (g xs ε N)) := id rfl
theorem tyM_L : tyM "list" (.list xs) = true := id rfl
theorem tyM_S {s : Str} : tyM "str" (.str s) = true := id rfl
theorem k_InAL : kInA f x (.list xs) B = (shp x = true ∧ shp (.list xs) = true ∧ B (.d (.bool (if f then !inD x xs else inD x xs)))) := id rfl
theorem k_InAT : kInA f x (.tuple xs) B = (shp x = true ∧ shp (.tuple xs) = true ∧ B (.d (.bool (if f then !inD x xs else inD x xs)))) := id rfl
theorem k_SortD : kSortD [.list xs] B = ((PySem.W.AllAlike xs ∧ PySem.W.Sortable xs ∧ shp (.list xs) = true ∧ xs.length ≤ 1000000) ∧ B (.new (sortD xs))) := id rfl
theorem k_Count : kCount (.list xs) [x] B = (shp x = true ∧ shp (.list xs) = true ∧ B (.d (.int ((xs.countP fun y => PyData.eqv y x : Nat) : Int)))) := id rfl
end
end DL

/-! DL7: facts of data, loops under invariants. -/
namespace DL
open PySem PySem.Spec PyProof.Rows L2
/-! ### small facts of data -/
theorem sh_int (i : Int) : shp (.int i) = true := id rfl
theorem sh_none : shp .none = true := id rfl
theorem sh_str (s : Str) : shp (.str s) = true := id rfl
theorem sh_bool (i : Bool) : shp (.bool i) = true := id rfl
theorem sh_nil : shp (.list []) = true := id rfl
theorem sh_nilT : shp (.tuple []) = true := id rfl
theorem eqv_int (i j : Int) : PyData.eqv (.int i) (.int j) = (i == j) := by simp [PyData.eqv]
theorem eqv_nil (xs : List PyData) : PyData.eqv (.list xs) (.list []) = xs.isEmpty := by cases xs <;> simp [PyData.eqv, PyData.eqvAll]
def fine (n : Nat) (x : PyData) : Prop := x.plain = true ∧ x.depth ≤ n
theorem fine_int (n : Nat) (i : Int) : fine n (.int i) := ⟨rfl, Nat.zero_le _⟩
theorem fine_str (n : Nat) (s : Str) : fine n (.str s) := ⟨rfl, Nat.zero_le _⟩
theorem fine_bool (n : Nat) (b : Bool) : fine n (.bool b) := ⟨rfl, Nat.zero_le _⟩
theorem fine_none (n : Nat) : fine n .none := ⟨rfl, Nat.zero_le _⟩
theorem fine_all {n : Nat} : ∀ {xs : List PyData}, (∀ x ∈ xs, fine n x) → PyData.plainAll xs = true ∧ PyData.depthAll xs ≤ n
  | [], _ => ⟨rfl, Nat.zero_le _⟩
  | x :: xs, h => by
    obtain ⟨h1, h2⟩ := h x List.mem_cons_self
    obtain ⟨h3, h4⟩ := fine_all (xs := xs) fun y hy => h y (List.mem_cons_of_mem _ hy)
    exact ⟨by simp [PyData.plainAll, h1, h3], by simp only [PyData.depthAll]; omega⟩
theorem fine_list {n : Nat} {xs : List PyData} (h : ∀ x ∈ xs, fine n x) : fine (n + 1) (.list xs) := by
  obtain ⟨h1, h2⟩ := fine_all h
  exact ⟨by simp [PyData.plain, h1], by simp only [PyData.depth]; omega⟩
theorem fine_tuple {n : Nat} {xs : List PyData} (h : ∀ x ∈ xs, fine n x) : fine (n + 1) (.tuple xs) := by
  obtain ⟨h1, h2⟩ := fine_all h
  exact ⟨by simp [PyData.plain, h1], by simp only [PyData.depth]; omega⟩
theorem fine_sh {n : Nat} {x : PyData} (h : fine n x) (hn : n ≤ 60) : shp x = true := by
  unfold shp
  rw [h.1, decide_eq_true (Nat.le_trans h.2 hn)]
  rfl
theorem fine_ints (n : Nat) (ns : List Int) : ∀ x ∈ ns.map PyData.int, fine n x := fun x hx => by
  obtain ⟨i, _, rfl⟩ := List.mem_map.mp hx
  exact fine_int n i
theorem sh_ints (ns : List Int) : shp (.list (ns.map .int)) = true := fine_sh (fine_list (fine_ints 0 ns)) (by decide)
theorem flat_ints (ns : List Int) : (ns.map PyData.int).all flatD = true := by
  rw [List.all_eq_true]
  intro x hx
  obtain ⟨i, _, rfl⟩ := List.mem_map.mp hx
  rfl
theorem in_ints (k : Int) (ns : List Int) : inD (.int k) (ns.map .int) = ns.contains k := by
  unfold inD
  induction ns with
  | nil => rfl
  | cons a r ih => rw [List.map_cons, List.any_cons, ih, List.contains_cons, eqv_int, Bool.beq_comm]
theorem map_erase {α β : Type} (g : α → β) : ∀ (l : List α) (i : Nat), (l.map g).eraseIdx i = (l.eraseIdx i).map g
  | [], _ => rfl
  | _ :: _, 0 => rfl
  | a :: r, i + 1 => by
    show g a :: (r.map g).eraseIdx i = g a :: (r.eraseIdx i).map g
    rw [map_erase g r i]
theorem perm_erase {α : Type} : ∀ (l : List α) (i : Nat) (h : i < l.length), (([l[i]] : List α) ++ l.eraseIdx i).Perm l
  | [], _, h => absurd h (Nat.not_lt_zero _)
  | _ :: _, 0, _ => List.Perm.refl _
  | a :: r, i + 1, h => by
    have q := perm_erase r i (Nat.lt_of_succ_lt_succ h)
    exact (List.Perm.swap a (r[i]'(Nat.lt_of_succ_lt_succ h)) (r.eraseIdx i)).trans (q.cons a)
theorem at0 {α : Type} (x : α) (xs : List α) : atI (x :: xs) 0 = some x := atI_nat (j := 0) rfl
theorem at1 {α : Type} (x y : α) (xs : List α) : atI (x :: y :: xs) 1 = some y := atI_nat (j := 1) rfl
theorem at2 {α : Type} (x y z : α) (xs : List α) : atI (x :: y :: z :: xs) 2 = some z := atI_nat (j := 2) rfl
theorem at_nat {α : Type} {xs : List α} {i : Int} (h0 : 0 ≤ i) (h1 : i < (xs.length : Int)) : ∃ x, atI xs i = some x ∧ x ∈ xs ∧ xs[i.toNat]? = some x := by
  obtain ⟨k, rfl⟩ : ∃ k : Nat, i = (k : Int) := ⟨i.toNat, by omega⟩
  have hk : k < xs.length := by omega
  exact ⟨xs[k], atI_nat (List.getElem?_eq_getElem hk), List.getElem_mem hk, List.getElem?_eq_getElem hk⟩
theorem at_int {xs : List Int} {i : Int} (h0 : 0 ≤ i) (h1 : i < (xs.length : Int)) : ∃ x, atI (xs.map PyData.int) i = some (.int x) ∧ x ∈ xs := by
  obtain ⟨x, e, hm, _⟩ := at_nat (xs := xs.map PyData.int) h0 (by rw [List.length_map]; exact h1)
  obtain ⟨y, hy, rfl⟩ := List.mem_map.mp hm
  exact ⟨y, e, hy⟩
theorem ixN1 {n : Nat} : ixN (n + 2) 1 = some 1 := by
  unfold ixN
  rw [if_pos (by decide), if_pos (by omega)]
  rfl
theorem at3 {α : Type} (x y z u : α) (xs : List α) : atI (x :: y :: z :: u :: xs) 3 = some u := atI_nat (j := 3) rfl
theorem onB_neg {b : Bool} {X Y : Prop} (h : onB b Y X) : onB (!b) X Y := by
  cases b <;> exact h
theorem onB_case {b : Bool} {X Y : Prop} (h1 : b = true → X) (h2 : b = false → Y) : onB b X Y := by
  cases b
  · exact h2 rfl
  · exact h1 rfl
theorem ix_any {n : Nat} {i : Int} (h0 : -(n : Int) ≤ i) (h1 : i < n) : ixN n i = some (if 0 ≤ i then i.toNat else (i + n).toNat) := by
  unfold ixN
  by_cases h : 0 ≤ i
  · rw [if_pos h, if_pos h1, if_pos h]
  · rw [if_neg h, if_neg h, if_pos h0]
theorem at_any {α : Type} {xs : List α} {i : Int} (h0 : -(xs.length : Int) ≤ i) (h1 : i < (xs.length : Int)) : ∃ x ∈ xs, atI xs i = some x ∧ xs[if 0 ≤ i then i.toNat else (i + xs.length).toNat]? = some x := by
  have hk : (if 0 ≤ i then i.toNat else (i + xs.length).toNat) < xs.length := by split <;> omega
  refine ⟨xs[if 0 ≤ i then i.toNat else (i + xs.length).toNat], List.getElem_mem hk, ?_, List.getElem?_eq_getElem hk⟩
  unfold atI
  rw [ix_any h0 h1]
  exact List.getElem?_eq_getElem hk
theorem rng_ints (lo : Int) (n : Nat) : rngD lo n = ((List.range n).map fun i => lo + ((i : Nat) : Int)).map .int := by
  unfold rngD
  rw [List.map_map]
  rfl
theorem eqv_ss (x y : Str) : PyData.eqv (.str x) (.str y) = (x == y) := by simp [PyData.eqv]
theorem eqv_bool (a b : Bool) : PyData.eqv (.bool a) (.bool b) = (a == b) := by simp [PyData.eqv]
theorem dec_tt : decide (true = true) = true := id rfl
theorem dec_ft : decide (false = true) = false := id rfl
theorem dec_tf : decide (true = false) = false := id rfl
theorem dec_T {h : Decidable True} : @decide True h = true := by cases h <;> simp
theorem dec_F {h : Decidable False} : @decide False h = false := by cases h <;> simp
theorem dec_ff : decide (false = false) = true := id rfl
theorem sh_strs (ns : List Str) : shp (.list (ns.map .str)) = true := fine_sh (fine_list (n := 0) fun x hx => by
  obtain ⟨i, _, rfl⟩ := List.mem_map.mp hx
  exact fine_str 0 i) (by decide)
theorem sh_bools (ns : List Bool) : shp (.list (ns.map .bool)) = true := fine_sh (fine_list (n := 0) fun x hx => by
  obtain ⟨i, _, rfl⟩ := List.mem_map.mp hx
  exact fine_bool 0 i) (by decide)
theorem eqva_strs : ∀ xs ys : List Str, PyData.eqvAll (xs.map .str) (ys.map .str) = (xs == ys)
  | [], [] => rfl
  | [], _ :: _ => rfl
  | _ :: _, [] => rfl
  | x :: xs, y :: ys => by
    show PyData.eqvAll (.str x :: xs.map .str) (.str y :: ys.map .str) = _
    rw [PyData.eqvAll, eqva_strs xs ys, eqv_ss, List.cons_beq_cons]
theorem eqv_strs (xs ys : List Str) : PyData.eqv (.list (xs.map .str)) (.list (ys.map .str)) = (xs == ys) := by rw [PyData.eqv]; exact eqva_strs xs ys
theorem eqva_bools : ∀ xs ys : List Bool, PyData.eqvAll (xs.map .bool) (ys.map .bool) = (xs == ys)
  | [], [] => rfl
  | [], _ :: _ => rfl
  | _ :: _, [] => rfl
  | x :: xs, y :: ys => by
    show PyData.eqvAll (.bool x :: xs.map .bool) (.bool y :: ys.map .bool) = _
    rw [PyData.eqvAll, eqva_bools xs ys, eqv_bool, List.cons_beq_cons]
theorem eqv_bools (xs ys : List Bool) : PyData.eqv (.list (xs.map .bool)) (.list (ys.map .bool)) = (xs == ys) := by rw [PyData.eqv]; exact eqva_bools xs ys
theorem eqva_ints : ∀ xs ys : List Int, PyData.eqvAll (xs.map .int) (ys.map .int) = (xs == ys)
  | [], [] => rfl
  | [], _ :: _ => rfl
  | _ :: _, [] => rfl
  | x :: xs, y :: ys => by
    show PyData.eqvAll (.int x :: xs.map .int) (.int y :: ys.map .int) = _
    rw [PyData.eqvAll, eqva_ints xs ys, eqv_int, List.cons_beq_cons]
theorem eqv_ints (xs ys : List Int) : PyData.eqv (.list (xs.map .int)) (.list (ys.map .int)) = (xs == ys) := by rw [PyData.eqv]; exact eqva_ints xs ys
/-- a comprehension whose items are fine, its slots under an invariant -/
theorem lc_inv {g : TDG} {tt : TDT} {te : TD} {vs : List Nat} {I : Ep → Prop} {Pe : PyData → Prop} {A : List PyData → Ep → Prop} : ∀ (its acc : List PyData) (ε : Ep),
    (∀ x ∈ its, ∀ ε, I ε → ∀ (B : Vl → Ep → Prop) (C : Ep → Prop), (∀ y ε', Pe y → I (wipeE ε' vs) → B (.d y) ε') → (∀ ε', I (wipeE ε' vs) → C ε') → g x ε fun ε1 => tt ε1 fun b ε2 => onB b (te ε2 B) (C ε2)) →
    I ε → (∀ y ∈ acc, Pe y) → acc.length + its.length ≤ 1000000 → (∀ ys ε', (∀ y ∈ ys, Pe y) → ys.length ≤ acc.length + its.length → I ε' → A ys ε') → lcGo noI g tt te vs A its acc ε
  | [], acc, ε, _, hi, ha, _, h => ⟨trivial, h _ _ ha (by simp) hi⟩
  | x :: its, acc, ε, h1, hi, ha, hl, h => by
    rw [List.length_cons] at hl
    refine ⟨trivial, h1 x List.mem_cons_self ε hi _ (fun ε2 => lcGo noI g tt te vs A its acc (wipeE ε2 vs)) (fun y ε' hy hi' => ?_) fun ε' hi' => ?_⟩
    · show acc.length < 1000000 ∧ lcGo noI g tt te vs A its (acc ++ [y]) (wipeE ε' vs)
      refine ⟨by omega, lc_inv its _ _ (fun z hz => h1 z (List.mem_cons_of_mem _ hz)) hi' (fun z hz => ?_) (by simp; omega) fun ys ε2 q1 q2 q3 => h ys ε2 q1 (by simp at q2 ⊢; omega) q3⟩
      rcases List.mem_append.mp hz with hz | hz
      · exact ha z hz
      · rw [List.mem_singleton.mp hz]; exact hy
    · show lcGo noI g tt te vs A its acc (wipeE ε' vs)
      exact lc_inv its _ _ (fun z hz => h1 z (List.mem_cons_of_mem _ hz)) hi' ha (by omega) fun ys ε2 q1 q2 q3 => h ys ε2 q1 (by simp; omega) q3
/-- .. each turn giving one -/
theorem lc_all {g : TDG} {te : TD} {vs : List Nat} {I : Ep → Prop} {Pe : PyData → Prop} {A : List PyData → Ep → Prop} : ∀ (its acc : List PyData) (ε : Ep),
    (∀ x ∈ its, ∀ ε, I ε → ∀ (B : Vl → Ep → Prop), (∀ y ε', Pe y → I (wipeE ε' vs) → B (.d y) ε') → g x ε fun ε1 => te ε1 B) →
    I ε → (∀ y ∈ acc, Pe y) → acc.length + its.length ≤ 1000000 → (∀ ys ε', (∀ y ∈ ys, Pe y) → ys.length = acc.length + its.length → I ε' → A ys ε') → lcGo noI g dYes te vs A its acc ε
  | [], acc, ε, _, hi, ha, _, h => ⟨trivial, h _ _ ha (by simp) hi⟩
  | x :: its, acc, ε, h1, hi, ha, hl, h => by
    rw [List.length_cons] at hl
    refine ⟨trivial, h1 x List.mem_cons_self ε hi _ fun y ε' hy hi' => ?_⟩
    show acc.length < 1000000 ∧ lcGo noI g dYes te vs A its (acc ++ [y]) (wipeE ε' vs)
    refine ⟨by omega, lc_all its _ _ (fun z hz => h1 z (List.mem_cons_of_mem _ hz)) hi' (fun z hz => ?_) (by simp; omega) fun ys ε2 q1 q2 q3 => h ys ε2 q1 (by simp at q2 ⊢; omega) q3⟩
    rcases List.mem_append.mp hz with hz | hz
    · exact ha z hz
    · rw [List.mem_singleton.mp hz]; exact hy
/-- a walk under an invariant -/
theorem for_inv {g : TDG} {b : TDS} {A : DEnds} {I : Ep → Prop} : ∀ (its : List PyData) (ε : Ep), (∀ x ∈ its, ∀ ε, I ε → ∀ B : DEnds, B.rt = A.rt → B.bk = A.nx → (∀ ε', I ε' → B.nx ε') → (∀ ε', I ε' → B.ct ε') → g x ε fun ε1 => b B ε1) → I ε → (∀ ε', I ε' → A.nx ε') → forGo noI g b A its ε
  | [], ε, _, hi, h => ⟨trivial, h ε hi⟩
  | x :: its, ε, hb, hi, h => by
    refine ⟨trivial, hb x List.mem_cons_self ε hi _ rfl rfl (fun ε' hi' => ?_) fun ε' hi' => ?_⟩
    · exact for_inv its ε' (fun z hz => hb z (List.mem_cons_of_mem _ hz)) hi' h
    · exact for_inv its ε' (fun z hz => hb z (List.mem_cons_of_mem _ hz)) hi' h
/-- a walk under an invariant that counts -/
theorem for_ix {g : TDG} {b : TDS} {A : DEnds} {I : Nat → Ep → Prop} : ∀ (its : List PyData) (i : Nat) (ε : Ep), (∀ (j : Nat) (x : PyData), its[j]? = some x → ∀ ε, I (i + j) ε → ∀ B : DEnds, B.rt = A.rt → B.bk = A.nx → (∀ ε', I (i + j + 1) ε' → B.nx ε') → (∀ ε', I (i + j + 1) ε' → B.ct ε') → g x ε fun ε1 => b B ε1) → I i ε → (∀ ε', I (i + its.length) ε' → A.nx ε') → forGo noI g b A its ε
  | [], i, ε, _, hi, h => ⟨trivial, h ε hi⟩
  | x :: its, i, ε, hb, hi, h => by
    have rest : ∀ ε', I (i + 1) ε' → forGo noI g b A its ε' := fun ε' hi' => by
      refine for_ix its (i + 1) ε' (fun j z hz ε2 h2 B b1 b2 b3 b4 => hb (j + 1) z (by simpa using hz) ε2 (by rw [show i + (j + 1) = i + 1 + j by omega]; exact h2) B b1 b2 (fun ε3 h3 => b3 ε3 (by rw [show i + 1 + j + 1 = i + (j + 1) + 1 by omega]; exact h3)) fun ε3 h3 => b4 ε3 (by rw [show i + 1 + j + 1 = i + (j + 1) + 1 by omega]; exact h3)) hi' fun ε2 h2 => h ε2 ?_
      rw [List.length_cons, show i + (its.length + 1) = i + 1 + its.length by omega]
      exact h2
    exact ⟨trivial, hb 0 x rfl ε hi _ rfl rfl rest rest⟩

theorem eq_gen {f : Bool → Bool} {x y : PyData} {V : Vl → Prop} (hx : shp x = true) (hy : shp y = true) : kEqA f x y V = V (.d (.bool (f (PyData.eqv x y)))) := by
  have gen : (shp x = true ∧ shp y = true ∧ V (.d (.bool (f (PyData.eqv x y))))) = V (.d (.bool (f (PyData.eqv x y)))) := by rw [hx, hy]; simp
  unfold kEqA
  split
  · rw [eqv_nil]
  · rename_i xs
    have : PyData.eqv (.tuple xs) (.tuple []) = xs.isEmpty := by cases xs <;> simp [PyData.eqv, PyData.eqvAll]
    rw [this]
  · exact gen
theorem k_EqStrs {f : Bool → Bool} {xs ys : List Str} {V : Vl → Prop} : kEqA f (.list (xs.map .str)) (.list (ys.map .str)) V = V (.d (.bool (f (xs == ys)))) := by rw [eq_gen (sh_strs _) (sh_strs _), eqv_strs]
theorem k_EqBools {f : Bool → Bool} {xs ys : List Bool} {V : Vl → Prop} : kEqA f (.list (xs.map .bool)) (.list (ys.map .bool)) V = V (.d (.bool (f (xs == ys)))) := by rw [eq_gen (sh_bools _) (sh_bools _), eqv_bools]
theorem k_EqInts {f : Bool → Bool} {xs ys : List Int} {V : Vl → Prop} : kEqA f (.list (xs.map .int)) (.list (ys.map .int)) V = V (.d (.bool (f (xs == ys)))) := by rw [eq_gen (sh_ints _) (sh_ints _), eqv_ints]
theorem of_ev {P : Prop} (h : P) : ev P := h
/-! ### the end's facts of exceptions -/
section
variable {K : PySem.W.Frag} {h : Heap} {mg : Str → Option Value}
theorem exrs_mk {nm : Str} {C : Addr} (X : K.In h) (G : h.Ns mainGlobals mg) (a : PySem.W.nsIn K mainGlobals nm = some (some (.ref C))) (xe : PySem.W.excIn K C [.type "ValueError", .type "Exception", .type "BaseException", .type "object"] "ValueError.__new__" = true) (k : PySem.W.keepIn K (.ref C) = true)
    (s : PySem.W.subIn K (.ref C) (.type "BaseException") = some true) (t : PySem.W.typeIn K (.ref C) = some (.type "type")) : ExRs K mg nm := ⟨C, a, PySem.W.mg_of X G a, xe, k, s, t⟩
def XAll (K : PySem.W.Frag) (P : Addr → Bool → Prop) (l : List (Str × Bool)) : Prop := ∀ nm b, l.lookup nm = some b → ∀ C, PySem.W.nsIn K mainGlobals nm = some (some (.ref C)) → P C b
theorem xall_nil {P : Addr → Bool → Prop} : XAll K P [] := fun _ _ h => nomatch h
theorem xall_cons {P : Addr → Bool → Prop} {nm : Str} {b : Bool} {D : Addr} {l : List (Str × Bool)} (a : PySem.W.nsIn K mainGlobals nm = some (some (.ref D))) (p : P D b) (t : XAll K P l) : XAll K P ((nm, b) :: l) := fun x c h C hC => by
  rw [List.lookup_cons] at h
  split at h
  · rename_i e
    have e := eq_of_beq e
    subst e
    rw [a] at hC
    cases hC
    cases h
    exact p
  · exact t x c h C hC
theorem kit_self {C : Addr} : PySem.W.kitOne K (.ref C) (.ref C) = some true := by
  unfold PySem.W.kitOne
  rw [if_pos (beq_self_eq_true _)]
theorem kit_own {C D : Addr} {b : Bool} (hd : PySem.W.hasDictIn K D = true) (ht : PySem.W.typeIn K (.ref D) = some (.type "type")) (h : PySem.W.subIn K (.ref C) (.ref D) = some b) (hn : (!(C == D) || b) = true) : PySem.W.kitOne K (.ref C) (.ref D) = some b := by
  unfold PySem.W.kitOne
  by_cases e : C = D
  · subst e
    rw [if_pos (beq_self_eq_true _)]
    rw [beq_self_eq_true] at hn
    exact (congrArg some hn).symm
  · have : ¬ ((Value.ref C == Value.ref D) = true) := fun z => e (Value.ref.inj (eq_of_beq z))
    rw [if_neg this]
    obtain ⟨cd, hc, _⟩ := PySem.W.any_some hd
    have e2 : ((PySem.W.clsIn K D).isSome && PySem.W.typeIn K (.ref D) == some (.type "type")) = true := by rw [hc, ht] <;> rfl
    show (if ((PySem.W.clsIn K D).isSome && PySem.W.typeIn K (.ref D) == some (.type "type")) = true then PySem.W.subIn K (.ref C) (.ref D) else none) = some b
    rw [if_pos e2]
    exact h
theorem kit_bt {C : Addr} {T : String} {b : Bool} (hm : PySem.W.kitMeta T = true) (h : PySem.W.subIn K (.ref C) (.type T) = some b) : PySem.W.kitOne K (.ref C) (.type T) = some b := by
  unfold PySem.W.kitOne
  have : ¬ ((Value.ref C == Value.type T) = true) := fun z => nomatch (eq_of_beq z)
  rw [if_neg this]
  show (if PySem.W.kitMeta T = true then PySem.W.subIn K (.ref C) (.type T) else none) = some b
  rw [if_pos hm]
  exact h
theorem exty_mk {cv : Value} {f : Str → Option Bool} {l : List (Str × Bool)} (e : f = fun nm => l.lookup nm) (h : XAll K (fun C b => ExcC K C ∧ PySem.W.kitOne K (.ref C) cv = some b) l) : ExTy K cv f := by
  subst e
  exact ⟨h⟩
theorem exis_mk {x : Str} {D : Addr} {f : Str → Option Bool} (X : K.In h) (G : h.Ns mainGlobals mg) (a : PySem.W.nsIn K mainGlobals x = some (some (.ref D))) (t : ExTy K (.ref D) f) : ExIs K mg x f := ⟨D, PySem.W.mg_of X G a, t⟩
theorem exct_mk {x : Str} {D : Addr} {f : Str → Option Bool} {l : List (Str × Bool)} (X : K.In h) (G : h.Ns mainGlobals mg) (a : PySem.W.nsIn K mainGlobals x = some (some (.ref D))) (e : f = fun nm => l.lookup nm) (t : XAll K (fun C b => PySem.W.exmOne K (.ref C) (.ref D) = some b) l) : ExCt K mg x f := by
  subst e
  exact ⟨.ref D, PySem.W.mg_of X G a, t⟩
end
end DL

/-! DL8: things within things, read and changed. -/
namespace DL
open PySem PySem.Spec PyProof.Rows L2
section
variable {K : PySem.W.Frag} {c : Ct} {Gs Hs G H : Hp} {ows ow : Ow} {σ : L2.St} {ε : Ep}
/-- the node that a place shows -/
def nodeAt (ε : Ep) : Vl → Option (Hd × List NT)
  | .bp i p a => match look ε i with
    | .nt _ t => match getN t p with
      | some (.node b h ts) => if a = b then some (h, ts) else none
      | _ => none
    | _ => none
  | _ => none
theorem nodeAt_is {r : Vl} {h : Hd} {ts : List NT} (e : nodeAt ε r = some (h, ts)) : ∃ i p a fr t, r = .bp i p a ∧ look ε i = .nt fr t ∧ getN t p = some (.node a h ts) := by
  unfold nodeAt at e
  split at e
  · rename_i i p a
    split at e
    · rename_i fr t hl
      split at e
      · rename_i b hd us hg
        split at e
        · rename_i hab
          subst hab
          cases e
          exact ⟨i, p, a, fr, t, rfl, hl, hg⟩
        · cases e
      · cases e
    · cases e
  · cases e
theorem node_at {i : Nat} {fr : Bool} {t : NT} {p : List Nat} {a : Addr} {h : Hd} {ts : List NT} (R : Rep K c G H ow σ ε) (hl : look ε i = .nt fr t) (hg : getN t p = some (.node a h ts)) :
    ∃ vs, H a = some (h.ob vs) ∧ TOks K G H ts vs ∧ ow a = some i ∧ G a = none ∧ h.fit ts.length := by
  obtain ⟨o, ho⟩ := R.some_at (i := i) (by rw [hl]; exact fun z => nomatch z)
  have q := R.at ho
  rw [hl] at q
  obtain ⟨v, e1, q, q2, q3, _⟩ := q
  obtain ⟨w, hw⟩ := tok_get p t q hg
  rw [TOk] at hw
  obtain ⟨_, h2, h3, vs, h4, h5⟩ := hw
  exact ⟨vs, h4, h5, q3 a (get_adr p t hg (by rw [adr]; exact List.mem_cons_self)), h2, h3⟩
/-- a node of a thing of the def's own is changed -/
theorem mut_nt {i : Nat} {fr : Bool} {t : NT} {p : List Nat} {a : Addr} {h h' : Hd} {ts ts' : List NT} {vs' : List V} (F : Fr Gs Hs ows G H ow) (R : Rep K c G H ow σ ε) (hd : ∀ b, Hs b = none → c.H0 b = none) (hl : look ε i = .nt fr t) (hg : getN t p = some (.node a h ts))
    (hfit : h'.fit ts'.length) (hT : TOks K G H ts' vs') (hnd : (adrs ts').Nodup) (hnew : ∀ b ∈ adrs ts', b ∈ adrs ts ∨ (ow b = none ∧ Hs b = none)) :
    ∃ ow', Fr Gs Hs ows G (upd H a (h'.ob vs')) ow' ∧ Rep K c G (upd H a (h'.ob vs')) ow' σ (put ε i (.nt fr (setN t p (.node a h' ts')))) := by
  obtain ⟨vs, hH, hvs, hoa, hGa, _⟩ := node_at R hl hg
  have hi : i < ε.length := look_lt (by rw [hl]; exact fun z => nomatch z)
  obtain ⟨o, ho⟩ := R.some_at (i := i) (by rw [hl]; exact fun z => nomatch z)
  have q := R.at ho
  rw [hl] at q
  obtain ⟨v, e1, tk, nd, own, f1, f2⟩ := q
  have ndn := nodup_getp p t nd hg
  obtain ⟨an, tsn⟩ := nodup_adr ndn
  have sub : ∀ b ∈ adrs ts, b ∈ adr t := fun b hb => get_adr p t hg (by rw [adr]; exact List.mem_cons_of_mem _ hb)
  have amem : a ∈ adr t := get_adr p t hg (by rw [adr]; exact List.mem_cons_self)
  have fresh : ∀ b ∈ adrs ts', b ∉ adrs ts → ow b = none ∧ Hs b = none := fun b hb hn => (hnew b hb).resolve_left hn
  have a_not : a ∉ adrs ts' := fun hm => by
    rcases hnew a hm with q | ⟨q, _⟩
    · exact an q
    · rw [hoa] at q
      cases q
  have ndu : (adr (.node a h' ts')).Nodup := by
    rw [adr]
    exact List.nodup_cons.mpr ⟨a_not, hnd⟩
  have offt : ∀ b ∈ adr (.node a h' ts'), b ∈ adr (.node a h ts) ∨ b ∉ adr t := fun b hb => by
    rw [adr] at hb ⊢
    rcases List.mem_cons.mp hb with rfl | hb
    · exact .inl List.mem_cons_self
    · by_cases hn : b ∈ adrs ts
      · exact .inl (List.mem_cons_of_mem _ hn)
      · refine .inr fun hm => ?_
        have := own b hm
        rw [(fresh b hb hn).1] at this
        cases this
  obtain ⟨nd', mem'⟩ := adr_set p t nd hg ndu offt
  have new_has : ∀ b ∈ adrs ts', G b = none ∧ ∃ u, H b = some u := TOks.has ts' hT
  -- the owners
  let ow' : Ow := fun b => if b ∈ adrs ts' then some i else ow b
  have owIs : ∀ {b}, b ∈ adrs ts' → ow' b = some i := fun hb => if_pos hb
  have owNot : ∀ {b}, b ∉ adrs ts' → ow' b = ow b := fun hb => if_neg hb
  have owKeep : ∀ {b j}, ow b = some j → ow' b = some j ∨ (b ∈ adrs ts' ∧ j = i) := fun {b j} hb => by
    by_cases hm : b ∈ adrs ts'
    · rcases hnew b hm with q | ⟨q, _⟩
      · have := own b (sub b q)
        rw [hb] at this
        exact .inr ⟨hm, Option.some.inj this⟩
      · rw [hb] at q
        cases q
    · exact .inl ((owNot hm).trans hb)
  refine ⟨ow', ⟨F.ex, fun b u z1 z2 => ?_, fun b z => ?_⟩, ⟨same_mut R.ex hGa _, fun b z => ?_, by rw [put_length]; exact R.len, fun j s z => ?_⟩⟩
  · obtain ⟨q1, q2, q3⟩ := F.st b u z1 z2
    have hne : b ≠ a := fun e => by
      rw [e, hoa] at q2
      cases q2
    have hm : b ∉ adrs ts' := fun hm => by
      rcases hnew b hm with q | ⟨_, q⟩
      · have := own b (sub b q)
        rw [q2] at this
        cases this
      · rw [z1] at q
        cases q
    rw [upd_ne hne, owNot hm]
    exact ⟨q1, q2, q3⟩
  · by_cases hb : b = a
    · subst hb
      rw [upd_same] at z
      cases z
    · rw [upd_ne hb] at z
      exact F.dom b z
  · by_cases hb : b = a
    · subst hb
      rw [upd_same] at z
      cases z
    · rw [upd_ne hb] at z
      exact R.dom b z
  · by_cases hj : j = i
    · subst hj
      rw [look_put_self hi]
      rw [ho] at z
      cases z
      have keep : ∀ b ∈ adr t, b ∉ adr (.node a h ts) → G b = none → ∀ o, H b = some o → G b = none ∧ upd H a (h'.ob vs') b = some o := fun b _ hn hg o hb => by
        have hne : b ≠ a := fun e => hn (by rw [e, adr]; exact List.mem_cons_self)
        rw [upd_ne hne]
        exact ⟨hg, hb⟩
      refine ⟨v, e1, tok_set (Same.refl G) p t tk nd hg (fun w hw => ?_) keep, nd', fun b hb => ?_, fun hf b hb => ?_, fun hf => ⟨(f2 hf).1, fun b hb => ?_⟩⟩
      · rw [TOk] at hw ⊢
        refine ⟨hw.1, hGa, hfit, vs', upd_same, hT.grow (Same.refl G) ts' fun b hb hg u hu => ?_⟩
        have hne : b ≠ a := fun e => a_not (e ▸ hb)
        rw [upd_ne hne]
        exact ⟨hg, hu⟩
      · rcases mem' b hb with hb | ⟨hb, _⟩
        · rw [adr] at hb
          rcases List.mem_cons.mp hb with rfl | hb
          · rw [owNot a_not]; exact hoa
          · exact owIs hb
        · rcases owKeep (own b hb) with q | ⟨q, _⟩
          · exact q
          · exact owIs q
      · rcases mem' b hb with hb | ⟨hb, _⟩
        · rw [adr] at hb
          rcases List.mem_cons.mp hb with rfl | hb
          · exact f1 hf _ amem
          · rcases hnew b hb with q | ⟨_, q⟩
            · exact f1 hf _ (sub b q)
            · exact hd b q
        · exact f1 hf _ hb
      · rcases mem' b hb with hb | ⟨hb, _⟩
        · rw [adr] at hb
          rcases List.mem_cons.mp hb with rfl | hb
          · exact (f2 hf).2 _ amem
          · rcases hnew b hb with q | ⟨_, q⟩
            · exact (f2 hf).2 _ (sub b q)
            · exact .inl (hd b q)
        · exact (f2 hf).2 _ hb
    · rw [look_put_ne hj]
      refine (R.sl j s z).grow (Same.refl G) fun b u z1 z2 z3 => ?_
      have hne : b ≠ a := fun e => by
        rw [e, hoa] at z1
        exact hj (Option.some.inj z1).symm
      refine ⟨?_, z2, by rw [upd_ne hne]; exact z3⟩
      rcases owKeep z1 with q | ⟨_, q⟩
      · exact q
      · exact absurd q hj
end
/-! ### x[i], x perhaps a place -/
def kid (r : Vl) (ts : List NT) (m : Nat) : Option Vl := match r, ts[m]? with
  | .bp _ _ _, some (.fz x) => some (.d x)
  | .bp i p _, some (.node a _ _) => some (.bp i (p ++ [m]) a)
  | _, _ => none
theorem kid_ok {K : PySem.W.Frag} {Hs G H : Hp} {ow : Ow} {σ : L2.St} {r r' : Vl} {ts : List NT} {vs : List V} {m : Nat} (e : kid r ts m = some r') (hT : TOks K G H ts vs) : ∃ w, vs[m]? = some w ∧ VOk K Hs G H ow σ r' w := by
  unfold kid at e
  split at e
  · rename_i x hx
    cases e
    obtain ⟨w, e1, e2⟩ := toks_get hT hx
    rw [TOk] at e2
    exact ⟨w, e1, e2⟩
  · rename_i a hd us hx
    cases e
    obtain ⟨w, e1, e2⟩ := toks_get hT hx
    rw [TOk] at e2
    exact ⟨w, e1, e2.1⟩
  · cases e
def ixA (ε : Ep) (r1 : Vl) (y : PyData) (A : Vl → Prop) : Prop := match peek ε r1 with
  | some x => kIxA x y A
  | none => match y, nodeAt ε r1 with
    | .int k, some (.lst, ts) => onO (ixN ts.length k) fun m => onO (kid r1 ts m) A
    | _, _ => False
def dIxA (ta tb : TD) : TD := fun ε A => ta ε fun r1 ε1 => tb ε1 fun r2 ε2 => match peek ε2 r2 with
  | some y => ixA ε2 r1 y fun r => A r ε2
  | none => False
theorem dix_rd {K : PySem.W.Frag} {ta tb : TD} {σ : L2.St} {H : Hp} {Q : VK} (h : rdV K (dIxA ta tb) σ H Q) : tOp (rIx K) (rdV K ta) (rdV K tb) σ H Q := by
  obtain ⟨c, G, ow, ε, A, R, h, kk⟩ := h
  refine ⟨c, G, ow, ε, _, R, h, fun r1 ε1 G1 H1 ow1 v1 h1 F1 R1 V1 => ⟨c, G1, ow1, ε1, _, R1, h1, fun r2 ε2 G2 H2 ow2 v2 h2 F2 R2 V2 => ?_⟩⟩
  have F := F1.trans F2
  cases e2 : peek ε2 r2 with
  | none => simp only [e2] at h2
  | some y =>
    simp only [e2] at h2
    have p2 := peek_ok R2 V2 e2
    unfold ixA at h2
    cases e1 : peek ε2 r1 with
    | some x =>
      simp only [e1] at h2
      refine od_ixA G2 H2 x y v1 v2 _ Q R2.ex (peek_ok R2 (V1.fr F2) e1) p2 h2 fun r v H' hr hres => ?_
      obtain ⟨G', ow', F3, R3, V3⟩ := res_fin R2 hres
      exact kk r ε2 G' H' ow' v hr (F.trans F3) R3 (V3.since F.dom)
    | none =>
      simp only [e1] at h2
      split at h2
      · rename_i k ts en
        obtain ⟨m, hm, h3⟩ := onO_get h2
        obtain ⟨r, hr, h4⟩ := onO_get h3
        obtain ⟨i, p, a, fr, t, rfl, hl, hg⟩ := nodeAt_is en
        obtain ⟨vs, hH, hT, _, _, _⟩ := node_at R2 hl hg
        have hv : v1 = .ref a := V1.fr F2
        subst hv
        cases p2.int
        obtain ⟨w, hw, V⟩ := kid_ok (Hs := H) (ow := ow2) (σ := σ) hr hT
        refine .inl ⟨a, vs, k, w, rfl, rfl, .inl (.inl hH), ?_, kk r ε2 G2 H2 ow2 w h4 F R2 V⟩
        unfold atI
        rw [toks_len hT, hm]
        exact hw
      · exact h2.elim
theorem dv_ixA {X : Cx} {a b : Expr} {ta tb : TD} {pos : Pos} (ha : DV X a ta) (hb : DV X b tb) (hs : PlainIx b) : DV X (.Subscript a b pos) (dIxA ta tb) := pe_w (pe_ix ix_seq ha hb hs) fun _ _ _ h => dix_rd h
/-! ### len(x), x perhaps a place -/
def lenA (ε : Ep) (rs : List Vl) (A : Vl → Prop) : Prop := match rs with
  | [r] => match peek ε r with
    | some x => kLen [x] A
    | none => match nodeAt ε r with
      | some (.lst, ts) => A (.d (.int (ts.length : Nat)))
      | _ => False
  | _ => False
def dLenA (ta : TDA) : TD := fun ε A => ta ε fun rs ε1 => lenA ε1 rs fun r => A r ε1
theorem dlen_rd {K : PySem.W.Frag} {ta : TDA} {σ : L2.St} {H : Hp} {Q : VK} (h : rdV K (dLenA ta) σ H Q) : rdA K ta σ H (fun xs H1 => ∃ x n, xs = [x] ∧ LenV K x H1 n ∧ Q (.int n) H1) := by
  obtain ⟨c, G, ow, ε, A, R, h, kk⟩ := h
  refine ⟨c, G, ow, ε, _, R, h, fun rs ε1 G1 H1 ow1 vs h1 F1 R1 V1 => ?_⟩
  unfold lenA at h1
  split at h1
  · rename_i r
    obtain ⟨v, us, rfl, V, hus⟩ := V1
    have hus : us = [] := hus
    subst hus
    cases e1 : peek ε1 r with
    | some x =>
      simp only [e1] at h1
      refine cd_len G1 H1 [x] [v] _ Q R1.ex (.cons (peek_ok R1 V e1) .nil) h1 fun r' v' H' hr hres => ?_
      obtain ⟨G', ow', F3, R3, V3⟩ := res_fin R1 hres
      exact kk r' ε1 G' H' ow' v' hr (F1.trans F3) R3 (V3.since F1.dom)
    | none =>
      simp only [e1] at h1
      split at h1
      · rename_i ts en
        obtain ⟨i, p, a, fr, t, rfl, hl, hg⟩ := nodeAt_is en
        obtain ⟨vs, hH, hT, _, _, _⟩ := node_at R1 hl hg
        have hv : v = .ref a := V
        subst hv
        exact ⟨_, _, rfl, .inl ⟨vs, .inl (.inl hH), (toks_len hT).symm⟩, kk _ ε1 G1 H1 ow1 (.int ts.length) h1 F1 R1 (.int _)⟩
      · exact h1.elim
  · exact h1.elim
section
variable {X : Cx} {x : Str} {p pos : Pos} {e : Expr} {es : List Expr} {ta : TDA}
theorem dv_lenA (hg : Gl X x) (hm : X.mg x = none) (hv : bootBuiltins x = some (.builtin "len")) (ha : DA X (e :: es) ta) (hn : x ≠ "__name__" := by decide) (hdb : (x == ("__debug__" : Str)) = false := by decide)
    (hs : starEach (e :: es) X.env = (false, eval e X.env) :: starEach es X.env := by rfl) (hp : (backTo pos (starEach es X.env)).any (·.1) = false := by rfl) : DV X (.Call (.Name x p) (e :: es) [] pos) (dLenA ta) := pe_w (pe_callB call_len hg hm hv ha hn hdb hs hp) fun _ _ _ h => dlen_rd h
end
/-! ### what is laid into a thing -/
/-- a value as a thing within another: data, or a new thing -/
def asN (ε : Ep) (r : Vl) (A : NT → Ep → Prop) : Prop := match r with
  | .new xs => ∀ a, A (.node a .lst (xs.map .fz)) ε
  | .nt t => A t ε
  | r => match frz ε r with
    | some (x, ε') => A (.fz x) ε'
    | none => False
theorem toks_fz {K : PySem.W.Frag} {G H : Hp} : ∀ {xs : List PyData} {vs : List V}, DdAll K G vs xs → TOks K G H (xs.map .fz) vs
  | [], _, h => by
    cases h
    exact (by rw [List.map_nil, TOks])
  | x :: xs, _, h => by
    cases h with
    | cons h1 h2 =>
      rw [List.map_cons, TOks]
      exact ⟨_, _, rfl, by rw [TOk]; exact h1, toks_fz h2⟩
theorem adrs_fz : ∀ {xs : List PyData}, adrs (xs.map .fz) = []
  | [] => by rw [List.map_nil, adrs]
  | x :: xs => by rw [List.map_cons, adrs, adr, adrs_fz]; rfl
theorem asN_ok {K : PySem.W.Frag} {c : Ct} {Gs Hs G H : Hp} {ows ow : Ow} {σ : L2.St} {ε : Ep} {r : Vl} {v : V} {A : NT → Ep → Prop} (F : Fr Gs Hs ows G H ow) (R : Rep K c G H ow σ ε) (V : VOk K Hs G H ow σ r v) (h : asN ε r A) :
    ∃ t ε' G', A t ε' ∧ Fr Gs Hs ows G' H ow ∧ Same G G' ∧ Rep K c G' H ow σ ε' ∧ TOk K G' H t v ∧ (adr t).Nodup ∧ ∀ b ∈ adr t, Hs b = none ∧ ow b = none := by
  have gen : (match frz ε r with
      | some (x, ε') => A (.fz x) ε'
      | none => False) → ∃ t ε' G', A t ε' ∧ Fr Gs Hs ows G' H ow ∧ Same G G' ∧ Rep K c G' H ow σ ε' ∧ TOk K G' H t v ∧ (adr t).Nodup ∧ ∀ b ∈ adr t, Hs b = none ∧ ow b = none := fun h => by
    cases e : frz ε r with
    | none => simp only [e] at h
    | some q =>
      obtain ⟨x, ε'⟩ := q
      simp only [e] at h
      obtain ⟨G', F', sg, R', d⟩ := frz_ok F R V e
      exact ⟨.fz x, ε', G', h, F', sg, R', by rw [TOk]; exact d, by rw [adr]; exact List.nodup_nil, fun b hb => by rw [adr] at hb; cases hb⟩
  cases r with
  | new xs =>
    obtain ⟨p, vs, rfl, h1, h2, h3, h4, h5⟩ := V
    have h : ∀ a, A (.node a .lst (xs.map .fz)) ε := h
    refine ⟨.node p .lst (xs.map .fz), ε, G, h p, F, Same.refl G, R, ?_, ?_, fun b hb => ?_⟩
    · rw [TOk]
      exact ⟨rfl, h3, trivial, vs, h4, toks_fz h5⟩
    · rw [adr, adrs_fz]
      exact List.nodup_cons.mpr ⟨(fun z => nomatch z), List.nodup_nil⟩
    · rw [adr, adrs_fz] at hb
      rw [List.mem_singleton.mp hb]
      exact ⟨h1, h2⟩
  | nt t =>
    obtain ⟨h1, h2, h3⟩ := V
    exact ⟨t, ε, G, h, F, Same.refl G, R, h1, h2, h3⟩
  | d x => exact gen h
  | dk x => exact gen h
  | bor x => exact gen h
  | v x => exact gen h
  | bp _ _ _ => exact gen h
  | ex _ => exact gen h
/-! ### stores, appends -/
def putN (ε : Ep) : Vl → NT → Ep
  | .bp i p _, u => match look ε i with
    | .nt fr t => put ε i (.nt fr (setN t p u))
    | _ => ε
  | _, _ => ε
def adOf : Vl → Addr
  | .bp _ _ a => a
  | _ => 0
theorem toks_setv {K : PySem.W.Frag} {G H : Hp} {x : PyData} {v : V} (d : Dd K G v x) : ∀ {ts : List NT} {vs : List V} (m : Nat), TOks K G H ts vs → TOks K G H (ts.set m (.fz x)) (vs.set m v)
  | [], vs, m, h => by
    rw [TOks] at h
    subst h
    exact (by rw [List.set_nil, List.set_nil, TOks])
  | t :: ts, vs, 0, h => by
    rw [TOks] at h
    obtain ⟨w, us, rfl, h1, h2⟩ := h
    rw [List.set_cons_zero, List.set_cons_zero, TOks]
    exact ⟨v, us, rfl, by rw [TOk]; exact d, h2⟩
  | t :: ts, vs, m + 1, h => by
    rw [TOks] at h
    obtain ⟨w, us, rfl, h1, h2⟩ := h
    rw [List.set_cons_succ, List.set_cons_succ, TOks]
    exact ⟨w, us.set m v, rfl, h1, toks_setv d m h2⟩
theorem toks_app {K : PySem.W.Frag} {G H : Hp} {t : NT} {v : V} (h1 : TOk K G H t v) : ∀ {ts : List NT} {vs : List V}, TOks K G H ts vs → TOks K G H (ts ++ [t]) (vs ++ [v])
  | [], vs, h => by
    rw [TOks] at h
    subst h
    show TOks K G H [t] [v]
    rw [TOks]
    exact ⟨v, [], rfl, h1, by rw [TOks]⟩
  | s :: ts, vs, h => by
    rw [TOks] at h
    obtain ⟨w, us, rfl, h2, h3⟩ := h
    show TOks K G H (s :: (ts ++ [t])) (w :: (us ++ [v]))
    rw [TOks]
    exact ⟨w, us ++ [v], rfl, h2, toks_app h1 h3⟩
theorem adrs_app : ∀ {ts us : List NT}, adrs (ts ++ us) = adrs ts ++ adrs us
  | [], us => by rw [adrs]; rfl
  | t :: ts, us => by
    show adrs (t :: (ts ++ us)) = _
    rw [adrs, adrs, adrs_app, List.append_assoc]
def sStN (te to ti : TD) : TDS := fun A ε => te ε fun r ε1 => match frz ε1 r with
  | some (x, ε2) => to ε2 fun o ε3 => ti ε3 fun s ε4 => match peek ε4 s, nodeAt ε4 o with
    | some (.int k), some (.lst, ts) => onO (ixN ts.length k) fun m => A.nx (putN ε4 o (.node (adOf o) .lst (ts.set m (.fz x))))
    | _, _ => False
  | none => False
section
variable {X : Cx} {W : WX} {e i o : Expr} {te ti to : TD} {pos pos' : Pos}
theorem ds_stN (he : DV X e te) (hto : DV X o to) (hi : DV X i ti)
    (hs : swapsWithSole [.Subscript o i pos'] e pos.line X.env = pure false := by rfl) (hw : swappedStores [.Subscript o i pos'] e X.env = pure none := by rfl)
    (h1 : (assignEach [.Subscript o i pos'] X.env).map (·.2) = [assign (.Subscript o i pos') X.env] := by rfl)
    (ha : ∀ v, assign (.Subscript o i pos') X.env v = (do
      let ov ← holding [v] (eval o X.env)
      let iv ← holding [v, ov] (eval i X.env)
      standAt pos'
      holding [v, ov, iv] (setItem ov iv v)
      release [v, ov, iv] []) := by intro _; rfl) : DS X W (.Assign [.Subscript o i pos'] e pos) (sStN te to ti) :=
  ps_w (ps_asg he (pg_sub hto hi set_list ha) hs hw h1) fun D σ H ⟨c, G, ow, ε, A, R, h, k1, k2, k3, k4, k5⟩ => ⟨c, G, ow, ε, _, R, h, fun r ε1 G1 H1 ow1 v h1 F1 R1 V1 => by
    cases q : frz ε1 r with
    | none => simp only [q] at h1
    | some z =>
      obtain ⟨x, ε2⟩ := z
      simp only [q] at h1
      obtain ⟨G2, F2, sg, R2, d⟩ := frz_ok F1 R1 V1 q
      refine ⟨c, G2, ow1, ε2, _, R2, h1, fun o ε3 G3 H3 ow3 ov h3 F3 R3 V3 => ⟨c, G3, ow3, ε3, _, R3, h3, fun s ε4 G4 H4 ow4 u h4 F4 R4 V4 => ?_⟩⟩
      split at h4
      · rename_i k ts e4 en
        obtain ⟨m, hm, h5⟩ := onO_get h4
        obtain ⟨j, p, a, fr, t, rfl, hl, hg⟩ := nodeAt_is en
        obtain ⟨vs, hH, hT, hoa, hGa, _⟩ := node_at R4 hl hg
        have hv : ov = .ref a := V3
        subst hv
        have F := ((F2.trans F3).trans F4)
        have dd : Dd X.K G4 v x := dp_ex (F3.trans F4).ex x d
        have hlt : m < ts.length := (ixN_seq hm).2.1
        have e0 : ts[m]? = some ts[m] := List.getElem?_eq_getElem hlt
        have nd : (adrs ts).Nodup := by
          obtain ⟨o', ho'⟩ := R4.some_at (i := j) (by rw [hl]; exact fun z => nomatch z)
          have q := R4.at ho'
          rw [hl] at q
          obtain ⟨w, _, _, nd, _⟩ := q
          exact (nodup_adr (nodup_getp p t nd hg)).2
        obtain ⟨ow5, F5, R5⟩ := mut_nt (h' := .lst) (ts' := ts.set m (.fz x)) F R4 R.dom hl hg trivial (toks_setv dd m hT) (adrs_set_nodup e0 nd (by rw [adr]; exact List.nodup_nil) fun b hb => by rw [adr] at hb; cases hb) fun b hb => by
          rcases adrs_set_mem e0 nd hb with q | q
          · rw [adr] at q
            cases q
          · exact .inl q.1
        refine ⟨a, vs, k, m, rfl, (peek_ok R4 V4 e4).int, hH, by rw [toks_len hT]; exact hm, ?_⟩
        have ep : putN ε4 (.bp j p a) (.node a .lst (ts.set m (.fz x))) = put ε4 j (.nt fr (setN t p (.node a .lst (ts.set m (.fz x))))) := by simp only [putN, hl]
        have h6 : A.nx (putN ε4 (.bp j p a) (.node a .lst (ts.set m (.fz x)))) := h5
        rw [ep] at h6
        exact k1 _ _ G4 _ ow5 h6 F5 R5
      · exact h4.elim⟩
end
def appN (ε : Ep) (o : Vl) (rs : List Vl) (A : Vl → Ep → Prop) : Prop := match rs with
  | [r] => asN ε r fun t ε' => match nodeAt ε' o with
    | some (.lst, ts) => ts.length < 1000000 ∧ A (.d .none) (putN ε' o (.node (adOf o) .lst (ts ++ [t])))
    | _ => False
  | _ => False
def dAppN (to : TD) (ta : TDA) : TD := fun ε A => to ε fun o ε1 => (nodeAt ε1 o).any (fun q => match q with | (.lst, _) => true | _ => false) = true ∧ ta ε1 fun rs ε2 => appN ε2 o rs A
theorem dapp_rd {K : PySem.W.Frag} {to : TD} {ta : TDA} {σ : L2.St} {H : Hp} {Q : VK} (h : rdV K (dAppN to ta) σ H Q) : tBM K "list" rAppend (rdV K to) (rdA K ta) σ H Q := by
  obtain ⟨c, G, ow, ε, A, R, h, kk⟩ := h
  refine ⟨c, G, ow, ε, _, R, h, fun o ε1 G1 H1 ow1 ov h1 F1 R1 V1 => ?_⟩
  obtain ⟨hn, h1⟩ := h1
  have ht : ∃ i p a fr t ts, o = .bp i p a ∧ look ε1 i = .nt fr t ∧ getN t p = some (.node a .lst ts) := by
    cases e : nodeAt ε1 o with
    | none => rw [e] at hn; cases hn
    | some q =>
      obtain ⟨hd, ts⟩ := q
      rw [e] at hn
      cases hd with
      | lst =>
        obtain ⟨i, p, a, fr, t, e1, e2, e3⟩ := nodeAt_is e
        exact ⟨i, p, a, fr, t, ts, e1, e2, e3⟩
      | dct _ => cases hn
      | ins _ _ _ => cases hn
  obtain ⟨i, p, a, fr, t, ts, rfl, hl, hg⟩ := ht
  obtain ⟨vs, hH, _⟩ := node_at R1 hl hg
  have hv : ov = .ref a := V1
  subst hv
  refine ⟨.inl ⟨rfl, vs, .inl (.inl hH)⟩, c, G1, ow1, ε1, _, R1, h1, fun rs ε2 G2 H2 ow2 us h2 F2 R2 V2 => ?_⟩
  unfold appN at h2
  split at h2
  · rename_i r
    obtain ⟨v, us', rfl, V, hus⟩ := V2
    have hus : us' = [] := hus
    subst hus
    obtain ⟨t', ε3, G3, h3, F3, sg, R3, T3, n3, f3⟩ := asN_ok (F1.trans F2) R2 (V.since F1.dom) h2
    split at h3
    · rename_i ts2 en
      obtain ⟨i2, p2, a2, fr2, t2, e1, hl2, hg2⟩ := nodeAt_is en
      cases e1
      obtain ⟨vs2, hH2, hT2, hoa, hGa, _⟩ := node_at R3 hl2 hg2
      obtain ⟨o', ho'⟩ := R3.some_at (i := i) (by rw [hl2]; exact fun z => nomatch z)
      have q := R3.at ho'
      rw [hl2] at q
      obtain ⟨w, _, _, ndt, own, _⟩ := q
      have nd := (nodup_adr (nodup_getp p t2 ndt hg2)).2
      have e1 : adrs [t'] = adr t' := by rw [adrs, adrs, List.append_nil]
      obtain ⟨ow5, F5, R5⟩ := mut_nt (h' := .lst) (ts' := ts2 ++ [t']) F3 R3 R.dom hl2 hg2 trivial (toks_app T3 hT2) (by
          rw [adrs_app, e1]
          refine List.nodup_append.mpr ⟨nd, n3, fun b hb b2 hb2 e => ?_⟩
          subst e
          have := own b (get_adr p t2 hg2 (by rw [adr]; exact List.mem_cons_of_mem _ hb))
          rw [(f3 b hb2).2] at this
          cases this) fun b hb => by
        rw [adrs_app, e1] at hb
        rcases List.mem_append.mp hb with hb | hb
        · exact .inl hb
        · exact .inr ⟨(f3 b hb).2, (f3 b hb).1⟩
      have h4 : A (.d .none) (putN ε3 (.bp i p a) (.node a .lst (ts2 ++ [t']))) := h3.2
      have ep : putN ε3 (.bp i p a) (.node a .lst (ts2 ++ [t'])) = put ε3 i (.nt fr2 (setN t2 p (.node a .lst (ts2 ++ [t'])))) := by simp only [putN, hl2]
      rw [ep] at h4
      exact ⟨a, vs2, v, rfl, rfl, hH2, by rw [toks_len hT2]; exact line_lt h3.1, kk _ _ G3 _ ow5 .non h4 F5 R5 .non⟩
    · exact h3.elim
  · exact h2.elim
section
variable {X : Cx} {o e : Expr} {es : List Expr} {to : TD} {t : TDA} {apos cpos : Pos}
theorem dv_appN (ho : DV X o to) (ha : DA X (e :: es) t)
    (hbase : attributeBase o "append" X.env (eval o X.env) = eval o X.env := by rfl)
    (hfew : ((backTo cpos (starEach (e :: es) X.env)).all (fun x => !x.1) && (backToKw cpos (keywordEach [] X.env)).all (fun x => x.1.isSome)
      && decide ((e :: es).length + ([] : List Keyword).length + (if ([] : List Keyword).isEmpty then 0 else 1) < 30)) = true := by rfl)
    (hline : (apos.endLine == cpos.line) = true := by rfl) (hs : starEach (e :: es) X.env = (false, eval e X.env) :: starEach es X.env := by rfl) (hplain : (backTo cpos (starEach es X.env)).any (·.1) = false := by rfl) :
    DV X (.Call (.Attribute o "append" apos) (e :: es) [] cpos) (dAppN to t) :=
  pe_w (pe_bm PySem.F.plainAttrs_list PySem.F.slot_list_append PySem.F.type_list_append mt_append ho ha hbase hfew hline hs hplain) fun _ _ _ h => dapp_rd h
end
/-! ### a name is given a thing of its own -/
def sSetN (i : Nat) (te : TD) : TDS := fun A ε => te ε fun r ε1 => asN ε1 r fun t ε2 => A.nx (put ε2 i (.nt true t))
theorem ds_setN {X : Cx} {W : WX} {e : Expr} {te : TD} {i : Nat} {x : Str} {pos pos' : Pos} (hN : X.N.Nodup) (hi : X.N[i]? = some x) (hx : Loc X.env.scope x) (he : DV X e te) (hs : swapsWith e (some (.Name x pos')) pos.line X.env = pure false := by rfl) (hf : X.fn x = true ∨ X.env.scope.names.lookup x = some .local := by first | exact .inl rfl | exact .inr rfl | assumption) :
    DS X W (.Assign [.Name x pos'] e pos) (sSetN i te) := ps_wl (ps_set hN hi hx he hs hf) fun D σ H hlen ⟨c, G, ow, ε, A, R, h, k1, k2, k3, k4, k5⟩ => ⟨c, G, ow, ε, _, R, h, fun r ε1 G1 H1 ow1 v h1 F1 R1 V1 => by
    obtain ⟨t, ε2, G2, h2, F2, sg, R2, T2, n2, f2⟩ := asN_ok F1 R1 V1 h1
    have hi2 : i < ε2.length := by
      rw [← R2.len, hlen]
      exact (List.getElem?_eq_some_iff.mp hi).1
    obtain ⟨G3, ow3, F3, R3⟩ := store_sl (r := .nt t) F2 R.dom R2 ⟨T2, n2, f2⟩ hi2 rfl
    exact k1 _ _ G3 H1 ow3 h2 F3 R3⟩
/-! ### a walk over a place -/
def slK : Vl → Sl
  | .d x => .d x
  | .bp i p a => .al i p a
  | _ => .un
theorem slK_ok {K : PySem.W.Frag} {c : Ct} {Hs G H : Hp} {ow : Ow} {σ : L2.St} {r k : Vl} {ts : List NT} {i n : Nat} {w : V} (e : kid r ts i = some k) (V : VOk K Hs G H ow σ k w) : SlOk K c G H ow n (slK k) (some w) := by
  unfold kid at e
  split at e
  · cases e
    exact ⟨w, rfl, V⟩
  · cases e
    have : w = .ref _ := V
    subst this
    rfl
  · cases e
def rdGk (K : PySem.W.Frag) (n : Nat) : TG := fun v σ H Q => ∃ c G ow ε s, Rep K c G H ow σ ε ∧ SlOk K c G H ow n s (some v) ∧ (Rep K c G H ow (σ.set n (some v)) (put ε n s) → Q (σ.set n (some v)) H)
theorem pg_k {X : Cx} {n : Nat} {x : Str} {pos : Pos} (hN : X.N.Nodup) (hi : X.N[n]? = some x) (hx : Loc X.env.scope x) (hf : X.fn x = true ∨ X.env.scope.names.lookup x = some .local := by first | exact .inl rfl | exact .inr rfl | assumption) : PG X (.Name x pos) (rdGk X.K n) :=
  pg_wl (pg_name hN hi hx hf) fun v σ H Q hlen ⟨c, G, ow, ε, s, R, hs, k⟩ => by
    have hi2 : n < ε.length := by
      rw [← R.len, hlen]
      exact (List.getElem?_eq_some_iff.mp hi).1
    exact k (rep_put R hi2 hs)
/-! ### a comprehension with one name, along a range, data or a place, of data or things -/
inductive Src where
  | rg (lo : Int) (n : Nat) | ds (l : List PyData) | pl (r : Vl)
def lenAt : Src → Ep → Option Nat
  | .rg _ n, _ => some n
  | .ds l, _ => some l.length
  | .pl r, ε => match nodeAt ε r with
    | some (.lst, ts) => some ts.length
    | _ => none
def itemAt : Src → Nat → Ep → Option Sl
  | .rg lo _, i, _ => some (.d (.int (lo + (i : Nat))))
  | .ds l, i, _ => match l[i]? with
    | some x => some (.d x)
    | none => none
  | .pl r, i, ε => match nodeAt ε r with
    | some (.lst, ts) => match kid r ts i with
      | some k => some (slK k)
      | none => none
    | _ => none
def lcGoX (S : Src) (n : Nat) (tt : TDT) (te : TD) (vs : List Nat) (A : List NT → Ep → Prop) : Nat → Nat → List NT → Ep → Prop
  | 0, i, acc, ε => lenAt S ε = some i ∧ A acc ε
  | f + 1, i, acc, ε => lenAt S ε = some (i + (f + 1)) ∧ onO (itemAt S i ε) fun s => tt (put ε n s) fun b ε2 => onB b (te ε2 fun q ε3 => asN ε3 q fun t ε4 => acc.length < 1000000 ∧ lcGoX S n tt te vs A f (i + 1) (acc ++ [t]) (wipeE ε4 vs)) (lcGoX S n tt te vs A f (i + 1) acc (wipeE ε2 vs))
def resN (D : Addr) (acc : List NT) : Vl := match fzAll acc with
  | some xs => .new xs
  | none => .nt (.node D .lst acc)
theorem resN_ok {K : PySem.W.Frag} {Hs G H : Hp} {ow : Ow} {σ : L2.St} {D : Addr} {acc : List NT} {va : List V} (h1 : Hs D = none) (h2 : ow D = none) (h3 : G D = none) (h4 : H D = some (.lst va)) (h5 : TOks K G H acc va) (h6 : (adrs acc).Nodup) (h7 : D ∉ adrs acc) (h8 : ∀ b ∈ adrs acc, Hs b = none ∧ ow b = none) : VOk K Hs G H ow σ (resN D acc) (.ref D) := by
  unfold resN
  split
  · rename_i xs e
    exact ⟨D, va, rfl, h1, h2, h3, h4, fzAll_ok e h5⟩
  · refine ⟨?_, ?_, fun b hb => ?_⟩
    · rw [TOk]
      exact ⟨rfl, h3, trivial, va, h4, h5⟩
    · rw [adr]
      exact List.nodup_cons.mpr ⟨h7, h6⟩
    · rw [adr] at hb
      rcases List.mem_cons.mp hb with rfl | hb
      · exact ⟨h1, h2⟩
      · exact h8 b hb
theorem lcx_core {K : PySem.W.Frag} {c : Ct} {G0 H0 : Hp} {ow0 : Ow} {G H : Hp} {ow : Ow} {σ : L2.St} {ε : Ep} {A : List NT → Ep → Prop} {Q : VK} {J : It} {S : Src} {n : Nat} {vs : List Nat} {tt : TDT} {te : TD} {L : Nat} (hn : n ∈ vs) (R : Rep K c G H ow σ ε) (F : Fr G0 H0 ow0 G H ow)
    (h : lcGoX S n tt te vs A L 0 [] (wipeE ε vs))
    (hgo : ∀ i s H' G' ow' ε', i < L → lenAt S ε' = some L → itemAt S i ε' = some s → Fr G H ow G' H' ow' → Rep K c G' H' ow' (wipe σ vs) ε' → J.go i H' ∧ ∀ y H2, J.yld i H' y H2 → H2 = H' ∧ SlOk K c G' H' ow' n s (some y)) (hst : ∀ H' G' ow' ε', lenAt S ε' = some L → Fr G H ow G' H' ow' → Rep K c G' H' ow' (wipe σ vs) ε' → J.stop L H')
    (kk : ∀ acc ε' G' H' ow' v D, A acc ε' → Fr G0 H0 ow0 G' H' ow' → Rep K c G' H' ow' σ (rstE ε ε' vs) → VOk K H0 G' H' ow' σ (resN D acc) v → Q v H') :
    ∀ D, H D = none → ∃ W : Nat → Nat → Hp → Prop, (∃ m, W 0 m (upd H D (.lst []))) ∧ ∀ i m H, W i m H →
      (J.stop i H ∧ Q (.ref D) H) ∨ (J.go i H ∧ ∃ Nx : Hp → Prop, (∀ H', Nx H' → ∃ m', m' < m ∧ W (i + 1) m' H') ∧ ∀ x H', J.yld i H x H' → rdGk K n x (wipe σ vs) H' fun σ2 H2 => wipe σ2 vs = wipe σ vs ∧ rdT K tt σ2 H2 fun b H3 =>
        if b = true then rdV K te σ2 H3 fun y H4 => ∃ acc, H4 D = some (.lst acc) ∧ acc.length < sizeLine ∧ Nx (upd H4 D (.lst (acc ++ [y]))) else Nx H3) := by
  intro D hD
  have Rw := rep_wipe vs R
  obtain ⟨F1, R1, z1, z2⟩ := grow_new (o := .lst []) Rw hD
  let W : Nat → Nat → Hp → Prop := fun i m H' => m + i = L ∧ ∃ G' ow' ε' acc va, Fr G H ow G' H' ow' ∧ Rep K c G' H' ow' (wipe σ vs) ε' ∧ ow' D = none ∧ G' D = none ∧ H' D = some (.lst va) ∧ TOks K G' H' acc va ∧ (adrs acc).Nodup ∧ D ∉ adrs acc ∧ (∀ b ∈ adrs acc, H0 b = none ∧ ow' b = none) ∧ lcGoX S n tt te vs A m i acc ε'
  refine ⟨W, ⟨L, rfl, G, _, _, [], [], F1, R1, z1, z2, upd_same, by rw [TOks], List.nodup_nil, (fun z => nomatch z), (fun b hb => nomatch hb), h⟩, ?_⟩
  rintro i m H1 ⟨em, G1, ow1, ε1, acc, va, F1, R1, d1, d2, d3, d4, d5, d6, d7, h1⟩
  cases m with
  | zero =>
    have e : i = L := by omega
    subst e
    obtain ⟨hl, h1⟩ := h1
    exact .inl ⟨hst H1 G1 ow1 ε1 hl F1 R1, kk acc ε1 G1 H1 ow1 (.ref D) D h1 (F.trans F1) (rep_rst R F1.ex R1) (resN_ok (F.dom D hD) d1 d2 d3 d4 d5 d6 d7)⟩
  | succ m =>
    obtain ⟨hl, h1⟩ := h1
    obtain ⟨s, hs, h1⟩ := onO_get h1
    have hlL : lenAt S ε1 = some L := by rw [hl]; exact congrArg some (by omega)
    obtain ⟨g1, g2⟩ := hgo i s H1 G1 ow1 ε1 (by omega) hlL hs F1 R1
    refine .inr ⟨g1, fun H' => W (i + 1) m H', fun H' q => ⟨m, Nat.lt_succ_self m, q⟩, fun y H2 hy => ?_⟩
    obtain ⟨rfl, sok⟩ := g2 y H2 hy
    refine ⟨c, G1, ow1, ε1, s, R1, sok, fun R2 => ?_⟩
    have ew : wipe ((wipe σ vs).set n (some y)) vs = wipe σ vs := by
      apply List.ext_getElem?
      intro j
      by_cases hj : j ∈ vs
      · by_cases hl : j < σ.length
        · rw [wipe_in hj (by rw [List.length_set, wipe_length]; exact hl), wipe_in hj hl]
        · rw [List.getElem?_eq_none (by rw [wipe_length, List.length_set, wipe_length]; omega), List.getElem?_eq_none (by rw [wipe_length]; omega)]
      · rw [wipe_out hj, List.getElem?_set_ne (fun e => hj (by rw [← e]; exact hn))]
    refine ⟨ew, c, G1, ow1, _, _, R2, h1, fun b ε3 G3 H3 ow3 q3 F3 R3 => ?_⟩
    obtain ⟨s1, s2, s3⟩ := F3.st D _ d3 d1
    have grow : ∀ {G' H' ow'}, Fr G1 H2 ow1 G' H' ow' → TOks K G' H' acc va ∧ ∀ b ∈ adrs acc, H0 b = none ∧ ow' b = none := fun {G' H' ow'} F' => by
      have hh := TOks.has acc d4
      refine ⟨d4.grow F'.ex acc fun b hb hg u hu => ?_, fun b hb => ⟨(d7 b hb).1, ?_⟩⟩
      · obtain ⟨q1, q2, q3⟩ := F'.st b u hu (d7 b hb).2
        exact ⟨q3 hg, q1⟩
      · obtain ⟨u, hu⟩ := (hh b hb).2
        exact (F'.st b u hu (d7 b hb).2).2.1
    cases b with
    | false =>
      obtain ⟨t1, t2⟩ := grow F3
      refine iteF ⟨by omega, G3, ow3, _, acc, va, F1.trans F3, ?_, s2, s3 d2, s1, t1, d5, d6, t2, q3⟩
      rw [← ew]
      exact rep_wipe vs R3
    | true =>
      refine iteT ⟨c, G3, ow3, ε3, _, R3, q3, fun r ε4 G4 H4 ow4 v q4 F4 R4 V4 => ?_⟩
      obtain ⟨t, ε5, G5, q5, F5, sg, R5, T5, n5, f5⟩ := asN_ok F4 R4 V4 q4
      obtain ⟨t1, t2, t3⟩ := F5.st D _ s1 s2
      have F35 := F3.trans F5
      obtain ⟨e1, e2⟩ := grow F35
      have Fa := F1.trans F35
      obtain ⟨Fb, Rb⟩ := mut_tmp (o := .lst (va ++ [v])) R5 Fa hD t2 (t3 (s3 d2))
      have hD3 : H3 D ≠ none := by rw [s1]; exact fun z => nomatch z
      have Dt : D ∉ adr t := fun hm => hD3 (f5 D hm).1
      have upk : ∀ b, b ≠ D → ∀ o, H4 b = some o → upd H4 D (.lst (va ++ [v])) b = some o := fun b hb o ho => by rw [upd_ne hb]; exact ho
      refine ⟨va, t1, ?_, by omega, G5, ow4, _, acc ++ [t], va ++ [v], Fb, ?_, t2, t3 (s3 d2), upd_same, ?_, ?_, ?_, fun b hb => ?_, q5.2⟩
      · rw [toks_len d4]
        exact line_lt q5.1
      · rw [← ew]
        exact rep_wipe vs Rb
      · refine toks_app (T5.grow (Same.refl G5) t fun b hb hg u hu => ⟨hg, upk b (fun e => Dt (e ▸ hb)) u hu⟩) (e1.grow (Same.refl G5) acc fun b hb hg u hu => ⟨hg, upk b (fun e => d6 (e ▸ hb)) u hu⟩)
      · have e : adrs [t] = adr t := by rw [adrs, adrs, List.append_nil]
        rw [adrs_app, e]
        refine List.nodup_append.mpr ⟨d5, n5, fun b hb b2 hb2 eb => ?_⟩
        subst eb
        obtain ⟨u, hu⟩ := (TOks.has acc d4 b hb).2
        have := (F3.st b u hu (d7 b hb).2).1
        rw [(f5 b hb2).1] at this
        cases this
      · have e : adrs [t] = adr t := by rw [adrs, adrs, List.append_nil]
        rw [adrs_app, e]
        exact fun hm => (List.mem_append.mp hm).elim d6 Dt
      · have e : adrs [t] = adr t := by rw [adrs, adrs, List.append_nil]
        rw [adrs_app, e] at hb
        rcases List.mem_append.mp hb with hb | hb
        · exact e2 b hb
        · refine ⟨?_, (f5 b hb).2⟩
          exact F.dom b ((F1.trans F3).dom b (f5 b hb).1)
def srcOf (ε : Ep) (r : Vl) : Option (Src × Ep) := match nodeAt ε r with
  | some (.lst, _) => some (.pl r, ε)
  | _ => match frz ε r with
    | some (x, ε') => match itsOf x with
      | some ds => some (.ds ds, ε')
      | none => none
    | none => none
def dLcXA (to : TD) (n : Nat) (tt : TDT) (te : TD) (vs : List Nat) : TD := fun ε A => to ε fun r ε1 => onO (srcOf ε1 r) fun z => onO (lenAt z.1 (wipeE z.2 vs)) fun L => lcGoX z.1 n tt te vs (fun acc ε' => ∀ D, A (resN D acc) (rstE z.2 ε' vs)) L 0 [] (wipeE z.2 vs)
def dLcXR (ta : TDA) (n : Nat) (tt : TDT) (te : TD) (vs : List Nat) : TD := fun ε A => ta ε fun rs ε1 => match peekAll ε1 rs with
  | some [.int j] => -(2 ^ 62) ≤ j ∧ j < 2 ^ 62 ∧ lcGoX (.rg 0 j.toNat) n tt te vs (fun acc ε' => ∀ D, A (resN D acc) (rstE ε1 ε' vs)) j.toNat 0 [] (wipeE ε1 vs)
  | _ => False
theorem lcXR_rd {K : PySem.W.Frag} {ta : TDA} {n : Nat} {tt : TDT} {te : TD} {vs : List Nat} {σ : L2.St} {H : Hp} {Q : VK} (hn : n ∈ vs) (h : rdV K (dLcXR ta n tt te vs) σ H Q) : tLc (iRng1 (rdA K ta)) (rdGk K n) (rdT K tt) (rdV K te) vs σ H Q := by
  obtain ⟨c, G, ow, ε, A, R, h, kk⟩ := h
  refine ⟨c, G, ow, ε, _, R, h, fun rs ε1 G1 H1 ow1 us h1 F1 R1 V1 => ?_⟩
  cases q : peekAll ε1 rs with
  | none => simp only [q] at h1
  | some xs =>
    have P := peekAll_ok R1 V1 q
    have key : ∃ j, xs = [.int j] := by
      rw [q] at h1
      split at h1
      · rename_i j e
        exact ⟨j, Option.some.inj e⟩
      · exact h1.elim
    obtain ⟨j, rfl⟩ := key
    simp only [q] at h1
    match P with
    | .cons d .nil =>
      refine ⟨j, by rw [Pk.int d], h1.1, h1.2.1, lcx_core hn R1 F1 h1.2.2 (fun i s H' G' ow' ε' hi _ hs f1 r1 => ?_) (fun H' G' ow' ε' _ f1 r1 => Nat.le_refl _) fun acc ε' G' H' ow' v D q F R V => kk _ _ G' H' ow' v (q D) F R V⟩
      cases hs
      exact ⟨hi, fun y H2 hy => ⟨hy.1, by rw [hy.2]; exact ⟨_, rfl, .int _⟩⟩⟩
theorem lcXA_rd {K : PySem.W.Frag} {to : TD} {n : Nat} {tt : TDT} {te : TD} {vs : List Nat} {σ : L2.St} {H : Hp} {Q : VK} (hn : n ∈ vs) (h : rdV K (dLcXA to n tt te vs) σ H Q) : tLc (iAny K (rdV K to)) (rdGk K n) (rdT K tt) (rdV K te) vs σ H Q := by
  obtain ⟨c, G, ow, ε, A, R, h, kk⟩ := h
  refine ⟨c, G, ow, ε, _, R, h, fun r ε1 G1 H1 ow1 v h1 F1 R1 V1 => ?_⟩
  obtain ⟨z, hz, h1⟩ := onO_get h1
  obtain ⟨L, hL, h1⟩ := onO_get h1
  unfold srcOf at hz
  split at hz
  · rename_i ts en
    cases hz
    obtain ⟨j, p, a, fr, t, rfl, hl, hg⟩ := nodeAt_is en
    obtain ⟨us, hH, hT, _⟩ := node_at R1 hl hg
    have hv : v = .ref a := V1
    subst hv
    have at' : ∀ {G' H' ow' ε'}, lenAt (.pl (.bp j p a)) ε' = some L → Rep K c G' H' ow' (wipe σ vs) ε' → ∃ ts2 us2, nodeAt ε' (.bp j p a) = some (.lst, ts2) ∧ H' a = some (.lst us2) ∧ TOks K G' H' ts2 us2 ∧ ts2.length = L := fun {G' H' ow' ε'} hl2 R2 => by
      simp only [lenAt] at hl2
      split at hl2
      · rename_i ts2 en2
        obtain ⟨j2, p2, a2, fr2, t2, e2, hl3, hg3⟩ := nodeAt_is en2
        cases e2
        obtain ⟨us2, hH2, hT2, _⟩ := node_at R2 hl3 hg3
        exact ⟨ts2, us2, en2, hH2, hT2, Option.some.inj hl2⟩
      · cases hl2
    refine .inl ⟨a, us, rfl, .inl (.inl hH), lcx_core (J := Itl K a) hn R1 F1 h1 (fun i s H' G' ow' ε' hi hl2 hs f1 r1 => ?_) (fun H' G' ow' ε' hl2 f1 r1 => ?_) fun acc ε' G' H' ow' v D q F R V => kk _ _ G' H' ow' v (q D) F R V⟩
    · obtain ⟨ts2, us2, en2, hH2, hT2, hlen⟩ := at' hl2 r1
      simp only [itemAt, en2] at hs
      split at hs
      · rename_i k hk
        cases hs
        obtain ⟨w, hw, V⟩ := kid_ok (Hs := H) (ow := ow') (σ := wipe σ vs) hk hT2
        have hS : SqL K H' a us2 := .inl (.inl hH2)
        refine ⟨⟨us2, w, hS, hw⟩, fun y H2 hy => ⟨hy.1, ?_⟩⟩
        have e := hy.2 us2 hS
        rw [hw] at e
        cases e
        exact slK_ok hk V
      · cases hs
    · obtain ⟨ts2, us2, en2, hH2, hT2, hlen⟩ := at' hl2 r1
      exact ⟨us2, .inl (.inl hH2), by rw [toks_len hT2, hlen]; exact Nat.le_refl _⟩
  · split at hz
    · rename_i x ε2 q
      split at hz
      · rename_i ds hds
        cases hz
        cases hL
        obtain ⟨G2, F2, sg, R2, d⟩ := frz_ok F1 R1 V1 q
        obtain ⟨J, hJ, j1, j2⟩ := its_core R2.ex d hds
        have core := lcx_core (J := J) (Q := Q) hn R2 F2 h1 (fun i s H' G' ow' ε' hi hl2 hs f1 r1 => by
          simp only [itemAt] at hs
          split at hs
          · rename_i y hy
            cases hs
            obtain ⟨g1, g2⟩ := j1 i y G' H' hy f1.ex r1.ex
            exact ⟨g1, fun u H2 hu => ⟨(g2 u H2 hu).1, u, rfl, (g2 u H2 hu).2⟩⟩
          · cases hs) (fun H' G' ow' ε' _ f1 r1 => j2 G' H' f1.ex r1.ex) fun acc ε' G' H' ow' v D q F R V => kk _ _ G' H' ow' v (q D) F R V
        rcases hJ with ⟨a, us, e1, e2, rfl⟩ | ⟨a, us, e1, e2, rfl⟩ | ⟨z, e1, rfl⟩
        · exact .inl ⟨a, us, e1, e2, core⟩
        · exact .inr (.inl ⟨a, us, e1, e2, core⟩)
        · exact .inr (.inr ⟨z, e1, core⟩)
      · cases hz
    · cases hz
section
variable {X : Cx} {W : WX} {elt iter : Expr} {ifs : List Expr} {scope : Scope} {own : List (Str × Nat)} {pos spos py px : Pos} {to : TD} {ta : TDA} {tt : TDT} {te : TD} {n i : Nat} {x y : Str}
structure BlkX (X : Cx) (x : Str) (px : Pos) (ifs : List Expr) (elt : Expr) (scope : Scope) (own : List (Str × Nat)) (n : Nat) (tt : TDT) (te : TD) : Prop where
  ok : BlkOk X.N X.env.scope scope own
  sub : n ∈ own.map (·.2)
  tgt : ∀ (s : Shared) (H : Hp) (C : Addr) (cl : List (Str × Addr)) (fp : List Addr), PG (X.blk s H scope (compEnvC scope cl C X.env) fp) (.Name x px) (rdGk X.K n)
  tst : ∀ (s : Shared) (H : Hp) (C : Addr) (cl : List (Str × Addr)) (fp : List Addr), DTs (X.blk s H scope (compEnvC scope cl C X.env) fp) ifs tt
  elt : ∀ (s : Shared) (H : Hp) (C : Addr) (cl : List (Str × Addr)) (fp : List Addr), DV (X.blk s H scope (compEnvC scope cl C X.env) fp) elt te
theorem dv_lcXA (hc : X.calm = true) (hN : X.N.Nodup) (hi : DV X iter to) (b : BlkX X x px ifs elt scope own n tt te) (hs : ∀ x, foldedSetIterable iter X.env x = pure x := by intro _; rfl) : DV X (.ListComp elt [⟨.Name x px, iter, ifs, 0⟩] scope pos) (dLcXA to n tt te (own.map (·.2))) :=
  pe_w (pe_lc hc hN (pi_any hi) b.ok b.tgt b.tst b.elt hs) fun _ _ _ h => lcXA_rd b.sub h
theorem ds_lcXA (hc : X.calm = true) (hN : X.N.Nodup) (hy : X.N[i]? = some y) (hyl : X.env.scope.names.lookup y = some .local) (hsw : swapsWith (.ListComp elt [⟨.Name x px, iter, ifs, 0⟩] scope pos) (some (.Name y py)) spos.line X.env = pure true)
    (hi : DV X iter to) (b : BlkX X x px ifs elt scope own n tt te) (hs : ∀ x, foldedSetIterable iter X.env x = pure x := by intro _; rfl) : DS X W (.Assign [.Name y py] (.ListComp elt [⟨.Name x px, iter, ifs, 0⟩] scope pos) spos) (sSet i (dLcXA to n tt te (own.map (·.2)))) :=
  ps_wl (ps_setLc hc hN hy hyl hsw (pi_any hi) b.ok b.tgt b.tst b.elt hs) fun _ _ _ hl h => setlc_rd (fun _ => lcXA_rd b.sub) (by rw [hl]; exact (List.getElem?_eq_some_iff.mp hy).1) h
theorem dv_lcXR {a : Expr} {p pos' : Pos} (hc : X.calm = true) (hN : X.N.Nodup) (hgl : Gl X "range") (hm : X.mg "range" = none) (ha : DA X [a] ta) (b : BlkX X x px ifs elt scope own n tt te) (hs : starEach [a] X.env = [(false, eval a X.env)] := by rfl) :
    DV X (.ListComp elt [⟨.Name x px, .Call (.Name "range" p) [a] [] pos', ifs, 0⟩] scope pos) (dLcXR ta n tt te (own.map (·.2))) :=
  pe_w (pe_lc hc hN (pi_range1 hgl hm ha hs) b.ok b.tgt b.tst b.elt) fun _ _ _ h => lcXR_rd b.sub h
theorem ds_lcXR {a : Expr} {p pos' : Pos} (hc : X.calm = true) (hN : X.N.Nodup) (hy : X.N[i]? = some y) (hyl : X.env.scope.names.lookup y = some .local) (hsw : swapsWith (.ListComp elt [⟨.Name x px, .Call (.Name "range" p) [a] [] pos', ifs, 0⟩] scope pos) (some (.Name y py)) spos.line X.env = pure true)
    (hgl : Gl X "range") (hm : X.mg "range" = none) (ha : DA X [a] ta) (b : BlkX X x px ifs elt scope own n tt te) (hs : starEach [a] X.env = [(false, eval a X.env)] := by rfl) : DS X W (.Assign [.Name y py] (.ListComp elt [⟨.Name x px, .Call (.Name "range" p) [a] [] pos', ifs, 0⟩] scope pos) spos) (sSet i (dLcXR ta n tt te (own.map (·.2)))) :=
  ps_wl (ps_setLc hc hN hy hyl hsw (pi_range1 hgl hm ha hs) b.ok b.tgt b.tst b.elt) fun _ _ _ hl h => setlc_rd (fun _ => lcXR_rd b.sub) (by rw [hl]; exact (List.getElem?_eq_some_iff.mp hy).1) h
end
/-! ### a walk with one name, along data or a place -/
def forGoX (S : Src) (n : Nat) (b : TDS) (A : DEnds) : Nat → Nat → Ep → Prop
  | 0, i, ε => lenAt S ε = some i ∧ A.nx ε
  | f + 1, i, ε => lenAt S ε = some (i + (f + 1)) ∧ onO (itemAt S i ε) fun s => b { nx := forGoX S n b A f (i + 1), rt := A.rt, bk := A.nx, ct := forGoX S n b A f (i + 1), xc := A.xc } (put ε n s)
def sForX (n : Nat) (to : TD) (b : TDS) : TDS := fun A ε => to ε fun r ε1 => onO (srcOf ε1 r) fun z => onO (lenAt z.1 z.2) fun L => forGoX z.1 n b A L 0 z.2
theorem forx_core {K : PySem.W.Frag} {W : WX} {c : Ct} {G0 H0 : Hp} {ow0 : Ow} {G H : Hp} {ow : Ow} {σ : L2.St} {ε : Ep} {A : DEnds} {D : Ends} {J : It} {S : Src} {n L : Nat} {tb : TDS} (R : Rep K c G H ow σ ε) (F : Fr G0 H0 ow0 G H ow) (h : forGoX S n tb A L 0 ε)
    (hgo : ∀ i s H' G' ow' σ' ε', i < L → lenAt S ε' = some L → itemAt S i ε' = some s → Fr G H ow G' H' ow' → Rep K c G' H' ow' σ' ε' → J.go i H' ∧ ∀ y H2, J.yld i H' y H2 → H2 = H' ∧ SlOk K c G' H' ow' n s (some y)) (hst : ∀ H' G' ow' σ' ε', lenAt S ε' = some L → Fr G H ow G' H' ow' → Rep K c G' H' ow' σ' ε' → J.stop L H')
    (k1 : ∀ ε' σ' G' H' ow', A.nx ε' → Fr G0 H0 ow0 G' H' ow' → Rep K c G' H' ow' σ' ε' → D.nx σ' H')
    (k2 : ∀ r ε' σ' G' H' ow' v, A.rt r ε' → Fr G0 H0 ow0 G' H' ow' → Rep K c G' H' ow' σ' ε' → VOk K c.H0 G' H' ow' [] r v → D.rt v H')
    (k5 : ∀ nm ε' σ' G' H' ow', A.xc nm ε' → Fr G0 H0 ow0 G' H' ow' → Rep K c G' H' ow' σ' ε' → XW K W nm σ' H') :
    ∃ U : Nat → Nat → L2.St → Hp → Prop, (∃ m, U 0 m σ H) ∧ ∀ i m σ H, U i m σ H →
      (J.stop i H ∧ D.nx σ H) ∨ (J.go i H ∧ ∃ N : L2.St → Hp → Prop, (∀ σ' H', N σ' H' → ∃ m', m' < m ∧ U (i + 1) m' σ' H') ∧ ∀ x H', J.yld i H x H' → rdGk K n x σ H' fun σ2 H2 => rdS K W tb { D with nx := N, ct := N, bk := D.nx } σ2 H2) := by
  let U : Nat → Nat → L2.St → Hp → Prop := fun i m σ' H' => m + i = L ∧ ∃ G' ow' ε', Fr G H ow G' H' ow' ∧ Rep K c G' H' ow' σ' ε' ∧ forGoX S n tb A m i ε'
  refine ⟨U, ⟨L, rfl, G, ow, ε, Fr.refl _ _ _, R, h⟩, ?_⟩
  rintro i m σ1 H1 ⟨em, G1, ow1, ε1, F1, R1, h1⟩
  cases m with
  | zero =>
    have e : i = L := by omega
    subst e
    exact .inl ⟨hst H1 G1 ow1 σ1 ε1 h1.1 F1 R1, k1 ε1 σ1 G1 H1 ow1 h1.2 (F.trans F1) R1⟩
  | succ m =>
    obtain ⟨hl, h1⟩ := h1
    obtain ⟨s, hs, h1⟩ := onO_get h1
    have hlL : lenAt S ε1 = some L := by rw [hl]; exact congrArg some (by omega)
    obtain ⟨g1, g2⟩ := hgo i s H1 G1 ow1 σ1 ε1 (by omega) hlL hs F1 R1
    refine .inr ⟨g1, fun σ' H' => U (i + 1) m σ' H', fun σ' H' q => ⟨m, Nat.lt_succ_self m, q⟩, fun y H2 hy => ?_⟩
    obtain ⟨rfl, sok⟩ := g2 y H2 hy
    refine ⟨c, G1, ow1, ε1, s, R1, sok, fun R2 => ?_⟩
    exact ⟨c, G1, ow1, _, _, R2, h1, fun ε' σ' G' H' ow' z F3 R3 => ⟨by omega, G', ow', ε', F1.trans F3, R3, z⟩, fun r ε' σ' G' H' ow' v z F3 R3 V => k2 r ε' σ' G' H' ow' v z (F.trans (F1.trans F3)) R3 V,
      fun ε' σ' G' H' ow' z F3 R3 => k1 ε' σ' G' H' ow' z (F.trans (F1.trans F3)) R3, fun ε' σ' G' H' ow' z F3 R3 => ⟨by omega, G', ow', ε', F1.trans F3, R3, z⟩, fun nm ε' σ' G' H' ow' z F3 R3 => k5 nm ε' σ' G' H' ow' z (F.trans (F1.trans F3)) R3⟩
theorem ds_forX {X : Cx} {W : WX} {iter : Expr} {body : List Stmt} {to : TD} {tb : TDS} {n : Nat} {x : Str} {pos pos' : Pos} (hp : PassesOwn (model X.prog X.w) X.A X.env X.xe) (hc : X.calm = true) (hN : X.N.Nodup) (hn : X.N[n]? = some x) (hx : Loc X.env.scope x) (hi : DV X iter to) (hb : DSs X W body tb)
    (hf : X.fn x = true ∨ X.env.scope.names.lookup x = some .local := by first | exact .inl rfl | exact .inr rfl | assumption) (hs : ∀ x, foldedSetIterable iter X.env x = pure x := by intro _; rfl) : DS X W (.For (.Name x pos') iter body [] pos) (sForX n to tb) :=
  ps_w (ps_for hp hc (pi_any hi) (pg_k hN hn hx hf) hb hs) fun D σ H ⟨c, G, ow, ε, A, R, h, k1, k2, k3, k4, k5⟩ => ⟨c, G, ow, ε, _, R, h, fun r ε1 G1 H1 ow1 v h1 F1 R1 V1 => by
    obtain ⟨z, hz, h1⟩ := onO_get h1
    obtain ⟨L, hL, h1⟩ := onO_get h1
    unfold srcOf at hz
    split at hz
    · rename_i ts en
      cases hz
      obtain ⟨j, p, a, fr, t, rfl, hl, hg⟩ := nodeAt_is en
      obtain ⟨us, hH, hT, _⟩ := node_at R1 hl hg
      have hv : v = .ref a := V1
      subst hv
      have at' : ∀ {G' H' ow' σ' ε'}, lenAt (.pl (.bp j p a)) ε' = some L → Rep X.K c G' H' ow' σ' ε' → ∃ ts2 us2, nodeAt ε' (.bp j p a) = some (.lst, ts2) ∧ H' a = some (.lst us2) ∧ TOks X.K G' H' ts2 us2 ∧ ts2.length = L := fun {G' H' ow' σ' ε'} hl2 R2 => by
        simp only [lenAt] at hl2
        split at hl2
        · rename_i ts2 en2
          obtain ⟨j2, p2, a2, fr2, t2, e2, hl3, hg3⟩ := nodeAt_is en2
          cases e2
          obtain ⟨us2, hH2, hT2, _⟩ := node_at R2 hl3 hg3
          exact ⟨ts2, us2, en2, hH2, hT2, Option.some.inj hl2⟩
        · cases hl2
      refine .inl ⟨a, us, rfl, .inl (.inl hH), forx_core (J := Itl X.K a) R1 F1 h1 (fun i s H' G' ow' σ' ε' hi hl2 hs f1 r1 => ?_) (fun H' G' ow' σ' ε' hl2 f1 r1 => ?_) k1 k2 k5⟩
      · obtain ⟨ts2, us2, en2, hH2, hT2, hlen⟩ := at' hl2 r1
        simp only [itemAt, en2] at hs
        split at hs
        · rename_i k hk
          cases hs
          obtain ⟨w, hw, V⟩ := kid_ok (Hs := H) (ow := ow') (σ := σ') hk hT2
          have hS : SqL X.K H' a us2 := .inl (.inl hH2)
          refine ⟨⟨us2, w, hS, hw⟩, fun y H2 hy => ⟨hy.1, ?_⟩⟩
          have e := hy.2 us2 hS
          rw [hw] at e
          cases e
          exact slK_ok hk V
        · cases hs
      · obtain ⟨ts2, us2, en2, hH2, hT2, hlen⟩ := at' hl2 r1
        exact ⟨us2, .inl (.inl hH2), by rw [toks_len hT2, hlen]; exact Nat.le_refl _⟩
    · split at hz
      · rename_i x ε2 q
        split at hz
        · rename_i ds hds
          cases hz
          cases hL
          obtain ⟨G2, F2, sg, R2, d⟩ := frz_ok F1 R1 V1 q
          obtain ⟨J, hJ, j1, j2⟩ := its_core R2.ex d hds
          have core := forx_core (J := J) (D := D) R2 F2 h1 (fun i s H' G' ow' σ' ε' hi hl2 hs f1 r1 => by
            simp only [itemAt] at hs
            split at hs
            · rename_i y hy
              cases hs
              obtain ⟨g1, g2⟩ := j1 i y G' H' hy f1.ex r1.ex
              exact ⟨g1, fun u H2 hu => ⟨(g2 u H2 hu).1, u, rfl, (g2 u H2 hu).2⟩⟩
            · cases hs) (fun H' G' ow' σ' ε' _ f1 r1 => j2 G' H' f1.ex r1.ex) k1 k2 k5
          rcases hJ with ⟨a, us, e1, e2, rfl⟩ | ⟨a, us, e1, e2, rfl⟩ | ⟨z, e1, rfl⟩
          · exact .inl ⟨a, us, e1, e2, core⟩
          · exact .inr (.inl ⟨a, us, e1, e2, core⟩)
          · exact .inr (.inr ⟨z, e1, core⟩)
        · cases hz
      · cases hz⟩
end DL

/-! DL9: dicts of the def's own: a value, len, sorted keys, pop. -/
namespace DL
open PySem PySem.Spec PyProof.Rows L2
def dDGx (j : Nat) (tb : TD) : TD := fun ε A => match look ε j with
  | .dct _ _ => tb ε fun r ε1 => match peek ε1 r, look ε1 j with
    | some y, .dct _ kvs => onO (keyD y) fun k => onO (valD kvs k) fun x => A (.d x) ε1
    | _, _ => False
  | _ => False
theorem dct_ref {K : PySem.W.Frag} {c : Ct} {G H : Hp} {ow : Ow} {σ : L2.St} {ε : Ep} {j : Nat} {fr : Bool} {kvs : List (Key × PyData)} (R : Rep K c G H ow σ ε) (hl : look ε j = .dct fr kvs) : ∃ p kv, σ[j]? = some (some (.ref p)) ∧ H p = some (.dK kv) ∧ KvOk K G kv kvs := by
  obtain ⟨o, ho⟩ := R.some_at (i := j) (by rw [hl]; exact fun z => nomatch z)
  have q := R.at ho
  rw [hl] at q
  obtain ⟨p, kv, rfl, _, _, h3, h4, _⟩ := q
  exact ⟨p, kv, ho, h3, h4⟩
theorem ddgx_rd {K : PySem.W.Frag} {j : Nat} {tb : TD} {σ : L2.St} {H : Hp} {Q : VK} (h : rdV K (dDGx j tb) σ H Q) : tDGet (tVar j) (rdV K tb) σ H Q := by
  obtain ⟨c, G, ow, ε, A, R, h, kk⟩ := h
  unfold dDGx at h
  split at h
  · rename_i fr0 kvs0 hl0
    obtain ⟨p, kv0, ho, h3, h4⟩ := dct_ref R hl0
    refine ⟨.ref p, ho, c, G, ow, ε, _, R, h, fun r ε1 G1 H1 ow1 v h1 F1 R1 V1 => ?_⟩
    split at h1
    · rename_i y fr kvs e hl
      obtain ⟨k, hk, h2⟩ := onO_get h1
      obtain ⟨x, hx, h2⟩ := onO_get h2
      obtain ⟨p2, kv, ho2, e3, e4⟩ := dct_ref R1 hl
      rw [ho] at ho2
      cases ho2
      rcases kv_val (k := k) e4 with ⟨_, q⟩ | ⟨w, d, q1, q2, dd⟩
      · rw [q] at hx
        cases hx
      · rw [q2] at hx
        cases hx
        refine ⟨p, w, rfl, ?_, kk _ ε1 G1 H1 ow1 w h2 F1 R1 dd⟩
        rw [keyD_ok (peek_ok R1 V1 e) hk, ← q1]
        exact DGet.k e3
    · exact h1.elim
  · exact h.elim
theorem dv_dgx {X : Cx} {b : Expr} {tb : TD} {y : Str} {py pos : Pos} (j : Nat) (hu : X.A.units + 1 < cLine) (hb : DV X b tb) (hs : NoSl b) (hN : X.N[j]? = some y := by rfl) (hv : Vis X.env.scope y := by first | exact Or.inl rfl | exact Or.inr (Or.inl rfl) | exact Or.inr (Or.inr rfl))
    (hyd : (y == ("__debug__" : Str)) = false := by decide) (hcd : (y == ("__classdict__" : Str)) = false := by decide) : DV X (.Subscript (.Name y py) b pos) (dDGx j tb) :=
  pe_w (pe_dget hu (pe_var hN hv hyd hcd) hb hs) fun _ _ _ h => ddgx_rd h
/-! ### len(d), sorted(d) of a dict of the def's own -/
def dDLen (j : Nat) : TD := fun ε A => match look ε j with
  | .dct _ kvs => A (.d (.int (kvs.length : Nat))) ε
  | _ => False
theorem kvok_len {K : PySem.W.Frag} {G : Hp} : ∀ {a : List (Key × V)} {b : List (Key × PyData)}, KvOk K G a b → a.length = b.length
  | [], [], _ => rfl
  | [], _ :: _, h => by cases h
  | _ :: _, [], h => by cases h
  | _ :: _, _ :: _, h => by
    cases h with
    | cons _ t => rw [List.length_cons, List.length_cons, kvok_len t]
theorem kvok_keys {K : PySem.W.Frag} {G : Hp} : ∀ {a : List (Key × V)} {b : List (Key × PyData)}, KvOk K G a b → a.map (·.1) = b.map (·.1)
  | [], [], _ => rfl
  | [], _ :: _, h => by cases h
  | _ :: _, [], h => by cases h
  | _ :: _, _ :: _, h => by
    cases h with
    | cons q t => rw [List.map_cons, List.map_cons, kvok_keys t, q.1]
theorem ddlen_rd {K : PySem.W.Frag} {j : Nat} {σ : L2.St} {H : Hp} {Q : VK} (h : rdV K (dDLen j) σ H Q) : tVar j σ H fun x H1 => ∃ a kvs, [x] = [V.ref a] ∧ H1 a = some (.dK kvs) ∧ Q (.int kvs.length) H1 := by
  obtain ⟨c, G, ow, ε, A, R, h, kk⟩ := h
  unfold dDLen at h
  split at h
  · rename_i fr kvs hl
    obtain ⟨p, kv, ho, h3, h4⟩ := dct_ref R hl
    refine ⟨.ref p, ho, p, kv, rfl, h3, ?_⟩
    rw [kvok_len h4]
    exact kk _ ε G H ow (.int _) h (Fr.refl _ _ _) R (.int _)
  · exact h.elim
section
variable {X : Cx} {x y : Str} {p py pos : Pos}
theorem dv_dlen (j : Nat) (hg : Gl X x) (hm : X.mg x = none) (hv : bootBuiltins x = some (.builtin "len")) (hN : X.N[j]? = some y := by rfl) (hvy : Vis X.env.scope y := by first | exact Or.inl rfl | exact Or.inr (Or.inl rfl) | exact Or.inr (Or.inr rfl))
    (hyd : (y == ("__debug__" : Str)) = false := by decide) (hcd : (y == ("__classdict__" : Str)) = false := by decide) (hn : x ≠ "__name__" := by decide) (hdb : (x == ("__debug__" : Str)) = false := by decide)
    (hs : starEach [.Name y py] X.env = (false, eval (.Name y py) X.env) :: starEach [] X.env := by rfl) (hp : (backTo pos (starEach [] X.env)).any (·.1) = false := by rfl) : DV X (.Call (.Name x p) [.Name y py] [] pos) (dDLen j) :=
  pe_w (pe_callB call_lenD hg hm hv (L2.pa_cons (pe_var hN hvy hyd hcd) L2.pa_nil hs) hn hdb hs hp) fun _ _ _ h => ddlen_rd h
end
def dDSortI (j : Nat) : TD := fun ε A => match look ε j with
  | .dct _ kvs => ∃ ks : List Int, kvs.map (·.1) = ks.map Sum.inl ∧ ks.length < 64 ∧ ∀ ys : List Int, ys.Perm ks → ys.Pairwise (· ≤ ·) → A (.new (ys.map .int)) ε
  | _ => False
theorem ddsort_rd {K : PySem.W.Frag} {j : Nat} {σ : L2.St} {H : Hp} {Q : VK} (h : rdV K (dDSortI j) σ H Q) : tVar j σ H fun x H1 => ∃ (a : Addr) (kvs : List (Key × V)) (ks : List Int), [x] = [.ref a] ∧ Rd H1 a (.dK kvs) ∧ kvs.map (·.1) = ks.map Sum.inl ∧ ks.length < 64 ∧
    ∀ (ys : List Int) (p : Addr), ys.Perm ks → ys.Pairwise (· ≤ ·) → H1 p = none → Q (.ref p) (upd H1 p (.lst (ys.map V.int))) := by
  obtain ⟨c, G, ow, ε, A, R, h, kk⟩ := h
  unfold dDSortI at h
  split at h
  · rename_i fr kvs hl
    obtain ⟨ks, e1, e2, h⟩ := h
    obtain ⟨p, kv, ho, h3, h4⟩ := dct_ref R hl
    refine ⟨.ref p, ho, p, kv, ks, rfl, .inl h3, (kvok_keys h4).trans e1, e2, fun ys q p1 p2 hq => ?_⟩
    obtain ⟨G', ow', F3, R3, V3⟩ := res_fin R (.lst hq (dpa_ofInts ys))
    exact kk _ ε G' _ ow' _ (h ys p1 p2) F3 R3 V3
  · exact h.elim
section
variable {X : Cx} {x y : Str} {p py pos : Pos}
theorem dv_dsortI (hc : X.calm = true) (j : Nat) (hg : Gl X x) (hm : X.mg x = none) (hv : bootBuiltins x = some (.builtin "sorted")) (hN : X.N[j]? = some y := by rfl) (hvy : Vis X.env.scope y := by first | exact Or.inl rfl | exact Or.inr (Or.inl rfl) | exact Or.inr (Or.inr rfl))
    (hyd : (y == ("__debug__" : Str)) = false := by decide) (hcd : (y == ("__classdict__" : Str)) = false := by decide) (hn : x ≠ "__name__" := by decide) (hdb : (x == ("__debug__" : Str)) = false := by decide)
    (hs : starEach [.Name y py] X.env = (false, eval (.Name y py) X.env) :: starEach [] X.env := by rfl) (hp : (backTo pos (starEach [] X.env)).any (·.1) = false := by rfl) : DV X (.Call (.Name x p) [.Name y py] [] pos) (dDSortI j) :=
  pe_w (pe_callB (call_sortedDI hc) hg hm hv (L2.pa_cons (pe_var hN hvy hyd hcd) L2.pa_nil hs) hn hdb hs hp) fun _ _ _ h => ddsort_rd h
end
/-! ### d.pop(k) -/
def dropD (kvs : List (Key × PyData)) (k : Key) : List (Key × PyData) := kvs.filter fun kv => decide (kv.1 ≠ k)
theorem kv_drop {K : PySem.W.Frag} {G : Hp} {k : Key} : ∀ {a : List (Key × V)} {b : List (Key × PyData)}, KvOk K G a b → KvOk K G (dropK a k) (dropD b k)
  | [], [], _ => .nil
  | [], _ :: _, h => by cases h
  | _ :: _, [], h => by cases h
  | p :: a, q :: b, h => by
    cases h with
    | cons e t =>
      have ih := kv_drop (k := k) t
      unfold dropK dropD at ih ⊢
      rw [List.filter_cons, List.filter_cons, e.1]
      split
      · exact .cons e ih
      · exact ih
def dDPop (j : Nat) (tb : TD) : TD := fun ε A => match look ε j with
  | .dct _ _ => tb ε fun r ε1 => match peek ε1 r, look ε1 j with
    | some y, .dct fr kvs => onO (keyD y) fun k => onO (valD kvs k) fun x => A (.d x) (put ε1 j (.dct fr (dropD kvs k)))
    | _, _ => False
  | _ => False
theorem ddpop_rd {K : PySem.W.Frag} {j : Nat} {tb : TD} {σ : L2.St} {H : Hp} {Q : VK} (h : rdV K (dDPop j tb) σ H Q) : tDPop1 (tVar j) (rdV K tb) σ H Q := by
  obtain ⟨c, G, ow, ε, A, R, h, kk⟩ := h
  unfold dDPop at h
  split at h
  · rename_i fr0 kvs0 hl0
    obtain ⟨p, kv0, ho, h3, h4⟩ := dct_ref R hl0
    refine ⟨.ref p, ho, p, rfl, .inl ⟨kv0, .inl h3⟩, c, G, ow, ε, _, R, h, fun r ε1 G1 H1 ow1 v h1 F1 R1 V1 => ?_⟩
    split at h1
    · rename_i y fr kvs e hl
      obtain ⟨k, hk, h2⟩ := onO_get h1
      obtain ⟨x, hx, h2⟩ := onO_get h2
      obtain ⟨p2, kv, e2, m1, m2, m3⟩ := mut_dct (ys := dropD kvs k) R1 ho hl
      cases e2
      obtain ⟨F2, R2⟩ := m3 (dropK kv k) (kv_drop m2)
      rcases kv_val (k := k) m2 with ⟨_, q⟩ | ⟨w, d, q1, q2, dd⟩
      · rw [q] at hx
        cases hx
      · rw [q2] at hx
        cases hx
        exact ⟨kv, k, w, m1, keyD_ok (peek_ok R1 V1 e) hk, q1, kk _ _ G1 _ ow1 w h2 (F1.trans F2) R2 dd⟩
    · exact h1.elim
  · exact h.elim
theorem dv_dpop {X : Cx} {b : Expr} {tb : TD} {y : Str} {py apos cpos : Pos} (j : Nat) (hb : DV X b tb) (m : M1 X (.Name y py) "pop" apos b cpos) (hN : X.N[j]? = some y := by rfl) (hv : Vis X.env.scope y := by first | exact Or.inl rfl | exact Or.inr (Or.inl rfl) | exact Or.inr (Or.inr rfl))
    (hyd : (y == ("__debug__" : Str)) = false := by decide) (hcd : (y == ("__classdict__" : Str)) = false := by decide) : DV X (.Call (.Attribute (.Name y py) "pop" apos) [b] [] cpos) (dDPop j tb) :=
  pe_w (pe_dpop1 (pe_var hN hv hyd hcd) hb m) fun _ _ _ h => ddpop_rd h
theorem hu0_of {k : Nat} {A : Around} (hr : Room k A) : A.units < cLine := by
  have := hr.units
  omega
/-! ### d == {}, d != {} -/
def rEq0 (neg : Bool) : R2 := fun x y H Q => ∃ (a b : Addr) (ks : List (Key × V)), x = .ref a ∧ y = .ref b ∧ H a = some (.dK ks) ∧ H b = some (.dK []) ∧ Q (.bl (if neg then !ks.isEmpty else ks.isEmpty)) H
theorem op_eq0 {X : Cx} (hu : X.A.units < cLine) : OpR X (compareOp .Eq) (rEq0 false) := by
  intro pins s σ H x y v u Q I rx ry h
  obtain ⟨a, b, ks, rfl, rfl, ea, eb, q⟩ := h
  obtain rfl : v = Value.ref a := rx
  obtain rfl : u = Value.ref b := ry
  obtain ⟨_, ya, va, ra, da⟩ := (show ObjOk X.prog X.w H s.heap a (.dK ks) from I.hok a _ ea)
  obtain ⟨_, yb, vb, rb, db⟩ := (show ObjOk X.prog X.w H s.heap b (.dK []) from I.hok b _ eb)
  have hb : vb = [] := by
    have := rb.length
    exact List.length_eq_zero_iff.mp this.symm
  subst hb
  have hla := ra.length
  refine PySem.W.keq_eq (knd := mixKind X.prog X.w) (r := true) ya yb da db hu (fun e => ?_) ?_
  · have : va = [] := List.length_eq_zero_iff.mp e
    subst this
    exact .nil
  · refine ⟨.bl ks.isEmpty, H, I, ?_, q⟩
    cases ks with
    | nil =>
      have : va = [] := List.length_eq_zero_iff.mp hla.symm
      subst this
      rfl
    | cons p r =>
      cases va with
      | nil => simp at hla
      | cons p' r' => rfl
theorem op_ne0 {X : Cx} (hu : X.A.units < cLine) : OpR X (compareOp .NotEq) (rEq0 true) := by
  intro pins s σ H x y v u Q I rx ry h
  obtain ⟨a, b, ks, rfl, rfl, ea, eb, q⟩ := h
  obtain rfl : v = Value.ref a := rx
  obtain rfl : u = Value.ref b := ry
  obtain ⟨_, ya, va, ra, da⟩ := (show ObjOk X.prog X.w H s.heap a (.dK ks) from I.hok a _ ea)
  obtain ⟨_, yb, vb, rb, db⟩ := (show ObjOk X.prog X.w H s.heap b (.dK []) from I.hok b _ eb)
  have hb : vb = [] := by
    have := rb.length
    exact List.length_eq_zero_iff.mp this.symm
  subst hb
  have hla := ra.length
  refine PySem.W.keq_ne (knd := mixKind X.prog X.w) (r := true) ya yb da db hu (fun e => ?_) ?_
  · have : va = [] := List.length_eq_zero_iff.mp e
    subst this
    exact .nil
  · refine ⟨.bl (!ks.isEmpty), H, I, ?_, q⟩
    cases ks with
    | nil =>
      have : va = [] := List.length_eq_zero_iff.mp hla.symm
      subst this
      rfl
    | cons p r =>
      cases va with
      | nil => simp at hla
      | cons p' r' => rfl
def dEq0 (neg : Bool) (j : Nat) : TD := fun ε A => match look ε j with
  | .dct _ kvs => A (.d (.bool (if neg then !kvs.isEmpty else kvs.isEmpty))) ε
  | _ => False
theorem deq0_rd {K : PySem.W.Frag} {neg : Bool} {j : Nat} {σ : L2.St} {H : Hp} {Q : VK} (h : rdV K (dEq0 neg j) σ H Q) : tOp (rEq0 neg) (tVar j) tDNewK σ H Q := by
  obtain ⟨c, G, ow, ε, A, R, h, kk⟩ := h
  unfold dEq0 at h
  split at h
  · rename_i fr kvs hl
    obtain ⟨p, kv, ho, h3, h4⟩ := dct_ref R hl
    refine ⟨.ref p, ho, fun q hq => ?_⟩
    obtain ⟨F1, R1, z1, z2⟩ := grow_new (o := .dK []) R hq
    have hpq : p ≠ q := fun e => by
      rw [e, hq] at h3
      cases h3
    have ei : kv.isEmpty = kvs.isEmpty := by
      have := kvok_len h4
      cases kv <;> cases kvs <;> simp at this ⊢
    refine ⟨p, q, kv, rfl, rfl, by rw [upd_ne hpq]; exact h3, upd_same, ?_⟩
    rw [ei]
    exact kk _ ε G _ _ (.bl _) h F1 R1 (.bl _)
  · exact h.elim
section
variable {X : Cx} {y : Str} {py pos pd : Pos}
theorem dv_eq0 (j : Nat) (hu : X.A.units < cLine) (hN : X.N[j]? = some y := by rfl) (hvy : Vis X.env.scope y := by first | exact Or.inl rfl | exact Or.inr (Or.inl rfl) | exact Or.inr (Or.inr rfl))
    (hyd : (y == ("__debug__" : Str)) = false := by decide) (hcd : (y == ("__classdict__" : Str)) = false := by decide) (hm : behindInMarks .Eq (.Dict [] [] pd) = false := by rfl) : DV X (.Compare (.Name y py) [.Eq] [.Dict [] [] pd] pos) (dEq0 false j) :=
  pe_w (pe_cmpR (op_eq0 hu) (pe_var hN hvy hyd hcd) pe_dnewK hm) fun _ _ _ h => deq0_rd h
theorem dv_ne0 (j : Nat) (hu : X.A.units < cLine) (hN : X.N[j]? = some y := by rfl) (hvy : Vis X.env.scope y := by first | exact Or.inl rfl | exact Or.inr (Or.inl rfl) | exact Or.inr (Or.inr rfl))
    (hyd : (y == ("__debug__" : Str)) = false := by decide) (hcd : (y == ("__classdict__" : Str)) = false := by decide) (hm : behindInMarks .NotEq (.Dict [] [] pd) = false := by rfl) : DV X (.Compare (.Name y py) [.NotEq] [.Dict [] [] pd] pos) (dEq0 true j) :=
  pe_w (pe_cmpR (op_ne0 hu) (pe_var hN hvy hyd hcd) pe_dnewK hm) fun _ _ _ h => deq0_rd h
end
section
variable {X : Cx} {y : Str} {py pos pd : Pos}
theorem dt_eq0 (j : Nat) (hu : X.A.units < cLine) (hN : X.N[j]? = some y := by rfl) (hvy : Vis X.env.scope y := by first | exact Or.inl rfl | exact Or.inr (Or.inl rfl) | exact Or.inr (Or.inr rfl))
    (hyd : (y == ("__debug__" : Str)) = false := by decide) (hcd : (y == ("__classdict__" : Str)) = false := by decide) (hm : behindInMarks .Eq (.Dict [] [] pd) = false := by rfl) : DT X (.Compare (.Name y py) [.Eq] [.Dict [] [] pd] pos) (dTest (dEq0 false j)) :=
  pt_w (pt_cmpR (op_eq0 hu) (pe_var hN hvy hyd hcd) pe_dnewK hm) fun _ _ _ h => deq0_rd (dtest_rd h)
theorem dt_ne0 (j : Nat) (hu : X.A.units < cLine) (hN : X.N[j]? = some y := by rfl) (hvy : Vis X.env.scope y := by first | exact Or.inl rfl | exact Or.inr (Or.inl rfl) | exact Or.inr (Or.inr rfl))
    (hyd : (y == ("__debug__" : Str)) = false := by decide) (hcd : (y == ("__classdict__" : Str)) = false := by decide) (hm : behindInMarks .NotEq (.Dict [] [] pd) = false := by rfl) : DT X (.Compare (.Name y py) [.NotEq] [.Dict [] [] pd] pos) (dTest (dEq0 true j)) :=
  pt_w (pt_cmpR (op_ne0 hu) (pe_var hN hvy hyd hcd) pe_dnewK hm) fun _ _ _ h => deq0_rd (dtest_rd h)
end
theorem isnx_rd {K : PySem.W.Frag} {neg : Bool} {t : TD} {σ : L2.St} {H : Hp} {Q : VK} (h : rdV K (dIsNx neg t) σ H Q) : rdV K t σ H fun v H1 => Q (.bl (if neg then !decide (v = .non) else decide (v = .non))) H1 := by
  obtain ⟨c, G, ow, ε, A, R, h, kk⟩ := h
  refine ⟨c, G, ow, ε, _, R, h, fun r ε1 G1 H1 ow1 v h1 F1 R1 V1 => ?_⟩
  obtain ⟨b, hb, h1⟩ := onO_get h1
  rw [isnx_ok R1 V1 hb]
  exact kk _ ε1 G1 H1 ow1 (.bl b) h1 F1 R1 (.bl b)
theorem rdV_mono {K : PySem.W.Frag} {t : TD} {σ : L2.St} {H : Hp} {Q Q' : VK} (h : rdV K t σ H Q) (q : ∀ v H1, Q v H1 → Q' v H1) : rdV K t σ H Q' := by
  obtain ⟨c, G, ow, ε, A, R, h, kk⟩ := h
  exact ⟨c, G, ow, ε, A, R, h, fun r ε' G' H' ow' v a F R V => q _ _ (kk r ε' G' H' ow' v a F R V)⟩
theorem dt_isN {X : Cx} {e : Expr} {t : TD} {pos : Pos} {j : Nat} {p2 : Pos} (he : DV X e t) (hm : behindInMarks .Is (.Constant .none j p2) = false := by rfl) : DT X (.Compare e [.Is] [.Constant .none j p2] pos) (dTest (dIsNx false t)) :=
  pt_w (pt_cmpR op_isN he pe_non hm) fun σ H Q h => rdV_mono (isnx_rd (dtest_rd h)) fun v H1 q => ⟨rfl, q⟩
theorem dt_notN {X : Cx} {e : Expr} {t : TD} {pos : Pos} {j : Nat} {p2 : Pos} (he : DV X e t) (hm : behindInMarks .IsNot (.Constant .none j p2) = false := by rfl) : DT X (.Compare e [.IsNot] [.Constant .none j p2] pos) (dTest (dIsNx true t)) :=
  pt_w (pt_cmpR op_notN he pe_non hm) fun σ H Q h => rdV_mono (isnx_rd (dtest_rd h)) fun v H1 q => ⟨rfl, q⟩
/-! ### x[i] = v, x a list of the def's own or a place -/
def stX (ε : Ep) (o : Vl) (k : Int) (x : PyData) (N : Ep → Prop) : Prop := match o with
  | .bor j => match look ε j with
    | .lst fr xs => onO (ixN xs.length k) fun m => N (put ε j (.lst fr (xs.set m x)))
    | _ => False
  | o => match nodeAt ε o with
    | some (.lst, ts) => onO (ixN ts.length k) fun m => N (putN ε o (.node (adOf o) .lst (ts.set m (.fz x))))
    | _ => False
def sStX (te to ti : TD) : TDS := fun A ε => te ε fun r ε1 => match frz ε1 r with
  | some (x, ε2) => to ε2 fun o ε3 => ti ε3 fun s ε4 => match peek ε4 s with
    | some (.int k) => stX ε4 o k x A.nx
    | _ => False
  | none => False
section
variable {X : Cx} {W : WX} {e i o : Expr} {te ti to : TD} {pos pos' : Pos}
theorem ds_stX (he : DV X e te) (hto : DV X o to) (hi : DV X i ti)
    (hs : swapsWithSole [.Subscript o i pos'] e pos.line X.env = pure false := by rfl) (hw : swappedStores [.Subscript o i pos'] e X.env = pure none := by rfl)
    (h1 : (assignEach [.Subscript o i pos'] X.env).map (·.2) = [assign (.Subscript o i pos') X.env] := by rfl)
    (ha : ∀ v, assign (.Subscript o i pos') X.env v = (do
      let ov ← holding [v] (eval o X.env)
      let iv ← holding [v, ov] (eval i X.env)
      standAt pos'
      holding [v, ov, iv] (setItem ov iv v)
      release [v, ov, iv] []) := by intro _; rfl) : DS X W (.Assign [.Subscript o i pos'] e pos) (sStX te to ti) :=
  ps_w (ps_asg he (pg_sub hto hi set_list ha) hs hw h1) fun D σ H ⟨c, G, ow, ε, A, R, h, k1, k2, k3, k4, k5⟩ => ⟨c, G, ow, ε, _, R, h, fun r ε1 G1 H1 ow1 v h1 F1 R1 V1 => by
    cases q : frz ε1 r with
    | none => simp only [q] at h1
    | some z =>
      obtain ⟨x, ε2⟩ := z
      simp only [q] at h1
      obtain ⟨G2, F2, sg, R2, d⟩ := frz_ok F1 R1 V1 q
      refine ⟨c, G2, ow1, ε2, _, R2, h1, fun o ε3 G3 H3 ow3 ov h3 F3 R3 V3 => ⟨c, G3, ow3, ε3, _, R3, h3, fun s ε4 G4 H4 ow4 u h4 F4 R4 V4 => ?_⟩⟩
      split at h4
      · rename_i k e4
        have F := ((F2.trans F3).trans F4)
        have dd : Dd X.K G4 v x := dp_ex (F3.trans F4).ex x d
        unfold stX at h4
        split at h4
        · rename_i j
          split at h4
          · rename_i fr xs hl
            obtain ⟨m, hm, h5⟩ := onO_get h4
            have ho : σ[j]? = some (some ov) := V3
            obtain ⟨p2, vs2, e2, m1, m2, m3⟩ := mut_lst (ys := xs.set m x) R4 ho hl
            subst e2
            obtain ⟨F5, R5⟩ := m3 (vs2.set m v) (dpa_set m dd m2)
            exact ⟨p2, vs2, k, m, rfl, (peek_ok R4 V4 e4).int, m1, by rw [dpa_len m2]; exact hm, k1 _ _ G4 _ ow4 h5 (F.trans F5) R5⟩
          · exact h4.elim
        · split at h4
          · rename_i ts en
            obtain ⟨m, hm, h5⟩ := onO_get h4
            obtain ⟨j, p, a, fr, t, rfl, hl, hg⟩ := nodeAt_is en
            obtain ⟨vs, hH, hT, hoa, hGa, _⟩ := node_at R4 hl hg
            have hv : ov = .ref a := V3
            subst hv
            have hlt : m < ts.length := (ixN_seq hm).2.1
            have e0 : ts[m]? = some ts[m] := List.getElem?_eq_getElem hlt
            have nd : (adrs ts).Nodup := by
              obtain ⟨o', ho'⟩ := R4.some_at (i := j) (by rw [hl]; exact fun z => nomatch z)
              have q := R4.at ho'
              rw [hl] at q
              obtain ⟨w, _, _, nd, _⟩ := q
              exact (nodup_adr (nodup_getp p t nd hg)).2
            obtain ⟨ow5, F5, R5⟩ := mut_nt (h' := .lst) (ts' := ts.set m (.fz x)) F R4 R.dom hl hg trivial (toks_setv dd m hT) (adrs_set_nodup e0 nd (by rw [adr]; exact List.nodup_nil) fun b hb => by rw [adr] at hb; cases hb) fun b hb => by
              rcases adrs_set_mem e0 nd hb with q | q
              · rw [adr] at q
                cases q
              · exact .inl q.1
            refine ⟨a, vs, k, m, rfl, (peek_ok R4 V4 e4).int, hH, by rw [toks_len hT]; exact hm, ?_⟩
            have ep : putN ε4 (.bp j p a) (.node a .lst (ts.set m (.fz x))) = put ε4 j (.nt fr (setN t p (.node a .lst (ts.set m (.fz x))))) := by simp only [putN, hl]
            have h6 : A.nx (putN ε4 (.bp j p a) (.node a .lst (ts.set m (.fz x)))) := h5
            rw [ep] at h6
            exact k1 _ _ G4 _ ow5 h6 F5 R5
          · exact h4.elim
      · exact h4.elim⟩
end
/-! ### x or y, x and y as values, lists among them -/
def truL : PyData → Option Bool
  | .none => some false
  | .bool b => some b
  | .list xs => some (!xs.isEmpty)
  | .tuple xs => some (!xs.isEmpty)
  | _ => none
theorem dpa_empty {K : PySem.W.Frag} {H : Hp} {vs : List V} {xs : List PyData} (h : DdAll K H vs xs) : vs.isEmpty = xs.isEmpty := by
  have := dpa_len h
  cases vs <;> cases xs <;> simp at this ⊢
theorem truL_ok {K : PySem.W.Frag} {G H : Hp} {x : PyData} {v : V} {b : Bool} (e : Same G H) (p : Pk K G H v x) (h : truL x = some b) : TruV K v H b := by
  cases x with
  | none => cases p.non; cases h; exact rfl
  | bool c =>
    have d := p.dp e
    cases d
    cases h
    exact rfl
  | list xs =>
    obtain ⟨a, us, rfl, hs, ha⟩ := p.list e
    cases h
    exact .inl ⟨us, hs, by rw [dpa_empty ha]⟩
  | tuple xs =>
    obtain ⟨a, us, rfl, hs, ha⟩ := p.tuple e
    cases h
    exact .inr (.inl ⟨us, hs, by rw [dpa_empty ha]⟩)
  | int _ => cases h
  | str _ => cases h
  | dict _ => cases h
def dOrL (ta tb : TD) : TD := fun ε A => ta ε fun r ε1 => match peek ε1 r with
  | some x => onO (truL x) fun b => onB b (A r ε1) (tb ε1 A)
  | none => False
def dAndL (ta tb : TD) : TD := fun ε A => ta ε fun r ε1 => match peek ε1 r with
  | some x => onO (truL x) fun b => onB b (tb ε1 A) (A r ε1)
  | none => False
section
variable {X : Cx} {a b : Expr} {rest : List Expr} {pos : Pos} {ta tb : TD}
theorem dv_orL (ha : DV X a ta) (hb : DV X (.BoolOp .Or (b :: rest) pos) tb) : DV X (.BoolOp .Or (a :: b :: rest) pos) (dOrL ta tb) := pe_w (pe_orT ha hb) fun σ H Q ⟨c, G, ow, ε, A, R, h, kk⟩ =>
  ⟨c, G, ow, ε, _, R, h, fun r ε1 G1 H1 ow1 v h1 F1 R1 V1 => by
    cases e : peek ε1 r with
    | none => simp only [e] at h1
    | some x =>
      simp only [e] at h1
      obtain ⟨d, hd, h2⟩ := onO_get h1
      refine ⟨d, truL_ok R1.ex (peek_ok R1 V1 e) hd, ?_⟩
      cases d with
      | false => exact iteF (rdv_fr R1 F1 h2 kk)
      | true => exact iteT (kk _ ε1 G1 H1 ow1 v h2 F1 R1 V1)⟩
theorem dv_andL (ha : DV X a ta) (hb : DV X (.BoolOp .And (b :: rest) pos) tb) : DV X (.BoolOp .And (a :: b :: rest) pos) (dAndL ta tb) := pe_w (pe_andT ha hb) fun σ H Q ⟨c, G, ow, ε, A, R, h, kk⟩ =>
  ⟨c, G, ow, ε, _, R, h, fun r ε1 G1 H1 ow1 v h1 F1 R1 V1 => by
    cases e : peek ε1 r with
    | none => simp only [e] at h1
    | some x =>
      simp only [e] at h1
      obtain ⟨d, hd, h2⟩ := onO_get h1
      refine ⟨d, truL_ok R1.ex (peek_ok R1 V1 e) hd, ?_⟩
      cases d with
      | false => exact iteF (kk _ ε1 G1 H1 ow1 v h2 F1 R1 V1)
      | true => exact iteT (rdv_fr R1 F1 h2 kk)⟩
end
/-! ### steps -/
section
variable {t u v : TD} {a : TDA} {ε : Ep} {A : Vl → Ep → Prop} {B : Vl → Prop} {N : Ep → Prop} {D : DEnds} {s : TDS} {p : TDT} {n i j : Nat} {vs : List Nat} {neg : Bool} {r o : Vl} {y : PyData} {k : Int}
theorem nd1 : ([i] : List Nat).Nodup = True := by simp
theorem ap_ixA : ev (dIxA t u ε A) = ev (t ε fun r1 ε1 => u ε1 fun r2 ε2 => match peek ε2 r2 with
  | some y => ixA ε2 r1 y fun r => A r ε2
  | none => False) := id rfl
theorem ap_ixu : ixA ε r y B = (match peek ε r with
  | some x => kIxA x y B
  | none => match y, nodeAt ε r with
    | .int k, some (.lst, ts) => onO (ixN ts.length k) fun m => onO (kid r ts m) B
    | _, _ => False) := id rfl
theorem ap_lenA : ev (dLenA a ε A) = ev (a ε fun rs ε1 => lenA ε1 rs fun r => A r ε1) := id rfl
theorem ap_lenu : lenA ε [r] B = (match peek ε r with
  | some x => kLen [x] B
  | none => match nodeAt ε r with
    | some (.lst, ts) => B (.d (.int (ts.length : Nat)))
    | _ => False) := id rfl
theorem ap_stX : ev (sStX t u v D ε) = ev (t ε fun r ε1 => match frz ε1 r with
  | some (x, ε2) => u ε2 fun o ε3 => v ε3 fun s ε4 => match peek ε4 s with
    | some (.int k) => stX ε4 o k x D.nx
    | _ => False
  | none => False) := id rfl
theorem ap_stb : stX ε (.bor j) k y N = (match look ε j with
  | .lst fr xs => onO (ixN xs.length k) fun m => N (put ε j (.lst fr (xs.set m y)))
  | _ => False) := id rfl
theorem ap_stp {q : List Nat} {c : Addr} : stX ε (.bp j q c) k y N = (match nodeAt ε (.bp j q c) with
  | some (.lst, ts) => onO (ixN ts.length k) fun m => N (putN ε (.bp j q c) (.node c .lst (ts.set m (.fz y))))
  | _ => False) := id rfl
theorem ap_appN : ev (dAppN t a ε A) = ev (t ε fun o ε1 => (nodeAt ε1 o).any (fun q => match q with | (.lst, _) => true | _ => false) = true ∧ a ε1 fun rs ε2 => appN ε2 o rs A) := id rfl
theorem ap_setN : ev (sSetN i t D ε) = ev (t ε fun r ε1 => asN ε1 r fun t ε2 => D.nx (put ε2 i (.nt true t))) := id rfl
theorem ap_forX : ev (sForX n t s D ε) = ev (t ε fun r ε1 => onO (srcOf ε1 r) fun z => onO (lenAt z.1 z.2) fun L => forGoX z.1 n s D L 0 z.2) := id rfl
theorem ap_lcXA : ev (dLcXA t n p u vs ε A) = ev (t ε fun r ε1 => onO (srcOf ε1 r) fun z => onO (lenAt z.1 (wipeE z.2 vs)) fun L => lcGoX z.1 n p u vs (fun acc ε' => ∀ D, A (resN D acc) (rstE z.2 ε' vs)) L 0 [] (wipeE z.2 vs)) := id rfl
theorem ap_lcXR : ev (dLcXR a n p u vs ε A) = ev (a ε fun rs ε1 => match peekAll ε1 rs with
  | some [.int j] => -(2 ^ 62) ≤ j ∧ j < 2 ^ 62 ∧ lcGoX (.rg 0 j.toNat) n p u vs (fun acc ε' => ∀ D, A (resN D acc) (rstE ε1 ε' vs)) j.toNat 0 [] (wipeE ε1 vs)
  | _ => False) := id rfl
theorem ap_dgx : ev (dDGx j t ε A) = ev (match look ε j with
  | .dct _ _ => t ε fun r ε1 => match peek ε1 r, look ε1 j with
    | some y, .dct _ kvs => onO (keyD y) fun k => onO (valD kvs k) fun x => A (.d x) ε1
    | _, _ => False
  | _ => False) := id rfl
theorem ap_dlen : ev (dDLen j ε A) = ev (match look ε j with
  | .dct _ kvs => A (.d (.int (kvs.length : Nat))) ε
  | _ => False) := id rfl
theorem ap_eq0 : ev (dEq0 neg j ε A) = ev (match look ε j with
  | .dct _ kvs => A (.d (.bool (if neg then !kvs.isEmpty else kvs.isEmpty))) ε
  | _ => False) := id rfl
theorem ap_dpop : ev (dDPop j t ε A) = ev (match look ε j with
  | .dct _ _ => t ε fun r ε1 => match peek ε1 r, look ε1 j with
    | some y, .dct fr kvs => onO (keyD y) fun k => onO (valD kvs k) fun x => A (.d x) (put ε1 j (.dct fr (dropD kvs k)))
    | _, _ => False
  | _ => False) := id rfl
theorem ap_orL : ev (dOrL t u ε A) = ev (t ε fun r ε1 => match peek ε1 r with
  | some x => onO (truL x) fun b => onB b (A r ε1) (u ε1 A)
  | none => False) := id rfl
theorem ap_andL : ev (dAndL t u ε A) = ev (t ε fun r ε1 => match peek ε1 r with
  | some x => onO (truL x) fun b => onB b (u ε1 A) (A r ε1)
  | none => False) := id rfl
end
end DL

/-! DL10: comprehensions and walks of DL8 under invariants. -/
namespace DL
open PySem PySem.Spec PyProof.Rows L2
theorem fzAll_fz : ∀ xs : List PyData, fzAll (xs.map .fz) = some xs
  | [] => rfl
  | x :: xs => by
    rw [List.map_cons]
    simp only [fzAll, fzAll_fz xs]
theorem resN_fz {D : Addr} {xs : List PyData} : resN D (xs.map .fz) = .new xs := by
  unfold resN
  rw [fzAll_fz]
/-- a comprehension of data along a range, each turn giving one -/
theorem lcx_rg {lo : Int} {L n : Nat} {te : TD} {vs : List Nat} {I : Ep → Prop} {P : Nat → PyData → Prop} {A : List NT → Ep → Prop} (hL : L < 1000000) : ∀ (f i : Nat) (xs : List PyData) (ε : Ep), i + f = L → I ε → xs.length = i → (∀ j x, xs[j]? = some x → P j x) →
    (∀ i, i < L → ∀ ε, I ε → ∀ C : Vl → Ep → Prop, (∀ x ε', P i x → I (wipeE ε' vs) → C (.d x) ε') → te (put ε n (.d (.int (lo + (i : Nat))))) C) →
    (∀ (xs : List PyData) (ε' : Ep), xs.length = L → (∀ j x, xs[j]? = some x → P j x) → I ε' → A (xs.map .fz) ε') → lcGoX (.rg lo L) n dYes te vs A f i (xs.map .fz) ε
  | 0, i, xs, ε, e, hi, hl, hp, _, h => ⟨congrArg some (by omega), h xs ε (by omega) hp hi⟩
  | f + 1, i, xs, ε, e, hi, hl, hp, hb, h => by
    refine ⟨congrArg some (by omega), ?_⟩
    show te (put ε n (.d (.int (lo + (i : Nat))))) _
    refine hb i (by omega) ε hi _ fun x ε' px hi' => ?_
    show (xs.map NT.fz).length < 1000000 ∧ lcGoX (.rg lo L) n dYes te vs A f (i + 1) (xs.map .fz ++ [.fz x]) (wipeE ε' vs)
    rw [List.length_map]
    refine ⟨by omega, ?_⟩
    have e2 : xs.map NT.fz ++ [.fz x] = (xs ++ [x]).map .fz := by rw [List.map_append]; rfl
    rw [e2]
    refine lcx_rg hL f (i + 1) (xs ++ [x]) _ (by omega) hi' (by rw [List.length_append]; simp; omega) (fun j y hy => ?_) hb h
    rw [List.getElem?_append] at hy
    split at hy
    · exact hp j y hy
    · have : j - xs.length = 0 := by
        rcases Nat.eq_zero_or_pos (j - xs.length) with q | q
        · exact q
        · rw [List.getElem?_eq_none (by simp; omega)] at hy
          cases hy
      rw [this] at hy
      cases hy
      have : j = i := by omega
      rw [this]
      exact px
end DL

/-! DX1: enumerate of a tuple, or of a list. -/
namespace DL
open PySem PySem.Spec PyProof.Rows L2
open Sem (wp)
open AutoSeq1 (wpAny_loadPart')
theorem meets_enumerate_newT (l : Addr) (items : Array Value) (n : Nat) (dct : Option Addr) (sl : Array (Option Value)) :
    Meets (Builtin.«enumerate.__new__» ⟨[.type "enumerate", .ref l], []⟩) (fun _ R s => s.heap.get? l = some { cls := .type "tuple", dict := dct, data := .seq items n, slots := sl } ∧
      R (.ok (.ret (.ref (s.heap.push { cls := .type "tuple_iterator", data := .fields #[.ref l, .int 0 0] }).objs.size)))
        { s with heap := (s.heap.push { cls := .type "tuple_iterator", data := .fields #[.ref l, .int 0 0] }).push { cls := .type "enumerate", data := .fields #[.none, .bool false, .ref s.heap.objs.size, rawInt 0, .none, .none] } }) :=
  .of_wp fun prog w A R s h => by
    obtain ⟨hp, g, d, tk, os⟩ := s; obtain ⟨hl, h⟩ := h
    have hsub := sub_enumerate
    have hL : Heap.IsTuple (Shared.heap ⟨hp, g, d, tk, os⟩) l items := ⟨_, hl, rfl, n, rfl⟩
    wp_walk using wpAny_loadPart' hl
    refine wpAny_stack_any fun st => wpAny_pure ?_
    split
    · rename_i c _ _ _ _ _
      cases (c == Value.type "enumerate")
      · wp_walk using wpAny_loadPart' hl, wpAny_pyIter_tuple hL
        exact ⟨_, rfl, h⟩
      · wp_walk using wpAny_loadPart' hl, wpAny_pyIter_tuple hL
        exact ⟨_, rfl, h⟩
    · wp_walk using wpAny_loadPart' hl, wpAny_pyIter_tuple hL
      exact ⟨_, rfl, h⟩
section
variable {prog : Program} {w : World} {A : Around} {E : Value → Shared → Prop} {s : Shared}
theorem call_enumerate_tuple {l : Addr} {items : Array Value} {Q : Value → Shared → Prop} (hL : s.heap.IsTuple l items)
    (h : ∀ h', IsEnum h' (s.heap.objs.size + 1) s.heap.objs.size 0 .none → h'.IsTupleIter s.heap.objs.size l 0 → h'.objs.size = s.heap.objs.size + 2 →
      (∀ b o, s.heap.get? b = some o → h'.get? b = some o) → Q (.ref (s.heap.objs.size + 1)) { s with heap := h' }) :
    wpAny (model prog w) A (call (.type "enumerate") [.ref l]) Q E s := by
  obtain ⟨⟨c, dct, dt, sl⟩, hl, hc, n, hd⟩ := hL
  replace hc : c = .type "tuple" := hc
  replace hd : dt = .seq items n := hd
  subst hc hd
  refine callType_new F.called_enumerate (by decide) (F.typeCall_enumerate_1 _) (F.newCall_enumerate_1 _) (fun obj => F.args_object_init_2 obj _) F.entry_enumerate_new
    (meets_enumerate_newT l items n dct sl) ⟨hl, ?_⟩
  have hz : (s.heap.push { cls := .type "tuple_iterator", data := .fields #[.ref l, .int 0 0] }).objs.size = s.heap.objs.size + 1 := Heap.size_push ..
  show _ ∧ _
  rw [hz]
  have he : IsEnum ((s.heap.push { cls := .type "tuple_iterator", data := .fields #[.ref l, .int 0 0] }).push
      { cls := .type "enumerate", data := .fields #[.none, .bool false, .ref s.heap.objs.size, rawInt 0, .none, .none] }) (s.heap.objs.size + 1) s.heap.objs.size 0 .none := by
    have := Heap.get?_push_size (s.heap.push { cls := .type "tuple_iterator", data := .fields #[.ref l, .int 0 0] })
      (o := { cls := .type "enumerate", data := .fields #[.none, .bool false, .ref s.heap.objs.size, rawInt 0, .none, .none] }) rfl
    rw [hz] at this; exact this
  refine ⟨⟨_, he, rfl⟩, h _ he ⟨_, Heap.get?_push_of_some _ (Heap.get?_push_size _ rfl), rfl, rfl⟩ (by rw [Heap.size_push, hz]) fun b o x => Heap.get?_push_of_some _ (Heap.get?_push_of_some _ x)⟩
end
/-- the tuple at a as it stands at each turn, each item in a new pair -/
def IteT (K : PySem.W.Frag) (a : Addr) : It :=
  ⟨fun i H => ∃ (xs : List V) (x : V), SqT K H a xs ∧ xs[i]? = some x, fun i H v H' => ∃ T x, v = .ref T ∧ H T = none ∧ H' = upd H T (.tup [.int (i : Nat), x]) ∧ ∀ xs, SqT K H a xs → xs[i]? = some x, fun i H => ∃ xs : List V, SqT K H a xs ∧ xs.length = i⟩
theorem turn_enumT {P : Program} {w : World} {K : PySem.W.Frag} {elts : List Expr} {kk : Nat} {tpos : Pos} (a e it : Addr) :
    Turn P w K (.Tuple elts kk tpos) (IteT K a) [e, it] e (fun i h => (∃ old, IsEnum h e it ((i : Nat) : Int) old) ∧ h.IsTupleIter it a i ∧ e ≠ it ∧ a ≠ it ∧ e ≠ a) where
  mem := by simp
  obj := fun i h st b hb => by
    obtain ⟨⟨old, he⟩, ⟨o, ho, hc, hd⟩, _⟩ := st
    have e' : b = e ∨ b = it := by simpa using hb
    rcases e' with z | z
    · rw [z]; exact ⟨_, he, fun v q => nomatch q⟩
    · rw [z]; exact ⟨o, ho, fun v q => by rw [hd] at q; cases q⟩
  keep := fun i h h' st k => let ⟨⟨old, he⟩, hi, hne⟩ := st; ⟨⟨old, k e (by simp) _ he⟩, hi.at fun o q => k it (by simp) o q, hne⟩
  item := by
    intro X hP hw hK hc i pins s σ H E I hf st hg
    subst hP hw hK
    obtain ⟨⟨old, he⟩, hit, hne, hai, hea⟩ := st
    obtain ⟨xs, x, hq, hx⟩ := hg
    obtain ⟨its, rv, p, hz⟩ := I.tuple hq
    obtain ⟨u, hu, ru⟩ := rv.get hx
    have hel : e < s.heap.objs.size := Heap.lt_size he
    have hil : it < s.heap.objs.size := by obtain ⟨_, q, _⟩ := hit; exact Heap.lt_size q
    have hT0 : s.heap.IsTuple a its.toArray := p
    refine wpAny_pyNext_enum_itemD (A := X.A) (Draws.tuple (A := X.A.in1) (I.ok.hd hc) it a hai its.toArray) he ⟨hit, hT0⟩ (i := i) (by simpa using (List.getElem?_eq_some_iff.mp hu).1) hne (by simp [hne, hea]) fun v h' tk hv ho hst' hT hsz hk => ?_
    have ev : v = u := by
      have : its[i]? = some v := by simpa using hv
      rw [hu] at this
      exact (Option.some.inj this).symm
    subst ev
    refine ⟨_, rfl, wpAny_letOwnedTupleGo_enum (s := { s with heap := h', toks := tk + 1 }) ho fun h'' he' sb => ?_⟩
    have hT2 : h''.get? s.heap.objs.size = some { cls := .type "tuple", data := .seq #[.int i tk, v] } := (sb.2 _ (Nat.ne_of_gt hel)).trans hT
    have new : ObjOk X.prog X.w (upd H s.heap.objs.size (.tup [.int (i : Nat), x])) h'' s.heap.objs.size (.tup [.int (i : Nat), x]) :=
      ⟨by show 2 ≤ sizeLine; decide, [.int i tk, v], .cons ⟨_, rfl⟩ (.cons ru .nil), ⟨_, hT2, rfl, _, rfl⟩⟩
    have I1 : Inv X pins σ (upd H s.heap.objs.size (.tup [.int (i : Nat), x])) { s with heap := h'', toks := tk + 1 } :=
      I.turnedNew (ch := [e, it]) (fun b ob hb q => (sb.2 b (fun z => hb (by simp [z]))).trans (hk b ob (fun z => hb (by simp [z])) (fun z => hb (by simp [z])) q)) hf (Nat.le_refl _) new
    refine ⟨.ref s.heap.objs.size, _, I1, rfl, ⟨_, x, rfl, I.hok.fresh (Nat.le_refl _), rfl, fun ys hy => by rw [I.tuple_inj hy hq]; exact hx⟩, ⟨⟨v, ?_⟩, hst'.1.at fun o q => (sb.2 it (Ne.symm hne)).trans q, hne, hai, hea⟩, fun b hb => ?_⟩
    · have e1 : ((i + 1 : Nat) : Int) = (i : Int) + 1 := by omega
      rw [e1]; exact he'
    · have hb' : b < s.heap.objs.size := by
        have e' : b = e ∨ b = it := by simpa using hb
        rcases e' with z | z
        · rw [z]; exact hel
        · rw [z]; exact hil
      rw [upd_ne (Nat.ne_of_lt hb')]
      exact (hf b hb).1
  done := by
    intro X hP hw hK hc i pins s σ H E I hf st hg
    subst hP hw hK
    obtain ⟨⟨old, he⟩, hit, hne, hai, hea⟩ := st
    obtain ⟨xs, hq, hx⟩ := hg
    obtain ⟨its, rv, p, hz⟩ := I.tuple hq
    obtain ⟨f0, f1, f2, f3, f4, f5⟩ := hf it (by simp)
    have hl := rv.length
    have hT0 : s.heap.IsTuple a its.toArray := p
    have es : its.toArray.size = i := by rw [List.size_toArray]; omega
    subst es
    refine wpAny_pyNext_enum_endD (A := X.A) (Draws.tuple (A := X.A.in1) (I.ok.hd hc) it a hai its.toArray) he ⟨hit, hT0⟩ fun h' eb => ⟨rfl, I.turned (t' := s.toks) (fun b o hb q => eb b o hb q) f0 f1 f3 f4 f5⟩
  self := fun A i s Q E st h => let ⟨⟨_, he⟩, _⟩ := st; wpAny_pyIter_enum he h
def iEnumA (K : PySem.W.Frag) (ta : TA) : TI := fun σ H R => ta σ H fun vs H1 => ∃ (a : Addr) (xs : List V), vs = [.ref a] ∧ ((SqL K H1 a xs ∧ R (Ite K a) H1) ∨ (SqT K H1 a xs ∧ R (IteT K a) H1))
theorem pi_enumA {X : Cx} {e : Expr} {ta : TA} {p pos tpos : Pos} {elts : List Expr} {kk : Nat} (hg : Gl X "enumerate") (hm : X.mg "enumerate" = none) (ha : PA X [e] ta) (hs : starEach [e] X.env = [(false, eval e X.env)] := by rfl) :
    PI X (.Tuple elts kk tpos) (.Call (.Name "enumerate" p) [e] [] pos) (iEnumA X.K ta) := by
  refine ⟨fun pins s σ H R I h => ?_⟩
  refine Call_ (ld_blt I hg hm PyProof.Rows.boot_enumerate (PyProof.Rows.callWith_type1 (thn (ha.run pos pins s σ H _ I h) fun us s1 ⟨vs, H1, I1, r1, q1⟩ => ?_) hs rfl))
  · obtain ⟨a, xs, ex, q1⟩ := q1
    subst ex
    cases r1 with
    | cons r rr =>
      cases rr
      cases r
      have fresh2 : ∀ c, c ∈ [s1.heap.objs.size + 1, s1.heap.objs.size] → FpOk X pins H1 c := fun c hcm => by
        have e' : c = s1.heap.objs.size + 1 ∨ c = s1.heap.objs.size := by simpa using hcm
        have hle : s1.heap.objs.size ≤ c := by
          rcases e' with z | z
          · rw [z]; exact Nat.le_add_right _ _
          · rw [z]; exact Nat.le_refl _
        exact I1.fpOk hle (I1.hok.fresh hle)
      rcases q1 with ⟨hq, q⟩ | ⟨hq, q⟩
      · obtain ⟨its, rv, p', hz⟩ := I1.list hq
        refine call_enumerate_list p'.isList fun h' he hit hsz hk => wpAny_pyIter_enum he ?_
        have I2 : Inv X pins σ H1 { s1 with heap := h' } := I1.kept (t' := s1.toks) hk
        exact ⟨s1.heap.objs.size + 1, [s1.heap.objs.size + 1, s1.heap.objs.size], _, _, H1, rfl, I2, turn_enum a (s1.heap.objs.size + 1) s1.heap.objs.size, ⟨⟨.none, he⟩, hit, Nat.succ_ne_self _⟩, fresh2, q⟩
      · obtain ⟨its, rv, p', hz⟩ := I1.tuple hq
        have hT0 : s1.heap.IsTuple a its.toArray := p'
        obtain ⟨oa, hoa, _⟩ := id hT0
        have hal : a < s1.heap.objs.size := Heap.lt_size hoa
        refine call_enumerate_tuple hT0 fun h' he hit hsz hk => wpAny_pyIter_enum he ?_
        have I2 : Inv X pins σ H1 { s1 with heap := h' } := I1.kept (t' := s1.toks) hk
        exact ⟨s1.heap.objs.size + 1, [s1.heap.objs.size + 1, s1.heap.objs.size], _, _, H1, rfl, I2, turn_enumT a (s1.heap.objs.size + 1) s1.heap.objs.size, ⟨⟨.none, he⟩, hit, Nat.succ_ne_self _, Nat.ne_of_lt hal, fun z => absurd hal (by rw [← z]; exact Nat.not_lt.mpr (Nat.le_succ _))⟩, fresh2, q⟩
end DL

/-! DL11: walks along what is made as it is walked (enumerate, items ..); comprehensions and walks over lists of native things. -/
namespace DL
open PySem PySem.Spec PyProof.Rows L2
abbrev TDI := Ep → (List PyData → Ep → Prop) → Prop
structure Walks (K : PySem.W.Frag) (c : Ct) (G H : Hp) (ow : Ow) (J : It) (ds : List PyData) : Prop where
  go : ∀ i x σ' G' H' ow' ε', ds[i]? = some x → Fr G H ow G' H' ow' → Rep K c G' H' ow' σ' ε' → J.go i H' ∧ ∀ y H2, J.yld i H' y H2 → ∃ G2 ow2, Fr G' H' ow' G2 H2 ow2 ∧ Rep K c G2 H2 ow2 σ' ε' ∧ Dd K G2 y x
  stop : ∀ σ' G' H' ow' ε', Fr G H ow G' H' ow' → Rep K c G' H' ow' σ' ε' → J.stop ds.length H'
def rdI (K : PySem.W.Frag) (t : TDI) : TI := fun σ H R => ∃ c G ow ε A, Rep K c G H ow σ ε ∧ t ε A ∧ ∀ ds ε' G' H' ow' J, A ds ε' → Fr G H ow G' H' ow' → Rep K c G' H' ow' σ ε' → Walks K c G' H' ow' J ds → R J H'
abbrev DI (X : Cx) (tg iter : Expr) (t : TDI) : Prop := PI X tg iter (rdI X.K t)
def sForI (t : TDI) (g : TDG) (b : TDS) : TDS := fun A ε => t ε fun ds ε1 => forGo noI g b A ds ε1
def dLcI (t : TDI) (g : TDG) (tt : TDT) (te : TD) (vs : List Nat) : TD := fun ε A => t ε fun ds ε1 => lcGo noI g tt te vs (fun acc ε' => A (.new acc) (rstE ε1 ε' vs)) ds [] (wipeE ε1 vs)
theorem for_coreI {K : PySem.W.Frag} {Wx : WX} {c : Ct} {G0 H0 : Hp} {ow0 : Ow} {G H : Hp} {ow : Ow} {σ : L2.St} {ε : Ep} {A : DEnds} {D : Ends} {J : It} {g : TDG} {ws : List Nat} {tb : TDS} {ds : List PyData} (R : Rep K c G H ow σ ε) (F : Fr G0 H0 ow0 G H ow) (h : forGo noI g tb A ds ε)
    (hW : Walks K c G H ow J ds)
    (k1 : ∀ ε' σ' G' H' ow', A.nx ε' → Fr G0 H0 ow0 G' H' ow' → Rep K c G' H' ow' σ' ε' → D.nx σ' H')
    (k2 : ∀ r ε' σ' G' H' ow' v, A.rt r ε' → Fr G0 H0 ow0 G' H' ow' → Rep K c G' H' ow' σ' ε' → VOk K c.H0 G' H' ow' [] r v → D.rt v H')
    (k5 : ∀ nm ε' σ' G' H' ow', A.xc nm ε' → Fr G0 H0 ow0 G' H' ow' → Rep K c G' H' ow' σ' ε' → XW K Wx nm σ' H') :
    ∃ W : Nat → Nat → L2.St → Hp → Prop, (∃ m, W 0 m σ H) ∧ ∀ i m σ H, W i m σ H →
      (J.stop i H ∧ D.nx σ H) ∨ (J.go i H ∧ ∃ N : L2.St → Hp → Prop, (∀ σ' H', N σ' H' → ∃ m', m' < m ∧ W (i + 1) m' σ' H') ∧ ∀ x H', J.yld i H x H' → rdG K ws g x σ H' fun σ2 H2 => rdS K Wx tb { D with nx := N, ct := N, bk := D.nx } σ2 H2) := by
  refine ⟨fun i m σ' H' => m + i = ds.length ∧ ∃ G' ow' ε', Fr G H ow G' H' ow' ∧ Rep K c G' H' ow' σ' ε' ∧ forGo noI g tb A (ds.drop i) ε', ⟨ds.length, rfl, G, ow, ε, Fr.refl _ _ _, R, h⟩, ?_⟩
  rintro i m σ1 H1 ⟨em, G1, ow1, ε1, F1, R1, h1⟩
  by_cases hi : i < ds.length
  · have hx : ds[i]? = some ds[i] := List.getElem?_eq_getElem hi
    rw [List.drop_eq_getElem_cons hi] at h1
    obtain ⟨hI, h1⟩ := h1
    obtain ⟨g1, g2⟩ := hW.go i _ σ1 G1 H1 ow1 ε1 hx F1 R1
    refine .inr ⟨g1, fun σ' H' => (m - 1) + (i + 1) = ds.length ∧ ∃ G' ow' ε', Fr G H ow G' H' ow' ∧ Rep K c G' H' ow' σ' ε' ∧ forGo noI g tb A (ds.drop (i + 1)) ε', fun σ' H' q => ⟨m - 1, by omega, q⟩, fun y H2 hy => ?_⟩
    obtain ⟨Gy, owy, Fy, Ry, d⟩ := g2 y H2 hy
    have F1 := F1.trans Fy
    refine ⟨c, Gy, owy, ε1, ds[i], _, Ry, d, h1, fun ε2 σ2 G2 H2 ow2 q F2 R2 _ => ?_⟩
    exact rds_fr R2 (F1.trans F2) q (fun ε' σ' G' H' ow' z F3 R3 => ⟨by omega, G', ow', ε', F3, R3, z⟩) (fun r ε' σ' G' H' ow' v z F3 R3 V => k2 r ε' σ' G' H' ow' v z (F.trans F3) R3 V)
      (fun ε' σ' G' H' ow' z F3 R3 => k1 ε' σ' G' H' ow' z (F.trans F3) R3) (fun ε' σ' G' H' ow' z F3 R3 => ⟨by omega, G', ow', ε', F3, R3, z⟩) (fun nm ε' σ' G' H' ow' z F3 R3 => k5 nm ε' σ' G' H' ow' z (F.trans F3) R3)
  · have e : i = ds.length := by omega
    subst e
    rw [List.drop_length] at h1
    exact .inl ⟨hW.stop σ1 G1 H1 ow1 ε1 F1 R1, k1 ε1 σ1 G1 H1 ow1 h1.2 (F.trans F1) R1⟩
theorem ds_forI {X : Cx} {W : WX} {pos : Pos} {iter tg : Expr} {body : List Stmt} {t : TDI} {g : TDG} {ws : List Nat} {tb : TDS} (hp : PassesOwn (model X.prog X.w) X.A X.env X.xe) (hc : X.calm = true) (hi : DI X tg iter t) (hg : DG X tg ws g) (hb : DSs X W body tb) (hs : ∀ x, foldedSetIterable iter X.env x = pure x := by intro _; rfl) : DS X W (.For tg iter body [] pos) (sForI t g tb) :=
  ps_w (ps_for hp hc hi hg hb hs) fun D σ H ⟨c, G, ow, ε, A, R, h, k1, k2, k3, k4, k5⟩ => ⟨c, G, ow, ε, _, R, h, fun ds ε1 G1 H1 ow1 J h1 F1 R1 W1 => for_coreI R1 F1 h1 W1 k1 k2 k5⟩
theorem lc_coreI {K : PySem.W.Frag} {c : Ct} {G0 H0 : Hp} {ow0 : Ow} {G H : Hp} {ow : Ow} {σ : L2.St} {ε : Ep} {A : List PyData → Ep → Prop} {Q : VK} {J : It} {g : TDG} {ws vs : List Nat} {tt : TDT} {te : TD} {ds : List PyData} (hws : ∀ j ∈ ws, j ∈ vs) (R : Rep K c G H ow σ ε) (F : Fr G0 H0 ow0 G H ow)
    (h : lcGo noI g tt te vs A ds [] (wipeE ε vs)) (hW : Walks K c G H ow J ds)
    (kk : ∀ acc ε' G' H' ow' v, A acc ε' → Fr G0 H0 ow0 G' H' ow' → Rep K c G' H' ow' σ (rstE ε ε' vs) → VOk K H0 G' H' ow' σ (.new acc) v → Q v H') :
    ∀ D, H D = none → ∃ W : Nat → Nat → Hp → Prop, (∃ m, W 0 m (upd H D (.lst []))) ∧ ∀ i m H, W i m H →
      (J.stop i H ∧ Q (.ref D) H) ∨ (J.go i H ∧ ∃ Nx : Hp → Prop, (∀ H', Nx H' → ∃ m', m' < m ∧ W (i + 1) m' H') ∧ ∀ x H', J.yld i H x H' → rdG K ws g x (wipe σ vs) H' fun σ2 H2 => wipe σ2 vs = wipe σ vs ∧ rdT K tt σ2 H2 fun b H3 =>
        if b = true then rdV K te σ2 H3 fun y H4 => ∃ acc, H4 D = some (.lst acc) ∧ acc.length < sizeLine ∧ Nx (upd H4 D (.lst (acc ++ [y]))) else Nx H3) := by
  intro D hD
  have Rw := rep_wipe vs R
  obtain ⟨F1, R1, z1, z2⟩ := grow_new (o := .lst []) Rw hD
  refine ⟨fun i m H' => m + i = ds.length ∧ ∃ G' ow' ε' acc va, Fr G H ow G' H' ow' ∧ Rep K c G' H' ow' (wipe σ vs) ε' ∧ ow' D = none ∧ G' D = none ∧ H' D = some (.lst va) ∧ DdAll K G' va acc ∧ lcGo noI g tt te vs A (ds.drop i) acc ε', ⟨ds.length, rfl, G, _, _, [], [], F1, R1, z1, z2, upd_same, .nil, h⟩, ?_⟩
  rintro i m H1 ⟨em, G1, ow1, ε1, acc, va, F1, R1, d1, d2, d3, d4, h1⟩
  by_cases hi : i < ds.length
  · have hx : ds[i]? = some ds[i] := List.getElem?_eq_getElem hi
    rw [List.drop_eq_getElem_cons hi] at h1
    obtain ⟨hI, h1⟩ := h1
    obtain ⟨g1, g2⟩ := hW.go i _ _ G1 H1 ow1 ε1 hx F1 R1
    refine .inr ⟨g1, fun H' => (m - 1) + (i + 1) = ds.length ∧ ∃ G' ow' ε' acc va, Fr G H ow G' H' ow' ∧ Rep K c G' H' ow' (wipe σ vs) ε' ∧ ow' D = none ∧ G' D = none ∧ H' D = some (.lst va) ∧ DdAll K G' va acc ∧ lcGo noI g tt te vs A (ds.drop (i + 1)) acc ε', fun H' q => ⟨m - 1, by omega, q⟩, fun y H2 hy => ?_⟩
    obtain ⟨Gy, owy, Fy, Ry, d⟩ := g2 y H2 hy
    obtain ⟨y1, y2, y3⟩ := Fy.st D _ d3 d1
    have d1 := y2
    have d2 := y3 d2
    have d3 := y1
    have d4 := dpa_ex Fy.ex _ d4
    have F1 := F1.trans Fy
    refine ⟨c, Gy, owy, ε1, ds[i], _, Ry, d, h1, fun ε2 σ2 G2 H2 ow2 q F2 R2 W2 => ⟨?_, c, G2, ow2, ε2, _, R2, q, fun b ε3 G3 H3 ow3 q3 F3 R3 => ?_⟩⟩
    · have := W2 vs hws
      rw [this]
      apply List.ext_getElem?
      intro j
      by_cases hj : j ∈ vs
      · by_cases hl : j < σ.length
        · rw [wipe_in hj hl, wipe_in hj (by rw [wipe_length]; exact hl)]
        · rw [List.getElem?_eq_none (by rw [wipe_length, wipe_length]; omega), List.getElem?_eq_none (by rw [wipe_length]; omega)]
      · rw [wipe_out hj]
    · have ew : wipe σ2 vs = wipe σ vs := by
        have := W2 vs hws
        rw [this]
        apply List.ext_getElem?
        intro j
        by_cases hj : j ∈ vs
        · by_cases hl : j < σ.length
          · rw [wipe_in hj hl, wipe_in hj (by rw [wipe_length]; exact hl)]
          · rw [List.getElem?_eq_none (by rw [wipe_length, wipe_length]; omega), List.getElem?_eq_none (by rw [wipe_length]; omega)]
        · rw [wipe_out hj]
      have F13 := F2.trans F3
      obtain ⟨s1, s2, s3⟩ := F13.st D _ d3 d1
      cases b with
      | false =>
        refine iteF ⟨by omega, G3, ow3, _, acc, va, F1.trans F13, ?_, s2, s3 d2, s1, dpa_ex F13.ex _ d4, q3⟩
        rw [← ew]
        exact rep_wipe vs R3
      | true =>
        refine iteT ⟨c, G3, ow3, ε3, _, R3, q3, fun r ε4 G4 H4 ow4 v q4 F4 R4 V4 => ?_⟩
        cases qf : frz ε4 r with
        | none => simp only [qf] at q4
        | some z =>
          obtain ⟨y, ε5⟩ := z
          simp only [qf] at q4
          obtain ⟨G5, F5, sg, R5, dy⟩ := frz_ok F4 R4 V4 qf
          obtain ⟨t1, t2, t3⟩ := F5.st D _ s1 s2
          refine ⟨va, t1, ?_, by omega, ?_⟩
          · rw [dpa_len d4]
            exact line_lt q4.1
          · have Fa := (F1.trans F13).trans F5
            obtain ⟨Fb, Rb⟩ := mut_tmp (o := .lst (va ++ [v])) R5 Fa hD t2 (t3 (s3 d2))
            refine ⟨G5, ow4, _, acc ++ [y], va ++ [v], Fb, ?_, t2, t3 (s3 d2), upd_same, dpa_app (dpa_ex (F13.ex.trans F5.ex) _ d4) (dpa_one dy), q4.2⟩
            rw [← ew]
            exact rep_wipe vs Rb
  · have e : i = ds.length := by omega
    subst e
    rw [List.drop_length] at h1
    exact .inl ⟨hW.stop _ G1 H1 ow1 ε1 F1 R1, kk acc ε1 G1 H1 ow1 (.ref D) h1.2 (F.trans F1) (rep_rst R F1.ex R1) ⟨D, va, rfl, F.dom D hD, d1, d2, d3, d4⟩⟩
theorem lcI_rd {K : PySem.W.Frag} {t : TDI} {g : TDG} {tt : TDT} {te : TD} {ws vs : List Nat} {σ : L2.St} {H : Hp} {Q : VK} (hws : ∀ j ∈ ws, j ∈ vs) (h : rdV K (dLcI t g tt te vs) σ H Q) : tLc (rdI K t) (rdG K ws g) (rdT K tt) (rdV K te) vs σ H Q := by
  obtain ⟨c, G, ow, ε, A, R, h, kk⟩ := h
  exact ⟨c, G, ow, ε, _, R, h, fun ds ε1 G1 H1 ow1 J h1 F1 R1 W1 => lc_coreI hws R1 F1 h1 W1 fun acc ε' G' H' ow' v q F R V => kk _ _ G' H' ow' v q F R V⟩
section
variable {X : Cx} {elt tg iter : Expr} {ifs : List Expr} {scope : Scope} {own : List (Str × Nat)} {pos spos py : Pos} {t : TDI} {g : TDG} {tt : TDT} {te : TD} {ws : List Nat} {i : Nat} {y : Str} {W : WX}
theorem dv_lcI (hc : X.calm = true) (hN : X.N.Nodup) (hi : DI X tg iter t) (b : Blk X tg ifs elt scope own ws g tt te) (hs : ∀ x, foldedSetIterable iter X.env x = pure x := by intro _; rfl) : DV X (.ListComp elt [⟨tg, iter, ifs, 0⟩] scope pos) (dLcI t g tt te (own.map (·.2))) :=
  pe_w (pe_lc hc hN hi b.ok b.tgt b.tst b.elt hs) fun _ _ _ h => lcI_rd b.sub h
theorem ds_lcI (hc : X.calm = true) (hN : X.N.Nodup) (hy : X.N[i]? = some y) (hyl : X.env.scope.names.lookup y = some .local) (hsw : swapsWith (.ListComp elt [⟨tg, iter, ifs, 0⟩] scope pos) (some (.Name y py)) spos.line X.env = pure true)
    (hi : DI X tg iter t) (b : Blk X tg ifs elt scope own ws g tt te) (hs : ∀ x, foldedSetIterable iter X.env x = pure x := by intro _; rfl) : DS X W (.Assign [.Name y py] (.ListComp elt [⟨tg, iter, ifs, 0⟩] scope pos) spos) (sSet i (dLcI t g tt te (own.map (·.2)))) :=
  ps_wl (ps_setLc hc hN hy hyl hsw hi b.ok b.tgt b.tst b.elt hs) fun _ _ _ hl h => setlc_rd (fun _ => lcI_rd b.sub) (by rw [hl]; exact (List.getElem?_eq_some_iff.mp hy).1) h
end
/-! ### enumerate -/
def enuD : Nat → List PyData → List PyData
  | _, [] => []
  | i, x :: xs => .tuple [.int (i : Nat), x] :: enuD (i + 1) xs
theorem enuD_get : ∀ {n : Nat} {xs : List PyData} {i : Nat} {y : PyData}, (enuD n xs)[i]? = some y → ∃ x, xs[i]? = some x ∧ y = .tuple [.int ((n + i : Nat) : Int), x]
  | n, [], i, y, h => by simp [enuD] at h
  | n, x :: xs, 0, y, h => by
    simp [enuD] at h
    exact ⟨x, rfl, h.symm⟩
  | n, x :: xs, i + 1, y, h => by
    simp only [enuD, List.getElem?_cons_succ] at h
    obtain ⟨z, h1, h2⟩ := enuD_get h
    exact ⟨z, by simpa using h1, by rw [h2]; congr 4; omega⟩
theorem enuD_len : ∀ (n : Nat) (xs : List PyData), (enuD n xs).length = xs.length
  | _, [] => rfl
  | n, _ :: xs => by simp only [enuD, List.length_cons, enuD_len (n + 1) xs]
def enuA (ε : Ep) (rs : List Vl) (A : List PyData → Ep → Prop) : Prop := match rs with
  | [r] => match frz ε r with
    | some (.list ds, ε2) => A (enuD 0 ds) ε2
    | some (.tuple ds, ε2) => A (enuD 0 ds) ε2
    | _ => False
  | _ => False
def iEnu (t : TDA) : TDI := fun ε A => t ε fun rs ε1 => enuA ε1 rs A
theorem di_enu {X : Cx} {e : Expr} {ta : TDA} {p pos tpos : Pos} {elts : List Expr} {kk : Nat} (hg : Gl X "enumerate") (hm : X.mg "enumerate" = none) (ha : DA X [e] ta) (hs : starEach [e] X.env = [(false, eval e X.env)] := by rfl) :
    DI X (.Tuple elts kk tpos) (.Call (.Name "enumerate" p) [e] [] pos) (iEnu ta) := by
  have base := pi_enumA (tpos := tpos) (pos := pos) (p := p) (elts := elts) (kk := kk) hg hm ha hs
  refine ⟨fun pins s σ H R I h => base.run pins s σ H R I ?_⟩
  obtain ⟨c, G, ow, ε, A, R0, h, kk⟩ := h
  refine ⟨c, G, ow, ε, _, R0, h, fun rs ε1 G1 H1 ow1 vs h1 F1 R1 V1 => ?_⟩
  · have key : ∃ r, rs = [r] := by
      unfold enuA at h1
      split at h1
      · exact ⟨_, rfl⟩
      · exact h1.elim
    obtain ⟨r, rfl⟩ := key
    have h1 : (match frz ε1 r with
      | some (.list ds, ε2) => A (enuD 0 ds) ε2
      | some (.tuple ds, ε2) => A (enuD 0 ds) ε2
      | _ => False) := h1
    obtain ⟨v, us, rfl, V1, e⟩ := V1
    have e : us = [] := e
    subst e
    cases q : frz ε1 r with
    | none => simp only [q] at h1
    | some z =>
      obtain ⟨x, ε2⟩ := z
      obtain ⟨G2, F2, sg, R2, d⟩ := frz_ok F1 R1 V1 q
      cases x with
      | list ds =>
        simp only [q] at h1
        cases d with
        | lst hs ha =>
          rename_i a vs
          refine ⟨a, vs, rfl, .inl ⟨R2.ex.seq hs, kk _ _ _ _ _ _ h1 F2 R2 ⟨fun i x σ' G' H' ow' ε' hx f1 r1 => ?_, fun σ' G' H' ow' ε' f1 r1 => ⟨vs, r1.ex.seq (f1.ex.seq hs), by rw [dpa_len ha, enuD_len]; exact Nat.le_refl _⟩⟩⟩⟩
          obtain ⟨x0, hx0, rfl⟩ := enuD_get hx
          obtain ⟨u, hu, du⟩ := dpa_get ha hx0
          have hS : SqL X.K H' a vs := r1.ex.seq (f1.ex.seq hs)
          refine ⟨⟨vs, u, hS, hu⟩, fun y H2 hy => ?_⟩
          obtain ⟨T, w, rfl, hT, rfl, hw⟩ := hy
          have e := hw vs hS
          rw [hu] at e
          cases e
          obtain ⟨G3, ow3, F3, R3, V3⟩ := res_fin r1 (.tup hT (.cons (.int _) (.cons (dp_ex f1.ex _ du) .nil)))
          refine ⟨G3, ow3, F3, R3, ?_⟩
          have : ((0 + i : Nat) : Int) = (i : Int) := by omega
          rw [this]
          exact V3
      | tuple ds =>
        simp only [q] at h1
        cases d with
        | tup hs ha =>
          rename_i a vs
          refine ⟨a, vs, rfl, .inr ⟨seqT R2.ex hs, kk _ _ _ _ _ _ h1 F2 R2 ⟨fun i x σ' G' H' ow' ε' hx f1 r1 => ?_, fun σ' G' H' ow' ε' f1 r1 => ⟨vs, seqT r1.ex (seqT f1.ex hs), by rw [dpa_len ha, enuD_len]⟩⟩⟩⟩
          obtain ⟨x0, hx0, rfl⟩ := enuD_get hx
          obtain ⟨u, hu, du⟩ := dpa_get ha hx0
          have hS : SqT X.K H' a vs := seqT r1.ex (seqT f1.ex hs)
          refine ⟨⟨vs, u, hS, hu⟩, fun y H2 hy => ?_⟩
          obtain ⟨T, w, rfl, hT, rfl, hw⟩ := hy
          have e := hw vs hS
          rw [hu] at e
          cases e
          obtain ⟨G3, ow3, F3, R3, V3⟩ := res_fin r1 (.tup hT (.cons (.int _) (.cons (dp_ex f1.ex _ du) .nil)))
          refine ⟨G3, ow3, F3, R3, ?_⟩
          have : ((0 + i : Nat) : Int) = (i : Int) := by omega
          rw [this]
          exact V3
      | _ => simp only [q] at h1

/-! ### steps -/
theorem ap_forI {t : TDI} {g : TDG} {s : TDS} {D : DEnds} {ε : Ep} : ev (sForI t g s D ε) = ev (t ε fun ds ε1 => forGo noI g s D ds ε1) := id rfl
theorem ap_lcI {t : TDI} {g : TDG} {p : TDT} {u : TD} {vs : List Nat} {A : Vl → Ep → Prop} {ε : Ep} : ev (dLcI t g p u vs ε A) = ev (t ε fun ds ε1 => lcGo noI g p u vs (fun acc ε' => A (.new acc) (rstE ε1 ε' vs)) ds [] (wipeE ε1 vs)) := id rfl
theorem ap_enu {t : TDA} {ε : Ep} {A : List PyData → Ep → Prop} : ev (iEnu t ε A) = ev (t ε fun rs ε1 => enuA ε1 rs A) := id rfl
theorem ap_enu1 {ε : Ep} {r : Vl} {A : List PyData → Ep → Prop} : ev (enuA ε [r] A) = ev (match frz ε r with
    | some (.list ds, ε2) => A (enuD 0 ds) ε2
    | some (.tuple ds, ε2) => A (enuD 0 ds) ε2
    | _ => False) := id rfl
/-! ### native lists -/
/-- a comprehension over native things; what is read stays -/
theorem lc_nat {α : Type} {enc : α → PyData} {g : TDG} {tt : TDT} {te : TD} {vs : List Nat} {p : α → Bool} {f : α → PyData} {e : α → Ep} {ε : Ep} {A : List PyData → Ep → Prop} : ∀ (xs : List α) (acc : List PyData),
    (∀ a ∈ xs, ∀ (B : Vl → Ep → Prop) (C : Ep → Prop), (p a = true → B (.d (f a)) (e a)) → (p a = false → C (e a)) → g (enc a) ε fun ε1 => tt ε1 fun b ε2 => onB b (te ε2 B) (C ε2)) → (∀ a ∈ xs, wipeE (e a) vs = ε) → acc.length + xs.length ≤ 1000000 →
    A (acc ++ (xs.filter p).map f) ε → lcGo noI g tt te vs A (xs.map enc) acc ε
  | [], acc, _, _, _, h => ⟨trivial, by simpa using h⟩
  | x :: xs, acc, h1, h2, hl, h => by
    rw [List.length_cons] at hl
    refine ⟨trivial, h1 x List.mem_cons_self _ (fun ε2 => lcGo noI g tt te vs A (xs.map enc) acc (wipeE ε2 vs)) (fun hp => ?_) fun hp => ?_⟩
    · show acc.length < 1000000 ∧ lcGo noI g tt te vs A (xs.map enc) (acc ++ [f x]) (wipeE (e x) vs)
      rw [h2 x List.mem_cons_self]
      refine ⟨by omega, lc_nat xs _ (fun y hy => h1 y (List.mem_cons_of_mem _ hy)) (fun y hy => h2 y (List.mem_cons_of_mem _ hy)) (by simp; omega) ?_⟩
      rw [List.filter_cons, if_pos hp] at h
      simpa using h
    · show lcGo noI g tt te vs A (xs.map enc) acc (wipeE (e x) vs)
      rw [h2 x List.mem_cons_self]
      refine lc_nat xs _ (fun y hy => h1 y (List.mem_cons_of_mem _ hy)) (fun y hy => h2 y (List.mem_cons_of_mem _ hy)) (by omega) ?_
      rw [List.filter_cons, if_neg (by rw [hp]; exact Bool.false_ne_true)] at h
      exact h
def itemsOf : Src → Option (List PyData)
  | .rg lo n => some (rngD lo n)
  | .ds l => some l
  | .pl _ => none
theorem items_len {S : Src} {l : List PyData} (h : itemsOf S = some l) (ε : Ep) : lenAt S ε = some l.length := by
  cases S with
  | rg lo n => cases h; show some n = _; rw [rngD_len]
  | ds l => cases h; rfl
  | pl r => cases h
theorem items_at {S : Src} {l : List PyData} {i : Nat} {x : PyData} (h : itemsOf S = some l) (hx : l[i]? = some x) (ε : Ep) : itemAt S i ε = some (.d x) := by
  cases S with
  | rg lo n =>
    cases h
    obtain ⟨_, rfl⟩ := rngD_get hx
    rfl
  | ds l =>
    cases h
    show (match l[i]? with
      | some x => some (Sl.d x)
      | none => none) = _
    rw [hx]
  | pl r => cases h
theorem lcx_pure {S : Src} {l : List PyData} {n : Nat} {tt : TDT} {te : TD} {vs : List Nat} {p : PyData → Bool} {f : PyData → PyData} {e : PyData → Ep} {ε : Ep} {A : List NT → Ep → Prop} (hS : itemsOf S = some l)
    (h1 : ∀ a ∈ l, ∀ (B : Vl → Ep → Prop) (C : Ep → Prop), (p a = true → B (.d (f a)) (e a)) → (p a = false → C (e a)) → tt (put ε n (.d a)) fun b ε2 => onB b (te ε2 B) (C ε2)) (h2 : ∀ a ∈ l, wipeE (e a) vs = ε) : ∀ (k i : Nat) (acc : List PyData), i + k = l.length → acc.length + k ≤ 1000000 →
    A ((acc ++ ((l.drop i).filter p).map f).map .fz) ε → lcGoX S n tt te vs A k i (acc.map .fz) ε
  | 0, i, acc, hi, _, h => ⟨by rw [items_len hS]; exact congrArg some (by omega), by
      rw [List.drop_eq_nil_of_le (by omega)] at h
      simpa using h⟩
  | k + 1, i, acc, hi, hl, h => by
    have hx : l[i]? = some l[i] := List.getElem?_eq_getElem (by omega)
    refine ⟨by rw [items_len hS]; exact congrArg some (by omega), ?_⟩
    rw [items_at hS hx]
    rw [List.drop_eq_getElem_cons (by omega)] at h
    show tt (put ε n (.d l[i])) _
    refine h1 _ (List.getElem_mem _) _ (fun ε2 => lcGoX S n tt te vs A k (i + 1) (acc.map .fz) (wipeE ε2 vs)) (fun hp => ?_) fun hp => ?_
    · show (acc.map NT.fz).length < 1000000 ∧ lcGoX S n tt te vs A k (i + 1) (acc.map .fz ++ [.fz (f l[i])]) (wipeE (e l[i]) vs)
      rw [h2 _ (List.getElem_mem _), List.length_map]
      have e2 : acc.map NT.fz ++ [.fz (f l[i])] = (acc ++ [f l[i]]).map .fz := by rw [List.map_append]; rfl
      rw [e2]
      refine ⟨by omega, lcx_pure hS h1 h2 k (i + 1) _ (by omega) (by simp; omega) ?_⟩
      rw [List.filter_cons, if_pos hp] at h
      simpa using h
    · show lcGoX S n tt te vs A k (i + 1) (acc.map .fz) (wipeE (e l[i]) vs)
      rw [h2 _ (List.getElem_mem _)]
      refine lcx_pure hS h1 h2 k (i + 1) _ (by omega) (by omega) ?_
      rw [List.filter_cons, if_neg (by rw [hp]; exact Bool.false_ne_true)] at h
      exact h
/-- over native things -/
theorem lcx_nat {α : Type} {enc : α → PyData} {xs : List α} {n : Nat} {tt : TDT} {te : TD} {vs : List Nat} {p : α → Bool} {f : α → PyData} {e : α → Ep} {ε : Ep} {A : List NT → Ep → Prop}
    (h1 : ∀ a ∈ xs, ∀ (B : Vl → Ep → Prop) (C : Ep → Prop), (p a = true → B (.d (f a)) (e a)) → (p a = false → C (e a)) → tt (put ε n (.d (enc a))) fun b ε2 => onB b (te ε2 B) (C ε2)) (h2 : ∀ a ∈ xs, wipeE (e a) vs = ε) : ∀ (S : Src) (k i : Nat) (acc : List PyData) (ys : List α), itemsOf S = some (xs.map enc) → i + k = xs.length → ys = xs.drop i → acc.length + k ≤ 1000000 →
    A ((acc ++ (ys.filter p).map f).map .fz) ε → lcGoX S n tt te vs A k i (acc.map .fz) ε
  | S, 0, i, acc, ys, hS, hi, hy, _, h => ⟨by rw [items_len hS, List.length_map]; exact congrArg some (by omega), by
      subst hy
      rw [List.drop_eq_nil_of_le (by omega)] at h
      simpa using h⟩
  | S, k + 1, i, acc, ys, hS, hi, hy, hl, h => by
    have hx : (xs.map enc)[i]? = some (enc xs[i]) := by rw [List.getElem?_map, List.getElem?_eq_getElem (by omega)]; rfl
    refine ⟨by rw [items_len hS, List.length_map]; exact congrArg some (by omega), ?_⟩
    rw [items_at hS hx]
    subst hy
    rw [List.drop_eq_getElem_cons (by omega)] at h
    show tt (put ε n (.d (enc xs[i]))) _
    refine h1 _ (List.getElem_mem _) _ (fun ε2 => lcGoX S n tt te vs A k (i + 1) (acc.map .fz) (wipeE ε2 vs)) (fun hp => ?_) fun hp => ?_
    · show (acc.map NT.fz).length < 1000000 ∧ lcGoX S n tt te vs A k (i + 1) (acc.map .fz ++ [.fz (f xs[i])]) (wipeE (e xs[i]) vs)
      rw [h2 _ (List.getElem_mem _), List.length_map]
      have e2 : acc.map NT.fz ++ [.fz (f xs[i])] = (acc ++ [f xs[i]]).map .fz := by rw [List.map_append]; rfl
      rw [e2]
      refine ⟨by omega, lcx_nat h1 h2 S k (i + 1) _ _ hS (by omega) rfl (by simp; omega) ?_⟩
      rw [List.filter_cons, if_pos hp] at h
      simpa using h
    · show lcGoX S n tt te vs A k (i + 1) (acc.map .fz) (wipeE (e xs[i]) vs)
      rw [h2 _ (List.getElem_mem _)]
      refine lcx_nat h1 h2 S k (i + 1) _ _ hS (by omega) rfl (by omega) ?_
      rw [List.filter_cons, if_neg (by rw [hp]; exact Bool.false_ne_true)] at h
      exact h
/-- .. along data, as it stands behind a walk -/
theorem lcX_ds {α : Type} {enc : α → PyData} {xs : List α} {n : Nat} {tt : TDT} {te : TD} {vs : List Nat} {p : α → Bool} {f : α → PyData} {e : α → Ep} {ε : Ep} {A : List NT → Ep → Prop} (hl : xs.length ≤ 1000000)
    (h1 : ∀ a ∈ xs, ∀ (B : Vl → Ep → Prop) (C : Ep → Prop), (p a = true → B (.d (f a)) (e a)) → (p a = false → C (e a)) → tt (put ε n (.d (enc a))) fun b ε2 => onB b (te ε2 B) (C ε2)) (h2 : ∀ a ∈ xs, wipeE (e a) vs = ε)
    (h : A (((xs.filter p).map f).map .fz) ε) : onO (lenAt (.ds (xs.map enc)) ε) fun L => lcGoX (.ds (xs.map enc)) n tt te vs A L 0 [] ε := by
  show lcGoX _ n tt te vs _ (xs.map enc).length 0 ([].map .fz) ε
  rw [List.length_map]
  exact lcx_nat h1 h2 _ _ 0 [] xs rfl (by omega) rfl (by simpa using hl) h
/-- .. along a range -/
theorem lcX_rg {lo : Int} {L : Nat} {n : Nat} {tt : TDT} {te : TD} {vs : List Nat} {p : Nat → Bool} {f : Nat → PyData} {e : Nat → Ep} {ε : Ep} {A : List NT → Ep → Prop} (hl : L ≤ 1000000)
    (h1 : ∀ i, i < L → ∀ (B : Vl → Ep → Prop) (C : Ep → Prop), (p i = true → B (.d (f i)) (e i)) → (p i = false → C (e i)) → tt (put ε n (.d (.int (lo + (i : Nat))))) fun b ε2 => onB b (te ε2 B) (C ε2)) (h2 : ∀ i, i < L → wipeE (e i) vs = ε)
    (h : A ((((List.range L).filter p).map f).map .fz) ε) : lcGoX (.rg lo L) n tt te vs A L 0 [] ε := by
  show lcGoX _ n tt te vs _ L 0 ([].map .fz) ε
  exact lcx_nat (enc := fun i : Nat => .int (lo + (i : Nat))) (xs := List.range L) (fun i hi => h1 i (List.mem_range.mp hi)) (fun i hi => h2 i (List.mem_range.mp hi)) _ _ 0 [] (List.range L) rfl (by simp) rfl (by simpa using hl) h
/-- .. without a test -/
theorem lcX_rg1 {lo : Int} {L : Nat} {n : Nat} {te : TD} {vs : List Nat} {f : Nat → PyData} {e : Nat → Ep} {ε : Ep} {A : List NT → Ep → Prop} (hl : L ≤ 1000000)
    (h1 : ∀ i, i < L → ∀ (B : Vl → Ep → Prop), B (.d (f i)) (e i) → te (put ε n (.d (.int (lo + (i : Nat))))) B) (h2 : ∀ i, i < L → wipeE (e i) vs = ε)
    (h : A (((List.range L).map f).map .fz) ε) : lcGoX (.rg lo L) n dYes te vs A L 0 [] ε :=
  lcX_rg (p := fun _ => true) hl (fun i hi B C hB _ => h1 i hi B (hB rfl)) h2 (by rw [List.filter_eq_self.mpr fun _ _ => rfl]; exact h)
theorem lcX_ds1 {α : Type} {enc : α → PyData} {xs : List α} {n : Nat} {te : TD} {vs : List Nat} {f : α → PyData} {e : α → Ep} {ε : Ep} {A : List NT → Ep → Prop} (hl : xs.length ≤ 1000000)
    (h1 : ∀ a ∈ xs, ∀ (B : Vl → Ep → Prop), B (.d (f a)) (e a) → te (put ε n (.d (enc a))) B) (h2 : ∀ a ∈ xs, wipeE (e a) vs = ε)
    (h : A ((xs.map f).map .fz) ε) : onO (lenAt (.ds (xs.map enc)) ε) fun L => lcGoX (.ds (xs.map enc)) n dYes te vs A L 0 [] ε :=
  lcX_ds (p := fun _ => true) hl (fun i hi B C hB _ => h1 i hi B (hB rfl)) h2 (by rw [List.filter_eq_self.mpr fun _ _ => rfl]; exact h)
/-- .. where each turn's thing is so, whatever it is -/
theorem lcX_rgP {lo : Int} {L : Nat} {n : Nat} {te : TD} {vs : List Nat} {P : Nat → PyData → Prop} {e : Nat → Ep} {ε : Ep} {A : List NT → Ep → Prop} (hl : L < 1000000)
    (h1 : ∀ i, i < L → ∀ (B : Vl → Ep → Prop), (∀ x, P i x → B (.d x) (e i)) → te (put ε n (.d (.int (lo + (i : Nat))))) B) (h2 : ∀ i, i < L → wipeE (e i) vs = ε)
    (h : ∀ ys : List PyData, ys.length = L → (∀ (i : Nat) y, ys[i]? = some y → P i y) → A (ys.map .fz) ε) : lcGoX (.rg lo L) n dYes te vs A L 0 [] ε := by
  refine lcx_rg (I := fun ε' => ε' = ε) (P := P) (A := A) hl L 0 [] ε (by omega) rfl rfl (fun j x hx => by simp at hx) (fun i hi ε' he C hC => ?_) fun xs ε' hx hp he => ?_
  · subst he; exact h1 i hi C fun x px => hC x _ px (h2 i hi)
  · subst he; exact h xs hx hp
/-- a walk along data -/
theorem forX_eq {l : List PyData} {n : Nat} {b : TDS} {A : DEnds} {S : Src} (hS : itemsOf S = some l) : ∀ (k i : Nat), i + k = l.length → forGoX S n b A k i = forGo noI (gNm n) b A (l.drop i)
  | 0, i, hi => by
    funext ε
    rw [List.drop_eq_nil_of_le (by omega)]
    refine propext ⟨fun h => ⟨trivial, h.2⟩, fun h => ⟨by rw [items_len hS]; exact congrArg some (by omega), h.2⟩⟩
  | k + 1, i, hi => by
    funext ε
    have hx : l[i]? = some l[i] := List.getElem?_eq_getElem (by omega)
    rw [List.drop_eq_getElem_cons (by omega)]
    have ih := forX_eq (n := n) (b := b) (A := A) hS k (i + 1) (by omega)
    show (lenAt S ε = some (i + (k + 1)) ∧ onO (itemAt S i ε) fun s => b { nx := forGoX S n b A k (i + 1), rt := A.rt, bk := A.nx, ct := forGoX S n b A k (i + 1), xc := A.xc } (put ε n s)) = (True ∧ b { nx := forGo noI (gNm n) b A (l.drop (i + 1)), rt := A.rt, bk := A.nx, ct := forGo noI (gNm n) b A (l.drop (i + 1)), xc := A.xc } (put ε n (.d l[i])))
    rw [ih, items_at hS hx]
    refine propext ⟨fun h => ⟨trivial, h.2⟩, fun h => ⟨by rw [items_len hS]; exact congrArg some (by omega), h.2⟩⟩
theorem forX_ds {l : List PyData} {n : Nat} {b : TDS} {A : DEnds} {ε : Ep} (h : forGo noI (gNm n) b A l ε) : onO (lenAt (.ds l) ε) fun L => forGoX (.ds l) n b A L 0 ε := by
  show forGoX (.ds l) n b A l.length 0 ε
  rw [forX_eq (l := l) rfl l.length 0 (by omega)]
  exact h

/-! ### places: length and index, whatever lies in them -/
theorem fz_all_map : ∀ {ts : List NT} {xs : List PyData}, fzAll ts = some xs → ts = xs.map .fz
  | [], xs, h => by cases h; rfl
  | .fz x :: ts, xs, h => by
    simp only [fzAll] at h
    split at h
    · rename_i ys e
      cases h
      rw [fz_all_map e]
      rfl
    · cases h
  | .node _ _ _ :: _, _, h => by cases h
theorem peek_bp {ε : Ep} {i : Nat} {p : List Nat} {a : Addr} {x : PyData} (h : peek ε (.bp i p a) = some x) : ∃ xs : List PyData, x = .list xs ∧ nodeAt ε (.bp i p a) = some (.lst, xs.map .fz) := by
  have h : peekN (look ε i) p a = some x := h
  cases hl : look ε i with
  | nt fr t =>
    rw [hl] at h
    have h : (match getN t p with
      | some s => flatN s a
      | none => none) = some x := h
    cases hg : getN t p with
    | none => rw [hg] at h; cases h
    | some s =>
      rw [hg] at h
      have h : flatN s a = some x := h
      cases s with
      | fz y => cases h
      | node b hd ts =>
        cases hd with
        | lst =>
          simp only [flatN] at h
          split at h
          · rename_i e
            split at h
            · rename_i xs e2
              cases h
              refine ⟨xs, rfl, ?_⟩
              simp only [nodeAt, hl, hg, e, if_true]
              rw [fz_all_map e2]
            · cases h
          · cases h
        | _ => cases h
  | _ => rw [hl] at h; cases h
theorem ap_lenP {ε : Ep} {i : Nat} {p : List Nat} {a : Addr} {B : Vl → Prop} : lenA ε [.bp i p a] B = (match nodeAt ε (.bp i p a) with
    | some (.lst, ts) => B (.d (.int (ts.length : Nat)))
    | _ => False) := by
  unfold lenA
  simp only
  split
  · rename_i x e
    obtain ⟨xs, rfl, e2⟩ := peek_bp e
    rw [e2]
    show B (.d (.int (xs.length : Nat))) = B (.d (.int ((xs.map NT.fz).length : Nat)))
    rw [List.length_map]
  · rfl
theorem ap_ixP {ε : Ep} {i : Nat} {p : List Nat} {a : Addr} {k : Int} {B : Vl → Prop} : ixA ε (.bp i p a) (.int k) B = (match nodeAt ε (.bp i p a) with
    | some (.lst, ts) => onO (ixN ts.length k) fun m => onO (kid (.bp i p a) ts m) B
    | _ => False) := by
  unfold ixA
  split
  · rename_i x e
    obtain ⟨xs, rfl, e2⟩ := peek_bp e
    rw [e2]
    show onO (atI xs k) (fun d => B (.d d)) = onO (ixN (xs.map NT.fz).length k) fun m => onO (kid (.bp i p a) (xs.map .fz) m) B
    rw [List.length_map]
    unfold atI
    cases hk : ixN xs.length k with
    | none => rfl
    | some m =>
      show onO xs[m]? _ = onO (kid (.bp i p a) (xs.map .fz) m) B
      unfold kid
      rw [List.getElem?_map]
      cases hm : xs[m]? with
      | none => rfl
      | some d => rfl
  · generalize nodeAt ε (.bp i p a) = o
    cases o with
    | none => rfl
    | some z =>
      obtain ⟨hd, ts⟩ := z
      cases hd <;> rfl
theorem ap_ixD {ε : Ep} {x y : PyData} {B : Vl → Prop} : ixA ε (.d x) y B = kIxA x y B := id rfl
theorem ap_ixW {ε : Ep} {xs : List PyData} {y : PyData} {B : Vl → Prop} : ixA ε (.new xs) y B = kIxA (.list xs) y B := id rfl
theorem ap_ixB {ε : Ep} {i : Nat} {y : PyData} {B : Vl → Prop} : ixA ε (.bor i) y B = (match (match look ε i with
    | .d x => some x
    | .lst _ xs => some (.list xs)
    | _ => none) with
  | some x => kIxA x y B
  | none => False) := by
  show (match (match look ε i with
    | .d x => some x
    | .lst _ xs => some (.list xs)
    | _ => none : Option PyData) with
  | some x => kIxA x y B
  | none => match y, (none : Option (Hd × List NT)) with
    | .int k, some (.lst, ts) => onO (ixN ts.length k) fun m => onO (kid (.bor i) ts m) B
    | _, _ => False) = _
  cases look ε i <;> first | rfl | (cases y <;> rfl)
theorem ap_lenD {ε : Ep} {x : PyData} {B : Vl → Prop} : lenA ε [.d x] B = kLen [x] B := id rfl
theorem ap_lenW {ε : Ep} {xs : List PyData} {B : Vl → Prop} : lenA ε [.new xs] B = B (.d (.int (xs.length : Nat))) := id rfl
theorem ap_lenB {ε : Ep} {i : Nat} {B : Vl → Prop} : lenA ε [.bor i] B = (match (match look ε i with
    | .d x => some x
    | .lst _ xs => some (.list xs)
    | _ => none) with
  | some x => kLen [x] B
  | none => False) := by
  show (match (match look ε i with
    | .d x => some x
    | .lst _ xs => some (.list xs)
    | _ => none : Option PyData) with
  | some x => kLen [x] B
  | none => match (none : Option (Hd × List NT)) with
    | some (.lst, ts) => B (.d (.int (ts.length : Nat)))
    | _ => False) = _
  cases look ε i <;> rfl
theorem ixZ {n : Nat} : ixN (n + 1) 0 = some 0 := by rw [show (0 : Int) = ((0 : Nat) : Int) from rfl]; exact (ix_any (n := n + 1) (i := ((0 : Nat) : Int)) (by omega) (by omega)).trans rfl
theorem ixT {n : Nat} : ixN (n + 3) 2 = some 2 := (ix_any (n := n + 3) (i := 2) (by omega) (by omega)).trans rfl
theorem ixL {n : Nat} : ixN (n + 1) (-1) = some n := (ix_any (n := n + 1) (i := -1) (by omega) (by omega)).trans (by rw [if_neg (by omega)]; exact congrArg some (by omega))

/-! ### readings of values by their form: what is stuck stays folded -/
section
variable {ε : Ep} {x : PyData} {xs : List PyData} {kvs : List (Key × PyData)} {i : Nat} {p : List Nat} {a : Addr} {t : NT} {nm : Str} {w : V}
theorem pk_d : peek ε (.d x) = some x := id rfl
theorem pk_new : peek ε (.new xs) = some (.list xs) := id rfl
theorem pk_bor : peek ε (.bor i) = match look ε i with
    | .d x => some x
    | .lst _ xs => some (.list xs)
    | _ => none := id rfl
theorem pk_bp : peek ε (.bp i p a) = match look ε i with
    | .nt _ t => match getN t p with
      | some s => flatN s a
      | none => none
    | _ => none := by
  show peekN (look ε i) p a = _
  cases look ε i <;> rfl
theorem pk_nt : peek ε (.nt t) = none := id rfl
theorem fz_d : frz ε (.d x) = some (x, ε) := id rfl
theorem fz_dk : frz ε (.dk kvs) = some (.dict (kvs.map fun q => (keyP q.1, q.2)), ε) := id rfl
theorem fz_new : frz ε (.new xs) = some (.list xs, ε) := id rfl
theorem fz_bor : frz ε (.bor i) = match look ε i with
    | .d x => some (x, ε)
    | .lst _ xs => some (.list xs, put ε i (.d (.list xs)))
    | .dct _ kvs => some (.dict (kvs.map fun q => (keyP q.1, q.2)), put ε i (.d (.dict (kvs.map fun q => (keyP q.1, q.2)))))
    | _ => none := id rfl
theorem fz_bp : frz ε (.bp i p a) = none := id rfl
theorem fz_nt : frz ε (.nt t) = none := id rfl
theorem so_new : slOf ε (.new xs) = some (.lst true xs, ε) := id rfl
theorem so_dk : slOf ε (.dk kvs) = some (.dct true kvs, ε) := id rfl
theorem so_v : slOf ε (.v w) = some (.v w, ε) := id rfl
theorem so_nt : slOf ε (.nt t) = some (.nt true t, ε) := id rfl
theorem so_bp : slOf ε (.bp i p a) = some (.al i p a, ε) := id rfl
theorem so_ex : slOf ε (.ex nm) = some (.ex nm, ε) := id rfl
theorem so_d : slOf ε (.d x) = some (.d x, ε) := id rfl
theorem so_bor : slOf ε (.bor i) = match frz ε (.bor i) with
    | some (x, ε') => some (.d x, ε')
    | none => none := id rfl
theorem ub_d : unbor ε (.d x) = some (.d x, ε) := id rfl
theorem ub_new : unbor ε (.new xs) = some (.new xs, ε) := id rfl
theorem ub_dk : unbor ε (.dk kvs) = some (.dk kvs, ε) := id rfl
theorem ub_nt : unbor ε (.nt t) = some (.nt t, ε) := id rfl
theorem ub_ex : unbor ε (.ex nm) = some (.ex nm, ε) := id rfl
theorem ub_bor : unbor ε (.bor i) = match look ε i with
    | .d x => some (.d x, ε)
    | .lst true xs => some (.new xs, put ε i .un)
    | .dct true kvs => some (.dk kvs, put ε i .un)
    | _ => none := id rfl
theorem ub_bp : unbor ε (.bp i [] a) = match look ε i with
    | .nt true (.node b h ts) => if a = b then some (.nt (.node b h ts), put ε i .un) else none
    | _ => none := id rfl
theorem na_bp : nodeAt ε (.bp i p a) = match look ε i with
    | .nt _ t => match getN t p with
      | some (.node b h ts) => if a = b then some (h, ts) else none
      | _ => none
    | _ => none := id rfl
theorem na_d : nodeAt ε (.d x) = none := id rfl
theorem na_new : nodeAt ε (.new xs) = none := id rfl
theorem na_bor : nodeAt ε (.bor i) = none := id rfl
theorem na_nt : nodeAt ε (.nt t) = none := id rfl
theorem an_new {A : NT → Ep → Prop} : asN ε (.new xs) A = ∀ a, A (.node a .lst (xs.map .fz)) ε := id rfl
theorem an_nt {A : NT → Ep → Prop} : asN ε (.nt t) A = A t ε := id rfl
theorem an_d {A : NT → Ep → Prop} : asN ε (.d x) A = A (.fz x) ε := id rfl
theorem an_bor {A : NT → Ep → Prop} : asN ε (.bor i) A = match frz ε (.bor i) with
    | some (x, ε') => A (.fz x) ε'
    | none => False := id rfl
theorem pn_bp : putN ε (.bp i p a) t = match look ε i with
    | .nt fr t0 => put ε i (.nt fr (setN t0 p t))
    | _ => ε := id rfl
theorem ad_bp : adOf (.bp i p a) = a := id rfl
theorem kd_bp {ts : List NT} {m : Nat} : kid (.bp i p a) ts m = match ts[m]? with
    | some (.fz x) => some (.d x)
    | some (.node b _ _) => some (.bp i (p ++ [m]) b)
    | none => none := by
  unfold kid
  cases ts[m]? with
  | none => rfl
  | some t => cases t <;> rfl
theorem sk_d : slK (.d x) = .d x := id rfl
theorem sk_bp : slK (.bp i p a) = .al i p a := id rfl
theorem sc_bp : srcOf ε (.bp i p a) = match nodeAt ε (.bp i p a) with
    | some (.lst, _) => some (.pl (.bp i p a), ε)
    | _ => none := by
  unfold srcOf
  generalize nodeAt ε (.bp i p a) = o
  cases o with
  | none => rfl
  | some z => obtain ⟨h, ts⟩ := z; cases h <;> rfl
theorem sc_d : srcOf ε (.d x) = match itsOf x with
    | some ds => some (.ds ds, ε)
    | none => none := id rfl
theorem sc_new : srcOf ε (.new xs) = some (.ds xs, ε) := id rfl
theorem sc_bor : srcOf ε (.bor i) = match frz ε (.bor i) with
    | some (x, ε') => match itsOf x with
      | some ds => some (.ds ds, ε')
      | none => none
    | none => none := id rfl
theorem ps_d : parS ε (.d x) = some (.d x) := id rfl
theorem ps_ex : parS ε (.ex nm) = some (.ex nm) := id rfl
theorem ps_bor : parS ε (.bor i) = match look ε i with
    | .lst _ xs => some (.lst false xs)
    | .dct _ kvs => some (.dct false kvs)
    | _ => none := id rfl
theorem ps_bp : parS ε (.bp i p a) = match look ε i with
    | .nt _ t => match getN t p with
      | some (.node b h ts) => if a = b then some (.nt false (.node b h ts)) else none
      | _ => none
    | _ => none := id rfl
theorem sl_d : slotOf (.d x) = none := id rfl
theorem sl_ex : slotOf (.ex nm) = none := id rfl
theorem sl_bor : slotOf (.bor i) = some i := id rfl
theorem sl_bp : slotOf (.bp i p a) = some i := id rfl
theorem ap_appu {o r : Vl} {A : Vl → Ep → Prop} : ev (appN ε o [r] A) = ev (asN ε r fun t ε' => match nodeAt ε' o with
    | some (.lst, ts) => ts.length < 1000000 ∧ A (.d .none) (putN ε' o (.node (adOf o) .lst (ts ++ [t])))
    | _ => False) := id rfl
theorem an_ev {A : NT → Ep → Prop} : ev (asN ε (.new xs) A) = ∀ a, ev (A (.node a .lst (xs.map .fz)) ε) := id rfl
theorem ap_dsortI {j : Nat} {A : Vl → Ep → Prop} : ev (dDSortI j ε A) = ev (match look ε j with
  | .dct _ kvs => ∃ ks : List Int, kvs.map (·.1) = ks.map Sum.inl ∧ ks.length < 64 ∧ ∀ ys : List Int, ys.Perm ks → ys.Pairwise (· ≤ ·) → A (.new (ys.map .int)) ε
  | _ => False) := id rfl
end
end DL

/-! DL12: calls whose first argument is a new list, handed in to be changed. -/
namespace DL
open PySem PySem.Spec PyProof.Rows L2
theorem look_snoc : ∀ {ε : Ep} {z : Sl} {i : Nat}, i < ε.length → look (ε ++ [z]) i = look ε i
  | [], _, _, h => absurd h (Nat.not_lt_zero _)
  | _ :: _, _, 0, _ => rfl
  | _ :: r, z, i + 1, h => look_snoc (ε := r) (Nat.lt_of_succ_lt_succ h)
theorem look_snocE : ∀ {ε : Ep} {z : Sl}, look (ε ++ [z]) ε.length = z
  | [], _ => rfl
  | _ :: r, z => look_snocE (ε := r)
theorem put_snoc : ∀ {ε : Ep} {z s : Sl} {i : Nat}, i < ε.length → put (ε ++ [z]) i s = put ε i s ++ [z]
  | [], _, _, _, h => absurd h (Nat.not_lt_zero _)
  | _ :: _, _, _, 0, _ => rfl
  | a :: r, z, s, i + 1, h => congrArg (a :: ·) (put_snoc (ε := r) (Nat.lt_of_succ_lt_succ h))
theorem put_snocE : ∀ {ε : Ep} {z s : Sl}, put (ε ++ [z]) ε.length s = ε ++ [s]
  | [], _, _ => rfl
  | a :: r, z, s => congrArg (a :: ·) (put_snocE (ε := r))
theorem parS_app {ε : Ep} {z s : Sl} {r : Vl} (h : parS ε r = some s) : parS (ε ++ [z]) r = some s := by
  cases r with
  | bor j =>
    have hj : j < ε.length := look_lt fun q => by rw [parS, q] at h; cases h
    rw [parS, look_snoc hj]
    exact h
  | bp j p a =>
    have hj : j < ε.length := look_lt fun q => by rw [parS, q] at h; cases h
    rw [parS, look_snoc hj]
    exact h
  | _ => exact h
theorem parAll_app {ε : Ep} {z : Sl} : ∀ {rs : List Vl} {ps : List Sl}, parAll ε rs = some ps → parAll (ε ++ [z]) rs = some ps
  | [], ps, h => h
  | r :: rs, ps, h => by
    cases q1 : parS ε r with
    | none => simp [parAll, q1] at h
    | some s =>
      cases q2 : parAll ε rs with
      | none => simp [parAll, q1, q2] at h
      | some ss =>
        simp only [parAll, q1, q2] at h
        simp only [parAll, parS_app q1, parAll_app q2]
        exact h
theorem slot_lt {ε : Ep} : ∀ {rs : List Vl} {ps : List Sl}, parAll ε rs = some ps → ∀ j ∈ rs.filterMap slotOf, j < ε.length
  | [], ps, h, j, hj => nomatch hj
  | r :: rs, ps, h, j, hj => by
    cases q1 : parS ε r with
    | none => simp [parAll, q1] at h
    | some s =>
      cases q2 : parAll ε rs with
      | none => simp [parAll, q1, q2] at h
      | some ss =>
        cases hs : slotOf r with
        | none =>
          rw [List.filterMap_cons, hs] at hj
          exact slot_lt q2 j hj
        | some i =>
          rw [List.filterMap_cons, hs] at hj
          rcases List.mem_cons.mp hj with e | hj
          · subst e
            cases r with
            | bor k => cases hs; exact look_lt fun q => by rw [parS, q] at q1; cases q1
            | bp k p a => cases hs; exact look_lt fun q => by rw [parS, q] at q1; cases q1
            | _ => cases hs
          · exact slot_lt q2 j hj
theorem bkAll_app {z : Sl} : ∀ {rs : List Vl} {ss : List Sl} {ε ε2 : Ep}, (∀ j ∈ rs.filterMap slotOf, j < ε.length) → bkAll ε rs ss = some ε2 → bkAll (ε ++ [z]) rs ss = some (ε2 ++ [z])
  | [], ss, ε, ε2, _, h => by
    have h : some ε = some ε2 := by simpa [bkAll] using h
    cases h
    simp [bkAll]
  | r :: rs, [], ε, ε2, _, h => by simp [bkAll] at h
  | r :: rs, s :: ss, ε, ε2, hl, h => by
    unfold bkAll at h ⊢
    cases hj : slotOf r with
    | none =>
      simp only [hj] at h ⊢
      rw [List.filterMap_cons, hj] at hl
      exact bkAll_app hl h
    | some j =>
      simp only [hj] at h ⊢
      rw [List.filterMap_cons, hj] at hl
      have hjl := hl j List.mem_cons_self
      rw [look_snoc hjl]
      cases hb : bk1 r (look ε j) s with
      | none => simp only [hb] at h; cases h
      | some s' =>
        simp only [hb] at h ⊢
        rw [put_snoc hjl]
        exact bkAll_app (fun i hi => by rw [put_length]; exact hl i (List.mem_cons_of_mem _ hi)) h
theorem vok_any {K : PySem.W.Frag} {Hs Hu G H Ht : Hp} {ow ow2 : Ow} {σ σ1 : L2.St} {r : Vl} {v : V} (h : VOk K Hs G H ow [] r v) (h2 : VOk K Ht G H ow2 σ1 r v) : VOk K Ht G H ow2 σ r v := by
  cases r with
  | bor i => exact absurd (show ([] : L2.St)[i]? = some (some v) from h) (by simp)
  | _ => exact h2
/-- a new list stands behind the names -/
theorem rep_more {K : PySem.W.Frag} {c : Ct} {Gs Hs G H : Hp} {ows ow : Ow} {σ : L2.St} {ε : Ep} {xs : List PyData} {v : V} (F : Fr Gs Hs ows G H ow) (hd : ∀ a, Hs a = none → c.H0 a = none) (R : Rep K c G H ow σ ε) (V1 : VOk K Hs G H ow σ (.new xs) v) :
    ∃ ow', Fr Gs Hs ows G H ow' ∧ Rep K c G H ow' (σ ++ [some v]) (ε ++ [.lst true xs]) ∧ ∀ rs vs, VsOk K Hs G H ow σ rs vs → (∀ r ∈ rs, (∃ ps, parS ε r = some ps)) → VsOk K Hs G H ow' (σ ++ [some v]) rs vs := by
  obtain ⟨p, us, rfl, v1, v2, v3, v4, v5⟩ := V1
  refine ⟨fun a => if a = p then some ε.length else ow a, ⟨F.ex, fun a o z1 z2 => ?_, F.dom⟩, ⟨R.ex, R.dom, by simp [R.len], fun i o ho => ?_⟩, fun rs => ?_⟩
  · have ne : a ≠ p := ne_of_none z1 v1
    obtain ⟨q1, q2, q3⟩ := F.st a o z1 z2
    exact ⟨q1, by rw [if_neg ne]; exact q2, q3⟩
  · rw [List.getElem?_append] at ho
    split at ho
    · rename_i hi
      rw [look_snoc (by rw [← R.len]; exact hi)]
      refine (R.sl i o ho).grow (Same.refl G) fun q u z1 z2 z3 => ⟨?_, z2, z3⟩
      have ne : q ≠ p := fun e => by rw [e, v2] at z1; cases z1
      show (if q = p then some ε.length else ow q) = _
      rw [if_neg ne]
      exact z1
    · rename_i hi
      obtain ⟨q2, e⟩ := List.getElem?_eq_some_iff.mp ho
      simp at q2
      have hi : i = ε.length := by rw [← R.len]; omega
      subst hi
      simp [R.len] at e
      rw [look_snocE, ← e]
      exact ⟨p, us, rfl, by simp, v3, v4, v5, fun _ => hd p v1, fun z => nomatch z⟩
  · induction rs with
    | nil => intro vs h _; exact h
    | cons r rs ih =>
      rintro vs ⟨w, ws, rfl, h1, h2⟩ hp
      refine ⟨w, ws, rfl, ?_, ih ws h2 fun r hr => hp r (List.mem_cons_of_mem _ hr)⟩
      obtain ⟨ps, hps⟩ := hp r List.mem_cons_self
      cases r with
      | d x => exact h1
      | ex nm => exact h1
      | bor i =>
        have h1 : σ[i]? = some (some w) := h1
        show (σ ++ [some (V.ref p)])[i]? = some (some w)
        rw [List.getElem?_append_left (List.getElem?_eq_some_iff.mp h1).1]
        exact h1
      | bp i q a => exact h1
      | _ => cases hps
theorem par_each {ε : Ep} : ∀ {rs : List Vl} {ps : List Sl}, parAll ε rs = some ps → ∀ r ∈ rs, ∃ s, parS ε r = some s
  | [], _, _, r, hr => nomatch hr
  | x :: rs, ps, h, r, hr => by
    cases q1 : parS ε x with
    | none => simp [parAll, q1] at h
    | some s =>
      cases q2 : parAll ε rs with
      | none => simp [parAll, q1, q2] at h
      | some ss =>
        rcases List.mem_cons.mp hr with e | hr
        · exact ⟨s, by rw [e]; exact q1⟩
        · exact par_each q2 r hr
/-- the last name falls -/
theorem rep_less {K : PySem.W.Frag} {c : Ct} {G H : Hp} {ow : Ow} {σ : L2.St} {o : Option V} {ε : Ep} {z : Sl} (R : Rep K c G H ow (σ ++ [o]) (ε ++ [z])) : Rep K c G H ow σ ε := by
  have hl : σ.length = ε.length := by have := R.len; simp at this; exact this
  refine ⟨R.ex, R.dom, hl, fun i s hs => ?_⟩
  have hi := (List.getElem?_eq_some_iff.mp hs).1
  have q := R.sl i s (by rw [List.getElem?_append_left hi]; exact hs)
  rw [look_snoc (by rw [← hl]; exact hi)] at q
  exact q
def callW (S : DSp) (rs : List Vl) (ε1 : Ep) (A : Vl → Ep → Prop) : Prop := match rs with
  | .new xs :: rs' => onO (parAll ε1 rs') fun ps => (rs'.filterMap slotOf).Nodup ∧ runS S (.lst false xs :: ps) fun r ps' => match ps' with
    | .lst false _ :: ps2 => onO (bkAll ε1 rs' ps2) fun ε2 => A r ε2
    | _ => False
  | _ => False
def dCallW (S : DSp) (t : TDA) : TD := fun ε A => t ε fun rs ε1 => callW S rs ε1 A
theorem dcallW_rd {K : PySem.W.Frag} {n : Nat} {S : DSp} {t : TDA} {σ : L2.St} {H : Hp} {Q : VK} {E : XK} (hS : ∀ ps A, S ps A → ps.length = n) (h : rdV K (dCallW S t) σ H Q) : tCall (spD K n S) [] E (rdA K t) σ H Q := by
  obtain ⟨c, G, ow, ε, A, R, h, kk⟩ := h
  refine ⟨c, G, ow, ε, _, R, h, fun rs ε1 G1 H1 ow1 vs h1 F1 R1 V1 => ?_⟩
  show spD K n S (vs ++ []) H1 Q E
  rw [List.append_nil]
  have key : ∃ xs rs', rs = .new xs :: rs' := by
    unfold callW at h1
    split at h1
    · exact ⟨_, _, rfl⟩
    · exact h1.elim
  obtain ⟨xs, rs', rfl⟩ := key
  have h1 : onO (parAll ε1 rs') fun ps => (rs'.filterMap slotOf).Nodup ∧ runS S (.lst false xs :: ps) fun r ps' => match ps' with
    | .lst false _ :: ps2 => onO (bkAll ε1 rs' ps2) fun ε2 => A r ε2
    | _ => False := h1
  obtain ⟨ps, hps, hn, h1⟩ := onO_get h1
  obtain ⟨v, us, rfl, W1, W2⟩ := V1
  obtain ⟨ow2, F2, R2, more⟩ := rep_more F1 R.dom R1 W1
  have V2 : VsOk K H G1 H1 ow2 (σ ++ [some v]) (.bor ε1.length :: rs') (v :: us) := ⟨v, us, rfl, by
    show (σ ++ [some v])[ε1.length]? = some (some v)
    rw [← R1.len]
    simp, more rs' us W2 (par_each hps)⟩
  have hps2 : parAll (ε1 ++ [.lst true xs]) (.bor ε1.length :: rs') = some (.lst false xs :: ps) := by
    simp only [parAll, parS, look_snocE, parAll_app hps]
  have hn2 : ((Vl.bor ε1.length :: rs').filterMap slotOf).Nodup := by
    rw [List.filterMap_cons]
    show (ε1.length :: rs'.filterMap slotOf).Nodup
    exact List.nodup_cons.mpr ⟨fun m => absurd (slot_lt hps _ m) (Nat.lt_irrefl _), hn⟩
  obtain ⟨par, ow', Rc, hpar, hl, back⟩ := callM_core R2 V2 hps2 hn2
  refine ⟨⟨H1, ow', par⟩, G1, ow', _, _, rfl, Rc, hS _ _ h1, hpar, h1, fun r ps' w G2 H2 ow3 q F3 R3 V3 => ?_⟩
  match ps', q, R3 with
  | .lst false ys :: ps2, q, R3 =>
    obtain ⟨ε2, hb, q⟩ := onO_get q
    have hb2 : bkAll (ε1 ++ [.lst true xs]) (.bor ε1.length :: rs') (.lst false ys :: ps2) = some (ε2 ++ [.lst true ys]) := by
      simp only [bkAll, slotOf, look_snocE, bk1, put_snocE]
      exact bkAll_app (slot_lt hps) hb
    obtain ⟨ow4, F4, R4, V4⟩ := back G2 H2 ow3 _ _ F3 R3 hb2
    refine kk r ε2 G2 H2 ow4 w q (F2.trans F4) (rep_less R4) ?_
    exact vok_any (Hu := H) V3 (V4 r w V3 H F1.dom)
section
variable {X : Cx} {k n : Nat} {f : Addr} {fd : FuncData} {ps : List Str} {S : DSp} {x : Str} {p pos : Pos} {e : Expr} {es : List Expr} {t : TDA}
theorem dv_callW (F : FnOk X.prog X.w X.K X.mg X.base CX0 k f fd ps (spD X.K n S)) (hS : ∀ ps A, S ps A → ps.length = n) (hr : Room k X.A) (hg : Gl X x) (hm : X.mg x = some (.ref f)) (hk : PySem.W.keepIn X.K (.ref f) = true) (hb : Binds X.K fd ps [])
    (ha : DA X (e :: es) t) (hdb : (x == ("__debug__" : Str)) = false := by decide) (he : starEach (e :: es) X.env = (false, eval e X.env) :: starEach es X.env := by rfl) (hpl : (backTo pos (starEach es X.env)).any (·.1) = false := by rfl) :
    DV X (.Call (.Name x p) (e :: es) [] pos) (dCallW S t) := pe_w (pe_call F hr hg hm hk hb .nil pass0 ha hdb he hpl) fun _ _ _ h => dcallW_rd (E := E0) hS h
end
theorem ap_callW {S : DSp} {a : TDA} {ε : Ep} {A : Vl → Ep → Prop} : ev (dCallW S a ε A) = ev (a ε fun rs ε1 => callW S rs ε1 A) := id rfl
theorem ap_cW {S : DSp} {xs : List PyData} {rs : List Vl} {ε : Ep} {A : Vl → Ep → Prop} : ev (callW S (.new xs :: rs) ε A) = ev (onO (parAll ε rs) fun ps => (rs.filterMap slotOf).Nodup ∧ runS S (.lst false xs :: ps) fun r ps' => match ps' with
    | .lst false _ :: ps2 => onO (bkAll ε rs ps2) fun ε2 => A r ε2
    | _ => False) := id rfl
end DL

/-! DL13: the place of the first equal one in a list. -/
namespace DL
open PySem PySem.Spec PyProof.Rows L2
theorem units65 {k : Nat} {A : Around} (r : Room k A) : A.units + 65 < cLine := by have := r.un; omega
def kIndex : PyData → List PyData → (Vl → Prop) → Prop := fun x ds A => match x, ds with
  | .list xs, [d] => SeqAt.shaped (.list xs) = true ∧ SeqAt.shaped d = true ∧ onO (xs.findIdx? fun y => PyData.eqv y d) fun j => A (.d (.int (j : Nat)))
  | _, _ => False
theorem me_indexD {K : PySem.W.Frag} : MetD K (rIndexD K) kIndex := fun G H v us x ds A Q e p hu h k => by
  unfold kIndex at h
  split at h
  · rename_i xs d
    cases hu with
    | cons h1 t =>
      cases t
      obtain ⟨s1, s2, h3⟩ := h
      obtain ⟨j, hj, h3⟩ := onO_get h3
      obtain ⟨hl, g1, g2⟩ := List.findIdx?_eq_some_iff_getElem.mp hj
      have hd := (p.dp e).dp _ (SeqAt.canLay_of_shaped s1)
      have ha : ∃ a, v = V.ref a := by cases hd with | lst _ _ => exact ⟨_, rfl⟩
      obtain ⟨a, rfl⟩ := ha
      refine ⟨a, _, d, xs, j, xs[j], rfl, rfl, hd, (dp_ex e _ h1).dp _ (SeqAt.canLay_of_shaped s2), s1, s2, List.getElem?_eq_getElem hl, g1, fun m z hm hz => ?_, k _ _ _ h3 (.val (.int _))⟩
      obtain ⟨hml, rfl⟩ := List.getElem?_eq_some_iff.mp hz
      have := g2 m hm
      simpa using this
  · exact h.elim
theorem k_Index {xs : List PyData} {d : PyData} {B : Vl → Prop} : kIndex (.list xs) [d] B = (SeqAt.shaped (.list xs) = true ∧ SeqAt.shaped d = true ∧ onO (xs.findIdx? fun y => PyData.eqv y d) fun j => B (.d (.int (j : Nat)))) := id rfl
theorem lay_bools : ∀ bs : List Bool, PyData.canLayAll0 (bs.map .bool) = true
  | [] => rfl
  | _ :: bs => by rw [List.map_cons, PyData.canLayAll0, lay_bools bs]; rfl
theorem shaped_bools (bs : List Bool) : SeqAt.shaped (.list (bs.map .bool)) = true := by
  unfold SeqAt.shaped
  have h1 : (PyData.list (bs.map .bool)).canLay0 = true := by rw [PyData.canLay0]; exact lay_bools bs
  have h2 : (PyData.list (bs.map .bool)).depth ≤ 64 := Nat.le_trans (fine_list (n := 0) (xs := bs.map .bool) fun x hx => by
    obtain ⟨b, _, rfl⟩ := List.mem_map.mp hx
    exact fine_bool _ _).2 (by decide)
  rw [h1, decide_eq_true h2]
  rfl
end DL

/-! DL14: sets of ints and of texts, by the list of their keys: made of a list, sorted, measured. -/
namespace DL
open PySem PySem.Spec PyProof.Rows L2
/-- a sort of keys with a plain value for each -/
structure KdG (P : Program) (w : World) (K : Type) [DecidableEq K] where
  knd : KeyKind P w K
  val : K → Tok → Value
  kof : Value → K
  kof_val : ∀ k t, kof (val k t) = k
  is_val : ∀ k t, knd.is k (val k t) = true
  scan : ∀ k t, (val k t).scannable = true
section
variable {P : Program} {w : World} {K : Type} [DecidableEq K] (p : KdG P w K)
def KdG.key (e : Int × Value) : K := p.kof e.2
def KdG.Good (e : Int × Value) : Prop := ∃ k t, e.2 = p.val k t ∧ e.1 = p.knd.hash k
variable {p}
theorem KdG.elems {l : List (Int × Value)} (g : ∀ e ∈ l, p.Good e) : ElemsOf p.knd l := fun e he => by
  obtain ⟨k, t, h1, h2⟩ := g e he
  exact ⟨⟨k, by rw [h1]; exact p.is_val k t, h2⟩, by rw [h1]; exact p.scan k t⟩
theorem KdG.is_key {e : Int × Value} (g : p.Good e) (k : K) : p.knd.is k e.2 = true ↔ p.key e = k := by
  obtain ⟨k0, t, h1, _⟩ := g
  unfold KdG.key
  rw [h1, p.kof_val]
  refine ⟨fun h => (p.knd.inj _ _ _ h (p.is_val k0 t)).symm, fun h => h ▸ p.is_val k0 t⟩
/-- the set at a holds just the keys ks, in some order -/
def SetG (p : KdG P w K) (h : Heap) (a : Addr) (ks : List K) : Prop :=
  ∃ o es ep t, h.get? a = some o ∧ o.ExactSet ∧ o.data = .set es ep t ∧ (∀ e ∈ es.toList, p.Good e) ∧ (es.toList.map p.key).Perm ks ∧ ks.Nodup ∧
    es.size < scanBound ∧ t.fits es.size = true ∧ Ris t.place.toList ∧ (w.params.followText "set-order" = true ∨ t.led = true)
theorem SetG.at {h h' : Heap} {a : Addr} {ks : List K} (R : SetG p h a ks) (k : ∀ o, h.get? a = some o → h'.get? a = some o) : SetG p h' a ks := by
  obtain ⟨o, es, ep, t, ho, r⟩ := R
  exact ⟨o, es, ep, t, k o ho, r⟩
def addK (ks : List K) (k : K) : List K := if k ∈ ks then ks else k :: ks
end
section
variable {P : Program} {w : World} {K : Type} [DecidableEq K] {p : KdG P w K} {A : Around} {E : Value → Shared → Prop} {s : Shared} {a : Addr} {ks : List K}
theorem setG_tail {g : Bool → Sem Unit} (hg : ∀ (b : Bool) (s₁ : Shared) (Q' : Unit → Shared → Prop), Q' () s₁ → wpAny (model P w) A (g b) Q' E s₁)
    {o : Obj} {es : Array (Int × Value)} {ep : Nat} {t : SetTable} (ho : s.heap.get? a = some o) (hex : o.ExactSet) (hd : o.data = .set es ep t)
    {es1 : Array (Int × Value)} {t2 : SetTable} (g1 : ∀ e ∈ es1.toList, p.Good e) (m1 : (es1.toList.map p.key).Perm ks) (nd : ks.Nodup)
    (hb1 : es1.size < scanBound) (hf2 : t2.fits es1.size = true) (hr : Ris t2.place.toList) (hl : w.params.followText "set-order" = true ∨ t2.led = true) {wasDummy : Bool} {R : Option Bool → Shared → Prop}
    (hR : ∀ h', Heap.SameBut a s.heap h' → SetG p h' a ks → R (some true) { s with heap := h' }) :
    wpAny (model P w) A (do
        storeSet a es1 t2
        if (!wasDummy && t2.tooFull) = true then do
            g (relayAll t2 es1 (SetTable.grown es1.size)).2.2
            storeSet a (relayAll t2 es1 (SetTable.grown es1.size)).1 (relayAll t2 es1 (SetTable.grown es1.size)).2.1
            pure (some true)
          else pure (some true)) R E s := by
  have s1 := Heap.SameBut.update s.heap a (Obj.putSet es1 t2)
  have o1 := store_at (es' := es1) (t' := t2) ho hd
  refine wpAny_bind (wpAny_storeSet_of ho hd ?_ (fits_of_scanBound hb1))
  split
  · have pm := relayAll_perm t2 es1 (SetTable.grown es1.size)
    have f3 := relayAll_fits t2 es1 (SetTable.grown es1.size)
    have r3 := relayAll_ris t2 es1 (SetTable.grown es1.size)
    have l3 := relayAll_led t2 es1 (SetTable.grown es1.size)
    generalize relayAll t2 es1 (SetTable.grown es1.size) = Z at pm f3 r3 l3 ⊢
    obtain ⟨es2, t3, gave⟩ := Z
    dsimp only at pm f3 r3 l3 ⊢
    have hb2 : es2.size < scanBound := by
      have e : es2.size = es1.size := by rw [← Array.length_toList, pm.length_eq, Array.length_toList]
      rw [e]; exact hb1
    refine wpAny_bind (hg _ _ _ (wpAny_bind (wpAny_storeSet_of o1 rfl ?_ (fits_of_scanBound hb2))))
    refine wpAny_pure (hR _ (s1.trans (Heap.SameBut.update _ a _)) ⟨_, es2, _, t3, store_at (es' := es2) (t' := t3) o1 rfl, hex, rfl, fun e he => g1 e (pm.mem_iff.mp he), (pm.map p.key).trans m1, nd, hb2, f3, r3, hl.imp id fun z => by rw [l3]; exact z⟩)
  · exact wpAny_pure (hR _ s1 ⟨_, es1, _, t2, o1, hex, rfl, g1, m1, nd, hb1, hf2, hr, hl⟩)
theorem setG_add {k : K} {tk : Tok} {Q : Bool → Shared → Prop} (R : SetG p s.heap a ks) (room : ks.length + 1 < scanBound)
    (hQ : ∀ b h', Heap.SameBut a s.heap h' → SetG p h' a (addK ks k) → Q b { s with heap := h' }) :
    wpAny (model P w) A (setAddHashed a (p.val k tk) (p.knd.hash k)) Q E s := by
  obtain ⟨o, es, ep, t, ho, hex, hd, g, pk, nd, hb, hf, hr, hl⟩ := R
  have hkey := p.is_val k tk
  have hsc := p.scan k tk
  have hel : ElemsOf p.knd es.toList := KdG.elems g
  unfold setAddHashed setAddHashedIn
  refine wpAny_holding (wpAny_bind (wpAny_setState_of ho hd hf ?_))
  dsimp only
  rw [byScan_of hsc hb hel]
  simp only [↓reduceIte]
  unfold setAddByScan
  refine wpAny_bind (wpAny_bind (wpAny_rule (wpAny_bind (wpAny_setScan_of hkey ho hd hf hel ?_))))
  cases hfi : List.findIdx? (fun e => p.knd.is k e.2) es.toList with
  | some j =>
    dsimp only
    obtain ⟨hj, pj, _⟩ := List.findIdx?_eq_some_iff_getElem.mp hfi
    have hin : k ∈ ks := pk.mem_iff.mp (List.mem_map.mpr ⟨es.toList[j], List.getElem_mem hj, (KdG.is_key (g _ (List.getElem_mem hj)) k).mp pj⟩)
    refine wpAny_pure (wpAny_pure ?_)
    refine hQ false s.heap (Heap.SameBut.refl a s.heap) ⟨o, es, ep, t, ho, hex, hd, g, ?_, ?_, hb, hf, hr, hl⟩ <;> (unfold addK; rw [if_pos hin]; assumption)
  | none =>
    dsimp only
    have hno : k ∉ ks := fun z => by
      obtain ⟨e, he, q⟩ := List.mem_map.mp (pk.mem_iff.mpr z)
      have c := List.findIdx?_eq_none_iff.mp hfi e he
      rw [(KdG.is_key (g e he) k).mpr q] at c
      cases c
    have hgw : ∀ (b : Bool) {s₁ : Shared} {Q' : Unit → Shared → Prop}, Q' () s₁ → wpAny (model P w) A (match b with | true => rule "set.scan.the-table-gave-way" | false => pure ()) Q' E s₁ :=
      fun b s₁ Q' q => by cases b <;> first | exact wpAny_pure q | exact wpAny_rule q
    have pm := layNew_perm t es (p.knd.hash k) (p.val k tk)
    have f1 := layNew_fits t es (p.knd.hash k) (p.val k tk)
    have r1 := layNew_ris t es (p.knd.hash k) (p.val k tk) hr
    have l1 := layNew_led t es (p.knd.hash k) (p.val k tk)
    generalize layNew t es (p.knd.hash k) (p.val k tk) = Z at pm f1 r1 l1 ⊢
    obtain ⟨es1, t1, wasDummy, gave⟩ := Z
    dsimp only at pm f1 r1 l1 ⊢
    rw [Array.toList_push] at pm
    have pc : es1.toList.Perm ((p.knd.hash k, p.val k tk) :: es.toList) := pm.trans (List.perm_append_singleton _ _)
    have ea : addK ks k = k :: ks := by unfold addK; rw [if_neg hno]
    have pk1 : (es1.toList.map p.key).Perm (addK ks k) := by
      rw [ea]
      refine (pc.map p.key).trans ?_
      rw [List.map_cons, show p.key (p.knd.hash k, p.val k tk) = k from p.kof_val k tk]
      exact pk.cons k
    have nd1 : (addK ks k).Nodup := by rw [ea]; exact List.nodup_cons.mpr ⟨hno, nd⟩
    have g1 : ∀ e ∈ es1.toList, p.Good e := fun e he => by
      rcases List.mem_cons.mp (pc.mem_iff.mp he) with z | z
      · rw [z]; exact ⟨k, tk, rfl, rfl⟩
      · exact g e z
    have hb1 : es1.size < scanBound := by
      have e1 : es.size = ks.length := by rw [← pk.length_eq, List.length_map, Array.length_toList]
      have e2 : es1.size = es.size + 1 := by rw [← Array.length_toList, pc.length_eq, List.length_cons, Array.length_toList]
      rw [e2, e1]; exact room
    have hled : w.params.followText "set-order" = true ∨ t1.led = true := hl.imp id fun z => by rw [l1]; exact z
    refine wpAny_bind (hgw _ ?_)
    split
    · refine wpAny_bind ?_
      rw [hashByValue_scannable 8 hsc]
      refine wpAny_pure ?_
      refine setG_tail ?_ ho hex hd g1 pk1 nd1 hb1 ?_ ?_ ?_ fun h' sb r => ?_
      · intro b s₁ Q' q; cases b <;> first | exact wpAny_pure q | exact wpAny_rule q
      · first | (split <;> first | exact f1 | exact SetTable.fits_plain_off f1) | exact f1
      · first | (split <;> exact r1) | exact r1
      · first | (split <;> exact hled) | exact hled
      · dsimp only; exact wpAny_pure (hQ true h' sb r)
    · refine wpAny_bind (wpAny_pure ?_)
      simp only [↓reduceIte]
      refine setG_tail ?_ ho hex hd g1 pk1 nd1 hb1 f1 r1 hled fun h' sb r => ?_
      · intro b s₁ Q' q; cases b <;> first | exact wpAny_pure q | exact wpAny_rule q
      · dsimp only; exact wpAny_pure (hQ true h' sb r)
theorem setG_fresh {h : Heap} {a : Addr} (ho : h.get? a = some { cls := .type "set", dict := none, data := .set #[] 0 (.fresh 0 0 (!w.params.followText "set-order")) }) : SetG p h a [] :=
  ⟨_, #[], 0, _, ho, ⟨rfl, rfl, rfl⟩, rfl, (fun e he => by simp at he), .nil, .nil, (by decide), (by rfl), List.Pairwise.nil, by
    show _ ∨ (!w.params.followText "set-order") = true
    cases w.params.followText "set-order"
    · exact .inr rfl
    · exact .inl rfl⟩
/-- the members one by one -/
def addAll (ks : List K) (ns : List K) : List K := ns.foldl addK ks
theorem addK_len (ks : List K) (k : K) : (addK ks k).length ≤ ks.length + 1 := by
  unfold addK
  split <;> simp
theorem setG_loop {I : Addr} {fp wr : List Addr} {G : Array GenState → Array GenState → Prop} {n : Nat} {Pv : Nat → Value → Prop} {St : Nat → Shared → Prop} {R : Result → Shared → Prop}
    (W : WalksS P w A.in1 I fp wr G n Pv St) (D : Addr) (hDf : D ∉ fp) (ns : List K) (hn : n = ns.length) (hb : ns.length + 1 < scanBound) (hval : ∀ i v, Pv i v → ∃ k t, ns[i]? = some k ∧ v = p.val k t) :
    ∀ (m i : Nat) (s : Shared) (ks : List K), n - i = m → i ≤ n → St i s → ks.length ≤ i → SetG p s.heap D ks →
      (∀ s', Moved (D :: wr) G s s' → SetG p s'.heap D (addAll ks (ns.drop i)) → R (.ok (.ret .none)) s') →
      codeAny (model P w) A (.builtin "set.update.loop" ⟨[.ref D, .ref I], []⟩) R s := by
  have hDw : D ∉ wr := fun h => hDf (W.sub _ h)
  have more : ∀ b ∈ wr, b ∈ D :: wr := fun b hb => List.mem_cons_of_mem _ hb
  intro m
  induction m with
  | zero =>
    intro i s ks hm hi hst hk hS hR
    have hin : i = n := by omega
    subst hin
    refine codeAny_builtin F.entry_set_update_loop ?_
    rw [Around.under_plainId F.plain_set_update_loop _]
    show wpAny _ A.in1 (pyNext (.ref I) >>= _) _ _ s
    refine wpAny_bind (W.done s _ _ hst fun s' hmv => ?_)
    show wpAny _ A.in1 (ret Value.none) _ _ s'
    have e : ns.drop i = [] := List.drop_eq_nil_of_le (by omega)
    rw [e] at hR
    exact wpAny_pure (hR s' (hmv.mono more) (hS.at fun o e => hmv.heap D o hDw e))
  | succ m ih =>
    intro i s ks hm hi hst hk hS hR
    have hlt : i < n := by omega
    refine codeAny_builtin F.entry_set_update_loop ?_
    rw [Around.under_plainId F.plain_set_update_loop _]
    show wpAny _ A.in1 (pyNext (.ref I) >>= _) _ _ s
    refine wpAny_bind (W.item i s _ _ hlt hst fun v s' hP hst' hmv => ?_)
    obtain ⟨z, t, hz, rfl⟩ := hval i v hP
    have hS' : SetG p s'.heap D ks := hS.at fun o e => hmv.heap D o hDw e
    show wpAny _ A.in1 (holding [p.val z t] (setAdd D (p.val z t)) >>= _) _ _ s'
    refine wpAny_bind (wpAny_holding ?_)
    unfold setAdd
    refine wpAny_holding (wpAny_bind (p.knd.pyHash (p.is_val z t) ?_))
    refine setG_add (s := { s' with toks := s'.toks + 1 }) hS' (by omega) fun b h' sb hS2 => ?_
    have hl2 := addK_len ks z
    have ed : ns.drop i = z :: ns.drop (i + 1) := by
      obtain ⟨hil, rfl⟩ := List.getElem?_eq_some_iff.mp hz
      exact List.drop_eq_getElem_cons hil
    refine wpAny_pure ⟨plainId_quiet F.plain_set_update_loop _, ih (i + 1) _ (addK ks z) (by omega) hlt (W.frame _ s' _ _ hst' (Nat.le_succ _) fun b hb o e => ?_) (by omega) hS2 fun s'' hm'' hS'' => ?_⟩
    · rw [sb.2 b (fun h : b = D => hDf (by rw [← h]; exact hb))]; exact e
    · rw [ed] at hR
      refine hR s'' (Moved.trans W.gtrans ((hmv.mono more).then_heap (Nat.le_succ _) fun b o hb e => ?_) hm'') hS''
      rw [sb.2 b (fun h : b = D => hb (by rw [h]; exact List.mem_cons_self))]; exact e
/-- the object of a new set -/
abbrev set0 (w : World) : Obj := { cls := .type "set", dict := none, data := .set #[] 0 (.fresh 0 0 (!w.params.followText "set-order")) }
/-- set(xs), xs a list -/
theorem call_setG {l : Addr} {items : Array Value} (ns : List K) {Q : Value → Shared → Prop} (hh : A.handled = none) (hl : s.heap.IsList l items) (hz : items.size = ns.length)
    (hval : ∀ (i : Nat) (v : Value), items[i]? = some v → ∃ k t, ns[i]? = some k ∧ v = p.val k t) (hb : ns.length + 1 < scanBound)
    (h : ∀ (h' : Heap) (tk : Nat), SetG p h' s.heap.objs.size (addAll [] ns) → (∀ b o, s.heap.get? b = some o → h'.get? b = some o) → Q (.ref s.heap.objs.size) { s with heap := h', toks := tk }) :
    wpAny (model P w) A (call (.type "set") [.ref l]) Q E s := by
  obtain ⟨c, tl, hmro⟩ := F.called_set.mro
  have hmade := F.called_set.made
  have hsub := F.called_set.sub
  have h1 := F.called_set.notType
  have h2 := F.called_set.canCreate
  have hct := F.typeCall_set_1 (.ref l)
  refine wpAny_call (codeAny_of_tree ?_)
  show wpAny _ _ (callAny (.type "set") _) _ _ _
  refine wpAny_pure ⟨Code.quiet_builtin _ (by decide +kernel), codeAny_builtin F.entry_type_call ?_⟩
  rw [Around.under_plain (weight_type_call_type "set" [.ref l] []) rfl]
  repeat (any_goals (first | assumption | wp_step))
  refine codeAny_mono (code_set_led1 (.ref l) (E := E) (Q₁ := fun obj s₁ => obj = .ref s.heap.objs.size ∧ s₁ = { s with heap := s.heap.push (set0 w) }) ⟨rfl, rfl⟩) fun r s₁ hr => ?_
  match r, hr with
  | .error e, hr => exact hr
  | .ok (.ret obj), hr =>
    obtain ⟨rfl, rfl⟩ := hr
    have hS : (s.heap.push (set0 w)).get? s.heap.objs.size = some (set0 w) := Heap.get?_push_size _ rfl
    have hT : Shared.TypeIs { s with heap := s.heap.push (set0 w) } (.ref s.heap.objs.size) "set" := ⟨_, hS, rfl⟩
    have hli := F.called_set.init.lookup
    have hbi := F.called_set.init.bind (.ref s.heap.objs.size)
    repeat (any_goals (first | assumption | wp_step))
    refine codeAny_mono (codeAny_call_builtin (R := wants (fun r s₂ => r = .none ∧ ∃ h' tk, s₂ = { s with heap := h', toks := tk } ∧ SetG p h' s.heap.objs.size (addAll [] ns) ∧
        (∀ b o, s.heap.get? b = some o → h'.get? b = some o)) E) F.called_set.init.plain F.entry_set_init (check_set_init_1 hT ?_)) fun r₂ s₂ hr₂ => ?_
    · obtain ⟨⟨ocls, odict, odata, oslots⟩, hol, hcl, nl, hdl⟩ := hl
      simp only at hcl hdl
      subst hcl hdl
      have hol' : (s.heap.push (set0 w)).get? l = some { cls := .type "list", dict := odict, data := .seq items nl, slots := oslots } := Heap.get?_push_of_some _ hol
      have hl1 : (s.heap.push (set0 w)).IsList l items := ⟨_, hol', rfl, nl, rfl⟩
      have hsls := F.sub_list_set
      have hslf := F.sub_list_frozenset
      have hne : (Value.type "list" == Value.type "dict") = false := by decide
      unfold Builtin.«set.__init__» noKeywords Builtin.Frozenset.updateFrom
      generalize hPI : pyIter = PI
      wp_walk
      subst hPI
      refine wpAny_pyIter_list hl1 (wpAny_bind (wpAny_runValue ?_))
      have hlS : l < s.heap.objs.size := Heap.lt_size hol
      have hsz : (s.heap.push (set0 w)).objs.size = s.heap.objs.size + 1 := Heap.size_push ..
      have hneI : l ≠ (s.heap.push (set0 w)).objs.size := by rw [hsz]; exact Nat.ne_of_lt (Nat.lt_succ_of_lt hlS)
      have hSf : s.heap.objs.size ∉ [(s.heap.push (set0 w)).objs.size, l] := by
        rw [hsz]
        simp only [List.mem_cons, List.not_mem_nil, or_false, not_or]
        exact ⟨Nat.ne_of_lt (Nat.lt_succ_self _), Nat.ne_of_gt hlS⟩
      have hh3 : A.in1.in1.in1.handled = none := by simp [hh]
      have hfr : SetG p ((s.heap.push (set0 w)).push { cls := .type "list_iterator", data := .fields #[.ref l, .int 0 0] }) s.heap.objs.size [] := setG_fresh (Heap.get?_push_of_some _ hS)
      refine setG_loop ((Walks.list hh3 _ l hneI items).toS) s.heap.objs.size hSf ns hz hb hval (items.size - 0) 0 _ [] (by omega) (Nat.zero_le _)
        ⟨⟨_, Heap.get?_push_size _ rfl, rfl, rfl⟩, (hl1.push _)⟩ (Nat.le_refl 0) hfr fun s' hm hS' => ?_
      obtain ⟨h', g2, d', tk', os'⟩ := s'
      have eg : g2 = s.gens := hm.gens
      have ed : d' = s.drawn := hm.drawn
      have eo : os' = s.os := hm.os
      subst eg ed eo
      show wpAny _ _ _ _ _ _
      refine wpAny_pure ?_
      show wpAny _ _ (ret Value.none) _ _ _
      refine wpAny_pure ⟨rfl, h', tk', rfl, hS', fun b o e => ?_⟩
      have hb0 : b < s.heap.objs.size := Heap.lt_size e
      refine hm.heap b o ?_ (Heap.get?_push_of_some _ (Heap.get?_push_of_some _ e))
      simp only [List.mem_cons, List.not_mem_nil, or_false, not_or]
      rw [hsz]
      exact ⟨Nat.ne_of_lt hb0, Nat.ne_of_lt (Nat.lt_succ_of_lt hb0)⟩
    · match r₂, hr₂ with
      | .error e, hr₂ => exact hr₂
      | .ok (.ret r), hr₂ =>
        obtain ⟨rfl, h', tk, rfl, hS', hk'⟩ := hr₂
        repeat (any_goals (first | assumption | wp_step))
        exact h _ _ hS' hk'
theorem each_of_keys {l : List (Int × Value)} (g : ∀ e ∈ l, p.Good e) : PySem.W.EachIs (fun v (k : K) => ∃ t, v = p.val k t) (l.map (·.2)) (l.map p.key) := by
  induction l with
  | nil => exact .nil
  | cons e l ih =>
    obtain ⟨k, t, h1, _⟩ := g e List.mem_cons_self
    have hk : p.key e = k := by
      unfold KdG.key
      rw [h1, p.kof_val]
    rw [List.map_cons, List.map_cons, hk]
    exact .cons ⟨t, h1⟩ (ih fun x hx => g x (List.mem_cons_of_mem _ hx))
theorem each_perm {R : Value → K → Prop} {us vs : List Value} (pm : us.Perm vs) : ∀ {bs : List K}, PySem.W.EachIs R vs bs → ∃ cs, cs.Perm bs ∧ PySem.W.EachIs R us cs := by
  induction pm with
  | nil => intro bs h; exact ⟨bs, .refl _, h⟩
  | cons x pm ih =>
    intro bs h
    cases h with
    | cons h1 t =>
      obtain ⟨cs, pc, hc⟩ := ih t
      exact ⟨_, pc.cons _, .cons h1 hc⟩
  | swap x y l =>
    intro bs h
    cases h with
    | cons h1 t =>
      cases t with
      | cons h2 t => exact ⟨_, .swap _ _ _, .cons h2 (.cons h1 t)⟩
  | trans p1 p2 ih1 ih2 =>
    intro bs h
    obtain ⟨cs, pc, hc⟩ := ih2 h
    obtain ⟨ds, pd, hd⟩ := ih1 hc
    exact ⟨ds, pd.trans pc, hd⟩
/-- sorted(set) -/
theorem sorted_setG {dk : K → PyData} {Q : Value → Shared → Prop} (hrd : ∀ h k t, Reads h (p.val k t) (dk k) []) (hal : ∀ l : List K, PySem.W.AllAlike (l.map dk) ∧ PySem.W.Sortable (l.map dk)) (R : SetG p s.heap a ks) (hh : A.handled = none)
    (hu : ∀ k, A.units + 2 + (dk k).depth < cLine)
    (hQ : ∀ (s' : Shared) (q : Addr) (out : Array Value) (c : Nat) (ls : List K), (∀ b o, s.heap.get? b = some o → s'.heap.get? b = some o) → s'.gens = s.gens → s'.os = s.os → s.heap.objs.size ≤ q → s'.heap.get? q = some (seqObj "list" out c) → ls.Perm ks →
      out.size = ks.length → PySem.W.EachIs (fun v k => ∃ t, v = p.val k t) out.toList (ls.mergeSort (PySem.W.dataLe false dk)) → Q (.ref q) s') :
    wpAny (model P w) A (call (.builtin "sorted") [.ref a]) Q E s := by
  obtain ⟨o, es, ep, t, ho, hex, hd, g, pk, nd, hb, hf, hr, hl⟩ := R
  refine Calls.call_function_entry kind_sorted plain_sorted entry_sorted (args_sorted1 _) ?_
  unfold Builtin.«sorted»
  refine wpAny_bind (m := checkCount "sorted" 1 1 _) (wpAny_pure ?_)
  refine wpAny_bind (collect_set (A := A.in1) hh ⟨o, ho, hex.1, hd⟩ hf hb hr hl fun s1 vs k1 hz g1 o1 pm => ?_)
  obtain ⟨cs, pc, ec⟩ := each_perm pm (each_of_keys g)
  have hlen : vs.length = es.size := by rw [pm.length_eq, List.length_map, Array.length_toList]
  have hks : es.size = ks.length := by rw [← pk.length_eq, List.length_map, Array.length_toList]
  have hcs : cs.length = es.size := by rw [pc.length_eq, List.length_map, Array.length_toList]
  have hsz : es.size ≤ sizeLine := fits_of_scanBound hb
  refine wpAny_bind (wpAny_newList ?_ (by rw [hlen]; exact hsz))
  have hoL : (s1.heap.push (seqObj "list" vs.toArray 0)).get? s1.heap.objs.size = some (seqObj "list" vs.toArray 0) := Heap.get?_push_size _ rfl
  have er : PySem.W.EachIs (fun v b => ∃ as, Reads (s1.heap.push (seqObj "list" vs.toArray 0)) v (dk b) as ∧ s1.heap.objs.size ∉ as) vs cs :=
    ec.mono fun v k ⟨t, e⟩ => ⟨[], by rw [e]; exact hrd _ _ _, List.not_mem_nil⟩
  refine wpAny_bind (wpAny_holding (PySem.W.list_sort_data (enc := dk) (s := { s1 with heap := s1.heap.push (seqObj "list" vs.toArray 0) }) hoL ec er (hal cs).1 (hal cs).2 (by rw [hcs]; exact hsz) (fun b _ => ?_) fun out hol eo => ?_))
  · have := hu b
    show A.units + 1 + 1 + (dk b).depth < cLine
    omega
  · obtain ⟨c, hc⟩ := sortedHeap_at (vs := vs) (out := out.toArray) hoL
    refine wpAny_pure ⟨_, rfl, hQ { s1 with heap := sortedHeap (s1.heap.push (seqObj "list" vs.toArray 0)) s1.heap.objs.size vs out.toArray } s1.heap.objs.size out.toArray c cs (fun b u e => ?_) g1 o1 hz hc (pc.trans pk) ?_ ?_⟩
    · have q := k1 b u e
      have hlt := Heap.lt_size q
      show (sortedHeap (s1.heap.push (seqObj "list" vs.toArray 0)) s1.heap.objs.size vs out.toArray).get? b = some u
      rw [sortedHeap_old (Nat.ne_of_lt hlt) (by rw [size_push']; exact Nat.lt_succ_of_lt hlt)]
      exact Heap.get?_push_of_some _ q
    · rw [List.size_toArray, hol, hcs, hks]
    · exact eo
end
end DL

/-! DL15: sorted(set(xs)) and len(set(xs)) of ints or texts, in the layer. -/
namespace DL
open PySem PySem.Spec PyProof.Rows L2
def intG (P : Program) (w : World) : KdG P w Int where
  knd := intKind P w
  val := fun k t => .int k t
  kof := fun v => match v with | .int k _ => k | _ => 0
  kof_val := fun _ _ => rfl
  is_val := fun k t => intKind_is P w k t
  scan := fun _ _ => rfl
def strG (P : Program) (w : World) : KdG P w Str where
  knd := strKind P w
  val := fun k t => .str k t
  kof := fun v => match v with | .str k _ => k | _ => ⟨#[]⟩
  kof_val := fun _ _ => rfl
  is_val := fun k t => (by show Value.isStrOf k (.str k t) = true; simp [Value.isStrOf])
  scan := fun _ _ => rfl
section
variable {X : Cx} {K : Type} [DecidableEq K]
/-- the set at a, in the hand layer's heap -/
def SetGO {P : Program} {w : World} (p : KdG P w K) (a : Addr) (ks : List K) : HO := .ext fun h => SetG p h a ks
theorem setGO_new {P : Program} {w : World} {p : KdG P w K} {H : Hp} {h : Heap} {a : Addr} {ks : List K} (R : SetG p h a ks) : ObjOk P w H h a (SetGO p a ks) := by
  have ⟨o, _, _, _, ho, _⟩ := R
  exact ⟨R, ⟨o, ho⟩, fun h1 h2 q k => SetG.at q k⟩
theorem setGO_get {p : KdG X.prog X.w K} {pins : List (Addr × Obj)} {σ : L2.St} {H : Hp} {s : Shared} {a : Addr} {ks : List K} (I : Inv X pins σ H s) (ha : H a = some (SetGO p a ks)) : SetG p s.heap a ks := (I.hok a _ ha).1
/-- set(xs) -/
def rSetG {P : Program} {w : World} (Kf : PySem.W.Frag) (p : KdG P w K) (vv : K → V) : List V → Hp → VK → Prop := fun vs H Q => ∃ (l : Addr) (ns : List K), vs = [V.ref l] ∧ SqL Kf H l (ns.map vv) ∧ ns.length + 1 < scanBound ∧
  ∀ a, H a = none → Q (.ref a) (upd H a (SetGO p a (addAll [] ns)))
theorem vals_get {vv : K → V} {val : K → Tok → Value} (hv : ∀ k u, RelV (vv k) u → ∃ t, u = val k t) : ∀ {ns : List K} {us : List Value}, Vals (ns.map vv) us → us.length = ns.length ∧ ∀ (i : Nat) (v : Value), us[i]? = some v → ∃ k t, ns[i]? = some k ∧ v = val k t
  | [], _, .nil => ⟨rfl, fun i v h => by simp at h⟩
  | n :: ns, _, .cons r t => by
    obtain ⟨a, b⟩ := vals_get hv t
    refine ⟨by rw [List.length_cons, List.length_cons, a], fun i v h => ?_⟩
    cases i with
    | zero =>
      obtain ⟨tk, e⟩ := hv _ _ r
      rw [List.getElem?_cons_zero] at h
      exact ⟨n, tk, by rw [List.getElem?_cons_zero], by rw [← Option.some.inj h]; exact e⟩
    | succ i =>
      rw [List.getElem?_cons_succ] at h
      rw [List.getElem?_cons_succ]
      exact b i v h
theorem cr_setG {p : KdG X.prog X.w K} {vv : K → V} (hv : ∀ k u, RelV (vv k) u → ∃ t, u = p.val k t) (hc : X.calm = true) : CallR X (.type "set") (rSetG X.K p vv) := by
  intro pins s σ H vs us Q I r h
  obtain ⟨l, ns, rfl, hl, hb, q⟩ := h
  rw [Vals.ref1 r]
  obtain ⟨its, rv, pl, hz⟩ := I.list hl
  obtain ⟨g1, g2⟩ := vals_get hv rv
  refine call_setG (P := X.prog) (w := X.w) (p := p) ns (I.ok.hd hc) pl.isList (by rw [List.size_toArray, g1]) (fun i v e => g2 i v (by simpa using e)) hb fun h' tk R k => ?_
  exact ⟨.ref s.heap.objs.size, _, I.laid (t' := tk) k (Nat.le_refl _) (setGO_new R), rfl, q _ (I.hok.fresh (Nat.le_refl _))⟩
/-- sorted(set) -/
def rSortG {P : Program} {w : World} (p : KdG P w K) (vv : K → V) (dk : K → PyData) : List V → Hp → VK → Prop := fun vs H Q => ∃ (a : Addr) (ks : List K), vs = [V.ref a] ∧ H a = some (SetGO p a ks) ∧
  ∀ (ls : List K) (q : Addr), ls.Perm ks → H q = none → Q (.ref q) (upd H q (.lst ((ls.mergeSort (PySem.W.dataLe false dk)).map vv)))
theorem vals_each {vv : K → V} {val : K → Tok → Value} (hv : ∀ k t, RelV (vv k) (val k t)) : ∀ {us : List Value} {ks : List K}, PySem.W.EachIs (fun v k => ∃ t, v = val k t) us ks → Vals (ks.map vv) us
  | _, _, .nil => .nil
  | _, _, .cons ⟨t, e⟩ r => .cons (by rw [e]; exact hv _ t) (vals_each hv r)
theorem cr_sortG {p : KdG X.prog X.w K} {vv : K → V} {dk : K → PyData} (hv : ∀ k t, RelV (vv k) (p.val k t)) (hrd : ∀ h k t, Reads h (p.val k t) (dk k) []) (hal : ∀ l : List K, PySem.W.AllAlike (l.map dk) ∧ PySem.W.Sortable (l.map dk)) (hd : ∀ k, (dk k).depth ≤ 1)
    (hc : X.calm = true) (hu : X.A.units + 64 < cLine) : CallR X (.builtin "sorted") (rSortG p vv dk) := by
  intro pins s σ H vs us Q I r h
  obtain ⟨a, ks, rfl, ha, q⟩ := h
  have R := setGO_get I ha
  rw [Vals.ref1 r]
  have hks : ks.length ≤ sizeLine := by
    obtain ⟨o, es, ep, t, _, _, _, _, pk, _, hb, _⟩ := R
    rw [← pk.length_eq, List.length_map, Array.length_toList]
    exact fits_of_scanBound hb
  refine sorted_setG hrd hal R (I.ok.hd hc) (fun k => by have := hd k; omega) fun s' l out c ls k g o hp hg pm hsz eo => ?_
  have hn : H l = none := I.hok.fresh hp
  have hlen : ((ls.mergeSort (PySem.W.dataLe false dk)).map vv).length ≤ sizeLine := by
    rw [List.length_map, List.length_mergeSort, pm.length_eq]; exact hks
  have J : Inv X pins σ (upd H l (.lst ((ls.mergeSort (PySem.W.dataLe false dk)).map vv))) { s with heap := s'.heap, gens := s'.gens, drawn := s'.drawn, toks := s'.toks } :=
    I.call (ch := []) (Un.laid k hp hn) (I.hok.laid k hp ⟨hlen, out.toList, c, vals_each hv eo, hg⟩) (by rw [g]; exact I.bare) (fun _ z => nomatch z)
  have e : s' = { s with heap := s'.heap, gens := s'.gens, drawn := s'.drawn, toks := s'.toks } := by
    cases s'
    cases s
    cases o
    rfl
  rw [e]
  exact ⟨.ref l, _, J, rfl, q ls l pm hn⟩
/-- len(set) -/
def rLenG {P : Program} {w : World} (p : KdG P w K) : List V → Hp → VK → Prop := fun vs H Q => ∃ (a : Addr) (ks : List K), vs = [V.ref a] ∧ H a = some (SetGO p a ks) ∧ Q (.int (ks.length : Nat)) H
theorem cr_lenG {p : KdG X.prog X.w K} : CallR X (.builtin "len") (rLenG p) := by
  intro pins s σ H vs us Q I r h
  obtain ⟨a, ks, rfl, ha, q⟩ := h
  obtain ⟨o, es, ep, t, ho, hex, hd, g, pk, nd, hb, hf, hr, hl⟩ := setGO_get I ha
  rw [Vals.ref1 r]
  have hks : es.size = ks.length := by rw [← pk.length_eq, List.length_map, Array.length_toList]
  have hz : es.size ≤ sizeLine := fits_of_scanBound hb
  refine call_len_set ho hex hd hf (by rw [sizeLine_eq] at hz; omega) ⟨.int (ks.length : Nat), H, I.tok _, ⟨_, by rw [hks]⟩, q⟩
end
end DL

/-! DL16: sorted(set(e)) as one expression. -/
namespace DL
open PySem PySem.Spec PyProof.Rows L2
section
variable {X : Cx} {K : Type} [DecidableEq K]
def rSS (Kf : PySem.W.Frag) (vv : K → V) (dk : K → PyData) : V → Hp → VK → Prop := fun x H Q => ∃ (l : Addr) (ns : List K), x = V.ref l ∧ SqL Kf H l (ns.map vv) ∧ ns.length + 1 < scanBound ∧
  ∀ (ls : List K) (q : Addr), ls.Perm (addAll [] ns) → H q = none → Q (.ref q) (upd H q (.lst ((ls.mergeSort (PySem.W.dataLe false dk)).map vv)))
theorem ss_run {p : KdG X.prog X.w K} {vv : K → V} {dk : K → PyData} (hv' : ∀ k u, RelV (vv k) u → ∃ t, u = p.val k t) (hv : ∀ k t, RelV (vv k) (p.val k t)) (hrd : ∀ h k t, Reads h (p.val k t) (dk k) []) (hal : ∀ l : List K, PySem.W.AllAlike (l.map dk) ∧ PySem.W.Sortable (l.map dk)) (hd : ∀ k, (dk k).depth ≤ 1)
    (hc : X.calm = true) (hu : X.A.units + 64 < cLine) {pins : List (Addr × Obj)} {σ : L2.St} {H : Hp} {s : Shared} {x : V} {v : Value} {Q : VK} {T : Value → Shared → Prop} (I : Inv X pins σ H s) (r : RelV x v) (h : rSS X.K vv dk x H Q)
    (hT : ∀ sv s2, wpAny (model X.prog X.w) X.A (call (.builtin "sorted") [sv]) (EP X pins σ Q) X.xe s2 → T sv s2) : wpAny (model X.prog X.w) X.A (call (.type "set") [v]) T X.xe s := by
  obtain ⟨l, ns, rfl, hl, hb, q⟩ := h
  cases r
  obtain ⟨its, rv, pl, hz⟩ := I.list hl
  obtain ⟨g1, g2⟩ := vals_get hv' rv
  refine call_setG (P := X.prog) (w := X.w) (p := p) ns (I.ok.hd hc) pl.isList (by rw [List.size_toArray, g1]) (fun i v e => g2 i v (by simpa using e)) hb fun h' tk R k => hT _ _ ?_
  have I2 : Inv X pins σ H { s with heap := h', toks := tk } := I.kept fun b o e => k b o e
  have hks : (addAll [] ns).length ≤ sizeLine := by
    obtain ⟨o, es, ep, t, _, _, _, _, pk, _, hb, _⟩ := R
    rw [← pk.length_eq, List.length_map, Array.length_toList]
    exact fits_of_scanBound hb
  refine sorted_setG hrd hal R (I.ok.hd hc) (fun k => by have := hd k; omega) fun s' l out c ls k g o hp hg pm hsz eo => ?_
  have hn : H l = none := I2.hok.fresh hp
  have hlen : ((ls.mergeSort (PySem.W.dataLe false dk)).map vv).length ≤ sizeLine := by
    rw [List.length_map, List.length_mergeSort, pm.length_eq]; exact hks
  have J : Inv X pins σ (upd H l (.lst ((ls.mergeSort (PySem.W.dataLe false dk)).map vv))) { ({ s with heap := h', toks := tk } : Shared) with heap := s'.heap, gens := s'.gens, drawn := s'.drawn, toks := s'.toks } :=
    I2.call (ch := []) (Un.laid k hp hn) (I2.hok.laid k hp ⟨hlen, out.toList, c, vals_each hv eo, hg⟩) (by rw [g]; exact I2.bare) (fun _ z => nomatch z)
  have e : s' = { ({ s with heap := h', toks := tk } : Shared) with heap := s'.heap, gens := s'.gens, drawn := s'.drawn, toks := s'.toks } := by
    cases s'
    cases s
    cases o
    rfl
  rw [e]
  exact ⟨.ref l, _, J, rfl, q ls l pm hn⟩
theorem alike_int (l : List Int) : PySem.W.AllAlike (l.map PyData.int) ∧ PySem.W.Sortable (l.map PyData.int) := by
  refine ⟨fun d hd d' hd' => ?_, .inr fun d hd => ?_⟩
  · obtain ⟨a, _, rfl⟩ := List.mem_map.mp hd
    obtain ⟨b, _, rfl⟩ := List.mem_map.mp hd'
    rfl
  · obtain ⟨a, _, rfl⟩ := List.mem_map.mp hd
    exact ⟨nofun, nofun⟩
theorem alike_str (l : List Str) : PySem.W.AllAlike (l.map PyData.str) ∧ PySem.W.Sortable (l.map PyData.str) := by
  refine ⟨fun d hd d' hd' => ?_, .inr fun d hd => ?_⟩
  · obtain ⟨a, _, rfl⟩ := List.mem_map.mp hd
    obtain ⟨b, _, rfl⟩ := List.mem_map.mp hd'
    rfl
  · obtain ⟨a, _, rfl⟩ := List.mem_map.mp hd
    exact ⟨nofun, nofun⟩
def rSSU (Kf : PySem.W.Frag) : V → Hp → VK → Prop := fun x H Q => rSS Kf V.int PyData.int x H Q ∨ rSS Kf V.str PyData.str x H Q
def tSS (Kf : PySem.W.Frag) (ta : TE) : TE := fun σ H Q => ta σ H fun x H1 => rSSU Kf x H1 Q
theorem pe_sortSet {a : Expr} {ta : TE} {p p2 q pos : Pos} (hc : X.calm = true) (hu : X.A.units + 64 < cLine) (hg : Gl X "sorted") (hm : X.mg "sorted" = none) (hg2 : Gl X "set") (hm2 : X.mg "set" = none) (hv : bootBuiltins "sorted" = some (.builtin "sorted")) (ha : PE X a ta)
    (na : starEach [a] X.env = (false, eval a X.env) :: starEach [] X.env := by rfl) : PE X (.Call (.Name "sorted" p) [.Call (.Name "set" p2) [a] [] q] [] pos) (tSS X.K ta) := by
  refine ⟨fun pins s σ H Q I h => ?_⟩
  refine Call_ (ld_blt I hg hm hv ?_)
  refine PyProof.Rows.callWith_builtin1 (PyProof.Rows.args_cons ?_ rfl) rfl rfl
  refine Call_ (ld_blt I hg2 hm2 boot_set ?_)
  refine PyProof.Rows.callWith_type1 (PyProof.Rows.args_cons (thn (ha.run pins s σ H _ I h) fun v s1 ⟨x, H1, I1, r1, q1⟩ => PyProof.Rows.args_nil ?_) na) na rfl
  rcases q1 with q1 | q1
  · refine ss_run (p := intG X.prog X.w) (vv := V.int) (dk := PyData.int) (fun k u r => r) (fun k t => ⟨t, rfl⟩) (fun h k t => ?_) alike_int (fun k => ?_) hc hu I1 r1 q1 fun sv s2 hs => PyProof.Rows.args_nil hs
    · exact .int ..
    · simp [PyData.depth]
  · refine ss_run (p := strG X.prog X.w) (vv := V.str) (dk := PyData.str) (fun k u r => r) (fun k t => ⟨t, rfl⟩) (fun h k t => ?_) alike_str (fun k => ?_) hc hu I1 r1 q1 fun sv s2 hs => PyProof.Rows.args_nil hs
    · exact .str ..
    · simp [PyData.depth]
end
end DL

/-! DL17: sorted(set(e)) in the layer. -/
namespace DL
open PySem PySem.Spec PyProof.Rows L2
def kSSI (ds : List PyData) (A : Vl → Prop) : Prop := ∃ ns : List Int, ds = ns.map PyData.int ∧ ns.length + 1 < scanBound ∧ ∀ ls : List Int, ls.Perm (addAll [] ns) → A (.new ((ls.mergeSort (PySem.W.dataLe false PyData.int)).map PyData.int))
def kSSS (ds : List PyData) (A : Vl → Prop) : Prop := ∃ ns : List Str, ds = ns.map PyData.str ∧ ns.length + 1 < scanBound ∧ ∀ ls : List Str, ls.Perm (addAll [] ns) → A (.new ((ls.mergeSort (PySem.W.dataLe false PyData.str)).map PyData.str))
def kSS : PyData → (Vl → Prop) → Prop := fun x A => match x with
  | .list ds => kSSI ds A ∨ kSSS ds A
  | _ => False
theorem k_SS {ds : List PyData} {B : Vl → Prop} : kSS (.list ds) B = (kSSI ds B ∨ kSSS ds B) := id rfl
theorem dd_ints {K : PySem.W.Frag} {G : Hp} : ∀ {ns : List Int} {us : List V}, DdAll K G us (ns.map PyData.int) → us = ns.map V.int
  | [], _, h => by cases h; rfl
  | n :: ns, _, h => by
    cases h with
    | cons h1 h2 =>
      cases h1
      rw [dd_ints h2]
      rfl
theorem dd_strs {K : PySem.W.Frag} {G : Hp} : ∀ {ns : List Str} {us : List V}, DdAll K G us (ns.map PyData.str) → us = ns.map V.str
  | [], _, h => by cases h; rfl
  | n :: ns, _, h => by
    cases h with
    | cons h1 h2 =>
      cases h1
      rw [dd_strs h2]
      rfl
theorem ints_dd {K : PySem.W.Frag} {G : Hp} : ∀ (ns : List Int), DdAll K G (ns.map V.int) (ns.map PyData.int)
  | [] => .nil
  | n :: ns => .cons (.int n) (ints_dd ns)
theorem strs_dd {K : PySem.W.Frag} {G : Hp} : ∀ (ns : List Str), DdAll K G (ns.map V.str) (ns.map PyData.str)
  | [] => .nil
  | n :: ns => .cons (.str n) (strs_dd ns)
section
variable {X : Cx}
theorem ss_rd {K : PySem.W.Frag} {t : TD} {σ : L2.St} {H : Hp} {Q : VK} (h : rdV K (dUn kSS t) σ H Q) : tSS K (rdV K t) σ H Q := by
  obtain ⟨c, G, ow, ε, A, R, h, kk⟩ := h
  refine ⟨c, G, ow, ε, _, R, h, fun r ε1 G1 H1 ow1 v h1 F1 R1 V1 => ?_⟩
  cases q : peek ε1 r with
  | none => simp only [q] at h1
  | some x =>
    simp only [q] at h1
    unfold kSS at h1
    split at h1
    · rename_i ds
      obtain ⟨a, us, rfl, hs, hd⟩ := (peek_ok R1 V1 q).list R1.ex
      rcases h1 with ⟨ns, rfl, hl, h1⟩ | ⟨ns, rfl, hl, h1⟩
      · have e := dd_ints hd
        subst e
        refine .inl ⟨a, ns, rfl, hs, hl, fun ls p pm hp => ?_⟩
        obtain ⟨G', ow', F2, R2, V2⟩ := res_fin R1 (.lst hp (ints_dd _))
        exact kk _ ε1 G' _ ow' _ (h1 ls pm) (F1.trans F2) R2 (V2.since F1.dom)
      · have e := dd_strs hd
        subst e
        refine .inr ⟨a, ns, rfl, hs, hl, fun ls p pm hp => ?_⟩
        obtain ⟨G', ow', F2, R2, V2⟩ := res_fin R1 (.lst hp (strs_dd _))
        exact kk _ ε1 G' _ ow' _ (h1 ls pm) (F1.trans F2) R2 (V2.since F1.dom)
    · exact h1.elim
theorem dv_sortSet {a : Expr} {t : TD} {p p2 q pos : Pos} (hc : X.calm = true) (hu : X.A.units + 64 < cLine) (hg : Gl X "sorted") (hm : X.mg "sorted" = none) (hg2 : Gl X "set") (hm2 : X.mg "set" = none) (hv : bootBuiltins "sorted" = some (.builtin "sorted")) (ha : DV X a t)
    (na : starEach [a] X.env = (false, eval a X.env) :: starEach [] X.env := by rfl) : DV X (.Call (.Name "sorted" p) [.Call (.Name "set" p2) [a] [] q] [] pos) (dUn kSS t) :=
  pe_w (pe_sortSet hc hu hg hm hg2 hm2 hv ha na) fun _ _ _ h => ss_rd h
end
end DL

/-! DL18: len(set(e)) in the layer. -/
namespace DL
open PySem PySem.Spec PyProof.Rows L2
section
variable {X : Cx} {K : Type} [DecidableEq K]
def rLS (Kf : PySem.W.Frag) (vv : K → V) : V → Hp → VK → Prop := fun x H Q => ∃ (l : Addr) (ns : List K), x = V.ref l ∧ SqL Kf H l (ns.map vv) ∧ ns.length + 1 < scanBound ∧ Q (.int ((addAll [] ns).length : Nat)) H
theorem ls_run {p : KdG X.prog X.w K} {vv : K → V} (hv' : ∀ k u, RelV (vv k) u → ∃ t, u = p.val k t)
    (hc : X.calm = true) {pins : List (Addr × Obj)} {σ : L2.St} {H : Hp} {s : Shared} {x : V} {v : Value} {Q : VK} {T : Value → Shared → Prop} (I : Inv X pins σ H s) (r : RelV x v) (h : rLS X.K vv x H Q)
    (hT : ∀ sv s2, wpAny (model X.prog X.w) X.A (call (.builtin "len") [sv]) (EP X pins σ Q) X.xe s2 → T sv s2) : wpAny (model X.prog X.w) X.A (call (.type "set") [v]) T X.xe s := by
  obtain ⟨l, ns, rfl, hl, hb, q⟩ := h
  cases r
  obtain ⟨its, rv, pl, hz⟩ := I.list hl
  obtain ⟨g1, g2⟩ := vals_get hv' rv
  refine call_setG (P := X.prog) (w := X.w) (p := p) ns (I.ok.hd hc) pl.isList (by rw [List.size_toArray, g1]) (fun i v e => g2 i v (by simpa using e)) hb fun h' tk R k => hT _ _ ?_
  have I2 : Inv X pins σ H { s with heap := h', toks := tk } := I.kept fun b o e => k b o e
  obtain ⟨o, es, ep, t, ho, hex, hd, g, pk, nd, hb', hf, hr, hl'⟩ := R
  have hks : es.size = (addAll [] ns).length := by rw [← pk.length_eq, List.length_map, Array.length_toList]
  have hz' : es.size ≤ sizeLine := fits_of_scanBound hb'
  exact call_len_set ho hex hd hf (by rw [sizeLine_eq] at hz'; omega) ⟨.int ((addAll [] ns).length : Nat), H, I2.tok _, ⟨_, by rw [hks]⟩, q⟩
def rLSU (Kf : PySem.W.Frag) : V → Hp → VK → Prop := fun x H Q => rLS Kf V.int x H Q ∨ rLS Kf V.str x H Q
def tLS (Kf : PySem.W.Frag) (ta : TE) : TE := fun σ H Q => ta σ H fun x H1 => rLSU Kf x H1 Q
theorem pe_lenSetG {a : Expr} {ta : TE} {p p2 q pos : Pos} (hc : X.calm = true) (hg : Gl X "len") (hm : X.mg "len" = none) (hg2 : Gl X "set") (hm2 : X.mg "set" = none) (ha : PE X a ta)
    (na : starEach [a] X.env = (false, eval a X.env) :: starEach [] X.env := by rfl) : PE X (.Call (.Name "len" p) [.Call (.Name "set" p2) [a] [] q] [] pos) (tLS X.K ta) := by
  refine ⟨fun pins s σ H Q I h => ?_⟩
  refine Call_ (ld_blt I hg hm boot_len ?_)
  refine PyProof.Rows.callWith_builtin1 (PyProof.Rows.args_cons ?_ rfl) rfl rfl
  refine Call_ (ld_blt I hg2 hm2 boot_set ?_)
  refine PyProof.Rows.callWith_type1 (PyProof.Rows.args_cons (thn (ha.run pins s σ H _ I h) fun v s1 ⟨x, H1, I1, r1, q1⟩ => PyProof.Rows.args_nil ?_) na) na rfl
  rcases q1 with q1 | q1
  · exact ls_run (p := intG X.prog X.w) (vv := V.int) (fun k u r => r) hc I1 r1 q1 fun sv s2 hs => PyProof.Rows.args_nil hs
  · exact ls_run (p := strG X.prog X.w) (vv := V.str) (fun k u r => r) hc I1 r1 q1 fun sv s2 hs => PyProof.Rows.args_nil hs
def kLSI (ds : List PyData) (A : Vl → Prop) : Prop := ∃ ns : List Int, ds = ns.map PyData.int ∧ ns.length + 1 < scanBound ∧ A (.d (.int ((addAll [] ns).length : Nat)))
def kLSS (ds : List PyData) (A : Vl → Prop) : Prop := ∃ ns : List Str, ds = ns.map PyData.str ∧ ns.length + 1 < scanBound ∧ A (.d (.int ((addAll [] ns).length : Nat)))
def kLS : PyData → (Vl → Prop) → Prop := fun x A => match x with
  | .list ds => kLSI ds A ∨ kLSS ds A
  | _ => False
theorem k_LS {ds : List PyData} {B : Vl → Prop} : kLS (.list ds) B = (kLSI ds B ∨ kLSS ds B) := id rfl
theorem ls_rd {Kf : PySem.W.Frag} {t : TD} {σ : L2.St} {H : Hp} {Q : VK} (h : rdV Kf (dUn kLS t) σ H Q) : tLS Kf (rdV Kf t) σ H Q := by
  obtain ⟨c, G, ow, ε, A, R, h, kk⟩ := h
  refine ⟨c, G, ow, ε, _, R, h, fun r ε1 G1 H1 ow1 v h1 F1 R1 V1 => ?_⟩
  cases q : peek ε1 r with
  | none => simp only [q] at h1
  | some x =>
    simp only [q] at h1
    unfold kLS at h1
    split at h1
    · rename_i ds
      obtain ⟨a, us, rfl, hs, hd⟩ := (peek_ok R1 V1 q).list R1.ex
      rcases h1 with ⟨ns, rfl, hl, h1⟩ | ⟨ns, rfl, hl, h1⟩
      · have e := dd_ints hd
        subst e
        exact .inl ⟨a, ns, rfl, hs, hl, kk _ ε1 G1 H1 ow1 _ h1 F1 R1 (.int _)⟩
      · have e := dd_strs hd
        subst e
        exact .inr ⟨a, ns, rfl, hs, hl, kk _ ε1 G1 H1 ow1 _ h1 F1 R1 (.int _)⟩
    · exact h1.elim
theorem dv_lenSet {a : Expr} {t : TD} {p p2 q pos : Pos} (hc : X.calm = true) (hg : Gl X "len") (hm : X.mg "len" = none) (hg2 : Gl X "set") (hm2 : X.mg "set" = none) (ha : DV X a t)
    (na : starEach [a] X.env = (false, eval a X.env) :: starEach [] X.env := by rfl) : DV X (.Call (.Name "len" p) [.Call (.Name "set" p2) [a] [] q] [] pos) (dUn kLS t) :=
  pe_w (pe_lenSetG hc hg hm hg2 hm2 ha na) fun _ _ _ h => ls_rd h
end
end DL

/-! DL19: x += a new list. -/
namespace DL
open PySem PySem.Spec PyProof.Rows L2
def sAugL (j : Nat) (t : TD) : TDS := fun A ε => match look ε j with
  | .lst _ _ => t ε fun r ε1 => match r, look ε1 j with
    | .new zs, .lst fr xs => xs.length + zs.length ≤ 1000000 ∧ A.nx (put ε1 j (.lst fr (xs ++ zs)))
    | _, _ => False
  | _ => False
theorem ds_augL {X : Cx} {W : _} {e : Expr} {pos pos' : Pos} {t : TD} {j : Nat} {x : Str} (hN : X.N.Nodup) (hi : X.N[j]? = some x) (hx : Loc X.env.scope x) (he : DV X e t) (hf : X.fn x = true ∨ X.env.scope.names.lookup x = some .local := by first | exact .inl rfl | exact .inr rfl | assumption) :
    DS X W (.AugAssign (.Name x pos') .Add e pos) (sAugL j t) := ps_w (ps_aug hN hi hx he iop_ext hf) fun D σ H ⟨c, G, ow, ε, A, R, h, k1, k2, k3, k4, k5⟩ => by
  unfold sAugL at h
  cases hl : look ε j with
  | lst fr0 xs0 =>
    simp only [hl] at h
    obtain ⟨o, ho⟩ := R.some_at (i := j) (by rw [hl]; exact fun z => nomatch z)
    have q0 := R.at ho
    rw [hl] at q0
    obtain ⟨p0, vs0, rfl, _, _, hp0, _⟩ := q0
    refine ⟨.ref p0, ho, c, G, ow, ε, _, R, h, fun r ε1 G1 H1 ow1 v h1 F1 R1 V1 => ?_⟩
    cases r with
    | new zs =>
      cases hl1 : look ε1 j with
      | lst fr xs =>
        simp only [hl1] at h1
        obtain ⟨b, us, rfl, _, _, _, hb, du⟩ := V1
        obtain ⟨p, vs, e1, o2, o3, m3⟩ := mut_lst (ys := xs ++ zs) R1 ho hl1
        cases e1
        obtain ⟨F2, R2⟩ := m3 (vs ++ us) (dpa_app o3 du)
        refine ⟨_, b, vs, us, rfl, rfl, o2, hb, ?_, ?_⟩
        · rw [dpa_len o3, dpa_len du]; exact line_le h1.1
        · show D.nx (σ.set j (some (V.ref p0))) _
          rw [show σ.set j (some (V.ref p0)) = σ by
            refine List.ext_getElem? fun i => ?_
            rw [List.getElem?_set]
            split
            · rename_i q
              subst q
              split
              · exact ho.symm
              · rename_i q
                rw [List.getElem?_eq_none (by omega)]
            · rfl]
          exact k1 _ _ _ _ _ h1.2 (F1.trans F2) R2
      | _ => simp only [hl1] at h1
    | _ => exact absurd h1 (by simp)
  | _ => simp only [hl] at h
theorem ap_augL {j : Nat} {t : TD} {D : DEnds} {ε : Ep} : ev (sAugL j t D ε) = ev (match look ε j with
  | .lst _ _ => t ε fun r ε1 => match r, look ε1 j with
    | .new zs, .lst fr xs => xs.length + zs.length ≤ 1000000 ∧ D.nx (put ε1 j (.lst fr (xs ++ zs)))
    | _, _ => False
  | _ => False) := id rfl
/-! three names get new lists -/
def sNil3 (i j l : Nat) : TDS := fun A ε => A.nx (put (put (put ε i (.lst true [])) j (.lst true [])) l (.lst true []))
theorem nil_step {K : PySem.W.Frag} {c : Ct} {G H0 G0 H : Hp} {ow0 ow : Ow} {σ : L2.St} {ε : Ep} {i : Nat} {p : Addr} (R : Rep K c G H ow σ ε) (F : Fr G0 H0 ow0 G H ow) (hi : i < ε.length) (hd : ∀ a, H0 a = none → c.H0 a = none) (hp : H p = none) :
    ∃ G' ow', Fr G0 H0 ow0 G' (upd H p (.lst [])) ow' ∧ Rep K c G' (upd H p (.lst [])) ow' (σ.set i (some (.ref p))) (put ε i (.lst true [])) := by
  obtain ⟨G', ow', F2, R2, V2⟩ := res_fin R (.lst hp .nil)
  exact store_sl (F.trans F2) hd R2 (V2.since F.dom) hi rfl
theorem ds_nil3 {X : Cx} {W : _} {i j l : Nat} {x y z : Str} {px py pz pt pos p1 p2 p3 : Pos} {kt k2 pt2} (hc : X.calm = true) (hN : X.N.Nodup) (hi : X.N[i]? = some x) (hj : X.N[j]? = some y) (hl : X.N[l]? = some z) (hij : i ≠ j) (hil : i ≠ l) (hjl : j ≠ l)
    (hx : X.env.scope.names.lookup x = some .local) (hy : X.env.scope.names.lookup y = some .local) (hz : X.env.scope.names.lookup z = some .local)
    (hp : PA X [.List [] p1, .List [] p2, .List [] p3] (tCons (tLst tNil) (tCons (tLst tNil) (tCons (tLst tNil) tNil))))
    (hw : swappedStores [.Tuple [.Name x px, .Name y py, .Name z pz] kt pt] (.Tuple [.List [] p1, .List [] p2, .List [] p3] k2 pt2) X.env = pure (some [x, y, z]))
    (hs : swapsWithSole [.Tuple [.Name x px, .Name y py, .Name z pz] kt pt] (.Tuple [.List [] p1, .List [] p2, .List [] p3] k2 pt2) pos.line X.env = pure false := by rfl) :
    DS X W (.Assign [.Tuple [.Name x px, .Name y py, .Name z pz] kt pt] (.Tuple [.List [] p1, .List [] p2, .List [] p3] k2 pt2) pos) (sNil3 i j l) :=
  ps_wl (ps_par3 hc hN hi hj hl hij hil hjl hx hy hz hp hw hs) fun D σ H hlen ⟨c, G, ow, ε, A, R, h, k1, k2, k3, k4, k5⟩ => by
    have z0 : ([] : List V).length ≤ sizeLine := Nat.zero_le _
    have lt : ∀ {m : Nat} {y : Str}, X.N[m]? = some y → m < ε.length := fun q => by
      rw [← R.len, hlen]
      exact (List.getElem?_eq_some_iff.mp q).1
    refine ⟨z0, fun p hp1 => ⟨z0, fun q hq => ⟨z0, fun r hr => ⟨_, _, _, rfl, ?_⟩⟩⟩⟩
    have hd : ∀ a, H a = none → c.H0 a = none := R.dom
    obtain ⟨G1, ow1, F1, R1⟩ := nil_step R (Fr.refl _ _ _) (lt hi) hd hp1
    obtain ⟨G2, ow2, F2, R2⟩ := nil_step (i := j) R1 F1 (by rw [put_length]; exact lt hj) hd hq
    obtain ⟨G3, ow3, F3, R3⟩ := nil_step (i := l) R2 F2 (by rw [put_length, put_length]; exact lt hl) hd hr
    exact k1 _ _ _ _ _ h F3 R3
/-! x op= e, data -/
def sAugD (j : Nat) (k : PyData → PyData → (Vl → Prop) → Prop) (t : TD) : TDS := fun A ε => match look ε j with
  | .d _ => t ε fun r ε1 => match look ε1 j, peek ε1 r with
    | .d x, some y => k x y fun q => match slOf ε1 q with
      | some (s, ε2) => A.nx (put ε2 j s)
      | none => False
    | _, _ => False
  | _ => False
theorem ds_augD {X : Cx} {W : _} {op : Operator} {r : R2} {k : PyData → PyData → (Vl → Prop) → Prop} {e : Expr} {pos pos' : Pos} {t : TD} {j : Nat} {x : Str} (hN : X.N.Nodup) (hi : X.N[j]? = some x) (hx : Loc X.env.scope x) (ho : OpR X (inplaceOp op) r) (hk : OpD X.K r k) (he : DV X e t) (hf : X.fn x = true ∨ X.env.scope.names.lookup x = some .local := by first | exact .inl rfl | exact .inr rfl | assumption) :
    DS X W (.AugAssign (.Name x pos') op e pos) (sAugD j k t) := ps_wl (ps_aug hN hi hx he ho hf) fun D σ H hlen ⟨c, G, ow, ε, A, R, h, k1, k2, k3, k4, k5⟩ => by
  unfold sAugD at h
  cases hl : look ε j with
  | d x0 =>
    simp only [hl] at h
    obtain ⟨o, ho⟩ := R.some_at (i := j) (by rw [hl]; exact fun z => nomatch z)
    have q0 := R.at ho
    rw [hl] at q0
    obtain ⟨v, rfl, _⟩ := q0
    refine ⟨v, ho, c, G, ow, ε, _, R, h, fun r ε1 G1 H1 ow1 u h1 F1 R1 V1 => ?_⟩
    cases hl1 : look ε1 j with
    | d x1 =>
      cases hp : peek ε1 r with
      | none => simp only [hl1, hp] at h1
      | some y =>
        simp only [hl1, hp] at h1
        have q1 := R1.at ho
        rw [hl1] at q1
        obtain ⟨v', e1, d1⟩ := q1
        cases e1
        refine hk G1 H1 x1 y v u _ _ R1.ex (.inl d1) (peek_ok R1 V1 hp) h1 fun q w H2 hA hR => ?_
        obtain ⟨G2, ow2, F2, R2, V2⟩ := res_fin R1 hR
        cases hs : slOf ε1 q with
        | none => simp only [hs] at hA
        | some z =>
          obtain ⟨s, ε2⟩ := z
          simp only [hs] at hA
          obtain ⟨G3, ow3, F3, R3⟩ := store_sl (F1.trans F2) R.dom R2 (V2.since F1.dom) (by rw [← R1.len, hlen]; exact (List.getElem?_eq_some_iff.mp hi).1) hs
          exact k1 _ _ _ _ _ hA F3 R3
    | _ => simp only [hl1] at h1
  | _ => simp only [hl] at h
theorem ap_augD {j : Nat} {t : TD} {k : PyData → PyData → (Vl → Prop) → Prop} {D : DEnds} {ε : Ep} : ev (sAugD j k t D ε) = ev (match look ε j with
  | .d _ => t ε fun r ε1 => match look ε1 j, peek ε1 r with
    | .d x, some y => k x y fun q => match slOf ε1 q with
      | some (s, ε2) => D.nx (put ε2 j s)
      | none => False
    | _, _ => False
  | _ => False) := id rfl
theorem ap_nil3 {i j l : Nat} {D : DEnds} {ε : Ep} : ev (sNil3 i j l D ε) = ev (D.nx (put (put (put ε i (.lst true [])) j (.lst true [])) l (.lst true []))) := id rfl
end DL

/-! DL20: a dict among texts. -/
namespace PySem.SeqAt
open PySem PySem.Spec

open MeetsSeq
theorem str_eq_declines_dict (b : Str) (u : Tok) (l : Addr) (o : Obj) :
    Meets (Builtin.«str.__eq__» ⟨[.str b u, .ref l], []⟩) (fun _ R s => s.heap.get? l = some o ∧ (∃ es ep, o.data = .dict es ep) ∧ R (.ok (.ret .notImplemented)) s) :=
  .of_wp fun prog w A R s h => by
    obtain ⟨hp, g, d, tk, os⟩ := s; obtain ⟨hl, ⟨es, ep, hd⟩, h⟩ := h
    obtain ⟨cls, dd, data, sl⟩ := o
    subst hd
    wp_walk using AutoSeq1.wpAny_loadPart' hl, wpAny_load hl; exact ⟨_, rfl, h⟩
theorem dict_eq_declines_str (b : Str) (u : Tok) (l : Addr) (o : Obj) :
    Meets (Builtin.«dict.__eq__» ⟨[.ref l, .str b u], []⟩) (fun _ R s => s.heap.get? l = some o ∧ o.cls = .type "dict" ∧ (∃ es ep, o.data = .dict es ep) ∧ R (.ok (.ret .notImplemented)) s) :=
  .of_wp fun prog w A R s h => by
    obtain ⟨hp, g, d, tk, os⟩ := s; obtain ⟨hl, hc, ⟨es, ep, hd⟩, h⟩ := h
    obtain ⟨cls, dd, data, sl⟩ := o
    have f1 := F.sub_str_dict
    subst hd
    subst hc
    wp_walk using AutoSeq1.wpAny_loadPart' hl, wpAny_load hl; exact ⟨_, rfl, h⟩
section
variable {A : Around} {s : Shared}
theorem RcAt.str_dict {l : Addr} {o : Obj} (b : Str) (u : Tok) (ho : s.heap.get? l = some o) (hc : o.cls = .type "dict") (hd : ∃ es ep, o.data = .dict es ep) (hu : A.units < cLine) : RcAt A s (.str b u) (.ref l) false := fun prog w E Q h => by
  exact rc_eq_decline_or (k := false) (typeIs_str s b u) ⟨_, ho, hc⟩ (by decide) F.sub_dict_str F.slot_str_eq F.slot_dict_eq_refl
    (fun _ hq => call_meets F.slot_str_eq (typeIs_str s b u) F.entry_str_eq (F.args_str_eq_2 _ _) (str_eq_declines_dict b u l o) ⟨ho, hd, hq⟩)
    (fun _ hq => call_meets F.slot_dict_eq_refl ⟨_, ho, hc⟩ F.entry_dict_eq (F.args_dict_eq_2 _ _) (dict_eq_declines_str b u l o) ⟨ho, hc, hd, hq⟩)
    (fun _ hq => wpAny_of_eq (rfl : isSame (.str b u) (.ref l) = pure false) hq) (.inr hu) h
theorem EqAt.str_dict {l : Addr} {o : Obj} (b : Str) (u : Tok) (ho : s.heap.get? l = some o) (hc : o.cls = .type "dict") (hd : ∃ es ep, o.data = .dict es ep) (hu : A.units < cLine) : EqAt A s (.str b u) (.ref l) false := fun prog w E Q h => by
  unfold eqBool
  refine wpAny_holding ?_
  refine wpAny_ite_split (fun hab => absurd (eq_of_beq hab) nofun) (fun _ => ?_)
  exact wpAny_bind (RcAt.str_dict b u ho hc hd hu prog w E _ (wpAny_truthy_bool h))
end
end PySem.SeqAt
namespace DL
open PySem PySem.Spec PyProof.Rows L2
def isStrD : PyData → Bool
  | .str _ => true
  | _ => false
def rInZ (K : PySem.W.Frag) (neg : Bool) : R2 := fun x y H Q => ∃ (a p : Addr) (kv : List (Key × V)) (us : List V) (ds : List PyData), x = .ref a ∧ H a = some (.dK kv) ∧ y = .ref p ∧ SqT K H p us ∧ DdAll K H us ds ∧ ds.all isStrD = true ∧ Q (.bl neg) H
theorem strs_eqAt {K : PySem.W.Frag} {X : Cx} {pins : List (Addr × Obj)} {s : Shared} {σ : L2.St} {H : Hp} {A : Around} (I : Inv X pins σ H s) {l : Addr} {o : Obj} (ho : s.heap.get? l = some o) (hc : o.cls = .type "dict") (hd : ∃ es ep, o.data = .dict es ep) (hu : A.units < cLine) :
    ∀ {vs : List Value} {us : List V} {ds : List PyData}, Vals us vs → DdAll K H us ds → ds.all isStrD = true → ∀ y ∈ vs, SeqAt.EqAt A s y (.ref l) false
  | [], _, _, _, _, _, y, hy => nomatch hy
  | v :: vs, _, _, .cons r rr, .cons d dd, hs, y, hy => by
    rw [List.all_cons, Bool.and_eq_true] at hs
    rcases List.mem_cons.mp hy with rfl | hy
    · cases d with
      | str x =>
        obtain ⟨t, rfl⟩ := r
        exact SeqAt.EqAt.str_dict _ _ ho hc hd hu
      | _ => exact absurd hs.1 (by simp [isStrD])
    · exact strs_eqAt I ho hc hd hu rr dd hs.2 y hy
theorem op_inZ {X : Cx} (hu : X.A.units + 64 < cLine) : OpR X (compareOp .In) (rInZ X.K false) := by
  intro pins s σ H x y v u Q I rx ry h
  obtain ⟨a, p, kv, us, ds, rfl, ha, rfl, hs, hd, hall, q⟩ := h
  cases rx
  cases ry
  obtain ⟨z, hdd, vs, rel, ⟨o, es, ep, ho, hx, hdt, _⟩⟩ := dk_of I.hok ha
  obtain ⟨its, rv, ht, _⟩ := I.tuple hs
  refine SeqAt.in_tupleAt (fun _ => false) ht (fun y hy => strs_eqAt I ho hx.1 ⟨_, _, hdt⟩ (by show X.A.units + 1 < cLine; omega) rv hd hall y (by simpa using hy)) ?_
  rw [show its.toArray.any (fun _ => false) = false by simp]
  exact ⟨.bl _, H, I, rfl, q⟩
theorem op_notInZ {X : Cx} (hu : X.A.units + 64 < cLine) : OpR X (compareOp .NotIn) (rInZ X.K true) := by
  intro pins s σ H x y v u Q I rx ry h
  obtain ⟨a, p, kv, us, ds, rfl, ha, rfl, hs, hd, hall, q⟩ := h
  cases rx
  cases ry
  obtain ⟨z, hdd, vs, rel, ⟨o, es, ep, ho, hx, hdt, _⟩⟩ := dk_of I.hok ha
  obtain ⟨its, rv, ht, _⟩ := I.tuple hs
  refine SeqAt.notIn_tupleAt (fun _ => false) ht (fun y hy => strs_eqAt I ho hx.1 ⟨_, _, hdt⟩ (by show X.A.units + 1 < cLine; omega) rv hd hall y (by simpa using hy)) ?_
  rw [show its.toArray.any (fun _ => false) = false by simp]
  exact ⟨.bl _, H, I, rfl, q⟩
/-- x in ys, where x may be a dict among texts -/
def kInZ (neg : Bool) : PyData → PyData → (Vl → Prop) → Prop := fun x y A => match x, y with
  | .dict _, .tuple ds => ds.all isStrD = true ∧ A (.d (.bool neg))
  | x, y => kInA neg x y A
theorem od_inZ {K : PySem.W.Frag} (neg : Bool) : OpD K (fun x y H Q => rInZ K neg x y H Q ∨ rInP K neg x y H Q) (kInZ neg) := fun G H x y v1 v2 A Q e p1 p2 h k => by
  unfold kInZ at h
  split at h
  · obtain ⟨p, vs, rfl, hs, hd⟩ := p2.tuple e
    have d1 := p1.dp e
    cases d1 with
    | dct ha _ => exact .inl ⟨_, p, _, vs, _, rfl, ha, rfl, hs, dpa_ex e _ hd, h.1, k _ _ _ h.2 (.val (.bl _))⟩
  · exact .inr (od_inA neg G H _ _ v1 v2 A Q e p1 p2 h k)
theorem op_inZA {X : Cx} (hu : X.A.units + 64 < cLine) : OpR X (compareOp .In) (fun x y H Q => rInZ X.K false x y H Q ∨ rInP X.K false x y H Q) := (op_inZ hu).or (op_inP hu)
theorem op_notInZA {X : Cx} (hu : X.A.units + 64 < cLine) : OpR X (compareOp .NotIn) (fun x y H Q => rInZ X.K true x y H Q ∨ rInP X.K true x y H Q) := (op_notInZ hu).or (op_notInP hu)
section
variable {neg : Bool} {x : PyData} {xs ds : List PyData} {kvs : List (PyData × PyData)} {A : Vl → Prop} {s : Str} {b : Bool} {i : Int}
theorem k_InZd : kInZ neg (.dict kvs) (.tuple ds) A = (ds.all isStrD = true ∧ A (.d (.bool neg))) := id rfl
theorem k_InZs : kInZ neg (.str s) (.tuple ds) A = kInA neg (.str s) (.tuple ds) A := id rfl
theorem k_InZi : kInZ neg (.int i) (.tuple ds) A = kInA neg (.int i) (.tuple ds) A := id rfl
theorem k_InZb : kInZ neg (.bool b) (.tuple ds) A = kInA neg (.bool b) (.tuple ds) A := id rfl
theorem k_InZn : kInZ neg .none (.tuple ds) A = kInA neg .none (.tuple ds) A := id rfl
theorem k_InZt : kInZ neg (.tuple xs) (.tuple ds) A = kInA neg (.tuple xs) (.tuple ds) A := id rfl
theorem k_InZl : kInZ neg (.list xs) (.tuple ds) A = kInA neg (.list xs) (.tuple ds) A := id rfl
/-- .. of any thing without dicts, or a dict, among texts -/
theorem k_InZ {ss : List Str} (h : shp x = true ∨ ∃ kvs, x = .dict kvs) (hA : A (.d (.bool (if neg then !inD x (ss.map .str) else inD x (ss.map .str))))) : kInZ neg x (.tuple (ss.map .str)) A := by
  have hs : shp (.list (ss.map .str)) = true := sh_strs ss
  rcases h with h | ⟨kvs, rfl⟩
  · cases x with
    | dict kvs => exact absurd (shp_plain h) (by simp [PyData.plain])
    | _ => exact ⟨h, by rw [shp_tl]; exact hs, hA⟩
  · refine ⟨by rw [List.all_map]; exact List.all_eq_true.mpr fun _ _ => rfl, ?_⟩
    have : inD (.dict kvs) (ss.map .str) = false := by
      unfold inD
      rw [List.any_map, List.any_eq_false]
      intro s hs
      show ¬ PyData.eqv (.str s) (.dict kvs) = true
      simp [PyData.eqv]
    rw [this] at hA
    cases neg <;> exact hA
end
/-! a tuple times a number -/
def kMulT : PyData → PyData → (Vl → Prop) → Prop := fun x y A => match x, y with
  | .tuple xs, .int k => (xs ≠ [] ∧ 2 ≤ k ∧ k ≤ 1000 ∧ xs.length ≤ 1000) ∧ A (.d (.tuple (List.replicate k.toNat xs).flatten))
  | _, _ => False
theorem od_mulT {K : PySem.W.Frag} : OpD K (rRepT K) kMulT := fun G H x y v1 v2 A Q e p1 p2 h k => by
  unfold kMulT at h
  split at h
  · obtain ⟨p, vs, rfl, hs, ha⟩ := p1.tuple e
    have d2 := p2.dp e
    cases d2
    refine ⟨p, _, vs, rfl, rfl, hs, ?_, h.1.2.1, h.1.2.2.1, by rw [dpa_len ha]; exact h.1.2.2.2, fun r hr => k _ _ _ h.2 (.tup hr (dpa_rep ha _))⟩
    rintro rfl
    cases ha
    exact h.1.1 rfl
  · exact h.elim
theorem k_MuT {xs : List PyData} {i : Int} {V : Vl → Prop} : kMulT (.tuple xs) (.int i) V = ((xs ≠ [] ∧ 2 ≤ i ∧ i ≤ 1000 ∧ xs.length ≤ 1000) ∧ V (.d (.tuple (List.replicate i.toNat xs).flatten))) := id rfl
end DL

namespace Cl
open PySem PySem.Spec PyProof.Rows L2 DL
def topS (i : Nat) : Stmt := PySem.Challenge.pw_dealcourt_k11_what_is_one.main.body.getD i (.Pass ⟨0, 0, 0, 0⟩)
section
variable {P : Program} {w : World} {K : PySem.W.Frag} {mg : Str → Option Value} {base : Heap}
def xi_IsYes : Str → Option Bool := fun nm => ([("NoHistory", false)] : List (Str × Bool)).lookup nm
theorem xi_IsYes_NoHistory : xi_IsYes "NoHistory" = some false := by decide +kernel
def xi_NoDeal : Str → Option Bool := fun nm => ([("NoHistory", false)] : List (Str × Bool)).lookup nm
theorem xi_NoDeal_NoHistory : xi_NoDeal "NoHistory" = some false := by decide +kernel
def xi_NoHands : Str → Option Bool := fun nm => ([("NoHistory", false)] : List (Str × Bool)).lookup nm
theorem xi_NoHands_NoHistory : xi_NoHands "NoHistory" = some false := by decide +kernel
def xi_NoHistory : Str → Option Bool := fun nm => ([("NoHistory", true)] : List (Str × Bool)).lookup nm
theorem xi_NoHistory_NoHistory : xi_NoHistory "NoHistory" = some true := by decide +kernel
def xi_NoKind : Str → Option Bool := fun nm => ([("NoHistory", false)] : List (Str × Bool)).lookup nm
theorem xi_NoKind_NoHistory : xi_NoKind "NoHistory" = some false := by decide +kernel
def xi_NoLog : Str → Option Bool := fun nm => ([("NoHistory", false)] : List (Str × Bool)).lookup nm
theorem xi_NoLog_NoHistory : xi_NoLog "NoHistory" = some false := by decide +kernel
def xi_NoOrders : Str → Option Bool := fun nm => ([("NoHistory", false)] : List (Str × Bool)).lookup nm
theorem xi_NoOrders_NoHistory : xi_NoOrders "NoHistory" = some false := by decide +kernel
def xi_NoStore : Str → Option Bool := fun nm => ([("NoHistory", false)] : List (Str × Bool)).lookup nm
theorem xi_NoStore_NoHistory : xi_NoStore "NoHistory" = some false := by decide +kernel
def xi_NoText : Str → Option Bool := fun nm => ([("NoHistory", false)] : List (Str × Bool)).lookup nm
theorem xi_NoText_NoHistory : xi_NoText "NoHistory" = some false := by decide +kernel
def xi_NotSound : Str → Option Bool := fun nm => ([("NoHistory", false)] : List (Str × Bool)).lookup nm
theorem xi_NotSound_NoHistory : xi_NotSound "NoHistory" = some false := by decide +kernel
def xi_TooMany : Str → Option Bool := fun nm => ([("NoHistory", false)] : List (Str × Bool)).lookup nm
theorem xi_TooMany_NoHistory : xi_TooMany "NoHistory" = some false := by decide +kernel
def xi_ValueError : Str → Option Bool := fun nm => ([("NoHistory", true)] : List (Str × Bool)).lookup nm
theorem xi_ValueError_NoHistory : xi_ValueError "NoHistory" = some true := by decide +kernel
def xc_CourtError : Str → Option Bool := fun nm => ([("NoHistory", true)] : List (Str × Bool)).lookup nm
theorem xc_CourtError_NoHistory : xc_CourtError "NoHistory" = some true := by decide +kernel
/-! #### _law_state -/
abbrev stqstate : Stmt := topS 32
theorem scqstate : FnScope ["_law_script", "_law_k", "_law_cell", "_law_start"] ["_law_script", "_law_k"] (defScope stqstate) := ⟨rfl, rfl, rfl, by decide +kernel, rfl, by decide +kernel, by decide +kernel⟩
def r_qstate : TDS := (sSeq (sSet 2 (dOp kAdd (dC (.int 1)) (dOp kMul (dC (.int 2)) (dVar 1)))) (sSeq (sIf (dTest (dOp (kI0 fun i j => .bool (decide (j < i))) (dLenA (daCons (dVar 0) daNil)) (dC (.int 0)))) (sSet 2 (dOp kAdd (dIxA (dVar 0) (dOp (kI (fun _ j => 0 < j) fun i j => .int (i % j)) (dVar 1) (dLenA (daCons (dVar 0) daNil)))) (dOp kMul (dC (.int 2)) (dOp (kI CDiv fun i j => .int (i / j)) (dVar 1) (dLenA (daCons (dVar 0) daNil)))))) sNext) (sSeq (sSet 3 (dOp (kI CDiv fun i j => .int (i / j)) (dCB kAbs (daCons (dVar 2) daNil)) (dC (.int 2)))) (sSeq (sIf (dTest (dOp (kEqA id) (dOp (kI (fun _ j => 0 < j) fun i j => .int (i % j)) (dVar 2) (dC (.int 2))) (dC (.int 1)))) (sSet 3 (dOp (kI (fun _ j => 0 < j) fun i j => .int (i % j)) (dOp kAdd (dOp kAdd (dOp kAdd (dOp kMul (dOp (kI (fun _ j => 0 < j) fun i j => .int (i % j)) (dVar 3) (dC (.int 2147483647))) (dC (.int 48271))) (dOp kMul (dC (.int 7919)) (dVar 1))) (dLenA (daCons (dVar 0) daNil))) (dC (.int 11))) (dC (.int 2147483647)))) sNext) (sRet (dLst (dfCons (dOp (kI (fun _ j => 0 < j) fun i j => .int (i % j)) (dVar 2) (dC (.int 2))) (dfCons (dVar 3) (dfCons (dOp kAdd (dVar 1) (dC (.int 1))) dfNil)))))))))
def s_qstate : DSp := ownSp 2 2 r_qstate
theorem ok_qstate {f : Addr} {fd : FuncData} (F : Fun K "_law_state" "_law_state" stqstate f fd) (z_abs : mg "abs" = none) (z_len : mg "len" = none) : FnOk P w K mg base CX0 (0 + 1) f fd ["_law_script", "_law_k"] (spD K 2 s_qstate) :=
  fnD F scqstate rfl r_qstate (fun cdv A outer s H E hr =>
    (dss_cons (ds_set (i := 2) scqstate.nd rfl (.inl rfl) (dv_op op_addA od_addA dv_int (dv_op op_mulA od_mulA dv_int (dv 1))))
    (dss_cons (ds_if (dt_cmp op_gt (od_B0 _) (dv_lenA rfl z_len (by decide +kernel) (da_cons (dv 0) da_nil)) dv_int (nomark _)) (dss_one (ds_set (i := 2) scqstate.nd rfl (.inl rfl) (dv_op op_addA od_addA (dv_ixA (dv 0) (dv_op op_mod (od_I _ _) (dv 1) (dv_lenA rfl z_len (by decide +kernel) (da_cons (dv 0) da_nil))) (fun _ _ => rfl)) (dv_op op_mulA od_mulA dv_int (dv_op op_fdiv (od_I _ _) (dv 1) (dv_lenA rfl z_len (by decide +kernel) (da_cons (dv 0) da_nil))))))) dss_nil)
    (dss_cons (ds_set (i := 3) scqstate.nd rfl (.inl rfl) (dv_op op_fdiv (od_I _ _) (dv_callB call_abs cd_abs rfl z_abs (by decide +kernel) (da_cons (dv 2) da_nil)) dv_int))
    (dss_cons (ds_if (dt_cmp (op_eqA hr.units) od_eqA (dv_op op_mod (od_I _ _) (dv 2) dv_int) dv_int (nomark _)) (dss_one (ds_set (i := 3) scqstate.nd rfl (.inl rfl) (dv_op op_mod (od_I _ _) (dv_op op_addA od_addA (dv_op op_addA od_addA (dv_op op_addA od_addA (dv_op op_mulA od_mulA (dv_op op_mod (od_I _ _) (dv 3) dv_int) dv_int) (dv_op op_mulA od_mulA dv_int (dv 1))) (dv_lenA rfl z_len (by decide +kernel) (da_cons (dv 0) da_nil))) dv_int) dv_int))) dss_nil)
    (dss_one (ds_ret (dv_lst (df_cons (dv_op op_mod (od_I _ _) (dv 2) dv_int) (df_cons (dv 3) (df_cons (dv_op op_addA od_addA (dv 1) dv_int) df_nil))))))))))) (fun _ _ _ h => h.2)
/-! #### _law_next -/
abbrev stqnext : Stmt := topS 33
theorem scqnext : FnScope ["_law_state_here", "_law_size", "_law_digit", "_law_mixed"] ["_law_state_here", "_law_size"] (defScope stqnext) := ⟨rfl, rfl, rfl, by decide +kernel, rfl, by decide +kernel, by decide +kernel⟩
def r_qnext : TDS := (sSeq (sIf (dTest (dOp (kEqA id) (dIxA (dVar 0) (dC (.int 0))) (dC (.int 0)))) (sSeq (sSet 2 (dOp (kI (fun _ j => 0 < j) fun i j => .int (i % j)) (dIxA (dVar 0) (dC (.int 1))) (dVar 1))) (sSeq (sStX (dOp (kI CDiv fun i j => .int (i / j)) (dIxA (dVar 0) (dC (.int 1))) (dVar 1)) (dVar 0) (dC (.int 1))) (sRet (dVar 2)))) sNext) (sSeq (sStX (dOp (kI (fun _ j => 0 < j) fun i j => .int (i % j)) (dOp kAdd (dOp kMul (dIxA (dVar 0) (dC (.int 1))) (dC (.int 48271))) (dIxA (dVar 0) (dC (.int 2)))) (dC (.int 2147483647))) (dVar 0) (dC (.int 1))) (sSeq (sSet 3 (dOp (kI (fun _ j => 0 < j) fun i j => .int (i % j)) (dOp kMul (dIxA (dVar 0) (dC (.int 1))) (dIxA (dVar 0) (dC (.int 1)))) (dC (.int 2147483629)))) (sRet (dOp (kI (fun _ j => 0 < j) fun i j => .int (i % j)) (dOp (kI CDiv fun i j => .int (i / j)) (dOp (kI (fun _ j => 0 < j) fun i j => .int (i % j)) (dOp kMul (dVar 3) (dVar 3)) (dC (.int 2147483587))) (dC (.int 7))) (dVar 1))))))
def s_qnext : DSp := ownSp 2 2 r_qnext
theorem ok_qnext {f : Addr} {fd : FuncData} (F : Fun K "_law_next" "_law_next" stqnext f fd) : FnOk P w K mg base CX0 (0 + 1) f fd ["_law_state_here", "_law_size"] (spD K 2 s_qnext) :=
  fnD F scqnext rfl r_qnext (fun cdv A outer s H E hr =>
    (dss_cons (ds_if (dt_cmp (op_eqA hr.units) od_eqA (dv_ixA (dv 0) dv_int (fun _ _ => rfl)) dv_int (nomark _)) (dss_cons (ds_set (i := 2) scqnext.nd rfl (.inl rfl) (dv_op op_mod (od_I _ _) (dv_ixA (dv 0) dv_int (fun _ _ => rfl)) (dv 1)))
    (dss_cons (ds_stX (dv_op op_fdiv (od_I _ _) (dv_ixA (dv 0) dv_int (fun _ _ => rfl)) (dv 1)) (dv 0) dv_int)
    (dss_one (ds_ret (dv 2))))) dss_nil)
    (dss_cons (ds_stX (dv_op op_mod (od_I _ _) (dv_op op_addA od_addA (dv_op op_mulA od_mulA (dv_ixA (dv 0) dv_int (fun _ _ => rfl)) dv_int) (dv_ixA (dv 0) dv_int (fun _ _ => rfl))) dv_int) (dv 0) dv_int)
    (dss_cons (ds_set (i := 3) scqnext.nd rfl (.inl rfl) (dv_op op_mod (od_I _ _) (dv_op op_mulA od_mulA (dv_ixA (dv 0) dv_int (fun _ _ => rfl)) (dv_ixA (dv 0) dv_int (fun _ _ => rfl))) dv_int))
    (dss_one (ds_ret (dv_op op_mod (od_I _ _) (dv_op op_fdiv (od_I _ _) (dv_op op_mod (od_I _ _) (dv_op op_mulA od_mulA (dv 3) (dv 3)) dv_int) dv_int) (dv 1)))))))) (fun _ _ _ h => h.2)
/-! #### _law_keys -/
abbrev stqkeys : Stmt := topS 34
theorem scqkeys : FnScope ["_law_state_here", "_law_size", "_law_letters", "_law_shift", "_law_k", "_law_long", "_law_place", "_law_base"] ["_law_state_here", "_law_size"] (defScope stqkeys) := ⟨rfl, rfl, rfl, by decide +kernel, rfl, by decide +kernel, by decide +kernel⟩
def r_qkeys : TDS := (sSeq (sSet 2 (dC (.str (Str.ofString "abcdefghijklmnopqrstuvwxyz")))) (sSeq (sSet 3 (dCallM s_qnext (daCons (dVar 0) (dmF (dC (.int 26)) daNil)))) (sSeq (sIf (dAnd (dTest (dOp (kEqA id) (dCallM s_qnext (daCons (dVar 0) (dmF (dC (.int 4)) daNil))) (dC (.int 0)))) (dTest (dOp (kI0 fun i j => .bool (decide (i < j))) (dVar 1) (dC (.int 5))))) (sRet (dLcXR (daCons (dVar 1) daNil) 4 dYes (dOp kMul (dIxA (dVar 2) (dVar 3)) (dOp kAdd (dC (.int 1)) (dVar 4))) [4])) sNext) (sSeq (sSet 5 (dOp kAdd (dC (.int 1)) (dCallM s_qnext (daCons (dVar 0) (dmF (dC (.int 4)) daNil))))) (sSeq (sSet 6 (dCallM s_qnext (daCons (dVar 0) (dmF (dVar 5) daNil)))) (sSeq (sSet 7 (dJoinC (Str.ofString "") (dLcXR (daCons (dVar 5) daNil) 4 dYes (dIxA (dVar 2) (dOp (kI (fun _ j => 0 < j) fun i j => .int (i % j)) (dOp kAdd (dVar 3) (dOp kMul (dC (.int 7)) (dVar 4))) (dC (.int 26)))) [4]))) (sRet (dLcXR (daCons (dVar 1) daNil) 4 dYes (dOp kAdd (dOp kAdd (dSl (dVar 7) dNoPart (dPart (dVar 6))) (dIxA (dVar 2) (dOp (kI (fun _ j => 0 < j) fun i j => .int (i % j)) (dOp kAdd (dOp kAdd (dVar 3) (dC (.int 5))) (dOp kMul (dC (.int 3)) (dVar 4))) (dC (.int 26))))) (dSl (dVar 7) (dPart (dOp kAdd (dVar 6) (dC (.int 1)))) dNoPart)) [4]))))))))
def s_qkeys : DSp := ownSp 2 6 r_qkeys
theorem ok_qkeys {f : Addr} {fd : FuncData} (F : Fun K "_law_keys" "_law_keys" stqkeys f fd) (z_range : mg "range" = none) {gqnext : Addr} {gdqnext : FuncData} (G_qnext : FnOk P w K mg base CX0 1 gqnext gdqnext ["_law_state_here", "_law_size"] (spD K 2 s_qnext)) (b_qnext : Binds K gdqnext ["_law_state_here", "_law_size"] []) (k_qnext : PySem.W.keepIn K (.ref gqnext) = true) (m_qnext : mg "_law_next" = some (.ref gqnext)) : FnOk P w K mg base CX0 (1 + 1) f fd ["_law_state_here", "_law_size"] (spD K 2 s_qkeys) :=
  fnD F scqkeys rfl r_qkeys (fun cdv A outer s H E hr =>
    (dss_cons (ds_set (i := 2) scqkeys.nd rfl (.inr rfl) dv_str)
    (dss_cons (ds_set (i := 3) scqkeys.nd rfl (.inr rfl) (dv_callM G_qnext ownSp_len (hr.mono (by decide)) rfl m_qnext k_qnext b_qnext (da_cons (dv 0) (da_consF dv_int da_nil))))
    (dss_cons (ds_if (PW.pt (dw_and (dt_cmp (op_eqA hr.units) od_eqA (dv_callM G_qnext ownSp_len (hr.mono (by decide)) rfl m_qnext k_qnext b_qnext (da_cons (dv 0) (da_consF dv_int da_nil))) dv_int (nomark _)) (dw_and1 (dt_cmp op_lt (od_B0 _) (dv 1) dv_int (nomark _))))) (dss_one (ds_ret (dv_lcXR (own := [("_law_k", 4)]) rfl scqkeys.nd rfl z_range (da_cons (dv 1) da_nil) (by exact ⟨blkOk_by (N := (["_law_state_here", "_law_size", "_law_letters", "_law_shift", "_law_k", "_law_long", "_law_place", "_law_base"] : List Str)) (sc := defScope stqkeys) (own := [("_law_k", 4)]) (by decide +kernel), by decide, fun _ _ _ _ _ => pg_k scqkeys.nd rfl (.inl rfl), fun _ _ _ _ _ => dts_nil, fun _ _ _ _ _ => (dv_op op_mulA od_mulA (dv_ixA (dv 2) (dv 3) (fun _ _ => rfl)) (dv_op op_addA od_addA dv_int (dv 4)))⟩)))) dss_nil)
    (dss_cons (ds_set (i := 5) scqkeys.nd rfl (.inl rfl) (dv_op op_addA od_addA dv_int (dv_callM G_qnext ownSp_len (hr.mono (by decide)) rfl m_qnext k_qnext b_qnext (da_cons (dv 0) (da_consF dv_int da_nil)))))
    (dss_cons (ds_set (i := 6) scqkeys.nd rfl (.inr rfl) (dv_callM G_qnext ownSp_len (hr.mono (by decide)) rfl m_qnext k_qnext b_qnext (da_cons (dv 0) (da_consF (dv 5) da_nil))))
    (dss_cons (ds_set (i := 7) scqkeys.nd rfl (.inr rfl) (dv_joinC (dv_lcXR (own := [("_law_k", 4)]) rfl scqkeys.nd rfl z_range (da_cons (dv 5) da_nil) (by exact ⟨blkOk_by (N := (["_law_state_here", "_law_size", "_law_letters", "_law_shift", "_law_k", "_law_long", "_law_place", "_law_base"] : List Str)) (sc := defScope stqkeys) (own := [("_law_k", 4)]) (by decide +kernel), by decide, fun _ _ _ _ _ => pg_k scqkeys.nd rfl (.inl rfl), fun _ _ _ _ _ => dts_nil, fun _ _ _ _ _ => (dv_ixA (dv 2) (dv_op op_mod (od_I _ _) (dv_op op_addA od_addA (dv 3) (dv_op op_mulA od_mulA dv_int (dv 4))) dv_int) (fun _ _ => rfl))⟩))))
    (dss_one (ds_ret (dv_lcXR (own := [("_law_k", 4)]) rfl scqkeys.nd rfl z_range (da_cons (dv 1) da_nil) (by exact ⟨blkOk_by (N := (["_law_state_here", "_law_size", "_law_letters", "_law_shift", "_law_k", "_law_long", "_law_place", "_law_base"] : List Str)) (sc := defScope stqkeys) (own := [("_law_k", 4)]) (by decide +kernel), by decide, fun _ _ _ _ _ => pg_k scqkeys.nd rfl (.inl rfl), fun _ _ _ _ _ => dts_nil, fun _ _ _ _ _ => (dv_op op_addA od_addA (dv_op op_addA od_addA (dv_sl (dv 7) do_none (do_some (dv 6))) (dv_ixA (dv 2) (dv_op op_mod (od_I _ _) (dv_op op_addA od_addA (dv_op op_addA od_addA (dv 3) dv_int) (dv_op op_mulA od_mulA dv_int (dv 4))) dv_int) (fun _ _ => rfl))) (dv_sl (dv 7) (do_some (dv_op op_addA od_addA (dv 6) dv_int)) do_none))⟩))))))))))) (fun _ _ _ h => h.2)
/-! #### _law_spans -/
abbrev stqspans : Stmt := topS 35
theorem scqspans : FnScope ["_law_state_here", "_law_size", "_law_crowd", "_law_step", "_law_moment", "_law_spans_here", "_law_busy", "_law_idle", "_law_hand", "_law_goes"] ["_law_state_here", "_law_size"] (defScope stqspans) := ⟨rfl, rfl, rfl, by decide +kernel, rfl, by decide +kernel, by decide +kernel⟩
def b_qspans_1 : TDS := (sSeq (sSet 7 (dLcXR (daCons (dVar 2) daNil) 8 (dTest (dDIn true (dVar 8) 6)) (dVar 8) [8])) (sSeq (sSet 9 (dAndV (dOp (kI0 fun i j => .bool (decide (i < j))) (dLenA (daCons (dVar 5) daNil)) (dVar 1)) (dOp (kEqA (!·)) (dVar 7) (dLst dfNil)))) (sSeq (sIf (dAnd (dTest (dVar 9)) (dOr (dTest (dEq0 false 6)) (dTest (dOp (kEqA id) (dCallM s_qnext (daCons (dVar 0) (dmF (dC (.int 2)) daNil))) (dC (.int 0)))))) (sSeq (sSet 8 (dIxA (dVar 7) (dCallM s_qnext (daCons (dVar 0) (dmF (dLenA (daCons (dVar 7) daNil)) daNil))))) (sSeq (sDPut 6 (dVar 8) (dLenA (daCons (dVar 5) daNil))) (sExpr (dAppN (dVar 5) (daCons (dLst (dfCons (dVar 8) (dfCons (dVar 4) (dfCons (dVar 4) dfNil)))) daNil))))) (sSeq (sSet 8 (dIxA (dDSortI 6) (dCallM s_qnext (daCons (dVar 0) (dmF (dDLen 6) daNil))))) (sStX (dVar 4) (dIxA (dVar 5) (dDPop 6 (dVar 8))) (dC (.int 2))))) (sSet 4 (dOp kAdd (dOp kAdd (dVar 4) (dC (.int 1))) (dCallM s_qnext (daCons (dVar 0) (dmF (dVar 3) daNil))))))))
theorem b_qspans_1_eq {D : DEnds} {ε : Ep} : ev (b_qspans_1 D ε) = ev ((sSeq (sSet 7 (dLcXR (daCons (dVar 2) daNil) 8 (dTest (dDIn true (dVar 8) 6)) (dVar 8) [8])) (sSeq (sSet 9 (dAndV (dOp (kI0 fun i j => .bool (decide (i < j))) (dLenA (daCons (dVar 5) daNil)) (dVar 1)) (dOp (kEqA (!·)) (dVar 7) (dLst dfNil)))) (sSeq (sIf (dAnd (dTest (dVar 9)) (dOr (dTest (dEq0 false 6)) (dTest (dOp (kEqA id) (dCallM s_qnext (daCons (dVar 0) (dmF (dC (.int 2)) daNil))) (dC (.int 0)))))) (sSeq (sSet 8 (dIxA (dVar 7) (dCallM s_qnext (daCons (dVar 0) (dmF (dLenA (daCons (dVar 7) daNil)) daNil))))) (sSeq (sDPut 6 (dVar 8) (dLenA (daCons (dVar 5) daNil))) (sExpr (dAppN (dVar 5) (daCons (dLst (dfCons (dVar 8) (dfCons (dVar 4) (dfCons (dVar 4) dfNil)))) daNil))))) (sSeq (sSet 8 (dIxA (dDSortI 6) (dCallM s_qnext (daCons (dVar 0) (dmF (dDLen 6) daNil))))) (sStX (dVar 4) (dIxA (dVar 5) (dDPop 6 (dVar 8))) (dC (.int 2))))) (sSet 4 (dOp kAdd (dOp kAdd (dVar 4) (dC (.int 1))) (dCallM s_qnext (daCons (dVar 0) (dmF (dVar 3) daNil)))))))) D ε) := rfl
def r_qspans : TDS := (sSeq (sSet 2 (dOp kAdd (dC (.int 1)) (dCallM s_qnext (daCons (dVar 0) (dmF (dC (.int 5)) daNil))))) (sSeq (sSet 3 (dIxA (dLst (dfCons (dC (.int 1)) (dfCons (dC (.int 2)) (dfCons (dC (.int 30)) (dfCons (dC (.int 400)) dfNil))))) (dCallM s_qnext (daCons (dVar 0) (dmF (dC (.int 4)) daNil))))) (sSeq (sSet 4 (dCallM s_qnext (daCons (dVar 0) (dmF (dC (.int 3)) daNil)))) (sSeq (sSetN 5 (dLst dfNil)) (sSeq (sSet 6 dDct) (sSeq (sWhile (dOr (dTest (dOp (kI0 fun i j => .bool (decide (i < j))) (dLenA (daCons (dVar 5) daNil)) (dVar 1))) (dTest (dEq0 true 6))) b_qspans_1) (sRet (dVar 5))))))))
def s_qspans : DSp := ownSp 2 8 r_qspans
theorem ok_qspans {f : Addr} {fd : FuncData} (F : Fun K "_law_spans" "_law_spans" stqspans f fd) (z_len : mg "len" = none) (z_range : mg "range" = none) (z_sorted : mg "sorted" = none) {gqnext : Addr} {gdqnext : FuncData} (G_qnext : FnOk P w K mg base CX0 1 gqnext gdqnext ["_law_state_here", "_law_size"] (spD K 2 s_qnext)) (b_qnext : Binds K gdqnext ["_law_state_here", "_law_size"] []) (k_qnext : PySem.W.keepIn K (.ref gqnext) = true) (m_qnext : mg "_law_next" = some (.ref gqnext)) : FnOk P w K mg base CX0 (1 + 1) f fd ["_law_state_here", "_law_size"] (spD K 2 s_qspans) :=
  fnD F scqspans rfl r_qspans (fun cdv A outer s H E hr =>
    (dss_cons (ds_set (i := 2) scqspans.nd rfl (.inl rfl) (dv_op op_addA od_addA dv_int (dv_callM G_qnext ownSp_len (hr.mono (by decide)) rfl m_qnext k_qnext b_qnext (da_cons (dv 0) (da_consF dv_int da_nil)))))
    (dss_cons (ds_set (i := 3) scqspans.nd rfl (.inl rfl) (dv_ixA (dv_lst (df_cons dv_int (df_cons dv_int (df_cons dv_int (df_cons dv_int df_nil))))) (dv_callM G_qnext ownSp_len (hr.mono (by decide)) rfl m_qnext k_qnext b_qnext (da_cons (dv 0) (da_consF dv_int da_nil))) (fun _ _ => rfl)))
    (dss_cons (ds_set (i := 4) scqspans.nd rfl (.inl rfl) (dv_callM G_qnext ownSp_len (hr.mono (by decide)) rfl m_qnext k_qnext b_qnext (da_cons (dv 0) (da_consF dv_int da_nil))))
    (dss_cons (ds_setN (i := 5) scqspans.nd rfl (.inl rfl) (dv_lst df_nil))
    (dss_cons (ds_set (i := 6) scqspans.nd rfl (.inr rfl) dv_dnew)
    (dss_cons (ds_while PassesOwn.never (PW.pt (dw_or (dt_cmp op_lt (od_B0 _) (dv_lenA rfl z_len (by decide +kernel) (da_cons (dv 5) da_nil)) (dv 1) (nomark _)) (dw_or1 (dt_ne0 6 (hu0_of hr))))) (dss_cons (ds_lcXR (own := [("_law_hand", 8)]) (i := 7) rfl scqspans.nd rfl rfl (sw_true rfl rfl rfl (by decide +kernel)) rfl z_range (da_cons (dv 2) da_nil) (by exact ⟨blkOk_by (N := (["_law_state_here", "_law_size", "_law_crowd", "_law_step", "_law_moment", "_law_spans_here", "_law_busy", "_law_idle", "_law_hand", "_law_goes"] : List Str)) (sc := defScope stqspans) (own := [("_law_hand", 8)]) (by decide +kernel), by decide, fun _ _ _ _ _ => pg_k scqspans.nd rfl (.inl rfl), fun _ _ _ _ _ => (dts_one (dt_dnin 6 (hu_of hr) (dv 8))), fun _ _ _ _ _ => (dv 8)⟩))
    (dss_cons (ds_set (i := 9) scqspans.nd rfl (.inl rfl) (dv_and (dv_cmp op_lt (od_B0 _) (dv_lenA rfl z_len (by decide +kernel) (da_cons (dv 5) da_nil)) (dv 1) (nomark _)) (dv_one (dv_cmp (op_neA hr.units) od_neA (dv 7) (dv_lst df_nil) (nomark _)))))
    (dss_cons (ds_if (PW.pt (dw_and (dt_val (dv 9)) (dw_and1 (PW.pt (dw_or (dt_eq0 6 (hu0_of hr)) (dw_or1 (dt_cmp (op_eqA hr.units) od_eqA (dv_callM G_qnext ownSp_len (hr.mono (by decide)) rfl m_qnext k_qnext b_qnext (da_cons (dv 0) (da_consF dv_int da_nil))) dv_int (nomark _)))))))) (dss_cons (ds_set (i := 8) scqspans.nd rfl (.inl rfl) (dv_ixA (dv 7) (dv_callM G_qnext ownSp_len (hr.mono (by decide)) rfl m_qnext k_qnext b_qnext (da_cons (dv 0) (da_consF (dv_lenA rfl z_len (by decide +kernel) (da_cons (dv 7) da_nil)) da_nil))) (fun _ _ => rfl)))
    (dss_cons (ds_dput 6 (hu_of hr) (dv_lenA rfl z_len (by decide +kernel) (da_cons (dv 5) da_nil)) (dv 8))
    (dss_one (ds_expr (dv_appN (dv 5) (da_cons (dv_lst (df_cons (dv 8) (df_cons (dv 4) (df_cons (dv 4) df_nil)))) da_nil)))))) (dss_cons (ds_set (i := 8) scqspans.nd rfl (.inl rfl) (dv_ixA (dv_dsortI rfl 6 rfl z_sorted (by decide +kernel)) (dv_callM G_qnext ownSp_len (hr.mono (by decide)) rfl m_qnext k_qnext b_qnext (da_cons (dv 0) (da_consF (dv_dlen 6 rfl z_len (by decide +kernel)) da_nil))) (fun _ _ => rfl)))
    (dss_one (ds_stX (dv 4) (dv_ixA (dv 5) (dv_dpop 6 (dv 8) ⟨rfl, rfl, rfl, rfl⟩) (fun _ _ => rfl)) dv_int))))
    (dss_one (ds_set (i := 4) scqspans.nd rfl (.inl rfl) (dv_op op_addA od_addA (dv_op op_addA od_addA (dv 4) dv_int) (dv_callM G_qnext ownSp_len (hr.mono (by decide)) rfl m_qnext k_qnext b_qnext (da_cons (dv 0) (da_consF (dv 3) da_nil))))))))))
    (dss_one (ds_ret (dv 5)))))))))) (fun _ _ _ h => h.2)
/-! #### _law_numbered -/
abbrev stqnumbered : Stmt := topS 37
theorem scqnumbered : FnScope ["_law_state_here", "_law_laid_here", "_law_step", "_law_number", "_law_acts", "_law_act"] ["_law_state_here", "_law_laid_here"] (defScope stqnumbered) := ⟨rfl, rfl, rfl, by decide +kernel, rfl, by decide +kernel, by decide +kernel⟩
def b_qnumbered_2 : TDS := (sIf (dTest (dOp (kEqA id) (dIxA (dVar 5) (dC (.int 0))) (dC (.str (Str.ofString "write"))))) (sSeq (sStX (dVar 3) (dVar 5) (dC (.int 2))) (sSet 3 (dOp kAdd (dVar 3) (dVar 2)))) sNext)
theorem b_qnumbered_2_eq {D : DEnds} {ε : Ep} : ev (b_qnumbered_2 D ε) = ev ((sIf (dTest (dOp (kEqA id) (dIxA (dVar 5) (dC (.int 0))) (dC (.str (Str.ofString "write"))))) (sSeq (sStX (dVar 3) (dVar 5) (dC (.int 2))) (sSet 3 (dOp kAdd (dVar 3) (dVar 2)))) sNext) D ε) := rfl
def b_qnumbered_1 : TDS := (sForX 5 (dVar 4) b_qnumbered_2)
theorem b_qnumbered_1_eq {D : DEnds} {ε : Ep} : ev (b_qnumbered_1 D ε) = ev ((sForX 5 (dVar 4) b_qnumbered_2) D ε) := rfl
def r_qnumbered : TDS := (sSeq (sSet 2 (dOp kAdd (dC (.int 1)) (dCallM s_qnext (daCons (dVar 0) (dmF (dC (.int 40)) daNil))))) (sSeq (sSet 3 (dOp kAdd (dC (.int 1)) (dCallM s_qnext (daCons (dVar 0) (dmF (dC (.int 5)) daNil))))) (sSeq (sIf (dTest (dOp (kEqA id) (dCallM s_qnext (daCons (dVar 0) (dmF (dC (.int 2)) daNil))) (dC (.int 1)))) (sSeq (sSet 3 (dOp (kI0 fun i j => .int (i - j)) (dC (.int 999999)) (dCallM s_qnext (daCons (dVar 0) (dmF (dC (.int 5)) daNil))))) (sSet 2 (dOp (kI0 fun i j => .int (i - j)) (dC (.int 0)) (dVar 2)))) sNext) (sForX 4 (dVar 1) b_qnumbered_1))))
def s_qnumbered : DSp := ownSp 2 4 r_qnumbered
theorem ok_qnumbered {f : Addr} {fd : FuncData} (F : Fun K "_law_numbered" "_law_numbered" stqnumbered f fd) {gqnext : Addr} {gdqnext : FuncData} (G_qnext : FnOk P w K mg base CX0 1 gqnext gdqnext ["_law_state_here", "_law_size"] (spD K 2 s_qnext)) (b_qnext : Binds K gdqnext ["_law_state_here", "_law_size"] []) (k_qnext : PySem.W.keepIn K (.ref gqnext) = true) (m_qnext : mg "_law_next" = some (.ref gqnext)) : FnOk P w K mg base CX0 (1 + 1) f fd ["_law_state_here", "_law_laid_here"] (spD K 2 s_qnumbered) :=
  fnD F scqnumbered rfl r_qnumbered (fun cdv A outer s H E hr =>
    (dss_cons (ds_set (i := 2) scqnumbered.nd rfl (.inl rfl) (dv_op op_addA od_addA dv_int (dv_callM G_qnext ownSp_len (hr.mono (by decide)) rfl m_qnext k_qnext b_qnext (da_cons (dv 0) (da_consF dv_int da_nil)))))
    (dss_cons (ds_set (i := 3) scqnumbered.nd rfl (.inl rfl) (dv_op op_addA od_addA dv_int (dv_callM G_qnext ownSp_len (hr.mono (by decide)) rfl m_qnext k_qnext b_qnext (da_cons (dv 0) (da_consF dv_int da_nil)))))
    (dss_cons (ds_if (dt_cmp (op_eqA hr.units) od_eqA (dv_callM G_qnext ownSp_len (hr.mono (by decide)) rfl m_qnext k_qnext b_qnext (da_cons (dv 0) (da_consF dv_int da_nil))) dv_int (nomark _)) (dss_cons (ds_set (i := 3) scqnumbered.nd rfl (.inl rfl) (dv_op op_sub (od_I0 _) dv_int (dv_callM G_qnext ownSp_len (hr.mono (by decide)) rfl m_qnext k_qnext b_qnext (da_cons (dv 0) (da_consF dv_int da_nil)))))
    (dss_one (ds_set (i := 2) scqnumbered.nd rfl (.inl rfl) (dv_op op_sub (od_I0 _) dv_int (dv 2))))) dss_nil)
    (dss_one (ds_forX (n := 4) PassesOwn.never rfl scqnumbered.nd rfl (.inl rfl) (dv 1) (dss_one (ds_forX (n := 5) PassesOwn.never rfl scqnumbered.nd rfl (.inl rfl) (dv 4) (dss_one (ds_if (dt_cmp (op_eqA hr.units) od_eqA (dv_ixA (dv 5) dv_int (fun _ _ => rfl)) dv_str (nomark _)) (dss_cons (ds_stX (dv 3) (dv 5) dv_int)
    (dss_one (ds_set (i := 3) scqnumbered.nd rfl (.inl rfl) (dv_op op_addA od_addA (dv 3) (dv 2))))) dss_nil)))))))))) (fun _ _ _ h => h.2)
/-! #### _law_last -/
abbrev stqlast : Stmt := topS 38
theorem scqlast : FnScope ["_law_acts", "_law_key", "_law_numbers", "_law_act"] ["_law_acts", "_law_key"] (defScope stqlast) := ⟨rfl, rfl, rfl, by decide +kernel, rfl, by decide +kernel, by decide +kernel⟩
def r_qlast : TDS := (sSeq (sSet 2 (dLcXA (dVar 0) 3 (dAnd (dTest (dOp (kEqA id) (dIxA (dVar 3) (dC (.int 0))) (dC (.str (Str.ofString "write"))))) (dTest (dOp (kEqA id) (dIxA (dVar 3) (dC (.int 1))) (dVar 1)))) (dIxA (dVar 3) (dC (.int 2))) [3])) (sRet (dIxA (dOrL (dVar 2) (dLst (dfCons (dC .none) dfNil))) (dUn kNeg (dC (.int 1))))))
def s_qlast : DSp := ownSp 2 2 r_qlast
theorem ok_qlast {f : Addr} {fd : FuncData} (F : Fun K "_law_last" "_law_last" stqlast f fd) : FnOk P w K mg base CX0 (0 + 1) f fd ["_law_acts", "_law_key"] (spD K 2 s_qlast) :=
  fnD F scqlast rfl r_qlast (fun cdv A outer s H E hr =>
    (dss_cons (ds_lcXA (own := [("_law_act", 3)]) (i := 2) rfl scqlast.nd rfl rfl (sw_true rfl rfl rfl (by decide +kernel)) (dv 0) (by exact ⟨blkOk_by (N := (["_law_acts", "_law_key", "_law_numbers", "_law_act"] : List Str)) (sc := defScope stqlast) (own := [("_law_act", 3)]) (by decide +kernel), by decide, fun _ _ _ _ _ => pg_k scqlast.nd rfl (.inl rfl), fun _ _ _ _ _ => (dts_one (PW.pt (dw_and (dt_cmp (op_eqA hr.units) od_eqA (dv_ixA (dv 3) dv_int (fun _ _ => rfl)) dv_str (nomark _)) (dw_and1 (dt_cmp (op_eqA hr.units) od_eqA (dv_ixA (dv 3) dv_int (fun _ _ => rfl)) (dv 1) (nomark _)))))), fun _ _ _ _ _ => (dv_ixA (dv 3) dv_int (fun _ _ => rfl))⟩))
    (dss_one (ds_ret (dv_ixA (dv_orL (dv 2) (dv_one (dv_lst (df_cons dv_non df_nil)))) (dv_neg dv_int) (fun _ _ => rfl)))))) (fun _ _ _ h => h.2)
/-! #### _law_choice -/
abbrev stqchoice : Stmt := topS 39
theorem scqchoice : FnScope ["_law_state_here", "_law_spans_here", "_law_laid_here", "_law_fates", "_law_at", "_law_key", "_law_some", "_law_k", "_law_ahead"] ["_law_state_here", "_law_spans_here", "_law_laid_here", "_law_fates", "_law_at", "_law_key"] (defScope stqchoice) := ⟨rfl, rfl, rfl, by decide +kernel, rfl, by decide +kernel, by decide +kernel⟩
def r_qchoice : TDS := (sSeq (sSet 6 (dLcXR (daCons (dLenA (daCons (dVar 2) daNil)) daNil) 7 (dAnd (dTest (dOp (kEqA (!·)) (dVar 7) (dVar 4))) (dAnd (dTest (dIxA (dVar 3) (dVar 7))) (dTest (dIsNx true (dCallM s_qlast (daCons (dIxA (dVar 2) (dVar 7)) (dmF (dVar 5) daNil))))))) (dVar 7) [7])) (sSeq (sSet 8 (dCB kSortD (daCons (dLcXA (dVar 6) 7 (dTest (dOp (kI0 fun i j => .bool (decide (i < j))) (dIxA (dIxA (dVar 1) (dVar 7)) (dC (.int 2))) (dIxA (dIxA (dVar 1) (dVar 4)) (dC (.int 1))))) (dTup (dfCons (dIxA (dIxA (dVar 1) (dVar 7)) (dC (.int 2))) (dfCons (dVar 7) dfNil))) [7]) daNil))) (sSeq (sIf (dTest (dOp (kEqA id) (dCallM s_qnext (daCons (dVar 0) (dmF (dC (.int 2)) daNil))) (dC (.int 0)))) (sSeq (sIf (dTest (dOp (kEqA id) (dVar 8) (dLst dfNil))) (sRet (dC (.int 0))) sNext) (sRet (dCallM s_qlast (daCons (dIxA (dVar 2) (dIxA (dIxA (dVar 8) (dUn kNeg (dC (.int 1)))) (dC (.int 1)))) (dmF (dVar 5) daNil))))) sNext) (sRet (dIxA (dOp kAdd (dLst (dfCons (dC (.int 0)) dfNil)) (dLcXA (dVar 6) 7 dYes (dCallM s_qlast (daCons (dIxA (dVar 2) (dVar 7)) (dmF (dVar 5) daNil))) [7])) (dCallM s_qnext (daCons (dVar 0) (dmF (dOp kAdd (dC (.int 1)) (dLenA (daCons (dVar 6) daNil))) daNil))))))))
def s_qchoice : DSp := ownSp 6 3 r_qchoice
theorem ok_qchoice {f : Addr} {fd : FuncData} (F : Fun K "_law_choice" "_law_choice" stqchoice f fd) (z_len : mg "len" = none) (z_range : mg "range" = none) (z_sorted : mg "sorted" = none) {gqlast : Addr} {gdqlast : FuncData} (G_qlast : FnOk P w K mg base CX0 1 gqlast gdqlast ["_law_acts", "_law_key"] (spD K 2 s_qlast)) (b_qlast : Binds K gdqlast ["_law_acts", "_law_key"] []) (k_qlast : PySem.W.keepIn K (.ref gqlast) = true) (m_qlast : mg "_law_last" = some (.ref gqlast)) {gqnext : Addr} {gdqnext : FuncData} (G_qnext : FnOk P w K mg base CX0 1 gqnext gdqnext ["_law_state_here", "_law_size"] (spD K 2 s_qnext)) (b_qnext : Binds K gdqnext ["_law_state_here", "_law_size"] []) (k_qnext : PySem.W.keepIn K (.ref gqnext) = true) (m_qnext : mg "_law_next" = some (.ref gqnext)) : FnOk P w K mg base CX0 (1 + 1) f fd ["_law_state_here", "_law_spans_here", "_law_laid_here", "_law_fates", "_law_at", "_law_key"] (spD K 6 s_qchoice) :=
  fnD F scqchoice rfl r_qchoice (fun cdv A outer s H E hr =>
    (dss_cons (ds_lcXR (own := [("_law_k", 7)]) (i := 6) rfl scqchoice.nd rfl rfl (sw_true rfl rfl rfl (by decide +kernel)) rfl z_range (da_cons (dv_lenA rfl z_len (by decide +kernel) (da_cons (dv 2) da_nil)) da_nil) (by exact ⟨blkOk_by (N := (["_law_state_here", "_law_spans_here", "_law_laid_here", "_law_fates", "_law_at", "_law_key", "_law_some", "_law_k", "_law_ahead"] : List Str)) (sc := defScope stqchoice) (own := [("_law_k", 7)]) (by decide +kernel), by decide, fun _ _ _ _ _ => pg_k scqchoice.nd rfl (.inl rfl), fun _ _ _ _ _ => (dts_one (PW.pt (dw_and (dt_cmp (op_neA hr.units) od_neA (dv 7) (dv 4) (nomark _)) (dw_and (dt_val (dv_ixA (dv 3) (dv 7) (fun _ _ => rfl))) (dw_and1 (dt_notN (dv_callM G_qlast ownSp_len (hr.mono (by decide)) rfl m_qlast k_qlast b_qlast (da_cons (dv_ixA (dv 2) (dv 7) (fun _ _ => rfl)) (da_consF (dv 5) da_nil))))))))), fun _ _ _ _ _ => (dv 7)⟩))
    (dss_cons (ds_set (i := 8) scqchoice.nd rfl (.inl rfl) (dv_callB (cr_sortD hr.units) cd_sortD rfl z_sorted (by decide +kernel) (da_cons (dv_lcXA (own := [("_law_k", 7)]) rfl scqchoice.nd (dv 6) (by exact ⟨blkOk_by (N := (["_law_state_here", "_law_spans_here", "_law_laid_here", "_law_fates", "_law_at", "_law_key", "_law_some", "_law_k", "_law_ahead"] : List Str)) (sc := defScope stqchoice) (own := [("_law_k", 7)]) (by decide +kernel), by decide, fun _ _ _ _ _ => pg_k scqchoice.nd rfl (.inl rfl), fun _ _ _ _ _ => (dts_one (dt_cmp op_lt (od_B0 _) (dv_ixA (dv_ixA (dv 1) (dv 7) (fun _ _ => rfl)) dv_int (fun _ _ => rfl)) (dv_ixA (dv_ixA (dv 1) (dv 4) (fun _ _ => rfl)) dv_int (fun _ _ => rfl)) (nomark _))), fun _ _ _ _ _ => (dv_tup (df_cons (dv_ixA (dv_ixA (dv 1) (dv 7) (fun _ _ => rfl)) dv_int (fun _ _ => rfl)) (df_cons (dv 7) df_nil)))⟩)) da_nil)))
    (dss_cons (ds_if (dt_cmp (op_eqA hr.units) od_eqA (dv_callM G_qnext ownSp_len (hr.mono (by decide)) rfl m_qnext k_qnext b_qnext (da_cons (dv 0) (da_consF dv_int da_nil))) dv_int (nomark _)) (dss_cons (ds_if (dt_cmp (op_eqA hr.units) od_eqA (dv 8) (dv_lst df_nil) (nomark _)) (dss_one (ds_ret dv_int)) dss_nil)
    (dss_one (ds_ret (dv_callM G_qlast ownSp_len (hr.mono (by decide)) rfl m_qlast k_qlast b_qlast (da_cons (dv_ixA (dv 2) (dv_ixA (dv_ixA (dv 8) (dv_neg dv_int) (fun _ _ => rfl)) dv_int (fun _ _ => rfl)) (fun _ _ => rfl)) (da_consF (dv 5) da_nil)))))) dss_nil)
    (dss_one (ds_ret (dv_ixA (dv_op op_addA od_addA (dv_lst (df_cons dv_int df_nil)) (dv_lcXA (own := [("_law_k", 7)]) rfl scqchoice.nd (dv 6) (by exact ⟨blkOk_by (N := (["_law_state_here", "_law_spans_here", "_law_laid_here", "_law_fates", "_law_at", "_law_key", "_law_some", "_law_k", "_law_ahead"] : List Str)) (sc := defScope stqchoice) (own := [("_law_k", 7)]) (by decide +kernel), by decide, fun _ _ _ _ _ => pg_k scqchoice.nd rfl (.inl rfl), fun _ _ _ _ _ => dts_nil, fun _ _ _ _ _ => (dv_callM G_qlast ownSp_len (hr.mono (by decide)) rfl m_qlast k_qlast b_qlast (da_cons (dv_ixA (dv 2) (dv 7) (fun _ _ => rfl)) (da_consF (dv 5) da_nil)))⟩))) (dv_callM G_qnext ownSp_len (hr.mono (by decide)) rfl m_qnext k_qnext b_qnext (da_cons (dv 0) (da_consF (dv_op op_addA od_addA dv_int (dv_lenA rfl z_len (by decide +kernel) (da_cons (dv 6) da_nil))) da_nil))) (fun _ _ => rfl)))))))) (fun _ _ _ h => h.2)
/-! #### _law_filled -/
abbrev stqfilled : Stmt := topS 40
theorem scqfilled : FnScope ["_law_state_here", "_law_spans_here", "_law_laid_here", "_law_fates", "_law_at", "_law_own", "_law_act"] ["_law_state_here", "_law_spans_here", "_law_laid_here", "_law_fates"] (defScope stqfilled) := ⟨rfl, rfl, rfl, by decide +kernel, rfl, by decide +kernel, by decide +kernel⟩
def b_qfilled_2 : TDS := (sIf (dTest (dOp (kEqA id) (dIxA (dVar 6) (dC (.int 0))) (dC (.str (Str.ofString "write"))))) (sDPut 5 (dIxA (dVar 6) (dC (.int 1))) (dIxA (dVar 6) (dC (.int 2)))) (sIf (dTest (dDIn false (dIxA (dVar 6) (dC (.int 1))) 5)) (sStX (dDGx 5 (dIxA (dVar 6) (dC (.int 1)))) (dVar 6) (dC (.int 2))) (sStX (dCallM s_qchoice (daCons (dVar 0) (daCons (dVar 1) (daCons (dVar 2) (dmF (dVar 3) (dmF (dVar 4) (daCons (dIxA (dVar 6) (dC (.int 1))) daNil))))))) (dVar 6) (dC (.int 2)))))
theorem b_qfilled_2_eq {D : DEnds} {ε : Ep} : ev (b_qfilled_2 D ε) = ev ((sIf (dTest (dOp (kEqA id) (dIxA (dVar 6) (dC (.int 0))) (dC (.str (Str.ofString "write"))))) (sDPut 5 (dIxA (dVar 6) (dC (.int 1))) (dIxA (dVar 6) (dC (.int 2)))) (sIf (dTest (dDIn false (dIxA (dVar 6) (dC (.int 1))) 5)) (sStX (dDGx 5 (dIxA (dVar 6) (dC (.int 1)))) (dVar 6) (dC (.int 2))) (sStX (dCallM s_qchoice (daCons (dVar 0) (daCons (dVar 1) (daCons (dVar 2) (dmF (dVar 3) (dmF (dVar 4) (daCons (dIxA (dVar 6) (dC (.int 1))) daNil))))))) (dVar 6) (dC (.int 2))))) D ε) := rfl
def b_qfilled_1 : TDS := (sSeq (sSet 5 dDct) (sForX 6 (dIxA (dVar 2) (dVar 4)) b_qfilled_2))
theorem b_qfilled_1_eq {D : DEnds} {ε : Ep} : ev (b_qfilled_1 D ε) = ev ((sSeq (sSet 5 dDct) (sForX 6 (dIxA (dVar 2) (dVar 4)) b_qfilled_2)) D ε) := rfl
def r_qfilled : TDS := (sForR (daCons (dLenA (daCons (dVar 2) daNil)) daNil) (gNm 4) b_qfilled_1)
def s_qfilled : DSp := ownSp 4 3 r_qfilled
theorem ok_qfilled {f : Addr} {fd : FuncData} (F : Fun K "_law_filled" "_law_filled" stqfilled f fd) (z_len : mg "len" = none) (z_range : mg "range" = none) {gqchoice : Addr} {gdqchoice : FuncData} (G_qchoice : FnOk P w K mg base CX0 2 gqchoice gdqchoice ["_law_state_here", "_law_spans_here", "_law_laid_here", "_law_fates", "_law_at", "_law_key"] (spD K 6 s_qchoice)) (b_qchoice : Binds K gdqchoice ["_law_state_here", "_law_spans_here", "_law_laid_here", "_law_fates", "_law_at", "_law_key"] []) (k_qchoice : PySem.W.keepIn K (.ref gqchoice) = true) (m_qchoice : mg "_law_choice" = some (.ref gqchoice)) : FnOk P w K mg base CX0 (2 + 1) f fd ["_law_state_here", "_law_spans_here", "_law_laid_here", "_law_fates"] (spD K 4 s_qfilled) :=
  fnD F scqfilled rfl r_qfilled (fun cdv A outer s H E hr =>
    (dss_one (ds_forR PassesOwn.never rfl rfl z_range (da_cons (dv_lenA rfl z_len (by decide +kernel) (da_cons (dv 2) da_nil)) da_nil) (dg_nm scqfilled.nd rfl (.inl rfl)) (dss_cons (ds_set (i := 5) scqfilled.nd rfl (.inl rfl) dv_dnew)
    (dss_one (ds_forX (n := 6) PassesOwn.never rfl scqfilled.nd rfl (.inl rfl) (dv_ixA (dv 2) (dv 4) (fun _ _ => rfl)) (dss_one (ds_if (dt_cmp (op_eqA hr.units) od_eqA (dv_ixA (dv 6) dv_int (fun _ _ => rfl)) dv_str (nomark _)) (dss_one (ds_dput 5 (hu_of hr) (dv_ixA (dv 6) dv_int (fun _ _ => rfl)) (dv_ixA (dv 6) dv_int (fun _ _ => rfl)))) (dss_one (ds_if (dt_din 5 (hu_of hr) (dv_ixA (dv 6) dv_int (fun _ _ => rfl))) (dss_one (ds_stX (dv_dgx 5 (hu_of hr) (dv_ixA (dv 6) dv_int (fun _ _ => rfl)) (fun _ _ => rfl)) (dv 6) dv_int)) (dss_one (ds_stX (dv_callM G_qchoice ownSp_len (hr.mono (by decide)) rfl m_qchoice k_qchoice b_qchoice (da_cons (dv 0) (da_cons (dv 1) (da_cons (dv 2) (da_consF (dv 3) (da_consF (dv 4) (da_cons (dv_ixA (dv 6) dv_int (fun _ _ => rfl)) da_nil))))))) (dv 6) dv_int)))))))))))) (fun _ _ _ h => h.2)
/-! #### _law_laid -/
abbrev stqlaid : Stmt := topS 36
theorem scqlaid : FnScope ["_law_state_here", "_law_keys_here", "_law_most", "_law_laid_here", "_law_k"] ["_law_state_here", "_law_keys_here", "_law_most"] (defScope stqlaid) := ⟨rfl, rfl, rfl, by decide +kernel, rfl, by decide +kernel, by decide +kernel⟩
def b_qlaid_1 : TDS := (sExpr (dAppN (dVar 3) (daCons (dLst (dfCons (dIxA (dLst (dfCons (dC (.str (Str.ofString "read"))) (dfCons (dC (.str (Str.ofString "write"))) dfNil))) (dCallM s_qnext (daCons (dVar 0) (dmF (dC (.int 2)) daNil)))) (dfCons (dIxA (dVar 1) (dCallM s_qnext (daCons (dVar 0) (dmF (dLenA (daCons (dVar 1) daNil)) daNil)))) (dfCons (dC (.int 0)) dfNil)))) daNil)))
theorem b_qlaid_1_eq {D : DEnds} {ε : Ep} : ev (b_qlaid_1 D ε) = ev ((sExpr (dAppN (dVar 3) (daCons (dLst (dfCons (dIxA (dLst (dfCons (dC (.str (Str.ofString "read"))) (dfCons (dC (.str (Str.ofString "write"))) dfNil))) (dCallM s_qnext (daCons (dVar 0) (dmF (dC (.int 2)) daNil)))) (dfCons (dIxA (dVar 1) (dCallM s_qnext (daCons (dVar 0) (dmF (dLenA (daCons (dVar 1) daNil)) daNil)))) (dfCons (dC (.int 0)) dfNil)))) daNil))) D ε) := rfl
def r_qlaid : TDS := (sSeq (sSetN 3 (dLst dfNil)) (sSeq (sForR (daCons (dCallM s_qnext (daCons (dVar 0) (dmF (dOp kAdd (dVar 2) (dC (.int 1))) daNil))) daNil) (gNm 4) b_qlaid_1) (sRet (dVar 3))))
def s_qlaid : DSp := ownSp 3 2 r_qlaid
theorem ok_qlaid {f : Addr} {fd : FuncData} (F : Fun K "_law_laid" "_law_laid" stqlaid f fd) (z_len : mg "len" = none) (z_range : mg "range" = none) {gqnext : Addr} {gdqnext : FuncData} (G_qnext : FnOk P w K mg base CX0 1 gqnext gdqnext ["_law_state_here", "_law_size"] (spD K 2 s_qnext)) (b_qnext : Binds K gdqnext ["_law_state_here", "_law_size"] []) (k_qnext : PySem.W.keepIn K (.ref gqnext) = true) (m_qnext : mg "_law_next" = some (.ref gqnext)) : FnOk P w K mg base CX0 (1 + 1) f fd ["_law_state_here", "_law_keys_here", "_law_most"] (spD K 3 s_qlaid) :=
  fnD F scqlaid rfl r_qlaid (fun cdv A outer s H E hr =>
    (dss_cons (ds_setN (i := 3) scqlaid.nd rfl (.inl rfl) (dv_lst df_nil))
    (dss_cons (ds_forR PassesOwn.never rfl rfl z_range (da_cons (dv_callM G_qnext ownSp_len (hr.mono (by decide)) rfl m_qnext k_qnext b_qnext (da_cons (dv 0) (da_consF (dv_op op_addA od_addA (dv 2) dv_int) da_nil))) da_nil) (dg_nm scqlaid.nd rfl (.inl rfl)) (dss_one (ds_expr (dv_appN (dv 3) (da_cons (dv_lst (df_cons (dv_ixA (dv_lst (df_cons dv_str (df_cons dv_str df_nil))) (dv_callM G_qnext ownSp_len (hr.mono (by decide)) rfl m_qnext k_qnext b_qnext (da_cons (dv 0) (da_consF dv_int da_nil))) (fun _ _ => rfl)) (df_cons (dv_ixA (dv 1) (dv_callM G_qnext ownSp_len (hr.mono (by decide)) rfl m_qnext k_qnext b_qnext (da_cons (dv 0) (da_consF (dv_lenA rfl z_len (by decide +kernel) (da_cons (dv 1) da_nil)) da_nil))) (fun _ _ => rfl)) (df_cons dv_int df_nil)))) da_nil)))))
    (dss_one (ds_ret (dv 3)))))) (fun _ _ _ h => h.2)
/-! #### _law_tale -/
abbrev stqtale : Stmt := topS 41
theorem scqtale : FnScope ["_law_script", "_law_first", "_law_least", "_law_most", "_law_acts", "_law_keys_here", "_law_state_here", "_law_size", "_law_names", "_law_spans_here", "_law_draws", "_law_k", "_law_laid_here", "_law_one", "_law_fates", "_law_tale_here", "_law_deeds", "_law_act"] ["_law_script", "_law_first", "_law_least", "_law_most", "_law_acts", "_law_keys_here"] (defScope stqtale) := ⟨rfl, rfl, rfl, by decide +kernel, rfl, by decide +kernel, by decide +kernel⟩
def b_qtale_1 : TDS := (sSeq (sSet 16 (dCB kTuple (daCons (dLcXA (dIxA (dVar 12) (dVar 11)) 17 dYes (dCB kTuple (daCons (dVar 17) daNil)) [17]) daNil))) (sExpr (dMut 15 kAppend (dfCons (dTup (dfCons (dIxA (dIxA (dVar 9) (dVar 11)) (dC (.int 0))) (dfCons (dIxA (dIxA (dVar 9) (dVar 11)) (dC (.int 1))) (dfCons (dIxA (dIxA (dVar 9) (dVar 11)) (dC (.int 2))) (dfCons (dVar 16) (dfCons (dIxA (dLst (dfCons (dC (.str (Str.ofString "dropped"))) (dfCons (dC (.str (Str.ofString "kept"))) dfNil))) (dCB kInt (daCons (dIxA (dVar 14) (dVar 11)) daNil))) dfNil)))))) dfNil))))
theorem b_qtale_1_eq {D : DEnds} {ε : Ep} : ev (b_qtale_1 D ε) = ev ((sSeq (sSet 16 (dCB kTuple (daCons (dLcXA (dIxA (dVar 12) (dVar 11)) 17 dYes (dCB kTuple (daCons (dVar 17) daNil)) [17]) daNil))) (sExpr (dMut 15 kAppend (dfCons (dTup (dfCons (dIxA (dIxA (dVar 9) (dVar 11)) (dC (.int 0))) (dfCons (dIxA (dIxA (dVar 9) (dVar 11)) (dC (.int 1))) (dfCons (dIxA (dIxA (dVar 9) (dVar 11)) (dC (.int 2))) (dfCons (dVar 16) (dfCons (dIxA (dLst (dfCons (dC (.str (Str.ofString "dropped"))) (dfCons (dC (.str (Str.ofString "kept"))) dfNil))) (dCB kInt (daCons (dIxA (dVar 14) (dVar 11)) daNil))) dfNil)))))) dfNil)))) D ε) := rfl
def r_qtale : TDS := (sSeq (sSet 6 (dCall s_qstate (dfCons (dVar 0) (dfCons (dVar 1) dfNil)))) (sSeq (sSet 7 (dOp kAdd (dVar 2) (dCallM s_qnext (daCons (dVar 6) (dmF (dOp kAdd (dOp (kI0 fun i j => .int (i - j)) (dVar 3) (dVar 2)) (dC (.int 1))) daNil))))) (sSeq (sSet 8 (dCallM s_qkeys (daCons (dVar 6) (dmF (dOp kAdd (dC (.int 1)) (dCallM s_qnext (daCons (dVar 6) (dmF (dVar 5) daNil)))) daNil)))) (sSeq (sSet 9 (dCallW s_qspans (daCons (dCall s_qstate (dfCons (dVar 0) (dfCons (dOp kAdd (dVar 1) (dC (.int 1))) dfNil))) (dmF (dVar 7) daNil)))) (sSeq (sSet 10 (dLcXR (daCons (dVar 7) daNil) 11 dYes (dCall s_qstate (dfCons (dVar 0) (dfCons (dOp kAdd (dOp kAdd (dVar 1) (dC (.int 2))) (dVar 11)) dfNil))) [11])) (sSeq (sSet 12 (dLcXA (dVar 10) 13 dYes (dCallM s_qlaid (daCons (dVar 13) (dmF (dVar 8) (dmF (dVar 4) daNil)))) [13])) (sSeq (sSet 14 (dLcXA (dVar 10) 13 dYes (dOp (kI0 fun i j => .bool (decide (j < i))) (dCallM s_qnext (daCons (dVar 13) (dmF (dC (.int 6)) daNil))) (dC (.int 0))) [13])) (sSeq (sExpr (dCallM s_qnumbered (daCons (dVar 6) (daCons (dVar 12) daNil)))) (sSeq (sExpr (dCallM s_qfilled (daCons (dVar 6) (daCons (dVar 9) (daCons (dVar 12) (dmF (dVar 14) daNil)))))) (sSeq (sSet 15 (dLst dfNil)) (sSeq (sForR (daCons (dVar 7) daNil) (gNm 11) b_qtale_1) (sRet (dCB kTuple (daCons (dVar 15) daNil))))))))))))))
def s_qtale : DSp := ownSp 6 12 r_qtale
theorem ok_qtale {f : Addr} {fd : FuncData} (F : Fun K "_law_tale" "_law_tale" stqtale f fd) (z_int : mg "int" = none) (z_range : mg "range" = none) (z_tuple : mg "tuple" = none) {gqstate : Addr} {gdqstate : FuncData} (G_qstate : FnOk P w K mg base CX0 1 gqstate gdqstate ["_law_script", "_law_k"] (spD K 2 s_qstate)) (b_qstate : Binds K gdqstate ["_law_script", "_law_k"] []) (k_qstate : PySem.W.keepIn K (.ref gqstate) = true) (m_qstate : mg "_law_state" = some (.ref gqstate)) {gqnext : Addr} {gdqnext : FuncData} (G_qnext : FnOk P w K mg base CX0 1 gqnext gdqnext ["_law_state_here", "_law_size"] (spD K 2 s_qnext)) (b_qnext : Binds K gdqnext ["_law_state_here", "_law_size"] []) (k_qnext : PySem.W.keepIn K (.ref gqnext) = true) (m_qnext : mg "_law_next" = some (.ref gqnext)) {gqkeys : Addr} {gdqkeys : FuncData} (G_qkeys : FnOk P w K mg base CX0 2 gqkeys gdqkeys ["_law_state_here", "_law_size"] (spD K 2 s_qkeys)) (b_qkeys : Binds K gdqkeys ["_law_state_here", "_law_size"] []) (k_qkeys : PySem.W.keepIn K (.ref gqkeys) = true) (m_qkeys : mg "_law_keys" = some (.ref gqkeys)) {gqspans : Addr} {gdqspans : FuncData} (G_qspans : FnOk P w K mg base CX0 2 gqspans gdqspans ["_law_state_here", "_law_size"] (spD K 2 s_qspans)) (b_qspans : Binds K gdqspans ["_law_state_here", "_law_size"] []) (k_qspans : PySem.W.keepIn K (.ref gqspans) = true) (m_qspans : mg "_law_spans" = some (.ref gqspans)) {gqlaid : Addr} {gdqlaid : FuncData} (G_qlaid : FnOk P w K mg base CX0 2 gqlaid gdqlaid ["_law_state_here", "_law_keys_here", "_law_most"] (spD K 3 s_qlaid)) (b_qlaid : Binds K gdqlaid ["_law_state_here", "_law_keys_here", "_law_most"] []) (k_qlaid : PySem.W.keepIn K (.ref gqlaid) = true) (m_qlaid : mg "_law_laid" = some (.ref gqlaid)) {gqnumbered : Addr} {gdqnumbered : FuncData} (G_qnumbered : FnOk P w K mg base CX0 2 gqnumbered gdqnumbered ["_law_state_here", "_law_laid_here"] (spD K 2 s_qnumbered)) (b_qnumbered : Binds K gdqnumbered ["_law_state_here", "_law_laid_here"] []) (k_qnumbered : PySem.W.keepIn K (.ref gqnumbered) = true) (m_qnumbered : mg "_law_numbered" = some (.ref gqnumbered)) {gqfilled : Addr} {gdqfilled : FuncData} (G_qfilled : FnOk P w K mg base CX0 3 gqfilled gdqfilled ["_law_state_here", "_law_spans_here", "_law_laid_here", "_law_fates"] (spD K 4 s_qfilled)) (b_qfilled : Binds K gdqfilled ["_law_state_here", "_law_spans_here", "_law_laid_here", "_law_fates"] []) (k_qfilled : PySem.W.keepIn K (.ref gqfilled) = true) (m_qfilled : mg "_law_filled" = some (.ref gqfilled)) : FnOk P w K mg base CX0 (3 + 1) f fd ["_law_script", "_law_first", "_law_least", "_law_most", "_law_acts", "_law_keys_here"] (spD K 6 s_qtale) :=
  fnD F scqtale rfl r_qtale (fun cdv A outer s H E hr =>
    (dss_cons (ds_set (i := 6) scqtale.nd rfl (.inl rfl) (dv_call G_qstate (ownSp_len) (hr.mono (by decide)) rfl m_qstate k_qstate b_qstate (df_cons (dv 0) (df_cons (dv 1) df_nil))))
    (dss_cons (ds_set (i := 7) scqtale.nd rfl (.inl rfl) (dv_op op_addA od_addA (dv 2) (dv_callM G_qnext ownSp_len (hr.mono (by decide)) rfl m_qnext k_qnext b_qnext (da_cons (dv 6) (da_consF (dv_op op_addA od_addA (dv_op op_sub (od_I0 _) (dv 3) (dv 2)) dv_int) da_nil)))))
    (dss_cons (ds_set (i := 8) scqtale.nd rfl (.inr rfl) (dv_callM G_qkeys ownSp_len (hr.mono (by decide)) rfl m_qkeys k_qkeys b_qkeys (da_cons (dv 6) (da_consF (dv_op op_addA od_addA dv_int (dv_callM G_qnext ownSp_len (hr.mono (by decide)) rfl m_qnext k_qnext b_qnext (da_cons (dv 6) (da_consF (dv 5) da_nil)))) da_nil))))
    (dss_cons (ds_set (i := 9) scqtale.nd rfl (.inl rfl) (dv_callW G_qspans ownSp_len (hr.mono (by decide)) rfl m_qspans k_qspans b_qspans (da_cons (dv_call G_qstate (ownSp_len) (hr.mono (by decide)) rfl m_qstate k_qstate b_qstate (df_cons (dv 0) (df_cons (dv_op op_addA od_addA (dv 1) dv_int) df_nil))) (da_consF (dv 7) da_nil))))
    (dss_cons (ds_lcXR (own := [("_law_k", 11)]) (i := 10) rfl scqtale.nd rfl rfl (sw_true rfl rfl rfl (by decide +kernel)) rfl z_range (da_cons (dv 7) da_nil) (by exact ⟨blkOk_by (N := (["_law_script", "_law_first", "_law_least", "_law_most", "_law_acts", "_law_keys_here", "_law_state_here", "_law_size", "_law_names", "_law_spans_here", "_law_draws", "_law_k", "_law_laid_here", "_law_one", "_law_fates", "_law_tale_here", "_law_deeds", "_law_act"] : List Str)) (sc := defScope stqtale) (own := [("_law_k", 11)]) (by decide +kernel), by decide, fun _ _ _ _ _ => pg_k scqtale.nd rfl (.inl rfl), fun _ _ _ _ _ => dts_nil, fun _ _ _ _ _ => (dv_call G_qstate (ownSp_len) (hr.mono (by decide)) rfl m_qstate k_qstate b_qstate (df_cons (dv 0) (df_cons (dv_op op_addA od_addA (dv_op op_addA od_addA (dv 1) dv_int) (dv 11)) df_nil)))⟩))
    (dss_cons (ds_lcXA (own := [("_law_one", 13)]) (i := 12) rfl scqtale.nd rfl rfl (sw_true rfl rfl rfl (by decide +kernel)) (dv 10) (by exact ⟨blkOk_by (N := (["_law_script", "_law_first", "_law_least", "_law_most", "_law_acts", "_law_keys_here", "_law_state_here", "_law_size", "_law_names", "_law_spans_here", "_law_draws", "_law_k", "_law_laid_here", "_law_one", "_law_fates", "_law_tale_here", "_law_deeds", "_law_act"] : List Str)) (sc := defScope stqtale) (own := [("_law_one", 13)]) (by decide +kernel), by decide, fun _ _ _ _ _ => pg_k scqtale.nd rfl (.inl rfl), fun _ _ _ _ _ => dts_nil, fun _ _ _ _ _ => (dv_callM G_qlaid ownSp_len (hr.mono (by decide)) rfl m_qlaid k_qlaid b_qlaid (da_cons (dv 13) (da_consF (dv 8) (da_consF (dv 4) da_nil))))⟩))
    (dss_cons (ds_lcXA (own := [("_law_one", 13)]) (i := 14) rfl scqtale.nd rfl rfl (sw_true rfl rfl rfl (by decide +kernel)) (dv 10) (by exact ⟨blkOk_by (N := (["_law_script", "_law_first", "_law_least", "_law_most", "_law_acts", "_law_keys_here", "_law_state_here", "_law_size", "_law_names", "_law_spans_here", "_law_draws", "_law_k", "_law_laid_here", "_law_one", "_law_fates", "_law_tale_here", "_law_deeds", "_law_act"] : List Str)) (sc := defScope stqtale) (own := [("_law_one", 13)]) (by decide +kernel), by decide, fun _ _ _ _ _ => pg_k scqtale.nd rfl (.inl rfl), fun _ _ _ _ _ => dts_nil, fun _ _ _ _ _ => (dv_cmp op_gt (od_B0 _) (dv_callM G_qnext ownSp_len (hr.mono (by decide)) rfl m_qnext k_qnext b_qnext (da_cons (dv 13) (da_consF dv_int da_nil))) dv_int (nomark _))⟩))
    (dss_cons (ds_expr (dv_callM G_qnumbered ownSp_len (hr.mono (by decide)) rfl m_qnumbered k_qnumbered b_qnumbered (da_cons (dv 6) (da_cons (dv 12) da_nil))))
    (dss_cons (ds_expr (dv_callM G_qfilled ownSp_len (hr.mono (by decide)) rfl m_qfilled k_qfilled b_qfilled (da_cons (dv 6) (da_cons (dv 9) (da_cons (dv 12) (da_consF (dv 14) da_nil))))))
    (dss_cons (ds_set (i := 15) scqtale.nd rfl (.inl rfl) (dv_lst df_nil))
    (dss_cons (ds_forR PassesOwn.never rfl rfl z_range (da_cons (dv 7) da_nil) (dg_nm scqtale.nd rfl (.inl rfl)) (dss_cons (ds_set (i := 16) scqtale.nd rfl (.inl rfl) (dv_callTy call_tuple_of cd_tuple rfl z_tuple (by decide +kernel) (da_cons (dv_lcXA (own := [("_law_act", 17)]) rfl scqtale.nd (dv_ixA (dv 12) (dv 11) (fun _ _ => rfl)) (by exact ⟨blkOk_by (N := (["_law_script", "_law_first", "_law_least", "_law_most", "_law_acts", "_law_keys_here", "_law_state_here", "_law_size", "_law_names", "_law_spans_here", "_law_draws", "_law_k", "_law_laid_here", "_law_one", "_law_fates", "_law_tale_here", "_law_deeds", "_law_act"] : List Str)) (sc := defScope stqtale) (own := [("_law_act", 17)]) (by decide +kernel), by decide, fun _ _ _ _ _ => pg_k scqtale.nd rfl (.inl rfl), fun _ _ _ _ _ => dts_nil, fun _ _ _ _ _ => (dv_callTy call_tuple_of cd_tuple rfl z_tuple (by decide +kernel) (da_cons (dv 17) da_nil))⟩)) da_nil)))
    (dss_one (ds_expr (dv_mut 15 PySem.F.slot_list_append PySem.F.type_list_append mt_append md_append (df_cons (dv_tup (df_cons (dv_ixA (dv_ixA (dv 9) (dv 11) (fun _ _ => rfl)) dv_int (fun _ _ => rfl)) (df_cons (dv_ixA (dv_ixA (dv 9) (dv 11) (fun _ _ => rfl)) dv_int (fun _ _ => rfl)) (df_cons (dv_ixA (dv_ixA (dv 9) (dv 11) (fun _ _ => rfl)) dv_int (fun _ _ => rfl)) (df_cons (dv 16) (df_cons (dv_ixA (dv_lst (df_cons dv_str (df_cons dv_str df_nil))) (dv_callTy call_int1 cd_int rfl z_int (by decide +kernel) (da_cons (dv_ixA (dv 14) (dv 11) (fun _ _ => rfl)) da_nil)) (fun _ _ => rfl)) df_nil)))))) df_nil))))))
    (dss_one (ds_ret (dv_callTy call_tuple_of cd_tuple rfl z_tuple (by decide +kernel) (da_cons (dv 15) da_nil)))))))))))))))) (fun _ _ _ h => h.2)
/-! #### _law_odd_deed -/
abbrev stqodd_deed : Stmt := topS 43
theorem scqodd_deed : FnScope ["_law_state_here", "_law_key", "_law_some"] ["_law_state_here", "_law_key"] (defScope stqodd_deed) := ⟨rfl, rfl, rfl, by decide +kernel, rfl, by decide +kernel, by decide +kernel⟩
def r_qodd_deed : TDS := (sSeq (sSet 2 (dLst (dfCons (dTup (dfCons (dC (.str (Str.ofString "read"))) (dfCons (dVar 1) (dfCons (dUn kNeg (dC (.int 1))) dfNil)))) (dfCons (dTup (dfCons (dC (.str (Str.ofString "write"))) (dfCons (dVar 1) (dfCons (dC (.int 0)) dfNil)))) (dfCons (dTup (dfCons (dC (.str (Str.ofString "write"))) (dfCons (dVar 1) (dfCons (dC (.int 1000000)) dfNil)))) (dfCons (dTup (dfCons (dC (.str (Str.ofString "read"))) (dfCons (dC (.str (Str.ofString ""))) (dfCons (dC (.int 0)) dfNil)))) (dfCons (dTup (dfCons (dC (.str (Str.ofString "read"))) (dfCons (dC (.str (Str.ofString "abcde"))) (dfCons (dC (.int 0)) dfNil)))) dfNil))))))) (sSeq (sSet 2 (dOp kAdd (dVar 2) (dLst (dfCons (dTup (dfCons (dC (.str (Str.ofString "read"))) (dfCons (dC (.str (Str.ofString "A"))) (dfCons (dC (.int 0)) dfNil)))) (dfCons (dTup (dfCons (dC (.str (Str.ofString "write"))) (dfCons (dC (.int 5)) (dfCons (dC (.int 3)) dfNil)))) (dfCons (dTup (dfCons (dC (.str (Str.ofString "look"))) (dfCons (dVar 1) (dfCons (dC (.int 1)) dfNil)))) (dfCons (dLst (dfCons (dC (.str (Str.ofString "read"))) (dfCons (dVar 1) (dfCons (dC (.int 0)) dfNil)))) (dfCons (dTup (dfCons (dC (.str (Str.ofString "read"))) (dfCons (dVar 1) dfNil))) dfNil)))))))) (sSeq (sSet 2 (dOp kAdd (dVar 2) (dLst (dfCons (dTup (dfCons (dC (.str (Str.ofString "read"))) (dfCons (dVar 1) (dfCons (dC (.bool true)) dfNil)))) (dfCons (dTup (dfCons (dC (.str (Str.ofString "read"))) (dfCons (dVar 1) (dfCons (dC .none) dfNil)))) (dfCons (dTup (dfCons (dC (.str (Str.ofString "read"))) (dfCons (dVar 1) (dfCons (dC (.int 1)) (dfCons (dC (.int 2)) dfNil))))) (dfCons (dC .none) (dfCons (dC (.int 7)) (dfCons (dTup dfNil) (dfCons (dC (.str (Str.ofString "read"))) (dfCons (dTup (dfCons (dC .none) (dfCons (dVar 1) (dfCons (dC (.int 1)) dfNil)))) dfNil))))))))))) (sSeq (sSet 2 (dOp kAdd (dVar 2) (dLst (dfCons (dTup (dfCons (dC (.str (Str.ofString "read"))) (dfCons (dLst (dfCons (dVar 1) dfNil)) (dfCons (dC (.int 0)) dfNil)))) (dfCons (dTup (dfCons (dC (.str (Str.ofString "read"))) (dfCons (dVar 1) (dfCons (dC (.str (Str.ofString "0"))) dfNil)))) (dfCons (dTup (dfCons (dC (.str (Str.ofString "read"))) (dfCons (dOp kAdd (dVar 1) (dC (.str (Str.ofString "1")))) (dfCons (dC (.int 0)) dfNil)))) (dfCons (dTup (dfCons (dC (.str (Str.ofString "read"))) (dfCons (dC (.str (Str.ofString "a b"))) (dfCons (dC (.int 0)) dfNil)))) dfNil))))))) (sSeq (sSet 2 (dOp kAdd (dVar 2) (dLst (dfCons (dTup (dfCons (dC (.str (Str.ofString "read"))) (dfCons (dVar 1) (dfCons (dC (.int 1000000)) dfNil)))) (dfCons (dTup (dfCons (dLst (dfCons (dC (.str (Str.ofString "read"))) dfNil)) (dfCons (dVar 1) (dfCons (dC (.int 1)) dfNil)))) (dfCons (dTup (dfCons dDct (dfCons (dVar 1) (dfCons (dC (.int 1)) dfNil)))) (dfCons (dTup (dfCons (dLst dfNil) (dfCons (dVar 1) (dfCons (dC (.int 1)) dfNil)))) dfNil))))))) (sRet (dIxA (dVar 2) (dCallM s_qnext (daCons (dVar 0) (dmF (dC (.int 26)) daNil))))))))))
def s_qodd_deed : DSp := ownSp 2 1 r_qodd_deed
theorem ok_qodd_deed {f : Addr} {fd : FuncData} (F : Fun K "_law_odd_deed" "_law_odd_deed" stqodd_deed f fd) {gqnext : Addr} {gdqnext : FuncData} (G_qnext : FnOk P w K mg base CX0 1 gqnext gdqnext ["_law_state_here", "_law_size"] (spD K 2 s_qnext)) (b_qnext : Binds K gdqnext ["_law_state_here", "_law_size"] []) (k_qnext : PySem.W.keepIn K (.ref gqnext) = true) (m_qnext : mg "_law_next" = some (.ref gqnext)) : FnOk P w K mg base CX0 (1 + 1) f fd ["_law_state_here", "_law_key"] (spD K 2 s_qodd_deed) :=
  fnD F scqodd_deed rfl r_qodd_deed (fun cdv A outer s H E hr =>
    (dss_cons (ds_set (i := 2) scqodd_deed.nd rfl (.inl rfl) (dv_lst (df_cons (dv_tup (df_cons dv_str (df_cons (dv 1) (df_cons (dv_neg dv_int) df_nil)))) (df_cons (dv_tup (df_cons dv_str (df_cons (dv 1) (df_cons dv_int df_nil)))) (df_cons (dv_tup (df_cons dv_str (df_cons (dv 1) (df_cons dv_int df_nil)))) (df_cons (dv_tup (df_cons dv_str (df_cons dv_str (df_cons dv_int df_nil)))) (df_cons (dv_tup (df_cons dv_str (df_cons dv_str (df_cons dv_int df_nil)))) df_nil)))))))
    (dss_cons (ds_set (i := 2) scqodd_deed.nd rfl (.inl rfl) (dv_op op_addA od_addA (dv 2) (dv_lst (df_cons (dv_tup (df_cons dv_str (df_cons dv_str (df_cons dv_int df_nil)))) (df_cons (dv_tup (df_cons dv_str (df_cons dv_int (df_cons dv_int df_nil)))) (df_cons (dv_tup (df_cons dv_str (df_cons (dv 1) (df_cons dv_int df_nil)))) (df_cons (dv_lst (df_cons dv_str (df_cons (dv 1) (df_cons dv_int df_nil)))) (df_cons (dv_tup (df_cons dv_str (df_cons (dv 1) df_nil))) df_nil))))))))
    (dss_cons (ds_set (i := 2) scqodd_deed.nd rfl (.inl rfl) (dv_op op_addA od_addA (dv 2) (dv_lst (df_cons (dv_tup (df_cons dv_str (df_cons (dv 1) (df_cons dv_bl df_nil)))) (df_cons (dv_tup (df_cons dv_str (df_cons (dv 1) (df_cons dv_non df_nil)))) (df_cons (dv_tup (df_cons dv_str (df_cons (dv 1) (df_cons dv_int (df_cons dv_int df_nil))))) (df_cons dv_non (df_cons dv_int (df_cons (dv_tup df_nil) (df_cons dv_str (df_cons (dv_tup (df_cons dv_non (df_cons (dv 1) (df_cons dv_int df_nil)))) df_nil)))))))))))
    (dss_cons (ds_set (i := 2) scqodd_deed.nd rfl (.inl rfl) (dv_op op_addA od_addA (dv 2) (dv_lst (df_cons (dv_tup (df_cons dv_str (df_cons (dv_lst (df_cons (dv 1) df_nil)) (df_cons dv_int df_nil)))) (df_cons (dv_tup (df_cons dv_str (df_cons (dv 1) (df_cons dv_str df_nil)))) (df_cons (dv_tup (df_cons dv_str (df_cons (dv_op op_addA od_addA (dv 1) dv_str) (df_cons dv_int df_nil)))) (df_cons (dv_tup (df_cons dv_str (df_cons dv_str (df_cons dv_int df_nil)))) df_nil)))))))
    (dss_cons (ds_set (i := 2) scqodd_deed.nd rfl (.inl rfl) (dv_op op_addA od_addA (dv 2) (dv_lst (df_cons (dv_tup (df_cons dv_str (df_cons (dv 1) (df_cons dv_int df_nil)))) (df_cons (dv_tup (df_cons (dv_lst (df_cons dv_str df_nil)) (df_cons (dv 1) (df_cons dv_int df_nil)))) (df_cons (dv_tup (df_cons dv_dnew (df_cons (dv 1) (df_cons dv_int df_nil)))) (df_cons (dv_tup (df_cons (dv_lst df_nil) (df_cons (dv 1) (df_cons dv_int df_nil)))) df_nil)))))))
    (dss_one (ds_ret (dv_ixA (dv 2) (dv_callM G_qnext ownSp_len (hr.mono (by decide)) rfl m_qnext k_qnext b_qnext (da_cons (dv 0) (da_consF dv_int da_nil))) (fun _ _ => rfl)))))))))) (fun _ _ _ h => h.2)
/-! #### _law_odd_deal -/
abbrev stqodd_deal : Stmt := topS 44
theorem scqodd_deal : FnScope ["_law_state_here", "_law_item", "_law_hand", "_law_start", "_law_close", "_law_acts", "_law_fate", "_law_some", "_law_way", "_law_at", "_law_wrong"] ["_law_state_here", "_law_item"] (defScope stqodd_deal) := ⟨rfl, rfl, rfl, by decide +kernel, rfl, by decide +kernel, by decide +kernel⟩
def r_qodd_deal : TDS := (sSeq (sAsg (dVar 1) (gTpA 5 (gsCons (gNm 2) (gsCons (gNm 3) (gsCons (gNm 4) (gsCons (gNm 5) (gsCons (gNm 6) gsNil))))))) (sSeq (sSet 7 (dLst (dfCons (dCB kList (daCons (dVar 1) daNil)) (dfCons (dSl (dVar 1) dNoPart (dPart (dC (.int 4)))) (dfCons (dOp kAdd (dVar 1) (dTup (dfCons (dC (.int 0)) dfNil))) (dfCons (dOp kAdd (dTup (dfCons (dC (.int 5)) dfNil)) (dSl (dVar 1) (dPart (dC (.int 1))) dNoPart)) (dfCons (dOp kAdd (dTup (dfCons (dUn kNeg (dC (.int 1))) dfNil)) (dSl (dVar 1) (dPart (dC (.int 1))) dNoPart)) (dfCons (dOp kAdd (dTup (dfCons (dC (.bool true)) dfNil)) (dSl (dVar 1) (dPart (dC (.int 1))) dNoPart)) (dfCons (dOp kAdd (dTup (dfCons (dC (.str (Str.ofString "0"))) dfNil)) (dSl (dVar 1) (dPart (dC (.int 1))) dNoPart)) dfNil))))))))) (sSeq (sSet 7 (dOp kAdd (dVar 7) (dLst (dfCons (dTup (dfCons (dVar 2) (dfCons (dVar 4) (dfCons (dVar 3) (dfCons (dVar 5) (dfCons (dVar 6) dfNil)))))) (dfCons (dTup (dfCons (dVar 2) (dfCons (dVar 3) (dfCons (dVar 3) (dfCons (dVar 5) (dfCons (dVar 6) dfNil)))))) (dfCons (dTup (dfCons (dVar 2) (dfCons (dVar 3) (dfCons (dC (.int 10000)) (dfCons (dVar 5) (dfCons (dVar 6) dfNil)))))) dfNil)))))) (sSeq (sSet 7 (dOp kAdd (dVar 7) (dLst (dfCons (dTup (dfCons (dVar 2) (dfCons (dUn kNeg (dC (.int 1))) (dfCons (dVar 4) (dfCons (dVar 5) (dfCons (dVar 6) dfNil)))))) (dfCons (dTup (dfCons (dVar 2) (dfCons (dC .none) (dfCons (dVar 4) (dfCons (dVar 5) (dfCons (dVar 6) dfNil)))))) (dfCons (dTup (dfCons (dVar 2) (dfCons (dVar 3) (dfCons (dC (.str (Str.ofString "9"))) (dfCons (dVar 5) (dfCons (dVar 6) dfNil)))))) dfNil)))))) (sSeq (sSet 7 (dOp kAdd (dVar 7) (dLst (dfCons (dTup (dfCons (dVar 2) (dfCons (dVar 3) (dfCons (dVar 4) (dfCons (dCB kList (daCons (dVar 5) daNil)) (dfCons (dVar 6) dfNil)))))) (dfCons (dTup (dfCons (dVar 2) (dfCons (dVar 3) (dfCons (dVar 4) (dfCons (dC .none) (dfCons (dVar 6) dfNil)))))) dfNil))))) (sSeq (sExpr (dMut 7 kAppend (dfCons (dTup (dfCons (dVar 2) (dfCons (dVar 3) (dfCons (dVar 4) (dfCons (dVar 5) (dfCons (dC (.str (Str.ofString "Kept"))) dfNil)))))) dfNil))) (sSeq (sSet 7 (dOp kAdd (dVar 7) (dLst (dfCons (dTup (dfCons (dVar 2) (dfCons (dVar 3) (dfCons (dVar 4) (dfCons (dVar 5) (dfCons (dC .none) dfNil)))))) (dfCons (dTup (dfCons (dVar 2) (dfCons (dVar 3) (dfCons (dVar 4) (dfCons (dVar 5) (dfCons (dLst (dfCons (dC (.str (Str.ofString "kept"))) dfNil)) dfNil)))))) (dfCons (dC .none) (dfCons (dC (.int 3)) (dfCons (dC (.str (Str.ofString "deal"))) (dfCons (dTup dfNil) (dfCons dDct dfNil)))))))))) (sSeq (sExpr (dMut 7 kAppend (dfCons (dTup (dfCons (dVar 2) (dfCons (dVar 3) (dfCons (dVar 4) (dfCons (dSl (dOp kAdd (dVar 5) (dOp kMulT (dTup (dfCons (dTup (dfCons (dC (.str (Str.ofString "read"))) (dfCons (dC (.str (Str.ofString "a"))) (dfCons (dC (.int 0)) dfNil)))) dfNil)) (dC (.int 9)))) dNoPart (dPart (dC (.int 9)))) (dfCons (dVar 6) dfNil)))))) dfNil))) (sSeq (sExpr (dMut 7 kAppend (dfCons (dTup (dfCons (dVar 2) (dfCons (dVar 3) (dfCons (dVar 4) (dfCons (dVar 5) (dfCons (dC (.str (Str.ofString ""))) dfNil)))))) dfNil))) (sSeq (sSet 8 (dCallM s_qnext (daCons (dVar 0) (dmF (dC (.int 48)) daNil)))) (sSeq (sIf (dTest (dOp (kI0 fun i j => .bool (decide (i < j))) (dVar 8) (dC (.int 25)))) (sRet (dIxA (dVar 7) (dVar 8))) sNext) (sSeq (sSet 9 (dCallM s_qnext (daCons (dVar 0) (dmF (dOp kAdd (dLenA (daCons (dVar 5) daNil)) (dC (.int 1))) daNil)))) (sSeq (sSet 10 (dCallM s_qodd_deed (daCons (dVar 0) (dmF (dC (.str (Str.ofString "ab"))) daNil)))) (sSeq (sIf (dTest (dOp (kEqA id) (dLenA (daCons (dVar 5) daNil)) (dC (.int 8)))) (sSeq (sSet 9 (dCallM s_qnext (daCons (dVar 0) (dmF (dC (.int 8)) daNil)))) (sRet (dTup (dfCons (dVar 2) (dfCons (dVar 3) (dfCons (dVar 4) (dfCons (dOp kAdd (dOp kAdd (dSl (dVar 5) dNoPart (dPart (dVar 9))) (dTup (dfCons (dVar 10) dfNil))) (dSl (dVar 5) (dPart (dOp kAdd (dVar 9) (dC (.int 1)))) dNoPart)) (dfCons (dVar 6) dfNil)))))))) sNext) (sRet (dTup (dfCons (dVar 2) (dfCons (dVar 3) (dfCons (dVar 4) (dfCons (dOp kAdd (dOp kAdd (dSl (dVar 5) dNoPart (dPart (dVar 9))) (dTup (dfCons (dVar 10) dfNil))) (dSl (dVar 5) (dPart (dVar 9)) dNoPart)) (dfCons (dVar 6) dfNil)))))))))))))))))))))
def s_qodd_deal : DSp := ownSp 2 9 r_qodd_deal
theorem ok_qodd_deal {f : Addr} {fd : FuncData} (F : Fun K "_law_odd_deal" "_law_odd_deal" stqodd_deal f fd) (z_len : mg "len" = none) (z_list : mg "list" = none) {gqnext : Addr} {gdqnext : FuncData} (G_qnext : FnOk P w K mg base CX0 1 gqnext gdqnext ["_law_state_here", "_law_size"] (spD K 2 s_qnext)) (b_qnext : Binds K gdqnext ["_law_state_here", "_law_size"] []) (k_qnext : PySem.W.keepIn K (.ref gqnext) = true) (m_qnext : mg "_law_next" = some (.ref gqnext)) {gqodd_deed : Addr} {gdqodd_deed : FuncData} (G_qodd_deed : FnOk P w K mg base CX0 2 gqodd_deed gdqodd_deed ["_law_state_here", "_law_key"] (spD K 2 s_qodd_deed)) (b_qodd_deed : Binds K gdqodd_deed ["_law_state_here", "_law_key"] []) (k_qodd_deed : PySem.W.keepIn K (.ref gqodd_deed) = true) (m_qodd_deed : mg "_law_odd_deed" = some (.ref gqodd_deed)) : FnOk P w K mg base CX0 (2 + 1) f fd ["_law_state_here", "_law_item"] (spD K 2 s_qodd_deal) :=
  fnD F scqodd_deal rfl r_qodd_deal (fun cdv A outer s H E hr =>
    (dss_cons (ds_asg (dv 1) (dg_tupA rfl (dgs_cons (dg_nm scqodd_deal.nd rfl (.inl rfl)) (dgs_cons (dg_nm scqodd_deal.nd rfl (.inl rfl)) (dgs_cons (dg_nm scqodd_deal.nd rfl (.inl rfl)) (dgs_cons (dg_nm scqodd_deal.nd rfl (.inl rfl)) (dgs_cons (dg_nm scqodd_deal.nd rfl (.inl rfl)) dgs_nil)))))))
    (dss_cons (ds_set (i := 7) scqodd_deal.nd rfl (.inl rfl) (dv_lst (df_cons (dv_callTy call_list_of cd_list rfl z_list (by decide +kernel) (da_cons (dv 1) da_nil)) (df_cons (dv_sl (dv 1) do_none (do_some dv_int)) (df_cons (dv_op op_addA od_addA (dv 1) (dv_tup (df_cons dv_int df_nil))) (df_cons (dv_op op_addA od_addA (dv_tup (df_cons dv_int df_nil)) (dv_sl (dv 1) (do_some dv_int) do_none)) (df_cons (dv_op op_addA od_addA (dv_tup (df_cons (dv_neg dv_int) df_nil)) (dv_sl (dv 1) (do_some dv_int) do_none)) (df_cons (dv_op op_addA od_addA (dv_tup (df_cons dv_bl df_nil)) (dv_sl (dv 1) (do_some dv_int) do_none)) (df_cons (dv_op op_addA od_addA (dv_tup (df_cons dv_str df_nil)) (dv_sl (dv 1) (do_some dv_int) do_none)) df_nil)))))))))
    (dss_cons (ds_set (i := 7) scqodd_deal.nd rfl (.inl rfl) (dv_op op_addA od_addA (dv 7) (dv_lst (df_cons (dv_tup (df_cons (dv 2) (df_cons (dv 4) (df_cons (dv 3) (df_cons (dv 5) (df_cons (dv 6) df_nil)))))) (df_cons (dv_tup (df_cons (dv 2) (df_cons (dv 3) (df_cons (dv 3) (df_cons (dv 5) (df_cons (dv 6) df_nil)))))) (df_cons (dv_tup (df_cons (dv 2) (df_cons (dv 3) (df_cons dv_int (df_cons (dv 5) (df_cons (dv 6) df_nil)))))) df_nil))))))
    (dss_cons (ds_set (i := 7) scqodd_deal.nd rfl (.inl rfl) (dv_op op_addA od_addA (dv 7) (dv_lst (df_cons (dv_tup (df_cons (dv 2) (df_cons (dv_neg dv_int) (df_cons (dv 4) (df_cons (dv 5) (df_cons (dv 6) df_nil)))))) (df_cons (dv_tup (df_cons (dv 2) (df_cons dv_non (df_cons (dv 4) (df_cons (dv 5) (df_cons (dv 6) df_nil)))))) (df_cons (dv_tup (df_cons (dv 2) (df_cons (dv 3) (df_cons dv_str (df_cons (dv 5) (df_cons (dv 6) df_nil)))))) df_nil))))))
    (dss_cons (ds_set (i := 7) scqodd_deal.nd rfl (.inl rfl) (dv_op op_addA od_addA (dv 7) (dv_lst (df_cons (dv_tup (df_cons (dv 2) (df_cons (dv 3) (df_cons (dv 4) (df_cons (dv_callTy call_list_of cd_list rfl z_list (by decide +kernel) (da_cons (dv 5) da_nil)) (df_cons (dv 6) df_nil)))))) (df_cons (dv_tup (df_cons (dv 2) (df_cons (dv 3) (df_cons (dv 4) (df_cons dv_non (df_cons (dv 6) df_nil)))))) df_nil)))))
    (dss_cons (ds_expr (dv_mut 7 PySem.F.slot_list_append PySem.F.type_list_append mt_append md_append (df_cons (dv_tup (df_cons (dv 2) (df_cons (dv 3) (df_cons (dv 4) (df_cons (dv 5) (df_cons dv_str df_nil)))))) df_nil)))
    (dss_cons (ds_set (i := 7) scqodd_deal.nd rfl (.inl rfl) (dv_op op_addA od_addA (dv 7) (dv_lst (df_cons (dv_tup (df_cons (dv 2) (df_cons (dv 3) (df_cons (dv 4) (df_cons (dv 5) (df_cons dv_non df_nil)))))) (df_cons (dv_tup (df_cons (dv 2) (df_cons (dv 3) (df_cons (dv 4) (df_cons (dv 5) (df_cons (dv_lst (df_cons dv_str df_nil)) df_nil)))))) (df_cons dv_non (df_cons dv_int (df_cons dv_str (df_cons (dv_tup df_nil) (df_cons dv_dnew df_nil))))))))))
    (dss_cons (ds_expr (dv_mut 7 PySem.F.slot_list_append PySem.F.type_list_append mt_append md_append (df_cons (dv_tup (df_cons (dv 2) (df_cons (dv 3) (df_cons (dv 4) (df_cons (dv_sl (dv_op op_addA od_addA (dv 5) (dv_op op_repT od_mulT (dv_tup (df_cons (dv_tup (df_cons dv_str (df_cons dv_str (df_cons dv_int df_nil)))) df_nil)) dv_int)) do_none (do_some dv_int)) (df_cons (dv 6) df_nil)))))) df_nil)))
    (dss_cons (ds_expr (dv_mut 7 PySem.F.slot_list_append PySem.F.type_list_append mt_append md_append (df_cons (dv_tup (df_cons (dv 2) (df_cons (dv 3) (df_cons (dv 4) (df_cons (dv 5) (df_cons dv_str df_nil)))))) df_nil)))
    (dss_cons (ds_set (i := 8) scqodd_deal.nd rfl (.inl rfl) (dv_callM G_qnext ownSp_len (hr.mono (by decide)) rfl m_qnext k_qnext b_qnext (da_cons (dv 0) (da_consF dv_int da_nil))))
    (dss_cons (ds_if (dt_cmp op_lt (od_B0 _) (dv 8) dv_int (nomark _)) (dss_one (ds_ret (dv_ixA (dv 7) (dv 8) (fun _ _ => rfl)))) dss_nil)
    (dss_cons (ds_set (i := 9) scqodd_deal.nd rfl (.inl rfl) (dv_callM G_qnext ownSp_len (hr.mono (by decide)) rfl m_qnext k_qnext b_qnext (da_cons (dv 0) (da_consF (dv_op op_addA od_addA (dv_lenA rfl z_len (by decide +kernel) (da_cons (dv 5) da_nil)) dv_int) da_nil))))
    (dss_cons (ds_set (i := 10) scqodd_deal.nd rfl (.inl rfl) (dv_callM G_qodd_deed ownSp_len (hr.mono (by decide)) rfl m_qodd_deed k_qodd_deed b_qodd_deed (da_cons (dv 0) (da_consF dv_str da_nil))))
    (dss_cons (ds_if (dt_cmp (op_eqA hr.units) od_eqA (dv_lenA rfl z_len (by decide +kernel) (da_cons (dv 5) da_nil)) dv_int (nomark _)) (dss_cons (ds_set (i := 9) scqodd_deal.nd rfl (.inl rfl) (dv_callM G_qnext ownSp_len (hr.mono (by decide)) rfl m_qnext k_qnext b_qnext (da_cons (dv 0) (da_consF dv_int da_nil))))
    (dss_one (ds_ret (dv_tup (df_cons (dv 2) (df_cons (dv 3) (df_cons (dv 4) (df_cons (dv_op op_addA od_addA (dv_op op_addA od_addA (dv_sl (dv 5) do_none (do_some (dv 9))) (dv_tup (df_cons (dv 10) df_nil))) (dv_sl (dv 5) (do_some (dv_op op_addA od_addA (dv 9) dv_int)) do_none)) (df_cons (dv 6) df_nil))))))))) dss_nil)
    (dss_one (ds_ret (dv_tup (df_cons (dv 2) (df_cons (dv 3) (df_cons (dv 4) (df_cons (dv_op op_addA od_addA (dv_op op_addA od_addA (dv_sl (dv 5) do_none (do_some (dv 9))) (dv_tup (df_cons (dv 10) df_nil))) (dv_sl (dv 5) (do_some (dv 9)) do_none)) (df_cons (dv 6) df_nil))))))))))))))))))))))) (fun _ _ _ h => h.2)
/-! #### _law_small -/
abbrev stqsmall : Stmt := topS 45
theorem scqsmall : FnScope ["_law_size", "_law_k"] ["_law_size"] (defScope stqsmall) := ⟨rfl, rfl, rfl, by decide +kernel, rfl, by decide +kernel, by decide +kernel⟩
def r_qsmall : TDS := (sRet (dCB kTuple (daCons (dLcXR (daCons (dVar 0) daNil) 1 dYes (dTup (dfCons (dC (.int 0)) (dfCons (dOp kMul (dC (.int 2)) (dVar 1)) (dfCons (dOp kAdd (dOp kMul (dC (.int 2)) (dVar 1)) (dC (.int 1))) (dfCons (dTup dfNil) (dfCons (dC (.str (Str.ofString "kept"))) dfNil)))))) [1]) daNil)))
def s_qsmall : DSp := ownSp 1 1 r_qsmall
theorem ok_qsmall {f : Addr} {fd : FuncData} (F : Fun K "_law_small" "_law_small" stqsmall f fd) (z_range : mg "range" = none) (z_tuple : mg "tuple" = none) : FnOk P w K mg base CX0 (0 + 1) f fd ["_law_size"] (spD K 1 s_qsmall) :=
  fnD F scqsmall rfl r_qsmall (fun cdv A outer s H E hr =>
    (dss_one (ds_ret (dv_callTy call_tuple_of cd_tuple rfl z_tuple (by decide +kernel) (da_cons (dv_lcXR (own := [("_law_k", 1)]) rfl scqsmall.nd rfl z_range (da_cons (dv 0) da_nil) (by exact ⟨blkOk_by (N := (["_law_size", "_law_k"] : List Str)) (sc := defScope stqsmall) (own := [("_law_k", 1)]) (by decide +kernel), by decide, fun _ _ _ _ _ => pg_k scqsmall.nd rfl (.inl rfl), fun _ _ _ _ _ => dts_nil, fun _ _ _ _ _ => (dv_tup (df_cons dv_int (df_cons (dv_op op_mulA od_mulA dv_int (dv 1)) (df_cons (dv_op op_addA od_addA (dv_op op_mulA od_mulA dv_int (dv 1)) dv_int) (df_cons (dv_tup df_nil) (df_cons dv_str df_nil))))))⟩)) da_nil))))) (fun _ _ _ h => h.2)
/-! #### _law_edges -/
abbrev stqedges : Stmt := topS 46
theorem scqedges : FnScope ["_law_state_here", "_law_six", "_law_k", "_law_two", "_law_some"] ["_law_state_here"] (defScope stqedges) := ⟨rfl, rfl, rfl, by decide +kernel, rfl, by decide +kernel, by decide +kernel⟩
def r_qedges : TDS := (sSeq (sSet 1 (dCB kTuple (daCons (dLcXR (daCons (dC (.int 6)) daNil) 2 dYes (dTup (dfCons (dC (.str (Str.ofString "write"))) (dfCons (dIxA (dC (.str (Str.ofString "abcdef"))) (dVar 2)) (dfCons (dOp kAdd (dC (.int 1)) (dVar 2)) dfNil)))) [2]) daNil))) (sSeq (sSet 3 (dLst (dfCons (dTup (dfCons (dC (.int 0)) (dfCons (dC (.int 1)) (dfCons (dC (.int 5)) (dfCons (dSl (dVar 1) dNoPart (dPart (dC (.int 3)))) (dfCons (dC (.str (Str.ofString "kept"))) dfNil)))))) (dfCons (dTup (dfCons (dC (.int 1)) (dfCons (dC (.int 6)) (dfCons (dC (.int 9)) (dfCons (dSl (dVar 1) (dPart (dC (.int 3))) dNoPart) (dfCons (dC (.str (Str.ofString "dropped"))) dfNil)))))) dfNil)))) (sSeq (sSet 4 (dLst (dfCons (dTup (dfCons (dCall s_qsmall (dfCons (dC (.int 12)) dfNil)) (dfCons (dC (.bool true)) dfNil))) (dfCons (dTup (dfCons (dCall s_qsmall (dfCons (dC (.int 13)) dfNil)) (dfCons (dC (.bool false)) dfNil))) (dfCons (dTup (dfCons (dTup dfNil) (dfCons (dC (.bool true)) dfNil))) (dfCons (dTup (dfCons (dLst dfNil) (dfCons (dC (.bool false)) dfNil))) (dfCons (dTup (dfCons (dC .none) (dfCons (dC (.bool false)) dfNil))) (dfCons (dTup (dfCons (dC (.str (Str.ofString ""))) (dfCons (dC (.bool false)) dfNil))) dfNil)))))))) (sSeq (sSet 4 (dOp kAdd (dVar 4) (dLst (dfCons (dTup (dfCons (dCB kTuple (daCons (dVar 3) daNil)) (dfCons (dC (.bool false)) dfNil))) (dfCons (dTup (dfCons (dTup (dfCons (dIxA (dVar 3) (dC (.int 0))) (dfCons (dOp kAdd (dSl (dIxA (dVar 3) (dC (.int 1))) dNoPart (dPart (dC (.int 3)))) (dTup (dfCons (dSl (dVar 1) (dPart (dC (.int 3))) (dPart (dC (.int 5)))) (dfCons (dC (.str (Str.ofString "kept"))) dfNil)))) dfNil))) (dfCons (dC (.bool true)) dfNil))) (dfCons (dTup (dfCons (dTup (dfCons (dIxA (dVar 3) (dC (.int 1))) (dfCons (dIxA (dVar 3) (dC (.int 0))) dfNil))) (dfCons (dC (.bool false)) dfNil))) dfNil)))))) (sSeq (sExpr (dMut 4 kAppend (dfCons (dTup (dfCons (dTup (dfCons (dTup (dfCons (dC (.int 0)) (dfCons (dC (.int 1)) (dfCons (dC (.int 5)) (dfCons (dTup dfNil) (dfCons (dC (.str (Str.ofString "kept"))) dfNil)))))) (dfCons (dTup (dfCons (dC (.int 0)) (dfCons (dC (.int 3)) (dfCons (dC (.int 7)) (dfCons (dTup dfNil) (dfCons (dC (.str (Str.ofString "kept"))) dfNil)))))) dfNil))) (dfCons (dC (.bool false)) dfNil))) dfNil))) (sSeq (sExpr (dMut 4 kAppend (dfCons (dTup (dfCons (dTup (dfCons (dTup (dfCons (dC (.int 0)) (dfCons (dC (.int 1)) (dfCons (dC (.int 5)) (dfCons (dTup dfNil) (dfCons (dC (.str (Str.ofString "kept"))) dfNil)))))) (dfCons (dTup (dfCons (dC (.int 1)) (dfCons (dC (.int 3)) (dfCons (dC (.int 7)) (dfCons (dTup dfNil) (dfCons (dC (.str (Str.ofString "kept"))) dfNil)))))) dfNil))) (dfCons (dC (.bool true)) dfNil))) dfNil))) (sSeq (sSet 4 (dOp kAdd (dVar 4) (dLst (dfCons (dTup (dfCons (dTup (dfCons (dTup (dfCons (dC (.int 0)) (dfCons (dC (.int 1)) (dfCons (dC (.int 3)) (dfCons (dTup dfNil) (dfCons (dC (.str (Str.ofString "kept"))) dfNil)))))) (dfCons (dTup (dfCons (dC (.int 1)) (dfCons (dC (.int 3)) (dfCons (dC (.int 5)) (dfCons (dTup dfNil) (dfCons (dC (.str (Str.ofString "kept"))) dfNil)))))) dfNil))) (dfCons (dC (.bool false)) dfNil))) (dfCons (dTup (dfCons (dTup (dfCons (dTup (dfCons (dC (.int 0)) (dfCons (dC (.int 0)) (dfCons (dC (.int 9999)) (dfCons (dSl (dVar 1) dNoPart (dPart (dC (.int 5)))) (dfCons (dC (.str (Str.ofString "kept"))) dfNil)))))) dfNil)) (dfCons (dC (.bool true)) dfNil))) dfNil))))) (sSeq (sSet 4 (dOp kAdd (dVar 4) (dLst (dfCons (dTup (dfCons (dTup (dfCons (dTup (dfCons (dC (.int 0)) (dfCons (dC (.int 1)) (dfCons (dC (.int 5)) (dfCons (dSl (dVar 1) dNoPart (dPart (dC (.int 2)))) (dfCons (dC (.str (Str.ofString "kept"))) dfNil)))))) (dfCons (dTup (dfCons (dC (.int 1)) (dfCons (dC (.int 6)) (dfCons (dC (.int 9)) (dfCons (dSl (dVar 1) (dPart (dC (.int 1))) (dPart (dC (.int 2)))) (dfCons (dC (.str (Str.ofString "dropped"))) dfNil)))))) dfNil))) (dfCons (dC (.bool false)) dfNil))) (dfCons (dTup (dfCons dDct (dfCons (dC (.bool false)) dfNil))) (dfCons (dTup (dfCons (dC (.int 5)) (dfCons (dC (.bool false)) dfNil))) dfNil)))))) (sSeq (sExpr (dMut 4 kAppend (dfCons (dTup (dfCons (dTup (dfCons (dTup (dfCons (dC (.int 0)) (dfCons (dC (.int 1)) (dfCons (dC (.int 5)) (dfCons (dTup dfNil) (dfCons (dC (.str (Str.ofString "kept"))) dfNil)))))) (dfCons (dTup (dfCons (dC (.int 0)) (dfCons (dC (.int 6)) (dfCons (dC (.int 7)) (dfCons (dTup dfNil) (dfCons (dC (.str (Str.ofString "dropped"))) dfNil)))))) dfNil))) (dfCons (dC (.bool true)) dfNil))) dfNil))) (sSeq (sExpr (dMut 4 kAppend (dfCons (dTup (dfCons (dTup (dfCons (dTup (dfCons (dC (.int 0)) (dfCons (dC (.int 1)) (dfCons (dC (.int 5)) (dfCons (dOp kMulT (dSl (dVar 1) dNoPart (dPart (dC (.int 1)))) (dC (.int 2))) (dfCons (dC (.str (Str.ofString "kept"))) dfNil)))))) dfNil)) (dfCons (dC (.bool false)) dfNil))) dfNil))) (sSeq (sExpr (dMut 4 kAppend (dfCons (dTup (dfCons (dTup (dfCons (dTup (dfCons (dC (.int 0)) (dfCons (dC (.int 1)) (dfCons (dC (.int 9)) (dfCons (dTup dfNil) (dfCons (dC (.str (Str.ofString "kept"))) dfNil)))))) (dfCons (dTup (dfCons (dC (.int 1)) (dfCons (dC (.int 2)) (dfCons (dC (.int 9)) (dfCons (dTup dfNil) (dfCons (dC (.str (Str.ofString "kept"))) dfNil)))))) dfNil))) (dfCons (dC (.bool false)) dfNil))) dfNil))) (sSeq (sExpr (dMut 4 kAppend (dfCons (dTup (dfCons (dTup (dfCons (dTup (dfCons (dC (.int 0)) (dfCons (dC (.int 1)) (dfCons (dC (.int 2)) (dfCons (dTup dfNil) (dfCons (dC (.str (Str.ofString "kept"))) dfNil)))))) (dfCons (dTup (dfCons (dC (.int 0)) (dfCons (dC (.int 3)) (dfCons (dC (.int 4)) (dfCons (dTup dfNil) (dfCons (dC (.str (Str.ofString "kept"))) dfNil)))))) dfNil))) (dfCons (dC (.bool true)) dfNil))) dfNil))) (sRet (dIxA (dVar 4) (dCallM s_qnext (daCons (dVar 0) (dmF (dC (.int 20)) daNil)))))))))))))))))
def s_qedges : DSp := ownSp 1 4 r_qedges
theorem ok_qedges {f : Addr} {fd : FuncData} (F : Fun K "_law_edges" "_law_edges" stqedges f fd) (z_range : mg "range" = none) (z_tuple : mg "tuple" = none) {gqsmall : Addr} {gdqsmall : FuncData} (G_qsmall : FnOk P w K mg base CX0 1 gqsmall gdqsmall ["_law_size"] (spD K 1 s_qsmall)) (b_qsmall : Binds K gdqsmall ["_law_size"] []) (k_qsmall : PySem.W.keepIn K (.ref gqsmall) = true) (m_qsmall : mg "_law_small" = some (.ref gqsmall)) {gqnext : Addr} {gdqnext : FuncData} (G_qnext : FnOk P w K mg base CX0 1 gqnext gdqnext ["_law_state_here", "_law_size"] (spD K 2 s_qnext)) (b_qnext : Binds K gdqnext ["_law_state_here", "_law_size"] []) (k_qnext : PySem.W.keepIn K (.ref gqnext) = true) (m_qnext : mg "_law_next" = some (.ref gqnext)) : FnOk P w K mg base CX0 (1 + 1) f fd ["_law_state_here"] (spD K 1 s_qedges) :=
  fnD F scqedges rfl r_qedges (fun cdv A outer s H E hr =>
    (dss_cons (ds_set (i := 1) scqedges.nd rfl (.inl rfl) (dv_callTy call_tuple_of cd_tuple rfl z_tuple (by decide +kernel) (da_cons (dv_lcXR (own := [("_law_k", 2)]) rfl scqedges.nd rfl z_range (da_cons dv_int da_nil) (by exact ⟨blkOk_by (N := (["_law_state_here", "_law_six", "_law_k", "_law_two", "_law_some"] : List Str)) (sc := defScope stqedges) (own := [("_law_k", 2)]) (by decide +kernel), by decide, fun _ _ _ _ _ => pg_k scqedges.nd rfl (.inl rfl), fun _ _ _ _ _ => dts_nil, fun _ _ _ _ _ => (dv_tup (df_cons dv_str (df_cons (dv_ixA dv_str (dv 2) (fun _ _ => rfl)) (df_cons (dv_op op_addA od_addA dv_int (dv 2)) df_nil))))⟩)) da_nil)))
    (dss_cons (ds_set (i := 3) scqedges.nd rfl (.inl rfl) (dv_lst (df_cons (dv_tup (df_cons dv_int (df_cons dv_int (df_cons dv_int (df_cons (dv_sl (dv 1) do_none (do_some dv_int)) (df_cons dv_str df_nil)))))) (df_cons (dv_tup (df_cons dv_int (df_cons dv_int (df_cons dv_int (df_cons (dv_sl (dv 1) (do_some dv_int) do_none) (df_cons dv_str df_nil)))))) df_nil))))
    (dss_cons (ds_set (i := 4) scqedges.nd rfl (.inl rfl) (dv_lst (df_cons (dv_tup (df_cons (dv_call G_qsmall (ownSp_len) (hr.mono (by decide)) rfl m_qsmall k_qsmall b_qsmall (df_cons dv_int df_nil)) (df_cons dv_bl df_nil))) (df_cons (dv_tup (df_cons (dv_call G_qsmall (ownSp_len) (hr.mono (by decide)) rfl m_qsmall k_qsmall b_qsmall (df_cons dv_int df_nil)) (df_cons dv_bl df_nil))) (df_cons (dv_tup (df_cons (dv_tup df_nil) (df_cons dv_bl df_nil))) (df_cons (dv_tup (df_cons (dv_lst df_nil) (df_cons dv_bl df_nil))) (df_cons (dv_tup (df_cons dv_non (df_cons dv_bl df_nil))) (df_cons (dv_tup (df_cons dv_str (df_cons dv_bl df_nil))) df_nil))))))))
    (dss_cons (ds_set (i := 4) scqedges.nd rfl (.inl rfl) (dv_op op_addA od_addA (dv 4) (dv_lst (df_cons (dv_tup (df_cons (dv_callTy call_tuple_of cd_tuple rfl z_tuple (by decide +kernel) (da_cons (dv 3) da_nil)) (df_cons dv_bl df_nil))) (df_cons (dv_tup (df_cons (dv_tup (df_cons (dv_ixA (dv 3) dv_int (fun _ _ => rfl)) (df_cons (dv_op op_addA od_addA (dv_sl (dv_ixA (dv 3) dv_int (fun _ _ => rfl)) do_none (do_some dv_int)) (dv_tup (df_cons (dv_sl (dv 1) (do_some dv_int) (do_some dv_int)) (df_cons dv_str df_nil)))) df_nil))) (df_cons dv_bl df_nil))) (df_cons (dv_tup (df_cons (dv_tup (df_cons (dv_ixA (dv 3) dv_int (fun _ _ => rfl)) (df_cons (dv_ixA (dv 3) dv_int (fun _ _ => rfl)) df_nil))) (df_cons dv_bl df_nil))) df_nil))))))
    (dss_cons (ds_expr (dv_mut 4 PySem.F.slot_list_append PySem.F.type_list_append mt_append md_append (df_cons (dv_tup (df_cons (dv_tup (df_cons (dv_tup (df_cons dv_int (df_cons dv_int (df_cons dv_int (df_cons (dv_tup df_nil) (df_cons dv_str df_nil)))))) (df_cons (dv_tup (df_cons dv_int (df_cons dv_int (df_cons dv_int (df_cons (dv_tup df_nil) (df_cons dv_str df_nil)))))) df_nil))) (df_cons dv_bl df_nil))) df_nil)))
    (dss_cons (ds_expr (dv_mut 4 PySem.F.slot_list_append PySem.F.type_list_append mt_append md_append (df_cons (dv_tup (df_cons (dv_tup (df_cons (dv_tup (df_cons dv_int (df_cons dv_int (df_cons dv_int (df_cons (dv_tup df_nil) (df_cons dv_str df_nil)))))) (df_cons (dv_tup (df_cons dv_int (df_cons dv_int (df_cons dv_int (df_cons (dv_tup df_nil) (df_cons dv_str df_nil)))))) df_nil))) (df_cons dv_bl df_nil))) df_nil)))
    (dss_cons (ds_set (i := 4) scqedges.nd rfl (.inl rfl) (dv_op op_addA od_addA (dv 4) (dv_lst (df_cons (dv_tup (df_cons (dv_tup (df_cons (dv_tup (df_cons dv_int (df_cons dv_int (df_cons dv_int (df_cons (dv_tup df_nil) (df_cons dv_str df_nil)))))) (df_cons (dv_tup (df_cons dv_int (df_cons dv_int (df_cons dv_int (df_cons (dv_tup df_nil) (df_cons dv_str df_nil)))))) df_nil))) (df_cons dv_bl df_nil))) (df_cons (dv_tup (df_cons (dv_tup (df_cons (dv_tup (df_cons dv_int (df_cons dv_int (df_cons dv_int (df_cons (dv_sl (dv 1) do_none (do_some dv_int)) (df_cons dv_str df_nil)))))) df_nil)) (df_cons dv_bl df_nil))) df_nil)))))
    (dss_cons (ds_set (i := 4) scqedges.nd rfl (.inl rfl) (dv_op op_addA od_addA (dv 4) (dv_lst (df_cons (dv_tup (df_cons (dv_tup (df_cons (dv_tup (df_cons dv_int (df_cons dv_int (df_cons dv_int (df_cons (dv_sl (dv 1) do_none (do_some dv_int)) (df_cons dv_str df_nil)))))) (df_cons (dv_tup (df_cons dv_int (df_cons dv_int (df_cons dv_int (df_cons (dv_sl (dv 1) (do_some dv_int) (do_some dv_int)) (df_cons dv_str df_nil)))))) df_nil))) (df_cons dv_bl df_nil))) (df_cons (dv_tup (df_cons dv_dnew (df_cons dv_bl df_nil))) (df_cons (dv_tup (df_cons dv_int (df_cons dv_bl df_nil))) df_nil))))))
    (dss_cons (ds_expr (dv_mut 4 PySem.F.slot_list_append PySem.F.type_list_append mt_append md_append (df_cons (dv_tup (df_cons (dv_tup (df_cons (dv_tup (df_cons dv_int (df_cons dv_int (df_cons dv_int (df_cons (dv_tup df_nil) (df_cons dv_str df_nil)))))) (df_cons (dv_tup (df_cons dv_int (df_cons dv_int (df_cons dv_int (df_cons (dv_tup df_nil) (df_cons dv_str df_nil)))))) df_nil))) (df_cons dv_bl df_nil))) df_nil)))
    (dss_cons (ds_expr (dv_mut 4 PySem.F.slot_list_append PySem.F.type_list_append mt_append md_append (df_cons (dv_tup (df_cons (dv_tup (df_cons (dv_tup (df_cons dv_int (df_cons dv_int (df_cons dv_int (df_cons (dv_op op_repT od_mulT (dv_sl (dv 1) do_none (do_some dv_int)) dv_int) (df_cons dv_str df_nil)))))) df_nil)) (df_cons dv_bl df_nil))) df_nil)))
    (dss_cons (ds_expr (dv_mut 4 PySem.F.slot_list_append PySem.F.type_list_append mt_append md_append (df_cons (dv_tup (df_cons (dv_tup (df_cons (dv_tup (df_cons dv_int (df_cons dv_int (df_cons dv_int (df_cons (dv_tup df_nil) (df_cons dv_str df_nil)))))) (df_cons (dv_tup (df_cons dv_int (df_cons dv_int (df_cons dv_int (df_cons (dv_tup df_nil) (df_cons dv_str df_nil)))))) df_nil))) (df_cons dv_bl df_nil))) df_nil)))
    (dss_cons (ds_expr (dv_mut 4 PySem.F.slot_list_append PySem.F.type_list_append mt_append md_append (df_cons (dv_tup (df_cons (dv_tup (df_cons (dv_tup (df_cons dv_int (df_cons dv_int (df_cons dv_int (df_cons (dv_tup df_nil) (df_cons dv_str df_nil)))))) (df_cons (dv_tup (df_cons dv_int (df_cons dv_int (df_cons dv_int (df_cons (dv_tup df_nil) (df_cons dv_str df_nil)))))) df_nil))) (df_cons dv_bl df_nil))) df_nil)))
    (dss_one (ds_ret (dv_ixA (dv 4) (dv_callM G_qnext ownSp_len (hr.mono (by decide)) rfl m_qnext k_qnext b_qnext (da_cons (dv 0) (da_consF dv_int da_nil))) (fun _ _ => rfl))))))))))))))))) (fun _ _ _ h => h.2)
/-! #### are_unlike -/
abbrev stare_unlike : Stmt := topS 27
theorem scare_unlike : FnScope ["things"] ["things"] (defScope stare_unlike) := ⟨rfl, rfl, rfl, by decide +kernel, rfl, by decide +kernel, by decide +kernel⟩
def r_are_unlike : TDS := (sRet (dOp (kEqA id) (dUn kLS (dVar 0)) (dLenA (daCons (dVar 0) daNil))))
def s_are_unlike : DSp := ownSp 1 0 r_are_unlike
theorem ok_are_unlike {f : Addr} {fd : FuncData} (F : Fun K "are_unlike" "are_unlike" stare_unlike f fd) (z_len : mg "len" = none) (z_set : mg "set" = none) : FnOk P w K mg base CX0 (0 + 1) f fd ["things"] (spD K 1 s_are_unlike) :=
  fnD F scare_unlike rfl r_are_unlike (fun cdv A outer s H E hr =>
    (dss_one (ds_ret (dv_cmp (op_eqA hr.units) od_eqA (dv_lenSet rfl rfl z_len rfl z_set (dv 0)) (dv_lenA rfl z_len (by decide +kernel) (da_cons (dv 0) da_nil)) (nomark _))))) (fun _ _ _ h => h.2)
/-! #### goes_on -/
abbrev stgoes_on : Stmt := topS 28
theorem scgoes_on : FnScope ["tale", "at", "deal"] ["tale"] (defScope stgoes_on) := ⟨rfl, rfl, rfl, by decide +kernel, rfl, by decide +kernel, by decide +kernel⟩
def b_goes_on_2 : TDS := (sIf (dOr (dTest (dOp (kI0 fun i j => .bool (decide (j < i))) (dIxA (dVar 2) (dC (.int 1))) (dIxA (dIxA (dVar 0) (dVar 1)) (dC (.int 1))))) (dAnd (dTest (dOp (kEqA id) (dIxA (dVar 2) (dC (.int 0))) (dIxA (dIxA (dVar 0) (dVar 1)) (dC (.int 0))))) (dTest (dOp (kI0 fun i j => .bool (decide (j < i))) (dIxA (dVar 2) (dC (.int 2))) (dIxA (dIxA (dVar 0) (dVar 1)) (dC (.int 1))))))) (sRet (dC (.bool false))) sNext)
theorem b_goes_on_2_eq {D : DEnds} {ε : Ep} : ev (b_goes_on_2 D ε) = ev ((sIf (dOr (dTest (dOp (kI0 fun i j => .bool (decide (j < i))) (dIxA (dVar 2) (dC (.int 1))) (dIxA (dIxA (dVar 0) (dVar 1)) (dC (.int 1))))) (dAnd (dTest (dOp (kEqA id) (dIxA (dVar 2) (dC (.int 0))) (dIxA (dIxA (dVar 0) (dVar 1)) (dC (.int 0))))) (dTest (dOp (kI0 fun i j => .bool (decide (j < i))) (dIxA (dVar 2) (dC (.int 2))) (dIxA (dIxA (dVar 0) (dVar 1)) (dC (.int 1))))))) (sRet (dC (.bool false))) sNext) D ε) := rfl
def b_goes_on_1 : TDS := (sForX 2 (dSl (dVar 0) dNoPart (dPart (dVar 1))) b_goes_on_2)
theorem b_goes_on_1_eq {D : DEnds} {ε : Ep} : ev (b_goes_on_1 D ε) = ev ((sForX 2 (dSl (dVar 0) dNoPart (dPart (dVar 1))) b_goes_on_2) D ε) := rfl
def r_goes_on : TDS := (sSeq (sForR (daCons (dLenA (daCons (dVar 0) daNil)) daNil) (gNm 1) b_goes_on_1) (sRet (dC (.bool true))))
def s_goes_on : DSp := ownSp 1 2 r_goes_on
theorem ok_goes_on {f : Addr} {fd : FuncData} (F : Fun K "goes_on" "goes_on" stgoes_on f fd) (z_len : mg "len" = none) (z_range : mg "range" = none) : FnOk P w K mg base CX0 (0 + 1) f fd ["tale"] (spD K 1 s_goes_on) :=
  fnD F scgoes_on rfl r_goes_on (fun cdv A outer s H E hr =>
    (dss_cons (ds_forR PassesOwn.never rfl rfl z_range (da_cons (dv_lenA rfl z_len (by decide +kernel) (da_cons (dv 0) da_nil)) da_nil) (dg_nm scgoes_on.nd rfl (.inl rfl)) (dss_one (ds_forX (n := 2) PassesOwn.never rfl scgoes_on.nd rfl (.inl rfl) (dv_sl (dv 0) do_none (do_some (dv 1))) (dss_one (ds_if (PW.pt (dw_or (dt_cmp op_gt (od_B0 _) (dv_ixA (dv 2) dv_int (fun _ _ => rfl)) (dv_ixA (dv_ixA (dv 0) (dv 1) (fun _ _ => rfl)) dv_int (fun _ _ => rfl)) (nomark _)) (dw_or1 (PW.pt (dw_and (dt_cmp (op_eqA hr.units) od_eqA (dv_ixA (dv 2) dv_int (fun _ _ => rfl)) (dv_ixA (dv_ixA (dv 0) (dv 1) (fun _ _ => rfl)) dv_int (fun _ _ => rfl)) (nomark _)) (dw_and1 (dt_cmp op_gt (od_B0 _) (dv_ixA (dv 2) dv_int (fun _ _ => rfl)) (dv_ixA (dv_ixA (dv 0) (dv 1) (fun _ _ => rfl)) dv_int (fun _ _ => rfl)) (nomark _)))))))) (dss_one (ds_ret dv_bl)) dss_nil)))))
    (dss_one (ds_ret dv_bl)))) (fun _ _ _ h => h.2)
/-! #### is_whole -/
abbrev stis_whole : Stmt := topS 22
theorem scis_whole : FnScope ["thing"] ["thing"] (defScope stis_whole) := ⟨rfl, rfl, rfl, by decide +kernel, rfl, by decide +kernel, by decide +kernel⟩
def r_is_whole : TDS := (sRet (dAndV (dIsi (dVar 0) "int") (dNotV (dIsi (dVar 0) "bool"))))
def s_is_whole : DSp := ownSp 1 0 r_is_whole
theorem ok_is_whole {f : Addr} {fd : FuncData} (F : Fun K "is_whole" "is_whole" stis_whole f fd) (z_bool : mg "bool" = none) (z_int : mg "int" = none) (z_isinstance : mg "isinstance" = none) : FnOk P w K mg base CX0 (0 + 1) f fd ["thing"] (spD K 1 s_is_whole) :=
  fnD F scis_whole rfl r_is_whole (fun cdv A outer s H E hr =>
    (dss_one (ds_ret (dv_and (dv_isi (dv 0) rfl z_isinstance (by decide +kernel) rfl z_int (by decide +kernel)) (dv_one (dv_not (dv_isi (dv 0) rfl z_isinstance (by decide +kernel) rfl z_bool (by decide +kernel)))))))) (fun _ _ _ h => h.2)
/-! #### is_number -/
abbrev stis_number : Stmt := topS 23
theorem scis_number : FnScope ["thing", "least", "most"] ["thing", "least", "most"] (defScope stis_number) := ⟨rfl, rfl, rfl, by decide +kernel, rfl, by decide +kernel, by decide +kernel⟩
def r_is_number : TDS := (sRet (dAndV (dCall s_is_whole (dfCons (dVar 0) dfNil)) (dChain (kI0 fun i j => .bool (decide (i ≤ j))) (kI0 fun i j => .bool (decide (i ≤ j))) (dVar 1) (dVar 0) (dVar 2))))
def s_is_number : DSp := ownSp 3 0 r_is_number
theorem ok_is_number {f : Addr} {fd : FuncData} (F : Fun K "is_number" "is_number" stis_number f fd) {gis_whole : Addr} {gdis_whole : FuncData} (G_is_whole : FnOk P w K mg base CX0 1 gis_whole gdis_whole ["thing"] (spD K 1 s_is_whole)) (b_is_whole : Binds K gdis_whole ["thing"] []) (k_is_whole : PySem.W.keepIn K (.ref gis_whole) = true) (m_is_whole : mg "is_whole" = some (.ref gis_whole)) : FnOk P w K mg base CX0 (1 + 1) f fd ["thing", "least", "most"] (spD K 3 s_is_number) :=
  fnD F scis_number rfl r_is_number (fun cdv A outer s H E hr =>
    (dss_one (ds_ret (dv_and (dv_call G_is_whole (ownSp_len) (hr.mono (by decide)) rfl m_is_whole k_is_whole b_is_whole (df_cons (dv 0) df_nil)) (dv_one (dv_chain op_le op_le (od_B0 _) (od_B0 _) (dv 1) (dv 0) (dv 2))))))) (fun _ _ _ h => h.2)
/-! #### is_key -/
abbrev stis_key : Stmt := topS 24
theorem scis_key : FnScope ["thing", "sign"] ["thing"] (defScope stis_key) := ⟨rfl, rfl, rfl, by decide +kernel, rfl, by decide +kernel, by decide +kernel⟩
def r_is_key : TDS := (sRet (dAndV (dIsi (dVar 0) "str") (dAndV (dChain (kI0 fun i j => .bool (decide (i ≤ j))) (kI0 fun i j => .bool (decide (i ≤ j))) (dC (.int 1)) (dLenA (daCons (dVar 0) daNil)) (dC (.int 4))) (dCB kAll (daCons (dLcXA (dVar 0) 1 dYes (dOp (kInS false) (dVar 1) (dC (.str (Str.ofString "abcdefghijklmnopqrstuvwxyz")))) [1]) daNil)))))
def s_is_key : DSp := ownSp 1 1 r_is_key
theorem ok_is_key {f : Addr} {fd : FuncData} (F : Fun K "is_key" "is_key" stis_key f fd) (z_all : mg "all" = none) (z_isinstance : mg "isinstance" = none) (z_len : mg "len" = none) (z_str : mg "str" = none) (g_LETTERS : GlobD K mg "LETTERS" (.str (Str.ofString "abcdefghijklmnopqrstuvwxyz"))) (g_MOST_LETTERS : GlobD K mg "MOST_LETTERS" (.int 4)) : FnOk P w K mg base CX0 (0 + 1) f fd ["thing"] (spD K 1 s_is_key) :=
  fnD F scis_key rfl r_is_key (fun cdv A outer s H E hr =>
    (dss_one (ds_ret (dv_and (dv_isi (dv 0) rfl z_isinstance (by decide +kernel) rfl z_str (by decide +kernel)) (dv_and (dv_chain op_le op_le (od_B0 _) (od_B0 _) dv_int (dv_lenA rfl z_len (by decide +kernel) (da_cons (dv 0) da_nil)) (dv_gd g_MOST_LETTERS rfl)) (dv_one (dv_callB (cr_all rfl) cd_all rfl z_all (by decide +kernel) (da_cons (dv_lcXA (own := [("sign", 1)]) rfl scis_key.nd (dv 0) (by exact ⟨blkOk_by (N := (["thing", "sign"] : List Str)) (sc := defScope stis_key) (own := [("sign", 1)]) (by decide +kernel), by decide, fun _ _ _ _ _ => pg_k scis_key.nd rfl (.inl rfl), fun _ _ _ _ _ => dts_nil, fun _ _ _ _ _ => (dv_cmp op_in_sign od_inS (dv 1) (dv_gd g_LETTERS rfl) (by rfl))⟩)) da_nil)))))))) (fun _ _ _ h => h.2)
/-! #### is_deed -/
abbrev stis_deed : Stmt := topS 25
theorem scis_deed : FnScope ["thing"] ["thing"] (defScope stis_deed) := ⟨rfl, rfl, rfl, by decide +kernel, rfl, by decide +kernel, by decide +kernel⟩
def r_is_deed : TDS := (sSeq (sIf (dOr (dNot (dTest (dIsi (dVar 0) "tuple"))) (dOr (dTest (dOp (kEqA (!·)) (dLenA (daCons (dVar 0) daNil)) (dC (.int 3)))) (dOr (dTest (dOp (kInZ true) (dIxA (dVar 0) (dC (.int 0))) (dTup (dfCons (dC (.str (Str.ofString "read"))) (dfCons (dC (.str (Str.ofString "write"))) dfNil))))) (dNot (dTest (dCall s_is_key (dfCons (dIxA (dVar 0) (dC (.int 1))) dfNil))))))) (sRet (dC (.bool false))) sNext) (sRet (dCall s_is_number (dfCons (dIxA (dVar 0) (dC (.int 2))) (dfCons (dCB kInt (daCons (dOp (kEqA id) (dIxA (dVar 0) (dC (.int 0))) (dC (.str (Str.ofString "write")))) daNil)) (dfCons (dC (.int 999999)) dfNil))))))
def s_is_deed : DSp := ownSp 1 0 r_is_deed
theorem ok_is_deed {f : Addr} {fd : FuncData} (F : Fun K "is_deed" "is_deed" stis_deed f fd) (z_int : mg "int" = none) (z_isinstance : mg "isinstance" = none) (z_len : mg "len" = none) (z_tuple : mg "tuple" = none) (g_MOST_NUMBER : GlobD K mg "MOST_NUMBER" (.int 999999)) {gis_key : Addr} {gdis_key : FuncData} (G_is_key : FnOk P w K mg base CX0 1 gis_key gdis_key ["thing"] (spD K 1 s_is_key)) (b_is_key : Binds K gdis_key ["thing"] []) (k_is_key : PySem.W.keepIn K (.ref gis_key) = true) (m_is_key : mg "is_key" = some (.ref gis_key)) {gis_number : Addr} {gdis_number : FuncData} (G_is_number : FnOk P w K mg base CX0 2 gis_number gdis_number ["thing", "least", "most"] (spD K 3 s_is_number)) (b_is_number : Binds K gdis_number ["thing", "least", "most"] []) (k_is_number : PySem.W.keepIn K (.ref gis_number) = true) (m_is_number : mg "is_number" = some (.ref gis_number)) : FnOk P w K mg base CX0 (2 + 1) f fd ["thing"] (spD K 1 s_is_deed) :=
  fnD F scis_deed rfl r_is_deed (fun cdv A outer s H E hr =>
    (dss_cons (ds_if (PW.pt (dw_or (dt_not (dt_val (dv_isi (dv 0) rfl z_isinstance (by decide +kernel) rfl z_tuple (by decide +kernel)))) (dw_or (dt_cmp (op_neA hr.units) od_neA (dv_lenA rfl z_len (by decide +kernel) (da_cons (dv 0) da_nil)) dv_int (nomark _)) (dw_or (dt_cmp (op_notInZA hr.units) (od_inZ true) (dv_ixA (dv 0) dv_int (fun _ _ => rfl)) (dv_tup (df_cons dv_str (df_cons dv_str df_nil))) (by rfl)) (dw_or1 (dt_not (dt_val (dv_call G_is_key (ownSp_len) (hr.mono (by decide)) rfl m_is_key k_is_key b_is_key (df_cons (dv_ixA (dv 0) dv_int (fun _ _ => rfl)) df_nil))))))))) (dss_one (ds_ret dv_bl)) dss_nil)
    (dss_one (ds_ret (dv_call G_is_number (ownSp_len) (hr.mono (by decide)) rfl m_is_number k_is_number b_is_number (df_cons (dv_ixA (dv 0) dv_int (fun _ _ => rfl)) (df_cons (dv_callTy call_int1 cd_int rfl z_int (by decide +kernel) (da_cons (dv_cmp (op_eqA hr.units) od_eqA (dv_ixA (dv 0) dv_int (fun _ _ => rfl)) dv_str (nomark _)) da_nil)) (df_cons (dv_gd g_MOST_NUMBER rfl) df_nil)))))))) (fun _ _ _ h => h.2)
/-! #### is_deal -/
abbrev stis_deal : Stmt := topS 26
theorem scis_deal : FnScope ["thing", "deed"] ["thing"] (defScope stis_deal) := ⟨rfl, rfl, rfl, by decide +kernel, rfl, by decide +kernel, by decide +kernel⟩
def r_is_deal : TDS := (sSeq (sIf (dOr (dNot (dTest (dIsi (dVar 0) "tuple"))) (dOr (dTest (dOp (kEqA (!·)) (dLenA (daCons (dVar 0) daNil)) (dC (.int 5)))) (dTest (dOp (kInZ true) (dIxA (dVar 0) (dC (.int 4))) (dTup (dfCons (dC (.str (Str.ofString "kept"))) (dfCons (dC (.str (Str.ofString "dropped"))) dfNil))))))) (sRet (dC (.bool false))) sNext) (sSeq (sIf (dOr (dNot (dTest (dCall s_is_number (dfCons (dIxA (dVar 0) (dC (.int 0))) (dfCons (dC (.int 0)) (dfCons (dC (.int 4)) dfNil)))))) (dOr (dNot (dTest (dIsi (dIxA (dVar 0) (dC (.int 3))) "tuple"))) (dTest (dOp (kI0 fun i j => .bool (decide (j < i))) (dLenA (daCons (dIxA (dVar 0) (dC (.int 3))) daNil)) (dC (.int 8)))))) (sRet (dC (.bool false))) sNext) (sSeq (sIf (dOr (dNot (dTest (dCall s_is_number (dfCons (dIxA (dVar 0) (dC (.int 1))) (dfCons (dC (.int 0)) (dfCons (dC (.int 9999)) dfNil)))))) (dOr (dNot (dTest (dCall s_is_number (dfCons (dIxA (dVar 0) (dC (.int 2))) (dfCons (dC (.int 0)) (dfCons (dC (.int 9999)) dfNil)))))) (dTest (dOp (kI0 fun i j => .bool (decide (j ≤ i))) (dIxA (dVar 0) (dC (.int 1))) (dIxA (dVar 0) (dC (.int 2))))))) (sRet (dC (.bool false))) sNext) (sRet (dCB kAll (daCons (dLcXA (dIxA (dVar 0) (dC (.int 3))) 1 dYes (dCall s_is_deed (dfCons (dVar 1) dfNil)) [1]) daNil))))))
def s_is_deal : DSp := ownSp 1 1 r_is_deal
theorem ok_is_deal {f : Addr} {fd : FuncData} (F : Fun K "is_deal" "is_deal" stis_deal f fd) (z_all : mg "all" = none) (z_isinstance : mg "isinstance" = none) (z_len : mg "len" = none) (z_tuple : mg "tuple" = none) (g_MOST_DEEDS : GlobD K mg "MOST_DEEDS" (.int 8)) (g_MOST_HAND : GlobD K mg "MOST_HAND" (.int 4)) (g_MOST_MOMENT : GlobD K mg "MOST_MOMENT" (.int 9999)) {gis_number : Addr} {gdis_number : FuncData} (G_is_number : FnOk P w K mg base CX0 2 gis_number gdis_number ["thing", "least", "most"] (spD K 3 s_is_number)) (b_is_number : Binds K gdis_number ["thing", "least", "most"] []) (k_is_number : PySem.W.keepIn K (.ref gis_number) = true) (m_is_number : mg "is_number" = some (.ref gis_number)) {gis_deed : Addr} {gdis_deed : FuncData} (G_is_deed : FnOk P w K mg base CX0 3 gis_deed gdis_deed ["thing"] (spD K 1 s_is_deed)) (b_is_deed : Binds K gdis_deed ["thing"] []) (k_is_deed : PySem.W.keepIn K (.ref gis_deed) = true) (m_is_deed : mg "is_deed" = some (.ref gis_deed)) : FnOk P w K mg base CX0 (3 + 1) f fd ["thing"] (spD K 1 s_is_deal) :=
  fnD F scis_deal rfl r_is_deal (fun cdv A outer s H E hr =>
    (dss_cons (ds_if (PW.pt (dw_or (dt_not (dt_val (dv_isi (dv 0) rfl z_isinstance (by decide +kernel) rfl z_tuple (by decide +kernel)))) (dw_or (dt_cmp (op_neA hr.units) od_neA (dv_lenA rfl z_len (by decide +kernel) (da_cons (dv 0) da_nil)) dv_int (nomark _)) (dw_or1 (dt_cmp (op_notInZA hr.units) (od_inZ true) (dv_ixA (dv 0) dv_int (fun _ _ => rfl)) (dv_tup (df_cons dv_str (df_cons dv_str df_nil))) (by rfl)))))) (dss_one (ds_ret dv_bl)) dss_nil)
    (dss_cons (ds_if (PW.pt (dw_or (dt_not (dt_val (dv_call G_is_number (ownSp_len) (hr.mono (by decide)) rfl m_is_number k_is_number b_is_number (df_cons (dv_ixA (dv 0) dv_int (fun _ _ => rfl)) (df_cons dv_int (df_cons (dv_gd g_MOST_HAND rfl) df_nil)))))) (dw_or (dt_not (dt_val (dv_isi (dv_ixA (dv 0) dv_int (fun _ _ => rfl)) rfl z_isinstance (by decide +kernel) rfl z_tuple (by decide +kernel)))) (dw_or1 (dt_cmp op_gt (od_B0 _) (dv_lenA rfl z_len (by decide +kernel) (da_cons (dv_ixA (dv 0) dv_int (fun _ _ => rfl)) da_nil)) (dv_gd g_MOST_DEEDS rfl) (nomark _)))))) (dss_one (ds_ret dv_bl)) dss_nil)
    (dss_cons (ds_if (PW.pt (dw_or (dt_not (dt_val (dv_call G_is_number (ownSp_len) (hr.mono (by decide)) rfl m_is_number k_is_number b_is_number (df_cons (dv_ixA (dv 0) dv_int (fun _ _ => rfl)) (df_cons dv_int (df_cons (dv_gd g_MOST_MOMENT rfl) df_nil)))))) (dw_or (dt_not (dt_val (dv_call G_is_number (ownSp_len) (hr.mono (by decide)) rfl m_is_number k_is_number b_is_number (df_cons (dv_ixA (dv 0) dv_int (fun _ _ => rfl)) (df_cons dv_int (df_cons (dv_gd g_MOST_MOMENT rfl) df_nil)))))) (dw_or1 (dt_cmp op_ge (od_B0 _) (dv_ixA (dv 0) dv_int (fun _ _ => rfl)) (dv_ixA (dv 0) dv_int (fun _ _ => rfl)) (nomark _)))))) (dss_one (ds_ret dv_bl)) dss_nil)
    (dss_one (ds_ret (dv_callB (cr_all rfl) cd_all rfl z_all (by decide +kernel) (da_cons (dv_lcXA (own := [("deed", 1)]) rfl scis_deal.nd (dv_ixA (dv 0) dv_int (fun _ _ => rfl)) (by exact ⟨blkOk_by (N := (["thing", "deed"] : List Str)) (sc := defScope stis_deal) (own := [("deed", 1)]) (by decide +kernel), by decide, fun _ _ _ _ _ => pg_k scis_deal.nd rfl (.inl rfl), fun _ _ _ _ _ => dts_nil, fun _ _ _ _ _ => (dv_call G_is_deed (ownSp_len) (hr.mono (by decide)) rfl m_is_deed k_is_deed b_is_deed (df_cons (dv 1) df_nil))⟩)) da_nil)))))))) (fun _ _ _ h => h.2)
/-! #### is_history -/
abbrev stis_history : Stmt := topS 29
theorem scis_history : FnScope ["thing", "deal", "moments", "numbers", "keys", "deed"] ["thing"] (defScope stis_history) := ⟨rfl, rfl, rfl, by decide +kernel, rfl, by decide +kernel, by decide +kernel⟩
def b_is_history_1 : TDS := (sSeq (sAugL 2 (dLst (dfCons (dIxA (dVar 1) (dC (.int 1))) (dfCons (dIxA (dVar 1) (dC (.int 2))) dfNil)))) (sSeq (sAugL 3 (dLcXA (dIxA (dVar 1) (dC (.int 3))) 5 (dTest (dOp (kEqA id) (dIxA (dVar 5) (dC (.int 0))) (dC (.str (Str.ofString "write"))))) (dIxA (dVar 5) (dC (.int 2))) [5])) (sAugL 4 (dLcXA (dIxA (dVar 1) (dC (.int 3))) 5 dYes (dIxA (dVar 5) (dC (.int 1))) [5]))))
theorem b_is_history_1_eq {D : DEnds} {ε : Ep} : ev (b_is_history_1 D ε) = ev ((sSeq (sAugL 2 (dLst (dfCons (dIxA (dVar 1) (dC (.int 1))) (dfCons (dIxA (dVar 1) (dC (.int 2))) dfNil)))) (sSeq (sAugL 3 (dLcXA (dIxA (dVar 1) (dC (.int 3))) 5 (dTest (dOp (kEqA id) (dIxA (dVar 5) (dC (.int 0))) (dC (.str (Str.ofString "write"))))) (dIxA (dVar 5) (dC (.int 2))) [5])) (sAugL 4 (dLcXA (dIxA (dVar 1) (dC (.int 3))) 5 dYes (dIxA (dVar 5) (dC (.int 1))) [5])))) D ε) := rfl
def r_is_history : TDS := (sSeq (sIf (dOr (dNot (dTest (dIsi (dVar 0) "tuple"))) (dOr (dTest (dOp (kI0 fun i j => .bool (decide (j < i))) (dLenA (daCons (dVar 0) daNil)) (dC (.int 12)))) (dNot (dTest (dCB kAll (daCons (dLcXA (dVar 0) 1 dYes (dCall s_is_deal (dfCons (dVar 1) dfNil)) [1]) daNil)))))) (sRet (dC (.bool false))) sNext) (sSeq (sNil3 2 3 4) (sSeq (sForX 1 (dVar 0) b_is_history_1) (sRet (dAndV (dCall s_are_unlike (dfCons (dVar 2) dfNil)) (dAndV (dCall s_are_unlike (dfCons (dVar 3) dfNil)) (dAndV (dOp (kI0 fun i j => .bool (decide (i ≤ j))) (dUn kLS (dVar 4)) (dC (.int 5))) (dCall s_goes_on (dfCons (dVar 0) dfNil)))))))))
def s_is_history : DSp := ownSp 1 5 r_is_history
theorem ok_is_history {f : Addr} {fd : FuncData} (F : Fun K "is_history" "is_history" stis_history f fd) (z_all : mg "all" = none) (z_isinstance : mg "isinstance" = none) (z_len : mg "len" = none) (z_set : mg "set" = none) (z_tuple : mg "tuple" = none) (g_MOST_DEALS : GlobD K mg "MOST_DEALS" (.int 12)) (g_MOST_KEYS : GlobD K mg "MOST_KEYS" (.int 5)) {gis_deal : Addr} {gdis_deal : FuncData} (G_is_deal : FnOk P w K mg base CX0 4 gis_deal gdis_deal ["thing"] (spD K 1 s_is_deal)) (b_is_deal : Binds K gdis_deal ["thing"] []) (k_is_deal : PySem.W.keepIn K (.ref gis_deal) = true) (m_is_deal : mg "is_deal" = some (.ref gis_deal)) {gare_unlike : Addr} {gdare_unlike : FuncData} (G_are_unlike : FnOk P w K mg base CX0 1 gare_unlike gdare_unlike ["things"] (spD K 1 s_are_unlike)) (b_are_unlike : Binds K gdare_unlike ["things"] []) (k_are_unlike : PySem.W.keepIn K (.ref gare_unlike) = true) (m_are_unlike : mg "are_unlike" = some (.ref gare_unlike)) {ggoes_on : Addr} {gdgoes_on : FuncData} (G_goes_on : FnOk P w K mg base CX0 1 ggoes_on gdgoes_on ["tale"] (spD K 1 s_goes_on)) (b_goes_on : Binds K gdgoes_on ["tale"] []) (k_goes_on : PySem.W.keepIn K (.ref ggoes_on) = true) (m_goes_on : mg "goes_on" = some (.ref ggoes_on)) : FnOk P w K mg base CX0 (4 + 1) f fd ["thing"] (spD K 1 s_is_history) :=
  fnD F scis_history rfl r_is_history (fun cdv A outer s H E hr =>
    (dss_cons (ds_if (PW.pt (dw_or (dt_not (dt_val (dv_isi (dv 0) rfl z_isinstance (by decide +kernel) rfl z_tuple (by decide +kernel)))) (dw_or (dt_cmp op_gt (od_B0 _) (dv_lenA rfl z_len (by decide +kernel) (da_cons (dv 0) da_nil)) (dv_gd g_MOST_DEALS rfl) (nomark _)) (dw_or1 (dt_not (dt_val (dv_callB (cr_all rfl) cd_all rfl z_all (by decide +kernel) (da_cons (dv_lcXA (own := [("deal", 1)]) rfl scis_history.nd (dv 0) (by exact ⟨blkOk_by (N := (["thing", "deal", "moments", "numbers", "keys", "deed"] : List Str)) (sc := defScope stis_history) (own := [("deal", 1)]) (by decide +kernel), by decide, fun _ _ _ _ _ => pg_k scis_history.nd rfl (.inl rfl), fun _ _ _ _ _ => dts_nil, fun _ _ _ _ _ => (dv_call G_is_deal (ownSp_len) (hr.mono (by decide)) rfl m_is_deal k_is_deal b_is_deal (df_cons (dv 1) df_nil))⟩)) da_nil)))))))) (dss_one (ds_ret dv_bl)) dss_nil)
    (dss_cons (ds_nil3 (i := 2) (j := 3) (l := 4) rfl scis_history.nd rfl rfl rfl (by decide) (by decide) (by decide) rfl rfl rfl (pa_cons (pe_lst pa_nil) (pa_cons (pe_lst pa_nil) (pa_cons (pe_lst pa_nil) pa_nil))) (by rfl))
    (dss_cons (ds_forX (n := 1) PassesOwn.never rfl scis_history.nd rfl (.inl rfl) (dv 0) (dss_cons (ds_augL (j := 2) scis_history.nd rfl (.inl rfl) (dv_lst (df_cons (dv_ixA (dv 1) dv_int (fun _ _ => rfl)) (df_cons (dv_ixA (dv 1) dv_int (fun _ _ => rfl)) df_nil))))
    (dss_cons (ds_augL (j := 3) scis_history.nd rfl (.inl rfl) (dv_lcXA (own := [("deed", 5)]) rfl scis_history.nd (dv_ixA (dv 1) dv_int (fun _ _ => rfl)) (by exact ⟨blkOk_by (N := (["thing", "deal", "moments", "numbers", "keys", "deed"] : List Str)) (sc := defScope stis_history) (own := [("deed", 5)]) (by decide +kernel), by decide, fun _ _ _ _ _ => pg_k scis_history.nd rfl (.inl rfl), fun _ _ _ _ _ => (dts_one (dt_cmp (op_eqA hr.units) od_eqA (dv_ixA (dv 5) dv_int (fun _ _ => rfl)) dv_str (nomark _))), fun _ _ _ _ _ => (dv_ixA (dv 5) dv_int (fun _ _ => rfl))⟩)))
    (dss_one (ds_augL (j := 4) scis_history.nd rfl (.inl rfl) (dv_lcXA (own := [("deed", 5)]) rfl scis_history.nd (dv_ixA (dv 1) dv_int (fun _ _ => rfl)) (by exact ⟨blkOk_by (N := (["thing", "deal", "moments", "numbers", "keys", "deed"] : List Str)) (sc := defScope stis_history) (own := [("deed", 5)]) (by decide +kernel), by decide, fun _ _ _ _ _ => pg_k scis_history.nd rfl (.inl rfl), fun _ _ _ _ _ => dts_nil, fun _ _ _ _ _ => (dv_ixA (dv 5) dv_int (fun _ _ => rfl))⟩)))))))
    (dss_one (ds_ret (dv_and (dv_call G_are_unlike (ownSp_len) (hr.mono (by decide)) rfl m_are_unlike k_are_unlike b_are_unlike (df_cons (dv 2) df_nil)) (dv_and (dv_call G_are_unlike (ownSp_len) (hr.mono (by decide)) rfl m_are_unlike k_are_unlike b_are_unlike (df_cons (dv 3) df_nil)) (dv_and (dv_cmp op_le (od_B0 _) (dv_lenSet rfl rfl z_len rfl z_set (dv 4)) (dv_gd g_MOST_KEYS rfl) (nomark _)) (dv_one (dv_call G_goes_on (ownSp_len) (hr.mono (by decide)) rfl m_goes_on k_goes_on b_goes_on (df_cons (dv 0) df_nil)))))))))))) (fun _ _ _ h => h.2)
/-! #### need_history -/
abbrev stneed_history : Stmt := topS 30
theorem scneed_history : FnScope ["thing"] ["thing"] (defScope stneed_history) := ⟨rfl, rfl, rfl, by decide +kernel, rfl, by decide +kernel, by decide +kernel⟩
def r_need_history : TDS := (sIf (dNot (dTest (dCall s_is_history (dfCons (dVar 0) dfNil)))) (sRaise "NoHistory") sNext)
def s_need_history : DSpX := ownSpX 1 0 r_need_history
theorem ok_need_history {f : Addr} {fd : FuncData} (F : Fun K "need_history" "need_history" stneed_history f fd) (E_NoHistory : ExRs K mg "NoHistory") {gis_history : Addr} {gdis_history : FuncData} (G_is_history : FnOk P w K mg base CX0 5 gis_history gdis_history ["thing"] (spD K 1 s_is_history)) (b_is_history : Binds K gdis_history ["thing"] []) (k_is_history : PySem.W.keepIn K (.ref gis_history) = true) (m_is_history : mg "is_history" = some (.ref gis_history)) : FnOk P w K mg base (L2.CX P w) (5 + 1) f fd ["thing"] (spDX K 1 s_need_history) :=
  fnDX F scneed_history rfl r_need_history (fun cdv A outer s H E hr tk =>
    (dss_one (ds_if (dt_not (dt_val (dv_call G_is_history (ownSp_len) (hr.mono (by decide)) rfl m_is_history k_is_history b_is_history (df_cons (dv 0) df_nil)))) (dss_one (ds_raise rfl tk E_NoHistory rfl)) dss_nil))) (fun _ _ _ _ h => h.2)
/-! #### _law_class -/
abbrev stqclass : Stmt := topS 42
theorem scqclass : FnScope ["_law_e", "_law_some", "_law_names"] ["_law_e"] (defScope stqclass) := ⟨rfl, rfl, rfl, by decide +kernel, rfl, by decide +kernel, by decide +kernel⟩
def r_qclass : TDS := (sSeq (sSet 1 (dLst (dfCons (dIsx (dVar 0) xi_NoHistory) (dfCons (dIsx (dVar 0) xi_NotSound) (dfCons (dIsx (dVar 0) xi_NoOrders) (dfCons (dIsx (dVar 0) xi_NoKind) dfNil)))))) (sSeq (sSet 1 (dOp kAdd (dVar 1) (dLst (dfCons (dIsx (dVar 0) xi_NoDeal) (dfCons (dIsx (dVar 0) xi_TooMany) (dfCons (dIsx (dVar 0) xi_IsYes) (dfCons (dIsx (dVar 0) xi_NoHands) dfNil))))))) (sSeq (sSet 1 (dOp kAdd (dVar 1) (dLst (dfCons (dIsx (dVar 0) xi_NoStore) (dfCons (dIsx (dVar 0) xi_NoLog) (dfCons (dIsx (dVar 0) xi_NoText) dfNil)))))) (sSeq (sIf (dOr (dTest (dOp (kEqA (!·)) (dMeth "list" kCount (dVar 1) (dfCons (dC (.bool true)) dfNil)) (dC (.int 1)))) (dNot (dTest (dIsx (dVar 0) xi_ValueError)))) (sRet (dC (.str (Str.ofString "several")))) sNext) (sSeq (sSet 2 (dLst (dfCons (dC (.str (Str.ofString "history"))) (dfCons (dC (.str (Str.ofString "sound"))) (dfCons (dC (.str (Str.ofString "orders"))) (dfCons (dC (.str (Str.ofString "kind"))) (dfCons (dC (.str (Str.ofString "deal"))) (dfCons (dC (.str (Str.ofString "much"))) (dfCons (dC (.str (Str.ofString "yes"))) (dfCons (dC (.str (Str.ofString "hands"))) (dfCons (dC (.str (Str.ofString "store"))) (dfCons (dC (.str (Str.ofString "log"))) (dfCons (dC (.str (Str.ofString "text"))) dfNil))))))))))))) (sRet (dIxA (dVar 2) (dMeth "list" kIndex (dVar 1) (dfCons (dC (.bool true)) dfNil)))))))))
def s_qclass : DSp := ownSp 1 2 r_qclass
theorem ok_qclass {f : Addr} {fd : FuncData} (F : Fun K "_law_class" "_law_class" stqclass f fd) (z_ValueError : mg "ValueError" = none) (z_isinstance : mg "isinstance" = none) (T_IsYes : ExIs K mg "IsYes" xi_IsYes) (T_NoDeal : ExIs K mg "NoDeal" xi_NoDeal) (T_NoHands : ExIs K mg "NoHands" xi_NoHands) (T_NoHistory : ExIs K mg "NoHistory" xi_NoHistory) (T_NoKind : ExIs K mg "NoKind" xi_NoKind) (T_NoLog : ExIs K mg "NoLog" xi_NoLog) (T_NoOrders : ExIs K mg "NoOrders" xi_NoOrders) (T_NoStore : ExIs K mg "NoStore" xi_NoStore) (T_NoText : ExIs K mg "NoText" xi_NoText) (T_NotSound : ExIs K mg "NotSound" xi_NotSound) (T_TooMany : ExIs K mg "TooMany" xi_TooMany) (T_ValueError : ExTy K (.type "ValueError") xi_ValueError) : FnOk P w K mg base CX0 (0 + 1) f fd ["_law_e"] (spD K 1 s_qclass) :=
  fnD F scqclass rfl r_qclass (fun cdv A outer s H E hr =>
    (dss_cons (ds_set (i := 1) scqclass.nd rfl (.inl rfl) (dv_lst (df_cons (dv_isx (dv 0) rfl z_isinstance (by decide +kernel) rfl T_NoHistory) (df_cons (dv_isx (dv 0) rfl z_isinstance (by decide +kernel) rfl T_NotSound) (df_cons (dv_isx (dv 0) rfl z_isinstance (by decide +kernel) rfl T_NoOrders) (df_cons (dv_isx (dv 0) rfl z_isinstance (by decide +kernel) rfl T_NoKind) df_nil))))))
    (dss_cons (ds_set (i := 1) scqclass.nd rfl (.inl rfl) (dv_op op_addA od_addA (dv 1) (dv_lst (df_cons (dv_isx (dv 0) rfl z_isinstance (by decide +kernel) rfl T_NoDeal) (df_cons (dv_isx (dv 0) rfl z_isinstance (by decide +kernel) rfl T_TooMany) (df_cons (dv_isx (dv 0) rfl z_isinstance (by decide +kernel) rfl T_IsYes) (df_cons (dv_isx (dv 0) rfl z_isinstance (by decide +kernel) rfl T_NoHands) df_nil)))))))
    (dss_cons (ds_set (i := 1) scqclass.nd rfl (.inl rfl) (dv_op op_addA od_addA (dv 1) (dv_lst (df_cons (dv_isx (dv 0) rfl z_isinstance (by decide +kernel) rfl T_NoStore) (df_cons (dv_isx (dv 0) rfl z_isinstance (by decide +kernel) rfl T_NoLog) (df_cons (dv_isx (dv 0) rfl z_isinstance (by decide +kernel) rfl T_NoText) df_nil))))))
    (dss_cons (ds_if (PW.pt (dw_or (dt_cmp (op_neA hr.units) od_neA (dv_meth PySem.F.plainAttrs_list PySem.F.slot_list_count PySem.F.type_list_count (mt_countD hr.units) me_countD (dv 1) (df_cons dv_bl df_nil)) dv_int (nomark _)) (dw_or1 (dt_not (dt_val (dv_isxB (dv 0) rfl z_isinstance (by decide +kernel) rfl z_ValueError (by decide +kernel) T_ValueError)))))) (dss_one (ds_ret dv_str)) dss_nil)
    (dss_cons (ds_set (i := 2) scqclass.nd rfl (.inl rfl) (dv_lst (df_cons dv_str (df_cons dv_str (df_cons dv_str (df_cons dv_str (df_cons dv_str (df_cons dv_str (df_cons dv_str (df_cons dv_str (df_cons dv_str (df_cons dv_str (df_cons dv_str df_nil)))))))))))))
    (dss_one (ds_ret (dv_ixA (dv 2) (dv_meth PySem.F.plainAttrs_list PySem.F.slot_list_index PySem.F.type_list_index (mt_indexD (units65 hr)) me_indexD (dv 1) (df_cons dv_bl df_nil)) (fun _ _ => rfl)))))))))) (fun _ _ _ h => h.2)
/-! #### _law_need -/
abbrev stqneed : Stmt := topS 47
theorem scqneed : FnScope ["_law_thing", "_law_error", "_law_e"] ["_law_thing"] (defScope stqneed) := ⟨rfl, rfl, rfl, by decide +kernel, rfl, by decide +kernel, by decide +kernel⟩
def b_qneed_1 : TDS := (sExprX (dCallX s_need_history (dmF (dVar 0) daNil)))
theorem b_qneed_1_eq {D : DEnds} {ε : Ep} : ev (b_qneed_1 D ε) = ev ((sExprX (dCallX s_need_history (dmF (dVar 0) daNil))) D ε) := rfl
def r_qneed : TDS := (sSeq (sSet 1 (dC .none)) (sSeq (sTry b_qneed_1 2 1 xc_CourtError) (sRet (dIfE (dTest (dIsNx false (dVar 1))) (dC .none) (dCallM s_qclass (dmF (dVar 1) daNil))))))
def s_qneed : DSp := ownSp 1 2 r_qneed
theorem ok_qneed {f : Addr} {fd : FuncData} (F : Fun K "_law_need" "_law_need" stqneed f fd) (C_CourtError : ExCt K mg "CourtError" xc_CourtError) {gneed_history : Addr} {gdneed_history : FuncData} (G_need_history : FnOk P w K mg base (L2.CX P w) 6 gneed_history gdneed_history ["thing"] (spDX K 1 s_need_history)) (b_need_history : Binds K gdneed_history ["thing"] []) (k_need_history : PySem.W.keepIn K (.ref gneed_history) = true) (m_need_history : mg "need_history" = some (.ref gneed_history)) {gqclass : Addr} {gdqclass : FuncData} (G_qclass : FnOk P w K mg base CX0 1 gqclass gdqclass ["_law_e"] (spD K 1 s_qclass)) (b_qclass : Binds K gdqclass ["_law_e"] []) (k_qclass : PySem.W.keepIn K (.ref gqclass) = true) (m_qclass : mg "_law_class" = some (.ref gqclass)) : FnOk P w K mg base CX0 (6 + 1) f fd ["_law_thing"] (spD K 1 s_qneed) :=
  fnD F scqneed rfl r_qneed (fun cdv A outer s H E hr =>
    (dss_cons (ds_set (i := 1) scqneed.nd rfl (.inl rfl) dv_non)
    (dss_cons (ds_try (i := 2) (j := 1) rfl rfl rfl scqneed.nd rfl rfl (by decide) rfl rfl rfl (by decide) C_CourtError takes_noW (fun W pn xe tk hp => (dss_one (ds_exprX (dv_callX tk G_need_history ownSpX_len (hr.mono (by decide)) rfl m_need_history k_need_history b_need_history (da_consF (dv 0) da_nil)))))
      (fun a oe pn' => pss_one (ps_set (i := 1) scqneed.nd rfl (.inl rfl) (pv 2))))
    (dss_one (ds_ret (dv_if (dt_isN (dv 1)) dv_non (dv_callM G_qclass ownSp_len (hr.mono (by decide)) rfl m_qclass k_qclass b_qclass (da_consF (dv 1) da_nil)))))))) (fun _ _ _ h => h.2)
/-! #### _law_told -/
abbrev stqtold : Stmt := topS 48
theorem scqtold : FnScope ["_law_thing", "_law_due", "_law_answer"] ["_law_thing", "_law_due"] (defScope stqtold) := ⟨rfl, rfl, rfl, by decide +kernel, rfl, by decide +kernel, by decide +kernel⟩
def r_qtold : TDS := (sSeq (sSet 2 (dCall s_is_history (dfCons (dVar 0) dfNil))) (sRet (dAndV (dIsi (dVar 2) "bool") (dAndV (dOp (kEqA id) (dVar 2) (dVar 1)) (dOp (kEqA id) (dCall s_qneed (dfCons (dVar 0) dfNil)) (dIxA (dLst (dfCons (dC .none) (dfCons (dC (.str (Str.ofString "history"))) dfNil))) (dCB kInt (daCons (dNotV (dVar 1)) daNil))))))))
def s_qtold : DSp := ownSp 2 1 r_qtold
theorem ok_qtold {f : Addr} {fd : FuncData} (F : Fun K "_law_told" "_law_told" stqtold f fd) (z_bool : mg "bool" = none) (z_int : mg "int" = none) (z_isinstance : mg "isinstance" = none) {gis_history : Addr} {gdis_history : FuncData} (G_is_history : FnOk P w K mg base CX0 5 gis_history gdis_history ["thing"] (spD K 1 s_is_history)) (b_is_history : Binds K gdis_history ["thing"] []) (k_is_history : PySem.W.keepIn K (.ref gis_history) = true) (m_is_history : mg "is_history" = some (.ref gis_history)) {gqneed : Addr} {gdqneed : FuncData} (G_qneed : FnOk P w K mg base CX0 7 gqneed gdqneed ["_law_thing"] (spD K 1 s_qneed)) (b_qneed : Binds K gdqneed ["_law_thing"] []) (k_qneed : PySem.W.keepIn K (.ref gqneed) = true) (m_qneed : mg "_law_need" = some (.ref gqneed)) : FnOk P w K mg base CX0 (7 + 1) f fd ["_law_thing", "_law_due"] (spD K 2 s_qtold) :=
  fnD F scqtold rfl r_qtold (fun cdv A outer s H E hr =>
    (dss_cons (ds_set (i := 2) scqtold.nd rfl (.inl rfl) (dv_call G_is_history (ownSp_len) (hr.mono (by decide)) rfl m_is_history k_is_history b_is_history (df_cons (dv 0) df_nil)))
    (dss_one (ds_ret (dv_and (dv_isi (dv 2) rfl z_isinstance (by decide +kernel) rfl z_bool (by decide +kernel)) (dv_and (dv_cmp (op_eqA hr.units) od_eqA (dv 2) (dv 1) (nomark _)) (dv_one (dv_cmp (op_eqA hr.units) od_eqA (dv_call G_qneed (ownSp_len) (hr.mono (by decide)) rfl m_qneed k_qneed b_qneed (df_cons (dv 0) df_nil)) (dv_ixA (dv_lst (df_cons dv_non (df_cons dv_str df_nil))) (dv_callTy call_int1 cd_int rfl z_int (by decide +kernel) (da_cons (dv_not (dv 1)) da_nil)) (fun _ _ => rfl)) (nomark _))))))))) (fun _ _ _ h => h.2)
/-! #### _law_keys_told -/
abbrev stqkeys_told : Stmt := topS 49
theorem scqkeys_told : FnScope ["_law_state_here", "_law_letters", "_law_good", "_law_k", "_law_some", "_law_bad"] ["_law_state_here"] (defScope stqkeys_told) := ⟨rfl, rfl, rfl, by decide +kernel, rfl, by decide +kernel, by decide +kernel⟩
def r_qkeys_told : TDS := (sSeq (sSet 1 (dC (.str (Str.ofString "abcdefghijklmnopqrstuvwxyz")))) (sSeq (sSet 2 (dJoinC (Str.ofString "") (dLcXR (daCons (dOp kAdd (dC (.int 1)) (dCallM s_qnext (daCons (dVar 0) (dmF (dC (.int 4)) daNil)))) daNil) 3 dYes (dIxA (dVar 1) (dCallM s_qnext (daCons (dVar 0) (dmF (dC (.int 26)) daNil)))) [3]))) (sSeq (sSet 4 (dLst (dfCons (dC (.str (Str.ofString ""))) (dfCons (dOp kAdd (dVar 2) (dC (.str (Str.ofString "abcd")))) (dfCons (dC (.str (Str.ofString "A"))) (dfCons (dC (.str (Str.ofString "a1"))) (dfCons (dC (.str (Str.ofString "a b"))) (dfCons (dC .none) (dfCons (dC (.int 5)) (dfCons (dLst (dfCons (dC (.str (Str.ofString "a"))) dfNil)) (dfCons (dTup (dfCons (dC (.str (Str.ofString "a"))) dfNil)) (dfCons (dC (.bool true)) (dfCons (dC (.str (Str.ofString "a-"))) (dfCons (dOp kAdd (dSl (dVar 2) dNoPart (dPart (dC (.int 3)))) (dC (.str (Str.ofString "_")))) dfNil)))))))))))))) (sSeq (sSet 5 (dIxA (dVar 4) (dCallM s_qnext (daCons (dVar 0) (dmF (dC (.int 12)) daNil))))) (sRet (dAndV (dOp (kIsB false) (dCall s_is_key (dfCons (dVar 2) dfNil)) (dC (.bool true))) (dOp (kIsB false) (dCall s_is_key (dfCons (dVar 5) dfNil)) (dC (.bool false)))))))))
def s_qkeys_told : DSp := ownSp 1 5 r_qkeys_told
theorem ok_qkeys_told {f : Addr} {fd : FuncData} (F : Fun K "_law_keys_told" "_law_keys_told" stqkeys_told f fd) (z_range : mg "range" = none) {gqnext : Addr} {gdqnext : FuncData} (G_qnext : FnOk P w K mg base CX0 1 gqnext gdqnext ["_law_state_here", "_law_size"] (spD K 2 s_qnext)) (b_qnext : Binds K gdqnext ["_law_state_here", "_law_size"] []) (k_qnext : PySem.W.keepIn K (.ref gqnext) = true) (m_qnext : mg "_law_next" = some (.ref gqnext)) {gis_key : Addr} {gdis_key : FuncData} (G_is_key : FnOk P w K mg base CX0 1 gis_key gdis_key ["thing"] (spD K 1 s_is_key)) (b_is_key : Binds K gdis_key ["thing"] []) (k_is_key : PySem.W.keepIn K (.ref gis_key) = true) (m_is_key : mg "is_key" = some (.ref gis_key)) : FnOk P w K mg base CX0 (1 + 1) f fd ["_law_state_here"] (spD K 1 s_qkeys_told) :=
  fnD F scqkeys_told rfl r_qkeys_told (fun cdv A outer s H E hr =>
    (dss_cons (ds_set (i := 1) scqkeys_told.nd rfl (.inr rfl) dv_str)
    (dss_cons (ds_set (i := 2) scqkeys_told.nd rfl (.inl rfl) (dv_joinC (dv_lcXR (own := [("_law_k", 3)]) rfl scqkeys_told.nd rfl z_range (da_cons (dv_op op_addA od_addA dv_int (dv_callM G_qnext ownSp_len (hr.mono (by decide)) rfl m_qnext k_qnext b_qnext (da_cons (dv 0) (da_consF dv_int da_nil)))) da_nil) (by exact ⟨blkOk_by (N := (["_law_state_here", "_law_letters", "_law_good", "_law_k", "_law_some", "_law_bad"] : List Str)) (sc := defScope stqkeys_told) (own := [("_law_k", 3)]) (by decide +kernel), by decide, fun _ _ _ _ _ => pg_k scqkeys_told.nd rfl (.inl rfl), fun _ _ _ _ _ => dts_nil, fun _ _ _ _ _ => (dv_ixA (dv 1) (dv_callM G_qnext ownSp_len (hr.mono (by decide)) rfl m_qnext k_qnext b_qnext (da_cons (dv 0) (da_consF dv_int da_nil))) (fun _ _ => rfl))⟩))))
    (dss_cons (ds_set (i := 4) scqkeys_told.nd rfl (.inl rfl) (dv_lst (df_cons dv_str (df_cons (dv_op op_addA od_addA (dv 2) dv_str) (df_cons dv_str (df_cons dv_str (df_cons dv_str (df_cons dv_non (df_cons dv_int (df_cons (dv_lst (df_cons dv_str df_nil)) (df_cons (dv_tup (df_cons dv_str df_nil)) (df_cons dv_bl (df_cons dv_str (df_cons (dv_op op_addA od_addA (dv_sl (dv 2) do_none (do_some dv_int)) dv_str) df_nil))))))))))))))
    (dss_cons (ds_set (i := 5) scqkeys_told.nd rfl (.inl rfl) (dv_ixA (dv 4) (dv_callM G_qnext ownSp_len (hr.mono (by decide)) rfl m_qnext k_qnext b_qnext (da_cons (dv 0) (da_consF dv_int da_nil))) (fun _ _ => rfl)))
    (dss_one (ds_ret (dv_and (dv_cmp op_isBl od_isB (dv_call G_is_key (ownSp_len) (hr.mono (by decide)) rfl m_is_key k_is_key b_is_key (df_cons (dv 2) df_nil)) dv_bl (nomark _)) (dv_one (dv_cmp op_isBl od_isB (dv_call G_is_key (ownSp_len) (hr.mono (by decide)) rfl m_is_key k_is_key b_is_key (df_cons (dv 5) df_nil)) dv_bl (nomark _))))))))))) (fun _ _ _ h => h.2)
/-! #### law -/
abbrev stlaw : Stmt := topS 50
theorem sclaw : FnScope ["_law_script", "_law_tale_here", "_law_state_here", "_law_k", "_law_at", "_law_wrong", "_law_thing", "_law_due"] ["_law_script"] (defScope stlaw) := ⟨rfl, rfl, rfl, by decide +kernel, rfl, by decide +kernel, by decide +kernel⟩
def b_law_1 : TDS := (sSeq (sSet 4 (dCallM s_qnext (daCons (dVar 2) (dmF (dLenA (daCons (dVar 1) daNil)) daNil)))) (sSeq (sSet 5 (dCallM s_qodd_deal (daCons (dVar 2) (dmF (dIxA (dVar 1) (dVar 4)) daNil)))) (sSeq (sIf (dOr (dTest (dOp (kIsB true) (dCall s_is_deal (dfCons (dIxA (dVar 1) (dVar 4)) dfNil)) (dC (.bool true)))) (dTest (dOp (kIsB true) (dCall s_is_deal (dfCons (dVar 5) dfNil)) (dC (.bool false))))) (sRet (dC (.bool false))) sNext) (sSeq (sIf (dNot (dTest (dCall s_qtold (dfCons (dOp kAdd (dOp kAdd (dSl (dVar 1) dNoPart (dPart (dVar 4))) (dTup (dfCons (dVar 5) dfNil))) (dSl (dVar 1) (dPart (dOp kAdd (dVar 4) (dC (.int 1)))) dNoPart)) (dfCons (dC (.bool false)) dfNil))))) (sRet (dC (.bool false))) sNext) (sSeq (sAsg (dCallM s_qedges (daCons (dVar 2) daNil)) (gTpA 2 (gsCons (gNm 6) (gsCons (gNm 7) gsNil)))) (sIf (dNot (dTest (dCall s_qtold (dfCons (dVar 6) (dfCons (dVar 7) dfNil))))) (sRet (dC (.bool false))) sNext))))))
theorem b_law_1_eq {D : DEnds} {ε : Ep} : ev (b_law_1 D ε) = ev ((sSeq (sSet 4 (dCallM s_qnext (daCons (dVar 2) (dmF (dLenA (daCons (dVar 1) daNil)) daNil)))) (sSeq (sSet 5 (dCallM s_qodd_deal (daCons (dVar 2) (dmF (dIxA (dVar 1) (dVar 4)) daNil)))) (sSeq (sIf (dOr (dTest (dOp (kIsB true) (dCall s_is_deal (dfCons (dIxA (dVar 1) (dVar 4)) dfNil)) (dC (.bool true)))) (dTest (dOp (kIsB true) (dCall s_is_deal (dfCons (dVar 5) dfNil)) (dC (.bool false))))) (sRet (dC (.bool false))) sNext) (sSeq (sIf (dNot (dTest (dCall s_qtold (dfCons (dOp kAdd (dOp kAdd (dSl (dVar 1) dNoPart (dPart (dVar 4))) (dTup (dfCons (dVar 5) dfNil))) (dSl (dVar 1) (dPart (dOp kAdd (dVar 4) (dC (.int 1)))) dNoPart)) (dfCons (dC (.bool false)) dfNil))))) (sRet (dC (.bool false))) sNext) (sSeq (sAsg (dCallM s_qedges (daCons (dVar 2) daNil)) (gTpA 2 (gsCons (gNm 6) (gsCons (gNm 7) gsNil)))) (sIf (dNot (dTest (dCall s_qtold (dfCons (dVar 6) (dfCons (dVar 7) dfNil))))) (sRet (dC (.bool false))) sNext)))))) D ε) := rfl
def r_law : TDS := (sSeq (sSet 1 (dCall s_qtale (dfCons (dVar 0) (dfCons (dC (.int 0)) (dfCons (dC (.int 1)) (dfCons (dC (.int 12)) (dfCons (dC (.int 8)) (dfCons (dC (.int 5)) dfNil)))))))) (sSeq (sSet 2 (dCall s_qstate (dfCons (dVar 0) (dfCons (dC (.int 14)) dfNil)))) (sSeq (sIf (dOr (dNot (dTest (dCall s_qtold (dfCons (dVar 1) (dfCons (dC (.bool true)) dfNil))))) (dOr (dNot (dTest (dCall s_qtold (dfCons (dCB kList (daCons (dVar 1) daNil)) (dfCons (dC (.bool false)) dfNil))))) (dNot (dTest (dCallM s_qkeys_told (daCons (dVar 2) daNil)))))) (sRet (dC (.bool false))) sNext) (sSeq (sForR (daCons (dC (.int 6)) daNil) (gNm 3) b_law_1) (sRet (dC (.bool true)))))))
def s_law : DSp := ownSp 1 7 r_law
theorem ok_law {f : Addr} {fd : FuncData} (F : Fun K "law" "law" stlaw f fd) (z_len : mg "len" = none) (z_list : mg "list" = none) (z_range : mg "range" = none) {gqtale : Addr} {gdqtale : FuncData} (G_qtale : FnOk P w K mg base CX0 4 gqtale gdqtale ["_law_script", "_law_first", "_law_least", "_law_most", "_law_acts", "_law_keys_here"] (spD K 6 s_qtale)) (b_qtale : Binds K gdqtale ["_law_script", "_law_first", "_law_least", "_law_most", "_law_acts", "_law_keys_here"] []) (k_qtale : PySem.W.keepIn K (.ref gqtale) = true) (m_qtale : mg "_law_tale" = some (.ref gqtale)) {gqstate : Addr} {gdqstate : FuncData} (G_qstate : FnOk P w K mg base CX0 1 gqstate gdqstate ["_law_script", "_law_k"] (spD K 2 s_qstate)) (b_qstate : Binds K gdqstate ["_law_script", "_law_k"] []) (k_qstate : PySem.W.keepIn K (.ref gqstate) = true) (m_qstate : mg "_law_state" = some (.ref gqstate)) {gqtold : Addr} {gdqtold : FuncData} (G_qtold : FnOk P w K mg base CX0 8 gqtold gdqtold ["_law_thing", "_law_due"] (spD K 2 s_qtold)) (b_qtold : Binds K gdqtold ["_law_thing", "_law_due"] []) (k_qtold : PySem.W.keepIn K (.ref gqtold) = true) (m_qtold : mg "_law_told" = some (.ref gqtold)) {gqkeys_told : Addr} {gdqkeys_told : FuncData} (G_qkeys_told : FnOk P w K mg base CX0 2 gqkeys_told gdqkeys_told ["_law_state_here"] (spD K 1 s_qkeys_told)) (b_qkeys_told : Binds K gdqkeys_told ["_law_state_here"] []) (k_qkeys_told : PySem.W.keepIn K (.ref gqkeys_told) = true) (m_qkeys_told : mg "_law_keys_told" = some (.ref gqkeys_told)) {gqnext : Addr} {gdqnext : FuncData} (G_qnext : FnOk P w K mg base CX0 1 gqnext gdqnext ["_law_state_here", "_law_size"] (spD K 2 s_qnext)) (b_qnext : Binds K gdqnext ["_law_state_here", "_law_size"] []) (k_qnext : PySem.W.keepIn K (.ref gqnext) = true) (m_qnext : mg "_law_next" = some (.ref gqnext)) {gqodd_deal : Addr} {gdqodd_deal : FuncData} (G_qodd_deal : FnOk P w K mg base CX0 3 gqodd_deal gdqodd_deal ["_law_state_here", "_law_item"] (spD K 2 s_qodd_deal)) (b_qodd_deal : Binds K gdqodd_deal ["_law_state_here", "_law_item"] []) (k_qodd_deal : PySem.W.keepIn K (.ref gqodd_deal) = true) (m_qodd_deal : mg "_law_odd_deal" = some (.ref gqodd_deal)) {gis_deal : Addr} {gdis_deal : FuncData} (G_is_deal : FnOk P w K mg base CX0 4 gis_deal gdis_deal ["thing"] (spD K 1 s_is_deal)) (b_is_deal : Binds K gdis_deal ["thing"] []) (k_is_deal : PySem.W.keepIn K (.ref gis_deal) = true) (m_is_deal : mg "is_deal" = some (.ref gis_deal)) {gqedges : Addr} {gdqedges : FuncData} (G_qedges : FnOk P w K mg base CX0 2 gqedges gdqedges ["_law_state_here"] (spD K 1 s_qedges)) (b_qedges : Binds K gdqedges ["_law_state_here"] []) (k_qedges : PySem.W.keepIn K (.ref gqedges) = true) (m_qedges : mg "_law_edges" = some (.ref gqedges)) : FnOk P w K mg base CX0 (8 + 1) f fd ["_law_script"] (spD K 1 s_law) :=
  fnD F sclaw rfl r_law (fun cdv A outer s H E hr =>
    (dss_cons (ds_set (i := 1) sclaw.nd rfl (.inl rfl) (dv_call G_qtale (ownSp_len) (hr.mono (by decide)) rfl m_qtale k_qtale b_qtale (df_cons (dv 0) (df_cons dv_int (df_cons dv_int (df_cons dv_int (df_cons dv_int (df_cons dv_int df_nil))))))))
    (dss_cons (ds_set (i := 2) sclaw.nd rfl (.inl rfl) (dv_call G_qstate (ownSp_len) (hr.mono (by decide)) rfl m_qstate k_qstate b_qstate (df_cons (dv 0) (df_cons dv_int df_nil))))
    (dss_cons (ds_if (PW.pt (dw_or (dt_not (dt_val (dv_call G_qtold (ownSp_len) (hr.mono (by decide)) rfl m_qtold k_qtold b_qtold (df_cons (dv 1) (df_cons dv_bl df_nil))))) (dw_or (dt_not (dt_val (dv_call G_qtold (ownSp_len) (hr.mono (by decide)) rfl m_qtold k_qtold b_qtold (df_cons (dv_callTy call_list_of cd_list rfl z_list (by decide +kernel) (da_cons (dv 1) da_nil)) (df_cons dv_bl df_nil))))) (dw_or1 (dt_not (dt_val (dv_callM G_qkeys_told ownSp_len (hr.mono (by decide)) rfl m_qkeys_told k_qkeys_told b_qkeys_told (da_cons (dv 2) da_nil)))))))) (dss_one (ds_ret dv_bl)) dss_nil)
    (dss_cons (ds_forR PassesOwn.never rfl rfl z_range (da_cons dv_int da_nil) (dg_nm sclaw.nd rfl (.inl rfl)) (dss_cons (ds_set (i := 4) sclaw.nd rfl (.inl rfl) (dv_callM G_qnext ownSp_len (hr.mono (by decide)) rfl m_qnext k_qnext b_qnext (da_cons (dv 2) (da_consF (dv_lenA rfl z_len (by decide +kernel) (da_cons (dv 1) da_nil)) da_nil))))
    (dss_cons (ds_set (i := 5) sclaw.nd rfl (.inl rfl) (dv_callM G_qodd_deal ownSp_len (hr.mono (by decide)) rfl m_qodd_deal k_qodd_deal b_qodd_deal (da_cons (dv 2) (da_consF (dv_ixA (dv 1) (dv 4) (fun _ _ => rfl)) da_nil))))
    (dss_cons (ds_if (PW.pt (dw_or (dt_cmp op_notBl od_notB (dv_call G_is_deal (ownSp_len) (hr.mono (by decide)) rfl m_is_deal k_is_deal b_is_deal (df_cons (dv_ixA (dv 1) (dv 4) (fun _ _ => rfl)) df_nil)) dv_bl (nomark _)) (dw_or1 (dt_cmp op_notBl od_notB (dv_call G_is_deal (ownSp_len) (hr.mono (by decide)) rfl m_is_deal k_is_deal b_is_deal (df_cons (dv 5) df_nil)) dv_bl (nomark _))))) (dss_one (ds_ret dv_bl)) dss_nil)
    (dss_cons (ds_if (dt_not (dt_val (dv_call G_qtold (ownSp_len) (hr.mono (by decide)) rfl m_qtold k_qtold b_qtold (df_cons (dv_op op_addA od_addA (dv_op op_addA od_addA (dv_sl (dv 1) do_none (do_some (dv 4))) (dv_tup (df_cons (dv 5) df_nil))) (dv_sl (dv 1) (do_some (dv_op op_addA od_addA (dv 4) dv_int)) do_none)) (df_cons dv_bl df_nil))))) (dss_one (ds_ret dv_bl)) dss_nil)
    (dss_cons (ds_asg (dv_callM G_qedges ownSp_len (hr.mono (by decide)) rfl m_qedges k_qedges b_qedges (da_cons (dv 2) da_nil)) (dg_tupA rfl (dgs_cons (dg_nm sclaw.nd rfl (.inl rfl)) (dgs_cons (dg_nm sclaw.nd rfl (.inl rfl)) dgs_nil))))
    (dss_one (ds_if (dt_not (dt_val (dv_call G_qtold (ownSp_len) (hr.mono (by decide)) rfl m_qtold k_qtold b_qtold (df_cons (dv 6) (df_cons (dv 7) df_nil))))) (dss_one (ds_ret dv_bl)) dss_nil))))))))
    (dss_one (ds_ret dv_bl))))))) (fun _ _ _ h => h.2)
end
end Cl

/-! DLS: steps and facts that only the human parts use. -/
namespace DL
open PySem PySem.Spec PyProof.Rows L2
/-- a comprehension along whatever stays as it is, each turn giving data or nothing -/
theorem lcx_fix {α : Type} {S : Src} {xs : List α} {it : Nat → α → Sl} {n : Nat} {tt : TDT} {te : TD} {vs : List Nat} {p : α → Bool} {f : α → PyData} {e : Nat → α → Ep} {ε : Ep} {A : List NT → Ep → Prop}
    (hlen : lenAt S ε = some xs.length) (hit : ∀ (i : Nat) a, xs[i]? = some a → itemAt S i ε = some (it i a))
    (h1 : ∀ (i : Nat) a, xs[i]? = some a → ∀ (B : Vl → Ep → Prop) (C : Ep → Prop), (p a = true → B (.d (f a)) (e i a)) → (p a = false → C (e i a)) → tt (put ε n (it i a)) fun b ε2 => onB b (te ε2 B) (C ε2))
    (h2 : ∀ (i : Nat) a, xs[i]? = some a → wipeE (e i a) vs = ε) : ∀ (k i : Nat) (acc : List PyData) (ys : List α), i + k = xs.length → ys = xs.drop i → acc.length + k ≤ 1000000 →
    A ((acc ++ (ys.filter p).map f).map .fz) ε → lcGoX S n tt te vs A k i (acc.map .fz) ε
  | 0, i, acc, ys, hi, hy, _, h => ⟨by rw [hlen]; exact congrArg some (by omega), by
      subst hy
      rw [List.drop_eq_nil_of_le (by omega)] at h
      simpa using h⟩
  | k + 1, i, acc, ys, hi, hy, hl, h => by
    have hx : xs[i]? = some xs[i] := List.getElem?_eq_getElem (by omega)
    refine ⟨by rw [hlen]; exact congrArg some (by omega), ?_⟩
    rw [hit i _ hx]
    subst hy
    rw [List.drop_eq_getElem_cons (by omega)] at h
    show tt (put ε n (it i xs[i])) _
    refine h1 i _ hx _ (fun ε2 => lcGoX S n tt te vs A k (i + 1) (acc.map .fz) (wipeE ε2 vs)) (fun hp => ?_) fun hp => ?_
    · show (acc.map NT.fz).length < 1000000 ∧ lcGoX S n tt te vs A k (i + 1) (acc.map .fz ++ [.fz (f xs[i])]) (wipeE (e i xs[i]) vs)
      rw [h2 i _ hx, List.length_map]
      have e2 : acc.map NT.fz ++ [.fz (f xs[i])] = (acc ++ [f xs[i]]).map .fz := by rw [List.map_append]; rfl
      rw [e2]
      refine ⟨by omega, lcx_fix hlen hit h1 h2 k (i + 1) _ _ (by omega) rfl (by simp; omega) ?_⟩
      rw [List.filter_cons, if_pos hp] at h
      simpa using h
    · show lcGoX S n tt te vs A k (i + 1) (acc.map .fz) (wipeE (e i xs[i]) vs)
      rw [h2 i _ hx]
      refine lcx_fix hlen hit h1 h2 k (i + 1) _ _ (by omega) rfl (by omega) ?_
      rw [List.filter_cons, if_neg (by rw [hp]; exact Bool.false_ne_true)] at h
      exact h
/-- .. as it stands behind a walk -/
theorem lcX_fix {α : Type} {S : Src} {xs : List α} {it : Nat → α → Sl} {n : Nat} {tt : TDT} {te : TD} {vs : List Nat} {p : α → Bool} {f : α → PyData} {e : Nat → α → Ep} {ε : Ep} {A : List NT → Ep → Prop} (hl : xs.length ≤ 1000000)
    (hlen : lenAt S ε = some xs.length) (hit : ∀ (i : Nat) a, xs[i]? = some a → itemAt S i ε = some (it i a))
    (h1 : ∀ (i : Nat) a, xs[i]? = some a → ∀ (B : Vl → Ep → Prop) (C : Ep → Prop), (p a = true → B (.d (f a)) (e i a)) → (p a = false → C (e i a)) → tt (put ε n (it i a)) fun b ε2 => onB b (te ε2 B) (C ε2))
    (h2 : ∀ (i : Nat) a, xs[i]? = some a → wipeE (e i a) vs = ε) (h : A (((xs.filter p).map f).map .fz) ε) : onO (lenAt S ε) fun L => lcGoX S n tt te vs A L 0 [] ε := by
  rw [hlen]
  exact lcx_fix hlen hit h1 h2 _ 0 [] xs (by omega) rfl (by simpa using hl) h
theorem perm_map_inv {α β : Type} {E : α → β} {l1 l2 : List β} (h : l1.Perm l2) : ∀ ps : List α, l2 = ps.map E → ∃ rs : List α, l1 = rs.map E ∧ rs.Perm ps := by
  induction h with
  | nil => intro ps e; exact ⟨[], rfl, by cases ps with | nil => exact .nil | cons _ _ => cases e⟩
  | cons x _ ih =>
    intro ps e
    cases ps with
    | nil => cases e
    | cons p ps =>
      rw [List.map_cons] at e
      injection e with e1 e2
      obtain ⟨rs, e3, hp⟩ := ih ps e2
      exact ⟨p :: rs, by rw [e1, e3]; rfl, hp.cons p⟩
  | swap x y l =>
    intro ps e
    match ps, e with
    | p :: q :: ps, e =>
      rw [List.map_cons, List.map_cons] at e
      injection e with e1 e2
      injection e2 with e2 e3
      exact ⟨q :: p :: ps, by rw [e1, e2, e3]; rfl, .swap p q ps⟩
  | trans _ _ ih1 ih2 =>
    intro ps e
    obtain ⟨rs, e1, h1⟩ := ih2 ps e
    obtain ⟨rs2, e2, h2⟩ := ih1 rs e1
    exact ⟨rs2, e2, h2.trans h1⟩
theorem sort_map {α : Type} {E : α → PyData} (ps : List α) : ∃ rs : List α, sortD (ps.map E) = rs.map E ∧ rs.Perm ps := perm_map_inv (List.mergeSort_perm _ _) ps rfl
theorem atI_last {α : Type} {xs : List α} (h : xs ≠ []) : ∃ x ∈ xs, atI xs (-1) = some x := by
  have hp : 0 < xs.length := List.length_pos_iff.mpr h
  obtain ⟨x, hx, e, _⟩ := at_any (xs := xs) (i := -1) (by omega) (by omega)
  exact ⟨x, hx, e⟩
theorem valD_nil (k : Key) : valD [] k = none := rfl
theorem valD_cons (k k' : Key) (v : PyData) (kvs : List (Key × PyData)) : valD ((k', v) :: kvs) k = if k' = k then some v else valD kvs k := by
  unfold valD
  rw [List.find?_cons]
  by_cases h : k' = k
  · rw [if_pos h]; simp [h]
  · rw [if_neg h]; simp [h]
theorem valD_none {k : Key} : ∀ {kvs : List (Key × PyData)}, (kvs.any fun kv => decide (kv.1 = k)) = false → valD kvs k = none
  | [], _ => rfl
  | (k', v) :: kvs, h => by
    rw [List.any_cons, Bool.or_eq_false_iff] at h
    rw [valD_cons, if_neg (of_decide_eq_false h.1), valD_none h.2]
theorem valD_put (k k' : Key) (v : PyData) (kvs : List (Key × PyData)) : valD (putD kvs k v) k' = if k = k' then some v else valD kvs k' := by
  unfold putD
  split
  · rename_i h
    induction kvs with
    | nil => cases h
    | cons a kvs ih =>
      obtain ⟨ka, va⟩ := a
      rw [List.map_cons]
      rw [List.any_cons, Bool.or_eq_true] at h
      by_cases e : ka = k
      · subst e
        simp only [if_true]
        rw [valD_cons, valD_cons]
        by_cases e2 : ka = k'
        · rw [if_pos e2, if_pos e2]
        · rw [if_neg e2, if_neg e2, if_neg e2]
          by_cases hk : (kvs.any fun kv => decide (kv.1 = ka)) = true
          · rw [ih hk, if_neg e2]
          · have : kvs.map (fun kv => if kv.1 = ka then (kv.1, v) else kv) = kvs := by
              conv => rhs; rw [← List.map_id kvs]
              refine List.map_congr_left fun q hq => ?_
              rw [if_neg]
              · rfl
              · intro z
                exact hk (List.any_eq_true.mpr ⟨q, hq, decide_eq_true z⟩)
            rw [this]
      · simp only [e, if_false]
        rw [valD_cons, valD_cons, ih (h.resolve_left (by simpa using e))]
        by_cases e2 : ka = k'
        · rw [if_pos e2, if_pos e2, if_neg (fun z => e (e2.trans z.symm))]
        · rw [if_neg e2, if_neg e2]
  · rename_i h0
    have h : (kvs.any fun kv => decide (kv.1 = k)) = false := Bool.eq_false_iff.mpr h0
    clear h0
    induction kvs with
    | nil =>
      rw [List.nil_append, valD_cons]
    | cons a kvs ih =>
      obtain ⟨ka, va⟩ := a
      rw [List.any_cons, Bool.or_eq_false_iff] at h
      rw [List.cons_append, valD_cons, valD_cons, ih h.2]
      by_cases e2 : ka = k'
      · rw [if_pos e2, if_pos e2, if_neg (fun z => (of_decide_eq_false h.1) (e2.trans z.symm))]
      · rw [if_neg e2, if_neg e2]
theorem putD_len (k : Key) (v : PyData) (kvs : List (Key × PyData)) : (putD kvs k v).length ≤ kvs.length + 1 := by
  unfold putD
  split
  · rw [List.length_map]; omega
  · rw [List.length_append]; exact Nat.le_refl _
/-- a comprehension that changes things as it goes, each turn giving one -/
theorem lcx_inv {S : Src} {n N : Nat} {te : TD} {vs : List Nat} {A : List NT → Ep → Prop} {I : Nat → List NT → Ep → Prop} (hN : N < 1000000) (hlen : ∀ i acc ε, I i acc ε → lenAt S ε = some N)
    (step : ∀ i acc ε, i < N → I i acc ε → ∃ s, itemAt S i ε = some s ∧ ∀ C : NT → Ep → Prop, (∀ t ε', I (i + 1) (acc ++ [t]) (wipeE ε' vs) → C t ε') → te (put ε n s) fun q ε3 => asN ε3 q C) :
    ∀ (k i : Nat) (acc : List NT) (ε : Ep), i + k = N → acc.length = i → I i acc ε → (∀ acc ε, acc.length = N → I N acc ε → A acc ε) → lcGoX S n dYes te vs A k i acc ε
  | 0, i, acc, ε, hi, ha, hI, h => by
    have e : i = N := by omega
    subst e
    exact ⟨hlen _ _ _ hI, h _ _ ha hI⟩
  | k + 1, i, acc, ε, hi, ha, hI, h => by
    refine ⟨by rw [hlen _ _ _ hI]; exact congrArg some (by omega), ?_⟩
    obtain ⟨s, e, go⟩ := step i acc ε (by omega) hI
    rw [e]
    show te (put ε n s) fun q ε3 => asN ε3 q fun t ε4 => acc.length < 1000000 ∧ lcGoX S n dYes te vs A k (i + 1) (acc ++ [t]) (wipeE ε4 vs)
    exact go _ fun t ε' hI' => ⟨by omega, lcx_inv hN hlen step k (i + 1) _ _ (by omega) (by simp [ha]) hI' h⟩
/-- .. that leaves things as they are -/
theorem lcx_keep {S : Src} {n N : Nat} {te : TD} {vs : List Nat} {A : List NT → Ep → Prop} {P : Nat → NT → Prop} {e : Nat → Ep} {ε : Ep} (hN : N < 1000000) (hlen : lenAt S ε = some N)
    (step : ∀ i, i < N → ∃ s, itemAt S i ε = some s ∧ ∀ C : NT → Ep → Prop, (∀ t, P i t → C t (e i)) → te (put ε n s) fun q ε3 => asN ε3 q C) (hw : ∀ i, i < N → wipeE (e i) vs = ε)
    (h : ∀ acc : List NT, acc.length = N → (∀ (i : Nat) t, acc[i]? = some t → P i t) → A acc ε) : lcGoX S n dYes te vs A N 0 [] ε := by
  refine lcx_inv (I := fun i acc ε' => ε' = ε ∧ acc.length = i ∧ ∀ (j : Nat) t, acc[j]? = some t → P j t) hN (fun i acc ε' hI => by rw [hI.1]; exact hlen) (fun i acc ε' hi hI => ?_) N 0 [] ε (by omega) rfl ⟨rfl, rfl, fun j t h => by simp at h⟩ fun acc ε' ha hI => by rw [hI.1]; exact h acc ha hI.2.2
  obtain ⟨rfl, hl, hp⟩ := hI
  obtain ⟨s, e1, go⟩ := step i hi
  refine ⟨s, e1, fun C hC => go C fun t pt => hC t _ ⟨hw i hi, by simp [hl], fun j u hu => ?_⟩⟩
  rw [List.getElem?_append] at hu
  split at hu
  · exact hp j u hu
  · rename_i q
    obtain ⟨q2, e⟩ := List.getElem?_eq_some_iff.mp hu
    simp at q2
    have : j = acc.length := by omega
    subst this
    simp at e
    rw [← e, hl]
    exact pt
theorem all_map {α β : Type} {f : α → β} : ∀ {ys : List β}, (∀ (i : Nat) y, ys[i]? = some y → ∃ x, y = f x) → ∃ xs : List α, ys = xs.map f
  | [], _ => ⟨[], rfl⟩
  | y :: ys, h => by
    obtain ⟨x, e⟩ := h 0 y rfl
    obtain ⟨xs, e2⟩ := all_map (ys := ys) fun i z hz => h (i + 1) z (by simpa using hz)
    exact ⟨x :: xs, by rw [e, e2]; rfl⟩
/-- a walk that gives the first that is so -/
theorem for_find {α : Type} {enc : α → PyData} {J : Ep → Prop} {A : DEnds} {P : α → Bool} {V : α → Vl} {g : TDG} {b : TDS} : ∀ (xs : List α) (ε : Ep), J ε →
    (∀ a ∈ xs, ∀ ε, J ε → ∀ B : DEnds, (P a = true → ∀ ε', B.rt (V a) ε') → (P a = false → ∀ ε', J ε' → B.nx ε') → g (enc a) ε fun ε1 => b B ε1) →
    (∀ a, xs.find? P = some a → ∀ ε', A.rt (V a) ε') → (xs.find? P = none → ∀ ε', J ε' → A.nx ε') → forGo noI g b A (xs.map enc) ε
  | [], ε, hJ, _, _, h2 => ⟨trivial, h2 rfl ε hJ⟩
  | x :: xs, ε, hJ, st, h1, h2 => by
    refine ⟨trivial, st x List.mem_cons_self ε hJ _ (fun hp => h1 x (by rw [List.find?_cons, hp])) fun hp ε' hJ' => ?_⟩
    have e : (x :: xs).find? P = xs.find? P := by rw [List.find?_cons, hp]
    rw [e] at h1 h2
    exact for_find xs ε' hJ' (fun a ha => st a (List.mem_cons_of_mem _ ha)) h1 h2
theorem rng_map (n : Nat) : rngD 0 n = (List.range n).map fun i => .int (0 + ((i : Nat) : Int)) := rfl
theorem at4 {α : Type} (x y z u v : α) (xs : List α) : atI (x :: y :: z :: u :: v :: xs) 4 = some v := atI_nat (j := 4) rfl
/-- a walk that gives the first thing that comes -/
theorem for_some {α : Type} {enc : α → PyData} {J : Ep → Prop} {A : DEnds} {F : α → Option PyData} {g : TDG} {b : TDS} : ∀ (xs : List α) (ε : Ep), J ε →
    (∀ a ∈ xs, ∀ ε, J ε → ∀ B : DEnds, (∀ v, F a = some v → ∀ ε', B.rt (.d v) ε') → (F a = none → ∀ ε', J ε' → B.nx ε') → g (enc a) ε fun ε1 => b B ε1) →
    (∀ v, xs.findSome? F = some v → ∀ ε', A.rt (.d v) ε') → (xs.findSome? F = none → ∀ ε', J ε' → A.nx ε') → forGo noI g b A (xs.map enc) ε
  | [], ε, hJ, _, _, h2 => ⟨trivial, h2 rfl ε hJ⟩
  | x :: xs, ε, hJ, st, h1, h2 => by
    refine ⟨trivial, st x List.mem_cons_self ε hJ _ (fun v hp => h1 v (by rw [List.findSome?_cons, hp])) fun hp ε' hJ' => ?_⟩
    have e : (x :: xs).findSome? F = xs.findSome? F := by rw [List.findSome?_cons, hp]
    rw [e] at h1 h2
    exact for_some xs ε' hJ' (fun a ha => st a (List.mem_cons_of_mem _ ha)) h1 h2
theorem findSome_filter {α β : Type} {q : α → Bool} {f : α → Option β} : ∀ xs : List α, (xs.filter q).findSome? f = xs.findSome? fun x => if q x = true then f x else none
  | [] => rfl
  | x :: xs => by
    rw [List.filter_cons, List.findSome?_cons, ← findSome_filter xs]
    by_cases h : q x = true
    · rw [if_pos h, if_pos h, List.findSome?_cons]
    · rw [if_neg h, if_neg h]
theorem enuD_rng {α : Type} {E : α → PyData} : ∀ (xs : List α) (n : Nat), enuD n (xs.map E) = (List.range xs.length).map fun p => .tuple [.int ((n + p : Nat) : Int), (xs[p]?.map E).getD .none]
  | [], _ => rfl
  | x :: xs, n => by
    rw [List.map_cons, enuD, enuD_rng xs (n + 1), List.length_cons, List.range_succ_eq_map, List.map_cons, List.map_map]
    refine congr (congrArg _ rfl) (List.map_congr_left fun p _ => ?_)
    show _ = PyData.tuple [.int ((n + (p + 1) : Nat) : Int), ((x :: xs)[p + 1]?.map E).getD .none]
    rw [List.getElem?_cons_succ]
    congr 4
    omega
theorem enuD_zip {α : Type} {E : α → PyData} : ∀ (xs : List α) (n : Nat), enuD n (xs.map E) = (xs.zipIdx n).map fun x => .tuple [.int ((x.2 : Nat) : Int), E x.1]
  | [], _ => rfl
  | x :: xs, n => by
    rw [List.map_cons, enuD, enuD_zip xs (n + 1), List.zipIdx_cons, List.map_cons]
theorem rng_zip {α : Type} {E : α → PyData} : ∀ (xs : List α) (n : Nat) (q : Nat → Bool), ((List.range xs.length).filter fun p => q (n + p)).map (fun p => ((xs[p]?).map E).getD .none) = ((xs.zipIdx n).filter fun x => q x.2).map fun x => E x.1
  | [], _, _ => rfl
  | x :: xs, n, q => by
    have ih := rng_zip (E := E) xs (n + 1) q
    rw [List.length_cons, List.range_succ_eq_map, List.zipIdx_cons, List.filter_cons, List.filter_cons, List.filter_map]
    have e : (List.range xs.length).filter ((fun p => q (n + p)) ∘ Nat.succ) = (List.range xs.length).filter fun p => q (n + 1 + p) :=
      congrArg (fun f => List.filter f (List.range xs.length)) (funext fun p => by show q (n + (p + 1)) = _; rw [show n + (p + 1) = n + 1 + p by omega])
    rw [e]
    have e2 : (((List.range xs.length).filter fun p => q (n + 1 + p)).map Nat.succ).map (fun p => (((x :: xs)[p]?).map E).getD .none) = ((xs.zipIdx (n + 1)).filter fun x => q x.2).map fun x => E x.1 := by
      rw [List.map_map, ← ih]
      refine List.map_congr_left fun p _ => ?_
      show (((x :: xs)[p + 1]?).map E).getD .none = _
      rw [List.getElem?_cons_succ]
    rw [Nat.add_zero]
    by_cases h : q n = true
    · rw [if_pos h, if_pos h, List.map_cons, List.map_cons, e2]
      rfl
    · rw [if_neg h, if_neg h, e2]
theorem rng_zip2 {α β : Type} {Q : α → Bool} {g : Nat → β} : ∀ (xs : List α) (n : Nat), ((List.range xs.length).filter fun p => (xs[p]?.map Q).getD false).map (fun p => g (n + p)) = ((xs.zipIdx n).filter fun y => Q y.1).map fun y => g y.2
  | [], _ => rfl
  | x :: xs, n => by
    have ih := rng_zip2 (Q := Q) (g := g) xs (n + 1)
    rw [List.length_cons, List.range_succ_eq_map, List.zipIdx_cons, List.filter_cons, List.filter_cons, List.filter_map]
    have e : (List.range xs.length).filter ((fun p => (((x :: xs)[p]?).map Q).getD false) ∘ Nat.succ) = (List.range xs.length).filter fun p => (xs[p]?.map Q).getD false :=
      congrArg (fun f => List.filter f (List.range xs.length)) (funext fun p => by show (((x :: xs)[p + 1]?).map Q).getD false = _; rw [List.getElem?_cons_succ])
    rw [e]
    have e2 : (((List.range xs.length).filter fun p => (xs[p]?.map Q).getD false).map Nat.succ).map (fun p => g (n + p)) = ((xs.zipIdx (n + 1)).filter fun y => Q y.1).map fun y => g y.2 := by
      rw [List.map_map, ← ih]
      refine List.map_congr_left fun p _ => ?_
      show g (n + (p + 1)) = _
      rw [show n + (p + 1) = n + 1 + p by omega]
    have e0 : (((x :: xs)[0]?).map Q).getD false = Q x := rfl
    rw [e0]
    by_cases h : Q x = true
    · rw [if_pos h, if_pos h, List.map_cons, List.map_cons, e2]
      rfl
    · rw [if_neg h, if_neg h, e2]
theorem rng_map' (n : Nat) : rngD 0 n = (List.range' 0 n).map fun i => .int ((i : Nat) : Int) := by
  rw [rng_map, List.range_eq_range']
  exact List.map_congr_left fun i _ => by rw [Int.zero_add]
theorem cutD_len (xs : List PyData) (lo hi : Option Int) : (DL.cutD xs lo hi).length ≤ xs.length := by
  unfold DL.cutD
  rw [List.length_take, List.length_drop]
  omega
theorem k_of {k : Vl → List Sl → Prop} {v v' : Vl} {ps : List Sl} (h : k v' ps) (e : v = v') : k v ps := e ▸ h
end DL

/-! DLT (human side): what sorted(set(ints)) is. -/
namespace DL
open PySem PySem.Spec PyProof.Rows L2
theorem addK_mem {K : Type} [DecidableEq K] {ks : List K} {k x : K} : x ∈ addK ks k ↔ x ∈ ks ∨ x = k := by
  unfold addK
  split
  · rename_i h
    exact ⟨.inl, fun h' => h'.elim id fun e => e ▸ h⟩
  · rw [List.mem_cons]
    exact Or.comm
theorem addK_nodup {K : Type} [DecidableEq K] {ks : List K} {k : K} (h : ks.Nodup) : (addK ks k).Nodup := by
  unfold addK
  split
  · exact h
  · rename_i h'
    exact List.nodup_cons.mpr ⟨h', h⟩
theorem addAll_mem {K : Type} [DecidableEq K] {x : K} : ∀ {ns ks : List K}, x ∈ addAll ks ns ↔ x ∈ ks ∨ x ∈ ns
  | [], ks => by simp [addAll]
  | n :: ns, ks => by
    have ih := addAll_mem (x := x) (ns := ns) (ks := addK ks n)
    show x ∈ addAll (addK ks n) ns ↔ _
    rw [ih, addK_mem, List.mem_cons]
    exact or_assoc
theorem addAll_nodup {K : Type} [DecidableEq K] : ∀ {ns ks : List K}, ks.Nodup → (addAll ks ns).Nodup
  | [], _, h => h
  | n :: ns, ks, h => addAll_nodup (ns := ns) (ks := addK ks n) (addK_nodup h)
theorem rise_uniq : ∀ {a b : List Int}, a.Pairwise (· < ·) → b.Pairwise (· < ·) → (∀ k, k ∈ a ↔ k ∈ b) → a = b
  | [], [], _, _, _ => rfl
  | [], y :: b, _, _, h => absurd ((h y).mpr List.mem_cons_self) List.not_mem_nil
  | x :: a, [], _, _, h => absurd ((h x).mp List.mem_cons_self) List.not_mem_nil
  | x :: a, y :: b, ha, hb, h => by
    obtain ⟨a1, a2⟩ := List.pairwise_cons.mp ha
    obtain ⟨b1, b2⟩ := List.pairwise_cons.mp hb
    have e : x = y := by
      rcases List.mem_cons.mp ((h x).mp List.mem_cons_self) with e | e
      · exact e
      · rcases List.mem_cons.mp ((h y).mpr List.mem_cons_self) with e' | e'
        · exact e'.symm
        · have := b1 _ e
          have := a1 _ e'
          omega
    subst e
    rw [rise_uniq a2 b2 fun k => ⟨fun hk => ?_, fun hk => ?_⟩]
    · rcases List.mem_cons.mp ((h k).mp (List.mem_cons_of_mem _ hk)) with e | e
      · have := a1 _ hk
        omega
      · exact e
    · rcases List.mem_cons.mp ((h k).mpr (List.mem_cons_of_mem _ hk)) with e | e
      · have := b1 _ hk
        omega
      · exact e
/-- the members of ns, rising, each once -/
def ssI (ns : List Int) : List Int := (addAll [] ns).mergeSort fun a b => decide (a ≤ b)
theorem rise_sort {l : List Int} (h : l.Nodup) : (l.mergeSort fun a b => decide (a ≤ b)).Pairwise (· < ·) := by
  have s : (l.mergeSort fun a b => decide (a ≤ b)).Pairwise (fun a b => decide (a ≤ b) = true) :=
    List.pairwise_mergeSort (fun a b c h1 h2 => by simp only [decide_eq_true_eq] at *; omega) (fun a b => by simp only [Bool.or_eq_true, decide_eq_true_eq]; omega) l
  refine L2.lt_of_le_nodup _ (s.imp fun h => of_decide_eq_true h) ((List.mergeSort_perm l _).nodup_iff.mpr h)
theorem ssI_mem {ns : List Int} {k : Int} : k ∈ ssI ns ↔ k ∈ ns := by
  unfold ssI
  rw [(List.mergeSort_perm _ _).mem_iff, addAll_mem]
  simp
theorem ssI_rise (ns : List Int) : (ssI ns).Pairwise (· < ·) := rise_sort (addAll_nodup List.nodup_nil)
theorem ssI_eq {ns ms : List Int} (h : ∀ k, k ∈ ns ↔ k ∈ ms) : ssI ns = ssI ms := rise_uniq (ssI_rise _) (ssI_rise _) fun k => by rw [ssI_mem, ssI_mem, h]
theorem ssI_of {ns l : List Int} (hl : l.Pairwise (· < ·)) (h : ∀ k, k ∈ l ↔ k ∈ ns) : ssI ns = l := rise_uniq (ssI_rise _) hl fun k => by rw [ssI_mem, h]
theorem ss_int {ns ls : List Int} (pm : ls.Perm (addAll [] ns)) : ls.mergeSort (PySem.W.dataLe false PyData.int) = ssI ns := by
  have e : PySem.W.dataLe false PyData.int = fun a b : Int => decide (a ≤ b) := PySem.W.dataLe_int id
  rw [e]
  refine rise_uniq (rise_sort (pm.nodup_iff.mpr (addAll_nodup List.nodup_nil))) (ssI_rise _) fun k => ?_
  rw [(List.mergeSort_perm _ _).mem_iff, pm.mem_iff, ssI_mem, addAll_mem]
  simp
theorem kSSI_of {ns : List Int} {A : Vl → Prop} (hl : ns.length + 1 < PySem.scanBound) (h : A (.new ((ssI ns).map PyData.int))) : kSS (.list (ns.map PyData.int)) A :=
  .inl ⟨ns, rfl, hl, fun ls pm => by rw [ss_int pm]; exact h⟩
/-- a comprehension with an if over data, where a turn may change the env within I -/
theorem lcx_natI {α : Type} {enc : α → PyData} {xs : List α} {n : Nat} {tt : TDT} {te : TD} {vs : List Nat} {p : α → Bool} {f : α → PyData} {I : Ep → Prop} {A : List NT → Ep → Prop}
    (h1 : ∀ a ∈ xs, ∀ ε, I ε → ∀ (B : Vl → Ep → Prop) (C : Ep → Prop), (p a = true → ∀ ε', I (wipeE ε' vs) → B (.d (f a)) ε') → (p a = false → ∀ ε', I (wipeE ε' vs) → C ε') → tt (put ε n (.d (enc a))) fun b ε2 => onB b (te ε2 B) (C ε2)) : ∀ (S : Src) (k i : Nat) (acc : List PyData) (ys : List α) (ε : Ep), I ε → itemsOf S = some (xs.map enc) → i + k = xs.length → ys = xs.drop i → acc.length + k ≤ 1000000 →
    (∀ ε, I ε → A ((acc ++ (ys.filter p).map f).map .fz) ε) → lcGoX S n tt te vs A k i (acc.map .fz) ε
  | S, 0, i, acc, ys, ε, hI, hS, hi, hy, _, h => ⟨by rw [items_len hS, List.length_map]; exact congrArg some (by omega), by
      subst hy
      rw [List.drop_eq_nil_of_le (by omega)] at h
      simpa using h ε hI⟩
  | S, k + 1, i, acc, ys, ε, hI, hS, hi, hy, hl, h => by
    have hx : (xs.map enc)[i]? = some (enc xs[i]) := by rw [List.getElem?_map, List.getElem?_eq_getElem (by omega)]; rfl
    refine ⟨by rw [items_len hS, List.length_map]; exact congrArg some (by omega), ?_⟩
    rw [items_at hS hx]
    subst hy
    rw [List.drop_eq_getElem_cons (by omega)] at h
    show tt (put ε n (.d (enc xs[i]))) _
    refine h1 _ (List.getElem_mem _) ε hI _ (fun ε2 => lcGoX S n tt te vs A k (i + 1) (acc.map .fz) (wipeE ε2 vs)) (fun hp ε' hI' => ?_) fun hp ε' hI' => ?_
    · show (acc.map NT.fz).length < 1000000 ∧ lcGoX S n tt te vs A k (i + 1) (acc.map .fz ++ [.fz (f xs[i])]) (wipeE ε' vs)
      rw [List.length_map]
      have e2 : acc.map NT.fz ++ [.fz (f xs[i])] = (acc ++ [f xs[i]]).map .fz := by rw [List.map_append]; rfl
      rw [e2]
      refine ⟨by omega, lcx_natI h1 S k (i + 1) _ _ _ hI' hS (by omega) rfl (by simp; omega) fun ε hε => ?_⟩
      have h := h ε hε
      rw [List.filter_cons, if_pos hp] at h
      simpa using h
    · show lcGoX S n tt te vs A k (i + 1) (acc.map .fz) (wipeE ε' vs)
      refine lcx_natI h1 S k (i + 1) _ _ _ hI' hS (by omega) rfl (by omega) fun ε hε => ?_
      have h := h ε hε
      rw [List.filter_cons, if_neg (by rw [hp]; simp)] at h
      simpa using h
theorem lcX_dsI {α : Type} {enc : α → PyData} {xs : List α} {n : Nat} {tt : TDT} {te : TD} {vs : List Nat} {p : α → Bool} {f : α → PyData} {I : Ep → Prop} {ε : Ep} {A : List NT → Ep → Prop} (hl : xs.length ≤ 1000000) (hI : I ε)
    (h1 : ∀ a ∈ xs, ∀ ε, I ε → ∀ (B : Vl → Ep → Prop) (C : Ep → Prop), (p a = true → ∀ ε', I (wipeE ε' vs) → B (.d (f a)) ε') → (p a = false → ∀ ε', I (wipeE ε' vs) → C ε') → tt (put ε n (.d (enc a))) fun b ε2 => onB b (te ε2 B) (C ε2))
    (h : ∀ ε, I ε → A (((xs.filter p).map f).map .fz) ε) : onO (lenAt (.ds (xs.map enc)) ε) fun L => lcGoX (.ds (xs.map enc)) n tt te vs A L 0 [] ε := by
  show lcGoX _ n tt te vs _ (xs.map enc).length 0 ([].map .fz) ε
  rw [List.length_map]
  exact lcx_natI h1 _ _ 0 [] xs ε hI rfl (by omega) rfl (by simpa using hl) h
end DL

namespace Cl
open PySem PySem.Spec PyProof.Rows L2 DL
local macro_rules | `(tactic| walk_at "x") => `(tactic| (refine ev_of ?_; simp only [ap_seq, ap_next, ap_brk, ap_cnt, ap_expr, ap_ret, ap_retN, ap_if, ap_asg, ap_set, ap_seti, ap_par, ap_dput, ap_forL, ap_forT, ap_forR, ap_while, ap_nm, ap_gtp, ap_gnil, ap_gcons, ap_var, ap_c, ap_op, ap_un, ap_test, ap_and, ap_or, ap_not, ap_yes, ap_andV, ap_orV, ap_notV, ap_ifE, ap_anil, ap_acons, ap_fnil, ap_fcons, ap_tup, ap_lst, ap_dct, ap_cb, ap_isi, ap_sl, ap_nopart, ap_part, ap_lstrg, ap_mut, ap_call, ap_callS, ap_din, ap_lcL, ap_lcT, ap_lcR, ap_lcB, ap_forB, ap_lcnil, ap_lccons, wp_nil, wp_cons, rs_nil, rs_cons, kp_d, kp_un, eq_self,
  ev_ev, kd_i, kd_s, if_true, if_false, Bool.false_eq_true, Bool.not_true, Bool.not_false, List.isEmpty_nil, List.isEmpty_cons, ev_and, ev_t, ev_f, ev_s, k_I0, k_I, k_EqL0, k_EqT0, k_EqLT, k_EqTL, k_EqI, k_EqB, k_EqS, k_EqN, k_EqLc, k_EqTc, id_eq, k_IsN, k_InL, k_InT, k_Cat, k_IxL, k_IxT, k_LenL, k_LenT, k_ListL, k_ListT, k_TupleL, k_TupleT, k_I2, k_Abs, k_Neg, k_App, k_PopAt, lk_0, lk_s, pt_0, pt_s, peekAll, sh_int, sh_none, sh_bool, sh_nil, sh_nilT, sh_ints, eqv_int, eqv_ss, eqv_bool, eqv_nil, at0, at1, at2, at3, ixN1, List.length_cons, List.length_nil, List.set_cons_succ, List.set_cons_zero, true_and, and_true, List.map_cons, List.map_nil, List.nil_append, List.cons_append, flatD, List.length_map, flat_ints, in_ints, ap_rev, ap_chain, ap_lcS, k_IsB, k_IntI, k_IntB, k_CatT, k_Rep, k_InS, k_LenS,
  ap_revA, ap_slA, ap_joinC, k_SlL, k_SlT, k_SlS, k_CatS, k_RepS, k_AxL, k_AxT, k_AxS, k_StrI, ap_forA, ap_lcA, it_L, it_T, it_S, k_AdI, k_AdL, k_AdT, k_AdS, k_MuI, k_MuL, k_MuS, Nat.zero_le, kit_tuple, kit_list, kit_str, kit_int, kit_bool, kit_dict, isN_none, isN_bool, isN_int, isN_str, isN_list, isN_tuple, isN_dict, isTup_none, isTup_bool, isTup_int, isTup_str, isTup_list, isTup_tuple, isTup_dict, isLst_none, isLst_bool, isLst_int, isLst_str, isLst_list, isLst_tuple, isLst_dict, isStr_none, isStr_bool, isStr_int, isStr_str, isStr_list, isStr_tuple, isStr_dict, isInt_none, isInt_bool, isInt_int, isInt_str, isInt_list, isInt_tuple, isInt_dict, isBool_none, isBool_bool, isBool_int, isBool_str, isBool_list, isBool_tuple, isBool_dict, isDict_none, isDict_bool, isDict_int, isDict_str, isDict_list, isDict_tuple, isDict_dict, dec_tt, dec_ft, dec_tf, dec_ff, dec_T, dec_F, ap_mF, ap_callM, ap_callX, ap_callXn, ap_raise, ap_exprX, ap_retX, ap_setX, ap_try, ap_isx, ap_isNx, nx_ex, nx_new, nx_d, fx_ex, fx_d, fx_new, fx_bor, DL.pa_nil, DL.pa_cons, bk_nil, bk_cons, bk1, ap_meth, ap_meth0, ap_gtpAt, ap_gtpAl, tyM_L, tyM_S, k_InAL, k_InAT, k_SortD, k_Count, sh_str, sh_strs, sh_bools, eqv_strs, eqv_bools, eqv_ints, List.filterMap_cons, List.filterMap_nil, List.nodup_nil, Nat.reduceAdd, Nat.reduceLeDiff, k_EqStrs, k_EqBools, k_EqInts, ap_forI, ap_lcI, ap_enu, ap_enu1, nd1, ap_ixA, ap_ixP, ap_ixD, ap_ixW, ap_ixB, ap_lenA, ap_lenP, ap_lenD, ap_lenW, ap_lenB, ixZ, ixT, ixL, List.getElem?_cons_zero, List.getElem?_cons_succ, ap_stX, ap_stb, ap_stp, ap_appN, ap_setN, ap_forX, ap_lcXA, ap_lcXR, ap_dgx, ap_dlen, ap_eq0, ap_dpop, ap_orL, ap_andL, getN, setN, fzAll, flatN, peekN, truL, resN_fz, pk_d, pk_new, pk_bor, pk_bp, pk_nt, fz_d, fz_dk, fz_new, fz_bor, fz_bp, fz_nt, so_new, so_dk, so_v, so_nt, so_bp, so_ex, so_d, so_bor, ub_d, ub_new, ub_dk, ub_nt, ub_ex, ub_bor, ub_bp, na_bp, na_d, na_new, na_bor, na_nt, an_nt, an_d, an_bor, pn_bp, ad_bp, kd_bp, sk_d, sk_bp, sc_bp, sc_d, sc_new, sc_bor, ps_d, ps_ex, ps_bor, ps_bp, sl_d, sl_ex, sl_bor, sl_bp, ap_dsortI, ap_callW, ap_cW, ap_appu, an_ev, Option.any_some]))
local macro_rules | `(tactic| walk_at "s") => `(tactic| (repeat with_reducible refine And.intro (by first | assumption | omega | exact True.intro | rfl | (simp; done) | (simp; omega) | decide) ?_))
/-! ### draws -/
abbrev Dr := Int × Int × Int
def drL (s : Dr) : List PyData := [.int s.1, .int s.2.1, .int s.2.2]
theorem next_wp {s : Dr} {n : Int} (h0 : 0 < n) (h1 : n < 1000000) {k : Vl → List Sl → Prop} (h : ∀ (r : Int) (s' : Dr), 0 ≤ r → r < n → k (.d (.int r)) [.lst false (drL s'), .un]) : runS s_qnext [.lst false (drL s), .d (.int n)] k := by
  obtain ⟨f, x, y⟩ := s
  refine ⟨rfl, ?_⟩
  show r_qnext _ [.lst false [.int f, .int x, .int y], .d (.int n), .un, .un]
  unfold r_qnext
  walk_at "x"
  refine onB_beq (fun hf => ?_) fun hf => ?_
  · walk_at "x"
    exact ⟨h0, ⟨h0, by omega⟩, h _ (_, _, _) (Int.emod_nonneg _ (by omega)) (Int.emod_lt_of_pos _ h0)⟩
  · walk_at "x"
    refine ⟨.inr (by decide), by decide, .inl ?_, by decide, .inl ?_, by decide, ⟨by decide, by decide⟩, h0, h _ (_, _, _) (Int.emod_nonneg _ (by omega)) (Int.emod_lt_of_pos _ h0)⟩
    · omega
    · omega
theorem state_wp {ns : List Int} {i : Int} (h0 : 0 ≤ i) (h1 : ns.length ≤ 1000) {k : Vl → List Sl → Prop} (h : ∀ (s : Dr) (ps : List Sl), k (.new (drL s)) ps) : runS s_qstate [.d (.list (ns.map .int)), .d (.int i)] k := by
  refine ⟨rfl, ?_⟩
  show r_qstate _ [.d (.list (ns.map .int)), .d (.int i), .un, .un]
  unfold r_qstate
  have hh : ∀ (a b c : Int) (ps : List Sl), k (.new [.int a, .int b, .int c]) ps := fun a b c ps => h (a, b, c) ps
  walk_at "x"
  refine ⟨.inl (by decide), onB_dec (fun hl => ?_) fun hl => ?_⟩
  · obtain ⟨x, hx, _⟩ := at_int (xs := ns) (i := i % (ns.length : Int)) (Int.emod_nonneg _ (by omega)) (Int.emod_lt_of_pos _ hl)
    walk_at "x"
    refine ⟨hl, onO_of hx ?_⟩
    walk_at "x"
    refine ⟨⟨hl, by omega⟩, .inl (by decide), ⟨by decide, by decide⟩, by decide, onB_beq (fun hb => ?_) fun hb => ?_⟩
    · walk_at "x"
      repeat' first | exact hh _ _ _ _ | refine And.intro ?_ ?_ | exact .inl (by decide) | exact .inr (by decide) | decide
    · walk_at "x"
      repeat' first | exact hh _ _ _ _ | refine And.intro ?_ ?_ | exact .inl (by decide) | exact .inr (by decide) | decide
  · walk_at "x"
    refine ⟨⟨by decide, by decide⟩, by decide, onB_beq (fun hb => ?_) fun hb => ?_⟩
    · walk_at "x"
      repeat' first | exact hh _ _ _ _ | refine And.intro ?_ ?_ | exact .inl (by decide) | exact .inr (by decide) | decide
    · walk_at "x"
      repeat' first | exact hh _ _ _ _ | refine And.intro ?_ ?_ | exact .inl (by decide) | exact .inr (by decide) | decide

/-! ### a draw state that is a part -/
def drT (a : Addr) (s : Dr) : NT := .node a .lst [.fz (.int s.1), .fz (.int s.2.1), .fz (.int s.2.2)]
theorem next_wpN {s : Dr} {a : Addr} {n : Int} (h0 : 0 < n) (h1 : n < 1000000) {k : Vl → List Sl → Prop} (h : ∀ (r : Int) (s' : Dr), 0 ≤ r → r < n → k (.d (.int r)) [.nt false (drT a s'), .un]) : runS s_qnext [.nt false (drT a s), .d (.int n)] k := by
  obtain ⟨f, x, y⟩ := s
  refine ⟨rfl, ?_⟩
  show r_qnext _ [.nt false (.node a .lst [.fz (.int f), .fz (.int x), .fz (.int y)]), .d (.int n), .un, .un]
  unfold r_qnext
  walk_at "x"
  refine onB_beq (fun hf => ?_) fun hf => ?_
  · walk_at "x"
    exact ⟨h0, ⟨h0, by omega⟩, h _ (_, _, _) (Int.emod_nonneg _ (by omega)) (Int.emod_lt_of_pos _ h0)⟩
  · walk_at "x"
    refine ⟨.inr (by decide), by decide, .inl ?_, by decide, .inl ?_, by decide, ⟨by decide, by decide⟩, h0, h _ (_, _, _) (Int.emod_nonneg _ (by omega)) (Int.emod_lt_of_pos _ h0)⟩
    · omega
    · omega

end Cl

namespace Cl
open PySem PySem.Spec PyProof.Rows L2 DL
local macro_rules | `(tactic| walk_at "x") => `(tactic| (refine ev_of ?_; simp only [ap_seq, ap_next, ap_brk, ap_cnt, ap_expr, ap_ret, ap_retN, ap_if, ap_asg, ap_set, ap_seti, ap_par, ap_dput, ap_forL, ap_forT, ap_forR, ap_while, ap_nm, ap_gtp, ap_gnil, ap_gcons, ap_var, ap_c, ap_op, ap_un, ap_test, ap_and, ap_or, ap_not, ap_yes, ap_andV, ap_orV, ap_notV, ap_ifE, ap_anil, ap_acons, ap_fnil, ap_fcons, ap_tup, ap_lst, ap_dct, ap_cb, ap_isi, ap_sl, ap_nopart, ap_part, ap_lstrg, ap_mut, ap_call, ap_callS, ap_din, ap_lcL, ap_lcT, ap_lcR, ap_lcB, ap_forB, ap_lcnil, ap_lccons, wp_nil, wp_cons, rs_nil, rs_cons, kp_d, kp_un, eq_self,
  ev_ev, kd_i, kd_s, if_true, if_false, Bool.false_eq_true, Bool.not_true, Bool.not_false, List.isEmpty_nil, List.isEmpty_cons, ev_and, ev_t, ev_f, ev_s, k_I0, k_I, k_EqL0, k_EqT0, k_EqLT, k_EqTL, k_EqI, k_EqB, k_EqS, k_EqN, k_EqLc, k_EqTc, id_eq, k_IsN, k_InL, k_InT, k_Cat, k_IxL, k_IxT, k_LenL, k_LenT, k_ListL, k_ListT, k_TupleL, k_TupleT, k_I2, k_Abs, k_Neg, k_App, k_PopAt, lk_0, lk_s, pt_0, pt_s, peekAll, sh_int, sh_none, sh_bool, sh_nil, sh_nilT, sh_ints, eqv_int, eqv_ss, eqv_bool, eqv_nil, at0, at1, at2, at3, ixN1, List.length_cons, List.length_nil, List.set_cons_succ, List.set_cons_zero, true_and, and_true, List.map_cons, List.map_nil, List.nil_append, List.cons_append, flatD, List.length_map, flat_ints, in_ints, ap_rev, ap_chain, ap_lcS, k_IsB, k_IntI, k_IntB, k_CatT, k_Rep, k_InS, k_LenS,
  ap_revA, ap_slA, ap_joinC, k_SlL, k_SlT, k_SlS, k_CatS, k_RepS, k_AxL, k_AxT, k_AxS, k_StrI, ap_forA, ap_lcA, it_L, it_T, it_S, k_AdI, k_AdL, k_AdT, k_AdS, k_MuI, k_MuL, k_MuS, Nat.zero_le, kit_tuple, kit_list, kit_str, kit_int, kit_bool, kit_dict, isN_none, isN_bool, isN_int, isN_str, isN_list, isN_tuple, isN_dict, isTup_none, isTup_bool, isTup_int, isTup_str, isTup_list, isTup_tuple, isTup_dict, isLst_none, isLst_bool, isLst_int, isLst_str, isLst_list, isLst_tuple, isLst_dict, isStr_none, isStr_bool, isStr_int, isStr_str, isStr_list, isStr_tuple, isStr_dict, isInt_none, isInt_bool, isInt_int, isInt_str, isInt_list, isInt_tuple, isInt_dict, isBool_none, isBool_bool, isBool_int, isBool_str, isBool_list, isBool_tuple, isBool_dict, isDict_none, isDict_bool, isDict_int, isDict_str, isDict_list, isDict_tuple, isDict_dict, dec_tt, dec_ft, dec_tf, dec_ff, dec_T, dec_F, ap_mF, ap_callM, ap_callX, ap_callXn, ap_raise, ap_exprX, ap_retX, ap_setX, ap_try, ap_isx, ap_isNx, nx_ex, nx_new, nx_d, fx_ex, fx_d, fx_new, fx_bor, DL.pa_nil, DL.pa_cons, bk_nil, bk_cons, bk1, ap_meth, ap_meth0, ap_gtpAt, ap_gtpAl, tyM_L, tyM_S, k_InAL, k_InAT, k_SortD, k_Count, sh_str, sh_strs, sh_bools, eqv_strs, eqv_bools, eqv_ints, List.filterMap_cons, List.filterMap_nil, List.nodup_nil, Nat.reduceAdd, Nat.reduceLeDiff, k_EqStrs, k_EqBools, k_EqInts, ap_forI, ap_lcI, ap_enu, ap_enu1, nd1, ap_ixA, ap_ixP, ap_ixD, ap_ixW, ap_ixB, ap_lenA, ap_lenP, ap_lenD, ap_lenW, ap_lenB, ixZ, ixT, ixL, List.getElem?_cons_zero, List.getElem?_cons_succ, ap_stX, ap_stb, ap_stp, ap_appN, ap_setN, ap_forX, ap_lcXA, ap_lcXR, ap_dgx, ap_dlen, ap_eq0, ap_dpop, ap_orL, ap_andL, getN, setN, fzAll, flatN, peekN, truL, resN_fz, pk_d, pk_new, pk_bor, pk_bp, pk_nt, fz_d, fz_dk, fz_new, fz_bor, fz_bp, fz_nt, so_new, so_dk, so_v, so_nt, so_bp, so_ex, so_d, so_bor, ub_d, ub_new, ub_dk, ub_nt, ub_ex, ub_bor, ub_bp, na_bp, na_d, na_new, na_bor, na_nt, an_nt, an_d, an_bor, pn_bp, ad_bp, kd_bp, sk_d, sk_bp, sc_bp, sc_d, sc_new, sc_bor, ps_d, ps_ex, ps_bor, ps_bp, sl_d, sl_ex, sl_bor, sl_bp, ap_dsortI, ap_callW, ap_cW, ap_appu, an_ev, Option.any_some]))
local macro_rules | `(tactic| walk_at "s") => `(tactic| (repeat with_reducible refine And.intro (by first | assumption | omega | exact True.intro | rfl | (simp; done) | (simp; omega) | decide) ?_))

/-- a key as the builder makes it -/
def Low (s : Str) : Prop := ∀ c ∈ s.cps.toList, 97 ≤ c ∧ c ≤ 122
def KeyT (s : Str) : Prop := (1 ≤ s.length ∧ s.length ≤ 4) ∧ Low s
theorem at_letters {i : Int} (h0 : 0 ≤ i) (h1 : i < 26) : ∃ c, atI (Str.ofString "abcdefghijklmnopqrstuvwxyz").cps.toList i = some c ∧ 97 ≤ c ∧ c ≤ 122 := by
  have hl : (Str.ofString "abcdefghijklmnopqrstuvwxyz").cps.toList = (List.range 26).map (· + 97) := by decide +kernel
  obtain ⟨k, rfl⟩ : ∃ k : Nat, i = (k : Int) := ⟨i.toNat, by omega⟩
  rw [hl]
  have hk : k < 26 := by omega
  refine ⟨k + 97, atI_nat ?_, by omega, by omega⟩
  rw [List.getElem?_map, List.getElem?_range hk]
  rfl
theorem len_rep (c m : Nat) : (repS ⟨#[c]⟩ m).length = m := by
  show (List.replicate m [c]).flatten.toArray.size = m
  simp
theorem texts_of {P : Str → Prop} : ∀ {xs : List PyData}, (∀ (j : Nat) (x : PyData), xs[j]? = some x → ∃ t, x = .str t ∧ P t) → ∃ ks : List Str, xs = ks.map .str ∧ ∀ t ∈ ks, P t
  | [], _ => ⟨[], rfl, fun _ h => nomatch h⟩
  | x :: xs, h => by
    obtain ⟨t, rfl, ht⟩ := h 0 x rfl
    obtain ⟨ks, rfl, hk⟩ := texts_of (xs := xs) fun j y hy => h (j + 1) y (by simpa using hy)
    refine ⟨t :: ks, rfl, fun u hu => ?_⟩
    rcases List.mem_cons.mp hu with rfl | hu
    · exact ht
    · exact hk u hu
theorem join_one : ∀ {zs : List Str}, (∀ t ∈ zs, ∃ c, t = ⟨#[c]⟩ ∧ 97 ≤ c ∧ c ≤ 122) → (Str.join (Str.ofString "") zs).cps.toList.length = zs.length ∧ Low (Str.join (Str.ofString "") zs) ∧ (zs.map (·.length)).sum = zs.length
  | [], _ => ⟨rfl, (fun c h => nomatch h), rfl⟩
  | [z], h => by
    obtain ⟨c, rfl, h1⟩ := h z List.mem_cons_self
    exact ⟨rfl, fun d hd => by rw [List.mem_singleton.mp (show d ∈ [c] from hd)]; exact h1, rfl⟩
  | z :: y :: r, h => by
    obtain ⟨c, rfl, h1⟩ := h z List.mem_cons_self
    obtain ⟨i1, i2, i3⟩ := join_one (zs := y :: r) fun t ht => h t (List.mem_cons_of_mem _ ht)
    have e : (Str.join (Str.ofString "") (⟨#[c]⟩ :: y :: r)).cps.toList = c :: (Str.join (Str.ofString "") (y :: r)).cps.toList := by
      show ((⟨#[c]⟩ : Str) ++ Str.ofString "" ++ Str.join (Str.ofString "") (y :: r)).cps.toList = _
      have e0 : ∀ a b : Str, (a ++ b).cps.toList = a.cps.toList ++ b.cps.toList := fun a b => Array.toList_append
      rw [e0, e0]
      rfl
    refine ⟨by rw [e, List.length_cons, i1]; rfl, fun d hd => ?_, by rw [List.map_cons, List.sum_cons, i3, List.length_cons (a := (⟨#[c]⟩ : Str))]; show 1 + _ = _; omega⟩
    rw [e] at hd
    rcases List.mem_cons.mp hd with rfl | hd
    · exact h1
    · exact i2 d hd
theorem join_low {zs : List Str} (h : ∀ t ∈ zs, ∃ c, t = ⟨#[c]⟩ ∧ 97 ≤ c ∧ c ≤ 122) : (Txt.join (Str.ofString "") zs).length = zs.length ∧ Low (Txt.join (Str.ofString "") zs) ∧ (zs.map (·.length)).sum + zs.length * (Str.ofString "").length = zs.length := by
  rw [show Txt.join (Str.ofString "") zs = Str.join (Str.ofString "") zs from PySem.StrLaws.glued_eq_join _ _]
  obtain ⟨h1, h2, h3⟩ := join_one h
  exact ⟨h1, h2, by rw [h3]; show zs.length + zs.length * 0 = _; omega⟩
theorem len_app (a b : Str) : (a ++ b).length = a.length + b.length := by
  show (a.cps ++ b.cps).size = _
  rw [Array.size_append]
  rfl
theorem low_app {a b : Str} (h1 : Low a) (h2 : Low b) : Low (a ++ b) := fun c hc => by
  have hc : c ∈ (a.cps ++ b.cps).toList := hc
  rw [Array.toList_append] at hc
  rcases List.mem_append.mp hc with hc | hc
  · exact h1 c hc
  · exact h2 c hc
theorem low_cut {a : Str} (h : Low a) {lo hi : Option Int} : Low (cutS a lo hi) := fun c hc => by
  have hc : c ∈ ((a.cps.toList.drop (HT.sIx a.length 0 lo)).take (HT.sIx a.length a.length hi - HT.sIx a.length 0 lo)) := hc
  exact h c (List.mem_of_mem_drop (List.mem_of_mem_take hc))
theorem cut_to (a : Str) {i : Int} (h0 : 0 ≤ i) (h1 : i ≤ a.length) : (cutS a none (some i)).length = i.toNat := by
  show (((a.cps.toList.drop (HT.sIx a.length 0 none)).take (HT.sIx a.length a.length (some i) - HT.sIx a.length 0 none)).toArray).size = _
  obtain ⟨k, rfl⟩ : ∃ k : Nat, i = (k : Int) := ⟨i.toNat, by omega⟩
  have : a.cps.size = a.length := rfl
  rw [List.size_toArray, List.length_take, List.length_drop, Array.length_toList, HT.sIx_nat, HT.sIx_none]
  omega
theorem cut_from (a : Str) {i : Int} (h0 : 0 ≤ i) (h1 : i ≤ a.length) : (cutS a (some i) none).length = a.length - i.toNat := by
  show (((a.cps.toList.drop (HT.sIx a.length 0 (some i))).take (HT.sIx a.length a.length none - HT.sIx a.length 0 (some i))).toArray).size = _
  obtain ⟨k, rfl⟩ : ∃ k : Nat, i = (k : Int) := ⟨i.toNat, by omega⟩
  have : a.cps.size = a.length := rfl
  rw [List.size_toArray, List.length_take, List.length_drop, Array.length_toList, HT.sIx_nat, HT.sIx_none]
  omega
theorem onB_rest {b : Bool} {X R : Prop} (hR : R) (hX : b = true → R → X) : onB b X R := by
  cases b
  · exact hR
  · exact hX rfl hR
theorem qkeys_wp {s : Dr} {n : Int} (h0 : 1 ≤ n) (h1 : n ≤ 5) {k : Vl → List Sl → Prop} (h : ∀ (ks : List Str) (s' : Dr), (ks.length : Int) = n → (∀ x ∈ ks, KeyT x) → k (.new (ks.map .str)) [.lst false (drL s'), .un]) : runS s_qkeys [.lst false (drL s), .d (.int n)] k := by
  refine ⟨rfl, ?_⟩
  show r_qkeys _ [.lst false (drL s), .d (.int n), .un, .un, .un, .un, .un, .un]
  unfold r_qkeys
  walk_at "x"
  refine next_wp (by omega) (by omega) fun sh s1 sh0 sh1 => ?_
  walk_at "x"
  refine next_wp (by omega) (by omega) fun q s2 q0 q1 => ?_
  walk_at "x"
  refine onB_rest ?_ fun hq R => ?_
  · walk_at "x"
    refine next_wp (by omega) (by omega) fun lo s3 lo0 lo1 => ?_
    walk_at "x"
    refine next_wp (by omega) (by omega) fun pl s4 pl0 pl1 => ?_
    walk_at "x"
    refine ⟨by omega, by omega, ?_⟩
    refine of_ev ?_
    refine lcX_rgP (P := fun _ x => ∃ t, x = .str t ∧ ∃ c, t = ⟨#[c]⟩ ∧ 97 ≤ c ∧ c ≤ 122) (e := ?e0) (show (1 + lo).toNat < 1000000 by omega) (fun i hi B hB => ?b0) ?w0 ?k0
    case b0 =>
      obtain ⟨c, ec, hc26⟩ := at_letters (i := (sh + 7 * (0 + (i : Int))) % 26) (by omega) (by omega)
      walk_at "x"
      refine ⟨.inl (by decide), by decide, by decide +kernel, onO_of ec ?_⟩
      exact hB _ ⟨_, rfl, c, rfl, hc26⟩
    case w0 => exact fun _ _ => rfl
    case k0 =>
      intro ys hl hp D
      obtain ⟨zs, rfl, hz⟩ := texts_of hp
      rw [List.length_map] at hl
      obtain ⟨b1, b2, b3⟩ := join_low hz
      walk_at "x"
      refine ⟨zs, rfl, by rw [b3]; omega, ?_⟩
      generalize Txt.join (Str.ofString "") zs = base at b1 b2 ⊢
      walk_at "x"
      refine ⟨by omega, by omega, ?_⟩
      refine of_ev ?_
      refine lcX_rgP (P := fun _ x => ∃ t, x = .str t ∧ KeyT t) (e := ?e1) (show n.toNat < 1000000 by omega) (fun i hi B hB => ?b1) ?w1 ?k1
      case b1 =>
        obtain ⟨c, ec, hc26⟩ := at_letters (i := (sh + 5 + 3 * (0 + (i : Int))) % 26) (by omega) (by omega)
        walk_at "x"
        have c1 := cutS_length base none (some pl)
        have c2 := cutS_length base (some (pl + 1)) none
        refine ⟨by omega, .inl (by decide), by decide, by decide +kernel, onO_of ec ?_⟩
        walk_at "x"
        refine ⟨by show _ + 1 ≤ _; omega, by omega, by rw [len_app]; show _ + 1 + _ ≤ _; omega, ?_⟩
        refine hB _ ⟨_, rfl, ?_⟩
        have hc : Low (⟨#[c]⟩ : Str) := fun d hd => by rw [List.mem_singleton.mp (show d ∈ [c] from hd)]; exact hc26
        refine ⟨?_, low_app (low_app (low_cut b2) hc) (low_cut b2)⟩
        rw [len_app, len_app, cut_to base (by omega) (by omega), cut_from base (by omega) (by omega)]
        show 1 ≤ _ + 1 + _ ∧ _ + 1 + _ ≤ 4
        omega
      case w1 => exact fun _ _ => rfl
      case k1 =>
        intro ys hl hp D
        obtain ⟨zs, rfl, hz⟩ := texts_of hp
        rw [List.length_map] at hl
        walk_at "x"
        exact h zs _ (by omega) hz
  · walk_at "x"
    refine onB_dec (fun hn => ?_) fun hn => ?_
    · walk_at "x"
      refine ⟨by omega, by omega, ?_⟩
      refine of_ev ?_
      obtain ⟨c, ec, hc26⟩ := at_letters sh0 sh1
      refine lcX_rgP (P := fun _ x => ∃ t, x = .str t ∧ KeyT t) (e := ?e2) (show n.toNat < 1000000 by omega) (fun i hi B hB => ?b2) ?w2 ?k2
      case b2 =>
        walk_at "x"
        refine ⟨by decide +kernel, onO_of ec ?_⟩
        walk_at "x"
        refine ⟨⟨by omega, by omega, by show 1 ≤ 1000; decide⟩, ?_⟩
        refine hB _ ⟨_, rfl, ?_⟩
        refine ⟨by rw [len_rep]; omega, fun d hd => ?_⟩
        have hd : d ∈ (List.replicate (1 + (0 + (i : Int))).toNat [c]).flatten := hd
        obtain ⟨l, hl, hd⟩ := List.mem_flatten.mp hd
        rw [(List.mem_replicate.mp hl).2, List.mem_singleton] at hd
        rw [hd]
        exact hc26
      case w2 => exact fun _ _ => rfl
      case k2 =>
        intro ys hl hp D
        obtain ⟨zs, rfl, hz⟩ := texts_of hp
        rw [List.length_map] at hl
        walk_at "x"
        exact h zs _ (by omega) hz
    · exact R

end Cl

namespace Cl
open PySem PySem.Spec PyProof.Rows L2 DL
structure Sp where
  h : Int
  f : Int
  l : Int
structure SI (n : Nat) (cr : Int) (xs : List Sp) (bs : List (Int × Nat)) (mom : Int) (m : Nat) : Prop where
  len : xs.length ≤ n
  meas : m = 2 * (n - xs.length) + bs.length
  hands : ∀ x ∈ xs, 0 ≤ x.h ∧ x.h < cr
  mom0 : 0 ≤ mom
  bnd : mom + 400 * m ≤ 2 + 800 * n
  nd : (bs.map (·.1)).Nodup
  bl : bs.length ≤ xs.length
  bok : ∀ p ∈ bs, ∃ x, xs[p.2]? = some x ∧ x.h = p.1 ∧ x.l = x.f
  lt : ∀ x ∈ xs, 0 ≤ x.f ∧ x.f ≤ x.l ∧ x.l < mom
  cl : ∀ (j : Nat) x, xs[j]? = some x → (∀ p ∈ bs, p.2 ≠ j) → x.f < x.l
  rise : ∀ (i j : Nat) x y, i < j → xs[i]? = some x → xs[j]? = some y → x.f < y.f ∧ (x.h = y.h → (∀ p ∈ bs, p.2 ≠ i) ∧ x.l < y.f)
  diff : ∀ (i j : Nat) x y, i ≠ j → xs[i]? = some x → xs[j]? = some y → x.f ≠ y.l ∧ x.l ≠ y.l
theorem get_app1 {α : Type} {xs : List α} {a x : α} {j : Nat} (h : (xs ++ [a])[j]? = some x) : (j < xs.length ∧ xs[j]? = some x) ∨ (j = xs.length ∧ x = a) := by
  rw [List.getElem?_append] at h
  split at h
  · exact .inl ⟨by assumption, h⟩
  · rename_i q
    obtain ⟨q2, e⟩ := List.getElem?_eq_some_iff.mp h
    simp at q2
    have : j = xs.length := by omega
    subst this
    simp at e
    exact .inr ⟨rfl, e.symm⟩
theorem SI.opened {n : Nat} {cr : Int} {xs : List Sp} {bs : List (Int × Nat)} {mom : Int} {m : Nat} (I : SI n cr xs bs mom m) {h r : Int} (hl : xs.length < n) (h0 : 0 ≤ h) (h1 : h < cr) (hb : ∀ p ∈ bs, p.1 ≠ h) (r0 : 0 ≤ r) (r1 : r < 400) :
    ∃ m', m' + 1 = m ∧ SI n cr (xs ++ [⟨h, mom, mom⟩]) (bs ++ [(h, xs.length)]) (mom + 1 + r) m' := by
  have me := I.meas
  have bd := I.bnd
  have m0 := I.mom0
  refine ⟨m - 1, by omega, ?_, ?_, fun x hx => ?_, by omega, by omega, ?_, by have := I.bl; simp; omega, fun p hp => ?_, fun x hx => ?_, fun j x hx hp => ?_, fun i j x y hij hx hy => ?_, fun i j x y hij hx hy => ?_⟩
  · simp; omega
  · simp; omega
  · rcases List.mem_append.mp hx with hx | hx
    · exact I.hands x hx
    · rw [List.mem_singleton.mp hx]; exact ⟨h0, h1⟩
  · rw [List.map_append, List.nodup_append]
    refine ⟨I.nd, by simp, fun a ha b hb' => ?_⟩
    obtain ⟨p, hp, rfl⟩ := List.mem_map.mp ha
    simp at hb'
    rw [hb']
    exact hb p hp
  · rcases List.mem_append.mp hp with hp | hp
    · obtain ⟨x, e, q⟩ := I.bok p hp
      exact ⟨x, by rw [List.getElem?_append_left (List.getElem?_eq_some_iff.mp e).1]; exact e, q⟩
    · rw [List.mem_singleton.mp hp]
      exact ⟨⟨h, mom, mom⟩, by simp, rfl, rfl⟩
  · rcases List.mem_append.mp hx with hx | hx
    · have := I.lt x hx; omega
    · rw [List.mem_singleton.mp hx]; show 0 ≤ mom ∧ mom ≤ mom ∧ mom < _; omega
  · rcases get_app1 hx with ⟨hj, hx⟩ | ⟨hj, rfl⟩
    · exact I.cl j x hx fun p hp' => hp p (List.mem_append_left _ hp')
    · exact absurd hj.symm (hp (h, xs.length) (by simp))
  · rcases get_app1 hx with ⟨hi, hx⟩ | ⟨hi, rfl⟩
    · rcases get_app1 hy with ⟨hj, hy⟩ | ⟨hj, rfl⟩
      · obtain ⟨q1, q2⟩ := I.rise i j x y hij hx hy
        refine ⟨q1, fun e => ⟨fun p hp => ?_, (q2 e).2⟩⟩
        rcases List.mem_append.mp hp with hp | hp
        · exact (q2 e).1 p hp
        · rw [List.mem_singleton.mp hp]; show xs.length ≠ i; omega
      · have := I.lt x (List.mem_of_getElem? hx)
        refine ⟨by show x.f < mom; omega, fun e => ⟨fun p hp z => ?_, by show x.l < mom; omega⟩⟩
        rcases List.mem_append.mp hp with hp | hp
        · obtain ⟨x2, e2, e3, _⟩ := I.bok p hp
          rw [z, hx] at e2
          cases e2
          exact hb p hp (e3.symm.trans e)
        · rw [List.mem_singleton.mp hp] at z
          have z : xs.length = i := z
          omega
    · rcases get_app1 hy with ⟨hj, hy⟩ | ⟨hj, rfl⟩
      · omega
      · omega
  · rcases get_app1 hx with ⟨hi, hx⟩ | ⟨hi, rfl⟩
    · have lx := I.lt x (List.mem_of_getElem? hx)
      rcases get_app1 hy with ⟨hj, hy⟩ | ⟨hj, rfl⟩
      · exact I.diff i j x y hij hx hy
      · show x.f ≠ mom ∧ x.l ≠ mom; omega
    · rcases get_app1 hy with ⟨hj, hy⟩ | ⟨hj, rfl⟩
      · have ly := I.lt y (List.mem_of_getElem? hy)
        show mom ≠ y.l ∧ mom ≠ y.l; omega
      · omega
theorem fst_inj : ∀ {bs : List (Int × Nat)}, (bs.map (·.1)).Nodup → ∀ p ∈ bs, ∀ q ∈ bs, p.1 = q.1 → p = q
  | [], _, _, hp, _, _, _ => nomatch hp
  | b :: bs, nd, p, hp, q, hq, e => by
    have nd : b.1 ∉ bs.map (·.1) ∧ (bs.map (·.1)).Nodup := List.nodup_cons.mp nd
    rcases List.mem_cons.mp hp with hp | hp
    · rcases List.mem_cons.mp hq with hq | hq
      · rw [hp, hq]
      · exact absurd (List.mem_map.mpr ⟨q, hq, by rw [← e, hp]⟩) nd.1
    · rcases List.mem_cons.mp hq with hq | hq
      · exact absurd (List.mem_map.mpr ⟨p, hp, by rw [e, hq]⟩) nd.1
      · exact fst_inj nd.2 p hp q hq e
theorem SI.few {n : Nat} {cr : Int} {xs : List Sp} {bs : List (Int × Nat)} {mom : Int} {m : Nat} (I : SI n cr xs bs mom m) (hn : n ≤ 12) : bs.length < 64 := by
  have := I.bl
  have := I.len
  omega
theorem get_set {α : Type} {xs : List α} {a x : α} {i j : Nat} (h : (xs.set i a)[j]? = some x) : (i = j ∧ x = a ∧ j < xs.length) ∨ (i ≠ j ∧ xs[j]? = some x) := by
  rw [List.getElem?_set] at h
  split at h
  · split at h
    · rename_i e q
      cases h
      exact .inl ⟨e, rfl, by omega⟩
    · cases h
  · exact .inr ⟨by assumption, h⟩
theorem SI.closed {n : Nat} {cr : Int} {xs : List Sp} {bs : List (Int × Nat)} {mom : Int} {m : Nat} (I : SI n cr xs bs mom m) {h r : Int} {j : Nat} {x : Sp} (hp : (h, j) ∈ bs) (hx : xs[j]? = some x) (r0 : 0 ≤ r) (r1 : r < 400) :
    ∃ m', m' + 1 = m ∧ SI n cr (xs.set j ⟨x.h, x.f, mom⟩) (bs.filter fun p => decide (p.1 ≠ h)) (mom + 1 + r) m' := by
  have me := I.meas
  have bd := I.bnd
  have m0 := I.mom0
  obtain ⟨x', e', ex, el⟩ := I.bok _ hp
  have e' : xs[j]? = some x' := e'
  rw [hx] at e'
  cases e'
  have lx := I.lt x (List.mem_of_getElem? hx)
  have hc : (bs.filter fun p => decide (p.1 ≠ h)).length + 1 = bs.length := by
    have gen : ∀ bs : List (Int × Nat), (bs.map (·.1)).Nodup → (h, j) ∈ bs → (bs.filter fun p => decide (p.1 ≠ h)).length + 1 = bs.length := fun bs => by
      induction bs with
      | nil => intro _ z; cases z
      | cons b bs ih =>
        intro nd hb
        rw [List.map_cons, List.nodup_cons] at nd
        by_cases e : b.1 = h
        · rw [List.filter_cons, if_neg (by simp [e])]
          have : bs.filter (fun p => decide (p.1 ≠ h)) = bs := List.filter_eq_self.mpr fun p hp => by
            simp only [decide_eq_true_eq]
            intro z
            exact nd.1 (List.mem_map.mpr ⟨p, hp, z.trans e.symm⟩)
          rw [this, List.length_cons]
        · rw [List.filter_cons, if_pos (by simp [e]), List.length_cons, List.length_cons]
          rcases List.mem_cons.mp hb with q | q
          · exact absurd (by rw [← q]) e
          · rw [ih nd.2 q]
    exact gen bs I.nd hp
  have inj : ∀ p ∈ bs, p.2 = j → p.1 = h := fun p hp' e => by
    obtain ⟨x2, e2, e3, _⟩ := I.bok p hp'
    rw [e, hx] at e2
    cases e2
    exact e3.symm.trans ex
  have mem_f : ∀ p, p ∈ (bs.filter fun p => decide (p.1 ≠ h)) ↔ p ∈ bs ∧ p.1 ≠ h := fun p => by simp [List.mem_filter]
  refine ⟨m - 1, by omega, by simp; exact I.len, ?_, fun y hy => ?_, by omega, by omega, ?_, by have := I.bl; rw [List.length_set]; omega, fun p hp' => ?_, fun y hy => ?_, fun i y hy hp' => ?_, fun i k y z hik hy hz => ?_, fun i k y z hik hy hz => ?_⟩
  · rw [List.length_set]; omega
  · rcases List.mem_or_eq_of_mem_set hy with hy | rfl
    · exact I.hands y hy
    · exact I.hands x (List.mem_of_getElem? hx)
  · exact I.nd.sublist ((List.filter_sublist).map _)
  · obtain ⟨q1, q2⟩ := (mem_f p).mp hp'
    obtain ⟨y, e1, e2⟩ := I.bok p q1
    refine ⟨y, ?_, e2⟩
    rw [List.getElem?_set_ne fun z => q2 (inj p q1 z.symm)]
    exact e1
  · rcases List.mem_or_eq_of_mem_set hy with hy | rfl
    · have := I.lt y hy; omega
    · show 0 ≤ x.f ∧ x.f ≤ mom ∧ mom < _; omega
  · rcases get_set hy with ⟨rfl, rfl, _⟩ | ⟨ne, hy⟩
    · show x.f < mom; omega
    · refine I.cl i y hy fun p hp2 z => ?_
      by_cases e : p.1 = h
      · obtain ⟨x2, e2, e3, _⟩ := I.bok p hp2
        have : p = (h, j) := by
          exact fst_inj I.nd p hp2 _ hp e
        rw [this] at z
        exact ne z
      · exact hp' p ((mem_f p).mpr ⟨hp2, e⟩) z
  · rcases get_set hy with ⟨rfl, rfl, _⟩ | ⟨ne, hy⟩
    · rcases get_set hz with ⟨rfl, rfl, _⟩ | ⟨ne2, hz⟩
      · omega
      · obtain ⟨q1, q2⟩ := I.rise j k x z hik hx hz
        refine ⟨q1, fun e => absurd rfl ((q2 e).1 (h, j) hp)⟩
    · rcases get_set hz with ⟨rfl, rfl, _⟩ | ⟨ne2, hz⟩
      · obtain ⟨q1, q2⟩ := I.rise i j y x hik hy hx
        exact ⟨q1, fun e => ⟨fun p hp' => (q2 e).1 p ((mem_f p).mp hp').1, (q2 e).2⟩⟩
      · obtain ⟨q1, q2⟩ := I.rise i k y z hik hy hz
        exact ⟨q1, fun e => ⟨fun p hp' => (q2 e).1 p ((mem_f p).mp hp').1, (q2 e).2⟩⟩
  · rcases get_set hy with ⟨rfl, rfl, _⟩ | ⟨ne, hy⟩
    · rcases get_set hz with ⟨rfl, rfl, _⟩ | ⟨ne2, hz⟩
      · omega
      · have lz := I.lt z (List.mem_of_getElem? hz)
        have := I.diff j k x z hik hx hz
        show x.f ≠ z.l ∧ mom ≠ z.l; omega
    · have ly := I.lt y (List.mem_of_getElem? hy)
      rcases get_set hz with ⟨rfl, rfl, _⟩ | ⟨ne2, hz⟩
      · show y.f ≠ mom ∧ y.l ≠ mom; omega
      · exact I.diff i k y z hik hy hz
def spT (x : Addr × Sp) : NT := .node x.1 .lst [.fz (.int x.2.h), .fz (.int x.2.f), .fz (.int x.2.l)]
local macro_rules | `(tactic| walk_at "x") => `(tactic| (refine ev_of ?_; simp only [ap_seq, ap_next, ap_brk, ap_cnt, ap_expr, ap_ret, ap_retN, ap_if, ap_asg, ap_set, ap_seti, ap_par, ap_dput, ap_forL, ap_forT, ap_forR, ap_while, ap_nm, ap_gtp, ap_gnil, ap_gcons, ap_var, ap_c, ap_op, ap_un, ap_test, ap_and, ap_or, ap_not, ap_yes, ap_andV, ap_orV, ap_notV, ap_ifE, ap_anil, ap_acons, ap_fnil, ap_fcons, ap_tup, ap_lst, ap_dct, ap_cb, ap_isi, ap_sl, ap_nopart, ap_part, ap_lstrg, ap_mut, ap_call, ap_callS, ap_din, ap_lcL, ap_lcT, ap_lcR, ap_lcB, ap_forB, ap_lcnil, ap_lccons, wp_nil, wp_cons, rs_nil, rs_cons, kp_d, kp_un, eq_self,
  ev_ev, kd_i, kd_s, if_true, if_false, Bool.false_eq_true, Bool.not_true, Bool.not_false, List.isEmpty_nil, List.isEmpty_cons, ev_and, ev_t, ev_f, ev_s, k_I0, k_I, k_EqL0, k_EqT0, k_EqLT, k_EqTL, k_EqI, k_EqB, k_EqS, k_EqN, k_EqLc, k_EqTc, id_eq, k_IsN, k_InL, k_InT, k_Cat, k_IxL, k_IxT, k_LenL, k_LenT, k_ListL, k_ListT, k_TupleL, k_TupleT, k_I2, k_Abs, k_Neg, k_App, k_PopAt, lk_0, lk_s, pt_0, pt_s, peekAll, sh_int, sh_none, sh_bool, sh_nil, sh_nilT, sh_ints, eqv_int, eqv_ss, eqv_bool, eqv_nil, at0, at1, at2, at3, ixN1, List.length_cons, List.length_nil, List.set_cons_succ, List.set_cons_zero, true_and, and_true, List.map_cons, List.map_nil, List.nil_append, List.cons_append, flatD, List.length_map, flat_ints, in_ints, ap_rev, ap_chain, ap_lcS, k_IsB, k_IntI, k_IntB, k_CatT, k_Rep, k_InS, k_LenS,
  ap_revA, ap_slA, ap_joinC, k_SlL, k_SlT, k_SlS, k_CatS, k_RepS, k_AxL, k_AxT, k_AxS, k_StrI, ap_forA, ap_lcA, it_L, it_T, it_S, k_AdI, k_AdL, k_AdT, k_AdS, k_MuI, k_MuL, k_MuS, Nat.zero_le, kit_tuple, kit_list, kit_str, kit_int, kit_bool, kit_dict, isN_none, isN_bool, isN_int, isN_str, isN_list, isN_tuple, isN_dict, isTup_none, isTup_bool, isTup_int, isTup_str, isTup_list, isTup_tuple, isTup_dict, isLst_none, isLst_bool, isLst_int, isLst_str, isLst_list, isLst_tuple, isLst_dict, isStr_none, isStr_bool, isStr_int, isStr_str, isStr_list, isStr_tuple, isStr_dict, isInt_none, isInt_bool, isInt_int, isInt_str, isInt_list, isInt_tuple, isInt_dict, isBool_none, isBool_bool, isBool_int, isBool_str, isBool_list, isBool_tuple, isBool_dict, isDict_none, isDict_bool, isDict_int, isDict_str, isDict_list, isDict_tuple, isDict_dict, dec_tt, dec_ft, dec_tf, dec_ff, dec_T, dec_F, ap_mF, ap_callM, ap_callX, ap_callXn, ap_raise, ap_exprX, ap_retX, ap_setX, ap_try, ap_isx, ap_isNx, nx_ex, nx_new, nx_d, fx_ex, fx_d, fx_new, fx_bor, DL.pa_nil, DL.pa_cons, bk_nil, bk_cons, bk1, ap_meth, ap_meth0, ap_gtpAt, ap_gtpAl, tyM_L, tyM_S, k_InAL, k_InAT, k_SortD, k_Count, sh_str, sh_strs, sh_bools, eqv_strs, eqv_bools, eqv_ints, List.filterMap_cons, List.filterMap_nil, List.nodup_nil, Nat.reduceAdd, Nat.reduceLeDiff, k_EqStrs, k_EqBools, k_EqInts, ap_forI, ap_lcI, ap_enu, ap_enu1, nd1, ap_ixA, ap_ixP, ap_ixD, ap_ixW, ap_ixB, ap_lenA, ap_lenP, ap_lenD, ap_lenW, ap_lenB, ixZ, ixT, ixL, List.getElem?_cons_zero, List.getElem?_cons_succ, ap_stX, ap_stb, ap_stp, ap_appN, ap_setN, ap_forX, ap_lcXA, ap_lcXR, ap_dgx, ap_dlen, ap_eq0, ap_dpop, ap_orL, ap_andL, getN, setN, fzAll, flatN, peekN, truL, resN_fz, pk_d, pk_new, pk_bor, pk_bp, pk_nt, fz_d, fz_dk, fz_new, fz_bor, fz_bp, fz_nt, so_new, so_dk, so_v, so_nt, so_bp, so_ex, so_d, so_bor, ub_d, ub_new, ub_dk, ub_nt, ub_ex, ub_bor, ub_bp, na_bp, na_d, na_new, na_bor, na_nt, an_nt, an_d, an_bor, pn_bp, ad_bp, kd_bp, sk_d, sk_bp, sc_bp, sc_d, sc_new, sc_bor, ps_d, ps_ex, ps_bor, ps_bp, sl_d, sl_ex, sl_bor, sl_bp, ap_dsortI, ap_callW, ap_cW, ap_appu, an_ev, Option.any_some, spT, Option.map_some]))
local macro_rules | `(tactic| walk_at "s") => `(tactic| (repeat with_reducible refine And.intro (by first | assumption | omega | exact True.intro | rfl | (simp; done) | (simp; omega) | decide) ?_))

def bsK (bs : List (Int × Nat)) : List (Key × PyData) := bs.map fun p => (.inl p.1, .int (p.2 : Nat))
theorem val_bs {bs : List (Int × Nat)} {h : Int} : valD (bsK bs) (.inl h) = (bs.find? fun p => decide (p.1 = h)).map fun p => .int (p.2 : Nat) := by
  unfold valD bsK
  rw [List.find?_map, Option.map_map]
  have : ((fun kv : Key × PyData => decide (kv.1 = .inl h)) ∘ fun p : Int × Nat => ((.inl p.1 : Key), PyData.int (p.2 : Nat))) = fun p => decide (p.1 = h) := funext fun p => by
    show decide ((Sum.inl p.1 : Key) = .inl h) = _
    simp
  rw [this]
  rfl
theorem some_bs {bs : List (Int × Nat)} {h : Int} : (valD (bsK bs) (.inl h)).isSome = bs.any fun p => decide (p.1 = h) := by
  rw [val_bs, Option.isSome_map]
  induction bs with
  | nil => rfl
  | cons b bs ih =>
    rw [List.find?_cons, List.any_cons]
    cases decide (b.1 = h)
    · exact ih
    · rfl
theorem put_bs {bs : List (Int × Nat)} {h : Int} {j : Nat} (hb : ∀ p ∈ bs, p.1 ≠ h) : putD (bsK bs) (.inl h) (.int (j : Nat)) = bsK (bs ++ [(h, j)]) := by
  unfold putD
  rw [if_neg]
  · unfold bsK; rw [List.map_append]; rfl
  · intro q
    obtain ⟨kv, hk, e⟩ := List.any_eq_true.mp q
    obtain ⟨p, hp, rfl⟩ := List.mem_map.mp hk
    have e : (Sum.inl p.1 : Key) = .inl h := of_decide_eq_true e
    cases e
    exact hb p hp rfl
theorem drop_bs {bs : List (Int × Nat)} {h : Int} : dropD (bsK bs) (.inl h) = bsK (bs.filter fun p => decide (p.1 ≠ h)) := by
  unfold dropD bsK
  rw [List.filter_map]
  congr 1
  refine congrArg (fun f => List.filter f bs) (funext fun p => ?_)
  show decide ((Sum.inl p.1 : Key) ≠ .inl h) = _
  simp
/-- a span's end -/
theorem spans_close {n : Nat} {cr st : Int} {a : Addr} {B : DEnds} {m : Nat} {xs : List (Addr × Sp)} {bs : List (Int × Nat)} {mom : Int} {s : Dr} {s7 s8 s9 : Sl} (st1 : 1 ≤ st) (st4 : st ≤ 400) (hn : n ≤ 12)
    (cond : bs ≠ []) (I : SI n cr (xs.map (·.2)) bs mom m)
    (hB : ∀ (xs : List (Addr × Sp)) bs mom s s7 s8 s9 m', m' + 1 = m → SI n cr (xs.map (·.2)) bs mom m' → B.nx [.lst false (drL s), .d (.int n), .d (.int cr), .d (.int st), .d (.int mom), .nt true (.node a .lst (xs.map spT)), .dct true (bsK bs), s7, s8, s9]) :
    ev (sSeq (sSet 8 (dIxA (dDSortI 6) (dCallM s_qnext (daCons (dVar 0) (dmF (dDLen 6) daNil))))) (sStX (dVar 4) (dIxA (dVar 5) (dDPop 6 (dVar 8))) (dC (.int 2))) { nx := sSet 4 (dOp kAdd (dOp kAdd (dVar 4) (dC (.int 1))) (dCallM s_qnext (daCons (dVar 0) (dmF (dVar 3) daNil)))) B, rt := B.rt, bk := B.bk, ct := B.ct, xc := B.xc } [.lst false (drL s), .d (.int n), .d (.int cr), .d (.int st), .d (.int mom), .nt true (.node a .lst (xs.map spT)), .dct true (bsK bs), s7, s8, s9]) := by
  walk_at "x"
  refine ⟨bs.map (·.1), by unfold bsK; rw [List.map_map, List.map_map]; rfl, by rw [List.length_map]; exact I.few hn, fun ys hp _ => ?_⟩
  have hl : ys.length = bs.length := by rw [hp.length_eq, List.length_map]
  have hb0 : 0 < bs.length := List.length_pos_iff.mpr cond
  walk_at "x"
  refine next_wp (by unfold bsK; rw [List.length_map]; omega) (by unfold bsK; rw [List.length_map]; have := I.few hn; omega) fun r s1 r0 r1 => ?_
  unfold bsK at r1
  rw [List.length_map, ← hl] at r1
  obtain ⟨hd, ehd, mhd⟩ := at_int (xs := ys) r0 (by omega)
  walk_at "x"
  refine onO_of ehd ?_
  have mh := hp.mem_iff.mp mhd
  obtain ⟨⟨h0, j⟩, hj, rfl⟩ := List.mem_map.mp mh
  walk_at "x"
  have hv : valD (bsK bs) (Sum.inl h0) = some (.int (j : Nat)) := by
    rw [val_bs]
    cases hf : bs.find? fun p => decide (p.1 = h0) with
    | none => exact absurd (decide_eq_true rfl) (List.find?_eq_none.mp hf (h0, j) hj)
    | some q =>
      have e1 := List.find?_some hf
      have := fst_inj I.nd q (List.mem_of_find?_eq_some hf) (h0, j) hj (of_decide_eq_true e1)
      rw [this]
      rfl
  refine onO_of hv ?_
  obtain ⟨x, hx, _, _⟩ := I.bok _ hj
  have hx : (xs.map (·.2))[j]? = some x := hx
  have hjl : j < xs.length := by have := (List.getElem?_eq_some_iff.mp hx).1; rwa [List.length_map] at this
  have hxs : (xs[j]).2 = x := by
    rw [List.getElem?_map, List.getElem?_eq_getElem hjl] at hx
    exact Option.some.inj hx
  walk_at "x"
  refine onO_of (ix_any (n := xs.length) (i := (j : Nat)) (by omega) (by omega)) ?_
  have hge : (xs.map spT)[j]? = some (spT xs[j]) := by rw [List.getElem?_map, List.getElem?_eq_getElem hjl]; rfl
  rw [if_pos (by omega), Int.toNat_natCast, hge]
  walk_at "x"
  rw [hge]
  walk_at "x"
  refine next_wp (by omega) (by omega) fun r2 s2 r20 r21 => ?_
  walk_at "x"
  obtain ⟨m', em, I'⟩ := I.closed hj hx r20 (by omega : r2 < 400)
  have := hB (xs.set j ((xs[j]).1, ⟨x.h, x.f, mom⟩)) (bs.filter fun p => decide (p.1 ≠ h0)) (mom + 1 + r2) s2 s7 (.d (.int h0)) s9 m' em (by rw [List.map_set]; exact I')
  rw [drop_bs]
  rw [List.map_set] at this
  simp only [spT, hxs] at this ⊢
  exact this
/-- a span's begin -/
theorem spans_open {n : Nat} {cr st : Int} {a : Addr} {B : DEnds} {m : Nat} {xs : List (Addr × Sp)} {bs : List (Int × Nat)} {mom : Int} {s : Dr} {s8 s9 : Sl} (c1 : 1 ≤ cr) (c5 : cr ≤ 5) (st1 : 1 ≤ st) (st4 : st ≤ 400) (hn : n ≤ 12) {hs : List Int}
    (hl : xs.length < n) (h0 : hs ≠ []) (hz : hs.length ≤ 1000) (h1 : ∀ h ∈ hs, 0 ≤ h ∧ h < cr ∧ ∀ p ∈ bs, p.1 ≠ h) (I : SI n cr (xs.map (·.2)) bs mom m)
    (hB : ∀ (xs : List (Addr × Sp)) bs mom s s7 s8 s9 m', m' + 1 = m → SI n cr (xs.map (·.2)) bs mom m' → B.nx [.lst false (drL s), .d (.int n), .d (.int cr), .d (.int st), .d (.int mom), .nt true (.node a .lst (xs.map spT)), .dct true (bsK bs), s7, s8, s9]) :
    ev (sSeq (sSet 8 (dIxA (dVar 7) (dCallM s_qnext (daCons (dVar 0) (dmF (dLenA (daCons (dVar 7) daNil)) daNil))))) (sSeq (sDPut 6 (dVar 8) (dLenA (daCons (dVar 5) daNil))) (sExpr (dAppN (dVar 5) (daCons (dLst (dfCons (dVar 8) (dfCons (dVar 4) (dfCons (dVar 4) dfNil)))) daNil)))) { nx := sSet 4 (dOp kAdd (dOp kAdd (dVar 4) (dC (.int 1))) (dCallM s_qnext (daCons (dVar 0) (dmF (dVar 3) daNil)))) B, rt := B.rt, bk := B.bk, ct := B.ct, xc := B.xc } [.lst false (drL s), .d (.int n), .d (.int cr), .d (.int st), .d (.int mom), .nt true (.node a .lst (xs.map spT)), .dct true (bsK bs), .lst true (hs.map .int), s8, s9]) := by
  have hp : 0 < hs.length := List.length_pos_iff.mpr h0
  walk_at "x"
  refine next_wp (by omega) (by omega) fun r s1 r0 r1 => ?_
  walk_at "x"
  obtain ⟨h, eh, mh⟩ := at_int (xs := hs) r0 r1
  obtain ⟨g0, g1, g2⟩ := h1 h mh
  refine onO_of eh ?_
  walk_at "x"
  refine ⟨by unfold bsK; rw [List.length_map]; have := I.few hn; omega, fun b => ⟨by omega, ?_⟩⟩
  rw [put_bs g2]
  refine next_wp (by omega) (by omega) fun r2 s2 r20 r21 => ?_
  walk_at "x"
  obtain ⟨m', em, I'⟩ := I.opened (by rw [List.length_map]; exact hl) g0 g1 g2 r20 (by omega : r2 < 400)
  have := hB (xs ++ [(b, ⟨h, mom, mom⟩)]) (bs ++ [(h, xs.length)]) (mom + 1 + r2) s2 (.lst true (hs.map .int)) (.d (.int h)) s9 m' em (by rw [List.map_append]; rw [List.length_map] at I'; exact I')
  rw [List.map_append] at this
  exact this
theorem spans_body {n : Nat} {cr st : Int} {a : Addr} {B : DEnds} (c1 : 1 ≤ cr) (c5 : cr ≤ 5) (st1 : 1 ≤ st) (st4 : st ≤ 400) (hn : n ≤ 12) {m : Nat} {xs : List (Addr × Sp)} {bs : List (Int × Nat)} {mom : Int} {s : Dr} {s7 s8 s9 : Sl}
    (cond : (xs.length : Int) < n ∨ bs ≠ []) (I : SI n cr (xs.map (·.2)) bs mom m)
    (hB : ∀ (xs : List (Addr × Sp)) bs mom s s7 s8 s9 m', m' + 1 = m → SI n cr (xs.map (·.2)) bs mom m' → B.nx [.lst false (drL s), .d (.int n), .d (.int cr), .d (.int st), .d (.int mom), .nt true (.node a .lst (xs.map spT)), .dct true (bsK bs), s7, s8, s9]) :
    ev (b_qspans_1 B [.lst false (drL s), .d (.int n), .d (.int cr), .d (.int st), .d (.int mom), .nt true (.node a .lst (xs.map spT)), .dct true (bsK bs), s7, s8, s9]) := by
  rw [b_qspans_1_eq]
  walk_at "x"
  refine ⟨by omega, by omega, of_ev ?_⟩
  refine lcX_rg (p := fun i => !(bs.any fun p => decide (p.1 = 0 + (i : Int)))) (f := fun i => .int (0 + (i : Nat))) (e := ?e) (show cr.toNat ≤ 1000000 by omega) (fun i hi C1 C2 hC hD => ?b) ?w ?k
  case b =>
    walk_at "x"
    rw [some_bs]
    refine onB_case (fun q => ?_) fun q => ?_
    · walk_at "x"
      exact hC q
    · exact hD q
  case w => exact fun _ _ => rfl
  case k =>
    intro D
    obtain ⟨hs, ehs, h1, h2, hz⟩ : ∃ hs : List Int, ((List.range cr.toNat).filter fun i : Nat => !(bs.any fun p => decide (p.1 = 0 + (i : Int)))).map (fun i => PyData.int (0 + (i : Nat))) = hs.map .int ∧ (∀ h ∈ hs, 0 ≤ h ∧ h < cr ∧ ∀ p ∈ bs, p.1 ≠ h) ∧ (hs = [] → bs ≠ []) ∧ hs.length ≤ 1000 := by
      refine ⟨((List.range cr.toNat).filter fun i : Nat => !(bs.any fun p => decide (p.1 = 0 + (i : Int)))).map fun i : Nat => 0 + (i : Int), by rw [List.map_map]; rfl, fun h hh => ?_, fun e z => ?_, ?_⟩
      · obtain ⟨i, hi, rfl⟩ := List.mem_map.mp hh
        obtain ⟨q1, q2⟩ := List.mem_filter.mp hi
        have := List.mem_range.mp q1
        refine ⟨by omega, by omega, fun p hp e => ?_⟩
        simp only [Bool.not_eq_true', List.any_eq_false, decide_eq_true_eq] at q2
        exact q2 p hp e
      · subst z
        have : (0 : Nat) ∈ (List.range cr.toNat).filter fun i : Nat => !(([] : List (Int × Nat)).any fun p => decide (p.1 = 0 + (i : Int))) := List.mem_filter.mpr ⟨List.mem_range.mpr (by omega), rfl⟩
        rw [List.map_eq_nil_iff] at e
        rw [e] at this
        cases this
      · rw [List.length_map]
        have := List.length_filter_le (fun i : Nat => !(bs.any fun p => decide (p.1 = 0 + (i : Int)))) (List.range cr.toNat)
        rw [List.length_range] at this
        omega
    rw [ehs]
    clear ehs
    walk_at "x"
    refine onB_dec (fun hl => ?_) fun hl => ?_
    · walk_at "x"
      have hz : hs.length ≤ 1000 := hz
      by_cases he : hs = []
      · subst he
        exact ev_of (spans_close st1 st4 hn (h2 rfl) I hB)
      · refine onB_ofT (by cases hs with | nil => exact absurd rfl he | cons _ _ => rfl) ?_
        walk_at "x"
        refine onB_case (fun hb => ?_) fun hb => ?_
        · refine onB_ofT rfl ?_
          exact ev_of (spans_open c1 c5 st1 st4 hn (by omega) he hz h1 I hB)
        · have hb : bs ≠ [] := fun z => by subst z; cases hb
          walk_at "x"
          refine next_wp (by omega) (by omega) fun r s1 r0 r1 => ?_
          walk_at "x"
          refine onB_beq (fun hr => ?_) fun hr => ?_
          · exact ev_of (spans_open c1 c5 st1 st4 hn (by omega) he hz h1 I hB)
          · exact ev_of (spans_close st1 st4 hn hb I hB)
    · have hb : bs ≠ [] := cond.resolve_left hl
      exact ev_of (spans_close st1 st4 hn hb I hB)
theorem spans_loop {n : Nat} {cr st : Int} {a : Addr} {A : DEnds} (c1 : 1 ≤ cr) (c5 : cr ≤ 5) (s1 : 1 ≤ st) (s4 : st ≤ 400) (hn : n ≤ 12)
    (h : ∀ (xs : List (Addr × Sp)) s mom s7 s8 s9, SI n cr (xs.map (·.2)) [] mom 0 → A.nx [.lst false (drL s), .d (.int n), .d (.int cr), .d (.int st), .d (.int mom), .nt true (.node a .lst (xs.map spT)), .dct true [], s7, s8, s9]) :
    ∀ (m fu : Nat) (xs : List (Addr × Sp)) (bs : List (Int × Nat)) (mom : Int) (s : Dr) (s7 s8 s9 : Sl), m < fu → SI n cr (xs.map (·.2)) bs mom m →
      ev (whGo (dOr (dTest (dOp (kI0 fun i j => PyData.bool (decide (i < j))) (dLenA (daCons (dVar 5) daNil)) (dVar 1))) (dTest (dEq0 true 6))) b_qspans_1 A fu [.lst false (drL s), .d (.int n), .d (.int cr), .d (.int st), .d (.int mom), .nt true (.node a .lst (xs.map spT)), .dct true (bsK bs), s7, s8, s9])
  | m, 0, _, _, _, _, _, _, _, hm, _ => absurd hm (Nat.not_lt_zero _)
  | m, fu + 1, xs, bs, mom, s, s7, s8, s9, hm, I => by
    rw [ap_wh]
    have body : (xs.length : Int) < n ∨ bs ≠ [] → ev (b_qspans_1 { nx := whGo (dOr (dTest (dOp (kI0 fun i j => PyData.bool (decide (i < j))) (dLenA (daCons (dVar 5) daNil)) (dVar 1))) (dTest (dEq0 true 6))) b_qspans_1 A fu, rt := A.rt, bk := A.nx, ct := whGo (dOr (dTest (dOp (kI0 fun i j => PyData.bool (decide (i < j))) (dLenA (daCons (dVar 5) daNil)) (dVar 1))) (dTest (dEq0 true 6))) b_qspans_1 A fu, xc := A.xc } [.lst false (drL s), .d (.int n), .d (.int cr), .d (.int st), .d (.int mom), .nt true (.node a .lst (xs.map spT)), .dct true (bsK bs), s7, s8, s9]) := fun cond =>
      spans_body c1 c5 s1 s4 hn cond I fun xs' bs' mom' s' s7' s8' s9' m' em I' => spans_loop c1 c5 s1 s4 hn h m' fu xs' bs' mom' s' s7' s8' s9' (by omega) I'
    walk_at "x"
    refine onB_dec (fun hl => ?_) fun hl => ?_
    · walk_at "x"
      exact body (.inl hl)
    · walk_at "x"
      cases bs with
      | nil =>
        walk_at "x"
        have me := I.meas
        have le := I.len
        rw [List.length_map] at me le
        have : m = 0 := by rw [List.length_nil] at me; omega
        subst this
        exact h xs s mom s7 s8 s9 I
      | cons b bs =>
        exact body (.inr (fun z => nomatch z))
structure SpOk (n : Nat) (xs : List Sp) : Prop where
  len : xs.length = n
  ok : ∀ x ∈ xs, (0 ≤ x.h ∧ x.h ≤ 4) ∧ 0 ≤ x.f ∧ x.f < x.l ∧ x.l ≤ 9999
  rise : ∀ (i j : Nat) x y, i < j → xs[i]? = some x → xs[j]? = some y → x.f < y.f ∧ (x.h = y.h → x.l < y.f)
  diff : ∀ (i j : Nat) x y, i ≠ j → xs[i]? = some x → xs[j]? = some y → x.f ≠ y.l ∧ x.l ≠ y.l
theorem SI.fin {n : Nat} {cr : Int} {xs : List Sp} {mom : Int} (c5 : cr ≤ 5) (hn : n ≤ 12) (I : SI n cr xs [] mom 0) : SpOk n xs := by
  have me := I.meas
  have le := I.len
  have bd := I.bnd
  rw [List.length_nil] at me
  refine ⟨by omega, fun x hx => ?_, fun i j x y hij hx hy => ?_, I.diff⟩
  · have h1 := I.hands x hx
    have h2 := I.lt x hx
    obtain ⟨j, hj⟩ := List.mem_iff_getElem?.mp hx
    have h3 := I.cl j x hj (fun p hp => nomatch hp)
    omega
  · obtain ⟨q1, q2⟩ := I.rise i j x y hij hx hy
    exact ⟨q1, fun e => (q2 e).2⟩
theorem qspans_wp {s : Dr} {n : Nat} (h1 : n ≤ 12) {k : Vl → List Sl → Prop} (h : ∀ (a : Addr) (xs : List (Addr × Sp)) (s' : Dr), SpOk n (xs.map (·.2)) → k (.nt (.node a .lst (xs.map spT))) [.lst false (drL s'), .un]) : runS s_qspans [.lst false (drL s), .d (.int n)] k := by
  refine ⟨rfl, ?_⟩
  show r_qspans _ [.lst false (drL s), .d (.int n), .un, .un, .un, .un, .un, .un, .un, .un]
  unfold r_qspans
  walk_at "x"
  refine next_wp (by omega) (by omega) fun cr s1 cr0 cr1 => ?_
  walk_at "x"
  refine next_wp (by omega) (by omega) fun q s2 q0 q1 => ?_
  have hq : ∃ st, atI [PyData.int 1, .int 2, .int 30, .int 400] q = some (.int st) ∧ 1 ≤ st ∧ st ≤ 400 := by
    obtain rfl | rfl | rfl | rfl : q = 0 ∨ q = 1 ∨ q = 2 ∨ q = 3 := by omega
    · exact ⟨1, rfl, by decide, by decide⟩
    · exact ⟨2, rfl, by decide, by decide⟩
    · exact ⟨30, rfl, by decide, by decide⟩
    · exact ⟨400, rfl, by decide, by decide⟩
  obtain ⟨st, eq, st0, st1⟩ := hq
  walk_at "x"
  refine onO_of eq ?_
  walk_at "x"
  refine next_wp (by omega) (by omega) fun mo s3 mo0 mo1 => ?_
  walk_at "x"
  intro a
  walk_at "x"
  refine ⟨2 * n + 1, ?_⟩
  refine spans_loop (by omega) (by omega) st0 st1 h1 (fun xs s mom s7 s8 s9 I => ?_) (2 * n) (2 * n + 1) [] [] mo s3 _ _ _ (by omega) ⟨by simp, by simp, (fun x hx => nomatch hx), by omega, by omega, by simp, by simp, (fun x hx => nomatch hx), (fun x hx => nomatch hx), (fun i x hx => by simp at hx), (fun i j x y _ hx => by simp at hx), (fun i j x y _ hx => by simp at hx)⟩
  walk_at "x"
  exact h _ _ _ (I.fin (by omega) h1)

end Cl

namespace Cl
open PySem PySem.Spec PyProof.Rows L2 DL
/-! ### deeds, deals -/
def srt (w : Bool) : Str := if w then Str.ofString "write" else Str.ofString "read"
theorem srt_e1 (w : Bool) : (srt w == Str.ofString "write") = w := by cases w <;> decide +kernel
theorem srt_e2 (w : Bool) : (srt w == Str.ofString "read") = !w := by cases w <;> decide +kernel
theorem srt_e3 (w : Bool) : PyData.eqv (.str (srt w)) (.str (Str.ofString "write")) = w := by rw [eqv_ss]; exact srt_e1 w
structure Deed where
  w : Bool
  key : Str
  num : Int
def Deed.enc (d : Deed) : PyData := .tuple [.str (srt d.w), .str d.key, .int d.num]
def actT (x : Addr × Deed) : NT := .node x.1 .lst [.fz (.str (srt x.2.w)), .fz (.str x.2.key), .fz (.int x.2.num)]
def layT (x : Addr × List (Addr × Deed)) : NT := .node x.1 .lst (x.2.map actT)
local macro_rules | `(tactic| walk_at "x") => `(tactic| (refine ev_of ?_; simp only [ap_seq, ap_next, ap_brk, ap_cnt, ap_expr, ap_ret, ap_retN, ap_if, ap_asg, ap_set, ap_seti, ap_par, ap_dput, ap_forL, ap_forT, ap_forR, ap_while, ap_nm, ap_gtp, ap_gnil, ap_gcons, ap_var, ap_c, ap_op, ap_un, ap_test, ap_and, ap_or, ap_not, ap_yes, ap_andV, ap_orV, ap_notV, ap_ifE, ap_anil, ap_acons, ap_fnil, ap_fcons, ap_tup, ap_lst, ap_dct, ap_cb, ap_isi, ap_sl, ap_nopart, ap_part, ap_lstrg, ap_mut, ap_call, ap_callS, ap_din, ap_lcL, ap_lcT, ap_lcR, ap_lcB, ap_forB, ap_lcnil, ap_lccons, wp_nil, wp_cons, rs_nil, rs_cons, kp_d, kp_un, eq_self,
  ev_ev, kd_i, kd_s, if_true, if_false, Bool.false_eq_true, Bool.not_true, Bool.not_false, List.isEmpty_nil, List.isEmpty_cons, ev_and, ev_t, ev_f, ev_s, k_I0, k_I, k_EqL0, k_EqT0, k_EqLT, k_EqTL, k_EqI, k_EqB, k_EqS, k_EqN, k_EqLc, k_EqTc, id_eq, k_IsN, k_InL, k_InT, k_Cat, k_IxL, k_IxT, k_LenL, k_LenT, k_ListL, k_ListT, k_TupleL, k_TupleT, k_I2, k_Abs, k_Neg, k_App, k_PopAt, lk_0, lk_s, pt_0, pt_s, peekAll, sh_int, sh_none, sh_bool, sh_nil, sh_nilT, sh_ints, eqv_int, eqv_ss, eqv_bool, eqv_nil, at0, at1, at2, at3, ixN1, List.length_cons, List.length_nil, List.set_cons_succ, List.set_cons_zero, true_and, and_true, List.map_cons, List.map_nil, List.nil_append, List.cons_append, flatD, List.length_map, flat_ints, in_ints, ap_rev, ap_chain, ap_lcS, k_IsB, k_IntI, k_IntB, k_CatT, k_Rep, k_InS, k_LenS,
  ap_revA, ap_slA, ap_joinC, k_SlL, k_SlT, k_SlS, k_CatS, k_RepS, k_AxL, k_AxT, k_AxS, k_StrI, ap_forA, ap_lcA, it_L, it_T, it_S, k_AdI, k_AdL, k_AdT, k_AdS, k_MuI, k_MuL, k_MuS, Nat.zero_le, kit_tuple, kit_list, kit_str, kit_int, kit_bool, kit_dict, isN_none, isN_bool, isN_int, isN_str, isN_list, isN_tuple, isN_dict, isTup_none, isTup_bool, isTup_int, isTup_str, isTup_list, isTup_tuple, isTup_dict, isLst_none, isLst_bool, isLst_int, isLst_str, isLst_list, isLst_tuple, isLst_dict, isStr_none, isStr_bool, isStr_int, isStr_str, isStr_list, isStr_tuple, isStr_dict, isInt_none, isInt_bool, isInt_int, isInt_str, isInt_list, isInt_tuple, isInt_dict, isBool_none, isBool_bool, isBool_int, isBool_str, isBool_list, isBool_tuple, isBool_dict, isDict_none, isDict_bool, isDict_int, isDict_str, isDict_list, isDict_tuple, isDict_dict, dec_tt, dec_ft, dec_tf, dec_ff, dec_T, dec_F, ap_mF, ap_callM, ap_callX, ap_callXn, ap_raise, ap_exprX, ap_retX, ap_setX, ap_try, ap_isx, ap_isNx, nx_ex, nx_new, nx_d, fx_ex, fx_d, fx_new, fx_bor, DL.pa_nil, DL.pa_cons, bk_nil, bk_cons, bk1, ap_meth, ap_meth0, ap_gtpAt, ap_gtpAl, tyM_L, tyM_S, k_InAL, k_InAT, k_SortD, k_Count, sh_str, sh_strs, sh_bools, eqv_strs, eqv_bools, eqv_ints, List.filterMap_cons, List.filterMap_nil, List.nodup_nil, Nat.reduceAdd, Nat.reduceLeDiff, k_EqStrs, k_EqBools, k_EqInts, ap_forI, ap_lcI, ap_enu, ap_enu1, nd1, ap_ixA, ap_ixP, ap_ixD, ap_ixW, ap_ixB, ap_lenA, ap_lenP, ap_lenD, ap_lenW, ap_lenB, ixZ, ixT, ixL, List.getElem?_cons_zero, List.getElem?_cons_succ, ap_stX, ap_stb, ap_stp, ap_appN, ap_setN, ap_forX, ap_lcXA, ap_lcXR, ap_dgx, ap_dlen, ap_eq0, ap_dpop, ap_orL, ap_andL, getN, setN, fzAll, flatN, peekN, truL, resN_fz, pk_d, pk_new, pk_bor, pk_bp, pk_nt, fz_d, fz_dk, fz_new, fz_bor, fz_bp, fz_nt, so_new, so_dk, so_v, so_nt, so_bp, so_ex, so_d, so_bor, ub_d, ub_new, ub_dk, ub_nt, ub_ex, ub_bor, ub_bp, na_bp, na_d, na_new, na_bor, na_nt, an_nt, an_d, an_bor, pn_bp, ad_bp, kd_bp, sk_d, sk_bp, sc_bp, sc_d, sc_new, sc_bor, ps_d, ps_ex, ps_bor, ps_bp, sl_d, sl_ex, sl_bor, sl_bp, ap_dsortI, ap_callW, ap_cW, ap_appu, an_ev, Option.any_some, actT, layT, Deed.enc, srt_e1, srt_e2, srt_e3, Option.map_some, drT]))
local macro_rules | `(tactic| walk_at "s") => `(tactic| (repeat with_reducible refine And.intro (by first | assumption | omega | exact True.intro | rfl | (simp; done) | (simp; omega) | decide) ?_))

theorem key_at {ks : List Str} {i : Int} (h0 : 0 ≤ i) (h1 : i < (ks.length : Int)) : ∃ x, atI (ks.map PyData.str) i = some (.str x) ∧ x ∈ ks := by
  obtain ⟨y, e, hy, _⟩ := at_nat (xs := ks.map PyData.str) h0 (by rw [List.length_map]; exact h1)
  obtain ⟨x, hx, rfl⟩ := List.mem_map.mp hy
  exact ⟨x, e, hx⟩
theorem word_at {i : Int} (h0 : 0 ≤ i) (h1 : i < 2) : atI [PyData.str (Str.ofString "read"), .str (Str.ofString "write")] i = some (.str (srt (decide (i = 1)))) := by
  obtain rfl | rfl : i = 0 ∨ i = 1 := by omega
  · rfl
  · rfl
theorem laid_loop {a b : Addr} {A : DEnds} {ks : List Str} {most : Int} {B : Nat} (hB : B ≤ 1000) (hk : 1 ≤ ks.length) (hk2 : ks.length ≤ 1000)
    (h : ∀ (ds : List (Addr × Deed)) s i, (∀ d ∈ ds, d.2.key ∈ ks ∧ d.2.num = 0) → ds.length ≤ B → A.nx [.nt false (drT b s), .d (.list (ks.map .str)), .d (.int most), .nt true (.node a .lst (ds.map actT)), i]) :
    ∀ (xs : List PyData) (ds : List (Addr × Deed)) (s : Dr) (i : Sl), (∀ d ∈ ds, d.2.key ∈ ks ∧ d.2.num = 0) → ds.length + xs.length ≤ B →
      forGo noI (gNm 4) b_qlaid_1 A xs [.nt false (drT b s), .d (.list (ks.map .str)), .d (.int most), .nt true (.node a .lst (ds.map actT)), i]
  | [], ds, s, i, hd, hl => ⟨trivial, h ds s i hd (by simpa using hl)⟩
  | x :: xs, ds, s, i, hd, hl => by
    refine ⟨trivial, ?_⟩
    refine ev_of ?_
    rw [ap_nm]
    show ev (b_qlaid_1 _ [.nt false (drT b s), .d (.list (ks.map .str)), .d (.int most), .nt true (.node a .lst (ds.map actT)), .d x])
    rw [b_qlaid_1_eq]
    walk_at "x"
    refine next_wpN (by omega) (by omega) fun w s1 w0 w1 => ?_
    walk_at "x"
    rw [word_at w0 w1]
    walk_at "x"
    refine next_wpN (by omega) (by omega) fun r s2 r0 r1 => ?_
    walk_at "x"
    obtain ⟨y, ey, my⟩ := key_at r0 r1
    refine onO_of ey ?_
    walk_at "x"
    intro c
    refine ⟨by rw [List.length_cons] at hl; omega, ?_⟩
    have := laid_loop hB hk hk2 h xs (ds ++ [(c, ⟨decide (w = 1), y, 0⟩)]) s2 (.d x) (fun d hd' => by
      rcases List.mem_append.mp hd' with q | q
      · exact hd d q
      · rw [List.mem_singleton.mp q]; exact ⟨my, rfl⟩) (by simp at hl ⊢; omega)
    rw [List.map_append] at this
    exact this
theorem qlaid_wp {b : Addr} {s : Dr} {ks : List Str} {most : Int} (hk : 1 ≤ ks.length) (hk2 : ks.length ≤ 1000) (m0 : 0 ≤ most) (m1 : most ≤ 100) {k : Vl → List Sl → Prop}
    (h : ∀ (a : Addr) (ds : List (Addr × Deed)) s', (∀ d ∈ ds, d.2.key ∈ ks ∧ d.2.num = 0) → (ds.length : Int) ≤ most → k (.nt (layT (a, ds))) [.nt false (drT b s'), .un, .un]) :
    runS s_qlaid [.nt false (drT b s), .d (.list (ks.map .str)), .d (.int most)] k := by
  refine ⟨rfl, ?_⟩
  show r_qlaid _ [.nt false (drT b s), .d (.list (ks.map .str)), .d (.int most), .un, .un]
  unfold r_qlaid
  walk_at "x"
  intro a
  refine next_wpN (by omega) (by omega) fun r s1 r0 r1 => ?_
  walk_at "x"
  refine ⟨by omega, by omega, ?_⟩
  refine ev_of ?_
  refine of_ev (laid_loop (B := r.toNat) (b := b) (a := a) (ks := ks) (most := most) (by omega) hk hk2 (fun ds s' i hd hl => ?_) _ [] s1 .un (fun d hd => nomatch hd) (by simp [rngD_len]))
  walk_at "x"
  exact h a ds s' hd (by omega)
/-! ### numbers -/
def numD (st : Int) : Int → List (Addr × Deed) → List (Addr × Deed)
  | _, [] => []
  | n, (a, d) :: ds => if d.w then (a, { d with num := n }) :: numD st (n + st) ds else (a, d) :: numD st n ds
def numN (st : Int) : Int → List (Addr × Deed) → Int
  | n, [] => n
  | n, (_, d) :: ds => if d.w then numN st (n + st) ds else numN st n ds
abbrev Lay := List (Addr × List (Addr × Deed))
def layN (a : Addr) (L : Lay) : NT := .node a .lst (L.map layT)
theorem num_in {s0 : Sl} {a c : Addr} {st : Int} {i : Nat} {A : DEnds} : ∀ (rest done : List (Addr × Deed)) (L : Lay) (n : Int) (s5 : Sl), L[i]? = some (c, done ++ rest) →
    (∀ s5, A.nx [s0, .nt false (layN a (L.set i (c, done ++ numD st n rest))), .d (.int st), .d (.int (numN st n rest)), .al 1 [i] c, s5]) →
    ev (forGoX (.pl (.bp 1 [i] c)) 5 b_qnumbered_2 A rest.length done.length [s0, .nt false (layN a L), .d (.int st), .d (.int n), .al 1 [i] c, s5])
  | [], done, L, n, s5, hL, h => by
    have h1 : (L.map layT)[i]? = some (layT (c, done ++ [])) := by rw [List.getElem?_map, hL]; rfl
    have e : L.set i (c, done ++ []) = L := by
      obtain ⟨hi, e⟩ := List.getElem?_eq_some_iff.mp hL
      rw [← e]
      exact List.set_getElem_self hi
    refine ⟨?_, by have := h s5; rw [show numD st n [] = [] from rfl, e] at this; exact this⟩
    simp only [lenAt, na_bp, lk_0, lk_s, layN, getN, h1, layT, if_true, List.length_map, List.append_nil]
  | (b, d) :: rest, done, L, n, s5, hL, h => by
    have h1 : (L.map layT)[i]? = some (layT (c, done ++ (b, d) :: rest)) := by rw [List.getElem?_map, hL]; rfl
    have h2 : ((done ++ (b, d) :: rest).map actT)[done.length]? = some (actT (b, d)) := by rw [List.getElem?_map]; simp
    refine ⟨?_, ?_⟩
    · simp only [lenAt, na_bp, lk_0, lk_s, layN, getN, h1, layT, if_true, List.length_map, List.length_append, List.length_cons]
    · simp only [DL.itemAt, na_bp, lk_0, lk_s, layN, getN, h1, layT, h2, if_true, kd_bp, actT, sk_bp, onO_s, List.cons_append, List.nil_append]
      refine ev_of ?_
      show ev (b_qnumbered_2 _ [s0, .nt false (.node a .lst (L.map layT)), .d (.int st), .d (.int n), .al 1 [i] c, .al 1 [i, done.length] b])
      rw [b_qnumbered_2_eq]
      walk_at "x"
      rw [h1]
      walk_at "x"
      rw [h2]
      walk_at "x"
      refine onB_case (fun hw => ?_) fun hw => ?_
      · walk_at "x"
        rw [h1]
        walk_at "x"
        rw [h2]
        walk_at "x"
        have ei : ((done ++ (b, d) :: rest).map actT).set done.length (.node b .lst [.fz (.str (srt d.w)), .fz (.str d.key), .fz (.int n)]) = (done ++ (b, { d with num := n }) :: rest).map actT := by
          rw [List.map_append, List.set_append_right _ _ (by simp), List.map_append]
          simp [actT]
        have et : (L.map layT).set i (.node c .lst ((done ++ (b, { d with num := n }) :: rest).map actT)) = (L.set i (c, done ++ (b, { d with num := n }) :: rest)).map layT := by
          rw [List.map_set]
          rfl
        rw [ei, et]
        have hi := (List.getElem?_eq_some_iff.mp hL).1
        have en : numN st n ((b, d) :: rest) = numN st (n + st) rest := by simp only [numN, hw]; rfl
        have ed : numD st n ((b, d) :: rest) = (b, { d with num := n }) :: numD st (n + st) rest := by simp only [numD, hw]; rfl
        have := num_in (s0 := s0) (a := a) (c := c) (st := st) (i := i) (A := A) rest (done ++ [(b, { d with num := n })]) (L.set i (c, done ++ (b, { d with num := n }) :: rest)) (n + st) (.al 1 [i, done.length] b) (by rw [List.append_assoc, List.getElem?_set_self hi]; rfl) fun s5 => by
          have := h s5
          rw [en, ed] at this
          rw [List.append_assoc, List.set_set]
          exact this
        rw [List.length_append] at this
        exact this
      · walk_at "x"
        have en : numN st n ((b, d) :: rest) = numN st n rest := by simp only [numN, hw]; rfl
        have ed : numD st n ((b, d) :: rest) = (b, d) :: numD st n rest := by simp only [numD, hw]; rfl
        have := num_in (s0 := s0) (a := a) (c := c) (st := st) (i := i) (A := A) rest (done ++ [(b, d)]) L n (.al 1 [i, done.length] b) (by rw [List.append_assoc]; exact hL) fun s5 => by
          have := h s5
          rw [en, ed] at this
          rw [List.append_assoc]
          exact this
        rw [List.length_append] at this
        exact this
def numL (st : Int) : Int → Lay → Lay
  | _, [] => []
  | n, (a, ds) :: L => (a, numD st n ds) :: numL st (numN st n ds) L
theorem num_out {s0 : Sl} {a : Addr} {st : Int} {A : DEnds} : ∀ (rest done : Lay) (n : Int) (s4 s5 : Sl),
    (∀ n' s4 s5, A.nx [s0, .nt false (layN a (done ++ numL st n rest)), .d (.int st), .d (.int n'), s4, s5]) → ev (forGoX (.pl (.bp 1 [] a)) 4 b_qnumbered_1 A rest.length done.length [s0, .nt false (layN a (done ++ rest)), .d (.int st), .d (.int n), s4, s5])
  | [], done, n, s4, s5, h => by
    refine ⟨?_, h n s4 s5⟩
    simp only [lenAt, na_bp, lk_0, lk_s, layN, getN, if_true, List.length_map, List.append_nil]
  | (c, ds) :: rest, done, n, s4, s5, h => by
    have h1 : ((done ++ (c, ds) :: rest).map layT)[done.length]? = some (layT (c, ds)) := by rw [List.getElem?_map]; simp
    refine ⟨?_, ?_⟩
    · simp only [lenAt, na_bp, lk_0, lk_s, layN, getN, if_true, List.length_map, List.length_append, List.length_cons]
    · simp only [DL.itemAt, na_bp, lk_0, lk_s, layN, getN, h1, layT, if_true, kd_bp, sk_bp, onO_s, List.cons_append, List.nil_append]
      refine ev_of ?_
      show ev (b_qnumbered_1 _ [s0, .nt false (.node a .lst ((done ++ (c, ds) :: rest).map layT)), .d (.int st), .d (.int n), .al 1 [done.length] c, s5])
      rw [b_qnumbered_1_eq]
      walk_at "x"
      rw [h1]
      walk_at "x"
      have hl : lenAt (.pl (.bp 1 [done.length] c)) [s0, .nt false (.node a .lst ((done ++ (c, ds) :: rest).map layT)), .d (.int st), .d (.int n), .al 1 [done.length] c, s5] = some ds.length := by
        simp only [lenAt, na_bp, lk_0, lk_s, getN, h1, layT, if_true, List.length_map]
      rw [hl]
      walk_at "x"
      have hL : (done ++ (c, ds) :: rest)[done.length]? = some (c, [] ++ ds) := by simp
      refine num_in (s0 := s0) (a := a) (c := c) (st := st) (i := done.length) ds [] (done ++ (c, ds) :: rest) n s5 hL fun s5' => ?_
      have e : (done ++ (c, ds) :: rest).set done.length (c, [] ++ numD st n ds) = (done ++ [(c, numD st n ds)]) ++ rest := by
        rw [List.set_append_right _ _ (by simp)]; simp
      rw [e]
      have := num_out (s0 := s0) (a := a) (st := st) (A := A) rest (done ++ [(c, numD st n ds)]) (numN st n ds) (.al 1 [done.length] c) s5' fun n' s4 s5 => by
        have := h n' s4 s5
        rw [List.append_assoc]
        exact this
      rw [List.length_append] at this
      exact this
/-! #### what numbers come -/
def wrs (ds : List (Addr × Deed)) : List Int := (ds.filter (·.2.w)).map (·.2.num)
def wrL (L : Lay) : List Int := L.flatMap fun x => wrs x.2
def seqN (st n : Int) (k : Nat) : List Int := (List.range k).map fun i => n + st * (i : Nat)
theorem seq_s {st n : Int} {k : Nat} : seqN st n (k + 1) = n :: seqN st (n + st) k := by
  unfold seqN
  rw [List.range_succ_eq_map, List.map_cons, List.map_map]
  congr 1
  · show n + st * ((0 : Nat) : Int) = n; simp
  · refine List.map_congr_left fun i _ => ?_
    show n + st * ((i + 1 : Nat) : Int) = n + st + st * (i : Nat)
    rw [show ((i + 1 : Nat) : Int) = (i : Nat) + 1 by omega, Int.mul_add]; omega
theorem numD_wrs {st : Int} : ∀ {n : Int} {ds : List (Addr × Deed)}, ∃ k, k ≤ ds.length ∧ wrs (numD st n ds) = seqN st n k ∧ numN st n ds = n + st * (k : Nat)
  | n, [] => ⟨0, Nat.le_refl _, rfl, by show n = n + st * ((0 : Nat) : Int); simp⟩
  | n, (a, d) :: ds => by
    cases hw : d.w
    · obtain ⟨k, h1, h2, h3⟩ := numD_wrs (st := st) (n := n) (ds := ds)
      refine ⟨k, by simp; omega, ?_, ?_⟩
      · simp only [numD, hw]
        show wrs ((a, d) :: _) = _
        rw [← h2]
        simp [wrs, hw]
      · simp only [numN, hw]; exact h3
    · obtain ⟨k, h1, h2, h3⟩ := numD_wrs (st := st) (n := n + st) (ds := ds)
      refine ⟨k + 1, by simp; omega, ?_, ?_⟩
      · simp only [numD, hw, if_true]
        rw [seq_s, ← h2]
        simp [wrs, hw]
      · simp only [numN, hw, if_true]
        rw [h3, show ((k + 1 : Nat) : Int) = (k : Nat) + 1 by omega, Int.mul_add]; omega
theorem seq_app {st n : Int} {j k : Nat} : seqN st n (j + k) = seqN st n j ++ seqN st (n + st * (j : Nat)) k := by
  unfold seqN
  rw [List.range_add, List.map_append, List.map_map]
  congr 1
  refine List.map_congr_left fun i _ => ?_
  show n + st * ((j + i : Nat) : Int) = n + st * (j : Nat) + st * (i : Nat)
  rw [show ((j + i : Nat) : Int) = (j : Nat) + (i : Nat) by omega, Int.mul_add]; omega
theorem numL_wrs {st : Int} : ∀ {n : Int} {L : Lay}, ∃ k, k ≤ (L.map (·.2.length)).sum ∧ wrL (numL st n L) = seqN st n k
  | n, [] => ⟨0, Nat.le_refl _, rfl⟩
  | n, (a, ds) :: L => by
    obtain ⟨k, h1, h2, h3⟩ := numD_wrs (st := st) (n := n) (ds := ds)
    obtain ⟨j, g1, g2⟩ := numL_wrs (st := st) (n := numN st n ds) (L := L)
    refine ⟨k + j, by simp; omega, ?_⟩
    show wrs (numD st n ds) ++ wrL (numL st (numN st n ds) L) = _
    rw [h2, g2, seq_app, h3]
theorem numD_mem {st : Int} {P : Deed → Prop} (hP : ∀ d n, P d → P { d with num := n }) : ∀ {n : Int} {ds : List (Addr × Deed)}, (∀ d ∈ ds, P d.2) → ∀ d ∈ numD st n ds, P d.2
  | n, [], _, d, hd => nomatch hd
  | n, (a, e) :: ds, h, d, hd => by
    have h1 := h (a, e) List.mem_cons_self
    have h2 : ∀ d ∈ ds, P d.2 := fun d hd => h d (List.mem_cons_of_mem _ hd)
    cases hw : e.w
    · simp only [numD, hw] at hd
      rcases List.mem_cons.mp hd with rfl | hd
      · exact h1
      · exact numD_mem hP h2 d hd
    · simp only [numD, hw, if_true] at hd
      rcases List.mem_cons.mp hd with rfl | hd
      · have := hP _ n h1
        simpa [hw] using this
      · exact numD_mem hP h2 d hd
theorem numD_len {st : Int} : ∀ {n : Int} {ds : List (Addr × Deed)}, (numD st n ds).length = ds.length
  | _, [] => rfl
  | n, (a, e) :: ds => by
    simp only [numD]
    split <;> simp [numD_len]
/-- what is laid: so many deeds, of these keys -/
def LayOk (ks : List Str) (m : Nat) (L : Lay) : Prop := ∀ x ∈ L, x.2.length ≤ m ∧ ∀ d ∈ x.2, d.2.key ∈ ks
theorem numL_ok {st : Int} {ks : List Str} {m : Nat} : ∀ {n : Int} {L : Lay}, LayOk ks m L → LayOk ks m (numL st n L) ∧ (numL st n L).length = L.length
  | n, [], _ => ⟨(fun x hx => nomatch hx), rfl⟩
  | n, (a, ds) :: L, h => by
    obtain ⟨g1, g2⟩ := numL_ok (st := st) (n := numN st n ds) (L := L) fun x hx => h x (List.mem_cons_of_mem _ hx)
    obtain ⟨h1, h2⟩ := h (a, ds) List.mem_cons_self
    refine ⟨fun x hx => ?_, congrArg (· + 1) g2⟩
    rcases List.mem_cons.mp hx with rfl | hx
    · exact ⟨by show (numD st n ds).length ≤ m; rw [numD_len]; exact h1, numD_mem (P := fun d => d.key ∈ ks) (fun _ _ h => h) h2⟩
    · exact g1 x hx
theorem lay_sum {ks : List Str} {m : Nat} : ∀ {L : Lay}, LayOk ks m L → (L.map (·.2.length)).sum ≤ L.length * m
  | [], _ => by simp
  | x :: L, h => by
    have h1 := (h x List.mem_cons_self).1
    have h2 := lay_sum (L := L) fun y hy => h y (List.mem_cons_of_mem _ hy)
    rw [List.map_cons, List.sum_cons, List.length_cons, Nat.add_mul]
    omega
structure NumOk (L : Lay) : Prop where
  nd : (wrL L).Nodup
  bd : ∀ x ∈ wrL L, 1 ≤ x ∧ x ≤ 999999
theorem seq_ok {st n : Int} {k : Nat} (hst : 1 ≤ st ∧ st ≤ 40 ∧ 1 ≤ n ∧ n ≤ 5 ∨ -40 ≤ st ∧ st ≤ -1 ∧ 999995 ≤ n ∧ n ≤ 999999) (hk : k ≤ 1000) : (seqN st n k).Nodup ∧ ∀ x ∈ seqN st n k, 1 ≤ x ∧ x ≤ 999999 := by
  have mb : ∀ i : Nat, i < k → 1 ≤ n + st * (i : Nat) ∧ n + st * (i : Nat) ≤ 999999 := fun i hi => by
    rcases hst with ⟨a1, a2, a3, a4⟩ | ⟨a1, a2, a3, a4⟩
    · have h1 : 0 ≤ st * (i : Nat) := Int.mul_nonneg (by omega) (by omega)
      have h2 : st * (i : Nat) ≤ 40 * (i : Nat) := Int.mul_le_mul_of_nonneg_right a2 (by omega)
      omega
    · have h1 : st * (i : Nat) ≤ 0 := Int.mul_nonpos_of_nonpos_of_nonneg (by omega) (by omega)
      have h2 : (-40) * (i : Nat) ≤ st * (i : Nat) := Int.mul_le_mul_of_nonneg_right a1 (by omega)
      omega
  refine ⟨?_, fun x hx => ?_⟩
  · unfold seqN
    refine List.pairwise_map.mpr (List.nodup_range.imp fun {i j} hij e => ?_)
    have : st * ((i : Nat) : Int) = st * (j : Nat) := by omega
    have := Int.eq_of_mul_eq_mul_left (by omega : st ≠ 0) this
    omega
  · obtain ⟨i, hi, rfl⟩ := List.mem_map.mp hx
    exact mb i (List.mem_range.mp hi)
theorem qnumbered_wp {s : Dr} {a : Addr} {ks : List Str} {m : Nat} {L : Lay} (hL : LayOk ks m L) (hl : L.length ≤ 12) (hm : m ≤ 8) {k : Vl → List Sl → Prop}
    (h : ∀ L' s', LayOk ks m L' → L'.length = L.length → NumOk L' → k (.d .none) [.lst false (drL s'), .nt false (layN a L')]) : runS s_qnumbered [.lst false (drL s), .nt false (layN a L)] k := by
  refine ⟨rfl, ?_⟩
  show r_qnumbered _ [.lst false (drL s), .nt false (layN a L), .un, .un, .un, .un]
  unfold r_qnumbered
  have tot : (L.map (·.2.length)).sum ≤ 96 := by
    have := lay_sum hL
    have : L.length * m ≤ 12 * 8 := Nat.mul_le_mul hl hm
    omega
  have fin : ∀ {st n : Int} {s' : Dr} {A : DEnds}, (1 ≤ st ∧ st ≤ 40 ∧ 1 ≤ n ∧ n ≤ 5 ∨ -40 ≤ st ∧ st ≤ -1 ∧ 999995 ≤ n ∧ n ≤ 999999) → (∀ ε, A.nx ε = k (.d .none) (fin 2 ε)) → ev (sForX 4 (dVar 1) b_qnumbered_1 A [.lst false (drL s'), .nt false (layN a L), .d (.int st), .d (.int n), .un, .un]) := fun {st n s' A} hst hA => by
    unfold layN
    walk_at "x"
    have hl : lenAt (.pl (.bp 1 [] a)) [.lst false (drL s'), .nt false (.node a .lst (L.map layT)), .d (.int st), .d (.int n), .un, .un] = some L.length := by
      simp only [lenAt, na_bp, lk_0, lk_s, getN, if_true, List.length_map]
    rw [hl]
    walk_at "x"
    refine num_out (s0 := .lst false (drL s')) (a := a) (st := st) (A := A) L [] n .un .un fun n' s4 s5 => ?_
    rw [hA]
    obtain ⟨g1, g2⟩ := numL_ok (st := st) (n := n) hL
    obtain ⟨j, h1, h2⟩ := numL_wrs (st := st) (n := n) (L := L)
    obtain ⟨o1, o2⟩ := seq_ok (k := j) hst (by omega)
    have o3 : NumOk (numL st n L) := ⟨by rw [h2]; exact o1, by rw [h2]; exact o2⟩
    exact h _ _ g1 g2 o3
  walk_at "x"
  refine next_wp (by omega) (by omega) fun st s1 st0 st1 => ?_
  walk_at "x"
  refine next_wp (by omega) (by omega) fun n s2 n0 n1 => ?_
  walk_at "x"
  refine next_wp (by omega) (by omega) fun w s3 w0 w1 => ?_
  walk_at "x"
  refine onB_beq (fun hw => ?_) fun hw => ?_
  · walk_at "x"
    refine next_wp (by omega) (by omega) fun q s4 q0 q1 => ?_
    walk_at "x"
    exact ev_of (fin (.inr (by omega)) fun _ => rfl)
  · exact ev_of (fin (.inl (by omega)) fun _ => rfl)

end Cl

namespace Cl
open PySem PySem.Spec PyProof.Rows L2 DL
def encO : Option Int → PyData
  | none => .none
  | some n => .int n
/-- the number of the last write of a key -/
def lastW (ds : List Deed) (key : Str) : Option Int := ((ds.filter fun d => d.w && d.key == key).map (·.num)).getLast?
local macro_rules | `(tactic| walk_at "x") => `(tactic| (refine ev_of ?_; simp only [ap_seq, ap_next, ap_brk, ap_cnt, ap_expr, ap_ret, ap_retN, ap_if, ap_asg, ap_set, ap_seti, ap_par, ap_dput, ap_forL, ap_forT, ap_forR, ap_while, ap_nm, ap_gtp, ap_gnil, ap_gcons, ap_var, ap_c, ap_op, ap_un, ap_test, ap_and, ap_or, ap_not, ap_yes, ap_andV, ap_orV, ap_notV, ap_ifE, ap_anil, ap_acons, ap_fnil, ap_fcons, ap_tup, ap_lst, ap_dct, ap_cb, ap_isi, ap_sl, ap_nopart, ap_part, ap_lstrg, ap_mut, ap_call, ap_callS, ap_din, ap_lcL, ap_lcT, ap_lcR, ap_lcB, ap_forB, ap_lcnil, ap_lccons, wp_nil, wp_cons, rs_nil, rs_cons, kp_d, kp_un, eq_self,
  ev_ev, kd_i, kd_s, if_true, if_false, Bool.false_eq_true, Bool.not_true, Bool.not_false, List.isEmpty_nil, List.isEmpty_cons, ev_and, ev_t, ev_f, ev_s, k_I0, k_I, k_EqL0, k_EqT0, k_EqLT, k_EqTL, k_EqI, k_EqB, k_EqS, k_EqN, k_EqLc, k_EqTc, id_eq, k_IsN, k_InL, k_InT, k_Cat, k_IxL, k_IxT, k_LenL, k_LenT, k_ListL, k_ListT, k_TupleL, k_TupleT, k_I2, k_Abs, k_Neg, k_App, k_PopAt, lk_0, lk_s, pt_0, pt_s, peekAll, sh_int, sh_none, sh_bool, sh_nil, sh_nilT, sh_ints, eqv_int, eqv_ss, eqv_bool, eqv_nil, at0, at1, at2, at3, ixN1, List.length_cons, List.length_nil, List.set_cons_succ, List.set_cons_zero, true_and, and_true, List.map_cons, List.map_nil, List.nil_append, List.cons_append, flatD, List.length_map, flat_ints, in_ints, ap_rev, ap_chain, ap_lcS, k_IsB, k_IntI, k_IntB, k_CatT, k_Rep, k_InS, k_LenS,
  ap_revA, ap_slA, ap_joinC, k_SlL, k_SlT, k_SlS, k_CatS, k_RepS, k_AxL, k_AxT, k_AxS, k_StrI, ap_forA, ap_lcA, it_L, it_T, it_S, k_AdI, k_AdL, k_AdT, k_AdS, k_MuI, k_MuL, k_MuS, Nat.zero_le, kit_tuple, kit_list, kit_str, kit_int, kit_bool, kit_dict, isN_none, isN_bool, isN_int, isN_str, isN_list, isN_tuple, isN_dict, isTup_none, isTup_bool, isTup_int, isTup_str, isTup_list, isTup_tuple, isTup_dict, isLst_none, isLst_bool, isLst_int, isLst_str, isLst_list, isLst_tuple, isLst_dict, isStr_none, isStr_bool, isStr_int, isStr_str, isStr_list, isStr_tuple, isStr_dict, isInt_none, isInt_bool, isInt_int, isInt_str, isInt_list, isInt_tuple, isInt_dict, isBool_none, isBool_bool, isBool_int, isBool_str, isBool_list, isBool_tuple, isBool_dict, isDict_none, isDict_bool, isDict_int, isDict_str, isDict_list, isDict_tuple, isDict_dict, dec_tt, dec_ft, dec_tf, dec_ff, dec_T, dec_F, ap_mF, ap_callM, ap_callX, ap_callXn, ap_raise, ap_exprX, ap_retX, ap_setX, ap_try, ap_isx, ap_isNx, nx_ex, nx_new, nx_d, fx_ex, fx_d, fx_new, fx_bor, DL.pa_nil, DL.pa_cons, bk_nil, bk_cons, bk1, ap_meth, ap_meth0, ap_gtpAt, ap_gtpAl, tyM_L, tyM_S, k_InAL, k_InAT, k_SortD, k_Count, sh_str, sh_strs, sh_bools, eqv_strs, eqv_bools, eqv_ints, List.filterMap_cons, List.filterMap_nil, List.nodup_nil, Nat.reduceAdd, Nat.reduceLeDiff, k_EqStrs, k_EqBools, k_EqInts, ap_forI, ap_lcI, ap_enu, ap_enu1, nd1, ap_ixA, ap_ixP, ap_ixD, ap_ixW, ap_ixB, ap_lenA, ap_lenP, ap_lenD, ap_lenW, ap_lenB, ixZ, ixT, ixL, List.getElem?_cons_zero, List.getElem?_cons_succ, ap_stX, ap_stb, ap_stp, ap_appN, ap_setN, ap_forX, ap_lcXA, ap_lcXR, ap_dgx, ap_dlen, ap_eq0, ap_dpop, ap_orL, ap_andL, getN, setN, fzAll, flatN, peekN, truL, resN_fz, pk_d, pk_new, pk_bor, pk_bp, pk_nt, fz_d, fz_dk, fz_new, fz_bor, fz_bp, fz_nt, so_new, so_dk, so_v, so_nt, so_bp, so_ex, so_d, so_bor, ub_d, ub_new, ub_dk, ub_nt, ub_ex, ub_bor, ub_bp, na_bp, na_d, na_new, na_bor, na_nt, an_nt, an_d, an_bor, pn_bp, ad_bp, kd_bp, sk_d, sk_bp, sc_bp, sc_d, sc_new, sc_bor, ps_d, ps_ex, ps_bor, ps_bp, sl_d, sl_ex, sl_bor, sl_bp, ap_dsortI, ap_callW, ap_cW, ap_appu, an_ev, Option.any_some, actT, layT, layN, Deed.enc, srt_e1, srt_e2, srt_e3, Option.map_some, drT, spT]))
local macro_rules | `(tactic| walk_at "s") => `(tactic| (repeat with_reducible refine And.intro (by first | assumption | omega | exact True.intro | rfl | (simp; done) | (simp; omega) | decide) ?_))

theorem atL_or {xs : List Int} : (atI (if (xs.map PyData.int).isEmpty then [PyData.none] else xs.map .int) (-1)) = some (encO xs.getLast?) := by
  cases xs with
  | nil => rfl
  | cons x xs =>
    show atI (List.map PyData.int (x :: xs)) (-1) = _
    have h : ixN (List.map PyData.int (x :: xs)).length (-1) = some xs.length := by rw [List.length_map]; exact ixL
    unfold atI
    rw [h]
    show (List.map PyData.int (x :: xs))[xs.length]? = _
    rw [List.getElem?_map, List.getLast?_eq_getElem?]
    have : (x :: xs)[xs.length]? = some ((x :: xs)[xs.length]'(by simp)) := List.getElem?_eq_getElem (by simp)
    simp only [List.length_cons, Nat.add_sub_cancel]
    rw [this]
    rfl
theorem qlast_wpN {a : Addr} {ds : List (Addr × Deed)} {key : Str} (hl : ds.length ≤ 1000) {k : Vl → List Sl → Prop} (h : k (.d (encO (lastW (ds.map (·.2)) key))) [.nt false (layT (a, ds)), .un]) : runS s_qlast [.nt false (layT (a, ds)), .d (.str key)] k := by
  refine ⟨rfl, ?_⟩
  show r_qlast _ [.nt false (layT (a, ds)), .d (.str key), .un, .un]
  unfold r_qlast
  walk_at "x"
  refine of_ev ?_
  refine lcX_fix (xs := ds) (it := fun i x => .al 0 [i] x.1) (p := fun x => x.2.w && x.2.key == key) (f := fun x => .int x.2.num) (e := fun i x => [.nt false (layT (a, ds)), .d (.str key), .un, .al 0 [i] x.1]) (by omega) ?l1 ?l2 (fun i x hx B C hB hC => ?l3) ?l4 ?l5
  case l1 => simp only [lenAt, na_bp, wipeE, lk_0, lk_s, getN, if_true, List.length_map, pt_0, pt_s]
  case l2 =>
    intro i x hx
    have h1 : (ds.map actT)[i]? = some (actT x) := by rw [List.getElem?_map, hx]; rfl
    simp only [DL.itemAt, na_bp, wipeE, lk_0, lk_s, getN, if_true, h1, pt_0, pt_s, kd_bp, actT, sk_bp, List.nil_append]
  case l3 =>
    have h1 : (ds.map actT)[i]? = some (actT x) := by rw [List.getElem?_map, hx]; rfl
    walk_at "x"
    rw [h1]
    walk_at "x"
    refine onB_case (fun hw => ?_) fun hw => ?_
    · walk_at "x"
      rw [h1]
      walk_at "x"
      refine onB_case (fun hk => ?_) fun hk => ?_
      · walk_at "x"
        rw [h1]
        walk_at "x"
        exact hB (by rw [hw, hk]; rfl)
      · exact hC (by rw [hw, hk]; rfl)
    · exact hC (by rw [hw]; rfl)
  case l4 => exact fun _ _ _ => rfl
  case l5 =>
    intro D
    walk_at "x"
    have e : (ds.filter fun x => x.2.w && x.2.key == key).map (fun x => PyData.int x.2.num) = (((ds.map (·.2)).filter fun d => d.w && d.key == key).map (·.num)).map .int := by
      rw [List.filter_map, List.map_map, List.map_map]; rfl
    rw [e]
    have h : k (.d (encO (((ds.map (·.2)).filter fun d => d.w && d.key == key).map (·.num)).getLast?)) [.nt false (layT (a, ds)), .un] := h
    generalize ((ds.map (·.2)).filter fun d => d.w && d.key == key).map (·.num) = ys at h ⊢
    cases ys with
    | nil =>
      walk_at "x"
      exact h
    | cons y ys =>
      walk_at "x"
      refine onO_of (d := encO (y :: ys).getLast?) (by have := atL_or (xs := y :: ys); exact this) ?_
      exact h
theorem qlast_wpT {ds : List Deed} {key : Str} (hl : ds.length ≤ 1000) {k : Vl → List Sl → Prop} (h : ∀ ps, k (.d (encO (lastW ds key))) ps) : runS s_qlast [.d (.tuple (ds.map Deed.enc)), .d (.str key)] k := by
  refine ⟨rfl, ?_⟩
  show r_qlast _ [.d (.tuple (ds.map Deed.enc)), .d (.str key), .un, .un]
  unfold r_qlast
  walk_at "x"
  refine of_ev ?_
  refine lcX_ds (p := fun x => x.w && x.key == key) (f := fun x => .int x.num) (e := fun x => [.d (.tuple (ds.map Deed.enc)), .d (.str key), .un, .d (Deed.enc x)]) (by omega) (fun x hx B C hB hC => ?l3) ?l4 ?l5
  case l3 =>
    walk_at "x"
    refine onB_case (fun hw => ?_) fun hw => ?_
    · walk_at "x"
      refine onB_case (fun hk => ?_) fun hk => ?_
      · walk_at "x"
        exact hB (by rw [hw, hk]; rfl)
      · exact hC (by rw [hw, hk]; rfl)
    · exact hC (by rw [hw]; rfl)
  case l4 => exact fun _ _ => rfl
  case l5 =>
    intro D
    walk_at "x"
    have e : (ds.filter fun x => x.w && x.key == key).map (fun x => PyData.int x.num) = ((ds.filter fun d => d.w && d.key == key).map (·.num)).map .int := by
      rw [List.map_map]; rfl
    rw [e]
    have h : ∀ ps, k (.d (encO ((ds.filter fun d => d.w && d.key == key).map (·.num)).getLast?)) ps := h
    generalize (ds.filter fun d => d.w && d.key == key).map (·.num) = ys at h ⊢
    cases ys with
    | nil =>
      walk_at "x"
      exact h _
    | cons y ys =>
      walk_at "x"
      refine onO_of (d := encO (y :: ys).getLast?) (by have := atL_or (xs := y :: ys); exact this) ?_
      exact h _
/-- what stands at a place of what is laid -/
theorem lay_get {L : Lay} {i : Nat} {x : Addr × List (Addr × Deed)} (h : L[i]? = some x) : (L.map layT)[i]? = some (layT x) := by rw [List.getElem?_map, h]; rfl
theorem bool_at {fs : List Bool} {j : Nat} {f : Bool} (h : fs[j]? = some f) : atI (fs.map PyData.bool) (0 + (j : Nat)) = some (.bool f) := by
  rw [Int.zero_add]
  refine atI_nat ?_
  rw [List.getElem?_map, h]
  rfl
theorem ix_j {n j : Nat} (h : j < n) : ixN n (0 + (j : Nat)) = some j := by
  have := ix_any (n := n) (i := 0 + (j : Nat)) (by omega) (by omega)
  rw [if_pos (by omega)] at this
  rw [this]
  congr 1
  omega
theorem lay_same {L : Lay} {j : Nat} {x : Addr × List (Addr × Deed)} (h : L[j]? = some x) : (L.map layT).set j (.node x.1 .lst (x.2.map actT)) = L.map layT := by
  have e := lay_get h
  obtain ⟨hj, e⟩ := List.getElem?_eq_some_iff.mp e
  show (L.map layT).set j (layT x) = _
  rw [← e]
  exact List.set_getElem_self hj
theorem sp_get {xs : List (Addr × Sp)} {i : Nat} {x : Addr × Sp} (h : xs[i]? = some x) : (xs.map spT)[i]? = some (spT x) := by rw [List.getElem?_map, h]; rfl
theorem ix_i {n j : Nat} (h : j < n) : ixN n ((j : Nat) : Int) = some j := by
  have := ix_any (n := n) (i := (j : Nat)) (by omega) (by omega)
  rw [if_pos (by omega), Int.toNat_natCast] at this
  exact this
theorem sh_prs (ps : List (Int × Nat)) : shp (.list (ps.map fun p => .tuple [.int p.1, .int (0 + (p.2 : Nat))])) = true := fine_sh (n := 2) (fine_list fun x hx => by
  obtain ⟨p, _, rfl⟩ := List.mem_map.mp hx
  exact fine_tuple (n := 0) fun y hy => by
    rcases List.mem_cons.mp hy with rfl | hy
    · exact fine_int _ _
    · rw [List.mem_singleton.mp hy]; exact fine_int _ _) (by decide)
theorem qchoice_wp {s : Dr} {a b : Addr} {xs : List (Addr × Sp)} {L : Lay} {fs : List Bool} {i : Nat} {key : Str} (hx : xs.length = L.length) (hf : fs.length = L.length) (hi : i < L.length) (hl : L.length ≤ 12) (hm : ∀ x ∈ L, x.2.length ≤ 1000) {k : Vl → List Sl → Prop}
    (h : ∀ (v : Int) s', (v = 0 ∨ ∃ j x, j ≠ i ∧ fs[j]? = some true ∧ L[j]? = some x ∧ lastW (x.2.map (·.2)) key = some v) → k (.d (.int v)) [.lst false (drL s'), .nt false (.node a .lst (xs.map spT)), .nt false (layN b L), .un, .un, .un]) :
    runS s_qchoice [.lst false (drL s), .nt false (.node a .lst (xs.map spT)), .nt false (layN b L), .d (.list (fs.map .bool)), .d (.int (i : Nat)), .d (.str key)] k := by
  refine ⟨rfl, ?_⟩
  show r_qchoice _ [.lst false (drL s), .nt false (.node a .lst (xs.map spT)), .nt false (layN b L), .d (.list (fs.map .bool)), .d (.int (i : Nat)), .d (.str key), .un, .un, .un]
  unfold r_qchoice
  walk_at "x"
  refine ⟨by omega, by omega, of_ev ?_⟩
  have some_at : ∀ j, j < L.length → ∃ x f, L[j]? = some x ∧ fs[j]? = some f := fun j hj => ⟨_, _, List.getElem?_eq_getElem hj, List.getElem?_eq_getElem (by omega)⟩
  refine lcX_rg (p := fun j => !(j == i) && (fs.getD j false && ((L[j]?.bind fun x => lastW (x.2.map (·.2)) key).isSome))) (f := fun j => .int (0 + (j : Nat))) (e := ?e) (show ((L.length : Nat) : Int).toNat ≤ 1000000 by omega) (fun j hj B C hB hC => ?c1) ?c2 ?c3
  case c1 =>
    walk_at "x"
    refine onB_neg (onB_beq (fun he => ?_) fun he => ?_)
    · refine hC ?_
      have : j = i := by omega
      subst this
      simp
    · obtain ⟨x, f, eL, ef⟩ := some_at j (by omega)
      have hji : (j == i) = false := by simp; omega
      walk_at "x"
      refine onO_of (d := .bool f) (bool_at ef) ?_
      walk_at "x"
      refine onB_case (fun hf => ?_) fun hf => ?_
      · walk_at "x"
        refine onO_of (ix_j (by omega)) ?_
        rw [lay_get eL]
        walk_at "x"
        rw [lay_get eL]
        walk_at "x"
        refine qlast_wpN (a := x.1) (ds := x.2) (hm x (List.mem_of_getElem? eL)) ?_
        walk_at "x"
        rw [lay_get eL]
        walk_at "x"
        rw [lay_same eL]
        cases ew : lastW (x.2.map (·.2)) key with
        | none =>
          unfold encO
          walk_at "x"
          refine hC ?_
          rw [eL]
          show (_ && (_ && (lastW (x.2.map (·.2)) key).isSome)) = false
          rw [ew]
          simp
        | some v =>
          unfold encO
          walk_at "x"
          refine hB ?_
          rw [hji, List.getD_eq_getElem?_getD, ef, hf, eL]
          show (_ && (_ && (lastW (x.2.map (·.2)) key).isSome)) = true
          rw [ew]
          rfl
      · refine hC ?_
        rw [List.getD_eq_getElem?_getD, ef, hf]
        simp
  case c2 => exact fun _ _ => rfl
  case c3 =>
    intro D
    obtain ⟨js, ejs, hjl, hjs⟩ : ∃ js : List Nat, (List.range ((L.length : Nat) : Int).toNat).filter (fun j => !(j == i) && (fs.getD j false && ((L[j]?.bind fun x => lastW (x.2.map (·.2)) key).isSome))) = js ∧ js.length ≤ 12 ∧ ∀ j ∈ js, j ≠ i ∧ j < L.length ∧ ∃ x v, fs[j]? = some true ∧ L[j]? = some x ∧ lastW (x.2.map (·.2)) key = some v := by
      refine ⟨_, rfl, ?_, fun j hj => ?_⟩
      · have := List.length_filter_le (fun j => !(j == i) && (fs.getD j false && ((L[j]?.bind fun x => lastW (x.2.map (·.2)) key).isSome))) (List.range ((L.length : Nat) : Int).toNat)
        rw [List.length_range] at this
        omega
      · obtain ⟨h1, h2⟩ := List.mem_filter.mp hj
        have h1 := List.mem_range.mp h1
        obtain ⟨x, f, eL, ef⟩ := some_at j (by omega)
        rw [List.getD_eq_getElem?_getD, ef, eL] at h2
        have h2 : (!(j == i) && (f && (lastW (x.2.map (·.2)) key).isSome)) = true := h2
        simp only [Bool.and_eq_true, Bool.not_eq_true', beq_eq_false_iff_ne] at h2
        obtain ⟨g1, g2, g3⟩ := h2
        obtain ⟨v, ev⟩ := Option.isSome_iff_exists.mp g3
        exact ⟨g1, by omega, x, v, by rw [ef, g2], eL, ev⟩
    rw [ejs]
    clear ejs
    walk_at "x"
    refine of_ev ?_
    have xi : ∃ y, xs[i]? = some y := ⟨_, List.getElem?_eq_getElem (by omega)⟩
    obtain ⟨y, ey⟩ := xi
    refine lcX_ds (xs := js) (enc := fun j => .int (0 + (j : Nat))) (p := fun j => decide (((xs[j]?.map (·.2.l)).getD 0) < y.2.f)) (f := fun j => .tuple [.int ((xs[j]?.map (·.2.l)).getD 0), .int (0 + (j : Nat))]) (e := ?e2) (by omega) (fun j hj B C hB hC => ?d1) ?d2 ?d3
    case d1 =>
      obtain ⟨hji, hjL, x, v, efj, eLj, ewj⟩ := hjs j hj
      have xj : ∃ z, xs[j]? = some z := ⟨_, List.getElem?_eq_getElem (by omega)⟩
      obtain ⟨z, ez⟩ := xj
      rw [ez] at hB hC
      walk_at "x"
      refine onO_of (ix_j (by omega)) ?_
      rw [sp_get ez]
      walk_at "x"
      rw [sp_get ez]
      walk_at "x"
      refine onO_of (ix_i (by omega)) ?_
      rw [sp_get ey]
      walk_at "x"
      rw [sp_get ey]
      walk_at "x"
      refine onB_case (fun q => ?_) fun q => ?_
      · walk_at "x"
        refine onO_of (ix_j (by omega)) ?_
        rw [sp_get ez]
        walk_at "x"
        rw [sp_get ez]
        walk_at "x"
        exact hB q
      · exact hC q
    case d2 => exact fun _ _ => rfl
    case d3 =>
      intro D2
      obtain ⟨ps, eps, hpl, hps⟩ : ∃ ps : List (Int × Nat), (js.filter fun j => decide (((xs[j]?.map (·.2.l)).getD 0) < y.2.f)).map (fun j => PyData.tuple [.int ((xs[j]?.map (·.2.l)).getD 0), .int (0 + (j : Nat))]) = ps.map (fun p => .tuple [.int p.1, .int (0 + (p.2 : Nat))]) ∧ ps.length ≤ 12 ∧ ∀ p ∈ ps, p.2 ∈ js := by
        refine ⟨(js.filter fun j => decide (((xs[j]?.map (·.2.l)).getD 0) < y.2.f)).map fun j => ((xs[j]?.map (·.2.l)).getD 0, j), by rw [List.map_map]; rfl, ?_, fun p hp => ?_⟩
        · rw [List.length_map]
          have := List.length_filter_le (fun j => decide (((xs[j]?.map (·.2.l)).getD 0) < y.2.f)) js
          omega
        · obtain ⟨j, hj, rfl⟩ := List.mem_map.mp hp
          exact (List.mem_filter.mp hj).1
      rw [eps]
      clear eps
      walk_at "x"
      refine ⟨⟨PySem.W.AllAlike.of fun _ _ => by simp [PySem.W.alike, PySem.W.alikeAll], PySem.W.Sortable.tuples fun _ => ⟨_, _, rfl⟩, sh_prs ps, by omega⟩, ?_⟩
      obtain ⟨rs, ers, hrs⟩ := sort_map (E := fun p : Int × Nat => PyData.tuple [.int p.1, .int (0 + (p.2 : Nat))]) ps
      rw [ers]
      clear ers
      refine next_wp (by omega) (by omega) fun w s1 w0 w1 => ?_
      walk_at "x"
      refine onB_beq (fun hw => ?_) fun hw => ?_
      · walk_at "x"
        cases rs with
        | nil =>
          walk_at "x"
          exact h 0 s1 (.inl rfl)
        | cons r rs =>
          walk_at "x"
          obtain ⟨r2, mr2, er2⟩ := atI_last (xs := (r :: rs).map fun p : Int × Nat => PyData.tuple [.int p.1, .int (0 + (p.2 : Nat))]) (fun z => nomatch z)
          obtain ⟨r3, mr3, rfl⟩ := List.mem_map.mp mr2
          obtain ⟨g1, g2, x, v, g3, g4, g5⟩ := hjs _ (hps _ (hrs.mem_iff.mp mr3))
          refine onO_of er2 ?_
          walk_at "x"
          refine onO_of (ix_j g2) ?_
          rw [lay_get g4]
          walk_at "x"
          rw [lay_get g4]
          walk_at "x"
          refine qlast_wpN (a := x.1) (ds := x.2) (hm x (List.mem_of_getElem? g4)) ?_
          walk_at "x"
          rw [lay_get g4]
          walk_at "x"
          rw [lay_same g4, g5]
          exact h v s1 (.inr ⟨_, x, g1, g3, g4, g5⟩)
      · walk_at "x"
        refine of_ev ?_
        refine lcX_ds1 (xs := js) (enc := fun j => .int (0 + (j : Nat))) (f := fun j => encO (L[j]?.bind fun x => lastW (x.2.map (·.2)) key)) (e := ?e3) (by omega) (fun j hj B hB => ?f1) ?f2 ?f3
        case f1 =>
          obtain ⟨g1, g2, x, v, g3, g4, g5⟩ := hjs j hj
          walk_at "x"
          refine onO_of (ix_j g2) ?_
          rw [lay_get g4]
          walk_at "x"
          rw [lay_get g4]
          walk_at "x"
          refine qlast_wpN (a := x.1) (ds := x.2) (hm x (List.mem_of_getElem? g4)) ?_
          walk_at "x"
          rw [lay_get g4]
          walk_at "x"
          rw [lay_same g4]
          rw [g4] at hB
          exact hB
        case f2 => exact fun _ _ => rfl
        case f3 =>
          intro D3
          walk_at "x"
          refine ⟨by omega, ?_⟩
          refine next_wp (by omega) (by omega) fun q s2 q0 q1 => ?_
          walk_at "x"
          obtain ⟨d, ed, md, _⟩ := at_nat (xs := PyData.int 0 :: js.map fun j => encO (L[j]?.bind fun x => lastW (x.2.map (·.2)) key)) q0 (by rw [List.length_cons, List.length_map]; omega)
          refine onO_of ed ?_
          rcases List.mem_cons.mp md with rfl | md
          · exact h 0 s2 (.inl rfl)
          · obtain ⟨j, hj, rfl⟩ := List.mem_map.mp md
            obtain ⟨g1, g2, x, v, g3, g4, g5⟩ := hjs j hj
            rw [g4]
            show k (.d (encO (lastW (x.2.map (·.2)) key))) _
            rw [g5]
            exact h v s2 (.inr ⟨_, x, g1, g3, g4, g5⟩)

end Cl

namespace Cl
open PySem PySem.Spec PyProof.Rows L2 DL
/-! ### reads -/
def reD (x y : Addr × Deed) : Prop := x.1 = y.1 ∧ x.2.w = y.2.w ∧ x.2.key = y.2.key ∧ (x.2.w = true → y.2.num = x.2.num)
inductive AllD {α : Type} (P : α → α → Prop) : List α → List α → Prop
  | nil : AllD P [] []
  | cons {x y xs ys} : P x y → AllD P xs ys → AllD P (x :: xs) (y :: ys)
theorem AllD.refl {α : Type} {P : α → α → Prop} (h : ∀ x, P x x) : ∀ xs, AllD P xs xs
  | [] => .nil
  | x :: xs => .cons (h x) (AllD.refl h xs)
theorem AllD.trans {α : Type} {P : α → α → Prop} (h : ∀ x y z, P x y → P y z → P x z) : ∀ {xs ys zs}, AllD P xs ys → AllD P ys zs → AllD P xs zs
  | _, _, _, .nil, .nil => .nil
  | _, _, _, .cons a b, .cons c d => .cons (h _ _ _ a c) (AllD.trans h b d)
theorem AllD.len {α : Type} {P : α → α → Prop} : ∀ {xs ys}, AllD P xs ys → xs.length = ys.length
  | _, _, .nil => rfl
  | _, _, .cons _ b => congrArg (· + 1) b.len
theorem AllD.get {α : Type} {P : α → α → Prop} : ∀ {xs ys : List α} {i : Nat} {y : α}, AllD P xs ys → ys[i]? = some y → ∃ x, xs[i]? = some x ∧ P x y
  | _, _, _, _, .nil, h => by simp at h
  | _, _, 0, _, .cons a _, h => by simp at h; subst h; exact ⟨_, rfl, a⟩
  | _, _, i + 1, _, .cons _ b, h => by
    obtain ⟨x, h1, h2⟩ := b.get (i := i) (by simpa using h)
    exact ⟨x, by simpa using h1, h2⟩
theorem AllD.get' {α : Type} {P : α → α → Prop} : ∀ {xs ys : List α} {i : Nat} {x : α}, AllD P xs ys → xs[i]? = some x → ∃ y, ys[i]? = some y ∧ P x y
  | _, _, _, _, .nil, h => by simp at h
  | _, _, 0, _, .cons a _, h => by simp at h; subst h; exact ⟨_, rfl, a⟩
  | _, _, i + 1, _, .cons _ b, h => by
    obtain ⟨x, h1, h2⟩ := b.get' (i := i) (by simpa using h)
    exact ⟨x, by simpa using h1, h2⟩
theorem AllD.set {α : Type} {P : α → α → Prop} (hr : ∀ x, P x x) : ∀ {xs : List α} {i : Nat} {x y : α}, xs[i]? = some x → P x y → AllD P xs (xs.set i y)
  | [], _, _, _, h, _ => by simp at h
  | a :: xs, 0, x, y, h, p => by simp at h; subst h; exact .cons p (AllD.refl hr xs)
  | a :: xs, i + 1, x, y, h, p => .cons (hr a) (AllD.set hr (by simpa using h) p)
theorem reD_refl (x : Addr × Deed) : reD x x := ⟨rfl, rfl, rfl, fun _ => rfl⟩
theorem reD_trans (x y z : Addr × Deed) (h : reD x y) (g : reD y z) : reD x z := ⟨h.1.trans g.1, h.2.1.trans g.2.1, h.2.2.1.trans g.2.2.1, fun w => (g.2.2.2 (h.2.1 ▸ w)).trans (h.2.2.2 w)⟩
theorem lastW_re : ∀ {xs ys : List (Addr × Deed)}, AllD reD xs ys → ∀ key, lastW (xs.map (·.2)) key = lastW (ys.map (·.2)) key := fun {xs ys} h key => by
  have : ((xs.map (·.2)).filter fun d => d.w && d.key == key).map (·.num) = ((ys.map (·.2)).filter fun d => d.w && d.key == key).map (·.num) := by
    induction h with
    | nil => rfl
    | cons a b ih =>
      obtain ⟨_, h1, h2, h3⟩ := a
      rw [List.map_cons, List.map_cons, List.filter_cons, List.filter_cons, ← h1, ← h2]
      split
      · rename_i q
        rw [List.map_cons, List.map_cons, ih, h3 (by simp at q; exact q.1)]
      · exact ih
  unfold lastW
  rw [this]
abbrev LDeal := Addr × List (Addr × Deed)
def reL (x y : LDeal) : Prop := x.1 = y.1 ∧ AllD reD x.2 y.2
theorem reL_refl (x : LDeal) : reL x x := ⟨rfl, AllD.refl reD_refl _⟩
theorem reL_trans (x y z : LDeal) (h : reL x y) (g : reL y z) : reL x z := ⟨h.1.trans g.1, h.2.trans reD_trans g.2⟩
/-- what an outer read may tell -/
def Src0 (fs : List Bool) (L : Lay) (i : Nat) (key : Str) (v : Int) : Prop := v = 0 ∨ ∃ j x, j ≠ i ∧ fs[j]? = some true ∧ L[j]? = some x ∧ lastW (x.2.map (·.2)) key = some v
theorem Src0.re {fs : List Bool} {L L' : Lay} {i : Nat} {key : Str} {v : Int} (h : AllD reL L L') (s : Src0 fs L' i key v) : Src0 fs L i key v := by
  rcases s with s | ⟨j, x, h1, h2, h3, h4⟩
  · exact .inl s
  · obtain ⟨y, g1, g2⟩ := h.get h3
    exact .inr ⟨j, y, h1, h2, g1, by rw [lastW_re g2.2]; exact h4⟩
theorem Src0.re' {fs : List Bool} {L L' : Lay} {i : Nat} {key : Str} {v : Int} (h : AllD reL L L') (s : Src0 fs L i key v) : Src0 fs L' i key v := by
  rcases s with s | ⟨j, x, h1, h2, h3, h4⟩
  · exact .inl s
  · obtain ⟨y, g1, g2⟩ := h.get' h3
    exact .inr ⟨j, y, h1, h2, g1, by rw [← lastW_re g2.2]; exact h4⟩
/-- the reads of a deal tell their own last write, or what an outer read may -/
def SoundD (fs : List Bool) (L : Lay) (i : Nat) (ds : List Deed) : Prop := ∀ (j : Nat) d, ds[j]? = some d → d.w = false → match lastW (ds.take j) d.key with
  | some n => d.num = n
  | none => Src0 fs L i d.key d.num
theorem lastW_snoc {ds : List Deed} {d : Deed} {key : Str} : lastW (ds ++ [d]) key = if (d.w && d.key == key) = true then some d.num else lastW ds key := by
  unfold lastW
  rw [List.filter_append, List.map_append]
  by_cases h : (d.w && d.key == key) = true
  · rw [if_pos h]
    simp [h]
  · rw [if_neg h]
    have : [d].filter (fun d => d.w && d.key == key) = [] := by rw [List.filter_cons, if_neg h]; rfl
    rw [this]
    simp
theorem SoundD.snoc {fs : List Bool} {L : Lay} {i : Nat} {ds : List Deed} {d : Deed} (h : SoundD fs L i ds) (hx : d.w = false → match lastW ds d.key with
    | some n => d.num = n
    | none => Src0 fs L i d.key d.num) : SoundD fs L i (ds ++ [d]) := fun j e he hw => by
  rcases get_app1 he with ⟨hj, he⟩ | ⟨hj, rfl⟩
  · have := h j e he hw
    rw [List.take_append_of_le_length (by omega)]
    exact this
  · subst hj
    rw [List.take_left']
    · exact hx hw
    · rfl
/-- a dict of the last numbers -/
def OwnK (kvs : List (Key × PyData)) (ds : List Deed) : Prop := ∀ key : Str, valD kvs (.inr key) = (lastW ds key).map .int
local macro_rules | `(tactic| walk_at "x") => `(tactic| (refine ev_of ?_; simp only [ap_seq, ap_next, ap_brk, ap_cnt, ap_expr, ap_ret, ap_retN, ap_if, ap_asg, ap_set, ap_seti, ap_par, ap_dput, ap_forL, ap_forT, ap_forR, ap_while, ap_nm, ap_gtp, ap_gnil, ap_gcons, ap_var, ap_c, ap_op, ap_un, ap_test, ap_and, ap_or, ap_not, ap_yes, ap_andV, ap_orV, ap_notV, ap_ifE, ap_anil, ap_acons, ap_fnil, ap_fcons, ap_tup, ap_lst, ap_dct, ap_cb, ap_isi, ap_sl, ap_nopart, ap_part, ap_lstrg, ap_mut, ap_call, ap_callS, ap_din, ap_lcL, ap_lcT, ap_lcR, ap_lcB, ap_forB, ap_lcnil, ap_lccons, wp_nil, wp_cons, rs_nil, rs_cons, kp_d, kp_un, eq_self,
  ev_ev, kd_i, kd_s, if_true, if_false, Bool.false_eq_true, Bool.not_true, Bool.not_false, List.isEmpty_nil, List.isEmpty_cons, ev_and, ev_t, ev_f, ev_s, k_I0, k_I, k_EqL0, k_EqT0, k_EqLT, k_EqTL, k_EqI, k_EqB, k_EqS, k_EqN, k_EqLc, k_EqTc, id_eq, k_IsN, k_InL, k_InT, k_Cat, k_IxL, k_IxT, k_LenL, k_LenT, k_ListL, k_ListT, k_TupleL, k_TupleT, k_I2, k_Abs, k_Neg, k_App, k_PopAt, lk_0, lk_s, pt_0, pt_s, peekAll, sh_int, sh_none, sh_bool, sh_nil, sh_nilT, sh_ints, eqv_int, eqv_ss, eqv_bool, eqv_nil, at0, at1, at2, at3, ixN1, List.length_cons, List.length_nil, List.set_cons_succ, List.set_cons_zero, true_and, and_true, List.map_cons, List.map_nil, List.nil_append, List.cons_append, flatD, List.length_map, flat_ints, in_ints, ap_rev, ap_chain, ap_lcS, k_IsB, k_IntI, k_IntB, k_CatT, k_Rep, k_InS, k_LenS,
  ap_revA, ap_slA, ap_joinC, k_SlL, k_SlT, k_SlS, k_CatS, k_RepS, k_AxL, k_AxT, k_AxS, k_StrI, ap_forA, ap_lcA, it_L, it_T, it_S, k_AdI, k_AdL, k_AdT, k_AdS, k_MuI, k_MuL, k_MuS, Nat.zero_le, kit_tuple, kit_list, kit_str, kit_int, kit_bool, kit_dict, isN_none, isN_bool, isN_int, isN_str, isN_list, isN_tuple, isN_dict, isTup_none, isTup_bool, isTup_int, isTup_str, isTup_list, isTup_tuple, isTup_dict, isLst_none, isLst_bool, isLst_int, isLst_str, isLst_list, isLst_tuple, isLst_dict, isStr_none, isStr_bool, isStr_int, isStr_str, isStr_list, isStr_tuple, isStr_dict, isInt_none, isInt_bool, isInt_int, isInt_str, isInt_list, isInt_tuple, isInt_dict, isBool_none, isBool_bool, isBool_int, isBool_str, isBool_list, isBool_tuple, isBool_dict, isDict_none, isDict_bool, isDict_int, isDict_str, isDict_list, isDict_tuple, isDict_dict, dec_tt, dec_ft, dec_tf, dec_ff, dec_T, dec_F, ap_mF, ap_callM, ap_callX, ap_callXn, ap_raise, ap_exprX, ap_retX, ap_setX, ap_try, ap_isx, ap_isNx, nx_ex, nx_new, nx_d, fx_ex, fx_d, fx_new, fx_bor, DL.pa_nil, DL.pa_cons, bk_nil, bk_cons, bk1, ap_meth, ap_meth0, ap_gtpAt, ap_gtpAl, tyM_L, tyM_S, k_InAL, k_InAT, k_SortD, k_Count, sh_str, sh_strs, sh_bools, eqv_strs, eqv_bools, eqv_ints, List.filterMap_cons, List.filterMap_nil, List.nodup_nil, Nat.reduceAdd, Nat.reduceLeDiff, k_EqStrs, k_EqBools, k_EqInts, ap_forI, ap_lcI, ap_enu, ap_enu1, nd1, ap_ixA, ap_ixP, ap_ixD, ap_ixW, ap_ixB, ap_lenA, ap_lenP, ap_lenD, ap_lenW, ap_lenB, ixZ, ixT, ixL, List.getElem?_cons_zero, List.getElem?_cons_succ, ap_stX, ap_stb, ap_stp, ap_appN, ap_setN, ap_forX, ap_lcXA, ap_lcXR, ap_dgx, ap_dlen, ap_eq0, ap_dpop, ap_orL, ap_andL, getN, setN, fzAll, flatN, peekN, truL, resN_fz, pk_d, pk_new, pk_bor, pk_bp, pk_nt, fz_d, fz_dk, fz_new, fz_bor, fz_bp, fz_nt, so_new, so_dk, so_v, so_nt, so_bp, so_ex, so_d, so_bor, ub_d, ub_new, ub_dk, ub_nt, ub_ex, ub_bor, ub_bp, na_bp, na_d, na_new, na_bor, na_nt, an_nt, an_d, an_bor, pn_bp, ad_bp, kd_bp, sk_d, sk_bp, sc_bp, sc_d, sc_new, sc_bor, ps_d, ps_ex, ps_bor, ps_bp, sl_d, sl_ex, sl_bor, sl_bp, ap_dsortI, ap_callW, ap_cW, ap_appu, an_ev, Option.any_some, actT, layT, layN, Deed.enc, srt_e1, srt_e2, srt_e3, Option.map_some, drT, spT, Option.map_none, Option.isSome_some, Option.isSome_none]))
local macro_rules | `(tactic| walk_at "s") => `(tactic| (repeat with_reducible refine And.intro (by first | assumption | omega | exact True.intro | rfl | (simp; done) | (simp; omega) | decide) ?_))

theorem fill_in {b a : Addr} {xs : List (Addr × Sp)} {fs : List Bool} {L0 L1 : Lay} {i : Nat} {c : Addr} {A : DEnds} (hx : xs.length = L0.length) (hf : fs.length = L0.length) (hi : i < L0.length) (hl : L0.length ≤ 12) (hm : ∀ x ∈ L0, x.2.length ≤ 1000)
    (h : ∀ s L kvs s6 ds, AllD reL L0 L → (∀ k, k ≠ i → L[k]? = L1[k]?) → L[i]? = some (c, ds) → SoundD fs L0 i (ds.map (·.2)) → A.nx [.lst false (drL s), .nt false (.node a .lst (xs.map spT)), .nt false (layN b L), .d (.list (fs.map .bool)), .d (.int (i : Nat)), .dct true kvs, s6]) :
    ∀ (rest done : List (Addr × Deed)) (L : Lay) (s : Dr) (kvs : List (Key × PyData)) (s6 : Sl), AllD reL L0 L → (∀ k, k ≠ i → L[k]? = L1[k]?) → L[i]? = some (c, done ++ rest) → SoundD fs L0 i (done.map (·.2)) → OwnK kvs (done.map (·.2)) → kvs.length ≤ done.length → done.length + rest.length ≤ 1000 →
      ev (forGoX (.pl (.bp 2 [i] c)) 6 b_qfilled_2 A rest.length done.length [.lst false (drL s), .nt false (.node a .lst (xs.map spT)), .nt false (layN b L), .d (.list (fs.map .bool)), .d (.int (i : Nat)), .dct true kvs, s6])
  | [], done, L, s, kvs, s6, hA, hN, hL, hS, hO, hk, hn => by
    have h1 := lay_get hL
    refine ⟨?_, h s L kvs s6 done hA hN (by rw [List.append_nil] at hL; exact hL) hS⟩
    simp only [lenAt, na_bp, lk_0, lk_s, layN, getN, h1, layT, if_true, List.length_map, List.append_nil]
  | (e, d) :: rest, done, L, s, kvs, s6, hA, hN, hL, hS, hO, hk, hn => by
    have h1 := lay_get hL
    have h2 : ((done ++ (e, d) :: rest).map actT)[done.length]? = some (actT (e, d)) := by rw [List.getElem?_map]; simp
    have hiL := (List.getElem?_eq_some_iff.mp hL).1
    refine ⟨?_, ?_⟩
    · simp only [lenAt, na_bp, lk_0, lk_s, layN, getN, h1, layT, if_true, List.length_map, List.length_append, List.length_cons]
    · simp only [DL.itemAt, na_bp, lk_0, lk_s, layN, getN, h1, layT, h2, if_true, kd_bp, actT, sk_bp, onO_s, List.cons_append, List.nil_append]
      refine ev_of ?_
      show ev (b_qfilled_2 _ [.lst false (drL s), .nt false (.node a .lst (xs.map spT)), .nt false (.node b .lst (L.map layT)), .d (.list (fs.map .bool)), .d (.int (i : Nat)), .dct true kvs, .al 2 [i, done.length] e])
      rw [b_qfilled_2_eq]
      walk_at "x"
      rw [h1]
      walk_at "x"
      rw [h2]
      walk_at "x"
      have ei : ∀ n : Int, ((done ++ (e, d) :: rest).map actT).set done.length (.node e .lst [.fz (.str (srt d.w)), .fz (.str d.key), .fz (.int n)]) = (done ++ (e, { d with num := n }) :: rest).map actT := fun n => by
        rw [List.map_append, List.set_append_right _ _ (by simp), List.map_append]
        simp [actT]
      have et : ∀ n : Int, (L.map layT).set i (.node c .lst ((done ++ (e, { d with num := n }) :: rest).map actT)) = (L.set i (c, done ++ (e, { d with num := n }) :: rest)).map layT := fun n => by
        rw [List.map_set]
        rfl
      refine onB_case (fun hw => ?_) fun hw => ?_
      · walk_at "x"
        rw [h1]
        walk_at "x"
        rw [h2]
        walk_at "x"
        rw [h1]
        walk_at "x"
        rw [h2]
        walk_at "x"
        refine ⟨by omega, ?_⟩
        have := fill_in hx hf hi hl hm h rest (done ++ [(e, d)]) L s (putD kvs (.inr d.key) (.int d.num)) (.al 2 [i, done.length] e) hA hN (by rw [List.append_assoc]; exact hL)
          (by rw [List.map_append]; exact hS.snoc fun z => by rw [hw] at z; cases z)
          (fun key => by
            rw [List.map_append]
            show _ = (lastW (_ ++ [d]) key).map PyData.int
            rw [valD_put, lastW_snoc, hO key]
            by_cases q : d.key = key
            · rw [if_pos (by rw [q]), if_pos (by rw [hw, q]; simp)]; rfl
            · rw [if_neg (fun z => q (Sum.inr.inj z)), if_neg (by simp [q])])
          (by have := putD_len (.inr d.key) (.int d.num) kvs; rw [List.length_append]; show _ ≤ _ + 1; omega) (by rw [List.length_append]; rw [List.length_cons] at hn; show _ + 1 + _ ≤ _; omega)
        rw [List.length_append] at this
        exact this
      · have go : ∀ (n : Int) (s' : Dr), (match lastW (done.map (·.2)) d.key with
            | some m => n = m
            | none => Src0 fs L0 i d.key n) → ev (forGoX (.pl (.bp 2 [i] c)) 6 b_qfilled_2 A rest.length (done.length + 1) [.lst false (drL s'), .nt false (.node a .lst (xs.map spT)), .nt false (.node b .lst ((L.set i (c, done ++ (e, { d with num := n }) :: rest)).map layT)), .d (.list (fs.map .bool)), .d (.int (i : Nat)), .dct true kvs, .al 2 [i, done.length] e]) := fun n s' hn' => by
          have := fill_in hx hf hi hl hm h rest (done ++ [(e, { d with num := n })]) (L.set i (c, done ++ (e, { d with num := n }) :: rest)) s' kvs (.al 2 [i, done.length] e)
            (hA.trans reL_trans (AllD.set reL_refl hL ⟨rfl, by
              have := AllD.set reD_refl (xs := done ++ (e, d) :: rest) (i := done.length) (x := (e, d)) (y := (e, { d with num := n })) (by simp) ⟨rfl, rfl, rfl, fun z => by rw [hw] at z; cases z⟩
              rw [List.set_append_right _ _ (by simp)] at this
              simpa using this⟩))
            (fun k hk => by rw [List.getElem?_set_ne (Ne.symm hk)]; exact hN k hk)
            (by rw [List.append_assoc, List.getElem?_set_self hiL]; rfl)
            (by rw [List.map_append]; exact hS.snoc fun _ => hn')
            (fun key => by
              rw [List.map_append]
              show _ = (lastW (_ ++ [{ d with num := n }]) key).map PyData.int
              rw [lastW_snoc, if_neg (by simp [hw])]
              exact hO key)
            (by rw [List.length_append]; show _ ≤ _ + 1; omega) (by rw [List.length_append]; rw [List.length_cons] at hn; show _ + 1 + _ ≤ _; omega)
          rw [List.length_append] at this
          exact this
        walk_at "x"
        rw [h1]
        walk_at "x"
        rw [h2]
        walk_at "x"
        have ok := hO d.key
        cases ew : lastW (done.map (·.2)) d.key with
        | some m =>
          rw [ew] at ok go
          rw [ok]
          walk_at "x"
          rw [h1]
          walk_at "x"
          rw [h2]
          walk_at "x"
          rw [ok]
          walk_at "x"
          rw [h1]
          walk_at "x"
          rw [h2]
          walk_at "x"
          rw [ei, et]
          exact go m s rfl
        | none =>
          rw [ew] at ok go
          rw [ok]
          walk_at "x"
          rw [h1]
          walk_at "x"
          rw [h2]
          walk_at "x"
          have hLl := hA.len
          refine ⟨by decide, qchoice_wp (a := a) (b := b) (xs := xs) (L := L) (fs := fs) (i := i) (by omega) (by omega) (by omega) (by omega) (fun x hx' => ?_) fun v s' hv => ?_⟩
          · obtain ⟨k, hk⟩ := List.mem_iff_getElem?.mp hx'
            obtain ⟨y, hy, e1, e2⟩ := hA.get hk
            rw [← e2.len]
            exact hm y (List.mem_of_getElem? hy)
          · walk_at "x"
            rw [h1]
            walk_at "x"
            rw [h2]
            walk_at "x"
            rw [ei, et]
            exact go v s' (Src0.re hA hv)
theorem qfilled_wp {s : Dr} {b a : Addr} {xs : List (Addr × Sp)} {fs : List Bool} {L0 : Lay} (hx : xs.length = L0.length) (hf : fs.length = L0.length) (hl : L0.length ≤ 12) (hm : ∀ x ∈ L0, x.2.length ≤ 1000) {k : Vl → List Sl → Prop}
    (h : ∀ s' L, AllD reL L0 L → (∀ (i : Nat) x, L[i]? = some x → SoundD fs L0 i (x.2.map (·.2))) → k (.d .none) [.lst false (drL s'), .nt false (.node a .lst (xs.map spT)), .nt false (layN b L), .un]) :
    runS s_qfilled [.lst false (drL s), .nt false (.node a .lst (xs.map spT)), .nt false (layN b L0), .d (.list (fs.map .bool))] k := by
  refine ⟨rfl, ?_⟩
  show r_qfilled _ [.lst false (drL s), .nt false (.node a .lst (xs.map spT)), .nt false (layN b L0), .d (.list (fs.map .bool)), .un, .un, .un]
  unfold r_qfilled
  walk_at "x"
  refine ⟨by omega, by omega, of_ev ?_⟩
  refine for_ix (I := fun j ε => ∃ s' L s4 s5 s6, ε = [.lst false (drL s'), .nt false (.node a .lst (xs.map spT)), .nt false (layN b L), .d (.list (fs.map .bool)), s4, s5, s6] ∧ AllD reL L0 L ∧ ∀ (i : Nat) x, i < j → L[i]? = some x → SoundD fs L0 i (x.2.map (·.2))) _ 0 _ (fun j x hj ε hI B b1 b2 b3 b4 => ?_) ⟨s, L0, .un, .un, .un, rfl, AllD.refl reL_refl _, fun i x hi => absurd hi (Nat.not_lt_zero _)⟩ fun ε hI => ?_
  · obtain ⟨hj, rfl⟩ := rngD_get hj
    obtain ⟨s', L, s4, s5, s6, rfl, hA, hS⟩ := hI
    have hLl := hA.len
    have hjL : j < L.length := by omega
    refine ev_of ?_
    rw [ap_nm, Int.zero_add]
    show ev (b_qfilled_1 _ [.lst false (drL s'), .nt false (.node a .lst (xs.map spT)), .nt false (.node b .lst (L.map layT)), .d (.list (fs.map .bool)), .d (.int (j : Nat)), s5, s6])
    rw [b_qfilled_1_eq]
    obtain ⟨⟨c, ds⟩, eL⟩ : ∃ x, L[j]? = some x := ⟨_, List.getElem?_eq_getElem hjL⟩
    walk_at "x"
    refine onO_of (ix_i hjL) ?_
    rw [lay_get eL]
    walk_at "x"
    rw [lay_get eL]
    walk_at "x"
    have hl2 : lenAt (.pl (.bp 2 [j] c)) [.lst false (drL s'), .nt false (.node a .lst (xs.map spT)), .nt false (.node b .lst (L.map layT)), .d (.list (fs.map .bool)), .d (.int (j : Nat)), .dct true [], s6] = some ds.length := by
      simp only [lenAt, na_bp, lk_0, lk_s, getN, lay_get eL, layT, if_true, List.length_map]
    rw [hl2]
    walk_at "x"
    have hds : ds.length ≤ 1000 := by
      obtain ⟨y, hy, e1, e2⟩ := hA.get eL
      have := hm y (List.mem_of_getElem? hy)
      rw [e2.len] at this
      exact this
    refine fill_in hx hf (by omega) hl hm (L1 := L) (fun s2 L2 kvs s6' ds2 hA2 hN2 e2 hS2 => ?_) ds [] L s' [] s6 hA (fun _ _ => rfl) eL (fun j d hd => by simp at hd) (fun key => rfl) (Nat.le_refl _) (by simpa using hds)
    refine b3 _ ⟨s2, L2, _, _, _, rfl, hA2, fun i x hi e => ?_⟩
    by_cases hij : i = j
    · subst hij
      rw [e2] at e
      cases e
      exact hS2
    · rw [hN2 i hij] at e
      exact hS i x (by omega) e
  · obtain ⟨s', L, s4, s5, s6, rfl, hA, hS⟩ := hI
    rw [rngD_len] at hS
    walk_at "x"
    have hLl := hA.len
    exact h s' L hA fun i x e => hS i x (by have := (List.getElem?_eq_some_iff.mp e).1; omega) e

end Cl

namespace Cl
open PySem PySem.Spec PyProof.Rows L2 DL
/-! ### the tale -/
structure Deal where
  hand : Int
  first : Int
  last : Int
  deeds : List Deed
  kept : Bool
def fate (b : Bool) : Str := if b then Str.ofString "kept" else Str.ofString "dropped"
def Deal.enc (d : Deal) : PyData := .tuple [.int d.hand, .int d.first, .int d.last, .tuple (d.deeds.map Deed.enc), .str (fate d.kept)]
abbrev Tale := List Deal
def encT (T : Tale) : PyData := .tuple (T.map Deal.enc)
def wnums (T : Tale) : List Int := T.flatMap fun d => (d.deeds.filter (·.w)).map (·.num)
structure TaleOk (n m nk : Nat) (T : Tale) : Prop where
  len : T.length = n
  deeds : ∀ d ∈ T, d.deeds.length ≤ m
  hand : ∀ d ∈ T, 0 ≤ d.hand ∧ d.hand ≤ 4
  mom : ∀ d ∈ T, 0 ≤ d.first ∧ d.first < d.last ∧ d.last ≤ 9999
  keys : ∃ ks : List Str, ks.length ≤ nk ∧ (∀ k ∈ ks, KeyT k) ∧ ∀ d ∈ T, ∀ e ∈ d.deeds, e.key ∈ ks
  nums : (wnums T).Nodup
  numb : ∀ d ∈ T, ∀ e ∈ d.deeds, (if e.w then 1 else 0) ≤ e.num ∧ e.num ≤ 999999
  rise : ∀ (i j : Nat) x y, i < j → T[i]? = some x → T[j]? = some y → x.first < y.first ∧ (x.hand = y.hand → x.last < y.first)
  diff : ∀ (i j : Nat) x y, i ≠ j → T[i]? = some x → T[j]? = some y → x.first ≠ y.last ∧ x.last ≠ y.last
  sound : ∀ (i : Nat) x, T[i]? = some x → ∀ (j : Nat) d, x.deeds[j]? = some d → d.w = false → match lastW (x.deeds.take j) d.key with
    | some n => d.num = n
    | none => d.num = 0 ∨ ∃ k y, k ≠ i ∧ T[k]? = some y ∧ y.kept = true ∧ lastW y.deeds d.key = some d.num
def dealOf (x : Sp) (ds : List Deed) (f : Bool) : Deal := ⟨x.h, x.f, x.l, ds, f⟩
def zipT : List (Addr × Sp) → Lay → List Bool → Tale
  | x :: xs, l :: L, f :: fs => dealOf x.2 (l.2.map (·.2)) f :: zipT xs L fs
  | _, _, _ => []
theorem zipT_get : ∀ {xs : List (Addr × Sp)} {L : Lay} {fs : List Bool} {j : Nat} {x l f}, xs[j]? = some x → L[j]? = some l → fs[j]? = some f → (zipT xs L fs)[j]? = some (dealOf x.2 (l.2.map (·.2)) f)
  | x :: xs, l :: L, f :: fs, 0, _, _, _, h1, h2, h3 => by simp at h1 h2 h3; subst h1 h2 h3; rfl
  | x :: xs, l :: L, f :: fs, j + 1, _, _, _, h1, h2, h3 => zipT_get (xs := xs) (L := L) (fs := fs) (j := j) (by simpa using h1) (by simpa using h2) (by simpa using h3)
  | [], _, _, _, _, _, _, h1, _, _ => by simp at h1
  | _ :: _, [], _, _, _, _, _, _, h2, _ => by simp at h2
  | _ :: _, _ :: _, [], _, _, _, _, _, _, h3 => by simp at h3
theorem zipT_len : ∀ {xs : List (Addr × Sp)} {L : Lay} {fs : List Bool}, xs.length = L.length → fs.length = L.length → (zipT xs L fs).length = L.length
  | x :: xs, l :: L, f :: fs, h1, h2 => congrArg (· + 1) (zipT_len (by simpa using h1) (by simpa using h2))
  | [], [], [], _, _ => rfl
  | [], _ :: _, _, h, _ => by simp at h
  | _ :: _, [], _, h, _ => by simp at h
  | [], [], _ :: _, _, h => by simp at h
  | _ :: _, _ :: _, [], _, h => by simp at h
def drX (x : Addr × Dr) : NT := drT x.1 x.2
local macro_rules | `(tactic| walk_at "x") => `(tactic| (refine ev_of ?_; simp only [ap_seq, ap_next, ap_brk, ap_cnt, ap_expr, ap_ret, ap_retN, ap_if, ap_asg, ap_set, ap_seti, ap_par, ap_dput, ap_forL, ap_forT, ap_forR, ap_while, ap_nm, ap_gtp, ap_gnil, ap_gcons, ap_var, ap_c, ap_op, ap_un, ap_test, ap_and, ap_or, ap_not, ap_yes, ap_andV, ap_orV, ap_notV, ap_ifE, ap_anil, ap_acons, ap_fnil, ap_fcons, ap_tup, ap_lst, ap_dct, ap_cb, ap_isi, ap_sl, ap_nopart, ap_part, ap_lstrg, ap_mut, ap_call, ap_callS, ap_din, ap_lcL, ap_lcT, ap_lcR, ap_lcB, ap_forB, ap_lcnil, ap_lccons, wp_nil, wp_cons, rs_nil, rs_cons, kp_d, kp_un, eq_self,
  ev_ev, kd_i, kd_s, if_true, if_false, Bool.false_eq_true, Bool.not_true, Bool.not_false, List.isEmpty_nil, List.isEmpty_cons, ev_and, ev_t, ev_f, ev_s, k_I0, k_I, k_EqL0, k_EqT0, k_EqLT, k_EqTL, k_EqI, k_EqB, k_EqS, k_EqN, k_EqLc, k_EqTc, id_eq, k_IsN, k_InL, k_InT, k_Cat, k_IxL, k_IxT, k_LenL, k_LenT, k_ListL, k_ListT, k_TupleL, k_TupleT, k_I2, k_Abs, k_Neg, k_App, k_PopAt, lk_0, lk_s, pt_0, pt_s, peekAll, sh_int, sh_none, sh_bool, sh_nil, sh_nilT, sh_ints, eqv_int, eqv_ss, eqv_bool, eqv_nil, at0, at1, at2, at3, ixN1, List.length_cons, List.length_nil, List.set_cons_succ, List.set_cons_zero, true_and, and_true, List.map_cons, List.map_nil, List.nil_append, List.cons_append, flatD, List.length_map, flat_ints, in_ints, ap_rev, ap_chain, ap_lcS, k_IsB, k_IntI, k_IntB, k_CatT, k_Rep, k_InS, k_LenS,
  ap_revA, ap_slA, ap_joinC, k_SlL, k_SlT, k_SlS, k_CatS, k_RepS, k_AxL, k_AxT, k_AxS, k_StrI, ap_forA, ap_lcA, it_L, it_T, it_S, k_AdI, k_AdL, k_AdT, k_AdS, k_MuI, k_MuL, k_MuS, Nat.zero_le, kit_tuple, kit_list, kit_str, kit_int, kit_bool, kit_dict, isN_none, isN_bool, isN_int, isN_str, isN_list, isN_tuple, isN_dict, isTup_none, isTup_bool, isTup_int, isTup_str, isTup_list, isTup_tuple, isTup_dict, isLst_none, isLst_bool, isLst_int, isLst_str, isLst_list, isLst_tuple, isLst_dict, isStr_none, isStr_bool, isStr_int, isStr_str, isStr_list, isStr_tuple, isStr_dict, isInt_none, isInt_bool, isInt_int, isInt_str, isInt_list, isInt_tuple, isInt_dict, isBool_none, isBool_bool, isBool_int, isBool_str, isBool_list, isBool_tuple, isBool_dict, isDict_none, isDict_bool, isDict_int, isDict_str, isDict_list, isDict_tuple, isDict_dict, dec_tt, dec_ft, dec_tf, dec_ff, dec_T, dec_F, ap_mF, ap_callM, ap_callX, ap_callXn, ap_raise, ap_exprX, ap_retX, ap_setX, ap_try, ap_isx, ap_isNx, nx_ex, nx_new, nx_d, fx_ex, fx_d, fx_new, fx_bor, DL.pa_nil, DL.pa_cons, bk_nil, bk_cons, bk1, ap_meth, ap_meth0, ap_gtpAt, ap_gtpAl, tyM_L, tyM_S, k_InAL, k_InAT, k_SortD, k_Count, sh_str, sh_strs, sh_bools, eqv_strs, eqv_bools, eqv_ints, List.filterMap_cons, List.filterMap_nil, List.nodup_nil, Nat.reduceAdd, Nat.reduceLeDiff, k_EqStrs, k_EqBools, k_EqInts, ap_forI, ap_lcI, ap_enu, ap_enu1, nd1, ap_ixA, ap_ixP, ap_ixD, ap_ixW, ap_ixB, ap_lenA, ap_lenP, ap_lenD, ap_lenW, ap_lenB, ixZ, ixT, ixL, List.getElem?_cons_zero, List.getElem?_cons_succ, ap_stX, ap_stb, ap_stp, ap_appN, ap_setN, ap_forX, ap_lcXA, ap_lcXR, ap_dgx, ap_dlen, ap_eq0, ap_dpop, ap_orL, ap_andL, getN, setN, fzAll, flatN, peekN, truL, resN_fz, pk_d, pk_new, pk_bor, pk_bp, pk_nt, fz_d, fz_dk, fz_new, fz_bor, fz_bp, fz_nt, so_new, so_dk, so_v, so_nt, so_bp, so_ex, so_d, so_bor, ub_d, ub_new, ub_dk, ub_nt, ub_ex, ub_bor, ub_bp, na_bp, na_d, na_new, na_bor, na_nt, an_nt, an_d, an_bor, pn_bp, ad_bp, kd_bp, sk_d, sk_bp, sc_bp, sc_d, sc_new, sc_bor, ps_d, ps_ex, ps_bor, ps_bp, sl_d, sl_ex, sl_bor, sl_bp, ap_dsortI, ap_callW, ap_cW, ap_appu, an_ev, Option.any_some, drX, actT, layT, layN, Deed.enc, srt_e1, srt_e2, srt_e3, Option.map_some, drT, spT, Option.map_none, Option.isSome_some, Option.isSome_none]))
local macro_rules | `(tactic| walk_at "s") => `(tactic| (repeat with_reducible refine And.intro (by first | assumption | omega | exact True.intro | rfl | (simp; done) | (simp; omega) | decide) ?_))

theorem lastW_mem {ds : List Deed} {key : Str} {v : Int} (h : lastW ds key = some v) : ∃ d ∈ ds, d.w = true ∧ d.key = key ∧ d.num = v := by
  unfold lastW at h
  have := List.mem_of_getLast? h
  obtain ⟨d, hd, e⟩ := List.mem_map.mp this
  obtain ⟨h1, h2⟩ := List.mem_filter.mp hd
  simp at h2
  exact ⟨d, h1, h2.1, h2.2, e⟩
theorem wrs_re : ∀ {xs ys : List (Addr × Deed)}, AllD reD xs ys → wrs xs = wrs ys
  | _, _, .nil => rfl
  | _, _, .cons (x := x) (y := y) a b => by
    have ih := wrs_re b
    unfold wrs at ih ⊢
    rw [List.filter_cons, List.filter_cons, ← a.2.1]
    split
    · rename_i q
      rw [List.map_cons, List.map_cons, ih, a.2.2.2 q]
    · exact ih
theorem wrL_re : ∀ {L L' : Lay}, AllD reL L L' → wrL L = wrL L'
  | _, _, .nil => rfl
  | _, _, .cons a b => by
    have ih := wrL_re b
    unfold wrL at ih ⊢
    rw [List.flatMap_cons, List.flatMap_cons, ih, wrs_re a.2]
theorem wnums_zip : ∀ {xs : List (Addr × Sp)} {L : Lay} {fs : List Bool}, xs.length = L.length → fs.length = L.length → wnums (zipT xs L fs) = wrL L
  | x :: xs, l :: L, f :: fs, h1, h2 => by
    have ih := wnums_zip (xs := xs) (L := L) (fs := fs) (by simpa using h1) (by simpa using h2)
    unfold wnums wrL at ih ⊢
    rw [zipT, List.flatMap_cons, List.flatMap_cons, ih]
    congr 1
    show ((l.2.map (·.2)).filter (·.w)).map (·.num) = wrs l.2
    unfold wrs
    rw [List.filter_map, List.map_map]
    rfl
  | [], [], [], _, _ => rfl
  | [], _ :: _, _, h, _ => by simp at h
  | _ :: _, [], _, h, _ => by simp at h
  | [], [], _ :: _, _, h => by simp at h
  | _ :: _, _ :: _, [], _, h => by simp at h
theorem zipT_un {xs : List (Addr × Sp)} {L : Lay} {fs : List Bool} {j : Nat} {d : Deal} (h1 : xs.length = L.length) (h2 : fs.length = L.length) (h : (zipT xs L fs)[j]? = some d) : ∃ x l f, xs[j]? = some x ∧ L[j]? = some l ∧ fs[j]? = some f ∧ d = dealOf x.2 (l.2.map (·.2)) f := by
  have hj := (List.getElem?_eq_some_iff.mp h).1
  rw [zipT_len h1 h2] at hj
  have a := List.getElem?_eq_getElem (l := xs) (i := j) (by omega)
  have b := List.getElem?_eq_getElem (l := L) (i := j) (by omega)
  have c := List.getElem?_eq_getElem (l := fs) (i := j) (by omega)
  rw [zipT_get a b c] at h
  exact ⟨_, _, _, a, b, c, (Option.some.inj h).symm⟩
theorem tale_ok {n m nk : Nat} {xs : List (Addr × Sp)} {L1 L2 : Lay} {fs : List Bool} {ks : List Str} (hsp : SpOk n (xs.map (·.2))) (hks : ∀ k ∈ ks, KeyT k) (hkl : ks.length ≤ nk) (hx : xs.length = L2.length) (hf : fs.length = L2.length)
    (g1 : LayOk ks m L1) (g3 : NumOk L1) (k1 : AllD reL L1 L2) (k2 : ∀ (i : Nat) x, L2[i]? = some x → SoundD fs L1 i (x.2.map (·.2))) : TaleOk n m nk (zipT xs L2 fs) := by
  have un : ∀ {d}, d ∈ zipT xs L2 fs → ∃ (j : Nat) (x : Addr × Sp) (l : LDeal) (f : Bool), xs[j]? = some x ∧ L2[j]? = some l ∧ fs[j]? = some f ∧ d = dealOf x.2 (l.2.map (·.2)) f := fun {d} hd => by
    obtain ⟨j, hj⟩ := List.mem_iff_getElem?.mp hd
    obtain ⟨x, l, f, a, b, c, e⟩ := zipT_un hx hf hj
    exact ⟨j, x, l, f, a, b, c, e⟩
  have layl : ∀ {j : Nat} {l : LDeal}, L2[j]? = some l → l.2.length ≤ m ∧ ∀ d ∈ l.2, d.2.key ∈ ks := fun {j l} h => by
    obtain ⟨y, hy, _, e2⟩ := k1.get h
    obtain ⟨q1, q2⟩ := g1 y (List.mem_of_getElem? hy)
    refine ⟨by rw [← e2.len]; exact q1, fun d hd => ?_⟩
    obtain ⟨i, hi⟩ := List.mem_iff_getElem?.mp hd
    obtain ⟨z, hz, e3⟩ := e2.get hi
    rw [← e3.2.2.1]
    exact q2 z (List.mem_of_getElem? hz)
  have wmem : ∀ {j : Nat} {l : LDeal} {d : Deed}, L2[j]? = some l → d ∈ l.2.map (·.2) → d.w = true → 1 ≤ d.num ∧ d.num ≤ 999999 := fun {j l d} h hd hw => by
    refine g3.bd _ ?_
    rw [wrL_re k1]
    obtain ⟨x, hx, rfl⟩ := List.mem_map.mp hd
    exact List.mem_flatMap.mpr ⟨l, List.mem_of_getElem? h, List.mem_map.mpr ⟨x, List.mem_filter.mpr ⟨hx, hw⟩, rfl⟩⟩
  have spn : xs.length = n := by have := hsp.len; rwa [List.length_map] at this
  have snd : ∀ (i : Nat) x, (zipT xs L2 fs)[i]? = some x → ∀ (j : Nat) d, x.deeds[j]? = some d → d.w = false → match lastW (x.deeds.take j) d.key with
    | some n => d.num = n
    | none => d.num = 0 ∨ ∃ k y, k ≠ i ∧ (zipT xs L2 fs)[k]? = some y ∧ y.kept = true ∧ lastW y.deeds d.key = some d.num := fun i x hxi j d hd hw => by
    obtain ⟨y, l, f, a, b, c, rfl⟩ := zipT_un hx hf hxi
    have := k2 i l b j d hd hw
    show match lastW ((l.2.map (·.2)).take j) d.key with
      | some n => d.num = n
      | none => _
    cases e : lastW ((l.2.map (·.2)).take j) d.key with
    | some v => rw [e] at this; exact this
    | none =>
      rw [e] at this
      rcases Src0.re' k1 this with s | ⟨k, z, q1, q2, q3, q4⟩
      · exact .inl s
      · have hk := (List.getElem?_eq_some_iff.mp q3).1
        have a2 := List.getElem?_eq_getElem (l := xs) (i := k) (by omega)
        exact .inr ⟨k, _, q1, zipT_get a2 q3 q2, rfl, q4⟩
  refine ⟨by rw [zipT_len hx hf]; omega, fun d hd => ?_, fun d hd => ?_, fun d hd => ?_, ⟨ks, hkl, hks, fun d hd e he => ?_⟩, ?_, fun d hd e he => ?_, fun i j x y hij hxi hyj => ?_, fun i j x y hij hxi hyj => ?_, snd⟩
  · obtain ⟨j, x, l, f, a, b, c, rfl⟩ := un hd
    show (l.2.map (·.2)).length ≤ m
    rw [List.length_map]
    exact (layl b).1
  · obtain ⟨j, x, l, f, a, b, c, rfl⟩ := un hd
    exact (hsp.ok x.2 (List.mem_map.mpr ⟨x, List.mem_of_getElem? a, rfl⟩)).1
  · obtain ⟨j, x, l, f, a, b, c, rfl⟩ := un hd
    exact (hsp.ok x.2 (List.mem_map.mpr ⟨x, List.mem_of_getElem? a, rfl⟩)).2
  · obtain ⟨j, x, l, f, a, b, c, rfl⟩ := un hd
    obtain ⟨z, hz, rfl⟩ := List.mem_map.mp he
    exact (layl b).2 z hz
  · rw [wnums_zip hx hf, ← wrL_re k1]
    exact g3.nd
  · obtain ⟨i, hi⟩ := List.mem_iff_getElem?.mp hd
    obtain ⟨x, l, f, a, b, c, rfl⟩ := zipT_un hx hf hi
    have he' : e ∈ l.2.map (·.2) := he
    cases hw : e.w
    · obtain ⟨j, hj⟩ := List.mem_iff_getElem?.mp he
      have := snd i _ hi j e hj hw
      show 0 ≤ e.num ∧ e.num ≤ 999999
      cases q : lastW ((dealOf x.2 (l.2.map (·.2)) f).deeds.take j) e.key with
      | some v =>
        rw [q] at this
        obtain ⟨d, hd, g1, g2, g3⟩ := lastW_mem q
        have := wmem b (List.mem_of_mem_take hd) g1
        omega
      | none =>
        rw [q] at this
        rcases this with this | ⟨k, y, q1, q2, q3, q4⟩
        · omega
        · obtain ⟨x2, l2, f2, a2, b2, c2, rfl⟩ := zipT_un hx hf q2
          obtain ⟨d, hd, g1, g2, g3⟩ := lastW_mem q4
          have := wmem b2 hd g1
          omega
    · exact wmem b he' hw
  · obtain ⟨x1, l1, f1, a1, b1, c1, rfl⟩ := zipT_un hx hf hxi
    obtain ⟨x2, l2, f2, a2, b2, c2, rfl⟩ := zipT_un hx hf hyj
    exact hsp.rise i j x1.2 x2.2 hij (by rw [List.getElem?_map, a1]; rfl) (by rw [List.getElem?_map, a2]; rfl)
  · obtain ⟨x1, l1, f1, a1, b1, c1, rfl⟩ := zipT_un hx hf hxi
    obtain ⟨x2, l2, f2, a2, b2, c2, rfl⟩ := zipT_un hx hf hyj
    exact hsp.diff i j x1.2 x2.2 hij (by rw [List.getElem?_map, a1]; rfl) (by rw [List.getElem?_map, a2]; rfl)
theorem resN_node {D : Addr} {acc : List NT} (h : fzAll acc = none) : resN D acc = .nt (.node D .lst acc) := by unfold resN; rw [h]
theorem fz_drs {ds : List (Addr × Dr)} (h : ds ≠ []) : fzAll (ds.map drX) = none := by
  cases ds with
  | nil => exact absurd rfl h
  | cons _ _ => rfl
abbrev tEnv (ns : List Int) (first least most m nk : Int) (s3 : Dr) (n : Int) (z8 : Sl) (a : Addr) (xs : List (Addr × Sp)) (z10 z11 z12 z13 z14 z15 z16 z17 : Sl) : Ep :=
  [.d (.list (ns.map .int)), .d (.int first), .d (.int least), .d (.int most), .d (.int m), .d (.int nk), .lst true (drL s3), .d (.int n), z8, .nt true (.node a .lst (xs.map spT)), z10, z11, z12, z13, z14, z15, z16, z17]
theorem qtale_wp {ns : List Int} {first : Int} {least most nk m : Nat} (hs : ns.length ≤ 1000) (h0 : 0 ≤ first) (h1 : first ≤ 1000) (h2 : 1 ≤ least) (h3 : least ≤ most) (h4 : most ≤ 12) (h5 : 1 ≤ nk) (h6 : nk ≤ 5) (h7 : m ≤ 8) {k : Vl → List Sl → Prop}
    (h : ∀ T n ps, least ≤ n → n ≤ most → TaleOk n m nk T → k (.d (encT T)) ps) :
    runS s_qtale [.d (.list (ns.map .int)), .d (.int first), .d (.int least), .d (.int most), .d (.int m), .d (.int nk)] k := by
  refine ⟨rfl, ?_⟩
  show r_qtale _ [.d (.list (ns.map .int)), .d (.int first), .d (.int least), .d (.int most), .d (.int m), .d (.int nk), .un, .un, .un, .un, .un, .un, .un, .un, .un, .un, .un, .un]
  unfold r_qtale
  walk_at "x"
  refine state_wp (by omega) (by omega) fun s _ => ?_
  walk_at "x"
  refine next_wp (by omega) (by omega) fun sz s1 sz0 sz1 => ?_
  obtain ⟨n, en⟩ : ∃ n : Nat, (least : Int) + sz = n := ⟨((least : Int) + sz).toNat, by omega⟩
  walk_at "x"
  rw [en]
  refine next_wp (by omega) (by omega) fun q s2 q0 q1 => ?_
  walk_at "x"
  refine qkeys_wp (by omega) (by omega) fun ks s3 hk1 hk2 => ?_
  walk_at "x"
  refine state_wp (by omega) (by omega) fun s4 _ => ?_
  walk_at "x"
  refine qspans_wp (by omega) fun a xs s5 hsp => ?_
  walk_at "x"
  have hxl : xs.length = n := by have := hsp.len; rwa [List.length_map] at this
  refine ⟨by omega, by omega, of_ev ?_⟩
  refine lcx_keep (P := fun _ t => ∃ x, t = drX x) (e := ?e) (by omega : (n : Int).toNat < 1000000) rfl (fun i hi => ⟨_, rfl, fun C hC => ?a1⟩) ?a2 fun acc hacc hP D => ?a3
  case a1 =>
    walk_at "x"
    refine state_wp (by omega) (by omega) fun s5 _ => ?_
    walk_at "x"
    intro b
    exact hC _ ⟨(b, s5), rfl⟩
  case a2 => exact fun _ _ => rfl
  case a3 =>
    obtain ⟨ds, rfl⟩ := all_map hP
    have hacc : ds.length = n := by rw [List.length_map] at hacc; omega
    have hds : ds ≠ [] := fun z => by rw [z] at hacc; simp at hacc; omega
    rw [resN_node (fz_drs hds)]
    walk_at "x"
    have hl0 : ∀ (ds : List (Addr × Dr)) (z8 z11 z12 z13 z14 z15 z16 z17 : Sl), lenAt (.pl (.bp 10 [] D)) (tEnv ns first least most m nk s3 n z8 a xs (.nt true (.node D .lst (ds.map drX))) z11 z12 z13 z14 z15 z16 z17) = some ds.length := fun ds z8 z11 z12 z13 z14 z15 z16 z17 => by
      simp only [tEnv, lenAt, na_bp, lk_0, lk_s, getN, if_true, List.length_map]
    have hit : ∀ (ds : List (Addr × Dr)) (z8 z11 z12 z13 z14 z15 z16 z17 : Sl) (i : Nat) x, ds[i]? = some x → DL.itemAt (.pl (.bp 10 [] D)) i (tEnv ns first least most m nk s3 n z8 a xs (.nt true (.node D .lst (ds.map drX))) z11 z12 z13 z14 z15 z16 z17) = some (.al 10 [i] x.1) := fun ds z8 z11 z12 z13 z14 z15 z16 z17 i x hx => by
      have h1 : (ds.map drX)[i]? = some (drX x) := by rw [List.getElem?_map, hx]; rfl
      simp only [tEnv, DL.itemAt, na_bp, lk_0, lk_s, getN, if_true, h1, kd_bp, drX, drT, sk_bp, List.nil_append]
    rw [hl0 ds, hacc]
    refine of_ev ?_
    refine lcx_inv (N := n) (I := fun i acc ε => ∃ (ds : List (Addr × Dr)) (L : Lay) (z8 : Sl), ε = tEnv ns first least most m nk s3 n z8 a xs (.nt true (.node D .lst (ds.map drX))) .un .un .un .un .un .un .un ∧ ds.length = n ∧ acc = L.map layT ∧ L.length = i ∧ LayOk ks m L ∧ (z8 = .lst true (ks.map .str) ∨ z8 = .d (.list (ks.map .str))))
      (by omega) (fun i acc ε hI => ?b1) (fun i acc ε hi hI => ?b2) _ 0 [] _ (by omega) rfl ⟨ds, [], _, rfl, hacc, rfl, rfl, (fun x hx => nomatch hx), .inl rfl⟩ fun acc ε hacc2 hI D2 => ?b3
    case b1 =>
      obtain ⟨ds2, L, z8, rfl, e2, _⟩ := hI
      rw [hl0, e2]
    case b2 =>
      obtain ⟨ds2, L, z8, rfl, e2, rfl, e4, e5, e6⟩ := hI
      obtain ⟨x, ex⟩ : ∃ x, ds2[i]? = some x := ⟨_, List.getElem?_eq_getElem (by omega)⟩
      have h1 : (ds2.map drX)[i]? = some (drX x) := by rw [List.getElem?_map, ex]; rfl
      refine ⟨_, hit ds2 _ _ _ _ _ _ _ _ i x ex, fun C hC => ?_⟩
      unfold tEnv
      rcases e6 with rfl | rfl
      all_goals
        walk_at "x"
        rw [h1]
        walk_at "x"
        refine qlaid_wp (b := x.1) (s := x.2) (by omega) (by omega) (by omega) (by omega) fun b1 es s' he1 he2 => ?_
        walk_at "x"
        rw [h1]
        walk_at "x"
        have ed : (ds2.map drX).set i (.node x.1 .lst [.fz (.int s'.1), .fz (.int s'.2.1), .fz (.int s'.2.2)]) = (ds2.set i (x.1, s')).map drX := by rw [List.map_set]; rfl
        rw [ed]
        refine hC (layT (b1, es)) _ ⟨ds2.set i (x.1, s'), L ++ [(b1, es)], .d (.list (ks.map .str)), rfl, by rw [List.length_set]; exact e2, by rw [List.map_append]; rfl, by rw [List.length_append, e4]; rfl, fun y hy => ?_, .inr rfl⟩
        rcases List.mem_append.mp hy with hy | hy
        · exact e5 y hy
        · rw [List.mem_singleton.mp hy]
          exact ⟨by show es.length ≤ m; omega, fun d hd => (he1 d hd).1⟩
    case b3 =>
      obtain ⟨ds3, L, z8, rfl, e2, rfl, e4, e5, e6⟩ := hI
      have hLn : L ≠ [] := fun z => by rw [z] at e4; simp at e4; omega
      have hfz : fzAll (L.map layT) = none := by
        cases L with
        | nil => exact absurd rfl hLn
        | cons _ _ => rfl
      rw [resN_node hfz]
      unfold tEnv
      walk_at "x"
      have hl1 := hl0 ds3 z8 .un (.nt true (.node D2 .lst (L.map layT))) .un .un .un .un .un
      unfold tEnv at hl1
      rw [hl1, e2]
      refine of_ev ?_
      refine lcx_inv (N := n) (I := fun i acc ε => ∃ (ds : List (Addr × Dr)) (fs : List Bool), ε = tEnv ns first least most m nk s3 n z8 a xs (.nt true (.node D .lst (ds.map drX))) .un (.nt true (.node D2 .lst (L.map layT))) .un .un .un .un .un ∧ ds.length = n ∧ acc = fs.map (fun f => .fz (.bool f)) ∧ fs.length = i)
        (by omega) (fun i acc ε hI => ?c1) (fun i acc ε hi hI => ?c2) _ 0 [] _ (by omega) rfl ⟨ds3, [], rfl, e2, rfl, rfl⟩ fun acc ε hacc3 hI D3 => ?c3
      case c1 =>
        obtain ⟨ds2, fs, rfl, e2, _⟩ := hI
        rw [hl0, e2]
      case c2 =>
        obtain ⟨ds2, fs, rfl, e7, rfl, e8⟩ := hI
        obtain ⟨x, ex⟩ : ∃ x, ds2[i]? = some x := ⟨_, List.getElem?_eq_getElem (by omega)⟩
        have h1 : (ds2.map drX)[i]? = some (drX x) := by rw [List.getElem?_map, ex]; rfl
        refine ⟨_, hit ds2 _ _ _ _ _ _ _ _ i x ex, fun C hC => ?_⟩
        unfold tEnv
        walk_at "x"
        rw [h1]
        walk_at "x"
        refine next_wpN (a := x.1) (s := x.2) (by omega) (by omega) fun f s' f0 f1 => ?_
        walk_at "x"
        rw [h1]
        walk_at "x"
        have ed : (ds2.map drX).set i (.node x.1 .lst [.fz (.int s'.1), .fz (.int s'.2.1), .fz (.int s'.2.2)]) = (ds2.set i (x.1, s')).map drX := by rw [List.map_set]; rfl
        rw [ed]
        refine hC _ _ ⟨ds2.set i (x.1, s'), fs ++ [decide (0 < f)], rfl, by rw [List.length_set]; exact e7, by rw [List.map_append]; rfl, by rw [List.length_append, e8]; rfl⟩
      case c3 =>
        obtain ⟨ds4, fs, rfl, e7, rfl, e8⟩ := hI
        have ef : fs.map (fun f => NT.fz (.bool f)) = (fs.map .bool).map .fz := by rw [List.map_map]; rfl
        rw [ef, resN_fz]
        unfold tEnv
        walk_at "x"
        refine ⟨by decide, ?_⟩
        refine qnumbered_wp (L := L) (a := D2) e5 (by omega) h7 fun L1 s6 g1 g2 g3 => ?_
        walk_at "x"
        refine ⟨by decide, ?_⟩
        have hm1 : ∀ x ∈ L1, x.2.length ≤ 1000 := fun x hx => by have := (g1 x hx).1; omega
        refine qfilled_wp (a := a) (b := D2) (xs := xs) (fs := fs) (L0 := L1) (by omega) (by omega) (by omega) hm1 fun s7 L2 k1 k2 => ?_
        walk_at "x"
        refine ⟨by omega, by omega, of_ev ?_⟩
        have kl := k1.len
        refine for_ix (I := fun j ε => ∃ z11 z16, ε = tEnv ns first least most m nk s7 n z8 a xs (.nt true (.node D .lst (ds4.map drX))) z11 (.nt true (.node D2 .lst (L2.map layT))) .un (.d (.list (fs.map .bool))) (.lst true (((zipT xs L2 fs).take j).map Deal.enc)) z16 .un) _ 0 _ (fun j x hj ε hI B b1 b2 b3 b4 => ?d1) ⟨_, _, rfl⟩ fun ε hI => ?d2
        case d1 =>
          obtain ⟨hj, rfl⟩ := rngD_get hj
          obtain ⟨z11, z16, rfl⟩ := hI
          obtain ⟨y, ey⟩ : ∃ y, xs[j]? = some y := ⟨_, List.getElem?_eq_getElem (by omega)⟩
          obtain ⟨l, el⟩ : ∃ y, L2[j]? = some y := ⟨_, List.getElem?_eq_getElem (by omega)⟩
          obtain ⟨f, ef⟩ : ∃ y, fs[j]? = some y := ⟨_, List.getElem?_eq_getElem (by omega)⟩
          unfold tEnv
          refine ev_of ?_
          rw [ap_nm, Int.zero_add]
          show ev (b_qtale_1 _ (tEnv ns first least most m nk s7 n z8 a xs (.nt true (.node D .lst (ds4.map drX))) (.d (.int (j : Nat))) (.nt true (.node D2 .lst (L2.map layT))) .un (.d (.list (fs.map .bool))) (.lst true (((zipT xs L2 fs).take (0 + j)).map Deal.enc)) z16 .un))
          unfold tEnv
          rw [b_qtale_1_eq]
          walk_at "x"
          refine onO_of (ix_i (by omega)) ?_
          rw [lay_get el]
          walk_at "x"
          rw [lay_get el]
          walk_at "x"
          refine of_ev ?_
          refine lcX_fix (xs := l.2) (it := fun i x => .al 12 [j, i] x.1) (p := fun _ => true) (f := fun x => x.2.enc) (e := fun i x => tEnv ns first least most m nk s7 n z8 a xs (.nt true (.node D .lst (ds4.map drX))) (.d (.int (j : Nat))) (.nt true (.node D2 .lst (L2.map layT))) .un (.d (.list (fs.map .bool))) (.lst true (((zipT xs L2 fs).take (0 + j)).map Deal.enc)) z16 (.al 12 [j, i] x.1)) ?l0 ?l1 ?l2 (fun i x hx C E hC hE => ?l3) (fun _ _ _ => rfl) ?l5
          case l0 =>
            obtain ⟨y, hy, _, e2⟩ := k1.get el
            have := hm1 y (List.mem_of_getElem? hy)
            have := e2.len
            omega
          case l1 =>
            simp only [lenAt, na_bp, lk_0, lk_s, getN, lay_get el, layT, if_true, List.length_map]
          case l2 =>
            intro i x hx
            have h2 : (l.2.map actT)[i]? = some (actT x) := by rw [List.getElem?_map, hx]; rfl
            simp only [DL.itemAt, na_bp, lk_0, lk_s, getN, if_true, lay_get el, layT, h2, kd_bp, actT, sk_bp, List.cons_append, List.nil_append]
          case l3 =>
            have h2 : (l.2.map actT)[i]? = some (actT x) := by rw [List.getElem?_map, hx]; rfl
            walk_at "x"
            rw [lay_get el]
            walk_at "x"
            rw [h2]
            walk_at "x"
            exact hC rfl
          case l5 =>
            intro D4
            have eds : (l.2.filter fun _ => true).map (fun x => x.2.enc) = (l.2.map (·.2)).map Deed.enc := by rw [List.filter_eq_self.mpr fun _ _ => rfl, List.map_map]; rfl
            rw [eds]
            generalize ees : (l.2.map (·.2)).map Deed.enc = es
            walk_at "x"
            refine onO_of (ix_i (by omega)) ?_
            rw [sp_get ey]
            walk_at "x"
            rw [sp_get ey]
            walk_at "x"
            refine onO_of (ix_i (by omega)) ?_
            rw [sp_get ey]
            walk_at "x"
            rw [sp_get ey]
            walk_at "x"
            refine onO_of (ix_i (by omega)) ?_
            rw [sp_get ey]
            walk_at "x"
            rw [sp_get ey]
            walk_at "x"
            refine onO_of (d := .bool f) (by have := bool_at ef; rwa [Int.zero_add] at this) ?_
            walk_at "x"
            refine onO_of (d := .str (fate f)) (by cases f <;> rfl) ?_
            have hz := zipT_get ey el ef
            walk_at "x"
            have hz3 : ((zipT xs L2 fs).take (0 + j)).length < 1000000 := by
              rw [List.length_take]
              have := zipT_len (xs := xs) (L := L2) (fs := fs) (by omega) (by omega)
              omega
            refine ⟨hz3, ?_⟩
            subst ees
            refine b3 _ ⟨.d (.int (j : Nat)), .d (.tuple ((l.2.map (·.2)).map Deed.enc)), ?_⟩
            have es : (zipT xs L2 fs).take (0 + j + 1) = (zipT xs L2 fs).take (0 + j) ++ [dealOf y.2 (l.2.map (·.2)) f] := by
              rw [Nat.zero_add, List.take_add_one, hz]; rfl
            rw [es, List.map_append]
            rfl
        case d2 =>
          obtain ⟨z11, z16, rfl⟩ := hI
          rw [rngD_len]
          unfold tEnv
          walk_at "x"
          have e0 : (zipT xs L2 fs).take (0 + ((n : Nat) : Int).toNat) = zipT xs L2 fs := List.take_of_length_le (by have := zipT_len (xs := xs) (L := L2) (fs := fs) (by omega) (by omega); omega)
          rw [e0]
          exact h (zipT xs L2 fs) n _ (by omega) (by omega) (tale_ok hsp hk2 (by omega) (by omega) (by omega) g1 g3 k1 k2)

end Cl

namespace Cl
open PySem PySem.Spec PyProof.Rows L2 DL
/-! ### histories as data -/
theorem deal_at {T : Tale} {i : Nat} {d : Deal} (h : T[i]? = some d) : atI (T.map Deal.enc) ((i : Nat) : Int) = some d.enc := atI_nat (by rw [List.getElem?_map, h]; rfl)
theorem deed_at {ds : List Deed} {i : Nat} {d : Deed} (h : ds[i]? = some d) : atI (ds.map Deed.enc) ((i : Nat) : Int) = some d.enc := atI_nat (by rw [List.getElem?_map, h]; rfl)
theorem fate_e1 (b : Bool) : (fate b == Str.ofString "kept") = b := by cases b <;> decide +kernel
theorem fate_e2 (b : Bool) : (fate b == Str.ofString "dropped") = !b := by cases b <;> decide +kernel
theorem take_cut {ds : List Deed} {p : Nat} (hp : p ≤ ds.length) : DL.cutD (ds.map Deed.enc) none (some ((p : Nat) : Int)) = (ds.take p).map Deed.enc := by
  unfold DL.cutD
  rw [HT.sIx_none, HT.sIx_nat, List.length_map, Nat.sub_zero, List.drop_zero, Nat.min_eq_left hp, List.map_take]
theorem fine_deed (d : Deed) : fine 1 d.enc := fine_tuple (n := 0) fun x hx => by
  rcases List.mem_cons.mp hx with rfl | hx
  · exact fine_str _ _
  · rcases List.mem_cons.mp hx with rfl | hx
    · exact fine_str _ _
    · rw [List.mem_singleton.mp hx]; exact fine_int _ _
theorem fine_deeds (ds : List Deed) : fine 2 (.tuple (ds.map Deed.enc)) := fine_tuple (n := 1) fun x hx => by
  obtain ⟨d, _, rfl⟩ := List.mem_map.mp hx
  exact fine_deed d
theorem sh_deeds (ds : List Deed) : shp (.tuple (ds.map Deed.enc)) = true := fine_sh (fine_deeds ds) (by decide)
theorem fine_deal (d : Deal) : fine 3 d.enc := fine_tuple (n := 2) fun x hx => by
  rcases List.mem_cons.mp hx with rfl | hx
  · exact fine_int _ _
  · rcases List.mem_cons.mp hx with rfl | hx
    · exact fine_int _ _
    · rcases List.mem_cons.mp hx with rfl | hx
      · exact fine_int _ _
      · rcases List.mem_cons.mp hx with rfl | hx
        · exact fine_deeds _
        · rw [List.mem_singleton.mp hx]; exact fine_str _ _
theorem fine_tale (T : Tale) : fine 4 (encT T) := fine_tuple (n := 3) fun x hx => by
  obtain ⟨d, _, rfl⟩ := List.mem_map.mp hx
  exact fine_deal d
theorem sh_tale (T : Tale) : shp (encT T) = true := fine_sh (fine_tale T) (by decide)
theorem eqv_fine {n : Nat} {x : PyData} (h : fine n x) : PyData.eqv x x = true := PySem.SeqAt.eqv_refl_plain x h.1
theorem eqv_tale (T : Tale) : PyData.eqv (encT T) (encT T) = true := eqv_fine (fine_tale T)
theorem sh_taleT (T : Tale) : shp (.tuple (T.map Deal.enc)) = true := sh_tale T
theorem eqv_taleT (T : Tale) : PyData.eqv (.tuple (T.map Deal.enc)) (.tuple (T.map Deal.enc)) = true := eqv_tale T

end Cl

namespace Cl
open PySem PySem.Spec PyProof.Rows L2 DL
/-! ### k11: what a deal is, over data -/
def letters : Str := Str.ofString "abcdefghijklmnopqrstuvwxyz"
def keyB : PyData → Bool
  | .str s => decide (1 ≤ (s.length : Int)) && decide ((s.length : Int) ≤ 4) && s.cps.toList.all fun c => decide (c ∈ letters.cps.toList)
  | _ => false
def wholeB : PyData → Bool
  | .int _ => true
  | _ => false
def numB (x : PyData) (lo hi : Int) : Bool := match x with
  | .int i => decide (lo ≤ i) && decide (i ≤ hi)
  | _ => false
def sorts : List Str := [Str.ofString "read", Str.ofString "write"]
def fates : List Str := [Str.ofString "kept", Str.ofString "dropped"]
def deedB : PyData → Bool
  | .tuple [a, b, c] => inD a (sorts.map .str) && (keyB b && numB c (if PyData.eqv a (.str (Str.ofString "write")) then 1 else 0) 999999)
  | _ => false
def actsB : PyData → Bool
  | .tuple es => decide ((es.length : Int) ≤ 8) && es.all deedB
  | _ => false
def spanB (f l : PyData) : Bool := numB f 0 9999 && (numB l 0 9999 && match f, l with
  | .int i, .int j => decide (i < j)
  | _, _ => false)
def dealB : PyData → Bool
  | .tuple [h, f, l, ds, k] => inD k (fates.map .str) && (numB h 0 4 && (spanB f l && actsB ds))
  | _ => false
def plainZ (x : PyData) : Prop := shp x = true ∨ ∃ kvs, x = .dict kvs
def okS (x : PyData) : Prop := ∀ s, x = .str s → s.length ≤ 1000
def okDeed (x : PyData) : Prop := ∀ a b c, x = .tuple [a, b, c] → plainZ a ∧ okS b
def okDeal (x : PyData) : Prop := ∀ h f l ds k, x = .tuple [h, f, l, ds, k] → plainZ k ∧ ∀ es, ds = .tuple es → ∀ e ∈ es, okDeed e
theorem inD_strs {x : PyData} {ss : List Str} (h : inD x (ss.map .str) = true) : ∃ s ∈ ss, x = .str s := by
  unfold inD at h
  rw [List.any_map, List.any_eq_true] at h
  obtain ⟨s, hs, e⟩ := h
  have e : PyData.eqv (.str s) x = true := e
  cases x with
  | str t =>
    rw [eqv_ss, beq_iff_eq] at e
    exact ⟨s, hs, by rw [e]⟩
  | _ => simp [PyData.eqv] at e
theorem numB_true {x : PyData} {lo hi : Int} (h : numB x lo hi = true) : ∃ i, x = .int i ∧ lo ≤ i ∧ i ≤ hi := by
  cases x with
  | int i =>
    have h : (decide (lo ≤ i) && decide (i ≤ hi)) = true := h
    rw [Bool.and_eq_true] at h
    exact ⟨i, rfl, of_decide_eq_true h.1, of_decide_eq_true h.2⟩
  | _ => cases h
local macro_rules | `(tactic| walk_at "x") => `(tactic| (refine ev_of ?_; simp only [ap_seq, ap_next, ap_brk, ap_cnt, ap_expr, ap_ret, ap_retN, ap_if, ap_asg, ap_set, ap_seti, ap_par, ap_dput, ap_forL, ap_forT, ap_forR, ap_while, ap_nm, ap_gtp, ap_gnil, ap_gcons, ap_var, ap_c, ap_op, ap_un, ap_test, ap_and, ap_or, ap_not, ap_yes, ap_andV, ap_orV, ap_notV, ap_ifE, ap_anil, ap_acons, ap_fnil, ap_fcons, ap_tup, ap_lst, ap_dct, ap_cb, ap_isi, ap_sl, ap_nopart, ap_part, ap_lstrg, ap_mut, ap_call, ap_callS, ap_din, ap_lcL, ap_lcT, ap_lcR, ap_lcB, ap_forB, ap_lcnil, ap_lccons, wp_nil, wp_cons, rs_nil, rs_cons, kp_d, kp_un, eq_self,
  ev_ev, kd_i, kd_s, if_true, if_false, Bool.false_eq_true, Bool.not_true, Bool.not_false, List.isEmpty_nil, List.isEmpty_cons, ev_and, ev_t, ev_f, ev_s, k_I0, k_I, k_EqL0, k_EqT0, k_EqLT, k_EqTL, k_EqI, k_EqB, k_EqS, k_EqN, k_EqLc, k_EqTc, id_eq, k_IsN, k_InL, k_InT, k_Cat, k_IxL, k_IxT, k_LenL, k_LenT, k_ListL, k_ListT, k_TupleL, k_TupleT, k_I2, k_Abs, k_Neg, k_App, k_PopAt, lk_0, lk_s, pt_0, pt_s, peekAll, sh_int, sh_none, sh_bool, sh_nil, sh_nilT, sh_ints, eqv_int, eqv_ss, eqv_bool, eqv_nil, at0, at1, at2, at3, ixN1, List.length_cons, List.length_nil, List.set_cons_succ, List.set_cons_zero, true_and, and_true, List.map_cons, List.map_nil, List.nil_append, List.cons_append, flatD, List.length_map, flat_ints, in_ints, ap_rev, ap_chain, ap_lcS, k_IsB, k_IntI, k_IntB, k_CatT, k_Rep, k_InS, k_LenS,
  ap_revA, ap_slA, ap_joinC, k_SlL, k_SlT, k_SlS, k_CatS, k_RepS, k_AxL, k_AxT, k_AxS, k_StrI, ap_forA, ap_lcA, it_L, it_T, it_S, k_AdI, k_AdL, k_AdT, k_AdS, k_MuI, k_MuL, k_MuS, Nat.zero_le, kit_tuple, kit_list, kit_str, kit_int, kit_bool, kit_dict, isN_none, isN_bool, isN_int, isN_str, isN_list, isN_tuple, isN_dict, isTup_none, isTup_bool, isTup_int, isTup_str, isTup_list, isTup_tuple, isTup_dict, isLst_none, isLst_bool, isLst_int, isLst_str, isLst_list, isLst_tuple, isLst_dict, isStr_none, isStr_bool, isStr_int, isStr_str, isStr_list, isStr_tuple, isStr_dict, isInt_none, isInt_bool, isInt_int, isInt_str, isInt_list, isInt_tuple, isInt_dict, isBool_none, isBool_bool, isBool_int, isBool_str, isBool_list, isBool_tuple, isBool_dict, isDict_none, isDict_bool, isDict_int, isDict_str, isDict_list, isDict_tuple, isDict_dict, dec_tt, dec_ft, dec_tf, dec_ff, dec_T, dec_F, ap_mF, ap_callM, ap_callX, ap_callXn, ap_raise, ap_exprX, ap_retX, ap_setX, ap_try, ap_isx, ap_isNx, nx_ex, nx_new, nx_d, fx_ex, fx_d, fx_new, fx_bor, DL.pa_nil, DL.pa_cons, bk_nil, bk_cons, bk1, ap_meth, ap_meth0, ap_gtpAt, ap_gtpAl, tyM_L, tyM_S, k_InAL, k_InAT, k_SortD, k_Count, sh_str, sh_strs, sh_bools, eqv_strs, eqv_bools, eqv_ints, List.filterMap_cons, List.filterMap_nil, List.nodup_nil, Nat.reduceAdd, Nat.reduceLeDiff, k_EqStrs, k_EqBools, k_EqInts, ap_forI, ap_lcI, ap_enu, ap_enu1, nd1, ap_ixA, ap_ixP, ap_ixD, ap_ixW, ap_ixB, ap_lenA, ap_lenP, ap_lenD, ap_lenW, ap_lenB, ixZ, ixT, ixL, List.getElem?_cons_zero, List.getElem?_cons_succ, ap_stX, ap_stb, ap_stp, ap_appN, ap_setN, ap_forX, ap_lcXA, ap_lcXR, ap_dgx, ap_dlen, ap_eq0, ap_dpop, ap_orL, ap_andL, getN, setN, fzAll, flatN, peekN, truL, resN_fz, pk_d, pk_new, pk_bor, pk_bp, pk_nt, fz_d, fz_dk, fz_new, fz_bor, fz_bp, fz_nt, so_new, so_dk, so_v, so_nt, so_bp, so_ex, so_d, so_bor, ub_d, ub_new, ub_dk, ub_nt, ub_ex, ub_bor, ub_bp, na_bp, na_d, na_new, na_bor, na_nt, an_nt, an_d, an_bor, pn_bp, ad_bp, kd_bp, sk_d, sk_bp, sc_bp, sc_d, sc_new, sc_bor, ps_d, ps_ex, ps_bor, ps_bp, sl_d, sl_ex, sl_bor, sl_bp, ap_dsortI, ap_callW, ap_cW, ap_appu, an_ev, Option.any_some, at4, fate_e1, fate_e2, Deed.enc, Deal.enc, encT, srt_e1, srt_e2, Option.map_some, Option.map_none, Option.isSome_some, Option.isSome_none, encO, ap_augL, ap_augD, ap_nil3, k_MuT, xi_IsYes_NoHistory, xi_NoDeal_NoHistory, xi_NoHands_NoHistory, xi_NoHistory_NoHistory, xi_NoKind_NoHistory, xi_NoLog_NoHistory, xi_NoOrders_NoHistory, xi_NoStore_NoHistory, xi_NoText_NoHistory, xi_NotSound_NoHistory, xi_TooMany_NoHistory, xi_ValueError_NoHistory, xc_CourtError_NoHistory, k_Index]))
local macro_rules | `(tactic| walk_at "s") => `(tactic| (repeat with_reducible refine And.intro (by first | assumption | omega | exact True.intro | rfl | (simp; done) | (simp; omega) | decide) ?_))

theorem sign1_c (c : Nat) : sign1 ⟨#[c]⟩ = some c := rfl
theorem is_whole_wp {x : PyData} {k : Vl → List Sl → Prop} (h : ∀ ps, k (.d (.bool (wholeB x))) ps) : runS s_is_whole [.d x] k := by
  refine ⟨rfl, ?_⟩
  show r_is_whole _ [.d x]
  unfold r_is_whole
  cases x <;> (walk_at "x"; exact h _)
theorem is_number_wp {x : PyData} {lo hi : Int} {k : Vl → List Sl → Prop} (h : ∀ ps, k (.d (.bool (numB x lo hi))) ps) : runS s_is_number [.d x, .d (.int lo), .d (.int hi)] k := by
  refine ⟨rfl, ?_⟩
  show r_is_number _ [.d x, .d (.int lo), .d (.int hi)]
  unfold r_is_number
  walk_at "x"
  refine is_whole_wp fun _ => ?_
  cases x with
  | int i =>
    unfold wholeB
    have h : ∀ ps, k (.d (.bool (decide (lo ≤ i) && decide (i ≤ hi)))) ps := h
    walk_at "x"
    refine onB_dec (fun q => ?_) fun q => ?_
    · rw [decide_eq_true q] at h
      walk_at "x"
      exact h _
    · rw [decide_eq_false q] at h
      exact h _
  | _ => unfold wholeB; walk_at "x"; exact h _
theorem is_key_wp {x : PyData} (hx : okS x) {k : Vl → List Sl → Prop} (h : ∀ ps, k (.d (.bool (keyB x))) ps) : runS s_is_key [.d x] k := by
  refine ⟨rfl, ?_⟩
  show r_is_key _ [.d x, .un]
  unfold r_is_key
  cases x with
  | str s =>
    have hz := hx s rfl
    walk_at "x"
    refine ⟨by omega, onB_dec (fun h1 => ?_) fun h1 => ?_⟩
    · walk_at "x"
      refine onB_dec (fun h2 => ?_) fun h2 => ?_
      · walk_at "x"
        have hl : s.cps.toList.length ≤ 1000000 := by rw [Array.length_toList]; have : s.length = s.cps.size := rfl; omega
        refine of_ev (lcX_ds1 (enc := fun c : Nat => PyData.str ⟨#[c]⟩) (xs := s.cps.toList) (f := fun c => .bool (decide (c ∈ letters.cps.toList))) (e := fun c => [.d (.str s), .d (.str ⟨#[c]⟩)]) hl (fun c hc B hB => ?_) (fun _ _ => rfl) fun D => ?_)
        · walk_at "x"
          refine onO_of (sign1_c c) ?_
          exact hB
        · rw [resN_fz]
          walk_at "x"
          refine ⟨s.cps.toList.map fun c => decide (c ∈ letters.cps.toList), ?_, ?_⟩
          · rw [List.map_map]; rfl
          · have e : keyB (.str s) = (s.cps.toList.map fun c => decide (c ∈ letters.cps.toList)).all id := by
              simp only [keyB, decide_eq_true h1, decide_eq_true h2, Bool.true_and, List.all_map]
              rfl
            rw [← e]
            exact h _
      · have e : keyB (.str s) = false := by simp only [keyB, decide_eq_false h2, Bool.and_false, Bool.false_and]
        rw [e] at h
        exact h _
    · have e : keyB (.str s) = false := by simp only [keyB, decide_eq_false h1, Bool.false_and]
      rw [e] at h
      exact h _
  | _ => walk_at "x"; exact h _
theorem inD2 {x : PyData} {a b : Str} (h : inD x ([a, b].map .str) = true) : ∃ c : Bool, x = .str (if c then b else a) := by
  obtain ⟨s, hs, rfl⟩ := inD_strs h
  rcases List.mem_cons.mp hs with rfl | hs
  · exact ⟨false, rfl⟩
  · rw [List.mem_singleton.mp hs]; exact ⟨true, rfl⟩
theorem is_deed_wp {x : PyData} (hx : okDeed x) (hl : ∀ ys, x = .tuple ys → ys.length ≤ 1000) {k : Vl → List Sl → Prop} (h : ∀ ps, k (.d (.bool (deedB x))) ps) : runS s_is_deed [.d x] k := by
  refine ⟨rfl, ?_⟩
  show r_is_deed _ [.d x]
  unfold r_is_deed
  cases x with
  | tuple ys =>
    have hz := hl ys rfl
    walk_at "x"
    refine onB_neg (onB_beq (fun h3 => ?_) fun h3 => ?_)
    · obtain ⟨a, b, c, rfl⟩ : ∃ a b c, ys = [a, b, c] := by
        match ys, h3 with
        | [a, b, c], _ => exact ⟨a, b, c, rfl⟩
        | [], h => simp at h
        | [_], h => simp at h
        | [_, _], h => simp at h
        | _ :: _ :: _ :: _ :: _, h => simp at h; omega
      obtain ⟨ha, hb⟩ := hx a b c rfl
      walk_at "x"
      refine k_InZ (ss := sorts) ha ?_
      show onB (!inD a (sorts.map .str)) _ _
      have h : ∀ ps, k (.d (.bool (inD a (sorts.map .str) && (keyB b && numB c (if PyData.eqv a (.str (Str.ofString "write")) then 1 else 0) 999999)))) ps := h
      refine onB_neg (onB_case (fun q => ?_) fun q => ?_)
      · rw [q, Bool.true_and] at h
        walk_at "x"
        refine is_key_wp hb fun _ => ?_
        walk_at "x"
        refine onB_neg (onB_case (fun q2 => ?_) fun q2 => ?_)
        · rw [q2, Bool.true_and] at h
          obtain ⟨w, rfl⟩ := inD2 q
          walk_at "x"
          rw [eqv_ss] at h
          refine is_number_wp fun _ => ?_
          walk_at "x"
          exact h _
        · rw [q2, Bool.false_and] at h
          walk_at "x"
          exact h _
      · rw [q, Bool.false_and] at h
        walk_at "x"
        exact h _
    · have e : deedB (.tuple ys) = false := by
        match ys, h3 with
        | [a, b, c], h3 => exact absurd rfl h3
        | [], _ => rfl
        | [_], _ => rfl
        | [_, _], _ => rfl
        | _ :: _ :: _ :: _ :: _, _ => rfl
      rw [e] at h
      walk_at "x"
      exact h _
  | _ => walk_at "x"; exact h _
theorem spanB_eq {f l : PyData} : spanB f l = (numB f 0 9999 && (numB l 0 9999 && match f, l with
  | .int i, .int j => decide (i < j)
  | _, _ => false)) := rfl
theorem is_deal_wp {x : PyData} (hx : okDeal x) (hl : ∀ ys, x = .tuple ys → ys.length ≤ 1000 ∧ ∀ es, .tuple es ∈ ys → es.length ≤ 1000 ∧ ∀ es', .tuple es' ∈ es → es'.length ≤ 1000) {k : Vl → List Sl → Prop} (h : ∀ ps, k (.d (.bool (dealB x))) ps) : runS s_is_deal [.d x] k := by
  refine ⟨rfl, ?_⟩
  show r_is_deal _ [.d x, .un]
  unfold r_is_deal
  cases x with
  | tuple ys =>
    obtain ⟨hz, hz2⟩ := hl ys rfl
    walk_at "x"
    refine onB_neg (onB_beq (fun h3 => ?_) fun h3 => ?_)
    · obtain ⟨a, f, l, ds, g, rfl⟩ : ∃ a b c d e, ys = [a, b, c, d, e] := by
        match ys, h3 with
        | [a, b, c, d, e], _ => exact ⟨a, b, c, d, e, rfl⟩
        | [], h => simp at h
        | [_], h => simp at h
        | [_, _], h => simp at h
        | [_, _, _], h => simp at h
        | [_, _, _, _], h => simp at h
        | _ :: _ :: _ :: _ :: _ :: _ :: _, h => simp at h; omega
      obtain ⟨hg, hes⟩ := hx a f l ds g rfl
      have h : ∀ ps, k (.d (.bool (inD g (fates.map .str) && (numB a 0 4 && (spanB f l && actsB ds))))) ps := h
      walk_at "x"
      refine k_InZ (ss := fates) hg ?_
      show onB (!inD g (fates.map .str)) _ _
      refine onB_neg (onB_case (fun q => ?_) fun q => ?_)
      · rw [q, Bool.true_and] at h
        walk_at "x"
        refine is_number_wp fun _ => ?_
        walk_at "x"
        refine onB_neg (onB_case (fun q1 => ?_) fun q1 => ?_)
        · rw [q1, Bool.true_and] at h
          cases ds with
          | tuple es =>
            obtain ⟨hez, hez2⟩ := hz2 es (by simp)
            walk_at "x"
            have h : ∀ ps, k (.d (.bool (spanB f l && (decide ((es.length : Int) ≤ 8) && es.all deedB)))) ps := h
            refine onB_dec (fun q8 => ?_) fun q8 => ?_
            · rw [decide_eq_false (show ¬ (es.length : Int) ≤ 8 by omega), Bool.false_and, Bool.and_false] at h
              walk_at "x"
              exact h _
            · rw [decide_eq_true (show (es.length : Int) ≤ 8 by omega), Bool.true_and, spanB_eq] at h
              walk_at "x"
              refine is_number_wp fun _ => ?_
              walk_at "x"
              refine onB_neg (onB_case (fun qf => ?_) fun qf => ?_)
              · rw [qf, Bool.true_and] at h
                walk_at "x"
                refine is_number_wp fun _ => ?_
                walk_at "x"
                refine onB_neg (onB_case (fun ql => ?_) fun ql => ?_)
                · rw [ql, Bool.true_and] at h
                  obtain ⟨i, rfl, _, _⟩ := numB_true qf
                  obtain ⟨j, rfl, _, _⟩ := numB_true ql
                  walk_at "x"
                  refine onB_dec (fun qi => ?_) fun qi => ?_
                  · have h : ∀ ps, k (.d (.bool (decide (i < j) && es.all deedB))) ps := h
                    rw [decide_eq_false (show ¬ i < j by omega), Bool.false_and] at h
                    walk_at "x"
                    exact h _
                  · have h : ∀ ps, k (.d (.bool (decide (i < j) && es.all deedB))) ps := h
                    rw [decide_eq_true (show i < j by omega), Bool.true_and] at h
                    walk_at "x"
                    have em : es = es.map id := (List.map_id _).symm
                    rw [show Src.ds es = Src.ds (es.map id) by rw [← em]]
                    refine of_ev (lcX_ds1 (enc := id) (xs := es) (f := fun e => .bool (deedB e)) (e := fun e => [_, .d e]) (by omega) (fun e he B hB => ?_) (fun _ _ => rfl) fun D => ?_)
                    · walk_at "x"
                      exact is_deed_wp (hes es rfl e he) (fun ys ey => hez2 ys (ey ▸ he)) fun _ => hB
                    · rw [resN_fz]
                      walk_at "x"
                      refine ⟨es.map deedB, by rw [List.map_map]; rfl, ?_⟩
                      rw [List.all_map]
                      exact h _
                · rw [ql, Bool.false_and, Bool.false_and] at h
                  walk_at "x"
                  exact h _
              · rw [qf, Bool.false_and, Bool.false_and] at h
                walk_at "x"
                exact h _
          | _ => walk_at "x"; rw [show actsB _ = false from rfl, Bool.and_false] at h; exact h _
        · rw [q1, Bool.false_and] at h
          walk_at "x"
          exact h _
      · rw [q, Bool.false_and] at h
        walk_at "x"
        exact h _
    · have e : dealB (.tuple ys) = false := by
        match ys, h3 with
        | [a, b, c, d, e], h3 => exact absurd rfl h3
        | [], _ => rfl
        | [_], _ => rfl
        | [_, _], _ => rfl
        | [_, _, _], _ => rfl
        | [_, _, _, _], _ => rfl
        | _ :: _ :: _ :: _ :: _ :: _ :: _, _ => rfl
      rw [e] at h
      walk_at "x"
      exact h _
  | _ => walk_at "x"; exact h _

end Cl

namespace Cl
open PySem PySem.Spec PyProof.Rows L2 DL
/-! ### k11: what a history is -/
def lensD (x : PyData) : Prop := ∀ ys, x = .tuple ys → ys.length ≤ 1000 ∧ ∀ es, .tuple es ∈ ys → es.length ≤ 1000 ∧ ∀ es', .tuple es' ∈ es → es'.length ≤ 1000
def okHist (x : PyData) : Prop := ∀ xs, x = .tuple xs → xs.length ≤ 1000 ∧ ∀ d ∈ xs, okDeal d ∧ lensD d
def hist0 : PyData → Bool
  | .tuple xs => decide ((xs.length : Int) ≤ 12) && xs.all dealB
  | _ => false
def moms (T : Tale) : List Int := T.flatMap fun d => [d.first, d.last]
def kysL (T : Tale) : List Str := T.flatMap fun d => d.deeds.map (·.key)
def unlikeB {α : Type} [DecidableEq α] (l : List α) : Bool := (addAll [] l).length == l.length
def clash (d e : Deal) : Bool := decide (e.first < d.first) || (d.hand == e.hand && decide (e.first < d.last))
def goesB (T : Tale) : Bool := (List.range' 0 T.length).all fun j => match T[j]? with
  | some e => (T.take j).all fun d => !clash d e
  | none => true
def histB (T : Tale) : Bool := unlikeB (moms T) && (unlikeB (wnums T) && (decide (((addAll [] (kysL T)).length : Int) ≤ 5) && goesB T))
def histOf (x : PyData) (b : Bool) : Prop := (hist0 x = false ∧ b = false) ∨ ∃ T : Tale, x = encT T ∧ hist0 x = true ∧ b = histB T
theorem deed_of {x : PyData} (h : deedB x = true) : ∃ d : Deed, x = d.enc := by
  match x, h with
  | .tuple [a, b, c], h =>
    have h : (inD a (sorts.map .str) && (keyB b && numB c (if PyData.eqv a (.str (Str.ofString "write")) then 1 else 0) 999999)) = true := h
    simp only [Bool.and_eq_true] at h
    obtain ⟨w, rfl⟩ := inD2 h.1
    obtain ⟨i, rfl, _, _⟩ := numB_true h.2.2
    cases b with
    | str s => exact ⟨⟨w, s, i⟩, by cases w <;> rfl⟩
    | _ => exact absurd h.2.1 (by simp [keyB])
theorem all_of {α : Type} {p : PyData → Bool} {f : α → PyData} (hp : ∀ x, p x = true → ∃ a, x = f a) : ∀ {xs : List PyData}, xs.all p = true → ∃ as : List α, xs = as.map f
  | [], _ => ⟨[], rfl⟩
  | x :: xs, h => by
    rw [List.all_cons, Bool.and_eq_true] at h
    obtain ⟨a, rfl⟩ := hp x h.1
    obtain ⟨as, rfl⟩ := all_of hp h.2
    exact ⟨a :: as, rfl⟩
theorem deal_of {x : PyData} (h : dealB x = true) : ∃ d : Deal, x = d.enc ∧ d.deeds.length ≤ 8 := by
  match x, h with
  | .tuple [a, f, l, ds, g], h =>
    have h : (inD g (fates.map .str) && (numB a 0 4 && (spanB f l && actsB ds))) = true := h
    simp only [Bool.and_eq_true, spanB_eq] at h
    obtain ⟨h1, h2, ⟨h3, h4, _⟩, h5⟩ := h
    obtain ⟨k, rfl⟩ := inD2 h1
    obtain ⟨i, rfl, _, _⟩ := numB_true h2
    obtain ⟨u, rfl, _, _⟩ := numB_true h3
    obtain ⟨v, rfl, _, _⟩ := numB_true h4
    cases ds with
    | tuple es =>
      have h5 : (decide ((es.length : Int) ≤ 8) && es.all deedB) = true := h5
      rw [Bool.and_eq_true] at h5
      obtain ⟨as, rfl⟩ := all_of (fun x hx => deed_of hx) h5.2
      have := of_decide_eq_true h5.1
      rw [List.length_map] at this
      exact ⟨⟨i, u, v, as, !k⟩, by cases k <;> rfl, by show as.length ≤ 8; omega⟩
    | _ => exact absurd h5 (by simp [actsB])
theorem tale_of : ∀ {xs : List PyData}, xs.all dealB = true → ∃ T : Tale, xs = T.map Deal.enc ∧ ∀ d ∈ T, d.deeds.length ≤ 8
  | [], _ => ⟨[], rfl, fun _ h => nomatch h⟩
  | x :: xs, h => by
    rw [List.all_cons, Bool.and_eq_true] at h
    obtain ⟨d, rfl, hd⟩ := deal_of h.1
    obtain ⟨T, rfl, hT⟩ := tale_of h.2
    exact ⟨d :: T, rfl, fun e he => by
      rcases List.mem_cons.mp he with rfl | he
      · exact hd
      · exact hT e he⟩
theorem hist0_t {xs : List PyData} : hist0 (.tuple xs) = (decide ((xs.length : Int) ≤ 12) && xs.all dealB) := rfl
theorem srt_inj {a b : Bool} (h : srt a = srt b) : a = b := by cases a <;> cases b <;> first | rfl | exact absurd h (by decide +kernel)
theorem fate_inj {a b : Bool} (h : fate a = fate b) : a = b := by cases a <;> cases b <;> first | rfl | exact absurd h (by decide +kernel)
theorem deed_inj {a b : Deed} (h : a.enc = b.enc) : a = b := by
  obtain ⟨a1, a2, a3⟩ := a
  obtain ⟨b1, b2, b3⟩ := b
  unfold Deed.enc at h
  simp only [PyData.tuple.injEq, List.cons.injEq, PyData.str.injEq, PyData.int.injEq, and_true] at h
  rw [srt_inj h.1, h.2.1, h.2.2]
theorem deal_inj {a b : Deal} (h : a.enc = b.enc) : a = b := by
  obtain ⟨a1, a2, a3, a4, a5⟩ := a
  obtain ⟨b1, b2, b3, b4, b5⟩ := b
  unfold Deal.enc at h
  simp only [PyData.tuple.injEq, List.cons.injEq, PyData.str.injEq, PyData.int.injEq, and_true] at h
  rw [h.1, h.2.1, h.2.2.1, (List.map_inj_right fun a b e => deed_inj e).mp h.2.2.2.1, fate_inj h.2.2.2.2]
theorem encT_inj {T T' : Tale} (h : encT T = encT T') : T = T' := by
  unfold encT at h
  rw [PyData.tuple.injEq] at h
  exact (List.map_inj_right fun a b e => deal_inj e).mp h
theorem k_LSi {ns : List Int} {B : Vl → Prop} (hl : ns.length + 1 < PySem.scanBound) (h : B (.d (.int ((addAll [] ns).length : Nat)))) : kLS (.list (ns.map .int)) B := .inl ⟨ns, rfl, hl, h⟩
theorem k_LSs {ns : List Str} {B : Vl → Prop} (hl : ns.length + 1 < PySem.scanBound) (h : B (.d (.int ((addAll [] ns).length : Nat)))) : kLS (.list (ns.map .str)) B := .inr ⟨ns, rfl, hl, h⟩
local macro_rules | `(tactic| walk_at "x") => `(tactic| (refine ev_of ?_; simp only [ap_seq, ap_next, ap_brk, ap_cnt, ap_expr, ap_ret, ap_retN, ap_if, ap_asg, ap_set, ap_seti, ap_par, ap_dput, ap_forL, ap_forT, ap_forR, ap_while, ap_nm, ap_gtp, ap_gnil, ap_gcons, ap_var, ap_c, ap_op, ap_un, ap_test, ap_and, ap_or, ap_not, ap_yes, ap_andV, ap_orV, ap_notV, ap_ifE, ap_anil, ap_acons, ap_fnil, ap_fcons, ap_tup, ap_lst, ap_dct, ap_cb, ap_isi, ap_sl, ap_nopart, ap_part, ap_lstrg, ap_mut, ap_call, ap_callS, ap_din, ap_lcL, ap_lcT, ap_lcR, ap_lcB, ap_forB, ap_lcnil, ap_lccons, wp_nil, wp_cons, rs_nil, rs_cons, kp_d, kp_un, eq_self,
  ev_ev, kd_i, kd_s, if_true, if_false, Bool.false_eq_true, Bool.not_true, Bool.not_false, List.isEmpty_nil, List.isEmpty_cons, ev_and, ev_t, ev_f, ev_s, k_I0, k_I, k_EqL0, k_EqT0, k_EqLT, k_EqTL, k_EqI, k_EqB, k_EqS, k_EqN, k_EqLc, k_EqTc, id_eq, k_IsN, k_InL, k_InT, k_Cat, k_IxL, k_IxT, k_LenL, k_LenT, k_ListL, k_ListT, k_TupleL, k_TupleT, k_I2, k_Abs, k_Neg, k_App, k_PopAt, lk_0, lk_s, pt_0, pt_s, peekAll, sh_int, sh_none, sh_bool, sh_nil, sh_nilT, sh_ints, eqv_int, eqv_ss, eqv_bool, eqv_nil, at0, at1, at2, at3, ixN1, List.length_cons, List.length_nil, List.set_cons_succ, List.set_cons_zero, true_and, and_true, List.map_cons, List.map_nil, List.nil_append, List.cons_append, flatD, List.length_map, flat_ints, in_ints, ap_rev, ap_chain, ap_lcS, k_IsB, k_IntI, k_IntB, k_CatT, k_Rep, k_InS, k_LenS,
  ap_revA, ap_slA, ap_joinC, k_SlL, k_SlT, k_SlS, k_CatS, k_RepS, k_AxL, k_AxT, k_AxS, k_StrI, ap_forA, ap_lcA, it_L, it_T, it_S, k_AdI, k_AdL, k_AdT, k_AdS, k_MuI, k_MuL, k_MuS, Nat.zero_le, kit_tuple, kit_list, kit_str, kit_int, kit_bool, kit_dict, isN_none, isN_bool, isN_int, isN_str, isN_list, isN_tuple, isN_dict, isTup_none, isTup_bool, isTup_int, isTup_str, isTup_list, isTup_tuple, isTup_dict, isLst_none, isLst_bool, isLst_int, isLst_str, isLst_list, isLst_tuple, isLst_dict, isStr_none, isStr_bool, isStr_int, isStr_str, isStr_list, isStr_tuple, isStr_dict, isInt_none, isInt_bool, isInt_int, isInt_str, isInt_list, isInt_tuple, isInt_dict, isBool_none, isBool_bool, isBool_int, isBool_str, isBool_list, isBool_tuple, isBool_dict, isDict_none, isDict_bool, isDict_int, isDict_str, isDict_list, isDict_tuple, isDict_dict, dec_tt, dec_ft, dec_tf, dec_ff, dec_T, dec_F, ap_mF, ap_callM, ap_callX, ap_callXn, ap_raise, ap_exprX, ap_retX, ap_setX, ap_try, ap_isx, ap_isNx, nx_ex, nx_new, nx_d, fx_ex, fx_d, fx_new, fx_bor, DL.pa_nil, DL.pa_cons, bk_nil, bk_cons, bk1, ap_meth, ap_meth0, ap_gtpAt, ap_gtpAl, tyM_L, tyM_S, k_InAL, k_InAT, k_SortD, k_Count, sh_str, sh_strs, sh_bools, eqv_strs, eqv_bools, eqv_ints, List.filterMap_cons, List.filterMap_nil, List.nodup_nil, Nat.reduceAdd, Nat.reduceLeDiff, k_EqStrs, k_EqBools, k_EqInts, ap_forI, ap_lcI, ap_enu, ap_enu1, nd1, ap_ixA, ap_ixP, ap_ixD, ap_ixW, ap_ixB, ap_lenA, ap_lenP, ap_lenD, ap_lenW, ap_lenB, ixZ, ixT, ixL, List.getElem?_cons_zero, List.getElem?_cons_succ, ap_stX, ap_stb, ap_stp, ap_appN, ap_setN, ap_forX, ap_lcXA, ap_lcXR, ap_dgx, ap_dlen, ap_eq0, ap_dpop, ap_orL, ap_andL, getN, setN, fzAll, flatN, peekN, truL, resN_fz, pk_d, pk_new, pk_bor, pk_bp, pk_nt, fz_d, fz_dk, fz_new, fz_bor, fz_bp, fz_nt, so_new, so_dk, so_v, so_nt, so_bp, so_ex, so_d, so_bor, ub_d, ub_new, ub_dk, ub_nt, ub_ex, ub_bor, ub_bp, na_bp, na_d, na_new, na_bor, na_nt, an_nt, an_d, an_bor, pn_bp, ad_bp, kd_bp, sk_d, sk_bp, sc_bp, sc_d, sc_new, sc_bor, ps_d, ps_ex, ps_bor, ps_bp, sl_d, sl_ex, sl_bor, sl_bp, ap_dsortI, ap_callW, ap_cW, ap_appu, an_ev, Option.any_some, at4, fate_e1, fate_e2, Deed.enc, Deal.enc, encT, srt_e1, srt_e2, Option.map_some, Option.map_none, Option.isSome_some, Option.isSome_none, encO, ap_augL, ap_augD, ap_nil3, k_MuT, xi_IsYes_NoHistory, xi_NoDeal_NoHistory, xi_NoHands_NoHistory, xi_NoHistory_NoHistory, xi_NoKind_NoHistory, xi_NoLog_NoHistory, xi_NoOrders_NoHistory, xi_NoStore_NoHistory, xi_NoText_NoHistory, xi_NotSound_NoHistory, xi_TooMany_NoHistory, xi_ValueError_NoHistory, xc_CourtError_NoHistory, k_Index]))
local macro_rules | `(tactic| walk_at "s") => `(tactic| (repeat with_reducible refine And.intro (by first | assumption | omega | exact True.intro | rfl | (simp; done) | (simp; omega) | decide) ?_))

theorem unlike_wp {ns : List Int} (hl : ns.length ≤ 1000) {k : Vl → List Sl → Prop} (h : ∀ ps, k (.d (.bool (unlikeB ns))) ps) : runS s_are_unlike [.d (.list (ns.map .int))] k := by
  refine ⟨rfl, ?_⟩
  show r_are_unlike _ [.d (.list (ns.map .int))]
  unfold r_are_unlike
  walk_at "x"
  refine k_LSi (by unfold PySem.scanBound; omega) ?_
  walk_at "x"
  have e : (((addAll [] ns).length : Int) == (ns.length : Int)) = unlikeB ns := by
    unfold unlikeB
    rw [Bool.eq_iff_iff, beq_iff_eq, beq_iff_eq]
    omega
  rw [e]
  exact h _
theorem goes_in {T : Tale} {j : Nat} {e : Deal} {A : DEnds} (he : T[j]? = some e) : ∀ (rest : List Deal) (s2 : Sl), ((rest.all fun d => !clash d e) = false → ∀ s, A.rt (.d (.bool false)) s) → ((rest.all fun d => !clash d e) = true → ∀ s2, A.nx [.d (encT T), .d (.int (j : Nat)), s2]) →
    forGo noI (gNm 2) b_goes_on_2 A (rest.map Deal.enc) [.d (encT T), .d (.int (j : Nat)), s2]
  | [], s2, _, h => ⟨trivial, h rfl s2⟩
  | d :: rest, s2, h0, h1 => by
    rw [List.all_cons] at h0 h1
    refine ⟨trivial, ?_⟩
    walk_at "x"
    rw [b_goes_on_2_eq]
    walk_at "x"
    refine onO_of (deal_at he) ?_
    walk_at "x"
    unfold clash at h0 h1
    refine onB_dec (fun q => ?_) fun q => ?_
    · rw [decide_eq_true q] at h0
      walk_at "x"
      exact h0 rfl _
    · rw [decide_eq_false q] at h0 h1
      walk_at "x"
      refine onO_of (deal_at he) ?_
      walk_at "x"
      refine onB_beq (fun qh => ?_) fun qh => ?_
      · rw [beq_iff_eq.mpr qh] at h0 h1
        walk_at "x"
        refine onO_of (deal_at he) ?_
        walk_at "x"
        refine onB_dec (fun q2 => ?_) fun q2 => ?_
        · rw [decide_eq_true q2] at h0
          walk_at "x"
          exact h0 rfl _
        · rw [decide_eq_false q2] at h0 h1
          walk_at "x"
          exact goes_in he rest _ h0 h1
      · rw [beq_eq_false_iff_ne.mpr qh] at h0 h1
        walk_at "x"
        exact goes_in he rest _ h0 h1
def goesP (T : Tale) (j : Nat) : Bool := match T[j]? with
  | some e => (T.take j).all fun d => !clash d e
  | none => true
theorem cut_deals {T : Tale} {p : Nat} (hp : p ≤ T.length) : DL.cutD (T.map Deal.enc) none (some ((p : Nat) : Int)) = (T.take p).map Deal.enc := by
  unfold DL.cutD
  rw [HT.sIx_none, HT.sIx_nat, List.length_map, Nat.sub_zero, List.drop_zero, Nat.min_eq_left hp, List.map_take]
theorem goes_out {T : Tale} {A : DEnds} : ∀ (n j : Nat) (s1 s2 : Sl), j + n = T.length → (((List.range' j n).all (goesP T)) = false → ∀ s, A.rt (.d (.bool false)) s) → (((List.range' j n).all (goesP T)) = true → ∀ s1 s2, A.nx [.d (encT T), s1, s2]) →
    forGo noI (gNm 1) b_goes_on_1 A ((List.range' j n).map fun i => .int ((i : Nat) : Int)) [.d (encT T), s1, s2]
  | 0, j, s1, s2, _, _, h => ⟨trivial, h rfl _ _⟩
  | n + 1, j, s1, s2, hn, h0, h1 => by
    obtain ⟨e, he⟩ : ∃ e, T[j]? = some e := ⟨_, List.getElem?_eq_getElem (by omega)⟩
    have eP : goesP T j = (T.take j).all fun d => !clash d e := by unfold goesP; rw [he]
    rw [List.range'_succ, List.all_cons, eP] at h0 h1
    refine ⟨trivial, ?_⟩
    show gNm 1 (.int ((j : Nat) : Int)) _ _
    walk_at "x"
    rw [b_goes_on_1_eq]
    walk_at "x"
    rw [cut_deals (by omega)]
    refine of_ev (forX_ds ?_)
    refine goes_in he _ _ (fun q s => ?_) fun q s2 => ?_
    · rw [q, Bool.false_and] at h0
      exact h0 rfl s
    · rw [q, Bool.true_and] at h0 h1
      exact goes_out n (j + 1) _ _ (by omega) h0 h1
theorem goes_on_wp {T : Tale} (hT : T.length ≤ 1000) {k : Vl → List Sl → Prop} (h : ∀ ps, k (.d (.bool (goesB T))) ps) : runS s_goes_on [.d (encT T)] k := by
  refine ⟨rfl, ?_⟩
  show r_goes_on _ [.d (encT T), .un, .un]
  unfold r_goes_on
  walk_at "x"
  refine ⟨by omega, by omega, of_ev ?_⟩
  rw [rng_map', show ((T.length : Nat) : Int).toNat = T.length by omega]
  have e : goesB T = (List.range' 0 T.length).all (goesP T) := rfl
  rw [e] at h
  refine goes_out T.length 0 _ _ (by omega) (fun q s => ?_) fun q s1 s2 => ?_
  · rw [q] at h
    exact h _
  · rw [q] at h
    walk_at "x"
    exact h _
theorem moms_snoc (T : Tale) (d : Deal) : moms (T ++ [d]) = moms T ++ [d.first, d.last] := by unfold moms; rw [List.flatMap_append]; simp
theorem wnums_snoc (T : Tale) (d : Deal) : wnums (T ++ [d]) = wnums T ++ (d.deeds.filter (·.w)).map (·.num) := by unfold wnums; rw [List.flatMap_append]; simp
theorem kysL_snoc (T : Tale) (d : Deal) : kysL (T ++ [d]) = kysL T ++ d.deeds.map (·.key) := by unfold kysL; rw [List.flatMap_append]; simp
theorem moms_len (T : Tale) : (moms T).length = 2 * T.length := by
  induction T with
  | nil => rfl
  | cons d T ih => have e : moms (d :: T) = d.first :: d.last :: moms T := rfl; rw [e, List.length_cons, List.length_cons, ih, List.length_cons]; omega
theorem wnums_len {T : Tale} (h : ∀ d ∈ T, d.deeds.length ≤ 8) : (wnums T).length ≤ 8 * T.length := by
  induction T with
  | nil => exact Nat.zero_le _
  | cons d T ih =>
    have := ih fun e he => h e (List.mem_cons_of_mem _ he)
    have h1 := h d List.mem_cons_self
    have h2 := List.length_filter_le (·.w) d.deeds
    show (((d.deeds.filter (·.w)).map (·.num)) ++ wnums T).length ≤ _
    rw [List.length_append, List.length_map, List.length_cons]
    omega
theorem kysL_len {T : Tale} (h : ∀ d ∈ T, d.deeds.length ≤ 8) : (kysL T).length ≤ 8 * T.length := by
  induction T with
  | nil => exact Nat.zero_le _
  | cons d T ih =>
    have := ih fun e he => h e (List.mem_cons_of_mem _ he)
    have h1 := h d List.mem_cons_self
    show (d.deeds.map (·.key) ++ kysL T).length ≤ _
    rw [List.length_append, List.length_map, List.length_cons]
    omega
theorem hist_loop {T0 : Tale} {A : DEnds} : ∀ (rest done : Tale) (s1 : Sl), T0 = done ++ rest → T0.length ≤ 12 → (∀ d ∈ T0, d.deeds.length ≤ 8) →
    (∀ s1, A.nx [.d (encT T0), s1, .lst true ((moms T0).map .int), .lst true ((wnums T0).map .int), .lst true ((kysL T0).map .str), .un]) →
    forGo noI (gNm 1) b_is_history_1 A (rest.map Deal.enc) [.d (encT T0), s1, .lst true ((moms done).map .int), .lst true ((wnums done).map .int), .lst true ((kysL done).map .str), .un]
  | [], done, s1, e, _, _, h => ⟨trivial, by rw [List.append_nil] at e; subst e; exact h s1⟩
  | d :: rest, done, s1, e, hT, hd, h => by
    have e2 : T0 = (done ++ [d]) ++ rest := by rw [e, List.append_assoc]; rfl
    have dm : d ∈ T0 := by rw [e]; exact List.mem_append_right _ List.mem_cons_self
    have hd8 := hd d dm
    have go := fun s1 => hist_loop (T0 := T0) (A := A) rest (done ++ [d]) s1 e2 hT hd h
    rw [moms_snoc, wnums_snoc, kysL_snoc] at go
    have hdn : done.length ≤ 12 := by rw [e, List.length_append] at hT; omega
    have hdd : ∀ x ∈ done, x.deeds.length ≤ 8 := fun x hx => hd x (by rw [e]; exact List.mem_append_left _ hx)
    have l1 := moms_len done
    have l2 := wnums_len hdd
    have l3 := kysL_len hdd
    have l4 := List.length_filter_le (·.w) d.deeds
    refine ⟨trivial, ?_⟩
    walk_at "x"
    rw [b_is_history_1_eq]
    walk_at "x"
    refine ⟨by omega, ?_⟩
    refine of_ev (lcX_ds (enc := Deed.enc) (xs := d.deeds) (p := (·.w)) (f := fun e => .int e.num) (e := fun e => [_, _, _, _, _, .d e.enc]) (by omega) (fun x hx B C hB hC => ?_) (fun _ _ => rfl) fun D => ?_)
    · walk_at "x"
      refine onB_case (fun hw => ?_) fun hw => ?_
      · walk_at "x"
        exact hB hw
      · exact hC hw
    · rw [resN_fz]
      walk_at "x"
      refine ⟨by omega, ?_⟩
      have em : (moms done).map PyData.int ++ [.int d.first, .int d.last] = (moms done ++ [d.first, d.last]).map .int := by rw [List.map_append]; rfl
      have ew : (wnums done).map PyData.int ++ (d.deeds.filter fun x => x.w).map (fun e => PyData.int e.num) = (wnums done ++ (d.deeds.filter (·.w)).map (·.num)).map .int := by rw [List.map_append, List.map_map]; rfl
      rw [em, ew]
      refine of_ev (lcX_ds1 (enc := Deed.enc) (xs := d.deeds) (f := fun e => .str e.key) (e := fun e => [_, _, _, _, _, .d e.enc]) (by omega) (fun x hx B hB => ?_) (fun _ _ => rfl) fun D => ?_)
      · walk_at "x"
        exact hB
      · rw [resN_fz]
        walk_at "x"
        refine ⟨by omega, ?_⟩
        have ek : (kysL done).map PyData.str ++ d.deeds.map (fun e => PyData.str e.key) = (kysL done ++ d.deeds.map (·.key)).map .str := by rw [List.map_append, List.map_map]; rfl
        rw [ek]
        exact of_ev (go _)
theorem hist_run {T : Tale} (hT : T.length ≤ 12) (hd : ∀ d ∈ T, d.deeds.length ≤ 8) {D : DEnds} (h : ∀ ps, D.rt (.d (.bool (histB T))) ps) : ev ((sSeq (sNil3 2 3 4) (sSeq (sForX 1 (dVar 0) b_is_history_1) (sRet (dAndV (dCall s_are_unlike (dfCons (dVar 2) dfNil)) (dAndV (dCall s_are_unlike (dfCons (dVar 3) dfNil)) (dAndV (dOp (kI0 fun i j => .bool (decide (i ≤ j))) (dUn kLS (dVar 4)) (dC (.int 5))) (dCall s_goes_on (dfCons (dVar 0) dfNil)))))))) D [.d (encT T), .un, .un, .un, .un, .un]) := by
  have l1 := moms_len T
  have l2 := wnums_len hd
  have l3 := kysL_len hd
  walk_at "x"
  refine of_ev (forX_ds ?_)
  refine hist_loop T [] _ rfl hT hd fun s1 => ?_
  walk_at "x"
  refine unlike_wp (by omega) fun _ => ?_
  unfold histB at h
  walk_at "x"
  refine onB_case (fun q => ?_) fun q => ?_
  · rw [q, Bool.true_and] at h
    walk_at "x"
    refine unlike_wp (by omega) fun _ => ?_
    walk_at "x"
    refine onB_case (fun q => ?_) fun q => ?_
    · rw [q, Bool.true_and] at h
      walk_at "x"
      refine k_LSs (by unfold PySem.scanBound; omega) ?_
      walk_at "x"
      refine onB_dec (fun q => ?_) fun q => ?_
      · rw [decide_eq_true q, Bool.true_and] at h
        walk_at "x"
        refine goes_on_wp (by omega) fun _ => ?_
        walk_at "x"
        exact h _
      · rw [decide_eq_false q, Bool.false_and] at h
        exact h _
    · rw [q, Bool.false_and] at h
      exact h _
  · rw [q, Bool.false_and] at h
    exact h _
theorem is_history_wp {x : PyData} {b : Bool} (hx : okHist x) (hb : histOf x b) {k : Vl → List Sl → Prop} (h : ∀ ps, k (.d (.bool b)) ps) : runS s_is_history [.d x] k := by
  refine ⟨rfl, ?_⟩
  show r_is_history _ [.d x, .un, .un, .un, .un, .un]
  have no : hist0 x = false → ∀ ps, k (.d (.bool false)) ps := fun q => by
    rcases hb with ⟨_, rfl⟩ | ⟨T, rfl, e, _⟩
    · exact h
    · rw [e] at q; cases q
  have er : r_is_history = sSeq (sIf (dOr (dNot (dTest (dIsi (dVar 0) "tuple"))) (dOr (dTest (dOp (kI0 fun i j => .bool (decide (j < i))) (dLenA (daCons (dVar 0) daNil)) (dC (.int 12)))) (dNot (dTest (dCB kAll (daCons (dLcXA (dVar 0) 1 dYes (dCall s_is_deal (dfCons (dVar 1) dfNil)) [1]) daNil)))))) (sRet (dC (.bool false))) sNext) (sSeq (sNil3 2 3 4) (sSeq (sForX 1 (dVar 0) b_is_history_1) (sRet (dAndV (dCall s_are_unlike (dfCons (dVar 2) dfNil)) (dAndV (dCall s_are_unlike (dfCons (dVar 3) dfNil)) (dAndV (dOp (kI0 fun i j => .bool (decide (i ≤ j))) (dUn kLS (dVar 4)) (dC (.int 5))) (dCall s_goes_on (dfCons (dVar 0) dfNil)))))))) := rfl
  rw [er]
  generalize hZ : sSeq (sNil3 2 3 4) _ = Z
  cases x with
  | tuple xs =>
    obtain ⟨hz, hz2⟩ := hx xs rfl
    walk_at "x"
    refine onB_dec (fun q12 => ?_) fun q12 => ?_
    · walk_at "x"
      exact no (by rw [hist0_t, decide_eq_false (by omega)]; rfl) _
    · walk_at "x"
      have em : xs = xs.map id := (List.map_id _).symm
      rw [show Src.ds xs = Src.ds (xs.map id) by rw [← em]]
      refine of_ev (lcX_ds1 (enc := id) (xs := xs) (f := fun e => .bool (dealB e)) (e := fun e => [_, .d e, _, _, _, _]) (by omega) (fun e he B hB => ?_) (fun _ _ => rfl) fun D => ?_)
      · walk_at "x"
        exact is_deal_wp (hz2 e he).1 (hz2 e he).2 fun _ => hB
      · rw [resN_fz]
        walk_at "x"
        refine ⟨xs.map dealB, by rw [List.map_map]; rfl, ?_⟩
        rw [List.all_map]
        refine onB_neg (onB_case (fun q => ?_) fun q => ?_)
        · walk_at "x"
          subst hZ
          obtain ⟨T, rfl, hd⟩ := tale_of (show xs.all dealB = true from q)
          have eb : b = histB T := by
            rcases hb with ⟨e0, _⟩ | ⟨T', e1, _, e2⟩
            · rw [hist0_t, decide_eq_true (by omega), Bool.true_and] at e0
              rw [show (T.map Deal.enc).all dealB = true from q] at e0
              cases e0
            · rw [e2, encT_inj e1]
          rw [List.length_map] at q12
          refine hist_run (T := T) (by omega) hd fun ps => ?_
          rw [← eb]
          exact h _
        · walk_at "x"
          refine no ?_ _
          have q : xs.all dealB = false := q
          rw [hist0_t, q, Bool.and_false]
  | _ => walk_at "x"; exact no rfl _

end Cl

namespace Cl
open PySem PySem.Spec PyProof.Rows L2 DL
/-! ### k11: what is told -/
local macro_rules | `(tactic| walk_at "x") => `(tactic| (refine ev_of ?_; simp only [ap_seq, ap_next, ap_brk, ap_cnt, ap_expr, ap_ret, ap_retN, ap_if, ap_asg, ap_set, ap_seti, ap_par, ap_dput, ap_forL, ap_forT, ap_forR, ap_while, ap_nm, ap_gtp, ap_gnil, ap_gcons, ap_var, ap_c, ap_op, ap_un, ap_test, ap_and, ap_or, ap_not, ap_yes, ap_andV, ap_orV, ap_notV, ap_ifE, ap_anil, ap_acons, ap_fnil, ap_fcons, ap_tup, ap_lst, ap_dct, ap_cb, ap_isi, ap_sl, ap_nopart, ap_part, ap_lstrg, ap_mut, ap_call, ap_callS, ap_din, ap_lcL, ap_lcT, ap_lcR, ap_lcB, ap_forB, ap_lcnil, ap_lccons, wp_nil, wp_cons, rs_nil, rs_cons, kp_d, kp_un, eq_self,
  ev_ev, kd_i, kd_s, if_true, if_false, Bool.false_eq_true, Bool.not_true, Bool.not_false, List.isEmpty_nil, List.isEmpty_cons, ev_and, ev_t, ev_f, ev_s, k_I0, k_I, k_EqL0, k_EqT0, k_EqLT, k_EqTL, k_EqI, k_EqB, k_EqS, k_EqN, k_EqLc, k_EqTc, id_eq, k_IsN, k_InL, k_InT, k_Cat, k_IxL, k_IxT, k_LenL, k_LenT, k_ListL, k_ListT, k_TupleL, k_TupleT, k_I2, k_Abs, k_Neg, k_App, k_PopAt, lk_0, lk_s, pt_0, pt_s, peekAll, sh_int, sh_none, sh_bool, sh_nil, sh_nilT, sh_ints, eqv_int, eqv_ss, eqv_bool, eqv_nil, at0, at1, at2, at3, ixN1, List.length_cons, List.length_nil, List.set_cons_succ, List.set_cons_zero, true_and, and_true, List.map_cons, List.map_nil, List.nil_append, List.cons_append, flatD, List.length_map, flat_ints, in_ints, ap_rev, ap_chain, ap_lcS, k_IsB, k_IntI, k_IntB, k_CatT, k_Rep, k_InS, k_LenS,
  ap_revA, ap_slA, ap_joinC, k_SlL, k_SlT, k_SlS, k_CatS, k_RepS, k_AxL, k_AxT, k_AxS, k_StrI, ap_forA, ap_lcA, it_L, it_T, it_S, k_AdI, k_AdL, k_AdT, k_AdS, k_MuI, k_MuL, k_MuS, Nat.zero_le, kit_tuple, kit_list, kit_str, kit_int, kit_bool, kit_dict, isN_none, isN_bool, isN_int, isN_str, isN_list, isN_tuple, isN_dict, isTup_none, isTup_bool, isTup_int, isTup_str, isTup_list, isTup_tuple, isTup_dict, isLst_none, isLst_bool, isLst_int, isLst_str, isLst_list, isLst_tuple, isLst_dict, isStr_none, isStr_bool, isStr_int, isStr_str, isStr_list, isStr_tuple, isStr_dict, isInt_none, isInt_bool, isInt_int, isInt_str, isInt_list, isInt_tuple, isInt_dict, isBool_none, isBool_bool, isBool_int, isBool_str, isBool_list, isBool_tuple, isBool_dict, isDict_none, isDict_bool, isDict_int, isDict_str, isDict_list, isDict_tuple, isDict_dict, dec_tt, dec_ft, dec_tf, dec_ff, dec_T, dec_F, ap_mF, ap_callM, ap_callX, ap_callXn, ap_raise, ap_exprX, ap_retX, ap_setX, ap_try, ap_isx, ap_isNx, nx_ex, nx_new, nx_d, fx_ex, fx_d, fx_new, fx_bor, DL.pa_nil, DL.pa_cons, bk_nil, bk_cons, bk1, ap_meth, ap_meth0, ap_gtpAt, ap_gtpAl, tyM_L, tyM_S, k_InAL, k_InAT, k_SortD, k_Count, sh_str, sh_strs, sh_bools, eqv_strs, eqv_bools, eqv_ints, List.filterMap_cons, List.filterMap_nil, List.nodup_nil, Nat.reduceAdd, Nat.reduceLeDiff, k_EqStrs, k_EqBools, k_EqInts, ap_forI, ap_lcI, ap_enu, ap_enu1, nd1, ap_ixA, ap_ixP, ap_ixD, ap_ixW, ap_ixB, ap_lenA, ap_lenP, ap_lenD, ap_lenW, ap_lenB, ixZ, ixT, ixL, List.getElem?_cons_zero, List.getElem?_cons_succ, ap_stX, ap_stb, ap_stp, ap_appN, ap_setN, ap_forX, ap_lcXA, ap_lcXR, ap_dgx, ap_dlen, ap_eq0, ap_dpop, ap_orL, ap_andL, getN, setN, fzAll, flatN, peekN, truL, resN_fz, pk_d, pk_new, pk_bor, pk_bp, pk_nt, fz_d, fz_dk, fz_new, fz_bor, fz_bp, fz_nt, so_new, so_dk, so_v, so_nt, so_bp, so_ex, so_d, so_bor, ub_d, ub_new, ub_dk, ub_nt, ub_ex, ub_bor, ub_bp, na_bp, na_d, na_new, na_bor, na_nt, an_nt, an_d, an_bor, pn_bp, ad_bp, kd_bp, sk_d, sk_bp, sc_bp, sc_d, sc_new, sc_bor, ps_d, ps_ex, ps_bor, ps_bp, sl_d, sl_ex, sl_bor, sl_bp, ap_dsortI, ap_callW, ap_cW, ap_appu, an_ev, Option.any_some, at4, fate_e1, fate_e2, Deed.enc, Deal.enc, encT, srt_e1, srt_e2, Option.map_some, Option.map_none, Option.isSome_some, Option.isSome_none, encO, ap_augL, ap_augD, ap_nil3, k_MuT, xi_IsYes_NoHistory, xi_NoDeal_NoHistory, xi_NoHands_NoHistory, xi_NoHistory_NoHistory, xi_NoKind_NoHistory, xi_NoLog_NoHistory, xi_NoOrders_NoHistory, xi_NoStore_NoHistory, xi_NoText_NoHistory, xi_NotSound_NoHistory, xi_TooMany_NoHistory, xi_ValueError_NoHistory, xc_CourtError_NoHistory, k_Index]))
local macro_rules | `(tactic| walk_at "s") => `(tactic| (repeat with_reducible refine And.intro (by first | assumption | omega | exact True.intro | rfl | (simp; done) | (simp; omega) | decide) ?_))

theorem need_ok {x : PyData} (hx : okHist x) (hb : histOf x true) {k : Vl → List Sl → Prop} {e : Str → List Sl → Prop} (h : ∀ s1, k (.d .none) [s1]) : runX s_need_history [.d x] k e := by
  refine ⟨rfl, ?_⟩
  show r_need_history _ [.d x]
  unfold r_need_history
  walk_at "x"
  refine is_history_wp hx hb fun _ => ?_
  walk_at "x"
  exact h _
theorem need_no {x : PyData} (hx : okHist x) (hb : histOf x false) {k : Vl → List Sl → Prop} {e : Str → List Sl → Prop} (h : ∀ s1, e "NoHistory" [s1]) : runX s_need_history [.d x] k e := by
  refine ⟨rfl, ?_⟩
  show r_need_history _ [.d x]
  unfold r_need_history
  walk_at "x"
  refine is_history_wp hx hb fun _ => ?_
  walk_at "x"
  exact h _
theorem cls_cnt : List.countP (fun y => PyData.eqv y (.bool true)) [PyData.bool true, .bool false, .bool false, .bool false, .bool false, .bool false, .bool false, .bool false, .bool false, .bool false, .bool false] = 1 := by decide +kernel
theorem qclass_wp {k : Vl → List Sl → Prop} (h : ∀ s1, k (.d (.str (Str.ofString "history"))) [s1]) : runS s_qclass [.ex "NoHistory"] k := by
  refine ⟨rfl, ?_⟩
  show r_qclass _ [.ex "NoHistory", .un, .un]
  unfold r_qclass
  walk_at "x"
  rw [cls_cnt]
  refine ⟨sh_bools [true, false, false, false, false, false, false, false, false, false, false], ?_⟩
  walk_at "x"
  refine onB_ofF rfl ?_
  walk_at "x"
  refine ⟨shaped_bools [true, false, false, false, false, false, false, false, false, false, false], rfl, onO_of (d := 0) (by decide +kernel) ?_⟩
  refine onO_of (d := .str (Str.ofString "history")) rfl ?_
  exact h _
theorem qneed_no {x : PyData} (hx : okHist x) (hb : histOf x false) {k : Vl → List Sl → Prop} (h : ∀ ps, k (.d (.str (Str.ofString "history"))) ps) : runS s_qneed [.d x] k := by
  refine ⟨rfl, ?_⟩
  show r_qneed _ [.d x, .un, .un]
  unfold r_qneed
  walk_at "x"
  rw [b_qneed_1_eq]
  walk_at "x"
  refine need_no hx hb fun _ => ?_
  walk_at "x"
  refine qclass_wp fun _ => ?_
  walk_at "x"
  exact h _
theorem qneed_ok {x : PyData} (hx : okHist x) (hb : histOf x true) {k : Vl → List Sl → Prop} (h : ∀ ps, k (.d .none) ps) : runS s_qneed [.d x] k := by
  refine ⟨rfl, ?_⟩
  show r_qneed _ [.d x, .un, .un]
  unfold r_qneed
  walk_at "x"
  rw [b_qneed_1_eq]
  walk_at "x"
  refine need_ok hx hb fun _ => ?_
  walk_at "x"
  exact h _
theorem qtold_wp {x : PyData} {b : Bool} (hx : okHist x) (hb : histOf x b) {k : Vl → List Sl → Prop} (h : ∀ ps, k (.d (.bool true)) ps) : runS s_qtold [.d x, .d (.bool b)] k := by
  refine ⟨rfl, ?_⟩
  show r_qtold _ [.d x, .d (.bool b), .un]
  unfold r_qtold
  walk_at "x"
  refine is_history_wp hx hb fun _ => ?_
  cases b with
  | true =>
    walk_at "x"
    refine onB_ofT rfl ?_
    walk_at "x"
    refine qneed_ok hx hb fun _ => ?_
    walk_at "x"
    exact h _
  | false =>
    walk_at "x"
    refine onB_ofT rfl ?_
    walk_at "x"
    refine qneed_no hx hb fun _ => ?_
    walk_at "x"
    rw [beq_self_eq_true]
    exact h _

end Cl

namespace Cl
open PySem PySem.Spec PyProof.Rows L2 DL
/-! ### k11: odd things, looked at by counting -/
def lensB : PyData → Bool
  | .tuple ys => decide (ys.length ≤ 1000) && ys.all fun y => match y with
    | .tuple es => decide (es.length ≤ 1000) && es.all fun e => match e with
      | .tuple zs => decide (zs.length ≤ 1000)
      | _ => true
    | _ => true
  | _ => true
def plainZB : PyData → Bool
  | .dict _ => true
  | x => shp x
def okSB : PyData → Bool
  | .str s => decide (s.length ≤ 1000)
  | _ => true
def okDeedB : PyData → Bool
  | .tuple [a, b, _] => plainZB a && okSB b
  | _ => true
def actsOkB : PyData → Bool
  | .tuple es => es.all okDeedB
  | _ => true
def okDealB : PyData → Bool
  | .tuple [_, _, _, ds, k] => plainZB k && actsOkB ds
  | _ => true
def okHistB : PyData → Bool
  | .tuple xs => decide (xs.length ≤ 1000) && xs.all fun d => okDealB d && lensB d
  | _ => true
theorem lensB_ok {x : PyData} (h : lensB x = true) : lensD x := fun ys e => by
  subst e
  have h : (decide (ys.length ≤ 1000) && ys.all fun y => match y with
    | .tuple es => decide (es.length ≤ 1000) && es.all fun e => match e with
      | .tuple zs => decide (zs.length ≤ 1000)
      | _ => true
    | _ => true) = true := h
  rw [Bool.and_eq_true, List.all_eq_true] at h
  refine ⟨of_decide_eq_true h.1, fun es hes => ?_⟩
  have h2 := h.2 _ hes
  have h2 : (decide (es.length ≤ 1000) && es.all fun e => match e with
      | .tuple zs => decide (zs.length ≤ 1000)
      | _ => true) = true := h2
  rw [Bool.and_eq_true, List.all_eq_true] at h2
  exact ⟨of_decide_eq_true h2.1, fun zs hzs => of_decide_eq_true (h2.2 _ hzs)⟩
theorem plainZB_ok {x : PyData} (h : plainZB x = true) : plainZ x := by
  cases x with
  | dict kvs => exact .inr ⟨_, rfl⟩
  | _ => exact .inl h
theorem okSB_ok {x : PyData} (h : okSB x = true) : okS x := fun s e => by
  subst e
  exact of_decide_eq_true h
theorem okDeedB_ok {x : PyData} (h : okDeedB x = true) : okDeed x := fun a b c e => by
  subst e
  have h : (plainZB a && okSB b) = true := h
  rw [Bool.and_eq_true] at h
  exact ⟨plainZB_ok h.1, okSB_ok h.2⟩
theorem okDealB_ok {x : PyData} (h : okDealB x = true) : okDeal x := fun a f l ds k e => by
  subst e
  have h : (plainZB k && actsOkB ds) = true := h
  rw [Bool.and_eq_true] at h
  refine ⟨plainZB_ok h.1, fun es e => ?_⟩
  subst e
  exact fun e he => okDeedB_ok (List.all_eq_true.mp h.2 e he)
theorem okHistB_ok {x : PyData} (h : okHistB x = true) : okHist x := fun xs e => by
  subst e
  have h : (decide (xs.length ≤ 1000) && xs.all fun d => okDealB d && lensB d) = true := h
  rw [Bool.and_eq_true, List.all_eq_true] at h
  refine ⟨of_decide_eq_true h.1, fun d hd => ?_⟩
  have := h.2 d hd
  rw [Bool.and_eq_true] at this
  exact ⟨okDealB_ok this.1, lensB_ok this.2⟩
def decDeed : PyData → Deed
  | .tuple [.str s, .str k, .int n] => ⟨s == Str.ofString "write", k, n⟩
  | _ => ⟨false, Str.ofString "", 0⟩
def decDeal : PyData → Deal
  | .tuple [.int h, .int f, .int l, .tuple ds, .str g] => ⟨h, f, l, ds.map decDeed, g == Str.ofString "kept"⟩
  | _ => ⟨0, 0, 0, [], false⟩
theorem decDeed_enc (d : Deed) : decDeed d.enc = d := by
  obtain ⟨w, k, n⟩ := d
  show (⟨srt w == Str.ofString "write", k, n⟩ : Deed) = _
  rw [show (srt w == Str.ofString "write") = w by cases w <;> decide +kernel]
theorem decDeal_enc (d : Deal) : decDeal d.enc = d := by
  obtain ⟨h, f, l, ds, k⟩ := d
  show (⟨h, f, l, (ds.map Deed.enc).map decDeed, fate k == Str.ofString "kept"⟩ : Deal) = _
  rw [fate_e1, List.map_map, show (decDeed ∘ Deed.enc) = id from funext decDeed_enc, List.map_id]
def histC : PyData → Bool
  | .tuple xs => hist0 (.tuple xs) && histB (xs.map decDeal)
  | _ => false
theorem histC_ok (x : PyData) : histOf x (histC x) := by
  cases x with
  | tuple xs =>
    cases e : hist0 (.tuple xs) with
    | false => exact .inl ⟨e, by show (hist0 (.tuple xs) && _) = false; rw [e]; rfl⟩
    | true =>
      rw [hist0_t, Bool.and_eq_true] at e
      obtain ⟨T, rfl, _⟩ := tale_of e.2
      refine .inr ⟨T, rfl, by rw [hist0_t, Bool.and_eq_true]; exact e, ?_⟩
      show (hist0 (.tuple (T.map Deal.enc)) && histB ((T.map Deal.enc).map decDeal)) = _
      rw [show hist0 (.tuple (T.map Deal.enc)) = true by rw [hist0_t, Bool.and_eq_true]; exact e, Bool.true_and, List.map_map, show (decDeal ∘ Deal.enc) = id from funext decDeal_enc, List.map_id]
  | _ => exact .inl ⟨rfl, rfl⟩
theorem onO_all {xs : List PyData} {p : PyData → Bool} {q : Int} {Q : PyData → Prop} (h0 : 0 ≤ q) (h1 : q < xs.length) (ha : xs.all p = true) (h : ∀ o, p o = true → Q o) : onO (atI xs q) Q := by
  obtain ⟨o, eo, mo, _⟩ := at_nat h0 h1
  exact onO_of eo (h o (List.all_eq_true.mp ha o mo))
local macro_rules | `(tactic| walk_at "x") => `(tactic| (refine ev_of ?_; simp only [ap_seq, ap_next, ap_brk, ap_cnt, ap_expr, ap_ret, ap_retN, ap_if, ap_asg, ap_set, ap_seti, ap_par, ap_dput, ap_forL, ap_forT, ap_forR, ap_while, ap_nm, ap_gtp, ap_gnil, ap_gcons, ap_var, ap_c, ap_op, ap_un, ap_test, ap_and, ap_or, ap_not, ap_yes, ap_andV, ap_orV, ap_notV, ap_ifE, ap_anil, ap_acons, ap_fnil, ap_fcons, ap_tup, ap_lst, ap_dct, ap_cb, ap_isi, ap_sl, ap_nopart, ap_part, ap_lstrg, ap_mut, ap_call, ap_callS, ap_din, ap_lcL, ap_lcT, ap_lcR, ap_lcB, ap_forB, ap_lcnil, ap_lccons, wp_nil, wp_cons, rs_nil, rs_cons, kp_d, kp_un, eq_self,
  ev_ev, kd_i, kd_s, if_true, if_false, Bool.false_eq_true, Bool.not_true, Bool.not_false, List.isEmpty_nil, List.isEmpty_cons, ev_and, ev_t, ev_f, ev_s, k_I0, k_I, k_EqL0, k_EqT0, k_EqLT, k_EqTL, k_EqI, k_EqB, k_EqS, k_EqN, k_EqLc, k_EqTc, id_eq, k_IsN, k_InL, k_InT, k_Cat, k_IxL, k_IxT, k_LenL, k_LenT, k_ListL, k_ListT, k_TupleL, k_TupleT, k_I2, k_Abs, k_Neg, k_App, k_PopAt, lk_0, lk_s, pt_0, pt_s, peekAll, sh_int, sh_none, sh_bool, sh_nil, sh_nilT, sh_ints, eqv_int, eqv_ss, eqv_bool, eqv_nil, at0, at1, at2, at3, ixN1, List.length_cons, List.length_nil, List.set_cons_succ, List.set_cons_zero, true_and, and_true, List.map_cons, List.map_nil, List.nil_append, List.cons_append, flatD, List.length_map, flat_ints, in_ints, ap_rev, ap_chain, ap_lcS, k_IsB, k_IntI, k_IntB, k_CatT, k_Rep, k_InS, k_LenS,
  ap_revA, ap_slA, ap_joinC, k_SlL, k_SlT, k_SlS, k_CatS, k_RepS, k_AxL, k_AxT, k_AxS, k_StrI, ap_forA, ap_lcA, it_L, it_T, it_S, k_AdI, k_AdL, k_AdT, k_AdS, k_MuI, k_MuL, k_MuS, Nat.zero_le, kit_tuple, kit_list, kit_str, kit_int, kit_bool, kit_dict, isN_none, isN_bool, isN_int, isN_str, isN_list, isN_tuple, isN_dict, isTup_none, isTup_bool, isTup_int, isTup_str, isTup_list, isTup_tuple, isTup_dict, isLst_none, isLst_bool, isLst_int, isLst_str, isLst_list, isLst_tuple, isLst_dict, isStr_none, isStr_bool, isStr_int, isStr_str, isStr_list, isStr_tuple, isStr_dict, isInt_none, isInt_bool, isInt_int, isInt_str, isInt_list, isInt_tuple, isInt_dict, isBool_none, isBool_bool, isBool_int, isBool_str, isBool_list, isBool_tuple, isBool_dict, isDict_none, isDict_bool, isDict_int, isDict_str, isDict_list, isDict_tuple, isDict_dict, dec_tt, dec_ft, dec_tf, dec_ff, dec_T, dec_F, ap_mF, ap_callM, ap_callX, ap_callXn, ap_raise, ap_exprX, ap_retX, ap_setX, ap_try, ap_isx, ap_isNx, nx_ex, nx_new, nx_d, fx_ex, fx_d, fx_new, fx_bor, DL.pa_nil, DL.pa_cons, bk_nil, bk_cons, bk1, ap_meth, ap_meth0, ap_gtpAt, ap_gtpAl, tyM_L, tyM_S, k_InAL, k_InAT, k_SortD, k_Count, sh_str, sh_strs, sh_bools, eqv_strs, eqv_bools, eqv_ints, List.filterMap_cons, List.filterMap_nil, List.nodup_nil, Nat.reduceAdd, Nat.reduceLeDiff, k_EqStrs, k_EqBools, k_EqInts, ap_forI, ap_lcI, ap_enu, ap_enu1, nd1, ap_ixA, ap_ixP, ap_ixD, ap_ixW, ap_ixB, ap_lenA, ap_lenP, ap_lenD, ap_lenW, ap_lenB, ixZ, ixT, ixL, List.getElem?_cons_zero, List.getElem?_cons_succ, ap_stX, ap_stb, ap_stp, ap_appN, ap_setN, ap_forX, ap_lcXA, ap_lcXR, ap_dgx, ap_dlen, ap_eq0, ap_dpop, ap_orL, ap_andL, getN, setN, fzAll, flatN, peekN, truL, resN_fz, pk_d, pk_new, pk_bor, pk_bp, pk_nt, fz_d, fz_dk, fz_new, fz_bor, fz_bp, fz_nt, so_new, so_dk, so_v, so_nt, so_bp, so_ex, so_d, so_bor, ub_d, ub_new, ub_dk, ub_nt, ub_ex, ub_bor, ub_bp, na_bp, na_d, na_new, na_bor, na_nt, an_nt, an_d, an_bor, pn_bp, ad_bp, kd_bp, sk_d, sk_bp, sc_bp, sc_d, sc_new, sc_bor, ps_d, ps_ex, ps_bor, ps_bp, sl_d, sl_ex, sl_bor, sl_bp, ap_dsortI, ap_callW, ap_cW, ap_appu, an_ev, Option.any_some, at4, fate_e1, fate_e2, Deed.enc, Deal.enc, encT, srt_e1, srt_e2, Option.map_some, Option.map_none, Option.isSome_some, Option.isSome_none, encO, ap_augL, ap_augD, ap_nil3, k_MuT, xi_IsYes_NoHistory, xi_NoDeal_NoHistory, xi_NoHands_NoHistory, xi_NoHistory_NoHistory, xi_NoKind_NoHistory, xi_NoLog_NoHistory, xi_NoOrders_NoHistory, xi_NoStore_NoHistory, xi_NoText_NoHistory, xi_NotSound_NoHistory, xi_TooMany_NoHistory, xi_ValueError_NoHistory, xc_CourtError_NoHistory, k_Index]))
local macro_rules | `(tactic| walk_at "s") => `(tactic| (repeat with_reducible refine And.intro (by first | assumption | omega | exact True.intro | rfl | (simp; done) | (simp; omega) | decide) ?_))

def edgeB : PyData → Bool
  | .tuple [x, .bool b] => okHistB x && histC x == b
  | _ => false
theorem qsmall_wp {n : Nat} (hn : n ≤ 13) {k : Vl → List Sl → Prop} (h : ∀ ps, k (.d (.tuple ((List.range n).map fun i => PyData.tuple [.int 0, .int (2 * ((i : Nat) : Int)), .int (2 * ((i : Nat) : Int) + 1), .tuple [], .str (Str.ofString "kept")]))) ps) : runS s_qsmall [.d (.int (n : Nat))] k := by
  refine ⟨rfl, ?_⟩
  show r_qsmall _ [.d (.int (n : Nat)), .un]
  unfold r_qsmall
  walk_at "x"
  refine ⟨by omega, by omega, of_ev ?_⟩
  refine lcX_rg1 (f := fun i => PyData.tuple [.int 0, .int (2 * ((i : Nat) : Int)), .int (2 * ((i : Nat) : Int) + 1), .tuple [], .str (Str.ofString "kept")]) (e := fun i => [.d (.int (n : Nat)), .d (.int (0 + ((i : Nat) : Int)))]) (by omega) (fun i hi B hB => ?_) (fun _ _ => rfl) fun D => ?_
  · walk_at "x"
    rw [Int.zero_add]
    rw [Int.zero_add] at hB
    refine ⟨.inl (by decide), .inl (by decide), hB⟩
  · rw [resN_fz, show ((n : Nat) : Int).toNat = n by omega]
    walk_at "x"
    exact h _
def six : List PyData := (List.range 6).map fun i => PyData.tuple [.str (Str.ofString "write"), .str ⟨#[97 + i]⟩, .int (1 + ((i : Nat) : Int))]
def smallD (n : Nat) : PyData := .tuple ((List.range n).map fun i => PyData.tuple [.int 0, .int (2 * ((i : Nat) : Int)), .int (2 * ((i : Nat) : Int) + 1), .tuple [], .str (Str.ofString "kept")])
theorem at_abc {i : Nat} (h : i < 6) : atI (Str.ofString "abcdef").cps.toList ((i : Nat) : Int) = some (97 + i) := by
  have e : (Str.ofString "abcdef").cps.toList = (List.range 6).map (97 + ·) := by decide +kernel
  rw [e]
  exact atI_nat (by rw [List.getElem?_map, List.getElem?_range h]; rfl)
theorem qedges_wp {s : Dr} {k : Vl → List Sl → Prop} (h : ∀ x b s', okHist x → histOf x b → k (.d (.tuple [x, .bool b])) [.lst false (drL s')]) : runS s_qedges [.lst false (drL s)] k := by
  refine ⟨rfl, ?_⟩
  show r_qedges _ [.lst false (drL s), .un, .un, .un, .un]
  unfold r_qedges
  walk_at "x"
  refine ⟨by omega, by omega, of_ev ?_⟩
  refine lcX_rg1 (f := fun i => PyData.tuple [.str (Str.ofString "write"), .str ⟨#[97 + i]⟩, .int (1 + ((i : Nat) : Int))]) (e := fun i => [.lst false (drL s), .un, .d (.int (0 + ((i : Nat) : Int))), .un, .un]) (by decide) (fun i hi B hB => ?_) (fun _ _ => rfl) fun D => ?_
  · have hi : i < 6 := hi
    walk_at "x"
    rw [Int.zero_add]
    rw [Int.zero_add] at hB
    refine ⟨by decide +kernel, onO_of (at_abc hi) ?_⟩
    walk_at "x"
    exact hB
  · rw [resN_fz, show (List.range (Int.toNat 6)).map (fun i => PyData.tuple [.str (Str.ofString "write"), .str ⟨#[97 + i]⟩, .int (1 + ((i : Nat) : Int))]) = six from rfl]
    walk_at "x"
    refine qsmall_wp (n := 12) (by decide) fun _ => ?_
    rw [show PyData.tuple ((List.range 12).map fun i => PyData.tuple [.int 0, .int (2 * ((i : Nat) : Int)), .int (2 * ((i : Nat) : Int) + 1), .tuple [], .str (Str.ofString "kept")]) = smallD 12 from rfl]
    walk_at "x"
    refine qsmall_wp (n := 13) (by decide) fun _ => ?_
    rw [show PyData.tuple ((List.range 13).map fun i => PyData.tuple [.int 0, .int (2 * ((i : Nat) : Int)), .int (2 * ((i : Nat) : Int) + 1), .tuple [], .str (Str.ofString "kept")]) = smallD 13 from rfl]
    walk_at "x"
    refine ⟨by decide +kernel, by decide, by decide, by decide, ⟨by decide +kernel, by decide, by decide, by decide +kernel⟩, ?_⟩
    walk_at "x"
    refine ⟨by decide, by decide, by decide, ?_⟩
    refine next_wp (by omega) (by omega) fun q s1 q0 q1 => ?_
    walk_at "x"
    refine onO_all (p := edgeB) q0 (by simp only [List.length_cons, List.length_nil]; omega) (by decide +kernel) fun o ho => ?_
    match o, ho with
    | .tuple [x, .bool b], ho =>
      have ho : (okHistB x && histC x == b) = true := ho
      rw [Bool.and_eq_true, beq_iff_eq] at ho
      exact h x b s1 (okHistB_ok ho.1) (ho.2 ▸ histC_ok x)
def oddB (o : PyData) : Bool := !deedB o && (okDeedB o && match o with
  | .tuple zs => decide (zs.length ≤ 1000)
  | _ => true)
theorem qodd_deed_wp {s : Dr} {k : Vl → List Sl → Prop} (h : ∀ o s', oddB o = true → k (.d o) [.lst false (drL s'), .un]) : runS s_qodd_deed [.lst false (drL s), .d (.str (Str.ofString "ab"))] k := by
  refine ⟨rfl, ?_⟩
  show r_qodd_deed _ [.lst false (drL s), .d (.str (Str.ofString "ab")), .un]
  unfold r_qodd_deed
  walk_at "x"
  refine ⟨by decide +kernel, ?_⟩
  refine next_wp (by omega) (by omega) fun q s1 q0 q1 => ?_
  walk_at "x"
  refine onO_all (p := oddB) q0 (by simp only [List.length_cons, List.length_nil]; omega) (by decide +kernel) fun o ho => ?_
  exact h o s1 ho

end Cl

namespace Cl
open PySem PySem.Spec PyProof.Rows L2 DL
/-! ### k11: odd deals -/
def badDeal (o : PyData) : Prop := dealB o = false ∧ okDeal o ∧ lensD o
def nt (x : PyData) : Prop := ∀ es, x ≠ .tuple es
def goodActs (ds : PyData) : Prop := ∀ es, ds = .tuple es → es.length ≤ 1000 ∧ ∀ e ∈ es, okDeed e ∧ ∀ zs, e = .tuple zs → zs.length ≤ 1000
theorem bad5 {a f l ds k : PyData} (ha : nt a) (hf : nt f) (hl : nt l) (hk : nt k) (hs : shp k = true) (hd : goodActs ds) (h : dealB (.tuple [a, f, l, ds, k]) = false) : badDeal (.tuple [a, f, l, ds, k]) := by
  refine ⟨h, fun a' f' l' ds' k' e => ?_, fun ys e => ?_⟩
  · cases e
    exact ⟨.inl hs, fun es e x hx => ((hd es e).2 x hx).1⟩
  · cases e
    refine ⟨(by decide : 5 ≤ 1000), fun es hes => ?_⟩
    simp only [List.mem_cons, List.not_mem_nil, or_false] at hes
    rcases hes with e | e | e | e | e
    · exact absurd e.symm (ha es)
    · exact absurd e.symm (hf es)
    · exact absurd e.symm (hl es)
    · obtain ⟨h1, h2⟩ := hd es e.symm
      exact ⟨h1, fun zs hz => (h2 _ hz).2 zs rfl⟩
    · exact absurd e.symm (hk es)
theorem badNt {x : PyData} (h : nt x) : badDeal x := by
  refine ⟨?_, fun a f l ds k e => absurd e (h _), fun ys e => absurd e (h _)⟩
  cases x with
  | tuple es => exact absurd rfl (h es)
  | _ => rfl
theorem nt_int (i : Int) : nt (.int i) := fun es z => nomatch z
theorem nt_str (i : Str) : nt (.str i) := fun es z => nomatch z
theorem nt_bool (i : Bool) : nt (.bool i) := fun es z => nomatch z
theorem nt_none : nt .none := fun es z => nomatch z
theorem nt_list (i : List PyData) : nt (.list i) := fun es z => nomatch z
theorem nt_dict (i : List (PyData × PyData)) : nt (.dict i) := fun es z => nomatch z
theorem ga_no {ds : PyData} (h : nt ds) : goodActs ds := fun es e => absurd e (h es)
structure DealG (d : Deal) : Prop where
  dl : d.deeds.length ≤ 8
  kl : ∀ e ∈ d.deeds, e.key.length ≤ 1000
  lt : d.first < d.last
theorem okDeed_enc {e : Deed} (h : e.key.length ≤ 1000) : okDeed e.enc ∧ ∀ zs, e.enc = .tuple zs → zs.length ≤ 1000 := by
  refine ⟨fun a b c z => ?_, fun zs z => ?_⟩
  · cases z
    exact ⟨.inl rfl, fun s z => by cases z; exact h⟩
  · cases z
    exact (by decide : 3 ≤ 1000)
theorem ga_acts {d : Deal} (h : DealG d) : goodActs (.tuple (d.deeds.map Deed.enc)) := fun es e => by
  cases e
  refine ⟨by rw [List.length_map]; have := h.dl; omega, fun x hx => ?_⟩
  obtain ⟨y, hy, rfl⟩ := List.mem_map.mp hx
  exact okDeed_enc (h.kl y hy)
theorem cut5_1 {a b c d e : PyData} : DL.cutD [a, b, c, d, e] (some 1) none = [b, c, d, e] := rfl
theorem cut5_4 {a b c d e : PyData} : DL.cutD [a, b, c, d, e] none (some 4) = [a, b, c, d] := rfl
theorem onO_mem {xs : List PyData} {q : Int} {Q : PyData → Prop} (h0 : 0 ≤ q) (h1 : q < xs.length) (h : ∀ o ∈ xs, Q o) : onO (atI xs q) Q := by
  obtain ⟨o, eo, mo, _⟩ := at_nat h0 h1
  exact onO_of eo (h o mo)
theorem deal_eq {a f l ds k : PyData} : dealB (.tuple [a, f, l, ds, k]) = (inD k (fates.map .str) && (numB a 0 4 && (spanB f l && actsB ds))) := rfl
theorem span_ge {i j : Int} (h : j ≤ i) : spanB (.int i) (.int j) = false := by
  show (numB (.int i) 0 9999 && (numB (.int j) 0 9999 && decide (i < j))) = false
  rw [decide_eq_false (by omega), Bool.and_false, Bool.and_false]
theorem sh_fate (b : Bool) : shp (.str (fate b)) = true := rfl
theorem acts_long {es : List PyData} (h : 8 < es.length) : actsB (.tuple es) = false := by
  show (decide ((es.length : Int) ≤ 8) && es.all deedB) = false
  rw [decide_eq_false (by omega)]
  rfl
theorem cutD_mem {xs : List PyData} {lo hi : Option Int} {x : PyData} (h : x ∈ DL.cutD xs lo hi) : x ∈ xs := by
  unfold DL.cutD at h
  exact List.mem_of_mem_drop (List.mem_of_mem_take h)
theorem badLen {ys : List PyData} (hn : ys.length ≠ 5) (hl : ys.length ≤ 1000) (h : ∀ y ∈ ys, goodActs y) : badDeal (.tuple ys) := by
  refine ⟨?_, fun a f l ds k e => ?_, fun ys' e => ?_⟩
  · match ys, hn with
    | [a, b, c, d, e], hn => exact absurd rfl hn
    | [], _ => rfl
    | [_], _ => rfl
    | [_, _], _ => rfl
    | [_, _, _], _ => rfl
    | [_, _, _, _], _ => rfl
    | _ :: _ :: _ :: _ :: _ :: _ :: _, _ => rfl
  · cases e; exact absurd rfl hn
  · cases e
    refine ⟨hl, fun es hes => ?_⟩
    obtain ⟨h1, h2⟩ := h _ hes es rfl
    exact ⟨h1, fun zs hz => (h2 _ hz).2 zs rfl⟩
theorem inK1 : inD (.str (Str.ofString "Kept")) (fates.map .str) = false := by decide +kernel
theorem inK2 : inD .none (fates.map .str) = false := by decide +kernel
theorem inK3 : inD (.list [.str (Str.ofString "kept")]) (fates.map .str) = false := by decide +kernel
theorem inK4 : inD (.str (Str.ofString "")) (fates.map .str) = false := by decide +kernel
theorem n_0 : numB (.int 5) 0 4 = false := rfl
theorem n_1 : numB (.int (-1)) 0 4 = false := rfl
theorem n_2 : numB (.bool true) 0 4 = false := rfl
theorem n_3 : numB (.str (Str.ofString "0")) 0 4 = false := rfl
theorem n_4 {x : PyData} : spanB x (.int 10000) = false := by rw [spanB_eq, show numB (.int 10000) 0 9999 = false from rfl, Bool.false_and, Bool.and_false]
theorem n_5 {x : PyData} : spanB (.int (-1)) x = false := by rw [spanB_eq, show numB (.int (-1)) 0 9999 = false from rfl, Bool.false_and]
theorem n_6 {x : PyData} : spanB .none x = false := by rw [spanB_eq, show numB .none 0 9999 = false from rfl, Bool.false_and]
theorem n_7 {x : PyData} : spanB x (.str (Str.ofString "9")) = false := by rw [spanB_eq, show numB (.str (Str.ofString "9")) 0 9999 = false from rfl, Bool.false_and, Bool.and_false]
theorem n_8 {xs : List PyData} : actsB (.list xs) = false := rfl
theorem n_9 : actsB .none = false := rfl
theorem oddB_ok {o : PyData} (h : oddB o = true) : deedB o = false ∧ okDeed o ∧ ∀ zs, o = .tuple zs → zs.length ≤ 1000 := by
  unfold oddB at h
  rw [Bool.and_eq_true, Bool.and_eq_true] at h
  exact ⟨by simpa using h.1, okDeedB_ok h.2.1, fun zs e => by subst e; exact of_decide_eq_true h.2.2⟩
theorem ga_of {es : List PyData} (hl : es.length ≤ 1000) (h : ∀ e ∈ es, okDeed e ∧ ∀ zs, e = .tuple zs → zs.length ≤ 1000) : goodActs (.tuple es) := fun es' e => by cases e; exact ⟨hl, h⟩
theorem bad_put {d : Deal} (hd : DealG d) {xs ys : List PyData} {o : PyData} (ho : oddB o = true) (hx : ∀ x ∈ xs, x ∈ d.deeds.map Deed.enc) (hy : ∀ x ∈ ys, x ∈ d.deeds.map Deed.enc) (hl : xs.length + ys.length ≤ 900) :
    badDeal (.tuple [.int d.hand, .int d.first, .int d.last, .tuple (xs ++ o :: ys), .str (fate d.kept)]) := by
  obtain ⟨o1, o2, o3⟩ := oddB_ok ho
  have hg := ga_acts hd _ rfl
  refine bad5 (nt_int _) (nt_int _) (nt_int _) (nt_str _) (sh_fate _) (ga_of (by rw [List.length_append, List.length_cons]; omega) fun e he => ?_) ?_
  · rcases List.mem_append.mp he with he | he
    · exact hg.2 e (hx e he)
    · rcases List.mem_cons.mp he with rfl | he
      · exact ⟨o2, o3⟩
      · exact hg.2 e (hy e he)
  · have : actsB (.tuple (xs ++ o :: ys)) = false := by
      show (decide (((xs ++ o :: ys).length : Int) ≤ 8) && (xs ++ o :: ys).all deedB) = false
      rw [List.all_append, List.all_cons, o1, Bool.false_and, Bool.and_false, Bool.and_false]
    rw [deal_eq, this, Bool.and_false, Bool.and_false, Bool.and_false]
local macro_rules | `(tactic| walk_at "x") => `(tactic| (refine ev_of ?_; simp only [ap_seq, ap_next, ap_brk, ap_cnt, ap_expr, ap_ret, ap_retN, ap_if, ap_asg, ap_set, ap_seti, ap_par, ap_dput, ap_forL, ap_forT, ap_forR, ap_while, ap_nm, ap_gtp, ap_gnil, ap_gcons, ap_var, ap_c, ap_op, ap_un, ap_test, ap_and, ap_or, ap_not, ap_yes, ap_andV, ap_orV, ap_notV, ap_ifE, ap_anil, ap_acons, ap_fnil, ap_fcons, ap_tup, ap_lst, ap_dct, ap_cb, ap_isi, ap_sl, ap_nopart, ap_part, ap_lstrg, ap_mut, ap_call, ap_callS, ap_din, ap_lcL, ap_lcT, ap_lcR, ap_lcB, ap_forB, ap_lcnil, ap_lccons, wp_nil, wp_cons, rs_nil, rs_cons, kp_d, kp_un, eq_self,
  ev_ev, kd_i, kd_s, if_true, if_false, Bool.false_eq_true, Bool.not_true, Bool.not_false, List.isEmpty_nil, List.isEmpty_cons, ev_and, ev_t, ev_f, ev_s, k_I0, k_I, k_EqL0, k_EqT0, k_EqLT, k_EqTL, k_EqI, k_EqB, k_EqS, k_EqN, k_EqLc, k_EqTc, id_eq, k_IsN, k_InL, k_InT, k_Cat, k_IxL, k_IxT, k_LenL, k_LenT, k_ListL, k_ListT, k_TupleL, k_TupleT, k_I2, k_Abs, k_Neg, k_App, k_PopAt, lk_0, lk_s, pt_0, pt_s, peekAll, sh_int, sh_none, sh_bool, sh_nil, sh_nilT, sh_ints, eqv_int, eqv_ss, eqv_bool, eqv_nil, at0, at1, at2, at3, ixN1, List.length_cons, List.length_nil, List.set_cons_succ, List.set_cons_zero, true_and, and_true, List.map_cons, List.map_nil, List.nil_append, List.cons_append, flatD, List.length_map, flat_ints, in_ints, ap_rev, ap_chain, ap_lcS, k_IsB, k_IntI, k_IntB, k_CatT, k_Rep, k_InS, k_LenS,
  ap_revA, ap_slA, ap_joinC, k_SlL, k_SlT, k_SlS, k_CatS, k_RepS, k_AxL, k_AxT, k_AxS, k_StrI, ap_forA, ap_lcA, it_L, it_T, it_S, k_AdI, k_AdL, k_AdT, k_AdS, k_MuI, k_MuL, k_MuS, Nat.zero_le, kit_tuple, kit_list, kit_str, kit_int, kit_bool, kit_dict, isN_none, isN_bool, isN_int, isN_str, isN_list, isN_tuple, isN_dict, isTup_none, isTup_bool, isTup_int, isTup_str, isTup_list, isTup_tuple, isTup_dict, isLst_none, isLst_bool, isLst_int, isLst_str, isLst_list, isLst_tuple, isLst_dict, isStr_none, isStr_bool, isStr_int, isStr_str, isStr_list, isStr_tuple, isStr_dict, isInt_none, isInt_bool, isInt_int, isInt_str, isInt_list, isInt_tuple, isInt_dict, isBool_none, isBool_bool, isBool_int, isBool_str, isBool_list, isBool_tuple, isBool_dict, isDict_none, isDict_bool, isDict_int, isDict_str, isDict_list, isDict_tuple, isDict_dict, dec_tt, dec_ft, dec_tf, dec_ff, dec_T, dec_F, ap_mF, ap_callM, ap_callX, ap_callXn, ap_raise, ap_exprX, ap_retX, ap_setX, ap_try, ap_isx, ap_isNx, nx_ex, nx_new, nx_d, fx_ex, fx_d, fx_new, fx_bor, DL.pa_nil, DL.pa_cons, bk_nil, bk_cons, bk1, ap_meth, ap_meth0, ap_gtpAt, ap_gtpAl, tyM_L, tyM_S, k_InAL, k_InAT, k_SortD, k_Count, sh_str, sh_strs, sh_bools, eqv_strs, eqv_bools, eqv_ints, List.filterMap_cons, List.filterMap_nil, List.nodup_nil, Nat.reduceAdd, Nat.reduceLeDiff, k_EqStrs, k_EqBools, k_EqInts, ap_forI, ap_lcI, ap_enu, ap_enu1, nd1, ap_ixA, ap_ixP, ap_ixD, ap_ixW, ap_ixB, ap_lenA, ap_lenP, ap_lenD, ap_lenW, ap_lenB, ixZ, ixT, ixL, List.getElem?_cons_zero, List.getElem?_cons_succ, ap_stX, ap_stb, ap_stp, ap_appN, ap_setN, ap_forX, ap_lcXA, ap_lcXR, ap_dgx, ap_dlen, ap_eq0, ap_dpop, ap_orL, ap_andL, getN, setN, fzAll, flatN, peekN, truL, resN_fz, pk_d, pk_new, pk_bor, pk_bp, pk_nt, fz_d, fz_dk, fz_new, fz_bor, fz_bp, fz_nt, so_new, so_dk, so_v, so_nt, so_bp, so_ex, so_d, so_bor, ub_d, ub_new, ub_dk, ub_nt, ub_ex, ub_bor, ub_bp, na_bp, na_d, na_new, na_bor, na_nt, an_nt, an_d, an_bor, pn_bp, ad_bp, kd_bp, sk_d, sk_bp, sc_bp, sc_d, sc_new, sc_bor, ps_d, ps_ex, ps_bor, ps_bp, sl_d, sl_ex, sl_bor, sl_bp, ap_dsortI, ap_callW, ap_cW, ap_appu, an_ev, Option.any_some, at4, fate_e1, fate_e2, Deed.enc, Deal.enc, encT, srt_e1, srt_e2, Option.map_some, Option.map_none, Option.isSome_some, Option.isSome_none, encO, ap_augL, ap_augD, ap_nil3, k_MuT, xi_IsYes_NoHistory, xi_NoDeal_NoHistory, xi_NoHands_NoHistory, xi_NoHistory_NoHistory, xi_NoKind_NoHistory, xi_NoLog_NoHistory, xi_NoOrders_NoHistory, xi_NoStore_NoHistory, xi_NoText_NoHistory, xi_NotSound_NoHistory, xi_TooMany_NoHistory, xi_ValueError_NoHistory, xc_CourtError_NoHistory, k_Index, cut5_1, cut5_4]))
local macro_rules | `(tactic| walk_at "s") => `(tactic| (repeat with_reducible refine And.intro (by first | assumption | omega | exact True.intro | rfl | (simp; done) | (simp; omega) | decide) ?_))

theorem qodd_deal_wp {s : Dr} {d : Deal} (hd : DealG d) {k : Vl → List Sl → Prop} (h : ∀ o s', badDeal o → k (.d o) [.lst false (drL s'), .un]) : runS s_qodd_deal [.lst false (drL s), .d d.enc] k := by
  refine ⟨rfl, ?_⟩
  show r_qodd_deal _ [.lst false (drL s), .d d.enc, .un, .un, .un, .un, .un, .un, .un, .un, .un]
  unfold r_qodd_deal
  walk_at "x"
  have dl := hd.dl
  refine ⟨by decide, ⟨by simp, by decide, by decide⟩, by show _ + 9 ≤ _; omega, by decide, by decide, ?_⟩
  refine next_wp (by omega) (by omega) fun q s1 q0 q1 => ?_
  walk_at "x"
  refine onB_dec (fun qw => ?_) fun qw => ?_
  · walk_at "x"
    refine onO_mem q0 (by simp only [List.length_cons, List.length_nil]; omega) fun o ho => h o s1 ?_
    have hg := ga_acts hd
    simp only [List.mem_cons, List.not_mem_nil, or_false] at ho
    rcases ho with rfl | rfl | rfl | rfl | rfl | rfl | rfl | rfl | rfl | rfl | rfl | rfl | rfl | rfl | rfl | rfl | rfl | rfl | rfl | rfl | rfl | rfl | rfl | rfl | rfl
    · exact badNt (nt_list _)
    · exact badLen (by simp) (by simp) fun y hy => by
        simp only [List.mem_cons, List.not_mem_nil, or_false] at hy
        rcases hy with rfl | rfl | rfl | rfl
        · exact ga_no (nt_int _)
        · exact ga_no (nt_int _)
        · exact ga_no (nt_int _)
        · exact hg
    · exact badLen (by simp) (by simp) fun y hy => by
        simp only [List.mem_cons, List.not_mem_nil, or_false] at hy
        rcases hy with rfl | rfl | rfl | rfl | rfl | rfl
        · exact ga_no (nt_int _)
        · exact ga_no (nt_int _)
        · exact ga_no (nt_int _)
        · exact hg
        · exact ga_no (nt_str _)
        · exact ga_no (nt_int _)
    · exact bad5 (nt_int _) (nt_int _) (nt_int _) (nt_str _) (sh_fate _) hg (by rw [deal_eq, n_0, Bool.false_and, Bool.and_false])
    · exact bad5 (nt_int _) (nt_int _) (nt_int _) (nt_str _) (sh_fate _) hg (by rw [deal_eq, n_1, Bool.false_and, Bool.and_false])
    · exact bad5 (nt_bool _) (nt_int _) (nt_int _) (nt_str _) (sh_fate _) hg (by rw [deal_eq, n_2, Bool.false_and, Bool.and_false])
    · exact bad5 (nt_str _) (nt_int _) (nt_int _) (nt_str _) (sh_fate _) hg (by rw [deal_eq, n_3, Bool.false_and, Bool.and_false])
    · exact bad5 (nt_int _) (nt_int _) (nt_int _) (nt_str _) (sh_fate _) hg (by rw [deal_eq, span_ge (by have := hd.lt; omega), Bool.false_and, Bool.and_false, Bool.and_false])
    · exact bad5 (nt_int _) (nt_int _) (nt_int _) (nt_str _) (sh_fate _) hg (by rw [deal_eq, span_ge (Int.le_refl _), Bool.false_and, Bool.and_false, Bool.and_false])
    · exact bad5 (nt_int _) (nt_int _) (nt_int _) (nt_str _) (sh_fate _) hg (by rw [deal_eq, n_4, Bool.false_and, Bool.and_false, Bool.and_false])
    · exact bad5 (nt_int _) (nt_int _) (nt_int _) (nt_str _) (sh_fate _) hg (by rw [deal_eq, n_5, Bool.false_and, Bool.and_false, Bool.and_false])
    · exact bad5 (nt_int _) nt_none (nt_int _) (nt_str _) (sh_fate _) hg (by rw [deal_eq, n_6, Bool.false_and, Bool.and_false, Bool.and_false])
    · exact bad5 (nt_int _) (nt_int _) (nt_str _) (nt_str _) (sh_fate _) hg (by rw [deal_eq, n_7, Bool.false_and, Bool.and_false, Bool.and_false])
    · exact bad5 (nt_int _) (nt_int _) (nt_int _) (nt_str _) (sh_fate _) (ga_no (nt_list _)) (by rw [deal_eq, n_8, Bool.and_false, Bool.and_false, Bool.and_false])
    · exact bad5 (nt_int _) (nt_int _) (nt_int _) (nt_str _) (sh_fate _) (ga_no nt_none) (by rw [deal_eq, n_9, Bool.and_false, Bool.and_false, Bool.and_false])
    · exact bad5 (nt_int _) (nt_int _) (nt_int _) (nt_str _) rfl hg (by rw [deal_eq, inK1, Bool.false_and])
    · exact bad5 (nt_int _) (nt_int _) (nt_int _) nt_none rfl hg (by rw [deal_eq, inK2, Bool.false_and])
    · exact bad5 (nt_int _) (nt_int _) (nt_int _) (nt_list _) rfl hg (by rw [deal_eq, inK3, Bool.false_and])
    · exact badNt nt_none
    · exact badNt (nt_int _)
    · exact badNt (nt_str _)
    · exact badLen (by decide) (by decide) fun y hy => nomatch hy
    · exact badNt (nt_dict _)
    · have l9 : (DL.cutD (d.deeds.map Deed.enc ++ (List.replicate (Int.toNat 9) [PyData.tuple [.str (Str.ofString "read"), .str (Str.ofString "a"), .int 0]]).flatten) none (some 9)).length = 9 := by
        unfold DL.cutD
        rw [HT.sIx_none, show (9 : Int) = ((9 : Nat) : Int) from rfl, HT.sIx_nat, List.drop_zero, List.length_take, List.length_append]
        show min (min 9 (_ + 9) - 0) (_ + 9) = 9
        omega
      refine bad5 (nt_int _) (nt_int _) (nt_int _) (nt_str _) (sh_fate _) (ga_of (by omega) fun e he => ?_) (by rw [deal_eq, acts_long (by omega), Bool.and_false, Bool.and_false, Bool.and_false])
      rcases List.mem_append.mp (cutD_mem he) with he | he
      · exact (hg _ rfl).2 e he
      · have : e = .tuple [.str (Str.ofString "read"), .str (Str.ofString "a"), .int 0] := by
          have he : e ∈ List.replicate 9 (PyData.tuple [.str (Str.ofString "read"), .str (Str.ofString "a"), .int 0]) := he
          exact (List.mem_replicate.mp he).2
        subst this
        exact ⟨okDeedB_ok rfl, fun zs z => by cases z; exact (by decide : 3 ≤ 1000)⟩
    · exact bad5 (nt_int _) (nt_int _) (nt_int _) (nt_str _) rfl hg (by rw [deal_eq, inK4, Bool.false_and])
  · walk_at "x"
    refine next_wp (by omega) (by omega) fun at_ s2 a0 a1 => ?_
    walk_at "x"
    refine qodd_deed_wp fun o s3 ho => ?_
    walk_at "x"
    refine onB_beq (fun q8 => ?_) fun q8 => ?_
    · walk_at "x"
      refine next_wp (by omega) (by omega) fun at2 s4 b0 b1 => ?_
      walk_at "x"
      have c1 := cutD_len (d.deeds.map Deed.enc) none (some at2)
      have c2 := cutD_len (d.deeds.map Deed.enc) (some (at2 + 1)) none
      rw [List.length_map] at c1 c2
      refine ⟨by omega, by rw [List.length_append]; show _ + 1 + _ ≤ _; omega, ?_⟩
      rw [List.append_assoc, List.cons_append, List.nil_append]
      exact h _ _ (bad_put hd ho (fun x hx => cutD_mem hx) (fun x hx => cutD_mem hx) (by omega))
    · walk_at "x"
      have c1 := cutD_len (d.deeds.map Deed.enc) none (some at_)
      have c2 := cutD_len (d.deeds.map Deed.enc) (some at_) none
      rw [List.length_map] at c1 c2
      refine ⟨by omega, by rw [List.length_append]; show _ + 1 + _ ≤ _; omega, ?_⟩
      rw [List.append_assoc, List.cons_append, List.nil_append]
      exact h _ _ (bad_put hd ho (fun x hx => cutD_mem hx) (fun x hx => cutD_mem hx) (by omega))

end Cl

namespace Cl
open PySem PySem.Spec PyProof.Rows L2 DL
/-! ### the law of k11 -/
local macro_rules | `(tactic| walk_at "x") => `(tactic| (refine ev_of ?_; simp only [ap_seq, ap_next, ap_brk, ap_cnt, ap_expr, ap_ret, ap_retN, ap_if, ap_asg, ap_set, ap_seti, ap_par, ap_dput, ap_forL, ap_forT, ap_forR, ap_while, ap_nm, ap_gtp, ap_gnil, ap_gcons, ap_var, ap_c, ap_op, ap_un, ap_test, ap_and, ap_or, ap_not, ap_yes, ap_andV, ap_orV, ap_notV, ap_ifE, ap_anil, ap_acons, ap_fnil, ap_fcons, ap_tup, ap_lst, ap_dct, ap_cb, ap_isi, ap_sl, ap_nopart, ap_part, ap_lstrg, ap_mut, ap_call, ap_callS, ap_din, ap_lcL, ap_lcT, ap_lcR, ap_lcB, ap_forB, ap_lcnil, ap_lccons, wp_nil, wp_cons, rs_nil, rs_cons, kp_d, kp_un, eq_self,
  ev_ev, kd_i, kd_s, if_true, if_false, Bool.false_eq_true, Bool.not_true, Bool.not_false, List.isEmpty_nil, List.isEmpty_cons, ev_and, ev_t, ev_f, ev_s, k_I0, k_I, k_EqL0, k_EqT0, k_EqLT, k_EqTL, k_EqI, k_EqB, k_EqS, k_EqN, k_EqLc, k_EqTc, id_eq, k_IsN, k_InL, k_InT, k_Cat, k_IxL, k_IxT, k_LenL, k_LenT, k_ListL, k_ListT, k_TupleL, k_TupleT, k_I2, k_Abs, k_Neg, k_App, k_PopAt, lk_0, lk_s, pt_0, pt_s, peekAll, sh_int, sh_none, sh_bool, sh_nil, sh_nilT, sh_ints, eqv_int, eqv_ss, eqv_bool, eqv_nil, at0, at1, at2, at3, ixN1, List.length_cons, List.length_nil, List.set_cons_succ, List.set_cons_zero, true_and, and_true, List.map_cons, List.map_nil, List.nil_append, List.cons_append, flatD, List.length_map, flat_ints, in_ints, ap_rev, ap_chain, ap_lcS, k_IsB, k_IntI, k_IntB, k_CatT, k_Rep, k_InS, k_LenS,
  ap_revA, ap_slA, ap_joinC, k_SlL, k_SlT, k_SlS, k_CatS, k_RepS, k_AxL, k_AxT, k_AxS, k_StrI, ap_forA, ap_lcA, it_L, it_T, it_S, k_AdI, k_AdL, k_AdT, k_AdS, k_MuI, k_MuL, k_MuS, Nat.zero_le, kit_tuple, kit_list, kit_str, kit_int, kit_bool, kit_dict, isN_none, isN_bool, isN_int, isN_str, isN_list, isN_tuple, isN_dict, isTup_none, isTup_bool, isTup_int, isTup_str, isTup_list, isTup_tuple, isTup_dict, isLst_none, isLst_bool, isLst_int, isLst_str, isLst_list, isLst_tuple, isLst_dict, isStr_none, isStr_bool, isStr_int, isStr_str, isStr_list, isStr_tuple, isStr_dict, isInt_none, isInt_bool, isInt_int, isInt_str, isInt_list, isInt_tuple, isInt_dict, isBool_none, isBool_bool, isBool_int, isBool_str, isBool_list, isBool_tuple, isBool_dict, isDict_none, isDict_bool, isDict_int, isDict_str, isDict_list, isDict_tuple, isDict_dict, dec_tt, dec_ft, dec_tf, dec_ff, dec_T, dec_F, ap_mF, ap_callM, ap_callX, ap_callXn, ap_raise, ap_exprX, ap_retX, ap_setX, ap_try, ap_isx, ap_isNx, nx_ex, nx_new, nx_d, fx_ex, fx_d, fx_new, fx_bor, DL.pa_nil, DL.pa_cons, bk_nil, bk_cons, bk1, ap_meth, ap_meth0, ap_gtpAt, ap_gtpAl, tyM_L, tyM_S, k_InAL, k_InAT, k_SortD, k_Count, sh_str, sh_strs, sh_bools, eqv_strs, eqv_bools, eqv_ints, List.filterMap_cons, List.filterMap_nil, List.nodup_nil, Nat.reduceAdd, Nat.reduceLeDiff, k_EqStrs, k_EqBools, k_EqInts, ap_forI, ap_lcI, ap_enu, ap_enu1, nd1, ap_ixA, ap_ixP, ap_ixD, ap_ixW, ap_ixB, ap_lenA, ap_lenP, ap_lenD, ap_lenW, ap_lenB, ixZ, ixT, ixL, List.getElem?_cons_zero, List.getElem?_cons_succ, ap_stX, ap_stb, ap_stp, ap_appN, ap_setN, ap_forX, ap_lcXA, ap_lcXR, ap_dgx, ap_dlen, ap_eq0, ap_dpop, ap_orL, ap_andL, getN, setN, fzAll, flatN, peekN, truL, resN_fz, pk_d, pk_new, pk_bor, pk_bp, pk_nt, fz_d, fz_dk, fz_new, fz_bor, fz_bp, fz_nt, so_new, so_dk, so_v, so_nt, so_bp, so_ex, so_d, so_bor, ub_d, ub_new, ub_dk, ub_nt, ub_ex, ub_bor, ub_bp, na_bp, na_d, na_new, na_bor, na_nt, an_nt, an_d, an_bor, pn_bp, ad_bp, kd_bp, sk_d, sk_bp, sc_bp, sc_d, sc_new, sc_bor, ps_d, ps_ex, ps_bor, ps_bp, sl_d, sl_ex, sl_bor, sl_bp, ap_dsortI, ap_callW, ap_cW, ap_appu, an_ev, Option.any_some, at4, fate_e1, fate_e2, Deed.enc, Deal.enc, encT, srt_e1, srt_e2, Option.map_some, Option.map_none, Option.isSome_some, Option.isSome_none, encO, ap_augL, ap_augD, ap_nil3, k_MuT, xi_IsYes_NoHistory, xi_NoDeal_NoHistory, xi_NoHands_NoHistory, xi_NoHistory_NoHistory, xi_NoKind_NoHistory, xi_NoLog_NoHistory, xi_NoOrders_NoHistory, xi_NoStore_NoHistory, xi_NoText_NoHistory, xi_NotSound_NoHistory, xi_TooMany_NoHistory, xi_ValueError_NoHistory, xc_CourtError_NoHistory, k_Index, cut5_1, cut5_4]))
local macro_rules | `(tactic| walk_at "s") => `(tactic| (repeat with_reducible refine And.intro (by first | assumption | omega | exact True.intro | rfl | (simp; done) | (simp; omega) | decide) ?_))

theorem let_low {s : Str} (h : KeyT s) : keyB (.str s) = true := by
  show (decide (1 ≤ (s.length : Int)) && decide ((s.length : Int) ≤ 4) && s.cps.toList.all fun c => decide (c ∈ letters.cps.toList)) = true
  obtain ⟨⟨h1, h2⟩, h3⟩ := h
  rw [decide_eq_true (by omega), decide_eq_true (by omega), Bool.true_and, Bool.true_and, List.all_eq_true]
  intro c hc
  have := h3 c hc
  have hl : letters.cps.toList = (List.range 26).map (· + 97) := by decide +kernel
  rw [hl]
  refine decide_eq_true (List.mem_map.mpr ⟨c - 97, List.mem_range.mpr (by omega), by show c - 97 + 97 = c; omega⟩)
theorem key_long {s : Str} (h : 4 < s.length) : keyB (.str s) = false := by
  show (decide (1 ≤ (s.length : Int)) && decide ((s.length : Int) ≤ 4) && _) = false
  rw [decide_eq_false (show ¬ (s.length : Int) ≤ 4 by omega), Bool.and_false, Bool.false_and]
theorem key_odd {a : Str} : keyB (.str (a ++ Str.ofString "_")) = false := by
  show (_ && (a ++ Str.ofString "_").cps.toList.all fun c => decide (c ∈ letters.cps.toList)) = false
  have e : (a ++ Str.ofString "_").cps.toList = a.cps.toList ++ [95] := Array.toList_append
  rw [e, List.all_append, show ([95].all fun c => decide (c ∈ letters.cps.toList)) = false by decide +kernel, Bool.and_false, Bool.and_false]
theorem okS_len {s : Str} (h : s.length ≤ 1000) : okS (.str s) := fun t e => by cases e; exact h
theorem okS_no {x : PyData} (h : ∀ s, x ≠ .str s) : okS x := fun t e => absurd e (h t)
theorem qkeys_told_wp {s : Dr} {k : Vl → List Sl → Prop} (h : ∀ s', k (.d (.bool true)) [.lst false (drL s')]) : runS s_qkeys_told [.lst false (drL s)] k := by
  refine ⟨rfl, ?_⟩
  show r_qkeys_told _ [.lst false (drL s), .un, .un, .un, .un, .un]
  unfold r_qkeys_told
  walk_at "x"
  refine next_wp (by omega) (by omega) fun n s1 n0 n1 => ?_
  walk_at "x"
  refine ⟨by omega, by omega, of_ev ?_⟩
  refine lcx_inv (N := (1 + n).toNat) (I := fun i acc ε => ∃ (s : Dr) (zs : List Str), ε = [.lst false (drL s), .d (.str (Str.ofString "abcdefghijklmnopqrstuvwxyz")), .un, .un, .un, .un] ∧ acc = (zs.map PyData.str).map .fz ∧ zs.length = i ∧ ∀ t ∈ zs, ∃ c, t = ⟨#[c]⟩ ∧ 97 ≤ c ∧ c ≤ 122) (by omega) (fun _ _ _ _ => rfl) (fun i acc ε hi hI => ⟨_, rfl, fun C hC => ?_⟩) _ 0 [] _ (by omega) rfl ⟨s1, [], rfl, rfl, rfl, fun p hp => nomatch hp⟩ fun acc ε ha hI D => ?_
  · obtain ⟨s2, zs, rfl, rfl, hzl, hz⟩ := hI
    walk_at "x"
    refine next_wp (by omega) (by omega) fun r s3 r0 r1 => ?_
    walk_at "x"
    obtain ⟨c, ec, hc⟩ := at_letters r0 r1
    refine ⟨by decide +kernel, onO_of ec ?_⟩
    refine hC _ _ ⟨s3, zs ++ [⟨#[c]⟩], rfl, by rw [List.map_append, List.map_append]; rfl, by rw [List.length_append, hzl]; rfl, fun t ht => ?_⟩
    rcases List.mem_append.mp ht with ht | ht
    · exact hz t ht
    · rw [List.mem_singleton.mp ht]; exact ⟨c, rfl, hc⟩
  · obtain ⟨s2, zs, rfl, rfl, hzl, hz⟩ := hI
    obtain ⟨b1, b2, b3⟩ := join_low hz
    rw [resN_fz]
    walk_at "x"
    refine ⟨zs, rfl, by rw [b3]; omega, ?_⟩
    generalize Txt.join (Str.ofString "") zs = g at b1 b2 ⊢
    walk_at "x"
    have lg : 1 ≤ g.length ∧ g.length ≤ 4 := by omega
    have lc := cutS_length g none (some 3)
    refine ⟨by show _ + 4 ≤ _; omega, by omega, by show _ + 1 ≤ _; omega, ?_⟩
    refine next_wp (by omega) (by omega) fun q s3 q0 q1 => ?_
    walk_at "x"
    refine onO_mem q0 (by simp only [List.length_cons, List.length_nil]; omega) fun o ho => ?_
    have hb : keyB o = false ∧ okS o := by
      simp only [List.mem_cons, List.not_mem_nil, or_false] at ho
      rcases ho with rfl | rfl | rfl | rfl | rfl | rfl | rfl | rfl | rfl | rfl | rfl | rfl
      · exact ⟨by decide +kernel, okS_len (by decide +kernel)⟩
      · exact ⟨key_long (by rw [len_app]; show 4 < _ + 4; omega), okS_len (by rw [len_app]; show _ + 4 ≤ _; omega)⟩
      · exact ⟨by decide +kernel, okS_len (by decide +kernel)⟩
      · exact ⟨by decide +kernel, okS_len (by decide +kernel)⟩
      · exact ⟨by decide +kernel, okS_len (by decide +kernel)⟩
      · exact ⟨rfl, okS_no fun _ z => nomatch z⟩
      · exact ⟨rfl, okS_no fun _ z => nomatch z⟩
      · exact ⟨rfl, okS_no fun _ z => nomatch z⟩
      · exact ⟨rfl, okS_no fun _ z => nomatch z⟩
      · exact ⟨rfl, okS_no fun _ z => nomatch z⟩
      · exact ⟨by decide +kernel, okS_len (by decide +kernel)⟩
      · exact ⟨key_odd, okS_len (by rw [len_app]; show _ + 1 ≤ _; omega)⟩
    clear ho
    walk_at "x"
    refine is_key_wp (okS_len (by omega)) fun _ => ?_
    rw [let_low ⟨lg, b2⟩]
    walk_at "x"
    refine is_key_wp hb.2 fun _ => ?_
    rw [hb.1]
    walk_at "x"
    exact h s3

end Cl

namespace Cl
open PySem PySem.Spec PyProof.Rows L2 DL
/-! ### k11: the drawn history is one -/
theorem addAll_ndG {α : Type} [DecidableEq α] : ∀ {D ks : List α}, (ks ++ D).Nodup → (addAll ks D).length = ks.length + D.length
  | [], ks, _ => rfl
  | d :: D, ks, h => by
    have h2 : d ∉ ks := fun q => (List.nodup_append.mp h).2.2 d q d List.mem_cons_self rfl
    have e : addK ks d = d :: ks := by unfold addK; rw [if_neg h2]
    show (addAll (addK ks d) D).length = _
    rw [e]
    have p : (d :: ks ++ D).Perm (ks ++ d :: D) := List.perm_middle.symm
    rw [addAll_ndG (p.nodup_iff.mpr h), List.length_cons, List.length_cons]
    omega
theorem unlike_nd {α : Type} [DecidableEq α] {l : List α} (h : l.Nodup) : unlikeB l = true := by
  unfold unlikeB
  rw [addAll_ndG (ks := []) h, List.length_nil, Nat.zero_add, beq_self_eq_true]
theorem nd_lenG {α : Type} [DecidableEq α] : ∀ {l m : List α}, l.Nodup → (∀ i ∈ l, i ∈ m) → l.length ≤ m.length
  | [], _, _, _ => Nat.zero_le _
  | a :: l, m, h1, h2 => by
    have h3 := nd_lenG (l := l) (m := m.erase a) (List.nodup_cons.mp h1).2 fun i hi => (List.mem_erase_of_ne (by rintro rfl; exact (List.nodup_cons.mp h1).1 hi)).mpr (h2 i (List.mem_cons_of_mem _ hi))
    have h4 := List.length_erase_of_mem (h2 a List.mem_cons_self)
    have h5 := List.length_pos_of_mem (h2 a List.mem_cons_self)
    rw [List.length_cons]
    omega
theorem eqv_srt (w : Bool) : PyData.eqv (.str (srt w)) (.str (Str.ofString "write")) = w := by rw [eqv_ss]; cases w <;> decide +kernel
theorem in_srt (w : Bool) : inD (.str (srt w)) (sorts.map .str) = true := by cases w <;> decide +kernel
theorem in_fate (w : Bool) : inD (.str (fate w)) (fates.map .str) = true := by cases w <;> decide +kernel
theorem num_ok {i lo hi : Int} (h0 : lo ≤ i) (h1 : i ≤ hi) : numB (.int i) lo hi = true := by
  show (decide (lo ≤ i) && decide (i ≤ hi)) = true
  rw [decide_eq_true h0, decide_eq_true h1]
  rfl
theorem deedB_enc {e : Deed} (hk : KeyT e.key) (h : (if e.w then 1 else 0) ≤ e.num ∧ e.num ≤ 999999) : deedB e.enc = true := by
  show (inD (.str (srt e.w)) (sorts.map .str) && (keyB (.str e.key) && numB (.int e.num) (if PyData.eqv (.str (srt e.w)) (.str (Str.ofString "write")) then 1 else 0) 999999)) = true
  rw [in_srt, let_low hk, eqv_srt, num_ok h.1 h.2]
  rfl
theorem dealB_enc {n m nk : Nat} {T : Tale} (h : TaleOk n m nk T) (hm : m ≤ 8) {d : Deal} (hd : d ∈ T) : dealB d.enc = true := by
  obtain ⟨ks, _, hks, hin⟩ := h.keys
  have h1 := h.hand d hd
  have h2 := h.mom d hd
  have h3 := h.deeds d hd
  show (inD (.str (fate d.kept)) (fates.map .str) && (numB (.int d.hand) 0 4 && ((numB (.int d.first) 0 9999 && (numB (.int d.last) 0 9999 && decide (d.first < d.last))) && (decide (((d.deeds.map Deed.enc).length : Int) ≤ 8) && (d.deeds.map Deed.enc).all deedB)))) = true
  rw [in_fate, num_ok h1.1 h1.2, num_ok h2.1 (by omega), num_ok (by omega) h2.2.2, decide_eq_true h2.2.1, List.length_map, decide_eq_true (by omega), Bool.true_and, Bool.true_and, Bool.true_and, Bool.true_and, Bool.true_and, Bool.true_and, List.all_eq_true]
  intro x hx
  obtain ⟨e, he, rfl⟩ := List.mem_map.mp hx
  exact deedB_enc (hks _ (hin d hd e he)) (h.numb d hd e he)
theorem tale_g {n m nk : Nat} {T : Tale} (h : TaleOk n m nk T) (hm : m ≤ 8) {d : Deal} (hd : d ∈ T) : DealG d := by
  obtain ⟨ks, _, hks, hin⟩ := h.keys
  exact ⟨by have := h.deeds d hd; omega, fun e he => by have := (hks _ (hin d hd e he)).1; omega, (h.mom d hd).2.1⟩
theorem moms_nd {n m nk : Nat} {T : Tale} (h : TaleOk n m nk T) : (moms T).Nodup := by
  refine List.pairwise_flatMap.mpr ⟨fun d hd => ?_, List.pairwise_iff_getElem.mpr fun i j hi hj hij x hx y hy => ?_⟩
  · have := h.mom d hd
    refine List.pairwise_cons.mpr ⟨fun y hy => ?_, List.pairwise_singleton ..⟩
    rw [List.mem_singleton.mp hy]
    omega
  · have ei := List.getElem?_eq_getElem hi
    have ej := List.getElem?_eq_getElem hj
    have r := h.rise i j _ _ hij ei ej
    have d1 := h.diff i j _ _ (by omega) ei ej
    have d2 := h.diff j i _ _ (by omega) ej ei
    rcases List.mem_cons.mp hx with rfl | hx <;> rcases List.mem_cons.mp hy with rfl | hy
    · omega
    · rw [List.mem_singleton.mp hy]; exact d1.1
    · rw [List.mem_singleton.mp hx]; exact fun e => d2.1 e.symm
    · rw [List.mem_singleton.mp hx, List.mem_singleton.mp hy]; exact d1.2
theorem hist_tale {n m nk : Nat} {T : Tale} (h : TaleOk n m nk T) (hnk : nk ≤ 5) : histB T = true := by
  unfold histB
  rw [unlike_nd (moms_nd h), unlike_nd h.nums, Bool.true_and, Bool.true_and]
  have hk : (addAll [] (kysL T)).length ≤ 5 := by
    obtain ⟨ks, hl, _, hin⟩ := h.keys
    refine Nat.le_trans (nd_lenG (addAll_nodup List.nodup_nil) (m := ks) fun s hs => ?_) (by omega)
    rcases addAll_mem.mp hs with hs | hs
    · exact nomatch hs
    · obtain ⟨d, hd, hs⟩ := List.mem_flatMap.mp hs
      obtain ⟨e, he, rfl⟩ := List.mem_map.mp hs
      exact hin d hd e he
  rw [decide_eq_true (by omega), Bool.true_and]
  refine List.all_eq_true.mpr fun j hj => ?_
  show goesP T j = true
  unfold goesP
  cases ej : T[j]? with
  | none => rfl
  | some e =>
    refine List.all_eq_true.mpr fun d hd => ?_
    obtain ⟨i, hi⟩ := List.mem_iff_getElem?.mp hd
    rw [List.getElem?_take] at hi
    split at hi
    · rename_i hij
      have r := h.rise i j _ _ hij hi ej
      unfold clash
      rw [decide_eq_false (by omega), Bool.false_or]
      by_cases q : d.hand = e.hand
      · rw [decide_eq_false (by have := r.2 q; omega), Bool.and_false]
        rfl
      · rw [beq_eq_false_iff_ne.mpr q]
        rfl
    · cases hi
theorem hist0_tale {n m nk : Nat} {T : Tale} (h : TaleOk n m nk T) (hm : m ≤ 8) (hn : n ≤ 12) : hist0 (encT T) = true := by
  have hl := h.len
  show (decide (((T.map Deal.enc).length : Int) ≤ 12) && (T.map Deal.enc).all dealB) = true
  rw [List.length_map, decide_eq_true (by omega), Bool.true_and, List.all_eq_true]
  intro x hx
  obtain ⟨d, hd, rfl⟩ := List.mem_map.mp hx
  exact dealB_enc h hm hd
theorem ok5 {d : Deal} (h : DealG d) : okDeal d.enc ∧ lensD d.enc := by
  have hd := ga_acts h
  refine ⟨fun a' f' l' ds' k' e => ?_, fun ys e => ?_⟩
  · cases e
    exact ⟨.inl rfl, fun es e x hx => ((hd es e).2 x hx).1⟩
  · cases e
    refine ⟨(by decide : 5 ≤ 1000), fun es hes => ?_⟩
    simp only [List.mem_cons, List.not_mem_nil, or_false] at hes
    rcases hes with e | e | e | e | e
    · cases e
    · cases e
    · cases e
    · obtain ⟨h1, h2⟩ := hd es e.symm
      exact ⟨h1, fun zs hz => (h2 _ hz).2 zs rfl⟩
    · cases e
theorem okHist_tale {n m nk : Nat} {T : Tale} (h : TaleOk n m nk T) (hm : m ≤ 8) (hn : n ≤ 12) : okHist (encT T) := fun xs e => by
  have hl := h.len
  cases e
  refine ⟨by rw [List.length_map]; omega, fun x hx => ?_⟩
  obtain ⟨d, hd, rfl⟩ := List.mem_map.mp hx
  exact ok5 (tale_g h hm hd)
theorem okHist_put {n m nk : Nat} {T : Tale} (h : TaleOk n m nk T) (hm : m ≤ 8) {xs ys : List PyData} {o : PyData} (ho : badDeal o) (hx : ∀ x ∈ xs, x ∈ T.map Deal.enc) (hy : ∀ x ∈ ys, x ∈ T.map Deal.enc) (hl : xs.length + ys.length ≤ 900) : okHist (.tuple (xs ++ o :: ys)) ∧ histOf (.tuple (xs ++ o :: ys)) false := by
  refine ⟨fun zs e => ?_, .inl ⟨?_, rfl⟩⟩
  · cases e
    refine ⟨by rw [List.length_append, List.length_cons]; omega, fun x hx' => ?_⟩
    have hg : ∀ x, x ∈ T.map Deal.enc → okDeal x ∧ lensD x := fun x hx => by
      obtain ⟨d, hd, rfl⟩ := List.mem_map.mp hx
      exact ok5 (tale_g h hm hd)
    rcases List.mem_append.mp hx' with q | q
    · exact hg x (hx x q)
    · rcases List.mem_cons.mp q with rfl | q
      · exact ho.2
      · exact hg x (hy x q)
  · rw [hist0_t, List.all_append, List.all_cons, ho.1, Bool.false_and, Bool.and_false, Bool.and_false]
local macro_rules | `(tactic| walk_at "x") => `(tactic| (refine ev_of ?_; simp only [ap_seq, ap_next, ap_brk, ap_cnt, ap_expr, ap_ret, ap_retN, ap_if, ap_asg, ap_set, ap_seti, ap_par, ap_dput, ap_forL, ap_forT, ap_forR, ap_while, ap_nm, ap_gtp, ap_gnil, ap_gcons, ap_var, ap_c, ap_op, ap_un, ap_test, ap_and, ap_or, ap_not, ap_yes, ap_andV, ap_orV, ap_notV, ap_ifE, ap_anil, ap_acons, ap_fnil, ap_fcons, ap_tup, ap_lst, ap_dct, ap_cb, ap_isi, ap_sl, ap_nopart, ap_part, ap_lstrg, ap_mut, ap_call, ap_callS, ap_din, ap_lcL, ap_lcT, ap_lcR, ap_lcB, ap_forB, ap_lcnil, ap_lccons, wp_nil, wp_cons, rs_nil, rs_cons, kp_d, kp_un, eq_self,
  ev_ev, kd_i, kd_s, if_true, if_false, Bool.false_eq_true, Bool.not_true, Bool.not_false, List.isEmpty_nil, List.isEmpty_cons, ev_and, ev_t, ev_f, ev_s, k_I0, k_I, k_EqL0, k_EqT0, k_EqLT, k_EqTL, k_EqI, k_EqB, k_EqS, k_EqN, k_EqLc, k_EqTc, id_eq, k_IsN, k_InL, k_InT, k_Cat, k_IxL, k_IxT, k_LenL, k_LenT, k_ListL, k_ListT, k_TupleL, k_TupleT, k_I2, k_Abs, k_Neg, k_App, k_PopAt, lk_0, lk_s, pt_0, pt_s, peekAll, sh_int, sh_none, sh_bool, sh_nil, sh_nilT, sh_ints, eqv_int, eqv_ss, eqv_bool, eqv_nil, at0, at1, at2, at3, ixN1, List.length_cons, List.length_nil, List.set_cons_succ, List.set_cons_zero, true_and, and_true, List.map_cons, List.map_nil, List.nil_append, List.cons_append, flatD, List.length_map, flat_ints, in_ints, ap_rev, ap_chain, ap_lcS, k_IsB, k_IntI, k_IntB, k_CatT, k_Rep, k_InS, k_LenS,
  ap_revA, ap_slA, ap_joinC, k_SlL, k_SlT, k_SlS, k_CatS, k_RepS, k_AxL, k_AxT, k_AxS, k_StrI, ap_forA, ap_lcA, it_L, it_T, it_S, k_AdI, k_AdL, k_AdT, k_AdS, k_MuI, k_MuL, k_MuS, Nat.zero_le, kit_tuple, kit_list, kit_str, kit_int, kit_bool, kit_dict, isN_none, isN_bool, isN_int, isN_str, isN_list, isN_tuple, isN_dict, isTup_none, isTup_bool, isTup_int, isTup_str, isTup_list, isTup_tuple, isTup_dict, isLst_none, isLst_bool, isLst_int, isLst_str, isLst_list, isLst_tuple, isLst_dict, isStr_none, isStr_bool, isStr_int, isStr_str, isStr_list, isStr_tuple, isStr_dict, isInt_none, isInt_bool, isInt_int, isInt_str, isInt_list, isInt_tuple, isInt_dict, isBool_none, isBool_bool, isBool_int, isBool_str, isBool_list, isBool_tuple, isBool_dict, isDict_none, isDict_bool, isDict_int, isDict_str, isDict_list, isDict_tuple, isDict_dict, dec_tt, dec_ft, dec_tf, dec_ff, dec_T, dec_F, ap_mF, ap_callM, ap_callX, ap_callXn, ap_raise, ap_exprX, ap_retX, ap_setX, ap_try, ap_isx, ap_isNx, nx_ex, nx_new, nx_d, fx_ex, fx_d, fx_new, fx_bor, DL.pa_nil, DL.pa_cons, bk_nil, bk_cons, bk1, ap_meth, ap_meth0, ap_gtpAt, ap_gtpAl, tyM_L, tyM_S, k_InAL, k_InAT, k_SortD, k_Count, sh_str, sh_strs, sh_bools, eqv_strs, eqv_bools, eqv_ints, List.filterMap_cons, List.filterMap_nil, List.nodup_nil, Nat.reduceAdd, Nat.reduceLeDiff, k_EqStrs, k_EqBools, k_EqInts, ap_forI, ap_lcI, ap_enu, ap_enu1, nd1, ap_ixA, ap_ixP, ap_ixD, ap_ixW, ap_ixB, ap_lenA, ap_lenP, ap_lenD, ap_lenW, ap_lenB, ixZ, ixT, ixL, List.getElem?_cons_zero, List.getElem?_cons_succ, ap_stX, ap_stb, ap_stp, ap_appN, ap_setN, ap_forX, ap_lcXA, ap_lcXR, ap_dgx, ap_dlen, ap_eq0, ap_dpop, ap_orL, ap_andL, getN, setN, fzAll, flatN, peekN, truL, resN_fz, pk_d, pk_new, pk_bor, pk_bp, pk_nt, fz_d, fz_dk, fz_new, fz_bor, fz_bp, fz_nt, so_new, so_dk, so_v, so_nt, so_bp, so_ex, so_d, so_bor, ub_d, ub_new, ub_dk, ub_nt, ub_ex, ub_bor, ub_bp, na_bp, na_d, na_new, na_bor, na_nt, an_nt, an_d, an_bor, pn_bp, ad_bp, kd_bp, sk_d, sk_bp, sc_bp, sc_d, sc_new, sc_bor, ps_d, ps_ex, ps_bor, ps_bp, sl_d, sl_ex, sl_bor, sl_bp, ap_dsortI, ap_callW, ap_cW, ap_appu, an_ev, Option.any_some, at4, fate_e1, fate_e2, Deed.enc, Deal.enc, encT, srt_e1, srt_e2, Option.map_some, Option.map_none, Option.isSome_some, Option.isSome_none, encO, ap_augL, ap_augD, ap_nil3, k_MuT, xi_IsYes_NoHistory, xi_NoDeal_NoHistory, xi_NoHands_NoHistory, xi_NoHistory_NoHistory, xi_NoKind_NoHistory, xi_NoLog_NoHistory, xi_NoOrders_NoHistory, xi_NoStore_NoHistory, xi_NoText_NoHistory, xi_NotSound_NoHistory, xi_TooMany_NoHistory, xi_ValueError_NoHistory, xc_CourtError_NoHistory, k_Index, cut5_1, cut5_4]))
local macro_rules | `(tactic| walk_at "s") => `(tactic| (repeat with_reducible refine And.intro (by first | assumption | omega | exact True.intro | rfl | (simp; done) | (simp; omega) | decide) ?_))

abbrev lE (ns : List Int) (s : Dr) (T : Tale) (z3 z4 z5 z6 z7 : Sl) : Ep := [.d (.list (ns.map .int)), .d (encT T), .lst true (drL s), z3, z4, z5, z6, z7]
theorem law_goal : ∀ qs A, SLaw qs A → s_law qs A := fun qs A ⟨ns, e, hl, hA⟩ => by
  subst e
  refine ⟨rfl, ?_⟩
  show r_law _ [.d (.list (ns.map .int)), .un, .un, .un, .un, .un, .un, .un]
  unfold r_law
  walk_at "x"
  refine qtale_wp (ns := ns) (first := 0) (least := 1) (most := 12) (nk := 5) (m := 8) (by omega) (by omega) (by omega) (by omega) (by omega) (by omega) (by omega) (by omega) (by omega) fun T n _ n1 n2 hT => ?_
  walk_at "x"
  refine state_wp (by omega) (by omega) fun s _ => ?_
  have tl := hT.len
  have ok0 := okHist_tale hT (by omega) n2
  have h0 : histOf (encT T) true := .inr ⟨T, rfl, hist0_tale hT (by omega) n2, (hist_tale hT (by omega)).symm⟩
  walk_at "x"
  refine qtold_wp ok0 h0 fun _ => ?_
  walk_at "x"
  refine qtold_wp (x := .list (T.map Deal.enc)) (b := false) (fun xs e => nomatch e) (.inl ⟨rfl, rfl⟩) fun _ => ?_
  walk_at "x"
  refine qkeys_told_wp fun s1 => ?_
  walk_at "x"
  refine ⟨by omega, by omega, of_ev ?_⟩
  refine (for_inv (I := fun ε => ∃ s z3 z4 z5 z6 z7, ε = lE ns s T z3 z4 z5 z6 z7) _ _ (fun x hx ε hI B b1 b2 b3 b4 => ?_) ⟨_, _, _, _, _, _, rfl⟩ fun ε hI => ?_)
  · obtain ⟨s2, z3, z4, z5, z6, z7, rfl⟩ := hI
    refine ev_of ?_
    rw [ap_nm]
    show ev (b_law_1 B (lE ns s2 T (.d x) z4 z5 z6 z7))
    rw [b_law_1_eq]
    unfold lE
    walk_at "x"
    refine next_wp (by omega) (by omega) fun a s3 a0 a1 => ?_
    walk_at "x"
    obtain ⟨i, rfl⟩ : ∃ i : Nat, a = (i : Int) := ⟨a.toNat, by omega⟩
    obtain ⟨d, ed⟩ : ∃ d, T[i]? = some d := ⟨_, List.getElem?_eq_getElem (by omega)⟩
    have dm := List.mem_of_getElem? ed
    refine onO_of (deal_at ed) ?_
    walk_at "x"
    refine qodd_deal_wp (tale_g hT (by omega) dm) fun o s4 ho => ?_
    walk_at "x"
    refine onO_of (deal_at ed) ?_
    walk_at "x"
    have od := ok5 (tale_g hT (by omega) dm)
    refine is_deal_wp od.1 od.2 fun _ => ?_
    rw [dealB_enc hT (by omega) dm]
    walk_at "x"
    refine is_deal_wp ho.2.1 ho.2.2 fun _ => ?_
    rw [ho.1]
    walk_at "x"
    have c1 := cutD_len (T.map Deal.enc) none (some (i : Int))
    have c2 := cutD_len (T.map Deal.enc) (some ((i : Int) + 1)) none
    rw [List.length_map] at c1 c2
    refine ⟨by omega, by rw [List.length_append]; show _ + 1 + _ ≤ _; omega, ?_⟩
    rw [List.append_assoc, List.cons_append, List.nil_append]
    obtain ⟨p1, p2⟩ := okHist_put hT (by omega) (xs := DL.cutD (T.map Deal.enc) none (some (i : Int))) (ys := DL.cutD (T.map Deal.enc) (some ((i : Int) + 1)) none) ho (fun x hx => cutD_mem hx) (fun x hx => cutD_mem hx) (by omega)
    refine qtold_wp p1 p2 fun _ => ?_
    walk_at "x"
    refine qedges_wp fun y b s5 hy hb => ?_
    walk_at "x"
    refine qtold_wp hy hb fun _ => ?_
    walk_at "x"
    exact b3 _ ⟨_, _, _, _, _, _, rfl⟩
  · obtain ⟨s2, z3, z4, z5, z6, z7, rfl⟩ := hI
    unfold lE
    walk_at "x"
    exact hA _

end Cl

namespace Cl
open PySem PySem.Spec PyProof.Rows L2 DL
theorem all_mk {l : PySem.W.OpenLaw} {w : World} {K : PySem.W.Frag} {h : Heap} {mg : Str → Option Value} {fa f1 f2 f3 f4 f5 f6 f7 f8 f9 f10 f11 f12 f13 f14 f15 f16 f17 f18 f19 f20 f21 f22 f23 f24 f25 f26 f27 f28 : Addr} (X : K.In h) (G : h.Ns mainGlobals mg) (hfa : mg "law" = some (.ref fa))
    {u_LETTERS : Value} {u_MOST_DEALS : Value} {u_MOST_DEEDS : Value} {u_MOST_HAND : Value} {u_MOST_KEYS : Value} {u_MOST_LETTERS : Value} {u_MOST_MOMENT : Value} {u_MOST_NUMBER : Value} {X_CourtError : Addr} {X_IsYes : Addr} {X_NoDeal : Addr} {X_NoHands : Addr} {X_NoHistory : Addr} {X_NoKind : Addr} {X_NoLog : Addr} {X_NoOrders : Addr} {X_NoStore : Addr} {X_NoText : Addr} {X_NotSound : Addr} {X_TooMany : Addr}
    {od1 an1 od2 an2 od3 an3 od4 an4 od5 an5 od6 an6 od7 an7 od8 an8 od9 an9 od10 an10 od11 an11 od12 an12 od13 an13 od14 an14 od15 an15 od16 an16 od17 an17 od18 an18 od19 an19 od20 an20 od21 an21 od22 an22 od23 an23 od24 an24 od25 an25 od26 an26 od27 an27 od28 an28 : Option Addr} {sl1 sl2 sl3 sl4 sl5 sl6 sl7 sl8 sl9 sl10 sl11 sl12 sl13 sl14 sl15 sl16 sl17 sl18 sl19 sl20 sl21 sl22 sl23 sl24 sl25 sl26 sl27 sl28 : Array (Option Value)} {oc1 kV1 dc1 pm1 cd1 ct1 oc2 kV2 dc2 pm2 cd2 ct2 oc3 kV3 dc3 pm3 cd3 ct3 oc4 kV4 dc4 pm4 cd4 ct4 oc5 kV5 dc5 pm5 cd5 ct5 oc6 kV6 dc6 pm6 cd6 ct6 oc7 kV7 dc7 pm7 cd7 ct7 oc8 kV8 dc8 pm8 cd8 ct8 oc9 kV9 dc9 pm9 cd9 ct9 oc10 kV10 dc10 pm10 cd10 ct10 oc11 kV11 dc11 pm11 cd11 ct11 oc12 kV12 dc12 pm12 cd12 ct12 oc13 kV13 dc13 pm13 cd13 ct13 oc14 kV14 dc14 pm14 cd14 ct14 oc15 kV15 dc15 pm15 cd15 ct15 oc16 kV16 dc16 pm16 cd16 ct16 oc17 kV17 dc17 pm17 cd17 ct17 oc18 kV18 dc18 pm18 cd18 ct18 oc19 kV19 dc19 pm19 cd19 ct19 oc20 kV20 dc20 pm20 cd20 ct20 oc21 kV21 dc21 pm21 cd21 ct21 oc22 kV22 dc22 pm22 cd22 ct22 oc23 kV23 dc23 pm23 cd23 ct23 oc24 kV24 dc24 pm24 cd24 ct24 oc25 kV25 dc25 pm25 cd25 ct25 oc26 kV26 dc26 pm26 cd26 ct26 oc27 kV27 dc27 pm27 cd27 ct27 oc28 kV28 dc28 pm28 cd28 ct28 : Value}
    (a1 : PySem.W.nsIn K mainGlobals "_law_state" = some (some (.ref f1))) (l1 : K.lookup f1 = some ⟨oc1, od1, .func (PySem.W.fnOf "_law_state" "_law_state" (defArgs stqstate) (defBody stqstate) (defScope stqstate) .none kV1 dc1 pm1 an1 cd1 ct1), sl1⟩) (c1 : PySem.W.codeIn K cd1 "_law_state" = true) (k1 : PySem.W.keepIn K (.ref f1) = true)
    (a2 : PySem.W.nsIn K mainGlobals "_law_next" = some (some (.ref f2))) (l2 : K.lookup f2 = some ⟨oc2, od2, .func (PySem.W.fnOf "_law_next" "_law_next" (defArgs stqnext) (defBody stqnext) (defScope stqnext) .none kV2 dc2 pm2 an2 cd2 ct2), sl2⟩) (c2 : PySem.W.codeIn K cd2 "_law_next" = true) (k2 : PySem.W.keepIn K (.ref f2) = true)
    (a3 : PySem.W.nsIn K mainGlobals "_law_keys" = some (some (.ref f3))) (l3 : K.lookup f3 = some ⟨oc3, od3, .func (PySem.W.fnOf "_law_keys" "_law_keys" (defArgs stqkeys) (defBody stqkeys) (defScope stqkeys) .none kV3 dc3 pm3 an3 cd3 ct3), sl3⟩) (c3 : PySem.W.codeIn K cd3 "_law_keys" = true) (k3 : PySem.W.keepIn K (.ref f3) = true)
    (a4 : PySem.W.nsIn K mainGlobals "_law_spans" = some (some (.ref f4))) (l4 : K.lookup f4 = some ⟨oc4, od4, .func (PySem.W.fnOf "_law_spans" "_law_spans" (defArgs stqspans) (defBody stqspans) (defScope stqspans) .none kV4 dc4 pm4 an4 cd4 ct4), sl4⟩) (c4 : PySem.W.codeIn K cd4 "_law_spans" = true) (k4 : PySem.W.keepIn K (.ref f4) = true)
    (a5 : PySem.W.nsIn K mainGlobals "_law_numbered" = some (some (.ref f5))) (l5 : K.lookup f5 = some ⟨oc5, od5, .func (PySem.W.fnOf "_law_numbered" "_law_numbered" (defArgs stqnumbered) (defBody stqnumbered) (defScope stqnumbered) .none kV5 dc5 pm5 an5 cd5 ct5), sl5⟩) (c5 : PySem.W.codeIn K cd5 "_law_numbered" = true) (k5 : PySem.W.keepIn K (.ref f5) = true)
    (a6 : PySem.W.nsIn K mainGlobals "_law_last" = some (some (.ref f6))) (l6 : K.lookup f6 = some ⟨oc6, od6, .func (PySem.W.fnOf "_law_last" "_law_last" (defArgs stqlast) (defBody stqlast) (defScope stqlast) .none kV6 dc6 pm6 an6 cd6 ct6), sl6⟩) (c6 : PySem.W.codeIn K cd6 "_law_last" = true) (k6 : PySem.W.keepIn K (.ref f6) = true)
    (a7 : PySem.W.nsIn K mainGlobals "_law_choice" = some (some (.ref f7))) (l7 : K.lookup f7 = some ⟨oc7, od7, .func (PySem.W.fnOf "_law_choice" "_law_choice" (defArgs stqchoice) (defBody stqchoice) (defScope stqchoice) .none kV7 dc7 pm7 an7 cd7 ct7), sl7⟩) (c7 : PySem.W.codeIn K cd7 "_law_choice" = true) (k7 : PySem.W.keepIn K (.ref f7) = true)
    (a8 : PySem.W.nsIn K mainGlobals "_law_filled" = some (some (.ref f8))) (l8 : K.lookup f8 = some ⟨oc8, od8, .func (PySem.W.fnOf "_law_filled" "_law_filled" (defArgs stqfilled) (defBody stqfilled) (defScope stqfilled) .none kV8 dc8 pm8 an8 cd8 ct8), sl8⟩) (c8 : PySem.W.codeIn K cd8 "_law_filled" = true) (k8 : PySem.W.keepIn K (.ref f8) = true)
    (a9 : PySem.W.nsIn K mainGlobals "_law_laid" = some (some (.ref f9))) (l9 : K.lookup f9 = some ⟨oc9, od9, .func (PySem.W.fnOf "_law_laid" "_law_laid" (defArgs stqlaid) (defBody stqlaid) (defScope stqlaid) .none kV9 dc9 pm9 an9 cd9 ct9), sl9⟩) (c9 : PySem.W.codeIn K cd9 "_law_laid" = true) (k9 : PySem.W.keepIn K (.ref f9) = true)
    (a10 : PySem.W.nsIn K mainGlobals "_law_tale" = some (some (.ref f10))) (l10 : K.lookup f10 = some ⟨oc10, od10, .func (PySem.W.fnOf "_law_tale" "_law_tale" (defArgs stqtale) (defBody stqtale) (defScope stqtale) .none kV10 dc10 pm10 an10 cd10 ct10), sl10⟩) (c10 : PySem.W.codeIn K cd10 "_law_tale" = true) (k10 : PySem.W.keepIn K (.ref f10) = true)
    (a11 : PySem.W.nsIn K mainGlobals "_law_odd_deed" = some (some (.ref f11))) (l11 : K.lookup f11 = some ⟨oc11, od11, .func (PySem.W.fnOf "_law_odd_deed" "_law_odd_deed" (defArgs stqodd_deed) (defBody stqodd_deed) (defScope stqodd_deed) .none kV11 dc11 pm11 an11 cd11 ct11), sl11⟩) (c11 : PySem.W.codeIn K cd11 "_law_odd_deed" = true) (k11 : PySem.W.keepIn K (.ref f11) = true)
    (a12 : PySem.W.nsIn K mainGlobals "_law_odd_deal" = some (some (.ref f12))) (l12 : K.lookup f12 = some ⟨oc12, od12, .func (PySem.W.fnOf "_law_odd_deal" "_law_odd_deal" (defArgs stqodd_deal) (defBody stqodd_deal) (defScope stqodd_deal) .none kV12 dc12 pm12 an12 cd12 ct12), sl12⟩) (c12 : PySem.W.codeIn K cd12 "_law_odd_deal" = true) (k12 : PySem.W.keepIn K (.ref f12) = true)
    (a13 : PySem.W.nsIn K mainGlobals "_law_small" = some (some (.ref f13))) (l13 : K.lookup f13 = some ⟨oc13, od13, .func (PySem.W.fnOf "_law_small" "_law_small" (defArgs stqsmall) (defBody stqsmall) (defScope stqsmall) .none kV13 dc13 pm13 an13 cd13 ct13), sl13⟩) (c13 : PySem.W.codeIn K cd13 "_law_small" = true) (k13 : PySem.W.keepIn K (.ref f13) = true)
    (a14 : PySem.W.nsIn K mainGlobals "_law_edges" = some (some (.ref f14))) (l14 : K.lookup f14 = some ⟨oc14, od14, .func (PySem.W.fnOf "_law_edges" "_law_edges" (defArgs stqedges) (defBody stqedges) (defScope stqedges) .none kV14 dc14 pm14 an14 cd14 ct14), sl14⟩) (c14 : PySem.W.codeIn K cd14 "_law_edges" = true) (k14 : PySem.W.keepIn K (.ref f14) = true)
    (a15 : PySem.W.nsIn K mainGlobals "are_unlike" = some (some (.ref f15))) (l15 : K.lookup f15 = some ⟨oc15, od15, .func (PySem.W.fnOf "are_unlike" "are_unlike" (defArgs stare_unlike) (defBody stare_unlike) (defScope stare_unlike) .none kV15 dc15 pm15 an15 cd15 ct15), sl15⟩) (c15 : PySem.W.codeIn K cd15 "are_unlike" = true) (k15 : PySem.W.keepIn K (.ref f15) = true)
    (a16 : PySem.W.nsIn K mainGlobals "goes_on" = some (some (.ref f16))) (l16 : K.lookup f16 = some ⟨oc16, od16, .func (PySem.W.fnOf "goes_on" "goes_on" (defArgs stgoes_on) (defBody stgoes_on) (defScope stgoes_on) .none kV16 dc16 pm16 an16 cd16 ct16), sl16⟩) (c16 : PySem.W.codeIn K cd16 "goes_on" = true) (k16 : PySem.W.keepIn K (.ref f16) = true)
    (a17 : PySem.W.nsIn K mainGlobals "is_whole" = some (some (.ref f17))) (l17 : K.lookup f17 = some ⟨oc17, od17, .func (PySem.W.fnOf "is_whole" "is_whole" (defArgs stis_whole) (defBody stis_whole) (defScope stis_whole) .none kV17 dc17 pm17 an17 cd17 ct17), sl17⟩) (c17 : PySem.W.codeIn K cd17 "is_whole" = true) (k17 : PySem.W.keepIn K (.ref f17) = true)
    (a18 : PySem.W.nsIn K mainGlobals "is_number" = some (some (.ref f18))) (l18 : K.lookup f18 = some ⟨oc18, od18, .func (PySem.W.fnOf "is_number" "is_number" (defArgs stis_number) (defBody stis_number) (defScope stis_number) .none kV18 dc18 pm18 an18 cd18 ct18), sl18⟩) (c18 : PySem.W.codeIn K cd18 "is_number" = true) (k18 : PySem.W.keepIn K (.ref f18) = true)
    (a19 : PySem.W.nsIn K mainGlobals "is_key" = some (some (.ref f19))) (l19 : K.lookup f19 = some ⟨oc19, od19, .func (PySem.W.fnOf "is_key" "is_key" (defArgs stis_key) (defBody stis_key) (defScope stis_key) .none kV19 dc19 pm19 an19 cd19 ct19), sl19⟩) (c19 : PySem.W.codeIn K cd19 "is_key" = true) (k19 : PySem.W.keepIn K (.ref f19) = true)
    (a20 : PySem.W.nsIn K mainGlobals "is_deed" = some (some (.ref f20))) (l20 : K.lookup f20 = some ⟨oc20, od20, .func (PySem.W.fnOf "is_deed" "is_deed" (defArgs stis_deed) (defBody stis_deed) (defScope stis_deed) .none kV20 dc20 pm20 an20 cd20 ct20), sl20⟩) (c20 : PySem.W.codeIn K cd20 "is_deed" = true) (k20 : PySem.W.keepIn K (.ref f20) = true)
    (a21 : PySem.W.nsIn K mainGlobals "is_deal" = some (some (.ref f21))) (l21 : K.lookup f21 = some ⟨oc21, od21, .func (PySem.W.fnOf "is_deal" "is_deal" (defArgs stis_deal) (defBody stis_deal) (defScope stis_deal) .none kV21 dc21 pm21 an21 cd21 ct21), sl21⟩) (c21 : PySem.W.codeIn K cd21 "is_deal" = true) (k21 : PySem.W.keepIn K (.ref f21) = true)
    (a22 : PySem.W.nsIn K mainGlobals "is_history" = some (some (.ref f22))) (l22 : K.lookup f22 = some ⟨oc22, od22, .func (PySem.W.fnOf "is_history" "is_history" (defArgs stis_history) (defBody stis_history) (defScope stis_history) .none kV22 dc22 pm22 an22 cd22 ct22), sl22⟩) (c22 : PySem.W.codeIn K cd22 "is_history" = true) (k22 : PySem.W.keepIn K (.ref f22) = true)
    (a23 : PySem.W.nsIn K mainGlobals "need_history" = some (some (.ref f23))) (l23 : K.lookup f23 = some ⟨oc23, od23, .func (PySem.W.fnOf "need_history" "need_history" (defArgs stneed_history) (defBody stneed_history) (defScope stneed_history) .none kV23 dc23 pm23 an23 cd23 ct23), sl23⟩) (c23 : PySem.W.codeIn K cd23 "need_history" = true) (k23 : PySem.W.keepIn K (.ref f23) = true)
    (a24 : PySem.W.nsIn K mainGlobals "_law_class" = some (some (.ref f24))) (l24 : K.lookup f24 = some ⟨oc24, od24, .func (PySem.W.fnOf "_law_class" "_law_class" (defArgs stqclass) (defBody stqclass) (defScope stqclass) .none kV24 dc24 pm24 an24 cd24 ct24), sl24⟩) (c24 : PySem.W.codeIn K cd24 "_law_class" = true) (k24 : PySem.W.keepIn K (.ref f24) = true)
    (a25 : PySem.W.nsIn K mainGlobals "_law_need" = some (some (.ref f25))) (l25 : K.lookup f25 = some ⟨oc25, od25, .func (PySem.W.fnOf "_law_need" "_law_need" (defArgs stqneed) (defBody stqneed) (defScope stqneed) .none kV25 dc25 pm25 an25 cd25 ct25), sl25⟩) (c25 : PySem.W.codeIn K cd25 "_law_need" = true) (k25 : PySem.W.keepIn K (.ref f25) = true)
    (a26 : PySem.W.nsIn K mainGlobals "_law_told" = some (some (.ref f26))) (l26 : K.lookup f26 = some ⟨oc26, od26, .func (PySem.W.fnOf "_law_told" "_law_told" (defArgs stqtold) (defBody stqtold) (defScope stqtold) .none kV26 dc26 pm26 an26 cd26 ct26), sl26⟩) (c26 : PySem.W.codeIn K cd26 "_law_told" = true) (k26 : PySem.W.keepIn K (.ref f26) = true)
    (a27 : PySem.W.nsIn K mainGlobals "_law_keys_told" = some (some (.ref f27))) (l27 : K.lookup f27 = some ⟨oc27, od27, .func (PySem.W.fnOf "_law_keys_told" "_law_keys_told" (defArgs stqkeys_told) (defBody stqkeys_told) (defScope stqkeys_told) .none kV27 dc27 pm27 an27 cd27 ct27), sl27⟩) (c27 : PySem.W.codeIn K cd27 "_law_keys_told" = true) (k27 : PySem.W.keepIn K (.ref f27) = true)
    (a28 : PySem.W.nsIn K mainGlobals "law" = some (some (.ref f28))) (l28 : K.lookup f28 = some ⟨oc28, od28, .func (PySem.W.fnOf "law" "law" (defArgs stlaw) (defBody stlaw) (defScope stlaw) .none kV28 dc28 pm28 an28 cd28 ct28), sl28⟩) (c28 : PySem.W.codeIn K cd28 "law" = true) (k28 : PySem.W.keepIn K (.ref f28) = true)
    (z_ValueError : PySem.W.nsIn K mainGlobals "ValueError" = some none)
    (z_abs : PySem.W.nsIn K mainGlobals "abs" = some none)
    (z_all : PySem.W.nsIn K mainGlobals "all" = some none)
    (z_bool : PySem.W.nsIn K mainGlobals "bool" = some none)
    (z_int : PySem.W.nsIn K mainGlobals "int" = some none)
    (z_isinstance : PySem.W.nsIn K mainGlobals "isinstance" = some none)
    (z_len : PySem.W.nsIn K mainGlobals "len" = some none)
    (z_list : PySem.W.nsIn K mainGlobals "list" = some none)
    (z_range : PySem.W.nsIn K mainGlobals "range" = some none)
    (z_set : PySem.W.nsIn K mainGlobals "set" = some none)
    (z_sorted : PySem.W.nsIn K mainGlobals "sorted" = some none)
    (z_str : PySem.W.nsIn K mainGlobals "str" = some none)
    (z_tuple : PySem.W.nsIn K mainGlobals "tuple" = some none)
    (ga_LETTERS : PySem.W.nsIn K mainGlobals "LETTERS" = some (some u_LETTERS)) (gv_LETTERS : gvD u_LETTERS (.str (Str.ofString "abcdefghijklmnopqrstuvwxyz")) = true)
    (ga_MOST_DEALS : PySem.W.nsIn K mainGlobals "MOST_DEALS" = some (some u_MOST_DEALS)) (gv_MOST_DEALS : gvD u_MOST_DEALS (.int 12) = true)
    (ga_MOST_DEEDS : PySem.W.nsIn K mainGlobals "MOST_DEEDS" = some (some u_MOST_DEEDS)) (gv_MOST_DEEDS : gvD u_MOST_DEEDS (.int 8) = true)
    (ga_MOST_HAND : PySem.W.nsIn K mainGlobals "MOST_HAND" = some (some u_MOST_HAND)) (gv_MOST_HAND : gvD u_MOST_HAND (.int 4) = true)
    (ga_MOST_KEYS : PySem.W.nsIn K mainGlobals "MOST_KEYS" = some (some u_MOST_KEYS)) (gv_MOST_KEYS : gvD u_MOST_KEYS (.int 5) = true)
    (ga_MOST_LETTERS : PySem.W.nsIn K mainGlobals "MOST_LETTERS" = some (some u_MOST_LETTERS)) (gv_MOST_LETTERS : gvD u_MOST_LETTERS (.int 4) = true)
    (ga_MOST_MOMENT : PySem.W.nsIn K mainGlobals "MOST_MOMENT" = some (some u_MOST_MOMENT)) (gv_MOST_MOMENT : gvD u_MOST_MOMENT (.int 9999) = true)
    (ga_MOST_NUMBER : PySem.W.nsIn K mainGlobals "MOST_NUMBER" = some (some u_MOST_NUMBER)) (gv_MOST_NUMBER : gvD u_MOST_NUMBER (.int 999999) = true)
    (x_CourtError : PySem.W.nsIn K mainGlobals "CourtError" = some (some (.ref X_CourtError)))
    (x_IsYes : PySem.W.nsIn K mainGlobals "IsYes" = some (some (.ref X_IsYes)))
    (x_NoDeal : PySem.W.nsIn K mainGlobals "NoDeal" = some (some (.ref X_NoDeal)))
    (x_NoHands : PySem.W.nsIn K mainGlobals "NoHands" = some (some (.ref X_NoHands)))
    (x_NoHistory : PySem.W.nsIn K mainGlobals "NoHistory" = some (some (.ref X_NoHistory)))
    (x_NoKind : PySem.W.nsIn K mainGlobals "NoKind" = some (some (.ref X_NoKind)))
    (x_NoLog : PySem.W.nsIn K mainGlobals "NoLog" = some (some (.ref X_NoLog)))
    (x_NoOrders : PySem.W.nsIn K mainGlobals "NoOrders" = some (some (.ref X_NoOrders)))
    (x_NoStore : PySem.W.nsIn K mainGlobals "NoStore" = some (some (.ref X_NoStore)))
    (x_NoText : PySem.W.nsIn K mainGlobals "NoText" = some (some (.ref X_NoText)))
    (x_NotSound : PySem.W.nsIn K mainGlobals "NotSound" = some (some (.ref X_NotSound)))
    (x_TooMany : PySem.W.nsIn K mainGlobals "TooMany" = some (some (.ref X_TooMany)))
    (xs_CourtError : PySem.W.subIn K (.ref X_CourtError) (.type "BaseException") = some true)
    (xt_CourtError : PySem.W.typeIn K (.ref X_CourtError) = some (.type "type"))
    (xd_CourtError : PySem.W.hasDictIn K X_CourtError = true)
    (xs_IsYes : PySem.W.subIn K (.ref X_IsYes) (.type "BaseException") = some true)
    (xt_IsYes : PySem.W.typeIn K (.ref X_IsYes) = some (.type "type"))
    (xd_IsYes : PySem.W.hasDictIn K X_IsYes = true)
    (xs_NoDeal : PySem.W.subIn K (.ref X_NoDeal) (.type "BaseException") = some true)
    (xt_NoDeal : PySem.W.typeIn K (.ref X_NoDeal) = some (.type "type"))
    (xd_NoDeal : PySem.W.hasDictIn K X_NoDeal = true)
    (xs_NoHands : PySem.W.subIn K (.ref X_NoHands) (.type "BaseException") = some true)
    (xt_NoHands : PySem.W.typeIn K (.ref X_NoHands) = some (.type "type"))
    (xd_NoHands : PySem.W.hasDictIn K X_NoHands = true)
    (xe_NoHistory : PySem.W.excIn K X_NoHistory [.type "ValueError", .type "Exception", .type "BaseException", .type "object"] "ValueError.__new__" = true)
    (xs_NoHistory : PySem.W.subIn K (.ref X_NoHistory) (.type "BaseException") = some true)
    (xt_NoHistory : PySem.W.typeIn K (.ref X_NoHistory) = some (.type "type"))
    (xd_NoHistory : PySem.W.hasDictIn K X_NoHistory = true)
    (xk_NoHistory : PySem.W.keepIn K (.ref X_NoHistory) = true)
    (xg_NoHistory : PySem.W.findIn K (.ref X_NoHistory) "__getattribute__" = some (some (.builtin "BaseException.__getattribute__")))
    (xh_NoHistory : PySem.W.findIn K (.ref X_NoHistory) "__getattr__" = some none)
    (xc_NoHistory : PySem.W.findIn K (.ref X_NoHistory) "__class__" = some (some (.builtin "object.__class__")))
    (xo_NoHistory : PySem.W.mroIn K X_NoHistory (.type "object") = some true)
    (xs_NoKind : PySem.W.subIn K (.ref X_NoKind) (.type "BaseException") = some true)
    (xt_NoKind : PySem.W.typeIn K (.ref X_NoKind) = some (.type "type"))
    (xd_NoKind : PySem.W.hasDictIn K X_NoKind = true)
    (xs_NoLog : PySem.W.subIn K (.ref X_NoLog) (.type "BaseException") = some true)
    (xt_NoLog : PySem.W.typeIn K (.ref X_NoLog) = some (.type "type"))
    (xd_NoLog : PySem.W.hasDictIn K X_NoLog = true)
    (xs_NoOrders : PySem.W.subIn K (.ref X_NoOrders) (.type "BaseException") = some true)
    (xt_NoOrders : PySem.W.typeIn K (.ref X_NoOrders) = some (.type "type"))
    (xd_NoOrders : PySem.W.hasDictIn K X_NoOrders = true)
    (xs_NoStore : PySem.W.subIn K (.ref X_NoStore) (.type "BaseException") = some true)
    (xt_NoStore : PySem.W.typeIn K (.ref X_NoStore) = some (.type "type"))
    (xd_NoStore : PySem.W.hasDictIn K X_NoStore = true)
    (xs_NoText : PySem.W.subIn K (.ref X_NoText) (.type "BaseException") = some true)
    (xt_NoText : PySem.W.typeIn K (.ref X_NoText) = some (.type "type"))
    (xd_NoText : PySem.W.hasDictIn K X_NoText = true)
    (xs_NotSound : PySem.W.subIn K (.ref X_NotSound) (.type "BaseException") = some true)
    (xt_NotSound : PySem.W.typeIn K (.ref X_NotSound) = some (.type "type"))
    (xd_NotSound : PySem.W.hasDictIn K X_NotSound = true)
    (xs_TooMany : PySem.W.subIn K (.ref X_TooMany) (.type "BaseException") = some true)
    (xt_TooMany : PySem.W.typeIn K (.ref X_TooMany) = some (.type "type"))
    (xd_TooMany : PySem.W.hasDictIn K X_TooMany = true)
    (xn_ : PySem.W.specialIn K (.builtin "object.__class__") "__get__" = some (some (.builtin "getset_descriptor.__get__"))) (xm_ : PySem.W.takesIn K (.builtin "object.__class__") = some true)
    (p_NoHistory_CourtError : PySem.W.subIn K (.ref X_NoHistory) (.ref X_CourtError) = some true)
    (p_NoHistory_IsYes : PySem.W.subIn K (.ref X_NoHistory) (.ref X_IsYes) = some false)
    (q_NoHistory_IsYes : (!(X_NoHistory == X_IsYes) || false) = true)
    (p_NoHistory_NoDeal : PySem.W.subIn K (.ref X_NoHistory) (.ref X_NoDeal) = some false)
    (q_NoHistory_NoDeal : (!(X_NoHistory == X_NoDeal) || false) = true)
    (p_NoHistory_NoHands : PySem.W.subIn K (.ref X_NoHistory) (.ref X_NoHands) = some false)
    (q_NoHistory_NoHands : (!(X_NoHistory == X_NoHands) || false) = true)
    (p_NoHistory_NoKind : PySem.W.subIn K (.ref X_NoHistory) (.ref X_NoKind) = some false)
    (q_NoHistory_NoKind : (!(X_NoHistory == X_NoKind) || false) = true)
    (p_NoHistory_NoLog : PySem.W.subIn K (.ref X_NoHistory) (.ref X_NoLog) = some false)
    (q_NoHistory_NoLog : (!(X_NoHistory == X_NoLog) || false) = true)
    (p_NoHistory_NoOrders : PySem.W.subIn K (.ref X_NoHistory) (.ref X_NoOrders) = some false)
    (q_NoHistory_NoOrders : (!(X_NoHistory == X_NoOrders) || false) = true)
    (p_NoHistory_NoStore : PySem.W.subIn K (.ref X_NoHistory) (.ref X_NoStore) = some false)
    (q_NoHistory_NoStore : (!(X_NoHistory == X_NoStore) || false) = true)
    (p_NoHistory_NoText : PySem.W.subIn K (.ref X_NoHistory) (.ref X_NoText) = some false)
    (q_NoHistory_NoText : (!(X_NoHistory == X_NoText) || false) = true)
    (p_NoHistory_NotSound : PySem.W.subIn K (.ref X_NoHistory) (.ref X_NotSound) = some false)
    (q_NoHistory_NotSound : (!(X_NoHistory == X_NotSound) || false) = true)
    (p_NoHistory_TooMany : PySem.W.subIn K (.ref X_NoHistory) (.ref X_TooMany) = some false)
    (q_NoHistory_TooMany : (!(X_NoHistory == X_TooMany) || false) = true)
    (p_NoHistory_ValueError : PySem.W.subIn K (.ref X_NoHistory) (.type "ValueError") = some true) :
    ∃ fd : FuncData, (∀ (s : Shared) (v : Value), BindsTo s fd ⟨[v], []⟩ [("_law_script", v)]) ∧ ∀ base : Heap, K.In base → base.Ns mainGlobals mg → FnOk l.prog w K mg base CX0 9 fa fd ["_law_script"] (spLaw K) := by
  have e := hfa.symm.trans (PySem.W.mg_of X G a28)
  cases e
  have F1 := fun_mk (st := stqstate) l1 c1 k1
  have F2 := fun_mk (st := stqnext) l2 c2 k2
  have F3 := fun_mk (st := stqkeys) l3 c3 k3
  have F4 := fun_mk (st := stqspans) l4 c4 k4
  have F5 := fun_mk (st := stqnumbered) l5 c5 k5
  have F6 := fun_mk (st := stqlast) l6 c6 k6
  have F7 := fun_mk (st := stqchoice) l7 c7 k7
  have F8 := fun_mk (st := stqfilled) l8 c8 k8
  have F9 := fun_mk (st := stqlaid) l9 c9 k9
  have F10 := fun_mk (st := stqtale) l10 c10 k10
  have F11 := fun_mk (st := stqodd_deed) l11 c11 k11
  have F12 := fun_mk (st := stqodd_deal) l12 c12 k12
  have F13 := fun_mk (st := stqsmall) l13 c13 k13
  have F14 := fun_mk (st := stqedges) l14 c14 k14
  have F15 := fun_mk (st := stare_unlike) l15 c15 k15
  have F16 := fun_mk (st := stgoes_on) l16 c16 k16
  have F17 := fun_mk (st := stis_whole) l17 c17 k17
  have F18 := fun_mk (st := stis_number) l18 c18 k18
  have F19 := fun_mk (st := stis_key) l19 c19 k19
  have F20 := fun_mk (st := stis_deed) l20 c20 k20
  have F21 := fun_mk (st := stis_deal) l21 c21 k21
  have F22 := fun_mk (st := stis_history) l22 c22 k22
  have F23 := fun_mk (st := stneed_history) l23 c23 k23
  have F24 := fun_mk (st := stqclass) l24 c24 k24
  have F25 := fun_mk (st := stqneed) l25 c25 k25
  have F26 := fun_mk (st := stqtold) l26 c26 k26
  have F27 := fun_mk (st := stqkeys_told) l27 c27 k27
  have F28 := fun_mk (st := stlaw) l28 c28 k28
  have m1 := PySem.W.mg_of X G a1
  have m2 := PySem.W.mg_of X G a2
  have m3 := PySem.W.mg_of X G a3
  have m4 := PySem.W.mg_of X G a4
  have m5 := PySem.W.mg_of X G a5
  have m6 := PySem.W.mg_of X G a6
  have m7 := PySem.W.mg_of X G a7
  have m8 := PySem.W.mg_of X G a8
  have m9 := PySem.W.mg_of X G a9
  have m10 := PySem.W.mg_of X G a10
  have m11 := PySem.W.mg_of X G a11
  have m12 := PySem.W.mg_of X G a12
  have m13 := PySem.W.mg_of X G a13
  have m14 := PySem.W.mg_of X G a14
  have m15 := PySem.W.mg_of X G a15
  have m16 := PySem.W.mg_of X G a16
  have m17 := PySem.W.mg_of X G a17
  have m18 := PySem.W.mg_of X G a18
  have m19 := PySem.W.mg_of X G a19
  have m20 := PySem.W.mg_of X G a20
  have m21 := PySem.W.mg_of X G a21
  have m22 := PySem.W.mg_of X G a22
  have m23 := PySem.W.mg_of X G a23
  have m24 := PySem.W.mg_of X G a24
  have m25 := PySem.W.mg_of X G a25
  have m26 := PySem.W.mg_of X G a26
  have m27 := PySem.W.mg_of X G a27
  have m28 := PySem.W.mg_of X G a28
  have y_ValueError := PySem.W.mg_none_of X G z_ValueError
  have y_abs := PySem.W.mg_none_of X G z_abs
  have y_all := PySem.W.mg_none_of X G z_all
  have y_bool := PySem.W.mg_none_of X G z_bool
  have y_int := PySem.W.mg_none_of X G z_int
  have y_isinstance := PySem.W.mg_none_of X G z_isinstance
  have y_len := PySem.W.mg_none_of X G z_len
  have y_list := PySem.W.mg_none_of X G z_list
  have y_range := PySem.W.mg_none_of X G z_range
  have y_set := PySem.W.mg_none_of X G z_set
  have y_sorted := PySem.W.mg_none_of X G z_sorted
  have y_str := PySem.W.mg_none_of X G z_str
  have y_tuple := PySem.W.mg_none_of X G z_tuple
  have b1 := F1.binds (ps := ["_law_script", "_law_k"]) fun _ _ _ _ _ _ us hl => match us, hl with | [_, _], _ => rfl
  have b2 := F2.binds (ps := ["_law_state_here", "_law_size"]) fun _ _ _ _ _ _ us hl => match us, hl with | [_, _], _ => rfl
  have b3 := F3.binds (ps := ["_law_state_here", "_law_size"]) fun _ _ _ _ _ _ us hl => match us, hl with | [_, _], _ => rfl
  have b4 := F4.binds (ps := ["_law_state_here", "_law_size"]) fun _ _ _ _ _ _ us hl => match us, hl with | [_, _], _ => rfl
  have b5 := F5.binds (ps := ["_law_state_here", "_law_laid_here"]) fun _ _ _ _ _ _ us hl => match us, hl with | [_, _], _ => rfl
  have b6 := F6.binds (ps := ["_law_acts", "_law_key"]) fun _ _ _ _ _ _ us hl => match us, hl with | [_, _], _ => rfl
  have b7 := F7.binds (ps := ["_law_state_here", "_law_spans_here", "_law_laid_here", "_law_fates", "_law_at", "_law_key"]) fun _ _ _ _ _ _ us hl => match us, hl with | [_, _, _, _, _, _], _ => rfl
  have b8 := F8.binds (ps := ["_law_state_here", "_law_spans_here", "_law_laid_here", "_law_fates"]) fun _ _ _ _ _ _ us hl => match us, hl with | [_, _, _, _], _ => rfl
  have b9 := F9.binds (ps := ["_law_state_here", "_law_keys_here", "_law_most"]) fun _ _ _ _ _ _ us hl => match us, hl with | [_, _, _], _ => rfl
  have b10 := F10.binds (ps := ["_law_script", "_law_first", "_law_least", "_law_most", "_law_acts", "_law_keys_here"]) fun _ _ _ _ _ _ us hl => match us, hl with | [_, _, _, _, _, _], _ => rfl
  have b11 := F11.binds (ps := ["_law_state_here", "_law_key"]) fun _ _ _ _ _ _ us hl => match us, hl with | [_, _], _ => rfl
  have b12 := F12.binds (ps := ["_law_state_here", "_law_item"]) fun _ _ _ _ _ _ us hl => match us, hl with | [_, _], _ => rfl
  have b13 := F13.binds (ps := ["_law_size"]) fun _ _ _ _ _ _ us hl => match us, hl with | [_], _ => rfl
  have b14 := F14.binds (ps := ["_law_state_here"]) fun _ _ _ _ _ _ us hl => match us, hl with | [_], _ => rfl
  have b15 := F15.binds (ps := ["things"]) fun _ _ _ _ _ _ us hl => match us, hl with | [_], _ => rfl
  have b16 := F16.binds (ps := ["tale"]) fun _ _ _ _ _ _ us hl => match us, hl with | [_], _ => rfl
  have b17 := F17.binds (ps := ["thing"]) fun _ _ _ _ _ _ us hl => match us, hl with | [_], _ => rfl
  have b18 := F18.binds (ps := ["thing", "least", "most"]) fun _ _ _ _ _ _ us hl => match us, hl with | [_, _, _], _ => rfl
  have b19 := F19.binds (ps := ["thing"]) fun _ _ _ _ _ _ us hl => match us, hl with | [_], _ => rfl
  have b20 := F20.binds (ps := ["thing"]) fun _ _ _ _ _ _ us hl => match us, hl with | [_], _ => rfl
  have b21 := F21.binds (ps := ["thing"]) fun _ _ _ _ _ _ us hl => match us, hl with | [_], _ => rfl
  have b22 := F22.binds (ps := ["thing"]) fun _ _ _ _ _ _ us hl => match us, hl with | [_], _ => rfl
  have b23 := F23.binds (ps := ["thing"]) fun _ _ _ _ _ _ us hl => match us, hl with | [_], _ => rfl
  have b24 := F24.binds (ps := ["_law_e"]) fun _ _ _ _ _ _ us hl => match us, hl with | [_], _ => rfl
  have b25 := F25.binds (ps := ["_law_thing"]) fun _ _ _ _ _ _ us hl => match us, hl with | [_], _ => rfl
  have b26 := F26.binds (ps := ["_law_thing", "_law_due"]) fun _ _ _ _ _ _ us hl => match us, hl with | [_, _], _ => rfl
  have b27 := F27.binds (ps := ["_law_state_here"]) fun _ _ _ _ _ _ us hl => match us, hl with | [_], _ => rfl
  have g_LETTERS : GlobD K mg "LETTERS" (.str (Str.ofString "abcdefghijklmnopqrstuvwxyz")) := glob_flat (PySem.W.mg_of X G ga_LETTERS) gv_LETTERS
  have g_MOST_DEALS : GlobD K mg "MOST_DEALS" (.int 12) := glob_flat (PySem.W.mg_of X G ga_MOST_DEALS) gv_MOST_DEALS
  have g_MOST_DEEDS : GlobD K mg "MOST_DEEDS" (.int 8) := glob_flat (PySem.W.mg_of X G ga_MOST_DEEDS) gv_MOST_DEEDS
  have g_MOST_HAND : GlobD K mg "MOST_HAND" (.int 4) := glob_flat (PySem.W.mg_of X G ga_MOST_HAND) gv_MOST_HAND
  have g_MOST_KEYS : GlobD K mg "MOST_KEYS" (.int 5) := glob_flat (PySem.W.mg_of X G ga_MOST_KEYS) gv_MOST_KEYS
  have g_MOST_LETTERS : GlobD K mg "MOST_LETTERS" (.int 4) := glob_flat (PySem.W.mg_of X G ga_MOST_LETTERS) gv_MOST_LETTERS
  have g_MOST_MOMENT : GlobD K mg "MOST_MOMENT" (.int 9999) := glob_flat (PySem.W.mg_of X G ga_MOST_MOMENT) gv_MOST_MOMENT
  have g_MOST_NUMBER : GlobD K mg "MOST_NUMBER" (.int 999999) := glob_flat (PySem.W.mg_of X G ga_MOST_NUMBER) gv_MOST_NUMBER
  have E_NoHistory : ExRs K mg "NoHistory" := exrs_mk X G x_NoHistory xe_NoHistory xk_NoHistory xs_NoHistory xt_NoHistory
  have Y_NoHistory : ExcC K X_NoHistory := ⟨xg_NoHistory, xh_NoHistory, xs_NoHistory, xd_NoHistory, xc_NoHistory, xn_, xm_, xo_NoHistory⟩
  have T_IsYes : ExIs K mg "IsYes" xi_IsYes := exis_mk X G x_IsYes (exty_mk rfl (xall_cons x_NoHistory ⟨Y_NoHistory, (kit_own xd_IsYes xt_IsYes p_NoHistory_IsYes q_NoHistory_IsYes)⟩ xall_nil))
  have T_NoDeal : ExIs K mg "NoDeal" xi_NoDeal := exis_mk X G x_NoDeal (exty_mk rfl (xall_cons x_NoHistory ⟨Y_NoHistory, (kit_own xd_NoDeal xt_NoDeal p_NoHistory_NoDeal q_NoHistory_NoDeal)⟩ xall_nil))
  have T_NoHands : ExIs K mg "NoHands" xi_NoHands := exis_mk X G x_NoHands (exty_mk rfl (xall_cons x_NoHistory ⟨Y_NoHistory, (kit_own xd_NoHands xt_NoHands p_NoHistory_NoHands q_NoHistory_NoHands)⟩ xall_nil))
  have T_NoHistory : ExIs K mg "NoHistory" xi_NoHistory := exis_mk X G x_NoHistory (exty_mk rfl (xall_cons x_NoHistory ⟨Y_NoHistory, kit_self⟩ xall_nil))
  have T_NoKind : ExIs K mg "NoKind" xi_NoKind := exis_mk X G x_NoKind (exty_mk rfl (xall_cons x_NoHistory ⟨Y_NoHistory, (kit_own xd_NoKind xt_NoKind p_NoHistory_NoKind q_NoHistory_NoKind)⟩ xall_nil))
  have T_NoLog : ExIs K mg "NoLog" xi_NoLog := exis_mk X G x_NoLog (exty_mk rfl (xall_cons x_NoHistory ⟨Y_NoHistory, (kit_own xd_NoLog xt_NoLog p_NoHistory_NoLog q_NoHistory_NoLog)⟩ xall_nil))
  have T_NoOrders : ExIs K mg "NoOrders" xi_NoOrders := exis_mk X G x_NoOrders (exty_mk rfl (xall_cons x_NoHistory ⟨Y_NoHistory, (kit_own xd_NoOrders xt_NoOrders p_NoHistory_NoOrders q_NoHistory_NoOrders)⟩ xall_nil))
  have T_NoStore : ExIs K mg "NoStore" xi_NoStore := exis_mk X G x_NoStore (exty_mk rfl (xall_cons x_NoHistory ⟨Y_NoHistory, (kit_own xd_NoStore xt_NoStore p_NoHistory_NoStore q_NoHistory_NoStore)⟩ xall_nil))
  have T_NoText : ExIs K mg "NoText" xi_NoText := exis_mk X G x_NoText (exty_mk rfl (xall_cons x_NoHistory ⟨Y_NoHistory, (kit_own xd_NoText xt_NoText p_NoHistory_NoText q_NoHistory_NoText)⟩ xall_nil))
  have T_NotSound : ExIs K mg "NotSound" xi_NotSound := exis_mk X G x_NotSound (exty_mk rfl (xall_cons x_NoHistory ⟨Y_NoHistory, (kit_own xd_NotSound xt_NotSound p_NoHistory_NotSound q_NoHistory_NotSound)⟩ xall_nil))
  have T_TooMany : ExIs K mg "TooMany" xi_TooMany := exis_mk X G x_TooMany (exty_mk rfl (xall_cons x_NoHistory ⟨Y_NoHistory, (kit_own xd_TooMany xt_TooMany p_NoHistory_TooMany q_NoHistory_TooMany)⟩ xall_nil))
  have T_ValueError : ExTy K (.type "ValueError") xi_ValueError := exty_mk rfl (xall_cons x_NoHistory ⟨Y_NoHistory, (kit_bt (by decide +kernel) p_NoHistory_ValueError)⟩ xall_nil)
  have C_CourtError : ExCt K mg "CourtError" xc_CourtError := exct_mk X G x_CourtError rfl (xall_cons x_NoHistory (PySem.W.exm_ref xs_CourtError xd_CourtError xt_CourtError p_NoHistory_CourtError) xall_nil)
  refine ⟨PySem.W.fnOf "law" "law" (defArgs stlaw) (defBody stlaw) (defScope stlaw) .none kV28 dc28 pm28 an28 cd28 ct28, fun s v => .of_eq rfl, fun base _ _ => ?_⟩
  have G1 := ok_qstate (P := l.prog) (w := w) (mg := mg) (base := base) F1 y_abs y_len
  have G2 := ok_qnext (P := l.prog) (w := w) (mg := mg) (base := base) F2
  have G3 := ok_qkeys (P := l.prog) (w := w) (mg := mg) (base := base) F3 y_range G2 b2 F2.kp m2
  have G4 := ok_qspans (P := l.prog) (w := w) (mg := mg) (base := base) F4 y_len y_range y_sorted G2 b2 F2.kp m2
  have G5 := ok_qnumbered (P := l.prog) (w := w) (mg := mg) (base := base) F5 G2 b2 F2.kp m2
  have G6 := ok_qlast (P := l.prog) (w := w) (mg := mg) (base := base) F6
  have G7 := ok_qchoice (P := l.prog) (w := w) (mg := mg) (base := base) F7 y_len y_range y_sorted G6 b6 F6.kp m6 G2 b2 F2.kp m2
  have G8 := ok_qfilled (P := l.prog) (w := w) (mg := mg) (base := base) F8 y_len y_range G7 b7 F7.kp m7
  have G9 := ok_qlaid (P := l.prog) (w := w) (mg := mg) (base := base) F9 y_len y_range G2 b2 F2.kp m2
  have G10 := ok_qtale (P := l.prog) (w := w) (mg := mg) (base := base) F10 y_int y_range y_tuple G1 b1 F1.kp m1 G2 b2 F2.kp m2 G3 b3 F3.kp m3 G4 b4 F4.kp m4 G9 b9 F9.kp m9 G5 b5 F5.kp m5 G8 b8 F8.kp m8
  have G11 := ok_qodd_deed (P := l.prog) (w := w) (mg := mg) (base := base) F11 G2 b2 F2.kp m2
  have G12 := ok_qodd_deal (P := l.prog) (w := w) (mg := mg) (base := base) F12 y_len y_list G2 b2 F2.kp m2 G11 b11 F11.kp m11
  have G13 := ok_qsmall (P := l.prog) (w := w) (mg := mg) (base := base) F13 y_range y_tuple
  have G14 := ok_qedges (P := l.prog) (w := w) (mg := mg) (base := base) F14 y_range y_tuple G13 b13 F13.kp m13 G2 b2 F2.kp m2
  have G15 := ok_are_unlike (P := l.prog) (w := w) (mg := mg) (base := base) F15 y_len y_set
  have G16 := ok_goes_on (P := l.prog) (w := w) (mg := mg) (base := base) F16 y_len y_range
  have G17 := ok_is_whole (P := l.prog) (w := w) (mg := mg) (base := base) F17 y_bool y_int y_isinstance
  have G18 := ok_is_number (P := l.prog) (w := w) (mg := mg) (base := base) F18 G17 b17 F17.kp m17
  have G19 := ok_is_key (P := l.prog) (w := w) (mg := mg) (base := base) F19 y_all y_isinstance y_len y_str g_LETTERS g_MOST_LETTERS
  have G20 := ok_is_deed (P := l.prog) (w := w) (mg := mg) (base := base) F20 y_int y_isinstance y_len y_tuple g_MOST_NUMBER G19 b19 F19.kp m19 G18 b18 F18.kp m18
  have G21 := ok_is_deal (P := l.prog) (w := w) (mg := mg) (base := base) F21 y_all y_isinstance y_len y_tuple g_MOST_DEEDS g_MOST_HAND g_MOST_MOMENT G18 b18 F18.kp m18 G20 b20 F20.kp m20
  have G22 := ok_is_history (P := l.prog) (w := w) (mg := mg) (base := base) F22 y_all y_isinstance y_len y_set y_tuple g_MOST_DEALS g_MOST_KEYS G21 b21 F21.kp m21 G15 b15 F15.kp m15 G16 b16 F16.kp m16
  have G23 := ok_need_history (P := l.prog) (w := w) (mg := mg) (base := base) F23 E_NoHistory G22 b22 F22.kp m22
  have G24 := ok_qclass (P := l.prog) (w := w) (mg := mg) (base := base) F24 y_ValueError y_isinstance T_IsYes T_NoDeal T_NoHands T_NoHistory T_NoKind T_NoLog T_NoOrders T_NoStore T_NoText T_NotSound T_TooMany T_ValueError
  have G25 := ok_qneed (P := l.prog) (w := w) (mg := mg) (base := base) F25 C_CourtError G23 b23 F23.kp m23 G24 b24 F24.kp m24
  have G26 := ok_qtold (P := l.prog) (w := w) (mg := mg) (base := base) F26 y_bool y_int y_isinstance G22 b22 F22.kp m22 G25 b25 F25.kp m25
  have G27 := ok_qkeys_told (P := l.prog) (w := w) (mg := mg) (base := base) F27 y_range G2 b2 F2.kp m2 G19 b19 F19.kp m19
  exact law_ok (spD_imp (ok_law (P := l.prog) (w := w) (mg := mg) (base := base) F28 y_len y_list y_range G10 b10 F10.kp m10 G1 b1 F1.kp m1 G26 b26 F26.kp m26 G27 b27 F27.kp m27 G2 b2 F2.kp m2 G12 b12 F12.kp m12 G21 b21 F21.kp m21 G14 b14 F14.kp m14) law_goal)
end Cl
open PySem PySem.W PyProof.Rows
set_option maxHeartbeats 0 in
theorem PySem.Challenge.cw_dealcourt_k11_what_is_one_holds : PySem.Challenge.rw_dealcourt_k11_what_is_one.Holds := by
  w_on; o_law; k_head; (case hw => w_witness2)
  k_fill
  refine L2.walk_of (l := PySem.Challenge.rw_dealcourt_k11_what_is_one) (n := 63) (k := 9) (x := "_law_script") (CX := fun _ => L2.CX0) (sp := fun w => DL.spLaw _) rfl (by decide) rfl ⟨rfl, by decide, by decide⟩ (fun w h Y => PySem.W.kIn_of Y) ?F
    (fun _ _ a ns hl _ hS => ⟨a, ns, rfl, hS, hl, fun _ => rfl⟩) (fun _ _ _ _ _ h => h)
  case F =>
    intro w mg fa h KX G hmg
    refine' Cl.all_mk KX G hmg ?a1 ?l1 ?c1 ?k1 ?a2 ?l2 ?c2 ?k2 ?a3 ?l3 ?c3 ?k3 ?a4 ?l4 ?c4 ?k4 ?a5 ?l5 ?c5 ?k5 ?a6 ?l6 ?c6 ?k6 ?a7 ?l7 ?c7 ?k7 ?a8 ?l8 ?c8 ?k8 ?a9 ?l9 ?c9 ?k9 ?a10 ?l10 ?c10 ?k10 ?a11 ?l11 ?c11 ?k11 ?a12 ?l12 ?c12 ?k12 ?a13 ?l13 ?c13 ?k13 ?a14 ?l14 ?c14 ?k14 ?a15 ?l15 ?c15 ?k15 ?a16 ?l16 ?c16 ?k16 ?a17 ?l17 ?c17 ?k17 ?a18 ?l18 ?c18 ?k18 ?a19 ?l19 ?c19 ?k19 ?a20 ?l20 ?c20 ?k20 ?a21 ?l21 ?c21 ?k21 ?a22 ?l22 ?c22 ?k22 ?a23 ?l23 ?c23 ?k23 ?a24 ?l24 ?c24 ?k24 ?a25 ?l25 ?c25 ?k25 ?a26 ?l26 ?c26 ?k26 ?a27 ?l27 ?c27 ?k27 ?a28 ?l28 ?c28 ?k28 ?z_ValueError ?z_abs ?z_all ?z_bool ?z_int ?z_isinstance ?z_len ?z_list ?z_range ?z_set ?z_sorted ?z_str ?z_tuple ?ga_LETTERS ?gv_LETTERS ?ga_MOST_DEALS ?gv_MOST_DEALS ?ga_MOST_DEEDS ?gv_MOST_DEEDS ?ga_MOST_HAND ?gv_MOST_HAND ?ga_MOST_KEYS ?gv_MOST_KEYS ?ga_MOST_LETTERS ?gv_MOST_LETTERS ?ga_MOST_MOMENT ?gv_MOST_MOMENT ?ga_MOST_NUMBER ?gv_MOST_NUMBER ?x_CourtError ?x_IsYes ?x_NoDeal ?x_NoHands ?x_NoHistory ?x_NoKind ?x_NoLog ?x_NoOrders ?x_NoStore ?x_NoText ?x_NotSound ?x_TooMany ?xs_CourtError ?xt_CourtError ?xd_CourtError ?xs_IsYes ?xt_IsYes ?xd_IsYes ?xs_NoDeal ?xt_NoDeal ?xd_NoDeal ?xs_NoHands ?xt_NoHands ?xd_NoHands ?xe_NoHistory ?xs_NoHistory ?xt_NoHistory ?xd_NoHistory ?xk_NoHistory ?xg_NoHistory ?xh_NoHistory ?xc_NoHistory ?xo_NoHistory ?xs_NoKind ?xt_NoKind ?xd_NoKind ?xs_NoLog ?xt_NoLog ?xd_NoLog ?xs_NoOrders ?xt_NoOrders ?xd_NoOrders ?xs_NoStore ?xt_NoStore ?xd_NoStore ?xs_NoText ?xt_NoText ?xd_NoText ?xs_NotSound ?xt_NotSound ?xd_NotSound ?xs_TooMany ?xt_TooMany ?xd_TooMany ?xn_ ?xm_ ?p_NoHistory_CourtError ?p_NoHistory_IsYes ?q_NoHistory_IsYes ?p_NoHistory_NoDeal ?q_NoHistory_NoDeal ?p_NoHistory_NoHands ?q_NoHistory_NoHands ?p_NoHistory_NoKind ?q_NoHistory_NoKind ?p_NoHistory_NoLog ?q_NoHistory_NoLog ?p_NoHistory_NoOrders ?q_NoHistory_NoOrders ?p_NoHistory_NoStore ?q_NoHistory_NoStore ?p_NoHistory_NoText ?q_NoHistory_NoText ?p_NoHistory_NotSound ?q_NoHistory_NotSound ?p_NoHistory_TooMany ?q_NoHistory_TooMany ?p_NoHistory_ValueError
    (case a1 => k_is)
    (case l1 => k_is)
    (case c1 => k_is)
    (case k1 => k_is)
    (case a2 => k_is)
    (case l2 => k_is)
    (case c2 => k_is)
    (case k2 => k_is)
    (case a3 => k_is)
    (case l3 => k_is)
    (case c3 => k_is)
    (case k3 => k_is)
    (case a4 => k_is)
    (case l4 => k_is)
    (case c4 => k_is)
    (case k4 => k_is)
    (case a5 => k_is)
    (case l5 => k_is)
    (case c5 => k_is)
    (case k5 => k_is)
    (case a6 => k_is)
    (case l6 => k_is)
    (case c6 => k_is)
    (case k6 => k_is)
    (case a7 => k_is)
    (case l7 => k_is)
    (case c7 => k_is)
    (case k7 => k_is)
    (case a8 => k_is)
    (case l8 => k_is)
    (case c8 => k_is)
    (case k8 => k_is)
    (case a9 => k_is)
    (case l9 => k_is)
    (case c9 => k_is)
    (case k9 => k_is)
    (case a10 => k_is)
    (case l10 => k_is)
    (case c10 => k_is)
    (case k10 => k_is)
    (case a11 => k_is)
    (case l11 => k_is)
    (case c11 => k_is)
    (case k11 => k_is)
    (case a12 => k_is)
    (case l12 => k_is)
    (case c12 => k_is)
    (case k12 => k_is)
    (case a13 => k_is)
    (case l13 => k_is)
    (case c13 => k_is)
    (case k13 => k_is)
    (case a14 => k_is)
    (case l14 => k_is)
    (case c14 => k_is)
    (case k14 => k_is)
    (case a15 => k_is)
    (case l15 => k_is)
    (case c15 => k_is)
    (case k15 => k_is)
    (case a16 => k_is)
    (case l16 => k_is)
    (case c16 => k_is)
    (case k16 => k_is)
    (case a17 => k_is)
    (case l17 => k_is)
    (case c17 => k_is)
    (case k17 => k_is)
    (case a18 => k_is)
    (case l18 => k_is)
    (case c18 => k_is)
    (case k18 => k_is)
    (case a19 => k_is)
    (case l19 => k_is)
    (case c19 => k_is)
    (case k19 => k_is)
    (case a20 => k_is)
    (case l20 => k_is)
    (case c20 => k_is)
    (case k20 => k_is)
    (case a21 => k_is)
    (case l21 => k_is)
    (case c21 => k_is)
    (case k21 => k_is)
    (case a22 => k_is)
    (case l22 => k_is)
    (case c22 => k_is)
    (case k22 => k_is)
    (case a23 => k_is)
    (case l23 => k_is)
    (case c23 => k_is)
    (case k23 => k_is)
    (case a24 => k_is)
    (case l24 => k_is)
    (case c24 => k_is)
    (case k24 => k_is)
    (case a25 => k_is)
    (case l25 => k_is)
    (case c25 => k_is)
    (case k25 => k_is)
    (case a26 => k_is)
    (case l26 => k_is)
    (case c26 => k_is)
    (case k26 => k_is)
    (case a27 => k_is)
    (case l27 => k_is)
    (case c27 => k_is)
    (case k27 => k_is)
    (case a28 => k_is)
    (case l28 => k_is)
    (case c28 => k_is)
    (case k28 => k_is)
    (case z_ValueError => k_is)
    (case z_abs => k_is)
    (case z_all => k_is)
    (case z_bool => k_is)
    (case z_int => k_is)
    (case z_isinstance => k_is)
    (case z_len => k_is)
    (case z_list => k_is)
    (case z_range => k_is)
    (case z_set => k_is)
    (case z_sorted => k_is)
    (case z_str => k_is)
    (case z_tuple => k_is)
    (case ga_LETTERS => k_is)
    (case gv_LETTERS => decide +kernel)
    (case ga_MOST_DEALS => k_is)
    (case gv_MOST_DEALS => decide +kernel)
    (case ga_MOST_DEEDS => k_is)
    (case gv_MOST_DEEDS => decide +kernel)
    (case ga_MOST_HAND => k_is)
    (case gv_MOST_HAND => decide +kernel)
    (case ga_MOST_KEYS => k_is)
    (case gv_MOST_KEYS => decide +kernel)
    (case ga_MOST_LETTERS => k_is)
    (case gv_MOST_LETTERS => decide +kernel)
    (case ga_MOST_MOMENT => k_is)
    (case gv_MOST_MOMENT => decide +kernel)
    (case ga_MOST_NUMBER => k_is)
    (case gv_MOST_NUMBER => decide +kernel)
    (case x_CourtError => k_is)
    (case x_IsYes => k_is)
    (case x_NoDeal => k_is)
    (case x_NoHands => k_is)
    (case x_NoHistory => k_is)
    (case x_NoKind => k_is)
    (case x_NoLog => k_is)
    (case x_NoOrders => k_is)
    (case x_NoStore => k_is)
    (case x_NoText => k_is)
    (case x_NotSound => k_is)
    (case x_TooMany => k_is)
    (case xs_CourtError => first | rfl | k_is)
    (case xt_CourtError => first | rfl | k_is)
    (case xd_CourtError => first | rfl | k_is)
    (case xs_IsYes => first | rfl | k_is)
    (case xt_IsYes => first | rfl | k_is)
    (case xd_IsYes => first | rfl | k_is)
    (case xs_NoDeal => first | rfl | k_is)
    (case xt_NoDeal => first | rfl | k_is)
    (case xd_NoDeal => first | rfl | k_is)
    (case xs_NoHands => first | rfl | k_is)
    (case xt_NoHands => first | rfl | k_is)
    (case xd_NoHands => first | rfl | k_is)
    (case xe_NoHistory => k_exc)
    (case xs_NoHistory => first | rfl | k_is)
    (case xt_NoHistory => first | rfl | k_is)
    (case xd_NoHistory => first | rfl | k_is)
    (case xk_NoHistory => first | rfl | k_is)
    (case xg_NoHistory => first | rfl | k_is)
    (case xh_NoHistory => first | rfl | k_is)
    (case xc_NoHistory => first | rfl | k_is)
    (case xo_NoHistory => first | rfl | k_is)
    (case xs_NoKind => first | rfl | k_is)
    (case xt_NoKind => first | rfl | k_is)
    (case xd_NoKind => first | rfl | k_is)
    (case xs_NoLog => first | rfl | k_is)
    (case xt_NoLog => first | rfl | k_is)
    (case xd_NoLog => first | rfl | k_is)
    (case xs_NoOrders => first | rfl | k_is)
    (case xt_NoOrders => first | rfl | k_is)
    (case xd_NoOrders => first | rfl | k_is)
    (case xs_NoStore => first | rfl | k_is)
    (case xt_NoStore => first | rfl | k_is)
    (case xd_NoStore => first | rfl | k_is)
    (case xs_NoText => first | rfl | k_is)
    (case xt_NoText => first | rfl | k_is)
    (case xd_NoText => first | rfl | k_is)
    (case xs_NotSound => first | rfl | k_is)
    (case xt_NotSound => first | rfl | k_is)
    (case xd_NotSound => first | rfl | k_is)
    (case xs_TooMany => first | rfl | k_is)
    (case xt_TooMany => first | rfl | k_is)
    (case xd_TooMany => first | rfl | k_is)
    (case xn_ => k_is)
    (case xm_ => k_is)
    (case p_NoHistory_CourtError => first | rfl | k_is)
    (case p_NoHistory_IsYes => first | rfl | k_is)
    (case q_NoHistory_IsYes => first | rfl | decide)
    (case p_NoHistory_NoDeal => first | rfl | k_is)
    (case q_NoHistory_NoDeal => first | rfl | decide)
    (case p_NoHistory_NoHands => first | rfl | k_is)
    (case q_NoHistory_NoHands => first | rfl | decide)
    (case p_NoHistory_NoKind => first | rfl | k_is)
    (case q_NoHistory_NoKind => first | rfl | decide)
    (case p_NoHistory_NoLog => first | rfl | k_is)
    (case q_NoHistory_NoLog => first | rfl | decide)
    (case p_NoHistory_NoOrders => first | rfl | k_is)
    (case q_NoHistory_NoOrders => first | rfl | decide)
    (case p_NoHistory_NoStore => first | rfl | k_is)
    (case q_NoHistory_NoStore => first | rfl | decide)
    (case p_NoHistory_NoText => first | rfl | k_is)
    (case q_NoHistory_NoText => first | rfl | decide)
    (case p_NoHistory_NotSound => first | rfl | k_is)
    (case q_NoHistory_NotSound => first | rfl | decide)
    (case p_NoHistory_TooMany => first | rfl | k_is)
    (case q_NoHistory_TooMany => first | rfl | decide)
    (case p_NoHistory_ValueError => first | rfl | k_is)
