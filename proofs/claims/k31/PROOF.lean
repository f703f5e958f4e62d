import PyProof.Rows.All
import Wide.All
import OpenK.AllK
import Wide.FinOn
import HandS.ForExc
import HandS.ExcIs
import HandS.ExcValue
import HandS.TryMany
import HandS.ForMost
import HandS.SetFor
import HandS.Deep
import HandS.Conv
import HandS.IsInst
import HandS.Style
import HandS.TupAny
import PyProof.Rows.ListMulArg
import PyProof.StrOps2
import HandS.RevTup
import KE.DataEq
import KE.SortData
import HandS.SetKeys
import KE.DataFind
import HandS.NoneIn
import PySem.Challenge.RW_dealcourt_k31_words_barred
set_option Elab.async false
set_option linter.all false
set_option maxRecDepth 100000
set_option maxHeartbeats 2000000
/-! DX0: an exception that is caught and kept: behind the suite it is a thing of the heap like others. -/
namespace L2
open PySem PySem.Spec PyProof.Rows
/-- an exception of the class cls, caught or made -/
def ExC (cls : Value) (a : Addr) : HO := .ext fun h => ∃ (o : Obj) (vs : Array Value), h.get? a = some o ∧ Zc cls none o ∧ o.data = .fields vs
theorem exC_ok {P : Program} {w : World} {H : Hp} {h : Heap} {a : Addr} {cls : Value} {o : Obj} {vs : Array Value} (e : h.get? a = some o) (z : Zc cls none o) (d : o.data = .fields vs) : ObjOk P w H h a (ExC cls a) :=
  ⟨⟨o, vs, e, z, d⟩, ⟨o, e⟩, fun _ _ ⟨o, v, q, r⟩ k => ⟨o, v, k o q, r⟩⟩
section
variable {X : Cx} {pins : List (Addr × Obj)} {σ : St} {H : Hp} {s : Shared}
/-- an object that was pinned, and is not older than the frame, is from now on one of the heap's -/
theorem Inv.track {a : Addr} {o : Obj} {vs : Array Value} {cls : Value} (I : Inv X ((a, o) :: pins) σ H s) (z : Zc cls none o) (d : o.data = .fields vs) (n0 : X.s_0.heap.get? a = none) (nc : ∀ x c, X.env.cells.lookup x = some c → c ≠ a) (np : ∀ p ∈ X.pn ++ pins, p.1 ≠ a) : Inv X pins σ (upd H a (ExC cls a)) s := by
  obtain ⟨pe, pn, pl, pf, pd⟩ := I.pin (a, o) (List.mem_append_right _ List.mem_cons_self)
  have pe : s.heap.get? a = some o := pe
  have pn : H a = none := pn
  have old : ∀ b ob, X.s_0.heap.get? b = some ob → b ≠ a := fun b ob e q => by rw [q, n0] at e; cases e
  have has : ∀ b u, H b = some u → b ≠ a := fun b u e q => by rw [q, pn] at e; cases e
  refine ⟨I.ok, I.os, I.bare, ⟨I.base.keep, I.base.slot, fun b ob e n hx => ?_, I.base.there, fun b xs e => ?_, fun b ob u e => ?_, fun b ps e => ?_⟩, I.loc, I.cell, ?_, fun x c e => ?_, fun p hp => ?_, fun b u e => ?_, I.len⟩
  · rw [upd_ne (old b ob e)]
    exact I.base.free b ob e n hx
  · have q := I.base.tups b xs e
    rw [upd_ne (has b _ q)]
    exact q
  · have q := I.base.frzs b ob u e
    rw [upd_ne (has b _ q)]
    exact q
  · obtain ⟨m, q⟩ := I.base.tbls b ps e
    exact ⟨m, by rw [upd_ne (has b _ q)]; exact q⟩
  · have hl : X.env.locals ≠ a := fun q => pl q.symm
    rw [upd_ne hl]
    exact I.free
  · rw [upd_ne (nc x c e)]
    exact I.freeC x c e
  · have hp2 : p ∈ X.pn ++ (a, o) :: pins := by
      rcases List.mem_append.mp hp with q | q
      · exact List.mem_append_left _ q
      · exact List.mem_append_right _ (List.mem_cons_of_mem _ q)
    obtain ⟨q1, q2, q3, q4, q5⟩ := I.pin p hp2
    exact ⟨q1, by rw [upd_ne (np p hp)]; exact q2, q3, q4, q5⟩
  · by_cases hb : b = a
    · subst hb
      rw [upd_same] at e
      cases e
      exact exC_ok pe z d
    · rw [upd_ne hb] at e
      refine (I.hok b u e).stay (fun c v hc q => q) (fun c q => ?_) fun c xs q => ?_
      · rw [upd_ne (has c _ q)]
        exact q
      · rw [upd_ne (has c _ q)]
        exact q
/-- what the clause 'except x as n' wishes: behind its suite the exception is kept in the heap -/
def wKeep (K : PySem.W.Frag) (n : Nat) (c : Value) (i : Nat) (ts : Addr → Value → TS) (Wout : WX) (D : Ends) : WX := fun cls d σ H =>
  d = none ∧ ∃ b, PySem.W.exmOne K cls c = some b ∧ (b = true → σ.length = n → ∀ a, H a = none → ts a cls { nx := fun σ' H' => H' a = none → D.nx (σ'.set i none) (upd H' a (ExC cls a)), rt := fun v H' => H' a = none → D.rt v (upd H' a (ExC cls a)), bk := fun σ' H' => H' a = none → D.bk (σ'.set i none) (upd H' a (ExC cls a)), ct := fun σ' H' => H' a = none → D.ct (σ'.set i none) (upd H' a (ExC cls a)) } (σ.set i (some (.ref a))) H) ∧
    (b = false → Wout cls d σ H)
theorem ps_try_keep {x n : Str} {c : Value} {i : Nat} {body suite : List Stmt} {b₀ : Stmt} {np pos pos' : Pos} {tb : WX → TS} {ts : Addr → Value → TS} {Wout : WX} (hs : X.stack = X.env :: X.outer) (hf : X.env.frame = some X.env.locals) (hN : X.N.Nodup) (hi : X.N[i]? = some n) (hln : X.env.kindOf n = some .local) (hc : Names X x c) (tk : Takes X Wout) (hex : X.ex = [])
    (hb : ∀ (W : WX) (pn : List (Addr × Obj)) (xe : Value → Shared → Prop), Takes (X.tr pn xe) W → PassesOwn (model X.prog X.w) X.A X.env xe → PSs (X.tr pn xe) body (tb W))
    (hsu : ∀ (a : Addr) (oe : Obj) (cls : Value) (pn : List (Addr × Obj)), Zc cls none oe → (∃ vs, oe.data = .fields vs) → PSs (X.suite a ((a, oe) :: pn)) (b₀ :: suite) (ts a cls)) :
    PS X (.Try body [.ExceptHandler (some (.Name x np)) (some n) (b₀ :: suite) pos'] [] [] pos) (fun D σ H => tb (wKeep X.K X.N.length c i ts Wout D) D σ H) := by
  refine ⟨fun pins s σ H D I h => wpAny_Try_except ?_⟩
  have ok := I.ok
  have here : X.A.frames = some (X.env :: X.outer) := by rw [ok.frames, hs]
  have isLoc : Loc X.env.scope n := .inl hln
  refine wpAny_mono ((hb (wKeep X.K X.N.length c i ts Wout D) (X.pn ++ pins) (fun e s₁ => wpAny (model X.prog X.w) X.A (noteFrame e X.env) (fun _ s₂ => wpAny (model X.prog X.w) X.A (setFlight e none) (fun _ s₃ =>
    wpAny (model X.prog X.w) X.A (handleBy e X.env [.ExceptHandler (some (.Name x np)) (some n) (b₀ :: suite) pos']) (SP X pins D) X.xe s₃) X.xe s₂) X.xe s₁) (fun u s' thrown => ?_) PassesOwn.looking).run [] s σ H D (I.toTry _) h) (fun f s1 done => ?_) (fun _ _ z => z)
  · obtain ⟨a, B, sI, pins', σ', H', cls, d, rfl, J', nb, up, sky, na, os, ag, hd0, b, hb1, hyes, hno⟩ := thrown
    subst hd0
    have J : Inv X pins σ' H' sI := J'.ofTry ok
    rw [hs] at sky
    show wpAny _ _ (noteFrame (.ref a) X.env) _ _ _
    refine Sky.land Zc.steady here hf sky fun h3 fl3 up3 => ?_
    have J3 : Inv X pins σ' H' { s' with heap := h3 } := J.landed nb fl3.1 (up.trans up3) os ag
    obtain ⟨oe3, vs3, he3, hz3, hd3⟩ := fl3.there
    have nfr : a ∉ frs (X.env :: X.outer) := fun hm => by
      obtain ⟨_, o', e', hnf⟩ := fl3.2.2.1.mem hm
      cases he3.symm.trans e'
      exact hnf _ hd3
    have nI : sI.heap.get? a = none := by
      cases q : sI.heap.get? a with
      | none => rfl
      | some o => exact absurd (nb a o q (by rw [hs]; exact nfr)) (by rw [fl3.2.1]; exact fun z => nomatch z)
    have n0 : X.s_0.heap.get? a = none := by
      cases q : X.s_0.heap.get? a with
      | none => rfl
      | some o =>
        obtain ⟨o', e'⟩ := J.base.there a o q (by rw [hex]; exact fun z => nomatch z)
        cases nI.symm.trans e'
    have nc : ∀ y c', X.env.cells.lookup y = some c' → c' ≠ a := fun y c' e q => by
      obtain ⟨v, ov, hov, _⟩ := J.cell y c' e
      rw [q] at hov
      cases nI.symm.trans hov
    have npp : ∀ p ∈ X.pn ++ pins, p.1 ≠ a := fun p hp q => by
      have := (J.pin p hp).1
      rw [q] at this
      cases nI.symm.trans this
    have nL : a ≠ X.env.locals := fun q => nfr (List.mem_filterMap.mpr ⟨X.env, List.mem_cons_self, by rw [hf, q]⟩)
    have nF : a ∉ X.fs := fun hm => by
      obtain ⟨e, he, q⟩ := List.mem_filterMap.mp hm
      exact nfr (List.mem_filterMap.mpr ⟨e, List.mem_cons_of_mem _ he, q⟩)
    have S3 := J3.suite he3 hd3 na nL nF
    refine wpAny_handleBy_cons (codeAny_handlers_test ?_) (by intro q; cases q)
    have LT : PySem.W.Looks (model X.prog X.w) h3 (typeOf (.ref a)) cls := fun A Q E s k q => wpAny_typeOf_ref (k _ _ he3) (by rw [hz3.1]; exact q)
    have LM := PySem.W.exm_one (M := model X.prog X.w) (J3.kIn) LT hb1
    have asked : ∀ {Q : Value → Shared → Prop} {E : Value → Shared → Prop}, Q c { s' with heap := h3 } → wpAny (model X.prog X.w) (X.A.mark (some (.ref a))) (eval (.Name x np) X.env) Q E { s' with heap := h3 } := fun {Q E} q => by
      obtain ⟨hg, hdbg, hm | ⟨hm, hv, hnn⟩⟩ := hc
      · exact ld_glob (X := X.suite a ((a, oe3) :: (X.pn ++ pins))) S3 hg hm q hdbg
      · exact ld_blt (X := X.suite a ((a, oe3) :: (X.pn ++ pins))) S3 hg hm hv q hnn hdbg
    refine asked (LM.here ?_)
    cases b with
    | true =>
      refine codeAny_handlers_suite_as (HandSPX.lands_againZ fl3 fun h4 fl4 up4 => ?_)
      have J4 : Inv X pins σ' H' { s' with heap := h4 } := J.landed nb fl4.1 ((up.trans up3).trans up4) os ag
      obtain ⟨oe4, vs4, he4, hz4, hd4⟩ := fl4.there
      have S4 := J4.suite he4 hd4 na nL nF
      refine store_ok (X := X.suite a ((a, oe4) :: (X.pn ++ pins))) (v := .ref a) S4 hN hi isLoc rfl (fun s5 S5 => ?_) (.inr hln)
      refine wpAny_mono ((hsu a oe4 cls (X.pn ++ pins) hz4 ⟨_, hd4⟩).run [] s5 _ H' _ S5 (hyes rfl J.len a na)) (fun f s6 fin6 => ?_) (fun _ _ z => False.elim z)
      have ends : ∀ {σ6 : St} {H6 : Hp} {Q : Shared → Prop}, Inv (X.suite a ((a, oe4) :: (X.pn ++ pins))) [] σ6 H6 s6 → (∀ s7, H6 a = none → Inv X pins (σ6.set i none) (upd H6 a (ExC cls a)) s7 → Q s7) →
          wpAny (model X.prog X.w) X.A (do bindName X.env n .none; unbindBehindTheSuite X.env n pos') (fun _ s7 => Q s7) X.xe s6 := fun {σ6 H6 Q} S6 hq => by
        have U : Inv X ((a, oe4) :: pins) σ6 H6 s6 := ⟨ok, S6.os, S6.bare, S6.base, S6.loc, S6.cell, S6.free, S6.freeC, fun p hp => S6.pin p (by
          refine List.mem_append_left _ ?_
          rcases List.mem_append.mp hp with q | q
          · exact List.mem_cons_of_mem _ (List.mem_append_left _ q)
          · rcases List.mem_cons.mp q with q | q
            · rw [q]; exact List.mem_cons_self
            · exact List.mem_cons_of_mem _ (List.mem_append_right _ q)), S6.hok, S6.len⟩
        have h6 : H6 a = none := (U.pin (a, oe4) (List.mem_append_right _ List.mem_cons_self)).2.1
        exact gone_ok U hN hi hln fun s7 U7 => hq s7 h6 (U7.track hz4 hd4 n0 nc npp)
      cases f with
      | next =>
        obtain ⟨σ6, H6, S6, q6⟩ := fin6
        exact ends S6 fun s7 h6 J7 => ⟨_, _, J7, q6 h6⟩
      | brk =>
        obtain ⟨σ6, H6, S6, q6⟩ := fin6
        exact ends S6 fun s7 h6 J7 => ⟨_, _, J7, q6 h6⟩
      | cont =>
        obtain ⟨σ6, H6, S6, q6⟩ := fin6
        exact ends S6 fun s7 h6 J7 => ⟨_, _, J7, q6 h6⟩
      | ret u =>
        obtain ⟨v6, σ6, H6, S6, r6, q6⟩ := fin6
        exact ends S6 fun s7 h6 J7 => ⟨_, _, _, J7, r6, q6 h6⟩
    | false =>
      show wpAny _ X.A (handleBy (.ref a) X.env []) _ _ _
      refine wpAny_handleBy_nil ?_
      obtain ⟨k1, k2, k3, oe, vs, T, oT, ts', he, hz, hd, h1, hr⟩ := id fl3
      unfold PySem.passOn
      refine wpAny_bind (wpAny_field he hd h1 ?_)
      rw [if_neg (show ¬ ((Value.ref T == Value.none) = true) from by simp)]
      have out : wpAny (model X.prog X.w) X.A (setFlight (.ref a) X.env.frame) (fun _ s4 => wpAny (model X.prog X.w) X.A (throw (.ref a) : Sem Flow) (SP X pins D) X.xe s4) X.xe { s' with heap := h3 } := by
        rw [hf]
        refine HandSPX.setFlight_upZ fl3 fun h4 hh4 up4 => wpAny_throw (tk _ _ ?_)
        exact ⟨a, B, sI, pins, σ', H', cls, none, rfl, J, nb, (up.trans up3).trans up4, .inr (.inr (by rw [hs]; exact hh4)), na, os, ag, hno rfl⟩
      first
        | exact wpAny_bind (wpAny_pure (wpAny_bind out))
        | exact wpAny_bind out
  · cases f with
    | ret u =>
      obtain ⟨v, σ', H', J', r, q⟩ := done
      exact ⟨v, σ', H', J'.ofTry ok, r, q⟩
    | next =>
      obtain ⟨σ', H', J', q⟩ := done
      exact wpAny_execs_nil ⟨σ', H', J'.ofTry ok, q⟩
    | brk =>
      obtain ⟨σ', H', J', q⟩ := done
      exact ⟨σ', H', J'.ofTry ok, q⟩
    | cont =>
      obtain ⟨σ', H', J', q⟩ := done
      exact ⟨σ', H', J'.ofTry ok, q⟩
end
end L2

/-! DL: a data layer over the hand layer: values are data (PyData), lists and dicts of the def's own are slots. -/
namespace DL
open PySem PySem.Spec PyProof.Rows L2
set_option autoImplicit true

/-! ### slots and values -/
inductive Hd where
  | lst | dct (ks : List Key) | ins (C dx : Addr) (ns : List Str)
/-- a thing of the def's own with things of its own within -/
inductive NT where
  | fz (x : PyData) | node (a : Addr) (h : Hd) (ts : List NT)
inductive Sl where
  | un | d (x : PyData) | lst (fr : Bool) (xs : List PyData) | dct (fr : Bool) (kvs : List (Key × PyData)) | v (x : V) | nt (fr : Bool) (t : NT) | al (i : Nat) (p : List Nat) (a : Addr) | ex (nm : Str)
inductive Vl where
  | d (x : PyData) | new (xs : List PyData) | dk (kvs : List (Key × PyData)) | bor (i : Nat) | v (x : V) | nt (t : NT) | bp (i : Nat) (p : List Nat) (a : Addr) | ex (nm : Str)
abbrev Ow := Addr → Option Nat
abbrev Ep := List Sl
def look : Ep → Nat → Sl
  | [], _ => .un
  | s :: _, 0 => s
  | _ :: r, n + 1 => look r n
def put : Ep → Nat → Sl → Ep
  | [], _, _ => []
  | _ :: r, 0, s => s :: r
  | a :: r, n + 1, s => a :: put r n s
theorem put_length : ∀ (ε : Ep) (i : Nat) (s : Sl), (put ε i s).length = ε.length
  | [], _, _ => rfl
  | _ :: _, 0, _ => rfl
  | _ :: r, n + 1, s => congrArg (· + 1) (put_length r n s)
theorem look_put_self : ∀ {ε : Ep} {i : Nat} {s : Sl}, i < ε.length → look (put ε i s) i = s
  | [], _, _, h => absurd h (Nat.not_lt_zero _)
  | _ :: _, 0, _, _ => rfl
  | _ :: r, n + 1, s, h => look_put_self (ε := r) (Nat.lt_of_succ_lt_succ h)
theorem look_put_ne : ∀ {ε : Ep} {i j : Nat} {s : Sl}, j ≠ i → look (put ε i s) j = look ε j
  | [], _, _, _, _ => rfl
  | _ :: _, 0, 0, _, h => absurd rfl h
  | _ :: _, 0, _ + 1, _, _ => rfl
  | _ :: _, _ + 1, 0, _, _ => rfl
  | _ :: r, n + 1, m + 1, s, h => look_put_ne (ε := r) fun e => h (congrArg (· + 1) e)
theorem look_out : ∀ {ε : Ep} {i : Nat}, ε.length ≤ i → look ε i = .un
  | [], _, _ => rfl
  | _ :: _, 0, h => absurd h (Nat.not_succ_le_zero _)
  | _ :: r, n + 1, h => look_out (ε := r) (Nat.le_of_succ_le_succ h)
theorem look_lt {ε : Ep} {i : Nat} (h : look ε i ≠ .un) : i < ε.length := by
  by_cases z : i < ε.length
  · exact z
  · exact absurd (look_out (Nat.le_of_not_lt z)) h

/-! ### decisions: simp goes into none of their ways -/
def onB (b : Bool) (X Y : Prop) : Prop := match b with
  | true => X
  | false => Y
theorem onB_t {X Y : Prop} : onB true X Y = X := rfl
theorem onB_f {X Y : Prop} : onB false X Y = Y := rfl
def onO {α : Type} (o : Option α) (k : α → Prop) : Prop := match o with
  | some d => k d
  | none => False
theorem onO_s {α : Type} {d : α} {k : α → Prop} : onO (some d) k = k d := rfl
theorem onO_get {α : Type} {o : Option α} {k : α → Prop} (h : onO o k) : ∃ d, o = some d ∧ k d := by
  cases o with
  | none => exact h.elim
  | some d => exact ⟨d, rfl, h⟩
theorem onO_of {α : Type} {o : Option α} {d : α} {k : α → Prop} (h : o = some d) (q : k d) : onO o k := by rw [h]; exact q
theorem onB_dec {P X Y : Prop} [Decidable P] (h1 : P → X) (h2 : ¬ P → Y) : onB (decide P) X Y := by
  by_cases h : P
  · rw [decide_eq_true h]; exact h1 h
  · rw [decide_eq_false h]; exact h2 h
theorem onB_beq {α : Type} [BEq α] [LawfulBEq α] {a b : α} {X Y : Prop} (h1 : a = b → X) (h2 : ¬ a = b → Y) : onB (a == b) X Y := by
  cases h : a == b with
  | true => exact h1 (eq_of_beq h)
  | false => exact h2 (fun e => by rw [e, beq_self_eq_true] at h; cases h)
theorem onB_ofT {b : Bool} {X Y : Prop} (h : b = true) (q : X) : onB b X Y := by rw [h]; exact q
theorem onB_ofF {b : Bool} {X Y : Prop} (h : b = false) (q : Y) : onB b X Y := by rw [h]; exact q
/-! ### data: as Dp of the hand layer, no list of the written part -/
def keyP : Key → PyData
  | .inl i => .int i
  | .inr s => .str s
mutual
inductive Dd (K : PySem.W.Frag) (H : Hp) : V → PyData → Prop
  | non : Dd K H .non .none
  | bl (b : Bool) : Dd K H (.bl b) (.bool b)
  | int (i : Int) : Dd K H (.int i) (.int i)
  | str (x : Str) : Dd K H (.str x) (.str x)
  | lst {a : Addr} {us : List V} {es : List PyData} : SqL K H a us → DdAll K H us es → Dd K H (.ref a) (.list es)
  | tup {a : Addr} {us : List V} {es : List PyData} : SqT K H a us → DdAll K H us es → Dd K H (.ref a) (.tuple es)
  | dct {a : Addr} {kv : List (Key × V)} {kvs : List (PyData × PyData)} : H a = some (.dK kv) → DdKv K H kv kvs → Dd K H (.ref a) (.dict kvs)
inductive DdKv (K : PySem.W.Frag) (H : Hp) : List (Key × V) → List (PyData × PyData) → Prop
  | nil : DdKv K H [] []
  | cons {k : Key} {v : V} {d : PyData} {us : List (Key × V)} {es : List (PyData × PyData)} : Dd K H v d → DdKv K H us es → DdKv K H ((k, v) :: us) ((keyP k, d) :: es)
inductive DdAll (K : PySem.W.Frag) (H : Hp) : List V → List PyData → Prop
  | nil : DdAll K H [] []
  | cons {v : V} {us : List V} {d : PyData} {es : List PyData} : Dd K H v d → DdAll K H us es → DdAll K H (v :: us) (d :: es)
end
mutual
theorem Dd.dp {K : PySem.W.Frag} {H : Hp} : ∀ {v : V} (d : PyData), Dd K H v d → d.canLay0 = true → Dp K H v d
  | _, .none, h, _ => by cases h; exact .non
  | _, .bool b, h, _ => by cases h; exact .bl b
  | _, .int b, h, _ => by cases h; exact .int b
  | _, .str b, h, _ => by cases h; exact .str b
  | _, .list ds, h, c => by
    cases h with
    | lst hs ha => exact .lst hs (DdAll.dp ds ha (by simpa [PyData.canLay0] using c))
  | _, .tuple ds, h, c => by
    cases h with
    | tup hs ha => exact .tup hs (DdAll.dp ds ha (by simpa [PyData.canLay0] using c))
  | _, .dict _, _, c => by simp [PyData.canLay0] at c
theorem DdAll.dp {K : PySem.W.Frag} {H : Hp} : ∀ {vs : List V} (ds : List PyData), DdAll K H vs ds → PyData.canLayAll0 ds = true → DpAll K H vs ds
  | _, [], h, _ => by cases h; exact .nil
  | _, d :: ds, h, c => by
    simp only [PyData.canLayAll0, Bool.and_eq_true] at c
    cases h with
    | cons h1 h2 => exact .cons (h1.dp d c.1) (DdAll.dp ds h2 c.2)
end
/-! ### data and heaps -/
section
variable {K : PySem.W.Frag} {H H' : Hp}
theorem seqT (e : Same H H') {a : Addr} {xs : List V} (h : SqT K H a xs) : SqT K H' a xs := by
  rcases h with (h | ⟨o, h⟩) | h
  · exact .inl (.inl (e _ _ h))
  · exact .inl (.inr ⟨o, e _ _ h⟩)
  · exact .inr h
mutual
theorem dp_ex (e : Same H H') : ∀ {v : V} (d : PyData), Dd K H v d → Dd K H' v d
  | _, .none, h => by cases h; exact .non
  | _, .bool b, h => by cases h; exact .bl b
  | _, .int b, h => by cases h; exact .int b
  | _, .str b, h => by cases h; exact .str b
  | _, .list ds, h => by
    cases h with
    | lst hs ha => exact .lst (e.seq hs) (dpa_ex e ds ha)
  | _, .tuple ds, h => by
    cases h with
    | tup hs ha => exact .tup (seqT e hs) (dpa_ex e ds ha)
  | _, .dict _, h => by
    cases h with
    | dct hs ha => exact .dct (e _ _ hs) (dpk_ex e _ ha)
theorem dpk_ex (e : Same H H') : ∀ {vs : List (Key × V)} (ds : List (PyData × PyData)), DdKv K H vs ds → DdKv K H' vs ds
  | _, [], h => by cases h; exact .nil
  | _, (_, d) :: ds, h => by
    cases h with
    | cons h1 h2 => exact .cons (dp_ex e d h1) (dpk_ex e ds h2)
theorem dpa_ex (e : Same H H') : ∀ {vs : List V} (ds : List PyData), DdAll K H vs ds → DdAll K H' vs ds
  | _, [], h => by cases h; exact .nil
  | _, d :: ds, h => by
    cases h with
    | cons h1 h2 => exact .cons (dp_ex e d h1) (dpa_ex e ds h2)
end
theorem dpa_len : ∀ {vs : List V} {ds : List PyData}, DdAll K H vs ds → vs.length = ds.length
  | _, _, .nil => rfl
  | _, _, .cons _ t => congrArg (· + 1) (dpa_len t)
theorem dpa_get : ∀ {vs : List V} {ds : List PyData} {i : Nat} {d : PyData}, DdAll K H vs ds → ds[i]? = some d → ∃ v, vs[i]? = some v ∧ Dd K H v d
  | _, _, _, _, .nil, e => by simp at e
  | _, _, 0, _, .cons h _, e => by simp at e; subst e; exact ⟨_, rfl, h⟩
  | _, _, i + 1, d, .cons _ t, e => by
    obtain ⟨v, h1, h2⟩ := dpa_get (i := i) (d := d) t (by simpa using e)
    exact ⟨v, by simpa using h1, h2⟩
theorem dpa_get2 : ∀ {vs : List V} {ds : List PyData} {i : Nat} {v : V}, DdAll K H vs ds → vs[i]? = some v → ∃ d, ds[i]? = some d ∧ Dd K H v d
  | _, _, _, _, .nil, e => by simp at e
  | _, _, 0, _, .cons h _, e => by simp at e; subst e; exact ⟨_, rfl, h⟩
  | _, _, i + 1, d, .cons _ t, e => by
    obtain ⟨v, h1, h2⟩ := dpa_get2 (i := i) (v := d) t (by simpa using e)
    exact ⟨v, by simpa using h1, h2⟩
theorem dpa_app : ∀ {vs us : List V} {ds es : List PyData}, DdAll K H vs ds → DdAll K H us es → DdAll K H (vs ++ us) (ds ++ es)
  | _, _, _, _, .nil, s => s
  | _, _, _, _, .cons h t, s => .cons h (dpa_app t s)
theorem dpa_one {v : V} {d : PyData} (h : Dd K H v d) : DdAll K H [v] [d] := .cons h .nil
theorem dpa_take : ∀ {vs : List V} {ds : List PyData} (n : Nat), DdAll K H vs ds → DdAll K H (vs.take n) (ds.take n)
  | _, _, 0, _ => .nil
  | _, _, n + 1, .nil => .nil
  | _, _, n + 1, .cons h t => .cons h (dpa_take n t)
theorem dpa_drop : ∀ {vs : List V} {ds : List PyData} (n : Nat), DdAll K H vs ds → DdAll K H (vs.drop n) (ds.drop n)
  | _, _, 0, h => h
  | _, _, n + 1, .nil => .nil
  | _, _, n + 1, .cons _ t => dpa_drop n t
theorem dpa_set : ∀ {vs : List V} {ds : List PyData} {v : V} {d : PyData} (n : Nat), Dd K H v d → DdAll K H vs ds → DdAll K H (vs.set n v) (ds.set n d)
  | _, _, _, _, _, _, .nil => .nil
  | _, _, _, _, 0, h, .cons _ t => .cons h t
  | _, _, _, _, n + 1, h, .cons a t => .cons a (dpa_set n h t)
theorem dpa_erase : ∀ {vs : List V} {ds : List PyData} (n : Nat), DdAll K H vs ds → DdAll K H (vs.eraseIdx n) (ds.eraseIdx n)
  | _, _, _, .nil => .nil
  | _, _, 0, .cons _ t => t
  | _, _, n + 1, .cons a t => .cons a (dpa_erase n t)
theorem dpa_ints : ∀ {vs : List V} (ns : List Int), DdAll K H vs (ns.map .int) → vs = ns.map V.int
  | _, [], h => by cases h; rfl
  | _, n :: ns, h => by
    cases h with
    | cons h1 h2 =>
      cases h1
      rw [dpa_ints ns h2]
      rfl
theorem dpa_ofInts : ∀ (ns : List Int), DdAll K H (ns.map V.int) (ns.map .int)
  | [] => .nil
  | n :: ns => .cons (.int n) (dpa_ofInts ns)
theorem dpa_strs : ∀ {vs : List V} (ns : List Str), DdAll K H vs (ns.map .str) → vs = ns.map V.str
  | _, [], h => by cases h; rfl
  | _, n :: ns, h => by
    cases h with
    | cons h1 h2 =>
      cases h1
      rw [dpa_strs ns h2]
      rfl
theorem dpa_ofStrs : ∀ (ns : List Str), DdAll K H (ns.map V.str) (ns.map .str)
  | [] => .nil
  | n :: ns => .cons (.str n) (dpa_ofStrs ns)
end
theorem same_new {H : Hp} {p : Addr} (h : H p = none) (o : HO) : Same H (upd H p o) := fun b u q => by rw [upd_ne (ne_of_none q h)]; exact q
theorem same_mut {G H : Hp} {p : Addr} (e : Same G H) (h : G p = none) (o : HO) : Same G (upd H p o) := fun b u q => by rw [upd_ne (ne_of_none q h)]; exact e b u q
theorem same_two {G H : Hp} {p : Addr} (e : Same G H) (h : H p = none) (o : HO) : Same (upd G p o) (upd H p o) := fun b u q => by
  by_cases hb : b = p
  · subst hb
    rw [upd_same] at q ⊢
    exact q
  · rw [upd_ne hb] at q ⊢
    exact e b u q
theorem same_frz {G H : Hp} {p : Addr} {o : HO} (e : Same G H) (h : H p = some o) : Same (upd G p o) H := fun b u q => by
  by_cases hb : b = p
  · subst hb
    rw [upd_same] at q
    rw [h]
    exact q
  · rw [upd_ne hb] at q
    exact e b u q

def KvOk (K : PySem.W.Frag) (G : Hp) (a : List (Key × V)) (b : List (Key × PyData)) : Prop := Paired (fun (p : Key × V) (q : Key × PyData) => p.1 = q.1 ∧ Dd K G p.2 q.2) a b

mutual
def adr : NT → List Addr
  | .fz _ => []
  | .node a _ ts => a :: adrs ts
def adrs : List NT → List Addr
  | [] => []
  | t :: ts => adr t ++ adrs ts
end
def Hd.ob : Hd → List V → HO
  | .lst, vs => .lst vs
  | .dct ks, vs => .dK (ks.zip vs)
  | .ins C dx ns, vs => .ins C dx (ns.zip vs)
def Hd.fit : Hd → Nat → Prop
  | .lst, _ => True
  | .dct ks, n => ks.length = n
  | .ins _ _ ns, n => ns.length = n
mutual
def TOk (K : PySem.W.Frag) (G H : Hp) : NT → V → Prop
  | .fz x, v => Dd K G v x
  | .node a h ts, v => v = .ref a ∧ G a = none ∧ h.fit ts.length ∧ ∃ vs, H a = some (h.ob vs) ∧ TOks K G H ts vs
def TOks (K : PySem.W.Frag) (G H : Hp) : List NT → List V → Prop
  | [], vs => vs = []
  | t :: ts, vs => ∃ v us, vs = v :: us ∧ TOk K G H t v ∧ TOks K G H ts us
end
mutual
theorem TOk.grow {K : PySem.W.Frag} {G H G' H' : Hp} (e : Same G G') : ∀ (t : NT) {v : V}, TOk K G H t v → (∀ a ∈ adr t, G a = none → ∀ u, H a = some u → G' a = none ∧ H' a = some u) → TOk K G' H' t v
  | .fz x, v, h, _ => dp_ex e x (show Dd K G v x by simpa [TOk] using h) |> fun q => by simpa [TOk] using q
  | .node a hd ts, v, h, k => by
    rw [TOk] at h ⊢
    obtain ⟨h1, h2, h3, vs, h4, h5⟩ := h
    obtain ⟨k1, k2⟩ := k a (by rw [adr]; exact List.mem_cons_self) h2 _ h4
    exact ⟨h1, k1, h3, vs, k2, TOks.grow e ts h5 fun b hb => k b (by rw [adr]; exact List.mem_cons_of_mem _ hb)⟩
theorem TOks.grow {K : PySem.W.Frag} {G H G' H' : Hp} (e : Same G G') : ∀ (ts : List NT) {vs : List V}, TOks K G H ts vs → (∀ a ∈ adrs ts, G a = none → ∀ u, H a = some u → G' a = none ∧ H' a = some u) → TOks K G' H' ts vs
  | [], vs, h, _ => by rw [TOks] at h ⊢; exact h
  | t :: ts, vs, h, k => by
    rw [TOks] at h ⊢
    obtain ⟨v, us, h1, h2, h3⟩ := h
    exact ⟨v, us, h1, TOk.grow e t h2 fun b hb => k b (by rw [adrs]; exact List.mem_append_left _ hb), TOks.grow e ts h3 fun b hb => k b (by rw [adrs]; exact List.mem_append_right _ hb)⟩
end
mutual
theorem TOk.has {K : PySem.W.Frag} {G H : Hp} : ∀ (t : NT) {v : V}, TOk K G H t v → ∀ a ∈ adr t, G a = none ∧ ∃ u, H a = some u
  | .fz x, v, h => fun a ha => by rw [adr] at ha; cases ha
  | .node b hd ts, v, h => fun a ha => by
    rw [TOk] at h
    obtain ⟨h1, h2, h3, vs, h4, h5⟩ := h
    rw [adr] at ha
    rcases List.mem_cons.mp ha with e | ha
    · rw [e]; exact ⟨h2, _, h4⟩
    · exact TOks.has ts h5 a ha
theorem TOks.has {K : PySem.W.Frag} {G H : Hp} : ∀ (ts : List NT) {vs : List V}, TOks K G H ts vs → ∀ a ∈ adrs ts, G a = none ∧ ∃ u, H a = some u
  | [], vs, h => fun a ha => by rw [adrs] at ha; cases ha
  | t :: ts, vs, h => fun a ha => by
    rw [TOks] at h
    obtain ⟨v, us, h1, h2, h3⟩ := h
    rw [adrs] at ha
    rcases List.mem_append.mp ha with ha | ha
    · exact TOk.has t h2 a ha
    · exact TOks.has ts h3 a ha
end
/-- an exception of the class that the module calls nm -/
def ExOk (K : PySem.W.Frag) (G : Hp) (nm : Str) (v : V) : Prop := ∃ a C, v = .ref a ∧ PySem.W.nsIn K mainGlobals nm = some (some (.ref C)) ∧ G a = some (ExC (.ref C) a)
theorem ExOk.ex {K : PySem.W.Frag} {G G' : Hp} {nm : Str} {v : V} (e : Same G G') (h : ExOk K G nm v) : ExOk K G' nm v := by
  obtain ⟨a, C, h1, h2, h3⟩ := h
  exact ⟨a, C, h1, h2, e _ _ h3⟩
structure Ct where
  H0 : Hp
  ow0 : Ow
  par : Nat → Option Addr
def SlOk (K : PySem.W.Frag) (c : Ct) (G H : Hp) (ow : Ow) (i : Nat) : Sl → Option V → Prop
  | .un, _ => True
  | .d x, o => ∃ v, o = some v ∧ Dd K G v x
  | .lst fr xs, o => ∃ p vs, o = some (.ref p) ∧ ow p = some i ∧ G p = none ∧ H p = some (.lst vs) ∧ DdAll K G vs xs ∧ (fr = true → c.H0 p = none) ∧ (fr = false → c.par i = some p)
  | .dct fr kvs, o => ∃ p kv, o = some (.ref p) ∧ ow p = some i ∧ G p = none ∧ H p = some (.dK kv) ∧ KvOk K G kv kvs ∧ (fr = true → c.H0 p = none) ∧ (fr = false → c.par i = some p)
  | .v x, o => o = some x
  | .nt fr t, o => ∃ v, o = some v ∧ TOk K G H t v ∧ (adr t).Nodup ∧ (∀ a ∈ adr t, ow a = some i) ∧ (fr = true → ∀ a ∈ adr t, c.H0 a = none) ∧ (fr = false → (∃ p, v = .ref p ∧ c.par i = some p) ∧ ∀ a ∈ adr t, c.H0 a = none ∨ c.ow0 a = some i)
  | .al _ _ a, o => o = some (.ref a)
  | .ex nm, o => ∃ v, o = some v ∧ ExOk K G nm v
structure Rep (K : PySem.W.Frag) (c : Ct) (G H : Hp) (ow : Ow) (σ : L2.St) (ε : Ep) : Prop where
  ex : Same G H
  dom : ∀ a, H a = none → c.H0 a = none
  len : σ.length = ε.length
  sl : ∀ i o, σ[i]? = some o → SlOk K c G H ow i (look ε i) o
structure Fr (G H : Hp) (ow : Ow) (G' H' : Hp) (ow' : Ow) : Prop where
  ex : Same G G'
  st : ∀ a o, H a = some o → ow a = none → H' a = some o ∧ ow' a = none ∧ (G a = none → G' a = none)
  dom : ∀ a, H' a = none → H a = none
theorem Fr.refl (G H : Hp) (ow : Ow) : Fr G H ow G H ow := ⟨Same.refl G, fun _ _ h1 h2 => ⟨h1, h2, fun h => h⟩, fun _ h => h⟩
theorem Fr.trans {G H ow G1 H1 ow1 G2 H2 ow2} (a : Fr G H ow G1 H1 ow1) (b : Fr G1 H1 ow1 G2 H2 ow2) : Fr G H ow G2 H2 ow2 where
  ex := a.ex.trans b.ex
  st := fun x o h1 h2 => by
    obtain ⟨q1, q2, q3⟩ := a.st x o h1 h2
    obtain ⟨r1, r2, r3⟩ := b.st x o q1 q2
    exact ⟨r1, r2, fun h => r3 (q3 h)⟩
  dom := fun x h => a.dom x (b.dom x h)
def VOk (K : PySem.W.Frag) (Hs G H : Hp) (ow : Ow) (σ : L2.St) : Vl → V → Prop
  | .d x, v => Dd K G v x
  | .new xs, v => ∃ p vs, v = .ref p ∧ Hs p = none ∧ ow p = none ∧ G p = none ∧ H p = some (.lst vs) ∧ DdAll K G vs xs
  | .dk kvs, v => ∃ p kv, v = .ref p ∧ Hs p = none ∧ ow p = none ∧ G p = none ∧ H p = some (.dK kv) ∧ KvOk K G kv kvs
  | .bor i, v => σ[i]? = some (some v)
  | .v x, v => v = x
  | .nt t, v => TOk K G H t v ∧ (adr t).Nodup ∧ ∀ a ∈ adr t, Hs a = none ∧ ow a = none
  | .bp _ _ a, v => v = .ref a
  | .ex nm, v => ExOk K G nm v
def VsOk (K : PySem.W.Frag) (Hs G H : Hp) (ow : Ow) (σ : L2.St) : List Vl → List V → Prop
  | [], vs => vs = []
  | r :: rs, vs => ∃ v us, vs = v :: us ∧ VOk K Hs G H ow σ r v ∧ VsOk K Hs G H ow σ rs us
section
variable {K : PySem.W.Frag} {c : Ct} {Hs G H G' H' : Hp} {ow ow' : Ow} {σ : L2.St} {ε ε' : Ep}
theorem VOk.fr {r : Vl} {v : V} (h : VOk K Hs G H ow σ r v) (F : Fr G H ow G' H' ow') : VOk K Hs G' H' ow' σ r v := by
  cases r with
  | d x => exact dp_ex F.ex x h
  | new xs =>
    obtain ⟨p, vs, e, h1, h2, h3, h4, h5⟩ := h
    obtain ⟨q1, q2, q3⟩ := F.st p _ h4 h2
    exact ⟨p, vs, e, h1, q2, q3 h3, q1, dpa_ex F.ex xs h5⟩
  | dk kvs =>
    obtain ⟨p, kv, e, h1, h2, h3, h4, h5⟩ := h
    obtain ⟨q1, q2, q3⟩ := F.st p _ h4 h2
    exact ⟨p, kv, e, h1, q2, q3 h3, q1, Paired.mapP h5 fun a b z => ⟨z.1, dp_ex F.ex _ z.2⟩⟩
  | bor i => exact h
  | v x => exact h
  | bp i p a => exact h
  | ex nm => exact ExOk.ex F.ex h
  | nt t =>
    obtain ⟨h1, h2, h3⟩ := h
    have hh := TOk.has t h1
    refine ⟨h1.grow F.ex t fun a ha z u hu => ?_, h2, fun a ha => ⟨(h3 a ha).1, ?_⟩⟩
    · obtain ⟨q1, q2, q3⟩ := F.st a u hu (h3 a ha).2
      exact ⟨q3 z, q1⟩
    · obtain ⟨u, hu⟩ := (hh a ha).2
      exact (F.st a u hu (h3 a ha).2).2.1
theorem VOk.since {Hr : Hp} {r : Vl} {v : V} (h : VOk K Hs G H ow σ r v) (d : ∀ a, Hs a = none → Hr a = none) : VOk K Hr G H ow σ r v := by
  cases r with
  | d x => exact h
  | new xs =>
    obtain ⟨p, vs, e, h1, h2⟩ := h
    exact ⟨p, vs, e, d p h1, h2⟩
  | dk kvs =>
    obtain ⟨p, kv, e, h1, h2⟩ := h
    exact ⟨p, kv, e, d p h1, h2⟩
  | bor i => exact h
  | v x => exact h
  | bp i p a => exact h
  | ex nm => exact h
  | nt t => exact ⟨h.1, h.2.1, fun a ha => ⟨d a (h.2.2 a ha).1, (h.2.2 a ha).2⟩⟩
theorem VsOk.fr : ∀ {rs : List Vl} {vs : List V}, VsOk K Hs G H ow σ rs vs → Fr G H ow G' H' ow' → VsOk K Hs G' H' ow' σ rs vs
  | [], _, h, _ => h
  | _ :: _, _, ⟨v, us, e, h1, h2⟩, F => ⟨v, us, e, h1.fr F, h2.fr F⟩
theorem VsOk.since {Hr : Hp} : ∀ {rs : List Vl} {vs : List V}, VsOk K Hs G H ow σ rs vs → (∀ a, Hs a = none → Hr a = none) → VsOk K Hr G H ow σ rs vs
  | [], _, h, _ => h
  | _ :: _, _, ⟨v, us, e, h1, h2⟩, F => ⟨v, us, e, h1.since F, h2.since F⟩

/-- what may be read: data that stands for good, or a list as it is now -/
def Pk (K : PySem.W.Frag) (G H : Hp) (v : V) (x : PyData) : Prop := Dd K G v x ∨ ∃ p vs xs, v = .ref p ∧ x = .list xs ∧ H p = some (.lst vs) ∧ DdAll K G vs xs
theorem Pk.dp {v : V} {x : PyData} (e : Same G H) (h : Pk K G H v x) : Dd K H v x := by
  rcases h with h | ⟨p, vs, xs, rfl, rfl, h1, h2⟩
  · exact dp_ex e x h
  · exact .lst (.inl (.inl h1)) (dpa_ex e xs h2)
theorem Pk.list {v : V} {xs : List PyData} (e : Same G H) (h : Pk K G H v (.list xs)) : ∃ p vs, v = .ref p ∧ SqL K H p vs ∧ DdAll K G vs xs := by
  rcases h with h | ⟨p, vs, ys, rfl, e1, h1, h2⟩
  · cases h with
    | lst hs ha => exact ⟨_, _, rfl, e.seq hs, ha⟩
  · cases e1
    exact ⟨p, vs, rfl, .inl (.inl h1), h2⟩
theorem Pk.tuple {v : V} {xs : List PyData} (e : Same G H) (h : Pk K G H v (.tuple xs)) : ∃ p vs, v = .ref p ∧ SqT K H p vs ∧ DdAll K G vs xs := by
  rcases h with h | ⟨p, vs, ys, rfl, e1, h1, h2⟩
  · cases h with
    | tup hs ha => exact ⟨_, _, rfl, seqT e hs, ha⟩
  · cases e1
theorem Pk.int {v : V} {i : Int} (h : Pk K G H v (.int i)) : v = .int i := by
  rcases h with h | ⟨p, vs, ys, _, e1, _⟩
  · cases h; rfl
  · cases e1
theorem Pk.bl {v : V} {i : Bool} (h : Pk K G H v (.bool i)) : v = .bl i := by
  rcases h with h | ⟨p, vs, ys, _, e1, _⟩
  · cases h; rfl
  · cases e1
theorem Pk.str {v : V} {i : Str} (h : Pk K G H v (.str i)) : v = .str i := by
  rcases h with h | ⟨p, vs, ys, _, e1, _⟩
  · cases h; rfl
  · cases e1
def peek (ε : Ep) : Vl → Option PyData
  | .d x => some x
  | .new xs => some (.list xs)
  | .bor i => match look ε i with
    | .d x => some x
    | .lst _ xs => some (.list xs)
    | _ => none
  | _ => none
theorem Rep.at {i : Nat} {o : Option V} (R : Rep K c G H ow σ ε) (h : σ[i]? = some o) : SlOk K c G H ow i (look ε i) o := R.sl i o h
theorem Rep.some_at {i : Nat} (R : Rep K c G H ow σ ε) (h : look ε i ≠ .un) : ∃ o, σ[i]? = some o := by
  have h1 := look_lt h
  rw [← R.len] at h1
  exact ⟨σ[i], List.getElem?_eq_getElem h1⟩
theorem peek_ok {r : Vl} {v : V} {x : PyData} (R : Rep K c G H ow σ ε) (h : VOk K Hs G H ow σ r v) (e : peek ε r = some x) : Pk K G H v x := by
  cases r with
  | d y => cases e; exact .inl h
  | new xs =>
    cases e
    obtain ⟨p, vs, e, h1, h2, h3, h4, h5⟩ := h
    exact .inr ⟨p, vs, xs, e, rfl, h4, h5⟩
  | dk _ => cases e
  | v y => cases e
  | nt _ => cases e
  | bp _ _ _ => cases e
  | ex _ => cases e
  | bor i =>
    have h : σ[i]? = some (some v) := h
    have q := R.at h
    cases hl : look ε i with
    | un => simp [peek, hl] at e
    | dct _ _ => simp [peek, hl] at e
    | v _ => simp [peek, hl] at e
    | nt _ _ => simp [peek, hl] at e
    | al _ _ _ => simp [peek, hl] at e
    | ex _ => simp [peek, hl] at e
    | d y =>
      simp only [peek, hl, Option.some.injEq] at e
      rw [hl] at q
      subst e
      obtain ⟨u, e1, e2⟩ := q
      cases e1
      exact .inl e2
    | lst fr xs =>
      simp only [peek, hl, Option.some.injEq] at e
      rw [hl] at q
      subst e
      obtain ⟨p, vs, e1, _, _, e4, e5, _⟩ := q
      cases e1
      exact .inr ⟨p, vs, xs, rfl, rfl, e4, e5⟩
def peekAll (ε : Ep) : List Vl → Option (List PyData)
  | [] => some []
  | r :: rs => match peek ε r, peekAll ε rs with
    | some x, some xs => some (x :: xs)
    | _, _ => none
inductive PkAll (K : PySem.W.Frag) (G H : Hp) : List V → List PyData → Prop
  | nil : PkAll K G H [] []
  | cons {v vs x xs} : Pk K G H v x → PkAll K G H vs xs → PkAll K G H (v :: vs) (x :: xs)
theorem peekAll_ok (R : Rep K c G H ow σ ε) : ∀ {rs : List Vl} {vs : List V} {xs : List PyData}, VsOk K Hs G H ow σ rs vs → peekAll ε rs = some xs → PkAll K G H vs xs
  | [], _, _, h, e => by cases h; cases e; exact .nil
  | r :: rs, _, xs, ⟨v, us, e1, h1, h2⟩, e => by
    subst e1
    cases q1 : peek ε r with
    | none => simp [peekAll, q1] at e
    | some x =>
      cases q2 : peekAll ε rs with
      | none => simp [peekAll, q1, q2] at e
      | some ys =>
        simp only [peekAll, q1, q2, Option.some.injEq] at e
        subst e
        exact .cons (peek_ok R h1 q1) (peekAll_ok R h2 q2)

/-! ### the heap grows, is frozen, is changed -/
def owc (ow : Ow) (p : Addr) (x : Option Nat) : Ow := fun a => if a = p then x else ow a
open Classical in
def owcs (ow : Ow) (as : List Addr) (x : Option Nat) : Ow := fun a => if a ∈ as then x else ow a
theorem owcs_in {as : List Addr} {x : Option Nat} {a : Addr} (h : a ∈ as) : owcs ow as x a = x := by unfold owcs; rw [if_pos h]
theorem owcs_out {as : List Addr} {x : Option Nat} {a : Addr} (h : a ∉ as) : owcs ow as x a = ow a := by unfold owcs; rw [if_neg h]
theorem owc_self {p : Addr} {x : Option Nat} : owc ow p x p = x := by unfold owc; rw [if_pos rfl]
theorem owc_ne {p q : Addr} {x : Option Nat} (h : q ≠ p) : owc ow p x q = ow q := by unfold owc; rw [if_neg h]
theorem SlOk.grow {i : Nat} {s : Sl} {o : Option V} (h : SlOk K c G H ow i s o) (e1 : Same G G') (k : ∀ p u, ow p = some i → G p = none → H p = some u → ow' p = some i ∧ G' p = none ∧ H' p = some u) : SlOk K c G' H' ow' i s o := by
  cases s with
  | un => trivial
  | d x =>
    obtain ⟨v, e, h⟩ := h
    exact ⟨v, e, dp_ex e1 x h⟩
  | lst fr xs =>
    obtain ⟨p, vs, e, h1, h2, h3, h4, h5⟩ := h
    obtain ⟨q1, q2, q3⟩ := k p _ h1 h2 h3
    exact ⟨p, vs, e, q1, q2, q3, dpa_ex e1 xs h4, h5⟩
  | dct fr kvs =>
    obtain ⟨p, kv, e, h1, h2, h3, h4, h5⟩ := h
    obtain ⟨q1, q2, q3⟩ := k p _ h1 h2 h3
    exact ⟨p, kv, e, q1, q2, q3, Paired.mapP h4 fun a b z => ⟨z.1, dp_ex e1 _ z.2⟩, h5⟩
  | v x => exact h
  | al j p a => exact h
  | ex nm =>
    obtain ⟨v, e, h⟩ := h
    exact ⟨v, e, h.ex e1⟩
  | nt fr t =>
    obtain ⟨v, e, h1, h2, h3, h4⟩ := h
    refine ⟨v, e, h1.grow e1 t fun a ha z u hu => (k a u (h3 a ha) z hu).2, h2, fun a ha => ?_, h4⟩
    obtain ⟨z, u, hu⟩ := TOk.has t h1 a ha
    exact (k a u (h3 a ha) z hu).1
/-- a new object, not frozen -/
theorem grow_new {p : Addr} {o : HO} (R : Rep K c G H ow σ ε) (hp : H p = none) : Fr G H ow G (upd H p o) (owc ow p none) ∧ Rep K c G (upd H p o) (owc ow p none) σ ε ∧ owc ow p none p = none ∧ G p = none := by
  have hg : G p = none := Same.free R.ex hp
  refine ⟨⟨Same.refl G, fun a u h1 h2 => ?_, fun a h => ?_⟩, ⟨same_mut R.ex hg o, fun a h => ?_, R.len, fun i s h => ?_⟩, owc_self, hg⟩
  · have hne : a ≠ p := ne_of_none h1 hp
    rw [upd_ne hne, owc_ne hne]
    exact ⟨h1, h2, fun z => z⟩
  · by_cases ha : a = p
    · subst ha
      rw [upd_same] at h
      cases h
    · rw [upd_ne ha] at h
      exact h
  · by_cases ha : a = p
    · subst ha
      rw [upd_same] at h
      cases h
    · rw [upd_ne ha] at h
      exact R.dom a h
  · refine (R.sl i s h).grow (Same.refl G) fun q u z1 z2 z3 => ?_
    have hne : q ≠ p := ne_of_none z3 hp
    rw [upd_ne hne, owc_ne hne]
    exact ⟨z1, z2, z3⟩
/-- a new object, frozen at once -/
theorem grow_frz {p : Addr} {o : HO} (R : Rep K c G H ow σ ε) (hp : H p = none) : Fr G H ow (upd G p o) (upd H p o) ow ∧ Rep K c (upd G p o) (upd H p o) ow σ ε := by
  have hg : G p = none := Same.free R.ex hp
  refine ⟨⟨same_new hg o, fun a u h1 h2 => ?_, fun a h => ?_⟩, ⟨same_two R.ex hp o, fun a h => ?_, R.len, fun i s h => ?_⟩⟩
  · have hne : a ≠ p := ne_of_none h1 hp
    rw [upd_ne hne, upd_ne hne]
    exact ⟨h1, h2, fun z => z⟩
  · by_cases ha : a = p
    · subst ha
      rw [upd_same] at h
      cases h
    · rw [upd_ne ha] at h
      exact h
  · by_cases ha : a = p
    · subst ha
      rw [upd_same] at h
      cases h
    · rw [upd_ne ha] at h
      exact R.dom a h
  · refine (R.sl i s h).grow (same_new hg o) fun q u z1 z2 z3 => ?_
    have hne : q ≠ p := ne_of_none z3 hp
    rw [upd_ne hne, upd_ne hne]
    exact ⟨z1, z2, z3⟩
/-- freezing -/
def frz (ε : Ep) : Vl → Option (PyData × Ep)
  | .d x => some (x, ε)
  | .dk kvs => some (.dict (kvs.map fun q => (keyP q.1, q.2)), ε)
  | .new xs => some (.list xs, ε)
  | .bor i => match look ε i with
    | .d x => some (x, ε)
    | .lst _ xs => some (.list xs, put ε i (.d (.list xs)))
    | .dct _ kvs => some (.dict (kvs.map fun q => (keyP q.1, q.2)), put ε i (.d (.dict (kvs.map fun q => (keyP q.1, q.2)))))
    | _ => none
  | _ => none
theorem kv_dd {K : PySem.W.Frag} {G : Hp} : ∀ {a : List (Key × V)} {b : List (Key × PyData)}, KvOk K G a b → DdKv K G a (b.map fun q => (keyP q.1, q.2))
  | _, _, .nil => .nil
  | (k, v) :: _, (k', d) :: _, .cons h t => by
    obtain ⟨h1, h2⟩ := h
    have h1 : k = k' := h1
    subst h1
    exact .cons h2 (kv_dd t)
theorem frz_ok {Gs : Hp} {ows : Ow} {r : Vl} {v : V} {x : PyData} (F : Fr Gs Hs ows G H ow) (R : Rep K c G H ow σ ε) (h : VOk K Hs G H ow σ r v) (e : frz ε r = some (x, ε')) : ∃ G', Fr Gs Hs ows G' H ow ∧ Same G G' ∧ Rep K c G' H ow σ ε' ∧ Dd K G' v x := by
  cases r with
  | d y => cases e; exact ⟨G, F, Same.refl G, R, h⟩
  | v y => cases e
  | nt _ => cases e
  | bp _ _ _ => cases e
  | ex _ => cases e
  | dk kvs =>
    cases e
    obtain ⟨p, kv, rfl, h1, h2, h3, h4, h5⟩ := h
    have sg : Same G (upd G p (.dK kv)) := same_new h3 _
    refine ⟨upd G p (.dK kv), ⟨F.ex.trans sg, fun a u z1 z2 => ?_, F.dom⟩, sg, ⟨same_frz R.ex h4, R.dom, R.len, fun i s z => ?_⟩, .dct upd_same (dpk_ex sg _ (kv_dd h5))⟩
    · obtain ⟨q1, q2, q3⟩ := F.st a u z1 z2
      refine ⟨q1, q2, fun z => ?_⟩
      rw [upd_ne (ne_of_none z1 h1)]
      exact q3 z
    · refine (R.sl i s z).grow sg fun q u z1 z2 z3 => ⟨z1, ?_, z3⟩
      have hne : q ≠ p := fun e => by
        rw [e, h2] at z1
        cases z1
      rw [upd_ne hne]
      exact z2
  | new xs =>
    cases e
    obtain ⟨p, vs, rfl, h1, h2, h3, h4, h5⟩ := h
    have sg : Same G (upd G p (.lst vs)) := same_new h3 _
    refine ⟨upd G p (.lst vs), ⟨F.ex.trans sg, fun a u z1 z2 => ?_, F.dom⟩, sg, ⟨same_frz R.ex h4, R.dom, R.len, fun i s z => ?_⟩, .lst (.inl (.inl upd_same)) (dpa_ex sg xs h5)⟩
    · obtain ⟨q1, q2, q3⟩ := F.st a u z1 z2
      refine ⟨q1, q2, fun z => ?_⟩
      rw [upd_ne (ne_of_none z1 h1)]
      exact q3 z
    · refine (R.sl i s z).grow sg fun q u z1 z2 z3 => ⟨z1, ?_, z3⟩
      have hne : q ≠ p := fun e => by
        rw [e, h2] at z1
        cases z1
      rw [upd_ne hne]
      exact z2
  | bor i =>
    have h : σ[i]? = some (some v) := h
    have q := R.at h
    cases hl : look ε i with
    | un => simp [frz, hl] at e
    | dct fr kvs =>
      simp only [frz, hl, Option.some.injEq, Prod.mk.injEq] at e
      rw [hl] at q
      obtain ⟨rfl, rfl⟩ := e
      obtain ⟨p, kv, e1, h2, h3, h4, h5, _⟩ := q
      cases e1
      have sg : Same G (upd G p (.dK kv)) := same_new h3 _
      have dd : Dd K (upd G p (.dK kv)) (.ref p) (.dict (kvs.map fun q => (keyP q.1, q.2))) := .dct upd_same (dpk_ex sg _ (kv_dd h5))
      have hi : i < ε.length := look_lt (by rw [hl]; exact fun z => nomatch z)
      refine ⟨upd G p (.dK kv), ⟨F.ex.trans sg, fun a u z1 z2 => ?_, F.dom⟩, sg, ⟨same_frz R.ex h4, R.dom, by rw [put_length]; exact R.len, fun j s z => ?_⟩, dd⟩
      · obtain ⟨q1, q2, q3⟩ := F.st a u z1 z2
        refine ⟨q1, q2, fun z => ?_⟩
        rw [upd_ne (fun e => by rw [e, h2] at q2; cases q2)]
        exact q3 z
      · by_cases hj : j = i
        · subst hj
          rw [look_put_self hi]
          rw [h] at z
          cases z
          exact ⟨_, rfl, dd⟩
        · rw [look_put_ne hj]
          refine (R.sl j s z).grow sg fun q u z1 z2 z3 => ⟨z1, ?_, z3⟩
          have hne : q ≠ p := fun e => by
            rw [e, h2] at z1
            exact hj (Option.some.inj z1).symm
          rw [upd_ne hne]
          exact z2
    | v _ => simp [frz, hl] at e
    | nt _ _ => simp [frz, hl] at e
    | al _ _ _ => simp [frz, hl] at e
    | ex _ => simp [frz, hl] at e
    | d y =>
      simp only [frz, hl, Option.some.injEq, Prod.mk.injEq] at e
      rw [hl] at q
      obtain ⟨rfl, rfl⟩ := e
      obtain ⟨u, e1, e2⟩ := q
      cases e1
      exact ⟨G, F, Same.refl G, R, e2⟩
    | lst fr xs =>
      simp only [frz, hl, Option.some.injEq, Prod.mk.injEq] at e
      rw [hl] at q
      obtain ⟨rfl, rfl⟩ := e
      obtain ⟨p, vs, e1, h2, h3, h4, h5, _⟩ := q
      cases e1
      have sg : Same G (upd G p (.lst vs)) := same_new h3 _
      have dd : Dd K (upd G p (.lst vs)) (.ref p) (.list xs) := .lst (.inl (.inl upd_same)) (dpa_ex sg xs h5)
      have hi : i < ε.length := look_lt (by rw [hl]; exact fun z => nomatch z)
      refine ⟨upd G p (.lst vs), ⟨F.ex.trans sg, fun a u z1 z2 => ?_, F.dom⟩, sg, ⟨same_frz R.ex h4, R.dom, by rw [put_length]; exact R.len, fun j s z => ?_⟩, dd⟩
      · obtain ⟨q1, q2, q3⟩ := F.st a u z1 z2
        refine ⟨q1, q2, fun z => ?_⟩
        rw [upd_ne (fun e => by rw [e, h2] at q2; cases q2)]
        exact q3 z
      · by_cases hj : j = i
        · subst hj
          rw [look_put_self hi]
          rw [h] at z
          cases z
          exact ⟨_, rfl, dd⟩
        · rw [look_put_ne hj]
          refine (R.sl j s z).grow sg fun q u z1 z2 z3 => ⟨z1, ?_, z3⟩
          have hne : q ≠ p := fun e => by
            rw [e, h2] at z1
            exact hj (Option.some.inj z1).symm
          rw [upd_ne hne]
          exact z2
/-- a list of the def's own is changed -/
theorem mut_lst {i : Nat} {fr : Bool} {xs ys : List PyData} {v : V} (R : Rep K c G H ow σ ε) (h : σ[i]? = some (some v)) (hl : look ε i = .lst fr xs) :
    ∃ p vs, v = .ref p ∧ H p = some (.lst vs) ∧ DdAll K G vs xs ∧ ∀ us, DdAll K G us ys → Fr G H ow G (upd H p (.lst us)) ow ∧ Rep K c G (upd H p (.lst us)) ow σ (put ε i (.lst fr ys)) := by
  have q := R.at h
  rw [hl] at q
  obtain ⟨p, vs, e1, h2, h3, h4, h5, h6⟩ := q
  cases e1
  have hi : i < ε.length := look_lt (by rw [hl]; exact fun z => nomatch z)
  refine ⟨p, vs, rfl, h4, h5, fun us hu => ⟨⟨Same.refl G, fun a u z1 z2 => ?_, fun a z => ?_⟩, ⟨same_mut R.ex h3 _, fun a z => ?_, by rw [put_length]; exact R.len, fun j s z => ?_⟩⟩⟩
  · have hne : a ≠ p := fun e => by
      rw [e, h2] at z2
      cases z2
    rw [upd_ne hne]
    exact ⟨z1, z2, fun z => z⟩
  · by_cases ha : a = p
    · subst ha
      rw [upd_same] at z
      cases z
    · rw [upd_ne ha] at z
      exact z
  · by_cases ha : a = p
    · subst ha
      rw [upd_same] at z
      cases z
    · rw [upd_ne ha] at z
      exact R.dom a z
  · by_cases hj : j = i
    · subst hj
      rw [look_put_self hi]
      rw [h] at z
      cases z
      exact ⟨p, us, rfl, h2, h3, upd_same, hu, h6⟩
    · rw [look_put_ne hj]
      refine (R.sl j s z).grow (Same.refl G) fun q u z1 z2 z3 => ⟨z1, z2, ?_⟩
      have hne : q ≠ p := fun e => by
        rw [e, h2] at z1
        exact hj (Option.some.inj z1).symm
      rw [upd_ne hne]
      exact z3
/-- a name is stored -/
def slOf (ε : Ep) (r : Vl) : Option (Sl × Ep) := match r with
  | .new xs => some (.lst true xs, ε)
  | .dk kvs => some (.dct true kvs, ε)
  | .v x => some (.v x, ε)
  | .nt t => some (.nt true t, ε)
  | .bp i p a => some (.al i p a, ε)
  | .ex nm => some (.ex nm, ε)
  | r => match frz ε r with
    | some (x, ε') => some (.d x, ε')
    | none => none
theorem rep_put {i : Nat} {s : Sl} {v : V} (R : Rep K c G H ow σ ε) (hi : i < ε.length) (h : SlOk K c G H ow i s (some v)) : Rep K c G H ow (σ.set i (some v)) (put ε i s) := by
  refine ⟨R.ex, R.dom, by rw [put_length, List.length_set]; exact R.len, fun j o z => ?_⟩
  by_cases hj : j = i
  · subst hj
    rw [look_put_self hi]
    rw [List.getElem?_set_self (by rw [R.len]; exact hi)] at z
    cases z
    exact h
  · rw [look_put_ne hj]
    rw [List.getElem?_set_ne (fun e => hj e.symm)] at z
    exact R.sl j o z
theorem store_sl {Gs : Hp} {ows : Ow} {i : Nat} {r : Vl} {v : V} {s : Sl} (F : Fr Gs Hs ows G H ow) (hd : ∀ a, Hs a = none → c.H0 a = none) (R : Rep K c G H ow σ ε) (h : VOk K Hs G H ow σ r v) (hi : i < ε.length) (e : slOf ε r = some (s, ε')) :
    ∃ G' ow', Fr Gs Hs ows G' H ow' ∧ Rep K c G' H ow' (σ.set i (some v)) (put ε' i s) := by
  have fin : ∀ x, frz ε r = some (x, ε') → ∃ G' ow', Fr Gs Hs ows G' H ow' ∧ Rep K c G' H ow' (σ.set i (some v)) (put ε' i (.d x)) := fun x q => by
    obtain ⟨G', F', sg, R', d⟩ := frz_ok F R h q
    have hl : ε'.length = ε.length := R'.len.symm.trans R.len
    exact ⟨G', ow, F', rep_put R' (by rw [hl]; exact hi) ⟨v, rfl, d⟩⟩
  have owned : ∀ (p : Addr) (u : HO), Hs p = none → ow p = none → H p = some u → Fr Gs Hs ows G H (owc ow p (some i)) ∧ Rep K c G H (owc ow p (some i)) σ ε := fun p u z1 z2 z3 => by
    refine ⟨⟨F.ex, fun a w y1 y2 => ?_, F.dom⟩, ⟨R.ex, R.dom, R.len, fun j o z => (R.sl j o z).grow (Same.refl G) fun q w y1 y2 y3 => ⟨?_, y2, y3⟩⟩⟩
    · obtain ⟨q1, q2, q3⟩ := F.st a w y1 y2
      rw [owc_ne (ne_of_none y1 z1)]
      exact ⟨q1, q2, q3⟩
    · rw [owc_ne (fun e => by rw [e, z2] at y1; cases y1)]
      exact y1
  cases r with
  | d x => cases e; exact fin x rfl
  | v x =>
    cases e
    exact ⟨G, ow, F, rep_put R hi (congrArg some h)⟩
  | new xs =>
    cases e
    obtain ⟨p, vs, rfl, h1, h2, h3, h4, h5⟩ := h
    obtain ⟨F', R'⟩ := owned p _ h1 h2 h4
    exact ⟨G, _, F', rep_put R' hi ⟨p, vs, rfl, owc_self, h3, h4, h5, fun _ => hd p h1, fun z => nomatch z⟩⟩
  | dk kvs =>
    cases e
    obtain ⟨p, kv, rfl, h1, h2, h3, h4, h5⟩ := h
    obtain ⟨F', R'⟩ := owned p _ h1 h2 h4
    exact ⟨G, _, F', rep_put R' hi ⟨p, kv, rfl, owc_self, h3, h4, h5, fun _ => hd p h1, fun z => nomatch z⟩⟩
  | bp j p a =>
    cases e
    exact ⟨G, ow, F, rep_put R hi (congrArg some h)⟩
  | ex nm =>
    cases e
    exact ⟨G, ow, F, rep_put R hi ⟨v, rfl, h⟩⟩
  | nt t =>
    cases e
    obtain ⟨h1, h2, h3⟩ := h
    have hh := TOk.has t h1
    refine ⟨G, owcs ow (adr t) (some i), ⟨F.ex, fun a w y1 y2 => ?_, F.dom⟩, rep_put ⟨R.ex, R.dom, R.len, fun j o z => (R.sl j o z).grow (Same.refl G) fun q w y1 y2 y3 => ⟨?_, y2, y3⟩⟩ hi ⟨v, rfl, h1, h2, fun a ha => owcs_in ha, fun _ a ha => hd a (h3 a ha).1, fun z => nomatch z⟩⟩
    · obtain ⟨q1, q2, q3⟩ := F.st a w y1 y2
      exact ⟨q1, by rw [owcs_out fun m => by rw [(h3 a m).1] at y1; cases y1]; exact q2, q3⟩
    · rw [owcs_out fun m => by rw [(h3 q m).2] at y1; cases y1]
      exact y1
  | bor j =>
    unfold slOf at e
    cases q : frz ε (.bor j) with
    | none => simp only [q] at e; cases e
    | some z =>
      obtain ⟨x, ε2⟩ := z
      simp only [q] at e
      cases e
      exact fin x q
end

/-! ### forgotten slots -/
theorem wipe_in {σ : L2.St} {j : Nat} : ∀ {vs : List Nat}, j ∈ vs → j < σ.length → (wipe σ vs)[j]? = some none
  | [], h, _ => by simp at h
  | v :: vs, h, hl => by
    unfold wipe
    by_cases e : v = j
    · subst e
      exact List.getElem?_set_self (by rw [wipe_length]; exact hl)
    · rw [List.getElem?_set_ne e]
      rcases List.mem_cons.mp h with q | q
      · exact absurd q.symm e
      · exact wipe_in q hl
theorem wipe_set {σ : L2.St} {i : Nat} {x : Option V} {vs : List Nat} (h : i ∈ vs) : wipe (σ.set i x) vs = wipe σ vs := by
  apply List.ext_getElem?
  intro j
  by_cases hj : j ∈ vs
  · by_cases hl : j < σ.length
    · rw [wipe_in hj hl, wipe_in hj (by rw [List.length_set]; exact hl)]
    · rw [List.getElem?_eq_none (by rw [wipe_length, List.length_set]; omega), List.getElem?_eq_none (by rw [wipe_length]; omega)]
  · rw [wipe_out hj, wipe_out hj, List.getElem?_set_ne (fun e => hj (by rw [← e]; exact h))]
def wipeE (ε : Ep) : List Nat → Ep
  | [] => ε
  | v :: vs => put (wipeE ε vs) v .un
theorem wipeE_length (ε : Ep) : ∀ vs : List Nat, (wipeE ε vs).length = ε.length
  | [] => rfl
  | v :: vs => by unfold wipeE; rw [put_length, wipeE_length ε vs]
theorem look_wipe_in {ε : Ep} {j : Nat} : ∀ {vs : List Nat}, j ∈ vs → look (wipeE ε vs) j = .un
  | [], h => by simp at h
  | v :: vs, h => by
    unfold wipeE
    by_cases e : j = v
    · subst e
      by_cases hl : j < (wipeE ε vs).length
      · exact look_put_self hl
      · exact look_out (by rw [put_length]; omega)
    · rw [look_put_ne e]
      rcases List.mem_cons.mp h with q | q
      · exact absurd q e
      · exact look_wipe_in q
theorem look_wipe_out {ε : Ep} {j : Nat} : ∀ {vs : List Nat}, j ∉ vs → look (wipeE ε vs) j = look ε j
  | [], _ => rfl
  | v :: vs, h => by
    unfold wipeE
    rw [look_put_ne (fun e => h (by rw [e]; exact List.mem_cons_self))]
    exact look_wipe_out fun m => h (List.mem_cons_of_mem _ m)
theorem rep_wipe {K : PySem.W.Frag} {c : Ct} {G H : Hp} {ow : Ow} {σ : L2.St} {ε : Ep} (vs : List Nat) (R : Rep K c G H ow σ ε) : Rep K c G H ow (wipe σ vs) (wipeE ε vs) := by
  refine ⟨R.ex, R.dom, by rw [wipe_length, wipeE_length]; exact R.len, fun j o z => ?_⟩
  by_cases hj : j ∈ vs
  · rw [look_wipe_in hj]
    trivial
  · rw [look_wipe_out hj]
    rw [wipe_out hj] at z
    exact R.sl j o z
def keepS : Sl → Sl
  | .d x => .d x
  | .v x => .v x
  | _ => .un
def rstE (ε : Ep) (ε' : Ep) : List Nat → Ep
  | [] => ε'
  | v :: vs => put (rstE ε ε' vs) v (keepS (look ε v))
theorem rstE_length (ε ε' : Ep) : ∀ vs : List Nat, (rstE ε ε' vs).length = ε'.length
  | [] => rfl
  | v :: vs => by unfold rstE; rw [put_length, rstE_length ε ε' vs]
theorem look_rst_in {ε ε' : Ep} {j : Nat} (hl : j < ε'.length) : ∀ {vs : List Nat}, j ∈ vs → look (rstE ε ε' vs) j = keepS (look ε j)
  | [], h => by simp at h
  | v :: vs, h => by
    unfold rstE
    by_cases e : j = v
    · subst e
      exact look_put_self (by rw [rstE_length]; exact hl)
    · rw [look_put_ne e]
      rcases List.mem_cons.mp h with q | q
      · exact absurd q e
      · exact look_rst_in hl q
theorem look_rst_out {ε ε' : Ep} {j : Nat} : ∀ {vs : List Nat}, j ∉ vs → look (rstE ε ε' vs) j = look ε' j
  | [], _ => rfl
  | v :: vs, h => by
    unfold rstE
    rw [look_put_ne (fun e => h (by rw [e]; exact List.mem_cons_self))]
    exact look_rst_out fun m => h (List.mem_cons_of_mem _ m)
theorem rep_rst {K : PySem.W.Frag} {c : Ct} {G H G' H' : Hp} {ow ow' : Ow} {σ : L2.St} {ε ε' : Ep} {vs : List Nat} (R : Rep K c G H ow σ ε) (sg : Same G G') (R' : Rep K c G' H' ow' (wipe σ vs) ε') : Rep K c G' H' ow' σ (rstE ε ε' vs) := by
  refine ⟨R'.ex, R'.dom, by rw [rstE_length, ← R'.len, wipe_length], fun j o z => ?_⟩
  by_cases hj : j ∈ vs
  · have hl : j < ε'.length := by
      rw [← R'.len, wipe_length]
      exact (List.getElem?_eq_some_iff.mp z).1
    rw [look_rst_in hl hj]
    have q := R.sl j o z
    cases hs : look ε j with
    | d x =>
      rw [hs] at q
      obtain ⟨v, e, d⟩ := q
      exact ⟨v, e, dp_ex sg x d⟩
    | v x =>
      rw [hs] at q
      exact q
    | un => trivial
    | lst _ _ => trivial
    | dct _ _ => trivial
    | nt _ _ => trivial
    | al _ _ _ => trivial
    | ex _ => trivial
  · rw [look_rst_out hj]
    rw [← wipe_out (vs := vs) hj] at z
    exact R'.sl j o z
/-! ### judgements -/
abbrev TD := Ep → (Vl → Ep → Prop) → Prop
abbrev TDT := Ep → (Bool → Ep → Prop) → Prop
abbrev TDA := Ep → (List Vl → Ep → Prop) → Prop
abbrev TDF := Ep → (List PyData → Ep → Prop) → Prop
structure DEnds where
  nx : Ep → Prop
  rt : Vl → Ep → Prop
  bk : Ep → Prop := fun _ => False
  ct : Ep → Prop := fun _ => False
  xc : Str → Ep → Prop := fun _ _ => False
abbrev TDS := DEnds → Ep → Prop
abbrev TDG := PyData → Ep → (Ep → Prop) → Prop
abbrev TDGs := List PyData → Ep → (Ep → Prop) → Prop
def rdV (K : PySem.W.Frag) (t : TD) : TE := fun σ H Q => ∃ c G ow ε A, Rep K c G H ow σ ε ∧ t ε A ∧ ∀ r ε' G' H' ow' v, A r ε' → Fr G H ow G' H' ow' → Rep K c G' H' ow' σ ε' → VOk K H G' H' ow' σ r v → Q v H'
def rdT (K : PySem.W.Frag) (t : TDT) : TT := fun σ H Q => ∃ c G ow ε A, Rep K c G H ow σ ε ∧ t ε A ∧ ∀ b ε' G' H' ow', A b ε' → Fr G H ow G' H' ow' → Rep K c G' H' ow' σ ε' → Q b H'
def rdA (K : PySem.W.Frag) (t : TDA) : TA := fun σ H Q => ∃ c G ow ε A, Rep K c G H ow σ ε ∧ t ε A ∧ ∀ rs ε' G' H' ow' vs, A rs ε' → Fr G H ow G' H' ow' → Rep K c G' H' ow' σ ε' → VsOk K H G' H' ow' σ rs vs → Q vs H'
def rdF (K : PySem.W.Frag) (t : TDF) : TA := fun σ H Q => ∃ c G ow ε A, Rep K c G H ow σ ε ∧ t ε A ∧ ∀ ds ε' G' H' ow' vs, A ds ε' → Fr G H ow G' H' ow' → Rep K c G' H' ow' σ ε' → DdAll K G' vs ds → Q vs H'
/-- what is wished of an exception of the module's class nm -/
def XW (K : PySem.W.Frag) (W : WX) (nm : Str) (σ : L2.St) (H : Hp) : Prop := ∀ C : Addr, PySem.W.nsIn K mainGlobals nm = some (some (.ref C)) → W (.ref C) none σ H
def rdS (K : PySem.W.Frag) (W : WX) (t : TDS) : TS := fun D σ H => ∃ c G ow ε A, Rep K c G H ow σ ε ∧ t A ε ∧
  (∀ ε' σ' G' H' ow', A.nx ε' → Fr G H ow G' H' ow' → Rep K c G' H' ow' σ' ε' → D.nx σ' H') ∧
  (∀ r ε' σ' G' H' ow' v, A.rt r ε' → Fr G H ow G' H' ow' → Rep K c G' H' ow' σ' ε' → VOk K c.H0 G' H' ow' [] r v → D.rt v H') ∧
  (∀ ε' σ' G' H' ow', A.bk ε' → Fr G H ow G' H' ow' → Rep K c G' H' ow' σ' ε' → D.bk σ' H') ∧
  (∀ ε' σ' G' H' ow', A.ct ε' → Fr G H ow G' H' ow' → Rep K c G' H' ow' σ' ε' → D.ct σ' H') ∧
  (∀ nm ε' σ' G' H' ow', A.xc nm ε' → Fr G H ow G' H' ow' → Rep K c G' H' ow' σ' ε' → XW K W nm σ' H')
def noW : WX := fun _ _ _ _ => False
def Wrt (ws : List Nat) (σ σ' : L2.St) : Prop := ∀ vs : List Nat, (∀ j ∈ ws, j ∈ vs) → wipe σ' vs = wipe σ vs
def rdG (K : PySem.W.Frag) (ws : List Nat) (g : TDG) : TG := fun v σ H Q => ∃ c G ow ε x A, Rep K c G H ow σ ε ∧ Dd K G v x ∧ g x ε A ∧ ∀ ε' σ' G' H' ow', A ε' → Fr G H ow G' H' ow' → Rep K c G' H' ow' σ' ε' → Wrt ws σ σ' → Q σ' H'
def rdGs (K : PySem.W.Frag) (ws : List Nat) (g : TDGs) : TGs := fun vs σ H Q => ∃ c G ow ε xs A, Rep K c G H ow σ ε ∧ DdAll K G vs xs ∧ g xs ε A ∧ ∀ ε' σ' G' H' ow', A ε' → Fr G H ow G' H' ow' → Rep K c G' H' ow' σ' ε' → Wrt ws σ σ' → Q σ' H'
abbrev DV (X : Cx) (e : Expr) (t : TD) : Prop := PE X e (rdV X.K t)
abbrev DT (X : Cx) (e : Expr) (t : TDT) : Prop := PT X e (rdT X.K t)
abbrev DW (X : Cx) (e : Expr) (t : TDT) : Prop := PW X e (rdT X.K t)
abbrev DA (X : Cx) (es : List Expr) (t : TDA) : Prop := PA X es (rdA X.K t)
abbrev DF (X : Cx) (es : List Expr) (t : TDF) : Prop := PA X es (rdF X.K t)
abbrev DS (X : Cx) (W : WX) (st : Stmt) (t : TDS) : Prop := PS X st (rdS X.K W t)
abbrev DSs (X : Cx) (W : WX) (st : List Stmt) (t : TDS) : Prop := PSs X st (rdS X.K W t)
abbrev DG (X : Cx) (e : Expr) (ws : List Nat) (g : TDG) : Prop := PG X e (rdG X.K ws g)
abbrev DGs (X : Cx) (es : List Expr) (ws : List Nat) (g : TDGs) : Prop := PGs X es (rdGs X.K ws g)
section
variable {X : Cx}
theorem pe_w {e : Expr} {t t' : TE} (h : PE X e t) (i : ∀ σ H Q, t' σ H Q → t σ H Q) : PE X e t' := ⟨fun pins s σ H Q I q => h.run pins s σ H Q I (i σ H Q q)⟩
theorem pt_w {e : Expr} {t t' : TT} (h : PT X e t) (i : ∀ σ H Q, t' σ H Q → t σ H Q) : PT X e t' := ⟨fun pins s σ H Q I q => h.run pins s σ H Q I (i σ H Q q)⟩
theorem pw_w {e : Expr} {t t' : TT} (h : PW X e t) (i : ∀ σ H Q, t' σ H Q → t σ H Q) : PW X e t' := ⟨fun wh pins s σ H Q I q => h.run wh pins s σ H Q I (i σ H Q q)⟩
theorem pa_w {e : List Expr} {t t' : TA} (h : PA X e t) (i : ∀ σ H Q, t' σ H Q → t σ H Q) : PA X e t' := ⟨fun pos pins s σ H Q I q => h.run pos pins s σ H Q I (i σ H Q q)⟩
theorem ps_w {e : Stmt} {t t' : TS} (h : PS X e t) (i : ∀ D σ H, t' D σ H → t D σ H) : PS X e t' := ⟨fun pins s σ H D I q => h.run pins s σ H D I (i D σ H q)⟩
theorem pss_w {e : List Stmt} {t t' : TS} (h : PSs X e t) (i : ∀ D σ H, t' D σ H → t D σ H) : PSs X e t' := ⟨fun pins s σ H D I q => h.run pins s σ H D I (i D σ H q)⟩
theorem pg_w {e : Expr} {t t' : TG} (h : PG X e t) (i : ∀ v σ H Q, t' v σ H Q → t v σ H Q) : PG X e t' := ⟨fun pins s σ H v u Q I r q => h.run pins s σ H v u Q I r (i v σ H Q q)⟩
theorem pe_wl {e : Expr} {t t' : TE} (h : PE X e t) (i : ∀ σ H Q, σ.length = X.N.length → t' σ H Q → t σ H Q) : PE X e t' := ⟨fun pins s σ H Q I q => h.run pins s σ H Q I (i σ H Q I.len q)⟩
theorem ps_wl {e : Stmt} {t t' : TS} (h : PS X e t) (i : ∀ D σ H, σ.length = X.N.length → t' D σ H → t D σ H) : PS X e t' := ⟨fun pins s σ H D I q => h.run pins s σ H D I (i D σ H I.len q)⟩
theorem pg_wl {e : Expr} {t t' : TG} (h : PG X e t) (i : ∀ v σ H Q, σ.length = X.N.length → t' v σ H Q → t v σ H Q) : PG X e t' := ⟨fun pins s σ H v u Q I r q => h.run pins s σ H v u Q I r (i v σ H Q I.len q)⟩
theorem pgs_w {e : List Expr} {t t' : TGs} (h : PGs X e t) (i : ∀ v σ H Q, t' v σ H Q → t v σ H Q) : PGs X e t' := ⟨fun pins s σ H v u Q I r q => h.run pins s σ H v u Q I r (i v σ H Q q)⟩
end

/-! ### names, constants -/
def dVar (i : Nat) : TD := fun ε A => match look ε i with
  | .d x => A (.d x) ε
  | .lst _ _ => A (.bor i) ε
  | .dct _ _ => A (.bor i) ε
  | .v x => A (.v x) ε
  | .nt _ (.node a _ _) => A (.bp i [] a) ε
  | .nt _ (.fz _) => False
  | .al j p a => A (.bp j p a) ε
  | .ex nm => A (.ex nm) ε
  | .un => False
def dC (d : PyData) : TD := fun ε A => A (.d d) ε
section
variable {X : Cx}
theorem dvar_rd {K : PySem.W.Frag} {i : Nat} {σ : L2.St} {H : Hp} {Q : VK} (h : rdV K (dVar i) σ H Q) : tVar i σ H Q := by
  obtain ⟨c, G, ow, ε, A, R, h, k⟩ := h
  unfold dVar at h
  cases hl : look ε i with
  | un => rw [hl] at h; exact h.elim
  | d x =>
    rw [hl] at h
    obtain ⟨o, ho⟩ := R.some_at (i := i) (by rw [hl]; exact fun z => nomatch z)
    have q := R.at ho
    rw [hl] at q
    obtain ⟨v, rfl, d⟩ := q
    exact ⟨v, ho, k _ _ G H ow v h (Fr.refl _ _ _) R d⟩
  | lst fr xs =>
    rw [hl] at h
    obtain ⟨o, ho⟩ := R.some_at (i := i) (by rw [hl]; exact fun z => nomatch z)
    have q := R.at ho
    rw [hl] at q
    obtain ⟨p, vs, rfl, _⟩ := q
    exact ⟨_, ho, k _ _ G H ow _ h (Fr.refl _ _ _) R ho⟩
  | dct fr xs =>
    rw [hl] at h
    obtain ⟨o, ho⟩ := R.some_at (i := i) (by rw [hl]; exact fun z => nomatch z)
    have q := R.at ho
    rw [hl] at q
    obtain ⟨p, vs, rfl, _⟩ := q
    exact ⟨_, ho, k _ _ G H ow _ h (Fr.refl _ _ _) R ho⟩
  | v x =>
    rw [hl] at h
    obtain ⟨o, ho⟩ := R.some_at (i := i) (by rw [hl]; exact fun z => nomatch z)
    have q := R.at ho
    rw [hl] at q
    have q : o = some x := q
    subst q
    exact ⟨_, ho, k _ _ G H ow _ h (Fr.refl _ _ _) R rfl⟩
  | al j p a =>
    rw [hl] at h
    obtain ⟨o, ho⟩ := R.some_at (i := i) (by rw [hl]; exact fun z => nomatch z)
    have q := R.at ho
    rw [hl] at q
    have q : o = some (.ref a) := q
    subst q
    exact ⟨_, ho, k _ _ G H ow _ h (Fr.refl _ _ _) R rfl⟩
  | ex nm =>
    rw [hl] at h
    obtain ⟨o, ho⟩ := R.some_at (i := i) (by rw [hl]; exact fun z => nomatch z)
    have q := R.at ho
    rw [hl] at q
    obtain ⟨v, rfl, q⟩ := q
    exact ⟨_, ho, k _ _ G H ow _ h (Fr.refl _ _ _) R q⟩
  | nt fr t =>
    cases t with
    | fz x => rw [hl] at h; exact h.elim
    | node a hd ts =>
      rw [hl] at h
      obtain ⟨o, ho⟩ := R.some_at (i := i) (by rw [hl]; exact fun z => nomatch z)
      have q := R.at ho
      rw [hl] at q
      obtain ⟨v, rfl, q, _⟩ := q
      rw [TOk] at q
      exact ⟨_, ho, k _ _ G H ow _ h (Fr.refl _ _ _) R q.1⟩
theorem dv (i : Nat) {x : Str} {pos : Pos} (hN : X.N[i]? = some x := by rfl) (hv : Vis X.env.scope x := by first | exact Or.inl rfl | exact Or.inr (Or.inl rfl) | exact Or.inr (Or.inr rfl)) (hd : (x == ("__debug__" : Str)) = false := by decide)
    (hcd : (x == ("__classdict__" : Str)) = false := by decide) : DV X (.Name x pos) (dVar i) := pe_w (pe_var hN hv hd hcd) fun _ _ _ h => dvar_rd h
theorem dc_rd {K : PySem.W.Frag} {v : V} {d : PyData} {σ : L2.St} {H : Hp} {Q : VK} (hd : ∀ G, Dd K G v d) (h : rdV K (dC d) σ H Q) : tC v σ H Q := by
  obtain ⟨c, G, ow, ε, A, R, h, k⟩ := h
  exact k _ _ G H ow v h (Fr.refl _ _ _) R (hd G)
theorem dv_int {i j pos} : DV X (.Constant (.int i) j pos) (dC (.int i)) := pe_w pe_int fun _ _ _ h => dc_rd (fun _ => .int i) h
theorem dv_bl {b j pos} : DV X (.Constant (.bool b) j pos) (dC (.bool b)) := pe_w pe_bl fun _ _ _ h => dc_rd (fun _ => .bl b) h
theorem dv_non {j pos} : DV X (.Constant .none j pos) (dC .none) := pe_w pe_non fun _ _ _ h => dc_rd (fun _ => .non) h
theorem dv_str {x j pos} : DV X (.Constant (.str x) j pos) (dC (.str x)) := pe_w pe_str fun _ _ _ h => dc_rd (fun _ => .str x) h
/-- a constant of the module -/
theorem dv_glob {x : Str} {v : V} {d : PyData} {u : Value} {pos : Pos} (hg : Gl X x) (hm : X.mg x = some u) (r : RelV v u) (hD : ∀ G, Dd X.K G v d) (hd : (x == ("__debug__" : Str)) = false := by decide) : DV X (.Name x pos) (dC d) :=
  pe_w (pe_glob hg hm r hd) fun _ _ _ h => dc_rd hD h
end

/-! ### what an operation makes -/
inductive Res (K : PySem.W.Frag) (G H : Hp) : Vl → V → Hp → Prop
  | val {v : V} {d : PyData} : Dd K G v d → Res K G H (.d d) v H
  | lst {p : Addr} {vs : List V} {xs : List PyData} : H p = none → DdAll K G vs xs → Res K G H (.new xs) (.ref p) (upd H p (.lst vs))
  | tup {p : Addr} {vs : List V} {xs : List PyData} : H p = none → DdAll K G vs xs → Res K G H (.d (.tuple xs)) (.ref p) (upd H p (.tup vs))
  | dct {p : Addr} {kv : List (Key × V)} {kvs : List (Key × PyData)} : H p = none → KvOk K G kv kvs → Res K G H (.dk kvs) (.ref p) (upd H p (.dK kv))
  | raw {v : V} : Res K G H (.v v) v H
theorem res_fin {K : PySem.W.Frag} {c : Ct} {G H H' : Hp} {ow : Ow} {σ : L2.St} {ε : Ep} {r : Vl} {v : V} (R : Rep K c G H ow σ ε) (h : Res K G H r v H') : ∃ G' ow', Fr G H ow G' H' ow' ∧ Rep K c G' H' ow' σ ε ∧ VOk K H G' H' ow' σ r v := by
  cases h with
  | val d => exact ⟨G, ow, Fr.refl _ _ _, R, d⟩
  | raw => exact ⟨G, ow, Fr.refl _ _ _, R, rfl⟩
  | lst hp hd =>
    obtain ⟨F, R', z1, z2⟩ := grow_new (o := .lst _) R hp
    exact ⟨G, _, F, R', ⟨_, _, rfl, hp, z1, z2, upd_same, hd⟩⟩
  | dct hp hd =>
    obtain ⟨F, R', z1, z2⟩ := grow_new (o := .dK _) R hp
    exact ⟨G, _, F, R', ⟨_, _, rfl, hp, z1, z2, upd_same, hd⟩⟩
  | tup hp hd =>
    obtain ⟨F, R'⟩ := grow_frz (o := .tup _) R hp
    exact ⟨_, ow, F, R', .tup (.inl (.inl upd_same)) (dpa_ex F.ex _ hd)⟩
def OpD (K : PySem.W.Frag) (r : R2) (k : PyData → PyData → (Vl → Prop) → Prop) : Prop := ∀ G H x y v1 v2 (A : Vl → Prop) (Q : VK), Same G H → Pk K G H v1 x → Pk K G H v2 y → k x y A → (∀ r v H', A r → Res K G H r v H' → Q v H') → r v1 v2 H Q
def UnD (K : PySem.W.Frag) (r : V → Hp → VK → Prop) (k : PyData → (Vl → Prop) → Prop) : Prop := ∀ G H x v1 (A : Vl → Prop) (Q : VK), Same G H → Pk K G H v1 x → k x A → (∀ r v H', A r → Res K G H r v H' → Q v H') → r v1 H Q
def CallD (K : PySem.W.Frag) (r : List V → Hp → VK → Prop) (k : List PyData → (Vl → Prop) → Prop) : Prop := ∀ G H xs vs (A : Vl → Prop) (Q : VK), Same G H → PkAll K G H vs xs → k xs A → (∀ r v H', A r → Res K G H r v H' → Q v H') → r vs H Q
def dOp (k : PyData → PyData → (Vl → Prop) → Prop) (ta tb : TD) : TD := fun ε A => ta ε fun r1 ε1 => tb ε1 fun r2 ε2 => match peek ε2 r1, peek ε2 r2 with
  | some x, some y => k x y fun r => A r ε2
  | _, _ => False
def dUn (k : PyData → (Vl → Prop) → Prop) (ta : TD) : TD := fun ε A => ta ε fun r1 ε1 => match peek ε1 r1 with
  | some x => k x fun r => A r ε1
  | _ => False
section
variable {X : Cx} {a b : Expr} {ta tb : TD} {pos : Pos} {k : PyData → PyData → (Vl → Prop) → Prop} {r : R2}
theorem dop_rd {K : PySem.W.Frag} {σ : L2.St} {H : Hp} {Q : VK} (hk : OpD K r k) (h : rdV K (dOp k ta tb) σ H Q) : tOp r (rdV K ta) (rdV K tb) σ H Q := by
  obtain ⟨c, G, ow, ε, A, R, h, kk⟩ := h
  refine ⟨c, G, ow, ε, _, R, h, fun r1 ε1 G1 H1 ow1 v1 h1 F1 R1 V1 => ⟨c, G1, ow1, ε1, _, R1, h1, fun r2 ε2 G2 H2 ow2 v2 h2 F2 R2 V2 => ?_⟩⟩
  have F := F1.trans F2
  cases e1 : peek ε2 r1 with
  | none => simp only [e1] at h2
  | some x =>
    cases e2 : peek ε2 r2 with
    | none => simp only [e1, e2] at h2
    | some y =>
      simp only [e1, e2] at h2
      refine hk G2 H2 x y v1 v2 _ Q R2.ex (peek_ok R2 (V1.fr F2) e1) (peek_ok R2 V2 e2) h2 fun r v H' hr hres => ?_
      obtain ⟨G', ow', F3, R3, V3⟩ := res_fin R2 hres
      exact kk r ε2 G' H' ow' v hr (F.trans F3) R3 (V3.since F.dom)
theorem dv_op {op : Operator} (ho : OpR X (binaryOp op) r) (hk : OpD X.K r k) (ha : DV X a ta) (hb : DV X b tb) : DV X (.BinOp a op b pos) (dOp k ta tb) := pe_w (pe_op ho ha hb) fun _ _ _ h => dop_rd hk h
theorem dv_cmp {op : CmpOp} (ho : OpR X (compareOp op) r) (hk : OpD X.K r k) (ha : DV X a ta) (hb : DV X b tb) (hm : behindInMarks op b = false) : DV X (.Compare a [op] [b] pos) (dOp k ta tb) := pe_w (pe_cmpR ho ha hb hm) fun _ _ _ h => dop_rd hk h
theorem dv_ix (hr : IxR X r) (hk : OpD X.K r k) (ha : DV X a ta) (hb : DV X b tb) (hs : PlainIx b) : DV X (.Subscript a b pos) (dOp k ta tb) := pe_w (pe_ix hr ha hb hs) fun _ _ _ h => dop_rd hk h
/-- a value as a test -/
def dTest (t : TD) : TDT := fun ε A => t ε fun r ε1 => match r with
  | .d (.bool b) => A b ε1
  | _ => False
theorem dtest_rd {K : PySem.W.Frag} {t : TD} {σ : L2.St} {H : Hp} {Q : Bool → Hp → Prop} (h : rdT K (dTest t) σ H Q) : rdV K t σ H (fun x H1 => ∃ c, x = .bl c ∧ Q c H1) := by
  obtain ⟨c, G, ow, ε, A, R, h, kk⟩ := h
  refine ⟨c, G, ow, ε, _, R, h, fun r1 ε1 G1 H1 ow1 v1 h1 F1 R1 V1 => ?_⟩
  cases r1 with
  | d x =>
    cases x with
    | bool b =>
      have V1 : Dd K G1 v1 (.bool b) := V1
      cases V1
      exact ⟨b, rfl, kk b ε1 G1 H1 ow1 h1 F1 R1⟩
    | _ => exact h1.elim
  | _ => exact h1.elim
theorem dt_cmp {op : CmpOp} (ho : OpR X (compareOp op) r) (hk : OpD X.K r k) (ha : DV X a ta) (hb : DV X b tb) (hm : behindInMarks op b = false) : DT X (.Compare a [op] [b] pos) (dTest (dOp k ta tb)) := pt_w (pt_cmpR ho ha hb hm) fun _ _ _ h => by
  obtain ⟨c, G, ow, ε, A, R, h, kk⟩ := dtest_rd h
  exact dop_rd hk ⟨c, G, ow, ε, A, R, h, kk⟩
theorem dt_val {e : Expr} {t : TD} (h : DV X e t) (he : ∀ whole, isTrue e X.env whole = (do let v ← whole; standAt e.pos; holding [v] (truthy v)) := by intro _; rfl) : DT X e (dTest t) := pt_w (pt_val h he) fun _ _ _ h => dtest_rd h
end
/-! ### and, or, not -/
def dAnd (t u : TDT) : TDT := fun ε A => t ε fun c ε1 => onB c (u ε1 A) (A false ε1)
def dOr (t u : TDT) : TDT := fun ε A => t ε fun c ε1 => onB c (A true ε1) (u ε1 A)
def dNot (t : TDT) : TDT := fun ε A => t ε fun c ε1 => A (!c) ε1
def dAndV (t u : TD) : TD := fun ε A => t ε fun r ε1 => match r with
  | .d (.bool b) => onB b (u ε1 A) (A (.d (.bool false)) ε1)
  | _ => False
def dOrV (t u : TD) : TD := fun ε A => t ε fun r ε1 => match r with
  | .d (.bool b) => onB b (A (.d (.bool true)) ε1) (u ε1 A)
  | _ => False
def dNotV (t : TD) : TD := fun ε A => t ε fun r ε1 => match r with
  | .d (.bool b) => A (.d (.bool (!b))) ε1
  | _ => False
def dIfE (c : TDT) (t u : TD) : TD := fun ε A => c ε fun b ε1 => onB b (t ε1 A) (u ε1 A)
section
variable {X : Cx} {a b : Expr} {rest : List Expr} {tA tB' : TDT} {ta tb : TD} {pos : Pos} {K : PySem.W.Frag} {σ : L2.St} {H : Hp}
theorem rdt_fr {t : TDT} {c : Ct} {G : Hp} {ow : Ow} {ε : Ep} {A : Bool → Ep → Prop} {Gs Hs : Hp} {ows : Ow} {Q : Bool → Hp → Prop} (R : Rep K c G H ow σ ε) (F : Fr Gs Hs ows G H ow) (h : t ε A) (kk : ∀ b ε' G' H' ow', A b ε' → Fr Gs Hs ows G' H' ow' → Rep K c G' H' ow' σ ε' → Q b H') : rdT K t σ H Q :=
  ⟨c, G, ow, ε, A, R, h, fun b ε' G' H' ow' h1 F1 R1 => kk b ε' G' H' ow' h1 (F.trans F1) R1⟩
theorem rdv_fr {t : TD} {c : Ct} {G : Hp} {ow : Ow} {ε : Ep} {A : Vl → Ep → Prop} {Gs Hs : Hp} {ows : Ow} {Q : VK} (R : Rep K c G H ow σ ε) (F : Fr Gs Hs ows G H ow) (h : t ε A) (kk : ∀ r ε' G' H' ow' v, A r ε' → Fr Gs Hs ows G' H' ow' → Rep K c G' H' ow' σ ε' → VOk K Hs G' H' ow' σ r v → Q v H') : rdV K t σ H Q :=
  ⟨c, G, ow, ε, A, R, h, fun r ε' G' H' ow' v h1 F1 R1 V => kk r ε' G' H' ow' v h1 (F.trans F1) R1 (V.since F.dom)⟩
theorem dw_and1 (ha : DT X a tA) : DW X (.BoolOp .And [a] pos) tA := pw_and1 ha
theorem dw_or1 (ha : DT X a tA) : DW X (.BoolOp .Or [a] pos) tA := pw_or1 ha
theorem dw_and (ha : DT X a tA) (hb : DW X (.BoolOp .And (b :: rest) pos) tB') : DW X (.BoolOp .And (a :: b :: rest) pos) (dAnd tA tB') := pw_w (pw_and ha hb) fun σ H Q ⟨c, G, ow, ε, A, R, h, kk⟩ =>
  ⟨c, G, ow, ε, _, R, h, fun d ε1 G1 H1 ow1 h1 F1 R1 => by
    cases d with
    | true => exact iteT (rdt_fr R1 F1 h1 kk)
    | false => exact iteF (kk false ε1 G1 H1 ow1 h1 F1 R1)⟩
theorem dw_or (ha : DT X a tA) (hb : DW X (.BoolOp .Or (b :: rest) pos) tB') : DW X (.BoolOp .Or (a :: b :: rest) pos) (dOr tA tB') := pw_w (pw_or ha hb) fun σ H Q ⟨c, G, ow, ε, A, R, h, kk⟩ =>
  ⟨c, G, ow, ε, _, R, h, fun d ε1 G1 H1 ow1 h1 F1 R1 => by
    cases d with
    | true => exact iteT (kk true ε1 G1 H1 ow1 h1 F1 R1)
    | false => exact iteF (rdt_fr R1 F1 h1 kk)⟩
theorem dt_not (ha : DT X a tA) : DT X (.UnaryOp .Not a pos) (dNot tA) := pt_w (pt_not ha) fun σ H Q ⟨c, G, ow, ε, A, R, h, kk⟩ => ⟨c, G, ow, ε, _, R, h, fun d ε1 G1 H1 ow1 h1 F1 R1 => kk (!d) ε1 G1 H1 ow1 h1 F1 R1⟩
theorem dv_one {op} {t : TD} (h : DV X a t) : DV X (.BoolOp op [a] pos) t := pe_one h
theorem dv_and (ha : DV X a ta) (hb : DV X (.BoolOp .And (b :: rest) pos) tb) : DV X (.BoolOp .And (a :: b :: rest) pos) (dAndV ta tb) := pe_w (pe_and ha hb) fun σ H Q ⟨c, G, ow, ε, A, R, h, kk⟩ =>
  ⟨c, G, ow, ε, _, R, h, fun r ε1 G1 H1 ow1 v h1 F1 R1 V1 => by
    cases r with
    | d x =>
      cases x with
      | bool d =>
        have V1 : Dd X.K G1 v (.bool d) := V1
        cases V1
        refine ⟨d, rfl, ?_⟩
        cases d with
        | true => exact iteT (rdv_fr R1 F1 h1 kk)
        | false => exact iteF (kk _ ε1 G1 H1 ow1 (.bl false) h1 F1 R1 (.bl false))
      | _ => exact h1.elim
    | _ => exact h1.elim⟩
theorem dv_or (ha : DV X a ta) (hb : DV X (.BoolOp .Or (b :: rest) pos) tb) : DV X (.BoolOp .Or (a :: b :: rest) pos) (dOrV ta tb) := pe_w (pe_or ha hb) fun σ H Q ⟨c, G, ow, ε, A, R, h, kk⟩ =>
  ⟨c, G, ow, ε, _, R, h, fun r ε1 G1 H1 ow1 v h1 F1 R1 V1 => by
    cases r with
    | d x =>
      cases x with
      | bool d =>
        have V1 : Dd X.K G1 v (.bool d) := V1
        cases V1
        refine ⟨d, rfl, ?_⟩
        cases d with
        | false => exact iteF (rdv_fr R1 F1 h1 kk)
        | true => exact iteT (kk _ ε1 G1 H1 ow1 (.bl true) h1 F1 R1 (.bl true))
      | _ => exact h1.elim
    | _ => exact h1.elim⟩
theorem dv_not (ha : DV X a ta) : DV X (.UnaryOp .Not a pos) (dNotV ta) := pe_w (pe_not ha) fun σ H Q ⟨c, G, ow, ε, A, R, h, kk⟩ =>
  ⟨c, G, ow, ε, _, R, h, fun r ε1 G1 H1 ow1 v h1 F1 R1 V1 => by
    cases r with
    | d x =>
      cases x with
      | bool d =>
        have V1 : Dd X.K G1 v (.bool d) := V1
        cases V1
        exact ⟨d, rfl, kk _ ε1 G1 H1 ow1 (.bl (!d)) h1 F1 R1 (.bl _)⟩
      | _ => exact h1.elim
    | _ => exact h1.elim⟩
theorem dv_if {e : Expr} (hc : DT X e tA) (ha : DV X a ta) (hb : DV X b tb) : DV X (.IfExp e a b pos) (dIfE tA ta tb) := pe_w (pe_ifExp hc ha hb) fun σ H Q ⟨c, G, ow, ε, A, R, h, kk⟩ =>
  ⟨c, G, ow, ε, _, R, h, fun d ε1 G1 H1 ow1 h1 F1 R1 => by
    cases d with
    | true => exact iteT (rdv_fr R1 F1 h1 kk)
    | false => exact iteF (rdv_fr R1 F1 h1 kk)⟩
end
/-! ### arguments, displays -/
def daNil : TDA := fun ε A => A [] ε
def daCons (t : TD) (u : TDA) : TDA := fun ε A => t ε fun r ε1 => u ε1 fun rs ε2 => A (r :: rs) ε2
def dfNil : TDF := fun ε A => A [] ε
def dfCons (t : TD) (u : TDF) : TDF := fun ε A => t ε fun r ε1 => match frz ε1 r with
  | some (x, ε2) => u ε2 fun xs ε3 => A (x :: xs) ε3
  | none => False
def dTup (t : TDF) : TD := fun ε A => t ε fun xs ε1 => xs.length ≤ 1000000 ∧ A (.d (.tuple xs)) ε1
def dLst (t : TDF) : TD := fun ε A => t ε fun xs ε1 => xs.length ≤ 1000000 ∧ A (.new xs) ε1
theorem line_le {n : Nat} (h : n ≤ 1000000) : n ≤ sizeLine := Nat.le_trans h (by decide)
theorem line_lt {n : Nat} (h : n < 1000000) : n < sizeLine := Nat.lt_of_lt_of_le h (by decide)
section
variable {X : Cx} {e : Expr} {es : List Expr} {te : TD} {ta : TDA} {tf : TDF} {pos : Pos}
theorem da_nil : DA X [] daNil := pa_w pa_nil fun σ H Q ⟨c, G, ow, ε, A, R, h, kk⟩ => kk [] ε G H ow [] h (Fr.refl _ _ _) R rfl
theorem da_cons (ha : DV X e te) (hr : DA X es ta) (hs : starEach (e :: es) X.env = (false, eval e X.env) :: starEach es X.env := by rfl) : DA X (e :: es) (daCons te ta) := pa_w (pa_cons ha hr hs) fun σ H Q ⟨c, G, ow, ε, A, R, h, kk⟩ =>
  ⟨c, G, ow, ε, _, R, h, fun r ε1 G1 H1 ow1 v h1 F1 R1 V1 => ⟨c, G1, ow1, ε1, _, R1, h1, fun rs ε2 G2 H2 ow2 vs h2 F2 R2 V2 => kk _ ε2 G2 H2 ow2 _ h2 (F1.trans F2) R2 ⟨v, vs, rfl, V1.fr F2, V2.since F1.dom⟩⟩⟩
theorem df_nil : DF X [] dfNil := pa_w pa_nil fun σ H Q ⟨c, G, ow, ε, A, R, h, kk⟩ => kk [] ε G H ow [] h (Fr.refl _ _ _) R .nil
theorem df_cons (ha : DV X e te) (hr : DF X es tf) (hs : starEach (e :: es) X.env = (false, eval e X.env) :: starEach es X.env := by rfl) : DF X (e :: es) (dfCons te tf) := pa_w (pa_cons ha hr hs) fun σ H Q ⟨c, G, ow, ε, A, R, h, kk⟩ =>
  ⟨c, G, ow, ε, _, R, h, fun r ε1 G1 H1 ow1 v h1 F1 R1 V1 => by
    cases q : frz ε1 r with
    | none => simp only [q] at h1
    | some z =>
      obtain ⟨x, ε2⟩ := z
      simp only [q] at h1
      obtain ⟨G2, F2, sg, R2, d⟩ := frz_ok F1 R1 V1 q
      exact ⟨c, G2, ow1, ε2, _, R2, h1, fun xs ε3 G3 H3 ow3 vs h3 F3 R3 V3 => kk _ ε3 G3 H3 ow3 _ h3 (F2.trans F3) R3 (.cons (dp_ex F3.ex x d) V3)⟩⟩
theorem dv_tup {x1} (h : DF X es tf) : DV X (.Tuple es x1 pos) (dTup tf) := pe_w (pe_tup h) fun σ H Q ⟨c, G, ow, ε, A, R, h, kk⟩ =>
  ⟨c, G, ow, ε, _, R, h, fun xs ε1 G1 H1 ow1 vs h1 F1 R1 V1 => ⟨by rw [dpa_len V1]; exact line_le h1.1, fun p hp => by
    obtain ⟨G', ow', F2, R2, V2⟩ := res_fin R1 (.tup hp V1)
    exact kk _ ε1 G' _ ow' _ h1.2 (F1.trans F2) R2 (V2.since F1.dom)⟩⟩
theorem dv_lst (h : DF X es tf) : DV X (.List es pos) (dLst tf) := pe_w (pe_lst h) fun σ H Q ⟨c, G, ow, ε, A, R, h, kk⟩ =>
  ⟨c, G, ow, ε, _, R, h, fun xs ε1 G1 H1 ow1 vs h1 F1 R1 V1 => ⟨by rw [dpa_len V1]; exact line_le h1.1, fun p hp => by
    obtain ⟨G', ow', F2, R2, V2⟩ := res_fin R1 (.lst hp V1)
    exact kk _ ε1 G' _ ow' _ h1.2 (F1.trans F2) R2 (V2.since F1.dom)⟩⟩
end
def dDct : TD := fun ε A => A (.dk []) ε
theorem dv_dnew {X : Cx} {pos : Pos} : DV X (.Dict [] [] pos) dDct := pe_w pe_dnewK fun σ H Q ⟨c, G, ow, ε, A, R, h, kk⟩ p hp => by
  obtain ⟨G', ow', F2, R2, V2⟩ := res_fin R (.dct hp .nil)
  exact kk _ ε G' _ ow' _ h F2 R2 V2
/-! ### built-ins -/
def dCB (k : List PyData → (Vl → Prop) → Prop) (t : TDA) : TD := fun ε A => t ε fun rs ε1 => match peekAll ε1 rs with
  | some xs => k xs fun r => A r ε1
  | none => False
section
variable {X : Cx} {e : Expr} {es : List Expr} {ta : TDA} {pos p : Pos} {x : Str} {r : List V → Hp → VK → Prop} {k : List PyData → (Vl → Prop) → Prop} {id T : String}
theorem dcb_rd {K : PySem.W.Frag} {σ : L2.St} {H : Hp} {Q : VK} (hk : CallD K r k) (h : rdV K (dCB k ta) σ H Q) : tCB r (rdA K ta) σ H Q := by
  obtain ⟨c, G, ow, ε, A, R, h, kk⟩ := h
  refine ⟨c, G, ow, ε, _, R, h, fun rs ε1 G1 H1 ow1 vs h1 F1 R1 V1 => ?_⟩
  cases q : peekAll ε1 rs with
  | none => simp only [q] at h1
  | some xs =>
    simp only [q] at h1
    refine hk G1 H1 xs vs _ Q R1.ex (peekAll_ok R1 V1 q) h1 fun r v H' hr hres => ?_
    obtain ⟨G', ow', F3, R3, V3⟩ := res_fin R1 hres
    exact kk r ε1 G' H' ow' v hr (F1.trans F3) R3 (V3.since F1.dom)
theorem dv_callB (hc : CallR X (.builtin id) r) (hk : CallD X.K r k) (hg : Gl X x) (hm : X.mg x = none) (hv : bootBuiltins x = some (.builtin id)) (ha : DA X (e :: es) ta) (hn : x ≠ "__name__" := by decide) (hdb : (x == ("__debug__" : Str)) = false := by decide)
    (hs : starEach (e :: es) X.env = (false, eval e X.env) :: starEach es X.env := by rfl) (hp : (backTo pos (starEach es X.env)).any (·.1) = false := by rfl) : DV X (.Call (.Name x p) (e :: es) [] pos) (dCB k ta) := pe_w (pe_callB hc hg hm hv ha hn hdb hs hp) fun _ _ _ h => dcb_rd hk h
theorem dv_callTy (hc : CallR X (.type T) r) (hk : CallD X.K r k) (hg : Gl X x) (hm : X.mg x = none) (hv : bootBuiltins x = some (.type T)) (ha : DA X (e :: es) ta) (hn : x ≠ "__name__" := by decide) (hdb : (x == ("__debug__" : Str)) = false := by decide)
    (hs : starEach (e :: es) X.env = (false, eval e X.env) :: starEach es X.env := by rfl) (hp : (backTo pos (starEach es X.env)).any (·.1) = false := by rfl) : DV X (.Call (.Name x p) (e :: es) [] pos) (dCB k ta) := pe_w (pe_callTy hc hg hm hv ha hn hdb hs hp) fun _ _ _ h => dcb_rd hk h
end

/-! ### statements -/
def sNext : TDS := fun A ε => A.nx ε
def sSeq (t u : TDS) : TDS := fun A ε => t { A with nx := u A } ε
def sBrk : TDS := fun A ε => A.bk ε
def sCnt : TDS := fun A ε => A.ct ε
def sExpr (t : TD) : TDS := fun A ε => t ε fun _ ε1 => A.nx ε1
def unbor (ε : Ep) : Vl → Option (Vl × Ep)
  | .bor i => match look ε i with
    | .d x => some (.d x, ε)
    | .lst true xs => some (.new xs, put ε i .un)
    | .dct true kvs => some (.dk kvs, put ε i .un)
    | _ => none
  | .bp i [] a => match look ε i with
    | .nt true (.node b h ts) => if a = b then some (.nt (.node b h ts), put ε i .un) else none
    | _ => none
  | .bp _ _ _ => none
  | r => some (r, ε)
def sRet (t : TD) : TDS := fun A ε => t ε fun r ε1 => match unbor ε1 r with
  | some (r', ε2) => A.rt r' ε2
  | none => False
def sRetN : TDS := fun A ε => A.rt (.d .none) ε
def sIf (c : TDT) (t u : TDS) : TDS := fun A ε => c ε fun b ε1 => onB b (t A ε1) (u A ε1)
def sAsg (t : TD) (g : TDG) : TDS := fun A ε => t ε fun r ε1 => match frz ε1 r with
  | some (x, ε2) => g x ε2 A.nx
  | none => False
def sSet (i : Nat) (t : TD) : TDS := fun A ε => t ε fun r ε1 => match slOf ε1 r with
  | some (s, ε2) => A.nx (put ε2 i s)
  | none => False
def gNm (i : Nat) : TDG := fun x ε A => A (put ε i (.d x))
def gsNil : TDGs := fun xs ε A => match xs with
  | [] => A ε
  | _ => False
def gsCons (g : TDG) (gs : TDGs) : TDGs := fun xs ε A => match xs with
  | x :: r => g x ε fun ε1 => gs r ε1 A
  | [] => False
def gTp (n : Nat) (gs : TDGs) : TDG := fun x ε A => match x with
  | .tuple xs => xs.length = n ∧ gs xs ε A
  | _ => False
section
variable {X : Cx} {st : Stmt} {rest : List Stmt} {t u : TDS} {e : Expr} {te : TD} {pos : Pos} {K : PySem.W.Frag}
theorem rds_fr {c : Ct} {G H : Hp} {ow : Ow} {σ : L2.St} {ε : Ep} {A : DEnds} {Gs Hs : Hp} {ows : Ow} {D : Ends} (R : Rep K c G H ow σ ε) (F : Fr Gs Hs ows G H ow) (h : t A ε)
    (k1 : ∀ ε' σ' G' H' ow', A.nx ε' → Fr Gs Hs ows G' H' ow' → Rep K c G' H' ow' σ' ε' → D.nx σ' H')
    (k2 : ∀ r ε' σ' G' H' ow' v, A.rt r ε' → Fr Gs Hs ows G' H' ow' → Rep K c G' H' ow' σ' ε' → VOk K c.H0 G' H' ow' [] r v → D.rt v H')
    (k3 : ∀ ε' σ' G' H' ow', A.bk ε' → Fr Gs Hs ows G' H' ow' → Rep K c G' H' ow' σ' ε' → D.bk σ' H')
    (k4 : ∀ ε' σ' G' H' ow', A.ct ε' → Fr Gs Hs ows G' H' ow' → Rep K c G' H' ow' σ' ε' → D.ct σ' H')
    (k5 : ∀ nm ε' σ' G' H' ow', A.xc nm ε' → Fr Gs Hs ows G' H' ow' → Rep K c G' H' ow' σ' ε' → XW K W nm σ' H') : rdS K W t D σ H :=
  ⟨c, G, ow, ε, A, R, h, fun ε' σ' G' H' ow' q F1 R1 => k1 ε' σ' G' H' ow' q (F.trans F1) R1, fun r ε' σ' G' H' ow' v q F1 R1 V => k2 r ε' σ' G' H' ow' v q (F.trans F1) R1 V,
    fun ε' σ' G' H' ow' q F1 R1 => k3 ε' σ' G' H' ow' q (F.trans F1) R1, fun ε' σ' G' H' ow' q F1 R1 => k4 ε' σ' G' H' ow' q (F.trans F1) R1, fun nm ε' σ' G' H' ow' q F1 R1 => k5 nm ε' σ' G' H' ow' q (F.trans F1) R1⟩
theorem dss_nil : DSs X W [] sNext := pss_w pss_nil fun D σ H ⟨c, G, ow, ε, A, R, h, k1, k2, k3, k4, k5⟩ => k1 ε σ G H ow h (Fr.refl _ _ _) R
theorem dss_cons (h1 : DS X W st t) (h2 : DSs X W rest u) : DSs X W (st :: rest) (sSeq t u) := pss_w (pss_cons h1 h2) fun D σ H ⟨c, G, ow, ε, A, R, h, k1, k2, k3, k4, k5⟩ =>
  ⟨c, G, ow, ε, { A with nx := u A }, R, h, fun ε' σ' G' H' ow' q F1 R1 => rds_fr R1 F1 q k1 k2 k3 k4 k5, k2, k3, k4, k5⟩
theorem dss_one (h1 : DS X W st t) : DSs X W [st] t := pss_one h1
theorem ds_brk : DS X W (.Break pos) sBrk := ps_w ps_break fun D σ H ⟨c, G, ow, ε, A, R, h, k1, k2, k3, k4, k5⟩ => k3 ε σ G H ow h (Fr.refl _ _ _) R
theorem ds_cnt : DS X W (.Continue pos) sCnt := ps_w ps_continue fun D σ H ⟨c, G, ow, ε, A, R, h, k1, k2, k3, k4, k5⟩ => k4 ε σ G H ow h (Fr.refl _ _ _) R
theorem ds_pass : DS X W (.Pass pos) sNext := ps_w ps_pass fun D σ H ⟨c, G, ow, ε, A, R, h, k1, k2, k3, k4, k5⟩ => k1 ε σ G H ow h (Fr.refl _ _ _) R
theorem ds_expr (he : DV X e te) (hs : swapsWith e none pos.line X.env = pure false := by rfl) : DS X W (.Expr e pos) (sExpr te) := ps_w (ps_expr he hs) fun D σ H ⟨c, G, ow, ε, A, R, h, k1, k2, k3, k4, k5⟩ =>
  ⟨c, G, ow, ε, _, R, h, fun r ε1 G1 H1 ow1 v h1 F1 R1 V1 => k1 ε1 σ G1 H1 ow1 h1 F1 R1⟩
theorem unbor_ok {c : Ct} {Gs Hs G H : Hp} {ow ows : Ow} {σ : L2.St} {ε ε' : Ep} {r r' : Vl} {v : V} (hd : ∀ a, Hs a = none → c.H0 a = none) (F : Fr Gs Hs ows G H ow) (R : Rep K c G H ow σ ε) (V1 : VOk K Hs G H ow σ r v) (e : unbor ε r = some (r', ε')) :
    ∃ ow', Fr Gs Hs ows G H ow' ∧ Rep K c G H ow' σ ε' ∧ VOk K c.H0 G H ow' [] r' v := by
  have same : ∀ {r : Vl} {v : V}, r = r' → ε = ε' → VOk K Hs G H ow σ r v → (∀ i, r ≠ .bor i) → ∃ ow', Fr Gs Hs ows G H ow' ∧ Rep K c G H ow' σ ε' ∧ VOk K c.H0 G H ow' [] r' v := fun {r v} e e' V hb => by
    subst e e'
    refine ⟨ow, F, R, ?_⟩
    have V2 := V.since hd
    cases r with
    | bor i => exact absurd rfl (hb i)
    | d x => exact V2
    | new x => exact V2
    | dk _ => exact V2
    | v x => exact V2
    | nt _ => exact V2
    | bp _ _ _ => exact V2
    | ex _ => exact V2
  cases r with
  | d x => cases e; exact same rfl rfl V1 fun i z => nomatch z
  | new xs => cases e; exact same rfl rfl V1 fun i z => nomatch z
  | dk _ => cases e; exact same rfl rfl V1 fun i z => nomatch z
  | v x => cases e; exact same rfl rfl V1 fun i z => nomatch z
  | nt _ => cases e; exact same rfl rfl V1 fun i z => nomatch z
  | ex _ => cases e; exact same rfl rfl V1 fun i z => nomatch z
  | bp i p a =>
    cases p with
    | cons _ _ => simp [unbor] at e
    | nil =>
      cases hl : look ε i with
      | nt fr t =>
        cases fr with
        | false => simp [unbor, hl] at e
        | true =>
          cases t with
          | fz _ => simp [unbor, hl] at e
          | node b hd ts =>
            by_cases hab : a = b
            · subst hab
              simp only [unbor, hl, if_true, Option.some.injEq, Prod.mk.injEq] at e
              obtain ⟨rfl, rfl⟩ := e
              obtain ⟨o, ho⟩ := R.some_at (i := i) (by rw [hl]; exact fun z => nomatch z)
              have q := R.at ho
              rw [hl] at q
              obtain ⟨w, rfl, h1, h2, h3, h4, _⟩ := q
              have ew : w = v := by
                rw [TOk] at h1
                rw [h1.1]
                exact (show v = .ref a from V1).symm
              subst ew
              have hi : i < ε.length := look_lt (by rw [hl]; exact fun z => nomatch z)
              refine ⟨owcs ow (adr (.node a hd ts)) none, ⟨F.ex, fun b u z1 z2 => ?_, F.dom⟩, ⟨R.ex, R.dom, by rw [put_length]; exact R.len, fun j o z => ?_⟩, h1, h2, fun b hb => ⟨h4 rfl b hb, owcs_in hb⟩⟩
              · obtain ⟨q1, q2, q3⟩ := F.st b u z1 z2
                refine ⟨q1, ?_, q3⟩
                unfold owcs
                split
                · rfl
                · exact q2
              · by_cases hj : j = i
                · subst hj
                  rw [look_put_self hi]
                  trivial
                · rw [look_put_ne hj]
                  refine (R.sl j o z).grow (Same.refl G) fun q u z1 z2 z3 => ⟨?_, z2, z3⟩
                  rw [owcs_out (fun m => by rw [h3 q m] at z1; exact hj (Option.some.inj z1).symm)]
                  exact z1
            · simp [unbor, hl, hab] at e
      | _ => simp [unbor, hl] at e
  | bor i =>
    have V1 : σ[i]? = some (some v) := V1
    have q := R.at V1
    cases hl : look ε i with
    | un => simp [unbor, hl] at e
    | dct fr kvs =>
      cases fr with
      | false => simp [unbor, hl] at e
      | true =>
        simp only [unbor, hl, Option.some.injEq, Prod.mk.injEq] at e
        obtain ⟨rfl, rfl⟩ := e
        rw [hl] at q
        obtain ⟨p, vs, e1, h2, h3, h4, h5, h6, _⟩ := q
        cases e1
        have hi : i < ε.length := look_lt (by rw [hl]; exact fun z => nomatch z)
        refine ⟨owc ow p none, ⟨F.ex, fun a u z1 z2 => ?_, F.dom⟩, ⟨R.ex, R.dom, by rw [put_length]; exact R.len, fun j o z => ?_⟩, ⟨p, vs, rfl, h6 rfl, owc_self, h3, h4, h5⟩⟩
        · obtain ⟨q1, q2, q3⟩ := F.st a u z1 z2
          refine ⟨q1, ?_, q3⟩
          unfold owc
          split
          · rfl
          · exact q2
        · by_cases hj : j = i
          · subst hj
            rw [look_put_self hi]
            trivial
          · rw [look_put_ne hj]
            refine (R.sl j o z).grow (Same.refl G) fun q u z1 z2 z3 => ⟨?_, z2, z3⟩
            rw [owc_ne (fun e => by rw [e, h2] at z1; exact hj (Option.some.inj z1).symm)]
            exact z1
    | nt _ _ => simp [unbor, hl] at e
    | al _ _ _ => simp [unbor, hl] at e
    | ex _ => simp [unbor, hl] at e
    | v _ => simp [unbor, hl] at e
    | d x =>
      simp only [unbor, hl, Option.some.injEq, Prod.mk.injEq] at e
      obtain ⟨rfl, rfl⟩ := e
      rw [hl] at q
      obtain ⟨u, e1, e2⟩ := q
      cases e1
      exact ⟨ow, F, R, e2⟩
    | lst fr xs =>
      cases fr with
      | false => simp [unbor, hl] at e
      | true =>
        simp only [unbor, hl, Option.some.injEq, Prod.mk.injEq] at e
        obtain ⟨rfl, rfl⟩ := e
        rw [hl] at q
        obtain ⟨p, vs, e1, h2, h3, h4, h5, h6, _⟩ := q
        cases e1
        have hi : i < ε.length := look_lt (by rw [hl]; exact fun z => nomatch z)
        refine ⟨owc ow p none, ⟨F.ex, fun a u z1 z2 => ?_, F.dom⟩, ⟨R.ex, R.dom, by rw [put_length]; exact R.len, fun j o z => ?_⟩, ⟨p, vs, rfl, h6 rfl, owc_self, h3, h4, h5⟩⟩
        · obtain ⟨q1, q2, q3⟩ := F.st a u z1 z2
          refine ⟨q1, ?_, q3⟩
          unfold owc
          split
          · rfl
          · exact q2
        · by_cases hj : j = i
          · subst hj
            rw [look_put_self hi]
            trivial
          · rw [look_put_ne hj]
            refine (R.sl j o z).grow (Same.refl G) fun q u z1 z2 z3 => ⟨?_, z2, z3⟩
            rw [owc_ne (fun e => by rw [e, h2] at z1; exact hj (Option.some.inj z1).symm)]
            exact z1
theorem ds_ret (he : DV X e te) : DS X W (.Return (some e) pos) (sRet te) := ps_w (ps_ret he) fun D σ H ⟨c, G, ow, ε, A, R, h, k1, k2, k3, k4, k5⟩ =>
  ⟨c, G, ow, ε, _, R, h, fun r ε1 G1 H1 ow1 v h1 F1 R1 V1 => by
    cases q : unbor ε1 r with
    | none => simp only [q] at h1
    | some z =>
      obtain ⟨r', ε2⟩ := z
      simp only [q] at h1
      obtain ⟨ow2, F2, R2, V2⟩ := unbor_ok R.dom F1 R1 V1 q
      exact k2 r' ε2 σ G1 H1 ow2 v h1 F2 R2 V2⟩
theorem ds_retN : DS X W (.Return none pos) sRetN := ps_w ps_retN fun D σ H ⟨c, G, ow, ε, A, R, h, k1, k2, k3, k4, k5⟩ => k2 _ ε σ G H ow .non h (Fr.refl _ _ _) R .non
theorem ds_if {c : Expr} {a b : List Stmt} {tc : TDT} (hc : DT X c tc) (ha : DSs X W a t) (hb : DSs X W b u) : DS X W (.If c a b pos) (sIf tc t u) := ps_w (ps_if hc ha hb) fun D σ H ⟨c, G, ow, ε, A, R, h, k1, k2, k3, k4, k5⟩ =>
  ⟨c, G, ow, ε, _, R, h, fun d ε1 G1 H1 ow1 h1 F1 R1 => by
    cases d with
    | true => exact iteT (rds_fr R1 F1 h1 k1 k2 k3 k4 k5)
    | false => exact iteF (rds_fr R1 F1 h1 k1 k2 k3 k4 k5)⟩
/-! ### stores -/
theorem ds_set {i : Nat} {x : Str} {pos' : Pos} (hN : X.N.Nodup) (hi : X.N[i]? = some x) (hx : Loc X.env.scope x) (he : DV X e te) (hs : swapsWith e (some (.Name x pos')) pos.line X.env = pure false := by rfl) (hf : X.fn x = true ∨ X.env.scope.names.lookup x = some .local := by first | exact .inl rfl | exact .inr rfl | assumption) :
    DS X W (.Assign [.Name x pos'] e pos) (sSet i te) := ps_wl (ps_set hN hi hx he hs hf) fun D σ H hlen ⟨c, G, ow, ε, A, R, h, k1, k2, k3, k4, k5⟩ => ⟨c, G, ow, ε, _, R, h, fun r ε1 G1 H1 ow1 v h1 F1 R1 V1 => by
    cases q : slOf ε1 r with
    | none => simp only [q] at h1
    | some z =>
      obtain ⟨s, ε2⟩ := z
      simp only [q] at h1
      have hi2 : i < ε1.length := by
        rw [← R1.len, hlen]
        exact (List.getElem?_eq_some_iff.mp hi).1
      obtain ⟨G2, ow2, F2, R2⟩ := store_sl F1 R.dom R1 V1 hi2 q
      exact k1 _ _ G2 H1 ow2 h1 F2 R2⟩
theorem ds_asg {tg : Expr} {g : TDG} {ws : List Nat} (he : DV X e te) (hg : DG X tg ws g) (hs : swapsWithSole [tg] e pos.line X.env = pure false := by rfl) (hw : swappedStores [tg] e X.env = pure none := by rfl)
    (h1 : (assignEach [tg] X.env).map (·.2) = [assign tg X.env] := by rfl) : DS X W (.Assign [tg] e pos) (sAsg te g) := ps_w (ps_asg he hg hs hw h1) fun D σ H ⟨c, G, ow, ε, A, R, h, k1, k2, k3, k4, k5⟩ => ⟨c, G, ow, ε, _, R, h, fun r ε1 G1 H1 ow1 v h1 F1 R1 V1 => by
    cases q : frz ε1 r with
    | none => simp only [q] at h1
    | some z =>
      obtain ⟨x, ε2⟩ := z
      simp only [q] at h1
      obtain ⟨G2, F2, sg, R2, d⟩ := frz_ok F1 R1 V1 q
      exact ⟨c, G2, ow1, ε2, x, _, R2, d, h1, fun ε' σ' G' H' ow' z F3 R3 _ => k1 ε' σ' G' H' ow' z (F2.trans F3) R3⟩⟩
theorem dg_nm {i : Nat} {x : Str} {pos : Pos} (hN : X.N.Nodup) (hi : X.N[i]? = some x) (hx : Loc X.env.scope x) (hf : X.fn x = true ∨ X.env.scope.names.lookup x = some .local := by first | exact .inl rfl | exact .inr rfl | assumption) : DG X (.Name x pos) [i] (gNm i) :=
  pg_wl (pg_name hN hi hx hf) fun v σ H Q hlen ⟨c, G, ow, ε, x, A, R, d, h, k⟩ => by
    have hi2 : i < ε.length := by
      rw [← R.len, hlen]
      exact (List.getElem?_eq_some_iff.mp hi).1
    exact k _ _ G H ow h (Fr.refl _ _ _) (rep_put R hi2 ⟨v, rfl, d⟩) (fun vs z => wipe_set (z i (by simp)))
theorem dgs_nil : DGs X [] [] gsNil := pgs_w pgs_nil fun vs σ H Q ⟨c, G, ow, ε, xs, A, R, d, h, k⟩ => by
  cases d with
  | nil => exact ⟨rfl, k ε σ G H ow h (Fr.refl _ _ _) R (fun _ _ => rfl)⟩
  | cons _ _ => exact h.elim
theorem dgs_cons {e : Expr} {es : List Expr} {g : TDG} {gs : TDGs} {w1 w2 : List Nat} (h1 : DG X e w1 g) (h2 : DGs X es w2 gs)
    (hs : (assignEach (e :: es) X.env).map (·.2) = assign e X.env :: (assignEach es X.env).map (·.2) := by rfl) : DGs X (e :: es) (w1 ++ w2) (gsCons g gs) := pgs_w (pgs_cons h1 h2 hs) fun vs σ H Q ⟨c, G, ow, ε, xs, A, R, d, h, k⟩ => by
  cases d with
  | nil => exact h.elim
  | cons d1 d2 =>
    exact ⟨_, _, rfl, c, G, ow, ε, _, _, R, d1, h, fun ε1 σ1 G1 H1 ow1 q F1 R1 W1 => ⟨c, G1, ow1, ε1, _, _, R1, dpa_ex F1.ex _ d2, q, fun ε2 σ2 G2 H2 ow2 q2 F2 R2 W2 => k ε2 σ2 G2 H2 ow2 q2 (F1.trans F2) R2 fun vs z => (W2 vs fun j hj => z j (List.mem_append_right _ hj)).trans (W1 vs fun j hj => z j (List.mem_append_left _ hj))⟩⟩
theorem dg_tup {es : List Expr} {k : Nat} {gs : TDGs} {n : Nat} {ws : List Nat} (hc : X.calm = true) (h : DGs X es ws gs) (hn : (assignEach es X.env).length = n := by rfl) (hst : (assignEach es X.env).findIdx? (·.1) = none := by rfl) : DG X (.Tuple es k pos) ws (gTp n gs) :=
  pg_w (pg_tup hc h hn hst) fun v σ H Q ⟨c, G, ow, ε, x, A, R, d, h, k⟩ => by
    cases x with
    | tuple xs =>
      obtain ⟨p, vs, e1, h1, h2⟩ := Pk.tuple R.ex (Or.inl d : Pk X.K G H v (.tuple xs))
      exact ⟨p, vs, e1, h1, (dpa_len h2).trans h.1, c, G, ow, ε, xs, _, R, h2, h.2, k⟩
    | _ => exact h.elim
/-! ### while -/
def whGo (c : TDT) (b : TDS) (A : DEnds) : Nat → Ep → Prop
  | 0, _ => False
  | n + 1, ε => c ε fun k ε1 => onB k (b { nx := whGo c b A n, rt := A.rt, bk := A.nx, ct := whGo c b A n, xc := A.xc } ε1) (A.nx ε1)
def sWhile (c : TDT) (b : TDS) : TDS := fun A ε => ∃ n, whGo c b A n ε
theorem ds_while {c : Expr} {body : List Stmt} {tc : TDT} {tb : TDS} (hp : PassesOwn (model X.prog X.w) X.A X.env X.xe) (hc : DT X c tc) (hb : DSs X W body tb) : DS X W (.While c body [] pos) (sWhile tc tb) := ps_w (ps_while hp hc hb) fun D σ H ⟨c, G, ow, ε, A, R, ⟨n, h⟩, k1, k2, k3, k4, k5⟩ => by
  refine ⟨fun m σ' H' => ∃ G' ow' ε', Fr G H ow G' H' ow' ∧ Rep X.K c G' H' ow' σ' ε' ∧ whGo tc tb A m ε', ⟨n, G, ow, ε, Fr.refl _ _ _, R, h⟩, ?_⟩
  rintro m σ1 H1 ⟨G1, ow1, ε1, F1, R1, h1⟩
  cases m with
  | zero => exact h1.elim
  | succ m =>
    refine ⟨c, G1, ow1, ε1, _, R1, h1, fun b ε2 G2 H2 ow2 h2 F2 R2 => ?_⟩
    cases b with
    | true =>
      refine iteT ⟨fun σ' H' => ∃ G' ow' ε', Fr G H ow G' H' ow' ∧ Rep X.K c G' H' ow' σ' ε' ∧ whGo tc tb A m ε', fun σ' H' q => ⟨m, Nat.lt_succ_self m, q⟩, ?_⟩
      exact rds_fr R2 (F1.trans F2) h2 (fun ε' σ' G' H' ow' q F3 R3 => ⟨G', ow', ε', F3, R3, q⟩) k2 k1 (fun ε' σ' G' H' ow' q F3 R3 => ⟨G', ow', ε', F3, R3, q⟩) k5
    | false => exact iteF (k1 ε2 σ1 G2 H2 ow2 h2 (F1.trans F2) R2)
/-! ### for -/
def forGo (I : Ep → Prop) (g : TDG) (b : TDS) (A : DEnds) : List PyData → Ep → Prop
  | [], ε => I ε ∧ A.nx ε
  | x :: ds, ε => I ε ∧ g x ε fun ε1 => b { nx := forGo I g b A ds, rt := A.rt, bk := A.nx, ct := forGo I g b A ds, xc := A.xc } ε1
abbrev noI : Ep → Prop := fun _ => True
def sForL (t : TD) (g : TDG) (b : TDS) : TDS := fun A ε => t ε fun r ε1 => match frz ε1 r with
  | some (.list ds, ε2) => forGo noI g b A ds ε2
  | _ => False
def sForT (t : TD) (g : TDG) (b : TDS) : TDS := fun A ε => t ε fun r ε1 => match frz ε1 r with
  | some (.tuple ds, ε2) => forGo noI g b A ds ε2
  | _ => False
def rngD (lo : Int) (n : Nat) : List PyData := (List.range n).map fun i => .int (lo + ((i : Nat) : Int))
def sForR (t : TDA) (g : TDG) (b : TDS) : TDS := fun A ε => t ε fun rs ε1 => match peekAll ε1 rs with
  | some [.int j] => -(2 ^ 62) ≤ j ∧ j < 2 ^ 62 ∧ forGo noI g b A (rngD 0 j.toNat) ε1
  | _ => False
def sForR2 (t : TDA) (g : TDG) (b : TDS) : TDS := fun A ε => t ε fun rs ε1 => match peekAll ε1 rs with
  | some [.int i, .int j] => (-(2 ^ 62) ≤ i ∧ i < 2 ^ 62 ∧ -(2 ^ 62) ≤ j ∧ j < 2 ^ 62) ∧ forGo noI g b A (rngD i (j - i).toNat) ε1
  | _ => False
/-- the loop, whatever is walked: J goes along ds -/
theorem for_core {c : Ct} {G0 H0 : Hp} {ow0 : Ow} {G H : Hp} {ow : Ow} {σ : L2.St} {ε : Ep} {A : DEnds} {D : Ends} {J : It} {Ii : Ep → Prop} {g : TDG} {ws : List Nat} {tb : TDS} {ds : List PyData} (R : Rep K c G H ow σ ε) (F : Fr G0 H0 ow0 G H ow) (h : forGo Ii g tb A ds ε)
    (hgo : ∀ i x H' G' ow' σ' ε', ds[i]? = some x → Ii ε' → Fr G H ow G' H' ow' → Rep K c G' H' ow' σ' ε' → J.go i H' ∧ ∀ y H2, J.yld i H' y H2 → H2 = H' ∧ Dd K G' y x) (hst : ∀ H' G' ow' σ' ε', Ii ε' → Fr G H ow G' H' ow' → Rep K c G' H' ow' σ' ε' → J.stop ds.length H')
    (k1 : ∀ ε' σ' G' H' ow', A.nx ε' → Fr G0 H0 ow0 G' H' ow' → Rep K c G' H' ow' σ' ε' → D.nx σ' H')
    (k2 : ∀ r ε' σ' G' H' ow' v, A.rt r ε' → Fr G0 H0 ow0 G' H' ow' → Rep K c G' H' ow' σ' ε' → VOk K c.H0 G' H' ow' [] r v → D.rt v H')
    (k5 : ∀ nm ε' σ' G' H' ow', A.xc nm ε' → Fr G0 H0 ow0 G' H' ow' → Rep K c G' H' ow' σ' ε' → XW K Wx nm σ' H') :
    ∃ W : Nat → Nat → L2.St → Hp → Prop, (∃ m, W 0 m σ H) ∧ ∀ i m σ H, W i m σ H →
      (J.stop i H ∧ D.nx σ H) ∨ (J.go i H ∧ ∃ N : L2.St → Hp → Prop, (∀ σ' H', N σ' H' → ∃ m', m' < m ∧ W (i + 1) m' σ' H') ∧ ∀ x H', J.yld i H x H' → rdG K ws g x σ H' fun σ2 H2 => rdS K Wx tb { D with nx := N, ct := N, bk := D.nx } σ2 H2) := by
  refine ⟨fun i m σ' H' => m + i = ds.length ∧ ∃ G' ow' ε', Fr G H ow G' H' ow' ∧ Rep K c G' H' ow' σ' ε' ∧ forGo Ii g tb A (ds.drop i) ε', ⟨ds.length, rfl, G, ow, ε, Fr.refl _ _ _, R, h⟩, ?_⟩
  rintro i m σ1 H1 ⟨em, G1, ow1, ε1, F1, R1, h1⟩
  by_cases hi : i < ds.length
  · have hx : ds[i]? = some ds[i] := List.getElem?_eq_getElem hi
    rw [List.drop_eq_getElem_cons hi] at h1
    obtain ⟨hI, h1⟩ := h1
    obtain ⟨g1, g2⟩ := hgo i _ H1 G1 ow1 σ1 ε1 hx hI F1 R1
    refine .inr ⟨g1, fun σ' H' => (m - 1) + (i + 1) = ds.length ∧ ∃ G' ow' ε', Fr G H ow G' H' ow' ∧ Rep K c G' H' ow' σ' ε' ∧ forGo Ii g tb A (ds.drop (i + 1)) ε', fun σ' H' q => ⟨m - 1, by omega, q⟩, fun y H2 hy => ?_⟩
    obtain ⟨rfl, d⟩ := g2 y H2 hy
    refine ⟨c, G1, ow1, ε1, ds[i], _, R1, d, h1, fun ε2 σ2 G2 H2 ow2 q F2 R2 _ => ?_⟩
    exact rds_fr R2 (F1.trans F2) q (fun ε' σ' G' H' ow' z F3 R3 => ⟨by omega, G', ow', ε', F3, R3, z⟩) (fun r ε' σ' G' H' ow' v z F3 R3 V => k2 r ε' σ' G' H' ow' v z (F.trans F3) R3 V)
      (fun ε' σ' G' H' ow' z F3 R3 => k1 ε' σ' G' H' ow' z (F.trans F3) R3) (fun ε' σ' G' H' ow' z F3 R3 => ⟨by omega, G', ow', ε', F3, R3, z⟩) (fun nm ε' σ' G' H' ow' z F3 R3 => k5 nm ε' σ' G' H' ow' z (F.trans F3) R3)
  · have e : i = ds.length := by omega
    subst e
    rw [List.drop_length] at h1
    exact .inl ⟨hst H1 G1 ow1 σ1 ε1 h1.1 F1 R1, k1 ε1 σ1 G1 H1 ow1 h1.2 (F.trans F1) R1⟩
theorem ds_forL {iter tg : Expr} {body : List Stmt} {g : TDG} {ws : List Nat} {tb : TDS} (hp : PassesOwn (model X.prog X.w) X.A X.env X.xe) (hc : X.calm = true) (hi : DV X iter te) (hg : DG X tg ws g) (hb : DSs X W body tb) (hs : ∀ x, foldedSetIterable iter X.env x = pure x := by intro _; rfl) : DS X W (.For tg iter body [] pos) (sForL te g tb) :=
  ps_w (ps_for hp hc (pi_list hi) hg hb hs) fun D σ H ⟨c, G, ow, ε, A, R, h, k1, k2, k3, k4, k5⟩ => ⟨c, G, ow, ε, _, R, h, fun r ε1 G1 H1 ow1 v h1 F1 R1 V1 => by
    cases q : frz ε1 r with
    | none => simp only [q] at h1
    | some z =>
      obtain ⟨x, ε2⟩ := z
      obtain ⟨G2, F2, sg, R2, d⟩ := frz_ok F1 R1 V1 q
      cases x with
      | list ds =>
        simp only [q] at h1
        cases d with
        | lst hs ha =>
          rename_i a vs
          refine ⟨a, rfl, ⟨vs, R2.ex.seq hs⟩, for_core R2 F2 h1 (fun i x H' G' ow' σ' ε' hx _ f1 r1 => ?_) (fun H' G' ow' σ' ε' _ f1 r1 => ⟨vs, r1.ex.seq (f1.ex.seq hs), by rw [dpa_len ha]; exact Nat.le_refl _⟩) k1 k2 k5⟩
          obtain ⟨u, hu, du⟩ := dpa_get ha hx
          have hS : SqL X.K H' a vs := r1.ex.seq (f1.ex.seq hs)
          refine ⟨⟨vs, u, hS, hu⟩, fun y H2 hy => ⟨hy.1, ?_⟩⟩
          have e := hy.2 vs hS
          rw [hu] at e
          cases e
          exact dp_ex f1.ex _ du
      | _ => simp only [q] at h1⟩
theorem ds_forT {iter tg : Expr} {body : List Stmt} {g : TDG} {ws : List Nat} {tb : TDS} (hp : PassesOwn (model X.prog X.w) X.A X.env X.xe) (hc : X.calm = true) (hi : DV X iter te) (hg : DG X tg ws g) (hb : DSs X W body tb) (hs : ∀ x, foldedSetIterable iter X.env x = pure x := by intro _; rfl) : DS X W (.For tg iter body [] pos) (sForT te g tb) :=
  ps_w (ps_for hp hc (pi_tup hi) hg hb hs) fun D σ H ⟨c, G, ow, ε, A, R, h, k1, k2, k3, k4, k5⟩ => ⟨c, G, ow, ε, _, R, h, fun r ε1 G1 H1 ow1 v h1 F1 R1 V1 => by
    cases q : frz ε1 r with
    | none => simp only [q] at h1
    | some z =>
      obtain ⟨x, ε2⟩ := z
      obtain ⟨G2, F2, sg, R2, d⟩ := frz_ok F1 R1 V1 q
      cases x with
      | tuple ds =>
        simp only [q] at h1
        cases d with
        | tup hs ha =>
          rename_i a vs
          refine ⟨a, rfl, ⟨vs, seqT R2.ex hs⟩, for_core R2 F2 h1 (fun i x H' G' ow' σ' ε' hx _ f1 r1 => ?_) (fun H' G' ow' σ' ε' _ f1 r1 => ⟨vs, seqT r1.ex (seqT f1.ex hs), by rw [dpa_len ha]; exact Nat.le_refl _⟩) k1 k2 k5⟩
          obtain ⟨u, hu, du⟩ := dpa_get ha hx
          have hS : SqT X.K H' a vs := seqT r1.ex (seqT f1.ex hs)
          refine ⟨⟨vs, u, hS, hu⟩, fun y H2 hy => ⟨hy.1, ?_⟩⟩
          have e := hy.2 vs hS
          rw [hu] at e
          cases e
          exact dp_ex f1.ex _ du
      | _ => simp only [q] at h1⟩
theorem rngD_len (lo : Int) (n : Nat) : (rngD lo n).length = n := by simp [rngD]
theorem rngD_get {lo : Int} {n i : Nat} {x : PyData} (h : (rngD lo n)[i]? = some x) : i < n ∧ x = .int (lo + (i : Nat)) := by
  have hi : i < n := by
    have := (List.getElem?_eq_some_iff.mp h).1
    rw [rngD_len] at this
    exact this
  refine ⟨hi, ?_⟩
  unfold rngD at h
  rw [List.getElem?_map, List.getElem?_range hi] at h
  exact (Option.some.inj h).symm
theorem ds_forR {a tg : Expr} {body : List Stmt} {ta : TDA} {g : TDG} {ws : List Nat} {tb : TDS} {p pos' : Pos} (hp : PassesOwn (model X.prog X.w) X.A X.env X.xe) (hc : X.calm = true) (hgl : Gl X "range") (hm : X.mg "range" = none) (ha : DA X [a] ta) (hg : DG X tg ws g) (hb : DSs X W body tb)
    (hs : starEach [a] X.env = [(false, eval a X.env)] := by rfl) : DS X W (.For tg (.Call (.Name "range" p) [a] [] pos') body [] pos) (sForR ta g tb) :=
  ps_w (ps_for hp hc (pi_range1 hgl hm ha hs) hg hb) fun D σ H ⟨c, G, ow, ε, A, R, h, k1, k2, k3, k4, k5⟩ => ⟨c, G, ow, ε, _, R, h, fun rs ε1 G1 H1 ow1 vs h1 F1 R1 V1 => by
    cases q : peekAll ε1 rs with
    | none => simp only [q] at h1
    | some xs =>
      have P := peekAll_ok R1 V1 q
      match xs, P with
      | [.int j], .cons d .nil =>
        simp only [q] at h1
        refine ⟨j, by rw [Pk.int d], h1.1, h1.2.1, for_core R1 F1 h1.2.2 (fun i x H' G' ow' σ' ε' hx _ f1 r1 => ?_) (fun H' G' ow' σ' ε' _ f1 r1 => by rw [rngD_len]; exact Nat.le_refl _) k1 k2 k5⟩
        obtain ⟨z1, rfl⟩ := rngD_get hx
        exact ⟨z1, fun y H2 hy => ⟨hy.1, by rw [hy.2]; exact .int _⟩⟩
      | [], _ => simp only [q] at h1
      | .none :: _, _ => simp only [q] at h1
      | .bool _ :: _, _ => simp only [q] at h1
      | .str _ :: _, _ => simp only [q] at h1
      | .list _ :: _, _ => simp only [q] at h1
      | .tuple _ :: _, _ => simp only [q] at h1
      | .dict _ :: _, _ => simp only [q] at h1
      | .int _ :: _ :: _, _ => simp only [q] at h1⟩
theorem ds_forR2 {a b tg : Expr} {body : List Stmt} {ta : TDA} {g : TDG} {ws : List Nat} {tb : TDS} {p pos' : Pos} (hp : PassesOwn (model X.prog X.w) X.A X.env X.xe) (hc : X.calm = true) (hgl : Gl X "range") (hm : X.mg "range" = none) (ha : DA X [a, b] ta) (hg : DG X tg ws g) (hb : DSs X W body tb)
    (hs : starEach [a, b] X.env = [(false, eval a X.env), (false, eval b X.env)] := by rfl) (hs2 : starEach [b] X.env = [(false, eval b X.env)] := by rfl) : DS X W (.For tg (.Call (.Name "range" p) [a, b] [] pos') body [] pos) (sForR2 ta g tb) :=
  ps_w (ps_for hp hc (pi_range2 hgl hm ha hs hs2) hg hb) fun D σ H ⟨c, G, ow, ε, A, R, h, k1, k2, k3, k4, k5⟩ => ⟨c, G, ow, ε, _, R, h, fun rs ε1 G1 H1 ow1 vs h1 F1 R1 V1 => by
    cases q : peekAll ε1 rs with
    | none => simp only [q] at h1
    | some xs =>
      have P := peekAll_ok R1 V1 q
      have key : ∃ i j, xs = [.int i, .int j] := by
        rw [q] at h1
        split at h1
        · rename_i i j e
          exact ⟨i, j, Option.some.inj e⟩
        · exact h1.elim
      obtain ⟨i, j, rfl⟩ := key
      simp only [q] at h1
      match P with
      | .cons d (.cons d2 .nil) =>
        refine ⟨i, j, by rw [Pk.int d, Pk.int d2], h1.1, for_core R1 F1 h1.2 (fun i x H' G' ow' σ' ε' hx _ f1 r1 => ?_) (fun H' G' ow' σ' ε' _ f1 r1 => by rw [rngD_len]; exact Nat.le_refl _) k1 k2 k5⟩
        obtain ⟨z1, rfl⟩ := rngD_get hx
        exact ⟨z1, fun y H2 hy => ⟨hy.1, by rw [hy.2]; exact .int _⟩⟩⟩
end

/-! ### comprehensions -/
def dYes : TDT := fun ε A => A true ε
def lcGo (I : Ep → Prop) (g : TDG) (tt : TDT) (te : TD) (vs : List Nat) (A : List PyData → Ep → Prop) : List PyData → List PyData → Ep → Prop
  | [], acc, ε => I ε ∧ A acc ε
  | x :: ds, acc, ε => I ε ∧ g x ε fun ε1 => tt ε1 fun b ε2 => onB b (te ε2 fun r ε3 => match frz ε3 r with
      | some (y, ε4) => acc.length < 1000000 ∧ lcGo I g tt te vs A ds (acc ++ [y]) (wipeE ε4 vs)
      | none => False) (lcGo I g tt te vs A ds acc (wipeE ε2 vs))
def dLcL (t : TD) (g : TDG) (tt : TDT) (te : TD) (vs : List Nat) : TD := fun ε A => t ε fun r ε1 => match frz ε1 r with
  | some (.list ds, ε2) => lcGo noI g tt te vs (fun acc ε' => A (.new acc) (rstE ε2 ε' vs)) ds [] (wipeE ε2 vs)
  | _ => False
def dLcT (t : TD) (g : TDG) (tt : TDT) (te : TD) (vs : List Nat) : TD := fun ε A => t ε fun r ε1 => match frz ε1 r with
  | some (.tuple ds, ε2) => lcGo noI g tt te vs (fun acc ε' => A (.new acc) (rstE ε2 ε' vs)) ds [] (wipeE ε2 vs)
  | _ => False
def dLcR (t : TDA) (g : TDG) (tt : TDT) (te : TD) (vs : List Nat) : TD := fun ε A => t ε fun rs ε1 => match peekAll ε1 rs with
  | some [.int j] => -(2 ^ 62) ≤ j ∧ j < 2 ^ 62 ∧ lcGo noI g tt te vs (fun acc ε' => A (.new acc) (rstE ε1 ε' vs)) (rngD 0 j.toNat) [] (wipeE ε1 vs)
  | _ => False
section
variable {K : PySem.W.Frag}
theorem mut_tmp {c : Ct} {Gs Hs G H : Hp} {ows ow : Ow} {σ : L2.St} {ε : Ep} {D : Addr} {o : HO} (R : Rep K c G H ow σ ε) (F : Fr Gs Hs ows G H ow) (h0 : Hs D = none) (h1 : ow D = none) (h2 : G D = none) : Fr Gs Hs ows G (upd H D o) ow ∧ Rep K c G (upd H D o) ow σ ε := by
  refine ⟨⟨F.ex, fun a u z1 z2 => ?_, fun a z => ?_⟩, ⟨same_mut R.ex h2 o, fun a z => ?_, R.len, fun j s z => ?_⟩⟩
  · rw [upd_ne (ne_of_none z1 h0)]
    exact F.st a u z1 z2
  · by_cases ha : a = D
    · rw [ha]; exact h0
    · rw [upd_ne ha] at z
      exact F.dom a z
  · by_cases ha : a = D
    · rw [ha, upd_same] at z
      cases z
    · rw [upd_ne ha] at z
      exact R.dom a z
  · refine (R.sl j s z).grow (Same.refl G) fun q u z1 z2 z3 => ⟨z1, z2, ?_⟩
    rw [upd_ne (fun e => by rw [e, h1] at z1; cases z1)]
    exact z3
theorem lc_core {c : Ct} {G0 H0 : Hp} {ow0 : Ow} {G H : Hp} {ow : Ow} {σ : L2.St} {ε : Ep} {A : List PyData → Ep → Prop} {Q : VK} {J : It} {Ii : Ep → Prop} {g : TDG} {ws vs : List Nat} {tt : TDT} {te : TD} {ds : List PyData} (hws : ∀ j ∈ ws, j ∈ vs) (R : Rep K c G H ow σ ε) (F : Fr G0 H0 ow0 G H ow)
    (h : lcGo Ii g tt te vs A ds [] (wipeE ε vs))
    (hgo : ∀ i x H' G' ow' ε', ds[i]? = some x → Ii ε' → Fr G H ow G' H' ow' → Rep K c G' H' ow' (wipe σ vs) ε' → J.go i H' ∧ ∀ y H2, J.yld i H' y H2 → H2 = H' ∧ Dd K G' y x) (hst : ∀ H' G' ow' ε', Ii ε' → Fr G H ow G' H' ow' → Rep K c G' H' ow' (wipe σ vs) ε' → J.stop ds.length H')
    (kk : ∀ acc ε' G' H' ow' v, A acc ε' → Fr G0 H0 ow0 G' H' ow' → Rep K c G' H' ow' σ (rstE ε ε' vs) → VOk K H0 G' H' ow' σ (.new acc) v → Q v H') :
    ∀ D, H D = none → ∃ W : Nat → Nat → Hp → Prop, (∃ m, W 0 m (upd H D (.lst []))) ∧ ∀ i m H, W i m H →
      (J.stop i H ∧ Q (.ref D) H) ∨ (J.go i H ∧ ∃ Nx : Hp → Prop, (∀ H', Nx H' → ∃ m', m' < m ∧ W (i + 1) m' H') ∧ ∀ x H', J.yld i H x H' → rdG K ws g x (wipe σ vs) H' fun σ2 H2 => wipe σ2 vs = wipe σ vs ∧ rdT K tt σ2 H2 fun b H3 =>
        if b = true then rdV K te σ2 H3 fun y H4 => ∃ acc, H4 D = some (.lst acc) ∧ acc.length < sizeLine ∧ Nx (upd H4 D (.lst (acc ++ [y]))) else Nx H3) := by
  intro D hD
  have Rw := rep_wipe vs R
  obtain ⟨F1, R1, z1, z2⟩ := grow_new (o := .lst []) Rw hD
  refine ⟨fun i m H' => m + i = ds.length ∧ ∃ G' ow' ε' acc va, Fr G H ow G' H' ow' ∧ Rep K c G' H' ow' (wipe σ vs) ε' ∧ ow' D = none ∧ G' D = none ∧ H' D = some (.lst va) ∧ DdAll K G' va acc ∧ lcGo Ii g tt te vs A (ds.drop i) acc ε', ⟨ds.length, rfl, G, _, _, [], [], F1, R1, z1, z2, upd_same, .nil, h⟩, ?_⟩
  rintro i m H1 ⟨em, G1, ow1, ε1, acc, va, F1, R1, d1, d2, d3, d4, h1⟩
  by_cases hi : i < ds.length
  · have hx : ds[i]? = some ds[i] := List.getElem?_eq_getElem hi
    rw [List.drop_eq_getElem_cons hi] at h1
    obtain ⟨hI, h1⟩ := h1
    obtain ⟨g1, g2⟩ := hgo i _ H1 G1 ow1 ε1 hx hI F1 R1
    refine .inr ⟨g1, fun H' => (m - 1) + (i + 1) = ds.length ∧ ∃ G' ow' ε' acc va, Fr G H ow G' H' ow' ∧ Rep K c G' H' ow' (wipe σ vs) ε' ∧ ow' D = none ∧ G' D = none ∧ H' D = some (.lst va) ∧ DdAll K G' va acc ∧ lcGo Ii g tt te vs A (ds.drop (i + 1)) acc ε', fun H' q => ⟨m - 1, by omega, q⟩, fun y H2 hy => ?_⟩
    obtain ⟨rfl, d⟩ := g2 y H2 hy
    refine ⟨c, G1, ow1, ε1, ds[i], _, R1, d, h1, fun ε2 σ2 G2 H2 ow2 q F2 R2 W2 => ⟨?_, c, G2, ow2, ε2, _, R2, q, fun b ε3 G3 H3 ow3 q3 F3 R3 => ?_⟩⟩
    · have := W2 vs hws
      rw [this]
      apply List.ext_getElem?
      intro j
      by_cases hj : j ∈ vs
      · by_cases hl : j < σ.length
        · rw [wipe_in hj hl, wipe_in hj (by rw [wipe_length]; exact hl)]
        · rw [List.getElem?_eq_none (by rw [wipe_length, wipe_length]; omega), List.getElem?_eq_none (by rw [wipe_length]; omega)]
      · rw [wipe_out hj]
    · have ew : wipe σ2 vs = wipe σ vs := by
        have := W2 vs hws
        rw [this]
        apply List.ext_getElem?
        intro j
        by_cases hj : j ∈ vs
        · by_cases hl : j < σ.length
          · rw [wipe_in hj hl, wipe_in hj (by rw [wipe_length]; exact hl)]
          · rw [List.getElem?_eq_none (by rw [wipe_length, wipe_length]; omega), List.getElem?_eq_none (by rw [wipe_length]; omega)]
        · rw [wipe_out hj]
      have F13 := F2.trans F3
      obtain ⟨s1, s2, s3⟩ := F13.st D _ d3 d1
      cases b with
      | false =>
        refine iteF ⟨by omega, G3, ow3, _, acc, va, F1.trans F13, ?_, s2, s3 d2, s1, dpa_ex F13.ex _ d4, q3⟩
        rw [← ew]
        exact rep_wipe vs R3
      | true =>
        refine iteT ⟨c, G3, ow3, ε3, _, R3, q3, fun r ε4 G4 H4 ow4 v q4 F4 R4 V4 => ?_⟩
        cases qf : frz ε4 r with
        | none => simp only [qf] at q4
        | some z =>
          obtain ⟨y, ε5⟩ := z
          simp only [qf] at q4
          obtain ⟨G5, F5, sg, R5, dy⟩ := frz_ok F4 R4 V4 qf
          obtain ⟨t1, t2, t3⟩ := F5.st D _ s1 s2
          refine ⟨va, t1, ?_, by omega, ?_⟩
          · rw [dpa_len d4]
            exact line_lt q4.1
          · have Fa := (F1.trans F13).trans F5
            obtain ⟨Fb, Rb⟩ := mut_tmp (o := .lst (va ++ [v])) R5 Fa hD t2 (t3 (s3 d2))
            refine ⟨G5, ow4, _, acc ++ [y], va ++ [v], Fb, ?_, t2, t3 (s3 d2), upd_same, dpa_app (dpa_ex (F13.ex.trans F5.ex) _ d4) (dpa_one dy), q4.2⟩
            rw [← ew]
            exact rep_wipe vs Rb
  · have e : i = ds.length := by omega
    subst e
    rw [List.drop_length] at h1
    exact .inl ⟨hst H1 G1 ow1 ε1 h1.1 F1 R1, kk acc ε1 G1 H1 ow1 (.ref D) h1.2 (F.trans F1) (rep_rst R F1.ex R1) ⟨D, va, rfl, F.dom D hD, d1, d2, d3, d4⟩⟩
variable {t : TD} {ta : TDA} {g : TDG} {tt : TDT} {te : TD} {ws vs : List Nat} {σ : L2.St} {H : Hp} {Q : VK}
theorem lcL_rd (hws : ∀ j ∈ ws, j ∈ vs) (h : rdV K (dLcL t g tt te vs) σ H Q) : tLc (iList K (rdV K t)) (rdG K ws g) (rdT K tt) (rdV K te) vs σ H Q := by
  obtain ⟨c, G, ow, ε, A, R, h, kk⟩ := h
  refine ⟨c, G, ow, ε, _, R, h, fun r ε1 G1 H1 ow1 v h1 F1 R1 V1 => ?_⟩
  cases q : frz ε1 r with
  | none => simp only [q] at h1
  | some z =>
    obtain ⟨x, ε2⟩ := z
    obtain ⟨G2, F2, sg, R2, d⟩ := frz_ok F1 R1 V1 q
    cases x with
    | list ds =>
      simp only [q] at h1
      cases d with
      | lst hs ha =>
        rename_i a us
        refine ⟨a, rfl, ⟨us, R2.ex.seq hs⟩, lc_core hws R2 F2 h1 (fun i x H' G' ow' ε' hx _ f1 r1 => ?_) (fun H' G' ow' ε' _ f1 r1 => ⟨us, r1.ex.seq (f1.ex.seq hs), by rw [dpa_len ha]; exact Nat.le_refl _⟩) fun acc ε' G' H' ow' v q F R V => kk _ _ G' H' ow' v q F R V⟩
        obtain ⟨u, hu, du⟩ := dpa_get ha hx
        have hS : SqL K H' a us := r1.ex.seq (f1.ex.seq hs)
        refine ⟨⟨us, u, hS, hu⟩, fun y H2 hy => ⟨hy.1, ?_⟩⟩
        have e := hy.2 us hS
        rw [hu] at e
        cases e
        exact dp_ex f1.ex _ du
    | _ => simp only [q] at h1
theorem lcT_rd (hws : ∀ j ∈ ws, j ∈ vs) (h : rdV K (dLcT t g tt te vs) σ H Q) : tLc (iTup K (rdV K t)) (rdG K ws g) (rdT K tt) (rdV K te) vs σ H Q := by
  obtain ⟨c, G, ow, ε, A, R, h, kk⟩ := h
  refine ⟨c, G, ow, ε, _, R, h, fun r ε1 G1 H1 ow1 v h1 F1 R1 V1 => ?_⟩
  cases q : frz ε1 r with
  | none => simp only [q] at h1
  | some z =>
    obtain ⟨x, ε2⟩ := z
    obtain ⟨G2, F2, sg, R2, d⟩ := frz_ok F1 R1 V1 q
    cases x with
    | tuple ds =>
      simp only [q] at h1
      cases d with
      | tup hs ha =>
        rename_i a us
        refine ⟨a, rfl, ⟨us, seqT R2.ex hs⟩, lc_core hws R2 F2 h1 (fun i x H' G' ow' ε' hx _ f1 r1 => ?_) (fun H' G' ow' ε' _ f1 r1 => ⟨us, seqT r1.ex (seqT f1.ex hs), by rw [dpa_len ha]; exact Nat.le_refl _⟩) fun acc ε' G' H' ow' v q F R V => kk _ _ G' H' ow' v q F R V⟩
        obtain ⟨u, hu, du⟩ := dpa_get ha hx
        have hS : SqT K H' a us := seqT r1.ex (seqT f1.ex hs)
        refine ⟨⟨us, u, hS, hu⟩, fun y H2 hy => ⟨hy.1, ?_⟩⟩
        have e := hy.2 us hS
        rw [hu] at e
        cases e
        exact dp_ex f1.ex _ du
    | _ => simp only [q] at h1
theorem lcR_rd (hws : ∀ j ∈ ws, j ∈ vs) (h : rdV K (dLcR ta g tt te vs) σ H Q) : tLc (iRng1 (rdA K ta)) (rdG K ws g) (rdT K tt) (rdV K te) vs σ H Q := by
  obtain ⟨c, G, ow, ε, A, R, h, kk⟩ := h
  refine ⟨c, G, ow, ε, _, R, h, fun rs ε1 G1 H1 ow1 us h1 F1 R1 V1 => ?_⟩
  cases q : peekAll ε1 rs with
  | none => simp only [q] at h1
  | some xs =>
    have P := peekAll_ok R1 V1 q
    have key : ∃ j, xs = [.int j] := by
      rw [q] at h1
      split at h1
      · rename_i j e
        exact ⟨j, Option.some.inj e⟩
      · exact h1.elim
    obtain ⟨j, rfl⟩ := key
    simp only [q] at h1
    match P with
    | .cons d .nil =>
      refine ⟨j, by rw [Pk.int d], h1.1, h1.2.1, lc_core hws R1 F1 h1.2.2 (fun i x H' G' ow' ε' hx _ f1 r1 => ?_) (fun H' G' ow' ε' _ f1 r1 => by rw [rngD_len]; exact Nat.le_refl _) fun acc ε' G' H' ow' v q F R V => kk _ _ G' H' ow' v q F R V⟩
      obtain ⟨z1, rfl⟩ := rngD_get hx
      exact ⟨z1, fun y H2 hy => ⟨hy.1, by rw [hy.2]; exact .int _⟩⟩
end
section
variable {X : Cx} {elt tg iter : Expr} {ifs : List Expr} {scope : Scope} {own : List (Str × Nat)} {pos spos py : Pos} {t : TD} {ta : TDA} {g : TDG} {tt : TDT} {te : TD} {ws : List Nat} {i : Nat} {y : Str}
abbrev DTs (X : Cx) (ifs : List Expr) (t : TDT) : Prop := PTs X ifs (rdT X.K t)
theorem dts_nil : DTs X [] dYes := ⟨fun pins s σ H Q I ⟨c, G, ow, ε, A, R, h, kk⟩ => pts_nil.run pins s σ H Q I (kk true ε G H ow h (Fr.refl _ _ _) R)⟩
theorem dts_one {c : Expr} {t : TDT} (h : DT X c t) : DTs X [c] t := pts_one h
/-- what a comprehension's block asks: target, tests, element within the block -/
structure Blk (X : Cx) (tg : Expr) (ifs : List Expr) (elt : Expr) (scope : Scope) (own : List (Str × Nat)) (ws : List Nat) (g : TDG) (tt : TDT) (te : TD) : Prop where
  ok : BlkOk X.N X.env.scope scope own
  sub : ∀ j ∈ ws, j ∈ own.map (·.2)
  tgt : ∀ (s : Shared) (H : Hp) (C : Addr) (cl : List (Str × Addr)) (fp : List Addr), DG (X.blk s H scope (compEnvC scope cl C X.env) fp) tg ws g
  tst : ∀ (s : Shared) (H : Hp) (C : Addr) (cl : List (Str × Addr)) (fp : List Addr), DTs (X.blk s H scope (compEnvC scope cl C X.env) fp) ifs tt
  elt : ∀ (s : Shared) (H : Hp) (C : Addr) (cl : List (Str × Addr)) (fp : List Addr), DV (X.blk s H scope (compEnvC scope cl C X.env) fp) elt te
theorem dv_lcL (hc : X.calm = true) (hN : X.N.Nodup) (hi : DV X iter t) (b : Blk X tg ifs elt scope own ws g tt te) (hs : ∀ x, foldedSetIterable iter X.env x = pure x := by intro _; rfl) : DV X (.ListComp elt [⟨tg, iter, ifs, 0⟩] scope pos) (dLcL t g tt te (own.map (·.2))) :=
  pe_w (pe_lc hc hN (pi_list hi) b.ok b.tgt b.tst b.elt hs) fun _ _ _ h => lcL_rd b.sub h
theorem dv_lcT (hc : X.calm = true) (hN : X.N.Nodup) (hi : DV X iter t) (b : Blk X tg ifs elt scope own ws g tt te) (hs : ∀ x, foldedSetIterable iter X.env x = pure x := by intro _; rfl) : DV X (.ListComp elt [⟨tg, iter, ifs, 0⟩] scope pos) (dLcT t g tt te (own.map (·.2))) :=
  pe_w (pe_lc hc hN (pi_tup hi) b.ok b.tgt b.tst b.elt hs) fun _ _ _ h => lcT_rd b.sub h
theorem dv_lcR {a : Expr} {p pos' : Pos} (hc : X.calm = true) (hN : X.N.Nodup) (hgl : Gl X "range") (hm : X.mg "range" = none) (ha : DA X [a] ta) (b : Blk X tg ifs elt scope own ws g tt te) (hs : starEach [a] X.env = [(false, eval a X.env)] := by rfl) :
    DV X (.ListComp elt [⟨tg, .Call (.Name "range" p) [a] [] pos', ifs, 0⟩] scope pos) (dLcR ta g tt te (own.map (·.2))) :=
  pe_w (pe_lc hc hN (pi_range1 hgl hm ha hs) b.ok b.tgt b.tst b.elt) fun _ _ _ h => lcR_rd b.sub h
theorem setlc_rd {K : PySem.W.Frag} {td : TD} {tl : TE} {σ : L2.St} {H : Hp} {D : Ends} (hr : ∀ Q : VK, rdV K td σ H Q → tl σ H Q) (hlen : i < σ.length) (h : rdS K W (sSet i td) D σ H) : tAsg tl (gName i) D σ H := by
  obtain ⟨c, G, ow, ε, A, R, h, k1, k2, k3, k4, k5⟩ := h
  refine hr _ ⟨c, G, ow, ε, _, R, h, fun r ε1 G1 H1 ow1 v h1 F1 R1 V1 => ?_⟩
  cases q : slOf ε1 r with
  | none => simp only [q] at h1
  | some z =>
    obtain ⟨s, ε2⟩ := z
    simp only [q] at h1
    obtain ⟨G2, ow2, F2, R2⟩ := store_sl F1 R.dom R1 V1 (by rw [← R1.len]; exact hlen) q
    exact k1 _ _ G2 H1 ow2 h1 F2 R2
theorem ds_lcL (hc : X.calm = true) (hN : X.N.Nodup) (hy : X.N[i]? = some y) (hyl : X.env.scope.names.lookup y = some .local) (hsw : swapsWith (.ListComp elt [⟨tg, iter, ifs, 0⟩] scope pos) (some (.Name y py)) spos.line X.env = pure true)
    (hi : DV X iter t) (b : Blk X tg ifs elt scope own ws g tt te) (hs : ∀ x, foldedSetIterable iter X.env x = pure x := by intro _; rfl) : DS X W (.Assign [.Name y py] (.ListComp elt [⟨tg, iter, ifs, 0⟩] scope pos) spos) (sSet i (dLcL t g tt te (own.map (·.2)))) :=
  ps_wl (ps_setLc hc hN hy hyl hsw (pi_list hi) b.ok b.tgt b.tst b.elt hs) fun _ _ _ hl h => setlc_rd (fun _ => lcL_rd b.sub) (by rw [hl]; exact (List.getElem?_eq_some_iff.mp hy).1) h
theorem ds_lcT (hc : X.calm = true) (hN : X.N.Nodup) (hy : X.N[i]? = some y) (hyl : X.env.scope.names.lookup y = some .local) (hsw : swapsWith (.ListComp elt [⟨tg, iter, ifs, 0⟩] scope pos) (some (.Name y py)) spos.line X.env = pure true)
    (hi : DV X iter t) (b : Blk X tg ifs elt scope own ws g tt te) (hs : ∀ x, foldedSetIterable iter X.env x = pure x := by intro _; rfl) : DS X W (.Assign [.Name y py] (.ListComp elt [⟨tg, iter, ifs, 0⟩] scope pos) spos) (sSet i (dLcT t g tt te (own.map (·.2)))) :=
  ps_wl (ps_setLc hc hN hy hyl hsw (pi_tup hi) b.ok b.tgt b.tst b.elt hs) fun _ _ _ hl h => setlc_rd (fun _ => lcT_rd b.sub) (by rw [hl]; exact (List.getElem?_eq_some_iff.mp hy).1) h
theorem ds_lcR {a : Expr} {p pos' : Pos} (hc : X.calm = true) (hN : X.N.Nodup) (hy : X.N[i]? = some y) (hyl : X.env.scope.names.lookup y = some .local) (hsw : swapsWith (.ListComp elt [⟨tg, .Call (.Name "range" p) [a] [] pos', ifs, 0⟩] scope pos) (some (.Name y py)) spos.line X.env = pure true)
    (hgl : Gl X "range") (hm : X.mg "range" = none) (ha : DA X [a] ta) (b : Blk X tg ifs elt scope own ws g tt te) (hs : starEach [a] X.env = [(false, eval a X.env)] := by rfl) : DS X W (.Assign [.Name y py] (.ListComp elt [⟨tg, .Call (.Name "range" p) [a] [] pos', ifs, 0⟩] scope pos) spos) (sSet i (dLcR ta g tt te (own.map (·.2)))) :=
  ps_wl (ps_setLc hc hN hy hyl hsw (pi_range1 hgl hm ha hs) b.ok b.tgt b.tst b.elt) fun _ _ _ hl h => setlc_rd (fun _ => lcR_rd b.sub) (by rw [hl]; exact (List.getElem?_eq_some_iff.mp hy).1) h
end

/-! ### a list of the def's own is walked, left as it is -/
def sForB (j : Nat) (g : TDG) (b : TDS) : TDS := fun A ε => match look ε j with
  | .lst fr xs => forGo (fun ε' => look ε' j = .lst fr xs) g b { nx := A.nx, rt := A.rt, bk := A.bk, ct := A.ct, xc := A.xc } xs ε
  | _ => False
def dLcB (j : Nat) (g : TDG) (tt : TDT) (te : TD) (vs : List Nat) : TD := fun ε A => match look ε j with
  | .lst fr xs => lcGo (fun ε' => look ε' j = .lst fr xs) g tt te vs (fun acc ε' => A (.new acc) (rstE ε ε' vs)) xs [] (wipeE ε vs)
  | _ => False
section
variable {K : PySem.W.Frag} {t : TD} {g : TDG} {tt : TDT} {te : TD} {ws vs : List Nat} {σ : L2.St} {H : Hp} {Q : VK} {j : Nat}
theorem lcB_rd (hws : ∀ j ∈ ws, j ∈ vs) (h : rdV K (dLcB j g tt te vs) σ H Q) : tLc (iList K (tVar j)) (rdG K ws g) (rdT K tt) (rdV K te) vs σ H Q := by
  obtain ⟨c, G, ow, ε, A, R, h, kk⟩ := h
  unfold dLcB at h
  cases hl : look ε j with
  | un => simp only [hl] at h
  | d _ => simp only [hl] at h
  | dct _ _ => simp only [hl] at h
  | v _ => simp only [hl] at h
  | nt _ _ => simp only [hl] at h
  | al _ _ _ => simp only [hl] at h
  | ex _ => simp only [hl] at h
  | lst fr xs =>
    simp only [hl] at h
    obtain ⟨o, ho⟩ := R.some_at (i := j) (by rw [hl]; exact fun z => nomatch z)
    have q0 := R.at ho
    rw [hl] at q0
    obtain ⟨p, us, rfl, _, _, hp, ha, _⟩ := q0
    have at_ : ∀ H' G' ow' ε', look ε' j = .lst fr xs → Rep K c G' H' ow' (wipe σ vs) ε' → ∃ us, SqL K H' p us ∧ DdAll K G' us xs := fun H' G' ow' ε' e r => by
      obtain ⟨o', ho'⟩ := r.some_at (i := j) (by rw [e]; exact fun z => nomatch z)
      have q := r.at ho'
      rw [e] at q
      obtain ⟨p', us', rfl, _, _, h3, h4, _⟩ := q
      have e2 := (wipe_some ho').1
      rw [ho] at e2
      cases e2
      exact ⟨us', .inl (.inl h3), h4⟩
    refine ⟨.ref p, ho, p, rfl, ⟨us, .inl (.inl hp)⟩, lc_core hws R (Fr.refl _ _ _) h (fun i x H' G' ow' ε' hx hI f1 r1 => ?_) (fun H' G' ow' ε' hI f1 r1 => ?_) fun acc ε' G' H' ow' v q F R V => kk _ _ G' H' ow' v q F R V⟩
    · obtain ⟨us2, hS, ha2⟩ := at_ H' G' ow' ε' hI r1
      obtain ⟨u, hu, du⟩ := dpa_get ha2 hx
      refine ⟨⟨us2, u, hS, hu⟩, fun y H2 hy => ⟨hy.1, ?_⟩⟩
      have e := hy.2 us2 hS
      rw [hu] at e
      cases e
      exact du
    · obtain ⟨us2, hS, ha2⟩ := at_ H' G' ow' ε' hI r1
      exact ⟨us2, hS, by rw [dpa_len ha2]; exact Nat.le_refl _⟩
end
section
variable {X : Cx} {elt tg : Expr} {ifs : List Expr} {scope : Scope} {own : List (Str × Nat)} {pos spos py pz : Pos} {g : TDG} {tt : TDT} {te : TD} {ws : List Nat} {i : Nat} {y z : Str}
theorem dv_lcB (j : Nat) (hc : X.calm = true) (hN : X.N.Nodup) (b : Blk X tg ifs elt scope own ws g tt te) (hz : X.N[j]? = some z := by rfl) (hv : Vis X.env.scope z := by first | exact Or.inl rfl | exact Or.inr (Or.inl rfl) | exact Or.inr (Or.inr rfl)) (hd : (z == ("__debug__" : Str)) = false := by decide)
    (hcd : (z == ("__classdict__" : Str)) = false := by decide) (hs : ∀ x, foldedSetIterable (.Name z pz) X.env x = pure x := by intro _; rfl) : DV X (.ListComp elt [⟨tg, .Name z pz, ifs, 0⟩] scope pos) (dLcB j g tt te (own.map (·.2))) :=
  pe_w (pe_lc hc hN (pi_list (pe_var hz hv hd hcd)) b.ok b.tgt b.tst b.elt hs) fun _ _ _ h => lcB_rd b.sub h
theorem ds_lcB (j : Nat) (hc : X.calm = true) (hN : X.N.Nodup) (hy : X.N[i]? = some y) (hyl : X.env.scope.names.lookup y = some .local) (hsw : swapsWith (.ListComp elt [⟨tg, .Name z pz, ifs, 0⟩] scope pos) (some (.Name y py)) spos.line X.env = pure true)
    (b : Blk X tg ifs elt scope own ws g tt te) (hz : X.N[j]? = some z := by rfl) (hv : Vis X.env.scope z := by first | exact Or.inl rfl | exact Or.inr (Or.inl rfl) | exact Or.inr (Or.inr rfl)) (hd : (z == ("__debug__" : Str)) = false := by decide)
    (hcd : (z == ("__classdict__" : Str)) = false := by decide) (hs : ∀ x, foldedSetIterable (.Name z pz) X.env x = pure x := by intro _; rfl) : DS X W (.Assign [.Name y py] (.ListComp elt [⟨tg, .Name z pz, ifs, 0⟩] scope pos) spos) (sSet i (dLcB j g tt te (own.map (·.2)))) :=
  ps_wl (ps_setLc hc hN hy hyl hsw (pi_list (pe_var hz hv hd hcd)) b.ok b.tgt b.tst b.elt hs) fun _ _ _ hl h => setlc_rd (fun _ => lcB_rd b.sub) (by rw [hl]; exact (List.getElem?_eq_some_iff.mp hy).1) h
end
/-! ### a def's promise over data -/
abbrev DSp := List Sl → (Vl → List Sl → Prop) → Prop
def runS (S : DSp) (qs : List Sl) (k : Vl → List Sl → Prop) : Prop := S qs k
def spD (K : PySem.W.Frag) (n : Nat) (S : DSp) : Sp := fun vs H Q _ => ∃ (c : Ct) (G : Hp) (ow : Ow) (ps : List Sl) (A : Vl → List Sl → Prop), c.H0 = H ∧ Rep K c G H ow (vs.map some) ps ∧ ps.length = n ∧ (∀ i p, c.par i = some p → vs[i]? = some (.ref p)) ∧ S ps A ∧
  ∀ r ps' v G' H' ow', A r ps' → Fr G H ow G' H' ow' → Rep K c G' H' ow' (vs.map some) ps' → VOk K H G' H' ow' [] r v → Q v H'
def finS : Sl → Sl
  | .lst false xs => .lst false xs
  | .dct false kvs => .dct false kvs
  | .nt false t => .nt false t
  | _ => .un
def fin : Nat → Ep → List Sl
  | 0, _ => []
  | n + 1, [] => .un :: fin n []
  | n + 1, s :: ε => finS s :: fin n ε
theorem fin_length : ∀ (n : Nat) (ε : Ep), (fin n ε).length = n
  | 0, _ => rfl
  | n + 1, [] => congrArg (· + 1) (fin_length n [])
  | n + 1, _ :: ε => congrArg (· + 1) (fin_length n ε)
theorem look_fin : ∀ {n : Nat} {ε : Ep} {i : Nat}, i < n → look (fin n ε) i = finS (look ε i)
  | 0, _, _, h => absurd h (Nat.not_lt_zero _)
  | _ + 1, [], 0, _ => rfl
  | n + 1, [], i + 1, h => look_fin (n := n) (ε := []) (Nat.lt_of_succ_lt_succ h)
  | _ + 1, _ :: _, 0, _ => rfl
  | n + 1, _ :: r, i + 1, h => look_fin (n := n) (ε := r) (Nat.lt_of_succ_lt_succ h)
theorem look_app : ∀ {a b : Ep} {i : Nat}, i < a.length → look (a ++ b) i = look a i
  | [], _, _, h => absurd h (Nat.not_lt_zero _)
  | _ :: _, _, 0, _ => rfl
  | _ :: r, b, i + 1, h => look_app (a := r) (b := b) (Nat.lt_of_succ_lt_succ h)
theorem look_app2 : ∀ {a b : Ep} {i : Nat}, a.length ≤ i → look (a ++ b) i = look b (i - a.length)
  | [], _, _, _ => rfl
  | _ :: _, _, 0, h => absurd h (Nat.not_succ_le_zero _)
  | _ :: r, b, i + 1, h => by
    show look (r ++ b) i = look b (i + 1 - (r.length + 1))
    rw [look_app2 (Nat.le_of_succ_le_succ h), Nat.add_sub_add_right]
def uns (n : Nat) : Ep := List.replicate n .un
theorem look_uns : ∀ (n i : Nat), look (uns n) i = .un
  | 0, _ => rfl
  | _ + 1, 0 => rfl
  | n + 1, i + 1 => look_uns n i
section
variable {P : Program} {w : World} {K : PySem.W.Frag} {mg : Str → Option Value} {base : Heap}
theorem rep_start {c : Ct} {G H : Hp} {ow : Ow} {vs : List V} {ps : List Sl} {N : List Str} (R : Rep K c G H ow (vs.map some) ps) (hN : vs.length ≤ N.length) : Rep K c G H ow (L2.start N vs) (ps ++ uns (N.length - vs.length)) := by
  have hl : vs.length = ps.length := by
    have := R.len
    rw [List.length_map] at this
    exact this
  refine ⟨R.ex, R.dom, ?_, fun j o z => ?_⟩
  · simp [L2.start, uns, hl]
  · by_cases hj : j < vs.length
    · unfold L2.start at z
      rw [List.getElem?_append_left (by simpa using hj)] at z
      rw [look_app (by omega)]
      exact R.sl j o z
    · rw [look_app2 (by omega), look_uns]
      trivial
theorem rep_end {c : Ct} {G H : Hp} {ow : Ow} {vs : List V} {n : Nat} {σ : L2.St} {ε : Ep} (hn : vs.length = n) (hp : ∀ i p, c.par i = some p → vs[i]? = some (.ref p)) (R : Rep K c G H ow σ ε) : Rep K c G H ow (vs.map some) (fin n ε) := by
  refine ⟨R.ex, R.dom, by rw [fin_length, List.length_map, hn], fun j o z => ?_⟩
  have hj : j < n := by
    have := (List.getElem?_eq_some_iff.mp z).1
    rw [List.length_map, hn] at this
    exact this
  rw [look_fin hj]
  cases hs : look ε j with
  | lst fr xs =>
    cases fr with
    | true => trivial
    | false =>
      obtain ⟨o', ho⟩ := R.some_at (i := j) (by rw [hs]; exact fun z => nomatch z)
      have q := R.at ho
      rw [hs] at q
      obtain ⟨p, us, e, h1, h2, h3, h4, h5, h6⟩ := q
      have hv := hp j p (h6 rfl)
      rw [List.getElem?_map, hv] at z
      cases z
      exact ⟨p, us, rfl, h1, h2, h3, h4, h5, h6⟩
  | un => trivial
  | d _ => trivial
  | dct fr kvs =>
    cases fr with
    | true => trivial
    | false =>
      obtain ⟨o', ho⟩ := R.some_at (i := j) (by rw [hs]; exact fun z => nomatch z)
      have q := R.at ho
      rw [hs] at q
      obtain ⟨p, us, e, h1, h2, h3, h4, h5, h6⟩ := q
      have hv := hp j p (h6 rfl)
      rw [List.getElem?_map, hv] at z
      cases z
      exact ⟨p, us, rfl, h1, h2, h3, h4, h5, h6⟩
  | nt fr t =>
    cases fr with
    | true => trivial
    | false =>
      obtain ⟨o', ho⟩ := R.some_at (i := j) (by rw [hs]; exact fun z => nomatch z)
      have q := R.at ho
      rw [hs] at q
      obtain ⟨v, e, h1, h2, h3, h4, h5⟩ := q
      obtain ⟨⟨p, e1, e2⟩, h6⟩ := h5 rfl
      have hv := hp j p e2
      rw [List.getElem?_map, hv] at z
      cases z
      subst e1
      exact ⟨_, rfl, h1, h2, h3, h4, h5⟩
  | v _ => trivial
  | al _ _ _ => trivial
  | ex _ => trivial
/-- THE RULE for a def over data -/
theorem fnD {x qual : Str} {st : Stmt} {f : Addr} {fd : FuncData} {N ps : List Str} {k n : Nat} {S : DSp} (F : Fun K x qual st f fd) (sc : FnScope N ps (defScope st)) (hn : ps.length = n) (t : TDS)
    (hbody : ∀ (cdv : Value) (A : Around) (outer : List Env) (s : Shared) (H : Hp) (E : XK), Room k (A.deeper (envOfC qual (defScope st) s.heap.objs.size f cdv)) → DSs (cxOf CX0 P w K mg base N qual (defScope st) f cdv A outer s H E).nox noW (defBody st) t)
    (h : ∀ (qs : List Sl) (A : Vl → List Sl → Prop), qs.length = n → S qs A → t { nx := fun ε => A (.d .none) (fin n ε), rt := fun r ε => A r (fin n ε) } (qs ++ uns (N.length - n))) : FnOk P w K mg base CX0 (k + 1) f fd ps (spD K n S) := by
  have hNl : n ≤ N.length := by
    have := congrArg List.length sc.pre
    rw [List.length_take] at this
    omega
  have vl : ∀ {c : Ct} {G H : Hp} {ow : Ow} {vs : List V} {qs : List Sl}, Rep K c G H ow (vs.map some) qs → qs.length = n → vs.length = n := fun {c G H ow vs qs} R e => by
    have := R.len
    rw [List.length_map] at this
    omega
  refine F.ok sc (fun vs H Q E q => ?_) (fun cdv A outer s H vs Q E hr q => ?_)
  · obtain ⟨c, G, ow, qs, B, e, R, hl, hp, hS, kk⟩ := q
    exact (vl R hl).trans hn.symm
  · obtain ⟨c, G, ow, qs, B, e, R, hl, hp, hS, kk⟩ := q
    have hv := vl R hl
    have R1 := rep_start (N := N) R (by rw [hv]; exact hNl)
    rw [hv] at R1
    refine ⟨_, hbody cdv A outer s H E hr, c, G, ow, _, _, R1, h qs B hl hS, fun ε' σ' G' H' ow' z F1 R2 => kk _ _ .non G' H' ow' z F1 (rep_end hv hp R2) .non,
      fun r ε' σ' G' H' ow' v z F1 R2 V2 => kk _ _ v G' H' ow' z F1 (rep_end hv hp R2) (by rw [e] at V2; exact V2), fun ε' σ' G' H' ow' z F1 R2 => z.elim, fun ε' σ' G' H' ow' z F1 R2 => z.elim, fun nm ε' σ' G' H' ow' z F1 R2 => z.elim⟩
end
/-! ### calls -/
def dCall (S : DSp) (t : TDF) : TD := fun ε A => t ε fun ds ε1 => runS S (ds.map .d) fun r _ => A r ε1
/-- the first argument a list of the def's own, handed in to be changed -/
def dCallS (j : Nat) (S : DSp) (t : TDF) : TD := fun ε A => match look ε j with
  | .lst _ _ => t ε fun ds ε1 => match look ε1 j with
    | .lst fr xs => runS S (.lst false xs :: ds.map .d) fun r ps => match ps with
      | .lst false ys :: _ => A r (put ε1 j (.lst fr ys))
      | _ => False
    | _ => False
  | _ => False
section
variable {X : Cx} {k n : Nat} {f : Addr} {fd : FuncData} {ps : List Str} {S : DSp} {x : Str} {p pos : Pos} {e : Expr} {es : List Expr} {t : TDF} {K : PySem.W.Frag}
theorem look_mapd : ∀ (ds : List PyData) (i : Nat), (∃ d, ds[i]? = some d ∧ look (ds.map Sl.d) i = .d d) ∨ look (ds.map Sl.d) i = .un
  | [], _ => .inr rfl
  | d :: _, 0 => .inl ⟨d, rfl, rfl⟩
  | _ :: r, i + 1 => by
    rcases look_mapd r i with ⟨d, h1, h2⟩ | h
    · exact .inl ⟨d, by simpa using h1, h2⟩
    · exact .inr h
open Classical in
def owAt (H : Hp) (ow : Ow) : Ow := fun a => if H a = none then none else ow a
theorem owAt_some {H : Hp} {ow : Ow} {a : Addr} {o : HO} (h : H a = some o) : owAt H ow a = ow a := by unfold owAt; rw [if_neg (by rw [h]; exact fun z => nomatch z)]
theorem owAt_none {H : Hp} {ow : Ow} {a : Addr} (h : H a = none) : owAt H ow a = none := by unfold owAt; rw [if_pos h]
theorem dcall_rd {σ : L2.St} {H : Hp} {Q : VK} {E : XK} (hS : ∀ ps A, S ps A → ps.length = n) (h : rdV K (dCall S t) σ H Q) : tCall (spD K n S) [] E (rdF K t) σ H Q := by
  obtain ⟨c, G, ow, ε, A, R, h, kk⟩ := h
  refine ⟨c, G, ow, ε, _, R, h, fun ds ε1 G1 H1 ow1 vs h1 F1 R1 V1 => ?_⟩
  show spD K n S (vs ++ []) H1 Q E
  rw [List.append_nil]
  refine ⟨⟨H1, fun _ => none, fun _ => none⟩, G1, fun _ => none, ds.map .d, _, rfl, ⟨R1.ex, fun a z => z, by rw [List.length_map, List.length_map]; exact dpa_len V1, fun j o z => ?_⟩, hS _ _ h1, (fun i p z => by cases (show (none : Option Addr) = some p from z)), h1, fun r ps' v G2 H2 ow2 q F2 R2 V2 => ?_⟩
  · rcases look_mapd ds j with ⟨d, e1, e2⟩ | e2
    · rw [e2]
      obtain ⟨v, hv, hd⟩ := dpa_get V1 e1
      rw [List.getElem?_map, hv] at z
      cases z
      exact ⟨v, rfl, hd⟩
    · rw [e2]
      trivial
  · have F3 : Fr G1 H1 ow1 G2 H2 (owAt H1 ow1) := ⟨F2.ex, fun a o z1 z2 => by
      obtain ⟨q1, q2, q3⟩ := F2.st a o z1 rfl
      rw [owAt_some z1]
      exact ⟨q1, z2, q3⟩, F2.dom⟩
    have R3 : Rep K c G2 H2 (owAt H1 ow1) σ ε1 := ⟨R2.ex, fun a z => R1.dom a (F2.dom a z), R1.len, fun j o z => (R1.sl j o z).grow F2.ex fun p u z1 z2 z3 => by
      obtain ⟨q1, q2, q3⟩ := F2.st p u z3 rfl
      rw [owAt_some z3]
      exact ⟨z1, q3 z2, q1⟩⟩
    refine kk r ε1 G2 H2 _ v q (F1.trans F3) R3 ?_
    cases r with
    | d x => exact V2
    | v x => exact V2
    | bor i => exact nomatch (show ([] : L2.St)[i]? = some (some v) from V2)
    | new xs =>
      obtain ⟨p, us, e, h1, h2, h3, h4, h5⟩ := V2
      exact ⟨p, us, e, F1.dom p h1, owAt_none h1, h3, h4, h5⟩
    | dk _ =>
      obtain ⟨p, us, e, h1, h2, h3, h4, h5⟩ := V2
      exact ⟨p, us, e, F1.dom p h1, owAt_none h1, h3, h4, h5⟩
    | bp _ _ _ => exact V2
    | ex _ => exact V2
    | nt t => exact ⟨V2.1, V2.2.1, fun a ha => ⟨F1.dom a (V2.2.2 a ha).1, owAt_none (V2.2.2 a ha).1⟩⟩
theorem dv_call (F : FnOk X.prog X.w X.K X.mg X.base CX0 k f fd ps (spD X.K n S)) (hS : ∀ ps A, S ps A → ps.length = n) (hr : Room k X.A) (hg : Gl X x) (hm : X.mg x = some (.ref f)) (hk : PySem.W.keepIn X.K (.ref f) = true) (hb : Binds X.K fd ps [])
    (ha : DF X (e :: es) t) (hdb : (x == ("__debug__" : Str)) = false := by decide) (he : starEach (e :: es) X.env = (false, eval e X.env) :: starEach es X.env := by rfl) (hpl : (backTo pos (starEach es X.env)).any (·.1) = false := by rfl) :
    DV X (.Call (.Name x p) (e :: es) [] pos) (dCall S t) := pe_w (pe_call F hr hg hm hk hb .nil pass0 ha hdb he hpl) fun _ _ _ h => dcall_rd (E := E0) hS h
theorem dcallS_rd {j : Nat} {σ : L2.St} {H : Hp} {Q : VK} {E : XK} (hS : ∀ ps A, S ps A → ps.length = n) (h : rdV K (dCallS j S t) σ H Q) : tCall (spD K n S) [] E (tCons (tVar j) (rdF K t)) σ H Q := by
  obtain ⟨c, G, ow, ε, A, R, h, kk⟩ := h
  unfold dCallS at h
  cases hl : look ε j with
  | un => simp only [hl] at h
  | d _ => simp only [hl] at h
  | dct _ _ => simp only [hl] at h
  | v _ => simp only [hl] at h
  | nt _ _ => simp only [hl] at h
  | al _ _ _ => simp only [hl] at h
  | ex _ => simp only [hl] at h
  | lst fr0 xs0 =>
    simp only [hl] at h
    obtain ⟨o, ho⟩ := R.some_at (i := j) (by rw [hl]; exact fun z => nomatch z)
    have q0 := R.at ho
    rw [hl] at q0
    obtain ⟨p, vs0, rfl, _⟩ := q0
    refine ⟨.ref p, ho, c, G, ow, ε, _, R, h, fun ds ε1 G1 H1 ow1 vs h1 F1 R1 V1 => ?_⟩
    cases hl1 : look ε1 j with
    | un => simp only [hl1] at h1
    | d _ => simp only [hl1] at h1
    | dct _ _ => simp only [hl1] at h1
    | v _ => simp only [hl1] at h1
    | nt _ _ => simp only [hl1] at h1
    | al _ _ _ => simp only [hl1] at h1
    | ex _ => simp only [hl1] at h1
    | lst fr xs =>
      simp only [hl1] at h1
      have q1 := R1.at ho
      rw [hl1] at q1
      obtain ⟨p', us, e1, o1, o2, o3, o4, o5⟩ := q1
      cases e1
      show spD K n S (.ref p :: vs ++ []) H1 Q E
      rw [List.append_nil]
      have hj : j < ε1.length := look_lt (by rw [hl1]; exact fun z => nomatch z)
      refine ⟨⟨H1, fun _ => none, fun i => if i = 0 then some p else none⟩, G1, fun a => if a = p then some 0 else none, .lst false xs :: ds.map .d, _, rfl, ⟨R1.ex, fun a z => z, ?_, fun i o z => ?_⟩, hS _ _ h1, fun i p' z => ?_, h1, fun r ps' v G2 H2 ow2 q F2 R2 V2 => ?_⟩
      · simp [dpa_len V1]
      · cases i with
        | zero =>
          cases z
          exact ⟨p, us, rfl, if_pos rfl, o2, o3, o4, fun z => Bool.noConfusion z, fun _ => rfl⟩
        | succ i =>
          show SlOk _ _ _ _ _ _ (look (ds.map .d) i) o
          rcases look_mapd ds i with ⟨d, e1, e2⟩ | e2
          · rw [e2]
            obtain ⟨v, hv, hd⟩ := dpa_get V1 e1
            have z : (vs.map some)[i]? = some o := by simpa using z
            rw [List.getElem?_map, hv] at z
            cases z
            exact ⟨v, rfl, hd⟩
          · rw [e2]
            trivial
      · have z : (if i = 0 then some p else none) = some p' := z
        split at z
        · rename_i h0
          subst h0
          cases z
          rfl
        · cases z
      · have hps : ∃ ys r', ps' = .lst false ys :: r' := by
          split at q
          · exact ⟨_, _, rfl⟩
          · exact q.elim
        obtain ⟨ys, r', rfl⟩ := hps
        have q2 := R2.sl 0 (some (.ref p)) rfl
        obtain ⟨p2, ws, e2, w1, w2, w3, w4, _⟩ := (show SlOk _ _ _ _ _ _ (.lst false ys) (some (.ref p)) from q2)
        cases e2
        have ne : ∀ a, ow1 a = none → a ≠ p := fun a z e => by
          rw [e, o1] at z
          cases z
        have F3 : Fr G1 H1 ow1 G2 H2 (owAt H1 ow1) := ⟨F2.ex, fun a o z1 z2 => by
          obtain ⟨q1, q2, q3⟩ := F2.st a o z1 (if_neg (ne a z2))
          rw [owAt_some z1]
          exact ⟨q1, z2, q3⟩, F2.dom⟩
        have R3 : Rep K c G2 H2 (owAt H1 ow1) σ (put ε1 j (.lst fr ys)) := ⟨R2.ex, fun a z => R1.dom a (F2.dom a z), by rw [put_length]; exact R1.len, fun i o z => by
          by_cases hi : i = j
          · subst hi
            rw [look_put_self hj]
            rw [ho] at z
            cases z
            exact ⟨p, ws, rfl, by rw [owAt_some o3]; exact o1, w2, w3, w4, o5⟩
          · rw [look_put_ne hi]
            exact (R1.sl i o z).grow F2.ex fun p2 u z1 z2 z3 => by
              have hne : p2 ≠ p := fun e => by
                rw [e, o1] at z1
                exact hi (Option.some.inj z1).symm
              obtain ⟨q1, q2, q3⟩ := F2.st p2 u z3 (if_neg hne)
              rw [owAt_some z3]
              exact ⟨z1, q3 z2, q1⟩⟩
        refine kk r _ G2 H2 _ v q (F1.trans F3) R3 ?_
        cases r with
        | d x => exact V2
        | v x => exact V2
        | bor i => exact nomatch (show ([] : L2.St)[i]? = some (some v) from V2)
        | new xs =>
          obtain ⟨p, us, e, h1, h2, h3, h4, h5⟩ := V2
          exact ⟨p, us, e, F1.dom p h1, owAt_none h1, h3, h4, h5⟩
        | dk _ =>
          obtain ⟨p, us, e, h1, h2, h3, h4, h5⟩ := V2
          exact ⟨p, us, e, F1.dom p h1, owAt_none h1, h3, h4, h5⟩
        | bp _ _ _ => exact V2
        | ex _ => exact V2
        | nt t => exact ⟨V2.1, V2.2.1, fun a ha => ⟨F1.dom a (V2.2.2 a ha).1, owAt_none (V2.2.2 a ha).1⟩⟩
theorem dv_callS {y : Str} {py : Pos} (j : Nat) (F : FnOk X.prog X.w X.K X.mg X.base CX0 k f fd ps (spD X.K n S)) (hS : ∀ ps A, S ps A → ps.length = n) (hr : Room k X.A) (hg : Gl X x) (hm : X.mg x = some (.ref f)) (hk : PySem.W.keepIn X.K (.ref f) = true) (hb : Binds X.K fd ps [])
    (ha : DF X es t) (hN : X.N[j]? = some y := by rfl) (hv : Vis X.env.scope y := by first | exact Or.inl rfl | exact Or.inr (Or.inl rfl) | exact Or.inr (Or.inr rfl)) (hyd : (y == ("__debug__" : Str)) = false := by decide) (hcd : (y == ("__classdict__" : Str)) = false := by decide)
    (hdb : (x == ("__debug__" : Str)) = false := by decide) (he : starEach (.Name y py :: es) X.env = (false, eval (.Name y py) X.env) :: starEach es X.env := by rfl) (hpl : (backTo pos (starEach es X.env)).any (·.1) = false := by rfl) :
    DV X (.Call (.Name x p) (.Name y py :: es) [] pos) (dCallS j S t) := pe_w (pe_call F hr hg hm hk hb .nil pass0 (pa_cons (pe_var hN hv hyd hcd) ha he) hdb he hpl) fun _ _ _ h => dcallS_rd (E := E0) hS h
end

/-! ### operators over data -/
def kI0 (g : Int → Int → PyData) : PyData → PyData → (Vl → Prop) → Prop := fun x y A => match x, y with
  | .int i, .int j => A (.d (g i j))
  | _, _ => False
def kI (C : Int → Int → Prop) (g : Int → Int → PyData) : PyData → PyData → (Vl → Prop) → Prop := fun x y A => match x, y with
  | .int i, .int j => C i j ∧ A (.d (g i j))
  | _, _ => False
def kEq : PyData → PyData → (Vl → Prop) → Prop := fun x y A => SeqAt.shaped x = true ∧ SeqAt.shaped y = true ∧ A (.d (.bool (PyData.eqv x y)))
def kNe : PyData → PyData → (Vl → Prop) → Prop := fun x y A => SeqAt.shaped x = true ∧ SeqAt.shaped y = true ∧ A (.d (.bool (!PyData.eqv x y)))
def isN : PyData → Bool
  | .none => true
  | _ => false
def kIsN (neg : Bool) : PyData → PyData → (Vl → Prop) → Prop := fun x y A => match y with
  | .none => A (.d (.bool (if neg then !isN x else isN x)))
  | _ => False
def flatD : PyData → Bool
  | .none => true
  | .bool _ => true
  | .int _ => true
  | .str _ => true
  | _ => false
def inD (x : PyData) (ys : List PyData) : Bool := ys.any fun y => PyData.eqv y x
def kIn (neg : Bool) : PyData → PyData → (Vl → Prop) → Prop := fun x y A => match y with
  | .list ys => flatD x = true ∧ ys.all flatD = true ∧ A (.d (.bool (if neg then !inD x ys else inD x ys)))
  | .tuple ys => flatD x = true ∧ ys.all flatD = true ∧ A (.d (.bool (if neg then !inD x ys else inD x ys)))
  | _ => False
def kCat : PyData → PyData → (Vl → Prop) → Prop := fun x y A => match x, y with
  | .list xs, .list ys => xs.length + ys.length ≤ 1000000 ∧ A (.new (xs ++ ys))
  | _, _ => False
def kIx : PyData → PyData → (Vl → Prop) → Prop := fun x y A => match x, y with
  | .list xs, .int i => onO (atI xs i) fun d => A (.d d)
  | .tuple xs, .int i => onO (atI xs i) fun d => A (.d d)
  | _, _ => False
section
variable {K : PySem.W.Frag}
theorem od_I0 (g : Int → Int → Int) : OpD K (rI0 fun i j => .int (g i j)) (kI0 fun i j => .int (g i j)) := fun G H x y v1 v2 A Q e p1 p2 h k => by
  unfold kI0 at h
  split at h
  · cases p1.int
    cases p2.int
    exact ⟨_, _, rfl, rfl, k _ _ _ h (.val (.int _))⟩
  · exact h.elim
theorem od_B0 (g : Int → Int → Bool) : OpD K (rI0 fun i j => .bl (g i j)) (kI0 fun i j => .bool (g i j)) := fun G H x y v1 v2 A Q e p1 p2 h k => by
  unfold kI0 at h
  split at h
  · cases p1.int
    cases p2.int
    exact ⟨_, _, rfl, rfl, k _ _ _ h (.val (.bl _))⟩
  · exact h.elim
theorem od_I (C : Int → Int → Prop) (g : Int → Int → Int) : OpD K (rI C fun i j => .int (g i j)) (kI C fun i j => .int (g i j)) := fun G H x y v1 v2 A Q e p1 p2 h k => by
  unfold kI at h
  split at h
  · cases p1.int
    cases p2.int
    exact ⟨_, _, rfl, rfl, h.1, k _ _ _ h.2 (.val (.int _))⟩
  · exact h.elim
theorem od_eq : OpD K (rEqD K) kEq := fun G H x y v1 v2 A Q e p1 p2 h k => ⟨x, y, (p1.dp e).dp x (SeqAt.canLay_of_shaped h.1), (p2.dp e).dp y (SeqAt.canLay_of_shaped h.2.1), h.1, h.2.1, k _ _ _ h.2.2 (.val (.bl _))⟩
theorem od_ne : OpD K (rNeD K) kNe := fun G H x y v1 v2 A Q e p1 p2 h k => ⟨x, y, (p1.dp e).dp x (SeqAt.canLay_of_shaped h.1), (p2.dp e).dp y (SeqAt.canLay_of_shaped h.2.1), h.1, h.2.1, k _ _ _ h.2.2 (.val (.bl _))⟩
theorem isN_ok {G H : Hp} {x : PyData} {v : V} (p : Pk K G H v x) : decide (v = .non) = isN x := by
  rcases p with p | ⟨q, vs, xs, rfl, rfl, _⟩
  · cases p <;> rfl
  · rfl
theorem Pk.non {G H : Hp} {v : V} (p : Pk K G H v .none) : v = .non := by
  rcases p with p | ⟨q, vs, xs, _, e, _⟩
  · cases p; rfl
  · cases e
theorem od_isN : OpD K (fun x y H Q => y = .non ∧ Q (.bl (decide (x = .non))) H) (kIsN false) := fun G H x y v1 v2 A Q e p1 p2 h k => by
  unfold kIsN at h
  split at h
  · refine ⟨p2.non, ?_⟩
    rw [isN_ok p1]
    exact k _ _ _ h (.val (.bl _))
  · exact h.elim
theorem od_notN : OpD K (fun x y H Q => y = .non ∧ Q (.bl (!decide (x = .non))) H) (kIsN true) := fun G H x y v1 v2 A Q e p1 p2 h k => by
  unfold kIsN at h
  split at h
  · refine ⟨p2.non, ?_⟩
    rw [isN_ok p1]
    exact k _ _ _ h (.val (.bl _))
  · exact h.elim
theorem flat_ok {H : Hp} {v : V} : ∀ {x : PyData}, Dd K H v x → flatD x = true → flatV v = true
  | .none, h, _ => by cases h; rfl
  | .bool _, h, _ => by cases h; rfl
  | .int _, h, _ => by cases h; rfl
  | .str _, h, _ => by cases h; rfl
  | .list _, _, h => nomatch h
  | .tuple _, _, h => nomatch h
  | .dict _, _, h => nomatch h
theorem eqv_flat {H : Hp} {v u : V} {x y : PyData} (h1 : Dd K H v x) (h2 : Dd K H u y) (f1 : flatD x = true) (f2 : flatD y = true) : eqV u v = PyData.eqv y x := by
  cases h2 <;> first
    | (cases f2; done)
    | (cases h1 <;> first
        | (cases f1; done)
        | rfl
        | simp [eqV, PyData.eqv])
theorem flats_ok {H : Hp} : ∀ {vs : List V} {ys : List PyData}, DdAll K H vs ys → ys.all flatD = true → vs.all flatV = true
  | _, _, .nil, _ => rfl
  | _, _, .cons h t, f => by
    rw [List.all_cons, Bool.and_eq_true] at f ⊢
    exact ⟨flat_ok h f.1, flats_ok t f.2⟩
theorem inV_ok {H : Hp} {v : V} {x : PyData} (h1 : Dd K H v x) (f1 : flatD x = true) : ∀ {vs : List V} {ys : List PyData}, DdAll K H vs ys → ys.all flatD = true → inV v vs = inD x ys
  | _, _, .nil, _ => rfl
  | _, _, .cons h t, f => by
    rw [List.all_cons, Bool.and_eq_true] at f
    have ih := inV_ok h1 f1 t f.2
    unfold inV inD at ih ⊢
    rw [List.any_cons, List.any_cons, ih, eqv_flat h1 h f1 f.1]
theorem od_in (neg : Bool) : OpD K (rIn K neg) (kIn neg) := fun G H x y v1 v2 A Q e p1 p2 h k => by
  unfold kIn at h
  split at h
  · obtain ⟨p, vs, rfl, hs, ha⟩ := p2.list e
    obtain ⟨f1, f2, h⟩ := h
    refine ⟨p, vs, rfl, .inl hs, flat_ok (p1.dp e) f1, flats_ok ha f2, ?_⟩
    rw [inV_ok (p1.dp e) f1 (dpa_ex e _ ha) f2]
    exact k _ _ _ h (.val (.bl _))
  · obtain ⟨p, vs, rfl, hs, ha⟩ := p2.tuple e
    obtain ⟨f1, f2, h⟩ := h
    refine ⟨p, vs, rfl, .inr hs, flat_ok (p1.dp e) f1, flats_ok ha f2, ?_⟩
    rw [inV_ok (p1.dp e) f1 (dpa_ex e _ ha) f2]
    exact k _ _ _ h (.val (.bl _))
  · exact h.elim
/-- list + list, also of lists that may only be read -/
def rCatR (K : PySem.W.Frag) : R2 := fun x y H Q => ∃ l b xs zs, x = .ref l ∧ y = .ref b ∧ SqL K H l xs ∧ SqL K H b zs ∧ xs.length + zs.length ≤ sizeLine ∧ ∀ p, H p = none → Q (.ref p) (upd H p (.lst (xs ++ zs)))
theorem op_catR {X : Cx} : OpR X (binaryOp .Add) (rCatR X.K) := by
  intro pins s σ H x y v u Q I rx ry h
  obtain ⟨l, b, xs, zs, rfl, rfl, hH, hB, hz, q⟩ := h
  cases rx
  cases ry
  obtain ⟨is1, r, P1, _⟩ := I.list hH
  obtain ⟨is2, r2, P2, _⟩ := I.list hB
  obtain ⟨⟨c1, d1, dat1, sl1⟩, ho, hc, n, hd⟩ := P1.isList
  obtain ⟨⟨c2, d2, dat2, sl2⟩, ho2, hc2, n2, hd2⟩ := P2.isList
  simp only at hc hd hc2 hd2
  subst hc hd hc2 hd2
  have l1 := r.length
  have l2 := r2.length
  have hzz : (xs ++ zs).length ≤ sizeLine := by rw [List.length_append]; exact hz
  have fine : is1.toArray.size + is2.toArray.size ≤ sizeLine := by
    rw [List.size_toArray, List.size_toArray]
    omega
  refine concat_meets ⟨_, ho, rfl⟩ ⟨_, ho2, rfl⟩ noFill_list_add seq_list_add PySem.F.slot_list_add
    PySem.F.entry_list_add (PySem.F.args_list_add_2 _ _)
    (list_addW l b is1.toArray is2.toArray n n2 d1 d2 sl1 sl2 fine) ⟨ho, ho2, ?_⟩
  have ea : is1.toArray ++ is2.toArray = (is1 ++ is2).toArray := by simp
  rw [ea]
  exact ⟨.ref _, _, I.lnew (t' := s.toks) (r.append r2) hzz, rfl, q _ I.fresh⟩
theorem od_cat : OpD K (rCatR K) kCat := fun G H x y v1 v2 A Q e p1 p2 h k => by
  unfold kCat at h
  split at h
  · obtain ⟨p, vs, rfl, hs, ha⟩ := p1.list e
    obtain ⟨q, us, rfl, hs2, ha2⟩ := p2.list e
    exact ⟨p, q, vs, us, rfl, rfl, hs, hs2, by rw [dpa_len ha, dpa_len ha2]; exact line_le h.1, fun r hr => k _ _ _ h.2 (.lst hr (dpa_app ha ha2))⟩
  · exact h.elim
theorem at_ok {H : Hp} {vs : List V} {xs : List PyData} {i : Int} {d : PyData} (h : DdAll K H vs xs) (e : atI xs i = some d) : ∃ v, atI vs i = some v ∧ Dd K H v d := by
  unfold atI at e ⊢
  rw [dpa_len h]
  cases q : ixN xs.length i with
  | none => rw [q] at e; cases e
  | some j =>
    rw [q] at e
    exact dpa_get h e
theorem od_ix : OpD K (rIx K) kIx := fun G H x y v1 v2 A Q e p1 p2 h k => by
  unfold kIx at h
  split at h
  · obtain ⟨p, vs, rfl, hs, ha⟩ := p1.list e
    cases p2.int
    obtain ⟨d, hd, h⟩ := onO_get h
    obtain ⟨v, hv, dd⟩ := at_ok ha hd
    exact .inl ⟨p, vs, _, v, rfl, rfl, hs, hv, k _ _ _ h (.val dd)⟩
  · obtain ⟨p, vs, rfl, hs, ha⟩ := p1.tuple e
    cases p2.int
    obtain ⟨d, hd, h⟩ := onO_get h
    obtain ⟨v, hv, dd⟩ := at_ok ha hd
    exact .inr (.inl ⟨p, vs, _, v, rfl, rfl, hs, hv, k _ _ _ h (.val dd)⟩)
  · exact h.elim
end
/-! ### slices -/
abbrev TDO := Ep → (Option Int → Ep → Prop) → Prop
def rdO (K : PySem.W.Frag) (t : TDO) : TO := fun σ H Q => ∃ c G ow ε A, Rep K c G H ow σ ε ∧ t ε A ∧ ∀ o ε' G' H' ow', A o ε' → Fr G H ow G' H' ow' → Rep K c G' H' ow' σ ε' → Q o H'
abbrev DO (X : Cx) (e : Option Expr) (t : TDO) : Prop := PO X e (rdO X.K t)
def dNoPart : TDO := fun ε A => A none ε
def dPart (t : TD) : TDO := fun ε A => t ε fun r ε1 => match peek ε1 r with
  | some (.int i) => A (some i) ε1
  | _ => False
theorem po_w {X : Cx} {e : Option Expr} {t t' : TO} (h : PO X e t) (i : ∀ σ H Q, t' σ H Q → t σ H Q) : PO X e t' := ⟨fun pins s σ H Q I q => h.run pins s σ H Q I (i σ H Q q)⟩
theorem do_none {X : Cx} : DO X none dNoPart := po_w po_none fun σ H Q ⟨c, G, ow, ε, A, R, h, kk⟩ => kk none ε G H ow h (Fr.refl _ _ _) R
theorem do_some {X : Cx} {e : Expr} {t : TD} (h : DV X e t) : DO X (some e) (dPart t) := po_w (po_some h) fun σ H Q ⟨c, G, ow, ε, A, R, h, kk⟩ => ⟨c, G, ow, ε, _, R, h, fun r ε1 G1 H1 ow1 v h1 F1 R1 V1 => by
  split at h1
  · rename_i i e
    exact ⟨i, (peek_ok R1 V1 e).int, kk _ ε1 G1 H1 ow1 h1 F1 R1⟩
  · exact h1.elim⟩
def cutD (xs : List PyData) (lo hi : Option Int) : List PyData := (xs.drop (HT.sIx xs.length 0 lo)).take (HT.sIx xs.length xs.length hi - HT.sIx xs.length 0 lo)
def dSlL (t : TD) (tl th : TDO) : TD := fun ε A => t ε fun r ε1 => tl ε1 fun l ε2 => th ε2 fun u ε3 => match peek ε3 r with
  | some (.list xs) => A (.new (cutD xs l u)) ε3
  | _ => False
theorem cut_ok {K : PySem.W.Frag} {H : Hp} {vs : List V} {xs : List PyData} {lo hi : Option Int} (h : DdAll K H vs xs) : DdAll K H (cutV vs lo hi) (cutD xs lo hi) := by
  unfold cutV cutD
  rw [dpa_len h]
  exact dpa_take _ (dpa_drop _ h)
theorem dv_slL {X : Cx} {e : Expr} {lo hi : Option Expr} {t : TD} {tl th : TDO} {p2 pos : Pos} (he : DV X e t) (hl : DO X lo tl) (hh : DO X hi th) : DV X (.Subscript e (.Slice lo hi none p2) pos) (dSlL t tl th) :=
  pe_w (pe_slice sl_list he hl hh) fun σ H Q ⟨c, G, ow, ε, A, R, h, kk⟩ => ⟨c, G, ow, ε, _, R, h, fun r ε1 G1 H1 ow1 v h1 F1 R1 V1 => ⟨c, G1, ow1, ε1, _, R1, h1, fun l ε2 G2 H2 ow2 h2 F2 R2 => ⟨c, G2, ow2, ε2, _, R2, h2, fun u ε3 G3 H3 ow3 h3 F3 R3 => by
    have F := (F1.trans F2).trans F3
    split at h3
    · rename_i xs e
      obtain ⟨p, vs, rfl, hs, ha⟩ := (peek_ok R3 (V1.fr (F2.trans F3)) e).list R3.ex
      refine ⟨p, vs, rfl, hs, fun q hq => ?_⟩
      obtain ⟨G', ow', F4, R4, V4⟩ := res_fin R3 (.lst hq (cut_ok (lo := l) (hi := u) ha))
      exact kk _ _ G' _ ow' _ h3 (F.trans F4) R4 (V4.since F.dom)
    · exact h3.elim⟩⟩⟩
/-! ### built-ins over data -/
def kLen : List PyData → (Vl → Prop) → Prop := fun xs A => match xs with
  | [.list ys] => A (.d (.int (ys.length : Nat)))
  | [.tuple ys] => A (.d (.int (ys.length : Nat)))
  | [.str z] => z.length ≤ 1000000 ∧ A (.d (.int (z.length : Nat)))
  | _ => False
def kList : List PyData → (Vl → Prop) → Prop := fun xs A => match xs with
  | [.list ys] => A (.new ys)
  | [.tuple ys] => A (.new ys)
  | _ => False
def kTuple : List PyData → (Vl → Prop) → Prop := fun xs A => match xs with
  | [.list ys] => A (.d (.tuple ys))
  | [.tuple ys] => A (.d (.tuple ys))
  | _ => False
def kSorted : List PyData → (Vl → Prop) → Prop := fun xs A => ∃ ns : List Int, xs = [.list (ns.map .int)] ∧ ns.length < 64 ∧ ∀ ns' : List Int, ns'.Perm ns → ns'.Pairwise (· ≤ ·) → A (.new (ns'.map .int))
def kSortedS : List PyData → (Vl → Prop) → Prop := fun xs A => ∃ ns : List Str, xs = [.list (ns.map .str)] ∧ ns.length < 64 ∧ ∀ ns' : List Str, ns'.Perm ns → sortedS ns' = true → A (.new (ns'.map .str))
def kI2 (g : Int → Int → Int) : List PyData → (Vl → Prop) → Prop := fun xs A => match xs with
  | [.int i, .int j] => A (.d (.int (g i j)))
  | _ => False
def kAbs : List PyData → (Vl → Prop) → Prop := fun xs A => match xs with
  | [.int i] => A (.d (.int (if i < 0 then -i else i)))
  | _ => False
def kAll : List PyData → (Vl → Prop) → Prop := fun xs A => ∃ bs : List Bool, xs = [.list (bs.map .bool)] ∧ A (.d (.bool (bs.all id)))
def kAny : List PyData → (Vl → Prop) → Prop := fun xs A => ∃ bs : List Bool, xs = [.list (bs.map .bool)] ∧ A (.d (.bool (bs.any id)))
section
variable {K : PySem.W.Frag}
theorem pk1 {G H : Hp} {vs : List V} {x : PyData} (h : PkAll K G H vs [x]) : ∃ v, vs = [v] ∧ Pk K G H v x := by
  cases h with
  | cons h1 t => cases t; exact ⟨_, rfl, h1⟩
theorem pk2 {G H : Hp} {vs : List V} {x y : PyData} (h : PkAll K G H vs [x, y]) : ∃ v u, vs = [v, u] ∧ Pk K G H v x ∧ Pk K G H u y := by
  cases h with
  | cons h1 t =>
    obtain ⟨u, rfl, h2⟩ := pk1 t
    exact ⟨_, u, rfl, h1, h2⟩
theorem cd_len : CallD K (fun xs H Q => ∃ x n, xs = [x] ∧ LenV K x H n ∧ Q (.int n) H) kLen := fun G H xs vs A Q e p h k => by
  unfold kLen at h
  split at h
  · obtain ⟨v, rfl, p1⟩ := pk1 p
    obtain ⟨a, us, rfl, hs, ha⟩ := p1.list e
    exact ⟨_, _, rfl, .inl ⟨us, hs, (dpa_len ha).symm⟩, k _ _ _ h (.val (.int _))⟩
  · obtain ⟨v, rfl, p1⟩ := pk1 p
    obtain ⟨a, us, rfl, hs, ha⟩ := p1.tuple e
    exact ⟨_, _, rfl, .inr ⟨us, hs, (dpa_len ha).symm⟩, k _ _ _ h (.val (.int _))⟩
  · obtain ⟨v, rfl, p1⟩ := pk1 p
    cases p1.str
    exact ⟨_, _, rfl, ⟨line_le h.1, rfl⟩, k _ _ _ h.2 (.val (.int _))⟩
  · exact h.elim
theorem cd_list : CallD K (fun xs H Q => ∃ p ys, xs = [.ref p] ∧ (SqL K H p ys ∨ SqT K H p ys) ∧ ∀ l, H l = none → Q (.ref l) (upd H l (.lst ys))) kList := fun G H xs vs A Q e p h k => by
  unfold kList at h
  split at h
  · obtain ⟨v, rfl, p1⟩ := pk1 p
    obtain ⟨a, us, rfl, hs, ha⟩ := p1.list e
    exact ⟨_, us, rfl, .inl hs, fun l hl => k _ _ _ h (.lst hl ha)⟩
  · obtain ⟨v, rfl, p1⟩ := pk1 p
    obtain ⟨a, us, rfl, hs, ha⟩ := p1.tuple e
    exact ⟨_, us, rfl, .inr hs, fun l hl => k _ _ _ h (.lst hl ha)⟩
  · exact h.elim
theorem cd_tuple : CallD K (fun xs H Q => ∃ p ys, xs = [.ref p] ∧ ((SqL K H p ys ∧ ∀ l, H l = none → Q (.ref l) (upd H l (.tup ys))) ∨ (SqT K H p ys ∧ Q (.ref p) H))) kTuple := fun G H xs vs A Q e p h k => by
  unfold kTuple at h
  split at h
  · obtain ⟨v, rfl, p1⟩ := pk1 p
    obtain ⟨a, us, rfl, hs, ha⟩ := p1.list e
    exact ⟨_, us, rfl, .inl ⟨hs, fun l hl => k _ _ _ h (.tup hl ha)⟩⟩
  · obtain ⟨v, rfl, p1⟩ := pk1 p
    obtain ⟨a, us, rfl, hs, ha⟩ := p1.tuple e
    refine ⟨_, us, rfl, .inr ⟨hs, k _ _ _ h (.val ?_)⟩⟩
    rcases p1 with p1 | ⟨_, _, _, _, e2, _⟩
    · exact p1
    · cases e2
  · exact h.elim
theorem cd_sorted : CallD K (rSorted K) kSorted := fun G H xs vs A Q e p ⟨ns, e1, hl, h⟩ k => by
  subst e1
  obtain ⟨v, rfl, p1⟩ := pk1 p
  obtain ⟨a, us, rfl, hs, ha⟩ := p1.list e
  have eu := dpa_ints ns ha
  subst eu
  exact ⟨a, ns, rfl, hs, hl, fun ns' q h1 h2 h3 => k _ _ _ (h ns' h1 h2) (.lst h3 (dpa_ofInts ns'))⟩
theorem cd_sortedS : CallD K (rSortedS K) kSortedS := fun G H xs vs A Q e p ⟨ns, e1, hl, h⟩ k => by
  subst e1
  obtain ⟨v, rfl, p1⟩ := pk1 p
  obtain ⟨a, us, rfl, hs, ha⟩ := p1.list e
  have eu := dpa_strs ns ha
  subst eu
  exact ⟨a, ns, rfl, hs, hl, fun ns' q h1 h2 h3 => k _ _ _ (h ns' h1 h2) (.lst h3 (dpa_ofStrs ns'))⟩
theorem cd_max2 : CallD K (fun xs H Q => ∃ i j, xs = [.int i, .int j] ∧ Q (.int (if j > i then j else i)) H) (kI2 fun i j => if j > i then j else i) := fun G H xs vs A Q e p h k => by
  unfold kI2 at h
  split at h
  · obtain ⟨v, u, rfl, p1, p2⟩ := pk2 p
    cases p1.int
    cases p2.int
    exact ⟨_, _, rfl, k _ _ _ h (.val (.int _))⟩
  · exact h.elim
theorem cd_min2 : CallD K (fun xs H Q => ∃ i j, xs = [.int i, .int j] ∧ Q (.int (if j < i then j else i)) H) (kI2 fun i j => if j < i then j else i) := fun G H xs vs A Q e p h k => by
  unfold kI2 at h
  split at h
  · obtain ⟨v, u, rfl, p1, p2⟩ := pk2 p
    cases p1.int
    cases p2.int
    exact ⟨_, _, rfl, k _ _ _ h (.val (.int _))⟩
  · exact h.elim
theorem cd_abs : CallD K (fun xs H Q => ∃ i, xs = [.int i] ∧ Q (.int (if i < 0 then -i else i)) H) kAbs := fun G H xs vs A Q e p h k => by
  unfold kAbs at h
  split at h
  · obtain ⟨v, rfl, p1⟩ := pk1 p
    cases p1.int
    exact ⟨_, rfl, k _ _ _ h (.val (.int _))⟩
  · exact h.elim
theorem dpa_bls {H : Hp} : ∀ {vs : List V} (bs : List Bool), DdAll K H vs (bs.map .bool) → vs = bs.map V.bl
  | _, [], h => by cases h; rfl
  | _, n :: ns, h => by
    cases h with
    | cons h1 h2 =>
      cases h1
      rw [dpa_bls ns h2]
      rfl
theorem cd_all : CallD K (rAll K) kAll := fun G H xs vs A Q e p ⟨bs, e1, h⟩ k => by
  subst e1
  obtain ⟨v, rfl, p1⟩ := pk1 p
  obtain ⟨a, us, rfl, hs, ha⟩ := p1.list e
  have eu := dpa_bls bs ha
  subst eu
  exact ⟨a, bs, rfl, hs, k _ _ _ h (.val (.bl _))⟩
theorem cd_any : CallD K (rAny K) kAny := fun G H xs vs A Q e p ⟨bs, e1, h⟩ k => by
  subst e1
  obtain ⟨v, rfl, p1⟩ := pk1 p
  obtain ⟨a, us, rfl, hs, ha⟩ := p1.list e
  have eu := dpa_bls bs ha
  subst eu
  exact ⟨a, bs, rfl, hs, k _ _ _ h (.val (.bl _))⟩
end
def dLstRg (t : TD) : TD := fun ε A => t ε fun r ε1 => match peek ε1 r with
  | some (.int n) => (0 ≤ n ∧ n ≤ 1000000) ∧ A (.new (rngD 0 n.toNat)) ε1
  | _ => False
theorem rngD_ok {K : PySem.W.Frag} {H : Hp} (n : Int) : DdAll K H (rgV 0 n) (rngD 0 n.toNat) := by
  have q := dpa_ofInts (K := K) (H := H) ((List.range n.toNat).map fun i => 0 + ((i : Nat) : Int))
  rw [List.map_map, List.map_map] at q
  unfold rgV rngD
  rw [Int.sub_zero]
  exact q
theorem dv_listRg {X : Cx} {a : Expr} {t : TD} {p pos p2 pos2 : Pos} (hc : X.calm = true) (hg : Gl X "list") (hm : X.mg "list" = none) (hg2 : Gl X "range") (hm2 : X.mg "range" = none) (ha : DV X a t) (na2 : starEach [a] X.env = (false, eval a X.env) :: starEach [] X.env := by rfl)
    (na : starEach [.Call (.Name "range" p2) [a] [] pos2] X.env = (false, eval (.Call (.Name "range" p2) [a] [] pos2) X.env) :: starEach [] X.env := by rfl) : DV X (.Call (.Name "list" p) [.Call (.Name "range" p2) [a] [] pos2] [] pos) (dLstRg t) :=
  pe_w (pe_listRg hc hg hm (prg_1 hg2 hm2 ha na2) na) fun σ H Q ⟨c, G, ow, ε, A, R, h, kk⟩ => ⟨c, G, ow, ε, _, R, h, fun r ε1 G1 H1 ow1 v h1 F1 R1 V1 => by
    split at h1
    · rename_i n e
      refine ⟨n, (peek_ok R1 V1 e).int, .of_le (by omega) (by omega) (by omega) (by omega), fun q hq => ?_⟩
      obtain ⟨G', ow', F2, R2, V2⟩ := res_fin R1 (.lst hq (rngD_ok n))
      exact kk _ _ G' _ ow' _ h1.2 (F1.trans F2) R2 (V2.since F1.dom)
    · exact h1.elim⟩

/-! ### methods that change a list of the def's own -/
def dMut (j : Nat) (k : List PyData → List PyData → (PyData → List PyData → Prop) → Prop) (t : TDF) : TD := fun ε A => match look ε j with
  | .lst _ _ => t ε fun ds ε1 => match look ε1 j with
    | .lst fr xs => k ds xs fun d ys => A (.d d) (put ε1 j (.lst fr ys))
    | _ => False
  | _ => False
def MutD (K : PySem.W.Frag) (r : V → List V → Hp → VK → Prop) (k : List PyData → List PyData → (PyData → List PyData → Prop) → Prop) : Prop := ∀ G H p vs xs ds us (A : PyData → List PyData → Prop) (Q : VK), Same G H → G p = none → H p = some (.lst vs) → DdAll K G vs xs → DdAll K G us ds → k ds xs A →
  (∀ d ys v vs', A d ys → Dd K G v d → DdAll K G vs' ys → Q v (upd H p (.lst vs'))) → r (.ref p) us H Q
def kAppend : List PyData → List PyData → (PyData → List PyData → Prop) → Prop := fun ds xs A => match ds with
  | [y] => xs.length < 1000000 ∧ A .none (xs ++ [y])
  | _ => False
def kPopAt : List PyData → List PyData → (PyData → List PyData → Prop) → Prop := fun ds xs A => match ds with
  | [.int i] => 0 ≤ i ∧ xs.length ≤ 1000000 ∧ onO xs[i.toNat]? fun y => A y (xs.eraseIdx i.toNat)
  | _ => False
def kRemove : List PyData → List PyData → (PyData → List PyData → Prop) → Prop := fun ds xs A => match ds with
  | [.int k] => ∃ (ns : List Int) (j : Nat), xs = ns.map .int ∧ ns[j]? = some k ∧ (∀ m : Nat, m < j → ns[m]? ≠ some k) ∧ A .none ((ns.eraseIdx j).map .int)
  | _ => False
section
variable {K : PySem.W.Frag}
theorem md_append : MutD K rAppend kAppend := fun G H p vs xs ds us A Q e g hH hx hu h k => by
  unfold kAppend at h
  split at h
  · cases hu with
    | cons h1 t =>
      cases t
      exact ⟨p, vs, _, rfl, rfl, hH, by rw [dpa_len hx]; exact line_lt h.1, k _ _ _ _ h.2 .non (dpa_app hx (dpa_one h1))⟩
  · exact h.elim
theorem md_popAt : MutD K rPopAt kPopAt := fun G H p vs xs ds us A Q e g hH hx hu h k => by
  unfold kPopAt at h
  split at h
  · obtain ⟨h0, hl, h⟩ := h
    obtain ⟨y, hy, h⟩ := onO_get h
    cases hu with
    | cons h1 t =>
      cases t
      cases h1
      obtain ⟨v, hv, dv⟩ := dpa_get hx hy
      rename_i i _
      have hlt := (List.getElem?_eq_some_iff.mp hy).1
      have hlv := dpa_len hx
      exact ⟨p, vs, i, i.toNat, v, rfl, rfl, hH, by omega, by omega, seqIndex_at h0 (by omega), hv, k _ _ _ _ h dv (dpa_erase _ hx)⟩
  · exact h.elim
theorem md_remove : MutD K rRemI kRemove := fun G H p vs xs ds us A Q e g hH hx hu h k => by
  unfold kRemove at h
  split at h
  · obtain ⟨ns, j, rfl, h1, h2, h⟩ := h
    have ev := dpa_ints ns hx
    subst ev
    cases hu with
    | cons h3 t =>
      cases t
      cases h3
      exact ⟨p, ns, _, j, rfl, rfl, hH, h1, h2, k _ _ _ _ h .non (dpa_ofInts _)⟩
  · exact h.elim
theorem dmut_rd {j : Nat} {t : TDF} {T : String} {r : V → List V → Hp → VK → Prop} {k : List PyData → List PyData → (PyData → List PyData → Prop) → Prop} {σ : L2.St} {H : Hp} {Q : VK} (hT : T = "list") (hk : MutD K r k) (h : rdV K (dMut j k t) σ H Q) : tBM K T r (tVar j) (rdF K t) σ H Q := by
  obtain ⟨c, G, ow, ε, A, R, h, kk⟩ := h
  subst hT
  unfold dMut at h
  cases hl : look ε j with
  | un => simp only [hl] at h
  | d _ => simp only [hl] at h
  | dct _ _ => simp only [hl] at h
  | v _ => simp only [hl] at h
  | nt _ _ => simp only [hl] at h
  | al _ _ _ => simp only [hl] at h
  | ex _ => simp only [hl] at h
  | lst fr0 xs0 =>
    simp only [hl] at h
    obtain ⟨o, ho⟩ := R.some_at (i := j) (by rw [hl]; exact fun z => nomatch z)
    have q0 := R.at ho
    rw [hl] at q0
    obtain ⟨p, vs0, rfl, _, _, hp0, _⟩ := q0
    refine ⟨.ref p, ho, .inl ⟨rfl, vs0, .inl (.inl hp0)⟩, c, G, ow, ε, _, R, h, fun ds ε1 G1 H1 ow1 us h1 F1 R1 V1 => ?_⟩
    cases hl1 : look ε1 j with
    | un => simp only [hl1] at h1
    | d _ => simp only [hl1] at h1
    | dct _ _ => simp only [hl1] at h1
    | v _ => simp only [hl1] at h1
    | nt _ _ => simp only [hl1] at h1
    | al _ _ _ => simp only [hl1] at h1
    | ex _ => simp only [hl1] at h1
    | lst fr xs =>
      simp only [hl1] at h1
      have q1 := R1.at ho
      rw [hl1] at q1
      obtain ⟨p', vs, e1, o1, o2, o3, o4, o5⟩ := q1
      cases e1
      refine hk G1 H1 p vs xs ds us _ Q R1.ex o2 o3 o4 V1 h1 fun d ys v vs' hA hd hys => ?_
      obtain ⟨p2, vs2, e2, m1, m2, m3⟩ := mut_lst (ys := ys) R1 ho hl1
      cases e2
      obtain ⟨F2, R2⟩ := m3 vs' hys
      exact kk _ _ G1 _ ow1 v hA (F1.trans F2) R2 hd
end
section
variable {X : Cx} {e : Expr} {es : List Expr} {t : TDF} {name y : Str} {apos cpos py : Pos} {id : String} {r : V → List V → Hp → VK → Prop} {k : List PyData → List PyData → (PyData → List PyData → Prop) → Prop}
theorem dv_mut (j : Nat) (slot : Slot "list" name id) (hty : typeOf (.builtin id) = pure (.type "method_descriptor")) (hm : MtR X id r) (hk : MutD X.K r k) (ha : DF X (e :: es) t) (hN : X.N[j]? = some y := by rfl) (hv : Vis X.env.scope y := by first | exact Or.inl rfl | exact Or.inr (Or.inl rfl) | exact Or.inr (Or.inr rfl))
    (hyd : (y == ("__debug__" : Str)) = false := by decide) (hcd : (y == ("__classdict__" : Str)) = false := by decide)
    (hbase : attributeBase (.Name y py) name X.env (eval (.Name y py) X.env) = eval (.Name y py) X.env := by rfl)
    (hfew : ((backTo cpos (starEach (e :: es) X.env)).all (fun x => !x.1) && (backToKw cpos (keywordEach [] X.env)).all (fun x => x.1.isSome)
      && decide ((e :: es).length + ([] : List Keyword).length + (if ([] : List Keyword).isEmpty then 0 else 1) < 30)) = true := by rfl)
    (hline : (apos.endLine == cpos.line) = true := by rfl) (hs : starEach (e :: es) X.env = (false, eval e X.env) :: starEach es X.env := by rfl) (hplain : (backTo cpos (starEach es X.env)).any (·.1) = false := by rfl) :
    DV X (.Call (.Attribute (.Name y py) name apos) (e :: es) [] cpos) (dMut j k t) :=
  pe_w (pe_bm PySem.F.plainAttrs_list slot hty hm (pe_var hN hv hyd hcd) ha hbase hfew hline hs hplain) fun _ _ _ h => dmut_rd rfl hk h
end
/-! ### a place of a list of the def's own is stored -/
def sSetI (j : Nat) (te ti : TD) : TDS := fun A ε => te ε fun r ε1 => match frz ε1 r with
  | some (x, ε2) => match look ε2 j with
    | .lst _ _ => ti ε2 fun s ε3 => match peek ε3 s, look ε3 j with
      | some (.int i), .lst fr xs => onO (ixN xs.length i) fun m => A.nx (put ε3 j (.lst fr (xs.set m x)))
      | _, _ => False
    | _ => False
  | none => False
section
variable {X : Cx} {e i : Expr} {te ti : TD} {y : Str} {py pos pos' : Pos}
theorem ds_seti (j : Nat) (he : DV X e te) (hi : DV X i ti) (hN : X.N[j]? = some y := by rfl) (hv : Vis X.env.scope y := by first | exact Or.inl rfl | exact Or.inr (Or.inl rfl) | exact Or.inr (Or.inr rfl))
    (hyd : (y == ("__debug__" : Str)) = false := by decide) (hcd : (y == ("__classdict__" : Str)) = false := by decide)
    (hs : swapsWithSole [.Subscript (.Name y py) i pos'] e pos.line X.env = pure false := by rfl) (hw : swappedStores [.Subscript (.Name y py) i pos'] e X.env = pure none := by rfl)
    (h1 : (assignEach [.Subscript (.Name y py) i pos'] X.env).map (·.2) = [assign (.Subscript (.Name y py) i pos') X.env] := by rfl)
    (ha : ∀ v, assign (.Subscript (.Name y py) i pos') X.env v = (do
      let ov ← holding [v] (eval (.Name y py) X.env)
      let iv ← holding [v, ov] (eval i X.env)
      standAt pos'
      holding [v, ov, iv] (setItem ov iv v)
      release [v, ov, iv] []) := by intro _; rfl) : DS X W (.Assign [.Subscript (.Name y py) i pos'] e pos) (sSetI j te ti) :=
  ps_w (ps_asg he (pg_sub (pe_var hN hv hyd hcd) hi set_list ha) hs hw h1) fun D σ H ⟨c, G, ow, ε, A, R, h, k1, k2, k3, k4, k5⟩ => ⟨c, G, ow, ε, _, R, h, fun r ε1 G1 H1 ow1 v h1 F1 R1 V1 => by
    cases q : frz ε1 r with
    | none => simp only [q] at h1
    | some z =>
      obtain ⟨x, ε2⟩ := z
      simp only [q] at h1
      obtain ⟨G2, F2, sg, R2, d⟩ := frz_ok F1 R1 V1 q
      cases hl : look ε2 j with
      | un => simp only [hl] at h1
      | d _ => simp only [hl] at h1
      | dct _ _ => simp only [hl] at h1
      | v _ => simp only [hl] at h1
      | nt _ _ => simp only [hl] at h1
      | al _ _ _ => simp only [hl] at h1
      | ex _ => simp only [hl] at h1
      | lst fr0 xs0 =>
        simp only [hl] at h1
        obtain ⟨o, ho⟩ := R2.some_at (i := j) (by rw [hl]; exact fun z => nomatch z)
        have q0 := R2.at ho
        rw [hl] at q0
        obtain ⟨p, vs0, rfl, _⟩ := q0
        refine ⟨.ref p, ho, c, G2, ow1, ε2, _, R2, h1, fun s ε3 G3 H3 ow3 u h3 F3 R3 V3 => ?_⟩
        split at h3
        · rename_i i0 fr xs e3 hl3
          obtain ⟨m, hm, h3⟩ := onO_get h3
          obtain ⟨p2, vs2, e2, m1, m2, m3⟩ := mut_lst (ys := xs.set m x) R3 ho hl3
          cases e2
          obtain ⟨F4, R4⟩ := m3 (vs2.set m v) (dpa_set m (dp_ex F3.ex x d) m2)
          refine ⟨p, vs2, i0, m, rfl, (peek_ok R3 V3 e3).int, m1, by rw [dpa_len m2]; exact hm, ?_⟩
          exact k1 _ _ G3 _ ow3 h3 ((F2.trans F3).trans F4) R4
        · exact h3.elim⟩
end
/-! ### dicts of the def's own: keys are ints and texts -/
def keyD : PyData → Option Key
  | .int i => some (.inl i)
  | .str x => some (.inr x)
  | _ => none
def valD (kvs : List (Key × PyData)) (k : Key) : Option PyData := (kvs.find? fun kv => decide (kv.1 = k)).map (·.2)
def putD (kvs : List (Key × PyData)) (k : Key) (v : PyData) : List (Key × PyData) :=
  if (kvs.any fun kv => decide (kv.1 = k)) = true then kvs.map (fun kv => if kv.1 = k then (kv.1, v) else kv) else kvs ++ [(k, v)]
def dDIn (neg : Bool) (te : TD) (j : Nat) : TD := fun ε A => te ε fun r ε1 => match peek ε1 r, look ε1 j with
  | some x, .dct _ kvs => onO (keyD x) fun k => A (.d (.bool (if neg then !(valD kvs k).isSome else (valD kvs k).isSome))) ε1
  | _, _ => False
def sDPut (j : Nat) (tk tv : TD) : TDS := fun A ε => tv ε fun r ε1 => match frz ε1 r with
  | some (x, ε2) => match look ε2 j with
    | .dct _ _ => tk ε2 fun s ε3 => match peek ε3 s, look ε3 j with
      | some y, .dct fr kvs => onO (keyD y) fun k => kvs.length < 1000000 ∧ A.nx (put ε3 j (.dct fr (putD kvs k x)))
      | _, _ => False
    | _ => False
  | none => False
section
variable {K : PySem.W.Frag} {G : Hp}
theorem keyD_ok {H : Hp} {v : V} {x : PyData} {k : Key} (p : Pk K G H v x) (h : keyD x = some k) : v = kV k := by
  cases x with
  | int i => cases h; exact p.int
  | str i => cases h; exact p.str
  | _ => cases h
theorem kv_len : ∀ {a : List (Key × V)} {b : List (Key × PyData)}, KvOk K G a b → a.length = b.length
  | _, _, .nil => rfl
  | _, _, .cons _ t => congrArg (· + 1) (kv_len t)
theorem kv_val {k : Key} : ∀ {a : List (Key × V)} {b : List (Key × PyData)}, KvOk K G a b → (valV a k = none ∧ valD b k = none) ∨ ∃ v d, valV a k = some v ∧ valD b k = some d ∧ Dd K G v d
  | _, _, .nil => .inl ⟨rfl, rfl⟩
  | p :: a, q :: b, .cons ⟨e, h⟩ t => by
    by_cases hk : p.1 = k
    · exact .inr ⟨p.2, q.2, by simp [valV, List.find?_cons, hk], by simp [valD, List.find?_cons, ← e, hk], h⟩
    · have e1 : valV (p :: a) k = valV a k := by simp only [valV, List.find?_cons, hk, decide_false]
      have e2 : valD (q :: b) k = valD b k := by simp only [valD, List.find?_cons, ← e, hk, decide_false]
      rw [e1, e2]
      exact kv_val t
theorem kv_any {k : Key} : ∀ {a : List (Key × V)} {b : List (Key × PyData)}, KvOk K G a b → (a.any fun kv => decide (kv.1 = k)) = (b.any fun kv => decide (kv.1 = k))
  | _, _, .nil => rfl
  | _, _, .cons ⟨e, _⟩ t => by rw [List.any_cons, List.any_cons, kv_any t, e]
theorem kv_map {k : Key} {v : V} {d : PyData} (h : Dd K G v d) : ∀ {a : List (Key × V)} {b : List (Key × PyData)}, KvOk K G a b → KvOk K G (a.map fun kv => if kv.1 = k then (kv.1, v) else kv) (b.map fun kv => if kv.1 = k then (kv.1, d) else kv)
  | _, _, .nil => .nil
  | _, _, .cons (a := p) (b := q) ⟨e, h1⟩ t => by
    refine .cons ?_ (kv_map h t)
    by_cases hk : p.1 = k
    · have hq : q.1 = k := by rw [← e]; exact hk
      simp only [hk, hq, if_true]
      exact ⟨trivial, h⟩
    · have hq : ¬ q.1 = k := by rw [← e]; exact hk
      simp only [hk, hq, if_false]
      exact ⟨e, h1⟩
theorem kv_app : ∀ {a c : List (Key × V)} {b d : List (Key × PyData)}, KvOk K G a b → KvOk K G c d → KvOk K G (a ++ c) (b ++ d)
  | _, _, _, _, .nil, h => h
  | _, _, _, _, .cons p t, h => .cons p (kv_app t h)
theorem kv_put {k : Key} {v : V} {d : PyData} {a : List (Key × V)} {b : List (Key × PyData)} (h : Dd K G v d) (p : KvOk K G a b) : KvOk K G (putK a k v) (putD b k d) := by
  unfold putK putD
  rw [kv_any p]
  split
  · exact kv_map h p
  · exact kv_app p (.cons ⟨rfl, h⟩ .nil)
/-- a dict of the def's own is changed -/
theorem mut_dct {c : Ct} {H : Hp} {ow : Ow} {σ : L2.St} {ε : Ep} {i : Nat} {fr : Bool} {kvs ys : List (Key × PyData)} {v : V} (R : Rep K c G H ow σ ε) (h : σ[i]? = some (some v)) (hl : look ε i = .dct fr kvs) :
    ∃ p kv, v = .ref p ∧ H p = some (.dK kv) ∧ KvOk K G kv kvs ∧ ∀ us, KvOk K G us ys → Fr G H ow G (upd H p (.dK us)) ow ∧ Rep K c G (upd H p (.dK us)) ow σ (put ε i (.dct fr ys)) := by
  have q := R.at h
  rw [hl] at q
  obtain ⟨p, vs, e1, h2, h3, h4, h5, h6⟩ := q
  cases e1
  have hi : i < ε.length := look_lt (by rw [hl]; exact fun z => nomatch z)
  refine ⟨p, vs, rfl, h4, h5, fun us hu => ⟨⟨Same.refl G, fun a u z1 z2 => ?_, fun a z => ?_⟩, ⟨same_mut R.ex h3 _, fun a z => ?_, by rw [put_length]; exact R.len, fun j s z => ?_⟩⟩⟩
  · have hne : a ≠ p := fun e => by
      rw [e, h2] at z2
      cases z2
    rw [upd_ne hne]
    exact ⟨z1, z2, fun z => z⟩
  · by_cases ha : a = p
    · subst ha
      rw [upd_same] at z
      cases z
    · rw [upd_ne ha] at z
      exact z
  · by_cases ha : a = p
    · subst ha
      rw [upd_same] at z
      cases z
    · rw [upd_ne ha] at z
      exact R.dom a z
  · by_cases hj : j = i
    · subst hj
      rw [look_put_self hi]
      rw [h] at z
      cases z
      exact ⟨p, us, rfl, h2, h3, upd_same, hu, h6⟩
    · rw [look_put_ne hj]
      refine (R.sl j s z).grow (Same.refl G) fun q u z1 z2 z3 => ⟨z1, z2, ?_⟩
      have hne : q ≠ p := fun e => by
        rw [e, h2] at z1
        exact hj (Option.some.inj z1).symm
      rw [upd_ne hne]
      exact z3
end
section
variable {X : Cx} {e i : Expr} {te tk tv : TD} {y : Str} {py pos pos' : Pos} {σ : L2.St} {H : Hp} {Q : VK}
theorem ddin_get {K : PySem.W.Frag} {c : Ct} {G : Hp} {ow : Ow} {ε : Ep} {j : Nat} {fr : Bool} {kvs : List (Key × PyData)} {k : Key} (R : Rep K c G H ow σ ε) (hl : look ε j = .dct fr kvs) : ∃ p o, σ[j]? = some (some (.ref p)) ∧ DGet H p (kV k) o ∧ o.isSome = (valD kvs k).isSome := by
  obtain ⟨o, ho⟩ := R.some_at (i := j) (by rw [hl]; exact fun z => nomatch z)
  have q0 := R.at ho
  rw [hl] at q0
  obtain ⟨p, kv, rfl, _, _, h3, h4, _⟩ := q0
  refine ⟨p, valV kv k, ho, DGet.k h3, ?_⟩
  rcases kv_val (k := k) h4 with ⟨h1, h2⟩ | ⟨v, d, h1, h2, _⟩
  · rw [h1, h2]
    rfl
  · rw [h1, h2]
    rfl
theorem ddin_rd {K : PySem.W.Frag} {j : Nat} (h : rdV K (dDIn false te j) σ H Q) : tDIn (rdV K te) (tVar j) σ H Q := by
  obtain ⟨c, G, ow, ε, A, R, h, kk⟩ := h
  refine ⟨c, G, ow, ε, _, R, h, fun r ε1 G1 H1 ow1 v h1 F1 R1 V1 => ?_⟩
  split at h1
  · rename_i x kvs e hl
    obtain ⟨k, hk, h1⟩ := onO_get h1
    obtain ⟨p, o, ho, hg, ei⟩ := ddin_get (k := k) R1 hl
    refine ⟨.ref p, ho, p, o, rfl, by rw [keyD_ok (peek_ok R1 V1 e) hk]; exact hg, ?_⟩
    rw [ei]
    exact kk _ ε1 G1 H1 ow1 _ h1 F1 R1 (.bl _)
  · exact h1.elim
theorem ddnin_rd {K : PySem.W.Frag} {j : Nat} (h : rdV K (dDIn true te j) σ H Q) : tDNotIn (rdV K te) (tVar j) σ H Q := by
  obtain ⟨c, G, ow, ε, A, R, h, kk⟩ := h
  refine ⟨c, G, ow, ε, _, R, h, fun r ε1 G1 H1 ow1 v h1 F1 R1 V1 => ?_⟩
  split at h1
  · rename_i x kvs e hl
    obtain ⟨k, hk, h1⟩ := onO_get h1
    obtain ⟨p, o, ho, hg, ei⟩ := ddin_get (k := k) R1 hl
    refine ⟨.ref p, ho, p, o, rfl, by rw [keyD_ok (peek_ok R1 V1 e) hk]; exact hg, ?_⟩
    rw [ei]
    exact kk _ ε1 G1 H1 ow1 _ h1 F1 R1 (.bl _)
  · exact h1.elim
theorem dv_din (j : Nat) (hu : X.A.units + 1 < cLine) (he : DV X e te) (hN : X.N[j]? = some y := by rfl) (hv : Vis X.env.scope y := by first | exact Or.inl rfl | exact Or.inr (Or.inl rfl) | exact Or.inr (Or.inr rfl))
    (hyd : (y == ("__debug__" : Str)) = false := by decide) (hcd : (y == ("__classdict__" : Str)) = false := by decide) (hm : behindInMarks .In (.Name y py) = false := by rfl) : DV X (.Compare e [.In] [.Name y py] pos) (dDIn false te j) :=
  pe_w (pe_cmp (pc_din hu he (pe_var hN hv hyd hcd)) hm) fun _ _ _ h => ddin_rd h
theorem dv_dnin (j : Nat) (hu : X.A.units + 1 < cLine) (he : DV X e te) (hN : X.N[j]? = some y := by rfl) (hv : Vis X.env.scope y := by first | exact Or.inl rfl | exact Or.inr (Or.inl rfl) | exact Or.inr (Or.inr rfl))
    (hyd : (y == ("__debug__" : Str)) = false := by decide) (hcd : (y == ("__classdict__" : Str)) = false := by decide) (hm : behindInMarks .NotIn (.Name y py) = false := by rfl) : DV X (.Compare e [.NotIn] [.Name y py] pos) (dDIn true te j) :=
  pe_w (pe_cmp (pc_dnotin hu he (pe_var hN hv hyd hcd)) hm) fun _ _ _ h => ddnin_rd h
theorem dtest_tB {K : PySem.W.Frag} {t : TD} {u : TE} {Q : Bool → Hp → Prop} (hu : ∀ Q : VK, rdV K t σ H Q → u σ H Q) (h : rdT K (dTest t) σ H Q) : tB u σ H Q := hu _ (dtest_rd h)
theorem dt_din (j : Nat) (hu : X.A.units + 1 < cLine) (he : DV X e te) (hN : X.N[j]? = some y := by rfl) (hv : Vis X.env.scope y := by first | exact Or.inl rfl | exact Or.inr (Or.inl rfl) | exact Or.inr (Or.inr rfl))
    (hyd : (y == ("__debug__" : Str)) = false := by decide) (hcd : (y == ("__classdict__" : Str)) = false := by decide) (hm : behindInMarks .In (.Name y py) = false := by rfl) : DT X (.Compare e [.In] [.Name y py] pos) (dTest (dDIn false te j)) :=
  pt_w (pt_cmp (pc_din hu he (pe_var hN hv hyd hcd)) hm) fun _ _ _ h => dtest_tB (fun _ => ddin_rd) h
theorem dt_dnin (j : Nat) (hu : X.A.units + 1 < cLine) (he : DV X e te) (hN : X.N[j]? = some y := by rfl) (hv : Vis X.env.scope y := by first | exact Or.inl rfl | exact Or.inr (Or.inl rfl) | exact Or.inr (Or.inr rfl))
    (hyd : (y == ("__debug__" : Str)) = false := by decide) (hcd : (y == ("__classdict__" : Str)) = false := by decide) (hm : behindInMarks .NotIn (.Name y py) = false := by rfl) : DT X (.Compare e [.NotIn] [.Name y py] pos) (dTest (dDIn true te j)) :=
  pt_w (pt_cmp (pc_dnotin hu he (pe_var hN hv hyd hcd)) hm) fun _ _ _ h => dtest_tB (fun _ => ddnin_rd) h
theorem ds_dput (j : Nat) (hu : X.A.units + 1 < cLine) (he : DV X e tv) (hi : DV X i tk) (hN : X.N[j]? = some y := by rfl) (hv : Vis X.env.scope y := by first | exact Or.inl rfl | exact Or.inr (Or.inl rfl) | exact Or.inr (Or.inr rfl))
    (hyd : (y == ("__debug__" : Str)) = false := by decide) (hcd : (y == ("__classdict__" : Str)) = false := by decide) (hs : swapsWith e (some (.Subscript (.Name y py) i pos')) pos.line X.env = pure false := by rfl) : DS X W (.Assign [.Subscript (.Name y py) i pos'] e pos) (sDPut j tk tv) :=
  ps_w (ps_dput hu (pe_var hN hv hyd hcd) hi he hs) fun D σ H ⟨c, G, ow, ε, A, R, h, k1, k2, k3, k4, k5⟩ => ⟨c, G, ow, ε, _, R, h, fun r ε1 G1 H1 ow1 v h1 F1 R1 V1 => by
    cases q : frz ε1 r with
    | none => simp only [q] at h1
    | some z =>
      obtain ⟨x, ε2⟩ := z
      simp only [q] at h1
      obtain ⟨G2, F2, sg, R2, d⟩ := frz_ok F1 R1 V1 q
      cases hl : look ε2 j with
      | un => simp only [hl] at h1
      | d _ => simp only [hl] at h1
      | lst _ _ => simp only [hl] at h1
      | v _ => simp only [hl] at h1
      | nt _ _ => simp only [hl] at h1
      | al _ _ _ => simp only [hl] at h1
      | ex _ => simp only [hl] at h1
      | dct fr0 kvs0 =>
        simp only [hl] at h1
        obtain ⟨o, ho⟩ := R2.some_at (i := j) (by rw [hl]; exact fun z => nomatch z)
        have q0 := R2.at ho
        rw [hl] at q0
        obtain ⟨p, vs0, rfl, _⟩ := q0
        refine ⟨.ref p, ho, c, G2, ow1, ε2, _, R2, h1, fun s ε3 G3 H3 ow3 u h3 F3 R3 V3 => ?_⟩
        split at h3
        · rename_i y0 kvs e3 hl3
          obtain ⟨k, hk, h3⟩ := onO_get h3
          obtain ⟨p2, kv, e2, m1, m2, m3⟩ := mut_dct (ys := putD kvs k x) R3 ho hl3
          cases e2
          obtain ⟨F4, R4⟩ := m3 (putK kv k v) (kv_put (dp_ex F3.ex x d) m2)
          refine ⟨p, _, rfl, ?_, k1 _ _ G3 _ ow3 h3.2 ((F2.trans F3).trans F4) R4⟩
          rw [keyD_ok (peek_ok R3 V3 e3) hk]
          exact DPut.k m1 (by rw [kv_len m2]; exact line_lt h3.1)
        · exact h3.elim⟩
end
/-! ### isinstance of data, built-in types -/
def tyD : PyData → String
  | .none => "NoneType"
  | .bool _ => "bool"
  | .int _ => "int"
  | .str _ => "str"
  | .list _ => "list"
  | .tuple _ => "tuple"
  | .dict _ => "dict"
def dIsi (t : TD) (T : String) : TD := fun ε A => t ε fun r ε1 => match peek ε1 r with
  | some x => onO (kitB (tyD x) T) fun b => A (.d (.bool b)) ε1
  | none => False
theorem tyX_of {K : PySem.W.Frag} {H : Hp} {v : V} : ∀ {x : PyData}, Dd K H v x → TyX K H v (.type (tyD x))
  | .none, h => by cases h; exact .base .non
  | .bool _, h => by cases h; exact .base (.bl _)
  | .int _, h => by cases h; exact .base (.int _)
  | .str _, h => by cases h; exact .base (.str _)
  | .list _, h => by
    cases h with
    | lst hs _ =>
      rcases hs with (hs | ⟨o, hs⟩) | ⟨o, its, n, h1, h2, _⟩
      · exact .base (.lst hs)
      · exact .base (.frz hs)
      · exact .kList h1 h2
  | .tuple _, h => by
    cases h with
    | tup hs _ =>
      rcases hs with (hs | ⟨o, hs⟩) | ⟨o, its, n, h1, h2, _⟩
      · exact .base (.tup hs)
      · exact .fTuple hs
      · exact .kTuple h1 h2
  | .dict _, h => by
    cases h with
    | dct hs => exact .base (.dK hs)
theorem dv_isi {X : Cx} {e : Expr} {t : TD} {p pos pT : Pos} {x : Str} {T : String} (he : DV X e t) (hg : Gl X "isinstance") (hm : X.mg "isinstance" = none) (hv : bootBuiltins "isinstance" = some (.builtin "isinstance")) (hgT : Gl X x) (hmT : X.mg x = none) (hvT : bootBuiltins x = some (.type T)) (hnT : x ≠ "__name__" := by decide) (hdT : (x == ("__debug__" : Str)) = false := by decide)
    (hs : starEach [e, .Name x pT] X.env = (false, eval e X.env) :: starEach [.Name x pT] X.env := by rfl) (hs2 : starEach [.Name x pT] X.env = (false, eval (.Name x pT) X.env) :: starEach [] X.env := by rfl) (hp : (backTo pos (starEach [.Name x pT] X.env)).any (·.1) = false := by rfl) :
    DV X (.Call (.Name "isinstance" p) [e, .Name x pT] [] pos) (dIsi t T) :=
  pe_w (pe_callB call_isi hg hm hv (pa_cons he (pa_cons (pe_bltn hgT hmT hvT (v := .ty T) rfl hnT hdT) pa_nil hs2) hs) (by decide) (by decide) hs hp) fun σ H Q ⟨c, G, ow, ε, A, R, h, kk⟩ => ⟨c, G, ow, ε, _, R, h, fun r ε1 G1 H1 ow1 v h1 F1 R1 V1 => by
    split at h1
    · rename_i d e
      obtain ⟨b, hb, h1⟩ := onO_get h1
      exact ⟨v, .ty T, _, _, b, rfl, .ty T, tyX_of ((peek_ok R1 V1 e).dp R1.ex), kit_ty hb, kk _ ε1 G1 H1 ow1 _ h1 F1 R1 (.bl b)⟩
    · exact h1.elim⟩

/-! ### a unary minus; a, b = x, y -/
def kNeg : PyData → (Vl → Prop) → Prop := fun x A => match x with
  | .int i => A (.d (.int (-i)))
  | _ => False
theorem dv_neg {X : Cx} {e : Expr} {t : TD} {pos : Pos} (he : DV X e t) : DV X (.UnaryOp .USub e pos) (dUn kNeg t) := pe_w (pe_un un_neg he) fun σ H Q ⟨c, G, ow, ε, A, R, h, kk⟩ => ⟨c, G, ow, ε, _, R, h, fun r ε1 G1 H1 ow1 v h1 F1 R1 V1 => by
  split at h1
  · rename_i x e
    unfold kNeg at h1
    split at h1
    · exact ⟨_, (peek_ok R1 V1 e).int, kk _ ε1 G1 H1 ow1 _ h1 F1 R1 (.int _)⟩
    · exact h1.elim
  · exact h1.elim⟩
def sPar (i j : Nat) (t : TDF) : TDS := fun A ε => t ε fun xs ε1 => match xs with
  | [x, y] => A.nx (put (put ε1 i (.d x)) j (.d y))
  | _ => False
theorem ds_par {X : Cx} {i j : Nat} {x y : Str} {a b : Expr} {t : TDF} {px py pt : Pos} {kt k2 pt2 pos} (hc : X.calm = true) (hN : X.N.Nodup) (hi : X.N[i]? = some x) (hj : X.N[j]? = some y) (hij : i ≠ j)
    (hx : X.env.scope.names.lookup x = some .local) (hy : X.env.scope.names.lookup y = some .local) (ha : DF X [a, b] t)
    (hw : swappedStores [.Tuple [.Name x px, .Name y py] kt pt] (.Tuple [a, b] k2 pt2) X.env = pure (some [x, y]))
    (hs : swapsWithSole [.Tuple [.Name x px, .Name y py] kt pt] (.Tuple [a, b] k2 pt2) pos.line X.env = pure false := by rfl) :
    DS X W (.Assign [.Tuple [.Name x px, .Name y py] kt pt] (.Tuple [a, b] k2 pt2) pos) (sPar i j t) :=
  ps_wl (ps_par hc hN hi hj hij hx hy ha hw hs) fun D σ H hlen ⟨c, G, ow, ε, A, R, h, k1, k2, k3, k4, k5⟩ => ⟨c, G, ow, ε, _, R, h, fun xs ε1 G1 H1 ow1 vs h1 F1 R1 V1 => by
    match xs, V1 with
    | [x, y], .cons d1 (.cons d2 .nil) =>
      have e1 : i < ε1.length := by
        rw [← R1.len, hlen]
        exact (List.getElem?_eq_some_iff.mp hi).1
      have e2 : j < ε1.length := by
        rw [← R1.len, hlen]
        exact (List.getElem?_eq_some_iff.mp hj).1
      exact ⟨_, _, rfl, k1 _ _ G1 H1 ow1 h1 F1 (rep_put (rep_put R1 e1 ⟨_, rfl, d1⟩) (by rw [put_length]; exact e2) ⟨_, rfl, d2⟩)⟩
    | [], _ => exact h1.elim
    | [_], _ => exact h1.elim
    | _ :: _ :: _ :: _, _ => exact h1.elim⟩
/-! ### the law -/
def spLaw (K : PySem.W.Frag) : Sp := fun vs H Q _ => ∃ (a : Addr) (ns : List Int), vs = [.ref a] ∧ SqL K H a (ns.map V.int) ∧ ns.length ≤ 63 ∧ ∀ H', Q (.bl true) H'
def SLaw : DSp := fun ps A => ∃ ns : List Int, ps = [.d (.list (ns.map .int))] ∧ ns.length ≤ 63 ∧ ∀ ps', A (.d (.bool true)) ps'
theorem law_ok {P : Program} {w : World} {K : PySem.W.Frag} {mg : Str → Option Value} {base : Heap} {k : Nat} {f : Addr} {fd : FuncData} {ps : List Str} (F : FnOk P w K mg base CX0 k f fd ps (spD K 1 SLaw)) : FnOk P w K mg base CX0 k f fd ps (spLaw K) :=
  F.imp fun vs H Q E ⟨a, ns, e, hS, hl, q⟩ => by
    subst e
    refine ⟨⟨H, fun _ => none, fun _ => none⟩, H, fun _ => none, [.d (.list (ns.map .int))], fun r _ => r = .d (.bool true), rfl, ⟨Same.refl H, fun _ z => z, rfl, fun i o z => ?_⟩, rfl, (fun i p z => by cases (show (none : Option Addr) = some p from z)), ⟨ns, rfl, hl, fun _ => rfl⟩, fun r ps' v G' H' ow' z F R V => ?_⟩
    · match i with
      | 0 =>
        cases z
        exact ⟨_, rfl, .lst hS (dpa_ofInts ns)⟩
      | i + 1 => simp at z
    · subst z
      cases (show Dd K G' v (.bool true) from V)
      exact q H'

/-! ### readings, one step at a time: only what stands under ev is gone on with -/
def ev (P : Prop) : Prop := P
theorem ev_of {P : Prop} (h : ev P) : P := h
section
variable {A : Vl → Ep → Prop} {B : Bool → Ep → Prop} {C : List Vl → Ep → Prop} {D : DEnds} {E : List PyData → Ep → Prop} {N : Ep → Prop} {O : Option Int → Ep → Prop} {ε : Ep} {i j n : Nat} {t u v : TD} {p q : TDT} {a : TDA} {f : TDF} {g : TDG} {gs : TDGs} {s r : TDS} {x : PyData} {xs acc : List PyData} {to1 to2 : TDO} {S : DSp} {vs : List Nat}
theorem ap_seq : ev (sSeq s r D ε) = ev (s { nx := r D, rt := D.rt, bk := D.bk, ct := D.ct, xc := D.xc } ε) := id rfl
theorem ap_next : ev (sNext D ε) = ev (D.nx ε) := id rfl
theorem ap_brk : ev (sBrk D ε) = ev (D.bk ε) := id rfl
theorem ap_cnt : ev (sCnt D ε) = ev (D.ct ε) := id rfl
theorem ap_expr : ev (sExpr t D ε) = ev (t ε fun _ ε1 => D.nx ε1) := id rfl
theorem ap_ret : ev (sRet t D ε) = ev (t ε fun r ε1 => match unbor ε1 r with
  | some (r', ε2) => D.rt r' ε2
  | none => False) := id rfl
theorem ap_retN : ev (sRetN D ε) = ev (D.rt (.d .none) ε) := id rfl
theorem ap_if : ev (sIf p s r D ε) = ev (p ε fun b ε1 => onB b (s D ε1) (r D ε1)) := id rfl
theorem ap_asg : ev (sAsg t g D ε) = ev (t ε fun r ε1 => match frz ε1 r with
  | some (x, ε2) => g x ε2 D.nx
  | none => False) := id rfl
theorem ap_set : ev (sSet i t D ε) = ev (t ε fun r ε1 => match slOf ε1 r with
  | some (s, ε2) => D.nx (put ε2 i s)
  | none => False) := id rfl
theorem ap_seti : ev (sSetI j t u D ε) = ev (t ε fun r ε1 => match frz ε1 r with
  | some (x, ε2) => match look ε2 j with
    | .lst _ _ => u ε2 fun s ε3 => match peek ε3 s, look ε3 j with
      | some (.int i), .lst fr xs => onO (ixN xs.length i) fun m => D.nx (put ε3 j (.lst fr (xs.set m x)))
      | _, _ => False
    | _ => False
  | none => False) := id rfl
theorem ap_par : ev (sPar i j f D ε) = ev (f ε fun xs ε1 => match xs with
  | [x, y] => D.nx (put (put ε1 i (.d x)) j (.d y))
  | _ => False) := id rfl
theorem ap_dput : ev (sDPut j t u D ε) = ev (u ε fun r ε1 => match frz ε1 r with
  | some (x, ε2) => match look ε2 j with
    | .dct _ _ => t ε2 fun s ε3 => match peek ε3 s, look ε3 j with
      | some y, .dct fr kvs => onO (keyD y) fun k => kvs.length < 1000000 ∧ D.nx (put ε3 j (.dct fr (putD kvs k x)))
      | _, _ => False
    | _ => False
  | none => False) := id rfl
theorem ap_forL : ev (sForL t g s D ε) = ev (t ε fun r ε1 => match frz ε1 r with
  | some (.list ds, ε2) => forGo noI g s D ds ε2
  | _ => False) := id rfl
theorem ap_forT : ev (sForT t g s D ε) = ev (t ε fun r ε1 => match frz ε1 r with
  | some (.tuple ds, ε2) => forGo noI g s D ds ε2
  | _ => False) := id rfl
theorem ap_forR : ev (sForR a g s D ε) = ev (a ε fun rs ε1 => match peekAll ε1 rs with
  | some [.int j] => -(2 ^ 62) ≤ j ∧ j < 2 ^ 62 ∧ forGo noI g s D (rngD 0 j.toNat) ε1
  | _ => False) := id rfl
theorem ap_while : ev (sWhile p s D ε) = ev (∃ n, whGo p s D n ε) := id rfl
theorem ap_wh : ev (whGo p s D (n + 1) ε) = ev (p ε fun k ε1 => onB k (s { nx := whGo p s D n, rt := D.rt, bk := D.nx, ct := whGo p s D n, xc := D.xc } ε1) (D.nx ε1)) := id rfl
theorem ap_nm : ev (gNm i x ε N) = ev (N (put ε i (.d x))) := id rfl
theorem ap_gtp : ev (gTp n gs (.tuple xs) ε N) = (xs.length = n ∧ ev (gs xs ε N)) := id rfl
theorem ap_gnil : ev (gsNil [] ε N) = ev (N ε) := id rfl
theorem ap_gcons : ev (gsCons g gs (x :: xs) ε N) = ev (g x ε fun ε1 => gs xs ε1 N) := id rfl
theorem ap_var : ev (dVar i ε A) = ev (match look ε i with
  | .d x => A (.d x) ε
  | .lst _ _ => A (.bor i) ε
  | .dct _ _ => A (.bor i) ε
  | .v x => A (.v x) ε
  | .nt _ (.node a _ _) => A (.bp i [] a) ε
  | .nt _ (.fz _) => False
  | .al j p a => A (.bp j p a) ε
  | .ex nm => A (.ex nm) ε
  | .un => False) := id rfl
theorem ap_c : ev (dC x ε A) = ev (A (.d x) ε) := id rfl
theorem ap_op {k : PyData → PyData → (Vl → Prop) → Prop} : ev (dOp k t u ε A) = ev (t ε fun r1 ε1 => u ε1 fun r2 ε2 => match peek ε2 r1, peek ε2 r2 with
  | some x, some y => k x y fun r => A r ε2
  | _, _ => False) := id rfl
theorem ap_un {k : PyData → (Vl → Prop) → Prop} : ev (dUn k t ε A) = ev (t ε fun r1 ε1 => match peek ε1 r1 with
  | some x => k x fun r => A r ε1
  | _ => False) := id rfl
theorem ap_test : ev (dTest t ε B) = ev (t ε fun r ε1 => match r with
  | .d (.bool b) => B b ε1
  | _ => False) := id rfl
theorem ap_and : ev (dAnd p q ε B) = ev (p ε fun c ε1 => onB c (q ε1 B) (B false ε1)) := id rfl
theorem ap_or : ev (dOr p q ε B) = ev (p ε fun c ε1 => onB c (B true ε1) (q ε1 B)) := id rfl
theorem ap_not : ev (dNot p ε B) = ev (p ε fun c ε1 => B (!c) ε1) := id rfl
theorem ap_yes : ev (dYes ε B) = ev (B true ε) := id rfl
theorem ap_andV : ev (dAndV t u ε A) = ev (t ε fun r ε1 => match r with
  | .d (.bool b) => onB b (u ε1 A) (A (.d (.bool false)) ε1)
  | _ => False) := id rfl
theorem ap_orV : ev (dOrV t u ε A) = ev (t ε fun r ε1 => match r with
  | .d (.bool b) => onB b (A (.d (.bool true)) ε1) (u ε1 A)
  | _ => False) := id rfl
theorem ap_notV : ev (dNotV t ε A) = ev (t ε fun r ε1 => match r with
  | .d (.bool b) => A (.d (.bool (!b))) ε1
  | _ => False) := id rfl
theorem ap_ifE : ev (dIfE p t u ε A) = ev (p ε fun b ε1 => onB b (t ε1 A) (u ε1 A)) := id rfl
theorem ap_anil : ev (daNil ε C) = ev (C [] ε) := id rfl
theorem ap_acons : ev (daCons t a ε C) = ev (t ε fun r ε1 => a ε1 fun rs ε2 => C (r :: rs) ε2) := id rfl
theorem ap_fnil : ev (dfNil ε E) = ev (E [] ε) := id rfl
theorem ap_fcons : ev (dfCons t f ε E) = ev (t ε fun r ε1 => match frz ε1 r with
  | some (x, ε2) => f ε2 fun xs ε3 => E (x :: xs) ε3
  | none => False) := id rfl
theorem ap_tup : ev (dTup f ε A) = ev (f ε fun xs ε1 => xs.length ≤ 1000000 ∧ A (.d (.tuple xs)) ε1) := id rfl
theorem ap_lst : ev (dLst f ε A) = ev (f ε fun xs ε1 => xs.length ≤ 1000000 ∧ A (.new xs) ε1) := id rfl
theorem ap_dct : ev (dDct ε A) = ev (A (.dk []) ε) := id rfl
theorem ap_cb {k : List PyData → (Vl → Prop) → Prop} : ev (dCB k a ε A) = ev (a ε fun rs ε1 => match peekAll ε1 rs with
  | some xs => k xs fun r => A r ε1
  | none => False) := id rfl
theorem ap_isi {T : String} : ev (dIsi t T ε A) = ev (t ε fun r ε1 => match peek ε1 r with
  | some x => onO (kitB (tyD x) T) fun b => A (.d (.bool b)) ε1
  | none => False) := id rfl
theorem ap_sl : ev (dSlL t to1 to2 ε A) = ev (t ε fun r ε1 => to1 ε1 fun l ε2 => to2 ε2 fun u ε3 => match peek ε3 r with
  | some (.list xs) => A (.new (cutD xs l u)) ε3
  | _ => False) := id rfl
theorem ap_nopart : ev (dNoPart ε O) = ev (O none ε) := id rfl
theorem ap_part : ev (dPart t ε O) = ev (t ε fun r ε1 => match peek ε1 r with
  | some (.int i) => O (some i) ε1
  | _ => False) := id rfl
theorem ap_lstrg : ev (dLstRg t ε A) = ev (t ε fun r ε1 => match peek ε1 r with
  | some (.int n) => (0 ≤ n ∧ n ≤ 1000000) ∧ A (.new (rngD 0 n.toNat)) ε1
  | _ => False) := id rfl
theorem ap_mut {k : List PyData → List PyData → (PyData → List PyData → Prop) → Prop} : ev (dMut j k f ε A) = ev (match look ε j with
  | .lst _ _ => f ε fun ds ε1 => match look ε1 j with
    | .lst fr xs => k ds xs fun d ys => A (.d d) (put ε1 j (.lst fr ys))
    | _ => False
  | _ => False) := id rfl
theorem ap_call : ev (dCall S f ε A) = ev (f ε fun ds ε1 => runS S (ds.map .d) fun r _ => A r ε1) := id rfl
theorem ap_callS : ev (dCallS j S f ε A) = ev (match look ε j with
  | .lst _ _ => f ε fun ds ε1 => match look ε1 j with
    | .lst fr xs => runS S (.lst false xs :: ds.map .d) fun r ps => match ps with
      | .lst false ys :: _ => A r (put ε1 j (.lst fr ys))
      | _ => False
    | _ => False
  | _ => False) := id rfl
theorem ap_din {neg : Bool} : ev (dDIn neg t j ε A) = ev (t ε fun r ε1 => match peek ε1 r, look ε1 j with
  | some x, .dct _ kvs => onO (keyD x) fun k => A (.d (.bool (if neg then !(valD kvs k).isSome else (valD kvs k).isSome))) ε1
  | _, _ => False) := id rfl
theorem ap_lcL : ev (dLcL t g p u vs ε A) = ev (t ε fun r ε1 => match frz ε1 r with
  | some (.list ds, ε2) => lcGo noI g p u vs (fun acc ε' => A (.new acc) (rstE ε2 ε' vs)) ds [] (wipeE ε2 vs)
  | _ => False) := id rfl
theorem ap_lcT : ev (dLcT t g p u vs ε A) = ev (t ε fun r ε1 => match frz ε1 r with
  | some (.tuple ds, ε2) => lcGo noI g p u vs (fun acc ε' => A (.new acc) (rstE ε2 ε' vs)) ds [] (wipeE ε2 vs)
  | _ => False) := id rfl
theorem ap_lcR : ev (dLcR a g p u vs ε A) = ev (a ε fun rs ε1 => match peekAll ε1 rs with
  | some [.int j] => -(2 ^ 62) ≤ j ∧ j < 2 ^ 62 ∧ lcGo noI g p u vs (fun acc ε' => A (.new acc) (rstE ε1 ε' vs)) (rngD 0 j.toNat) [] (wipeE ε1 vs)
  | _ => False) := id rfl
theorem ap_lcnil {I : Ep → Prop} : ev (lcGo I g p u vs E [] acc ε) = (I ε ∧ ev (E acc ε)) := id rfl
theorem ap_lccons {I : Ep → Prop} : ev (lcGo I g p u vs E (x :: xs) acc ε) = (I ε ∧ ev (g x ε fun ε1 => p ε1 fun b ε2 => onB b (u ε2 fun r ε3 => match frz ε3 r with
    | some (y, ε4) => acc.length < 1000000 ∧ lcGo I g p u vs E xs (acc ++ [y]) (wipeE ε4 vs)
    | none => False) (lcGo I g p u vs E xs acc (wipeE ε2 vs)))) := id rfl
theorem ap_forB : ev (sForB j g s D ε) = ev (match look ε j with
  | .lst fr xs => forGo (fun ε' => look ε' j = .lst fr xs) g s { nx := D.nx, rt := D.rt, bk := D.bk, ct := D.ct, xc := D.xc } xs ε
  | _ => False) := id rfl
theorem ap_lcB : ev (dLcB j g p u vs ε A) = ev (match look ε j with
  | .lst fr xs => lcGo (fun ε' => look ε' j = .lst fr xs) g p u vs (fun acc ε' => A (.new acc) (rstE ε ε' vs)) xs [] (wipeE ε vs)
  | _ => False) := id rfl
theorem wp_nil : wipeE ε [] = ε := id rfl
theorem wp_cons : wipeE ε (i :: vs) = put (wipeE ε vs) i .un := id rfl
theorem rs_nil {ε' : Ep} : rstE ε ε' [] = ε' := id rfl
theorem rs_cons {ε' : Ep} : rstE ε ε' (i :: vs) = put (rstE ε ε' vs) i (keepS (look ε i)) := id rfl
theorem kp_d : keepS (.d x) = .d x := id rfl
theorem kp_un : keepS .un = .un := id rfl
theorem ev_ev {P : Prop} : ev (ev P) = ev P := id rfl
theorem kd_i {z1 : Int} : keyD (.int z1) = some (.inl z1) := id rfl
theorem kd_s {z1 : Str} : keyD (.str z1) = some (.inr z1) := id rfl
theorem ev_and {P Q : Prop} : ev (P ∧ Q) = (P ∧ ev Q) := id rfl
theorem ev_t {X Y : Prop} : ev (onB true X Y) = ev X := id rfl
theorem ev_f {X Y : Prop} : ev (onB false X Y) = ev Y := id rfl
theorem ev_s {α : Type} {d : α} {k : α → Prop} : ev (onO (some d) k) = ev (k d) := id rfl
/-! what operators and built-ins give, where the values are there -/
variable {V : Vl → Prop} {W : PyData → List PyData → Prop} {y : PyData} {ys : List PyData} {z1 z2 : Int} {gg : Int → Int → PyData} {g2 : Int → Int → Int} {CC : Int → Int → Prop} {neg : Bool}
theorem k_I0 : kI0 gg (.int z1) (.int z2) V = V (.d (gg z1 z2)) := id rfl
theorem k_I : kI CC gg (.int z1) (.int z2) V = (CC z1 z2 ∧ V (.d (gg z1 z2))) := id rfl
theorem k_Eq : kEq x y V = (SeqAt.shaped x = true ∧ SeqAt.shaped y = true ∧ V (.d (.bool (PyData.eqv x y)))) := id rfl
theorem k_Ne : kNe x y V = (SeqAt.shaped x = true ∧ SeqAt.shaped y = true ∧ V (.d (.bool (!PyData.eqv x y)))) := id rfl
theorem k_IsN : kIsN neg x .none V = V (.d (.bool (if neg then !isN x else isN x))) := id rfl
theorem k_InL : kIn neg x (.list ys) V = (flatD x = true ∧ ys.all flatD = true ∧ V (.d (.bool (if neg then !inD x ys else inD x ys)))) := id rfl
theorem k_InT : kIn neg x (.tuple ys) V = (flatD x = true ∧ ys.all flatD = true ∧ V (.d (.bool (if neg then !inD x ys else inD x ys)))) := id rfl
theorem k_Cat : kCat (.list xs) (.list ys) V = (xs.length + ys.length ≤ 1000000 ∧ V (.new (xs ++ ys))) := id rfl
theorem k_IxL : kIx (.list xs) (.int z1) V = onO (atI xs z1) fun d => V (.d d) := id rfl
theorem k_IxT : kIx (.tuple xs) (.int z1) V = onO (atI xs z1) fun d => V (.d d) := id rfl
theorem k_LenL : kLen [.list xs] V = V (.d (.int (xs.length : Nat))) := id rfl
theorem k_LenT : kLen [.tuple xs] V = V (.d (.int (xs.length : Nat))) := id rfl
theorem k_ListL : kList [.list xs] V = V (.new xs) := id rfl
theorem k_ListT : kList [.tuple xs] V = V (.new xs) := id rfl
theorem k_TupleL : kTuple [.list xs] V = V (.d (.tuple xs)) := id rfl
theorem k_TupleT : kTuple [.tuple xs] V = V (.d (.tuple xs)) := id rfl
theorem k_I2 : kI2 g2 [.int z1, .int z2] V = V (.d (.int (g2 z1 z2))) := id rfl
theorem k_Abs : kAbs [.int z1] V = V (.d (.int (if z1 < 0 then -z1 else z1))) := id rfl
theorem k_Neg : kNeg (.int z1) V = V (.d (.int (-z1))) := id rfl
theorem k_App : kAppend [y] xs W = (xs.length < 1000000 ∧ W .none (xs ++ [y])) := id rfl
theorem k_PopAt : kPopAt [.int z1] xs W = (0 ≤ z1 ∧ xs.length ≤ 1000000 ∧ onO xs[z1.toNat]? fun y => W y (xs.eraseIdx z1.toNat)) := id rfl
theorem lk_0 {s : Sl} {r : Ep} : look (s :: r) 0 = s := id rfl
theorem lk_s {s : Sl} {r : Ep} {n : Nat} : look (s :: r) (n + 1) = look r n := id rfl
theorem pt_0 {s s' : Sl} {r : Ep} : put (s :: r) 0 s' = s' :: r := id rfl
theorem pt_s {s s' : Sl} {r : Ep} {n : Nat} : put (s :: r) (n + 1) s' = s :: put r n s' := id rfl
end
end DL

/-! DL2: more rules of the data layer. -/
namespace DL
open PySem PySem.Spec PyProof.Rows L2
/-! ### is, is not of truths; int of a truth -/
def kIsB (neg : Bool) : PyData → PyData → (Vl → Prop) → Prop := fun x y A => match x, y with
  | .bool a, .bool b => A (.d (.bool (if neg then !decide (a = b) else decide (a = b))))
  | _, _ => False
def kInt : List PyData → (Vl → Prop) → Prop := fun xs A => match xs with
  | [.int i] => A (.d (.int i))
  | [.bool b] => A (.d (.int (if b then 1 else 0)))
  | _ => False
/-- tuple + tuple -/
def kCatT : PyData → PyData → (Vl → Prop) → Prop := fun x y A => match x, y with
  | .tuple xs, .tuple ys => xs.length + ys.length ≤ 1000000 ∧ A (.d (.tuple (xs ++ ys)))
  | _, _ => False
/-- list * int -/
def kRep : PyData → PyData → (Vl → Prop) → Prop := fun x y A => match x, y with
  | .list xs, .int k => (-(2 ^ 63) ≤ k ∧ k < 2 ^ 63 ∧ xs.length * k.toNat ≤ 1000000) ∧ A (.new (List.replicate k.toNat xs).flatten)
  | _, _ => False
/-- one sign in a text -/
def sign1 (s : Str) : Option Nat := match s.cps.toList with
  | [c] => some c
  | _ => none
def kInS (neg : Bool) : PyData → PyData → (Vl → Prop) → Prop := fun x y A => match x, y with
  | .str s, .str z => onO (sign1 s) fun c => A (.d (.bool (if neg then !decide (c ∈ z.cps.toList) else decide (c ∈ z.cps.toList))))
  | _, _ => False
section
variable {K : PySem.W.Frag}
theorem od_isB : OpD K rIsB (kIsB false) := fun G H x y v1 v2 A Q e p1 p2 h k => by
  unfold kIsB at h
  split at h
  · exact ⟨_, _, p1.bl, p2.bl, k _ _ _ h (.val (.bl _))⟩
  · exact h.elim
theorem od_notB : OpD K rNotB (kIsB true) := fun G H x y v1 v2 A Q e p1 p2 h k => by
  unfold kIsB at h
  split at h
  · exact ⟨_, _, p1.bl, p2.bl, k _ _ _ h (.val (.bl _))⟩
  · exact h.elim
theorem cd_int : CallD K (fun xs H Q => (∃ i, xs = [.int i] ∧ Q (.int i) H) ∨ ∃ k, xs = [.bl k] ∧ Q (.int (if k then 1 else 0)) H) kInt := fun G H xs vs A Q e p h k => by
  unfold kInt at h
  split at h
  · obtain ⟨v, rfl, p1⟩ := pk1 p
    cases p1.int
    exact .inl ⟨_, rfl, k _ _ _ h (.val (.int _))⟩
  · obtain ⟨v, rfl, p1⟩ := pk1 p
    cases p1.bl
    exact .inr ⟨_, rfl, k _ _ _ h (.val (.int _))⟩
  · exact h.elim
theorem Pk.tupD {G H : Hp} {v : V} {xs : List PyData} (h : Pk K G H v (.tuple xs)) : Dd K G v (.tuple xs) := by
  rcases h with h | ⟨_, _, _, _, e, _⟩
  · exact h
  · cases e
theorem od_catT : OpD K (rCatA K) kCatT := fun G H x y v1 v2 A Q e p1 p2 h k => by
  unfold kCatT at h
  split at h
  · rename_i xs ys
    have q1 := p1.tupD
    have q2 := p2.tupD
    obtain ⟨p, vs, rfl, hs, ha⟩ := p1.tuple e
    obtain ⟨q, us, rfl, hs2, ha2⟩ := p2.tuple e
    refine ⟨p, q, vs, us, rfl, rfl, hs, hs2, by rw [dpa_len ha, dpa_len ha2]; exact line_le h.1, fun h0 => ?_, fun h0 h1 => ?_, fun h0 h1 r hr => k _ _ _ h.2 (.tup hr (dpa_app ha ha2))⟩
    · subst h0
      cases ha
      exact k _ _ _ h.2 (.val q2)
    · subst h1
      cases ha2
      have hA := h.2
      rw [List.append_nil] at hA
      exact k _ _ _ hA (.val q1)
  · exact h.elim
def rRepR (K : PySem.W.Frag) : R2 := fun x y H Q => ∃ l k xs, x = .ref l ∧ y = .int k ∧ SqL K H l xs ∧ -(2 ^ 63) ≤ k ∧ k < 2 ^ 63 ∧ xs.length * k.toNat ≤ sizeLine ∧ ∀ p, H p = none → Q (.ref p) (upd H p (.lst (List.replicate k.toNat xs).flatten))
theorem op_repR {X : Cx} : OpR X (binaryOp .Mult) (rRepR X.K) := by
  intro pins s σ H x y v u Q I rx ry h
  obtain ⟨l, x, xs, rfl, rfl, hH, h1, h2, hz, q⟩ := h
  cases rx
  obtain ⟨t, rfl⟩ := ry
  obtain ⟨is1, r, P1, _⟩ := I.list hH
  obtain ⟨⟨cls, d, dat, sl⟩, ho, hc, n, hd⟩ := P1.isList
  simp only at hc hd
  subst hc hd
  have l1 := r.length
  have hs : sizeLine = 2 ^ 24 := rfl
  have big : is1.toArray.size * x.toNat ≤ 2 ^ 24 := by
    rw [List.size_toArray, ← l1, ← hs]
    exact hz
  refine wpAny_binaryOp_repeat_ref (T := "list") (U := "int") (by decide) ⟨_, ho, rfl⟩ (fun s' => typeIs_int s' x t) noFill_list_mul PySem.F.fills_int_mul PySem.F.slot_int_rmul
    repeat_list PySem.F.slot_int_index.lookup
    (call_meets PySem.F.slot_int_rmul (typeIs_int s x t) PySem.F.entry_int_rmul (PySem.F.args_int_rmul_2 _ _) (lm_int_rmul_list_any x t l is1.toArray n d sl)
      ⟨ho, rfl, ⟨_, ho, rfl⟩, call_meets PySem.F.slot_list_mul ⟨_, ho, rfl⟩ PySem.F.entry_list_mul (PySem.F.args_list_mul_2 _ _)
        (lm_list_mul_any l is1.toArray n d sl x t (by simp [Builtin.List.listFitsIndex]; omega) (by omega) (by simp [Builtin.List.listTooLong, sizeLine]; omega)) ⟨ho, ?_⟩⟩)
  rw [listMul_foldl_if]
  exact ⟨.ref _, _, I.lnew (t' := s.toks) (r.rep x.toNat) (by rw [PyProof.Rows.lm_len_rep_flat, Nat.mul_comm]; exact hz), rfl, q _ I.fresh⟩
theorem dpa_rep {H : Hp} {vs : List V} {xs : List PyData} (h : DdAll K H vs xs) : ∀ n : Nat, DdAll K H (List.replicate n vs).flatten (List.replicate n xs).flatten
  | 0 => .nil
  | n + 1 => by
    rw [List.replicate_succ, List.replicate_succ, List.flatten_cons, List.flatten_cons]
    exact dpa_app h (dpa_rep h n)
theorem od_rep : OpD K (rRepR K) kRep := fun G H x y v1 v2 A Q e p1 p2 h k => by
  unfold kRep at h
  split at h
  · obtain ⟨p, vs, rfl, hs, ha⟩ := p1.list e
    cases p2.int
    exact ⟨p, _, vs, rfl, rfl, hs, h.1.1, h.1.2.1, by rw [dpa_len ha]; exact line_le h.1.2.2, fun r hr => k _ _ _ h.2 (.lst hr (dpa_rep ha _))⟩
  · exact h.elim
theorem sign1_of {s : Str} {c : Nat} (h : sign1 s = some c) : s = ⟨#[c]⟩ := by
  unfold sign1 at h
  split at h
  · rename_i c' e
    cases h
    obtain ⟨a⟩ := s
    have : a = #[c] := by
      apply Array.ext'
      simpa using e
    rw [this]
  · cases h
theorem od_inS : OpD K (fun x y H Q => ∃ (c : Nat) (z : Str), x = .str ⟨#[c]⟩ ∧ y = .str z ∧ Q (.bl (decide (c ∈ z.cps.toList))) H) (kInS false) := fun G H x y v1 v2 A Q e p1 p2 h k => by
  unfold kInS at h
  split at h
  · obtain ⟨c, hc, h⟩ := onO_get h
    have e1 := sign1_of hc
    subst e1
    exact ⟨c, _, p1.str, p2.str, k _ _ _ h (.val (.bl _))⟩
  · exact h.elim
theorem od_notinS : OpD K (fun x y H Q => ∃ (c : Nat) (z : Str), x = .str ⟨#[c]⟩ ∧ y = .str z ∧ Q (.bl (!decide (c ∈ z.cps.toList))) H) (kInS true) := fun G H x y v1 v2 A Q e p1 p2 h k => by
  unfold kInS at h
  split at h
  · obtain ⟨c, hc, h⟩ := onO_get h
    have e1 := sign1_of hc
    subst e1
    exact ⟨c, _, p1.str, p2.str, k _ _ _ h (.val (.bl _))⟩
  · exact h.elim
end
/-! ### xs[::-1] -/
def dRev (t : TD) : TD := fun ε A => t ε fun r ε1 => match peek ε1 r with
  | some (.list xs) => A (.new xs.reverse) ε1
  | _ => False
theorem dpa_rev {K : PySem.W.Frag} {H : Hp} : ∀ {vs : List V} {xs : List PyData}, DdAll K H vs xs → DdAll K H vs.reverse xs.reverse
  | _, _, .nil => .nil
  | _, _, .cons h t => by
    rw [List.reverse_cons, List.reverse_cons]
    exact dpa_app (dpa_rev t) (dpa_one h)
theorem dv_rev {X : Cx} {e : Expr} {t : TD} {k : Nat} {p1 p2 p3 pos : Pos} (he : DV X e t) : DV X (.Subscript e (.Slice none none (some (.UnaryOp .USub (.Constant (.int 1) k p1) p2)) p3) pos) (dRev t) :=
  pe_w (pe_revL he) fun σ H Q ⟨c, G, ow, ε, A, R, h, kk⟩ => ⟨c, G, ow, ε, _, R, h, fun r ε1 G1 H1 ow1 v h1 F1 R1 V1 => by
    split at h1
    · rename_i xs e
      obtain ⟨p, vs, rfl, hs, ha⟩ := (peek_ok R1 V1 e).list R1.ex
      refine ⟨p, vs, rfl, hs, fun q hq => ?_⟩
      obtain ⟨G', ow', F4, R4, V4⟩ := res_fin R1 (.lst hq (dpa_rev ha))
      exact kk _ _ G' _ ow' _ h1 (F1.trans F4) R4 (V4.since F1.dom)
    · exact h1.elim⟩
/-! ### a < b < c -/
def dChain (k k' : PyData → PyData → (Vl → Prop) → Prop) (ta tb tc : TD) : TD := fun ε A => ta ε fun r1 ε1 => tb ε1 fun r2 ε2 => match r2, peek ε2 r1 with
  | .d y, some x => k x y fun r => match r with
    | .d (.bool b) => onB b (tc ε2 fun r3 ε3 => match peek ε3 r3 with
      | some z => k' y z fun r => A r ε3
      | none => False) (A (.d (.bool false)) ε2)
    | _ => False
  | _, _ => False
theorem dv_chain {X : Cx} {op op' : CmpOp} {r r' : R2} {k k' : PyData → PyData → (Vl → Prop) → Prop} {a b c : Expr} {ta tb tc : TD} {pos : Pos} (ho : OpR X (compareOp op) r) (ho' : OpR X (compareOp op') r') (hk : OpD X.K r k) (hk' : OpD X.K r' k') (ha : DV X a ta) (hb : DV X b tb) (hc : DV X c tc)
    (hm : lastMarks [op, op'] [b, c] = false := by with_unfolding_all rfl) : DV X (.Compare a [op, op'] [b, c] pos) (dChain k k' ta tb tc) :=
  pe_w (pe_chain ho ho' ha hb hc hm) fun σ H Q ⟨c, G, ow, ε, A, R, h, kk⟩ => ⟨c, G, ow, ε, _, R, h, fun r1 ε1 G1 H1 ow1 v1 h1 F1 R1 V1 => ⟨c, G1, ow1, ε1, _, R1, h1, fun r2 ε2 G2 H2 ow2 v2 h2 F2 R2 V2 => by
    have F := F1.trans F2
    split at h2
    · rename_i y x e1
      have d2 : Dd X.K G2 v2 y := V2
      refine hk G2 H2 x y v1 v2 _ _ R2.ex (peek_ok R2 (V1.fr F2) e1) (.inl d2) h2 fun r v H' hr hres => ?_
      obtain ⟨G', ow', F3, R3, V3⟩ := res_fin R2 hres
      split at hr
      · rename_i b
        have V3 : Dd X.K G' v (.bool b) := V3
        cases V3
        refine ⟨b, rfl, ?_⟩
        cases b with
        | true =>
          refine iteT ⟨c, G', ow', ε2, _, R3, hr, fun r3 ε3 G4 H4 ow4 v4 h4 F4 R4 V4 => ?_⟩
          split at h4
          · rename_i z e4
            refine hk' G4 H4 y z v2 v4 _ _ R4.ex (.inl (dp_ex (F3.trans F4).ex y d2)) (peek_ok R4 V4 e4) h4 fun r v H5 hr5 hres5 => ?_
            obtain ⟨G5, ow5, F5, R5, V5⟩ := res_fin R4 hres5
            exact kk _ _ G5 H5 ow5 v hr5 (((F.trans F3).trans F4).trans F5) R5 (V5.since ((F.trans F3).trans F4).dom)
          · exact h4.elim
        | false => exact iteF (kk _ _ G' _ ow' _ hr (F.trans F3) R3 (.bl false))
      · exact hr.elim
    · exact h2.elim⟩⟩
/-! ### a comprehension over a text's signs -/
def signs (s : Str) : List PyData := s.cps.toList.map fun c => .str ⟨#[c]⟩
def dLcS (t : TD) (g : TDG) (tt : TDT) (te : TD) (vs : List Nat) : TD := fun ε A => t ε fun r ε1 => match peek ε1 r with
  | some (.str s) => lcGo noI g tt te vs (fun acc ε' => A (.new acc) (rstE ε1 ε' vs)) (signs s) [] (wipeE ε1 vs)
  | _ => False
theorem lcS_rd {K : PySem.W.Frag} {t : TD} {g : TDG} {tt : TDT} {te : TD} {ws vs : List Nat} {σ : L2.St} {H : Hp} {Q : VK} (hws : ∀ j ∈ ws, j ∈ vs) (h : rdV K (dLcS t g tt te vs) σ H Q) : tLc (iStr (rdV K t)) (rdG K ws g) (rdT K tt) (rdV K te) vs σ H Q := by
  obtain ⟨c, G, ow, ε, A, R, h, kk⟩ := h
  refine ⟨c, G, ow, ε, _, R, h, fun r ε1 G1 H1 ow1 v h1 F1 R1 V1 => ?_⟩
  split at h1
  · rename_i s e
    have es := (peek_ok R1 V1 e).str
    have hl : (signs s).length = s.cps.size := by simp [signs]
    refine ⟨s, es, lc_core hws R1 F1 h1 (fun i x H' G' ow' ε' hx _ f1 r1 => ?_) (fun H' G' ow' ε' _ f1 r1 => by rw [hl]; exact Nat.le_refl _) fun acc ε' G' H' ow' v q F R V => kk _ _ G' H' ow' v q F R V⟩
    have hi : i < s.cps.size := by
      rw [← hl]
      exact (List.getElem?_eq_some_iff.mp hx).1
    refine ⟨hi, fun y H2 hy => ⟨hy.1, ?_⟩⟩
    obtain ⟨c, hc, rfl⟩ := hy.2
    have ex : x = .str ⟨#[c]⟩ := by
      unfold signs at hx
      rw [List.getElem?_map, Array.getElem?_toList, hc] at hx
      exact (Option.some.inj hx).symm
    subst ex
    exact .str _
  · exact h1.elim
section
variable {X : Cx} {elt tg iter : Expr} {ifs : List Expr} {scope : Scope} {own : List (Str × Nat)} {pos : Pos} {t : TD} {g : TDG} {tt : TDT} {te : TD} {ws : List Nat}
theorem dv_lcS (hc : X.calm = true) (hN : X.N.Nodup) (hi : DV X iter t) (b : Blk X tg ifs elt scope own ws g tt te) (hs : ∀ x, foldedSetIterable iter X.env x = pure x := by intro _; rfl) : DV X (.ListComp elt [⟨tg, iter, ifs, 0⟩] scope pos) (dLcS t g tt te (own.map (·.2))) :=
  pe_w (pe_lc hc hN (pi_str hi) b.ok b.tgt b.tst b.elt hs) fun _ _ _ h => lcS_rd b.sub h
end
/-! ### steps -/
section
variable {A : Vl → Ep → Prop} {V : Vl → Prop} {ε : Ep} {t u v : TD} {g : TDG} {p : TDT} {vs : List Nat} {b1 b2 neg : Bool} {z1 : Int} {xs ys : List PyData} {s1 s2 : Str} {k k' : PyData → PyData → (Vl → Prop) → Prop}
theorem ap_rev : ev (dRev t ε A) = ev (t ε fun r ε1 => match peek ε1 r with
  | some (.list xs) => A (.new xs.reverse) ε1
  | _ => False) := id rfl
theorem ap_chain : ev (dChain k k' t u v ε A) = ev (t ε fun r1 ε1 => u ε1 fun r2 ε2 => match r2, peek ε2 r1 with
  | .d y, some x => k x y fun r => match r with
    | .d (.bool b) => onB b (v ε2 fun r3 ε3 => match peek ε3 r3 with
      | some z => k' y z fun r => A r ε3
      | none => False) (A (.d (.bool false)) ε2)
    | _ => False
  | _, _ => False) := id rfl
theorem ap_lcS : ev (dLcS t g p u vs ε A) = ev (t ε fun r ε1 => match peek ε1 r with
  | some (.str s) => lcGo noI g p u vs (fun acc ε' => A (.new acc) (rstE ε1 ε' vs)) (signs s) [] (wipeE ε1 vs)
  | _ => False) := id rfl
theorem k_IsB : kIsB neg (.bool b1) (.bool b2) V = V (.d (.bool (if neg then !decide (b1 = b2) else decide (b1 = b2)))) := id rfl
theorem k_IntI : kInt [.int z1] V = V (.d (.int z1)) := id rfl
theorem k_IntB : kInt [.bool b1] V = V (.d (.int (if b1 then 1 else 0))) := id rfl
theorem k_CatT : kCatT (.tuple xs) (.tuple ys) V = (xs.length + ys.length ≤ 1000000 ∧ V (.d (.tuple (xs ++ ys)))) := id rfl
theorem k_Rep : kRep (.list xs) (.int z1) V = ((-(2 ^ 63) ≤ z1 ∧ z1 < 2 ^ 63 ∧ xs.length * z1.toNat ≤ 1000000) ∧ V (.new (List.replicate z1.toNat xs).flatten)) := id rfl
theorem k_InS : kInS neg (.str s1) (.str s2) V = onO (sign1 s1) fun c => V (.d (.bool (if neg then !decide (c ∈ s2.cps.toList) else decide (c ∈ s2.cps.toList)))) := id rfl
theorem k_LenS : kLen [.str s1] V = (s1.length ≤ 1000000 ∧ V (.d (.int (s1.length : Nat)))) := id rfl
end
/-! ### constants of the module -/
def gvD : Value → PyData → Bool
  | .none, .none => true
  | .bool a, .bool b => a == b
  | .int i _, .int j => i == j
  | .str x _, .str y => decide (x = y)
  | _, _ => false
def gvsD : List Value → List PyData → Bool
  | [], [] => true
  | v :: vs, d :: ds => gvD v d && gvsD vs ds
  | _, _ => false
def GlobD (K : PySem.W.Frag) (mg : Str → Option Value) (x : Str) (d : PyData) : Prop := ∃ u v, mg x = some u ∧ RelV v u ∧ ∀ G, Dd K G v d
theorem gvD_ok {K : PySem.W.Frag} {u : Value} {d : PyData} (h : gvD u d = true) : ∃ v, RelV v u ∧ ∀ G, Dd K G v d := by
  unfold gvD at h
  split at h
  · exact ⟨.non, rfl, fun _ => .non⟩
  · cases eq_of_beq h
    exact ⟨.bl _, rfl, fun _ => .bl _⟩
  · cases eq_of_beq h
    exact ⟨.int _, ⟨_, rfl⟩, fun _ => .int _⟩
  · cases of_decide_eq_true h
    exact ⟨.str _, ⟨_, rfl⟩, fun _ => .str _⟩
  · cases h
theorem gvsD_ok {K : PySem.W.Frag} : ∀ {us : List Value} {ds : List PyData}, gvsD us ds = true → ∃ vs, Vals vs us ∧ ∀ G, DdAll K G vs ds
  | [], [], _ => ⟨[], .nil, fun _ => .nil⟩
  | u :: us, d :: ds, h => by
    simp only [gvsD, Bool.and_eq_true] at h
    obtain ⟨v, r, p⟩ := gvD_ok (K := K) h.1
    obtain ⟨vs, rs, ps⟩ := gvsD_ok (K := K) h.2
    exact ⟨v :: vs, .cons r rs, fun G => .cons (p G) (ps G)⟩
  | [], _ :: _, h => by cases h
  | _ :: _, [], h => by cases h
theorem glob_flat {K : PySem.W.Frag} {mg : Str → Option Value} {x : Str} {u : Value} {d : PyData} (hm : mg x = some u) (h : gvD u d = true) : GlobD K mg x d := by
  obtain ⟨v, r, p⟩ := gvD_ok (K := K) h
  exact ⟨u, v, hm, r, p⟩
theorem glob_tup {K : PySem.W.Frag} {mg : Str → Option Value} {x : Str} {a : Addr} {od : Option Addr} {its : Array Value} {n : Nat} {sl : Array (Option Value)} {ds : List PyData} (hm : mg x = some (.ref a)) (hk : K.lookup a = some ⟨.type "tuple", od, .seq its n, sl⟩)
    (h : (decide (its.size ≤ 1000) && gvsD its.toList ds) = true) : GlobD K mg x (.tuple ds) := by
  rw [Bool.and_eq_true] at h
  obtain ⟨vs, r, p⟩ := gvsD_ok (K := K) h.2
  have hz := of_decide_eq_true h.1
  exact ⟨_, .ref a, hm, rfl, fun G => .tup (.inr ⟨_, its, n, hk, rfl, rfl, Nat.le_trans hz (by decide), r⟩) (p G)⟩
theorem dv_gd {X : Cx} {x : Str} {d : PyData} {pos : Pos} (h : GlobD X.K X.mg x d) (hg : Gl X x) (hd : (x == ("__debug__" : Str)) = false := by decide) : DV X (.Name x pos) (dC d) := by
  obtain ⟨u, v, hm, r, p⟩ := h
  exact dv_glob hg hm r p hd
/-! ### comprehensions that map and filter, their slots as they were -/
theorem lc_mf {g : TDG} {tt : TDT} {te : TD} {vs : List Nat} {p : PyData → Bool} {f : PyData → PyData} {e : PyData → Ep} {ε : Ep} {A : List PyData → Ep → Prop} : ∀ (its acc : List PyData),
    (∀ x ∈ its, ∀ (B : Vl → Ep → Prop) (C : Ep → Prop), (p x = true → B (.d (f x)) (e x)) → (p x = false → C (e x)) → g x ε fun ε1 => tt ε1 fun b ε2 => onB b (te ε2 B) (C ε2)) → (∀ x ∈ its, wipeE (e x) vs = ε) → acc.length + its.length ≤ 1000000 →
    A (acc ++ (its.filter p).map f) ε → lcGo noI g tt te vs A its acc ε
  | [], acc, _, _, _, h => ⟨trivial, by simpa using h⟩
  | x :: its, acc, h1, h2, hl, h => by
    rw [List.length_cons] at hl
    refine ⟨trivial, h1 x List.mem_cons_self _ (fun ε2 => lcGo noI g tt te vs A its acc (wipeE ε2 vs)) (fun hp => ?_) fun hp => ?_⟩
    · show acc.length < 1000000 ∧ lcGo noI g tt te vs A its (acc ++ [f x]) (wipeE (e x) vs)
      rw [h2 x List.mem_cons_self]
      refine ⟨by omega, lc_mf its _ (fun y hy => h1 y (List.mem_cons_of_mem _ hy)) (fun y hy => h2 y (List.mem_cons_of_mem _ hy)) (by simp; omega) ?_⟩
      rw [List.filter_cons, if_pos hp] at h
      simpa using h
    · show lcGo noI g tt te vs A its acc (wipeE (e x) vs)
      rw [h2 x List.mem_cons_self]
      refine lc_mf its _ (fun y hy => h1 y (List.mem_cons_of_mem _ hy)) (fun y hy => h2 y (List.mem_cons_of_mem _ hy)) (by omega) ?_
      rw [List.filter_cons, if_neg (by rw [hp]; decide)] at h
      exact h
theorem lc_map {g : TDG} {te : TD} {vs : List Nat} {f : PyData → PyData} {e : PyData → Ep} {ε : Ep} {A : List PyData → Ep → Prop} (its acc : List PyData)
    (h1 : ∀ x ∈ its, ∀ B : Vl → Ep → Prop, B (.d (f x)) (e x) → g x ε fun ε1 => te ε1 B) (h2 : ∀ x ∈ its, wipeE (e x) vs = ε) (hl : acc.length + its.length ≤ 1000000)
    (h : A (acc ++ its.map f) ε) : lcGo noI g dYes te vs A its acc ε :=
  lc_mf (p := fun _ => true) its acc (fun x hx B _ hb _ => h1 x hx B (hb rfl)) h2 hl (by rw [List.filter_eq_self.mpr fun _ _ => rfl]; exact h)
/-! ### what a thing is -/
def isTup : PyData → Bool
  | .tuple _ => true
  | _ => false
theorem kit_tuple : ∀ x : PyData, kitB (tyD x) "tuple" = some (isTup x)
  | .none => (by decide +kernel : kitB "NoneType" "tuple" = some false)
  | .bool _ => (by decide +kernel : kitB "bool" "tuple" = some false)
  | .int _ => (by decide +kernel : kitB "int" "tuple" = some false)
  | .str _ => (by decide +kernel : kitB "str" "tuple" = some false)
  | .list _ => (by decide +kernel : kitB "list" "tuple" = some false)
  | .tuple _ => (by decide +kernel : kitB "tuple" "tuple" = some true)
  | .dict _ => (by decide +kernel : kitB "dict" "tuple" = some false)
def isLst : PyData → Bool
  | .list _ => true
  | _ => false
theorem kit_list : ∀ x : PyData, kitB (tyD x) "list" = some (isLst x)
  | .none => (by decide +kernel : kitB "NoneType" "list" = some false)
  | .bool _ => (by decide +kernel : kitB "bool" "list" = some false)
  | .int _ => (by decide +kernel : kitB "int" "list" = some false)
  | .str _ => (by decide +kernel : kitB "str" "list" = some false)
  | .list _ => (by decide +kernel : kitB "list" "list" = some true)
  | .tuple _ => (by decide +kernel : kitB "tuple" "list" = some false)
  | .dict _ => (by decide +kernel : kitB "dict" "list" = some false)
def isStr : PyData → Bool
  | .str _ => true
  | _ => false
theorem kit_str : ∀ x : PyData, kitB (tyD x) "str" = some (isStr x)
  | .none => (by decide +kernel : kitB "NoneType" "str" = some false)
  | .bool _ => (by decide +kernel : kitB "bool" "str" = some false)
  | .int _ => (by decide +kernel : kitB "int" "str" = some false)
  | .str _ => (by decide +kernel : kitB "str" "str" = some true)
  | .list _ => (by decide +kernel : kitB "list" "str" = some false)
  | .tuple _ => (by decide +kernel : kitB "tuple" "str" = some false)
  | .dict _ => (by decide +kernel : kitB "dict" "str" = some false)
def isInt : PyData → Bool
  | .bool _ => true
  | .int _ => true
  | _ => false
theorem kit_int : ∀ x : PyData, kitB (tyD x) "int" = some (isInt x)
  | .none => (by decide +kernel : kitB "NoneType" "int" = some false)
  | .bool _ => (by decide +kernel : kitB "bool" "int" = some true)
  | .int _ => (by decide +kernel : kitB "int" "int" = some true)
  | .str _ => (by decide +kernel : kitB "str" "int" = some false)
  | .list _ => (by decide +kernel : kitB "list" "int" = some false)
  | .tuple _ => (by decide +kernel : kitB "tuple" "int" = some false)
  | .dict _ => (by decide +kernel : kitB "dict" "int" = some false)
def isBool : PyData → Bool
  | .bool _ => true
  | _ => false
theorem kit_bool : ∀ x : PyData, kitB (tyD x) "bool" = some (isBool x)
  | .none => (by decide +kernel : kitB "NoneType" "bool" = some false)
  | .bool _ => (by decide +kernel : kitB "bool" "bool" = some true)
  | .int _ => (by decide +kernel : kitB "int" "bool" = some false)
  | .str _ => (by decide +kernel : kitB "str" "bool" = some false)
  | .list _ => (by decide +kernel : kitB "list" "bool" = some false)
  | .tuple _ => (by decide +kernel : kitB "tuple" "bool" = some false)
  | .dict _ => (by decide +kernel : kitB "dict" "bool" = some false)
def isDict : PyData → Bool
  | .dict _ => true
  | _ => false
theorem kit_dict : ∀ x : PyData, kitB (tyD x) "dict" = some (isDict x)
  | .none => (by decide +kernel : kitB "NoneType" "dict" = some false)
  | .bool _ => (by decide +kernel : kitB "bool" "dict" = some false)
  | .int _ => (by decide +kernel : kitB "int" "dict" = some false)
  | .str _ => (by decide +kernel : kitB "str" "dict" = some false)
  | .list _ => (by decide +kernel : kitB "list" "dict" = some false)
  | .tuple _ => (by decide +kernel : kitB "tuple" "dict" = some false)
  | .dict _ => (by decide +kernel : kitB "dict" "dict" = some true)
/-- a decision that answers a truth -/
theorem onO_kit {o : Option Bool} {b : Bool} {k : Bool → Prop} (h : o = some b) (q : k b) : onO o k := onO_of h q
end DL

/-! DL3: texts; a def's promise that is its own reading. -/
namespace DL
open PySem PySem.Spec PyProof.Rows L2
/-! ### texts -/
def kCatS : PyData → PyData → (Vl → Prop) → Prop := fun x y A => match x, y with
  | .str a, .str b => a.length + b.length ≤ 1000000 ∧ A (.d (.str (a ++ b)))
  | _, _ => False
def repS (a : Str) (n : Nat) : Str := ⟨(List.replicate n a.cps.toList).flatten.toArray⟩
def kRepS : PyData → PyData → (Vl → Prop) → Prop := fun x y A => match x, y with
  | .str a, .int k => (-1000 ≤ k ∧ k ≤ 1000 ∧ a.length ≤ 1000) ∧ A (.d (.str (repS a k.toNat)))
  | _, _ => False
def kIxA : PyData → PyData → (Vl → Prop) → Prop := fun x y A => match x, y with
  | .list xs, .int i => onO (atI xs i) fun d => A (.d d)
  | .tuple xs, .int i => onO (atI xs i) fun d => A (.d d)
  | .str z, .int i => z.length ≤ 1000000 ∧ onO (atI z.cps.toList i) fun c => A (.d (.str ⟨#[c]⟩))
  | _, _ => False
/-- a slice of a list, a tuple, a text -/
def kSl (x : PyData) (l u : Option Int) (A : Vl → Prop) : Prop := match x with
  | .list xs => A (.new (cutD xs l u))
  | .tuple xs => A (.d (.tuple (cutD xs l u)))
  | .str z => z.length ≤ 1000000 ∧ A (.d (.str (cutS z l u)))
  | _ => False
section
variable {K : PySem.W.Frag}
theorem od_catS : OpD K (fun x y H Q => ∃ i j, x = .str i ∧ y = .str j ∧ i.length + j.length ≤ sizeLine ∧ Q (.str (i ++ j)) H) kCatS := fun G H x y v1 v2 A Q e p1 p2 h k => by
  unfold kCatS at h
  split at h
  · exact ⟨_, _, p1.str, p2.str, line_le h.1, k _ _ _ h.2 (.val (.str _))⟩
  · exact h.elim
def rRepS : R2 := fun x y H Q => ∃ a k, x = .str a ∧ y = .int k ∧ (-1000 ≤ k ∧ k ≤ 1000 ∧ a.length ≤ 1000) ∧ Q (.str (repS a k.toNat)) H
theorem od_repS : OpD K rRepS kRepS := fun G H x y v1 v2 A Q e p1 p2 h k => by
  unfold kRepS at h
  split at h
  · exact ⟨_, _, p1.str, p2.int, h.1, k _ _ _ h.2 (.val (.str _))⟩
  · exact h.elim
theorem fold_rep (a : Array Nat) : ∀ (n : Nat) (z : Array Nat), (List.replicate n a).foldl (· ++ ·) z = z ++ (List.replicate n a.toList).flatten.toArray
  | 0, z => by simp
  | n + 1, z => by
    rw [List.replicate_succ, List.foldl_cons, fold_rep a n, List.replicate_succ, List.flatten_cons, Array.append_assoc]
    refine congrArg (z ++ ·) ?_
    obtain ⟨a⟩ := a
    simp
theorem op_repS {X : Cx} : OpR X (binaryOp .Mult) rRepS := by
  intro pins s σ H x y v u Q I rx ry h
  obtain ⟨a, k, rfl, rfl, ⟨h1, h2, h3⟩, q⟩ := h
  obtain ⟨t, rfl⟩ := rx
  obtain ⟨t', rfl⟩ := ry
  refine P.mul_str (by rw [decide_eq_false (by omega), decide_eq_false (by omega)]; rfl) (fun hn _ hc => ?_) (fun hn _ => ?_) ?_
  · have h5 : (1000 : Int) ≤ (2 ^ 63 - 1) / k := by
      rw [Int.le_ediv_iff_mul_le (by omega)]
      have : (1000 : Int) * k ≤ 1000 * 1000 := Int.mul_le_mul_of_nonneg_left h2 (by decide)
      omega
    omega
  · have h5 : a.length * k.toNat ≤ 1000 * 1000 := Nat.mul_le_mul h3 (by omega)
    have : sizeLine = 16777216 := rfl
    simp [Builtin.Str.tooLong]
    omega
  · have fin : ∀ (z : Str) (t : Tok) (s' : Shared), z = repS a k.toNat → Inv X pins σ H s' → EP X pins σ Q (.str z t) s' := fun z t s' e I' => by
      subst e
      exact ⟨.str _, H, I', ⟨_, rfl⟩, q⟩
    split
    · rename_i hn
      have : k.toNat = 0 := by omega
      exact ⟨by decide, fin _ _ _ (by rw [this]; rfl) (I.tok _)⟩
    · split
      · rename_i hn hz
        refine fin _ _ _ ?_ I
        rw [Bool.or_eq_true] at hz
        rcases hz with hz | hz
        · have : k = 1 := by simpa using hz
          subst this
          obtain ⟨a⟩ := a
          simp [repS]
        · have hz : a.length = 0 := by simpa using hz
          obtain ⟨⟨a⟩⟩ := a
          have hz : a = [] := List.length_eq_zero_iff.mp (by simpa [Str.length] using hz)
          subst hz
          simp [repS]
      · refine ⟨?_, fin _ _ _ ?_ (I.tok _)⟩
        · have e : ((List.replicate k.toNat a.cps).foldl (· ++ ·) #[]).size = k.toNat * a.length := by
            rw [fold_rep]
            simp [Str.length]
          show Array.size _ ≤ sizeLine
          rw [e]
          have h5 : k.toNat * a.length ≤ 1000 * 1000 := Nat.mul_le_mul (by omega) h3
          have : sizeLine = 16777216 := rfl
          omega
        · rw [fold_rep]
          simp [repS]
end
end DL
namespace DL
open PySem PySem.Spec PyProof.Rows L2 HT
section
variable {prog : Program} {w : World} {A : Around} {E : Value → Shared → Prop} {s : Shared}
theorem sliceApplied_rev {sl : Addr} {vl vu vs : Value} {n : Nat} {Q : Int × Int × Nat → Shared → Prop} (hs : s.heap.IsSliceOf sl vl vu vs) (pl : IsPart vl none) (pu : IsPart vu none) (ps : IsPart vs (some (-1)))
    (h : Q ((n : Int) - 1, -1, n) s) : wpAny (model prog w) A (Builtin.Slice.sliceApplied (.ref sl) (pure (n : Int))) Q E s := by
  obtain ⟨os, hos, hcs, hds⟩ := id hs
  unfold Builtin.Slice.sliceApplied Builtin.Slice.sliceFields
  refine wpAny_bind (wpAny_bind (wpAny_field hos hds (x := vl) rfl (wpAny_bind (wpAny_field hos hds (x := vu) rfl (wpAny_bind (wpAny_field hos hds (x := vs) rfl (wpAny_pure ?_)))))))
  refine wpAny_bind (slicePart_ ps ?_)
  show wpAny _ _ (if ((-1 : Int) == 0) = true then _ else _) _ _ s
  rw [if_neg (by decide)]
  refine wpAny_bind (slicePart_ pl (wpAny_bind (slicePart_ pu (wpAny_bind (wpAny_pure ?_)))))
  have e : Builtin.Slice.slicePlaces ((n : Int) - 1) (-1) (-1) = n := by
    unfold Builtin.Slice.slicePlaces
    rw [if_neg (by decide)]
    by_cases hn : n = 0
    · subst hn; rfl
    · rw [if_pos (by omega)]
      have : ((n : Int) - 1 - -1 - 1) / (- -1) + 1 = n := by
        rw [show (- -1 : Int) = 1 from rfl, Int.ediv_one]
        omega
      rw [this]
      rfl
  show wpAny _ _ (pure ((n : Int) - 1, (-1 : Int), Builtin.Slice.slicePlaces ((n : Int) - 1) (-1) (-1))) _ _ s
  rw [e]
  exact wpAny_pure h
theorem getItem_tuple_rev {t sl : Addr} {items : Array Value} {vl vu vs : Value} {Q : Value → Shared → Prop} (ht : IsTup s.heap t items) (hs : s.heap.IsSliceOf sl vl vu vs) (pl : IsPart vl none) (pu : IsPart vu none) (ps : IsPart vs (some (-1)))
    (h : Q (.ref s.heap.objs.size) { s with heap := s.heap.push { cls := .type "tuple", data := .seq items.toList.reverse.toArray } })
    (hsz : items.size ≤ sizeLine) : wpAny (model prog w) A (getItem (.ref t) (.ref sl)) Q E s := by
  have htake : sizeOk (.seq items.toList.reverse.toArray) := by
    show items.toList.reverse.toArray.size ≤ sizeLine
    simpa using hsz
  obtain ⟨os, hos, hcs, hds⟩ := id hs
  have hTs : s.TypeIs (.ref sl) "slice" := ⟨os, hos, hcs⟩
  unfold getItem
  try with_reducible refine wpAny_holding ?_
  first | refine wpAny_bind (wpAny_pure ?_) | skip
  refine wpAny_bind (wpAny_sequenceKey ht.typeIs (by decide) ?_)
  refine wpAny_bind (wpAny_callSpecial?_slot (name := Str.ofString "__getitem__") ht.typeIs PyProof.Rows.slot_tuple_getitem
    (wpAny_call_entry PyProof.Rows.slot_tuple_getitem ht.typeIs entry_tuple_getitem ?_ (args_tuple_getitem _ _)))
  show wpAny _ _ (Builtin.Tuple.tupleItemsOf (.ref t) >>= _) _ _ s
  refine wpAny_bind (tupleItemsOf_ ht ?_)
  refine wpAny_bind (wpAny_typeOf hTs ?_)
  rw [if_pos (by decide)]
  refine wpAny_bind (sliceApplied_rev hs pl pu ps ?_)
  have hno : ¬ (((items.size : Int) - 1 == 0 && (-1 : Int) == 1 && items.size == items.size) = true) := by
    simp
  show wpAny _ _ (if ((items.size : Int) - 1 == 0 && (-1 : Int) == 1 && items.size == items.size) = true then _ else _) _ _ s
  rw [if_neg hno]
  have ep : (List.filterMap (fun (k : Nat) => items[((items.size : Int) - 1 + (k : Int) * -1).toNat]?) (List.range items.size)).toArray = items.toList.reverse.toArray := by
    have e1 : ((List.range items.size).filterMap fun (k : Nat) => items[((items.size : Int) - 1 + (k : Int) * -1).toNat]?) = ((List.range items.size).map fun k => items.size - 1 - k).filterMap (items[·]?) := by
      rw [List.filterMap_map]
      refine congrArg (fun f => (List.range items.size).filterMap f) (funext fun k => ?_)
      show items[((items.size : Int) - 1 + (k : Int) * -1).toNat]? = items[items.size - 1 - k]?
      have : ((items.size : Int) - 1 + (k : Int) * -1).toNat = items.size - 1 - k := by omega
      rw [this]
    rw [e1, PySem.W.krv_range, List.filterMap_reverse, PySem.W.krv_all]
  rw [ep]
  first
    | exact wpAny_bind (m := Builtin.Tuple.tupleExact _) (wpAny_newObj_type (wpAny_pure ⟨_, rfl, wpAny_pure h⟩) htake)
    | exact wpAny_bind (m := Builtin.Tuple.tupleExact _) (wpAny_newObj_type (wpAny_bind (wpAny_pure (wpAny_pure ⟨_, rfl, wpAny_pure h⟩))) htake)
    | exact wpAny_bind (wpAny_bind (m := Builtin.Tuple.tupleExact _) (wpAny_newObj_type (wpAny_pure (wpAny_pure ⟨_, rfl, wpAny_pure h⟩)) htake))
    | exact wpAny_bind (wpAny_bind (m := Builtin.Tuple.tupleExact _) (wpAny_newObj_type (wpAny_pure ⟨_, rfl, wpAny_pure h⟩) htake))
end
/-- xs[::-1] of a list or a tuple -/
def tRevA (K : PySem.W.Frag) (te : TE) : TE := fun σ H Q => te σ H fun x H1 => ∃ a xs, x = .ref a ∧ ((SqL K H1 a xs ∧ ∀ p, H1 p = none → Q (.ref p) (upd H1 p (.lst xs.reverse))) ∨ (SqT K H1 a xs ∧ ∀ p, H1 p = none → Q (.ref p) (upd H1 p (.tup xs.reverse))))
theorem pe_revA {X : Cx} {e : Expr} {te : TE} {k : Nat} {p1 p2 p3 pos : Pos} (he : PE X e te) : PE X (.Subscript e (.Slice none none (some (.UnaryOp .USub (.Constant (.int 1) k p1) p2)) p3) pos) (tRevA X.K te) := by
  refine ⟨fun pins s σ H Q I h => ?_⟩
  refine Subscript_ (thn (he.run pins s σ H _ I h) fun v s1 ⟨x, H1, I1, r1, q1⟩ => ?_)
  obtain ⟨a, xs, ex, q⟩ := q1
  subst ex
  cases r1
  have hst : PO X (some (.UnaryOp .USub (.Constant (.int 1) k p1) p2)) (tPart (tUn (rU fun i => .int (-i)) (tC (.int 1)))) := po_some (pe_un un_neg pe_int)
  refine wpAny_Slice (thn (po_none.run pins s1 σ H1 (fun o H2 => o = none ∧ H2 = H1) I1 ⟨rfl, rfl⟩) fun vl s2 ⟨l, H2, I2, pl, el, e2⟩ => ?_)
  subst el e2
  refine thn (po_none.run pins s2 σ H2 (fun o H3 => o = none ∧ H3 = H2) I2 ⟨rfl, rfl⟩) fun vu s3 ⟨u, H3, I3, pu, eu, e3⟩ => ?_
  subst eu e3
  refine thn (hst.run pins s3 σ H3 (fun o H4 => o = some (-1) ∧ H4 = H3) I3 ⟨1, rfl, -1, rfl, rfl, rfl⟩) fun vs s4 ⟨o, H4, I4, ps, eo, e4⟩ => ?_
  subst eo e4
  have I5 : Inv X pins σ H4 { s4 with heap := s4.heap.push { cls := .type "slice", data := .fields #[vl, vu, vs] } } := I4.kept (t' := s4.toks) fun b ob q => Heap.get?_push_of_some _ q
  show wpAny (model X.prog X.w) X.A (subscriptTail e (.Slice none none (some (.UnaryOp .USub (.Constant (.int 1) k p1) p2)) p3) (.ref a) (.ref s4.heap.objs.size)) (EP X pins σ Q) X.xe { s4 with heap := s4.heap.push { cls := .type "slice", data := .fields #[vl, vu, vs] } }
  rcases q with ⟨hx, q⟩ | ⟨hx, q⟩
  · obtain ⟨its, r, ht, hz⟩ := I5.list hx
    have hlen := r.length
    refine tail_any (ops := [.ref a, .ref s4.heap.objs.size]) ht.isList.typeIs (PySem.slot_list_getitem.lookup) ?_ (by with_unfolding_all rfl)
    refine wpAny_getItem_list_slice ht.isList (Heap.IsSliceOf.new _ vl vu vs) pl pu ps (by decide) ?_ (by rw [List.size_toArray]; omega)
    rw [PySem.W.krv_pick]
    refine ⟨.ref _, _, I5.laid (t' := s4.toks) (o := .lst xs.reverse) (fun b ob q => Heap.get?_push_of_some _ q) (Nat.le_refl _) ?_, rfl, q _ (I5.hok.fresh (Nat.le_refl _))⟩
    exact ⟨by rw [List.length_reverse]; exact hz, _, 0, r.reverse, Heap.get?_push_size _ rfl⟩
  · obtain ⟨its, r, ht, hz⟩ := I5.tuple hx
    have hlen := r.length
    refine tail_any (ops := [.ref a, .ref s4.heap.objs.size]) ht.typeIs (PyProof.Rows.slot_tuple_getitem.lookup) ?_ (by with_unfolding_all rfl)
    refine getItem_tuple_rev ht (Heap.IsSliceOf.new _ vl vu vs) pl pu ps ?_ (by rw [List.size_toArray]; omega)
    refine ⟨.ref _, _, I5.laid (t' := s4.toks) (o := .tup xs.reverse) (fun b ob q => Heap.get?_push_of_some _ q) (Nat.le_refl _) ?_, rfl, q _ (I5.hok.fresh (Nat.le_refl _))⟩
    exact ⟨by rw [List.length_reverse]; omega, _, r.reverse, IsTup.new _ _⟩
def dRevA (t : TD) : TD := fun ε A => t ε fun r ε1 => match peek ε1 r with
  | some (.list xs) => A (.new xs.reverse) ε1
  | some (.tuple xs) => A (.d (.tuple xs.reverse)) ε1
  | _ => False
theorem dv_revA {X : Cx} {e : Expr} {t : TD} {k : Nat} {p1 p2 p3 pos : Pos} (he : DV X e t) : DV X (.Subscript e (.Slice none none (some (.UnaryOp .USub (.Constant (.int 1) k p1) p2)) p3) pos) (dRevA t) :=
  pe_w (pe_revA he) fun σ H Q ⟨c, G, ow, ε, A, R, h, kk⟩ => ⟨c, G, ow, ε, _, R, h, fun r ε1 G1 H1 ow1 v h1 F1 R1 V1 => by
    split at h1
    · rename_i xs e
      obtain ⟨p, vs, rfl, hs, ha⟩ := (peek_ok R1 V1 e).list R1.ex
      refine ⟨p, vs, rfl, .inl ⟨hs, fun q hq => ?_⟩⟩
      obtain ⟨G', ow', F4, R4, V4⟩ := res_fin R1 (.lst hq (dpa_rev ha))
      exact kk _ _ G' _ ow' _ h1 (F1.trans F4) R4 (V4.since F1.dom)
    · rename_i xs e
      obtain ⟨p, vs, rfl, hs, ha⟩ := (peek_ok R1 V1 e).tuple R1.ex
      refine ⟨p, vs, rfl, .inr ⟨hs, fun q hq => ?_⟩⟩
      obtain ⟨G', ow', F4, R4, V4⟩ := res_fin R1 (.tup hq (dpa_rev ha))
      exact kk _ _ G' _ ow' _ h1 (F1.trans F4) R4 (V4.since F1.dom)
    · exact h1.elim⟩
section
variable {K : PySem.W.Frag}
theorem od_ixA : OpD K (rIx K) kIxA := fun G H x y v1 v2 A Q e p1 p2 h k => by
  unfold kIxA at h
  split at h
  · exact od_ix G H _ _ v1 v2 A Q e p1 p2 h k
  · exact od_ix G H _ _ v1 v2 A Q e p1 p2 h k
  · obtain ⟨hz, h⟩ := h
    obtain ⟨c, hc, h⟩ := onO_get h
    exact .inr (.inr ⟨_, _, c, p1.str, p2.int, line_le hz, hc, k _ _ _ h (.val (.str _))⟩)
  · exact h.elim
end
def rSl3 (K : PySem.W.Frag) : V → Option Int → Option Int → Hp → VK → Prop := fun x lo hi H Q => rSlL K x lo hi H Q ∨ rSlA K x lo hi H Q ∨ rSlS x lo hi H Q
theorem sl_three {X : Cx} : SlR X (rSl3 X.K) := sl_list.or (sl_tupA.or sl_str)
def dSl (t : TD) (tl th : TDO) : TD := fun ε A => t ε fun r ε1 => tl ε1 fun l ε2 => th ε2 fun u ε3 => match peek ε3 r with
  | some x => kSl x l u fun r => A r ε3
  | _ => False
theorem dv_sl {X : Cx} {e : Expr} {lo hi : Option Expr} {t : TD} {tl th : TDO} {p2 pos : Pos} (he : DV X e t) (hl : DO X lo tl) (hh : DO X hi th) : DV X (.Subscript e (.Slice lo hi none p2) pos) (dSl t tl th) :=
  pe_w (pe_slice sl_three he hl hh) fun σ H Q ⟨c, G, ow, ε, A, R, h, kk⟩ => ⟨c, G, ow, ε, _, R, h, fun r ε1 G1 H1 ow1 v h1 F1 R1 V1 => ⟨c, G1, ow1, ε1, _, R1, h1, fun l ε2 G2 H2 ow2 h2 F2 R2 => ⟨c, G2, ow2, ε2, _, R2, h2, fun u ε3 G3 H3 ow3 h3 F3 R3 => by
    have F := (F1.trans F2).trans F3
    split at h3
    · rename_i x e
      have pk := peek_ok R3 (V1.fr (F2.trans F3)) e
      have fin : ∀ r v H', A r ε3 → Res X.K G3 H3 r v H' → Q v H' := fun r v H' hr hres => by
        obtain ⟨G', ow', F4, R4, V4⟩ := res_fin R3 hres
        exact kk _ _ G' _ ow' _ hr (F.trans F4) R4 (V4.since F.dom)
      unfold kSl at h3
      split at h3
      · obtain ⟨p, vs, rfl, hs, ha⟩ := pk.list R3.ex
        exact .inl ⟨p, vs, rfl, hs, fun q hq => fin _ _ _ h3 (.lst hq (cut_ok (lo := l) (hi := u) ha))⟩
      · rename_i xs
        obtain ⟨p, vs, rfl, hs, ha⟩ := pk.tuple R3.ex
        refine .inr (.inl ⟨p, vs, rfl, hs, fun hw => ?_, fun _ q hq => fin _ _ _ h3 (.tup hq (cut_ok (lo := l) (hi := u) ha))⟩)
        have ew : cutD xs l u = xs := by
          rw [dpa_len ha] at hw
          unfold cutD
          rw [hw.1, hw.2, List.drop_zero, Nat.sub_zero, List.take_length]
        rw [ew] at h3
        exact fin _ _ _ h3 (.val pk.tupD)
      · exact .inr (.inr ⟨_, pk.str, line_le h3.1, fin _ _ _ h3.2 (.val (.str _))⟩)
      · exact h3.elim
    · exact h3.elim⟩⟩⟩
/-! ### join, str of an int -/
def dJoin (ta tb : TD) : TD := fun ε A => ta ε fun r1 ε1 => tb ε1 fun r2 ε2 => match peek ε2 r1, peek ε2 r2 with
  | some (.str a), some (.list ys) => ∃ zs : List Str, ys = zs.map .str ∧ (zs.map (·.length)).sum + zs.length * a.length ≤ 16777216 ∧ A (.d (.str (Txt.join a zs))) ε2
  | some (.str a), some (.tuple ys) => ∃ zs : List Str, ys = zs.map .str ∧ (zs.map (·.length)).sum + zs.length * a.length ≤ 16777216 ∧ A (.d (.str (Txt.join a zs))) ε2
  | _, _ => False
theorem peek_str {K : PySem.W.Frag} {c : Ct} {Hs G H : Hp} {ow : Ow} {σ : L2.St} {ε : Ep} {r : Vl} {v : V} {a : Str} (R : Rep K c G H ow σ ε) (h : VOk K Hs G H ow σ r v) (e : peek ε r = some (.str a)) : v = .str a := (peek_ok R h e).str
/-- the text that is joined by: a constant -/
def dJoinC (a : Str) (tb : TD) : TD := fun ε A => tb ε fun r2 ε2 => match peek ε2 r2 with
  | some (.list ys) => ∃ zs : List Str, ys = zs.map .str ∧ (zs.map (·.length)).sum + zs.length * a.length ≤ 16777216 ∧ A (.d (.str (Txt.join a zs))) ε2
  | some (.tuple ys) => ∃ zs : List Str, ys = zs.map .str ∧ (zs.map (·.length)).sum + zs.length * a.length ≤ 16777216 ∧ A (.d (.str (Txt.join a zs))) ε2
  | _ => False
theorem dv_joinC {X : Cx} {a : Str} {e : Expr} {j : Nat} {t : TD} {p apos pos : Pos} (he : DV X e t) (hs : starEach [e] X.env = [(false, eval e X.env)] := by rfl)
    (hbase : attributeBase (.Constant (.str a) j p) "join" X.env (eval (.Constant (.str a) j p) X.env) = eval (.Constant (.str a) j p) X.env := by rfl) (hline : (apos.endLine == pos.line) = true := by rfl) :
    DV X (.Call (.Attribute (.Constant (.str a) j p) "join" apos) [e] [] pos) (dJoinC a t) :=
  pe_w (pe_join pe_str he hs hbase hline) fun σ H Q ⟨c, G, ow, ε, A, R, h, kk⟩ => ⟨⟨a, rfl⟩, c, G, ow, ε, _, R, h, fun r ε1 G1 H1 ow1 v h1 F1 R1 V1 => by
    split at h1
    · rename_i ys e
      obtain ⟨zs, rfl, hz, h1⟩ := h1
      obtain ⟨p, vs, rfl, hs, ha⟩ := (peek_ok R1 V1 e).list R1.ex
      cases dpa_strs zs ha
      exact ⟨a, p, zs, rfl, rfl, .inl hs, hz, kk _ _ _ _ _ _ h1 F1 R1 (.str _)⟩
    · rename_i ys e
      obtain ⟨zs, rfl, hz, h1⟩ := h1
      obtain ⟨p, vs, rfl, hs, ha⟩ := (peek_ok R1 V1 e).tuple R1.ex
      cases dpa_strs zs ha
      exact ⟨a, p, zs, rfl, rfl, .inr hs, hz, kk _ _ _ _ _ _ h1 F1 R1 (.str _)⟩
    · exact h1.elim⟩
def kStrI : List PyData → (Vl → Prop) → Prop := fun xs A => match xs with
  | [.int i] => i.natAbs.log2 < 1920 ∧ A (.d (.str (toString i)))
  | _ => False
theorem cd_strI {K : PySem.W.Frag} : CallD K (fun xs H Q => ∃ i, xs = [.int i] ∧ i.natAbs.log2 < 1920 ∧ Q (.str (toString i)) H) kStrI := fun G H xs vs A Q e p h k => by
  unfold kStrI at h
  split at h
  · obtain ⟨v, rfl, p1⟩ := pk1 p
    cases p1.int
    exact ⟨_, rfl, h.1, k _ _ _ h.2 (.val (.str _))⟩
  · exact h.elim
/-! ### a def's promise that is its own reading -/
theorem spD_imp {P : Program} {w : World} {K : PySem.W.Frag} {mg : Str → Option Value} {base : Heap} {CX : CXT} {k n : Nat} {f : Addr} {fd : FuncData} {ps : List Str} {S S' : DSp} (F : FnOk P w K mg base CX k f fd ps (spD K n S)) (h : ∀ qs A, S' qs A → S qs A) : FnOk P w K mg base CX k f fd ps (spD K n S') :=
  F.imp fun vs H Q E ⟨c, G, ow, qs, A, e, R, hl, hp, hS, kk⟩ => ⟨c, G, ow, qs, A, e, R, hl, hp, h _ _ hS, kk⟩
def ownSp (n m : Nat) (t : TDS) : DSp := fun qs A => qs.length = n ∧ t { nx := fun ε => A (.d .none) (fin n ε), rt := fun r ε => A r (fin n ε) } (qs ++ uns m)
theorem ownSp_len {n m : Nat} {t : TDS} (qs : List Sl) (A) (h : ownSp n m t qs A) : qs.length = n := h.1
end DL
namespace DL
open PySem PySem.Spec PyProof.Rows L2
/-! ### steps -/
section
variable {A : Vl → Ep → Prop} {V : Vl → Prop} {ε : Ep} {t u v : TD} {o1 o2 : TDO} {l1 l2 : Option Int} {z1 : Int} {xs ys : List PyData} {s1 s2 : Str} {D : DEnds} {s r : TDS}
theorem ap_revA : ev (dRevA t ε A) = ev (t ε fun r ε1 => match peek ε1 r with
  | some (.list xs) => A (.new xs.reverse) ε1
  | some (.tuple xs) => A (.d (.tuple xs.reverse)) ε1
  | _ => False) := id rfl
theorem ap_slA : ev (dSl t o1 o2 ε A) = ev (t ε fun r ε1 => o1 ε1 fun l ε2 => o2 ε2 fun u ε3 => match peek ε3 r with
  | some x => kSl x l u fun r => A r ε3
  | _ => False) := id rfl
theorem ap_joinC : ev (dJoinC s1 t ε A) = ev (t ε fun r2 ε2 => match peek ε2 r2 with
  | some (.list ys) => ∃ zs : List Str, ys = zs.map .str ∧ (zs.map (·.length)).sum + zs.length * s1.length ≤ 16777216 ∧ A (.d (.str (Txt.join s1 zs))) ε2
  | some (.tuple ys) => ∃ zs : List Str, ys = zs.map .str ∧ (zs.map (·.length)).sum + zs.length * s1.length ≤ 16777216 ∧ A (.d (.str (Txt.join s1 zs))) ε2
  | _ => False) := id rfl
theorem k_SlL : kSl (.list xs) l1 l2 V = V (.new (cutD xs l1 l2)) := id rfl
theorem k_SlT : kSl (.tuple xs) l1 l2 V = V (.d (.tuple (cutD xs l1 l2))) := id rfl
theorem k_SlS : kSl (.str s1) l1 l2 V = (s1.length ≤ 1000000 ∧ V (.d (.str (cutS s1 l1 l2)))) := id rfl
theorem k_CatS : kCatS (.str s1) (.str s2) V = (s1.length + s2.length ≤ 1000000 ∧ V (.d (.str (s1 ++ s2)))) := id rfl
theorem k_RepS : kRepS (.str s1) (.int z1) V = ((-1000 ≤ z1 ∧ z1 ≤ 1000 ∧ s1.length ≤ 1000) ∧ V (.d (.str (repS s1 z1.toNat)))) := id rfl
theorem k_AxL : kIxA (.list xs) (.int z1) V = onO (atI xs z1) fun d => V (.d d) := id rfl
theorem k_AxT : kIxA (.tuple xs) (.int z1) V = onO (atI xs z1) fun d => V (.d d) := id rfl
theorem k_AxS : kIxA (.str s1) (.int z1) V = (s1.length ≤ 1000000 ∧ onO (atI s1.cps.toList z1) fun c => V (.d (.str ⟨#[c]⟩))) := id rfl
theorem k_StrI : kStrI [.int z1] V = (z1.natAbs.log2 < 1920 ∧ V (.d (.str (toString z1)))) := id rfl
end
end DL
namespace DL
open PySem PySem.Spec PyProof.Rows L2
theorem FnOk_no {P : Program} {w : World} {K : PySem.W.Frag} {mg : Str → Option Value} {base : Heap} {CX : CXT} {k n : Nat} {f : Addr} {fd : FuncData} {ps : List Str} (_ : ps.length = n) : FnOk P w K mg base CX k f fd ps (spD K n fun _ _ => False) :=
  ⟨fun _ _ _ _ ⟨_, _, _, _, _, _, _, _, _, h, _⟩ => h.elim, fun _ _ _ _ _ _ _ _ _ _ _ _ _ ⟨_, _, _, _, _, _, _, _, _, h, _⟩ => h.elim⟩
end DL
namespace DL
open PySem PySem.Spec PyProof.Rows L2
/-! ### == [], == () -/
def rEqE (K : PySem.W.Frag) (f : Bool → Bool) : R2 := fun x y H Q => ∃ a b xs, x = .ref a ∧ y = .ref b ∧ ((SqL K H a xs ∧ SqL K H b []) ∨ (SqT K H a xs ∧ SqT K H b [])) ∧ Q (.bl (f xs.isEmpty)) H
section
variable {X : Cx}
theorem op_eqE (hu : X.A.units + 64 < cLine) : OpR X (compareOp .Eq) (rEqE X.K id) := by
  intro pins s σ H x y v u Q I rx ry h
  obtain ⟨a, b, xs, rfl, rfl, hh, q⟩ := h
  cases rx
  cases ry
  have hu' : X.A.units < cLine := by omega
  rcases hh with ⟨h1, h2⟩ | ⟨h1, h2⟩
  · obtain ⟨its, r1, p1, _⟩ := I.list h1
    obtain ⟨its2, r2, p2, _⟩ := I.list h2
    have e2 := r2.length
    have e1 := r1.length
    by_cases hz : xs = []
    · subst hz
      have hz1 : its.toArray.size = its2.toArray.size := by simp only [List.size_toArray]; omega
      have R := SeqAt.RcAt.lists (A := X.A) (e := fun _ => true) p1.isList p2.isList hz1 hu' (fun j h1 _ => by simp only [List.size_toArray] at h1; rw [← e1] at h1; exact absurd h1 (Nat.not_lt_zero _))
      have ee : ((List.range its.toArray.size).all fun _ => true) = true := by simp
      rw [ee] at R
      exact R X.prog X.w X.xe _ ⟨.bl true, H, I, rfl, q⟩
    · have hz1 : (its.toArray.size != its2.toArray.size) = true := by
        have : xs.length ≠ 0 := fun e => hz (List.length_eq_zero_iff.mp e)
        simp only [List.size_toArray, bne_iff_ne, ne_eq]
        rw [← e1, ← e2]
        exact this
      have ee : xs.isEmpty = false := by cases xs with
        | nil => exact absurd rfl hz
        | cons _ _ => rfl
      rw [ee] at q
      exact SeqAt.RcAt.lists_lengths (A := X.A) p1.isList p2.isList hz1 hu' X.prog X.w X.xe _ ⟨.bl false, H, I, rfl, q⟩
  · obtain ⟨its, r1, p1, _⟩ := I.tuple h1
    obtain ⟨its2, r2, p2, _⟩ := I.tuple h2
    have e2 := r2.length
    have e1 := r1.length
    have z2 : its2 = [] := List.length_eq_zero_iff.mp (by rw [← e2]; rfl)
    subst z2
    have R := SeqAt.RcAt.tuples (A := X.A) (e := fun _ => true) p1 p2 hu' (fun j _ h2 => by simp at h2)
    have ee : ((List.range (min its.toArray.size ([] : List Value).toArray.size)).all (fun _ => true) && its.toArray.size == ([] : List Value).toArray.size) = xs.isEmpty := by
      cases xs with
      | nil =>
        have : its = [] := List.length_eq_zero_iff.mp (by rw [← e1]; rfl)
        subst this
        simp
      | cons z zs =>
        have : its.length ≠ 0 := by rw [← e1]; simp
        simp
        intro e
        subst e
        simp at this
    rw [ee] at R
    exact R X.prog X.w X.xe _ ⟨.bl _, H, I, rfl, q⟩
theorem op_neE (hu : X.A.units + 64 < cLine) : OpR X (compareOp .NotEq) (rEqE X.K (!·)) := by
  intro pins s σ H x y v u Q I rx ry h
  obtain ⟨a, b, xs, rfl, rfl, hh, q⟩ := h
  cases rx
  cases ry
  have hu' : X.A.units < cLine := by omega
  rcases hh with ⟨h1, h2⟩ | ⟨h1, h2⟩
  · obtain ⟨its, r1, p1, _⟩ := I.list h1
    obtain ⟨its2, r2, p2, _⟩ := I.list h2
    have e2 := r2.length
    have e1 := r1.length
    by_cases hz : xs = []
    · subst hz
      have hz1 : its.toArray.size = its2.toArray.size := by simp only [List.size_toArray]; omega
      have R := SeqAt.RcNeAt.lists (A := X.A) (e := fun _ => true) p1.isList p2.isList hz1 hu' (fun j h1 _ => by simp only [List.size_toArray] at h1; rw [← e1] at h1; exact absurd h1 (Nat.not_lt_zero _))
      have ee : ((List.range its.toArray.size).all fun _ => true) = true := by simp
      rw [ee] at R
      exact R X.prog X.w X.xe _ ⟨.bl false, H, I, rfl, q⟩
    · have hz1 : (its.toArray.size != its2.toArray.size) = true := by
        have : xs.length ≠ 0 := fun e => hz (List.length_eq_zero_iff.mp e)
        simp only [List.size_toArray, bne_iff_ne, ne_eq]
        rw [← e1, ← e2]
        exact this
      have ee : xs.isEmpty = false := by cases xs with
        | nil => exact absurd rfl hz
        | cons _ _ => rfl
      rw [ee] at q
      exact SeqAt.RcNeAt.lists_lengths (A := X.A) p1.isList p2.isList hz1 hu' X.prog X.w X.xe _ ⟨.bl true, H, I, rfl, q⟩
  · obtain ⟨its, r1, p1, _⟩ := I.tuple h1
    obtain ⟨its2, r2, p2, _⟩ := I.tuple h2
    have e2 := r2.length
    have e1 := r1.length
    have z2 : its2 = [] := List.length_eq_zero_iff.mp (by rw [← e2]; rfl)
    subst z2
    have R := SeqAt.RcNeAt.tuples (A := X.A) (e := fun _ => true) p1 p2 hu' (fun j _ h2 => by simp at h2)
    have ee : (!((List.range (min its.toArray.size ([] : List Value).toArray.size)).all (fun _ => true) && its.toArray.size == ([] : List Value).toArray.size)) = !xs.isEmpty := by
      cases xs with
      | nil =>
        have : its = [] := List.length_eq_zero_iff.mp (by rw [← e1]; rfl)
        subst this
        simp
      | cons z zs =>
        have : its.length ≠ 0 := by rw [← e1]; simp
        simp
        intro e
        subst e
        simp at this
    rw [ee] at R
    exact R X.prog X.w X.xe _ ⟨.bl _, H, I, rfl, q⟩
end
/-! ### data without dicts: what may be compared -/
def shp (x : PyData) : Bool := x.plain && decide (x.depth ≤ 60)
mutual
theorem Dd.dpP {K : PySem.W.Frag} {H : Hp} : ∀ {v : V} (d : PyData), Dd K H v d → d.plain = true → Dp K H v d
  | _, .none, h, _ => by cases h; exact .non
  | _, .bool b, h, _ => by cases h; exact .bl b
  | _, .int b, h, _ => by cases h; exact .int b
  | _, .str b, h, _ => by cases h; exact .str b
  | _, .list ds, h, c => by
    cases h with
    | lst hs ha => exact .lst hs (DdAll.dpP ds ha (by simpa [PyData.plain] using c))
  | _, .tuple ds, h, c => by
    cases h with
    | tup hs ha => exact .tup hs (DdAll.dpP ds ha (by simpa [PyData.plain] using c))
  | _, .dict _, _, c => by simp [PyData.plain] at c
theorem DdAll.dpP {K : PySem.W.Frag} {H : Hp} : ∀ {vs : List V} (ds : List PyData), DdAll K H vs ds → PyData.plainAll ds = true → DpAll K H vs ds
  | _, [], h, _ => by cases h; exact .nil
  | _, d :: ds, h, c => by
    simp only [PyData.plainAll, Bool.and_eq_true] at c
    cases h with
    | cons h1 h2 => exact .cons (h1.dpP d c.1) (DdAll.dpP ds h2 c.2)
end
def rEqP (K : PySem.W.Frag) (f : Bool → Bool) : R2 := fun x y H Q => ∃ d e, Dd K H x d ∧ Dd K H y e ∧ shp d = true ∧ shp e = true ∧ Q (.bl (f (PyData.eqv d e))) H
theorem shp_room {X : Cx} {d e : PyData} (hu : X.A.units + 64 < cLine) (h1 : shp d = true) : X.A.units + min d.depth e.depth < cLine := by
  unfold shp at h1
  rw [Bool.and_eq_true] at h1
  have := of_decide_eq_true h1.2
  omega
theorem shp_plain {d : PyData} (h : shp d = true) : d.plain = true := by
  unfold shp at h
  rw [Bool.and_eq_true] at h
  exact h.1
theorem op_eqP {X : Cx} (hu : X.A.units + 64 < cLine) : OpR X (compareOp .Eq) (rEqP X.K id) := by
  intro pins s σ H x y v u Q I rx ry h
  obtain ⟨d, e, hd, he, sd, se, q⟩ := h
  obtain ⟨as, r1⟩ := Dp.reads I d x v (hd.dpP d (shp_plain sd)) rx
  obtain ⟨bs, r2⟩ := Dp.reads I e y u (he.dpP e (shp_plain se)) ry
  exact SeqAt.eq_plain r1 r2 (shp_plain sd) (shp_plain se) (shp_room hu sd) ⟨.bl _, H, I, rfl, q⟩
theorem op_neP {X : Cx} (hu : X.A.units + 64 < cLine) : OpR X (compareOp .NotEq) (rEqP X.K (!·)) := by
  intro pins s σ H x y v u Q I rx ry h
  obtain ⟨d, e, hd, he, sd, se, q⟩ := h
  obtain ⟨as, r1⟩ := Dp.reads I d x v (hd.dpP d (shp_plain sd)) rx
  obtain ⟨bs, r2⟩ := Dp.reads I e y u (he.dpP e (shp_plain se)) ry
  exact SeqAt.ne_plain r1 r2 (shp_plain sd) (shp_plain se) (shp_room hu sd) ⟨.bl _, H, I, rfl, q⟩
theorem od_eqP {K : PySem.W.Frag} {f : Bool → Bool} {G H : Hp} {x y : PyData} {v1 v2 : V} {A : Vl → Prop} {Q : VK} (e : Same G H) (p1 : Pk K G H v1 x) (p2 : Pk K G H v2 y) (h1 : shp x = true) (h2 : shp y = true) (h : A (.d (.bool (f (PyData.eqv x y))))) (k : ∀ r v H', A r → Res K G H r v H' → Q v H') : rEqP K f v1 v2 H Q :=
  ⟨x, y, p1.dp e, p2.dp e, h1, h2, k _ _ _ h (.val (.bl _))⟩
def kEqA (f : Bool → Bool) : PyData → PyData → (Vl → Prop) → Prop := fun x y A => match x, y with
  | .list xs, .list [] => A (.d (.bool (f xs.isEmpty)))
  | .tuple xs, .tuple [] => A (.d (.bool (f xs.isEmpty)))
  | x, y => shp x = true ∧ shp y = true ∧ A (.d (.bool (f (PyData.eqv x y))))
theorem od_eqA {K : PySem.W.Frag} : OpD K (fun x y H Q => rEqE K id x y H Q ∨ rEqP K id x y H Q) (kEqA id) := fun G H x y v1 v2 A Q e p1 p2 h k => by
  unfold kEqA at h
  split at h
  · obtain ⟨p, vs, rfl, hs, ha⟩ := p1.list e
    obtain ⟨q, us, rfl, hs2, ha2⟩ := p2.list e
    cases ha2
    refine .inl ⟨p, q, vs, rfl, rfl, .inl ⟨hs, hs2⟩, k _ _ _ h ?_⟩
    rename_i xs
    have : vs.isEmpty = xs.isEmpty := by cases ha <;> rfl
    rw [this]
    exact .val (.bl _)
  · obtain ⟨p, vs, rfl, hs, ha⟩ := p1.tuple e
    obtain ⟨q, us, rfl, hs2, ha2⟩ := p2.tuple e
    cases ha2
    refine .inl ⟨p, q, vs, rfl, rfl, .inr ⟨hs, hs2⟩, k _ _ _ h ?_⟩
    rename_i xs
    have : vs.isEmpty = xs.isEmpty := by cases ha <;> rfl
    rw [this]
    exact .val (.bl _)
  · exact .inr (od_eqP e p1 p2 h.1 h.2.1 h.2.2 k)
theorem od_neA {K : PySem.W.Frag} : OpD K (fun x y H Q => rEqE K (!·) x y H Q ∨ rEqP K (!·) x y H Q) (kEqA (!·)) := fun G H x y v1 v2 A Q e p1 p2 h k => by
  unfold kEqA at h
  split at h
  · obtain ⟨p, vs, rfl, hs, ha⟩ := p1.list e
    obtain ⟨q, us, rfl, hs2, ha2⟩ := p2.list e
    cases ha2
    refine .inl ⟨p, q, vs, rfl, rfl, .inl ⟨hs, hs2⟩, k _ _ _ h ?_⟩
    rename_i xs
    have : vs.isEmpty = xs.isEmpty := by cases ha <;> rfl
    rw [this]
    exact .val (.bl _)
  · obtain ⟨p, vs, rfl, hs, ha⟩ := p1.tuple e
    obtain ⟨q, us, rfl, hs2, ha2⟩ := p2.tuple e
    cases ha2
    refine .inl ⟨p, q, vs, rfl, rfl, .inr ⟨hs, hs2⟩, k _ _ _ h ?_⟩
    rename_i xs
    have : vs.isEmpty = xs.isEmpty := by cases ha <;> rfl
    rw [this]
    exact .val (.bl _)
  · exact .inr (od_eqP e p1 p2 h.1 h.2.1 h.2.2 k)
theorem op_eqA {X : Cx} (hu : X.A.units + 64 < cLine) : OpR X (compareOp .Eq) (fun x y H Q => rEqE X.K id x y H Q ∨ rEqP X.K id x y H Q) := (op_eqE hu).or (op_eqP hu)
theorem op_neA {X : Cx} (hu : X.A.units + 64 < cLine) : OpR X (compareOp .NotEq) (fun x y H Q => rEqE X.K (!·) x y H Q ∨ rEqP X.K (!·) x y H Q) := (op_neE hu).or (op_neP hu)
section
variable {V : Vl → Prop} {xs ys : List PyData} {x y : PyData} {f : Bool → Bool} {b : Bool} {i : Int} {s : Str}
theorem k_EqL0 : kEqA f (.list xs) (.list []) V = V (.d (.bool (f xs.isEmpty))) := id rfl
theorem k_EqT0 : kEqA f (.tuple xs) (.tuple []) V = V (.d (.bool (f xs.isEmpty))) := id rfl
theorem k_EqLT : kEqA f (.list xs) (.tuple ys) V = (shp (.list xs) = true ∧ shp (.tuple ys) = true ∧ V (.d (.bool (f (PyData.eqv (.list xs) (.tuple ys)))))) := id rfl
theorem k_EqTL : kEqA f (.tuple xs) (.list ys) V = (shp (.tuple xs) = true ∧ shp (.list ys) = true ∧ V (.d (.bool (f (PyData.eqv (.tuple xs) (.list ys)))))) := id rfl
theorem k_EqI : kEqA f x (.int i) V = (shp x = true ∧ shp (.int i) = true ∧ V (.d (.bool (f (PyData.eqv x (.int i)))))) := by cases x <;> rfl
theorem k_EqB : kEqA f x (.bool b) V = (shp x = true ∧ shp (.bool b) = true ∧ V (.d (.bool (f (PyData.eqv x (.bool b)))))) := by cases x <;> rfl
theorem k_EqS : kEqA f x (.str s) V = (shp x = true ∧ shp (.str s) = true ∧ V (.d (.bool (f (PyData.eqv x (.str s)))))) := by cases x <;> rfl
theorem k_EqN : kEqA f x .none V = (shp x = true ∧ shp .none = true ∧ V (.d (.bool (f (PyData.eqv x .none))))) := by cases x <;> rfl
theorem k_EqLc : kEqA f (.list xs) (.list (y :: ys)) V = (shp (.list xs) = true ∧ shp (.list (y :: ys)) = true ∧ V (.d (.bool (f (PyData.eqv (.list xs) (.list (y :: ys))))))) := id rfl
theorem k_EqTc : kEqA f (.tuple xs) (.tuple (y :: ys)) V = (shp (.tuple xs) = true ∧ shp (.tuple (y :: ys)) = true ∧ V (.d (.bool (f (PyData.eqv (.tuple xs) (.tuple (y :: ys))))))) := id rfl
theorem k_EqG (h1 : shp x = true) (h2 : shp y = true) (h : V (.d (.bool (f (PyData.eqv x y))))) : kEqA f x y V := by
  unfold kEqA
  split
  · rename_i xs
    have : PyData.eqv (.list xs) (.list []) = xs.isEmpty := by cases xs <;> simp [PyData.eqv, PyData.eqvAll]
    rw [← this]
    exact h
  · rename_i xs
    have : PyData.eqv (.tuple xs) (.tuple []) = xs.isEmpty := by cases xs <;> simp [PyData.eqv, PyData.eqvAll]
    rw [← this]
    exact h
  · exact ⟨h1, h2, h⟩
end
end DL
namespace DL
open PySem PySem.Spec PyProof.Rows L2
/-! ### a + b, a * b of any -/
def kAdd : PyData → PyData → (Vl → Prop) → Prop := fun x y A => match x, y with
  | .int i, .int j => A (.d (.int (i + j)))
  | .list xs, .list ys => xs.length + ys.length ≤ 1000000 ∧ A (.new (xs ++ ys))
  | .tuple xs, .tuple ys => xs.length + ys.length ≤ 1000000 ∧ A (.d (.tuple (xs ++ ys)))
  | .str a, .str b => a.length + b.length ≤ 1000000 ∧ A (.d (.str (a ++ b)))
  | _, _ => False
def rAdd (K : PySem.W.Frag) : R2 := fun x y H Q => (rI0 fun i j => .int (i + j)) x y H Q ∨ rCatR K x y H Q ∨ rCatA K x y H Q ∨ (∃ i j, x = .str i ∧ y = .str j ∧ i.length + j.length ≤ sizeLine ∧ Q (.str (i ++ j)) H)
theorem op_addA {X : Cx} : OpR X (binaryOp .Add) (rAdd X.K) := op_add.or (op_catR.or (op_catA.or op_add_str))
theorem od_addA {K : PySem.W.Frag} : OpD K (rAdd K) kAdd := fun G H x y v1 v2 A Q e p1 p2 h k => by
  unfold kAdd at h
  split at h
  · exact .inl (od_I0 _ G H _ _ v1 v2 A Q e p1 p2 h k)
  · exact .inr (.inl (od_cat G H _ _ v1 v2 A Q e p1 p2 h k))
  · exact .inr (.inr (.inl (od_catT G H _ _ v1 v2 A Q e p1 p2 h k)))
  · exact .inr (.inr (.inr (od_catS G H _ _ v1 v2 A Q e p1 p2 h k)))
  · exact h.elim
def kMul : PyData → PyData → (Vl → Prop) → Prop := fun x y A => match x, y with
  | .int i, .int j => CMul i j ∧ A (.d (.int (i * j)))
  | .list xs, .int k => (-(2 ^ 63) ≤ k ∧ k < 2 ^ 63 ∧ xs.length * k.toNat ≤ 1000000) ∧ A (.new (List.replicate k.toNat xs).flatten)
  | .str a, .int k => (-1000 ≤ k ∧ k ≤ 1000 ∧ a.length ≤ 1000) ∧ A (.d (.str (repS a k.toNat)))
  | _, _ => False
def rMul (K : PySem.W.Frag) : R2 := fun x y H Q => (rI CMul fun i j => .int (i * j)) x y H Q ∨ rRepR K x y H Q ∨ rRepS x y H Q
theorem op_mulA {X : Cx} : OpR X (binaryOp .Mult) (rMul X.K) := op_mul.or (op_repR.or op_repS)
theorem od_mulA {K : PySem.W.Frag} : OpD K (rMul K) kMul := fun G H x y v1 v2 A Q e p1 p2 h k => by
  unfold kMul at h
  split at h
  · exact .inl (od_I _ _ G H _ _ v1 v2 A Q e p1 p2 h k)
  · exact .inr (.inl (od_rep G H _ _ v1 v2 A Q e p1 p2 h k))
  · exact .inr (.inr (od_repS G H _ _ v1 v2 A Q e p1 p2 h k))
  · exact h.elim
/-! ### a walk over a list, a tuple, a text -/
def iAny (K : PySem.W.Frag) (te : TE) : TI := fun σ H R => te σ H fun x H1 => (∃ a xs, x = .ref a ∧ SqL K H1 a xs ∧ R (Itl K a) H1) ∨ (∃ a xs, x = .ref a ∧ SqT K H1 a xs ∧ R (Itt K a) H1) ∨ (∃ z, x = .str z ∧ R (Its z) H1)
theorem pi_any {X : Cx} {tg e : Expr} {te : TE} (he : PE X e te) : PI X tg e (iAny X.K te) := by
  refine ⟨fun pins s σ H R I h => ?_⟩
  refine thn (he.run pins s σ H _ I h) fun v s1 ⟨y, H1, I1, r1, q1⟩ => ?_
  rcases q1 with ⟨a, xs, e, hq, q⟩ | ⟨a, xs, e, hq, q⟩ | ⟨x, ex, q⟩
  · subst e
    cases r1
    obtain ⟨its, rv, p, hz⟩ := I1.list hq
    refine wpAny_pyIter_list p.isList ?_
    refine ⟨s1.heap.objs.size, [s1.heap.objs.size], _, _, H1, rfl, I1.kept (t' := s1.toks) fun b o e => Heap.get?_push_of_some _ e, turn_list a _, ⟨_, Heap.get?_push_size _ rfl, rfl, rfl⟩, fun b hb => ?_, q⟩
    have e : b = s1.heap.objs.size := by simpa using hb
    subst e
    exact I1.fpOk (Nat.le_refl _) (I1.hok.fresh (Nat.le_refl _))
  · subst e
    cases r1
    obtain ⟨its, rv, p, hz⟩ := I1.tuple hq
    refine wpAny_pyIter_tuple (show s1.heap.IsTuple a its.toArray from p) ?_
    refine ⟨s1.heap.objs.size, [s1.heap.objs.size], _, _, H1, rfl, I1.kept (t' := s1.toks) fun b o e => Heap.get?_push_of_some _ e, turn_tuple a _, ⟨_, Heap.get?_push_size _ rfl, rfl, rfl⟩, fun b hb => ?_, q⟩
    have e : b = s1.heap.objs.size := by simpa using hb
    subst e
    exact I1.fpOk (Nat.le_refl _) (I1.hok.fresh (Nat.le_refl _))
  · subst ex
    obtain ⟨t, rfl⟩ := r1
    cases ha : x.cps.all (· < 128)
    · exact wpAny_pyIter_wide ha (pi_one (tk := s1.toks) I1 _ (turn_str _ x t "str_iterator" (.inr rfl)) ⟨_, Heap.get?_push_size _ rfl, rfl, rfl⟩ q)
    · exact wpAny_pyIter_ascii ha (pi_one (tk := s1.toks) I1 _ (turn_str _ x t "str_ascii_iterator" (.inl rfl)) ⟨_, Heap.get?_push_size _ rfl, rfl, rfl⟩ q)
/-- what is walked over -/
def itsOf : PyData → Option (List PyData)
  | .list ds => some ds
  | .tuple ds => some ds
  | .str s => some (signs s)
  | _ => none
/-- the walk goes along the items -/
theorem its_core {K : PySem.W.Frag} {G H : Hp} {x : PyData} {ds : List PyData} {v : V} (e : Same G H) (d : Dd K G v x) (h : itsOf x = some ds) :
    ∃ J : It, ((∃ a xs, v = .ref a ∧ SqL K H a xs ∧ J = Itl K a) ∨ (∃ a xs, v = .ref a ∧ SqT K H a xs ∧ J = Itt K a) ∨ (∃ z, v = .str z ∧ J = Its z)) ∧
      (∀ (i : Nat) (y : PyData) (G' H' : Hp), ds[i]? = some y → Same G G' → Same G' H' → J.go i H' ∧ ∀ u H2, J.yld i H' u H2 → H2 = H' ∧ Dd K G' u y) ∧ ∀ (G' H' : Hp), Same G G' → Same G' H' → J.stop ds.length H' := by
  cases x with
  | list ds' =>
    cases h
    cases d with
    | lst hs ha =>
      rename_i a us
      refine ⟨Itl K a, .inl ⟨a, us, rfl, e.seq hs, rfl⟩, fun i y G' H' hy s1 s2 => ?_, fun G' H' s1 s2 => ⟨us, s2.seq (s1.seq hs), by rw [dpa_len ha]; exact Nat.le_refl _⟩⟩
      obtain ⟨u, hu, du⟩ := dpa_get ha hy
      have hS : SqL K H' a us := s2.seq (s1.seq hs)
      refine ⟨⟨us, u, hS, hu⟩, fun y' H2 hy' => ⟨hy'.1, ?_⟩⟩
      have e' := hy'.2 us hS
      rw [hu] at e'
      cases e'
      exact dp_ex s1 _ du
  | tuple ds' =>
    cases h
    cases d with
    | tup hs ha =>
      rename_i a us
      refine ⟨Itt K a, .inr (.inl ⟨a, us, rfl, seqT e hs, rfl⟩), fun i y G' H' hy s1 s2 => ?_, fun G' H' s1 s2 => ⟨us, seqT s2 (seqT s1 hs), by rw [dpa_len ha]; exact Nat.le_refl _⟩⟩
      obtain ⟨u, hu, du⟩ := dpa_get ha hy
      have hS : SqT K H' a us := seqT s2 (seqT s1 hs)
      refine ⟨⟨us, u, hS, hu⟩, fun y' H2 hy' => ⟨hy'.1, ?_⟩⟩
      have e' := hy'.2 us hS
      rw [hu] at e'
      cases e'
      exact dp_ex s1 _ du
  | str s =>
    cases h
    cases d
    have hl : (signs s).length = s.cps.size := by simp [signs]
    refine ⟨Its s, .inr (.inr ⟨s, rfl, rfl⟩), fun i y G' H' hy s1 s2 => ?_, fun G' H' s1 s2 => by rw [hl]; exact Nat.le_refl _⟩
    have hi : i < s.cps.size := by
      rw [← hl]
      exact (List.getElem?_eq_some_iff.mp hy).1
    refine ⟨hi, fun y' H2 hy' => ⟨hy'.1, ?_⟩⟩
    obtain ⟨c, hc, rfl⟩ := hy'.2
    have ex : y = .str ⟨#[c]⟩ := by
      unfold signs at hy
      rw [List.getElem?_map, Array.getElem?_toList, hc] at hy
      exact (Option.some.inj hy).symm
    subst ex
    exact .str _
  | _ => cases h
def sForA (t : TD) (g : TDG) (b : TDS) : TDS := fun A ε => t ε fun r ε1 => match frz ε1 r with
  | some (x, ε2) => onO (itsOf x) fun ds => forGo noI g b A ds ε2
  | _ => False
theorem ds_forA {X : Cx} {te : TD} {pos : Pos} {iter tg : Expr} {body : List Stmt} {g : TDG} {ws : List Nat} {tb : TDS} (hp : PassesOwn (model X.prog X.w) X.A X.env X.xe) (hc : X.calm = true) (hi : DV X iter te) (hg : DG X tg ws g) (hb : DSs X W body tb) (hs : ∀ x, foldedSetIterable iter X.env x = pure x := by intro _; rfl) : DS X W (.For tg iter body [] pos) (sForA te g tb) :=
  ps_w (ps_for hp hc (pi_any hi) hg hb hs) fun D σ H ⟨c, G, ow, ε, A, R, h, k1, k2, k3, k4, k5⟩ => ⟨c, G, ow, ε, _, R, h, fun r ε1 G1 H1 ow1 v h1 F1 R1 V1 => by
    cases q : frz ε1 r with
    | none => simp only [q] at h1
    | some z =>
      obtain ⟨x, ε2⟩ := z
      obtain ⟨G2, F2, sg, R2, d⟩ := frz_ok F1 R1 V1 q
      simp only [q] at h1
      obtain ⟨ds, hds, h1⟩ := onO_get h1
      obtain ⟨J, hJ, j1, j2⟩ := its_core R2.ex d hds
      have core := for_core (J := J) (ws := ws) R2 F2 h1 (fun i x H' G' ow' σ' ε' hx _ f1 r1 => j1 i x G' H' hx f1.ex r1.ex) (fun H' G' ow' σ' ε' _ f1 r1 => j2 G' H' f1.ex r1.ex) k1 k2 k5
      rcases hJ with ⟨a, us, e1, e2, rfl⟩ | ⟨a, us, e1, e2, rfl⟩ | ⟨z, e1, rfl⟩
      · exact .inl ⟨a, us, e1, e2, core⟩
      · exact .inr (.inl ⟨a, us, e1, e2, core⟩)
      · exact .inr (.inr ⟨z, e1, core⟩)⟩
def dLcA (t : TD) (g : TDG) (tt : TDT) (te : TD) (vs : List Nat) : TD := fun ε A => t ε fun r ε1 => match frz ε1 r with
  | some (x, ε2) => onO (itsOf x) fun ds => lcGo noI g tt te vs (fun acc ε' => A (.new acc) (rstE ε2 ε' vs)) ds [] (wipeE ε2 vs)
  | _ => False
theorem lcA_rd {K : PySem.W.Frag} {t : TD} {g : TDG} {tt : TDT} {te : TD} {ws vs : List Nat} {σ : L2.St} {H : Hp} {Q : VK} (hws : ∀ j ∈ ws, j ∈ vs) (h : rdV K (dLcA t g tt te vs) σ H Q) : tLc (iAny K (rdV K t)) (rdG K ws g) (rdT K tt) (rdV K te) vs σ H Q := by
  obtain ⟨c, G, ow, ε, A, R, h, kk⟩ := h
  refine ⟨c, G, ow, ε, _, R, h, fun r ε1 G1 H1 ow1 v h1 F1 R1 V1 => ?_⟩
  cases q : frz ε1 r with
  | none => simp only [q] at h1
  | some z =>
    obtain ⟨x, ε2⟩ := z
    obtain ⟨G2, F2, sg, R2, d⟩ := frz_ok F1 R1 V1 q
    simp only [q] at h1
    obtain ⟨ds, hds, h1⟩ := onO_get h1
    obtain ⟨J, hJ, j1, j2⟩ := its_core R2.ex d hds
    have core := lc_core (J := J) hws (Q := Q) R2 F2 h1 (fun i x H' G' ow' ε' hx _ f1 r1 => j1 i x G' H' hx f1.ex r1.ex) (fun H' G' ow' ε' _ f1 r1 => j2 G' H' f1.ex r1.ex) fun acc ε' G' H' ow' v q F R V => kk _ _ G' H' ow' v q F R V
    rcases hJ with ⟨a, us, e1, e2, rfl⟩ | ⟨a, us, e1, e2, rfl⟩ | ⟨z, e1, rfl⟩
    · exact .inl ⟨a, us, e1, e2, core⟩
    · exact .inr (.inl ⟨a, us, e1, e2, core⟩)
    · exact .inr (.inr ⟨z, e1, core⟩)
section
variable {X : Cx} {elt tg iter : Expr} {ifs : List Expr} {scope : Scope} {own : List (Str × Nat)} {pos spos py : Pos} {t : TD} {g : TDG} {tt : TDT} {te : TD} {ws : List Nat} {i : Nat} {y : Str}
theorem dv_lcA (hc : X.calm = true) (hN : X.N.Nodup) (hi : DV X iter t) (b : Blk X tg ifs elt scope own ws g tt te) (hs : ∀ x, foldedSetIterable iter X.env x = pure x := by intro _; rfl) : DV X (.ListComp elt [⟨tg, iter, ifs, 0⟩] scope pos) (dLcA t g tt te (own.map (·.2))) :=
  pe_w (pe_lc hc hN (pi_any hi) b.ok b.tgt b.tst b.elt hs) fun _ _ _ h => lcA_rd b.sub h
theorem ds_lcA (hc : X.calm = true) (hN : X.N.Nodup) (hy : X.N[i]? = some y) (hyl : X.env.scope.names.lookup y = some .local) (hsw : swapsWith (.ListComp elt [⟨tg, iter, ifs, 0⟩] scope pos) (some (.Name y py)) spos.line X.env = pure true)
    (hi : DV X iter t) (b : Blk X tg ifs elt scope own ws g tt te) (hs : ∀ x, foldedSetIterable iter X.env x = pure x := by intro _; rfl) : DS X W (.Assign [.Name y py] (.ListComp elt [⟨tg, iter, ifs, 0⟩] scope pos) spos) (sSet i (dLcA t g tt te (own.map (·.2)))) :=
  ps_wl (ps_setLc hc hN hy hyl hsw (pi_any hi) b.ok b.tgt b.tst b.elt hs) fun _ _ _ hl h => setlc_rd (fun _ => lcA_rd b.sub) (by rw [hl]; exact (List.getElem?_eq_some_iff.mp hy).1) h
end
section
variable {A : Vl → Ep → Prop} {V : Vl → Prop} {ε : Ep} {t u v : TD} {g : TDG} {p : TDT} {vs : List Nat} {z1 z2 : Int} {xs ys : List PyData} {s1 s2 : Str} {D : DEnds} {s r : TDS}
theorem ap_forA : ev (sForA t g s D ε) = ev (t ε fun r ε1 => match frz ε1 r with
  | some (x, ε2) => onO (itsOf x) fun ds => forGo noI g s D ds ε2
  | _ => False) := id rfl
theorem ap_lcA : ev (dLcA t g p u vs ε A) = ev (t ε fun r ε1 => match frz ε1 r with
  | some (x, ε2) => onO (itsOf x) fun ds => lcGo noI g p u vs (fun acc ε' => A (.new acc) (rstE ε2 ε' vs)) ds [] (wipeE ε2 vs)
  | _ => False) := id rfl
theorem it_L : itsOf (.list xs) = some xs := id rfl
theorem it_T : itsOf (.tuple xs) = some xs := id rfl
theorem it_S : itsOf (.str s1) = some (signs s1) := id rfl
theorem k_AdI : kAdd (.int z1) (.int z2) V = V (.d (.int (z1 + z2))) := id rfl
theorem k_AdL : kAdd (.list xs) (.list ys) V = (xs.length + ys.length ≤ 1000000 ∧ V (.new (xs ++ ys))) := id rfl
theorem k_AdT : kAdd (.tuple xs) (.tuple ys) V = (xs.length + ys.length ≤ 1000000 ∧ V (.d (.tuple (xs ++ ys)))) := id rfl
theorem k_AdS : kAdd (.str s1) (.str s2) V = (s1.length + s2.length ≤ 1000000 ∧ V (.d (.str (s1 ++ s2)))) := id rfl
theorem k_MuI : kMul (.int z1) (.int z2) V = (CMul z1 z2 ∧ V (.d (.int (z1 * z2)))) := id rfl
theorem k_MuL : kMul (.list xs) (.int z2) V = ((-(2 ^ 63) ≤ z2 ∧ z2 < 2 ^ 63 ∧ xs.length * z2.toNat ≤ 1000000) ∧ V (.new (List.replicate z2.toNat xs).flatten)) := id rfl
theorem k_MuS : kMul (.str s1) (.int z2) V = ((-1000 ≤ z2 ∧ z2 ≤ 1000 ∧ s1.length ≤ 1000) ∧ V (.d (.str (repS s1 z2.toNat)))) := id rfl
end
end DL
namespace DL
open PySem PySem.Spec PyProof.Rows L2
/-! ### what a thing is, step by step -/
theorem isN_none : DL.isN .none = true := id rfl
theorem isN_bool (b : Bool) : DL.isN (.bool b) = false := id rfl
theorem isN_int (i : Int) : DL.isN (.int i) = false := id rfl
theorem isN_str (s : Str) : DL.isN (.str s) = false := id rfl
theorem isN_list (xs : List PyData) : DL.isN (.list xs) = false := id rfl
theorem isN_tuple (xs : List PyData) : DL.isN (.tuple xs) = false := id rfl
theorem isN_dict (kvs : List (PyData × PyData)) : DL.isN (.dict kvs) = false := id rfl
theorem isTup_none : DL.isTup .none = false := id rfl
theorem isTup_bool (b : Bool) : DL.isTup (.bool b) = false := id rfl
theorem isTup_int (i : Int) : DL.isTup (.int i) = false := id rfl
theorem isTup_str (s : Str) : DL.isTup (.str s) = false := id rfl
theorem isTup_list (xs : List PyData) : DL.isTup (.list xs) = false := id rfl
theorem isTup_tuple (xs : List PyData) : DL.isTup (.tuple xs) = true := id rfl
theorem isTup_dict (kvs : List (PyData × PyData)) : DL.isTup (.dict kvs) = false := id rfl
theorem isLst_none : DL.isLst .none = false := id rfl
theorem isLst_bool (b : Bool) : DL.isLst (.bool b) = false := id rfl
theorem isLst_int (i : Int) : DL.isLst (.int i) = false := id rfl
theorem isLst_str (s : Str) : DL.isLst (.str s) = false := id rfl
theorem isLst_list (xs : List PyData) : DL.isLst (.list xs) = true := id rfl
theorem isLst_tuple (xs : List PyData) : DL.isLst (.tuple xs) = false := id rfl
theorem isLst_dict (kvs : List (PyData × PyData)) : DL.isLst (.dict kvs) = false := id rfl
theorem isStr_none : DL.isStr .none = false := id rfl
theorem isStr_bool (b : Bool) : DL.isStr (.bool b) = false := id rfl
theorem isStr_int (i : Int) : DL.isStr (.int i) = false := id rfl
theorem isStr_str (s : Str) : DL.isStr (.str s) = true := id rfl
theorem isStr_list (xs : List PyData) : DL.isStr (.list xs) = false := id rfl
theorem isStr_tuple (xs : List PyData) : DL.isStr (.tuple xs) = false := id rfl
theorem isStr_dict (kvs : List (PyData × PyData)) : DL.isStr (.dict kvs) = false := id rfl
theorem isInt_none : DL.isInt .none = false := id rfl
theorem isInt_bool (b : Bool) : DL.isInt (.bool b) = true := id rfl
theorem isInt_int (i : Int) : DL.isInt (.int i) = true := id rfl
theorem isInt_str (s : Str) : DL.isInt (.str s) = false := id rfl
theorem isInt_list (xs : List PyData) : DL.isInt (.list xs) = false := id rfl
theorem isInt_tuple (xs : List PyData) : DL.isInt (.tuple xs) = false := id rfl
theorem isInt_dict (kvs : List (PyData × PyData)) : DL.isInt (.dict kvs) = false := id rfl
theorem isBool_none : DL.isBool .none = false := id rfl
theorem isBool_bool (b : Bool) : DL.isBool (.bool b) = true := id rfl
theorem isBool_int (i : Int) : DL.isBool (.int i) = false := id rfl
theorem isBool_str (s : Str) : DL.isBool (.str s) = false := id rfl
theorem isBool_list (xs : List PyData) : DL.isBool (.list xs) = false := id rfl
theorem isBool_tuple (xs : List PyData) : DL.isBool (.tuple xs) = false := id rfl
theorem isBool_dict (kvs : List (PyData × PyData)) : DL.isBool (.dict kvs) = false := id rfl
theorem isDict_none : DL.isDict .none = false := id rfl
theorem isDict_bool (b : Bool) : DL.isDict (.bool b) = false := id rfl
theorem isDict_int (i : Int) : DL.isDict (.int i) = false := id rfl
theorem isDict_str (s : Str) : DL.isDict (.str s) = false := id rfl
theorem isDict_list (xs : List PyData) : DL.isDict (.list xs) = false := id rfl
theorem isDict_tuple (xs : List PyData) : DL.isDict (.tuple xs) = false := id rfl
theorem isDict_dict (kvs : List (PyData × PyData)) : DL.isDict (.dict kvs) = true := id rfl
end DL

/-! DL4: things within things; calls that hand in what is changed; exceptions. -/
namespace DL
open PySem PySem.Spec PyProof.Rows L2
/-! ### places -/
def getN : NT → List Nat → Option NT
  | t, [] => some t
  | .node _ _ ts, i :: p => match ts[i]? with
    | some t => getN t p
    | none => none
  | .fz _, _ :: _ => none
def setN : NT → List Nat → NT → NT
  | _, [], u => u
  | .node a h ts, i :: p, u => match ts[i]? with
    | some t => .node a h (ts.set i (setN t p u))
    | none => .node a h ts
  | .fz x, _ :: _, _ => .fz x
theorem adrs_get {t : NT} {a : Addr} : ∀ {ts : List NT} {i : Nat}, ts[i]? = some t → a ∈ adr t → a ∈ adrs ts
  | [], _, e, _ => by simp at e
  | s :: ts, 0, e, h => by
    simp at e
    subst e
    rw [adrs]
    exact List.mem_append_left _ h
  | s :: ts, i + 1, e, h => by
    rw [adrs]
    exact List.mem_append_right _ (adrs_get (i := i) (by simpa using e) h)
theorem get_adr {a : Addr} {s : NT} : ∀ (p : List Nat) (t : NT), getN t p = some s → a ∈ adr s → a ∈ adr t
  | [], t, e, h => by
    simp [getN] at e
    subst e
    exact h
  | i :: p, .fz x, e, h => by simp [getN] at e
  | i :: p, .node b hd ts, e, h => by
    simp only [getN] at e
    split at e
    · rename_i t0 e0
      rw [adr]
      exact List.mem_cons_of_mem _ (adrs_get e0 (get_adr p t0 e h))
    · cases e
theorem nodup_get {t : NT} : ∀ {ts : List NT} {i : Nat}, (adrs ts).Nodup → ts[i]? = some t → (adr t).Nodup
  | [], _, _, e => by simp at e
  | s :: ts, 0, h, e => by
    simp at e
    subst e
    rw [adrs] at h
    exact (List.nodup_append.mp h).1
  | s :: ts, i + 1, h, e => by
    rw [adrs] at h
    exact nodup_get (i := i) (List.nodup_append.mp h).2.1 (by simpa using e)
theorem nodup_adr {a : Addr} {hd : Hd} {ts : List NT} (h : (adr (.node a hd ts)).Nodup) : a ∉ adrs ts ∧ (adrs ts).Nodup := by
  rw [adr] at h
  exact List.nodup_cons.mp h
section
variable {K : PySem.W.Frag} {G H G' H' : Hp}
theorem toks_get : ∀ {ts : List NT} {vs : List V} {i : Nat} {t : NT}, TOks K G H ts vs → ts[i]? = some t → ∃ v, vs[i]? = some v ∧ TOk K G H t v
  | [], _, _, _, _, e => by simp at e
  | s :: ts, vs, 0, t, h, e => by
    rw [TOks] at h
    obtain ⟨v, us, rfl, h1, _⟩ := h
    simp at e
    subst e
    exact ⟨v, rfl, h1⟩
  | s :: ts, vs, i + 1, t, h, e => by
    rw [TOks] at h
    obtain ⟨v, us, rfl, _, h2⟩ := h
    obtain ⟨w, e1, e2⟩ := toks_get (i := i) h2 (by simpa using e)
    exact ⟨w, by simpa using e1, e2⟩
theorem toks_len : ∀ {ts : List NT} {vs : List V}, TOks K G H ts vs → vs.length = ts.length
  | [], vs, h => by rw [TOks] at h; subst h; rfl
  | t :: ts, vs, h => by
    rw [TOks] at h
    obtain ⟨v, us, rfl, _, h2⟩ := h
    simp [toks_len h2]
theorem tok_get {s : NT} : ∀ (p : List Nat) (t : NT) {v : V}, TOk K G H t v → getN t p = some s → ∃ u, TOk K G H s u
  | [], t, v, h, e => by
    simp [getN] at e
    subst e
    exact ⟨v, h⟩
  | i :: p, .fz x, v, h, e => by simp [getN] at e
  | i :: p, .node b hd ts, v, h, e => by
    simp only [getN] at e
    split at e
    · rename_i t0 e0
      rw [TOk] at h
      obtain ⟨_, _, _, vs, _, h5⟩ := h
      obtain ⟨u, _, hu⟩ := toks_get h5 e0
      exact tok_get p t0 hu e
    · cases e
/-- one among many is changed -/
theorem toks_set (e : Same G G') {s u : NT} (hsub : ∀ b ∈ adr s, True) : ∀ {ts : List NT} {vs : List V} {i : Nat} {t0 : NT} {w : V}, TOks K G H ts vs → ts[i]? = some t0 → vs[i]? = some w → (adrs ts).Nodup → (∀ b ∈ adr s, b ∈ adr t0) → TOk K G' H' u w →
    (∀ b ∈ adrs ts, b ∉ adr s → G b = none → ∀ o, H b = some o → G' b = none ∧ H' b = some o) → TOks K G' H' (ts.set i u) vs
  | [], _, _, _, _, _, e0, _, _, _, _, _ => by simp at e0
  | t :: ts, vs, 0, t0, w, h, e0, ew, hn, hs, hu, k => by
    rw [TOks] at h
    obtain ⟨v, us, rfl, h1, h2⟩ := h
    simp at e0 ew
    subst e0 ew
    rw [adrs] at hn
    show TOks K G' H' (u :: ts) (v :: us)
    rw [TOks]
    refine ⟨v, us, rfl, hu, h2.grow e ts fun b hb => k b (by rw [adrs]; exact List.mem_append_right _ hb) fun hm => ?_⟩
    exact (List.nodup_append.mp hn).2.2 b (hs b hm) b hb rfl
  | t :: ts, vs, i + 1, t0, w, h, e0, ew, hn, hs, hu, k => by
    rw [TOks] at h
    obtain ⟨v, us, rfl, h1, h2⟩ := h
    rw [adrs] at hn
    have e0' : ts[i]? = some t0 := by simpa using e0
    show TOks K G' H' (t :: ts.set i u) (v :: us)
    rw [TOks]
    refine ⟨v, us, rfl, h1.grow e t fun b hb => k b (by rw [adrs]; exact List.mem_append_left _ hb) fun hm => ?_, toks_set e hsub h2 e0' (by simpa using ew) (List.nodup_append.mp hn).2.1 hs hu fun b hb => k b (by rw [adrs]; exact List.mem_append_right _ hb)⟩
    exact (List.nodup_append.mp hn).2.2 b hb b (adrs_get e0' (hs b hm)) rfl
/-- a thing within is changed -/
theorem tok_set (e : Same G G') {s u : NT} : ∀ (p : List Nat) (t : NT) {v : V}, TOk K G H t v → (adr t).Nodup → getN t p = some s → (∀ w, TOk K G H s w → TOk K G' H' u w) →
    (∀ b ∈ adr t, b ∉ adr s → G b = none → ∀ o, H b = some o → G' b = none ∧ H' b = some o) → TOk K G' H' (setN t p u) v
  | [], t, v, h, hn, eg, hu, k => by
    simp [getN] at eg
    subst eg
    exact hu v h
  | i :: p, .fz x, v, h, hn, eg, hu, k => by simp [getN] at eg
  | i :: p, .node b hd ts, v, h, hn, eg, hu, k => by
    simp only [getN] at eg
    split at eg
    · rename_i t0 e0
      obtain ⟨n1, n2⟩ := nodup_adr hn
      rw [TOk] at h
      obtain ⟨h1, h2, h3, vs, h4, h5⟩ := h
      obtain ⟨w, ew, hw⟩ := toks_get h5 e0
      have hs : ∀ c ∈ adr s, c ∈ adr t0 := fun c hc => get_adr p t0 eg hc
      have hb : b ∉ adr s := fun hm => n1 (adrs_get e0 (hs b hm))
      have q := tok_set e p t0 hw (nodup_get n2 e0) eg hu fun c hc => k c (by rw [adr]; exact List.mem_cons_of_mem _ (adrs_get e0 hc))
      obtain ⟨k1, k2⟩ := k b (by rw [adr]; exact List.mem_cons_self) hb h2 _ h4
      simp only [setN, e0]
      rw [TOk]
      exact ⟨h1, k1, by rw [List.length_set]; exact h3, vs, k2, toks_set e (fun _ _ => trivial) h5 e0 ew n2 hs q fun c hc => k c (by rw [adr]; exact List.mem_cons_of_mem _ hc)⟩
    · cases eg
end
theorem adrs_set_mem {u : NT} {b : Addr} : ∀ {ts : List NT} {i : Nat} {t0 : NT}, ts[i]? = some t0 → (adrs ts).Nodup → b ∈ adrs (ts.set i u) → b ∈ adr u ∨ (b ∈ adrs ts ∧ b ∉ adr t0)
  | [], _, _, e, _, _ => by simp at e
  | t :: ts, 0, t0, e, hn, h => by
    simp at e
    subst e
    rw [adrs] at hn
    have h : b ∈ adrs (u :: ts) := h
    rw [adrs] at h
    rcases List.mem_append.mp h with h | h
    · exact .inl h
    · exact .inr ⟨by rw [adrs]; exact List.mem_append_right _ h, fun hm => (List.nodup_append.mp hn).2.2 b hm b h rfl⟩
  | t :: ts, i + 1, t0, e, hn, h => by
    have e' : ts[i]? = some t0 := by simpa using e
    rw [adrs] at hn
    have h : b ∈ adrs (t :: ts.set i u) := h
    rw [adrs] at h
    rcases List.mem_append.mp h with h | h
    · exact .inr ⟨by rw [adrs]; exact List.mem_append_left _ h, fun hm => (List.nodup_append.mp hn).2.2 b h b (adrs_get e' hm) rfl⟩
    · rcases adrs_set_mem e' (List.nodup_append.mp hn).2.1 h with h | ⟨h1, h2⟩
      · exact .inl h
      · exact .inr ⟨by rw [adrs]; exact List.mem_append_right _ h1, h2⟩
theorem adrs_set_nodup {u : NT} : ∀ {ts : List NT} {i : Nat} {t0 : NT}, ts[i]? = some t0 → (adrs ts).Nodup → (adr u).Nodup → (∀ b ∈ adr u, b ∈ adr t0 ∨ b ∉ adrs ts) → (adrs (ts.set i u)).Nodup
  | [], _, _, e, _, _, _ => by simp at e
  | t :: ts, 0, t0, e, hn, hu, hs => by
    simp at e
    subst e
    rw [adrs] at hn
    show (adrs (u :: ts)).Nodup
    rw [adrs]
    obtain ⟨n1, n2, n3⟩ := List.nodup_append.mp hn
    refine List.nodup_append.mpr ⟨hu, n2, fun b hb c hc e => ?_⟩
    subst e
    rcases hs b hb with q | q
    · exact n3 b q b hc rfl
    · exact q (by rw [adrs]; exact List.mem_append_right _ hc)
  | t :: ts, i + 1, t0, e, hn, hu, hs => by
    have e' : ts[i]? = some t0 := by simpa using e
    rw [adrs] at hn
    obtain ⟨n1, n2, n3⟩ := List.nodup_append.mp hn
    show (adrs (t :: ts.set i u)).Nodup
    rw [adrs]
    refine List.nodup_append.mpr ⟨n1, adrs_set_nodup e' n2 hu (fun b hb => ?_), fun b hb c hc e => ?_⟩
    · rcases hs b hb with q | q
      · exact .inl q
      · exact .inr fun m => q (by rw [adrs]; exact List.mem_append_right _ m)
    · subst e
      rcases adrs_set_mem e' n2 hc with q | ⟨q, _⟩
      · rcases hs b q with q | q
        · exact n3 b hb b (adrs_get e' q) rfl
        · exact q (by rw [adrs]; exact List.mem_append_left _ hb)
      · exact n3 b hb b q rfl
theorem adr_set {s u : NT} : ∀ (p : List Nat) (t : NT), (adr t).Nodup → getN t p = some s → (adr u).Nodup → (∀ b ∈ adr u, b ∈ adr s ∨ b ∉ adr t) → (adr (setN t p u)).Nodup ∧ ∀ b ∈ adr (setN t p u), b ∈ adr u ∨ (b ∈ adr t ∧ b ∉ adr s)
  | [], t, hn, eg, hu, hs => by
    simp [getN] at eg
    subst eg
    exact ⟨hu, fun b hb => .inl hb⟩
  | i :: p, .fz x, hn, eg, hu, hs => by simp [getN] at eg
  | i :: p, .node a hd ts, hn, eg, hu, hs => by
    simp only [getN] at eg
    split at eg
    · rename_i t0 e0
      obtain ⟨n1, n2⟩ := nodup_adr hn
      have sub : ∀ c ∈ adr s, c ∈ adr t0 := fun c hc => get_adr p t0 eg hc
      have up : ∀ c, c ∈ adr t0 → c ∈ adr (.node a hd ts) := fun c hc => by rw [adr]; exact List.mem_cons_of_mem _ (adrs_get e0 hc)
      obtain ⟨q1, q2⟩ := adr_set p t0 (nodup_get n2 e0) eg hu fun b hb => by
        rcases hs b hb with q | q
        · exact .inl q
        · exact .inr fun m => q (up b m)
      have cl : ∀ b ∈ adr (setN t0 p u), b ∈ adr t0 ∨ b ∉ adrs ts := fun b hb => by
        rcases q2 b hb with q | ⟨q, _⟩
        · rcases hs b q with q | q
          · exact .inl (sub b q)
          · exact .inr fun m => q (by rw [adr]; exact List.mem_cons_of_mem _ m)
        · exact .inl q
      have an : a ∉ adr (setN t0 p u) := fun m => by
        rcases q2 a m with q | ⟨q, _⟩
        · rcases hs a q with q | q
          · exact n1 (adrs_get e0 (sub a q))
          · exact q (by rw [adr]; exact List.mem_cons_self)
        · exact n1 (adrs_get e0 q)
      simp only [setN, e0]
      rw [adr, adr]
      refine ⟨List.nodup_cons.mpr ⟨fun m => ?_, adrs_set_nodup e0 n2 q1 cl⟩, fun b hb => ?_⟩
      · rcases adrs_set_mem e0 n2 m with q | ⟨q, _⟩
        · exact an q
        · exact n1 q
      · rcases List.mem_cons.mp hb with e | hb
        · subst e
          exact .inr ⟨List.mem_cons_self, fun m => n1 (adrs_get e0 (sub b m))⟩
        · rcases adrs_set_mem e0 n2 hb with q | ⟨q, z⟩
          · rcases q2 b q with q | ⟨q, z⟩
            · exact .inl q
            · exact .inr ⟨List.mem_cons_of_mem _ (adrs_get e0 q), z⟩
          · exact .inr ⟨List.mem_cons_of_mem _ q, fun m => z (sub b m)⟩
    · cases eg
end DL
namespace DL
open PySem PySem.Spec PyProof.Rows L2
theorem nodup_getp {s : NT} : ∀ (p : List Nat) (t : NT), (adr t).Nodup → getN t p = some s → (adr s).Nodup
  | [], t, hn, e => by
    simp [getN] at e
    subst e
    exact hn
  | i :: p, .fz x, hn, e => by simp [getN] at e
  | i :: p, .node b hd ts, hn, e => by
    simp only [getN] at e
    split at e
    · rename_i t0 e0
      exact nodup_getp p t0 (nodup_get (nodup_adr hn).2 e0) e
    · cases e
/-! ### calls: what is the caller's own is handed in -/
def parS (ε : Ep) : Vl → Option Sl
  | .d x => some (.d x)
  | .ex nm => some (.ex nm)
  | .bor j => match look ε j with
    | .lst _ xs => some (.lst false xs)
    | .dct _ kvs => some (.dct false kvs)
    | _ => none
  | .bp j p a => match look ε j with
    | .nt _ t => match getN t p with
      | some (.node b h ts) => if a = b then some (.nt false (.node b h ts)) else none
      | _ => none
    | _ => none
  | _ => none
def parAll (ε : Ep) : List Vl → Option (List Sl)
  | [] => some []
  | r :: rs => match parS ε r, parAll ε rs with
    | some s, some ss => some (s :: ss)
    | _, _ => none
def slotOf : Vl → Option Nat
  | .bor j => some j
  | .bp j _ _ => some j
  | _ => none
def bk1 : Vl → Sl → Sl → Option Sl
  | .bor _, .lst fr _, .lst false ys => some (.lst fr ys)
  | .bor _, .dct fr _, .dct false kvs => some (.dct fr kvs)
  | .bp _ p _, .nt fr t, .nt false u => some (.nt fr (setN t p u))
  | _, _, _ => none
def bkAll (ε : Ep) : List Vl → List Sl → Option Ep
  | [], _ => some ε
  | r :: rs, [] => none
  | r :: rs, s :: ss => match slotOf r with
    | none => bkAll ε rs ss
    | some j => match bk1 r (look ε j) s with
      | some s' => bkAll (put ε j s') rs ss
      | none => none
theorem nodup_idx {α β : Type} {f : α → Option β} {j : β} : ∀ {rs : List α} {k k' : Nat} {r r' : α}, (rs.filterMap f).Nodup → rs[k]? = some r → f r = some j → rs[k']? = some r' → f r' = some j → k = k'
  | [], _, _, _, _, _, e, _, _, _ => by simp at e
  | x :: rs, k, k', r, r', hn, e, h, e', h' => by
    have mem : ∀ {i : Nat} {y : α}, rs[i]? = some y → f y = some j → j ∈ rs.filterMap f := fun {i y} q z => List.mem_filterMap.mpr ⟨y, List.mem_of_getElem? q, z⟩
    have tl : (rs.filterMap f).Nodup := by
      rw [List.filterMap_cons] at hn
      split at hn
      · exact hn
      · exact (List.nodup_cons.mp hn).2
    have hd : f x = some j → j ∉ rs.filterMap f := fun z => by
      rw [List.filterMap_cons, z] at hn
      exact (List.nodup_cons.mp hn).1
    cases k with
    | zero =>
      cases k' with
      | zero => rfl
      | succ k' =>
        simp at e
        subst e
        exact absurd (mem (by simpa using e') h') (hd h)
    | succ k =>
      cases k' with
      | zero =>
        simp at e'
        subst e'
        exact absurd (mem (by simpa using e) h) (hd h')
      | succ k' => exact congrArg (· + 1) (nodup_idx tl (by simpa using e) h (by simpa using e') h')
theorem bkAll_ok : ∀ {rs : List Vl} {ss : List Sl} {ε ε' : Ep}, (rs.filterMap slotOf).Nodup → bkAll ε rs ss = some ε' → ε'.length = ε.length ∧ (∀ i, i ∉ rs.filterMap slotOf → look ε' i = look ε i) ∧
    ∀ (k : Nat) (r : Vl) (j : Nat), rs[k]? = some r → slotOf r = some j → ∃ s s', ss[k]? = some s ∧ bk1 r (look ε j) s = some s' ∧ look ε' j = s'
  | [], ss, ε, ε', hn, e => by
    have e : some ε = some ε' := by simpa [bkAll] using e
    cases e
    exact ⟨rfl, fun _ _ => rfl, fun k r j h => by simp at h⟩
  | r :: rs, [], ε, ε', hn, e => by simp [bkAll] at e
  | r :: rs, s :: ss, ε, ε', hn, e => by
    unfold bkAll at e
    cases hj : slotOf r with
    | none =>
      simp only [hj] at e
      rw [List.filterMap_cons, hj] at hn
      obtain ⟨h1, h2, h3⟩ := bkAll_ok hn e
      refine ⟨h1, fun i hi => h2 i (by rw [List.filterMap_cons, hj] at hi; exact hi), fun k r' j hk hr => ?_⟩
      cases k with
      | zero =>
        simp at hk
        subst hk
        rw [hj] at hr
        cases hr
      | succ k => exact h3 k r' j (by simpa using hk) hr
    | some j0 =>
      simp only [hj] at e
      cases hb : bk1 r (look ε j0) s with
      | none => simp only [hb] at e; cases e
      | some s0 =>
        simp only [hb] at e
        rw [List.filterMap_cons, hj] at hn
        obtain ⟨n1, n2⟩ := List.nodup_cons.mp hn
        obtain ⟨h1, h2, h3⟩ := bkAll_ok n2 e
        have hlt : j0 < ε.length := look_lt fun q => by
          rw [q] at hb
          cases r <;> simp [bk1] at hb
        refine ⟨by rw [h1, put_length], fun i hi => ?_, fun k r' j hk hr => ?_⟩
        · rw [List.filterMap_cons, hj] at hi
          have i1 : i ≠ j0 := fun z => hi (by rw [z]; exact List.mem_cons_self)
          have i2 : i ∉ rs.filterMap slotOf := fun z => hi (List.mem_cons_of_mem _ z)
          rw [h2 i i2, look_put_ne i1]
        · cases k with
          | zero =>
            simp at hk
            subst hk
            rw [hj] at hr
            cases hr
            exact ⟨s, s0, rfl, hb, by rw [h2 _ n1, look_put_self hlt]⟩
          | succ k =>
            obtain ⟨s1, s2, q1, q2, q3⟩ := h3 k r' j (by simpa using hk) hr
            have hne : j ≠ j0 := fun z => by
              subst z
              exact n1 (List.mem_filterMap.mpr ⟨r', List.mem_of_getElem? (by simpa using hk), hr⟩)
            rw [look_put_ne hne] at q2
            exact ⟨s1, s2, by simpa using q1, q2, q3⟩
theorem parAll_ok : ∀ {rs : List Vl} {ps : List Sl} {ε : Ep}, parAll ε rs = some ps → ps.length = rs.length ∧ ∀ (i : Nat) (r : Vl), rs[i]? = some r → parS ε r = some (look ps i)
  | [], ps, ε, e => by
    cases e
    exact ⟨rfl, fun i r h => by simp at h⟩
  | r :: rs, ps, ε, e => by
    cases q1 : parS ε r with
    | none => simp [parAll, q1] at e
    | some s =>
      cases q2 : parAll ε rs with
      | none => simp [parAll, q1, q2] at e
      | some ss =>
        simp only [parAll, q1, q2, Option.some.injEq] at e
        subst e
        obtain ⟨h1, h2⟩ := parAll_ok q2
        refine ⟨by simp [h1], fun i r' h => ?_⟩
        cases i with
        | zero =>
          simp at h
          subst h
          exact q1
        | succ i => exact h2 i r' (by simpa using h)
theorem vsok_get {K : PySem.W.Frag} {Hs G H : Hp} {ow : Ow} {σ : L2.St} : ∀ {rs : List Vl} {vs : List V}, VsOk K Hs G H ow σ rs vs → vs.length = rs.length ∧ ∀ (i : Nat) (r : Vl), rs[i]? = some r → ∃ v, vs[i]? = some v ∧ VOk K Hs G H ow σ r v
  | [], vs, h => by
    cases h
    exact ⟨rfl, fun i r h => by simp at h⟩
  | r :: rs, vs, ⟨v, us, e, h1, h2⟩ => by
    subst e
    obtain ⟨q1, q2⟩ := vsok_get h2
    refine ⟨by simp [q1], fun i r' h => ?_⟩
    cases i with
    | zero =>
      simp at h
      subst h
      exact ⟨v, rfl, h1⟩
    | succ i =>
      obtain ⟨w, w1, w2⟩ := q2 i r' (by simpa using h)
      exact ⟨w, by simpa using w1, w2⟩
/-- what of the caller's is handed in -/
def inR (ε : Ep) : Vl → Addr → Prop
  | .bp j p _, a => ∃ fr t s, look ε j = .nt fr t ∧ getN t p = some s ∧ a ∈ adr s
  | _, _ => True
def isB (ε : Ep) (H : Hp) (ow : Ow) (rs : List Vl) (a : Addr) (k : Nat) : Prop := ∃ r j, rs[k]? = some r ∧ slotOf r = some j ∧ ow a = some j ∧ H a ≠ none ∧ inR ε r a
open Classical in
noncomputable def owIn (ε : Ep) (H : Hp) (ow : Ow) (rs : List Vl) : Ow := fun a => if h : ∃ k, isB ε H ow rs a k then some h.choose else none
theorem owIn_some {ε : Ep} {H : Hp} {ow : Ow} {rs : List Vl} {a : Addr} {k : Nat} (h : owIn ε H ow rs a = some k) : isB ε H ow rs a k := by
  unfold owIn at h
  split at h
  · rename_i z
    cases h
    exact z.choose_spec
  · cases h
theorem owIn_is {ε : Ep} {H : Hp} {ow : Ow} {rs : List Vl} {a : Addr} {k : Nat} (hn : (rs.filterMap slotOf).Nodup) (h : isB ε H ow rs a k) : owIn ε H ow rs a = some k := by
  have z : ∃ k, isB ε H ow rs a k := ⟨k, h⟩
  have e : owIn ε H ow rs a = some z.choose := by
    unfold owIn
    rw [dif_pos z]
  rw [e]
  obtain ⟨r, j, h1, h2, h3, _⟩ := h
  obtain ⟨r', j', q1, q2, q3, _⟩ := z.choose_spec
  rw [h3] at q3
  cases q3
  exact congrArg some (nodup_idx hn q1 q2 h1 h2)
open Classical in
noncomputable def owOut (H1 : Hp) (ow1 ow' ow2 : Ow) (rs : List Vl) : Ow := fun a => match ow2 a with
  | some k => match rs[k]? with
    | some r => slotOf r
    | none => none
  | none => match ow' a with
    | none => if H1 a = none then none else ow1 a
    | some _ => none
theorem callM_core {K : PySem.W.Frag} {c : Ct} {Hs G1 H1 : Hp} {ow1 : Ow} {σ : L2.St} {ε1 : Ep} {rs : List Vl} {vs : List V} {ps : List Sl} (R1 : Rep K c G1 H1 ow1 σ ε1) (V1 : VsOk K Hs G1 H1 ow1 σ rs vs) (hp : parAll ε1 rs = some ps) (hn : (rs.filterMap slotOf).Nodup) :
    ∃ (par : Nat → Option Addr) (ow' : Ow), Rep K ⟨H1, ow', par⟩ G1 H1 ow' (vs.map some) ps ∧ (∀ i p, par i = some p → vs[i]? = some (.ref p)) ∧ ps.length = rs.length ∧
      ∀ G2 H2 ow2 ps' ε2, Fr G1 H1 ow' G2 H2 ow2 → Rep K ⟨H1, ow', par⟩ G2 H2 ow2 (vs.map some) ps' → bkAll ε1 rs ps' = some ε2 →
        ∃ ow3, Fr G1 H1 ow1 G2 H2 ow3 ∧ Rep K c G2 H2 ow3 σ ε2 ∧ ∀ r v, VOk K H1 G2 H2 ow2 [] r v → ∀ Ht : Hp, (∀ a, H1 a = none → Ht a = none) → VOk K Ht G2 H2 ow3 σ r v := by
  obtain ⟨pl, pg⟩ := parAll_ok hp
  obtain ⟨vl, vg⟩ := vsok_get V1
  let par : Nat → Option Addr := fun k => match rs[k]?, vs[k]? with
    | some r, some (.ref p) => if (slotOf r).isSome then some p else none
    | _, _ => none
  have parIs : ∀ {k r p}, rs[k]? = some r → vs[k]? = some (.ref p) → (slotOf r).isSome → par k = some p := fun {k r p} h1 h2 h3 => by
    show (match rs[k]?, vs[k]? with
      | some r, some (.ref p) => if (slotOf r).isSome then some p else none
      | _, _ => none) = some p
    rw [h1, h2]
    exact if_pos h3
  let ow' := owIn ε1 H1 ow1 rs
  have nb : ∀ {a}, ow1 a = none → ow' a = none := fun {a} h => by
    cases q : ow' a with
    | none => rfl
    | some k =>
      obtain ⟨r, j, _, _, h3, _⟩ := owIn_some q
      rw [h] at h3
      cases h3
  refine ⟨par, ow', ⟨R1.ex, fun a z => z, by rw [List.length_map, vl, pl], fun i o ho => ?_⟩, fun i p hpar => ?_, pl, fun G2 H2 ow2 ps' ε2 F2 R2 hbk => ?_⟩
  · -- the callee's names
    rw [List.getElem?_map] at ho
    cases hv : vs[i]? with
    | none => rw [hv] at ho; cases ho
    | some v =>
      rw [hv] at ho
      cases ho
      have hi : i < rs.length := by
        rw [← vl]
        exact (List.getElem?_eq_some_iff.mp hv).1
      have hr : rs[i]? = some rs[i] := List.getElem?_eq_getElem hi
      obtain ⟨v', hv', vo⟩ := vg i _ hr
      rw [hv] at hv'
      cases hv'
      have hs := pg i _ hr
      revert vo hs hr
      generalize rs[i] = r
      intro hr vo hs
      cases r with
      | d x =>
        cases hs' : look ps i <;> rw [hs'] at hs <;> cases hs
        exact ⟨v, rfl, vo⟩
      | ex nm =>
        cases hs' : look ps i <;> rw [hs'] at hs <;> cases hs
        exact ⟨v, rfl, vo⟩
      | new xs => cases hs
      | dk kvs => cases hs
      | v x => cases hs
      | nt t => cases hs
      | bor j =>
        have vo : σ[j]? = some (some v) := vo
        have q := R1.at vo
        cases hl : look ε1 j with
        | lst fr xs =>
          simp only [parS, hl, Option.some.injEq] at hs
          rw [← hs]
          rw [hl] at q
          obtain ⟨p, us, e, o1, o2, o3, o4, _⟩ := q
          cases e
          exact ⟨p, us, rfl, owIn_is hn ⟨_, j, hr, rfl, o1, by rw [o3]; exact (fun z => nomatch z), trivial⟩, o2, o3, o4, (fun z => nomatch z), fun _ => parIs hr hv rfl⟩
        | dct fr xs =>
          simp only [parS, hl, Option.some.injEq] at hs
          rw [← hs]
          rw [hl] at q
          obtain ⟨p, us, e, o1, o2, o3, o4, _⟩ := q
          cases e
          exact ⟨p, us, rfl, owIn_is hn ⟨_, j, hr, rfl, o1, by rw [o3]; exact (fun z => nomatch z), trivial⟩, o2, o3, o4, (fun z => nomatch z), fun _ => parIs hr hv rfl⟩
        | _ => simp [parS, hl] at hs
      | bp j p a =>
        have vo : v = .ref a := vo
        subst vo
        cases hl : look ε1 j with
        | nt fr t =>
          simp only [parS, hl] at hs
          cases hg : getN t p with
          | none => simp [hg] at hs
          | some s =>
            cases s with
            | fz x => simp [hg] at hs
            | node b hd ts =>
              by_cases hab : a = b
              · subst hab
                simp only [hg, if_true, Option.some.injEq] at hs
                rw [← hs]
                obtain ⟨o, ho⟩ := R1.some_at (i := j) (by rw [hl]; exact fun z => nomatch z)
                have q := R1.at ho
                rw [hl] at q
                obtain ⟨w, _, t1, t2, t3, _⟩ := q
                obtain ⟨u, hu⟩ := tok_get p t t1 hg
                have hu' := hu
                rw [TOk] at hu'
                obtain ⟨rfl, _⟩ := hu'
                have own : ∀ b ∈ adr (.node a hd ts), ow' b = some i := fun b hb => owIn_is hn ⟨_, j, hr, rfl, t3 b (get_adr p t hg hb), by
                  obtain ⟨_, z, hz⟩ := TOk.has t t1 b (get_adr p t hg hb)
                  rw [hz]
                  exact (fun z => nomatch z), ⟨fr, t, _, hl, hg, hb⟩⟩
                exact ⟨.ref a, rfl, hu, nodup_getp p t t2 hg, own, (fun z => nomatch z), fun _ => ⟨⟨a, rfl, parIs hr hv rfl⟩, fun b hb => .inr (own b hb)⟩⟩
              · simp [hg, hab] at hs
        | _ => simp [parS, hl] at hs
  · -- the handed in stay where they are
    have hpar : (match rs[i]?, vs[i]? with
      | some r, some (.ref p) => if (slotOf r).isSome then some p else none
      | _, _ => none) = some p := hpar
    split at hpar
    · rename_i h2
      split at hpar
      · cases hpar
        exact h2
      · cases hpar
    · cases hpar
  · -- back
    obtain ⟨bl, b1, b2⟩ := bkAll_ok hn hbk
    have keep : ∀ {a o}, H1 a = some o → ow' a = none → H2 a = some o ∧ ow2 a = none ∧ (G1 a = none → G2 a = none) := fun {a o} h1 h2 => F2.st a o h1 h2
    have out0 : ∀ {a o}, H1 a = some o → ow2 a = none → ow' a = none → owOut H1 ow1 ow' ow2 rs a = ow1 a := fun {a o} h0 h1 h2 => by
      unfold owOut
      rw [h1]
      simp only [h2]
      rw [if_neg (by rw [h0]; exact fun z => nomatch z)]
    have out1 : ∀ {a k r}, ow2 a = some k → rs[k]? = some r → owOut H1 ow1 ow' ow2 rs a = slotOf r := fun {a k r} h1 h2 => by
      unfold owOut
      rw [h1]
      simp only [h2]
    refine ⟨owOut H1 ow1 ow' ow2 rs, ⟨F2.ex, fun a o h1 h2 => ?_, F2.dom⟩, ⟨R2.ex, fun a z => R1.dom a (F2.dom a z), by rw [bl]; exact R1.len, fun i o ho => ?_⟩, fun r v hv Ht hd => ?_⟩
    · obtain ⟨q1, q2, q3⟩ := keep h1 (nb h2)
      exact ⟨q1, by rw [out0 h1 q2 (nb h2)]; exact h2, q3⟩
    · by_cases hm : i ∈ rs.filterMap slotOf
      · obtain ⟨r, hr0, hri⟩ := List.mem_filterMap.mp hm
        obtain ⟨k, hk⟩ := List.mem_iff_getElem?.mp hr0
        obtain ⟨s, s', hs, hb, hls⟩ := b2 k r i hk hri
        obtain ⟨vk, hvk, vok⟩ := vg k r hk
        have hsl : look ps' k = s := by
          have : ∀ {l : List Sl} {n : Nat} {s : Sl}, l[n]? = some s → look l n = s := by
            intro l
            induction l with
            | nil => intro n s h; simp at h
            | cons x l ih =>
              intro n s h
              cases n with
              | zero => simpa [look] using h
              | succ n => exact ih (by simpa using h)
          exact this hs
        have qk := R2.sl k (some vk) (by rw [List.getElem?_map, hvk]; rfl)
        rw [hsl] at qk
        rw [hls]
        cases r with
        | bor j =>
          cases hri
          have vok : σ[i]? = some (some vk) := vok
          rw [ho] at vok
          cases vok
          have q1 := R1.at ho
          cases hl : look ε1 i with
          | lst fr xs =>
            rw [hl] at hb q1
            cases s with
            | lst fr2 ys =>
              cases fr2 with
              | true => cases hb
              | false =>
                cases hb
                obtain ⟨p, us, e, o1, o2, o3, o4, o5, o6⟩ := q1
                obtain ⟨p2, ws, e2, w1, w2, w3, w4, _⟩ := qk
                cases e
                cases e2
                exact ⟨p, ws, rfl, by rw [out1 w1 hk]; rfl, w2, w3, w4, o5, o6⟩
            | _ => cases hb
          | dct fr xs =>
            rw [hl] at hb q1
            cases s with
            | dct fr2 ys =>
              cases fr2 with
              | true => cases hb
              | false =>
                cases hb
                obtain ⟨p, us, e, o1, o2, o3, o4, o5, o6⟩ := q1
                obtain ⟨p2, ws, e2, w1, w2, w3, w4, _⟩ := qk
                cases e
                cases e2
                exact ⟨p, ws, rfl, by rw [out1 w1 hk]; rfl, w2, w3, w4, o5, o6⟩
            | _ => cases hb
          | _ => rw [hl] at hb; cases s <;> cases hb
        | bp j pth a =>
          cases hri
          have vok : vk = .ref a := vok
          subst vok
          cases hl : look ε1 i with
          | nt fr t =>
            have q1 := R1.at ho
            rw [hl] at hb q1
            cases s with
            | nt fr2 u =>
              cases fr2 with
              | true => cases hb
              | false =>
                cases hb
                obtain ⟨w, rfl, t1, t2, t3, t4, t5⟩ := q1
                obtain ⟨v', e2, u1, u2, u3, _, u5⟩ := qk
                cases e2
                obtain ⟨_, u6⟩ := u5 rfl
                have hs0 := pg k _ hk
                simp only [parS, hl] at hs0
                cases hg : getN t pth with
                | none => simp [hg] at hs0
                | some s0 =>
                  cases s0 with
                  | fz x => simp [hg] at hs0
                  | node b hd ts =>
                    by_cases hab : a = b
                    · subst hab
                      have hin : ∀ {b}, ow' b = some k → b ∈ adr (.node a hd ts) := fun {b} hb => by
                        obtain ⟨r', j', h1, h2, _, _, h5⟩ := owIn_some hb
                        rw [hk] at h1
                        cases h1
                        obtain ⟨fr', t', s', e1, e2, e3⟩ := h5
                        rw [hl] at e1
                        cases e1
                        rw [hg] at e2
                        cases e2
                        exact e3
                      have free : ∀ b ∈ adr t, b ∉ adr (.node a hd ts) → ow' b = none := fun b hb hnb => by
                        cases q : ow' b with
                        | none => rfl
                        | some k' =>
                          obtain ⟨r', j', h1, h2, h3, _⟩ := owIn_some q
                          rw [t3 b hb] at h3
                          cases h3
                          have ek := nodup_idx hn h1 h2 hk rfl
                          subst ek
                          exact absurd (hin q) hnb
                      have cases_u : ∀ b ∈ adr u, b ∈ adr (.node a hd ts) ∨ H1 b = none := fun b hb => by
                        rcases u6 b hb with z | z
                        · exact .inr z
                        · exact .inl (hin z)
                      obtain ⟨n1, n2⟩ := adr_set pth t t2 hg u2 fun b hb => by
                        rcases cases_u b hb with z | z
                        · exact .inl z
                        · refine .inr fun m => ?_
                          obtain ⟨_, z2, hz⟩ := TOk.has t t1 b m
                          rw [z] at hz
                          cases hz
                      refine ⟨w, rfl, tok_set F2.ex pth t t1 t2 hg (fun w' hw' => ?_) (fun b hb hnb hG o hH => ?_), n1, fun b hb => ?_, fun hfr b hb => ?_, fun hfr => ⟨(t5 hfr).1, fun b hb => ?_⟩⟩
                      · rw [TOk] at hw'
                        rw [hw'.1]
                        exact u1
                      · obtain ⟨z1, z2, z3⟩ := keep hH (free b hb hnb)
                        exact ⟨z3 hG, z1⟩
                      · rcases n2 b hb with z | ⟨z, znb⟩
                        · rw [out1 (u3 b z) hk]
                          rfl
                        · obtain ⟨_, o, hH⟩ := TOk.has t t1 b z
                          obtain ⟨z1, z2, z3⟩ := keep hH (free b z znb)
                          rw [out0 hH z2 (free b z znb)]
                          exact t3 b z
                      · rcases n2 b hb with z | ⟨z, _⟩
                        · rcases cases_u b z with z | z
                          · exact t4 hfr b (get_adr pth t hg z)
                          · exact R1.dom b z
                        · exact t4 hfr b z
                      · rcases n2 b hb with z | ⟨z, _⟩
                        · rcases cases_u b z with z | z
                          · exact (t5 hfr).2 b (get_adr pth t hg z)
                          · exact .inl (R1.dom b z)
                        · exact (t5 hfr).2 b z
                    · simp [hg, hab] at hs0
            | _ => cases hb
          | _ => rw [hl] at hb; cases s <;> cases hb
        | _ => cases hri
      · rw [b1 i hm]
        refine (R1.sl i o ho).grow F2.ex fun p u z1 z2 z3 => ?_
        have hnp : ow' p = none := by
          cases q : ow' p with
          | none => rfl
          | some k =>
            obtain ⟨r, j, h1, h2, h3, _⟩ := owIn_some q
            rw [z1] at h3
            cases h3
            exact absurd (List.mem_filterMap.mpr ⟨r, List.mem_of_getElem? h1, h2⟩) hm
        obtain ⟨q1, q2, q3⟩ := keep z3 hnp
        exact ⟨by rw [out0 z3 q2 hnp]; exact z1, q3 z2, q1⟩
    · have fresh : ∀ {p}, H1 p = none → ow' p = none := fun {p} h => by
        cases q : ow' p with
        | none => rfl
        | some k =>
          obtain ⟨_, _, _, _, _, h4, _⟩ := owIn_some q
          exact absurd h h4
      have out2 : ∀ {p}, H1 p = none → ow2 p = none → owOut H1 ow1 ow' ow2 rs p = none := fun {p} h1 h2 => by
        unfold owOut
        rw [h2]
        simp only [fresh h1]
        rw [if_pos h1]
      cases r with
      | d x => exact hv
      | v x => exact hv
      | bp _ _ _ => exact hv
      | ex _ => exact hv
      | bor i => exact nomatch (show ([] : L2.St)[i]? = some (some v) from hv)
      | new xs =>
        obtain ⟨p, us, e, h1, h2, h3, h4, h5⟩ := hv
        exact ⟨p, us, e, hd p h1, out2 h1 h2, h3, h4, h5⟩
      | dk kvs =>
        obtain ⟨p, us, e, h1, h2, h3, h4, h5⟩ := hv
        exact ⟨p, us, e, hd p h1, out2 h1 h2, h3, h4, h5⟩
      | nt t => exact ⟨hv.1, hv.2.1, fun a ha => ⟨hd a (hv.2.2 a ha).1, out2 (hv.2.2 a ha).1 (hv.2.2 a ha).2⟩⟩
end DL

/-! DL5: calls and exceptions. -/
namespace DL
open PySem PySem.Spec PyProof.Rows L2
/-! ### arguments, each frozen or handed in -/
def frzX (ε : Ep) : Vl → Option (Vl × Ep)
  | .ex nm => some (.ex nm, ε)
  | r => match frz ε r with
    | some (x, ε') => some (.d x, ε')
    | none => none
def dmF (t : TD) (u : TDA) : TDA := fun ε A => t ε fun r ε1 => match frzX ε1 r with
  | some (r', ε2) => u ε2 fun rs ε3 => A (r' :: rs) ε3
  | none => False
section
variable {X : Cx} {e : Expr} {es : List Expr} {t : TD} {u : TDA}
theorem frzX_ok {K : PySem.W.Frag} {c : Ct} {Gs Hs G H : Hp} {ows ow : Ow} {σ : L2.St} {ε ε' : Ep} {r r' : Vl} {v : V} (F : Fr Gs Hs ows G H ow) (R : Rep K c G H ow σ ε) (h : VOk K Hs G H ow σ r v) (e : frzX ε r = some (r', ε')) : ∃ G', Fr Gs Hs ows G' H ow ∧ Rep K c G' H ow σ ε' ∧ VOk K Hs G' H ow σ r' v := by
  have gen : ∀ r, (match frz ε r with
    | some (x, ε') => some (Vl.d x, ε')
    | none => none) = some (r', ε') → VOk K Hs G H ow σ r v → ∃ G', Fr Gs Hs ows G' H ow ∧ Rep K c G' H ow σ ε' ∧ VOk K Hs G' H ow σ r' v := fun r e h => by
    cases q : frz ε r with
    | none => rw [q] at e; cases e
    | some z =>
      obtain ⟨x, ε2⟩ := z
      rw [q] at e
      cases e
      obtain ⟨G', F', _, R', d⟩ := frz_ok F R h q
      exact ⟨G', F', R', d⟩
  cases r with
  | ex nm =>
    cases e
    exact ⟨G, F, R, h⟩
  | d x => exact gen (.d x) e h
  | new x => exact gen (.new x) e h
  | dk x => exact gen (.dk x) e h
  | bor x => exact gen (.bor x) e h
  | v x => exact gen (.v x) e h
  | nt x => exact gen (.nt x) e h
  | bp i p a => exact gen (.bp i p a) e h
theorem da_consF (he : DV X e t) (ha : DA X es u) (hs : starEach (e :: es) X.env = (false, eval e X.env) :: starEach es X.env := by rfl) : DA X (e :: es) (dmF t u) :=
  ⟨fun pos pins s σ H Q I q => (pa_cons he ha hs).run pos pins s σ H Q I (by
    obtain ⟨c, G, ow, ε, A, R, h, kk⟩ := q
    refine ⟨c, G, ow, ε, _, R, h, fun r ε1 G1 H1 ow1 v h1 F1 R1 V1 => ?_⟩
    cases q : frzX ε1 r with
    | none => simp only [q] at h1
    | some z =>
      obtain ⟨r', ε2⟩ := z
      simp only [q] at h1
      obtain ⟨G2, F2, R2, V2⟩ := frzX_ok F1 R1 V1 q
      refine ⟨c, G2, ow1, ε2, _, R2, h1, fun rs ε3 G3 H3 ow3 vs h3 F3 R3 V3 => ?_⟩
      exact kk _ ε3 G3 H3 ow3 (v :: vs) h3 (F2.trans F3) R3 ⟨v, vs, rfl, V2.fr F3, V3.since F2.dom⟩)⟩
end
/-! ### a call -/
def dCallM (S : DSp) (t : TDA) : TD := fun ε A => t ε fun rs ε1 => onO (parAll ε1 rs) fun ps => (rs.filterMap slotOf).Nodup ∧ runS S ps fun r ps' => onO (bkAll ε1 rs ps') fun ε2 => A r ε2
theorem dcallM_rd {K : PySem.W.Frag} {n : Nat} {S : DSp} {t : TDA} {σ : L2.St} {H : Hp} {Q : VK} {E : XK} (hS : ∀ ps A, S ps A → ps.length = n) (h : rdV K (dCallM S t) σ H Q) : tCall (spD K n S) [] E (rdA K t) σ H Q := by
  obtain ⟨c, G, ow, ε, A, R, h, kk⟩ := h
  refine ⟨c, G, ow, ε, _, R, h, fun rs ε1 G1 H1 ow1 vs h1 F1 R1 V1 => ?_⟩
  show spD K n S (vs ++ []) H1 Q E
  rw [List.append_nil]
  obtain ⟨ps, hps, hn, h1⟩ := onO_get h1
  obtain ⟨par, ow', Rc, hpar, hl, back⟩ := callM_core R1 V1 hps hn
  refine ⟨⟨H1, ow', par⟩, G1, ow', ps, _, rfl, Rc, hS _ _ h1, hpar, h1, fun r ps' v G2 H2 ow2 q F2 R2 V2 => ?_⟩
  obtain ⟨ε2, hb, q⟩ := onO_get q
  obtain ⟨ow3, F3, R3, V3⟩ := back G2 H2 ow2 ps' ε2 F2 R2 hb
  exact kk r ε2 G2 H2 ow3 v q (F1.trans F3) R3 (V3 r v V2 H F1.dom)
section
variable {X : Cx} {k n : Nat} {f : Addr} {fd : FuncData} {ps : List Str} {S : DSp} {x : Str} {p pos : Pos} {e : Expr} {es : List Expr} {t : TDA}
theorem dv_callM (F : FnOk X.prog X.w X.K X.mg X.base CX0 k f fd ps (spD X.K n S)) (hS : ∀ ps A, S ps A → ps.length = n) (hr : Room k X.A) (hg : Gl X x) (hm : X.mg x = some (.ref f)) (hk : PySem.W.keepIn X.K (.ref f) = true) (hb : Binds X.K fd ps [])
    (ha : DA X (e :: es) t) (hdb : (x == ("__debug__" : Str)) = false := by decide) (he : starEach (e :: es) X.env = (false, eval e X.env) :: starEach es X.env := by rfl) (hpl : (backTo pos (starEach es X.env)).any (·.1) = false := by rfl) :
    DV X (.Call (.Name x p) (e :: es) [] pos) (dCallM S t) := pe_w (pe_call F hr hg hm hk hb .nil pass0 ha hdb he hpl) fun _ _ _ h => dcallM_rd (E := E0) hS h
theorem dv_callM0 (F : FnOk X.prog X.w X.K X.mg X.base CX0 k f fd ps (spD X.K n S)) (hS : ∀ ps A, S ps A → ps.length = n) (hr : Room k X.A) (hg : Gl X x) (hm : X.mg x = some (.ref f)) (hk : PySem.W.keepIn X.K (.ref f) = true) (hb : Binds X.K fd ps [])
    (hdb : (x == ("__debug__" : Str)) = false := by decide) : DV X (.Call (.Name x p) [] [] pos) (dCallM S daNil) := pe_w (pe_call0 F hr hg hm hk hb .nil pass0 hdb) fun σ H Q h => by
  refine dcallM_rd (E := E0) hS h |> fun q => ?_
  obtain ⟨c, G, ow, ε, A, R, h, kk⟩ := h
  have q : rdA X.K daNil σ H fun vs H1 => spD X.K n S (vs ++ []) H1 Q E0 := q
  obtain ⟨c, G, ow, ε, A, R, h, kk⟩ := q
  exact kk [] ε G H ow [] h (Fr.refl _ _ _) R rfl
end
/-! ### a def that may raise -/
abbrev DSpX := List Sl → (Vl → List Sl → Prop) → (Str → List Sl → Prop) → Prop
def runX (S : DSpX) (qs : List Sl) (k : Vl → List Sl → Prop) (x : Str → List Sl → Prop) : Prop := S qs k x
def spDX (K : PySem.W.Frag) (n : Nat) (S : DSpX) : Sp := fun vs H Q E => ∃ (c : Ct) (G : Hp) (ow : Ow) (ps : List Sl) (A : Vl → List Sl → Prop) (B : Str → List Sl → Prop), c.H0 = H ∧ Rep K c G H ow (vs.map some) ps ∧ ps.length = n ∧ (∀ i p, c.par i = some p → vs[i]? = some (.ref p)) ∧ S ps A B ∧
  (∀ r ps' v G' H' ow', A r ps' → Fr G H ow G' H' ow' → Rep K c G' H' ow' (vs.map some) ps' → VOk K H G' H' ow' [] r v → Q v H') ∧
  (∀ nm ps' G' H' ow', B nm ps' → Fr G H ow G' H' ow' → Rep K c G' H' ow' (vs.map some) ps' → ∀ C : Addr, PySem.W.nsIn K mainGlobals nm = some (some (.ref C)) → E (.ref C) none H')
def ownSpX (n m : Nat) (t : TDS) : DSpX := fun qs A B => qs.length = n ∧ t { nx := fun ε => A (.d .none) (fin n ε), rt := fun r ε => A r (fin n ε), xc := fun nm ε => B nm (fin n ε) } (qs ++ uns m)
theorem ownSpX_len {n m : Nat} {t : TDS} (qs : List Sl) (A B) (h : ownSpX n m t qs A B) : qs.length = n := h.1
section
variable {P : Program} {w : World} {K : PySem.W.Frag} {mg : Str → Option Value} {base : Heap}
theorem FnOkX_no {CX : CXT} {k n : Nat} {f : Addr} {fd : FuncData} {ps : List Str} (_ : ps.length = n) : FnOk P w K mg base CX k f fd ps (spDX K n fun _ _ _ => False) :=
  ⟨fun _ _ _ _ ⟨_, _, _, _, _, _, _, _, _, _, h, _⟩ => h.elim, fun _ _ _ _ _ _ _ _ _ _ _ _ _ ⟨_, _, _, _, _, _, _, _, _, _, h, _⟩ => h.elim⟩
theorem fnDX {x qual : Str} {st : Stmt} {f : Addr} {fd : FuncData} {N ps : List Str} {k n : Nat} {S : DSpX} (F : Fun K x qual st f fd) (sc : FnScope N ps (defScope st)) (hn : ps.length = n) (t : TDS)
    (hbody : ∀ (cdv : Value) (A : Around) (outer : List Env) (s : Shared) (H : Hp) (E : XK), Room k (A.deeper (envOfC qual (defScope st) s.heap.objs.size f cdv)) → Takes (cxOf (L2.CX P w) P w K mg base N qual (defScope st) f cdv A outer s H E) (fun cls d _ H => E cls d H) → DSs (cxOf (L2.CX P w) P w K mg base N qual (defScope st) f cdv A outer s H E) (fun cls d _ H => E cls d H) (defBody st) t)
    (h : ∀ (qs : List Sl) (A : Vl → List Sl → Prop) (B : Str → List Sl → Prop), qs.length = n → S qs A B → t { nx := fun ε => A (.d .none) (fin n ε), rt := fun r ε => A r (fin n ε), xc := fun nm ε => B nm (fin n ε) } (qs ++ uns (N.length - n))) : FnOk P w K mg base (L2.CX P w) (k + 1) f fd ps (spDX K n S) := by
  have hNl : n ≤ N.length := by
    have := congrArg List.length sc.pre
    rw [List.length_take] at this
    omega
  have vl : ∀ {c : Ct} {G H : Hp} {ow : Ow} {vs : List V} {qs : List Sl}, Rep K c G H ow (vs.map some) qs → qs.length = n → vs.length = n := fun {c G H ow vs qs} R e => by
    have := R.len
    rw [List.length_map] at this
    omega
  refine F.okX sc (fun vs H Q E q => ?_) (fun cdv A outer s H vs Q E hr q => ?_)
  · obtain ⟨c, G, ow, qs, B, Bx, e, R, hl, hp, hS, kk, kx⟩ := q
    exact (vl R hl).trans hn.symm
  · obtain ⟨c, G, ow, qs, B, Bx, e, R, hl, hp, hS, kk, kx⟩ := q
    have hv := vl R hl
    have R1 := rep_start (N := N) R (by rw [hv]; exact hNl)
    rw [hv] at R1
    refine ⟨_, hbody cdv A outer s H E hr (takes_of rfl rfl rfl rfl), c, G, ow, _, _, R1, h qs B Bx hl hS, fun ε' σ' G' H' ow' z F1 R2 => kk _ _ .non G' H' ow' z F1 (rep_end hv hp R2) .non,
      fun r ε' σ' G' H' ow' v z F1 R2 V2 => kk _ _ v G' H' ow' z F1 (rep_end hv hp R2) (by rw [e] at V2; exact V2), fun ε' σ' G' H' ow' z F1 R2 => z.elim, fun ε' σ' G' H' ow' z F1 R2 => z.elim, fun nm ε' σ' G' H' ow' z F1 R2 C hC => kx nm _ G' H' ow' z F1 (rep_end hv hp R2) C hC⟩
end
/-! ### raise -/
def sRaise (nm : Str) : TDS := fun A ε => A.xc nm ε
/-- what the module's class nm must say, so that it can be raised by raise nm('..') -/
structure ExRs (K : PySem.W.Frag) (mg : Str → Option Value) (nm : Str) : Prop where
  is : ∃ C : Addr, PySem.W.nsIn K mainGlobals nm = some (some (.ref C)) ∧ mg nm = some (.ref C) ∧ PySem.W.excIn K C [.type "ValueError", .type "Exception", .type "BaseException", .type "object"] "ValueError.__new__" = true ∧ PySem.W.keepIn K (.ref C) = true ∧
    PySem.W.subIn K (.ref C) (.type "BaseException") = some true ∧ PySem.W.typeIn K (.ref C) = some (.type "type")
theorem ds_raise {X : Cx} {W : WX} {x m : Str} {j : Nat} {p p2 pos pos' : Pos} (hc : X.calm = true) (tk : Takes X W) (E : ExRs X.K X.mg x) (hg : Gl X x) (hdb : (x == ("__debug__" : Str)) = false := by decide) :
    DS X W (.Raise (some (.Call (.Name x p) [.Constant (.str m) j p2] [] pos)) none pos') (sRaise x) := by
  obtain ⟨C, h1, h2, h3, h4, h5, h6⟩ := E.is
  exact ps_w (ps_raise hc tk (pmk_own PySem.F.excBase_ValueError h3 h2 h4 (raises_own h5 h6) hg hdb)) fun D σ H ⟨c, G, ow, ε, A, R, h, k1, k2, k3, k4, k5⟩ => k5 x ε σ G H ow h (Fr.refl _ _ _) R C h1
/-! ### calls that may raise -/
abbrev TDX := Ep → (Vl → Ep → Prop) → (Str → Ep → Prop) → Prop
def rdVX (K : PySem.W.Frag) (W : WX) (t : TDX) : TE := fun σ H Q => ∃ c G ow ε A B, Rep K c G H ow σ ε ∧ t ε A B ∧ (∀ r ε' G' H' ow' v, A r ε' → Fr G H ow G' H' ow' → Rep K c G' H' ow' σ ε' → VOk K H G' H' ow' σ r v → Q v H') ∧
  (∀ nm ε' G' H' ow', B nm ε' → Fr G H ow G' H' ow' → Rep K c G' H' ow' σ ε' → XW K W nm σ H')
abbrev DVX (X : Cx) (W : WX) (e : Expr) (t : TDX) : Prop := PE X e (rdVX X.K W t)
def dCallX (S : DSpX) (t : TDA) : TDX := fun ε A B => t ε fun rs ε1 => onO (parAll ε1 rs) fun ps => (rs.filterMap slotOf).Nodup ∧ runX S ps (fun r ps' => onO (bkAll ε1 rs ps') fun ε2 => A r ε2) fun nm ps' => onO (bkAll ε1 rs ps') fun ε2 => B nm ε2
section
variable {X : Cx} {W : WX} {k n : Nat} {f : Addr} {fd : FuncData} {ps : List Str} {S : DSpX} {x : Str} {p pos : Pos} {e : Expr} {es : List Expr} {t : TDA}
theorem dv_callX (tk : Takes X W) (F : FnOk X.prog X.w X.K X.mg X.base (L2.CX X.prog X.w) k f fd ps (spDX X.K n S)) (hS : ∀ ps A B, S ps A B → ps.length = n) (hr : Room k X.A) (hg : Gl X x) (hm : X.mg x = some (.ref f)) (hk : PySem.W.keepIn X.K (.ref f) = true) (hb : Binds X.K fd ps [])
    (ha : DA X (e :: es) t) (hdb : (x == ("__debug__" : Str)) = false := by decide) (he : starEach (e :: es) X.env = (false, eval e X.env) :: starEach es X.env := by rfl) (hpl : (backTo pos (starEach es X.env)).any (·.1) = false := by rfl) :
    DVX X W (.Call (.Name x p) (e :: es) [] pos) (dCallX S t) := pe_w (pe_callS F hr hg hm hk hb (fun σ => passAt tk σ) ha hdb he hpl) fun σ H Q ⟨c, G, ow, ε, A, B, R, h, k1, k2⟩ => ⟨c, G, ow, ε, _, R, h, fun rs ε1 G1 H1 ow1 vs h1 F1 R1 V1 => by
      obtain ⟨ps, hps, hn, h1⟩ := onO_get h1
      obtain ⟨par, ow', Rc, hpar, hl, back⟩ := callM_core R1 V1 hps hn
      refine ⟨⟨H1, ow', par⟩, G1, ow', ps, _, _, rfl, Rc, hS _ _ _ h1, hpar, h1, fun r ps' v G2 H2 ow2 q F2 R2 V2 => ?_, fun nm ps' G2 H2 ow2 q F2 R2 C hC => ?_⟩
      · obtain ⟨ε2, hb, q⟩ := onO_get q
        obtain ⟨ow3, F3, R3, V3⟩ := back G2 H2 ow2 ps' ε2 F2 R2 hb
        exact k1 r ε2 G2 H2 ow3 v q (F1.trans F3) R3 (V3 r v V2 H F1.dom)
      · obtain ⟨ε2, hb, q⟩ := onO_get q
        obtain ⟨ow3, F3, R3, V3⟩ := back G2 H2 ow2 ps' ε2 F2 R2 hb
        exact k2 nm ε2 G2 H2 ow3 q (F1.trans F3) R3 C hC⟩
def sExprX (t : TDX) : TDS := fun A ε => t ε (fun _ ε1 => A.nx ε1) A.xc
def sRetX (t : TDX) : TDS := fun A ε => t ε (fun r ε1 => match unbor ε1 r with
  | some (r', ε2) => A.rt r' ε2
  | none => False) A.xc
def sSetX (i : Nat) (t : TDX) : TDS := fun A ε => t ε (fun r ε1 => match slOf ε1 r with
  | some (s, ε2) => A.nx (put ε2 i s)
  | none => False) A.xc
variable {te : TDX}
theorem ds_exprX (he : DVX X W e te) (hs : swapsWith e none pos.line X.env = pure false := by rfl) : DS X W (.Expr e pos) (sExprX te) := ps_w (ps_expr he hs) fun D σ H ⟨c, G, ow, ε, A, R, h, k1, k2, k3, k4, k5⟩ =>
  ⟨c, G, ow, ε, _, _, R, h, fun r ε1 G1 H1 ow1 v h1 F1 R1 V1 => k1 ε1 σ G1 H1 ow1 h1 F1 R1, fun nm ε1 G1 H1 ow1 h1 F1 R1 => k5 nm ε1 σ G1 H1 ow1 h1 F1 R1⟩
theorem ds_retX (he : DVX X W e te) : DS X W (.Return (some e) pos) (sRetX te) := ps_w (ps_ret he) fun D σ H ⟨c, G, ow, ε, A, R, h, k1, k2, k3, k4, k5⟩ =>
  ⟨c, G, ow, ε, _, _, R, h, fun r ε1 G1 H1 ow1 v h1 F1 R1 V1 => by
    cases q : unbor ε1 r with
    | none => simp only [q] at h1
    | some z =>
      obtain ⟨r', ε2⟩ := z
      simp only [q] at h1
      obtain ⟨ow2, F2, R2, V2⟩ := unbor_ok R.dom F1 R1 V1 q
      exact k2 r' ε2 σ G1 H1 ow2 v h1 F2 R2 V2, fun nm ε1 G1 H1 ow1 h1 F1 R1 => k5 nm ε1 σ G1 H1 ow1 h1 F1 R1⟩
theorem ds_setX {i : Nat} {y : Str} {py : Pos} (hN : X.N.Nodup) (hi : X.N[i]? = some y) (hx : Loc X.env.scope y) (he : DVX X W e te) (hs : swapsWith e (some (.Name y py)) pos.line X.env = pure false := by rfl) (hf : X.fn y = true ∨ X.env.scope.names.lookup y = some .local := by first | exact .inl rfl | exact .inr rfl | assumption) :
    DS X W (.Assign [.Name y py] e pos) (sSetX i te) := ps_wl (ps_set hN hi hx he hs hf) fun D σ H hlen ⟨c, G, ow, ε, A, R, h, k1, k2, k3, k4, k5⟩ => ⟨c, G, ow, ε, _, _, R, h, fun r ε1 G1 H1 ow1 v h1 F1 R1 V1 => by
    cases q : slOf ε1 r with
    | none => simp only [q] at h1
    | some z =>
      obtain ⟨s, ε2⟩ := z
      simp only [q] at h1
      obtain ⟨G2, ow2, F2, R2⟩ := store_sl F1 R.dom R1 V1 (by rw [← R1.len, hlen]; exact (List.getElem?_eq_some_iff.mp hi).1) q
      exact k1 _ _ G2 H1 ow2 h1 F2 R2, fun nm ε1 G1 H1 ow1 h1 F1 R1 => k5 nm ε1 σ G1 H1 ow1 h1 F1 R1⟩
end
/-! ### try .. except C as n: y = n -/
/-- what a clause except x catches -/
structure ExCt (K : PySem.W.Frag) (mg : Str → Option Value) (x : Str) (f : Str → Option Bool) : Prop where
  is : ∃ cv : Value, mg x = some cv ∧ ∀ nm b, f nm = some b → ∀ C : Addr, PySem.W.nsIn K mainGlobals nm = some (some (.ref C)) → PySem.W.exmOne K (.ref C) cv = some b
def sTry (tb : TDS) (i j : Nat) (f : Str → Option Bool) : TDS := fun A ε => tb { nx := A.nx, rt := A.rt, bk := A.bk, ct := A.ct, xc := fun nm ε1 => onO (f nm) fun b => onB b (A.nx (put (put ε1 j (.ex nm)) i .un)) (A.xc nm ε1) } ε
section
variable {X : Cx} {W : WX}
theorem rep_un {K : PySem.W.Frag} {c : Ct} {G H : Hp} {ow : Ow} {σ : L2.St} {ε : Ep} {i : Nat} (R : Rep K c G H ow σ ε) (o : Option V) : Rep K c G H ow (σ.set i o) (put ε i .un) := by
  refine ⟨R.ex, R.dom, by rw [put_length, List.length_set]; exact R.len, fun j o' z => ?_⟩
  by_cases hj : j = i
  · subst hj
    by_cases hi : j < ε.length
    · rw [look_put_self hi]
      trivial
    · rw [look_out (by rw [put_length]; omega)]
      trivial
  · rw [look_put_ne hj]
    rw [List.getElem?_set_ne (fun e => hj e.symm)] at z
    exact R.sl j o' z
theorem ds_try {x n y : Str} {i j : Nat} {body : List Stmt} {np pn py pa pos pos' : Pos} {tb : TDS} {f : Str → Option Bool} (hs : X.stack = X.env :: X.outer) (hf : X.env.frame = some X.env.locals) (hex : X.ex = []) (hN : X.N.Nodup) (hi : X.N[i]? = some n) (hj : X.N[j]? = some y) (hij : j ≠ i) (hln : X.env.kindOf n = some .local) (hly : X.env.kindOf y = some .local)
    (hg : Gl X x) (hdb : (x == ("__debug__" : Str)) = false) (hc : ExCt X.K X.mg x f) (tk : Takes X W)
    (hb : ∀ (W : WX) (pn : List (Addr × Obj)) (xe : Value → Shared → Prop), Takes (X.tr pn xe) W → PassesOwn (model X.prog X.w) X.A X.env xe → DSs (X.tr pn xe) W body tb)
    (hsu : ∀ (a : Addr) (oe : Obj) (pn' : List (Addr × Obj)), PSs (X.suite a ((a, oe) :: pn')) [.Assign [.Name y py] (.Name n pn) pa] (tAsg (tVar i) (gName j))) :
    DS X W (.Try body [.ExceptHandler (some (.Name x np)) (some n) [.Assign [.Name y py] (.Name n pn) pa] pos'] [] [] pos) (sTry tb i j f) := by
  obtain ⟨cv, hmx, hcv⟩ := hc.is
  refine ps_wl (ps_try_keep (tb := fun W' => rdS X.K W' tb) (ts := fun _ _ => tAsg (tVar i) (gName j)) (c := cv) hs hf hN hi hln ⟨hg, hdb, .inl hmx⟩ tk hex (fun W' pn' xe tk' hp => hb W' pn' xe tk' hp) (fun a oe cls pn' _ _ => hsu a oe pn')) fun D σ H hlen ⟨c, G, ow, ε, A, R, h, k1, k2, k3, k4, k5⟩ => ?_
  refine ⟨c, G, ow, ε, _, R, h, k1, k2, k3, k4, fun nm ε1 σ1 G1 H1 ow1 h1 F1 R1 C hC => ?_⟩
  obtain ⟨b, hfb, h1⟩ := onO_get h1
  refine ⟨rfl, b, hcv nm b hfb C hC, fun hb' hl1 a ha => ?_, fun hb' => ?_⟩
  · subst hb'
    have hil : i < σ1.length := by rw [hl1]; exact (List.getElem?_eq_some_iff.mp hi).1
    have hjl : j < σ1.length := by rw [hl1]; exact (List.getElem?_eq_some_iff.mp hj).1
    refine ⟨.ref a, List.getElem?_set_self hil, ?_⟩
    show H1 a = none → D.nx (((σ1.set i (some (.ref a))).set j (some (.ref a))).set i none) (upd H1 a (ExC (.ref C) a))
    intro _
    obtain ⟨F2, R2⟩ := grow_frz (o := ExC (.ref C) a) R1 ha
    have e1 : ((σ1.set i (some (.ref a))).set j (some (.ref a))).set i none = (σ1.set j (some (.ref a))).set i none := by
      rw [List.set_comm _ _ (Ne.symm hij), List.set_set]
    rw [e1]
    have R3 : Rep X.K c (upd G1 a (ExC (.ref C) a)) (upd H1 a (ExC (.ref C) a)) ow1 (σ1.set j (some (.ref a))) (put ε1 j (.ex nm)) := rep_put R2 (by rw [← R1.len]; exact hjl) ⟨.ref a, rfl, a, C, rfl, hC, upd_same⟩
    exact k1 _ _ _ _ _ h1 (F1.trans F2) (rep_un R3 none)
  · subst hb'
    exact k5 nm ε1 σ1 G1 H1 ow1 h1 F1 R1 C hC
end
end DL
namespace DL
open PySem PySem.Spec PyProof.Rows L2
/-! ### isinstance of an exception; is None of a thing that may be one -/
def rIsX (K : PySem.W.Frag) : List V → Hp → VK → Prop := fun xs H Q => ∃ (a C : Addr) (c : V) (cv : Value) (b : Bool), xs = [.ref a, c] ∧ H a = some (ExC (.ref C) a) ∧ ExcC K C ∧ (∀ u, RelV c u → u = cv) ∧ PySem.W.kitOne K (.ref C) cv = some b ∧ Q (.bl b) H
theorem call_isX {X : Cx} : CallR X (.builtin "isinstance") (rIsX X.K) := by
  intro pins s σ H xs us Q I r h
  obtain ⟨a, D, c, cv, b, rfl, hH, C, hcv, e, q⟩ := h
  obtain ⟨u1, u2, rfl, rx, rt⟩ : ∃ u1 u2, us = [u1, u2] ∧ RelV (.ref a) u1 ∧ RelV c u2 := by
    cases r with
    | cons rx rr => cases rr with
      | cons rt rr => cases rr; exact ⟨_, _, rfl, rx, rt⟩
  cases rx
  cases hcv _ rt
  obtain ⟨⟨oe, vs, hget, ⟨h1, h2⟩, hv⟩, _, _⟩ := I.hok a _ hH
  have J : PySem.W.InstAt s.heap a oe D none := by
    obtain ⟨oc, od, oda, osl⟩ := oe
    dsimp only at h1 h2 hv
    subst h1 h2 hv
    exact ⟨hget, rfl, rfl, trivial⟩
  exact PySem.W.kia_one (PySem.W.handS_kitx_exc C.hg C.hk C.hs C.hd C.ha C.hn C.ht C.hm) I.kIn J e (fun z => nomatch z) fun tk => ⟨.bl b, H, I.kept (t' := tk) fun _ _ z => z, rfl, q⟩
/-- what isinstance with the value cv answers of exceptions -/
structure ExTy (K : PySem.W.Frag) (cv : Value) (f : Str → Option Bool) : Prop where
  is : ∀ nm b, f nm = some b → ∀ C : Addr, PySem.W.nsIn K mainGlobals nm = some (some (.ref C)) → ExcC K C ∧ PySem.W.kitOne K (.ref C) cv = some b
structure ExIs (K : PySem.W.Frag) (mg : Str → Option Value) (x : Str) (f : Str → Option Bool) : Prop where
  is : ∃ D : Addr, mg x = some (.ref D) ∧ ExTy K (.ref D) f
def dIsx (t : TD) (f : Str → Option Bool) : TD := fun ε A => t ε fun r ε1 => match r with
  | .ex nm => onO (f nm) fun b => A (.d (.bool b)) ε1
  | _ => False
section
variable {X : Cx} {e : Expr} {t : TD} {p pos pT : Pos} {x : Str} {f : Str → Option Bool}
theorem isx_rd {K : PySem.W.Frag} {c : V} {cv : Value} {σ : L2.St} {H : Hp} {Q : VK} (T : ExTy K cv f) (hcv : ∀ u, RelV c u → u = cv) (h : rdV K (dIsx t f) σ H Q) : rdV K t σ H fun v H1 => rIsX K [v, c] H1 Q := by
  obtain ⟨c', G, ow, ε, A, R, h, kk⟩ := h
  refine ⟨c', G, ow, ε, _, R, h, fun r ε1 G1 H1 ow1 v h1 F1 R1 V1 => ?_⟩
  cases r with
  | ex nm =>
    obtain ⟨b, hb, h1⟩ := onO_get h1
    obtain ⟨a, C, rfl, hC, hG⟩ := V1
    obtain ⟨q1, q2⟩ := T.is nm b hb C hC
    exact ⟨a, C, c, cv, b, rfl, R1.ex _ _ hG, q1, hcv, q2, kk _ ε1 G1 H1 ow1 (.bl b) h1 F1 R1 (.bl b)⟩
  | _ => exact h1.elim
theorem dv_isx (he : DV X e t) (hg : Gl X "isinstance") (hm : X.mg "isinstance" = none) (hv : bootBuiltins "isinstance" = some (.builtin "isinstance")) (hgT : Gl X x) (T : ExIs X.K X.mg x f) (hdT : (x == ("__debug__" : Str)) = false := by decide)
    (hs : starEach [e, .Name x pT] X.env = (false, eval e X.env) :: starEach [.Name x pT] X.env := by rfl) (hs2 : starEach [.Name x pT] X.env = (false, eval (.Name x pT) X.env) :: starEach [] X.env := by rfl) (hp : (backTo pos (starEach [.Name x pT] X.env)).any (·.1) = false := by rfl) :
    DV X (.Call (.Name "isinstance" p) [e, .Name x pT] [] pos) (dIsx t f) := by
  obtain ⟨D, hD, T⟩ := T.is
  exact pe_w (pe_callB call_isX hg hm hv (pa_cons he (pa_cons (pe_glob hgT hD (v := .ref D) rfl hdT) pa_nil hs2) hs) (by decide) (by decide) hs hp) fun σ H Q h => isx_rd (c := .ref D) T (fun u r => r) h
theorem dv_isxB {Tn : String} (he : DV X e t) (hg : Gl X "isinstance") (hm : X.mg "isinstance" = none) (hv : bootBuiltins "isinstance" = some (.builtin "isinstance")) (hgT : Gl X x) (hmT : X.mg x = none) (hvT : bootBuiltins x = some (.type Tn)) (T : ExTy X.K (.type Tn) f) (hnT : x ≠ "__name__" := by decide) (hdT : (x == ("__debug__" : Str)) = false := by decide)
    (hs : starEach [e, .Name x pT] X.env = (false, eval e X.env) :: starEach [.Name x pT] X.env := by rfl) (hs2 : starEach [.Name x pT] X.env = (false, eval (.Name x pT) X.env) :: starEach [] X.env := by rfl) (hp : (backTo pos (starEach [.Name x pT] X.env)).any (·.1) = false := by rfl) :
    DV X (.Call (.Name "isinstance" p) [e, .Name x pT] [] pos) (dIsx t f) :=
  pe_w (pe_callB call_isX hg hm hv (pa_cons he (pa_cons (pe_bltn hgT hmT hvT (v := .ty Tn) rfl hnT hdT) pa_nil hs2) hs) (by decide) (by decide) hs hp) fun σ H Q h => isx_rd (c := .ty Tn) T (fun u r => r) h
end
def isNx (neg : Bool) (ε : Ep) : Vl → Option Bool
  | .ex _ => some neg
  | .d x => some (if neg then !isN x else isN x)
  | .new _ => some neg
  | .bor i => match look ε i with
    | .lst _ _ => some neg
    | .dct _ _ => some neg
    | _ => none
  | _ => none
def dIsNx (neg : Bool) (t : TD) : TD := fun ε A => t ε fun r ε1 => onO (isNx neg ε1 r) fun b => A (.d (.bool b)) ε1
theorem isnx_ok {K : PySem.W.Frag} {c : Ct} {Hs G H : Hp} {ow : Ow} {σ : L2.St} {ε : Ep} {r : Vl} {v : V} {neg b : Bool} (R : Rep K c G H ow σ ε) (V1 : VOk K Hs G H ow σ r v) (h : isNx neg ε r = some b) : (if neg then !decide (v = .non) else decide (v = .non)) = b := by
  have ref : ∀ a : Addr, v = .ref a → some neg = some b → (if neg then !decide (v = .non) else decide (v = .non)) = b := fun a e h => by
    subst e
    cases h
    cases neg <;> rfl
  cases r with
  | ex nm =>
    obtain ⟨a, C, e, _⟩ := V1
    exact ref a e h
  | d x =>
    have e := isN_ok (.inl V1 : Pk K G H v x)
    rw [e]
    exact Option.some.inj h
  | new xs =>
    obtain ⟨p, _, e, _⟩ := V1
    exact ref p e h
  | bor i =>
    have V1 : σ[i]? = some (some v) := V1
    have q := R.at V1
    cases hl : look ε i with
    | lst fr xs =>
      rw [hl] at q
      obtain ⟨p, _, e, _⟩ := q
      cases e
      simp only [isNx, hl] at h
      exact ref p rfl h
    | dct fr xs =>
      rw [hl] at q
      obtain ⟨p, _, e, _⟩ := q
      cases e
      simp only [isNx, hl] at h
      exact ref p rfl h
    | _ => simp [isNx, hl] at h
  | _ => cases h
theorem dv_isN {X : Cx} {e : Expr} {t : TD} {pos : Pos} {j : Nat} {p2 : Pos} (he : DV X e t) (hm : behindInMarks .Is (.Constant .none j p2) = false := by rfl) : DV X (.Compare e [.Is] [.Constant .none j p2] pos) (dIsNx false t) :=
  pe_w (pe_cmpR op_isN he pe_non hm) fun σ H Q ⟨c, G, ow, ε, A, R, h, kk⟩ => ⟨c, G, ow, ε, _, R, h, fun r ε1 G1 H1 ow1 v h1 F1 R1 V1 => by
    obtain ⟨b, hb, h1⟩ := onO_get h1
    refine ⟨rfl, ?_⟩
    rw [show decide (v = .non) = b from isnx_ok R1 V1 hb]
    exact kk _ ε1 G1 H1 ow1 (.bl b) h1 F1 R1 (.bl b)⟩
theorem dv_notN {X : Cx} {e : Expr} {t : TD} {pos : Pos} {j : Nat} {p2 : Pos} (he : DV X e t) (hm : behindInMarks .IsNot (.Constant .none j p2) = false := by rfl) : DV X (.Compare e [.IsNot] [.Constant .none j p2] pos) (dIsNx true t) :=
  pe_w (pe_cmpR op_notN he pe_non hm) fun σ H Q ⟨c, G, ow, ε, A, R, h, kk⟩ => ⟨c, G, ow, ε, _, R, h, fun r ε1 G1 H1 ow1 v h1 F1 R1 V1 => by
    obtain ⟨b, hb, h1⟩ := onO_get h1
    refine ⟨rfl, ?_⟩
    rw [show (!decide (v = .non)) = b from isnx_ok R1 V1 hb]
    exact kk _ ε1 G1 H1 ow1 (.bl b) h1 F1 R1 (.bl b)⟩
/-! ### steps -/
section
variable {A : Vl → Ep → Prop} {V : Vl → Prop} {ε : Ep} {t u v : TD} {o : Vl → Ep → Prop} {B : Str → Ep → Prop} {a : TDA} {C : List Vl → Ep → Prop} {S : DSp} {Sx : DSpX} {D : DEnds} {s : TDS} {tx : TDX} {nm : Str} {f : Str → Option Bool} {i j : Nat} {neg : Bool} {r : Vl} {rs : List Vl}
theorem ap_mF : ev (dmF t a ε C) = ev (t ε fun r ε1 => match frzX ε1 r with
  | some (r', ε2) => a ε2 fun rs ε3 => C (r' :: rs) ε3
  | none => False) := id rfl
theorem ap_callM : ev (dCallM S a ε A) = ev (a ε fun rs ε1 => onO (parAll ε1 rs) fun ps => (rs.filterMap slotOf).Nodup ∧ runS S ps fun r ps' => onO (bkAll ε1 rs ps') fun ε2 => A r ε2) := id rfl
theorem ap_callX : ev (dCallX Sx a ε A B) = ev (a ε fun rs ε1 => onO (parAll ε1 rs) fun ps => (rs.filterMap slotOf).Nodup ∧ runX Sx ps (fun r ps' => onO (bkAll ε1 rs ps') fun ε2 => A r ε2) fun nm ps' => onO (bkAll ε1 rs ps') fun ε2 => B nm ε2) := id rfl
theorem ap_raise : ev (sRaise nm D ε) = ev (D.xc nm ε) := id rfl
theorem ap_exprX : ev (sExprX tx D ε) = ev (tx ε (fun _ ε1 => D.nx ε1) D.xc) := id rfl
theorem ap_retX : ev (sRetX tx D ε) = ev (tx ε (fun r ε1 => match unbor ε1 r with
  | some (r', ε2) => D.rt r' ε2
  | none => False) D.xc) := id rfl
theorem ap_setX : ev (sSetX i tx D ε) = ev (tx ε (fun r ε1 => match slOf ε1 r with
  | some (s, ε2) => D.nx (put ε2 i s)
  | none => False) D.xc) := id rfl
theorem ap_try : ev (sTry s i j f D ε) = ev (s { nx := D.nx, rt := D.rt, bk := D.bk, ct := D.ct, xc := fun nm ε1 => onO (f nm) fun b => onB b (D.nx (put (put ε1 j (.ex nm)) i .un)) (D.xc nm ε1) } ε) := id rfl
theorem ap_isx : ev (dIsx t f ε A) = ev (t ε fun r ε1 => match r with
  | .ex nm => onO (f nm) fun b => A (.d (.bool b)) ε1
  | _ => False) := id rfl
theorem ap_isNx : ev (dIsNx neg t ε A) = ev (t ε fun r ε1 => onO (isNx neg ε1 r) fun b => A (.d (.bool b)) ε1) := id rfl
theorem nx_ex : isNx neg ε (.ex nm) = some neg := id rfl
theorem nx_new {xs : List PyData} : isNx neg ε (.new xs) = some neg := id rfl
theorem nx_d {x : PyData} : isNx neg ε (.d x) = some (if neg then !isN x else isN x) := id rfl
theorem fx_ex : frzX ε (.ex nm) = some (.ex nm, ε) := id rfl
theorem fx_d {x : PyData} : frzX ε (.d x) = some (.d x, ε) := id rfl
theorem fx_new {xs : List PyData} : frzX ε (.new xs) = some (.d (.list xs), ε) := id rfl
theorem fx_bor : frzX ε (.bor i) = match frz ε (.bor i) with
  | some (x, ε') => some (.d x, ε')
  | none => none := id rfl
theorem pa_nil : parAll ε [] = some [] := id rfl
theorem pa_cons : parAll ε (r :: rs) = match parS ε r, parAll ε rs with
  | some s, some ss => some (s :: ss)
  | _, _ => none := id rfl
theorem bk_nil {ss : List Sl} : bkAll ε [] ss = some ε := by cases ss <;> rfl
theorem bk_cons {s : Sl} {ss : List Sl} : bkAll ε (r :: rs) (s :: ss) = match slotOf r with
  | none => bkAll ε rs ss
  | some j => match bk1 r (look ε j) s with
    | some s' => bkAll (put ε j s') rs ss
    | none => none := by rw [bkAll] <;> cases slotOf r <;> rfl
theorem takes_noW {X : Cx} : Takes X noW := fun _ _ ⟨_, _, _, _, _, _, _, _, _, _, _, _, _, _, _, _, w⟩ => w.elim
end
end DL

/-! DL6: in, sorted, count over data; unpacking. -/
namespace DL
open PySem PySem.Spec PyProof.Rows L2
/-! ### in -/
def kInA (neg : Bool) : PyData → PyData → (Vl → Prop) → Prop := fun x y A => match y with
  | .list ys => shp x = true ∧ shp (.list ys) = true ∧ A (.d (.bool (if neg then !inD x ys else inD x ys)))
  | .tuple ys => shp x = true ∧ shp (.tuple ys) = true ∧ A (.d (.bool (if neg then !inD x ys else inD x ys)))
  | _ => False
def rInP (K : PySem.W.Frag) (neg : Bool) : R2 := fun x y H Q => ∃ d ds, Dd K H x d ∧ (Dd K H y (.list ds) ∨ Dd K H y (.tuple ds)) ∧ shp d = true ∧ shp (.list ds) = true ∧ Q (.bl (if neg then !inD d ds else inD d ds)) H
theorem shp_tl {ds : List PyData} : shp (.tuple ds) = shp (.list ds) := by
  simp [shp, PyData.plain, PyData.depth]
theorem shp_all {ds : List PyData} (h : shp (.list ds) = true) : PyData.plainAll ds = true := by
  have := shp_plain h
  simpa [PyData.plain] using this
theorem in_room {X : Cx} {d : PyData} {ds : List PyData} (hu : X.A.units + 64 < cLine) (h : shp d = true) : X.A.units + 1 + min (PyData.depthAll ds) d.depth < cLine := by
  unfold shp at h
  rw [Bool.and_eq_true] at h
  have := of_decide_eq_true h.2
  omega
theorem op_inP {X : Cx} (hu : X.A.units + 64 < cLine) : OpR X (compareOp .In) (rInP X.K false) := by
  intro pins s σ H x y v u Q I rx ry h
  obtain ⟨d, ds, hd, he, sd, se, q⟩ := h
  obtain ⟨as, r1⟩ := Dp.reads I d x v (hd.dpP d (shp_plain sd)) rx
  rcases he with he | he
  · obtain ⟨bs, r2⟩ := Dp.reads I _ y u (he.dpP _ (shp_plain se)) ry
    exact SeqAt.in_list_data r2 r1 (shp_all se) (shp_plain sd) (in_room hu sd) ⟨.bl _, H, I, rfl, q⟩
  · obtain ⟨bs, r2⟩ := Dp.reads I _ y u (he.dpP _ (shp_plain (by rw [shp_tl]; exact se))) ry
    exact SeqAt.in_tuple_data r2 r1 (shp_all se) (shp_plain sd) (in_room hu sd) ⟨.bl _, H, I, rfl, q⟩
theorem op_notInP {X : Cx} (hu : X.A.units + 64 < cLine) : OpR X (compareOp .NotIn) (rInP X.K true) := by
  intro pins s σ H x y v u Q I rx ry h
  obtain ⟨d, ds, hd, he, sd, se, q⟩ := h
  obtain ⟨as, r1⟩ := Dp.reads I d x v (hd.dpP d (shp_plain sd)) rx
  rcases he with he | he
  · obtain ⟨bs, r2⟩ := Dp.reads I _ y u (he.dpP _ (shp_plain se)) ry
    exact SeqAt.notIn_list_data r2 r1 (shp_all se) (shp_plain sd) (in_room hu sd) ⟨.bl _, H, I, rfl, q⟩
  · obtain ⟨bs, r2⟩ := Dp.reads I _ y u (he.dpP _ (shp_plain (by rw [shp_tl]; exact se))) ry
    exact SeqAt.notIn_tuple_data r2 r1 (shp_all se) (shp_plain sd) (in_room hu sd) ⟨.bl _, H, I, rfl, q⟩
theorem od_inA {K : PySem.W.Frag} (neg : Bool) : OpD K (rInP K neg) (kInA neg) := fun G H x y v1 v2 A Q e p1 p2 h k => by
  unfold kInA at h
  split at h
  · exact ⟨x, _, p1.dp e, .inl (p2.dp e), h.1, h.2.1, k _ _ _ h.2.2 (.val (.bl _))⟩
  · exact ⟨x, _, p1.dp e, .inr (p2.dp e), h.1, by rw [← shp_tl]; exact h.2.1, k _ _ _ h.2.2 (.val (.bl _))⟩
  · exact h.elim
/-! ### sorted -/
def sortD (xs : List PyData) : List PyData := xs.mergeSort (PySem.W.dataLe false id)
def rSortD (K : PySem.W.Frag) : List V → Hp → VK → Prop := fun vs H Q => ∃ (a : Addr) (xs : List V) (ds : List PyData) (P : V → PyData → Prop), vs = [V.ref a] ∧ SqL K H a xs ∧ Paired P xs ds ∧ (∀ v d, P v d → Dd K H v d) ∧ PySem.W.AllAlike ds ∧ PySem.W.Sortable ds ∧ shp (.list ds) = true ∧ ds.length ≤ 1000000 ∧
  ∀ ys p, Paired P ys (sortD ds) → H p = none → Q (.ref p) (upd H p (.lst ys))
def kSortD : List PyData → (Vl → Prop) → Prop := fun xs A => match xs with
  | [.list ds] => (PySem.W.AllAlike ds ∧ PySem.W.Sortable ds ∧ shp (.list ds) = true ∧ ds.length ≤ 1000000) ∧ A (.new (sortD ds))
  | _ => False
def RvD (P : V → PyData → Prop) : Value → PyData → Prop := fun u d => ∃ v, RelV v u ∧ P v d
theorem rvd_of {P : V → PyData → Prop} : ∀ {ds : List PyData} {xs : List V} {us : List Value}, Vals xs us → Paired P xs ds → PySem.W.EachIs (RvD P) us ds
  | [], xs, us, r, h => by cases h; cases r; exact .nil
  | d :: ds, xs, us, r, h => by
    cases h with
    | cons h1 h2 =>
      cases r with
      | cons r t => exact .cons ⟨_, r, h1⟩ (rvd_of t h2)
theorem of_rvd {P : V → PyData → Prop} : ∀ {us : List Value} {ds : List PyData}, PySem.W.EachIs (RvD P) us ds → ∃ xs, Vals xs us ∧ Paired P xs ds
  | _, _, .nil => ⟨[], .nil, .nil⟩
  | _, _, .cons ⟨v, r, h1⟩ t => by
    obtain ⟨xs, a, b⟩ := of_rvd t
    exact ⟨v :: xs, .cons r a, .cons h1 b⟩
theorem pd_of {K : PySem.W.Frag} {G : Hp} : ∀ {ds : List PyData} {vs : List V}, DdAll K G vs ds → Paired (Dd K G) vs ds
  | [], _, h => by cases h; exact .nil
  | d :: ds, _, h => by
    cases h with
    | cons h1 h2 => exact .cons h1 (pd_of h2)
theorem of_pd {K : PySem.W.Frag} {G : Hp} : ∀ {ds : List PyData} {vs : List V}, Paired (Dd K G) vs ds → DdAll K G vs ds
  | [], _, h => by cases h; exact .nil
  | d :: ds, _, h => by
    cases h with
    | cons h1 h2 => exact .cons h1 (of_pd h2)
theorem depth_mem {d : PyData} : ∀ {ds : List PyData}, d ∈ ds → d.depth ≤ PyData.depthAll ds
  | x :: xs, h => by
    rw [PyData.depthAll]
    rcases List.mem_cons.mp h with rfl | h
    · exact Nat.le_max_left _ _
    · exact Nat.le_trans (depth_mem h) (Nat.le_max_right _ _)
theorem plain_mem {d : PyData} : ∀ {ds : List PyData}, d ∈ ds → PyData.plainAll ds = true → d.plain = true
  | x :: xs, h, p => by
    rw [PyData.plainAll, Bool.and_eq_true] at p
    rcases List.mem_cons.mp h with rfl | h
    · exact p.1
    · exact plain_mem h p.2
theorem each_reads {X : Cx} {P : V → PyData → Prop} {pins : List (Addr × Obj)} {σ : L2.St} {H : Hp} {s : Shared} (I : Inv X pins σ H s) (hP : ∀ v d, P v d → Dd X.K H v d) : ∀ {us : List Value} {ds : List PyData}, PyData.plainAll ds = true → PySem.W.EachIs (RvD P) us ds → PySem.W.EachIs (fun v b => ∃ as, Reads s.heap v (id b) as) us ds
  | _, _, _, .nil => .nil
  | _, _, p, .cons ⟨v, r, h1⟩ t => by
    rw [PyData.plainAll, Bool.and_eq_true] at p
    exact .cons (Dp.reads I _ _ _ ((hP _ _ h1).dpP _ p.1) r) (each_reads I hP p.2 t)
theorem cr_sortD {X : Cx} (hu : X.A.units + 64 < cLine) : CallR X (.builtin "sorted") (rSortD X.K) := by
  intro pins s σ H vs us Q I r h
  obtain ⟨a, xs, ds, P, rfl, hs, hd, hP, hal, hk, hp, hn, q⟩ := h
  obtain ⟨its, rv, hl, _⟩ := I.list hs
  rw [Vals.ref1 r]
  have e := rvd_of rv hd
  have hm : ds.map id = ds := List.map_id _
  have hz : ds.length ≤ sizeLine := line_le hn
  refine PySem.W.sorted_data (enc := id) hl.isList e (each_reads I hP (shp_all hp) e) (by rw [hm]; exact hal) (by rw [hm]; exact hk) hz (fun b hb => ?_) fun out ho eo => ?_
  · have h1 := depth_mem hb
    have h2 : PyData.depth (.list ds) ≤ 60 := by
      unfold shp at hp
      rw [Bool.and_eq_true] at hp
      exact of_decide_eq_true hp.2
    have h3 : PyData.depth (.list ds) = PyData.depthAll ds + 1 := by simp [PyData.depth]
    show X.A.units + 2 + b.depth < cLine
    omega
  · obtain ⟨ep, he'⟩ := PyProof.Rows.sortedAll_at s.heap its out.toArray
    obtain ⟨ys, v1, v2⟩ := of_rvd eo
    have hlen : ys.length ≤ sizeLine := by rw [v1.length, ho]; exact hz
    exact ⟨.ref _, upd H (s.heap.objs.size + 1) (.lst ys), I.laid (t' := s.toks) (fun _ _ => PyProof.Rows.sortedAll_old) (Nat.le_succ _) ⟨hlen, out, ep, v1, he'⟩, rfl, q ys _ v2 (I.hok.fresh (Nat.le_succ _))⟩
theorem cd_sortD {K : PySem.W.Frag} : CallD K (rSortD K) kSortD := fun G H xs vs A Q e p h k => by
  unfold kSortD at h
  split at h
  · obtain ⟨⟨h1, h2, h3, h4⟩, h⟩ := h
    obtain ⟨v, rfl, p1⟩ := pk1 p
    obtain ⟨a, us, rfl, hs, ha⟩ := p1.list e
    exact ⟨a, us, _, Dd K G, rfl, hs, pd_of ha, fun v d hd => dp_ex e d hd, h1, h2, h3, h4, fun ys q hy hq => k _ _ _ h (.lst hq (of_pd hy))⟩
  · exact h.elim
/-! ### methods that only read: x.m(..) -/
def tyM : String → PyData → Bool := fun T x => match x with
  | .str _ => T == "str"
  | .int _ => T == "int"
  | .list _ => T == "list"
  | _ => false
def dMeth (T : String) (k : PyData → List PyData → (Vl → Prop) → Prop) (ta : TD) (tb : TDF) : TD := fun ε A => ta ε fun r1 ε1 => match peek ε1 r1 with
  | some x0 => tyM T x0 = true ∧ tb ε1 fun ds ε2 => match peek ε2 r1 with
    | some x => k x ds fun r => A r ε2
    | none => False
  | none => False
def dMeth0 (T : String) (k : PyData → List PyData → (Vl → Prop) → Prop) (ta : TD) : TD := fun ε A => ta ε fun r1 ε1 => match peek ε1 r1 with
  | some x => tyM T x = true ∧ k x [] fun r => A r ε1
  | none => False
def MetD (K : PySem.W.Frag) (r : V → List V → Hp → VK → Prop) (k : PyData → List PyData → (Vl → Prop) → Prop) : Prop := ∀ G H v us x ds (A : Vl → Prop) (Q : VK), Same G H → Pk K G H v x → DdAll K G us ds → k x ds A →
  (∀ r v H', A r → Res K G H r v H' → Q v H') → r v us H Q
theorem tyM_ok {K : PySem.W.Frag} {G H : Hp} {T : String} {x : PyData} {v : V} (e : Same G H) (p : Pk K G H v x) (h : tyM T x = true) : tyV K T v H := by
  cases x with
  | str z => cases p.str; exact beq_iff_eq.mp h
  | int i => cases p.int; exact beq_iff_eq.mp h
  | list xs =>
    obtain ⟨a, us, rfl, hs, _⟩ := p.list e
    exact .inl ⟨beq_iff_eq.mp h, us, hs⟩
  | none => cases h
  | bool _ => cases h
  | tuple _ => cases h
  | dict _ => cases h
theorem dmeth_rd {K : PySem.W.Frag} {T : String} {r : V → List V → Hp → VK → Prop} {k : PyData → List PyData → (Vl → Prop) → Prop} {ta : TD} {tb : TDF} {σ : L2.St} {H : Hp} {Q : VK} (hk : MetD K r k) (h : rdV K (dMeth T k ta tb) σ H Q) : tBM K T r (rdV K ta) (rdF K tb) σ H Q := by
  obtain ⟨c, G, ow, ε, A, R, h, kk⟩ := h
  refine ⟨c, G, ow, ε, _, R, h, fun r1 ε1 G1 H1 ow1 v1 h1 F1 R1 V1 => ?_⟩
  cases e1 : peek ε1 r1 with
  | none => simp only [e1] at h1
  | some x0 =>
    simp only [e1] at h1
    refine ⟨tyM_ok R1.ex (peek_ok R1 V1 e1) h1.1, c, G1, ow1, ε1, _, R1, h1.2, fun ds ε2 G2 H2 ow2 vs h2 F2 R2 V2 => ?_⟩
    cases e2 : peek ε2 r1 with
    | none => simp only [e2] at h2
    | some x =>
      simp only [e2] at h2
      refine hk G2 H2 v1 vs x ds _ Q R2.ex (peek_ok R2 (V1.fr F2) e2) V2 h2 fun r v H' hr hres => ?_
      obtain ⟨G', ow', F3, R3, V3⟩ := res_fin R2 hres
      exact kk r ε2 G' H' ow' v hr ((F1.trans F2).trans F3) R3 (V3.since (F1.trans F2).dom)
theorem dmeth0_rd {K : PySem.W.Frag} {T : String} {r : V → List V → Hp → VK → Prop} {k : PyData → List PyData → (Vl → Prop) → Prop} {ta : TD} {σ : L2.St} {H : Hp} {Q : VK} (hk : MetD K r k) (h : rdV K (dMeth0 T k ta) σ H Q) : tBM0 K T r (rdV K ta) σ H Q := by
  obtain ⟨c, G, ow, ε, A, R, h, kk⟩ := h
  refine ⟨c, G, ow, ε, _, R, h, fun r1 ε1 G1 H1 ow1 v1 h1 F1 R1 V1 => ?_⟩
  cases e1 : peek ε1 r1 with
  | none => simp only [e1] at h1
  | some x0 =>
    simp only [e1] at h1
    refine ⟨tyM_ok R1.ex (peek_ok R1 V1 e1) h1.1, hk G1 H1 v1 [] x0 [] _ Q R1.ex (peek_ok R1 V1 e1) .nil h1.2 fun r v H' hr hres => ?_⟩
    obtain ⟨G', ow', F3, R3, V3⟩ := res_fin R1 hres
    exact kk r ε1 G' H' ow' v hr (F1.trans F3) R3 (V3.since F1.dom)
section
variable {X : Cx} {o e : Expr} {es : List Expr} {to : TD} {t : TDF} {name : Str} {apos cpos : Pos} {T id : String} {r : V → List V → Hp → VK → Prop} {k : PyData → List PyData → (Vl → Prop) → Prop}
theorem dv_meth0 (pa : PlainAttrs T) (slot : Slot T name id) (hty : typeOf (.builtin id) = pure (.type "method_descriptor")) (hm : MtR X id r) (hk : MetD X.K r k) (ho : DV X o to)
    (hbase : attributeBase o name X.env (eval o X.env) = eval o X.env := by rfl) (hline : (apos.endLine == cpos.line) = true := by rfl) : DV X (.Call (.Attribute o name apos) [] [] cpos) (dMeth0 T k to) :=
  pe_w (pe_bm0 pa slot hty hm ho hbase hline) fun _ _ _ h => dmeth0_rd hk h
theorem dv_meth (pa : PlainAttrs T) (slot : Slot T name id) (hty : typeOf (.builtin id) = pure (.type "method_descriptor")) (hm : MtR X id r) (hk : MetD X.K r k) (ho : DV X o to) (ha : DF X (e :: es) t)
    (hbase : attributeBase o name X.env (eval o X.env) = eval o X.env := by rfl)
    (hfew : ((backTo cpos (starEach (e :: es) X.env)).all (fun x => !x.1) && (backToKw cpos (keywordEach [] X.env)).all (fun x => x.1.isSome)
      && decide ((e :: es).length + ([] : List Keyword).length + (if ([] : List Keyword).isEmpty then 0 else 1) < 30)) = true := by rfl)
    (hline : (apos.endLine == cpos.line) = true := by rfl) (hs : starEach (e :: es) X.env = (false, eval e X.env) :: starEach es X.env := by rfl) (hplain : (backTo cpos (starEach es X.env)).any (·.1) = false := by rfl) :
    DV X (.Call (.Attribute o name apos) (e :: es) [] cpos) (dMeth T k to t) :=
  pe_w (pe_bm pa slot hty hm ho ha hbase hfew hline hs hplain) fun _ _ _ h => dmeth_rd hk h
end
/-! ### xs.count(x) -/
def kCount : PyData → List PyData → (Vl → Prop) → Prop := fun x ds A => match x, ds with
  | .list xs, [d] => shp d = true ∧ shp (.list xs) = true ∧ A (.d (.int ((xs.countP fun y => PyData.eqv y d : Nat) : Int)))
  | _, _ => False
def rCountD (K : PySem.W.Frag) : V → List V → Hp → VK → Prop := fun v us H Q => ∃ u d ds, us = [u] ∧ Dd K H u d ∧ Dd K H v (.list ds) ∧ shp d = true ∧ shp (.list ds) = true ∧ Q (.int ((ds.countP fun y => PyData.eqv y d : Nat) : Int)) H
theorem mt_countD {X : Cx} (hu : X.A.units + 64 < cLine) : MtR X "list.count" (rCountD X.K) := by
  intro pins s σ H x xs v us Q I rx rxs h
  obtain ⟨u, d, ds, rfl, hd, he, sd, se, q⟩ := h
  obtain ⟨z, rfl, rz⟩ := rxs.one
  obtain ⟨as, r1⟩ := Dp.reads I d u z (hd.dpP d (shp_plain sd)) rz
  cases he with
  | lst hs ha =>
    rename_i p vs
    cases rx
    obtain ⟨its, rv, pl, _⟩ := I.list hs
    have dp : DpAll X.K H vs ds := by
      exact ha.dpP ds (shp_all se)
    obtain ⟨bs, r2⟩ := Dp.readsAll I ds vs its dp rv
    exact SeqAt.count_list_data (vs := its.toArray) pl.isList (by simpa using r2) r1 (shp_all se) (shp_plain sd) (in_room hu sd) ⟨.int _, H, I.tok _, ⟨_, rfl⟩, q⟩
theorem me_countD {K : PySem.W.Frag} : MetD K (rCountD K) kCount := fun G H v us x ds A Q e p hu h k => by
  unfold kCount at h
  split at h
  · cases hu with
    | cons h1 t =>
      cases t
      exact ⟨_, _, _, rfl, dp_ex e _ h1, p.dp e, h.1, h.2.1, k _ _ _ h.2.2 (.val (.int _))⟩
  · exact h.elim
/-! ### (a, b, ..) = a tuple or a list -/
def gTpA (n : Nat) (gs : TDGs) : TDG := fun x ε A => match x with
  | .tuple xs => xs.length = n ∧ gs xs ε A
  | .list xs => xs.length = n ∧ gs xs ε A
  | _ => False
theorem pg_or {X : Cx} {e : Expr} {t u : TG} (h1 : PG X e t) (h2 : PG X e u) : PG X e (fun v σ H Q => t v σ H Q ∨ u v σ H Q) := by
  refine ⟨fun pins s σ H v w Q I r h => ?_⟩
  rcases h with h | h
  · exact h1.run pins s σ H v w Q I r h
  · exact h2.run pins s σ H v w Q I r h
theorem dg_tupA {X : Cx} {pos : Pos} {es : List Expr} {k : Nat} {gs : TDGs} {n : Nat} {ws : List Nat} (hc : X.calm = true) (h : DGs X es ws gs) (hn : (assignEach es X.env).length = n := by rfl) (hst : (assignEach es X.env).findIdx? (·.1) = none := by rfl) : DG X (.Tuple es k pos) ws (gTpA n gs) :=
  pg_w (pg_or (pg_tup hc h hn hst) (pg_unl hc h hn hst)) fun v σ H Q ⟨c, G, ow, ε, x, A, R, d, h, k⟩ => by
    cases x with
    | tuple xs =>
      obtain ⟨p, vs, e1, h1, h2⟩ := Pk.tuple R.ex (Or.inl d : Pk X.K G H v (.tuple xs))
      exact .inl ⟨p, vs, e1, h1, (dpa_len h2).trans h.1, c, G, ow, ε, xs, _, R, h2, h.2, k⟩
    | list xs =>
      obtain ⟨p, vs, e1, h1, h2⟩ := Pk.list R.ex (Or.inl d : Pk X.K G H v (.list xs))
      exact .inr ⟨p, vs, e1, h1, (dpa_len h2).trans h.1, c, G, ow, ε, xs, _, R, h2, h.2, k⟩
    | _ => exact h.elim
/-! ### a raising def where it does not raise -/
def dCallXn (S : DSpX) (t : TDA) : TD := fun ε A => dCallX S t ε A fun _ _ => False
theorem dv_ofX {X : Cx} {e : Expr} {tx : TDX} (h : DVX X noW e tx) : DV X e (fun ε A => tx ε A fun _ _ => False) :=
  pe_w h fun σ H Q ⟨c, G, ow, ε, A, R, h, kk⟩ => ⟨c, G, ow, ε, A, _, R, h, kk, fun nm ε' G' H' ow' q _ _ => q.elim⟩
/-! ### steps -/
section
variable {t : TD} {ts : TDF} {a : TDA} {Sx : DSpX} {f : Bool} {ε : Ep} {A : Vl → Ep → Prop} {N : Ep → Prop} {g : TDGs} {n : Nat} {xs : List PyData} {x : PyData} {B : Vl → Prop}
theorem ap_callXn : ev (dCallXn Sx a ε A) = ev (a ε fun rs ε1 => onO (parAll ε1 rs) fun ps => (rs.filterMap slotOf).Nodup ∧ runX Sx ps (fun r ps' => onO (bkAll ε1 rs ps') fun ε2 => A r ε2) fun nm ps' => onO (bkAll ε1 rs ps') fun ε2 => False) := id rfl
theorem ap_meth {T : String} {k : PyData → List PyData → (Vl → Prop) → Prop} : ev (dMeth T k t ts ε A) = ev (t ε fun r1 ε1 => match peek ε1 r1 with
  | some x0 => tyM T x0 = true ∧ ts ε1 fun ds ε2 => match peek ε2 r1 with
    | some x => k x ds fun r => A r ε2
    | none => False
  | none => False) := id rfl
theorem ap_meth0 {T : String} {k : PyData → List PyData → (Vl → Prop) → Prop} : ev (dMeth0 T k t ε A) = ev (t ε fun r1 ε1 => match peek ε1 r1 with
  | some x => tyM T x = true ∧ k x [] fun r => A r ε1
  | none => False) := id rfl
theorem ap_gtpAt : ev (gTpA n g (.tuple xs) ε N) = (xs.length = n ∧ ev (g xs ε N)) := id rfl
theorem ap_gtpAl : ev (gTpA n g (.list xs) ε N) = (xs.length = n ∧ ev (g xs ε N)) := id rfl
theorem tyM_L : tyM "list" (.list xs) = true := id rfl
theorem tyM_S {s : Str} : tyM "str" (.str s) = true := id rfl
theorem k_InAL : kInA f x (.list xs) B = (shp x = true ∧ shp (.list xs) = true ∧ B (.d (.bool (if f then !inD x xs else inD x xs)))) := id rfl
theorem k_InAT : kInA f x (.tuple xs) B = (shp x = true ∧ shp (.tuple xs) = true ∧ B (.d (.bool (if f then !inD x xs else inD x xs)))) := id rfl
theorem k_SortD : kSortD [.list xs] B = ((PySem.W.AllAlike xs ∧ PySem.W.Sortable xs ∧ shp (.list xs) = true ∧ xs.length ≤ 1000000) ∧ B (.new (sortD xs))) := id rfl
theorem k_Count : kCount (.list xs) [x] B = (shp x = true ∧ shp (.list xs) = true ∧ B (.d (.int ((xs.countP fun y => PyData.eqv y x : Nat) : Int)))) := id rfl
end
end DL

/-! DL7: facts of data, loops under invariants. -/
namespace DL
open PySem PySem.Spec PyProof.Rows L2
/-! ### small facts of data -/
theorem sh_int (i : Int) : shp (.int i) = true := id rfl
theorem sh_none : shp .none = true := id rfl
theorem sh_str (s : Str) : shp (.str s) = true := id rfl
theorem sh_bool (i : Bool) : shp (.bool i) = true := id rfl
theorem sh_nil : shp (.list []) = true := id rfl
theorem sh_nilT : shp (.tuple []) = true := id rfl
theorem eqv_int (i j : Int) : PyData.eqv (.int i) (.int j) = (i == j) := by simp [PyData.eqv]
theorem eqv_nil (xs : List PyData) : PyData.eqv (.list xs) (.list []) = xs.isEmpty := by cases xs <;> simp [PyData.eqv, PyData.eqvAll]
def fine (n : Nat) (x : PyData) : Prop := x.plain = true ∧ x.depth ≤ n
theorem fine_int (n : Nat) (i : Int) : fine n (.int i) := ⟨rfl, Nat.zero_le _⟩
theorem fine_str (n : Nat) (s : Str) : fine n (.str s) := ⟨rfl, Nat.zero_le _⟩
theorem fine_bool (n : Nat) (b : Bool) : fine n (.bool b) := ⟨rfl, Nat.zero_le _⟩
theorem fine_none (n : Nat) : fine n .none := ⟨rfl, Nat.zero_le _⟩
theorem fine_all {n : Nat} : ∀ {xs : List PyData}, (∀ x ∈ xs, fine n x) → PyData.plainAll xs = true ∧ PyData.depthAll xs ≤ n
  | [], _ => ⟨rfl, Nat.zero_le _⟩
  | x :: xs, h => by
    obtain ⟨h1, h2⟩ := h x List.mem_cons_self
    obtain ⟨h3, h4⟩ := fine_all (xs := xs) fun y hy => h y (List.mem_cons_of_mem _ hy)
    exact ⟨by simp [PyData.plainAll, h1, h3], by simp only [PyData.depthAll]; omega⟩
theorem fine_list {n : Nat} {xs : List PyData} (h : ∀ x ∈ xs, fine n x) : fine (n + 1) (.list xs) := by
  obtain ⟨h1, h2⟩ := fine_all h
  exact ⟨by simp [PyData.plain, h1], by simp only [PyData.depth]; omega⟩
theorem fine_tuple {n : Nat} {xs : List PyData} (h : ∀ x ∈ xs, fine n x) : fine (n + 1) (.tuple xs) := by
  obtain ⟨h1, h2⟩ := fine_all h
  exact ⟨by simp [PyData.plain, h1], by simp only [PyData.depth]; omega⟩
theorem fine_sh {n : Nat} {x : PyData} (h : fine n x) (hn : n ≤ 60) : shp x = true := by
  unfold shp
  rw [h.1, decide_eq_true (Nat.le_trans h.2 hn)]
  rfl
theorem fine_ints (n : Nat) (ns : List Int) : ∀ x ∈ ns.map PyData.int, fine n x := fun x hx => by
  obtain ⟨i, _, rfl⟩ := List.mem_map.mp hx
  exact fine_int n i
theorem sh_ints (ns : List Int) : shp (.list (ns.map .int)) = true := fine_sh (fine_list (fine_ints 0 ns)) (by decide)
theorem flat_ints (ns : List Int) : (ns.map PyData.int).all flatD = true := by
  rw [List.all_eq_true]
  intro x hx
  obtain ⟨i, _, rfl⟩ := List.mem_map.mp hx
  rfl
theorem in_ints (k : Int) (ns : List Int) : inD (.int k) (ns.map .int) = ns.contains k := by
  unfold inD
  induction ns with
  | nil => rfl
  | cons a r ih => rw [List.map_cons, List.any_cons, ih, List.contains_cons, eqv_int, Bool.beq_comm]
theorem map_erase {α β : Type} (g : α → β) : ∀ (l : List α) (i : Nat), (l.map g).eraseIdx i = (l.eraseIdx i).map g
  | [], _ => rfl
  | _ :: _, 0 => rfl
  | a :: r, i + 1 => by
    show g a :: (r.map g).eraseIdx i = g a :: (r.eraseIdx i).map g
    rw [map_erase g r i]
theorem perm_erase {α : Type} : ∀ (l : List α) (i : Nat) (h : i < l.length), (([l[i]] : List α) ++ l.eraseIdx i).Perm l
  | [], _, h => absurd h (Nat.not_lt_zero _)
  | _ :: _, 0, _ => List.Perm.refl _
  | a :: r, i + 1, h => by
    have q := perm_erase r i (Nat.lt_of_succ_lt_succ h)
    exact (List.Perm.swap a (r[i]'(Nat.lt_of_succ_lt_succ h)) (r.eraseIdx i)).trans (q.cons a)
theorem at0 {α : Type} (x : α) (xs : List α) : atI (x :: xs) 0 = some x := atI_nat (j := 0) rfl
theorem at1 {α : Type} (x y : α) (xs : List α) : atI (x :: y :: xs) 1 = some y := atI_nat (j := 1) rfl
theorem at2 {α : Type} (x y z : α) (xs : List α) : atI (x :: y :: z :: xs) 2 = some z := atI_nat (j := 2) rfl
theorem at_nat {α : Type} {xs : List α} {i : Int} (h0 : 0 ≤ i) (h1 : i < (xs.length : Int)) : ∃ x, atI xs i = some x ∧ x ∈ xs ∧ xs[i.toNat]? = some x := by
  obtain ⟨k, rfl⟩ : ∃ k : Nat, i = (k : Int) := ⟨i.toNat, by omega⟩
  have hk : k < xs.length := by omega
  exact ⟨xs[k], atI_nat (List.getElem?_eq_getElem hk), List.getElem_mem hk, List.getElem?_eq_getElem hk⟩
theorem at_int {xs : List Int} {i : Int} (h0 : 0 ≤ i) (h1 : i < (xs.length : Int)) : ∃ x, atI (xs.map PyData.int) i = some (.int x) ∧ x ∈ xs := by
  obtain ⟨x, e, hm, _⟩ := at_nat (xs := xs.map PyData.int) h0 (by rw [List.length_map]; exact h1)
  obtain ⟨y, hy, rfl⟩ := List.mem_map.mp hm
  exact ⟨y, e, hy⟩
theorem ixN1 {n : Nat} : ixN (n + 2) 1 = some 1 := by
  unfold ixN
  rw [if_pos (by decide), if_pos (by omega)]
  rfl
theorem at3 {α : Type} (x y z u : α) (xs : List α) : atI (x :: y :: z :: u :: xs) 3 = some u := atI_nat (j := 3) rfl
theorem onB_neg {b : Bool} {X Y : Prop} (h : onB b Y X) : onB (!b) X Y := by
  cases b <;> exact h
theorem onB_case {b : Bool} {X Y : Prop} (h1 : b = true → X) (h2 : b = false → Y) : onB b X Y := by
  cases b
  · exact h2 rfl
  · exact h1 rfl
theorem ix_any {n : Nat} {i : Int} (h0 : -(n : Int) ≤ i) (h1 : i < n) : ixN n i = some (if 0 ≤ i then i.toNat else (i + n).toNat) := by
  unfold ixN
  by_cases h : 0 ≤ i
  · rw [if_pos h, if_pos h1, if_pos h]
  · rw [if_neg h, if_neg h, if_pos h0]
theorem at_any {α : Type} {xs : List α} {i : Int} (h0 : -(xs.length : Int) ≤ i) (h1 : i < (xs.length : Int)) : ∃ x ∈ xs, atI xs i = some x ∧ xs[if 0 ≤ i then i.toNat else (i + xs.length).toNat]? = some x := by
  have hk : (if 0 ≤ i then i.toNat else (i + xs.length).toNat) < xs.length := by split <;> omega
  refine ⟨xs[if 0 ≤ i then i.toNat else (i + xs.length).toNat], List.getElem_mem hk, ?_, List.getElem?_eq_getElem hk⟩
  unfold atI
  rw [ix_any h0 h1]
  exact List.getElem?_eq_getElem hk
theorem rng_ints (lo : Int) (n : Nat) : rngD lo n = ((List.range n).map fun i => lo + ((i : Nat) : Int)).map .int := by
  unfold rngD
  rw [List.map_map]
  rfl
theorem eqv_ss (x y : Str) : PyData.eqv (.str x) (.str y) = (x == y) := by simp [PyData.eqv]
theorem eqv_bool (a b : Bool) : PyData.eqv (.bool a) (.bool b) = (a == b) := by simp [PyData.eqv]
theorem dec_tt : decide (true = true) = true := id rfl
theorem dec_ft : decide (false = true) = false := id rfl
theorem dec_tf : decide (true = false) = false := id rfl
theorem dec_T {h : Decidable True} : @decide True h = true := by cases h <;> simp
theorem dec_F {h : Decidable False} : @decide False h = false := by cases h <;> simp
theorem dec_ff : decide (false = false) = true := id rfl
theorem sh_strs (ns : List Str) : shp (.list (ns.map .str)) = true := fine_sh (fine_list (n := 0) fun x hx => by
  obtain ⟨i, _, rfl⟩ := List.mem_map.mp hx
  exact fine_str 0 i) (by decide)
theorem sh_bools (ns : List Bool) : shp (.list (ns.map .bool)) = true := fine_sh (fine_list (n := 0) fun x hx => by
  obtain ⟨i, _, rfl⟩ := List.mem_map.mp hx
  exact fine_bool 0 i) (by decide)
theorem eqva_strs : ∀ xs ys : List Str, PyData.eqvAll (xs.map .str) (ys.map .str) = (xs == ys)
  | [], [] => rfl
  | [], _ :: _ => rfl
  | _ :: _, [] => rfl
  | x :: xs, y :: ys => by
    show PyData.eqvAll (.str x :: xs.map .str) (.str y :: ys.map .str) = _
    rw [PyData.eqvAll, eqva_strs xs ys, eqv_ss, List.cons_beq_cons]
theorem eqv_strs (xs ys : List Str) : PyData.eqv (.list (xs.map .str)) (.list (ys.map .str)) = (xs == ys) := by rw [PyData.eqv]; exact eqva_strs xs ys
theorem eqva_bools : ∀ xs ys : List Bool, PyData.eqvAll (xs.map .bool) (ys.map .bool) = (xs == ys)
  | [], [] => rfl
  | [], _ :: _ => rfl
  | _ :: _, [] => rfl
  | x :: xs, y :: ys => by
    show PyData.eqvAll (.bool x :: xs.map .bool) (.bool y :: ys.map .bool) = _
    rw [PyData.eqvAll, eqva_bools xs ys, eqv_bool, List.cons_beq_cons]
theorem eqv_bools (xs ys : List Bool) : PyData.eqv (.list (xs.map .bool)) (.list (ys.map .bool)) = (xs == ys) := by rw [PyData.eqv]; exact eqva_bools xs ys
theorem eqva_ints : ∀ xs ys : List Int, PyData.eqvAll (xs.map .int) (ys.map .int) = (xs == ys)
  | [], [] => rfl
  | [], _ :: _ => rfl
  | _ :: _, [] => rfl
  | x :: xs, y :: ys => by
    show PyData.eqvAll (.int x :: xs.map .int) (.int y :: ys.map .int) = _
    rw [PyData.eqvAll, eqva_ints xs ys, eqv_int, List.cons_beq_cons]
theorem eqv_ints (xs ys : List Int) : PyData.eqv (.list (xs.map .int)) (.list (ys.map .int)) = (xs == ys) := by rw [PyData.eqv]; exact eqva_ints xs ys
/-- a comprehension whose items are fine, its slots under an invariant -/
theorem lc_inv {g : TDG} {tt : TDT} {te : TD} {vs : List Nat} {I : Ep → Prop} {Pe : PyData → Prop} {A : List PyData → Ep → Prop} : ∀ (its acc : List PyData) (ε : Ep),
    (∀ x ∈ its, ∀ ε, I ε → ∀ (B : Vl → Ep → Prop) (C : Ep → Prop), (∀ y ε', Pe y → I (wipeE ε' vs) → B (.d y) ε') → (∀ ε', I (wipeE ε' vs) → C ε') → g x ε fun ε1 => tt ε1 fun b ε2 => onB b (te ε2 B) (C ε2)) →
    I ε → (∀ y ∈ acc, Pe y) → acc.length + its.length ≤ 1000000 → (∀ ys ε', (∀ y ∈ ys, Pe y) → ys.length ≤ acc.length + its.length → I ε' → A ys ε') → lcGo noI g tt te vs A its acc ε
  | [], acc, ε, _, hi, ha, _, h => ⟨trivial, h _ _ ha (by simp) hi⟩
  | x :: its, acc, ε, h1, hi, ha, hl, h => by
    rw [List.length_cons] at hl
    refine ⟨trivial, h1 x List.mem_cons_self ε hi _ (fun ε2 => lcGo noI g tt te vs A its acc (wipeE ε2 vs)) (fun y ε' hy hi' => ?_) fun ε' hi' => ?_⟩
    · show acc.length < 1000000 ∧ lcGo noI g tt te vs A its (acc ++ [y]) (wipeE ε' vs)
      refine ⟨by omega, lc_inv its _ _ (fun z hz => h1 z (List.mem_cons_of_mem _ hz)) hi' (fun z hz => ?_) (by simp; omega) fun ys ε2 q1 q2 q3 => h ys ε2 q1 (by simp at q2 ⊢; omega) q3⟩
      rcases List.mem_append.mp hz with hz | hz
      · exact ha z hz
      · rw [List.mem_singleton.mp hz]; exact hy
    · show lcGo noI g tt te vs A its acc (wipeE ε' vs)
      exact lc_inv its _ _ (fun z hz => h1 z (List.mem_cons_of_mem _ hz)) hi' ha (by omega) fun ys ε2 q1 q2 q3 => h ys ε2 q1 (by simp; omega) q3
/-- .. each turn giving one -/
theorem lc_all {g : TDG} {te : TD} {vs : List Nat} {I : Ep → Prop} {Pe : PyData → Prop} {A : List PyData → Ep → Prop} : ∀ (its acc : List PyData) (ε : Ep),
    (∀ x ∈ its, ∀ ε, I ε → ∀ (B : Vl → Ep → Prop), (∀ y ε', Pe y → I (wipeE ε' vs) → B (.d y) ε') → g x ε fun ε1 => te ε1 B) →
    I ε → (∀ y ∈ acc, Pe y) → acc.length + its.length ≤ 1000000 → (∀ ys ε', (∀ y ∈ ys, Pe y) → ys.length = acc.length + its.length → I ε' → A ys ε') → lcGo noI g dYes te vs A its acc ε
  | [], acc, ε, _, hi, ha, _, h => ⟨trivial, h _ _ ha (by simp) hi⟩
  | x :: its, acc, ε, h1, hi, ha, hl, h => by
    rw [List.length_cons] at hl
    refine ⟨trivial, h1 x List.mem_cons_self ε hi _ fun y ε' hy hi' => ?_⟩
    show acc.length < 1000000 ∧ lcGo noI g dYes te vs A its (acc ++ [y]) (wipeE ε' vs)
    refine ⟨by omega, lc_all its _ _ (fun z hz => h1 z (List.mem_cons_of_mem _ hz)) hi' (fun z hz => ?_) (by simp; omega) fun ys ε2 q1 q2 q3 => h ys ε2 q1 (by simp at q2 ⊢; omega) q3⟩
    rcases List.mem_append.mp hz with hz | hz
    · exact ha z hz
    · rw [List.mem_singleton.mp hz]; exact hy
/-- a walk under an invariant -/
theorem for_inv {g : TDG} {b : TDS} {A : DEnds} {I : Ep → Prop} : ∀ (its : List PyData) (ε : Ep), (∀ x ∈ its, ∀ ε, I ε → ∀ B : DEnds, B.rt = A.rt → B.bk = A.nx → (∀ ε', I ε' → B.nx ε') → (∀ ε', I ε' → B.ct ε') → g x ε fun ε1 => b B ε1) → I ε → (∀ ε', I ε' → A.nx ε') → forGo noI g b A its ε
  | [], ε, _, hi, h => ⟨trivial, h ε hi⟩
  | x :: its, ε, hb, hi, h => by
    refine ⟨trivial, hb x List.mem_cons_self ε hi _ rfl rfl (fun ε' hi' => ?_) fun ε' hi' => ?_⟩
    · exact for_inv its ε' (fun z hz => hb z (List.mem_cons_of_mem _ hz)) hi' h
    · exact for_inv its ε' (fun z hz => hb z (List.mem_cons_of_mem _ hz)) hi' h
/-- a walk under an invariant that counts -/
theorem for_ix {g : TDG} {b : TDS} {A : DEnds} {I : Nat → Ep → Prop} : ∀ (its : List PyData) (i : Nat) (ε : Ep), (∀ (j : Nat) (x : PyData), its[j]? = some x → ∀ ε, I (i + j) ε → ∀ B : DEnds, B.rt = A.rt → B.bk = A.nx → (∀ ε', I (i + j + 1) ε' → B.nx ε') → (∀ ε', I (i + j + 1) ε' → B.ct ε') → g x ε fun ε1 => b B ε1) → I i ε → (∀ ε', I (i + its.length) ε' → A.nx ε') → forGo noI g b A its ε
  | [], i, ε, _, hi, h => ⟨trivial, h ε hi⟩
  | x :: its, i, ε, hb, hi, h => by
    have rest : ∀ ε', I (i + 1) ε' → forGo noI g b A its ε' := fun ε' hi' => by
      refine for_ix its (i + 1) ε' (fun j z hz ε2 h2 B b1 b2 b3 b4 => hb (j + 1) z (by simpa using hz) ε2 (by rw [show i + (j + 1) = i + 1 + j by omega]; exact h2) B b1 b2 (fun ε3 h3 => b3 ε3 (by rw [show i + 1 + j + 1 = i + (j + 1) + 1 by omega]; exact h3)) fun ε3 h3 => b4 ε3 (by rw [show i + 1 + j + 1 = i + (j + 1) + 1 by omega]; exact h3)) hi' fun ε2 h2 => h ε2 ?_
      rw [List.length_cons, show i + (its.length + 1) = i + 1 + its.length by omega]
      exact h2
    exact ⟨trivial, hb 0 x rfl ε hi _ rfl rfl rest rest⟩

theorem eq_gen {f : Bool → Bool} {x y : PyData} {V : Vl → Prop} (hx : shp x = true) (hy : shp y = true) : kEqA f x y V = V (.d (.bool (f (PyData.eqv x y)))) := by
  have gen : (shp x = true ∧ shp y = true ∧ V (.d (.bool (f (PyData.eqv x y))))) = V (.d (.bool (f (PyData.eqv x y)))) := by rw [hx, hy]; simp
  unfold kEqA
  split
  · rw [eqv_nil]
  · rename_i xs
    have : PyData.eqv (.tuple xs) (.tuple []) = xs.isEmpty := by cases xs <;> simp [PyData.eqv, PyData.eqvAll]
    rw [this]
  · exact gen
theorem k_EqStrs {f : Bool → Bool} {xs ys : List Str} {V : Vl → Prop} : kEqA f (.list (xs.map .str)) (.list (ys.map .str)) V = V (.d (.bool (f (xs == ys)))) := by rw [eq_gen (sh_strs _) (sh_strs _), eqv_strs]
theorem k_EqBools {f : Bool → Bool} {xs ys : List Bool} {V : Vl → Prop} : kEqA f (.list (xs.map .bool)) (.list (ys.map .bool)) V = V (.d (.bool (f (xs == ys)))) := by rw [eq_gen (sh_bools _) (sh_bools _), eqv_bools]
theorem k_EqInts {f : Bool → Bool} {xs ys : List Int} {V : Vl → Prop} : kEqA f (.list (xs.map .int)) (.list (ys.map .int)) V = V (.d (.bool (f (xs == ys)))) := by rw [eq_gen (sh_ints _) (sh_ints _), eqv_ints]
theorem of_ev {P : Prop} (h : P) : ev P := h
/-! ### the end's facts of exceptions -/
section
variable {K : PySem.W.Frag} {h : Heap} {mg : Str → Option Value}
theorem exrs_mk {nm : Str} {C : Addr} (X : K.In h) (G : h.Ns mainGlobals mg) (a : PySem.W.nsIn K mainGlobals nm = some (some (.ref C))) (xe : PySem.W.excIn K C [.type "ValueError", .type "Exception", .type "BaseException", .type "object"] "ValueError.__new__" = true) (k : PySem.W.keepIn K (.ref C) = true)
    (s : PySem.W.subIn K (.ref C) (.type "BaseException") = some true) (t : PySem.W.typeIn K (.ref C) = some (.type "type")) : ExRs K mg nm := ⟨C, a, PySem.W.mg_of X G a, xe, k, s, t⟩
def XAll (K : PySem.W.Frag) (P : Addr → Bool → Prop) (l : List (Str × Bool)) : Prop := ∀ nm b, l.lookup nm = some b → ∀ C, PySem.W.nsIn K mainGlobals nm = some (some (.ref C)) → P C b
theorem xall_nil {P : Addr → Bool → Prop} : XAll K P [] := fun _ _ h => nomatch h
theorem xall_cons {P : Addr → Bool → Prop} {nm : Str} {b : Bool} {D : Addr} {l : List (Str × Bool)} (a : PySem.W.nsIn K mainGlobals nm = some (some (.ref D))) (p : P D b) (t : XAll K P l) : XAll K P ((nm, b) :: l) := fun x c h C hC => by
  rw [List.lookup_cons] at h
  split at h
  · rename_i e
    have e := eq_of_beq e
    subst e
    rw [a] at hC
    cases hC
    cases h
    exact p
  · exact t x c h C hC
theorem kit_self {C : Addr} : PySem.W.kitOne K (.ref C) (.ref C) = some true := by
  unfold PySem.W.kitOne
  rw [if_pos (beq_self_eq_true _)]
theorem kit_own {C D : Addr} {b : Bool} (hd : PySem.W.hasDictIn K D = true) (ht : PySem.W.typeIn K (.ref D) = some (.type "type")) (h : PySem.W.subIn K (.ref C) (.ref D) = some b) (hn : (!(C == D) || b) = true) : PySem.W.kitOne K (.ref C) (.ref D) = some b := by
  unfold PySem.W.kitOne
  by_cases e : C = D
  · subst e
    rw [if_pos (beq_self_eq_true _)]
    rw [beq_self_eq_true] at hn
    exact (congrArg some hn).symm
  · have : ¬ ((Value.ref C == Value.ref D) = true) := fun z => e (Value.ref.inj (eq_of_beq z))
    rw [if_neg this]
    obtain ⟨cd, hc, _⟩ := PySem.W.any_some hd
    have e2 : ((PySem.W.clsIn K D).isSome && PySem.W.typeIn K (.ref D) == some (.type "type")) = true := by rw [hc, ht] <;> rfl
    show (if ((PySem.W.clsIn K D).isSome && PySem.W.typeIn K (.ref D) == some (.type "type")) = true then PySem.W.subIn K (.ref C) (.ref D) else none) = some b
    rw [if_pos e2]
    exact h
theorem kit_bt {C : Addr} {T : String} {b : Bool} (hm : PySem.W.kitMeta T = true) (h : PySem.W.subIn K (.ref C) (.type T) = some b) : PySem.W.kitOne K (.ref C) (.type T) = some b := by
  unfold PySem.W.kitOne
  have : ¬ ((Value.ref C == Value.type T) = true) := fun z => nomatch (eq_of_beq z)
  rw [if_neg this]
  show (if PySem.W.kitMeta T = true then PySem.W.subIn K (.ref C) (.type T) else none) = some b
  rw [if_pos hm]
  exact h
theorem exty_mk {cv : Value} {f : Str → Option Bool} {l : List (Str × Bool)} (e : f = fun nm => l.lookup nm) (h : XAll K (fun C b => ExcC K C ∧ PySem.W.kitOne K (.ref C) cv = some b) l) : ExTy K cv f := by
  subst e
  exact ⟨h⟩
theorem exis_mk {x : Str} {D : Addr} {f : Str → Option Bool} (X : K.In h) (G : h.Ns mainGlobals mg) (a : PySem.W.nsIn K mainGlobals x = some (some (.ref D))) (t : ExTy K (.ref D) f) : ExIs K mg x f := ⟨D, PySem.W.mg_of X G a, t⟩
theorem exct_mk {x : Str} {D : Addr} {f : Str → Option Bool} {l : List (Str × Bool)} (X : K.In h) (G : h.Ns mainGlobals mg) (a : PySem.W.nsIn K mainGlobals x = some (some (.ref D))) (e : f = fun nm => l.lookup nm) (t : XAll K (fun C b => PySem.W.exmOne K (.ref C) (.ref D) = some b) l) : ExCt K mg x f := by
  subst e
  exact ⟨.ref D, PySem.W.mg_of X G a, t⟩
end
end DL

set_option maxHeartbeats 4000000
namespace Cl
open PySem PySem.Spec PyProof.Rows L2 DL
def topS (i : Nat) : Stmt := PySem.Challenge.pw_dealcourt_k31_words_barred.main.body.getD i (.Pass ⟨0, 0, 0, 0⟩)
section
variable {P : Program} {w : World} {K : PySem.W.Frag} {mg : Str → Option Value} {base : Heap}
def xi_IsYes : Str → Option Bool := fun nm => ([("NoKind", false)] : List (Str × Bool)).lookup nm
theorem xi_IsYes_NoKind : xi_IsYes "NoKind" = some false := by decide +kernel
def xi_NoDeal : Str → Option Bool := fun nm => ([("NoKind", false)] : List (Str × Bool)).lookup nm
theorem xi_NoDeal_NoKind : xi_NoDeal "NoKind" = some false := by decide +kernel
def xi_NoHands : Str → Option Bool := fun nm => ([("NoKind", false)] : List (Str × Bool)).lookup nm
theorem xi_NoHands_NoKind : xi_NoHands "NoKind" = some false := by decide +kernel
def xi_NoHistory : Str → Option Bool := fun nm => ([("NoKind", false)] : List (Str × Bool)).lookup nm
theorem xi_NoHistory_NoKind : xi_NoHistory "NoKind" = some false := by decide +kernel
def xi_NoKind : Str → Option Bool := fun nm => ([("NoKind", true)] : List (Str × Bool)).lookup nm
theorem xi_NoKind_NoKind : xi_NoKind "NoKind" = some true := by decide +kernel
def xi_NoLog : Str → Option Bool := fun nm => ([("NoKind", false)] : List (Str × Bool)).lookup nm
theorem xi_NoLog_NoKind : xi_NoLog "NoKind" = some false := by decide +kernel
def xi_NoOrders : Str → Option Bool := fun nm => ([("NoKind", false)] : List (Str × Bool)).lookup nm
theorem xi_NoOrders_NoKind : xi_NoOrders "NoKind" = some false := by decide +kernel
def xi_NoStore : Str → Option Bool := fun nm => ([("NoKind", false)] : List (Str × Bool)).lookup nm
theorem xi_NoStore_NoKind : xi_NoStore "NoKind" = some false := by decide +kernel
def xi_NoText : Str → Option Bool := fun nm => ([("NoKind", false)] : List (Str × Bool)).lookup nm
theorem xi_NoText_NoKind : xi_NoText "NoKind" = some false := by decide +kernel
def xi_NotSound : Str → Option Bool := fun nm => ([("NoKind", false)] : List (Str × Bool)).lookup nm
theorem xi_NotSound_NoKind : xi_NotSound "NoKind" = some false := by decide +kernel
def xi_TooMany : Str → Option Bool := fun nm => ([("NoKind", false)] : List (Str × Bool)).lookup nm
theorem xi_TooMany_NoKind : xi_TooMany "NoKind" = some false := by decide +kernel
def xi_ValueError : Str → Option Bool := fun nm => ([("NoKind", true)] : List (Str × Bool)).lookup nm
theorem xi_ValueError_NoKind : xi_ValueError "NoKind" = some true := by decide +kernel
def xc_CourtError : Str → Option Bool := fun nm => ([("NoKind", true)] : List (Str × Bool)).lookup nm
theorem xc_CourtError_NoKind : xc_CourtError "NoKind" = some true := by decide +kernel
/-! #### kinds -/
abbrev stkinds : Stmt := topS 15
theorem sckinds : FnScope [] [] (defScope stkinds) := ⟨rfl, rfl, rfl, by decide +kernel, rfl, by decide +kernel, by decide +kernel⟩
def r_kinds : TDS := (sRet (dCB kList (daCons (dC (.tuple [(.str (Str.ofString "clean")), (.str (Str.ofString "whole")), (.str (Str.ofString "causal")), (.str (Str.ofString "snapshot")), (.str (Str.ofString "serial")), (.str (Str.ofString "timely"))])) daNil)))
def s_kinds : DSp := ownSp 0 0 r_kinds
theorem ok_kinds {f : Addr} {fd : FuncData} (F : Fun K "kinds" "kinds" stkinds f fd) (z_list : mg "list" = none) (g_KINDS : GlobD K mg "KINDS" (.tuple [(.str (Str.ofString "clean")), (.str (Str.ofString "whole")), (.str (Str.ofString "causal")), (.str (Str.ofString "snapshot")), (.str (Str.ofString "serial")), (.str (Str.ofString "timely"))])) : FnOk P w K mg base CX0 (0 + 1) f fd [] (spD K 0 s_kinds) :=
  fnD F sckinds rfl r_kinds (fun cdv A outer s H E hr =>
    (dss_one (ds_ret (dv_callTy call_list_of cd_list rfl z_list (by decide +kernel) (da_cons (dv_gd g_KINDS rfl) da_nil))))) (fun _ _ _ h => h.2)
/-! #### _law_state -/
abbrev stqstate : Stmt := topS 21
theorem scqstate : FnScope ["_law_script", "_law_k", "_law_cell", "_law_start"] ["_law_script", "_law_k"] (defScope stqstate) := ⟨rfl, rfl, rfl, by decide +kernel, rfl, by decide +kernel, by decide +kernel⟩
def r_qstate : TDS := (sSeq (sSet 2 (dOp kAdd (dC (.int 1)) (dOp kMul (dC (.int 2)) (dVar 1)))) (sSeq (sIf (dTest (dOp (kI0 fun i j => .bool (decide (j < i))) (dCB kLen (daCons (dVar 0) daNil)) (dC (.int 0)))) (sSet 2 (dOp kAdd (dOp kIxA (dVar 0) (dOp (kI (fun _ j => 0 < j) fun i j => .int (i % j)) (dVar 1) (dCB kLen (daCons (dVar 0) daNil)))) (dOp kMul (dC (.int 2)) (dOp (kI CDiv fun i j => .int (i / j)) (dVar 1) (dCB kLen (daCons (dVar 0) daNil)))))) sNext) (sSeq (sSet 3 (dOp (kI CDiv fun i j => .int (i / j)) (dCB kAbs (daCons (dVar 2) daNil)) (dC (.int 2)))) (sSeq (sIf (dTest (dOp (kEqA id) (dOp (kI (fun _ j => 0 < j) fun i j => .int (i % j)) (dVar 2) (dC (.int 2))) (dC (.int 1)))) (sSet 3 (dOp (kI (fun _ j => 0 < j) fun i j => .int (i % j)) (dOp kAdd (dOp kAdd (dOp kAdd (dOp kMul (dOp (kI (fun _ j => 0 < j) fun i j => .int (i % j)) (dVar 3) (dC (.int 2147483647))) (dC (.int 48271))) (dOp kMul (dC (.int 7919)) (dVar 1))) (dCB kLen (daCons (dVar 0) daNil))) (dC (.int 11))) (dC (.int 2147483647)))) sNext) (sRet (dLst (dfCons (dOp (kI (fun _ j => 0 < j) fun i j => .int (i % j)) (dVar 2) (dC (.int 2))) (dfCons (dVar 3) (dfCons (dOp kAdd (dVar 1) (dC (.int 1))) dfNil)))))))))
def s_qstate : DSp := ownSp 2 2 r_qstate
theorem ok_qstate {f : Addr} {fd : FuncData} (F : Fun K "_law_state" "_law_state" stqstate f fd) (z_abs : mg "abs" = none) (z_len : mg "len" = none) : FnOk P w K mg base CX0 (0 + 1) f fd ["_law_script", "_law_k"] (spD K 2 s_qstate) :=
  fnD F scqstate rfl r_qstate (fun cdv A outer s H E hr =>
    (dss_cons (ds_set (i := 2) scqstate.nd rfl (.inl rfl) (dv_op op_addA od_addA dv_int (dv_op op_mulA od_mulA dv_int (dv 1))))
    (dss_cons (ds_if (dt_cmp op_gt (od_B0 _) (dv_callB call_len cd_len rfl z_len PySem.boot_len (da_cons (dv 0) da_nil)) dv_int (nomark _)) (dss_one (ds_set (i := 2) scqstate.nd rfl (.inl rfl) (dv_op op_addA od_addA (dv_ix ix_seq od_ixA (dv 0) (dv_op op_mod (od_I _ _) (dv 1) (dv_callB call_len cd_len rfl z_len PySem.boot_len (da_cons (dv 0) da_nil))) (fun _ _ => rfl)) (dv_op op_mulA od_mulA dv_int (dv_op op_fdiv (od_I _ _) (dv 1) (dv_callB call_len cd_len rfl z_len PySem.boot_len (da_cons (dv 0) da_nil))))))) dss_nil)
    (dss_cons (ds_set (i := 3) scqstate.nd rfl (.inl rfl) (dv_op op_fdiv (od_I _ _) (dv_callB call_abs cd_abs rfl z_abs (by decide +kernel) (da_cons (dv 2) da_nil)) dv_int))
    (dss_cons (ds_if (dt_cmp (op_eqA hr.units) od_eqA (dv_op op_mod (od_I _ _) (dv 2) dv_int) dv_int (nomark _)) (dss_one (ds_set (i := 3) scqstate.nd rfl (.inl rfl) (dv_op op_mod (od_I _ _) (dv_op op_addA od_addA (dv_op op_addA od_addA (dv_op op_addA od_addA (dv_op op_mulA od_mulA (dv_op op_mod (od_I _ _) (dv 3) dv_int) dv_int) (dv_op op_mulA od_mulA dv_int (dv 1))) (dv_callB call_len cd_len rfl z_len PySem.boot_len (da_cons (dv 0) da_nil))) dv_int) dv_int))) dss_nil)
    (dss_one (ds_ret (dv_lst (df_cons (dv_op op_mod (od_I _ _) (dv 2) dv_int) (df_cons (dv 3) (df_cons (dv_op op_addA od_addA (dv 1) dv_int) df_nil))))))))))) (fun _ _ _ h => h.2)
/-! #### _law_next -/
abbrev stqnext : Stmt := topS 22
theorem scqnext : FnScope ["_law_state_here", "_law_size", "_law_digit", "_law_mixed"] ["_law_state_here", "_law_size"] (defScope stqnext) := ⟨rfl, rfl, rfl, by decide +kernel, rfl, by decide +kernel, by decide +kernel⟩
def r_qnext : TDS := (sSeq (sIf (dTest (dOp (kEqA id) (dOp kIxA (dVar 0) (dC (.int 0))) (dC (.int 0)))) (sSeq (sSet 2 (dOp (kI (fun _ j => 0 < j) fun i j => .int (i % j)) (dOp kIxA (dVar 0) (dC (.int 1))) (dVar 1))) (sSeq (sSetI 0 (dOp (kI CDiv fun i j => .int (i / j)) (dOp kIxA (dVar 0) (dC (.int 1))) (dVar 1)) (dC (.int 1))) (sRet (dVar 2)))) sNext) (sSeq (sSetI 0 (dOp (kI (fun _ j => 0 < j) fun i j => .int (i % j)) (dOp kAdd (dOp kMul (dOp kIxA (dVar 0) (dC (.int 1))) (dC (.int 48271))) (dOp kIxA (dVar 0) (dC (.int 2)))) (dC (.int 2147483647))) (dC (.int 1))) (sSeq (sSet 3 (dOp (kI (fun _ j => 0 < j) fun i j => .int (i % j)) (dOp kMul (dOp kIxA (dVar 0) (dC (.int 1))) (dOp kIxA (dVar 0) (dC (.int 1)))) (dC (.int 2147483629)))) (sRet (dOp (kI (fun _ j => 0 < j) fun i j => .int (i % j)) (dOp (kI CDiv fun i j => .int (i / j)) (dOp (kI (fun _ j => 0 < j) fun i j => .int (i % j)) (dOp kMul (dVar 3) (dVar 3)) (dC (.int 2147483587))) (dC (.int 7))) (dVar 1))))))
def s_qnext : DSp := ownSp 2 2 r_qnext
theorem ok_qnext {f : Addr} {fd : FuncData} (F : Fun K "_law_next" "_law_next" stqnext f fd) : FnOk P w K mg base CX0 (0 + 1) f fd ["_law_state_here", "_law_size"] (spD K 2 s_qnext) :=
  fnD F scqnext rfl r_qnext (fun cdv A outer s H E hr =>
    (dss_cons (ds_if (dt_cmp (op_eqA hr.units) od_eqA (dv_ix ix_seq od_ixA (dv 0) dv_int (fun _ _ => rfl)) dv_int (nomark _)) (dss_cons (ds_set (i := 2) scqnext.nd rfl (.inl rfl) (dv_op op_mod (od_I _ _) (dv_ix ix_seq od_ixA (dv 0) dv_int (fun _ _ => rfl)) (dv 1)))
    (dss_cons (ds_seti 0 (dv_op op_fdiv (od_I _ _) (dv_ix ix_seq od_ixA (dv 0) dv_int (fun _ _ => rfl)) (dv 1)) dv_int)
    (dss_one (ds_ret (dv 2))))) dss_nil)
    (dss_cons (ds_seti 0 (dv_op op_mod (od_I _ _) (dv_op op_addA od_addA (dv_op op_mulA od_mulA (dv_ix ix_seq od_ixA (dv 0) dv_int (fun _ _ => rfl)) dv_int) (dv_ix ix_seq od_ixA (dv 0) dv_int (fun _ _ => rfl))) dv_int) dv_int)
    (dss_cons (ds_set (i := 3) scqnext.nd rfl (.inl rfl) (dv_op op_mod (od_I _ _) (dv_op op_mulA od_mulA (dv_ix ix_seq od_ixA (dv 0) dv_int (fun _ _ => rfl)) (dv_ix ix_seq od_ixA (dv 0) dv_int (fun _ _ => rfl))) dv_int))
    (dss_one (ds_ret (dv_op op_mod (od_I _ _) (dv_op op_fdiv (od_I _ _) (dv_op op_mod (od_I _ _) (dv_op op_mulA od_mulA (dv 3) (dv 3)) dv_int) dv_int) (dv 1)))))))) (fun _ _ _ h => h.2)
/-! #### _law_words -/
abbrev stqwords : Stmt := topS 26
theorem scqwords : FnScope ["_law_state_here", "_law_some", "_law_pool", "_law_k"] ["_law_state_here"] (defScope stqwords) := ⟨rfl, rfl, rfl, by decide +kernel, rfl, by decide +kernel, by decide +kernel⟩
def r_qwords : TDS := (sSeq (sSet 1 (dLst (dfCons (dLst (dfCons (dC (.str (Str.ofString "hand"))) (dfCons (dC (.str (Str.ofString "time"))) (dfCons (dC (.str (Str.ofString "from"))) (dfCons (dC (.str (Str.ofString "over"))) (dfCons (dC (.str (Str.ofString "past"))) dfNil)))))) (dfCons (dLst (dfCons (dC (.str (Str.ofString "hand"))) (dfCons (dC (.str (Str.ofString "from"))) (dfCons (dC (.str (Str.ofString "from"))) (dfCons (dC (.str (Str.ofString "past"))) (dfCons (dC (.str (Str.ofString "from"))) dfNil)))))) dfNil)))) (sSeq (sExpr (dMut 1 kAppend (dfCons (dLst (dfCons (dC (.str (Str.ofString "over"))) (dfCons (dC (.str (Str.ofString "past"))) (dfCons (dC (.str (Str.ofString "past"))) dfNil)))) dfNil))) (sSeq (sSet 2 (dOp kIxA (dVar 1) (dCallS 0 s_qnext (dfCons (dC (.int 3)) dfNil)))) (sRet (dLcR (daCons (dOp kAdd (dC (.int 2)) (dCallS 0 s_qnext (dfCons (dC (.int 7)) dfNil))) daNil) (gNm 3) dYes (dOp kIxA (dVar 2) (dCallS 0 s_qnext (dfCons (dCB kLen (daCons (dVar 2) daNil)) dfNil))) [3])))))
def s_qwords : DSp := ownSp 1 3 r_qwords
theorem ok_qwords {f : Addr} {fd : FuncData} (F : Fun K "_law_words" "_law_words" stqwords f fd) (z_len : mg "len" = none) (z_range : mg "range" = none) {gqnext : Addr} {gdqnext : FuncData} (G_qnext : FnOk P w K mg base CX0 1 gqnext gdqnext ["_law_state_here", "_law_size"] (spD K 2 s_qnext)) (b_qnext : Binds K gdqnext ["_law_state_here", "_law_size"] []) (k_qnext : PySem.W.keepIn K (.ref gqnext) = true) (m_qnext : mg "_law_next" = some (.ref gqnext)) : FnOk P w K mg base CX0 (1 + 1) f fd ["_law_state_here"] (spD K 1 s_qwords) :=
  fnD F scqwords rfl r_qwords (fun cdv A outer s H E hr =>
    (dss_cons (ds_set (i := 1) scqwords.nd rfl (.inl rfl) (dv_lst (df_cons (dv_lst (df_cons dv_str (df_cons dv_str (df_cons dv_str (df_cons dv_str (df_cons dv_str df_nil)))))) (df_cons (dv_lst (df_cons dv_str (df_cons dv_str (df_cons dv_str (df_cons dv_str (df_cons dv_str df_nil)))))) df_nil))))
    (dss_cons (ds_expr (dv_mut 1 PySem.F.slot_list_append PySem.F.type_list_append mt_append md_append (df_cons (dv_lst (df_cons dv_str (df_cons dv_str (df_cons dv_str df_nil)))) df_nil)))
    (dss_cons (ds_set (i := 2) scqwords.nd rfl (.inr rfl) (dv_ix ix_seq od_ixA (dv 1) (dv_callS 0 G_qnext (ownSp_len) (hr.mono (by decide)) rfl m_qnext k_qnext b_qnext (df_cons dv_int df_nil)) (fun _ _ => rfl)))
    (dss_one (ds_ret (dv_lcR (own := [("_law_k", 3)]) rfl scqwords.nd rfl z_range (da_cons (dv_op op_addA od_addA dv_int (dv_callS 0 G_qnext (ownSp_len) (hr.mono (by decide)) rfl m_qnext k_qnext b_qnext (df_cons dv_int df_nil))) da_nil) (by exact ⟨blkOk_by (N := (["_law_state_here", "_law_some", "_law_pool", "_law_k"] : List Str)) (sc := defScope stqwords) (own := [("_law_k", 3)]) (by decide +kernel), by decide, fun _ _ _ _ _ => (dg_nm scqwords.nd rfl (.inl rfl)), fun _ _ _ _ _ => dts_nil, fun _ _ _ _ _ => (dv_ix ix_seq od_ixA (dv 2) (dv_callS 0 G_qnext (ownSp_len) (hr.mono (by decide)) rfl m_qnext k_qnext b_qnext (df_cons (dv_callB call_len cd_len rfl z_len PySem.boot_len (da_cons (dv 2) da_nil)) df_nil)) (fun _ _ => rfl))⟩)))))))) (fun _ _ _ h => h.2)
/-! #### _law_barred_by -/
abbrev stqbarred_by : Stmt := topS 23
theorem scqbarred_by : FnScope ["_law_kind", "_law_row", "_law_past", "_law_over", "_law_hand", "_law_time", "_law_word", "_law_sides", "_law_at"] ["_law_kind", "_law_row"] (defScope stqbarred_by) := ⟨rfl, rfl, rfl, by decide +kernel, rfl, by decide +kernel, by decide +kernel⟩
def r_qbarred_by : TDS := (sSeq (sAsg (dLcA (dLst (dfCons (dC (.str (Str.ofString "past"))) (dfCons (dC (.str (Str.ofString "over"))) (dfCons (dC (.str (Str.ofString "hand"))) (dfCons (dC (.str (Str.ofString "time"))) dfNil))))) (gNm 6) dYes (dMeth "list" kCount (dVar 1) (dfCons (dVar 6) dfNil)) [6]) (gTpA 4 (gsCons (gNm 2) (gsCons (gNm 3) (gsCons (gNm 4) (gsCons (gNm 5) gsNil)))))) (sSeq (sSet 7 (dLcR (daCons (dCB kLen (daCons (dVar 1) daNil)) daNil) (gNm 8) (dAnd (dTest (dOp (kEqA id) (dOp kIxA (dVar 1) (dVar 8)) (dC (.str (Str.ofString "past"))))) (dTest (dOp (kEqA id) (dOp kIxA (dVar 1) (dOp (kI0 fun i j => .int (i - j)) (dVar 8) (dC (.int 1)))) (dC (.str (Str.ofString "past")))))) (dVar 8) [8])) (sSeq (sIf (dTest (dOp (kEqA id) (dVar 0) (dC (.str (Str.ofString "clean"))))) (sRet (dOp (kEqA id) (dOp kAdd (dOp kAdd (dVar 2) (dVar 4)) (dVar 5)) (dC (.int 0)))) sNext) (sSeq (sIf (dTest (dOp (kEqA id) (dVar 0) (dC (.str (Str.ofString "whole"))))) (sRet (dAndV (dOp (kEqA id) (dOp kAdd (dVar 4) (dVar 5)) (dC (.int 0))) (dOrV (dOp (kEqA id) (dVar 2) (dC (.int 0))) (dAndV (dOp (kEqA id) (dVar 2) (dC (.int 1))) (dAndV (dOp (kEqA id) (dVar 3) (dC (.int 0))) (dOp (kEqA id) (dCB kLen (daCons (dVar 1) daNil)) (dC (.int 2)))))))) sNext) (sSeq (sIf (dTest (dOp (kEqA id) (dVar 0) (dC (.str (Str.ofString "causal"))))) (sRet (dAndV (dOp (kEqA id) (dVar 5) (dC (.int 0))) (dOrV (dOp (kEqA id) (dVar 2) (dC (.int 0))) (dAndV (dOp (kEqA id) (dVar 2) (dC (.int 1))) (dAndV (dOp (kEqA id) (dVar 3) (dC (.int 0))) (dOp (kI0 fun i j => .bool (decide (j < i))) (dCB kLen (daCons (dVar 1) daNil)) (dC (.int 1)))))))) sNext) (sSeq (sIf (dTest (dOp (kEqA id) (dVar 0) (dC (.str (Str.ofString "snapshot"))))) (sRet (dAndV (dOp (kEqA id) (dVar 5) (dC (.int 0))) (dOp (kEqA id) (dVar 7) (dLst dfNil)))) sNext) (sRet (dOrV (dOp (kEqA id) (dVar 0) (dC (.str (Str.ofString "timely")))) (dOp (kEqA id) (dVar 5) (dC (.int 0)))))))))))
def s_qbarred_by : DSp := ownSp 2 7 r_qbarred_by
theorem ok_qbarred_by {f : Addr} {fd : FuncData} (F : Fun K "_law_barred_by" "_law_barred_by" stqbarred_by f fd) (z_len : mg "len" = none) (z_range : mg "range" = none) : FnOk P w K mg base CX0 (0 + 1) f fd ["_law_kind", "_law_row"] (spD K 2 s_qbarred_by) :=
  fnD F scqbarred_by rfl r_qbarred_by (fun cdv A outer s H E hr =>
    (dss_cons (ds_asg (dv_lcA (own := [("_law_word", 6)]) rfl scqbarred_by.nd (dv_lst (df_cons dv_str (df_cons dv_str (df_cons dv_str (df_cons dv_str df_nil))))) (by exact ⟨blkOk_by (N := (["_law_kind", "_law_row", "_law_past", "_law_over", "_law_hand", "_law_time", "_law_word", "_law_sides", "_law_at"] : List Str)) (sc := defScope stqbarred_by) (own := [("_law_word", 6)]) (by decide +kernel), by decide, fun _ _ _ _ _ => (dg_nm scqbarred_by.nd rfl (.inl rfl)), fun _ _ _ _ _ => dts_nil, fun _ _ _ _ _ => (dv_meth PySem.F.plainAttrs_list PySem.F.slot_list_count PySem.F.type_list_count (mt_countD hr.units) me_countD (dv 1) (df_cons (dv 6) df_nil))⟩)) (dg_tupA rfl (dgs_cons (dg_nm scqbarred_by.nd rfl (.inl rfl)) (dgs_cons (dg_nm scqbarred_by.nd rfl (.inl rfl)) (dgs_cons (dg_nm scqbarred_by.nd rfl (.inl rfl)) (dgs_cons (dg_nm scqbarred_by.nd rfl (.inl rfl)) dgs_nil))))))
    (dss_cons (ds_lcR (own := [("_law_at", 8)]) (i := 7) rfl scqbarred_by.nd rfl rfl (sw_true rfl rfl rfl (by decide +kernel)) rfl z_range (da_cons (dv_callB call_len cd_len rfl z_len PySem.boot_len (da_cons (dv 1) da_nil)) da_nil) (by exact ⟨blkOk_by (N := (["_law_kind", "_law_row", "_law_past", "_law_over", "_law_hand", "_law_time", "_law_word", "_law_sides", "_law_at"] : List Str)) (sc := defScope stqbarred_by) (own := [("_law_at", 8)]) (by decide +kernel), by decide, fun _ _ _ _ _ => (dg_nm scqbarred_by.nd rfl (.inl rfl)), fun _ _ _ _ _ => (dts_one (PW.pt (dw_and (dt_cmp (op_eqA hr.units) od_eqA (dv_ix ix_seq od_ixA (dv 1) (dv 8) (fun _ _ => rfl)) dv_str (nomark _)) (dw_and1 (dt_cmp (op_eqA hr.units) od_eqA (dv_ix ix_seq od_ixA (dv 1) (dv_op op_sub (od_I0 _) (dv 8) dv_int) (fun _ _ => rfl)) dv_str (nomark _)))))), fun _ _ _ _ _ => (dv 8)⟩))
    (dss_cons (ds_if (dt_cmp (op_eqA hr.units) od_eqA (dv 0) dv_str (nomark _)) (dss_one (ds_ret (dv_cmp (op_eqA hr.units) od_eqA (dv_op op_addA od_addA (dv_op op_addA od_addA (dv 2) (dv 4)) (dv 5)) dv_int (nomark _)))) dss_nil)
    (dss_cons (ds_if (dt_cmp (op_eqA hr.units) od_eqA (dv 0) dv_str (nomark _)) (dss_one (ds_ret (dv_and (dv_cmp (op_eqA hr.units) od_eqA (dv_op op_addA od_addA (dv 4) (dv 5)) dv_int (nomark _)) (dv_one (dv_or (dv_cmp (op_eqA hr.units) od_eqA (dv 2) dv_int (nomark _)) (dv_one (dv_and (dv_cmp (op_eqA hr.units) od_eqA (dv 2) dv_int (nomark _)) (dv_and (dv_cmp (op_eqA hr.units) od_eqA (dv 3) dv_int (nomark _)) (dv_one (dv_cmp (op_eqA hr.units) od_eqA (dv_callB call_len cd_len rfl z_len PySem.boot_len (da_cons (dv 1) da_nil)) dv_int (nomark _))))))))))) dss_nil)
    (dss_cons (ds_if (dt_cmp (op_eqA hr.units) od_eqA (dv 0) dv_str (nomark _)) (dss_one (ds_ret (dv_and (dv_cmp (op_eqA hr.units) od_eqA (dv 5) dv_int (nomark _)) (dv_one (dv_or (dv_cmp (op_eqA hr.units) od_eqA (dv 2) dv_int (nomark _)) (dv_one (dv_and (dv_cmp (op_eqA hr.units) od_eqA (dv 2) dv_int (nomark _)) (dv_and (dv_cmp (op_eqA hr.units) od_eqA (dv 3) dv_int (nomark _)) (dv_one (dv_cmp op_gt (od_B0 _) (dv_callB call_len cd_len rfl z_len PySem.boot_len (da_cons (dv 1) da_nil)) dv_int (nomark _))))))))))) dss_nil)
    (dss_cons (ds_if (dt_cmp (op_eqA hr.units) od_eqA (dv 0) dv_str (nomark _)) (dss_one (ds_ret (dv_and (dv_cmp (op_eqA hr.units) od_eqA (dv 5) dv_int (nomark _)) (dv_one (dv_cmp (op_eqA hr.units) od_eqA (dv 7) (dv_lst df_nil) (nomark _)))))) dss_nil)
    (dss_one (ds_ret (dv_or (dv_cmp (op_eqA hr.units) od_eqA (dv 0) dv_str (nomark _)) (dv_one (dv_cmp (op_eqA hr.units) od_eqA (dv 5) dv_int (nomark _))))))))))))) (fun _ _ _ h => h.2)
/-! #### need_kind -/
abbrev stneed_kind : Stmt := topS 16
theorem scneed_kind : FnScope ["thing"] ["thing"] (defScope stneed_kind) := ⟨rfl, rfl, rfl, by decide +kernel, rfl, by decide +kernel, by decide +kernel⟩
def r_need_kind : TDS := (sIf (dOr (dNot (dTest (dIsi (dVar 0) "str"))) (dTest (dOp (kInA true) (dVar 0) (dC (.tuple [(.str (Str.ofString "clean")), (.str (Str.ofString "whole")), (.str (Str.ofString "causal")), (.str (Str.ofString "snapshot")), (.str (Str.ofString "serial")), (.str (Str.ofString "timely"))]))))) (sRaise "NoKind") sNext)
def s_need_kind : DSpX := ownSpX 1 0 r_need_kind
theorem ok_need_kind {f : Addr} {fd : FuncData} (F : Fun K "need_kind" "need_kind" stneed_kind f fd) (z_isinstance : mg "isinstance" = none) (z_str : mg "str" = none) (g_KINDS : GlobD K mg "KINDS" (.tuple [(.str (Str.ofString "clean")), (.str (Str.ofString "whole")), (.str (Str.ofString "causal")), (.str (Str.ofString "snapshot")), (.str (Str.ofString "serial")), (.str (Str.ofString "timely"))])) (E_NoKind : ExRs K mg "NoKind") : FnOk P w K mg base (L2.CX P w) (0 + 1) f fd ["thing"] (spDX K 1 s_need_kind) :=
  fnDX F scneed_kind rfl r_need_kind (fun cdv A outer s H E hr tk =>
    (dss_one (ds_if (PW.pt (dw_or (dt_not (dt_val (dv_isi (dv 0) rfl z_isinstance (by decide +kernel) rfl z_str (by decide +kernel)))) (dw_or1 (dt_cmp (op_notInP hr.units) (od_inA true) (dv 0) (dv_gd g_KINDS rfl) (by rfl))))) (dss_one (ds_raise rfl tk E_NoKind rfl)) dss_nil))) (fun _ _ _ _ h => h.2)
/-! #### are_all -/
abbrev stare_all : Stmt := topS 17
theorem scare_all : FnScope ["words", "some", "word"] ["words", "some"] (defScope stare_all) := ⟨rfl, rfl, rfl, by decide +kernel, rfl, by decide +kernel, by decide +kernel⟩
def r_are_all : TDS := (sRet (dCB kAll (daCons (dLcA (dVar 0) (gNm 2) dYes (dOp (kInA false) (dVar 2) (dVar 1)) [2]) daNil)))
def s_are_all : DSp := ownSp 2 1 r_are_all
theorem ok_are_all {f : Addr} {fd : FuncData} (F : Fun K "are_all" "are_all" stare_all f fd) (z_all : mg "all" = none) : FnOk P w K mg base CX0 (0 + 1) f fd ["words", "some"] (spD K 2 s_are_all) :=
  fnD F scare_all rfl r_are_all (fun cdv A outer s H E hr =>
    (dss_one (ds_ret (dv_callB (cr_all rfl) cd_all rfl z_all (by decide +kernel) (da_cons (dv_lcA (own := [("word", 2)]) rfl scare_all.nd (dv 0) (by exact ⟨blkOk_by (N := (["words", "some", "word"] : List Str)) (sc := defScope stare_all) (own := [("word", 2)]) (by decide +kernel), by decide, fun _ _ _ _ _ => (dg_nm scare_all.nd rfl (.inl rfl)), fun _ _ _ _ _ => dts_nil, fun _ _ _ _ _ => (dv_cmp (op_inP hr.units) (od_inA false) (dv 2) (dv 1) (by rfl))⟩)) da_nil))))) (fun _ _ _ h => h.2)
/-! #### are_apart -/
abbrev stare_apart : Stmt := topS 18
theorem scare_apart : FnScope ["words", "at"] ["words"] (defScope stare_apart) := ⟨rfl, rfl, rfl, by decide +kernel, rfl, by decide +kernel, by decide +kernel⟩
def r_are_apart : TDS := (sRet (dNotV (dCB kAny (daCons (dLcR (daCons (dCB kLen (daCons (dVar 0) daNil)) daNil) (gNm 1) dYes (dAndV (dOp (kEqA id) (dOp kIxA (dVar 0) (dVar 1)) (dC (.str (Str.ofString "past")))) (dOp (kEqA id) (dOp kIxA (dVar 0) (dOp (kI0 fun i j => .int (i - j)) (dVar 1) (dC (.int 1)))) (dC (.str (Str.ofString "past"))))) [1]) daNil))))
def s_are_apart : DSp := ownSp 1 1 r_are_apart
theorem ok_are_apart {f : Addr} {fd : FuncData} (F : Fun K "are_apart" "are_apart" stare_apart f fd) (z_any : mg "any" = none) (z_len : mg "len" = none) (z_range : mg "range" = none) : FnOk P w K mg base CX0 (0 + 1) f fd ["words"] (spD K 1 s_are_apart) :=
  fnD F scare_apart rfl r_are_apart (fun cdv A outer s H E hr =>
    (dss_one (ds_ret (dv_not (dv_callB (cr_any rfl) cd_any rfl z_any (by decide +kernel) (da_cons (dv_lcR (own := [("at", 1)]) rfl scare_apart.nd rfl z_range (da_cons (dv_callB call_len cd_len rfl z_len PySem.boot_len (da_cons (dv 0) da_nil)) da_nil) (by exact ⟨blkOk_by (N := (["words", "at"] : List Str)) (sc := defScope stare_apart) (own := [("at", 1)]) (by decide +kernel), by decide, fun _ _ _ _ _ => (dg_nm scare_apart.nd rfl (.inl rfl)), fun _ _ _ _ _ => dts_nil, fun _ _ _ _ _ => (dv_and (dv_cmp (op_eqA hr.units) od_eqA (dv_ix ix_seq od_ixA (dv 0) (dv 1) (fun _ _ => rfl)) dv_str (nomark _)) (dv_one (dv_cmp (op_eqA hr.units) od_eqA (dv_ix ix_seq od_ixA (dv 0) (dv_op op_sub (od_I0 _) (dv 1) dv_int) (fun _ _ => rfl)) dv_str (nomark _))))⟩)) da_nil)))))) (fun _ _ _ h => h.2)
/-! #### bars -/
abbrev stbars : Stmt := topS 19
theorem scbars : FnScope ["kind", "words", "others", "word"] ["kind", "words"] (defScope stbars) := ⟨rfl, rfl, rfl, by decide +kernel, rfl, by decide +kernel, by decide +kernel⟩
def r_bars : TDS := (sSeq (sExprX (dCallX s_need_kind (dmF (dVar 0) daNil))) (sSeq (sIf (dTest (dOp (kEqA id) (dVar 0) (dC (.str (Str.ofString "clean"))))) (sRet (dCall s_are_all (dfCons (dVar 1) (dfCons (dTup (dfCons (dC (.str (Str.ofString "over"))) (dfCons (dC (.str (Str.ofString "from"))) dfNil))) dfNil)))) sNext) (sSeq (sIf (dTest (dOp (kEqA id) (dVar 0) (dC (.str (Str.ofString "whole"))))) (sRet (dOrV (dCall s_are_all (dfCons (dVar 1) (dfCons (dTup (dfCons (dC (.str (Str.ofString "over"))) (dfCons (dC (.str (Str.ofString "from"))) dfNil))) dfNil))) (dOp (kEqA id) (dCB kSortD (daCons (dVar 1) daNil)) (dLst (dfCons (dC (.str (Str.ofString "from"))) (dfCons (dC (.str (Str.ofString "past"))) dfNil)))))) sNext) (sSeq (sIf (dTest (dOp (kEqA id) (dVar 0) (dC (.str (Str.ofString "causal"))))) (sSeq (sSet 2 (dLcA (dVar 1) (gNm 3) (dTest (dOp (kEqA (!·)) (dVar 3) (dC (.str (Str.ofString "past"))))) (dVar 3) [3])) (sSeq (sIf (dTest (dOp (kEqA id) (dVar 2) (dVar 1))) (sRet (dCall s_are_all (dfCons (dVar 1) (dfCons (dTup (dfCons (dC (.str (Str.ofString "hand"))) (dfCons (dC (.str (Str.ofString "from"))) (dfCons (dC (.str (Str.ofString "over"))) dfNil)))) dfNil)))) sNext) (sRet (dAndV (dOp (kEqA id) (dCB kLen (daCons (dVar 2) daNil)) (dOp (kI0 fun i j => .int (i - j)) (dCB kLen (daCons (dVar 1) daNil)) (dC (.int 1)))) (dAndV (dOp (kEqA (!·)) (dVar 2) (dLst dfNil)) (dCall s_are_all (dfCons (dVar 2) (dfCons (dTup (dfCons (dC (.str (Str.ofString "hand"))) (dfCons (dC (.str (Str.ofString "from"))) dfNil))) dfNil)))))))) sNext) (sSeq (sIf (dTest (dOp (kEqA id) (dVar 0) (dC (.str (Str.ofString "snapshot"))))) (sRet (dAndV (dCall s_are_all (dfCons (dVar 1) (dfCons (dTup (dfCons (dC (.str (Str.ofString "hand"))) (dfCons (dC (.str (Str.ofString "from"))) (dfCons (dC (.str (Str.ofString "over"))) (dfCons (dC (.str (Str.ofString "past"))) dfNil))))) dfNil))) (dCall s_are_apart (dfCons (dVar 1) dfNil)))) sNext) (sRet (dOrV (dOp (kEqA id) (dVar 0) (dC (.str (Str.ofString "timely")))) (dOp (kInA true) (dC (.str (Str.ofString "time"))) (dVar 1)))))))))
def s_bars : DSpX := ownSpX 2 2 r_bars
theorem ok_bars {f : Addr} {fd : FuncData} (F : Fun K "bars" "bars" stbars f fd) (z_len : mg "len" = none) (z_sorted : mg "sorted" = none) {gneed_kind : Addr} {gdneed_kind : FuncData} (G_need_kind : FnOk P w K mg base (L2.CX P w) 1 gneed_kind gdneed_kind ["thing"] (spDX K 1 s_need_kind)) (b_need_kind : Binds K gdneed_kind ["thing"] []) (k_need_kind : PySem.W.keepIn K (.ref gneed_kind) = true) (m_need_kind : mg "need_kind" = some (.ref gneed_kind)) {gare_all : Addr} {gdare_all : FuncData} (G_are_all : FnOk P w K mg base CX0 1 gare_all gdare_all ["words", "some"] (spD K 2 s_are_all)) (b_are_all : Binds K gdare_all ["words", "some"] []) (k_are_all : PySem.W.keepIn K (.ref gare_all) = true) (m_are_all : mg "are_all" = some (.ref gare_all)) {gare_apart : Addr} {gdare_apart : FuncData} (G_are_apart : FnOk P w K mg base CX0 1 gare_apart gdare_apart ["words"] (spD K 1 s_are_apart)) (b_are_apart : Binds K gdare_apart ["words"] []) (k_are_apart : PySem.W.keepIn K (.ref gare_apart) = true) (m_are_apart : mg "are_apart" = some (.ref gare_apart)) : FnOk P w K mg base (L2.CX P w) (1 + 1) f fd ["kind", "words"] (spDX K 2 s_bars) :=
  fnDX F scbars rfl r_bars (fun cdv A outer s H E hr tk =>
    (dss_cons (ds_exprX (dv_callX tk G_need_kind ownSpX_len (hr.mono (by decide)) rfl m_need_kind k_need_kind b_need_kind (da_consF (dv 0) da_nil)))
    (dss_cons (ds_if (dt_cmp (op_eqA hr.units) od_eqA (dv 0) dv_str (nomark _)) (dss_one (ds_ret (dv_call G_are_all (ownSp_len) (hr.mono (by decide)) rfl m_are_all k_are_all b_are_all (df_cons (dv 1) (df_cons (dv_tup (df_cons dv_str (df_cons dv_str df_nil))) df_nil))))) dss_nil)
    (dss_cons (ds_if (dt_cmp (op_eqA hr.units) od_eqA (dv 0) dv_str (nomark _)) (dss_one (ds_ret (dv_or (dv_call G_are_all (ownSp_len) (hr.mono (by decide)) rfl m_are_all k_are_all b_are_all (df_cons (dv 1) (df_cons (dv_tup (df_cons dv_str (df_cons dv_str df_nil))) df_nil))) (dv_one (dv_cmp (op_eqA hr.units) od_eqA (dv_callB (cr_sortD hr.units) cd_sortD rfl z_sorted (by decide +kernel) (da_cons (dv 1) da_nil)) (dv_lst (df_cons dv_str (df_cons dv_str df_nil))) (nomark _)))))) dss_nil)
    (dss_cons (ds_if (dt_cmp (op_eqA hr.units) od_eqA (dv 0) dv_str (nomark _)) (dss_cons (ds_lcA (own := [("word", 3)]) (i := 2) rfl scbars.nd rfl rfl (sw_true rfl rfl rfl (by decide +kernel)) (dv 1) (by exact ⟨blkOk_by (N := (["kind", "words", "others", "word"] : List Str)) (sc := defScope stbars) (own := [("word", 3)]) (by decide +kernel), by decide, fun _ _ _ _ _ => (dg_nm scbars.nd rfl (.inl rfl)), fun _ _ _ _ _ => (dts_one (dt_cmp (op_neA hr.units) od_neA (dv 3) dv_str (nomark _))), fun _ _ _ _ _ => (dv 3)⟩))
    (dss_cons (ds_if (dt_cmp (op_eqA hr.units) od_eqA (dv 2) (dv 1) (nomark _)) (dss_one (ds_ret (dv_call G_are_all (ownSp_len) (hr.mono (by decide)) rfl m_are_all k_are_all b_are_all (df_cons (dv 1) (df_cons (dv_tup (df_cons dv_str (df_cons dv_str (df_cons dv_str df_nil)))) df_nil))))) dss_nil)
    (dss_one (ds_ret (dv_and (dv_cmp (op_eqA hr.units) od_eqA (dv_callB call_len cd_len rfl z_len PySem.boot_len (da_cons (dv 2) da_nil)) (dv_op op_sub (od_I0 _) (dv_callB call_len cd_len rfl z_len PySem.boot_len (da_cons (dv 1) da_nil)) dv_int) (nomark _)) (dv_and (dv_cmp (op_neA hr.units) od_neA (dv 2) (dv_lst df_nil) (nomark _)) (dv_one (dv_call G_are_all (ownSp_len) (hr.mono (by decide)) rfl m_are_all k_are_all b_are_all (df_cons (dv 2) (df_cons (dv_tup (df_cons dv_str (df_cons dv_str df_nil))) df_nil)))))))))) dss_nil)
    (dss_cons (ds_if (dt_cmp (op_eqA hr.units) od_eqA (dv 0) dv_str (nomark _)) (dss_one (ds_ret (dv_and (dv_call G_are_all (ownSp_len) (hr.mono (by decide)) rfl m_are_all k_are_all b_are_all (df_cons (dv 1) (df_cons (dv_tup (df_cons dv_str (df_cons dv_str (df_cons dv_str (df_cons dv_str df_nil))))) df_nil))) (dv_one (dv_call G_are_apart (ownSp_len) (hr.mono (by decide)) rfl m_are_apart k_are_apart b_are_apart (df_cons (dv 1) df_nil)))))) dss_nil)
    (dss_one (ds_ret (dv_or (dv_cmp (op_eqA hr.units) od_eqA (dv 0) dv_str (nomark _)) (dv_one (dv_cmp (op_notInP hr.units) (od_inA true) dv_str (dv 1) (by rfl)))))))))))) (fun _ _ _ _ h => h.2)
/-! #### _law_alone -/
abbrev stqalone : Stmt := topS 24
theorem scqalone : FnScope ["_law_e", "_law_name", "_law_some", "_law_names", "_law_one"] ["_law_e", "_law_name"] (defScope stqalone) := ⟨rfl, rfl, rfl, by decide +kernel, rfl, by decide +kernel, by decide +kernel⟩
def r_qalone : TDS := (sSeq (sSet 2 (dLst (dfCons (dIsx (dVar 0) xi_NoHistory) (dfCons (dIsx (dVar 0) xi_NotSound) (dfCons (dIsx (dVar 0) xi_NoOrders) (dfCons (dIsx (dVar 0) xi_NoKind) dfNil)))))) (sSeq (sSet 2 (dOp kAdd (dVar 2) (dLst (dfCons (dIsx (dVar 0) xi_NoDeal) (dfCons (dIsx (dVar 0) xi_TooMany) (dfCons (dIsx (dVar 0) xi_IsYes) (dfCons (dIsx (dVar 0) xi_NoHands) dfNil))))))) (sSeq (sSet 2 (dOp kAdd (dVar 2) (dLst (dfCons (dIsx (dVar 0) xi_NoStore) (dfCons (dIsx (dVar 0) xi_NoLog) (dfCons (dIsx (dVar 0) xi_NoText) dfNil)))))) (sSeq (sSet 3 (dLst (dfCons (dC (.str (Str.ofString "NoHistory"))) (dfCons (dC (.str (Str.ofString "NotSound"))) (dfCons (dC (.str (Str.ofString "NoOrders"))) (dfCons (dC (.str (Str.ofString "NoKind"))) (dfCons (dC (.str (Str.ofString "NoDeal"))) (dfCons (dC (.str (Str.ofString "TooMany"))) (dfCons (dC (.str (Str.ofString "IsYes"))) (dfCons (dC (.str (Str.ofString "NoHands"))) dfNil)))))))))) (sRet (dAndV (dIsx (dVar 0) xi_ValueError) (dOp (kEqA id) (dVar 2) (dLcA (dOp kAdd (dVar 3) (dLst (dfCons (dC (.str (Str.ofString "NoStore"))) (dfCons (dC (.str (Str.ofString "NoLog"))) (dfCons (dC (.str (Str.ofString "NoText"))) dfNil))))) (gNm 4) dYes (dOp (kEqA id) (dVar 4) (dVar 1)) [4]))))))))
def s_qalone : DSp := ownSp 2 3 r_qalone
theorem ok_qalone {f : Addr} {fd : FuncData} (F : Fun K "_law_alone" "_law_alone" stqalone f fd) (z_ValueError : mg "ValueError" = none) (z_isinstance : mg "isinstance" = none) (T_IsYes : ExIs K mg "IsYes" xi_IsYes) (T_NoDeal : ExIs K mg "NoDeal" xi_NoDeal) (T_NoHands : ExIs K mg "NoHands" xi_NoHands) (T_NoHistory : ExIs K mg "NoHistory" xi_NoHistory) (T_NoKind : ExIs K mg "NoKind" xi_NoKind) (T_NoLog : ExIs K mg "NoLog" xi_NoLog) (T_NoOrders : ExIs K mg "NoOrders" xi_NoOrders) (T_NoStore : ExIs K mg "NoStore" xi_NoStore) (T_NoText : ExIs K mg "NoText" xi_NoText) (T_NotSound : ExIs K mg "NotSound" xi_NotSound) (T_TooMany : ExIs K mg "TooMany" xi_TooMany) (T_ValueError : ExTy K (.type "ValueError") xi_ValueError) : FnOk P w K mg base CX0 (0 + 1) f fd ["_law_e", "_law_name"] (spD K 2 s_qalone) :=
  fnD F scqalone rfl r_qalone (fun cdv A outer s H E hr =>
    (dss_cons (ds_set (i := 2) scqalone.nd rfl (.inl rfl) (dv_lst (df_cons (dv_isx (dv 0) rfl z_isinstance (by decide +kernel) rfl T_NoHistory) (df_cons (dv_isx (dv 0) rfl z_isinstance (by decide +kernel) rfl T_NotSound) (df_cons (dv_isx (dv 0) rfl z_isinstance (by decide +kernel) rfl T_NoOrders) (df_cons (dv_isx (dv 0) rfl z_isinstance (by decide +kernel) rfl T_NoKind) df_nil))))))
    (dss_cons (ds_set (i := 2) scqalone.nd rfl (.inl rfl) (dv_op op_addA od_addA (dv 2) (dv_lst (df_cons (dv_isx (dv 0) rfl z_isinstance (by decide +kernel) rfl T_NoDeal) (df_cons (dv_isx (dv 0) rfl z_isinstance (by decide +kernel) rfl T_TooMany) (df_cons (dv_isx (dv 0) rfl z_isinstance (by decide +kernel) rfl T_IsYes) (df_cons (dv_isx (dv 0) rfl z_isinstance (by decide +kernel) rfl T_NoHands) df_nil)))))))
    (dss_cons (ds_set (i := 2) scqalone.nd rfl (.inl rfl) (dv_op op_addA od_addA (dv 2) (dv_lst (df_cons (dv_isx (dv 0) rfl z_isinstance (by decide +kernel) rfl T_NoStore) (df_cons (dv_isx (dv 0) rfl z_isinstance (by decide +kernel) rfl T_NoLog) (df_cons (dv_isx (dv 0) rfl z_isinstance (by decide +kernel) rfl T_NoText) df_nil))))))
    (dss_cons (ds_set (i := 3) scqalone.nd rfl (.inl rfl) (dv_lst (df_cons dv_str (df_cons dv_str (df_cons dv_str (df_cons dv_str (df_cons dv_str (df_cons dv_str (df_cons dv_str (df_cons dv_str df_nil))))))))))
    (dss_one (ds_ret (dv_and (dv_isxB (dv 0) rfl z_isinstance (by decide +kernel) rfl z_ValueError (by decide +kernel) T_ValueError) (dv_one (dv_cmp (op_eqA hr.units) od_eqA (dv 2) (dv_lcA (own := [("_law_one", 4)]) rfl scqalone.nd (dv_op op_addA od_addA (dv 3) (dv_lst (df_cons dv_str (df_cons dv_str (df_cons dv_str df_nil))))) (by exact ⟨blkOk_by (N := (["_law_e", "_law_name", "_law_some", "_law_names", "_law_one"] : List Str)) (sc := defScope stqalone) (own := [("_law_one", 4)]) (by decide +kernel), by decide, fun _ _ _ _ _ => (dg_nm scqalone.nd rfl (.inl rfl)), fun _ _ _ _ _ => dts_nil, fun _ _ _ _ _ => (dv_cmp (op_eqA hr.units) od_eqA (dv 4) (dv 1) (nomark _))⟩)) (nomark _))))))))))) (fun _ _ _ h => h.2)
/-! #### _law_refused -/
abbrev stqrefused : Stmt := topS 25
theorem scqrefused : FnScope ["_law_thing", "_law_caught", "_law_e"] ["_law_thing"] (defScope stqrefused) := ⟨rfl, rfl, rfl, by decide +kernel, rfl, by decide +kernel, by decide +kernel⟩
def b_qrefused_1 : TDS := (sExprX (dCallX s_bars (dmF (dVar 0) (dmF (dLst (dfCons (dC (.str (Str.ofString "from"))) (dfCons (dC (.str (Str.ofString "over"))) dfNil))) daNil))))
theorem b_qrefused_1_eq {D : DEnds} {ε : Ep} : ev (b_qrefused_1 D ε) = ev ((sExprX (dCallX s_bars (dmF (dVar 0) (dmF (dLst (dfCons (dC (.str (Str.ofString "from"))) (dfCons (dC (.str (Str.ofString "over"))) dfNil))) daNil)))) D ε) := rfl
def r_qrefused : TDS := (sSeq (sSet 1 (dC .none)) (sSeq (sTry b_qrefused_1 2 1 xc_CourtError) (sRet (dAndV (dIsNx true (dVar 1)) (dCallM s_qalone (dmF (dVar 1) (dmF (dC (.str (Str.ofString "NoKind"))) daNil)))))))
def s_qrefused : DSp := ownSp 1 2 r_qrefused
theorem ok_qrefused {f : Addr} {fd : FuncData} (F : Fun K "_law_refused" "_law_refused" stqrefused f fd) (C_CourtError : ExCt K mg "CourtError" xc_CourtError) {gbars : Addr} {gdbars : FuncData} (G_bars : FnOk P w K mg base (L2.CX P w) 2 gbars gdbars ["kind", "words"] (spDX K 2 s_bars)) (b_bars : Binds K gdbars ["kind", "words"] []) (k_bars : PySem.W.keepIn K (.ref gbars) = true) (m_bars : mg "bars" = some (.ref gbars)) {gqalone : Addr} {gdqalone : FuncData} (G_qalone : FnOk P w K mg base CX0 1 gqalone gdqalone ["_law_e", "_law_name"] (spD K 2 s_qalone)) (b_qalone : Binds K gdqalone ["_law_e", "_law_name"] []) (k_qalone : PySem.W.keepIn K (.ref gqalone) = true) (m_qalone : mg "_law_alone" = some (.ref gqalone)) : FnOk P w K mg base CX0 (2 + 1) f fd ["_law_thing"] (spD K 1 s_qrefused) :=
  fnD F scqrefused rfl r_qrefused (fun cdv A outer s H E hr =>
    (dss_cons (ds_set (i := 1) scqrefused.nd rfl (.inl rfl) dv_non)
    (dss_cons (ds_try (i := 2) (j := 1) rfl rfl rfl scqrefused.nd rfl rfl (by decide) rfl rfl rfl (by decide) C_CourtError takes_noW (fun W pn xe tk hp => (dss_one (ds_exprX (dv_callX tk G_bars ownSpX_len (hr.mono (by decide)) rfl m_bars k_bars b_bars (da_consF (dv 0) (da_consF (dv_lst (df_cons dv_str (df_cons dv_str df_nil))) da_nil))))))
      (fun a oe pn' => pss_one (ps_set (i := 1) scqrefused.nd rfl (.inl rfl) (pv 2))))
    (dss_one (ds_ret (dv_and (dv_notN (dv 1)) (dv_one (dv_callM G_qalone ownSp_len (hr.mono (by decide)) rfl m_qalone k_qalone b_qalone (da_consF (dv 1) (da_consF dv_str da_nil)))))))))) (fun _ _ _ h => h.2)
/-! #### law -/
abbrev stlaw : Stmt := topS 27
theorem sclaw : FnScope ["_law_script", "_law_names", "_law_k", "_law_state_here", "_law_row", "_law_at", "_law_turned", "_law_due", "_law_name", "_law_one", "_law_odd", "_law_told_ones"] ["_law_script"] (defScope stlaw) := ⟨rfl, rfl, rfl, by decide +kernel, rfl, by decide +kernel, by decide +kernel⟩
def b_law_1 : TDS := (sSeq (sSet 3 (dCall s_qstate (dfCons (dVar 0) (dfCons (dVar 2) dfNil)))) (sSeq (sSet 4 (dCallM s_qwords (daCons (dVar 3) daNil))) (sSeq (sSet 5 (dCallS 3 s_qnext (dfCons (dCB kLen (daCons (dVar 4) daNil)) dfNil))) (sSeq (sSet 6 (dOp kAdd (dSl (dVar 4) (dPart (dVar 5)) dNoPart) (dSl (dVar 4) dNoPart (dPart (dVar 5))))) (sSeq (sSet 7 (dLcA (dVar 1) (gNm 8) dYes (dCall s_qbarred_by (dfCons (dVar 8) (dfCons (dVar 4) dfNil))) [8])) (sSeq (sIf (dOr (dTest (dOp (kEqA (!·)) (dLcA (dVar 1) (gNm 8) dYes (dCallXn s_bars (dmF (dVar 8) (dmF (dCB kList (daCons (dVar 4) daNil)) daNil))) [8]) (dVar 7))) (dTest (dOp (kEqA (!·)) (dLcA (dVar 1) (gNm 8) dYes (dCallXn s_bars (dmF (dVar 8) (dmF (dVar 6) daNil))) [8]) (dVar 7)))) (sRet (dC (.bool false))) sNext) (sSeq (sIf (dOr (dTest (dOp (kEqA (!·)) (dLcA (dVar 7) (gNm 9) (dNot (dTest (dIsi (dVar 9) "bool"))) (dC (.int 1)) [9]) (dLst dfNil))) (dTest (dOp (kEqA (!·)) (dVar 7) (dCB kSortD (daCons (dVar 7) daNil))))) (sRet (dC (.bool false))) sNext) (sSeq (sIf (dNot (dTest (dIsi (dCallXn s_bars (dmF (dOp kIxA (dVar 1) (dOp (kI (fun _ j => 0 < j) fun i j => .int (i % j)) (dVar 2) (dC (.int 6)))) (dmF (dVar 4) daNil))) "bool"))) (sRet (dC (.bool false))) sNext) (sSeq (sSet 10 (dOp kIxA (dLst (dfCons (dC .none) (dfCons (dC (.str (Str.ofString ""))) (dfCons (dC (.str (Str.ofString "Clean"))) (dfCons (dC (.str (Str.ofString "time"))) (dfCons (dC (.int 3)) (dfCons (dTup (dfCons (dC (.str (Str.ofString "clean"))) dfNil)) (dfCons (dLst (dfCons (dC (.str (Str.ofString "clean"))) dfNil)) (dfCons dDct (dfCons (dC (.str (Str.ofString "serial "))) dfNil)))))))))) (dCallS 3 s_qnext (dfCons (dC (.int 9)) dfNil)))) (sIf (dNot (dTest (dCall s_qrefused (dfCons (dVar 10) dfNil)))) (sRet (dC (.bool false))) sNext))))))))))
theorem b_law_1_eq {D : DEnds} {ε : Ep} : ev (b_law_1 D ε) = ev ((sSeq (sSet 3 (dCall s_qstate (dfCons (dVar 0) (dfCons (dVar 2) dfNil)))) (sSeq (sSet 4 (dCallM s_qwords (daCons (dVar 3) daNil))) (sSeq (sSet 5 (dCallS 3 s_qnext (dfCons (dCB kLen (daCons (dVar 4) daNil)) dfNil))) (sSeq (sSet 6 (dOp kAdd (dSl (dVar 4) (dPart (dVar 5)) dNoPart) (dSl (dVar 4) dNoPart (dPart (dVar 5))))) (sSeq (sSet 7 (dLcA (dVar 1) (gNm 8) dYes (dCall s_qbarred_by (dfCons (dVar 8) (dfCons (dVar 4) dfNil))) [8])) (sSeq (sIf (dOr (dTest (dOp (kEqA (!·)) (dLcA (dVar 1) (gNm 8) dYes (dCallXn s_bars (dmF (dVar 8) (dmF (dCB kList (daCons (dVar 4) daNil)) daNil))) [8]) (dVar 7))) (dTest (dOp (kEqA (!·)) (dLcA (dVar 1) (gNm 8) dYes (dCallXn s_bars (dmF (dVar 8) (dmF (dVar 6) daNil))) [8]) (dVar 7)))) (sRet (dC (.bool false))) sNext) (sSeq (sIf (dOr (dTest (dOp (kEqA (!·)) (dLcA (dVar 7) (gNm 9) (dNot (dTest (dIsi (dVar 9) "bool"))) (dC (.int 1)) [9]) (dLst dfNil))) (dTest (dOp (kEqA (!·)) (dVar 7) (dCB kSortD (daCons (dVar 7) daNil))))) (sRet (dC (.bool false))) sNext) (sSeq (sIf (dNot (dTest (dIsi (dCallXn s_bars (dmF (dOp kIxA (dVar 1) (dOp (kI (fun _ j => 0 < j) fun i j => .int (i % j)) (dVar 2) (dC (.int 6)))) (dmF (dVar 4) daNil))) "bool"))) (sRet (dC (.bool false))) sNext) (sSeq (sSet 10 (dOp kIxA (dLst (dfCons (dC .none) (dfCons (dC (.str (Str.ofString ""))) (dfCons (dC (.str (Str.ofString "Clean"))) (dfCons (dC (.str (Str.ofString "time"))) (dfCons (dC (.int 3)) (dfCons (dTup (dfCons (dC (.str (Str.ofString "clean"))) dfNil)) (dfCons (dLst (dfCons (dC (.str (Str.ofString "clean"))) dfNil)) (dfCons dDct (dfCons (dC (.str (Str.ofString "serial "))) dfNil)))))))))) (dCallS 3 s_qnext (dfCons (dC (.int 9)) dfNil)))) (sIf (dNot (dTest (dCall s_qrefused (dfCons (dVar 10) dfNil)))) (sRet (dC (.bool false))) sNext)))))))))) D ε) := rfl
def r_law : TDS := (sSeq (sSet 1 (dLst (dfCons (dC (.str (Str.ofString "clean"))) (dfCons (dC (.str (Str.ofString "whole"))) (dfCons (dC (.str (Str.ofString "causal"))) (dfCons (dC (.str (Str.ofString "snapshot"))) (dfCons (dC (.str (Str.ofString "serial"))) (dfCons (dC (.str (Str.ofString "timely"))) dfNil)))))))) (sSeq (sForR (daCons (dCB (kI2 fun i j => if j > i then j else i) (daCons (dC (.int 1)) (daCons (dCB (kI2 fun i j => if j < i then j else i) (daCons (dCB kLen (daCons (dVar 0) daNil)) (daCons (dC (.int 63)) daNil))) daNil))) daNil) (gNm 2) b_law_1) (sSeq (sSet 11 (dCallM s_kinds daNil)) (sSeq (sExpr (dMut 11 kAppend (dfCons (dC (.str (Str.ofString "more"))) dfNil))) (sRet (dAndV (dOp (kEqA id) (dCallM s_kinds daNil) (dVar 1)) (dOp (kIsB false) (dCallXn s_bars (dmF (dC (.str (Str.ofString "whole"))) (dmF (dLst (dfCons (dC (.str (Str.ofString "past"))) (dfCons (dC (.str (Str.ofString "from"))) dfNil))) daNil))) (dC (.bool true)))))))))
def s_law : DSp := ownSp 1 11 r_law
theorem ok_law {f : Addr} {fd : FuncData} (F : Fun K "law" "law" stlaw f fd) (z_bool : mg "bool" = none) (z_isinstance : mg "isinstance" = none) (z_len : mg "len" = none) (z_list : mg "list" = none) (z_max : mg "max" = none) (z_min : mg "min" = none) (z_range : mg "range" = none) (z_sorted : mg "sorted" = none) {gqstate : Addr} {gdqstate : FuncData} (G_qstate : FnOk P w K mg base CX0 1 gqstate gdqstate ["_law_script", "_law_k"] (spD K 2 s_qstate)) (b_qstate : Binds K gdqstate ["_law_script", "_law_k"] []) (k_qstate : PySem.W.keepIn K (.ref gqstate) = true) (m_qstate : mg "_law_state" = some (.ref gqstate)) {gqwords : Addr} {gdqwords : FuncData} (G_qwords : FnOk P w K mg base CX0 2 gqwords gdqwords ["_law_state_here"] (spD K 1 s_qwords)) (b_qwords : Binds K gdqwords ["_law_state_here"] []) (k_qwords : PySem.W.keepIn K (.ref gqwords) = true) (m_qwords : mg "_law_words" = some (.ref gqwords)) {gqnext : Addr} {gdqnext : FuncData} (G_qnext : FnOk P w K mg base CX0 1 gqnext gdqnext ["_law_state_here", "_law_size"] (spD K 2 s_qnext)) (b_qnext : Binds K gdqnext ["_law_state_here", "_law_size"] []) (k_qnext : PySem.W.keepIn K (.ref gqnext) = true) (m_qnext : mg "_law_next" = some (.ref gqnext)) {gqbarred_by : Addr} {gdqbarred_by : FuncData} (G_qbarred_by : FnOk P w K mg base CX0 1 gqbarred_by gdqbarred_by ["_law_kind", "_law_row"] (spD K 2 s_qbarred_by)) (b_qbarred_by : Binds K gdqbarred_by ["_law_kind", "_law_row"] []) (k_qbarred_by : PySem.W.keepIn K (.ref gqbarred_by) = true) (m_qbarred_by : mg "_law_barred_by" = some (.ref gqbarred_by)) {gbars : Addr} {gdbars : FuncData} (G_bars : FnOk P w K mg base (L2.CX P w) 2 gbars gdbars ["kind", "words"] (spDX K 2 s_bars)) (b_bars : Binds K gdbars ["kind", "words"] []) (k_bars : PySem.W.keepIn K (.ref gbars) = true) (m_bars : mg "bars" = some (.ref gbars)) {gqrefused : Addr} {gdqrefused : FuncData} (G_qrefused : FnOk P w K mg base CX0 3 gqrefused gdqrefused ["_law_thing"] (spD K 1 s_qrefused)) (b_qrefused : Binds K gdqrefused ["_law_thing"] []) (k_qrefused : PySem.W.keepIn K (.ref gqrefused) = true) (m_qrefused : mg "_law_refused" = some (.ref gqrefused)) {gkinds : Addr} {gdkinds : FuncData} (G_kinds : FnOk P w K mg base CX0 1 gkinds gdkinds [] (spD K 0 s_kinds)) (b_kinds : Binds K gdkinds [] []) (k_kinds : PySem.W.keepIn K (.ref gkinds) = true) (m_kinds : mg "kinds" = some (.ref gkinds)) : FnOk P w K mg base CX0 (3 + 1) f fd ["_law_script"] (spD K 1 s_law) :=
  fnD F sclaw rfl r_law (fun cdv A outer s H E hr =>
    (dss_cons (ds_set (i := 1) sclaw.nd rfl (.inl rfl) (dv_lst (df_cons dv_str (df_cons dv_str (df_cons dv_str (df_cons dv_str (df_cons dv_str (df_cons dv_str df_nil))))))))
    (dss_cons (ds_forR PassesOwn.never rfl rfl z_range (da_cons (dv_callB (call_max2 rfl) cd_max2 rfl z_max (by decide +kernel) (da_cons dv_int (da_cons (dv_callB (call_min2 rfl) cd_min2 rfl z_min (by decide +kernel) (da_cons (dv_callB call_len cd_len rfl z_len PySem.boot_len (da_cons (dv 0) da_nil)) (da_cons dv_int da_nil))) da_nil))) da_nil) (dg_nm sclaw.nd rfl (.inl rfl)) (dss_cons (ds_set (i := 3) sclaw.nd rfl (.inl rfl) (dv_call G_qstate (ownSp_len) (hr.mono (by decide)) rfl m_qstate k_qstate b_qstate (df_cons (dv 0) (df_cons (dv 2) df_nil))))
    (dss_cons (ds_set (i := 4) sclaw.nd rfl (.inr rfl) (dv_callM G_qwords ownSp_len (hr.mono (by decide)) rfl m_qwords k_qwords b_qwords (da_cons (dv 3) da_nil)))
    (dss_cons (ds_set (i := 5) sclaw.nd rfl (.inl rfl) (dv_callS 3 G_qnext (ownSp_len) (hr.mono (by decide)) rfl m_qnext k_qnext b_qnext (df_cons (dv_callB call_len cd_len rfl z_len PySem.boot_len (da_cons (dv 4) da_nil)) df_nil)))
    (dss_cons (ds_set (i := 6) sclaw.nd rfl (.inr rfl) (dv_op op_addA od_addA (dv_sl (dv 4) (do_some (dv 5)) do_none) (dv_sl (dv 4) do_none (do_some (dv 5)))))
    (dss_cons (ds_lcA (own := [("_law_name", 8)]) (i := 7) rfl sclaw.nd rfl rfl (sw_true rfl rfl rfl (by decide +kernel)) (dv 1) (by exact ⟨blkOk_by (N := (["_law_script", "_law_names", "_law_k", "_law_state_here", "_law_row", "_law_at", "_law_turned", "_law_due", "_law_name", "_law_one", "_law_odd", "_law_told_ones"] : List Str)) (sc := defScope stlaw) (own := [("_law_name", 8)]) (by decide +kernel), by decide, fun _ _ _ _ _ => (dg_nm sclaw.nd rfl (.inl rfl)), fun _ _ _ _ _ => dts_nil, fun _ _ _ _ _ => (dv_call G_qbarred_by (ownSp_len) (hr.mono (by decide)) rfl m_qbarred_by k_qbarred_by b_qbarred_by (df_cons (dv 8) (df_cons (dv 4) df_nil)))⟩))
    (dss_cons (ds_if (PW.pt (dw_or (dt_cmp (op_neA hr.units) od_neA (dv_lcA (own := [("_law_name", 8)]) rfl sclaw.nd (dv 1) (by exact ⟨blkOk_by (N := (["_law_script", "_law_names", "_law_k", "_law_state_here", "_law_row", "_law_at", "_law_turned", "_law_due", "_law_name", "_law_one", "_law_odd", "_law_told_ones"] : List Str)) (sc := defScope stlaw) (own := [("_law_name", 8)]) (by decide +kernel), by decide, fun _ _ _ _ _ => (dg_nm sclaw.nd rfl (.inl rfl)), fun _ _ _ _ _ => dts_nil, fun _ _ _ _ _ => (dv_ofX (dv_callX takes_noW G_bars ownSpX_len (hr.mono (by decide)) rfl m_bars k_bars b_bars (da_consF (dv 8) (da_consF (dv_callTy call_list_of cd_list rfl z_list (by decide +kernel) (da_cons (dv 4) da_nil)) da_nil))))⟩)) (dv 7) (nomark _)) (dw_or1 (dt_cmp (op_neA hr.units) od_neA (dv_lcA (own := [("_law_name", 8)]) rfl sclaw.nd (dv 1) (by exact ⟨blkOk_by (N := (["_law_script", "_law_names", "_law_k", "_law_state_here", "_law_row", "_law_at", "_law_turned", "_law_due", "_law_name", "_law_one", "_law_odd", "_law_told_ones"] : List Str)) (sc := defScope stlaw) (own := [("_law_name", 8)]) (by decide +kernel), by decide, fun _ _ _ _ _ => (dg_nm sclaw.nd rfl (.inl rfl)), fun _ _ _ _ _ => dts_nil, fun _ _ _ _ _ => (dv_ofX (dv_callX takes_noW G_bars ownSpX_len (hr.mono (by decide)) rfl m_bars k_bars b_bars (da_consF (dv 8) (da_consF (dv 6) da_nil))))⟩)) (dv 7) (nomark _))))) (dss_one (ds_ret dv_bl)) dss_nil)
    (dss_cons (ds_if (PW.pt (dw_or (dt_cmp (op_neA hr.units) od_neA (dv_lcA (own := [("_law_one", 9)]) rfl sclaw.nd (dv 7) (by exact ⟨blkOk_by (N := (["_law_script", "_law_names", "_law_k", "_law_state_here", "_law_row", "_law_at", "_law_turned", "_law_due", "_law_name", "_law_one", "_law_odd", "_law_told_ones"] : List Str)) (sc := defScope stlaw) (own := [("_law_one", 9)]) (by decide +kernel), by decide, fun _ _ _ _ _ => (dg_nm sclaw.nd rfl (.inl rfl)), fun _ _ _ _ _ => (dts_one (dt_not (dt_val (dv_isi (dv 9) rfl z_isinstance (by decide +kernel) rfl z_bool (by decide +kernel))))), fun _ _ _ _ _ => dv_int⟩)) (dv_lst df_nil) (nomark _)) (dw_or1 (dt_cmp (op_neA hr.units) od_neA (dv 7) (dv_callB (cr_sortD hr.units) cd_sortD rfl z_sorted (by decide +kernel) (da_cons (dv 7) da_nil)) (nomark _))))) (dss_one (ds_ret dv_bl)) dss_nil)
    (dss_cons (ds_if (dt_not (dt_val (dv_isi (dv_ofX (dv_callX takes_noW G_bars ownSpX_len (hr.mono (by decide)) rfl m_bars k_bars b_bars (da_consF (dv_ix ix_seq od_ixA (dv 1) (dv_op op_mod (od_I _ _) (dv 2) dv_int) (fun _ _ => rfl)) (da_consF (dv 4) da_nil)))) rfl z_isinstance (by decide +kernel) rfl z_bool (by decide +kernel)))) (dss_one (ds_ret dv_bl)) dss_nil)
    (dss_cons (ds_set (i := 10) sclaw.nd rfl (.inl rfl) (dv_ix ix_seq od_ixA (dv_lst (df_cons dv_non (df_cons dv_str (df_cons dv_str (df_cons dv_str (df_cons dv_int (df_cons (dv_tup (df_cons dv_str df_nil)) (df_cons (dv_lst (df_cons dv_str df_nil)) (df_cons dv_dnew (df_cons dv_str df_nil)))))))))) (dv_callS 3 G_qnext (ownSp_len) (hr.mono (by decide)) rfl m_qnext k_qnext b_qnext (df_cons dv_int df_nil)) (fun _ _ => rfl)))
    (dss_one (ds_if (dt_not (dt_val (dv_call G_qrefused (ownSp_len) (hr.mono (by decide)) rfl m_qrefused k_qrefused b_qrefused (df_cons (dv 10) df_nil)))) (dss_one (ds_ret dv_bl)) dss_nil))))))))))))
    (dss_cons (ds_set (i := 11) sclaw.nd rfl (.inl rfl) (dv_callM0 G_kinds ownSp_len (hr.mono (by decide)) rfl m_kinds k_kinds b_kinds))
    (dss_cons (ds_expr (dv_mut 11 PySem.F.slot_list_append PySem.F.type_list_append mt_append md_append (df_cons dv_str df_nil)))
    (dss_one (ds_ret (dv_and (dv_cmp (op_eqA hr.units) od_eqA (dv_callM0 G_kinds ownSp_len (hr.mono (by decide)) rfl m_kinds k_kinds b_kinds) (dv 1) (nomark _)) (dv_one (dv_cmp op_isBl od_isB (dv_ofX (dv_callX takes_noW G_bars ownSpX_len (hr.mono (by decide)) rfl m_bars k_bars b_bars (da_consF dv_str (da_consF (dv_lst (df_cons dv_str (df_cons dv_str df_nil))) da_nil)))) dv_bl (nomark _))))))))))) (fun _ _ _ h => h.2)
end
end Cl

namespace Cl
open PySem PySem.Spec PyProof.Rows L2 DL
local macro_rules | `(tactic| walk_at "x") => `(tactic| (refine ev_of ?_; simp only [ap_seq, ap_next, ap_brk, ap_cnt, ap_expr, ap_ret, ap_retN, ap_if, ap_asg, ap_set, ap_seti, ap_par, ap_dput, ap_forL, ap_forT, ap_forR, ap_while, ap_nm, ap_gtp, ap_gnil, ap_gcons, ap_var, ap_c, ap_op, ap_un, ap_test, ap_and, ap_or, ap_not, ap_yes, ap_andV, ap_orV, ap_notV, ap_ifE, ap_anil, ap_acons, ap_fnil, ap_fcons, ap_tup, ap_lst, ap_dct, ap_cb, ap_isi, ap_sl, ap_nopart, ap_part, ap_lstrg, ap_mut, ap_call, ap_callS, ap_din, ap_lcL, ap_lcT, ap_lcR, ap_lcB, ap_forB, ap_lcnil, ap_lccons, wp_nil, wp_cons, rs_nil, rs_cons, kp_d, kp_un, eq_self,
  ev_ev, kd_i, kd_s, if_true, if_false, Bool.false_eq_true, Bool.not_true, Bool.not_false, List.isEmpty_nil, List.isEmpty_cons, ev_and, ev_t, ev_f, ev_s, k_I0, k_I, k_EqL0, k_EqT0, k_EqLT, k_EqTL, k_EqI, k_EqB, k_EqS, k_EqN, k_EqLc, k_EqTc, id_eq, k_IsN, k_InL, k_InT, k_Cat, k_IxL, k_IxT, k_LenL, k_LenT, k_ListL, k_ListT, k_TupleL, k_TupleT, k_I2, k_Abs, k_Neg, k_App, k_PopAt, lk_0, lk_s, pt_0, pt_s, peek, peekAll, frz, slOf, unbor, sh_int, sh_none, sh_bool, sh_nil, sh_nilT, sh_ints, eqv_int, eqv_ss, eqv_bool, eqv_nil, at0, at1, at2, at3, ixN1, List.length_cons, List.length_nil, List.set_cons_succ, List.set_cons_zero, true_and, and_true, List.map_cons, List.map_nil, List.nil_append, List.cons_append, flatD, List.length_map, flat_ints, in_ints, ap_rev, ap_chain, ap_lcS, k_IsB, k_IntI, k_IntB, k_CatT, k_Rep, k_InS, k_LenS,
  ap_revA, ap_slA, ap_joinC, k_SlL, k_SlT, k_SlS, k_CatS, k_RepS, k_AxL, k_AxT, k_AxS, k_StrI, ap_forA, ap_lcA, it_L, it_T, it_S, k_AdI, k_AdL, k_AdT, k_AdS, k_MuI, k_MuL, k_MuS, Nat.zero_le, kit_tuple, kit_list, kit_str, kit_int, kit_bool, kit_dict, isN_none, isN_bool, isN_int, isN_str, isN_list, isN_tuple, isN_dict, isTup_none, isTup_bool, isTup_int, isTup_str, isTup_list, isTup_tuple, isTup_dict, isLst_none, isLst_bool, isLst_int, isLst_str, isLst_list, isLst_tuple, isLst_dict, isStr_none, isStr_bool, isStr_int, isStr_str, isStr_list, isStr_tuple, isStr_dict, isInt_none, isInt_bool, isInt_int, isInt_str, isInt_list, isInt_tuple, isInt_dict, isBool_none, isBool_bool, isBool_int, isBool_str, isBool_list, isBool_tuple, isBool_dict, isDict_none, isDict_bool, isDict_int, isDict_str, isDict_list, isDict_tuple, isDict_dict, dec_tt, dec_ft, dec_tf, dec_ff, dec_T, dec_F, ap_mF, ap_callM, ap_callX, ap_callXn, ap_raise, ap_exprX, ap_retX, ap_setX, ap_try, ap_isx, ap_isNx, nx_ex, nx_new, nx_d, fx_ex, fx_d, fx_new, fx_bor, DL.pa_nil, DL.pa_cons, parS, bk_nil, bk_cons, bk1, slotOf, ap_meth, ap_meth0, ap_gtpAt, ap_gtpAl, tyM_L, tyM_S, k_InAL, k_InAT, k_SortD, k_Count, sh_str, sh_strs, sh_bools, eqv_strs, eqv_bools, eqv_ints, List.filterMap_cons, List.filterMap_nil, List.nodup_nil, Nat.reduceAdd, Nat.reduceLeDiff, k_EqStrs, k_EqBools, k_EqInts, xi_IsYes_NoKind, xi_NoDeal_NoKind, xi_NoHands_NoKind, xi_NoHistory_NoKind, xi_NoKind_NoKind, xi_NoLog_NoKind, xi_NoOrders_NoKind, xi_NoStore_NoKind, xi_NoText_NoKind, xi_NotSound_NoKind, xi_TooMany_NoKind, xi_ValueError_NoKind, xc_CourtError_NoKind]))
local macro_rules | `(tactic| walk_at "s") => `(tactic| (repeat with_reducible refine And.intro (by first | assumption | omega | exact True.intro | rfl | (simp; done) | (simp; omega) | decide) ?_))
/-! ### draws -/
abbrev Dr := Int × Int × Int
def drL (s : Dr) : List PyData := [.int s.1, .int s.2.1, .int s.2.2]
theorem next_wp {s : Dr} {n : Int} (h0 : 0 < n) (h1 : n < 1000000) {k : Vl → List Sl → Prop} (h : ∀ (r : Int) (s' : Dr), 0 ≤ r → r < n → k (.d (.int r)) [.lst false (drL s'), .un]) : runS s_qnext [.lst false (drL s), .d (.int n)] k := by
  obtain ⟨f, x, y⟩ := s
  refine ⟨rfl, ?_⟩
  show r_qnext _ [.lst false [.int f, .int x, .int y], .d (.int n), .un, .un]
  unfold r_qnext
  walk_at "x"
  refine onB_beq (fun hf => ?_) fun hf => ?_
  · walk_at "x"
    exact ⟨h0, ⟨h0, by omega⟩, h _ (_, _, _) (Int.emod_nonneg _ (by omega)) (Int.emod_lt_of_pos _ h0)⟩
  · walk_at "x"
    refine ⟨.inr (by decide), by decide, .inl ?_, by decide, .inl ?_, by decide, ⟨by decide, by decide⟩, h0, h _ (_, _, _) (Int.emod_nonneg _ (by omega)) (Int.emod_lt_of_pos _ h0)⟩
    · omega
    · omega
theorem state_wp {ns : List Int} {i : Int} (h0 : 0 ≤ i) (h1 : ns.length ≤ 1000) {k : Vl → List Sl → Prop} (h : ∀ (s : Dr) (ps : List Sl), k (.new (drL s)) ps) : runS s_qstate [.d (.list (ns.map .int)), .d (.int i)] k := by
  refine ⟨rfl, ?_⟩
  show r_qstate _ [.d (.list (ns.map .int)), .d (.int i), .un, .un]
  unfold r_qstate
  have hh : ∀ (a b c : Int) (ps : List Sl), k (.new [.int a, .int b, .int c]) ps := fun a b c ps => h (a, b, c) ps
  walk_at "x"
  refine ⟨.inl (by decide), onB_dec (fun hl => ?_) fun hl => ?_⟩
  · obtain ⟨x, hx, _⟩ := at_int (xs := ns) (i := i % (ns.length : Int)) (Int.emod_nonneg _ (by omega)) (Int.emod_lt_of_pos _ hl)
    walk_at "x"
    refine ⟨hl, onO_of hx ?_⟩
    walk_at "x"
    refine ⟨⟨hl, by omega⟩, .inl (by decide), ⟨by decide, by decide⟩, by decide, onB_beq (fun hb => ?_) fun hb => ?_⟩
    · walk_at "x"
      repeat' first | exact hh _ _ _ _ | refine And.intro ?_ ?_ | exact .inl (by decide) | exact .inr (by decide) | decide
    · walk_at "x"
      repeat' first | exact hh _ _ _ _ | refine And.intro ?_ ?_ | exact .inl (by decide) | exact .inr (by decide) | decide
  · walk_at "x"
    refine ⟨⟨by decide, by decide⟩, by decide, onB_beq (fun hb => ?_) fun hb => ?_⟩
    · walk_at "x"
      repeat' first | exact hh _ _ _ _ | refine And.intro ?_ ?_ | exact .inl (by decide) | exact .inr (by decide) | decide
    · walk_at "x"
      repeat' first | exact hh _ _ _ _ | refine And.intro ?_ ?_ | exact .inl (by decide) | exact .inr (by decide) | decide

/-! ### words, kinds -/
abbrev sP : Str := Str.ofString "past"
abbrev sO : Str := Str.ofString "over"
abbrev sH : Str := Str.ofString "hand"
abbrev sT : Str := Str.ofString "time"
abbrev sF : Str := Str.ofString "from"
theorem in_strs (w : Str) (ss : List Str) : inD (.str w) (ss.map .str) = ss.contains w := by
  unfold inD
  induction ss with
  | nil => rfl
  | cons a r ih => rw [List.map_cons, List.any_cons, ih, List.contains_cons, eqv_ss, Bool.beq_comm]
theorem sh_strsT (ss : List Str) : shp (.tuple (ss.map .str)) = true := by rw [shp_tl]; exact sh_strs ss
theorem are_all_wp {ws ss : List Str} (hw : ws.length ≤ 1000) {k : Vl → List Sl → Prop} (h : ∀ ps, k (.d (.bool (ws.all fun w => ss.contains w))) ps) : runS s_are_all [.d (.list (ws.map .str)), .d (.tuple (ss.map .str))] k := by
  refine ⟨rfl, ?_⟩
  show r_are_all _ [.d (.list (ws.map .str)), .d (.tuple (ss.map .str)), .un]
  unfold r_are_all
  walk_at "x"
  refine lc_map (f := fun x => .bool (inD x (ss.map .str))) (e := fun x => [.d (.list (ws.map .str)), .d (.tuple (ss.map .str)), .d x]) _ _ (fun x hx B hB => ?_) (fun _ _ => rfl) (by simp; omega) ?_
  · obtain ⟨w, _, rfl⟩ := List.mem_map.mp hx
    walk_at "x"
    exact ⟨sh_strsT ss, hB⟩
  · walk_at "x"
    refine ⟨ws.map fun w => ss.contains w, ?_, ?_⟩
    · simp only [List.map_map, List.nil_append]; exact congrArg (fun z => [PyData.list z]) (List.map_congr_left fun c _ => congrArg PyData.bool (in_strs c ss))
    · have e : (ws.map fun w => ss.contains w).all id = ws.all fun w => ss.contains w := by rw [List.all_map]; rfl
      rw [e]
      exact h _
/-- past at i, and ahead of it, round -/
def sideAt (ws : List Str) (i : Int) : Bool := (atI ws i == some sP) && (atI ws (i - 1) == some sP)
def apartB (ws : List Str) : Bool := !((List.range ws.length).any fun i => sideAt ws (i : Nat))
theorem at_str {ws : List Str} {i : Int} (h0 : -(ws.length : Int) ≤ i) (h1 : i < (ws.length : Int)) : ∃ w, atI (ws.map PyData.str) i = some (.str w) ∧ atI ws i = some w ∧ w ∈ ws := by
  obtain ⟨w, hm, e, e2⟩ := at_any (xs := ws) h0 h1
  refine ⟨w, ?_, e, hm⟩
  unfold atI at e ⊢
  rw [List.length_map]
  rw [ix_any h0 h1] at e ⊢
  have e : ws[if 0 ≤ i then i.toNat else (i + ws.length).toNat]? = some w := e
  show (ws.map PyData.str)[if 0 ≤ i then i.toNat else (i + ws.length).toNat]? = some (.str w)
  rw [List.getElem?_map, e]
  rfl
theorem are_apart_wp {ws : List Str} (hw : ws.length ≤ 1000) {k : Vl → List Sl → Prop} (h : ∀ ps, k (.d (.bool (apartB ws))) ps) : runS s_are_apart [.d (.list (ws.map .str))] k := by
  refine ⟨rfl, ?_⟩
  show r_are_apart _ [.d (.list (ws.map .str)), .un]
  unfold r_are_apart
  walk_at "x"
  refine ⟨by omega, by omega, ?_⟩
  refine lc_map (f := fun x => match x with | .int i => .bool (sideAt ws i) | _ => .none) (e := fun x => [.d (.list (ws.map .str)), .d x]) _ _ (fun x hx B hB => ?_) (fun _ _ => rfl) (by simp [rngD_len]; omega) ?_
  · obtain ⟨j, hj⟩ := List.mem_iff_getElem?.mp hx
    obtain ⟨hj, rfl⟩ := rngD_get hj
    obtain ⟨w, e1, e2, _⟩ := at_str (ws := ws) (i := 0 + (j : Int)) (by omega) (by omega)
    obtain ⟨u, e3, e4, _⟩ := at_str (ws := ws) (i := 0 + (j : Int) - 1) (by omega) (by omega)
    walk_at "x"
    refine onO_of e1 ?_
    walk_at "x"
    have hB : B (.d (.bool (sideAt ws (0 + (j : Int))))) [.d (.list (ws.map .str)), .d (.int (0 + (j : Int)))] := hB
    unfold sideAt at hB
    rw [e2, e4] at hB
    refine onB_beq (fun q => ?_) fun q => ?_
    · subst q
      walk_at "x"
      refine onO_of e3 ?_
      walk_at "x"
      rw [show ((some sP == some sP) && (some u == some sP)) = (u == sP) by rw [beq_self_eq_true, Bool.true_and]; rfl] at hB
      exact hB
    · have z : (some w == some sP) = false := by simpa using q
      rw [z] at hB
      exact hB
  · walk_at "x"
    refine ⟨(List.range ws.length).map fun i => sideAt ws (i : Nat), ?_, ?_⟩
    · simp only [rngD, List.map_map, List.nil_append, Int.toNat_natCast]
      refine congrArg (fun z => [PyData.list z]) (List.map_congr_left fun c _ => ?_)
      show PyData.bool (sideAt ws (0 + (c : Int))) = .bool (sideAt ws c)
      rw [Int.zero_add]
    · have e : ((List.range ws.length).map fun i => sideAt ws (i : Nat)).any id = (List.range ws.length).any fun i => sideAt ws (i : Nat) := by rw [List.any_map]; rfl
      rw [e]
      walk_at "x"
      exact h _
def kinds6 : List Str := [Str.ofString "clean", Str.ofString "whole", Str.ofString "causal", Str.ofString "snapshot", Str.ofString "serial", Str.ofString "timely"]
def isKind : PyData → Bool
  | .str s => kinds6.contains s
  | _ => false
theorem need_kind_wp {x : PyData} {k : Vl → List Sl → Prop} {e : Str → List Sl → Prop} (h1 : isKind x = true → ∀ s1, k (.d .none) [s1]) (h2 : isKind x = false → ∀ s1, e "NoKind" [s1]) : runX s_need_kind [.d x] k e := by
  refine ⟨rfl, ?_⟩
  show r_need_kind _ [.d x]
  unfold r_need_kind
  have hs : shp (.tuple (kinds6.map .str)) = true := sh_strsT kinds6
  cases x with
  | str s =>
    walk_at "x"
    refine ⟨hs, ?_⟩
    have e : inD (.str s) (kinds6.map .str) = kinds6.contains s := in_strs s kinds6
    have e : isKind (.str s) = inD (.str s) (kinds6.map .str) := e.symm
    refine onB_neg (onB_case (fun q => ?_) fun q => ?_)
    · walk_at "x"
      exact h1 (e.trans q) _
    · walk_at "x"
      exact h2 (e.trans q) _
  | _ => walk_at "x"; exact h2 rfl _
def countIn (ws : List Str) (w : Str) : Int := (ws.count w : Nat)
theorem cnt_strs (ws : List Str) (w : Str) : ((ws.map PyData.str).countP fun y => PyData.eqv y (.str w)) = ws.count w := by
  rw [List.countP_map]
  show List.countP _ ws = List.countP _ ws
  refine congrArg (fun p => List.countP p ws) (funext fun x => ?_)
  show PyData.eqv (.str x) (.str w) = (x == w)
  exact eqv_ss x w

end Cl

namespace Cl
open PySem PySem.Spec PyProof.Rows L2 DL
local macro_rules | `(tactic| walk_at "x") => `(tactic| (refine ev_of ?_; simp only [ap_seq, ap_next, ap_brk, ap_cnt, ap_expr, ap_ret, ap_retN, ap_if, ap_asg, ap_set, ap_seti, ap_par, ap_dput, ap_forL, ap_forT, ap_forR, ap_while, ap_nm, ap_gtp, ap_gnil, ap_gcons, ap_var, ap_c, ap_op, ap_un, ap_test, ap_and, ap_or, ap_not, ap_yes, ap_andV, ap_orV, ap_notV, ap_ifE, ap_anil, ap_acons, ap_fnil, ap_fcons, ap_tup, ap_lst, ap_dct, ap_cb, ap_isi, ap_sl, ap_nopart, ap_part, ap_lstrg, ap_mut, ap_call, ap_callS, ap_din, ap_lcL, ap_lcT, ap_lcR, ap_lcB, ap_forB, ap_lcnil, ap_lccons, wp_nil, wp_cons, rs_nil, rs_cons, kp_d, kp_un, eq_self,
  ev_ev, kd_i, kd_s, if_true, if_false, Bool.false_eq_true, Bool.not_true, Bool.not_false, List.isEmpty_nil, List.isEmpty_cons, ev_and, ev_t, ev_f, ev_s, k_I0, k_I, k_EqL0, k_EqT0, k_EqLT, k_EqTL, k_EqI, k_EqB, k_EqS, k_EqN, k_EqLc, k_EqTc, id_eq, k_IsN, k_InL, k_InT, k_Cat, k_IxL, k_IxT, k_LenL, k_LenT, k_ListL, k_ListT, k_TupleL, k_TupleT, k_I2, k_Abs, k_Neg, k_App, k_PopAt, lk_0, lk_s, pt_0, pt_s, peek, peekAll, frz, slOf, unbor, sh_int, sh_none, sh_bool, sh_nil, sh_nilT, sh_ints, eqv_int, eqv_ss, eqv_bool, eqv_nil, at0, at1, at2, at3, ixN1, List.length_cons, List.length_nil, List.set_cons_succ, List.set_cons_zero, true_and, and_true, List.map_cons, List.map_nil, List.nil_append, List.cons_append, flatD, List.length_map, flat_ints, in_ints, ap_rev, ap_chain, ap_lcS, k_IsB, k_IntI, k_IntB, k_CatT, k_Rep, k_InS, k_LenS,
  ap_revA, ap_slA, ap_joinC, k_SlL, k_SlT, k_SlS, k_CatS, k_RepS, k_AxL, k_AxT, k_AxS, k_StrI, ap_forA, ap_lcA, it_L, it_T, it_S, k_AdI, k_AdL, k_AdT, k_AdS, k_MuI, k_MuL, k_MuS, Nat.zero_le, kit_tuple, kit_list, kit_str, kit_int, kit_bool, kit_dict, isN_none, isN_bool, isN_int, isN_str, isN_list, isN_tuple, isN_dict, isTup_none, isTup_bool, isTup_int, isTup_str, isTup_list, isTup_tuple, isTup_dict, isLst_none, isLst_bool, isLst_int, isLst_str, isLst_list, isLst_tuple, isLst_dict, isStr_none, isStr_bool, isStr_int, isStr_str, isStr_list, isStr_tuple, isStr_dict, isInt_none, isInt_bool, isInt_int, isInt_str, isInt_list, isInt_tuple, isInt_dict, isBool_none, isBool_bool, isBool_int, isBool_str, isBool_list, isBool_tuple, isBool_dict, isDict_none, isDict_bool, isDict_int, isDict_str, isDict_list, isDict_tuple, isDict_dict, dec_tt, dec_ft, dec_tf, dec_ff, dec_T, dec_F, ap_mF, ap_callM, ap_callX, ap_callXn, ap_raise, ap_exprX, ap_retX, ap_setX, ap_try, ap_isx, ap_isNx, nx_ex, nx_new, nx_d, fx_ex, fx_d, fx_new, fx_bor, DL.pa_nil, DL.pa_cons, parS, bk_nil, bk_cons, bk1, slotOf, ap_meth, ap_meth0, ap_gtpAt, ap_gtpAl, tyM_L, tyM_S, k_InAL, k_InAT, k_SortD, k_Count, sh_str, sh_strs, sh_bools, eqv_strs, eqv_bools, eqv_ints, List.filterMap_cons, List.filterMap_nil, List.nodup_nil, Nat.reduceAdd, Nat.reduceLeDiff, k_EqStrs, k_EqBools, k_EqInts, xi_IsYes_NoKind, xi_NoDeal_NoKind, xi_NoHands_NoKind, xi_NoHistory_NoKind, xi_NoKind_NoKind, xi_NoLog_NoKind, xi_NoOrders_NoKind, xi_NoStore_NoKind, xi_NoText_NoKind, xi_NotSound_NoKind, xi_TooMany_NoKind, xi_ValueError_NoKind, xc_CourtError_NoKind]))
local macro_rules | `(tactic| walk_at "s") => `(tactic| (repeat with_reducible refine And.intro (by first | assumption | omega | exact True.intro | rfl | (simp; done) | (simp; omega) | decide) ?_))

theorem sortD_perm (xs : List PyData) : (sortD xs).Perm xs := List.mergeSort_perm _ _
def fpB (ws : List Str) : Bool := PyData.eqv (.list (sortD (ws.map .str))) (.list [.str sF, .str sP])
def bClean (ws : List Str) : Bool := ws.all fun w => [sO, sF].contains w
def bWhole (ws : List Str) : Bool := bClean ws || fpB ws
def others (ws : List Str) : List Str := ws.filter fun w => !(w == sP)
def bCausal (ws : List Str) : Bool := if others ws == ws then ws.all fun w => [sH, sF, sO].contains w else (((others ws).length : Int) == (ws.length : Int) - 1) && (!(others ws).isEmpty && (others ws).all fun w => [sH, sF].contains w)
def bSnap (ws : List Str) : Bool := (ws.all fun w => [sH, sF, sO, sP].contains w) && apartB ws
def bSerial (ws : List Str) : Bool := !ws.contains sT
theorem sort_strs (ws : List Str) : ∃ us : List Str, sortD (ws.map .str) = us.map .str ∧ us.Perm ws := by
  have p := sortD_perm (ws.map .str)
  have e : ∀ x ∈ sortD (ws.map .str), ∃ u : Str, x = .str u := fun x hx => by
    obtain ⟨u, _, e⟩ := List.mem_map.mp (p.mem_iff.mp hx)
    exact ⟨u, e.symm⟩
  have gen : ∀ xs : List PyData, (∀ x ∈ xs, ∃ u : Str, x = .str u) → ∃ us : List Str, xs = us.map .str := fun xs => by
    induction xs with
    | nil => exact fun _ => ⟨[], rfl⟩
    | cons a r ih =>
      intro h
      obtain ⟨u, rfl⟩ := h a List.mem_cons_self
      obtain ⟨us, rfl⟩ := ih fun x hx => h x (List.mem_cons_of_mem _ hx)
      exact ⟨u :: us, rfl⟩
  obtain ⟨us, e⟩ := gen _ e
  refine ⟨us, e, ?_⟩
  rw [e] at p
  have q := p.map (fun x => match x with | PyData.str s => s | _ => sP)
  rw [List.map_map, List.map_map] at q
  have i : ((fun x => match x with | PyData.str s => s | _ => sP) ∘ PyData.str) = id := rfl
  rw [i, List.map_id, List.map_id] at q
  exact q
theorem sh_sort (ws : List Str) : shp (.list (sortD (ws.map .str))) = true := by
  obtain ⟨us, e, _⟩ := sort_strs ws
  rw [e]
  exact sh_strs us
theorem bars_no {x : PyData} (hk : isKind x = false) {y : PyData} {k : Vl → List Sl → Prop} {e : Str → List Sl → Prop} (h : ∀ s1 s2, e "NoKind" [s1, s2]) : runX s_bars [.d x, .d y] k e := by
  refine ⟨rfl, ?_⟩
  show r_bars _ [.d x, .d y, .un, .un]
  unfold r_bars
  walk_at "x"
  refine need_kind_wp (fun q => ?_) fun _ s1 => ?_
  · rw [hk] at q
    cases q
  · walk_at "x"
    exact h _ _
theorem bars_clean {ws : List Str} (hw : ws.length ≤ 1000) {k : Vl → List Sl → Prop} {e : Str → List Sl → Prop} (h : ∀ s1 s2, k (.d (.bool (bClean ws))) [s1, s2]) : runX s_bars [.d (.str (Str.ofString "clean")), .d (.list (ws.map .str))] k e := by
  refine ⟨rfl, ?_⟩
  show r_bars _ [.d (.str (Str.ofString "clean")), .d (.list (ws.map .str)), .un, .un]
  unfold r_bars
  walk_at "x"
  refine need_kind_wp (fun _ s1 => ?_) fun q => ?_
  · walk_at "x"
    refine onB_ofT (by decide +kernel) ?_
    walk_at "x"
    refine are_all_wp (ss := [sO, sF]) hw fun _ => ?_
    exact h _ _
  · exact absurd q (by decide +kernel)
theorem bars_whole {ws : List Str} (hw : ws.length ≤ 1000) {k : Vl → List Sl → Prop} {e : Str → List Sl → Prop} (h : ∀ s1 s2, k (.d (.bool (bWhole ws))) [s1, s2]) : runX s_bars [.d (.str (Str.ofString "whole")), .d (.list (ws.map .str))] k e := by
  refine ⟨rfl, ?_⟩
  show r_bars _ [.d (.str (Str.ofString "whole")), .d (.list (ws.map .str)), .un, .un]
  unfold r_bars
  walk_at "x"
  refine need_kind_wp (fun _ s1 => ?_) fun q => ?_
  · walk_at "x"
    refine onB_ofF (by decide +kernel) ?_
    walk_at "x"
    refine onB_ofT (by decide +kernel) ?_
    walk_at "x"
    refine are_all_wp (ss := [sO, sF]) hw fun _ => ?_
    walk_at "x"
    have h : ∀ s1 s2, k (.d (.bool (bClean ws || fpB ws))) [s1, s2] := h
    refine onB_case (fun q => ?_) fun q => ?_
    · have q : bClean ws = true := q
      rw [q] at h
      exact h _ _
    · have q : bClean ws = false := q
      rw [q] at h
      walk_at "x"
      exact ⟨⟨PySem.W.AllAlike.of (enc := .str) (fun b b' => by simp [PySem.W.alike]), PySem.W.Sortable.others (enc := .str) (fun b => ⟨(fun z => nomatch z), fun _ z => nomatch z⟩), by omega⟩, sh_sort ws, sh_strs [sF, sP], h _ _⟩
  · exact absurd q (by decide +kernel)
theorem bars_causal {ws : List Str} (hw : ws.length ≤ 1000) {k : Vl → List Sl → Prop} {e : Str → List Sl → Prop} (h : ∀ s1 s2, k (.d (.bool (bCausal ws))) [s1, s2]) : runX s_bars [.d (.str (Str.ofString "causal")), .d (.list (ws.map .str))] k e := by
  refine ⟨rfl, ?_⟩
  show r_bars _ [.d (.str (Str.ofString "causal")), .d (.list (ws.map .str)), .un, .un]
  unfold r_bars
  walk_at "x"
  refine need_kind_wp (fun _ s1 => ?_) fun q => ?_
  · walk_at "x"
    refine onB_ofF (by decide +kernel) ?_
    walk_at "x"
    refine onB_ofF (by decide +kernel) ?_
    walk_at "x"
    refine onB_ofT (by decide +kernel) ?_
    walk_at "x"
    refine lc_mf (p := fun x => !PyData.eqv x (.str sP)) (f := fun x => x) (e := fun x => [.d (.str (Str.ofString "causal")), .d (.list (ws.map .str)), .un, .d x]) _ _ (fun x hx B C hB hC => ?_) (fun _ _ => rfl) (by simp; omega) ?_
    · obtain ⟨u, _, rfl⟩ := List.mem_map.mp hx
      walk_at "x"
      rw [eqv_ss] at hB hC
      refine onB_case (fun q => ?_) fun q => ?_
      · walk_at "x"
        exact hB q
      · exact hC q
    · have eo : ((ws.map PyData.str).filter fun x => !PyData.eqv x (.str sP)).map (fun x => x) = (others ws).map .str := by
        rw [List.map_id', List.filter_map]
        refine congrArg (List.map PyData.str) (congrArg (fun p => List.filter p ws) (funext fun x => ?_))
        show (!PyData.eqv (.str x) (.str sP)) = _
        rw [eqv_ss]
      rw [List.nil_append, eo]
      have ho : (others ws).length ≤ ws.length := List.length_filter_le _ _
      walk_at "x"
      unfold bCausal at h
      refine onB_case (fun q => ?_) fun q => ?_
      · rw [if_pos q] at h
        walk_at "x"
        refine are_all_wp (ss := [sH, sF, sO]) hw fun _ => ?_
        exact h _ _
      · rw [if_neg (by rw [q]; exact Bool.false_ne_true)] at h
        walk_at "x"
        refine onB_case (fun q1 => ?_) fun q1 => ?_
        · rw [q1, Bool.true_and] at h
          walk_at "x"
          rw [List.isEmpty_map]
          refine onB_case (fun q2 => ?_) fun q2 => ?_
          · rw [q2, Bool.true_and] at h
            walk_at "x"
            refine are_all_wp (ss := [sH, sF]) (by omega) fun _ => ?_
            exact h _ _
          · rw [q2] at h
            exact h _ _
        · rw [q1] at h
          exact h _ _
  · exact absurd q (by decide +kernel)
theorem bars_snap {ws : List Str} (hw : ws.length ≤ 1000) {k : Vl → List Sl → Prop} {e : Str → List Sl → Prop} (h : ∀ s1 s2, k (.d (.bool (bSnap ws))) [s1, s2]) : runX s_bars [.d (.str (Str.ofString "snapshot")), .d (.list (ws.map .str))] k e := by
  refine ⟨rfl, ?_⟩
  show r_bars _ [.d (.str (Str.ofString "snapshot")), .d (.list (ws.map .str)), .un, .un]
  unfold r_bars
  walk_at "x"
  refine need_kind_wp (fun _ s1 => ?_) fun q => ?_
  · walk_at "x"
    refine onB_ofF (by decide +kernel) ?_
    walk_at "x"
    refine onB_ofF (by decide +kernel) ?_
    walk_at "x"
    refine onB_ofF (by decide +kernel) ?_
    walk_at "x"
    refine onB_ofT (by decide +kernel) ?_
    walk_at "x"
    refine are_all_wp (ss := [sH, sF, sO, sP]) hw fun _ => ?_
    unfold bSnap at h
    walk_at "x"
    refine onB_case (fun q => ?_) fun q => ?_
    · rw [q, Bool.true_and] at h
      walk_at "x"
      refine are_apart_wp hw fun _ => ?_
      exact h _ _
    · rw [q] at h
      exact h _ _
  · exact absurd q (by decide +kernel)
theorem bars_serial {ws : List Str} (hw : ws.length ≤ 1000) {k : Vl → List Sl → Prop} {e : Str → List Sl → Prop} (h : ∀ s1 s2, k (.d (.bool (bSerial ws))) [s1, s2]) : runX s_bars [.d (.str (Str.ofString "serial")), .d (.list (ws.map .str))] k e := by
  refine ⟨rfl, ?_⟩
  show r_bars _ [.d (.str (Str.ofString "serial")), .d (.list (ws.map .str)), .un, .un]
  unfold r_bars
  walk_at "x"
  refine need_kind_wp (fun _ s1 => ?_) fun q => ?_
  · walk_at "x"
    refine onB_ofF (by decide +kernel) ?_
    walk_at "x"
    refine onB_ofF (by decide +kernel) ?_
    walk_at "x"
    refine onB_ofF (by decide +kernel) ?_
    walk_at "x"
    refine onB_ofF (by decide +kernel) ?_
    walk_at "x"
    refine onB_ofF (by decide +kernel) ?_
    walk_at "x"
    unfold bSerial at h
    rw [in_strs]
    exact h _ _
  · exact absurd q (by decide +kernel)
theorem bars_timely {ws : List Str} (hw : ws.length ≤ 1000) {k : Vl → List Sl → Prop} {e : Str → List Sl → Prop} (h : ∀ s1 s2, k (.d (.bool true)) [s1, s2]) : runX s_bars [.d (.str (Str.ofString "timely")), .d (.list (ws.map .str))] k e := by
  refine ⟨rfl, ?_⟩
  show r_bars _ [.d (.str (Str.ofString "timely")), .d (.list (ws.map .str)), .un, .un]
  unfold r_bars
  walk_at "x"
  refine need_kind_wp (fun _ s1 => ?_) fun q => ?_
  · walk_at "x"
    refine onB_ofF (by decide +kernel) ?_
    walk_at "x"
    refine onB_ofF (by decide +kernel) ?_
    walk_at "x"
    refine onB_ofF (by decide +kernel) ?_
    walk_at "x"
    refine onB_ofF (by decide +kernel) ?_
    walk_at "x"
    refine onB_ofT (by decide +kernel) ?_
    exact h _ _
  · exact absurd q (by decide +kernel)
def barsOf (kd : Str) (ws : List Str) : Bool := if kd = Str.ofString "clean" then bClean ws else if kd = Str.ofString "whole" then bWhole ws else if kd = Str.ofString "causal" then bCausal ws else if kd = Str.ofString "snapshot" then bSnap ws else if kd = Str.ofString "serial" then bSerial ws else true
theorem bars_wp {kd : Str} (hk : kd ∈ kinds6) {ws : List Str} (hw : ws.length ≤ 1000) {k : Vl → List Sl → Prop} {e : Str → List Sl → Prop} (h : ∀ s1 s2, k (.d (.bool (barsOf kd ws))) [s1, s2]) : runX s_bars [.d (.str kd), .d (.list (ws.map .str))] k e := by
  simp only [kinds6, List.mem_cons, List.not_mem_nil, or_false] at hk
  rcases hk with rfl | rfl | rfl | rfl | rfl | rfl
  · exact bars_clean hw (by rw [show barsOf (Str.ofString "clean") ws = bClean ws from rfl] at h; exact h)
  · exact bars_whole hw (by rw [show barsOf (Str.ofString "whole") ws = bWhole ws from rfl] at h; exact h)
  · exact bars_causal hw (by rw [show barsOf (Str.ofString "causal") ws = bCausal ws from rfl] at h; exact h)
  · exact bars_snap hw (by rw [show barsOf (Str.ofString "snapshot") ws = bSnap ws from rfl] at h; exact h)
  · exact bars_serial hw (by rw [show barsOf (Str.ofString "serial") ws = bSerial ws from rfl] at h; exact h)
  · exact bars_timely hw (by rw [show barsOf (Str.ofString "timely") ws = true from rfl] at h; exact h)

end Cl

namespace Cl
open PySem PySem.Spec PyProof.Rows L2 DL
def five : List Str := [sP, sO, sH, sT, sF]
def Row (ws : List Str) : Prop := ∀ w ∈ ws, w = sP ∨ w = sO ∨ w = sH ∨ w = sT ∨ w = sF
def sidesB (ws : List Str) : Bool := (List.range ws.length).any fun i => sideAt ws (i : Nat)
def dClean (ws : List Str) : Bool := ((ws.count sP : Int) + (ws.count sH : Int) + (ws.count sT : Int)) == 0
def dWhole (ws : List Str) : Bool := ((ws.count sH : Int) + (ws.count sT : Int) == 0) && (((ws.count sP : Int) == 0) || (((ws.count sP : Int) == 1) && (((ws.count sO : Int) == 0) && ((ws.length : Int) == 2))))
def dCausal (ws : List Str) : Bool := ((ws.count sT : Int) == 0) && (((ws.count sP : Int) == 0) || (((ws.count sP : Int) == 1) && (((ws.count sO : Int) == 0) && decide ((1 : Int) < ws.length))))
def dSnap (ws : List Str) : Bool := ((ws.count sT : Int) == 0) && !sidesB ws
def dSerial (ws : List Str) : Bool := (ws.count sT : Int) == 0
def dueOf (kd : Str) (ws : List Str) : Bool := if kd = Str.ofString "clean" then dClean ws else if kd = Str.ofString "whole" then dWhole ws else if kd = Str.ofString "causal" then dCausal ws else if kd = Str.ofString "snapshot" then dSnap ws else if kd = Str.ofString "serial" then dSerial ws else true
theorem bool_iff {a b : Bool} (h : a = true ↔ b = true) : a = b := by
  cases a <;> cases b <;> simp at h ⊢
theorem nePO : sP ≠ sO := by decide +kernel
theorem nePH : sP ≠ sH := by decide +kernel
theorem nePT : sP ≠ sT := by decide +kernel
theorem nePF : sP ≠ sF := by decide +kernel
theorem neOH : sO ≠ sH := by decide +kernel
theorem neOT : sO ≠ sT := by decide +kernel
theorem neOF : sO ≠ sF := by decide +kernel
theorem neHT : sH ≠ sT := by decide +kernel
theorem neHF : sH ≠ sF := by decide +kernel
theorem neTF : sT ≠ sF := by decide +kernel
theorem all_in {ws ss : List Str} : (ws.all fun w => ss.contains w) = true ↔ ∀ w ∈ ws, w ∈ ss := by
  rw [List.all_eq_true]
  exact forall_congr' fun w => by simp
theorem cnt0 {ws : List Str} {w : Str} : ws.count w = 0 ↔ w ∉ ws := List.count_eq_zero
theorem row_sum : ∀ {ws : List Str}, Row ws → ws.length = ws.count sP + ws.count sO + ws.count sH + ws.count sT + ws.count sF
  | [], _ => rfl
  | w :: ws, h => by
    have ih := row_sum (ws := ws) fun x hx => h x (List.mem_cons_of_mem _ hx)
    rw [List.length_cons, List.count_cons, List.count_cons, List.count_cons, List.count_cons, List.count_cons, ih]
    rcases h w List.mem_cons_self with rfl | rfl | rfl | rfl | rfl
    · have a : (sP == sO) = false := by decide +kernel
      have b : (sP == sH) = false := by decide +kernel
      have c : (sP == sT) = false := by decide +kernel
      have d : (sP == sF) = false := by decide +kernel
      simp only [a, b, c, d, beq_self_eq_true, if_true, Bool.false_eq_true, if_false]
      omega
    · have a : (sO == sP) = false := by decide +kernel
      have b : (sO == sH) = false := by decide +kernel
      have c : (sO == sT) = false := by decide +kernel
      have d : (sO == sF) = false := by decide +kernel
      simp only [a, b, c, d, beq_self_eq_true, if_true, Bool.false_eq_true, if_false]
      omega
    · have a : (sH == sP) = false := by decide +kernel
      have b : (sH == sO) = false := by decide +kernel
      have c : (sH == sT) = false := by decide +kernel
      have d : (sH == sF) = false := by decide +kernel
      simp only [a, b, c, d, beq_self_eq_true, if_true, Bool.false_eq_true, if_false]
      omega
    · have a : (sT == sP) = false := by decide +kernel
      have b : (sT == sH) = false := by decide +kernel
      have c : (sT == sO) = false := by decide +kernel
      have d : (sT == sF) = false := by decide +kernel
      simp only [a, b, c, d, beq_self_eq_true, if_true, Bool.false_eq_true, if_false]
      omega
    · have a : (sF == sP) = false := by decide +kernel
      have b : (sF == sH) = false := by decide +kernel
      have c : (sF == sT) = false := by decide +kernel
      have d : (sF == sO) = false := by decide +kernel
      simp only [a, b, c, d, beq_self_eq_true, if_true, Bool.false_eq_true, if_false]
      omega
/-- all of some words: the other ones are counted nought -/
theorem all_cnt {ws ss : List Str} (h : Row ws) : (∀ w ∈ ws, w ∈ ss) ↔ ((sP ∈ ss ∨ ws.count sP = 0) ∧ (sO ∈ ss ∨ ws.count sO = 0) ∧ (sH ∈ ss ∨ ws.count sH = 0) ∧ (sT ∈ ss ∨ ws.count sT = 0) ∧ (sF ∈ ss ∨ ws.count sF = 0)) := by
  have one : ∀ w : Str, (∀ w ∈ ws, w ∈ ss) → (w ∈ ss ∨ ws.count w = 0) := fun w q => by
    by_cases z : w ∈ ws
    · exact .inl (q w z)
    · exact .inr (cnt0.mpr z)
  refine ⟨fun q => ⟨one _ q, one _ q, one _ q, one _ q, one _ q⟩, fun ⟨q1, q2, q3, q4, q5⟩ w hw => ?_⟩
  have two : ∀ {v : Str}, (v ∈ ss ∨ ws.count v = 0) → w = v → w ∈ ss := fun {v} q e => by
    subst e
    rcases q with q | q
    · exact q
    · exact absurd hw (cnt0.mp q)
  rcases h w hw with e | e | e | e | e
  · exact two q1 e
  · exact two q2 e
  · exact two q3 e
  · exact two q4 e
  · exact two q5 e
theorem clean_eq {ws : List Str} (h : Row ws) : bClean ws = dClean ws := by
  refine bool_iff ?_
  unfold bClean dClean
  rw [all_in, all_cnt h, beq_iff_eq]
  have e1 : ¬ sP ∈ [sO, sF] := by decide +kernel
  have e2 : sO ∈ [sO, sF] := by decide +kernel
  have e3 : ¬ sH ∈ [sO, sF] := by decide +kernel
  have e4 : ¬ sT ∈ [sO, sF] := by decide +kernel
  have e5 : sF ∈ [sO, sF] := by decide +kernel
  simp only [e1, e2, e3, e4, e5, false_or, true_or, true_and, and_true]
  omega
theorem le_pf : PySem.W.dataLe false id (.str sP) (.str sF) = false := by decide +kernel
theorem le_fp : PySem.W.dataLe false id (.str sF) (.str sP) = true := by decide +kernel
theorem sort_pf : sortD [.str sP, .str sF] = [.str sF, .str sP] := by
  unfold sortD
  rw [List.mergeSort.eq_def]
  simp [List.merge, List.MergeSort.Internal.splitInTwo, le_pf]
theorem sort_fp : sortD [.str sF, .str sP] = [.str sF, .str sP] := List.mergeSort_of_pairwise (by simp [le_fp])
theorem fp_iff {ws : List Str} : fpB ws = true ↔ (ws.length = 2 ∧ ws.count sP = 1 ∧ ws.count sF = 1) := by
  unfold fpB
  constructor
  · intro h
    obtain ⟨us, e, p⟩ := sort_strs ws
    have e2 : PyData.eqv (.list (sortD (ws.map .str))) (.list [.str sF, .str sP]) = (us == [sF, sP]) := by
      rw [e]
      exact eqv_strs us [sF, sP]
    rw [e2, beq_iff_eq] at h
    subst h
    rw [← p.length_eq, ← p.count_eq, ← p.count_eq]
    decide +kernel
  · rintro ⟨h1, h2, h3⟩
    match ws, h1 with
    | [a, b], _ =>
      have ha : a = sP ∨ a = sF := by
        by_cases q1 : a = sP
        · exact .inl q1
        · by_cases q2 : a = sF
          · exact .inr q2
          · exfalso
            rw [List.count_cons_of_ne q1] at h2
            rw [List.count_cons_of_ne q2] at h3
            have hb : sP ∈ [b] := List.count_pos_iff.mp (by omega)
            have hc : sF ∈ [b] := List.count_pos_iff.mp (by omega)
            rw [List.mem_singleton] at hb hc
            exact nePF (hb.trans hc.symm)
      rcases ha with rfl | rfl
      · rw [List.count_cons_of_ne nePF] at h3
        have hc : sF ∈ [b] := List.count_pos_iff.mp (by omega)
        rw [List.mem_singleton] at hc
        subst hc
        show PyData.eqv (.list (sortD [.str sP, .str sF])) _ = true
        rw [sort_pf]
        exact (eqv_strs [sF, sP] [sF, sP]).trans (beq_self_eq_true _)
      · rw [List.count_cons_of_ne (Ne.symm nePF)] at h2
        have hc : sP ∈ [b] := List.count_pos_iff.mp (by omega)
        rw [List.mem_singleton] at hc
        subst hc
        show PyData.eqv (.list (sortD [.str sF, .str sP])) _ = true
        rw [sort_fp]
        exact (eqv_strs [sF, sP] [sF, sP]).trans (beq_self_eq_true _)
theorem whole_eq {ws : List Str} (h : Row ws) : bWhole ws = dWhole ws := by
  refine bool_iff ?_
  unfold bWhole dWhole
  have hs := row_sum h
  rw [Bool.or_eq_true, fp_iff, clean_eq h]
  unfold dClean
  simp only [Bool.and_eq_true, Bool.or_eq_true, beq_iff_eq]
  omega
theorem others_len (ws : List Str) : (others ws).length + ws.count sP = ws.length := by
  unfold others
  rw [← List.countP_eq_length_filter]
  show List.countP _ ws + List.countP _ ws = _
  rw [List.length_eq_countP_add_countP (p := fun w => w == sP), Nat.add_comm]
  congr 1
  exact congrArg (fun p => List.countP p ws) (funext fun x => by simp; exact bool_iff (by simp))
theorem others_cnt {ws : List Str} {w : Str} (hw : sP ≠ w) : (others ws).count w = ws.count w := by
  unfold others
  rw [List.count_filter]
  simpa using fun e => hw e.symm
theorem others_row {ws : List Str} (h : Row ws) : Row (others ws) := fun w hw => h w (List.mem_filter.mp hw).1
theorem causal_eq {ws : List Str} (h : Row ws) : bCausal ws = dCausal ws := by
  refine bool_iff ?_
  unfold bCausal dCausal
  have hs := row_sum h
  have ho := others_len ws
  have oP : (others ws).count sP = 0 := cnt0.mpr fun q => by simpa using (List.mem_filter.mp q).2
  have oO := others_cnt (ws := ws) nePO
  have oH := others_cnt (ws := ws) nePH
  have oT := others_cnt (ws := ws) nePT
  have oF := others_cnt (ws := ws) nePF
  have hA := all_cnt (ss := [sH, sF, sO]) h
  have hB := all_cnt (ss := [sH, sF]) (others_row h)
  have e1 : ¬ sP ∈ [sH, sF, sO] := by decide +kernel
  have e2 : sO ∈ [sH, sF, sO] := by decide +kernel
  have e3 : sH ∈ [sH, sF, sO] := by decide +kernel
  have e4 : ¬ sT ∈ [sH, sF, sO] := by decide +kernel
  have e5 : sF ∈ [sH, sF, sO] := by decide +kernel
  have f1 : ¬ sP ∈ [sH, sF] := by decide +kernel
  have f2 : ¬ sO ∈ [sH, sF] := by decide +kernel
  have f3 : sH ∈ [sH, sF] := by decide +kernel
  have f4 : ¬ sT ∈ [sH, sF] := by decide +kernel
  have f5 : sF ∈ [sH, sF] := by decide +kernel
  simp only [e1, e2, e3, e4, e5, false_or, true_or, true_and, and_true] at hA
  simp only [f1, f2, f3, f4, f5, false_or, true_or, true_and, and_true, oP, oO, oH, oT, oF] at hB
  by_cases q : (others ws == ws) = true
  · rw [if_pos q, all_in, hA]
    have z : ws.count sP = 0 := by
      rw [← eq_of_beq q]
      exact oP
    simp only [Bool.and_eq_true, Bool.or_eq_true, beq_iff_eq, decide_eq_true_eq]
    omega
  · rw [if_neg q]
    have z : ws.count sP ≠ 0 := fun z => q (by
      rw [beq_iff_eq]
      refine List.filter_eq_self.mpr fun w hw => ?_
      have : w ≠ sP := fun e => cnt0.mp z (e ▸ hw)
      simpa using this)
    have em : ((others ws).isEmpty = true) ↔ (others ws).length = 0 := by rw [List.isEmpty_iff_length_eq_zero]
    have em2 : ((!(others ws).isEmpty) = true) ↔ ¬ (others ws).length = 0 := by
      rw [← em]
      cases (others ws).isEmpty <;> simp
    simp only [Bool.and_eq_true, Bool.or_eq_true, beq_iff_eq, decide_eq_true_eq, all_in, hB, em2]
    omega
theorem snap_eq {ws : List Str} (h : Row ws) : bSnap ws = dSnap ws := by
  unfold bSnap dSnap apartB sidesB
  congr 1
  refine bool_iff ?_
  rw [all_in, all_cnt h, beq_iff_eq]
  have e1 : sP ∈ [sH, sF, sO, sP] := by decide +kernel
  have e2 : sO ∈ [sH, sF, sO, sP] := by decide +kernel
  have e3 : sH ∈ [sH, sF, sO, sP] := by decide +kernel
  have e4 : ¬ sT ∈ [sH, sF, sO, sP] := by decide +kernel
  have e5 : sF ∈ [sH, sF, sO, sP] := by decide +kernel
  simp only [e1, e2, e3, e4, e5, false_or, true_or, true_and, and_true]
  omega
theorem serial_eq (ws : List Str) : bSerial ws = dSerial ws := by
  refine bool_iff ?_
  unfold bSerial dSerial
  have : (!ws.contains sT) = true ↔ ¬ sT ∈ ws := by simp
  rw [this, ← cnt0, beq_iff_eq]
  omega
theorem bars_due {ws : List Str} (h : Row ws) (kd : Str) : barsOf kd ws = dueOf kd ws := by
  unfold barsOf dueOf
  rw [clean_eq h, whole_eq h, causal_eq h, snap_eq h, serial_eq]
/-! ### round a row -/
def cyc (ws : List Str) (i : Int) : Option Str := ws[(i % (ws.length : Int)).toNat]?
theorem at_cyc {ws : List Str} {i : Int} (h0 : -(ws.length : Int) ≤ i) (h1 : i < (ws.length : Int)) : atI ws i = cyc ws i := by
  unfold atI cyc
  rw [ix_any h0 h1]
  show ws[if 0 ≤ i then i.toNat else (i + ws.length).toNat]? = _
  by_cases h : 0 ≤ i
  · rw [if_pos h, Int.emod_eq_of_lt h h1]
  · rw [if_neg h]
    have e : i % (ws.length : Int) = i + ws.length := by
      rw [← Int.add_emod_right, Int.emod_eq_of_lt (by omega) (by omega)]
    rw [e]
theorem cyc_mod (ws : List Str) (i : Int) : cyc ws (i % (ws.length : Int)) = cyc ws i := by
  unfold cyc
  rw [Int.emod_emod_of_dvd _ (Int.dvd_refl _)]
def sideC (ws : List Str) (i : Int) : Prop := cyc ws i = some sP ∧ cyc ws (i - 1) = some sP
theorem sideC_mod (ws : List Str) (i : Int) : sideC ws (i % (ws.length : Int)) ↔ sideC ws i := by
  unfold sideC
  rw [cyc_mod]
  have : cyc ws (i % (ws.length : Int) - 1) = cyc ws (i - 1) := by
    rw [← cyc_mod ws (i % (ws.length : Int) - 1), ← cyc_mod ws (i - 1), Int.emod_sub_emod]
  rw [this]
theorem sides_iff {ws : List Str} : sidesB ws = true ↔ ∃ i : Int, ws ≠ [] ∧ sideC ws i := by
  unfold sidesB
  rw [List.any_eq_true]
  constructor
  · rintro ⟨j, hj, h⟩
    rw [List.mem_range] at hj
    unfold sideAt at h
    rw [at_cyc (by omega) (by omega), at_cyc (by omega) (by omega), Bool.and_eq_true, beq_iff_eq, beq_iff_eq] at h
    refine ⟨j, ?_, h⟩
    rintro rfl
    simp at hj
  · rintro ⟨i, hne, h⟩
    have hn : 0 < ws.length := List.length_pos_iff.mpr hne
    have m0 := Int.emod_nonneg i (b := (ws.length : Int)) (by omega)
    have m1 := Int.emod_lt_of_pos i (b := (ws.length : Int)) (by omega)
    refine ⟨(i % (ws.length : Int)).toNat, List.mem_range.mpr (by omega), ?_⟩
    have e : (((i % (ws.length : Int)).toNat : Nat) : Int) = i % (ws.length : Int) := Int.toNat_of_nonneg m0
    unfold sideAt
    rw [e, at_cyc (by omega) (by omega), at_cyc (by omega) (by omega), Bool.and_eq_true, beq_iff_eq, beq_iff_eq]
    exact (sideC_mod ws i).mpr h
def rot (ws : List Str) (k : Nat) : List Str := ws.drop k ++ ws.take k
theorem rot_len (ws : List Str) {k : Nat} (hk : k ≤ ws.length) : (rot ws k).length = ws.length := by
  unfold rot
  rw [List.length_append, List.length_drop, List.length_take]
  omega
theorem rot_perm (ws : List Str) (k : Nat) : (rot ws k).Perm ws := by
  unfold rot
  have := (List.perm_append_comm (l₁ := ws.drop k) (l₂ := ws.take k))
  rwa [List.take_append_drop] at this
theorem rot_cyc {ws : List Str} {k : Nat} (hk : k < ws.length) (i : Int) : cyc (rot ws k) i = cyc ws (i + k) := by
  unfold cyc
  rw [rot_len ws (Nat.le_of_lt hk)]
  have m0 := Int.emod_nonneg i (b := (ws.length : Int)) (by omega)
  have m1 := Int.emod_lt_of_pos i (b := (ws.length : Int)) (by omega)
  have e : (i + k) % (ws.length : Int) = (i % (ws.length : Int) + k) % (ws.length : Int) := by rw [Int.emod_add_emod]
  rw [e]
  obtain ⟨m, hm⟩ : ∃ m : Nat, i % (ws.length : Int) = (m : Int) := ⟨(i % (ws.length : Int)).toNat, by omega⟩
  rw [hm]
  unfold rot
  rw [List.getElem?_append, List.length_drop]
  by_cases h : m < ws.length - k
  · rw [if_pos (by simpa using h), List.getElem?_drop, Int.emod_eq_of_lt (by omega) (by omega)]
    congr 1
    simp
    omega
  · rw [if_neg (by simpa using h)]
    have e2 : ((m : Int) + k) % (ws.length : Int) = (m : Int) + k - ws.length := by
      rw [← Int.sub_emod_right, Int.emod_eq_of_lt (by omega) (by omega)]
    rw [e2, List.getElem?_take]
    rw [if_pos (by simp; omega)]
    congr 1
    simp
    omega
theorem rot_sides {ws : List Str} {k : Nat} (hk : k < ws.length) : sidesB (rot ws k) = sidesB ws := by
  refine bool_iff ?_
  rw [sides_iff, sides_iff]
  have hne : ws ≠ [] := by rintro rfl; simp at hk
  have hne2 : rot ws k ≠ [] := by
    intro e
    have := rot_len ws (Nat.le_of_lt hk)
    rw [e] at this
    simp at this
    omega
  have key : ∀ i, sideC (rot ws k) i ↔ sideC ws (i + k) := fun i => by
    unfold sideC
    rw [rot_cyc hk, rot_cyc hk, show i - 1 + (k : Int) = i + k - 1 by omega]
  constructor
  · rintro ⟨i, _, h⟩
    exact ⟨i + k, hne, (key i).mp h⟩
  · rintro ⟨i, _, h⟩
    exact ⟨i - k, hne2, (key _).mpr (by rw [show i - (k : Int) + k = i by omega]; exact h)⟩
theorem rot_due {ws : List Str} {k : Nat} (hk : k < ws.length) (kd : Str) : dueOf kd (rot ws k) = dueOf kd ws := by
  have c : ∀ w, (rot ws k).count w = ws.count w := fun w => (rot_perm ws k).count_eq w
  unfold dueOf dClean dWhole dCausal dSnap dSerial
  rw [rot_sides hk, c, c, c, c, rot_len ws (Nat.le_of_lt hk)]
/-! ### each kind bars all that the one ahead of it bars -/
theorem one_place : ∀ {ws : List Str} {i j : Nat}, ws.count sP ≤ 1 → ws[i]? = some sP → ws[j]? = some sP → i = j
  | [], _, _, _, h, _ => by simp at h
  | w :: ws, 0, 0, _, _, _ => rfl
  | w :: ws, i + 1, j + 1, hc, h1, h2 => by
    have := one_place (ws := ws) (i := i) (j := j) (by rw [List.count_cons] at hc; omega) (by simpa using h1) (by simpa using h2)
    rw [this]
  | w :: ws, 0, j + 1, hc, h1, h2 => by
    exfalso
    have e : w = sP := by simpa using h1
    subst e
    rw [List.count_cons_self] at hc
    have h2 : ws[j]? = some sP := by simpa using h2
    have : 0 < ws.count sP := List.count_pos_iff.mpr (List.mem_of_getElem? h2)
    omega
  | w :: ws, i + 1, 0, hc, h1, h2 => by
    exfalso
    have e : w = sP := by simpa using h2
    subst e
    rw [List.count_cons_self] at hc
    have h1 : ws[i]? = some sP := by simpa using h1
    have : 0 < ws.count sP := List.count_pos_iff.mpr (List.mem_of_getElem? h1)
    omega
theorem sides_none {ws : List Str} (h : ws.count sP = 0 ∨ (ws.count sP = 1 ∧ 1 < ws.length)) : sidesB ws = false := by
  cases q : sidesB ws with
  | false => rfl
  | true =>
    exfalso
    obtain ⟨i, hne, h1, h2⟩ := sides_iff.mp q
    unfold cyc at h1 h2
    rcases h with h | ⟨h, hl⟩
    · exact cnt0.mp h (List.mem_of_getElem? h1)
    · have e := one_place (Nat.le_of_eq h) h1 h2
      have m0 := Int.emod_nonneg i (b := (ws.length : Int)) (by omega)
      have m1 := Int.emod_lt_of_pos i (b := (ws.length : Int)) (by omega)
      have n0 := Int.emod_nonneg (i - 1) (b := (ws.length : Int)) (by omega)
      have e3 : i % (ws.length : Int) = (i - 1) % (ws.length : Int) := by omega
      have e4 : (i - (i - 1)) % (ws.length : Int) = 0 := Int.emod_eq_emod_iff_emod_sub_eq_zero.mp e3
      rw [show i - (i - 1) = 1 by omega, Int.emod_eq_of_lt (by omega) (by omega)] at e4
      omega
theorem mono5 (ws : List Str) : (dClean ws = true → dWhole ws = true) ∧ (dWhole ws = true → dCausal ws = true) ∧ (dCausal ws = true → dSnap ws = true) ∧ (dSnap ws = true → dSerial ws = true) := by
  refine ⟨fun h => ?_, fun h => ?_, fun h => ?_, fun h => ?_⟩
  · unfold dClean at h
    unfold dWhole
    simp only [Bool.and_eq_true, Bool.or_eq_true, beq_iff_eq] at h ⊢
    omega
  · unfold dWhole at h
    unfold dCausal
    simp only [Bool.and_eq_true, Bool.or_eq_true, beq_iff_eq, decide_eq_true_eq] at h ⊢
    omega
  · unfold dCausal at h
    unfold dSnap
    simp only [Bool.and_eq_true, Bool.or_eq_true, beq_iff_eq, decide_eq_true_eq] at h
    rw [sides_none (by omega), Bool.not_false, Bool.and_true, beq_iff_eq]
    exact h.1
  · unfold dSnap at h
    exact (Bool.and_eq_true _ _ ▸ h : _ ∧ _).1
def dues (ws : List Str) : List Bool := kinds6.map fun kd => dueOf kd ws
theorem dues_eq (ws : List Str) : dues ws = [dClean ws, dWhole ws, dCausal ws, dSnap ws, dSerial ws, true] := rfl
theorem le_b : ∀ a b : Bool, (a = true → b = true) → PySem.W.dataLe false id (.bool a) (.bool b) = true := by
  have h1 : PySem.W.dataLe false id (.bool true) (.bool true) = true := by decide +kernel
  have h2 : PySem.W.dataLe false id (.bool false) (.bool true) = true := by decide +kernel
  have h3 : PySem.W.dataLe false id (.bool false) (.bool false) = true := by decide +kernel
  intro a b h
  cases a <;> cases b
  · exact h3
  · exact h2
  · exact absurd (h rfl) (by decide)
  · exact h1
theorem sort_dues (ws : List Str) : sortD ((dues ws).map .bool) = (dues ws).map .bool := by
  refine List.mergeSort_of_pairwise ?_
  obtain ⟨h1, h2, h3, h4⟩ := mono5 ws
  rw [dues_eq]
  simp only [List.map_cons, List.map_nil, List.pairwise_cons, List.mem_cons, List.not_mem_nil, or_false, forall_eq_or_imp, forall_eq, List.Pairwise.nil, and_true, false_imp_iff, implies_true]
  refine ⟨⟨le_b _ _ h1, le_b _ _ fun z => h2 (h1 z), le_b _ _ fun z => h3 (h2 (h1 z)), le_b _ _ fun z => h4 (h3 (h2 (h1 z))), le_b _ _ fun _ => rfl⟩, ⟨le_b _ _ h2, le_b _ _ fun z => h3 (h2 z), le_b _ _ fun z => h4 (h3 (h2 z)), le_b _ _ fun _ => rfl⟩, ⟨le_b _ _ h3, le_b _ _ fun z => h4 (h3 z), le_b _ _ fun _ => rfl⟩, ⟨le_b _ _ h4, le_b _ _ fun _ => rfl⟩, le_b _ _ fun _ => rfl⟩

end Cl

namespace Cl
open PySem PySem.Spec PyProof.Rows L2 DL
local macro_rules | `(tactic| walk_at "x") => `(tactic| (refine ev_of ?_; simp only [ap_seq, ap_next, ap_brk, ap_cnt, ap_expr, ap_ret, ap_retN, ap_if, ap_asg, ap_set, ap_seti, ap_par, ap_dput, ap_forL, ap_forT, ap_forR, ap_while, ap_nm, ap_gtp, ap_gnil, ap_gcons, ap_var, ap_c, ap_op, ap_un, ap_test, ap_and, ap_or, ap_not, ap_yes, ap_andV, ap_orV, ap_notV, ap_ifE, ap_anil, ap_acons, ap_fnil, ap_fcons, ap_tup, ap_lst, ap_dct, ap_cb, ap_isi, ap_sl, ap_nopart, ap_part, ap_lstrg, ap_mut, ap_call, ap_callS, ap_din, ap_lcL, ap_lcT, ap_lcR, ap_lcB, ap_forB, ap_lcnil, ap_lccons, wp_nil, wp_cons, rs_nil, rs_cons, kp_d, kp_un, eq_self,
  ev_ev, kd_i, kd_s, if_true, if_false, Bool.false_eq_true, Bool.not_true, Bool.not_false, List.isEmpty_nil, List.isEmpty_cons, ev_and, ev_t, ev_f, ev_s, k_I0, k_I, k_EqL0, k_EqT0, k_EqLT, k_EqTL, k_EqI, k_EqB, k_EqS, k_EqN, k_EqLc, k_EqTc, id_eq, k_IsN, k_InL, k_InT, k_Cat, k_IxL, k_IxT, k_LenL, k_LenT, k_ListL, k_ListT, k_TupleL, k_TupleT, k_I2, k_Abs, k_Neg, k_App, k_PopAt, lk_0, lk_s, pt_0, pt_s, peek, peekAll, frz, slOf, unbor, sh_int, sh_none, sh_bool, sh_nil, sh_nilT, sh_ints, eqv_int, eqv_ss, eqv_bool, eqv_nil, at0, at1, at2, at3, ixN1, List.length_cons, List.length_nil, List.set_cons_succ, List.set_cons_zero, true_and, and_true, List.map_cons, List.map_nil, List.nil_append, List.cons_append, flatD, List.length_map, flat_ints, in_ints, ap_rev, ap_chain, ap_lcS, k_IsB, k_IntI, k_IntB, k_CatT, k_Rep, k_InS, k_LenS,
  ap_revA, ap_slA, ap_joinC, k_SlL, k_SlT, k_SlS, k_CatS, k_RepS, k_AxL, k_AxT, k_AxS, k_StrI, ap_forA, ap_lcA, it_L, it_T, it_S, k_AdI, k_AdL, k_AdT, k_AdS, k_MuI, k_MuL, k_MuS, Nat.zero_le, kit_tuple, kit_list, kit_str, kit_int, kit_bool, kit_dict, isN_none, isN_bool, isN_int, isN_str, isN_list, isN_tuple, isN_dict, isTup_none, isTup_bool, isTup_int, isTup_str, isTup_list, isTup_tuple, isTup_dict, isLst_none, isLst_bool, isLst_int, isLst_str, isLst_list, isLst_tuple, isLst_dict, isStr_none, isStr_bool, isStr_int, isStr_str, isStr_list, isStr_tuple, isStr_dict, isInt_none, isInt_bool, isInt_int, isInt_str, isInt_list, isInt_tuple, isInt_dict, isBool_none, isBool_bool, isBool_int, isBool_str, isBool_list, isBool_tuple, isBool_dict, isDict_none, isDict_bool, isDict_int, isDict_str, isDict_list, isDict_tuple, isDict_dict, dec_tt, dec_ft, dec_tf, dec_ff, dec_T, dec_F, ap_mF, ap_callM, ap_callX, ap_callXn, ap_raise, ap_exprX, ap_retX, ap_setX, ap_try, ap_isx, ap_isNx, nx_ex, nx_new, nx_d, fx_ex, fx_d, fx_new, fx_bor, DL.pa_nil, DL.pa_cons, parS, bk_nil, bk_cons, bk1, slotOf, ap_meth, ap_meth0, ap_gtpAt, ap_gtpAl, tyM_L, tyM_S, k_InAL, k_InAT, k_SortD, k_Count, sh_str, sh_strs, sh_bools, eqv_strs, eqv_bools, eqv_ints, List.filterMap_cons, List.filterMap_nil, List.nodup_nil, Nat.reduceAdd, Nat.reduceLeDiff, k_EqStrs, k_EqBools, k_EqInts, xi_IsYes_NoKind, xi_NoDeal_NoKind, xi_NoHands_NoKind, xi_NoHistory_NoKind, xi_NoKind_NoKind, xi_NoLog_NoKind, xi_NoOrders_NoKind, xi_NoStore_NoKind, xi_NoText_NoKind, xi_NotSound_NoKind, xi_TooMany_NoKind, xi_ValueError_NoKind, xc_CourtError_NoKind]))
local macro_rules | `(tactic| walk_at "s") => `(tactic| (repeat with_reducible refine And.intro (by first | assumption | omega | exact True.intro | rfl | (simp; done) | (simp; omega) | decide) ?_))

theorem sides_fil (ws : List Str) : ((List.range ws.length).filter fun i => sideAt ws (i : Nat)).isEmpty = !sidesB ws := by
  unfold sidesB
  refine bool_iff ?_
  rw [List.isEmpty_iff, List.filter_eq_nil_iff]
  simp
theorem qbarred_wp {kd : Str} (hk : kd ∈ kinds6) {ws : List Str} (hw : ws.length ≤ 1000) {k : Vl → List Sl → Prop} (h : ∀ ps, k (.d (.bool (dueOf kd ws))) ps) : runS s_qbarred_by [.d (.str kd), .d (.list (ws.map .str))] k := by
  refine ⟨rfl, ?_⟩
  show r_qbarred_by _ [.d (.str kd), .d (.list (ws.map .str)), .un, .un, .un, .un, .un, .un, .un]
  unfold r_qbarred_by
  walk_at "x"
  simp only [cnt_strs]
  refine ⟨by decide, by decide, by decide, by decide, by omega, by omega, ?_⟩
  refine lc_mf (p := fun x => match x with | .int i => sideAt ws i | _ => false) (f := fun x => x) (e := fun x => [.d (.str kd), .d (.list (ws.map .str)), .d (.int (ws.count sP)), .d (.int (ws.count sO)), .d (.int (ws.count sH)), .d (.int (ws.count sT)), .un, .un, .d x]) _ _ (fun x hx B C hB hC => ?_) (fun _ _ => rfl) (by simp [rngD_len]; omega) ?_
  · obtain ⟨j, hj⟩ := List.mem_iff_getElem?.mp hx
    obtain ⟨hj, rfl⟩ := rngD_get hj
    obtain ⟨w, e1, e2, _⟩ := at_str (ws := ws) (i := 0 + (j : Int)) (by omega) (by omega)
    obtain ⟨u, e3, e4, _⟩ := at_str (ws := ws) (i := 0 + (j : Int) - 1) (by omega) (by omega)
    walk_at "x"
    refine onO_of e1 ?_
    walk_at "x"
    have es : sideAt ws (0 + (j : Int)) = ((w == sP) && (u == sP)) := by
      unfold sideAt
      rw [e2, e4]
      rfl
    refine onB_case (fun q => ?_) fun q => ?_
    · walk_at "x"
      refine onO_of e3 ?_
      walk_at "x"
      refine onB_case (fun q2 => ?_) fun q2 => ?_
      · walk_at "x"
        exact hB (es.trans (by rw [q, q2]; rfl))
      · exact hC (es.trans (by rw [q2, Bool.and_false]))
    · walk_at "x"
      exact hC (es.trans (by rw [q, Bool.false_and]))
  · have hsd : (((rngD 0 ((ws.length : Int).toNat)).filter fun x => match x with | .int i => sideAt ws i | _ => false).map fun x => x).isEmpty = !sidesB ws := by
      rw [List.isEmpty_map, ← sides_fil]
      unfold rngD
      rw [List.filter_map, List.isEmpty_map, Int.toNat_natCast]
      refine congrArg (fun p => (List.filter p (List.range ws.length)).isEmpty) (funext fun c => ?_)
      show sideAt ws (0 + (c : Int)) = sideAt ws c
      rw [Int.zero_add]
    walk_at "x"
    simp only [kinds6, List.mem_cons, List.not_mem_nil, or_false] at hk
    rcases hk with rfl | rfl | rfl | rfl | rfl | rfl
    · refine onB_ofT (by decide +kernel) ?_
      walk_at "x"
      exact h _
    · refine onB_ofF (by decide +kernel) ?_
      walk_at "x"
      refine onB_ofT (by decide +kernel) ?_
      walk_at "x"
      have h : ∀ ps, k (.d (.bool (dWhole ws))) ps := h
      unfold dWhole at h
      refine onB_case (fun q => ?_) fun q => ?_
      · rw [q, Bool.true_and] at h
        walk_at "x"
        refine onB_case (fun q => ?_) fun q => ?_
        · rw [q, Bool.true_or] at h
          exact h _
        · rw [q, Bool.false_or] at h
          walk_at "x"
          refine onB_case (fun q => ?_) fun q => ?_
          · rw [q, Bool.true_and] at h
            walk_at "x"
            refine onB_case (fun q => ?_) fun q => ?_
            · rw [q, Bool.true_and] at h
              walk_at "x"
              exact h _
            · rw [q, Bool.false_and] at h
              exact h _
          · rw [q, Bool.false_and] at h
            exact h _
      · rw [q, Bool.false_and] at h
        exact h _
    · refine onB_ofF (by decide +kernel) ?_
      walk_at "x"
      refine onB_ofF (by decide +kernel) ?_
      walk_at "x"
      refine onB_ofT (by decide +kernel) ?_
      walk_at "x"
      have h : ∀ ps, k (.d (.bool (dCausal ws))) ps := h
      unfold dCausal at h
      refine onB_case (fun q => ?_) fun q => ?_
      · rw [q, Bool.true_and] at h
        walk_at "x"
        refine onB_case (fun q => ?_) fun q => ?_
        · rw [q, Bool.true_or] at h
          exact h _
        · rw [q, Bool.false_or] at h
          walk_at "x"
          refine onB_case (fun q => ?_) fun q => ?_
          · rw [q, Bool.true_and] at h
            walk_at "x"
            refine onB_case (fun q => ?_) fun q => ?_
            · rw [q, Bool.true_and] at h
              walk_at "x"
              exact h _
            · rw [q, Bool.false_and] at h
              exact h _
          · rw [q, Bool.false_and] at h
            exact h _
      · rw [q, Bool.false_and] at h
        exact h _
    · refine onB_ofF (by decide +kernel) ?_
      walk_at "x"
      refine onB_ofF (by decide +kernel) ?_
      walk_at "x"
      refine onB_ofF (by decide +kernel) ?_
      walk_at "x"
      refine onB_ofT (by decide +kernel) ?_
      walk_at "x"
      have h : ∀ ps, k (.d (.bool (dSnap ws))) ps := h
      unfold dSnap at h
      refine onB_case (fun q => ?_) fun q => ?_
      · rw [q, Bool.true_and] at h
        walk_at "x"
        rw [hsd]
        exact h _
      · rw [q, Bool.false_and] at h
        exact h _
    · refine onB_ofF (by decide +kernel) ?_
      walk_at "x"
      refine onB_ofF (by decide +kernel) ?_
      walk_at "x"
      refine onB_ofF (by decide +kernel) ?_
      walk_at "x"
      refine onB_ofF (by decide +kernel) ?_
      walk_at "x"
      refine onB_ofF (by decide +kernel) ?_
      walk_at "x"
      exact h _
    · refine onB_ofF (by decide +kernel) ?_
      walk_at "x"
      refine onB_ofF (by decide +kernel) ?_
      walk_at "x"
      refine onB_ofF (by decide +kernel) ?_
      walk_at "x"
      refine onB_ofF (by decide +kernel) ?_
      walk_at "x"
      refine onB_ofT (by decide +kernel) ?_
      exact h _
theorem eqv_11 (a1 a2 a3 a4 a5 a6 a7 a8 a9 a10 a11 b1 b2 b3 b4 b5 b6 b7 b8 b9 b10 b11 : Bool) : PyData.eqv (.list [.bool a1, .bool a2, .bool a3, .bool a4, .bool a5, .bool a6, .bool a7, .bool a8, .bool a9, .bool a10, .bool a11]) (.list [.bool b1, .bool b2, .bool b3, .bool b4, .bool b5, .bool b6, .bool b7, .bool b8, .bool b9, .bool b10, .bool b11]) = ([a1, a2, a3, a4, a5, a6, a7, a8, a9, a10, a11] == [b1, b2, b3, b4, b5, b6, b7, b8, b9, b10, b11]) :=
  eqv_bools [a1, a2, a3, a4, a5, a6, a7, a8, a9, a10, a11] [b1, b2, b3, b4, b5, b6, b7, b8, b9, b10, b11]
theorem sh_11 (a1 a2 a3 a4 a5 a6 a7 a8 a9 a10 a11 : Bool) : shp (.list [.bool a1, .bool a2, .bool a3, .bool a4, .bool a5, .bool a6, .bool a7, .bool a8, .bool a9, .bool a10, .bool a11]) = true := sh_bools [a1, a2, a3, a4, a5, a6, a7, a8, a9, a10, a11]
theorem qalone_wp {k : Vl → List Sl → Prop} (h : ∀ s1 s2, k (.d (.bool true)) [s1, s2]) : runS s_qalone [.ex "NoKind", .d (.str "NoKind")] k := by
  refine ⟨rfl, ?_⟩
  show r_qalone _ [.ex "NoKind", .d (.str "NoKind"), .un, .un, .un]
  unfold r_qalone
  walk_at "x"
  rw [sh_11, sh_11, eqv_11]
  refine ⟨by decide, by decide, by decide, by decide, by decide, by decide, by decide, by decide, by decide, by decide, by decide, rfl, rfl, ?_⟩
  rw [show ([false, false, false, true, false, false, false, false, false, false, false] == [Str.ofString "NoHistory" == Str.ofString "NoKind", Str.ofString "NotSound" == Str.ofString "NoKind", Str.ofString "NoOrders" == Str.ofString "NoKind", Str.ofString "NoKind" == Str.ofString "NoKind", Str.ofString "NoDeal" == Str.ofString "NoKind", Str.ofString "TooMany" == Str.ofString "NoKind", Str.ofString "IsYes" == Str.ofString "NoKind", Str.ofString "NoHands" == Str.ofString "NoKind", Str.ofString "NoStore" == Str.ofString "NoKind", Str.ofString "NoLog" == Str.ofString "NoKind", Str.ofString "NoText" == Str.ofString "NoKind"]) = true by decide +kernel]
  exact h _ _
theorem qrefused_wp {x : PyData} (hk : isKind x = false) {k : Vl → List Sl → Prop} (h : ∀ ps, k (.d (.bool true)) ps) : runS s_qrefused [.d x] k := by
  refine ⟨rfl, ?_⟩
  show r_qrefused _ [.d x, .un, .un]
  unfold r_qrefused
  walk_at "x"
  refine ev_of ?_
  rw [b_qrefused_1_eq]
  walk_at "x"
  refine bars_no hk fun s1 s2 => ?_
  walk_at "x"
  refine qalone_wp fun s1 s2 => ?_
  walk_at "x"
  exact h _
def fiveD : List PyData := [.str sH, .str sT, .str sF, .str sO, .str sP]
theorem pool_row {pool : List Str} (h : pool = [sH, sT, sF, sO, sP] ∨ pool = [sH, sF, sF, sP, sF] ∨ pool = [sO, sP, sP]) : Row pool ∧ 1 ≤ pool.length ∧ pool.length ≤ 5 := by
  rcases h with rfl | rfl | rfl
  · exact ⟨fun w hw => by simp only [List.mem_cons, List.not_mem_nil, or_false] at hw; rcases hw with e | e | e | e | e <;> simp [e], by decide, by decide⟩
  · exact ⟨fun w hw => by simp only [List.mem_cons, List.not_mem_nil, or_false] at hw; rcases hw with e | e | e | e | e <;> simp [e], by decide, by decide⟩
  · exact ⟨fun w hw => by simp only [List.mem_cons, List.not_mem_nil, or_false] at hw; rcases hw with e | e | e <;> simp [e], by decide, by decide⟩
theorem rows_of : ∀ {ys : List PyData}, (∀ y ∈ ys, ∃ w : Str, y = .str w ∧ (w = sP ∨ w = sO ∨ w = sH ∨ w = sT ∨ w = sF)) → ∃ ws : List Str, ys = ws.map .str ∧ Row ws
  | [], _ => ⟨[], rfl, fun _ h => nomatch h⟩
  | y :: ys, h => by
    obtain ⟨ws, rfl, hw⟩ := rows_of (ys := ys) fun z hz => h z (List.mem_cons_of_mem _ hz)
    obtain ⟨w, rfl, q⟩ := h y List.mem_cons_self
    refine ⟨w :: ws, rfl, fun v hv => ?_⟩
    rcases List.mem_cons.mp hv with rfl | hv
    · exact q
    · exact hw v hv
theorem qwords_wp {s : Dr} {k : Vl → List Sl → Prop} (h : ∀ (ws : List Str) (s' : Dr), Row ws → 2 ≤ ws.length → ws.length ≤ 8 → k (.new (ws.map .str)) [.lst false (drL s')]) : runS s_qwords [.lst false (drL s)] k := by
  refine ⟨rfl, ?_⟩
  show r_qwords _ [.lst false (drL s), .un, .un, .un]
  unfold r_qwords
  walk_at "x"
  refine ⟨by decide, ?_⟩
  refine next_wp (by omega) (by omega) fun r s1 r0 r1 => ?_
  obtain ⟨z, hz, ez, _⟩ := at_any (xs := [PyData.list [.str sH, .str sT, .str sF, .str sO, .str sP], .list [.str sH, .str sF, .str sF, .str sP, .str sF], .list [.str sO, .str sP, .str sP]]) (i := r) (by simp; omega) (by simp; omega)
  refine onO_of ez ?_
  have hp : ∃ pool : List Str, z = .list (pool.map .str) ∧ Row pool ∧ 1 ≤ pool.length ∧ pool.length ≤ 5 := by
    simp only [List.mem_cons, List.not_mem_nil, or_false] at hz
    rcases hz with rfl | rfl | rfl
    · exact ⟨[sH, sT, sF, sO, sP], rfl, pool_row (.inl rfl)⟩
    · exact ⟨[sH, sF, sF, sP, sF], rfl, pool_row (.inr (.inl rfl))⟩
    · exact ⟨[sO, sP, sP], rfl, pool_row (.inr (.inr rfl))⟩
  obtain ⟨pool, rfl, hr, p1, p5⟩ := hp
  walk_at "x"
  refine next_wp (by omega) (by omega) fun q s2 q0 q1 => ?_
  walk_at "x"
  refine ⟨by omega, by omega, ?_⟩
  refine of_ev ?_
  refine lc_all (I := fun ε => ∃ (s : Dr) (P : Sl), ε = [.lst false (drL s), P, .d (.list (pool.map .str)), .un]) (Pe := fun y => ∃ w : Str, y = .str w ∧ (w = sP ∨ w = sO ∨ w = sH ∨ w = sT ∨ w = sF)) _ _ _ (fun y _ ε ⟨s, P, hε⟩ C hC => ?_) ⟨s2, _, rfl⟩ (fun y hy => nomatch hy) (by simp [rngD_len]; omega) fun zs ε hzs hzl ⟨s', P', hε⟩ => ?_
  · subst hε
    walk_at "x"
    refine next_wp (by omega) (by omega) fun q s2 q0 q1 => ?_
    obtain ⟨w, e1, _, hw⟩ := at_str (ws := pool) (i := q) (by omega) (by omega)
    refine onO_of e1 ?_
    walk_at "x"
    exact hC _ _ ⟨w, rfl, hr w hw⟩ ⟨s2, P, rfl⟩
  · subst hε
    obtain ⟨ws, rfl, hw⟩ := rows_of hzs
    rw [rngD_len] at hzl
    rw [List.length_map] at hzl
    have hzl : ws.length = 0 + (2 + q).toNat := hzl
    exact h ws s' hw (by omega) (by omega)
theorem cut_rot {ws : List Str} {a : Int} (h0 : 0 ≤ a) (h1 : a < (ws.length : Int)) : DL.cutD (ws.map PyData.str) (some a) none ++ DL.cutD (ws.map PyData.str) none (some a) = (rot ws a.toNat).map .str := by
  unfold DL.cutD rot
  obtain ⟨k, rfl⟩ : ∃ k : Nat, a = (k : Int) := ⟨a.toNat, by omega⟩
  have hk : ¬ ((k : Int) < 0) := by omega
  have hk2 : min k ws.length = k := by omega
  have e1 : HT.sIx (ws.map PyData.str).length 0 (some (k : Int)) = k := by
    simp [HT.sIx, hk, hk2]
  have e2 : HT.sIx (ws.map PyData.str).length (ws.map PyData.str).length (some (k : Int)) = k := by
    simp [HT.sIx, hk, hk2]
  have e3 : HT.sIx (ws.map PyData.str).length (ws.map PyData.str).length none = (ws.map PyData.str).length := rfl
  have e4 : HT.sIx (ws.map PyData.str).length 0 none = 0 := rfl
  rw [e1, e2, e3, e4, Int.toNat_natCast, List.map_append, List.map_drop, List.map_take, List.drop_zero, Nat.sub_zero]
  congr 1
  exact List.take_of_length_le (by simp)
def N6 : List PyData := kinds6.map .str
/-- a comprehension whose first turn freezes slots -/
theorem lc_mapJ {g : TDG} {te : TD} {vs : List Nat} {f : PyData → PyData} {e : PyData → Ep} {ε0 ε1 : Ep} {A : List PyData → Ep → Prop} (its acc : List PyData) (hne : its ≠ [])
    (h1 : ∀ x ∈ its, ∀ ε, (ε = ε0 ∨ ε = ε1) → ∀ B : Vl → Ep → Prop, B (.d (f x)) (e x) → g x ε fun ε1 => te ε1 B) (h2 : ∀ x ∈ its, wipeE (e x) vs = ε1) (hl : acc.length + its.length ≤ 1000000)
    (h : A (acc ++ its.map f) ε1) : lcGo noI g dYes te vs A its acc ε0 := by
  match its, hne with
  | x :: its, _ =>
    rw [List.length_cons] at hl
    refine ⟨trivial, h1 x List.mem_cons_self ε0 (.inl rfl) _ ?_⟩
    show acc.length < 1000000 ∧ lcGo noI g dYes te vs A its (acc ++ [f x]) (wipeE (e x) vs)
    refine ⟨by omega, ?_⟩
    rw [h2 x List.mem_cons_self]
    refine lc_map (f := f) (e := e) its _ (fun y hy B hb => h1 y (List.mem_cons_of_mem _ hy) ε1 (.inr rfl) B hb) (fun y hy => h2 y (List.mem_cons_of_mem _ hy)) (by simp; omega) ?_
    rw [List.append_assoc]
    exact h
theorem odd_no {z : PyData} (h : z ∈ [PyData.none, .str (Str.ofString ""), .str (Str.ofString "Clean"), .str (Str.ofString "time"), .int 3, .tuple [.str (Str.ofString "clean")], .list [.str (Str.ofString "clean")], .dict [], .str (Str.ofString "serial ")]) : isKind z = false := by
  simp only [List.mem_cons, List.not_mem_nil, or_false] at h
  rcases h with rfl | rfl | rfl | rfl | rfl | rfl | rfl | rfl | rfl
  · rfl
  · decide +kernel
  · decide +kernel
  · decide +kernel
  · rfl
  · rfl
  · rfl
  · rfl
  · decide +kernel
theorem kinds_wp {k : Vl → List Sl → Prop} (h : k (.new N6) []) : runS s_kinds [] k := by
  refine ⟨rfl, ?_⟩
  show r_kinds _ []
  unfold r_kinds
  walk_at "x"
  exact h
theorem k_N6 {V : Vl → Prop} : kEqA id (.list N6) (.list N6) V = V (.d (.bool true)) := (k_EqStrs (xs := kinds6) (ys := kinds6)).trans (by rw [beq_self_eq_true]; rfl)
theorem law_goal (qs : List Sl) (A : Vl → List Sl → Prop) (h : SLaw qs A) : s_law qs A := by
  obtain ⟨ns, rfl, hn, h⟩ := h
  refine ⟨rfl, ?_⟩
  show r_law _ [.d (.list (ns.map .int)), .un, .un, .un, .un, .un, .un, .un, .un, .un, .un, .un]
  unfold r_law
  walk_at "x"
  refine ⟨by split <;> split <;> omega, by split <;> split <;> omega, ?_⟩
  refine for_inv (I := fun ε => ∃ n1 s2 s3 s4 s5 s6 s7 s10 s11 : Sl, (n1 = .lst true N6 ∨ n1 = .d (.list N6)) ∧ ε = [.d (.list (ns.map .int)), n1, s2, s3, s4, s5, s6, s7, .un, .un, s10, s11]) _ _ (fun x hx ε ⟨n1, s2, s3, s4, s5, s6, s7, s10, s11, hn1, hε⟩ B hrt _ hB _ => ?_) ⟨_, _, _, _, _, _, _, _, _, .inl rfl, rfl⟩ fun ε ⟨n1, s2, s3, s4, s5, s6, s7, s10, s11, hn1, hε⟩ => ?_
  · subst hε
    obtain ⟨j, hj⟩ := List.mem_iff_getElem?.mp hx
    obtain ⟨hj, rfl⟩ := rngD_get hj
    clear hrt
    rcases hn1 with rfl | rfl <;> (
      walk_at "x"
      refine ev_of ?_
      rw [b_law_1_eq]
      walk_at "x"
      refine state_wp (by omega) (by omega) fun s ps => ?_
      walk_at "x"
      refine ⟨by decide, ?_⟩
      refine qwords_wp fun ws s1 hr w2 w8 => ?_
      walk_at "x"
      refine next_wp (by omega) (by omega) fun a s2 a0 a1 => ?_
      walk_at "x"
      refine ⟨by rw [← List.length_append, cut_rot a0 a1, List.length_map, rot_len ws (by omega)]; omega, ?_⟩
      rw [cut_rot a0 a1]
      refine of_ev ?_
      refine lc_mapJ (f := fun x => match x with | .str kd => .bool (dueOf kd ws) | _ => .none) (e := fun x => [.d (.list (ns.map .int)), .d (.list N6), .d (.int (0 + (j : Int))), .lst true (drL s2), .d (.list (ws.map .str)), .d (.int a), .lst true ((rot ws a.toNat).map .str), s7, .d x, .un, s10, s11]) (ε1 := [.d (.list (ns.map .int)), .d (.list N6), .d (.int (0 + (j : Int))), .lst true (drL s2), .d (.list (ws.map .str)), .d (.int a), .lst true ((rot ws a.toNat).map .str), s7, .un, .un, s10, s11]) N6 [] (by decide) (fun x hx ε hε C hC => ?_) (fun _ _ => rfl) (by decide) ?_
      · obtain ⟨kd, hkd, rfl⟩ := List.mem_map.mp hx
        rcases hε with rfl | rfl <;> (
          walk_at "x"
          refine qbarred_wp hkd (by omega) fun _ => ?_
          exact hC)
      · have ed : [] ++ N6.map (fun x => match x with | .str kd => PyData.bool (dueOf kd ws) | _ => .none) = (dues ws).map .bool := rfl
        rw [ed]
        walk_at "x"
        refine lc_map (f := fun x => match x with | .str kd => .bool (barsOf kd ws) | _ => .none) (e := fun x => [.d (.list (ns.map .int)), .d (.list N6), .d (.int (0 + (j : Int))), .lst true (drL s2), .d (.list (ws.map .str)), .d (.int a), .lst true ((rot ws a.toNat).map .str), .lst true ((dues ws).map .bool), .d x, .un, s10, s11]) N6 [] (fun x hx C hC => ?_) (fun _ _ => rfl) (by decide) ?_
        · obtain ⟨kd, hkd, rfl⟩ := List.mem_map.mp hx
          walk_at "x"
          refine bars_wp hkd (by omega) fun _ _ => ?_
          walk_at "x"
          exact hC
        · have eb : [] ++ N6.map (fun x => match x with | .str kd => PyData.bool (barsOf kd ws) | _ => .none) = (dues ws).map .bool := by
            rw [List.nil_append]
            unfold N6 dues
            rw [List.map_map, List.map_map]
            exact List.map_congr_left fun kd _ => congrArg PyData.bool (bars_due hr kd)
          rw [eb]
          walk_at "x"
          refine onB_ofF (by simp) ?_
          walk_at "x"
          refine lc_mapJ (f := fun x => match x with | .str kd => .bool (barsOf kd (rot ws a.toNat)) | _ => .none) (e := fun x => [.d (.list (ns.map .int)), .d (.list N6), .d (.int (0 + (j : Int))), .lst true (drL s2), .d (.list (ws.map .str)), .d (.int a), .d (.list ((rot ws a.toNat).map .str)), .lst true ((dues ws).map .bool), .d x, .un, s10, s11]) (ε1 := [.d (.list (ns.map .int)), .d (.list N6), .d (.int (0 + (j : Int))), .lst true (drL s2), .d (.list (ws.map .str)), .d (.int a), .d (.list ((rot ws a.toNat).map .str)), .lst true ((dues ws).map .bool), .un, .un, s10, s11]) N6 [] (by decide) (fun x hx ε hε C hC => ?_) (fun _ _ => rfl) (by decide) ?_
          · obtain ⟨kd, hkd, rfl⟩ := List.mem_map.mp hx
            rcases hε with rfl | rfl <;> (
              walk_at "x"
              refine bars_wp hkd (by rw [rot_len ws (by omega)]; omega) fun _ _ => ?_
              walk_at "x"
              exact hC)
          · have eb2 : [] ++ N6.map (fun x => match x with | .str kd => PyData.bool (barsOf kd (rot ws a.toNat)) | _ => .none) = (dues ws).map .bool := by
              rw [List.nil_append]
              unfold N6 dues
              rw [List.map_map, List.map_map]
              have hr2 : Row (rot ws a.toNat) := fun w hw => hr w ((rot_perm ws _).mem_iff.mp hw)
              exact List.map_congr_left fun kd _ => congrArg PyData.bool ((bars_due hr2 kd).trans (rot_due (by omega) kd))
            rw [eb2]
            walk_at "x"
            refine onB_ofF (by simp) ?_
            walk_at "x"
            refine lc_mf (p := fun _ => false) (f := fun _ => .int 1) (e := fun x => [.d (.list (ns.map .int)), .d (.list N6), .d (.int (0 + (j : Int))), .lst true (drL s2), .d (.list (ws.map .str)), .d (.int a), .d (.list ((rot ws a.toNat).map .str)), .d (.list ((dues ws).map .bool)), .un, .d x, s10, s11]) _ [] (fun x hx C D hC hD => ?_) (fun _ _ => rfl) (by simp [dues, kinds6]) ?_
            · obtain ⟨b, _, rfl⟩ := List.mem_map.mp hx
              walk_at "x"
              exact hD rfl
            · rw [show [] ++ ((((dues ws).map PyData.bool).filter fun _ => false).map fun _ => PyData.int 1) = [] by simp]
              walk_at "x"
              refine ⟨⟨PySem.W.AllAlike.of (enc := .bool) (fun b b' => by simp [PySem.W.alike]), PySem.W.Sortable.others (enc := .bool) (fun b => ⟨(fun z => nomatch z), fun _ z => nomatch z⟩), by simp [dues, kinds6]⟩, ?_⟩
              rw [sort_dues]
              walk_at "x"
              refine onB_ofF (by simp) ?_
              walk_at "x"
              obtain ⟨kd, e1, _, hkd⟩ := at_str (ws := kinds6) (i := (0 + (j : Int)) % 6) (by show -(6 : Int) ≤ _; omega) (by show _ < (6 : Int); omega)
              refine ⟨by decide, onO_of e1 ?_⟩
              walk_at "x"
              refine bars_wp hkd (by omega) fun _ _ => ?_
              walk_at "x"
              refine next_wp (by omega) (by omega) fun r s3 r0 r1 => ?_
              walk_at "x"
              obtain ⟨z, hz, ez, _⟩ := at_any (xs := [PyData.none, .str (Str.ofString ""), .str (Str.ofString "Clean"), .str (Str.ofString "time"), .int 3, .tuple [.str (Str.ofString "clean")], .list [.str (Str.ofString "clean")], .dict [], .str (Str.ofString "serial ")]) (i := r) (by simp; omega) (by simp; omega)
              refine onO_of ez ?_
              walk_at "x"
              refine qrefused_wp (odd_no hz) fun _ => ?_
              walk_at "x"
              exact hB _ ⟨_, _, _, _, _, _, _, _, _, .inr rfl, rfl⟩)
  · subst hε
    walk_at "x"
    refine kinds_wp ?_
    walk_at "x"
    refine ⟨by decide, kinds_wp ?_⟩
    have e6 : N6 = kinds6.map .str := rfl
    rcases hn1 with rfl | rfl <;> (
      walk_at "x"
      rw [k_N6]
      walk_at "x"
      refine bars_whole (ws := [sP, sF]) (by decide) fun _ _ => ?_
      walk_at "x"
      rw [whole_eq (fun w hw => by simp only [List.mem_cons, List.not_mem_nil, or_false] at hw; rcases hw with e | e <;> simp [e]), show dWhole [sP, sF] = true by decide +kernel]
      walk_at "x"
      exact h _)

end Cl

namespace Cl
open PySem PySem.Spec PyProof.Rows L2 DL
theorem all_mk {l : PySem.W.OpenLaw} {w : World} {K : PySem.W.Frag} {h : Heap} {mg : Str → Option Value} {fa f1 f2 f3 f4 f5 f6 f7 f8 f9 f10 f11 f12 : Addr} (X : K.In h) (G : h.Ns mainGlobals mg) (hfa : mg "law" = some (.ref fa))
    {a_KINDS n_KINDS : Nat} {od_KINDS : Option Addr} {its_KINDS : Array Value} {sl_KINDS : Array (Option Value)} {X_CourtError : Addr} {X_IsYes : Addr} {X_NoDeal : Addr} {X_NoHands : Addr} {X_NoHistory : Addr} {X_NoKind : Addr} {X_NoLog : Addr} {X_NoOrders : Addr} {X_NoStore : Addr} {X_NoText : Addr} {X_NotSound : Addr} {X_TooMany : Addr}
    {od1 an1 od2 an2 od3 an3 od4 an4 od5 an5 od6 an6 od7 an7 od8 an8 od9 an9 od10 an10 od11 an11 od12 an12 : Option Addr} {sl1 sl2 sl3 sl4 sl5 sl6 sl7 sl8 sl9 sl10 sl11 sl12 : Array (Option Value)} {oc1 kV1 dc1 pm1 cd1 ct1 oc2 kV2 dc2 pm2 cd2 ct2 oc3 kV3 dc3 pm3 cd3 ct3 oc4 kV4 dc4 pm4 cd4 ct4 oc5 kV5 dc5 pm5 cd5 ct5 oc6 kV6 dc6 pm6 cd6 ct6 oc7 kV7 dc7 pm7 cd7 ct7 oc8 kV8 dc8 pm8 cd8 ct8 oc9 kV9 dc9 pm9 cd9 ct9 oc10 kV10 dc10 pm10 cd10 ct10 oc11 kV11 dc11 pm11 cd11 ct11 oc12 kV12 dc12 pm12 cd12 ct12 : Value}
    (a1 : PySem.W.nsIn K mainGlobals "kinds" = some (some (.ref f1))) (l1 : K.lookup f1 = some ⟨oc1, od1, .func (PySem.W.fnOf "kinds" "kinds" (defArgs stkinds) (defBody stkinds) (defScope stkinds) .none kV1 dc1 pm1 an1 cd1 ct1), sl1⟩) (c1 : PySem.W.codeIn K cd1 "kinds" = true) (k1 : PySem.W.keepIn K (.ref f1) = true)
    (a2 : PySem.W.nsIn K mainGlobals "_law_state" = some (some (.ref f2))) (l2 : K.lookup f2 = some ⟨oc2, od2, .func (PySem.W.fnOf "_law_state" "_law_state" (defArgs stqstate) (defBody stqstate) (defScope stqstate) .none kV2 dc2 pm2 an2 cd2 ct2), sl2⟩) (c2 : PySem.W.codeIn K cd2 "_law_state" = true) (k2 : PySem.W.keepIn K (.ref f2) = true)
    (a3 : PySem.W.nsIn K mainGlobals "_law_next" = some (some (.ref f3))) (l3 : K.lookup f3 = some ⟨oc3, od3, .func (PySem.W.fnOf "_law_next" "_law_next" (defArgs stqnext) (defBody stqnext) (defScope stqnext) .none kV3 dc3 pm3 an3 cd3 ct3), sl3⟩) (c3 : PySem.W.codeIn K cd3 "_law_next" = true) (k3 : PySem.W.keepIn K (.ref f3) = true)
    (a4 : PySem.W.nsIn K mainGlobals "_law_words" = some (some (.ref f4))) (l4 : K.lookup f4 = some ⟨oc4, od4, .func (PySem.W.fnOf "_law_words" "_law_words" (defArgs stqwords) (defBody stqwords) (defScope stqwords) .none kV4 dc4 pm4 an4 cd4 ct4), sl4⟩) (c4 : PySem.W.codeIn K cd4 "_law_words" = true) (k4 : PySem.W.keepIn K (.ref f4) = true)
    (a5 : PySem.W.nsIn K mainGlobals "_law_barred_by" = some (some (.ref f5))) (l5 : K.lookup f5 = some ⟨oc5, od5, .func (PySem.W.fnOf "_law_barred_by" "_law_barred_by" (defArgs stqbarred_by) (defBody stqbarred_by) (defScope stqbarred_by) .none kV5 dc5 pm5 an5 cd5 ct5), sl5⟩) (c5 : PySem.W.codeIn K cd5 "_law_barred_by" = true) (k5 : PySem.W.keepIn K (.ref f5) = true)
    (a6 : PySem.W.nsIn K mainGlobals "need_kind" = some (some (.ref f6))) (l6 : K.lookup f6 = some ⟨oc6, od6, .func (PySem.W.fnOf "need_kind" "need_kind" (defArgs stneed_kind) (defBody stneed_kind) (defScope stneed_kind) .none kV6 dc6 pm6 an6 cd6 ct6), sl6⟩) (c6 : PySem.W.codeIn K cd6 "need_kind" = true) (k6 : PySem.W.keepIn K (.ref f6) = true)
    (a7 : PySem.W.nsIn K mainGlobals "are_all" = some (some (.ref f7))) (l7 : K.lookup f7 = some ⟨oc7, od7, .func (PySem.W.fnOf "are_all" "are_all" (defArgs stare_all) (defBody stare_all) (defScope stare_all) .none kV7 dc7 pm7 an7 cd7 ct7), sl7⟩) (c7 : PySem.W.codeIn K cd7 "are_all" = true) (k7 : PySem.W.keepIn K (.ref f7) = true)
    (a8 : PySem.W.nsIn K mainGlobals "are_apart" = some (some (.ref f8))) (l8 : K.lookup f8 = some ⟨oc8, od8, .func (PySem.W.fnOf "are_apart" "are_apart" (defArgs stare_apart) (defBody stare_apart) (defScope stare_apart) .none kV8 dc8 pm8 an8 cd8 ct8), sl8⟩) (c8 : PySem.W.codeIn K cd8 "are_apart" = true) (k8 : PySem.W.keepIn K (.ref f8) = true)
    (a9 : PySem.W.nsIn K mainGlobals "bars" = some (some (.ref f9))) (l9 : K.lookup f9 = some ⟨oc9, od9, .func (PySem.W.fnOf "bars" "bars" (defArgs stbars) (defBody stbars) (defScope stbars) .none kV9 dc9 pm9 an9 cd9 ct9), sl9⟩) (c9 : PySem.W.codeIn K cd9 "bars" = true) (k9 : PySem.W.keepIn K (.ref f9) = true)
    (a10 : PySem.W.nsIn K mainGlobals "_law_alone" = some (some (.ref f10))) (l10 : K.lookup f10 = some ⟨oc10, od10, .func (PySem.W.fnOf "_law_alone" "_law_alone" (defArgs stqalone) (defBody stqalone) (defScope stqalone) .none kV10 dc10 pm10 an10 cd10 ct10), sl10⟩) (c10 : PySem.W.codeIn K cd10 "_law_alone" = true) (k10 : PySem.W.keepIn K (.ref f10) = true)
    (a11 : PySem.W.nsIn K mainGlobals "_law_refused" = some (some (.ref f11))) (l11 : K.lookup f11 = some ⟨oc11, od11, .func (PySem.W.fnOf "_law_refused" "_law_refused" (defArgs stqrefused) (defBody stqrefused) (defScope stqrefused) .none kV11 dc11 pm11 an11 cd11 ct11), sl11⟩) (c11 : PySem.W.codeIn K cd11 "_law_refused" = true) (k11 : PySem.W.keepIn K (.ref f11) = true)
    (a12 : PySem.W.nsIn K mainGlobals "law" = some (some (.ref f12))) (l12 : K.lookup f12 = some ⟨oc12, od12, .func (PySem.W.fnOf "law" "law" (defArgs stlaw) (defBody stlaw) (defScope stlaw) .none kV12 dc12 pm12 an12 cd12 ct12), sl12⟩) (c12 : PySem.W.codeIn K cd12 "law" = true) (k12 : PySem.W.keepIn K (.ref f12) = true)
    (z_ValueError : PySem.W.nsIn K mainGlobals "ValueError" = some none)
    (z_abs : PySem.W.nsIn K mainGlobals "abs" = some none)
    (z_all : PySem.W.nsIn K mainGlobals "all" = some none)
    (z_any : PySem.W.nsIn K mainGlobals "any" = some none)
    (z_bool : PySem.W.nsIn K mainGlobals "bool" = some none)
    (z_isinstance : PySem.W.nsIn K mainGlobals "isinstance" = some none)
    (z_len : PySem.W.nsIn K mainGlobals "len" = some none)
    (z_list : PySem.W.nsIn K mainGlobals "list" = some none)
    (z_max : PySem.W.nsIn K mainGlobals "max" = some none)
    (z_min : PySem.W.nsIn K mainGlobals "min" = some none)
    (z_range : PySem.W.nsIn K mainGlobals "range" = some none)
    (z_sorted : PySem.W.nsIn K mainGlobals "sorted" = some none)
    (z_str : PySem.W.nsIn K mainGlobals "str" = some none)
    (ga_KINDS : PySem.W.nsIn K mainGlobals "KINDS" = some (some (.ref a_KINDS))) (gl_KINDS : K.lookup a_KINDS = some ⟨.type "tuple", od_KINDS, .seq its_KINDS n_KINDS, sl_KINDS⟩) (gv_KINDS : (decide (its_KINDS.size ≤ 1000) && gvsD its_KINDS.toList [(.str (Str.ofString "clean")), (.str (Str.ofString "whole")), (.str (Str.ofString "causal")), (.str (Str.ofString "snapshot")), (.str (Str.ofString "serial")), (.str (Str.ofString "timely"))]) = true)
    (x_CourtError : PySem.W.nsIn K mainGlobals "CourtError" = some (some (.ref X_CourtError)))
    (x_IsYes : PySem.W.nsIn K mainGlobals "IsYes" = some (some (.ref X_IsYes)))
    (x_NoDeal : PySem.W.nsIn K mainGlobals "NoDeal" = some (some (.ref X_NoDeal)))
    (x_NoHands : PySem.W.nsIn K mainGlobals "NoHands" = some (some (.ref X_NoHands)))
    (x_NoHistory : PySem.W.nsIn K mainGlobals "NoHistory" = some (some (.ref X_NoHistory)))
    (x_NoKind : PySem.W.nsIn K mainGlobals "NoKind" = some (some (.ref X_NoKind)))
    (x_NoLog : PySem.W.nsIn K mainGlobals "NoLog" = some (some (.ref X_NoLog)))
    (x_NoOrders : PySem.W.nsIn K mainGlobals "NoOrders" = some (some (.ref X_NoOrders)))
    (x_NoStore : PySem.W.nsIn K mainGlobals "NoStore" = some (some (.ref X_NoStore)))
    (x_NoText : PySem.W.nsIn K mainGlobals "NoText" = some (some (.ref X_NoText)))
    (x_NotSound : PySem.W.nsIn K mainGlobals "NotSound" = some (some (.ref X_NotSound)))
    (x_TooMany : PySem.W.nsIn K mainGlobals "TooMany" = some (some (.ref X_TooMany)))
    (xs_CourtError : PySem.W.subIn K (.ref X_CourtError) (.type "BaseException") = some true)
    (xt_CourtError : PySem.W.typeIn K (.ref X_CourtError) = some (.type "type"))
    (xd_CourtError : PySem.W.hasDictIn K X_CourtError = true)
    (xs_IsYes : PySem.W.subIn K (.ref X_IsYes) (.type "BaseException") = some true)
    (xt_IsYes : PySem.W.typeIn K (.ref X_IsYes) = some (.type "type"))
    (xd_IsYes : PySem.W.hasDictIn K X_IsYes = true)
    (xs_NoDeal : PySem.W.subIn K (.ref X_NoDeal) (.type "BaseException") = some true)
    (xt_NoDeal : PySem.W.typeIn K (.ref X_NoDeal) = some (.type "type"))
    (xd_NoDeal : PySem.W.hasDictIn K X_NoDeal = true)
    (xs_NoHands : PySem.W.subIn K (.ref X_NoHands) (.type "BaseException") = some true)
    (xt_NoHands : PySem.W.typeIn K (.ref X_NoHands) = some (.type "type"))
    (xd_NoHands : PySem.W.hasDictIn K X_NoHands = true)
    (xs_NoHistory : PySem.W.subIn K (.ref X_NoHistory) (.type "BaseException") = some true)
    (xt_NoHistory : PySem.W.typeIn K (.ref X_NoHistory) = some (.type "type"))
    (xd_NoHistory : PySem.W.hasDictIn K X_NoHistory = true)
    (xe_NoKind : PySem.W.excIn K X_NoKind [.type "ValueError", .type "Exception", .type "BaseException", .type "object"] "ValueError.__new__" = true)
    (xs_NoKind : PySem.W.subIn K (.ref X_NoKind) (.type "BaseException") = some true)
    (xt_NoKind : PySem.W.typeIn K (.ref X_NoKind) = some (.type "type"))
    (xd_NoKind : PySem.W.hasDictIn K X_NoKind = true)
    (xk_NoKind : PySem.W.keepIn K (.ref X_NoKind) = true)
    (xg_NoKind : PySem.W.findIn K (.ref X_NoKind) "__getattribute__" = some (some (.builtin "BaseException.__getattribute__")))
    (xh_NoKind : PySem.W.findIn K (.ref X_NoKind) "__getattr__" = some none)
    (xc_NoKind : PySem.W.findIn K (.ref X_NoKind) "__class__" = some (some (.builtin "object.__class__")))
    (xo_NoKind : PySem.W.mroIn K X_NoKind (.type "object") = some true)
    (xs_NoLog : PySem.W.subIn K (.ref X_NoLog) (.type "BaseException") = some true)
    (xt_NoLog : PySem.W.typeIn K (.ref X_NoLog) = some (.type "type"))
    (xd_NoLog : PySem.W.hasDictIn K X_NoLog = true)
    (xs_NoOrders : PySem.W.subIn K (.ref X_NoOrders) (.type "BaseException") = some true)
    (xt_NoOrders : PySem.W.typeIn K (.ref X_NoOrders) = some (.type "type"))
    (xd_NoOrders : PySem.W.hasDictIn K X_NoOrders = true)
    (xs_NoStore : PySem.W.subIn K (.ref X_NoStore) (.type "BaseException") = some true)
    (xt_NoStore : PySem.W.typeIn K (.ref X_NoStore) = some (.type "type"))
    (xd_NoStore : PySem.W.hasDictIn K X_NoStore = true)
    (xs_NoText : PySem.W.subIn K (.ref X_NoText) (.type "BaseException") = some true)
    (xt_NoText : PySem.W.typeIn K (.ref X_NoText) = some (.type "type"))
    (xd_NoText : PySem.W.hasDictIn K X_NoText = true)
    (xs_NotSound : PySem.W.subIn K (.ref X_NotSound) (.type "BaseException") = some true)
    (xt_NotSound : PySem.W.typeIn K (.ref X_NotSound) = some (.type "type"))
    (xd_NotSound : PySem.W.hasDictIn K X_NotSound = true)
    (xs_TooMany : PySem.W.subIn K (.ref X_TooMany) (.type "BaseException") = some true)
    (xt_TooMany : PySem.W.typeIn K (.ref X_TooMany) = some (.type "type"))
    (xd_TooMany : PySem.W.hasDictIn K X_TooMany = true)
    (xn_ : PySem.W.specialIn K (.builtin "object.__class__") "__get__" = some (some (.builtin "getset_descriptor.__get__"))) (xm_ : PySem.W.takesIn K (.builtin "object.__class__") = some true)
    (p_NoKind_CourtError : PySem.W.subIn K (.ref X_NoKind) (.ref X_CourtError) = some true)
    (p_NoKind_IsYes : PySem.W.subIn K (.ref X_NoKind) (.ref X_IsYes) = some false)
    (q_NoKind_IsYes : (!(X_NoKind == X_IsYes) || false) = true)
    (p_NoKind_NoDeal : PySem.W.subIn K (.ref X_NoKind) (.ref X_NoDeal) = some false)
    (q_NoKind_NoDeal : (!(X_NoKind == X_NoDeal) || false) = true)
    (p_NoKind_NoHands : PySem.W.subIn K (.ref X_NoKind) (.ref X_NoHands) = some false)
    (q_NoKind_NoHands : (!(X_NoKind == X_NoHands) || false) = true)
    (p_NoKind_NoHistory : PySem.W.subIn K (.ref X_NoKind) (.ref X_NoHistory) = some false)
    (q_NoKind_NoHistory : (!(X_NoKind == X_NoHistory) || false) = true)
    (p_NoKind_NoLog : PySem.W.subIn K (.ref X_NoKind) (.ref X_NoLog) = some false)
    (q_NoKind_NoLog : (!(X_NoKind == X_NoLog) || false) = true)
    (p_NoKind_NoOrders : PySem.W.subIn K (.ref X_NoKind) (.ref X_NoOrders) = some false)
    (q_NoKind_NoOrders : (!(X_NoKind == X_NoOrders) || false) = true)
    (p_NoKind_NoStore : PySem.W.subIn K (.ref X_NoKind) (.ref X_NoStore) = some false)
    (q_NoKind_NoStore : (!(X_NoKind == X_NoStore) || false) = true)
    (p_NoKind_NoText : PySem.W.subIn K (.ref X_NoKind) (.ref X_NoText) = some false)
    (q_NoKind_NoText : (!(X_NoKind == X_NoText) || false) = true)
    (p_NoKind_NotSound : PySem.W.subIn K (.ref X_NoKind) (.ref X_NotSound) = some false)
    (q_NoKind_NotSound : (!(X_NoKind == X_NotSound) || false) = true)
    (p_NoKind_TooMany : PySem.W.subIn K (.ref X_NoKind) (.ref X_TooMany) = some false)
    (q_NoKind_TooMany : (!(X_NoKind == X_TooMany) || false) = true)
    (p_NoKind_ValueError : PySem.W.subIn K (.ref X_NoKind) (.type "ValueError") = some true) :
    ∃ fd : FuncData, (∀ (s : Shared) (v : Value), BindsTo s fd ⟨[v], []⟩ [("_law_script", v)]) ∧ ∀ base : Heap, K.In base → base.Ns mainGlobals mg → FnOk l.prog w K mg base CX0 4 fa fd ["_law_script"] (spLaw K) := by
  have e := hfa.symm.trans (PySem.W.mg_of X G a12)
  cases e
  have F1 := fun_mk (st := stkinds) l1 c1 k1
  have F2 := fun_mk (st := stqstate) l2 c2 k2
  have F3 := fun_mk (st := stqnext) l3 c3 k3
  have F4 := fun_mk (st := stqwords) l4 c4 k4
  have F5 := fun_mk (st := stqbarred_by) l5 c5 k5
  have F6 := fun_mk (st := stneed_kind) l6 c6 k6
  have F7 := fun_mk (st := stare_all) l7 c7 k7
  have F8 := fun_mk (st := stare_apart) l8 c8 k8
  have F9 := fun_mk (st := stbars) l9 c9 k9
  have F10 := fun_mk (st := stqalone) l10 c10 k10
  have F11 := fun_mk (st := stqrefused) l11 c11 k11
  have F12 := fun_mk (st := stlaw) l12 c12 k12
  have m1 := PySem.W.mg_of X G a1
  have m2 := PySem.W.mg_of X G a2
  have m3 := PySem.W.mg_of X G a3
  have m4 := PySem.W.mg_of X G a4
  have m5 := PySem.W.mg_of X G a5
  have m6 := PySem.W.mg_of X G a6
  have m7 := PySem.W.mg_of X G a7
  have m8 := PySem.W.mg_of X G a8
  have m9 := PySem.W.mg_of X G a9
  have m10 := PySem.W.mg_of X G a10
  have m11 := PySem.W.mg_of X G a11
  have m12 := PySem.W.mg_of X G a12
  have y_ValueError := PySem.W.mg_none_of X G z_ValueError
  have y_abs := PySem.W.mg_none_of X G z_abs
  have y_all := PySem.W.mg_none_of X G z_all
  have y_any := PySem.W.mg_none_of X G z_any
  have y_bool := PySem.W.mg_none_of X G z_bool
  have y_isinstance := PySem.W.mg_none_of X G z_isinstance
  have y_len := PySem.W.mg_none_of X G z_len
  have y_list := PySem.W.mg_none_of X G z_list
  have y_max := PySem.W.mg_none_of X G z_max
  have y_min := PySem.W.mg_none_of X G z_min
  have y_range := PySem.W.mg_none_of X G z_range
  have y_sorted := PySem.W.mg_none_of X G z_sorted
  have y_str := PySem.W.mg_none_of X G z_str
  have b1 := F1.binds (ps := []) fun _ _ _ _ _ _ us hl => match us, hl with | [], _ => rfl
  have b2 := F2.binds (ps := ["_law_script", "_law_k"]) fun _ _ _ _ _ _ us hl => match us, hl with | [_, _], _ => rfl
  have b3 := F3.binds (ps := ["_law_state_here", "_law_size"]) fun _ _ _ _ _ _ us hl => match us, hl with | [_, _], _ => rfl
  have b4 := F4.binds (ps := ["_law_state_here"]) fun _ _ _ _ _ _ us hl => match us, hl with | [_], _ => rfl
  have b5 := F5.binds (ps := ["_law_kind", "_law_row"]) fun _ _ _ _ _ _ us hl => match us, hl with | [_, _], _ => rfl
  have b6 := F6.binds (ps := ["thing"]) fun _ _ _ _ _ _ us hl => match us, hl with | [_], _ => rfl
  have b7 := F7.binds (ps := ["words", "some"]) fun _ _ _ _ _ _ us hl => match us, hl with | [_, _], _ => rfl
  have b8 := F8.binds (ps := ["words"]) fun _ _ _ _ _ _ us hl => match us, hl with | [_], _ => rfl
  have b9 := F9.binds (ps := ["kind", "words"]) fun _ _ _ _ _ _ us hl => match us, hl with | [_, _], _ => rfl
  have b10 := F10.binds (ps := ["_law_e", "_law_name"]) fun _ _ _ _ _ _ us hl => match us, hl with | [_, _], _ => rfl
  have b11 := F11.binds (ps := ["_law_thing"]) fun _ _ _ _ _ _ us hl => match us, hl with | [_], _ => rfl
  have g_KINDS : GlobD K mg "KINDS" (.tuple [(.str (Str.ofString "clean")), (.str (Str.ofString "whole")), (.str (Str.ofString "causal")), (.str (Str.ofString "snapshot")), (.str (Str.ofString "serial")), (.str (Str.ofString "timely"))]) := glob_tup (PySem.W.mg_of X G ga_KINDS) gl_KINDS gv_KINDS
  have E_NoKind : ExRs K mg "NoKind" := exrs_mk X G x_NoKind xe_NoKind xk_NoKind xs_NoKind xt_NoKind
  have Y_NoKind : ExcC K X_NoKind := ⟨xg_NoKind, xh_NoKind, xs_NoKind, xd_NoKind, xc_NoKind, xn_, xm_, xo_NoKind⟩
  have T_IsYes : ExIs K mg "IsYes" xi_IsYes := exis_mk X G x_IsYes (exty_mk rfl (xall_cons x_NoKind ⟨Y_NoKind, (kit_own xd_IsYes xt_IsYes p_NoKind_IsYes q_NoKind_IsYes)⟩ xall_nil))
  have T_NoDeal : ExIs K mg "NoDeal" xi_NoDeal := exis_mk X G x_NoDeal (exty_mk rfl (xall_cons x_NoKind ⟨Y_NoKind, (kit_own xd_NoDeal xt_NoDeal p_NoKind_NoDeal q_NoKind_NoDeal)⟩ xall_nil))
  have T_NoHands : ExIs K mg "NoHands" xi_NoHands := exis_mk X G x_NoHands (exty_mk rfl (xall_cons x_NoKind ⟨Y_NoKind, (kit_own xd_NoHands xt_NoHands p_NoKind_NoHands q_NoKind_NoHands)⟩ xall_nil))
  have T_NoHistory : ExIs K mg "NoHistory" xi_NoHistory := exis_mk X G x_NoHistory (exty_mk rfl (xall_cons x_NoKind ⟨Y_NoKind, (kit_own xd_NoHistory xt_NoHistory p_NoKind_NoHistory q_NoKind_NoHistory)⟩ xall_nil))
  have T_NoKind : ExIs K mg "NoKind" xi_NoKind := exis_mk X G x_NoKind (exty_mk rfl (xall_cons x_NoKind ⟨Y_NoKind, kit_self⟩ xall_nil))
  have T_NoLog : ExIs K mg "NoLog" xi_NoLog := exis_mk X G x_NoLog (exty_mk rfl (xall_cons x_NoKind ⟨Y_NoKind, (kit_own xd_NoLog xt_NoLog p_NoKind_NoLog q_NoKind_NoLog)⟩ xall_nil))
  have T_NoOrders : ExIs K mg "NoOrders" xi_NoOrders := exis_mk X G x_NoOrders (exty_mk rfl (xall_cons x_NoKind ⟨Y_NoKind, (kit_own xd_NoOrders xt_NoOrders p_NoKind_NoOrders q_NoKind_NoOrders)⟩ xall_nil))
  have T_NoStore : ExIs K mg "NoStore" xi_NoStore := exis_mk X G x_NoStore (exty_mk rfl (xall_cons x_NoKind ⟨Y_NoKind, (kit_own xd_NoStore xt_NoStore p_NoKind_NoStore q_NoKind_NoStore)⟩ xall_nil))
  have T_NoText : ExIs K mg "NoText" xi_NoText := exis_mk X G x_NoText (exty_mk rfl (xall_cons x_NoKind ⟨Y_NoKind, (kit_own xd_NoText xt_NoText p_NoKind_NoText q_NoKind_NoText)⟩ xall_nil))
  have T_NotSound : ExIs K mg "NotSound" xi_NotSound := exis_mk X G x_NotSound (exty_mk rfl (xall_cons x_NoKind ⟨Y_NoKind, (kit_own xd_NotSound xt_NotSound p_NoKind_NotSound q_NoKind_NotSound)⟩ xall_nil))
  have T_TooMany : ExIs K mg "TooMany" xi_TooMany := exis_mk X G x_TooMany (exty_mk rfl (xall_cons x_NoKind ⟨Y_NoKind, (kit_own xd_TooMany xt_TooMany p_NoKind_TooMany q_NoKind_TooMany)⟩ xall_nil))
  have T_ValueError : ExTy K (.type "ValueError") xi_ValueError := exty_mk rfl (xall_cons x_NoKind ⟨Y_NoKind, (kit_bt (by decide +kernel) p_NoKind_ValueError)⟩ xall_nil)
  have C_CourtError : ExCt K mg "CourtError" xc_CourtError := exct_mk X G x_CourtError rfl (xall_cons x_NoKind (PySem.W.exm_ref xs_CourtError xd_CourtError xt_CourtError p_NoKind_CourtError) xall_nil)
  refine ⟨PySem.W.fnOf "law" "law" (defArgs stlaw) (defBody stlaw) (defScope stlaw) .none kV12 dc12 pm12 an12 cd12 ct12, fun s v => .of_eq rfl, fun base _ _ => ?_⟩
  have G1 := ok_kinds (P := l.prog) (w := w) (mg := mg) (base := base) F1 y_list g_KINDS
  have G2 := ok_qstate (P := l.prog) (w := w) (mg := mg) (base := base) F2 y_abs y_len
  have G3 := ok_qnext (P := l.prog) (w := w) (mg := mg) (base := base) F3
  have G4 := ok_qwords (P := l.prog) (w := w) (mg := mg) (base := base) F4 y_len y_range G3 b3 F3.kp m3
  have G5 := ok_qbarred_by (P := l.prog) (w := w) (mg := mg) (base := base) F5 y_len y_range
  have G6 := ok_need_kind (P := l.prog) (w := w) (mg := mg) (base := base) F6 y_isinstance y_str g_KINDS E_NoKind
  have G7 := ok_are_all (P := l.prog) (w := w) (mg := mg) (base := base) F7 y_all
  have G8 := ok_are_apart (P := l.prog) (w := w) (mg := mg) (base := base) F8 y_any y_len y_range
  have G9 := ok_bars (P := l.prog) (w := w) (mg := mg) (base := base) F9 y_len y_sorted G6 b6 F6.kp m6 G7 b7 F7.kp m7 G8 b8 F8.kp m8
  have G10 := ok_qalone (P := l.prog) (w := w) (mg := mg) (base := base) F10 y_ValueError y_isinstance T_IsYes T_NoDeal T_NoHands T_NoHistory T_NoKind T_NoLog T_NoOrders T_NoStore T_NoText T_NotSound T_TooMany T_ValueError
  have G11 := ok_qrefused (P := l.prog) (w := w) (mg := mg) (base := base) F11 C_CourtError G9 b9 F9.kp m9 G10 b10 F10.kp m10
  exact law_ok (spD_imp (ok_law (P := l.prog) (w := w) (mg := mg) (base := base) F12 y_bool y_isinstance y_len y_list y_max y_min y_range y_sorted G2 b2 F2.kp m2 G4 b4 F4.kp m4 G3 b3 F3.kp m3 G5 b5 F5.kp m5 G9 b9 F9.kp m9 G11 b11 F11.kp m11 G1 b1 F1.kp m1) law_goal)
end Cl
open PySem PySem.W PyProof.Rows
set_option maxHeartbeats 0 in
theorem PySem.Challenge.cw_dealcourt_k31_words_barred_holds : PySem.Challenge.rw_dealcourt_k31_words_barred.Holds := by
  w_on; o_law; k_head; (case hw => w_witness2)
  k_fill
  refine L2.walk_of (l := PySem.Challenge.rw_dealcourt_k31_words_barred) (n := 63) (k := 4) (x := "_law_script") (CX := fun _ => L2.CX0) (sp := fun w => DL.spLaw _) rfl (by decide) rfl ⟨rfl, by decide, by decide⟩ (fun w h Y => PySem.W.kIn_of Y) ?F
    (fun _ _ a ns hl _ hS => ⟨a, ns, rfl, hS, hl, fun _ => rfl⟩) (fun _ _ _ _ _ h => h)
  case F =>
    intro w mg fa h KX G hmg
    refine' Cl.all_mk KX G hmg ?a1 ?l1 ?c1 ?k1 ?a2 ?l2 ?c2 ?k2 ?a3 ?l3 ?c3 ?k3 ?a4 ?l4 ?c4 ?k4 ?a5 ?l5 ?c5 ?k5 ?a6 ?l6 ?c6 ?k6 ?a7 ?l7 ?c7 ?k7 ?a8 ?l8 ?c8 ?k8 ?a9 ?l9 ?c9 ?k9 ?a10 ?l10 ?c10 ?k10 ?a11 ?l11 ?c11 ?k11 ?a12 ?l12 ?c12 ?k12 ?z_ValueError ?z_abs ?z_all ?z_any ?z_bool ?z_isinstance ?z_len ?z_list ?z_max ?z_min ?z_range ?z_sorted ?z_str ?ga_KINDS ?gl_KINDS ?gv_KINDS ?x_CourtError ?x_IsYes ?x_NoDeal ?x_NoHands ?x_NoHistory ?x_NoKind ?x_NoLog ?x_NoOrders ?x_NoStore ?x_NoText ?x_NotSound ?x_TooMany ?xs_CourtError ?xt_CourtError ?xd_CourtError ?xs_IsYes ?xt_IsYes ?xd_IsYes ?xs_NoDeal ?xt_NoDeal ?xd_NoDeal ?xs_NoHands ?xt_NoHands ?xd_NoHands ?xs_NoHistory ?xt_NoHistory ?xd_NoHistory ?xe_NoKind ?xs_NoKind ?xt_NoKind ?xd_NoKind ?xk_NoKind ?xg_NoKind ?xh_NoKind ?xc_NoKind ?xo_NoKind ?xs_NoLog ?xt_NoLog ?xd_NoLog ?xs_NoOrders ?xt_NoOrders ?xd_NoOrders ?xs_NoStore ?xt_NoStore ?xd_NoStore ?xs_NoText ?xt_NoText ?xd_NoText ?xs_NotSound ?xt_NotSound ?xd_NotSound ?xs_TooMany ?xt_TooMany ?xd_TooMany ?xn_ ?xm_ ?p_NoKind_CourtError ?p_NoKind_IsYes ?q_NoKind_IsYes ?p_NoKind_NoDeal ?q_NoKind_NoDeal ?p_NoKind_NoHands ?q_NoKind_NoHands ?p_NoKind_NoHistory ?q_NoKind_NoHistory ?p_NoKind_NoLog ?q_NoKind_NoLog ?p_NoKind_NoOrders ?q_NoKind_NoOrders ?p_NoKind_NoStore ?q_NoKind_NoStore ?p_NoKind_NoText ?q_NoKind_NoText ?p_NoKind_NotSound ?q_NoKind_NotSound ?p_NoKind_TooMany ?q_NoKind_TooMany ?p_NoKind_ValueError
    (case a1 => k_is)
    (case l1 => k_is)
    (case c1 => k_is)
    (case k1 => k_is)
    (case a2 => k_is)
    (case l2 => k_is)
    (case c2 => k_is)
    (case k2 => k_is)
    (case a3 => k_is)
    (case l3 => k_is)
    (case c3 => k_is)
    (case k3 => k_is)
    (case a4 => k_is)
    (case l4 => k_is)
    (case c4 => k_is)
    (case k4 => k_is)
    (case a5 => k_is)
    (case l5 => k_is)
    (case c5 => k_is)
    (case k5 => k_is)
    (case a6 => k_is)
    (case l6 => k_is)
    (case c6 => k_is)
    (case k6 => k_is)
    (case a7 => k_is)
    (case l7 => k_is)
    (case c7 => k_is)
    (case k7 => k_is)
    (case a8 => k_is)
    (case l8 => k_is)
    (case c8 => k_is)
    (case k8 => k_is)
    (case a9 => k_is)
    (case l9 => k_is)
    (case c9 => k_is)
    (case k9 => k_is)
    (case a10 => k_is)
    (case l10 => k_is)
    (case c10 => k_is)
    (case k10 => k_is)
    (case a11 => k_is)
    (case l11 => k_is)
    (case c11 => k_is)
    (case k11 => k_is)
    (case a12 => k_is)
    (case l12 => k_is)
    (case c12 => k_is)
    (case k12 => k_is)
    (case z_ValueError => k_is)
    (case z_abs => k_is)
    (case z_all => k_is)
    (case z_any => k_is)
    (case z_bool => k_is)
    (case z_isinstance => k_is)
    (case z_len => k_is)
    (case z_list => k_is)
    (case z_max => k_is)
    (case z_min => k_is)
    (case z_range => k_is)
    (case z_sorted => k_is)
    (case z_str => k_is)
    (case ga_KINDS => k_is)
    (case gl_KINDS => k_is)
    (case gv_KINDS => decide +kernel)
    (case x_CourtError => k_is)
    (case x_IsYes => k_is)
    (case x_NoDeal => k_is)
    (case x_NoHands => k_is)
    (case x_NoHistory => k_is)
    (case x_NoKind => k_is)
    (case x_NoLog => k_is)
    (case x_NoOrders => k_is)
    (case x_NoStore => k_is)
    (case x_NoText => k_is)
    (case x_NotSound => k_is)
    (case x_TooMany => k_is)
    (case xs_CourtError => first | rfl | k_is)
    (case xt_CourtError => first | rfl | k_is)
    (case xd_CourtError => first | rfl | k_is)
    (case xs_IsYes => first | rfl | k_is)
    (case xt_IsYes => first | rfl | k_is)
    (case xd_IsYes => first | rfl | k_is)
    (case xs_NoDeal => first | rfl | k_is)
    (case xt_NoDeal => first | rfl | k_is)
    (case xd_NoDeal => first | rfl | k_is)
    (case xs_NoHands => first | rfl | k_is)
    (case xt_NoHands => first | rfl | k_is)
    (case xd_NoHands => first | rfl | k_is)
    (case xs_NoHistory => first | rfl | k_is)
    (case xt_NoHistory => first | rfl | k_is)
    (case xd_NoHistory => first | rfl | k_is)
    (case xe_NoKind => k_exc)
    (case xs_NoKind => first | rfl | k_is)
    (case xt_NoKind => first | rfl | k_is)
    (case xd_NoKind => first | rfl | k_is)
    (case xk_NoKind => first | rfl | k_is)
    (case xg_NoKind => first | rfl | k_is)
    (case xh_NoKind => first | rfl | k_is)
    (case xc_NoKind => first | rfl | k_is)
    (case xo_NoKind => first | rfl | k_is)
    (case xs_NoLog => first | rfl | k_is)
    (case xt_NoLog => first | rfl | k_is)
    (case xd_NoLog => first | rfl | k_is)
    (case xs_NoOrders => first | rfl | k_is)
    (case xt_NoOrders => first | rfl | k_is)
    (case xd_NoOrders => first | rfl | k_is)
    (case xs_NoStore => first | rfl | k_is)
    (case xt_NoStore => first | rfl | k_is)
    (case xd_NoStore => first | rfl | k_is)
    (case xs_NoText => first | rfl | k_is)
    (case xt_NoText => first | rfl | k_is)
    (case xd_NoText => first | rfl | k_is)
    (case xs_NotSound => first | rfl | k_is)
    (case xt_NotSound => first | rfl | k_is)
    (case xd_NotSound => first | rfl | k_is)
    (case xs_TooMany => first | rfl | k_is)
    (case xt_TooMany => first | rfl | k_is)
    (case xd_TooMany => first | rfl | k_is)
    (case xn_ => k_is)
    (case xm_ => k_is)
    (case p_NoKind_CourtError => first | rfl | k_is)
    (case p_NoKind_IsYes => first | rfl | k_is)
    (case q_NoKind_IsYes => first | rfl | decide)
    (case p_NoKind_NoDeal => first | rfl | k_is)
    (case q_NoKind_NoDeal => first | rfl | decide)
    (case p_NoKind_NoHands => first | rfl | k_is)
    (case q_NoKind_NoHands => first | rfl | decide)
    (case p_NoKind_NoHistory => first | rfl | k_is)
    (case q_NoKind_NoHistory => first | rfl | decide)
    (case p_NoKind_NoLog => first | rfl | k_is)
    (case q_NoKind_NoLog => first | rfl | decide)
    (case p_NoKind_NoOrders => first | rfl | k_is)
    (case q_NoKind_NoOrders => first | rfl | decide)
    (case p_NoKind_NoStore => first | rfl | k_is)
    (case q_NoKind_NoStore => first | rfl | decide)
    (case p_NoKind_NoText => first | rfl | k_is)
    (case q_NoKind_NoText => first | rfl | decide)
    (case p_NoKind_NotSound => first | rfl | k_is)
    (case q_NoKind_NotSound => first | rfl | decide)
    (case p_NoKind_TooMany => first | rfl | k_is)
    (case q_NoKind_TooMany => first | rfl | decide)
    (case p_NoKind_ValueError => first | rfl | k_is)
