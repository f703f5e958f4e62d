import PyProof.Rows.All
import Wide.All
import OpenK.AllK
import Wide.FinOn
import HandS.ForMost
import HandS.SetFor
import HandS.Deep
import HandS.Conv
import HandS.IsInst
import HandS.Style
import HandS.TupAny
import PyProof.Rows.ListMulArg
import PyProof.StrOps2
import HandS.RevTup
import PySem.Challenge.RW_dealcourt_k37_circles_bent_anywhere
set_option Elab.async false
set_option linter.all false
set_option maxRecDepth 100000
set_option maxHeartbeats 2000000
/-! DL: a data layer over the hand layer: values are data (PyData), lists and dicts of the def's own are slots. -/
namespace DL
open PySem PySem.Spec PyProof.Rows L2
set_option autoImplicit true

/-! ### slots and values -/
inductive Sl where
  | un | d (x : PyData) | lst (fr : Bool) (xs : List PyData) | dct (kvs : List (Key × PyData)) | v (x : V)
inductive Vl where
  | d (x : PyData) | new (xs : List PyData) | newD | bor (i : Nat) | v (x : V)
abbrev Ow := Addr → Option Nat
abbrev Ep := List Sl
def look : Ep → Nat → Sl
  | [], _ => .un
  | s :: _, 0 => s
  | _ :: r, n + 1 => look r n
def put : Ep → Nat → Sl → Ep
  | [], _, _ => []
  | _ :: r, 0, s => s :: r
  | a :: r, n + 1, s => a :: put r n s
theorem put_length : ∀ (ε : Ep) (i : Nat) (s : Sl), (put ε i s).length = ε.length
  | [], _, _ => rfl
  | _ :: _, 0, _ => rfl
  | _ :: r, n + 1, s => congrArg (· + 1) (put_length r n s)
theorem look_put_self : ∀ {ε : Ep} {i : Nat} {s : Sl}, i < ε.length → look (put ε i s) i = s
  | [], _, _, h => absurd h (Nat.not_lt_zero _)
  | _ :: _, 0, _, _ => rfl
  | _ :: r, n + 1, s, h => look_put_self (ε := r) (Nat.lt_of_succ_lt_succ h)
theorem look_put_ne : ∀ {ε : Ep} {i j : Nat} {s : Sl}, j ≠ i → look (put ε i s) j = look ε j
  | [], _, _, _, _ => rfl
  | _ :: _, 0, 0, _, h => absurd rfl h
  | _ :: _, 0, _ + 1, _, _ => rfl
  | _ :: _, _ + 1, 0, _, _ => rfl
  | _ :: r, n + 1, m + 1, s, h => look_put_ne (ε := r) fun e => h (congrArg (· + 1) e)
theorem look_out : ∀ {ε : Ep} {i : Nat}, ε.length ≤ i → look ε i = .un
  | [], _, _ => rfl
  | _ :: _, 0, h => absurd h (Nat.not_succ_le_zero _)
  | _ :: r, n + 1, h => look_out (ε := r) (Nat.le_of_succ_le_succ h)
theorem look_lt {ε : Ep} {i : Nat} (h : look ε i ≠ .un) : i < ε.length := by
  by_cases z : i < ε.length
  · exact z
  · exact absurd (look_out (Nat.le_of_not_lt z)) h

/-! ### decisions: simp goes into none of their ways -/
def onB (b : Bool) (X Y : Prop) : Prop := match b with
  | true => X
  | false => Y
theorem onB_t {X Y : Prop} : onB true X Y = X := rfl
theorem onB_f {X Y : Prop} : onB false X Y = Y := rfl
def onO {α : Type} (o : Option α) (k : α → Prop) : Prop := match o with
  | some d => k d
  | none => False
theorem onO_s {α : Type} {d : α} {k : α → Prop} : onO (some d) k = k d := rfl
theorem onO_get {α : Type} {o : Option α} {k : α → Prop} (h : onO o k) : ∃ d, o = some d ∧ k d := by
  cases o with
  | none => exact h.elim
  | some d => exact ⟨d, rfl, h⟩
theorem onO_of {α : Type} {o : Option α} {d : α} {k : α → Prop} (h : o = some d) (q : k d) : onO o k := by rw [h]; exact q
theorem onB_dec {P X Y : Prop} [Decidable P] (h1 : P → X) (h2 : ¬ P → Y) : onB (decide P) X Y := by
  by_cases h : P
  · rw [decide_eq_true h]; exact h1 h
  · rw [decide_eq_false h]; exact h2 h
theorem onB_beq {α : Type} [BEq α] [LawfulBEq α] {a b : α} {X Y : Prop} (h1 : a = b → X) (h2 : ¬ a = b → Y) : onB (a == b) X Y := by
  cases h : a == b with
  | true => exact h1 (eq_of_beq h)
  | false => exact h2 (fun e => by rw [e, beq_self_eq_true] at h; cases h)
theorem onB_ofT {b : Bool} {X Y : Prop} (h : b = true) (q : X) : onB b X Y := by rw [h]; exact q
theorem onB_ofF {b : Bool} {X Y : Prop} (h : b = false) (q : Y) : onB b X Y := by rw [h]; exact q
/-! ### data: as Dp of the hand layer, no list of the written part -/
mutual
inductive Dd (K : PySem.W.Frag) (H : Hp) : V → PyData → Prop
  | non : Dd K H .non .none
  | bl (b : Bool) : Dd K H (.bl b) (.bool b)
  | int (i : Int) : Dd K H (.int i) (.int i)
  | str (x : Str) : Dd K H (.str x) (.str x)
  | lst {a : Addr} {us : List V} {es : List PyData} : SqL K H a us → DdAll K H us es → Dd K H (.ref a) (.list es)
  | tup {a : Addr} {us : List V} {es : List PyData} : SqT K H a us → DdAll K H us es → Dd K H (.ref a) (.tuple es)
  | dct {a : Addr} : H a = some (.dK []) → Dd K H (.ref a) (.dict [])
inductive DdAll (K : PySem.W.Frag) (H : Hp) : List V → List PyData → Prop
  | nil : DdAll K H [] []
  | cons {v : V} {us : List V} {d : PyData} {es : List PyData} : Dd K H v d → DdAll K H us es → DdAll K H (v :: us) (d :: es)
end
mutual
theorem Dd.dp {K : PySem.W.Frag} {H : Hp} : ∀ {v : V} (d : PyData), Dd K H v d → d.canLay0 = true → Dp K H v d
  | _, .none, h, _ => by cases h; exact .non
  | _, .bool b, h, _ => by cases h; exact .bl b
  | _, .int b, h, _ => by cases h; exact .int b
  | _, .str b, h, _ => by cases h; exact .str b
  | _, .list ds, h, c => by
    cases h with
    | lst hs ha => exact .lst hs (DdAll.dp ds ha (by simpa [PyData.canLay0] using c))
  | _, .tuple ds, h, c => by
    cases h with
    | tup hs ha => exact .tup hs (DdAll.dp ds ha (by simpa [PyData.canLay0] using c))
  | _, .dict _, _, c => by simp [PyData.canLay0] at c
theorem DdAll.dp {K : PySem.W.Frag} {H : Hp} : ∀ {vs : List V} (ds : List PyData), DdAll K H vs ds → PyData.canLayAll0 ds = true → DpAll K H vs ds
  | _, [], h, _ => by cases h; exact .nil
  | _, d :: ds, h, c => by
    simp only [PyData.canLayAll0, Bool.and_eq_true] at c
    cases h with
    | cons h1 h2 => exact .cons (h1.dp d c.1) (DdAll.dp ds h2 c.2)
end
/-! ### data and heaps -/
section
variable {K : PySem.W.Frag} {H H' : Hp}
theorem seqT (e : Same H H') {a : Addr} {xs : List V} (h : SqT K H a xs) : SqT K H' a xs := by
  rcases h with (h | ⟨o, h⟩) | h
  · exact .inl (.inl (e _ _ h))
  · exact .inl (.inr ⟨o, e _ _ h⟩)
  · exact .inr h
mutual
theorem dp_ex (e : Same H H') : ∀ {v : V} (d : PyData), Dd K H v d → Dd K H' v d
  | _, .none, h => by cases h; exact .non
  | _, .bool b, h => by cases h; exact .bl b
  | _, .int b, h => by cases h; exact .int b
  | _, .str b, h => by cases h; exact .str b
  | _, .list ds, h => by
    cases h with
    | lst hs ha => exact .lst (e.seq hs) (dpa_ex e ds ha)
  | _, .tuple ds, h => by
    cases h with
    | tup hs ha => exact .tup (seqT e hs) (dpa_ex e ds ha)
  | _, .dict _, h => by
    cases h with
    | dct hs => exact .dct (e _ _ hs)
theorem dpa_ex (e : Same H H') : ∀ {vs : List V} (ds : List PyData), DdAll K H vs ds → DdAll K H' vs ds
  | _, [], h => by cases h; exact .nil
  | _, d :: ds, h => by
    cases h with
    | cons h1 h2 => exact .cons (dp_ex e d h1) (dpa_ex e ds h2)
end
theorem dpa_len : ∀ {vs : List V} {ds : List PyData}, DdAll K H vs ds → vs.length = ds.length
  | _, _, .nil => rfl
  | _, _, .cons _ t => congrArg (· + 1) (dpa_len t)
theorem dpa_get : ∀ {vs : List V} {ds : List PyData} {i : Nat} {d : PyData}, DdAll K H vs ds → ds[i]? = some d → ∃ v, vs[i]? = some v ∧ Dd K H v d
  | _, _, _, _, .nil, e => by simp at e
  | _, _, 0, _, .cons h _, e => by simp at e; subst e; exact ⟨_, rfl, h⟩
  | _, _, i + 1, d, .cons _ t, e => by
    obtain ⟨v, h1, h2⟩ := dpa_get (i := i) (d := d) t (by simpa using e)
    exact ⟨v, by simpa using h1, h2⟩
theorem dpa_get2 : ∀ {vs : List V} {ds : List PyData} {i : Nat} {v : V}, DdAll K H vs ds → vs[i]? = some v → ∃ d, ds[i]? = some d ∧ Dd K H v d
  | _, _, _, _, .nil, e => by simp at e
  | _, _, 0, _, .cons h _, e => by simp at e; subst e; exact ⟨_, rfl, h⟩
  | _, _, i + 1, d, .cons _ t, e => by
    obtain ⟨v, h1, h2⟩ := dpa_get2 (i := i) (v := d) t (by simpa using e)
    exact ⟨v, by simpa using h1, h2⟩
theorem dpa_app : ∀ {vs us : List V} {ds es : List PyData}, DdAll K H vs ds → DdAll K H us es → DdAll K H (vs ++ us) (ds ++ es)
  | _, _, _, _, .nil, s => s
  | _, _, _, _, .cons h t, s => .cons h (dpa_app t s)
theorem dpa_one {v : V} {d : PyData} (h : Dd K H v d) : DdAll K H [v] [d] := .cons h .nil
theorem dpa_take : ∀ {vs : List V} {ds : List PyData} (n : Nat), DdAll K H vs ds → DdAll K H (vs.take n) (ds.take n)
  | _, _, 0, _ => .nil
  | _, _, n + 1, .nil => .nil
  | _, _, n + 1, .cons h t => .cons h (dpa_take n t)
theorem dpa_drop : ∀ {vs : List V} {ds : List PyData} (n : Nat), DdAll K H vs ds → DdAll K H (vs.drop n) (ds.drop n)
  | _, _, 0, h => h
  | _, _, n + 1, .nil => .nil
  | _, _, n + 1, .cons _ t => dpa_drop n t
theorem dpa_set : ∀ {vs : List V} {ds : List PyData} {v : V} {d : PyData} (n : Nat), Dd K H v d → DdAll K H vs ds → DdAll K H (vs.set n v) (ds.set n d)
  | _, _, _, _, _, _, .nil => .nil
  | _, _, _, _, 0, h, .cons _ t => .cons h t
  | _, _, _, _, n + 1, h, .cons a t => .cons a (dpa_set n h t)
theorem dpa_erase : ∀ {vs : List V} {ds : List PyData} (n : Nat), DdAll K H vs ds → DdAll K H (vs.eraseIdx n) (ds.eraseIdx n)
  | _, _, _, .nil => .nil
  | _, _, 0, .cons _ t => t
  | _, _, n + 1, .cons a t => .cons a (dpa_erase n t)
theorem dpa_ints : ∀ {vs : List V} (ns : List Int), DdAll K H vs (ns.map .int) → vs = ns.map V.int
  | _, [], h => by cases h; rfl
  | _, n :: ns, h => by
    cases h with
    | cons h1 h2 =>
      cases h1
      rw [dpa_ints ns h2]
      rfl
theorem dpa_ofInts : ∀ (ns : List Int), DdAll K H (ns.map V.int) (ns.map .int)
  | [] => .nil
  | n :: ns => .cons (.int n) (dpa_ofInts ns)
theorem dpa_strs : ∀ {vs : List V} (ns : List Str), DdAll K H vs (ns.map .str) → vs = ns.map V.str
  | _, [], h => by cases h; rfl
  | _, n :: ns, h => by
    cases h with
    | cons h1 h2 =>
      cases h1
      rw [dpa_strs ns h2]
      rfl
theorem dpa_ofStrs : ∀ (ns : List Str), DdAll K H (ns.map V.str) (ns.map .str)
  | [] => .nil
  | n :: ns => .cons (.str n) (dpa_ofStrs ns)
end
theorem same_new {H : Hp} {p : Addr} (h : H p = none) (o : HO) : Same H (upd H p o) := fun b u q => by rw [upd_ne (ne_of_none q h)]; exact q
theorem same_mut {G H : Hp} {p : Addr} (e : Same G H) (h : G p = none) (o : HO) : Same G (upd H p o) := fun b u q => by rw [upd_ne (ne_of_none q h)]; exact e b u q
theorem same_two {G H : Hp} {p : Addr} (e : Same G H) (h : H p = none) (o : HO) : Same (upd G p o) (upd H p o) := fun b u q => by
  by_cases hb : b = p
  · subst hb
    rw [upd_same] at q ⊢
    exact q
  · rw [upd_ne hb] at q ⊢
    exact e b u q
theorem same_frz {G H : Hp} {p : Addr} {o : HO} (e : Same G H) (h : H p = some o) : Same (upd G p o) H := fun b u q => by
  by_cases hb : b = p
  · subst hb
    rw [upd_same] at q
    rw [h]
    exact q
  · rw [upd_ne hb] at q
    exact e b u q

def KvOk (K : PySem.W.Frag) (G : Hp) (a : List (Key × V)) (b : List (Key × PyData)) : Prop := Paired (fun (p : Key × V) (q : Key × PyData) => p.1 = q.1 ∧ Dd K G p.2 q.2) a b

structure Ct where
  H0 : Hp
  par : Nat → Option Addr
def SlOk (K : PySem.W.Frag) (c : Ct) (G H : Hp) (ow : Ow) (i : Nat) : Sl → Option V → Prop
  | .un, _ => True
  | .d x, o => ∃ v, o = some v ∧ Dd K G v x
  | .lst fr xs, o => ∃ p vs, o = some (.ref p) ∧ ow p = some i ∧ G p = none ∧ H p = some (.lst vs) ∧ DdAll K G vs xs ∧ (fr = true → c.H0 p = none) ∧ (fr = false → c.par i = some p)
  | .dct kvs, o => ∃ p kv, o = some (.ref p) ∧ ow p = some i ∧ G p = none ∧ H p = some (.dK kv) ∧ KvOk K G kv kvs
  | .v x, o => o = some x
structure Rep (K : PySem.W.Frag) (c : Ct) (G H : Hp) (ow : Ow) (σ : L2.St) (ε : Ep) : Prop where
  ex : Same G H
  dom : ∀ a, H a = none → c.H0 a = none
  len : σ.length = ε.length
  sl : ∀ i o, σ[i]? = some o → SlOk K c G H ow i (look ε i) o
structure Fr (G H : Hp) (ow : Ow) (G' H' : Hp) (ow' : Ow) : Prop where
  ex : Same G G'
  st : ∀ a o, H a = some o → ow a = none → H' a = some o ∧ ow' a = none ∧ (G a = none → G' a = none)
  dom : ∀ a, H' a = none → H a = none
theorem Fr.refl (G H : Hp) (ow : Ow) : Fr G H ow G H ow := ⟨Same.refl G, fun _ _ h1 h2 => ⟨h1, h2, fun h => h⟩, fun _ h => h⟩
theorem Fr.trans {G H ow G1 H1 ow1 G2 H2 ow2} (a : Fr G H ow G1 H1 ow1) (b : Fr G1 H1 ow1 G2 H2 ow2) : Fr G H ow G2 H2 ow2 where
  ex := a.ex.trans b.ex
  st := fun x o h1 h2 => by
    obtain ⟨q1, q2, q3⟩ := a.st x o h1 h2
    obtain ⟨r1, r2, r3⟩ := b.st x o q1 q2
    exact ⟨r1, r2, fun h => r3 (q3 h)⟩
  dom := fun x h => a.dom x (b.dom x h)
def VOk (K : PySem.W.Frag) (Hs G H : Hp) (ow : Ow) (σ : L2.St) : Vl → V → Prop
  | .d x, v => Dd K G v x
  | .new xs, v => ∃ p vs, v = .ref p ∧ Hs p = none ∧ ow p = none ∧ G p = none ∧ H p = some (.lst vs) ∧ DdAll K G vs xs
  | .newD, v => ∃ p, v = .ref p ∧ Hs p = none ∧ ow p = none ∧ G p = none ∧ H p = some (.dK [])
  | .bor i, v => σ[i]? = some (some v)
  | .v x, v => v = x
def VsOk (K : PySem.W.Frag) (Hs G H : Hp) (ow : Ow) (σ : L2.St) : List Vl → List V → Prop
  | [], vs => vs = []
  | r :: rs, vs => ∃ v us, vs = v :: us ∧ VOk K Hs G H ow σ r v ∧ VsOk K Hs G H ow σ rs us
section
variable {K : PySem.W.Frag} {c : Ct} {Hs G H G' H' : Hp} {ow ow' : Ow} {σ : L2.St} {ε ε' : Ep}
theorem VOk.fr {r : Vl} {v : V} (h : VOk K Hs G H ow σ r v) (F : Fr G H ow G' H' ow') : VOk K Hs G' H' ow' σ r v := by
  cases r with
  | d x => exact dp_ex F.ex x h
  | new xs =>
    obtain ⟨p, vs, e, h1, h2, h3, h4, h5⟩ := h
    obtain ⟨q1, q2, q3⟩ := F.st p _ h4 h2
    exact ⟨p, vs, e, h1, q2, q3 h3, q1, dpa_ex F.ex xs h5⟩
  | newD =>
    obtain ⟨p, e, h1, h2, h3, h4⟩ := h
    obtain ⟨q1, q2, q3⟩ := F.st p _ h4 h2
    exact ⟨p, e, h1, q2, q3 h3, q1⟩
  | bor i => exact h
  | v x => exact h
theorem VOk.since {Hr : Hp} {r : Vl} {v : V} (h : VOk K Hs G H ow σ r v) (d : ∀ a, Hs a = none → Hr a = none) : VOk K Hr G H ow σ r v := by
  cases r with
  | d x => exact h
  | new xs =>
    obtain ⟨p, vs, e, h1, h2⟩ := h
    exact ⟨p, vs, e, d p h1, h2⟩
  | newD =>
    obtain ⟨p, e, h1, h2⟩ := h
    exact ⟨p, e, d p h1, h2⟩
  | bor i => exact h
  | v x => exact h
theorem VsOk.fr : ∀ {rs : List Vl} {vs : List V}, VsOk K Hs G H ow σ rs vs → Fr G H ow G' H' ow' → VsOk K Hs G' H' ow' σ rs vs
  | [], _, h, _ => h
  | _ :: _, _, ⟨v, us, e, h1, h2⟩, F => ⟨v, us, e, h1.fr F, h2.fr F⟩
theorem VsOk.since {Hr : Hp} : ∀ {rs : List Vl} {vs : List V}, VsOk K Hs G H ow σ rs vs → (∀ a, Hs a = none → Hr a = none) → VsOk K Hr G H ow σ rs vs
  | [], _, h, _ => h
  | _ :: _, _, ⟨v, us, e, h1, h2⟩, F => ⟨v, us, e, h1.since F, h2.since F⟩

/-- what may be read: data that stands for good, or a list as it is now -/
def Pk (K : PySem.W.Frag) (G H : Hp) (v : V) (x : PyData) : Prop := Dd K G v x ∨ ∃ p vs xs, v = .ref p ∧ x = .list xs ∧ H p = some (.lst vs) ∧ DdAll K G vs xs
theorem Pk.dp {v : V} {x : PyData} (e : Same G H) (h : Pk K G H v x) : Dd K H v x := by
  rcases h with h | ⟨p, vs, xs, rfl, rfl, h1, h2⟩
  · exact dp_ex e x h
  · exact .lst (.inl (.inl h1)) (dpa_ex e xs h2)
theorem Pk.list {v : V} {xs : List PyData} (e : Same G H) (h : Pk K G H v (.list xs)) : ∃ p vs, v = .ref p ∧ SqL K H p vs ∧ DdAll K G vs xs := by
  rcases h with h | ⟨p, vs, ys, rfl, e1, h1, h2⟩
  · cases h with
    | lst hs ha => exact ⟨_, _, rfl, e.seq hs, ha⟩
  · cases e1
    exact ⟨p, vs, rfl, .inl (.inl h1), h2⟩
theorem Pk.tuple {v : V} {xs : List PyData} (e : Same G H) (h : Pk K G H v (.tuple xs)) : ∃ p vs, v = .ref p ∧ SqT K H p vs ∧ DdAll K G vs xs := by
  rcases h with h | ⟨p, vs, ys, rfl, e1, h1, h2⟩
  · cases h with
    | tup hs ha => exact ⟨_, _, rfl, seqT e hs, ha⟩
  · cases e1
theorem Pk.int {v : V} {i : Int} (h : Pk K G H v (.int i)) : v = .int i := by
  rcases h with h | ⟨p, vs, ys, _, e1, _⟩
  · cases h; rfl
  · cases e1
theorem Pk.bl {v : V} {i : Bool} (h : Pk K G H v (.bool i)) : v = .bl i := by
  rcases h with h | ⟨p, vs, ys, _, e1, _⟩
  · cases h; rfl
  · cases e1
theorem Pk.str {v : V} {i : Str} (h : Pk K G H v (.str i)) : v = .str i := by
  rcases h with h | ⟨p, vs, ys, _, e1, _⟩
  · cases h; rfl
  · cases e1
def peek (ε : Ep) : Vl → Option PyData
  | .d x => some x
  | .new xs => some (.list xs)
  | .bor i => match look ε i with
    | .d x => some x
    | .lst _ xs => some (.list xs)
    | _ => none
  | _ => none
theorem Rep.at {i : Nat} {o : Option V} (R : Rep K c G H ow σ ε) (h : σ[i]? = some o) : SlOk K c G H ow i (look ε i) o := R.sl i o h
theorem Rep.some_at {i : Nat} (R : Rep K c G H ow σ ε) (h : look ε i ≠ .un) : ∃ o, σ[i]? = some o := by
  have h1 := look_lt h
  rw [← R.len] at h1
  exact ⟨σ[i], List.getElem?_eq_getElem h1⟩
theorem peek_ok {r : Vl} {v : V} {x : PyData} (R : Rep K c G H ow σ ε) (h : VOk K Hs G H ow σ r v) (e : peek ε r = some x) : Pk K G H v x := by
  cases r with
  | d y => cases e; exact .inl h
  | new xs =>
    cases e
    obtain ⟨p, vs, e, h1, h2, h3, h4, h5⟩ := h
    exact .inr ⟨p, vs, xs, e, rfl, h4, h5⟩
  | newD => cases e
  | v y => cases e
  | bor i =>
    have h : σ[i]? = some (some v) := h
    have q := R.at h
    cases hl : look ε i with
    | un => simp [peek, hl] at e
    | dct _ => simp [peek, hl] at e
    | v _ => simp [peek, hl] at e
    | d y =>
      simp only [peek, hl, Option.some.injEq] at e
      rw [hl] at q
      subst e
      obtain ⟨u, e1, e2⟩ := q
      cases e1
      exact .inl e2
    | lst fr xs =>
      simp only [peek, hl, Option.some.injEq] at e
      rw [hl] at q
      subst e
      obtain ⟨p, vs, e1, _, _, e4, e5, _⟩ := q
      cases e1
      exact .inr ⟨p, vs, xs, rfl, rfl, e4, e5⟩
def peekAll (ε : Ep) : List Vl → Option (List PyData)
  | [] => some []
  | r :: rs => match peek ε r, peekAll ε rs with
    | some x, some xs => some (x :: xs)
    | _, _ => none
inductive PkAll (K : PySem.W.Frag) (G H : Hp) : List V → List PyData → Prop
  | nil : PkAll K G H [] []
  | cons {v vs x xs} : Pk K G H v x → PkAll K G H vs xs → PkAll K G H (v :: vs) (x :: xs)
theorem peekAll_ok (R : Rep K c G H ow σ ε) : ∀ {rs : List Vl} {vs : List V} {xs : List PyData}, VsOk K Hs G H ow σ rs vs → peekAll ε rs = some xs → PkAll K G H vs xs
  | [], _, _, h, e => by cases h; cases e; exact .nil
  | r :: rs, _, xs, ⟨v, us, e1, h1, h2⟩, e => by
    subst e1
    cases q1 : peek ε r with
    | none => simp [peekAll, q1] at e
    | some x =>
      cases q2 : peekAll ε rs with
      | none => simp [peekAll, q1, q2] at e
      | some ys =>
        simp only [peekAll, q1, q2, Option.some.injEq] at e
        subst e
        exact .cons (peek_ok R h1 q1) (peekAll_ok R h2 q2)

/-! ### the heap grows, is frozen, is changed -/
def owc (ow : Ow) (p : Addr) (x : Option Nat) : Ow := fun a => if a = p then x else ow a
theorem owc_self {p : Addr} {x : Option Nat} : owc ow p x p = x := by unfold owc; rw [if_pos rfl]
theorem owc_ne {p q : Addr} {x : Option Nat} (h : q ≠ p) : owc ow p x q = ow q := by unfold owc; rw [if_neg h]
theorem SlOk.grow {i : Nat} {s : Sl} {o : Option V} (h : SlOk K c G H ow i s o) (e1 : Same G G') (k : ∀ p u, ow p = some i → G p = none → H p = some u → ow' p = some i ∧ G' p = none ∧ H' p = some u) : SlOk K c G' H' ow' i s o := by
  cases s with
  | un => trivial
  | d x =>
    obtain ⟨v, e, h⟩ := h
    exact ⟨v, e, dp_ex e1 x h⟩
  | lst fr xs =>
    obtain ⟨p, vs, e, h1, h2, h3, h4, h5⟩ := h
    obtain ⟨q1, q2, q3⟩ := k p _ h1 h2 h3
    exact ⟨p, vs, e, q1, q2, q3, dpa_ex e1 xs h4, h5⟩
  | dct kvs =>
    obtain ⟨p, kv, e, h1, h2, h3, h4⟩ := h
    obtain ⟨q1, q2, q3⟩ := k p _ h1 h2 h3
    exact ⟨p, kv, e, q1, q2, q3, Paired.mapP h4 fun a b z => ⟨z.1, dp_ex e1 _ z.2⟩⟩
  | v x => exact h
/-- a new object, not frozen -/
theorem grow_new {p : Addr} {o : HO} (R : Rep K c G H ow σ ε) (hp : H p = none) : Fr G H ow G (upd H p o) (owc ow p none) ∧ Rep K c G (upd H p o) (owc ow p none) σ ε ∧ owc ow p none p = none ∧ G p = none := by
  have hg : G p = none := Same.free R.ex hp
  refine ⟨⟨Same.refl G, fun a u h1 h2 => ?_, fun a h => ?_⟩, ⟨same_mut R.ex hg o, fun a h => ?_, R.len, fun i s h => ?_⟩, owc_self, hg⟩
  · have hne : a ≠ p := ne_of_none h1 hp
    rw [upd_ne hne, owc_ne hne]
    exact ⟨h1, h2, fun z => z⟩
  · by_cases ha : a = p
    · subst ha
      rw [upd_same] at h
      cases h
    · rw [upd_ne ha] at h
      exact h
  · by_cases ha : a = p
    · subst ha
      rw [upd_same] at h
      cases h
    · rw [upd_ne ha] at h
      exact R.dom a h
  · refine (R.sl i s h).grow (Same.refl G) fun q u z1 z2 z3 => ?_
    have hne : q ≠ p := ne_of_none z3 hp
    rw [upd_ne hne, owc_ne hne]
    exact ⟨z1, z2, z3⟩
/-- a new object, frozen at once -/
theorem grow_frz {p : Addr} {o : HO} (R : Rep K c G H ow σ ε) (hp : H p = none) : Fr G H ow (upd G p o) (upd H p o) ow ∧ Rep K c (upd G p o) (upd H p o) ow σ ε := by
  have hg : G p = none := Same.free R.ex hp
  refine ⟨⟨same_new hg o, fun a u h1 h2 => ?_, fun a h => ?_⟩, ⟨same_two R.ex hp o, fun a h => ?_, R.len, fun i s h => ?_⟩⟩
  · have hne : a ≠ p := ne_of_none h1 hp
    rw [upd_ne hne, upd_ne hne]
    exact ⟨h1, h2, fun z => z⟩
  · by_cases ha : a = p
    · subst ha
      rw [upd_same] at h
      cases h
    · rw [upd_ne ha] at h
      exact h
  · by_cases ha : a = p
    · subst ha
      rw [upd_same] at h
      cases h
    · rw [upd_ne ha] at h
      exact R.dom a h
  · refine (R.sl i s h).grow (same_new hg o) fun q u z1 z2 z3 => ?_
    have hne : q ≠ p := ne_of_none z3 hp
    rw [upd_ne hne, upd_ne hne]
    exact ⟨z1, z2, z3⟩
/-- freezing -/
def frz (ε : Ep) : Vl → Option (PyData × Ep)
  | .d x => some (x, ε)
  | .newD => some (.dict [], ε)
  | .new xs => some (.list xs, ε)
  | .bor i => match look ε i with
    | .d x => some (x, ε)
    | .lst _ xs => some (.list xs, put ε i (.d (.list xs)))
    | _ => none
  | _ => none
theorem frz_ok {Gs : Hp} {ows : Ow} {r : Vl} {v : V} {x : PyData} (F : Fr Gs Hs ows G H ow) (R : Rep K c G H ow σ ε) (h : VOk K Hs G H ow σ r v) (e : frz ε r = some (x, ε')) : ∃ G', Fr Gs Hs ows G' H ow ∧ Same G G' ∧ Rep K c G' H ow σ ε' ∧ Dd K G' v x := by
  cases r with
  | d y => cases e; exact ⟨G, F, Same.refl G, R, h⟩
  | v y => cases e
  | newD =>
    cases e
    obtain ⟨p, rfl, h1, h2, h3, h4⟩ := h
    have sg : Same G (upd G p (.dK [])) := same_new h3 _
    refine ⟨upd G p (.dK []), ⟨F.ex.trans sg, fun a u z1 z2 => ?_, F.dom⟩, sg, ⟨same_frz R.ex h4, R.dom, R.len, fun i s z => ?_⟩, .dct upd_same⟩
    · obtain ⟨q1, q2, q3⟩ := F.st a u z1 z2
      refine ⟨q1, q2, fun z => ?_⟩
      rw [upd_ne (ne_of_none z1 h1)]
      exact q3 z
    · refine (R.sl i s z).grow sg fun q u z1 z2 z3 => ⟨z1, ?_, z3⟩
      have hne : q ≠ p := fun e => by
        rw [e, h2] at z1
        cases z1
      rw [upd_ne hne]
      exact z2
  | new xs =>
    cases e
    obtain ⟨p, vs, rfl, h1, h2, h3, h4, h5⟩ := h
    have sg : Same G (upd G p (.lst vs)) := same_new h3 _
    refine ⟨upd G p (.lst vs), ⟨F.ex.trans sg, fun a u z1 z2 => ?_, F.dom⟩, sg, ⟨same_frz R.ex h4, R.dom, R.len, fun i s z => ?_⟩, .lst (.inl (.inl upd_same)) (dpa_ex sg xs h5)⟩
    · obtain ⟨q1, q2, q3⟩ := F.st a u z1 z2
      refine ⟨q1, q2, fun z => ?_⟩
      rw [upd_ne (ne_of_none z1 h1)]
      exact q3 z
    · refine (R.sl i s z).grow sg fun q u z1 z2 z3 => ⟨z1, ?_, z3⟩
      have hne : q ≠ p := fun e => by
        rw [e, h2] at z1
        cases z1
      rw [upd_ne hne]
      exact z2
  | bor i =>
    have h : σ[i]? = some (some v) := h
    have q := R.at h
    cases hl : look ε i with
    | un => simp [frz, hl] at e
    | dct _ => simp [frz, hl] at e
    | v _ => simp [frz, hl] at e
    | d y =>
      simp only [frz, hl, Option.some.injEq, Prod.mk.injEq] at e
      rw [hl] at q
      obtain ⟨rfl, rfl⟩ := e
      obtain ⟨u, e1, e2⟩ := q
      cases e1
      exact ⟨G, F, Same.refl G, R, e2⟩
    | lst fr xs =>
      simp only [frz, hl, Option.some.injEq, Prod.mk.injEq] at e
      rw [hl] at q
      obtain ⟨rfl, rfl⟩ := e
      obtain ⟨p, vs, e1, h2, h3, h4, h5, _⟩ := q
      cases e1
      have sg : Same G (upd G p (.lst vs)) := same_new h3 _
      have dd : Dd K (upd G p (.lst vs)) (.ref p) (.list xs) := .lst (.inl (.inl upd_same)) (dpa_ex sg xs h5)
      have hi : i < ε.length := look_lt (by rw [hl]; exact fun z => nomatch z)
      refine ⟨upd G p (.lst vs), ⟨F.ex.trans sg, fun a u z1 z2 => ?_, F.dom⟩, sg, ⟨same_frz R.ex h4, R.dom, by rw [put_length]; exact R.len, fun j s z => ?_⟩, dd⟩
      · obtain ⟨q1, q2, q3⟩ := F.st a u z1 z2
        refine ⟨q1, q2, fun z => ?_⟩
        rw [upd_ne (fun e => by rw [e, h2] at q2; cases q2)]
        exact q3 z
      · by_cases hj : j = i
        · subst hj
          rw [look_put_self hi]
          rw [h] at z
          cases z
          exact ⟨_, rfl, dd⟩
        · rw [look_put_ne hj]
          refine (R.sl j s z).grow sg fun q u z1 z2 z3 => ⟨z1, ?_, z3⟩
          have hne : q ≠ p := fun e => by
            rw [e, h2] at z1
            exact hj (Option.some.inj z1).symm
          rw [upd_ne hne]
          exact z2
/-- a list of the def's own is changed -/
theorem mut_lst {i : Nat} {fr : Bool} {xs ys : List PyData} {v : V} (R : Rep K c G H ow σ ε) (h : σ[i]? = some (some v)) (hl : look ε i = .lst fr xs) :
    ∃ p vs, v = .ref p ∧ H p = some (.lst vs) ∧ DdAll K G vs xs ∧ ∀ us, DdAll K G us ys → Fr G H ow G (upd H p (.lst us)) ow ∧ Rep K c G (upd H p (.lst us)) ow σ (put ε i (.lst fr ys)) := by
  have q := R.at h
  rw [hl] at q
  obtain ⟨p, vs, e1, h2, h3, h4, h5, h6⟩ := q
  cases e1
  have hi : i < ε.length := look_lt (by rw [hl]; exact fun z => nomatch z)
  refine ⟨p, vs, rfl, h4, h5, fun us hu => ⟨⟨Same.refl G, fun a u z1 z2 => ?_, fun a z => ?_⟩, ⟨same_mut R.ex h3 _, fun a z => ?_, by rw [put_length]; exact R.len, fun j s z => ?_⟩⟩⟩
  · have hne : a ≠ p := fun e => by
      rw [e, h2] at z2
      cases z2
    rw [upd_ne hne]
    exact ⟨z1, z2, fun z => z⟩
  · by_cases ha : a = p
    · subst ha
      rw [upd_same] at z
      cases z
    · rw [upd_ne ha] at z
      exact z
  · by_cases ha : a = p
    · subst ha
      rw [upd_same] at z
      cases z
    · rw [upd_ne ha] at z
      exact R.dom a z
  · by_cases hj : j = i
    · subst hj
      rw [look_put_self hi]
      rw [h] at z
      cases z
      exact ⟨p, us, rfl, h2, h3, upd_same, hu, h6⟩
    · rw [look_put_ne hj]
      refine (R.sl j s z).grow (Same.refl G) fun q u z1 z2 z3 => ⟨z1, z2, ?_⟩
      have hne : q ≠ p := fun e => by
        rw [e, h2] at z1
        exact hj (Option.some.inj z1).symm
      rw [upd_ne hne]
      exact z3
/-- a name is stored -/
def slOf (ε : Ep) (r : Vl) : Option (Sl × Ep) := match r with
  | .new xs => some (.lst true xs, ε)
  | .newD => some (.dct [], ε)
  | .v x => some (.v x, ε)
  | r => match frz ε r with
    | some (x, ε') => some (.d x, ε')
    | none => none
theorem rep_put {i : Nat} {s : Sl} {v : V} (R : Rep K c G H ow σ ε) (hi : i < ε.length) (h : SlOk K c G H ow i s (some v)) : Rep K c G H ow (σ.set i (some v)) (put ε i s) := by
  refine ⟨R.ex, R.dom, by rw [put_length, List.length_set]; exact R.len, fun j o z => ?_⟩
  by_cases hj : j = i
  · subst hj
    rw [look_put_self hi]
    rw [List.getElem?_set_self (by rw [R.len]; exact hi)] at z
    cases z
    exact h
  · rw [look_put_ne hj]
    rw [List.getElem?_set_ne (fun e => hj e.symm)] at z
    exact R.sl j o z
theorem store_sl {Gs : Hp} {ows : Ow} {i : Nat} {r : Vl} {v : V} {s : Sl} (F : Fr Gs Hs ows G H ow) (hd : ∀ a, Hs a = none → c.H0 a = none) (R : Rep K c G H ow σ ε) (h : VOk K Hs G H ow σ r v) (hi : i < ε.length) (e : slOf ε r = some (s, ε')) :
    ∃ G' ow', Fr Gs Hs ows G' H ow' ∧ Rep K c G' H ow' (σ.set i (some v)) (put ε' i s) := by
  have fin : ∀ x, frz ε r = some (x, ε') → ∃ G' ow', Fr Gs Hs ows G' H ow' ∧ Rep K c G' H ow' (σ.set i (some v)) (put ε' i (.d x)) := fun x q => by
    obtain ⟨G', F', sg, R', d⟩ := frz_ok F R h q
    have hl : ε'.length = ε.length := R'.len.symm.trans R.len
    exact ⟨G', ow, F', rep_put R' (by rw [hl]; exact hi) ⟨v, rfl, d⟩⟩
  have owned : ∀ (p : Addr) (u : HO), Hs p = none → ow p = none → H p = some u → Fr Gs Hs ows G H (owc ow p (some i)) ∧ Rep K c G H (owc ow p (some i)) σ ε := fun p u z1 z2 z3 => by
    refine ⟨⟨F.ex, fun a w y1 y2 => ?_, F.dom⟩, ⟨R.ex, R.dom, R.len, fun j o z => (R.sl j o z).grow (Same.refl G) fun q w y1 y2 y3 => ⟨?_, y2, y3⟩⟩⟩
    · obtain ⟨q1, q2, q3⟩ := F.st a w y1 y2
      rw [owc_ne (ne_of_none y1 z1)]
      exact ⟨q1, q2, q3⟩
    · rw [owc_ne (fun e => by rw [e, z2] at y1; cases y1)]
      exact y1
  cases r with
  | d x => cases e; exact fin x rfl
  | v x =>
    cases e
    exact ⟨G, ow, F, rep_put R hi (congrArg some h)⟩
  | new xs =>
    cases e
    obtain ⟨p, vs, rfl, h1, h2, h3, h4, h5⟩ := h
    obtain ⟨F', R'⟩ := owned p _ h1 h2 h4
    exact ⟨G, _, F', rep_put R' hi ⟨p, vs, rfl, owc_self, h3, h4, h5, fun _ => hd p h1, fun z => nomatch z⟩⟩
  | newD =>
    cases e
    obtain ⟨p, rfl, h1, h2, h3, h4⟩ := h
    obtain ⟨F', R'⟩ := owned p _ h1 h2 h4
    exact ⟨G, _, F', rep_put R' hi ⟨p, [], rfl, owc_self, h3, h4, .nil⟩⟩
  | bor j =>
    unfold slOf at e
    cases q : frz ε (.bor j) with
    | none => simp only [q] at e; cases e
    | some z =>
      obtain ⟨x, ε2⟩ := z
      simp only [q] at e
      cases e
      exact fin x q
end

/-! ### forgotten slots -/
theorem wipe_in {σ : L2.St} {j : Nat} : ∀ {vs : List Nat}, j ∈ vs → j < σ.length → (wipe σ vs)[j]? = some none
  | [], h, _ => by simp at h
  | v :: vs, h, hl => by
    unfold wipe
    by_cases e : v = j
    · subst e
      exact List.getElem?_set_self (by rw [wipe_length]; exact hl)
    · rw [List.getElem?_set_ne e]
      rcases List.mem_cons.mp h with q | q
      · exact absurd q.symm e
      · exact wipe_in q hl
theorem wipe_set {σ : L2.St} {i : Nat} {x : Option V} {vs : List Nat} (h : i ∈ vs) : wipe (σ.set i x) vs = wipe σ vs := by
  apply List.ext_getElem?
  intro j
  by_cases hj : j ∈ vs
  · by_cases hl : j < σ.length
    · rw [wipe_in hj hl, wipe_in hj (by rw [List.length_set]; exact hl)]
    · rw [List.getElem?_eq_none (by rw [wipe_length, List.length_set]; omega), List.getElem?_eq_none (by rw [wipe_length]; omega)]
  · rw [wipe_out hj, wipe_out hj, List.getElem?_set_ne (fun e => hj (by rw [← e]; exact h))]
def wipeE (ε : Ep) : List Nat → Ep
  | [] => ε
  | v :: vs => put (wipeE ε vs) v .un
theorem wipeE_length (ε : Ep) : ∀ vs : List Nat, (wipeE ε vs).length = ε.length
  | [] => rfl
  | v :: vs => by unfold wipeE; rw [put_length, wipeE_length ε vs]
theorem look_wipe_in {ε : Ep} {j : Nat} : ∀ {vs : List Nat}, j ∈ vs → look (wipeE ε vs) j = .un
  | [], h => by simp at h
  | v :: vs, h => by
    unfold wipeE
    by_cases e : j = v
    · subst e
      by_cases hl : j < (wipeE ε vs).length
      · exact look_put_self hl
      · exact look_out (by rw [put_length]; omega)
    · rw [look_put_ne e]
      rcases List.mem_cons.mp h with q | q
      · exact absurd q e
      · exact look_wipe_in q
theorem look_wipe_out {ε : Ep} {j : Nat} : ∀ {vs : List Nat}, j ∉ vs → look (wipeE ε vs) j = look ε j
  | [], _ => rfl
  | v :: vs, h => by
    unfold wipeE
    rw [look_put_ne (fun e => h (by rw [e]; exact List.mem_cons_self))]
    exact look_wipe_out fun m => h (List.mem_cons_of_mem _ m)
theorem rep_wipe {K : PySem.W.Frag} {c : Ct} {G H : Hp} {ow : Ow} {σ : L2.St} {ε : Ep} (vs : List Nat) (R : Rep K c G H ow σ ε) : Rep K c G H ow (wipe σ vs) (wipeE ε vs) := by
  refine ⟨R.ex, R.dom, by rw [wipe_length, wipeE_length]; exact R.len, fun j o z => ?_⟩
  by_cases hj : j ∈ vs
  · rw [look_wipe_in hj]
    trivial
  · rw [look_wipe_out hj]
    rw [wipe_out hj] at z
    exact R.sl j o z
def keepS : Sl → Sl
  | .d x => .d x
  | .v x => .v x
  | _ => .un
def rstE (ε : Ep) (ε' : Ep) : List Nat → Ep
  | [] => ε'
  | v :: vs => put (rstE ε ε' vs) v (keepS (look ε v))
theorem rstE_length (ε ε' : Ep) : ∀ vs : List Nat, (rstE ε ε' vs).length = ε'.length
  | [] => rfl
  | v :: vs => by unfold rstE; rw [put_length, rstE_length ε ε' vs]
theorem look_rst_in {ε ε' : Ep} {j : Nat} (hl : j < ε'.length) : ∀ {vs : List Nat}, j ∈ vs → look (rstE ε ε' vs) j = keepS (look ε j)
  | [], h => by simp at h
  | v :: vs, h => by
    unfold rstE
    by_cases e : j = v
    · subst e
      exact look_put_self (by rw [rstE_length]; exact hl)
    · rw [look_put_ne e]
      rcases List.mem_cons.mp h with q | q
      · exact absurd q e
      · exact look_rst_in hl q
theorem look_rst_out {ε ε' : Ep} {j : Nat} : ∀ {vs : List Nat}, j ∉ vs → look (rstE ε ε' vs) j = look ε' j
  | [], _ => rfl
  | v :: vs, h => by
    unfold rstE
    rw [look_put_ne (fun e => h (by rw [e]; exact List.mem_cons_self))]
    exact look_rst_out fun m => h (List.mem_cons_of_mem _ m)
theorem rep_rst {K : PySem.W.Frag} {c : Ct} {G H G' H' : Hp} {ow ow' : Ow} {σ : L2.St} {ε ε' : Ep} {vs : List Nat} (R : Rep K c G H ow σ ε) (sg : Same G G') (R' : Rep K c G' H' ow' (wipe σ vs) ε') : Rep K c G' H' ow' σ (rstE ε ε' vs) := by
  refine ⟨R'.ex, R'.dom, by rw [rstE_length, ← R'.len, wipe_length], fun j o z => ?_⟩
  by_cases hj : j ∈ vs
  · have hl : j < ε'.length := by
      rw [← R'.len, wipe_length]
      exact (List.getElem?_eq_some_iff.mp z).1
    rw [look_rst_in hl hj]
    have q := R.sl j o z
    cases hs : look ε j with
    | d x =>
      rw [hs] at q
      obtain ⟨v, e, d⟩ := q
      exact ⟨v, e, dp_ex sg x d⟩
    | v x =>
      rw [hs] at q
      exact q
    | un => trivial
    | lst _ _ => trivial
    | dct _ => trivial
  · rw [look_rst_out hj]
    rw [← wipe_out (vs := vs) hj] at z
    exact R'.sl j o z
/-! ### judgements -/
abbrev TD := Ep → (Vl → Ep → Prop) → Prop
abbrev TDT := Ep → (Bool → Ep → Prop) → Prop
abbrev TDA := Ep → (List Vl → Ep → Prop) → Prop
abbrev TDF := Ep → (List PyData → Ep → Prop) → Prop
structure DEnds where
  nx : Ep → Prop
  rt : Vl → Ep → Prop
  bk : Ep → Prop := fun _ => False
  ct : Ep → Prop := fun _ => False
abbrev TDS := DEnds → Ep → Prop
abbrev TDG := PyData → Ep → (Ep → Prop) → Prop
abbrev TDGs := List PyData → Ep → (Ep → Prop) → Prop
def rdV (K : PySem.W.Frag) (t : TD) : TE := fun σ H Q => ∃ c G ow ε A, Rep K c G H ow σ ε ∧ t ε A ∧ ∀ r ε' G' H' ow' v, A r ε' → Fr G H ow G' H' ow' → Rep K c G' H' ow' σ ε' → VOk K H G' H' ow' σ r v → Q v H'
def rdT (K : PySem.W.Frag) (t : TDT) : TT := fun σ H Q => ∃ c G ow ε A, Rep K c G H ow σ ε ∧ t ε A ∧ ∀ b ε' G' H' ow', A b ε' → Fr G H ow G' H' ow' → Rep K c G' H' ow' σ ε' → Q b H'
def rdA (K : PySem.W.Frag) (t : TDA) : TA := fun σ H Q => ∃ c G ow ε A, Rep K c G H ow σ ε ∧ t ε A ∧ ∀ rs ε' G' H' ow' vs, A rs ε' → Fr G H ow G' H' ow' → Rep K c G' H' ow' σ ε' → VsOk K H G' H' ow' σ rs vs → Q vs H'
def rdF (K : PySem.W.Frag) (t : TDF) : TA := fun σ H Q => ∃ c G ow ε A, Rep K c G H ow σ ε ∧ t ε A ∧ ∀ ds ε' G' H' ow' vs, A ds ε' → Fr G H ow G' H' ow' → Rep K c G' H' ow' σ ε' → DdAll K G' vs ds → Q vs H'
def rdS (K : PySem.W.Frag) (t : TDS) : TS := fun D σ H => ∃ c G ow ε A, Rep K c G H ow σ ε ∧ t A ε ∧
  (∀ ε' σ' G' H' ow', A.nx ε' → Fr G H ow G' H' ow' → Rep K c G' H' ow' σ' ε' → D.nx σ' H') ∧
  (∀ r ε' σ' G' H' ow' v, A.rt r ε' → Fr G H ow G' H' ow' → Rep K c G' H' ow' σ' ε' → VOk K c.H0 G' H' ow' [] r v → D.rt v H') ∧
  (∀ ε' σ' G' H' ow', A.bk ε' → Fr G H ow G' H' ow' → Rep K c G' H' ow' σ' ε' → D.bk σ' H') ∧
  (∀ ε' σ' G' H' ow', A.ct ε' → Fr G H ow G' H' ow' → Rep K c G' H' ow' σ' ε' → D.ct σ' H')
def Wrt (ws : List Nat) (σ σ' : L2.St) : Prop := ∀ vs : List Nat, (∀ j ∈ ws, j ∈ vs) → wipe σ' vs = wipe σ vs
def rdG (K : PySem.W.Frag) (ws : List Nat) (g : TDG) : TG := fun v σ H Q => ∃ c G ow ε x A, Rep K c G H ow σ ε ∧ Dd K G v x ∧ g x ε A ∧ ∀ ε' σ' G' H' ow', A ε' → Fr G H ow G' H' ow' → Rep K c G' H' ow' σ' ε' → Wrt ws σ σ' → Q σ' H'
def rdGs (K : PySem.W.Frag) (ws : List Nat) (g : TDGs) : TGs := fun vs σ H Q => ∃ c G ow ε xs A, Rep K c G H ow σ ε ∧ DdAll K G vs xs ∧ g xs ε A ∧ ∀ ε' σ' G' H' ow', A ε' → Fr G H ow G' H' ow' → Rep K c G' H' ow' σ' ε' → Wrt ws σ σ' → Q σ' H'
abbrev DV (X : Cx) (e : Expr) (t : TD) : Prop := PE X e (rdV X.K t)
abbrev DT (X : Cx) (e : Expr) (t : TDT) : Prop := PT X e (rdT X.K t)
abbrev DW (X : Cx) (e : Expr) (t : TDT) : Prop := PW X e (rdT X.K t)
abbrev DA (X : Cx) (es : List Expr) (t : TDA) : Prop := PA X es (rdA X.K t)
abbrev DF (X : Cx) (es : List Expr) (t : TDF) : Prop := PA X es (rdF X.K t)
abbrev DS (X : Cx) (st : Stmt) (t : TDS) : Prop := PS X st (rdS X.K t)
abbrev DSs (X : Cx) (st : List Stmt) (t : TDS) : Prop := PSs X st (rdS X.K t)
abbrev DG (X : Cx) (e : Expr) (ws : List Nat) (g : TDG) : Prop := PG X e (rdG X.K ws g)
abbrev DGs (X : Cx) (es : List Expr) (ws : List Nat) (g : TDGs) : Prop := PGs X es (rdGs X.K ws g)
section
variable {X : Cx}
theorem pe_w {e : Expr} {t t' : TE} (h : PE X e t) (i : ∀ σ H Q, t' σ H Q → t σ H Q) : PE X e t' := ⟨fun pins s σ H Q I q => h.run pins s σ H Q I (i σ H Q q)⟩
theorem pt_w {e : Expr} {t t' : TT} (h : PT X e t) (i : ∀ σ H Q, t' σ H Q → t σ H Q) : PT X e t' := ⟨fun pins s σ H Q I q => h.run pins s σ H Q I (i σ H Q q)⟩
theorem pw_w {e : Expr} {t t' : TT} (h : PW X e t) (i : ∀ σ H Q, t' σ H Q → t σ H Q) : PW X e t' := ⟨fun wh pins s σ H Q I q => h.run wh pins s σ H Q I (i σ H Q q)⟩
theorem pa_w {e : List Expr} {t t' : TA} (h : PA X e t) (i : ∀ σ H Q, t' σ H Q → t σ H Q) : PA X e t' := ⟨fun pos pins s σ H Q I q => h.run pos pins s σ H Q I (i σ H Q q)⟩
theorem ps_w {e : Stmt} {t t' : TS} (h : PS X e t) (i : ∀ D σ H, t' D σ H → t D σ H) : PS X e t' := ⟨fun pins s σ H D I q => h.run pins s σ H D I (i D σ H q)⟩
theorem pss_w {e : List Stmt} {t t' : TS} (h : PSs X e t) (i : ∀ D σ H, t' D σ H → t D σ H) : PSs X e t' := ⟨fun pins s σ H D I q => h.run pins s σ H D I (i D σ H q)⟩
theorem pg_w {e : Expr} {t t' : TG} (h : PG X e t) (i : ∀ v σ H Q, t' v σ H Q → t v σ H Q) : PG X e t' := ⟨fun pins s σ H v u Q I r q => h.run pins s σ H v u Q I r (i v σ H Q q)⟩
theorem pe_wl {e : Expr} {t t' : TE} (h : PE X e t) (i : ∀ σ H Q, σ.length = X.N.length → t' σ H Q → t σ H Q) : PE X e t' := ⟨fun pins s σ H Q I q => h.run pins s σ H Q I (i σ H Q I.len q)⟩
theorem ps_wl {e : Stmt} {t t' : TS} (h : PS X e t) (i : ∀ D σ H, σ.length = X.N.length → t' D σ H → t D σ H) : PS X e t' := ⟨fun pins s σ H D I q => h.run pins s σ H D I (i D σ H I.len q)⟩
theorem pg_wl {e : Expr} {t t' : TG} (h : PG X e t) (i : ∀ v σ H Q, σ.length = X.N.length → t' v σ H Q → t v σ H Q) : PG X e t' := ⟨fun pins s σ H v u Q I r q => h.run pins s σ H v u Q I r (i v σ H Q I.len q)⟩
theorem pgs_w {e : List Expr} {t t' : TGs} (h : PGs X e t) (i : ∀ v σ H Q, t' v σ H Q → t v σ H Q) : PGs X e t' := ⟨fun pins s σ H v u Q I r q => h.run pins s σ H v u Q I r (i v σ H Q q)⟩
end

/-! ### names, constants -/
def dVar (i : Nat) : TD := fun ε A => match look ε i with
  | .d x => A (.d x) ε
  | .lst _ _ => A (.bor i) ε
  | .dct _ => A (.bor i) ε
  | .v x => A (.v x) ε
  | .un => False
def dC (d : PyData) : TD := fun ε A => A (.d d) ε
section
variable {X : Cx}
theorem dvar_rd {K : PySem.W.Frag} {i : Nat} {σ : L2.St} {H : Hp} {Q : VK} (h : rdV K (dVar i) σ H Q) : tVar i σ H Q := by
  obtain ⟨c, G, ow, ε, A, R, h, k⟩ := h
  unfold dVar at h
  cases hl : look ε i with
  | un => rw [hl] at h; exact h.elim
  | d x =>
    rw [hl] at h
    obtain ⟨o, ho⟩ := R.some_at (i := i) (by rw [hl]; exact fun z => nomatch z)
    have q := R.at ho
    rw [hl] at q
    obtain ⟨v, rfl, d⟩ := q
    exact ⟨v, ho, k _ _ G H ow v h (Fr.refl _ _ _) R d⟩
  | lst fr xs =>
    rw [hl] at h
    obtain ⟨o, ho⟩ := R.some_at (i := i) (by rw [hl]; exact fun z => nomatch z)
    have q := R.at ho
    rw [hl] at q
    obtain ⟨p, vs, rfl, _⟩ := q
    exact ⟨_, ho, k _ _ G H ow _ h (Fr.refl _ _ _) R ho⟩
  | dct xs =>
    rw [hl] at h
    obtain ⟨o, ho⟩ := R.some_at (i := i) (by rw [hl]; exact fun z => nomatch z)
    have q := R.at ho
    rw [hl] at q
    obtain ⟨p, vs, rfl, _⟩ := q
    exact ⟨_, ho, k _ _ G H ow _ h (Fr.refl _ _ _) R ho⟩
  | v x =>
    rw [hl] at h
    obtain ⟨o, ho⟩ := R.some_at (i := i) (by rw [hl]; exact fun z => nomatch z)
    have q := R.at ho
    rw [hl] at q
    have q : o = some x := q
    subst q
    exact ⟨_, ho, k _ _ G H ow _ h (Fr.refl _ _ _) R rfl⟩
theorem dv (i : Nat) {x : Str} {pos : Pos} (hN : X.N[i]? = some x := by rfl) (hv : Vis X.env.scope x := by first | exact Or.inl rfl | exact Or.inr (Or.inl rfl) | exact Or.inr (Or.inr rfl)) (hd : (x == ("__debug__" : Str)) = false := by decide)
    (hcd : (x == ("__classdict__" : Str)) = false := by decide) : DV X (.Name x pos) (dVar i) := pe_w (pe_var hN hv hd hcd) fun _ _ _ h => dvar_rd h
theorem dc_rd {K : PySem.W.Frag} {v : V} {d : PyData} {σ : L2.St} {H : Hp} {Q : VK} (hd : ∀ G, Dd K G v d) (h : rdV K (dC d) σ H Q) : tC v σ H Q := by
  obtain ⟨c, G, ow, ε, A, R, h, k⟩ := h
  exact k _ _ G H ow v h (Fr.refl _ _ _) R (hd G)
theorem dv_int {i j pos} : DV X (.Constant (.int i) j pos) (dC (.int i)) := pe_w pe_int fun _ _ _ h => dc_rd (fun _ => .int i) h
theorem dv_bl {b j pos} : DV X (.Constant (.bool b) j pos) (dC (.bool b)) := pe_w pe_bl fun _ _ _ h => dc_rd (fun _ => .bl b) h
theorem dv_non {j pos} : DV X (.Constant .none j pos) (dC .none) := pe_w pe_non fun _ _ _ h => dc_rd (fun _ => .non) h
theorem dv_str {x j pos} : DV X (.Constant (.str x) j pos) (dC (.str x)) := pe_w pe_str fun _ _ _ h => dc_rd (fun _ => .str x) h
/-- a constant of the module -/
theorem dv_glob {x : Str} {v : V} {d : PyData} {u : Value} {pos : Pos} (hg : Gl X x) (hm : X.mg x = some u) (r : RelV v u) (hD : ∀ G, Dd X.K G v d) (hd : (x == ("__debug__" : Str)) = false := by decide) : DV X (.Name x pos) (dC d) :=
  pe_w (pe_glob hg hm r hd) fun _ _ _ h => dc_rd hD h
end

/-! ### what an operation makes -/
inductive Res (K : PySem.W.Frag) (G H : Hp) : Vl → V → Hp → Prop
  | val {v : V} {d : PyData} : Dd K G v d → Res K G H (.d d) v H
  | lst {p : Addr} {vs : List V} {xs : List PyData} : H p = none → DdAll K G vs xs → Res K G H (.new xs) (.ref p) (upd H p (.lst vs))
  | tup {p : Addr} {vs : List V} {xs : List PyData} : H p = none → DdAll K G vs xs → Res K G H (.d (.tuple xs)) (.ref p) (upd H p (.tup vs))
  | dct {p : Addr} : H p = none → Res K G H .newD (.ref p) (upd H p (.dK []))
  | raw {v : V} : Res K G H (.v v) v H
theorem res_fin {K : PySem.W.Frag} {c : Ct} {G H H' : Hp} {ow : Ow} {σ : L2.St} {ε : Ep} {r : Vl} {v : V} (R : Rep K c G H ow σ ε) (h : Res K G H r v H') : ∃ G' ow', Fr G H ow G' H' ow' ∧ Rep K c G' H' ow' σ ε ∧ VOk K H G' H' ow' σ r v := by
  cases h with
  | val d => exact ⟨G, ow, Fr.refl _ _ _, R, d⟩
  | raw => exact ⟨G, ow, Fr.refl _ _ _, R, rfl⟩
  | lst hp hd =>
    obtain ⟨F, R', z1, z2⟩ := grow_new (o := .lst _) R hp
    exact ⟨G, _, F, R', ⟨_, _, rfl, hp, z1, z2, upd_same, hd⟩⟩
  | dct hp =>
    obtain ⟨F, R', z1, z2⟩ := grow_new (o := .dK []) R hp
    exact ⟨G, _, F, R', ⟨_, rfl, hp, z1, z2, upd_same⟩⟩
  | tup hp hd =>
    obtain ⟨F, R'⟩ := grow_frz (o := .tup _) R hp
    exact ⟨_, ow, F, R', .tup (.inl (.inl upd_same)) (dpa_ex F.ex _ hd)⟩
def OpD (K : PySem.W.Frag) (r : R2) (k : PyData → PyData → (Vl → Prop) → Prop) : Prop := ∀ G H x y v1 v2 (A : Vl → Prop) (Q : VK), Same G H → Pk K G H v1 x → Pk K G H v2 y → k x y A → (∀ r v H', A r → Res K G H r v H' → Q v H') → r v1 v2 H Q
def UnD (K : PySem.W.Frag) (r : V → Hp → VK → Prop) (k : PyData → (Vl → Prop) → Prop) : Prop := ∀ G H x v1 (A : Vl → Prop) (Q : VK), Same G H → Pk K G H v1 x → k x A → (∀ r v H', A r → Res K G H r v H' → Q v H') → r v1 H Q
def CallD (K : PySem.W.Frag) (r : List V → Hp → VK → Prop) (k : List PyData → (Vl → Prop) → Prop) : Prop := ∀ G H xs vs (A : Vl → Prop) (Q : VK), Same G H → PkAll K G H vs xs → k xs A → (∀ r v H', A r → Res K G H r v H' → Q v H') → r vs H Q
def dOp (k : PyData → PyData → (Vl → Prop) → Prop) (ta tb : TD) : TD := fun ε A => ta ε fun r1 ε1 => tb ε1 fun r2 ε2 => match peek ε2 r1, peek ε2 r2 with
  | some x, some y => k x y fun r => A r ε2
  | _, _ => False
def dUn (k : PyData → (Vl → Prop) → Prop) (ta : TD) : TD := fun ε A => ta ε fun r1 ε1 => match peek ε1 r1 with
  | some x => k x fun r => A r ε1
  | _ => False
section
variable {X : Cx} {a b : Expr} {ta tb : TD} {pos : Pos} {k : PyData → PyData → (Vl → Prop) → Prop} {r : R2}
theorem dop_rd {K : PySem.W.Frag} {σ : L2.St} {H : Hp} {Q : VK} (hk : OpD K r k) (h : rdV K (dOp k ta tb) σ H Q) : tOp r (rdV K ta) (rdV K tb) σ H Q := by
  obtain ⟨c, G, ow, ε, A, R, h, kk⟩ := h
  refine ⟨c, G, ow, ε, _, R, h, fun r1 ε1 G1 H1 ow1 v1 h1 F1 R1 V1 => ⟨c, G1, ow1, ε1, _, R1, h1, fun r2 ε2 G2 H2 ow2 v2 h2 F2 R2 V2 => ?_⟩⟩
  have F := F1.trans F2
  cases e1 : peek ε2 r1 with
  | none => simp only [e1] at h2
  | some x =>
    cases e2 : peek ε2 r2 with
    | none => simp only [e1, e2] at h2
    | some y =>
      simp only [e1, e2] at h2
      refine hk G2 H2 x y v1 v2 _ Q R2.ex (peek_ok R2 (V1.fr F2) e1) (peek_ok R2 V2 e2) h2 fun r v H' hr hres => ?_
      obtain ⟨G', ow', F3, R3, V3⟩ := res_fin R2 hres
      exact kk r ε2 G' H' ow' v hr (F.trans F3) R3 (V3.since F.dom)
theorem dv_op {op : Operator} (ho : OpR X (binaryOp op) r) (hk : OpD X.K r k) (ha : DV X a ta) (hb : DV X b tb) : DV X (.BinOp a op b pos) (dOp k ta tb) := pe_w (pe_op ho ha hb) fun _ _ _ h => dop_rd hk h
theorem dv_cmp {op : CmpOp} (ho : OpR X (compareOp op) r) (hk : OpD X.K r k) (ha : DV X a ta) (hb : DV X b tb) (hm : behindInMarks op b = false) : DV X (.Compare a [op] [b] pos) (dOp k ta tb) := pe_w (pe_cmpR ho ha hb hm) fun _ _ _ h => dop_rd hk h
theorem dv_ix (hr : IxR X r) (hk : OpD X.K r k) (ha : DV X a ta) (hb : DV X b tb) (hs : PlainIx b) : DV X (.Subscript a b pos) (dOp k ta tb) := pe_w (pe_ix hr ha hb hs) fun _ _ _ h => dop_rd hk h
/-- a value as a test -/
def dTest (t : TD) : TDT := fun ε A => t ε fun r ε1 => match r with
  | .d (.bool b) => A b ε1
  | _ => False
theorem dtest_rd {K : PySem.W.Frag} {t : TD} {σ : L2.St} {H : Hp} {Q : Bool → Hp → Prop} (h : rdT K (dTest t) σ H Q) : rdV K t σ H (fun x H1 => ∃ c, x = .bl c ∧ Q c H1) := by
  obtain ⟨c, G, ow, ε, A, R, h, kk⟩ := h
  refine ⟨c, G, ow, ε, _, R, h, fun r1 ε1 G1 H1 ow1 v1 h1 F1 R1 V1 => ?_⟩
  cases r1 with
  | d x =>
    cases x with
    | bool b =>
      have V1 : Dd K G1 v1 (.bool b) := V1
      cases V1
      exact ⟨b, rfl, kk b ε1 G1 H1 ow1 h1 F1 R1⟩
    | _ => exact h1.elim
  | _ => exact h1.elim
theorem dt_cmp {op : CmpOp} (ho : OpR X (compareOp op) r) (hk : OpD X.K r k) (ha : DV X a ta) (hb : DV X b tb) (hm : behindInMarks op b = false) : DT X (.Compare a [op] [b] pos) (dTest (dOp k ta tb)) := pt_w (pt_cmpR ho ha hb hm) fun _ _ _ h => by
  obtain ⟨c, G, ow, ε, A, R, h, kk⟩ := dtest_rd h
  exact dop_rd hk ⟨c, G, ow, ε, A, R, h, kk⟩
theorem dt_val {e : Expr} {t : TD} (h : DV X e t) (he : ∀ whole, isTrue e X.env whole = (do let v ← whole; standAt e.pos; holding [v] (truthy v)) := by intro _; rfl) : DT X e (dTest t) := pt_w (pt_val h he) fun _ _ _ h => dtest_rd h
end
/-! ### and, or, not -/
def dAnd (t u : TDT) : TDT := fun ε A => t ε fun c ε1 => onB c (u ε1 A) (A false ε1)
def dOr (t u : TDT) : TDT := fun ε A => t ε fun c ε1 => onB c (A true ε1) (u ε1 A)
def dNot (t : TDT) : TDT := fun ε A => t ε fun c ε1 => A (!c) ε1
def dAndV (t u : TD) : TD := fun ε A => t ε fun r ε1 => match r with
  | .d (.bool b) => onB b (u ε1 A) (A (.d (.bool false)) ε1)
  | _ => False
def dOrV (t u : TD) : TD := fun ε A => t ε fun r ε1 => match r with
  | .d (.bool b) => onB b (A (.d (.bool true)) ε1) (u ε1 A)
  | _ => False
def dNotV (t : TD) : TD := fun ε A => t ε fun r ε1 => match r with
  | .d (.bool b) => A (.d (.bool (!b))) ε1
  | _ => False
def dIfE (c : TDT) (t u : TD) : TD := fun ε A => c ε fun b ε1 => onB b (t ε1 A) (u ε1 A)
section
variable {X : Cx} {a b : Expr} {rest : List Expr} {tA tB' : TDT} {ta tb : TD} {pos : Pos} {K : PySem.W.Frag} {σ : L2.St} {H : Hp}
theorem rdt_fr {t : TDT} {c : Ct} {G : Hp} {ow : Ow} {ε : Ep} {A : Bool → Ep → Prop} {Gs Hs : Hp} {ows : Ow} {Q : Bool → Hp → Prop} (R : Rep K c G H ow σ ε) (F : Fr Gs Hs ows G H ow) (h : t ε A) (kk : ∀ b ε' G' H' ow', A b ε' → Fr Gs Hs ows G' H' ow' → Rep K c G' H' ow' σ ε' → Q b H') : rdT K t σ H Q :=
  ⟨c, G, ow, ε, A, R, h, fun b ε' G' H' ow' h1 F1 R1 => kk b ε' G' H' ow' h1 (F.trans F1) R1⟩
theorem rdv_fr {t : TD} {c : Ct} {G : Hp} {ow : Ow} {ε : Ep} {A : Vl → Ep → Prop} {Gs Hs : Hp} {ows : Ow} {Q : VK} (R : Rep K c G H ow σ ε) (F : Fr Gs Hs ows G H ow) (h : t ε A) (kk : ∀ r ε' G' H' ow' v, A r ε' → Fr Gs Hs ows G' H' ow' → Rep K c G' H' ow' σ ε' → VOk K Hs G' H' ow' σ r v → Q v H') : rdV K t σ H Q :=
  ⟨c, G, ow, ε, A, R, h, fun r ε' G' H' ow' v h1 F1 R1 V => kk r ε' G' H' ow' v h1 (F.trans F1) R1 (V.since F.dom)⟩
theorem dw_and1 (ha : DT X a tA) : DW X (.BoolOp .And [a] pos) tA := pw_and1 ha
theorem dw_or1 (ha : DT X a tA) : DW X (.BoolOp .Or [a] pos) tA := pw_or1 ha
theorem dw_and (ha : DT X a tA) (hb : DW X (.BoolOp .And (b :: rest) pos) tB') : DW X (.BoolOp .And (a :: b :: rest) pos) (dAnd tA tB') := pw_w (pw_and ha hb) fun σ H Q ⟨c, G, ow, ε, A, R, h, kk⟩ =>
  ⟨c, G, ow, ε, _, R, h, fun d ε1 G1 H1 ow1 h1 F1 R1 => by
    cases d with
    | true => exact iteT (rdt_fr R1 F1 h1 kk)
    | false => exact iteF (kk false ε1 G1 H1 ow1 h1 F1 R1)⟩
theorem dw_or (ha : DT X a tA) (hb : DW X (.BoolOp .Or (b :: rest) pos) tB') : DW X (.BoolOp .Or (a :: b :: rest) pos) (dOr tA tB') := pw_w (pw_or ha hb) fun σ H Q ⟨c, G, ow, ε, A, R, h, kk⟩ =>
  ⟨c, G, ow, ε, _, R, h, fun d ε1 G1 H1 ow1 h1 F1 R1 => by
    cases d with
    | true => exact iteT (kk true ε1 G1 H1 ow1 h1 F1 R1)
    | false => exact iteF (rdt_fr R1 F1 h1 kk)⟩
theorem dt_not (ha : DT X a tA) : DT X (.UnaryOp .Not a pos) (dNot tA) := pt_w (pt_not ha) fun σ H Q ⟨c, G, ow, ε, A, R, h, kk⟩ => ⟨c, G, ow, ε, _, R, h, fun d ε1 G1 H1 ow1 h1 F1 R1 => kk (!d) ε1 G1 H1 ow1 h1 F1 R1⟩
theorem dv_one {op} {t : TD} (h : DV X a t) : DV X (.BoolOp op [a] pos) t := pe_one h
theorem dv_and (ha : DV X a ta) (hb : DV X (.BoolOp .And (b :: rest) pos) tb) : DV X (.BoolOp .And (a :: b :: rest) pos) (dAndV ta tb) := pe_w (pe_and ha hb) fun σ H Q ⟨c, G, ow, ε, A, R, h, kk⟩ =>
  ⟨c, G, ow, ε, _, R, h, fun r ε1 G1 H1 ow1 v h1 F1 R1 V1 => by
    cases r with
    | d x =>
      cases x with
      | bool d =>
        have V1 : Dd X.K G1 v (.bool d) := V1
        cases V1
        refine ⟨d, rfl, ?_⟩
        cases d with
        | true => exact iteT (rdv_fr R1 F1 h1 kk)
        | false => exact iteF (kk _ ε1 G1 H1 ow1 (.bl false) h1 F1 R1 (.bl false))
      | _ => exact h1.elim
    | _ => exact h1.elim⟩
theorem dv_or (ha : DV X a ta) (hb : DV X (.BoolOp .Or (b :: rest) pos) tb) : DV X (.BoolOp .Or (a :: b :: rest) pos) (dOrV ta tb) := pe_w (pe_or ha hb) fun σ H Q ⟨c, G, ow, ε, A, R, h, kk⟩ =>
  ⟨c, G, ow, ε, _, R, h, fun r ε1 G1 H1 ow1 v h1 F1 R1 V1 => by
    cases r with
    | d x =>
      cases x with
      | bool d =>
        have V1 : Dd X.K G1 v (.bool d) := V1
        cases V1
        refine ⟨d, rfl, ?_⟩
        cases d with
        | false => exact iteF (rdv_fr R1 F1 h1 kk)
        | true => exact iteT (kk _ ε1 G1 H1 ow1 (.bl true) h1 F1 R1 (.bl true))
      | _ => exact h1.elim
    | _ => exact h1.elim⟩
theorem dv_not (ha : DV X a ta) : DV X (.UnaryOp .Not a pos) (dNotV ta) := pe_w (pe_not ha) fun σ H Q ⟨c, G, ow, ε, A, R, h, kk⟩ =>
  ⟨c, G, ow, ε, _, R, h, fun r ε1 G1 H1 ow1 v h1 F1 R1 V1 => by
    cases r with
    | d x =>
      cases x with
      | bool d =>
        have V1 : Dd X.K G1 v (.bool d) := V1
        cases V1
        exact ⟨d, rfl, kk _ ε1 G1 H1 ow1 (.bl (!d)) h1 F1 R1 (.bl _)⟩
      | _ => exact h1.elim
    | _ => exact h1.elim⟩
theorem dv_if {e : Expr} (hc : DT X e tA) (ha : DV X a ta) (hb : DV X b tb) : DV X (.IfExp e a b pos) (dIfE tA ta tb) := pe_w (pe_ifExp hc ha hb) fun σ H Q ⟨c, G, ow, ε, A, R, h, kk⟩ =>
  ⟨c, G, ow, ε, _, R, h, fun d ε1 G1 H1 ow1 h1 F1 R1 => by
    cases d with
    | true => exact iteT (rdv_fr R1 F1 h1 kk)
    | false => exact iteF (rdv_fr R1 F1 h1 kk)⟩
end
/-! ### arguments, displays -/
def daNil : TDA := fun ε A => A [] ε
def daCons (t : TD) (u : TDA) : TDA := fun ε A => t ε fun r ε1 => u ε1 fun rs ε2 => A (r :: rs) ε2
def dfNil : TDF := fun ε A => A [] ε
def dfCons (t : TD) (u : TDF) : TDF := fun ε A => t ε fun r ε1 => match frz ε1 r with
  | some (x, ε2) => u ε2 fun xs ε3 => A (x :: xs) ε3
  | none => False
def dTup (t : TDF) : TD := fun ε A => t ε fun xs ε1 => xs.length ≤ 1000000 ∧ A (.d (.tuple xs)) ε1
def dLst (t : TDF) : TD := fun ε A => t ε fun xs ε1 => xs.length ≤ 1000000 ∧ A (.new xs) ε1
theorem line_le {n : Nat} (h : n ≤ 1000000) : n ≤ sizeLine := Nat.le_trans h (by decide)
theorem line_lt {n : Nat} (h : n < 1000000) : n < sizeLine := Nat.lt_of_lt_of_le h (by decide)
section
variable {X : Cx} {e : Expr} {es : List Expr} {te : TD} {ta : TDA} {tf : TDF} {pos : Pos}
theorem da_nil : DA X [] daNil := pa_w pa_nil fun σ H Q ⟨c, G, ow, ε, A, R, h, kk⟩ => kk [] ε G H ow [] h (Fr.refl _ _ _) R rfl
theorem da_cons (ha : DV X e te) (hr : DA X es ta) (hs : starEach (e :: es) X.env = (false, eval e X.env) :: starEach es X.env := by rfl) : DA X (e :: es) (daCons te ta) := pa_w (pa_cons ha hr hs) fun σ H Q ⟨c, G, ow, ε, A, R, h, kk⟩ =>
  ⟨c, G, ow, ε, _, R, h, fun r ε1 G1 H1 ow1 v h1 F1 R1 V1 => ⟨c, G1, ow1, ε1, _, R1, h1, fun rs ε2 G2 H2 ow2 vs h2 F2 R2 V2 => kk _ ε2 G2 H2 ow2 _ h2 (F1.trans F2) R2 ⟨v, vs, rfl, V1.fr F2, V2.since F1.dom⟩⟩⟩
theorem df_nil : DF X [] dfNil := pa_w pa_nil fun σ H Q ⟨c, G, ow, ε, A, R, h, kk⟩ => kk [] ε G H ow [] h (Fr.refl _ _ _) R .nil
theorem df_cons (ha : DV X e te) (hr : DF X es tf) (hs : starEach (e :: es) X.env = (false, eval e X.env) :: starEach es X.env := by rfl) : DF X (e :: es) (dfCons te tf) := pa_w (pa_cons ha hr hs) fun σ H Q ⟨c, G, ow, ε, A, R, h, kk⟩ =>
  ⟨c, G, ow, ε, _, R, h, fun r ε1 G1 H1 ow1 v h1 F1 R1 V1 => by
    cases q : frz ε1 r with
    | none => simp only [q] at h1
    | some z =>
      obtain ⟨x, ε2⟩ := z
      simp only [q] at h1
      obtain ⟨G2, F2, sg, R2, d⟩ := frz_ok F1 R1 V1 q
      exact ⟨c, G2, ow1, ε2, _, R2, h1, fun xs ε3 G3 H3 ow3 vs h3 F3 R3 V3 => kk _ ε3 G3 H3 ow3 _ h3 (F2.trans F3) R3 (.cons (dp_ex F3.ex x d) V3)⟩⟩
theorem dv_tup {x1} (h : DF X es tf) : DV X (.Tuple es x1 pos) (dTup tf) := pe_w (pe_tup h) fun σ H Q ⟨c, G, ow, ε, A, R, h, kk⟩ =>
  ⟨c, G, ow, ε, _, R, h, fun xs ε1 G1 H1 ow1 vs h1 F1 R1 V1 => ⟨by rw [dpa_len V1]; exact line_le h1.1, fun p hp => by
    obtain ⟨G', ow', F2, R2, V2⟩ := res_fin R1 (.tup hp V1)
    exact kk _ ε1 G' _ ow' _ h1.2 (F1.trans F2) R2 (V2.since F1.dom)⟩⟩
theorem dv_lst (h : DF X es tf) : DV X (.List es pos) (dLst tf) := pe_w (pe_lst h) fun σ H Q ⟨c, G, ow, ε, A, R, h, kk⟩ =>
  ⟨c, G, ow, ε, _, R, h, fun xs ε1 G1 H1 ow1 vs h1 F1 R1 V1 => ⟨by rw [dpa_len V1]; exact line_le h1.1, fun p hp => by
    obtain ⟨G', ow', F2, R2, V2⟩ := res_fin R1 (.lst hp V1)
    exact kk _ ε1 G' _ ow' _ h1.2 (F1.trans F2) R2 (V2.since F1.dom)⟩⟩
end
def dDct : TD := fun ε A => A .newD ε
theorem dv_dnew {X : Cx} {pos : Pos} : DV X (.Dict [] [] pos) dDct := pe_w pe_dnewK fun σ H Q ⟨c, G, ow, ε, A, R, h, kk⟩ p hp => by
  obtain ⟨G', ow', F2, R2, V2⟩ := res_fin R (.dct hp)
  exact kk _ ε G' _ ow' _ h F2 R2 V2
/-! ### built-ins -/
def dCB (k : List PyData → (Vl → Prop) → Prop) (t : TDA) : TD := fun ε A => t ε fun rs ε1 => match peekAll ε1 rs with
  | some xs => k xs fun r => A r ε1
  | none => False
section
variable {X : Cx} {e : Expr} {es : List Expr} {ta : TDA} {pos p : Pos} {x : Str} {r : List V → Hp → VK → Prop} {k : List PyData → (Vl → Prop) → Prop} {id T : String}
theorem dcb_rd {K : PySem.W.Frag} {σ : L2.St} {H : Hp} {Q : VK} (hk : CallD K r k) (h : rdV K (dCB k ta) σ H Q) : tCB r (rdA K ta) σ H Q := by
  obtain ⟨c, G, ow, ε, A, R, h, kk⟩ := h
  refine ⟨c, G, ow, ε, _, R, h, fun rs ε1 G1 H1 ow1 vs h1 F1 R1 V1 => ?_⟩
  cases q : peekAll ε1 rs with
  | none => simp only [q] at h1
  | some xs =>
    simp only [q] at h1
    refine hk G1 H1 xs vs _ Q R1.ex (peekAll_ok R1 V1 q) h1 fun r v H' hr hres => ?_
    obtain ⟨G', ow', F3, R3, V3⟩ := res_fin R1 hres
    exact kk r ε1 G' H' ow' v hr (F1.trans F3) R3 (V3.since F1.dom)
theorem dv_callB (hc : CallR X (.builtin id) r) (hk : CallD X.K r k) (hg : Gl X x) (hm : X.mg x = none) (hv : bootBuiltins x = some (.builtin id)) (ha : DA X (e :: es) ta) (hn : x ≠ "__name__" := by decide) (hdb : (x == ("__debug__" : Str)) = false := by decide)
    (hs : starEach (e :: es) X.env = (false, eval e X.env) :: starEach es X.env := by rfl) (hp : (backTo pos (starEach es X.env)).any (·.1) = false := by rfl) : DV X (.Call (.Name x p) (e :: es) [] pos) (dCB k ta) := pe_w (pe_callB hc hg hm hv ha hn hdb hs hp) fun _ _ _ h => dcb_rd hk h
theorem dv_callTy (hc : CallR X (.type T) r) (hk : CallD X.K r k) (hg : Gl X x) (hm : X.mg x = none) (hv : bootBuiltins x = some (.type T)) (ha : DA X (e :: es) ta) (hn : x ≠ "__name__" := by decide) (hdb : (x == ("__debug__" : Str)) = false := by decide)
    (hs : starEach (e :: es) X.env = (false, eval e X.env) :: starEach es X.env := by rfl) (hp : (backTo pos (starEach es X.env)).any (·.1) = false := by rfl) : DV X (.Call (.Name x p) (e :: es) [] pos) (dCB k ta) := pe_w (pe_callTy hc hg hm hv ha hn hdb hs hp) fun _ _ _ h => dcb_rd hk h
end

/-! ### statements -/
def sNext : TDS := fun A ε => A.nx ε
def sSeq (t u : TDS) : TDS := fun A ε => t { A with nx := u A } ε
def sBrk : TDS := fun A ε => A.bk ε
def sCnt : TDS := fun A ε => A.ct ε
def sExpr (t : TD) : TDS := fun A ε => t ε fun _ ε1 => A.nx ε1
def unbor (ε : Ep) : Vl → Option (Vl × Ep)
  | .bor i => match look ε i with
    | .d x => some (.d x, ε)
    | .lst true xs => some (.new xs, put ε i .un)
    | _ => none
  | .newD => none
  | r => some (r, ε)
def sRet (t : TD) : TDS := fun A ε => t ε fun r ε1 => match unbor ε1 r with
  | some (r', ε2) => A.rt r' ε2
  | none => False
def sRetN : TDS := fun A ε => A.rt (.d .none) ε
def sIf (c : TDT) (t u : TDS) : TDS := fun A ε => c ε fun b ε1 => onB b (t A ε1) (u A ε1)
def sAsg (t : TD) (g : TDG) : TDS := fun A ε => t ε fun r ε1 => match frz ε1 r with
  | some (x, ε2) => g x ε2 A.nx
  | none => False
def sSet (i : Nat) (t : TD) : TDS := fun A ε => t ε fun r ε1 => match slOf ε1 r with
  | some (s, ε2) => A.nx (put ε2 i s)
  | none => False
def gNm (i : Nat) : TDG := fun x ε A => A (put ε i (.d x))
def gsNil : TDGs := fun xs ε A => match xs with
  | [] => A ε
  | _ => False
def gsCons (g : TDG) (gs : TDGs) : TDGs := fun xs ε A => match xs with
  | x :: r => g x ε fun ε1 => gs r ε1 A
  | [] => False
def gTp (n : Nat) (gs : TDGs) : TDG := fun x ε A => match x with
  | .tuple xs => xs.length = n ∧ gs xs ε A
  | _ => False
section
variable {X : Cx} {st : Stmt} {rest : List Stmt} {t u : TDS} {e : Expr} {te : TD} {pos : Pos} {K : PySem.W.Frag}
theorem rds_fr {c : Ct} {G H : Hp} {ow : Ow} {σ : L2.St} {ε : Ep} {A : DEnds} {Gs Hs : Hp} {ows : Ow} {D : Ends} (R : Rep K c G H ow σ ε) (F : Fr Gs Hs ows G H ow) (h : t A ε)
    (k1 : ∀ ε' σ' G' H' ow', A.nx ε' → Fr Gs Hs ows G' H' ow' → Rep K c G' H' ow' σ' ε' → D.nx σ' H')
    (k2 : ∀ r ε' σ' G' H' ow' v, A.rt r ε' → Fr Gs Hs ows G' H' ow' → Rep K c G' H' ow' σ' ε' → VOk K c.H0 G' H' ow' [] r v → D.rt v H')
    (k3 : ∀ ε' σ' G' H' ow', A.bk ε' → Fr Gs Hs ows G' H' ow' → Rep K c G' H' ow' σ' ε' → D.bk σ' H')
    (k4 : ∀ ε' σ' G' H' ow', A.ct ε' → Fr Gs Hs ows G' H' ow' → Rep K c G' H' ow' σ' ε' → D.ct σ' H') : rdS K t D σ H :=
  ⟨c, G, ow, ε, A, R, h, fun ε' σ' G' H' ow' q F1 R1 => k1 ε' σ' G' H' ow' q (F.trans F1) R1, fun r ε' σ' G' H' ow' v q F1 R1 V => k2 r ε' σ' G' H' ow' v q (F.trans F1) R1 V,
    fun ε' σ' G' H' ow' q F1 R1 => k3 ε' σ' G' H' ow' q (F.trans F1) R1, fun ε' σ' G' H' ow' q F1 R1 => k4 ε' σ' G' H' ow' q (F.trans F1) R1⟩
theorem dss_nil : DSs X [] sNext := pss_w pss_nil fun D σ H ⟨c, G, ow, ε, A, R, h, k1, k2, k3, k4⟩ => k1 ε σ G H ow h (Fr.refl _ _ _) R
theorem dss_cons (h1 : DS X st t) (h2 : DSs X rest u) : DSs X (st :: rest) (sSeq t u) := pss_w (pss_cons h1 h2) fun D σ H ⟨c, G, ow, ε, A, R, h, k1, k2, k3, k4⟩ =>
  ⟨c, G, ow, ε, { A with nx := u A }, R, h, fun ε' σ' G' H' ow' q F1 R1 => rds_fr R1 F1 q k1 k2 k3 k4, k2, k3, k4⟩
theorem dss_one (h1 : DS X st t) : DSs X [st] t := pss_one h1
theorem ds_brk : DS X (.Break pos) sBrk := ps_w ps_break fun D σ H ⟨c, G, ow, ε, A, R, h, k1, k2, k3, k4⟩ => k3 ε σ G H ow h (Fr.refl _ _ _) R
theorem ds_cnt : DS X (.Continue pos) sCnt := ps_w ps_continue fun D σ H ⟨c, G, ow, ε, A, R, h, k1, k2, k3, k4⟩ => k4 ε σ G H ow h (Fr.refl _ _ _) R
theorem ds_pass : DS X (.Pass pos) sNext := ps_w ps_pass fun D σ H ⟨c, G, ow, ε, A, R, h, k1, k2, k3, k4⟩ => k1 ε σ G H ow h (Fr.refl _ _ _) R
theorem ds_expr (he : DV X e te) (hs : swapsWith e none pos.line X.env = pure false := by rfl) : DS X (.Expr e pos) (sExpr te) := ps_w (ps_expr he hs) fun D σ H ⟨c, G, ow, ε, A, R, h, k1, k2, k3, k4⟩ =>
  ⟨c, G, ow, ε, _, R, h, fun r ε1 G1 H1 ow1 v h1 F1 R1 V1 => k1 ε1 σ G1 H1 ow1 h1 F1 R1⟩
theorem unbor_ok {c : Ct} {Gs Hs G H : Hp} {ow ows : Ow} {σ : L2.St} {ε ε' : Ep} {r r' : Vl} {v : V} (hd : ∀ a, Hs a = none → c.H0 a = none) (F : Fr Gs Hs ows G H ow) (R : Rep K c G H ow σ ε) (V1 : VOk K Hs G H ow σ r v) (e : unbor ε r = some (r', ε')) :
    ∃ ow', Fr Gs Hs ows G H ow' ∧ Rep K c G H ow' σ ε' ∧ VOk K c.H0 G H ow' [] r' v := by
  have same : ∀ {r : Vl} {v : V}, r = r' → ε = ε' → VOk K Hs G H ow σ r v → (∀ i, r ≠ .bor i) → ∃ ow', Fr Gs Hs ows G H ow' ∧ Rep K c G H ow' σ ε' ∧ VOk K c.H0 G H ow' [] r' v := fun {r v} e e' V hb => by
    subst e e'
    refine ⟨ow, F, R, ?_⟩
    have V2 := V.since hd
    cases r with
    | bor i => exact absurd rfl (hb i)
    | d x => exact V2
    | new x => exact V2
    | newD => exact V2
    | v x => exact V2
  cases r with
  | d x => cases e; exact same rfl rfl V1 fun i z => nomatch z
  | new xs => cases e; exact same rfl rfl V1 fun i z => nomatch z
  | newD => cases e
  | v x => cases e; exact same rfl rfl V1 fun i z => nomatch z
  | bor i =>
    have V1 : σ[i]? = some (some v) := V1
    have q := R.at V1
    cases hl : look ε i with
    | un => simp [unbor, hl] at e
    | dct _ => simp [unbor, hl] at e
    | v _ => simp [unbor, hl] at e
    | d x =>
      simp only [unbor, hl, Option.some.injEq, Prod.mk.injEq] at e
      obtain ⟨rfl, rfl⟩ := e
      rw [hl] at q
      obtain ⟨u, e1, e2⟩ := q
      cases e1
      exact ⟨ow, F, R, e2⟩
    | lst fr xs =>
      cases fr with
      | false => simp [unbor, hl] at e
      | true =>
        simp only [unbor, hl, Option.some.injEq, Prod.mk.injEq] at e
        obtain ⟨rfl, rfl⟩ := e
        rw [hl] at q
        obtain ⟨p, vs, e1, h2, h3, h4, h5, h6, _⟩ := q
        cases e1
        have hi : i < ε.length := look_lt (by rw [hl]; exact fun z => nomatch z)
        refine ⟨owc ow p none, ⟨F.ex, fun a u z1 z2 => ?_, F.dom⟩, ⟨R.ex, R.dom, by rw [put_length]; exact R.len, fun j o z => ?_⟩, ⟨p, vs, rfl, h6 rfl, owc_self, h3, h4, h5⟩⟩
        · obtain ⟨q1, q2, q3⟩ := F.st a u z1 z2
          refine ⟨q1, ?_, q3⟩
          unfold owc
          split
          · rfl
          · exact q2
        · by_cases hj : j = i
          · subst hj
            rw [look_put_self hi]
            trivial
          · rw [look_put_ne hj]
            refine (R.sl j o z).grow (Same.refl G) fun q u z1 z2 z3 => ⟨?_, z2, z3⟩
            rw [owc_ne (fun e => by rw [e, h2] at z1; exact hj (Option.some.inj z1).symm)]
            exact z1
theorem ds_ret (he : DV X e te) : DS X (.Return (some e) pos) (sRet te) := ps_w (ps_ret he) fun D σ H ⟨c, G, ow, ε, A, R, h, k1, k2, k3, k4⟩ =>
  ⟨c, G, ow, ε, _, R, h, fun r ε1 G1 H1 ow1 v h1 F1 R1 V1 => by
    cases q : unbor ε1 r with
    | none => simp only [q] at h1
    | some z =>
      obtain ⟨r', ε2⟩ := z
      simp only [q] at h1
      obtain ⟨ow2, F2, R2, V2⟩ := unbor_ok R.dom F1 R1 V1 q
      exact k2 r' ε2 σ G1 H1 ow2 v h1 F2 R2 V2⟩
theorem ds_retN : DS X (.Return none pos) sRetN := ps_w ps_retN fun D σ H ⟨c, G, ow, ε, A, R, h, k1, k2, k3, k4⟩ => k2 _ ε σ G H ow .non h (Fr.refl _ _ _) R .non
theorem ds_if {c : Expr} {a b : List Stmt} {tc : TDT} (hc : DT X c tc) (ha : DSs X a t) (hb : DSs X b u) : DS X (.If c a b pos) (sIf tc t u) := ps_w (ps_if hc ha hb) fun D σ H ⟨c, G, ow, ε, A, R, h, k1, k2, k3, k4⟩ =>
  ⟨c, G, ow, ε, _, R, h, fun d ε1 G1 H1 ow1 h1 F1 R1 => by
    cases d with
    | true => exact iteT (rds_fr R1 F1 h1 k1 k2 k3 k4)
    | false => exact iteF (rds_fr R1 F1 h1 k1 k2 k3 k4)⟩
/-! ### stores -/
theorem ds_set {i : Nat} {x : Str} {pos' : Pos} (hN : X.N.Nodup) (hi : X.N[i]? = some x) (hx : Loc X.env.scope x) (he : DV X e te) (hs : swapsWith e (some (.Name x pos')) pos.line X.env = pure false := by rfl) (hf : X.fn x = true ∨ X.env.scope.names.lookup x = some .local := by first | exact .inl rfl | exact .inr rfl | assumption) :
    DS X (.Assign [.Name x pos'] e pos) (sSet i te) := ps_wl (ps_set hN hi hx he hs hf) fun D σ H hlen ⟨c, G, ow, ε, A, R, h, k1, k2, k3, k4⟩ => ⟨c, G, ow, ε, _, R, h, fun r ε1 G1 H1 ow1 v h1 F1 R1 V1 => by
    cases q : slOf ε1 r with
    | none => simp only [q] at h1
    | some z =>
      obtain ⟨s, ε2⟩ := z
      simp only [q] at h1
      have hi2 : i < ε1.length := by
        rw [← R1.len, hlen]
        exact (List.getElem?_eq_some_iff.mp hi).1
      obtain ⟨G2, ow2, F2, R2⟩ := store_sl F1 R.dom R1 V1 hi2 q
      exact k1 _ _ G2 H1 ow2 h1 F2 R2⟩
theorem ds_asg {tg : Expr} {g : TDG} {ws : List Nat} (he : DV X e te) (hg : DG X tg ws g) (hs : swapsWithSole [tg] e pos.line X.env = pure false := by rfl) (hw : swappedStores [tg] e X.env = pure none := by rfl)
    (h1 : (assignEach [tg] X.env).map (·.2) = [assign tg X.env] := by rfl) : DS X (.Assign [tg] e pos) (sAsg te g) := ps_w (ps_asg he hg hs hw h1) fun D σ H ⟨c, G, ow, ε, A, R, h, k1, k2, k3, k4⟩ => ⟨c, G, ow, ε, _, R, h, fun r ε1 G1 H1 ow1 v h1 F1 R1 V1 => by
    cases q : frz ε1 r with
    | none => simp only [q] at h1
    | some z =>
      obtain ⟨x, ε2⟩ := z
      simp only [q] at h1
      obtain ⟨G2, F2, sg, R2, d⟩ := frz_ok F1 R1 V1 q
      exact ⟨c, G2, ow1, ε2, x, _, R2, d, h1, fun ε' σ' G' H' ow' z F3 R3 _ => k1 ε' σ' G' H' ow' z (F2.trans F3) R3⟩⟩
theorem dg_nm {i : Nat} {x : Str} {pos : Pos} (hN : X.N.Nodup) (hi : X.N[i]? = some x) (hx : Loc X.env.scope x) (hf : X.fn x = true ∨ X.env.scope.names.lookup x = some .local := by first | exact .inl rfl | exact .inr rfl | assumption) : DG X (.Name x pos) [i] (gNm i) :=
  pg_wl (pg_name hN hi hx hf) fun v σ H Q hlen ⟨c, G, ow, ε, x, A, R, d, h, k⟩ => by
    have hi2 : i < ε.length := by
      rw [← R.len, hlen]
      exact (List.getElem?_eq_some_iff.mp hi).1
    exact k _ _ G H ow h (Fr.refl _ _ _) (rep_put R hi2 ⟨v, rfl, d⟩) (fun vs z => wipe_set (z i (by simp)))
theorem dgs_nil : DGs X [] [] gsNil := pgs_w pgs_nil fun vs σ H Q ⟨c, G, ow, ε, xs, A, R, d, h, k⟩ => by
  cases d with
  | nil => exact ⟨rfl, k ε σ G H ow h (Fr.refl _ _ _) R (fun _ _ => rfl)⟩
  | cons _ _ => exact h.elim
theorem dgs_cons {e : Expr} {es : List Expr} {g : TDG} {gs : TDGs} {w1 w2 : List Nat} (h1 : DG X e w1 g) (h2 : DGs X es w2 gs)
    (hs : (assignEach (e :: es) X.env).map (·.2) = assign e X.env :: (assignEach es X.env).map (·.2) := by rfl) : DGs X (e :: es) (w1 ++ w2) (gsCons g gs) := pgs_w (pgs_cons h1 h2 hs) fun vs σ H Q ⟨c, G, ow, ε, xs, A, R, d, h, k⟩ => by
  cases d with
  | nil => exact h.elim
  | cons d1 d2 =>
    exact ⟨_, _, rfl, c, G, ow, ε, _, _, R, d1, h, fun ε1 σ1 G1 H1 ow1 q F1 R1 W1 => ⟨c, G1, ow1, ε1, _, _, R1, dpa_ex F1.ex _ d2, q, fun ε2 σ2 G2 H2 ow2 q2 F2 R2 W2 => k ε2 σ2 G2 H2 ow2 q2 (F1.trans F2) R2 fun vs z => (W2 vs fun j hj => z j (List.mem_append_right _ hj)).trans (W1 vs fun j hj => z j (List.mem_append_left _ hj))⟩⟩
theorem dg_tup {es : List Expr} {k : Nat} {gs : TDGs} {n : Nat} {ws : List Nat} (hc : X.calm = true) (h : DGs X es ws gs) (hn : (assignEach es X.env).length = n := by rfl) (hst : (assignEach es X.env).findIdx? (·.1) = none := by rfl) : DG X (.Tuple es k pos) ws (gTp n gs) :=
  pg_w (pg_tup hc h hn hst) fun v σ H Q ⟨c, G, ow, ε, x, A, R, d, h, k⟩ => by
    cases x with
    | tuple xs =>
      obtain ⟨p, vs, e1, h1, h2⟩ := Pk.tuple R.ex (Or.inl d : Pk X.K G H v (.tuple xs))
      exact ⟨p, vs, e1, h1, (dpa_len h2).trans h.1, c, G, ow, ε, xs, _, R, h2, h.2, k⟩
    | _ => exact h.elim
/-! ### while -/
def whGo (c : TDT) (b : TDS) (A : DEnds) : Nat → Ep → Prop
  | 0, _ => False
  | n + 1, ε => c ε fun k ε1 => onB k (b { nx := whGo c b A n, rt := A.rt, bk := A.nx, ct := whGo c b A n } ε1) (A.nx ε1)
def sWhile (c : TDT) (b : TDS) : TDS := fun A ε => ∃ n, whGo c b A n ε
theorem ds_while {c : Expr} {body : List Stmt} {tc : TDT} {tb : TDS} (hp : PassesOwn (model X.prog X.w) X.A X.env X.xe) (hc : DT X c tc) (hb : DSs X body tb) : DS X (.While c body [] pos) (sWhile tc tb) := ps_w (ps_while hp hc hb) fun D σ H ⟨c, G, ow, ε, A, R, ⟨n, h⟩, k1, k2, k3, k4⟩ => by
  refine ⟨fun m σ' H' => ∃ G' ow' ε', Fr G H ow G' H' ow' ∧ Rep X.K c G' H' ow' σ' ε' ∧ whGo tc tb A m ε', ⟨n, G, ow, ε, Fr.refl _ _ _, R, h⟩, ?_⟩
  rintro m σ1 H1 ⟨G1, ow1, ε1, F1, R1, h1⟩
  cases m with
  | zero => exact h1.elim
  | succ m =>
    refine ⟨c, G1, ow1, ε1, _, R1, h1, fun b ε2 G2 H2 ow2 h2 F2 R2 => ?_⟩
    cases b with
    | true =>
      refine iteT ⟨fun σ' H' => ∃ G' ow' ε', Fr G H ow G' H' ow' ∧ Rep X.K c G' H' ow' σ' ε' ∧ whGo tc tb A m ε', fun σ' H' q => ⟨m, Nat.lt_succ_self m, q⟩, ?_⟩
      exact rds_fr R2 (F1.trans F2) h2 (fun ε' σ' G' H' ow' q F3 R3 => ⟨G', ow', ε', F3, R3, q⟩) k2 k1 (fun ε' σ' G' H' ow' q F3 R3 => ⟨G', ow', ε', F3, R3, q⟩)
    | false => exact iteF (k1 ε2 σ1 G2 H2 ow2 h2 (F1.trans F2) R2)
/-! ### for -/
def forGo (I : Ep → Prop) (g : TDG) (b : TDS) (A : DEnds) : List PyData → Ep → Prop
  | [], ε => I ε ∧ A.nx ε
  | x :: ds, ε => I ε ∧ g x ε fun ε1 => b { nx := forGo I g b A ds, rt := A.rt, bk := A.nx, ct := forGo I g b A ds } ε1
abbrev noI : Ep → Prop := fun _ => True
def sForL (t : TD) (g : TDG) (b : TDS) : TDS := fun A ε => t ε fun r ε1 => match frz ε1 r with
  | some (.list ds, ε2) => forGo noI g b A ds ε2
  | _ => False
def sForT (t : TD) (g : TDG) (b : TDS) : TDS := fun A ε => t ε fun r ε1 => match frz ε1 r with
  | some (.tuple ds, ε2) => forGo noI g b A ds ε2
  | _ => False
def rngD (lo : Int) (n : Nat) : List PyData := (List.range n).map fun i => .int (lo + ((i : Nat) : Int))
def sForR (t : TDA) (g : TDG) (b : TDS) : TDS := fun A ε => t ε fun rs ε1 => match peekAll ε1 rs with
  | some [.int j] => -(2 ^ 62) ≤ j ∧ j < 2 ^ 62 ∧ forGo noI g b A (rngD 0 j.toNat) ε1
  | _ => False
def sForR2 (t : TDA) (g : TDG) (b : TDS) : TDS := fun A ε => t ε fun rs ε1 => match peekAll ε1 rs with
  | some [.int i, .int j] => (-(2 ^ 62) ≤ i ∧ i < 2 ^ 62 ∧ -(2 ^ 62) ≤ j ∧ j < 2 ^ 62) ∧ forGo noI g b A (rngD i (j - i).toNat) ε1
  | _ => False
/-- the loop, whatever is walked: J goes along ds -/
theorem for_core {c : Ct} {G0 H0 : Hp} {ow0 : Ow} {G H : Hp} {ow : Ow} {σ : L2.St} {ε : Ep} {A : DEnds} {D : Ends} {J : It} {Ii : Ep → Prop} {g : TDG} {ws : List Nat} {tb : TDS} {ds : List PyData} (R : Rep K c G H ow σ ε) (F : Fr G0 H0 ow0 G H ow) (h : forGo Ii g tb A ds ε)
    (hgo : ∀ i x H' G' ow' σ' ε', ds[i]? = some x → Ii ε' → Fr G H ow G' H' ow' → Rep K c G' H' ow' σ' ε' → J.go i H' ∧ ∀ y H2, J.yld i H' y H2 → H2 = H' ∧ Dd K G' y x) (hst : ∀ H' G' ow' σ' ε', Ii ε' → Fr G H ow G' H' ow' → Rep K c G' H' ow' σ' ε' → J.stop ds.length H')
    (k1 : ∀ ε' σ' G' H' ow', A.nx ε' → Fr G0 H0 ow0 G' H' ow' → Rep K c G' H' ow' σ' ε' → D.nx σ' H')
    (k2 : ∀ r ε' σ' G' H' ow' v, A.rt r ε' → Fr G0 H0 ow0 G' H' ow' → Rep K c G' H' ow' σ' ε' → VOk K c.H0 G' H' ow' [] r v → D.rt v H') :
    ∃ W : Nat → Nat → L2.St → Hp → Prop, (∃ m, W 0 m σ H) ∧ ∀ i m σ H, W i m σ H →
      (J.stop i H ∧ D.nx σ H) ∨ (J.go i H ∧ ∃ N : L2.St → Hp → Prop, (∀ σ' H', N σ' H' → ∃ m', m' < m ∧ W (i + 1) m' σ' H') ∧ ∀ x H', J.yld i H x H' → rdG K ws g x σ H' fun σ2 H2 => rdS K tb { D with nx := N, ct := N, bk := D.nx } σ2 H2) := by
  refine ⟨fun i m σ' H' => m + i = ds.length ∧ ∃ G' ow' ε', Fr G H ow G' H' ow' ∧ Rep K c G' H' ow' σ' ε' ∧ forGo Ii g tb A (ds.drop i) ε', ⟨ds.length, rfl, G, ow, ε, Fr.refl _ _ _, R, h⟩, ?_⟩
  rintro i m σ1 H1 ⟨em, G1, ow1, ε1, F1, R1, h1⟩
  by_cases hi : i < ds.length
  · have hx : ds[i]? = some ds[i] := List.getElem?_eq_getElem hi
    rw [List.drop_eq_getElem_cons hi] at h1
    obtain ⟨hI, h1⟩ := h1
    obtain ⟨g1, g2⟩ := hgo i _ H1 G1 ow1 σ1 ε1 hx hI F1 R1
    refine .inr ⟨g1, fun σ' H' => (m - 1) + (i + 1) = ds.length ∧ ∃ G' ow' ε', Fr G H ow G' H' ow' ∧ Rep K c G' H' ow' σ' ε' ∧ forGo Ii g tb A (ds.drop (i + 1)) ε', fun σ' H' q => ⟨m - 1, by omega, q⟩, fun y H2 hy => ?_⟩
    obtain ⟨rfl, d⟩ := g2 y H2 hy
    refine ⟨c, G1, ow1, ε1, ds[i], _, R1, d, h1, fun ε2 σ2 G2 H2 ow2 q F2 R2 _ => ?_⟩
    exact rds_fr R2 (F1.trans F2) q (fun ε' σ' G' H' ow' z F3 R3 => ⟨by omega, G', ow', ε', F3, R3, z⟩) (fun r ε' σ' G' H' ow' v z F3 R3 V => k2 r ε' σ' G' H' ow' v z (F.trans F3) R3 V)
      (fun ε' σ' G' H' ow' z F3 R3 => k1 ε' σ' G' H' ow' z (F.trans F3) R3) (fun ε' σ' G' H' ow' z F3 R3 => ⟨by omega, G', ow', ε', F3, R3, z⟩)
  · have e : i = ds.length := by omega
    subst e
    rw [List.drop_length] at h1
    exact .inl ⟨hst H1 G1 ow1 σ1 ε1 h1.1 F1 R1, k1 ε1 σ1 G1 H1 ow1 h1.2 (F.trans F1) R1⟩
theorem ds_forL {iter tg : Expr} {body : List Stmt} {g : TDG} {ws : List Nat} {tb : TDS} (hp : PassesOwn (model X.prog X.w) X.A X.env X.xe) (hc : X.calm = true) (hi : DV X iter te) (hg : DG X tg ws g) (hb : DSs X body tb) (hs : ∀ x, foldedSetIterable iter X.env x = pure x := by intro _; rfl) : DS X (.For tg iter body [] pos) (sForL te g tb) :=
  ps_w (ps_for hp hc (pi_list hi) hg hb hs) fun D σ H ⟨c, G, ow, ε, A, R, h, k1, k2, k3, k4⟩ => ⟨c, G, ow, ε, _, R, h, fun r ε1 G1 H1 ow1 v h1 F1 R1 V1 => by
    cases q : frz ε1 r with
    | none => simp only [q] at h1
    | some z =>
      obtain ⟨x, ε2⟩ := z
      obtain ⟨G2, F2, sg, R2, d⟩ := frz_ok F1 R1 V1 q
      cases x with
      | list ds =>
        simp only [q] at h1
        cases d with
        | lst hs ha =>
          rename_i a vs
          refine ⟨a, rfl, ⟨vs, R2.ex.seq hs⟩, for_core R2 F2 h1 (fun i x H' G' ow' σ' ε' hx _ f1 r1 => ?_) (fun H' G' ow' σ' ε' _ f1 r1 => ⟨vs, r1.ex.seq (f1.ex.seq hs), by rw [dpa_len ha]; exact Nat.le_refl _⟩) k1 k2⟩
          obtain ⟨u, hu, du⟩ := dpa_get ha hx
          have hS : SqL X.K H' a vs := r1.ex.seq (f1.ex.seq hs)
          refine ⟨⟨vs, u, hS, hu⟩, fun y H2 hy => ⟨hy.1, ?_⟩⟩
          have e := hy.2 vs hS
          rw [hu] at e
          cases e
          exact dp_ex f1.ex _ du
      | _ => simp only [q] at h1⟩
theorem ds_forT {iter tg : Expr} {body : List Stmt} {g : TDG} {ws : List Nat} {tb : TDS} (hp : PassesOwn (model X.prog X.w) X.A X.env X.xe) (hc : X.calm = true) (hi : DV X iter te) (hg : DG X tg ws g) (hb : DSs X body tb) (hs : ∀ x, foldedSetIterable iter X.env x = pure x := by intro _; rfl) : DS X (.For tg iter body [] pos) (sForT te g tb) :=
  ps_w (ps_for hp hc (pi_tup hi) hg hb hs) fun D σ H ⟨c, G, ow, ε, A, R, h, k1, k2, k3, k4⟩ => ⟨c, G, ow, ε, _, R, h, fun r ε1 G1 H1 ow1 v h1 F1 R1 V1 => by
    cases q : frz ε1 r with
    | none => simp only [q] at h1
    | some z =>
      obtain ⟨x, ε2⟩ := z
      obtain ⟨G2, F2, sg, R2, d⟩ := frz_ok F1 R1 V1 q
      cases x with
      | tuple ds =>
        simp only [q] at h1
        cases d with
        | tup hs ha =>
          rename_i a vs
          refine ⟨a, rfl, ⟨vs, seqT R2.ex hs⟩, for_core R2 F2 h1 (fun i x H' G' ow' σ' ε' hx _ f1 r1 => ?_) (fun H' G' ow' σ' ε' _ f1 r1 => ⟨vs, seqT r1.ex (seqT f1.ex hs), by rw [dpa_len ha]; exact Nat.le_refl _⟩) k1 k2⟩
          obtain ⟨u, hu, du⟩ := dpa_get ha hx
          have hS : SqT X.K H' a vs := seqT r1.ex (seqT f1.ex hs)
          refine ⟨⟨vs, u, hS, hu⟩, fun y H2 hy => ⟨hy.1, ?_⟩⟩
          have e := hy.2 vs hS
          rw [hu] at e
          cases e
          exact dp_ex f1.ex _ du
      | _ => simp only [q] at h1⟩
theorem rngD_len (lo : Int) (n : Nat) : (rngD lo n).length = n := by simp [rngD]
theorem rngD_get {lo : Int} {n i : Nat} {x : PyData} (h : (rngD lo n)[i]? = some x) : i < n ∧ x = .int (lo + (i : Nat)) := by
  have hi : i < n := by
    have := (List.getElem?_eq_some_iff.mp h).1
    rw [rngD_len] at this
    exact this
  refine ⟨hi, ?_⟩
  unfold rngD at h
  rw [List.getElem?_map, List.getElem?_range hi] at h
  exact (Option.some.inj h).symm
theorem ds_forR {a tg : Expr} {body : List Stmt} {ta : TDA} {g : TDG} {ws : List Nat} {tb : TDS} {p pos' : Pos} (hp : PassesOwn (model X.prog X.w) X.A X.env X.xe) (hc : X.calm = true) (hgl : Gl X "range") (hm : X.mg "range" = none) (ha : DA X [a] ta) (hg : DG X tg ws g) (hb : DSs X body tb)
    (hs : starEach [a] X.env = [(false, eval a X.env)] := by rfl) : DS X (.For tg (.Call (.Name "range" p) [a] [] pos') body [] pos) (sForR ta g tb) :=
  ps_w (ps_for hp hc (pi_range1 hgl hm ha hs) hg hb) fun D σ H ⟨c, G, ow, ε, A, R, h, k1, k2, k3, k4⟩ => ⟨c, G, ow, ε, _, R, h, fun rs ε1 G1 H1 ow1 vs h1 F1 R1 V1 => by
    cases q : peekAll ε1 rs with
    | none => simp only [q] at h1
    | some xs =>
      have P := peekAll_ok R1 V1 q
      match xs, P with
      | [.int j], .cons d .nil =>
        simp only [q] at h1
        refine ⟨j, by rw [Pk.int d], h1.1, h1.2.1, for_core R1 F1 h1.2.2 (fun i x H' G' ow' σ' ε' hx _ f1 r1 => ?_) (fun H' G' ow' σ' ε' _ f1 r1 => by rw [rngD_len]; exact Nat.le_refl _) k1 k2⟩
        obtain ⟨z1, rfl⟩ := rngD_get hx
        exact ⟨z1, fun y H2 hy => ⟨hy.1, by rw [hy.2]; exact .int _⟩⟩
      | [], _ => simp only [q] at h1
      | .none :: _, _ => simp only [q] at h1
      | .bool _ :: _, _ => simp only [q] at h1
      | .str _ :: _, _ => simp only [q] at h1
      | .list _ :: _, _ => simp only [q] at h1
      | .tuple _ :: _, _ => simp only [q] at h1
      | .dict _ :: _, _ => simp only [q] at h1
      | .int _ :: _ :: _, _ => simp only [q] at h1⟩
theorem ds_forR2 {a b tg : Expr} {body : List Stmt} {ta : TDA} {g : TDG} {ws : List Nat} {tb : TDS} {p pos' : Pos} (hp : PassesOwn (model X.prog X.w) X.A X.env X.xe) (hc : X.calm = true) (hgl : Gl X "range") (hm : X.mg "range" = none) (ha : DA X [a, b] ta) (hg : DG X tg ws g) (hb : DSs X body tb)
    (hs : starEach [a, b] X.env = [(false, eval a X.env), (false, eval b X.env)] := by rfl) (hs2 : starEach [b] X.env = [(false, eval b X.env)] := by rfl) : DS X (.For tg (.Call (.Name "range" p) [a, b] [] pos') body [] pos) (sForR2 ta g tb) :=
  ps_w (ps_for hp hc (pi_range2 hgl hm ha hs hs2) hg hb) fun D σ H ⟨c, G, ow, ε, A, R, h, k1, k2, k3, k4⟩ => ⟨c, G, ow, ε, _, R, h, fun rs ε1 G1 H1 ow1 vs h1 F1 R1 V1 => by
    cases q : peekAll ε1 rs with
    | none => simp only [q] at h1
    | some xs =>
      have P := peekAll_ok R1 V1 q
      have key : ∃ i j, xs = [.int i, .int j] := by
        rw [q] at h1
        split at h1
        · rename_i i j e
          exact ⟨i, j, Option.some.inj e⟩
        · exact h1.elim
      obtain ⟨i, j, rfl⟩ := key
      simp only [q] at h1
      match P with
      | .cons d (.cons d2 .nil) =>
        refine ⟨i, j, by rw [Pk.int d, Pk.int d2], h1.1, for_core R1 F1 h1.2 (fun i x H' G' ow' σ' ε' hx _ f1 r1 => ?_) (fun H' G' ow' σ' ε' _ f1 r1 => by rw [rngD_len]; exact Nat.le_refl _) k1 k2⟩
        obtain ⟨z1, rfl⟩ := rngD_get hx
        exact ⟨z1, fun y H2 hy => ⟨hy.1, by rw [hy.2]; exact .int _⟩⟩⟩
end

/-! ### comprehensions -/
def dYes : TDT := fun ε A => A true ε
def lcGo (I : Ep → Prop) (g : TDG) (tt : TDT) (te : TD) (vs : List Nat) (A : List PyData → Ep → Prop) : List PyData → List PyData → Ep → Prop
  | [], acc, ε => I ε ∧ A acc ε
  | x :: ds, acc, ε => I ε ∧ g x ε fun ε1 => tt ε1 fun b ε2 => onB b (te ε2 fun r ε3 => match frz ε3 r with
      | some (y, ε4) => acc.length < 1000000 ∧ lcGo I g tt te vs A ds (acc ++ [y]) (wipeE ε4 vs)
      | none => False) (lcGo I g tt te vs A ds acc (wipeE ε2 vs))
def dLcL (t : TD) (g : TDG) (tt : TDT) (te : TD) (vs : List Nat) : TD := fun ε A => t ε fun r ε1 => match frz ε1 r with
  | some (.list ds, ε2) => lcGo noI g tt te vs (fun acc ε' => A (.new acc) (rstE ε2 ε' vs)) ds [] (wipeE ε2 vs)
  | _ => False
def dLcT (t : TD) (g : TDG) (tt : TDT) (te : TD) (vs : List Nat) : TD := fun ε A => t ε fun r ε1 => match frz ε1 r with
  | some (.tuple ds, ε2) => lcGo noI g tt te vs (fun acc ε' => A (.new acc) (rstE ε2 ε' vs)) ds [] (wipeE ε2 vs)
  | _ => False
def dLcR (t : TDA) (g : TDG) (tt : TDT) (te : TD) (vs : List Nat) : TD := fun ε A => t ε fun rs ε1 => match peekAll ε1 rs with
  | some [.int j] => -(2 ^ 62) ≤ j ∧ j < 2 ^ 62 ∧ lcGo noI g tt te vs (fun acc ε' => A (.new acc) (rstE ε1 ε' vs)) (rngD 0 j.toNat) [] (wipeE ε1 vs)
  | _ => False
section
variable {K : PySem.W.Frag}
theorem mut_tmp {c : Ct} {Gs Hs G H : Hp} {ows ow : Ow} {σ : L2.St} {ε : Ep} {D : Addr} {o : HO} (R : Rep K c G H ow σ ε) (F : Fr Gs Hs ows G H ow) (h0 : Hs D = none) (h1 : ow D = none) (h2 : G D = none) : Fr Gs Hs ows G (upd H D o) ow ∧ Rep K c G (upd H D o) ow σ ε := by
  refine ⟨⟨F.ex, fun a u z1 z2 => ?_, fun a z => ?_⟩, ⟨same_mut R.ex h2 o, fun a z => ?_, R.len, fun j s z => ?_⟩⟩
  · rw [upd_ne (ne_of_none z1 h0)]
    exact F.st a u z1 z2
  · by_cases ha : a = D
    · rw [ha]; exact h0
    · rw [upd_ne ha] at z
      exact F.dom a z
  · by_cases ha : a = D
    · rw [ha, upd_same] at z
      cases z
    · rw [upd_ne ha] at z
      exact R.dom a z
  · refine (R.sl j s z).grow (Same.refl G) fun q u z1 z2 z3 => ⟨z1, z2, ?_⟩
    rw [upd_ne (fun e => by rw [e, h1] at z1; cases z1)]
    exact z3
theorem lc_core {c : Ct} {G0 H0 : Hp} {ow0 : Ow} {G H : Hp} {ow : Ow} {σ : L2.St} {ε : Ep} {A : List PyData → Ep → Prop} {Q : VK} {J : It} {Ii : Ep → Prop} {g : TDG} {ws vs : List Nat} {tt : TDT} {te : TD} {ds : List PyData} (hws : ∀ j ∈ ws, j ∈ vs) (R : Rep K c G H ow σ ε) (F : Fr G0 H0 ow0 G H ow)
    (h : lcGo Ii g tt te vs A ds [] (wipeE ε vs))
    (hgo : ∀ i x H' G' ow' ε', ds[i]? = some x → Ii ε' → Fr G H ow G' H' ow' → Rep K c G' H' ow' (wipe σ vs) ε' → J.go i H' ∧ ∀ y H2, J.yld i H' y H2 → H2 = H' ∧ Dd K G' y x) (hst : ∀ H' G' ow' ε', Ii ε' → Fr G H ow G' H' ow' → Rep K c G' H' ow' (wipe σ vs) ε' → J.stop ds.length H')
    (kk : ∀ acc ε' G' H' ow' v, A acc ε' → Fr G0 H0 ow0 G' H' ow' → Rep K c G' H' ow' σ (rstE ε ε' vs) → VOk K H0 G' H' ow' σ (.new acc) v → Q v H') :
    ∀ D, H D = none → ∃ W : Nat → Nat → Hp → Prop, (∃ m, W 0 m (upd H D (.lst []))) ∧ ∀ i m H, W i m H →
      (J.stop i H ∧ Q (.ref D) H) ∨ (J.go i H ∧ ∃ Nx : Hp → Prop, (∀ H', Nx H' → ∃ m', m' < m ∧ W (i + 1) m' H') ∧ ∀ x H', J.yld i H x H' → rdG K ws g x (wipe σ vs) H' fun σ2 H2 => wipe σ2 vs = wipe σ vs ∧ rdT K tt σ2 H2 fun b H3 =>
        if b = true then rdV K te σ2 H3 fun y H4 => ∃ acc, H4 D = some (.lst acc) ∧ acc.length < sizeLine ∧ Nx (upd H4 D (.lst (acc ++ [y]))) else Nx H3) := by
  intro D hD
  have Rw := rep_wipe vs R
  obtain ⟨F1, R1, z1, z2⟩ := grow_new (o := .lst []) Rw hD
  refine ⟨fun i m H' => m + i = ds.length ∧ ∃ G' ow' ε' acc va, Fr G H ow G' H' ow' ∧ Rep K c G' H' ow' (wipe σ vs) ε' ∧ ow' D = none ∧ G' D = none ∧ H' D = some (.lst va) ∧ DdAll K G' va acc ∧ lcGo Ii g tt te vs A (ds.drop i) acc ε', ⟨ds.length, rfl, G, _, _, [], [], F1, R1, z1, z2, upd_same, .nil, h⟩, ?_⟩
  rintro i m H1 ⟨em, G1, ow1, ε1, acc, va, F1, R1, d1, d2, d3, d4, h1⟩
  by_cases hi : i < ds.length
  · have hx : ds[i]? = some ds[i] := List.getElem?_eq_getElem hi
    rw [List.drop_eq_getElem_cons hi] at h1
    obtain ⟨hI, h1⟩ := h1
    obtain ⟨g1, g2⟩ := hgo i _ H1 G1 ow1 ε1 hx hI F1 R1
    refine .inr ⟨g1, fun H' => (m - 1) + (i + 1) = ds.length ∧ ∃ G' ow' ε' acc va, Fr G H ow G' H' ow' ∧ Rep K c G' H' ow' (wipe σ vs) ε' ∧ ow' D = none ∧ G' D = none ∧ H' D = some (.lst va) ∧ DdAll K G' va acc ∧ lcGo Ii g tt te vs A (ds.drop (i + 1)) acc ε', fun H' q => ⟨m - 1, by omega, q⟩, fun y H2 hy => ?_⟩
    obtain ⟨rfl, d⟩ := g2 y H2 hy
    refine ⟨c, G1, ow1, ε1, ds[i], _, R1, d, h1, fun ε2 σ2 G2 H2 ow2 q F2 R2 W2 => ⟨?_, c, G2, ow2, ε2, _, R2, q, fun b ε3 G3 H3 ow3 q3 F3 R3 => ?_⟩⟩
    · have := W2 vs hws
      rw [this]
      apply List.ext_getElem?
      intro j
      by_cases hj : j ∈ vs
      · by_cases hl : j < σ.length
        · rw [wipe_in hj hl, wipe_in hj (by rw [wipe_length]; exact hl)]
        · rw [List.getElem?_eq_none (by rw [wipe_length, wipe_length]; omega), List.getElem?_eq_none (by rw [wipe_length]; omega)]
      · rw [wipe_out hj]
    · have ew : wipe σ2 vs = wipe σ vs := by
        have := W2 vs hws
        rw [this]
        apply List.ext_getElem?
        intro j
        by_cases hj : j ∈ vs
        · by_cases hl : j < σ.length
          · rw [wipe_in hj hl, wipe_in hj (by rw [wipe_length]; exact hl)]
          · rw [List.getElem?_eq_none (by rw [wipe_length, wipe_length]; omega), List.getElem?_eq_none (by rw [wipe_length]; omega)]
        · rw [wipe_out hj]
      have F13 := F2.trans F3
      obtain ⟨s1, s2, s3⟩ := F13.st D _ d3 d1
      cases b with
      | false =>
        refine iteF ⟨by omega, G3, ow3, _, acc, va, F1.trans F13, ?_, s2, s3 d2, s1, dpa_ex F13.ex _ d4, q3⟩
        rw [← ew]
        exact rep_wipe vs R3
      | true =>
        refine iteT ⟨c, G3, ow3, ε3, _, R3, q3, fun r ε4 G4 H4 ow4 v q4 F4 R4 V4 => ?_⟩
        cases qf : frz ε4 r with
        | none => simp only [qf] at q4
        | some z =>
          obtain ⟨y, ε5⟩ := z
          simp only [qf] at q4
          obtain ⟨G5, F5, sg, R5, dy⟩ := frz_ok F4 R4 V4 qf
          obtain ⟨t1, t2, t3⟩ := F5.st D _ s1 s2
          refine ⟨va, t1, ?_, by omega, ?_⟩
          · rw [dpa_len d4]
            exact line_lt q4.1
          · have Fa := (F1.trans F13).trans F5
            obtain ⟨Fb, Rb⟩ := mut_tmp (o := .lst (va ++ [v])) R5 Fa hD t2 (t3 (s3 d2))
            refine ⟨G5, ow4, _, acc ++ [y], va ++ [v], Fb, ?_, t2, t3 (s3 d2), upd_same, dpa_app (dpa_ex (F13.ex.trans F5.ex) _ d4) (dpa_one dy), q4.2⟩
            rw [← ew]
            exact rep_wipe vs Rb
  · have e : i = ds.length := by omega
    subst e
    rw [List.drop_length] at h1
    exact .inl ⟨hst H1 G1 ow1 ε1 h1.1 F1 R1, kk acc ε1 G1 H1 ow1 (.ref D) h1.2 (F.trans F1) (rep_rst R F1.ex R1) ⟨D, va, rfl, F.dom D hD, d1, d2, d3, d4⟩⟩
variable {t : TD} {ta : TDA} {g : TDG} {tt : TDT} {te : TD} {ws vs : List Nat} {σ : L2.St} {H : Hp} {Q : VK}
theorem lcL_rd (hws : ∀ j ∈ ws, j ∈ vs) (h : rdV K (dLcL t g tt te vs) σ H Q) : tLc (iList K (rdV K t)) (rdG K ws g) (rdT K tt) (rdV K te) vs σ H Q := by
  obtain ⟨c, G, ow, ε, A, R, h, kk⟩ := h
  refine ⟨c, G, ow, ε, _, R, h, fun r ε1 G1 H1 ow1 v h1 F1 R1 V1 => ?_⟩
  cases q : frz ε1 r with
  | none => simp only [q] at h1
  | some z =>
    obtain ⟨x, ε2⟩ := z
    obtain ⟨G2, F2, sg, R2, d⟩ := frz_ok F1 R1 V1 q
    cases x with
    | list ds =>
      simp only [q] at h1
      cases d with
      | lst hs ha =>
        rename_i a us
        refine ⟨a, rfl, ⟨us, R2.ex.seq hs⟩, lc_core hws R2 F2 h1 (fun i x H' G' ow' ε' hx _ f1 r1 => ?_) (fun H' G' ow' ε' _ f1 r1 => ⟨us, r1.ex.seq (f1.ex.seq hs), by rw [dpa_len ha]; exact Nat.le_refl _⟩) fun acc ε' G' H' ow' v q F R V => kk _ _ G' H' ow' v q F R V⟩
        obtain ⟨u, hu, du⟩ := dpa_get ha hx
        have hS : SqL K H' a us := r1.ex.seq (f1.ex.seq hs)
        refine ⟨⟨us, u, hS, hu⟩, fun y H2 hy => ⟨hy.1, ?_⟩⟩
        have e := hy.2 us hS
        rw [hu] at e
        cases e
        exact dp_ex f1.ex _ du
    | _ => simp only [q] at h1
theorem lcT_rd (hws : ∀ j ∈ ws, j ∈ vs) (h : rdV K (dLcT t g tt te vs) σ H Q) : tLc (iTup K (rdV K t)) (rdG K ws g) (rdT K tt) (rdV K te) vs σ H Q := by
  obtain ⟨c, G, ow, ε, A, R, h, kk⟩ := h
  refine ⟨c, G, ow, ε, _, R, h, fun r ε1 G1 H1 ow1 v h1 F1 R1 V1 => ?_⟩
  cases q : frz ε1 r with
  | none => simp only [q] at h1
  | some z =>
    obtain ⟨x, ε2⟩ := z
    obtain ⟨G2, F2, sg, R2, d⟩ := frz_ok F1 R1 V1 q
    cases x with
    | tuple ds =>
      simp only [q] at h1
      cases d with
      | tup hs ha =>
        rename_i a us
        refine ⟨a, rfl, ⟨us, seqT R2.ex hs⟩, lc_core hws R2 F2 h1 (fun i x H' G' ow' ε' hx _ f1 r1 => ?_) (fun H' G' ow' ε' _ f1 r1 => ⟨us, seqT r1.ex (seqT f1.ex hs), by rw [dpa_len ha]; exact Nat.le_refl _⟩) fun acc ε' G' H' ow' v q F R V => kk _ _ G' H' ow' v q F R V⟩
        obtain ⟨u, hu, du⟩ := dpa_get ha hx
        have hS : SqT K H' a us := seqT r1.ex (seqT f1.ex hs)
        refine ⟨⟨us, u, hS, hu⟩, fun y H2 hy => ⟨hy.1, ?_⟩⟩
        have e := hy.2 us hS
        rw [hu] at e
        cases e
        exact dp_ex f1.ex _ du
    | _ => simp only [q] at h1
theorem lcR_rd (hws : ∀ j ∈ ws, j ∈ vs) (h : rdV K (dLcR ta g tt te vs) σ H Q) : tLc (iRng1 (rdA K ta)) (rdG K ws g) (rdT K tt) (rdV K te) vs σ H Q := by
  obtain ⟨c, G, ow, ε, A, R, h, kk⟩ := h
  refine ⟨c, G, ow, ε, _, R, h, fun rs ε1 G1 H1 ow1 us h1 F1 R1 V1 => ?_⟩
  cases q : peekAll ε1 rs with
  | none => simp only [q] at h1
  | some xs =>
    have P := peekAll_ok R1 V1 q
    have key : ∃ j, xs = [.int j] := by
      rw [q] at h1
      split at h1
      · rename_i j e
        exact ⟨j, Option.some.inj e⟩
      · exact h1.elim
    obtain ⟨j, rfl⟩ := key
    simp only [q] at h1
    match P with
    | .cons d .nil =>
      refine ⟨j, by rw [Pk.int d], h1.1, h1.2.1, lc_core hws R1 F1 h1.2.2 (fun i x H' G' ow' ε' hx _ f1 r1 => ?_) (fun H' G' ow' ε' _ f1 r1 => by rw [rngD_len]; exact Nat.le_refl _) fun acc ε' G' H' ow' v q F R V => kk _ _ G' H' ow' v q F R V⟩
      obtain ⟨z1, rfl⟩ := rngD_get hx
      exact ⟨z1, fun y H2 hy => ⟨hy.1, by rw [hy.2]; exact .int _⟩⟩
end
section
variable {X : Cx} {elt tg iter : Expr} {ifs : List Expr} {scope : Scope} {own : List (Str × Nat)} {pos spos py : Pos} {t : TD} {ta : TDA} {g : TDG} {tt : TDT} {te : TD} {ws : List Nat} {i : Nat} {y : Str}
abbrev DTs (X : Cx) (ifs : List Expr) (t : TDT) : Prop := PTs X ifs (rdT X.K t)
theorem dts_nil : DTs X [] dYes := ⟨fun pins s σ H Q I ⟨c, G, ow, ε, A, R, h, kk⟩ => pts_nil.run pins s σ H Q I (kk true ε G H ow h (Fr.refl _ _ _) R)⟩
theorem dts_one {c : Expr} {t : TDT} (h : DT X c t) : DTs X [c] t := pts_one h
/-- what a comprehension's block asks: target, tests, element within the block -/
structure Blk (X : Cx) (tg : Expr) (ifs : List Expr) (elt : Expr) (scope : Scope) (own : List (Str × Nat)) (ws : List Nat) (g : TDG) (tt : TDT) (te : TD) : Prop where
  ok : BlkOk X.N X.env.scope scope own
  sub : ∀ j ∈ ws, j ∈ own.map (·.2)
  tgt : ∀ (s : Shared) (H : Hp) (C : Addr) (cl : List (Str × Addr)) (fp : List Addr), DG (X.blk s H scope (compEnvC scope cl C X.env) fp) tg ws g
  tst : ∀ (s : Shared) (H : Hp) (C : Addr) (cl : List (Str × Addr)) (fp : List Addr), DTs (X.blk s H scope (compEnvC scope cl C X.env) fp) ifs tt
  elt : ∀ (s : Shared) (H : Hp) (C : Addr) (cl : List (Str × Addr)) (fp : List Addr), DV (X.blk s H scope (compEnvC scope cl C X.env) fp) elt te
theorem dv_lcL (hc : X.calm = true) (hN : X.N.Nodup) (hi : DV X iter t) (b : Blk X tg ifs elt scope own ws g tt te) (hs : ∀ x, foldedSetIterable iter X.env x = pure x := by intro _; rfl) : DV X (.ListComp elt [⟨tg, iter, ifs, 0⟩] scope pos) (dLcL t g tt te (own.map (·.2))) :=
  pe_w (pe_lc hc hN (pi_list hi) b.ok b.tgt b.tst b.elt hs) fun _ _ _ h => lcL_rd b.sub h
theorem dv_lcT (hc : X.calm = true) (hN : X.N.Nodup) (hi : DV X iter t) (b : Blk X tg ifs elt scope own ws g tt te) (hs : ∀ x, foldedSetIterable iter X.env x = pure x := by intro _; rfl) : DV X (.ListComp elt [⟨tg, iter, ifs, 0⟩] scope pos) (dLcT t g tt te (own.map (·.2))) :=
  pe_w (pe_lc hc hN (pi_tup hi) b.ok b.tgt b.tst b.elt hs) fun _ _ _ h => lcT_rd b.sub h
theorem dv_lcR {a : Expr} {p pos' : Pos} (hc : X.calm = true) (hN : X.N.Nodup) (hgl : Gl X "range") (hm : X.mg "range" = none) (ha : DA X [a] ta) (b : Blk X tg ifs elt scope own ws g tt te) (hs : starEach [a] X.env = [(false, eval a X.env)] := by rfl) :
    DV X (.ListComp elt [⟨tg, .Call (.Name "range" p) [a] [] pos', ifs, 0⟩] scope pos) (dLcR ta g tt te (own.map (·.2))) :=
  pe_w (pe_lc hc hN (pi_range1 hgl hm ha hs) b.ok b.tgt b.tst b.elt) fun _ _ _ h => lcR_rd b.sub h
theorem setlc_rd {K : PySem.W.Frag} {td : TD} {tl : TE} {σ : L2.St} {H : Hp} {D : Ends} (hr : ∀ Q : VK, rdV K td σ H Q → tl σ H Q) (hlen : i < σ.length) (h : rdS K (sSet i td) D σ H) : tAsg tl (gName i) D σ H := by
  obtain ⟨c, G, ow, ε, A, R, h, k1, k2, k3, k4⟩ := h
  refine hr _ ⟨c, G, ow, ε, _, R, h, fun r ε1 G1 H1 ow1 v h1 F1 R1 V1 => ?_⟩
  cases q : slOf ε1 r with
  | none => simp only [q] at h1
  | some z =>
    obtain ⟨s, ε2⟩ := z
    simp only [q] at h1
    obtain ⟨G2, ow2, F2, R2⟩ := store_sl F1 R.dom R1 V1 (by rw [← R1.len]; exact hlen) q
    exact k1 _ _ G2 H1 ow2 h1 F2 R2
theorem ds_lcL (hc : X.calm = true) (hN : X.N.Nodup) (hy : X.N[i]? = some y) (hyl : X.env.scope.names.lookup y = some .local) (hsw : swapsWith (.ListComp elt [⟨tg, iter, ifs, 0⟩] scope pos) (some (.Name y py)) spos.line X.env = pure true)
    (hi : DV X iter t) (b : Blk X tg ifs elt scope own ws g tt te) (hs : ∀ x, foldedSetIterable iter X.env x = pure x := by intro _; rfl) : DS X (.Assign [.Name y py] (.ListComp elt [⟨tg, iter, ifs, 0⟩] scope pos) spos) (sSet i (dLcL t g tt te (own.map (·.2)))) :=
  ps_wl (ps_setLc hc hN hy hyl hsw (pi_list hi) b.ok b.tgt b.tst b.elt hs) fun _ _ _ hl h => setlc_rd (fun _ => lcL_rd b.sub) (by rw [hl]; exact (List.getElem?_eq_some_iff.mp hy).1) h
theorem ds_lcT (hc : X.calm = true) (hN : X.N.Nodup) (hy : X.N[i]? = some y) (hyl : X.env.scope.names.lookup y = some .local) (hsw : swapsWith (.ListComp elt [⟨tg, iter, ifs, 0⟩] scope pos) (some (.Name y py)) spos.line X.env = pure true)
    (hi : DV X iter t) (b : Blk X tg ifs elt scope own ws g tt te) (hs : ∀ x, foldedSetIterable iter X.env x = pure x := by intro _; rfl) : DS X (.Assign [.Name y py] (.ListComp elt [⟨tg, iter, ifs, 0⟩] scope pos) spos) (sSet i (dLcT t g tt te (own.map (·.2)))) :=
  ps_wl (ps_setLc hc hN hy hyl hsw (pi_tup hi) b.ok b.tgt b.tst b.elt hs) fun _ _ _ hl h => setlc_rd (fun _ => lcT_rd b.sub) (by rw [hl]; exact (List.getElem?_eq_some_iff.mp hy).1) h
theorem ds_lcR {a : Expr} {p pos' : Pos} (hc : X.calm = true) (hN : X.N.Nodup) (hy : X.N[i]? = some y) (hyl : X.env.scope.names.lookup y = some .local) (hsw : swapsWith (.ListComp elt [⟨tg, .Call (.Name "range" p) [a] [] pos', ifs, 0⟩] scope pos) (some (.Name y py)) spos.line X.env = pure true)
    (hgl : Gl X "range") (hm : X.mg "range" = none) (ha : DA X [a] ta) (b : Blk X tg ifs elt scope own ws g tt te) (hs : starEach [a] X.env = [(false, eval a X.env)] := by rfl) : DS X (.Assign [.Name y py] (.ListComp elt [⟨tg, .Call (.Name "range" p) [a] [] pos', ifs, 0⟩] scope pos) spos) (sSet i (dLcR ta g tt te (own.map (·.2)))) :=
  ps_wl (ps_setLc hc hN hy hyl hsw (pi_range1 hgl hm ha hs) b.ok b.tgt b.tst b.elt) fun _ _ _ hl h => setlc_rd (fun _ => lcR_rd b.sub) (by rw [hl]; exact (List.getElem?_eq_some_iff.mp hy).1) h
end

/-! ### a list of the def's own is walked, left as it is -/
def sForB (j : Nat) (g : TDG) (b : TDS) : TDS := fun A ε => match look ε j with
  | .lst fr xs => forGo (fun ε' => look ε' j = .lst fr xs) g b { nx := A.nx, rt := A.rt, bk := A.bk, ct := A.ct } xs ε
  | _ => False
def dLcB (j : Nat) (g : TDG) (tt : TDT) (te : TD) (vs : List Nat) : TD := fun ε A => match look ε j with
  | .lst fr xs => lcGo (fun ε' => look ε' j = .lst fr xs) g tt te vs (fun acc ε' => A (.new acc) (rstE ε ε' vs)) xs [] (wipeE ε vs)
  | _ => False
section
variable {K : PySem.W.Frag} {t : TD} {g : TDG} {tt : TDT} {te : TD} {ws vs : List Nat} {σ : L2.St} {H : Hp} {Q : VK} {j : Nat}
theorem lcB_rd (hws : ∀ j ∈ ws, j ∈ vs) (h : rdV K (dLcB j g tt te vs) σ H Q) : tLc (iList K (tVar j)) (rdG K ws g) (rdT K tt) (rdV K te) vs σ H Q := by
  obtain ⟨c, G, ow, ε, A, R, h, kk⟩ := h
  unfold dLcB at h
  cases hl : look ε j with
  | un => simp only [hl] at h
  | d _ => simp only [hl] at h
  | dct _ => simp only [hl] at h
  | v _ => simp only [hl] at h
  | lst fr xs =>
    simp only [hl] at h
    obtain ⟨o, ho⟩ := R.some_at (i := j) (by rw [hl]; exact fun z => nomatch z)
    have q0 := R.at ho
    rw [hl] at q0
    obtain ⟨p, us, rfl, _, _, hp, ha, _⟩ := q0
    have at_ : ∀ H' G' ow' ε', look ε' j = .lst fr xs → Rep K c G' H' ow' (wipe σ vs) ε' → ∃ us, SqL K H' p us ∧ DdAll K G' us xs := fun H' G' ow' ε' e r => by
      obtain ⟨o', ho'⟩ := r.some_at (i := j) (by rw [e]; exact fun z => nomatch z)
      have q := r.at ho'
      rw [e] at q
      obtain ⟨p', us', rfl, _, _, h3, h4, _⟩ := q
      have e2 := (wipe_some ho').1
      rw [ho] at e2
      cases e2
      exact ⟨us', .inl (.inl h3), h4⟩
    refine ⟨.ref p, ho, p, rfl, ⟨us, .inl (.inl hp)⟩, lc_core hws R (Fr.refl _ _ _) h (fun i x H' G' ow' ε' hx hI f1 r1 => ?_) (fun H' G' ow' ε' hI f1 r1 => ?_) fun acc ε' G' H' ow' v q F R V => kk _ _ G' H' ow' v q F R V⟩
    · obtain ⟨us2, hS, ha2⟩ := at_ H' G' ow' ε' hI r1
      obtain ⟨u, hu, du⟩ := dpa_get ha2 hx
      refine ⟨⟨us2, u, hS, hu⟩, fun y H2 hy => ⟨hy.1, ?_⟩⟩
      have e := hy.2 us2 hS
      rw [hu] at e
      cases e
      exact du
    · obtain ⟨us2, hS, ha2⟩ := at_ H' G' ow' ε' hI r1
      exact ⟨us2, hS, by rw [dpa_len ha2]; exact Nat.le_refl _⟩
end
section
variable {X : Cx} {elt tg : Expr} {ifs : List Expr} {scope : Scope} {own : List (Str × Nat)} {pos spos py pz : Pos} {g : TDG} {tt : TDT} {te : TD} {ws : List Nat} {i : Nat} {y z : Str}
theorem dv_lcB (j : Nat) (hc : X.calm = true) (hN : X.N.Nodup) (b : Blk X tg ifs elt scope own ws g tt te) (hz : X.N[j]? = some z := by rfl) (hv : Vis X.env.scope z := by first | exact Or.inl rfl | exact Or.inr (Or.inl rfl) | exact Or.inr (Or.inr rfl)) (hd : (z == ("__debug__" : Str)) = false := by decide)
    (hcd : (z == ("__classdict__" : Str)) = false := by decide) (hs : ∀ x, foldedSetIterable (.Name z pz) X.env x = pure x := by intro _; rfl) : DV X (.ListComp elt [⟨tg, .Name z pz, ifs, 0⟩] scope pos) (dLcB j g tt te (own.map (·.2))) :=
  pe_w (pe_lc hc hN (pi_list (pe_var hz hv hd hcd)) b.ok b.tgt b.tst b.elt hs) fun _ _ _ h => lcB_rd b.sub h
theorem ds_lcB (j : Nat) (hc : X.calm = true) (hN : X.N.Nodup) (hy : X.N[i]? = some y) (hyl : X.env.scope.names.lookup y = some .local) (hsw : swapsWith (.ListComp elt [⟨tg, .Name z pz, ifs, 0⟩] scope pos) (some (.Name y py)) spos.line X.env = pure true)
    (b : Blk X tg ifs elt scope own ws g tt te) (hz : X.N[j]? = some z := by rfl) (hv : Vis X.env.scope z := by first | exact Or.inl rfl | exact Or.inr (Or.inl rfl) | exact Or.inr (Or.inr rfl)) (hd : (z == ("__debug__" : Str)) = false := by decide)
    (hcd : (z == ("__classdict__" : Str)) = false := by decide) (hs : ∀ x, foldedSetIterable (.Name z pz) X.env x = pure x := by intro _; rfl) : DS X (.Assign [.Name y py] (.ListComp elt [⟨tg, .Name z pz, ifs, 0⟩] scope pos) spos) (sSet i (dLcB j g tt te (own.map (·.2)))) :=
  ps_wl (ps_setLc hc hN hy hyl hsw (pi_list (pe_var hz hv hd hcd)) b.ok b.tgt b.tst b.elt hs) fun _ _ _ hl h => setlc_rd (fun _ => lcB_rd b.sub) (by rw [hl]; exact (List.getElem?_eq_some_iff.mp hy).1) h
end
/-! ### a def's promise over data -/
abbrev DSp := List Sl → (Vl → List Sl → Prop) → Prop
def runS (S : DSp) (qs : List Sl) (k : Vl → List Sl → Prop) : Prop := S qs k
def spD (K : PySem.W.Frag) (n : Nat) (S : DSp) : Sp := fun vs H Q _ => ∃ (c : Ct) (G : Hp) (ow : Ow) (ps : List Sl) (A : Vl → List Sl → Prop), c.H0 = H ∧ Rep K c G H ow (vs.map some) ps ∧ ps.length = n ∧ (∀ i p, c.par i = some p → vs[i]? = some (.ref p)) ∧ S ps A ∧
  ∀ r ps' v G' H' ow', A r ps' → Fr G H ow G' H' ow' → Rep K c G' H' ow' (vs.map some) ps' → VOk K H G' H' ow' [] r v → Q v H'
def finS : Sl → Sl
  | .lst false xs => .lst false xs
  | _ => .un
def fin : Nat → Ep → List Sl
  | 0, _ => []
  | n + 1, [] => .un :: fin n []
  | n + 1, s :: ε => finS s :: fin n ε
theorem fin_length : ∀ (n : Nat) (ε : Ep), (fin n ε).length = n
  | 0, _ => rfl
  | n + 1, [] => congrArg (· + 1) (fin_length n [])
  | n + 1, _ :: ε => congrArg (· + 1) (fin_length n ε)
theorem look_fin : ∀ {n : Nat} {ε : Ep} {i : Nat}, i < n → look (fin n ε) i = finS (look ε i)
  | 0, _, _, h => absurd h (Nat.not_lt_zero _)
  | _ + 1, [], 0, _ => rfl
  | n + 1, [], i + 1, h => look_fin (n := n) (ε := []) (Nat.lt_of_succ_lt_succ h)
  | _ + 1, _ :: _, 0, _ => rfl
  | n + 1, _ :: r, i + 1, h => look_fin (n := n) (ε := r) (Nat.lt_of_succ_lt_succ h)
theorem look_app : ∀ {a b : Ep} {i : Nat}, i < a.length → look (a ++ b) i = look a i
  | [], _, _, h => absurd h (Nat.not_lt_zero _)
  | _ :: _, _, 0, _ => rfl
  | _ :: r, b, i + 1, h => look_app (a := r) (b := b) (Nat.lt_of_succ_lt_succ h)
theorem look_app2 : ∀ {a b : Ep} {i : Nat}, a.length ≤ i → look (a ++ b) i = look b (i - a.length)
  | [], _, _, _ => rfl
  | _ :: _, _, 0, h => absurd h (Nat.not_succ_le_zero _)
  | _ :: r, b, i + 1, h => by
    show look (r ++ b) i = look b (i + 1 - (r.length + 1))
    rw [look_app2 (Nat.le_of_succ_le_succ h), Nat.add_sub_add_right]
def uns (n : Nat) : Ep := List.replicate n .un
theorem look_uns : ∀ (n i : Nat), look (uns n) i = .un
  | 0, _ => rfl
  | _ + 1, 0 => rfl
  | n + 1, i + 1 => look_uns n i
section
variable {P : Program} {w : World} {K : PySem.W.Frag} {mg : Str → Option Value} {base : Heap}
theorem rep_start {c : Ct} {G H : Hp} {ow : Ow} {vs : List V} {ps : List Sl} {N : List Str} (R : Rep K c G H ow (vs.map some) ps) (hN : vs.length ≤ N.length) : Rep K c G H ow (L2.start N vs) (ps ++ uns (N.length - vs.length)) := by
  have hl : vs.length = ps.length := by
    have := R.len
    rw [List.length_map] at this
    exact this
  refine ⟨R.ex, R.dom, ?_, fun j o z => ?_⟩
  · simp [L2.start, uns, hl]
  · by_cases hj : j < vs.length
    · unfold L2.start at z
      rw [List.getElem?_append_left (by simpa using hj)] at z
      rw [look_app (by omega)]
      exact R.sl j o z
    · rw [look_app2 (by omega), look_uns]
      trivial
theorem rep_end {c : Ct} {G H : Hp} {ow : Ow} {vs : List V} {n : Nat} {σ : L2.St} {ε : Ep} (hn : vs.length = n) (hp : ∀ i p, c.par i = some p → vs[i]? = some (.ref p)) (R : Rep K c G H ow σ ε) : Rep K c G H ow (vs.map some) (fin n ε) := by
  refine ⟨R.ex, R.dom, by rw [fin_length, List.length_map, hn], fun j o z => ?_⟩
  have hj : j < n := by
    have := (List.getElem?_eq_some_iff.mp z).1
    rw [List.length_map, hn] at this
    exact this
  rw [look_fin hj]
  cases hs : look ε j with
  | lst fr xs =>
    cases fr with
    | true => trivial
    | false =>
      obtain ⟨o', ho⟩ := R.some_at (i := j) (by rw [hs]; exact fun z => nomatch z)
      have q := R.at ho
      rw [hs] at q
      obtain ⟨p, us, e, h1, h2, h3, h4, h5, h6⟩ := q
      have hv := hp j p (h6 rfl)
      rw [List.getElem?_map, hv] at z
      cases z
      exact ⟨p, us, rfl, h1, h2, h3, h4, h5, h6⟩
  | un => trivial
  | d _ => trivial
  | dct _ => trivial
  | v _ => trivial
/-- THE RULE for a def over data -/
theorem fnD {x qual : Str} {st : Stmt} {f : Addr} {fd : FuncData} {N ps : List Str} {k n : Nat} {S : DSp} (F : Fun K x qual st f fd) (sc : FnScope N ps (defScope st)) (hn : ps.length = n) (t : TDS)
    (hbody : ∀ (cdv : Value) (A : Around) (outer : List Env) (s : Shared) (H : Hp) (E : XK), Room k (A.deeper (envOfC qual (defScope st) s.heap.objs.size f cdv)) → DSs (cxOf CX0 P w K mg base N qual (defScope st) f cdv A outer s H E).nox (defBody st) t)
    (h : ∀ (qs : List Sl) (A : Vl → List Sl → Prop), qs.length = n → S qs A → t { nx := fun ε => A (.d .none) (fin n ε), rt := fun r ε => A r (fin n ε) } (qs ++ uns (N.length - n))) : FnOk P w K mg base CX0 (k + 1) f fd ps (spD K n S) := by
  have hNl : n ≤ N.length := by
    have := congrArg List.length sc.pre
    rw [List.length_take] at this
    omega
  have vl : ∀ {c : Ct} {G H : Hp} {ow : Ow} {vs : List V} {qs : List Sl}, Rep K c G H ow (vs.map some) qs → qs.length = n → vs.length = n := fun {c G H ow vs qs} R e => by
    have := R.len
    rw [List.length_map] at this
    omega
  refine F.ok sc (fun vs H Q E q => ?_) (fun cdv A outer s H vs Q E hr q => ?_)
  · obtain ⟨c, G, ow, qs, B, e, R, hl, hp, hS, kk⟩ := q
    exact (vl R hl).trans hn.symm
  · obtain ⟨c, G, ow, qs, B, e, R, hl, hp, hS, kk⟩ := q
    have hv := vl R hl
    have R1 := rep_start (N := N) R (by rw [hv]; exact hNl)
    rw [hv] at R1
    refine ⟨_, hbody cdv A outer s H E hr, c, G, ow, _, _, R1, h qs B hl hS, fun ε' σ' G' H' ow' z F1 R2 => kk _ _ .non G' H' ow' z F1 (rep_end hv hp R2) .non,
      fun r ε' σ' G' H' ow' v z F1 R2 V2 => kk _ _ v G' H' ow' z F1 (rep_end hv hp R2) (by rw [e] at V2; exact V2), fun ε' σ' G' H' ow' z F1 R2 => z.elim, fun ε' σ' G' H' ow' z F1 R2 => z.elim⟩
end
/-! ### calls -/
def dCall (S : DSp) (t : TDF) : TD := fun ε A => t ε fun ds ε1 => runS S (ds.map .d) fun r _ => A r ε1
/-- the first argument a list of the def's own, handed in to be changed -/
def dCallS (j : Nat) (S : DSp) (t : TDF) : TD := fun ε A => match look ε j with
  | .lst _ _ => t ε fun ds ε1 => match look ε1 j with
    | .lst fr xs => runS S (.lst false xs :: ds.map .d) fun r ps => match ps with
      | .lst false ys :: _ => A r (put ε1 j (.lst fr ys))
      | _ => False
    | _ => False
  | _ => False
section
variable {X : Cx} {k n : Nat} {f : Addr} {fd : FuncData} {ps : List Str} {S : DSp} {x : Str} {p pos : Pos} {e : Expr} {es : List Expr} {t : TDF} {K : PySem.W.Frag}
theorem look_mapd : ∀ (ds : List PyData) (i : Nat), (∃ d, ds[i]? = some d ∧ look (ds.map Sl.d) i = .d d) ∨ look (ds.map Sl.d) i = .un
  | [], _ => .inr rfl
  | d :: _, 0 => .inl ⟨d, rfl, rfl⟩
  | _ :: r, i + 1 => by
    rcases look_mapd r i with ⟨d, h1, h2⟩ | h
    · exact .inl ⟨d, by simpa using h1, h2⟩
    · exact .inr h
open Classical in
def owAt (H : Hp) (ow : Ow) : Ow := fun a => if H a = none then none else ow a
theorem owAt_some {H : Hp} {ow : Ow} {a : Addr} {o : HO} (h : H a = some o) : owAt H ow a = ow a := by unfold owAt; rw [if_neg (by rw [h]; exact fun z => nomatch z)]
theorem owAt_none {H : Hp} {ow : Ow} {a : Addr} (h : H a = none) : owAt H ow a = none := by unfold owAt; rw [if_pos h]
theorem dcall_rd {σ : L2.St} {H : Hp} {Q : VK} {E : XK} (hS : ∀ ps A, S ps A → ps.length = n) (h : rdV K (dCall S t) σ H Q) : tCall (spD K n S) [] E (rdF K t) σ H Q := by
  obtain ⟨c, G, ow, ε, A, R, h, kk⟩ := h
  refine ⟨c, G, ow, ε, _, R, h, fun ds ε1 G1 H1 ow1 vs h1 F1 R1 V1 => ?_⟩
  show spD K n S (vs ++ []) H1 Q E
  rw [List.append_nil]
  refine ⟨⟨H1, fun _ => none⟩, G1, fun _ => none, ds.map .d, _, rfl, ⟨R1.ex, fun a z => z, by rw [List.length_map, List.length_map]; exact dpa_len V1, fun j o z => ?_⟩, hS _ _ h1, (fun i p z => by cases (show (none : Option Addr) = some p from z)), h1, fun r ps' v G2 H2 ow2 q F2 R2 V2 => ?_⟩
  · rcases look_mapd ds j with ⟨d, e1, e2⟩ | e2
    · rw [e2]
      obtain ⟨v, hv, hd⟩ := dpa_get V1 e1
      rw [List.getElem?_map, hv] at z
      cases z
      exact ⟨v, rfl, hd⟩
    · rw [e2]
      trivial
  · have F3 : Fr G1 H1 ow1 G2 H2 (owAt H1 ow1) := ⟨F2.ex, fun a o z1 z2 => by
      obtain ⟨q1, q2, q3⟩ := F2.st a o z1 rfl
      rw [owAt_some z1]
      exact ⟨q1, z2, q3⟩, F2.dom⟩
    have R3 : Rep K c G2 H2 (owAt H1 ow1) σ ε1 := ⟨R2.ex, fun a z => R1.dom a (F2.dom a z), R1.len, fun j o z => (R1.sl j o z).grow F2.ex fun p u z1 z2 z3 => by
      obtain ⟨q1, q2, q3⟩ := F2.st p u z3 rfl
      rw [owAt_some z3]
      exact ⟨z1, q3 z2, q1⟩⟩
    refine kk r ε1 G2 H2 _ v q (F1.trans F3) R3 ?_
    cases r with
    | d x => exact V2
    | v x => exact V2
    | bor i => exact nomatch (show ([] : L2.St)[i]? = some (some v) from V2)
    | new xs =>
      obtain ⟨p, us, e, h1, h2, h3, h4, h5⟩ := V2
      exact ⟨p, us, e, F1.dom p h1, owAt_none h1, h3, h4, h5⟩
    | newD =>
      obtain ⟨p, e, h1, h2, h3, h4⟩ := V2
      exact ⟨p, e, F1.dom p h1, owAt_none h1, h3, h4⟩
theorem dv_call (F : FnOk X.prog X.w X.K X.mg X.base CX0 k f fd ps (spD X.K n S)) (hS : ∀ ps A, S ps A → ps.length = n) (hr : Room k X.A) (hg : Gl X x) (hm : X.mg x = some (.ref f)) (hk : PySem.W.keepIn X.K (.ref f) = true) (hb : Binds X.K fd ps [])
    (ha : DF X (e :: es) t) (hdb : (x == ("__debug__" : Str)) = false := by decide) (he : starEach (e :: es) X.env = (false, eval e X.env) :: starEach es X.env := by rfl) (hpl : (backTo pos (starEach es X.env)).any (·.1) = false := by rfl) :
    DV X (.Call (.Name x p) (e :: es) [] pos) (dCall S t) := pe_w (pe_call F hr hg hm hk hb .nil pass0 ha hdb he hpl) fun _ _ _ h => dcall_rd (E := E0) hS h
theorem dcallS_rd {j : Nat} {σ : L2.St} {H : Hp} {Q : VK} {E : XK} (hS : ∀ ps A, S ps A → ps.length = n) (h : rdV K (dCallS j S t) σ H Q) : tCall (spD K n S) [] E (tCons (tVar j) (rdF K t)) σ H Q := by
  obtain ⟨c, G, ow, ε, A, R, h, kk⟩ := h
  unfold dCallS at h
  cases hl : look ε j with
  | un => simp only [hl] at h
  | d _ => simp only [hl] at h
  | dct _ => simp only [hl] at h
  | v _ => simp only [hl] at h
  | lst fr0 xs0 =>
    simp only [hl] at h
    obtain ⟨o, ho⟩ := R.some_at (i := j) (by rw [hl]; exact fun z => nomatch z)
    have q0 := R.at ho
    rw [hl] at q0
    obtain ⟨p, vs0, rfl, _⟩ := q0
    refine ⟨.ref p, ho, c, G, ow, ε, _, R, h, fun ds ε1 G1 H1 ow1 vs h1 F1 R1 V1 => ?_⟩
    cases hl1 : look ε1 j with
    | un => simp only [hl1] at h1
    | d _ => simp only [hl1] at h1
    | dct _ => simp only [hl1] at h1
    | v _ => simp only [hl1] at h1
    | lst fr xs =>
      simp only [hl1] at h1
      have q1 := R1.at ho
      rw [hl1] at q1
      obtain ⟨p', us, e1, o1, o2, o3, o4, o5⟩ := q1
      cases e1
      show spD K n S (.ref p :: vs ++ []) H1 Q E
      rw [List.append_nil]
      have hj : j < ε1.length := look_lt (by rw [hl1]; exact fun z => nomatch z)
      refine ⟨⟨H1, fun i => if i = 0 then some p else none⟩, G1, fun a => if a = p then some 0 else none, .lst false xs :: ds.map .d, _, rfl, ⟨R1.ex, fun a z => z, ?_, fun i o z => ?_⟩, hS _ _ h1, fun i p' z => ?_, h1, fun r ps' v G2 H2 ow2 q F2 R2 V2 => ?_⟩
      · simp [dpa_len V1]
      · cases i with
        | zero =>
          cases z
          exact ⟨p, us, rfl, if_pos rfl, o2, o3, o4, fun z => Bool.noConfusion z, fun _ => rfl⟩
        | succ i =>
          show SlOk _ _ _ _ _ _ (look (ds.map .d) i) o
          rcases look_mapd ds i with ⟨d, e1, e2⟩ | e2
          · rw [e2]
            obtain ⟨v, hv, hd⟩ := dpa_get V1 e1
            have z : (vs.map some)[i]? = some o := by simpa using z
            rw [List.getElem?_map, hv] at z
            cases z
            exact ⟨v, rfl, hd⟩
          · rw [e2]
            trivial
      · have z : (if i = 0 then some p else none) = some p' := z
        split at z
        · rename_i h0
          subst h0
          cases z
          rfl
        · cases z
      · have hps : ∃ ys r', ps' = .lst false ys :: r' := by
          split at q
          · exact ⟨_, _, rfl⟩
          · exact q.elim
        obtain ⟨ys, r', rfl⟩ := hps
        have q2 := R2.sl 0 (some (.ref p)) rfl
        obtain ⟨p2, ws, e2, w1, w2, w3, w4, _⟩ := (show SlOk _ _ _ _ _ _ (.lst false ys) (some (.ref p)) from q2)
        cases e2
        have ne : ∀ a, ow1 a = none → a ≠ p := fun a z e => by
          rw [e, o1] at z
          cases z
        have F3 : Fr G1 H1 ow1 G2 H2 (owAt H1 ow1) := ⟨F2.ex, fun a o z1 z2 => by
          obtain ⟨q1, q2, q3⟩ := F2.st a o z1 (if_neg (ne a z2))
          rw [owAt_some z1]
          exact ⟨q1, z2, q3⟩, F2.dom⟩
        have R3 : Rep K c G2 H2 (owAt H1 ow1) σ (put ε1 j (.lst fr ys)) := ⟨R2.ex, fun a z => R1.dom a (F2.dom a z), by rw [put_length]; exact R1.len, fun i o z => by
          by_cases hi : i = j
          · subst hi
            rw [look_put_self hj]
            rw [ho] at z
            cases z
            exact ⟨p, ws, rfl, by rw [owAt_some o3]; exact o1, w2, w3, w4, o5⟩
          · rw [look_put_ne hi]
            exact (R1.sl i o z).grow F2.ex fun p2 u z1 z2 z3 => by
              have hne : p2 ≠ p := fun e => by
                rw [e, o1] at z1
                exact hi (Option.some.inj z1).symm
              obtain ⟨q1, q2, q3⟩ := F2.st p2 u z3 (if_neg hne)
              rw [owAt_some z3]
              exact ⟨z1, q3 z2, q1⟩⟩
        refine kk r _ G2 H2 _ v q (F1.trans F3) R3 ?_
        cases r with
        | d x => exact V2
        | v x => exact V2
        | bor i => exact nomatch (show ([] : L2.St)[i]? = some (some v) from V2)
        | new xs =>
          obtain ⟨p, us, e, h1, h2, h3, h4, h5⟩ := V2
          exact ⟨p, us, e, F1.dom p h1, owAt_none h1, h3, h4, h5⟩
        | newD =>
          obtain ⟨p, e, h1, h2, h3, h4⟩ := V2
          exact ⟨p, e, F1.dom p h1, owAt_none h1, h3, h4⟩
theorem dv_callS {y : Str} {py : Pos} (j : Nat) (F : FnOk X.prog X.w X.K X.mg X.base CX0 k f fd ps (spD X.K n S)) (hS : ∀ ps A, S ps A → ps.length = n) (hr : Room k X.A) (hg : Gl X x) (hm : X.mg x = some (.ref f)) (hk : PySem.W.keepIn X.K (.ref f) = true) (hb : Binds X.K fd ps [])
    (ha : DF X es t) (hN : X.N[j]? = some y := by rfl) (hv : Vis X.env.scope y := by first | exact Or.inl rfl | exact Or.inr (Or.inl rfl) | exact Or.inr (Or.inr rfl)) (hyd : (y == ("__debug__" : Str)) = false := by decide) (hcd : (y == ("__classdict__" : Str)) = false := by decide)
    (hdb : (x == ("__debug__" : Str)) = false := by decide) (he : starEach (.Name y py :: es) X.env = (false, eval (.Name y py) X.env) :: starEach es X.env := by rfl) (hpl : (backTo pos (starEach es X.env)).any (·.1) = false := by rfl) :
    DV X (.Call (.Name x p) (.Name y py :: es) [] pos) (dCallS j S t) := pe_w (pe_call F hr hg hm hk hb .nil pass0 (pa_cons (pe_var hN hv hyd hcd) ha he) hdb he hpl) fun _ _ _ h => dcallS_rd (E := E0) hS h
end

/-! ### operators over data -/
def kI0 (g : Int → Int → PyData) : PyData → PyData → (Vl → Prop) → Prop := fun x y A => match x, y with
  | .int i, .int j => A (.d (g i j))
  | _, _ => False
def kI (C : Int → Int → Prop) (g : Int → Int → PyData) : PyData → PyData → (Vl → Prop) → Prop := fun x y A => match x, y with
  | .int i, .int j => C i j ∧ A (.d (g i j))
  | _, _ => False
def kEq : PyData → PyData → (Vl → Prop) → Prop := fun x y A => SeqAt.shaped x = true ∧ SeqAt.shaped y = true ∧ A (.d (.bool (PyData.eqv x y)))
def kNe : PyData → PyData → (Vl → Prop) → Prop := fun x y A => SeqAt.shaped x = true ∧ SeqAt.shaped y = true ∧ A (.d (.bool (!PyData.eqv x y)))
def isN : PyData → Bool
  | .none => true
  | _ => false
def kIsN (neg : Bool) : PyData → PyData → (Vl → Prop) → Prop := fun x y A => match y with
  | .none => A (.d (.bool (if neg then !isN x else isN x)))
  | _ => False
def flatD : PyData → Bool
  | .none => true
  | .bool _ => true
  | .int _ => true
  | .str _ => true
  | _ => false
def inD (x : PyData) (ys : List PyData) : Bool := ys.any fun y => PyData.eqv y x
def kIn (neg : Bool) : PyData → PyData → (Vl → Prop) → Prop := fun x y A => match y with
  | .list ys => flatD x = true ∧ ys.all flatD = true ∧ A (.d (.bool (if neg then !inD x ys else inD x ys)))
  | .tuple ys => flatD x = true ∧ ys.all flatD = true ∧ A (.d (.bool (if neg then !inD x ys else inD x ys)))
  | _ => False
def kCat : PyData → PyData → (Vl → Prop) → Prop := fun x y A => match x, y with
  | .list xs, .list ys => xs.length + ys.length ≤ 1000000 ∧ A (.new (xs ++ ys))
  | _, _ => False
def kIx : PyData → PyData → (Vl → Prop) → Prop := fun x y A => match x, y with
  | .list xs, .int i => onO (atI xs i) fun d => A (.d d)
  | .tuple xs, .int i => onO (atI xs i) fun d => A (.d d)
  | _, _ => False
section
variable {K : PySem.W.Frag}
theorem od_I0 (g : Int → Int → Int) : OpD K (rI0 fun i j => .int (g i j)) (kI0 fun i j => .int (g i j)) := fun G H x y v1 v2 A Q e p1 p2 h k => by
  unfold kI0 at h
  split at h
  · cases p1.int
    cases p2.int
    exact ⟨_, _, rfl, rfl, k _ _ _ h (.val (.int _))⟩
  · exact h.elim
theorem od_B0 (g : Int → Int → Bool) : OpD K (rI0 fun i j => .bl (g i j)) (kI0 fun i j => .bool (g i j)) := fun G H x y v1 v2 A Q e p1 p2 h k => by
  unfold kI0 at h
  split at h
  · cases p1.int
    cases p2.int
    exact ⟨_, _, rfl, rfl, k _ _ _ h (.val (.bl _))⟩
  · exact h.elim
theorem od_I (C : Int → Int → Prop) (g : Int → Int → Int) : OpD K (rI C fun i j => .int (g i j)) (kI C fun i j => .int (g i j)) := fun G H x y v1 v2 A Q e p1 p2 h k => by
  unfold kI at h
  split at h
  · cases p1.int
    cases p2.int
    exact ⟨_, _, rfl, rfl, h.1, k _ _ _ h.2 (.val (.int _))⟩
  · exact h.elim
theorem od_eq : OpD K (rEqD K) kEq := fun G H x y v1 v2 A Q e p1 p2 h k => ⟨x, y, (p1.dp e).dp x (SeqAt.canLay_of_shaped h.1), (p2.dp e).dp y (SeqAt.canLay_of_shaped h.2.1), h.1, h.2.1, k _ _ _ h.2.2 (.val (.bl _))⟩
theorem od_ne : OpD K (rNeD K) kNe := fun G H x y v1 v2 A Q e p1 p2 h k => ⟨x, y, (p1.dp e).dp x (SeqAt.canLay_of_shaped h.1), (p2.dp e).dp y (SeqAt.canLay_of_shaped h.2.1), h.1, h.2.1, k _ _ _ h.2.2 (.val (.bl _))⟩
theorem isN_ok {G H : Hp} {x : PyData} {v : V} (p : Pk K G H v x) : decide (v = .non) = isN x := by
  rcases p with p | ⟨q, vs, xs, rfl, rfl, _⟩
  · cases p <;> rfl
  · rfl
theorem Pk.non {G H : Hp} {v : V} (p : Pk K G H v .none) : v = .non := by
  rcases p with p | ⟨q, vs, xs, _, e, _⟩
  · cases p; rfl
  · cases e
theorem od_isN : OpD K (fun x y H Q => y = .non ∧ Q (.bl (decide (x = .non))) H) (kIsN false) := fun G H x y v1 v2 A Q e p1 p2 h k => by
  unfold kIsN at h
  split at h
  · refine ⟨p2.non, ?_⟩
    rw [isN_ok p1]
    exact k _ _ _ h (.val (.bl _))
  · exact h.elim
theorem od_notN : OpD K (fun x y H Q => y = .non ∧ Q (.bl (!decide (x = .non))) H) (kIsN true) := fun G H x y v1 v2 A Q e p1 p2 h k => by
  unfold kIsN at h
  split at h
  · refine ⟨p2.non, ?_⟩
    rw [isN_ok p1]
    exact k _ _ _ h (.val (.bl _))
  · exact h.elim
theorem flat_ok {H : Hp} {v : V} : ∀ {x : PyData}, Dd K H v x → flatD x = true → flatV v = true
  | .none, h, _ => by cases h; rfl
  | .bool _, h, _ => by cases h; rfl
  | .int _, h, _ => by cases h; rfl
  | .str _, h, _ => by cases h; rfl
  | .list _, _, h => nomatch h
  | .tuple _, _, h => nomatch h
  | .dict _, _, h => nomatch h
theorem eqv_flat {H : Hp} {v u : V} {x y : PyData} (h1 : Dd K H v x) (h2 : Dd K H u y) (f1 : flatD x = true) (f2 : flatD y = true) : eqV u v = PyData.eqv y x := by
  cases h2 <;> first
    | (cases f2; done)
    | (cases h1 <;> first
        | (cases f1; done)
        | rfl
        | simp [eqV, PyData.eqv])
theorem flats_ok {H : Hp} : ∀ {vs : List V} {ys : List PyData}, DdAll K H vs ys → ys.all flatD = true → vs.all flatV = true
  | _, _, .nil, _ => rfl
  | _, _, .cons h t, f => by
    rw [List.all_cons, Bool.and_eq_true] at f ⊢
    exact ⟨flat_ok h f.1, flats_ok t f.2⟩
theorem inV_ok {H : Hp} {v : V} {x : PyData} (h1 : Dd K H v x) (f1 : flatD x = true) : ∀ {vs : List V} {ys : List PyData}, DdAll K H vs ys → ys.all flatD = true → inV v vs = inD x ys
  | _, _, .nil, _ => rfl
  | _, _, .cons h t, f => by
    rw [List.all_cons, Bool.and_eq_true] at f
    have ih := inV_ok h1 f1 t f.2
    unfold inV inD at ih ⊢
    rw [List.any_cons, List.any_cons, ih, eqv_flat h1 h f1 f.1]
theorem od_in (neg : Bool) : OpD K (rIn K neg) (kIn neg) := fun G H x y v1 v2 A Q e p1 p2 h k => by
  unfold kIn at h
  split at h
  · obtain ⟨p, vs, rfl, hs, ha⟩ := p2.list e
    obtain ⟨f1, f2, h⟩ := h
    refine ⟨p, vs, rfl, .inl hs, flat_ok (p1.dp e) f1, flats_ok ha f2, ?_⟩
    rw [inV_ok (p1.dp e) f1 (dpa_ex e _ ha) f2]
    exact k _ _ _ h (.val (.bl _))
  · obtain ⟨p, vs, rfl, hs, ha⟩ := p2.tuple e
    obtain ⟨f1, f2, h⟩ := h
    refine ⟨p, vs, rfl, .inr hs, flat_ok (p1.dp e) f1, flats_ok ha f2, ?_⟩
    rw [inV_ok (p1.dp e) f1 (dpa_ex e _ ha) f2]
    exact k _ _ _ h (.val (.bl _))
  · exact h.elim
/-- list + list, also of lists that may only be read -/
def rCatR (K : PySem.W.Frag) : R2 := fun x y H Q => ∃ l b xs zs, x = .ref l ∧ y = .ref b ∧ SqL K H l xs ∧ SqL K H b zs ∧ xs.length + zs.length ≤ sizeLine ∧ ∀ p, H p = none → Q (.ref p) (upd H p (.lst (xs ++ zs)))
theorem op_catR {X : Cx} : OpR X (binaryOp .Add) (rCatR X.K) := by
  intro pins s σ H x y v u Q I rx ry h
  obtain ⟨l, b, xs, zs, rfl, rfl, hH, hB, hz, q⟩ := h
  cases rx
  cases ry
  obtain ⟨is1, r, P1, _⟩ := I.list hH
  obtain ⟨is2, r2, P2, _⟩ := I.list hB
  obtain ⟨⟨c1, d1, dat1, sl1⟩, ho, hc, n, hd⟩ := P1.isList
  obtain ⟨⟨c2, d2, dat2, sl2⟩, ho2, hc2, n2, hd2⟩ := P2.isList
  simp only at hc hd hc2 hd2
  subst hc hd hc2 hd2
  have l1 := r.length
  have l2 := r2.length
  have hzz : (xs ++ zs).length ≤ sizeLine := by rw [List.length_append]; exact hz
  have fine : is1.toArray.size + is2.toArray.size ≤ sizeLine := by
    rw [List.size_toArray, List.size_toArray]
    omega
  refine concat_meets ⟨_, ho, rfl⟩ ⟨_, ho2, rfl⟩ noFill_list_add seq_list_add PySem.F.slot_list_add
    PySem.F.entry_list_add (PySem.F.args_list_add_2 _ _)
    (list_addW l b is1.toArray is2.toArray n n2 d1 d2 sl1 sl2 fine) ⟨ho, ho2, ?_⟩
  have ea : is1.toArray ++ is2.toArray = (is1 ++ is2).toArray := by simp
  rw [ea]
  exact ⟨.ref _, _, I.lnew (t' := s.toks) (r.append r2) hzz, rfl, q _ I.fresh⟩
theorem od_cat : OpD K (rCatR K) kCat := fun G H x y v1 v2 A Q e p1 p2 h k => by
  unfold kCat at h
  split at h
  · obtain ⟨p, vs, rfl, hs, ha⟩ := p1.list e
    obtain ⟨q, us, rfl, hs2, ha2⟩ := p2.list e
    exact ⟨p, q, vs, us, rfl, rfl, hs, hs2, by rw [dpa_len ha, dpa_len ha2]; exact line_le h.1, fun r hr => k _ _ _ h.2 (.lst hr (dpa_app ha ha2))⟩
  · exact h.elim
theorem at_ok {H : Hp} {vs : List V} {xs : List PyData} {i : Int} {d : PyData} (h : DdAll K H vs xs) (e : atI xs i = some d) : ∃ v, atI vs i = some v ∧ Dd K H v d := by
  unfold atI at e ⊢
  rw [dpa_len h]
  cases q : ixN xs.length i with
  | none => rw [q] at e; cases e
  | some j =>
    rw [q] at e
    exact dpa_get h e
theorem od_ix : OpD K (rIx K) kIx := fun G H x y v1 v2 A Q e p1 p2 h k => by
  unfold kIx at h
  split at h
  · obtain ⟨p, vs, rfl, hs, ha⟩ := p1.list e
    cases p2.int
    obtain ⟨d, hd, h⟩ := onO_get h
    obtain ⟨v, hv, dd⟩ := at_ok ha hd
    exact .inl ⟨p, vs, _, v, rfl, rfl, hs, hv, k _ _ _ h (.val dd)⟩
  · obtain ⟨p, vs, rfl, hs, ha⟩ := p1.tuple e
    cases p2.int
    obtain ⟨d, hd, h⟩ := onO_get h
    obtain ⟨v, hv, dd⟩ := at_ok ha hd
    exact .inr (.inl ⟨p, vs, _, v, rfl, rfl, hs, hv, k _ _ _ h (.val dd)⟩)
  · exact h.elim
end
/-! ### slices -/
abbrev TDO := Ep → (Option Int → Ep → Prop) → Prop
def rdO (K : PySem.W.Frag) (t : TDO) : TO := fun σ H Q => ∃ c G ow ε A, Rep K c G H ow σ ε ∧ t ε A ∧ ∀ o ε' G' H' ow', A o ε' → Fr G H ow G' H' ow' → Rep K c G' H' ow' σ ε' → Q o H'
abbrev DO (X : Cx) (e : Option Expr) (t : TDO) : Prop := PO X e (rdO X.K t)
def dNoPart : TDO := fun ε A => A none ε
def dPart (t : TD) : TDO := fun ε A => t ε fun r ε1 => match peek ε1 r with
  | some (.int i) => A (some i) ε1
  | _ => False
theorem po_w {X : Cx} {e : Option Expr} {t t' : TO} (h : PO X e t) (i : ∀ σ H Q, t' σ H Q → t σ H Q) : PO X e t' := ⟨fun pins s σ H Q I q => h.run pins s σ H Q I (i σ H Q q)⟩
theorem do_none {X : Cx} : DO X none dNoPart := po_w po_none fun σ H Q ⟨c, G, ow, ε, A, R, h, kk⟩ => kk none ε G H ow h (Fr.refl _ _ _) R
theorem do_some {X : Cx} {e : Expr} {t : TD} (h : DV X e t) : DO X (some e) (dPart t) := po_w (po_some h) fun σ H Q ⟨c, G, ow, ε, A, R, h, kk⟩ => ⟨c, G, ow, ε, _, R, h, fun r ε1 G1 H1 ow1 v h1 F1 R1 V1 => by
  split at h1
  · rename_i i e
    exact ⟨i, (peek_ok R1 V1 e).int, kk _ ε1 G1 H1 ow1 h1 F1 R1⟩
  · exact h1.elim⟩
def cutD (xs : List PyData) (lo hi : Option Int) : List PyData := (xs.drop (HT.sIx xs.length 0 lo)).take (HT.sIx xs.length xs.length hi - HT.sIx xs.length 0 lo)
def dSlL (t : TD) (tl th : TDO) : TD := fun ε A => t ε fun r ε1 => tl ε1 fun l ε2 => th ε2 fun u ε3 => match peek ε3 r with
  | some (.list xs) => A (.new (cutD xs l u)) ε3
  | _ => False
theorem cut_ok {K : PySem.W.Frag} {H : Hp} {vs : List V} {xs : List PyData} {lo hi : Option Int} (h : DdAll K H vs xs) : DdAll K H (cutV vs lo hi) (cutD xs lo hi) := by
  unfold cutV cutD
  rw [dpa_len h]
  exact dpa_take _ (dpa_drop _ h)
theorem dv_slL {X : Cx} {e : Expr} {lo hi : Option Expr} {t : TD} {tl th : TDO} {p2 pos : Pos} (he : DV X e t) (hl : DO X lo tl) (hh : DO X hi th) : DV X (.Subscript e (.Slice lo hi none p2) pos) (dSlL t tl th) :=
  pe_w (pe_slice sl_list he hl hh) fun σ H Q ⟨c, G, ow, ε, A, R, h, kk⟩ => ⟨c, G, ow, ε, _, R, h, fun r ε1 G1 H1 ow1 v h1 F1 R1 V1 => ⟨c, G1, ow1, ε1, _, R1, h1, fun l ε2 G2 H2 ow2 h2 F2 R2 => ⟨c, G2, ow2, ε2, _, R2, h2, fun u ε3 G3 H3 ow3 h3 F3 R3 => by
    have F := (F1.trans F2).trans F3
    split at h3
    · rename_i xs e
      obtain ⟨p, vs, rfl, hs, ha⟩ := (peek_ok R3 (V1.fr (F2.trans F3)) e).list R3.ex
      refine ⟨p, vs, rfl, hs, fun q hq => ?_⟩
      obtain ⟨G', ow', F4, R4, V4⟩ := res_fin R3 (.lst hq (cut_ok (lo := l) (hi := u) ha))
      exact kk _ _ G' _ ow' _ h3 (F.trans F4) R4 (V4.since F.dom)
    · exact h3.elim⟩⟩⟩
/-! ### built-ins over data -/
def kLen : List PyData → (Vl → Prop) → Prop := fun xs A => match xs with
  | [.list ys] => A (.d (.int (ys.length : Nat)))
  | [.tuple ys] => A (.d (.int (ys.length : Nat)))
  | [.str z] => z.length ≤ 1000000 ∧ A (.d (.int (z.length : Nat)))
  | _ => False
def kList : List PyData → (Vl → Prop) → Prop := fun xs A => match xs with
  | [.list ys] => A (.new ys)
  | [.tuple ys] => A (.new ys)
  | _ => False
def kTuple : List PyData → (Vl → Prop) → Prop := fun xs A => match xs with
  | [.list ys] => A (.d (.tuple ys))
  | [.tuple ys] => A (.d (.tuple ys))
  | _ => False
def kSorted : List PyData → (Vl → Prop) → Prop := fun xs A => ∃ ns : List Int, xs = [.list (ns.map .int)] ∧ ns.length < 64 ∧ ∀ ns' : List Int, ns'.Perm ns → ns'.Pairwise (· ≤ ·) → A (.new (ns'.map .int))
def kSortedS : List PyData → (Vl → Prop) → Prop := fun xs A => ∃ ns : List Str, xs = [.list (ns.map .str)] ∧ ns.length < 64 ∧ ∀ ns' : List Str, ns'.Perm ns → sortedS ns' = true → A (.new (ns'.map .str))
def kI2 (g : Int → Int → Int) : List PyData → (Vl → Prop) → Prop := fun xs A => match xs with
  | [.int i, .int j] => A (.d (.int (g i j)))
  | _ => False
def kAbs : List PyData → (Vl → Prop) → Prop := fun xs A => match xs with
  | [.int i] => A (.d (.int (if i < 0 then -i else i)))
  | _ => False
def kAll : List PyData → (Vl → Prop) → Prop := fun xs A => ∃ bs : List Bool, xs = [.list (bs.map .bool)] ∧ A (.d (.bool (bs.all id)))
def kAny : List PyData → (Vl → Prop) → Prop := fun xs A => ∃ bs : List Bool, xs = [.list (bs.map .bool)] ∧ A (.d (.bool (bs.any id)))
section
variable {K : PySem.W.Frag}
theorem pk1 {G H : Hp} {vs : List V} {x : PyData} (h : PkAll K G H vs [x]) : ∃ v, vs = [v] ∧ Pk K G H v x := by
  cases h with
  | cons h1 t => cases t; exact ⟨_, rfl, h1⟩
theorem pk2 {G H : Hp} {vs : List V} {x y : PyData} (h : PkAll K G H vs [x, y]) : ∃ v u, vs = [v, u] ∧ Pk K G H v x ∧ Pk K G H u y := by
  cases h with
  | cons h1 t =>
    obtain ⟨u, rfl, h2⟩ := pk1 t
    exact ⟨_, u, rfl, h1, h2⟩
theorem cd_len : CallD K (fun xs H Q => ∃ x n, xs = [x] ∧ LenV K x H n ∧ Q (.int n) H) kLen := fun G H xs vs A Q e p h k => by
  unfold kLen at h
  split at h
  · obtain ⟨v, rfl, p1⟩ := pk1 p
    obtain ⟨a, us, rfl, hs, ha⟩ := p1.list e
    exact ⟨_, _, rfl, .inl ⟨us, hs, (dpa_len ha).symm⟩, k _ _ _ h (.val (.int _))⟩
  · obtain ⟨v, rfl, p1⟩ := pk1 p
    obtain ⟨a, us, rfl, hs, ha⟩ := p1.tuple e
    exact ⟨_, _, rfl, .inr ⟨us, hs, (dpa_len ha).symm⟩, k _ _ _ h (.val (.int _))⟩
  · obtain ⟨v, rfl, p1⟩ := pk1 p
    cases p1.str
    exact ⟨_, _, rfl, ⟨line_le h.1, rfl⟩, k _ _ _ h.2 (.val (.int _))⟩
  · exact h.elim
theorem cd_list : CallD K (fun xs H Q => ∃ p ys, xs = [.ref p] ∧ (SqL K H p ys ∨ SqT K H p ys) ∧ ∀ l, H l = none → Q (.ref l) (upd H l (.lst ys))) kList := fun G H xs vs A Q e p h k => by
  unfold kList at h
  split at h
  · obtain ⟨v, rfl, p1⟩ := pk1 p
    obtain ⟨a, us, rfl, hs, ha⟩ := p1.list e
    exact ⟨_, us, rfl, .inl hs, fun l hl => k _ _ _ h (.lst hl ha)⟩
  · obtain ⟨v, rfl, p1⟩ := pk1 p
    obtain ⟨a, us, rfl, hs, ha⟩ := p1.tuple e
    exact ⟨_, us, rfl, .inr hs, fun l hl => k _ _ _ h (.lst hl ha)⟩
  · exact h.elim
theorem cd_tuple : CallD K (fun xs H Q => ∃ p ys, xs = [.ref p] ∧ ((SqL K H p ys ∧ ∀ l, H l = none → Q (.ref l) (upd H l (.tup ys))) ∨ (SqT K H p ys ∧ Q (.ref p) H))) kTuple := fun G H xs vs A Q e p h k => by
  unfold kTuple at h
  split at h
  · obtain ⟨v, rfl, p1⟩ := pk1 p
    obtain ⟨a, us, rfl, hs, ha⟩ := p1.list e
    exact ⟨_, us, rfl, .inl ⟨hs, fun l hl => k _ _ _ h (.tup hl ha)⟩⟩
  · obtain ⟨v, rfl, p1⟩ := pk1 p
    obtain ⟨a, us, rfl, hs, ha⟩ := p1.tuple e
    refine ⟨_, us, rfl, .inr ⟨hs, k _ _ _ h (.val ?_)⟩⟩
    rcases p1 with p1 | ⟨_, _, _, _, e2, _⟩
    · exact p1
    · cases e2
  · exact h.elim
theorem cd_sorted : CallD K (rSorted K) kSorted := fun G H xs vs A Q e p ⟨ns, e1, hl, h⟩ k => by
  subst e1
  obtain ⟨v, rfl, p1⟩ := pk1 p
  obtain ⟨a, us, rfl, hs, ha⟩ := p1.list e
  have eu := dpa_ints ns ha
  subst eu
  exact ⟨a, ns, rfl, hs, hl, fun ns' q h1 h2 h3 => k _ _ _ (h ns' h1 h2) (.lst h3 (dpa_ofInts ns'))⟩
theorem cd_sortedS : CallD K (rSortedS K) kSortedS := fun G H xs vs A Q e p ⟨ns, e1, hl, h⟩ k => by
  subst e1
  obtain ⟨v, rfl, p1⟩ := pk1 p
  obtain ⟨a, us, rfl, hs, ha⟩ := p1.list e
  have eu := dpa_strs ns ha
  subst eu
  exact ⟨a, ns, rfl, hs, hl, fun ns' q h1 h2 h3 => k _ _ _ (h ns' h1 h2) (.lst h3 (dpa_ofStrs ns'))⟩
theorem cd_max2 : CallD K (fun xs H Q => ∃ i j, xs = [.int i, .int j] ∧ Q (.int (if j > i then j else i)) H) (kI2 fun i j => if j > i then j else i) := fun G H xs vs A Q e p h k => by
  unfold kI2 at h
  split at h
  · obtain ⟨v, u, rfl, p1, p2⟩ := pk2 p
    cases p1.int
    cases p2.int
    exact ⟨_, _, rfl, k _ _ _ h (.val (.int _))⟩
  · exact h.elim
theorem cd_min2 : CallD K (fun xs H Q => ∃ i j, xs = [.int i, .int j] ∧ Q (.int (if j < i then j else i)) H) (kI2 fun i j => if j < i then j else i) := fun G H xs vs A Q e p h k => by
  unfold kI2 at h
  split at h
  · obtain ⟨v, u, rfl, p1, p2⟩ := pk2 p
    cases p1.int
    cases p2.int
    exact ⟨_, _, rfl, k _ _ _ h (.val (.int _))⟩
  · exact h.elim
theorem cd_abs : CallD K (fun xs H Q => ∃ i, xs = [.int i] ∧ Q (.int (if i < 0 then -i else i)) H) kAbs := fun G H xs vs A Q e p h k => by
  unfold kAbs at h
  split at h
  · obtain ⟨v, rfl, p1⟩ := pk1 p
    cases p1.int
    exact ⟨_, rfl, k _ _ _ h (.val (.int _))⟩
  · exact h.elim
theorem dpa_bls {H : Hp} : ∀ {vs : List V} (bs : List Bool), DdAll K H vs (bs.map .bool) → vs = bs.map V.bl
  | _, [], h => by cases h; rfl
  | _, n :: ns, h => by
    cases h with
    | cons h1 h2 =>
      cases h1
      rw [dpa_bls ns h2]
      rfl
theorem cd_all : CallD K (rAll K) kAll := fun G H xs vs A Q e p ⟨bs, e1, h⟩ k => by
  subst e1
  obtain ⟨v, rfl, p1⟩ := pk1 p
  obtain ⟨a, us, rfl, hs, ha⟩ := p1.list e
  have eu := dpa_bls bs ha
  subst eu
  exact ⟨a, bs, rfl, hs, k _ _ _ h (.val (.bl _))⟩
theorem cd_any : CallD K (rAny K) kAny := fun G H xs vs A Q e p ⟨bs, e1, h⟩ k => by
  subst e1
  obtain ⟨v, rfl, p1⟩ := pk1 p
  obtain ⟨a, us, rfl, hs, ha⟩ := p1.list e
  have eu := dpa_bls bs ha
  subst eu
  exact ⟨a, bs, rfl, hs, k _ _ _ h (.val (.bl _))⟩
end
def dLstRg (t : TD) : TD := fun ε A => t ε fun r ε1 => match peek ε1 r with
  | some (.int n) => (0 ≤ n ∧ n ≤ 1000000) ∧ A (.new (rngD 0 n.toNat)) ε1
  | _ => False
theorem rngD_ok {K : PySem.W.Frag} {H : Hp} (n : Int) : DdAll K H (rgV 0 n) (rngD 0 n.toNat) := by
  have q := dpa_ofInts (K := K) (H := H) ((List.range n.toNat).map fun i => 0 + ((i : Nat) : Int))
  rw [List.map_map, List.map_map] at q
  unfold rgV rngD
  rw [Int.sub_zero]
  exact q
theorem dv_listRg {X : Cx} {a : Expr} {t : TD} {p pos p2 pos2 : Pos} (hc : X.calm = true) (hg : Gl X "list") (hm : X.mg "list" = none) (hg2 : Gl X "range") (hm2 : X.mg "range" = none) (ha : DV X a t) (na2 : starEach [a] X.env = (false, eval a X.env) :: starEach [] X.env := by rfl)
    (na : starEach [.Call (.Name "range" p2) [a] [] pos2] X.env = (false, eval (.Call (.Name "range" p2) [a] [] pos2) X.env) :: starEach [] X.env := by rfl) : DV X (.Call (.Name "list" p) [.Call (.Name "range" p2) [a] [] pos2] [] pos) (dLstRg t) :=
  pe_w (pe_listRg hc hg hm (prg_1 hg2 hm2 ha na2) na) fun σ H Q ⟨c, G, ow, ε, A, R, h, kk⟩ => ⟨c, G, ow, ε, _, R, h, fun r ε1 G1 H1 ow1 v h1 F1 R1 V1 => by
    split at h1
    · rename_i n e
      refine ⟨n, (peek_ok R1 V1 e).int, .of_le (by omega) (by omega) (by omega) (by omega), fun q hq => ?_⟩
      obtain ⟨G', ow', F2, R2, V2⟩ := res_fin R1 (.lst hq (rngD_ok n))
      exact kk _ _ G' _ ow' _ h1.2 (F1.trans F2) R2 (V2.since F1.dom)
    · exact h1.elim⟩

/-! ### methods that change a list of the def's own -/
def dMut (j : Nat) (k : List PyData → List PyData → (PyData → List PyData → Prop) → Prop) (t : TDF) : TD := fun ε A => match look ε j with
  | .lst _ _ => t ε fun ds ε1 => match look ε1 j with
    | .lst fr xs => k ds xs fun d ys => A (.d d) (put ε1 j (.lst fr ys))
    | _ => False
  | _ => False
def MutD (K : PySem.W.Frag) (r : V → List V → Hp → VK → Prop) (k : List PyData → List PyData → (PyData → List PyData → Prop) → Prop) : Prop := ∀ G H p vs xs ds us (A : PyData → List PyData → Prop) (Q : VK), Same G H → G p = none → H p = some (.lst vs) → DdAll K G vs xs → DdAll K G us ds → k ds xs A →
  (∀ d ys v vs', A d ys → Dd K G v d → DdAll K G vs' ys → Q v (upd H p (.lst vs'))) → r (.ref p) us H Q
def kAppend : List PyData → List PyData → (PyData → List PyData → Prop) → Prop := fun ds xs A => match ds with
  | [y] => xs.length < 1000000 ∧ A .none (xs ++ [y])
  | _ => False
def kPopAt : List PyData → List PyData → (PyData → List PyData → Prop) → Prop := fun ds xs A => match ds with
  | [.int i] => 0 ≤ i ∧ xs.length ≤ 1000000 ∧ onO xs[i.toNat]? fun y => A y (xs.eraseIdx i.toNat)
  | _ => False
def kRemove : List PyData → List PyData → (PyData → List PyData → Prop) → Prop := fun ds xs A => match ds with
  | [.int k] => ∃ (ns : List Int) (j : Nat), xs = ns.map .int ∧ ns[j]? = some k ∧ (∀ m : Nat, m < j → ns[m]? ≠ some k) ∧ A .none ((ns.eraseIdx j).map .int)
  | _ => False
section
variable {K : PySem.W.Frag}
theorem md_append : MutD K rAppend kAppend := fun G H p vs xs ds us A Q e g hH hx hu h k => by
  unfold kAppend at h
  split at h
  · cases hu with
    | cons h1 t =>
      cases t
      exact ⟨p, vs, _, rfl, rfl, hH, by rw [dpa_len hx]; exact line_lt h.1, k _ _ _ _ h.2 .non (dpa_app hx (dpa_one h1))⟩
  · exact h.elim
theorem md_popAt : MutD K rPopAt kPopAt := fun G H p vs xs ds us A Q e g hH hx hu h k => by
  unfold kPopAt at h
  split at h
  · obtain ⟨h0, hl, h⟩ := h
    obtain ⟨y, hy, h⟩ := onO_get h
    cases hu with
    | cons h1 t =>
      cases t
      cases h1
      obtain ⟨v, hv, dv⟩ := dpa_get hx hy
      rename_i i _
      have hlt := (List.getElem?_eq_some_iff.mp hy).1
      have hlv := dpa_len hx
      exact ⟨p, vs, i, i.toNat, v, rfl, rfl, hH, by omega, by omega, seqIndex_at h0 (by omega), hv, k _ _ _ _ h dv (dpa_erase _ hx)⟩
  · exact h.elim
theorem md_remove : MutD K rRemI kRemove := fun G H p vs xs ds us A Q e g hH hx hu h k => by
  unfold kRemove at h
  split at h
  · obtain ⟨ns, j, rfl, h1, h2, h⟩ := h
    have ev := dpa_ints ns hx
    subst ev
    cases hu with
    | cons h3 t =>
      cases t
      cases h3
      exact ⟨p, ns, _, j, rfl, rfl, hH, h1, h2, k _ _ _ _ h .non (dpa_ofInts _)⟩
  · exact h.elim
theorem dmut_rd {j : Nat} {t : TDF} {T : String} {r : V → List V → Hp → VK → Prop} {k : List PyData → List PyData → (PyData → List PyData → Prop) → Prop} {σ : L2.St} {H : Hp} {Q : VK} (hT : T = "list") (hk : MutD K r k) (h : rdV K (dMut j k t) σ H Q) : tBM K T r (tVar j) (rdF K t) σ H Q := by
  obtain ⟨c, G, ow, ε, A, R, h, kk⟩ := h
  subst hT
  unfold dMut at h
  cases hl : look ε j with
  | un => simp only [hl] at h
  | d _ => simp only [hl] at h
  | dct _ => simp only [hl] at h
  | v _ => simp only [hl] at h
  | lst fr0 xs0 =>
    simp only [hl] at h
    obtain ⟨o, ho⟩ := R.some_at (i := j) (by rw [hl]; exact fun z => nomatch z)
    have q0 := R.at ho
    rw [hl] at q0
    obtain ⟨p, vs0, rfl, _, _, hp0, _⟩ := q0
    refine ⟨.ref p, ho, .inl ⟨rfl, vs0, .inl (.inl hp0)⟩, c, G, ow, ε, _, R, h, fun ds ε1 G1 H1 ow1 us h1 F1 R1 V1 => ?_⟩
    cases hl1 : look ε1 j with
    | un => simp only [hl1] at h1
    | d _ => simp only [hl1] at h1
    | dct _ => simp only [hl1] at h1
    | v _ => simp only [hl1] at h1
    | lst fr xs =>
      simp only [hl1] at h1
      have q1 := R1.at ho
      rw [hl1] at q1
      obtain ⟨p', vs, e1, o1, o2, o3, o4, o5⟩ := q1
      cases e1
      refine hk G1 H1 p vs xs ds us _ Q R1.ex o2 o3 o4 V1 h1 fun d ys v vs' hA hd hys => ?_
      obtain ⟨p2, vs2, e2, m1, m2, m3⟩ := mut_lst (ys := ys) R1 ho hl1
      cases e2
      obtain ⟨F2, R2⟩ := m3 vs' hys
      exact kk _ _ G1 _ ow1 v hA (F1.trans F2) R2 hd
end
section
variable {X : Cx} {e : Expr} {es : List Expr} {t : TDF} {name y : Str} {apos cpos py : Pos} {id : String} {r : V → List V → Hp → VK → Prop} {k : List PyData → List PyData → (PyData → List PyData → Prop) → Prop}
theorem dv_mut (j : Nat) (slot : Slot "list" name id) (hty : typeOf (.builtin id) = pure (.type "method_descriptor")) (hm : MtR X id r) (hk : MutD X.K r k) (ha : DF X (e :: es) t) (hN : X.N[j]? = some y := by rfl) (hv : Vis X.env.scope y := by first | exact Or.inl rfl | exact Or.inr (Or.inl rfl) | exact Or.inr (Or.inr rfl))
    (hyd : (y == ("__debug__" : Str)) = false := by decide) (hcd : (y == ("__classdict__" : Str)) = false := by decide)
    (hbase : attributeBase (.Name y py) name X.env (eval (.Name y py) X.env) = eval (.Name y py) X.env := by rfl)
    (hfew : ((backTo cpos (starEach (e :: es) X.env)).all (fun x => !x.1) && (backToKw cpos (keywordEach [] X.env)).all (fun x => x.1.isSome)
      && decide ((e :: es).length + ([] : List Keyword).length + (if ([] : List Keyword).isEmpty then 0 else 1) < 30)) = true := by rfl)
    (hline : (apos.endLine == cpos.line) = true := by rfl) (hs : starEach (e :: es) X.env = (false, eval e X.env) :: starEach es X.env := by rfl) (hplain : (backTo cpos (starEach es X.env)).any (·.1) = false := by rfl) :
    DV X (.Call (.Attribute (.Name y py) name apos) (e :: es) [] cpos) (dMut j k t) :=
  pe_w (pe_bm PySem.F.plainAttrs_list slot hty hm (pe_var hN hv hyd hcd) ha hbase hfew hline hs hplain) fun _ _ _ h => dmut_rd rfl hk h
end
/-! ### a place of a list of the def's own is stored -/
def sSetI (j : Nat) (te ti : TD) : TDS := fun A ε => te ε fun r ε1 => match frz ε1 r with
  | some (x, ε2) => match look ε2 j with
    | .lst _ _ => ti ε2 fun s ε3 => match peek ε3 s, look ε3 j with
      | some (.int i), .lst fr xs => onO (ixN xs.length i) fun m => A.nx (put ε3 j (.lst fr (xs.set m x)))
      | _, _ => False
    | _ => False
  | none => False
section
variable {X : Cx} {e i : Expr} {te ti : TD} {y : Str} {py pos pos' : Pos}
theorem ds_seti (j : Nat) (he : DV X e te) (hi : DV X i ti) (hN : X.N[j]? = some y := by rfl) (hv : Vis X.env.scope y := by first | exact Or.inl rfl | exact Or.inr (Or.inl rfl) | exact Or.inr (Or.inr rfl))
    (hyd : (y == ("__debug__" : Str)) = false := by decide) (hcd : (y == ("__classdict__" : Str)) = false := by decide)
    (hs : swapsWithSole [.Subscript (.Name y py) i pos'] e pos.line X.env = pure false := by rfl) (hw : swappedStores [.Subscript (.Name y py) i pos'] e X.env = pure none := by rfl)
    (h1 : (assignEach [.Subscript (.Name y py) i pos'] X.env).map (·.2) = [assign (.Subscript (.Name y py) i pos') X.env] := by rfl)
    (ha : ∀ v, assign (.Subscript (.Name y py) i pos') X.env v = (do
      let ov ← holding [v] (eval (.Name y py) X.env)
      let iv ← holding [v, ov] (eval i X.env)
      standAt pos'
      holding [v, ov, iv] (setItem ov iv v)
      release [v, ov, iv] []) := by intro _; rfl) : DS X (.Assign [.Subscript (.Name y py) i pos'] e pos) (sSetI j te ti) :=
  ps_w (ps_asg he (pg_sub (pe_var hN hv hyd hcd) hi set_list ha) hs hw h1) fun D σ H ⟨c, G, ow, ε, A, R, h, k1, k2, k3, k4⟩ => ⟨c, G, ow, ε, _, R, h, fun r ε1 G1 H1 ow1 v h1 F1 R1 V1 => by
    cases q : frz ε1 r with
    | none => simp only [q] at h1
    | some z =>
      obtain ⟨x, ε2⟩ := z
      simp only [q] at h1
      obtain ⟨G2, F2, sg, R2, d⟩ := frz_ok F1 R1 V1 q
      cases hl : look ε2 j with
      | un => simp only [hl] at h1
      | d _ => simp only [hl] at h1
      | dct _ => simp only [hl] at h1
      | v _ => simp only [hl] at h1
      | lst fr0 xs0 =>
        simp only [hl] at h1
        obtain ⟨o, ho⟩ := R2.some_at (i := j) (by rw [hl]; exact fun z => nomatch z)
        have q0 := R2.at ho
        rw [hl] at q0
        obtain ⟨p, vs0, rfl, _⟩ := q0
        refine ⟨.ref p, ho, c, G2, ow1, ε2, _, R2, h1, fun s ε3 G3 H3 ow3 u h3 F3 R3 V3 => ?_⟩
        split at h3
        · rename_i i0 fr xs e3 hl3
          obtain ⟨m, hm, h3⟩ := onO_get h3
          obtain ⟨p2, vs2, e2, m1, m2, m3⟩ := mut_lst (ys := xs.set m x) R3 ho hl3
          cases e2
          obtain ⟨F4, R4⟩ := m3 (vs2.set m v) (dpa_set m (dp_ex F3.ex x d) m2)
          refine ⟨p, vs2, i0, m, rfl, (peek_ok R3 V3 e3).int, m1, by rw [dpa_len m2]; exact hm, ?_⟩
          exact k1 _ _ G3 _ ow3 h3 ((F2.trans F3).trans F4) R4
        · exact h3.elim⟩
end
/-! ### dicts of the def's own: keys are ints and texts -/
def keyD : PyData → Option Key
  | .int i => some (.inl i)
  | .str x => some (.inr x)
  | _ => none
def valD (kvs : List (Key × PyData)) (k : Key) : Option PyData := (kvs.find? fun kv => decide (kv.1 = k)).map (·.2)
def putD (kvs : List (Key × PyData)) (k : Key) (v : PyData) : List (Key × PyData) :=
  if (kvs.any fun kv => decide (kv.1 = k)) = true then kvs.map (fun kv => if kv.1 = k then (kv.1, v) else kv) else kvs ++ [(k, v)]
def dDIn (neg : Bool) (te : TD) (j : Nat) : TD := fun ε A => te ε fun r ε1 => match peek ε1 r, look ε1 j with
  | some x, .dct kvs => onO (keyD x) fun k => A (.d (.bool (if neg then !(valD kvs k).isSome else (valD kvs k).isSome))) ε1
  | _, _ => False
def sDPut (j : Nat) (tk tv : TD) : TDS := fun A ε => tv ε fun r ε1 => match frz ε1 r with
  | some (x, ε2) => match look ε2 j with
    | .dct _ => tk ε2 fun s ε3 => match peek ε3 s, look ε3 j with
      | some y, .dct kvs => onO (keyD y) fun k => kvs.length < 1000000 ∧ A.nx (put ε3 j (.dct (putD kvs k x)))
      | _, _ => False
    | _ => False
  | none => False
section
variable {K : PySem.W.Frag} {G : Hp}
theorem keyD_ok {H : Hp} {v : V} {x : PyData} {k : Key} (p : Pk K G H v x) (h : keyD x = some k) : v = kV k := by
  cases x with
  | int i => cases h; exact p.int
  | str i => cases h; exact p.str
  | _ => cases h
theorem kv_len : ∀ {a : List (Key × V)} {b : List (Key × PyData)}, KvOk K G a b → a.length = b.length
  | _, _, .nil => rfl
  | _, _, .cons _ t => congrArg (· + 1) (kv_len t)
theorem kv_val {k : Key} : ∀ {a : List (Key × V)} {b : List (Key × PyData)}, KvOk K G a b → (valV a k = none ∧ valD b k = none) ∨ ∃ v d, valV a k = some v ∧ valD b k = some d ∧ Dd K G v d
  | _, _, .nil => .inl ⟨rfl, rfl⟩
  | p :: a, q :: b, .cons ⟨e, h⟩ t => by
    by_cases hk : p.1 = k
    · exact .inr ⟨p.2, q.2, by simp [valV, List.find?_cons, hk], by simp [valD, List.find?_cons, ← e, hk], h⟩
    · have e1 : valV (p :: a) k = valV a k := by simp only [valV, List.find?_cons, hk, decide_false]
      have e2 : valD (q :: b) k = valD b k := by simp only [valD, List.find?_cons, ← e, hk, decide_false]
      rw [e1, e2]
      exact kv_val t
theorem kv_any {k : Key} : ∀ {a : List (Key × V)} {b : List (Key × PyData)}, KvOk K G a b → (a.any fun kv => decide (kv.1 = k)) = (b.any fun kv => decide (kv.1 = k))
  | _, _, .nil => rfl
  | _, _, .cons ⟨e, _⟩ t => by rw [List.any_cons, List.any_cons, kv_any t, e]
theorem kv_map {k : Key} {v : V} {d : PyData} (h : Dd K G v d) : ∀ {a : List (Key × V)} {b : List (Key × PyData)}, KvOk K G a b → KvOk K G (a.map fun kv => if kv.1 = k then (kv.1, v) else kv) (b.map fun kv => if kv.1 = k then (kv.1, d) else kv)
  | _, _, .nil => .nil
  | _, _, .cons (a := p) (b := q) ⟨e, h1⟩ t => by
    refine .cons ?_ (kv_map h t)
    by_cases hk : p.1 = k
    · have hq : q.1 = k := by rw [← e]; exact hk
      simp only [hk, hq, if_true]
      exact ⟨trivial, h⟩
    · have hq : ¬ q.1 = k := by rw [← e]; exact hk
      simp only [hk, hq, if_false]
      exact ⟨e, h1⟩
theorem kv_app : ∀ {a c : List (Key × V)} {b d : List (Key × PyData)}, KvOk K G a b → KvOk K G c d → KvOk K G (a ++ c) (b ++ d)
  | _, _, _, _, .nil, h => h
  | _, _, _, _, .cons p t, h => .cons p (kv_app t h)
theorem kv_put {k : Key} {v : V} {d : PyData} {a : List (Key × V)} {b : List (Key × PyData)} (h : Dd K G v d) (p : KvOk K G a b) : KvOk K G (putK a k v) (putD b k d) := by
  unfold putK putD
  rw [kv_any p]
  split
  · exact kv_map h p
  · exact kv_app p (.cons ⟨rfl, h⟩ .nil)
/-- a dict of the def's own is changed -/
theorem mut_dct {c : Ct} {H : Hp} {ow : Ow} {σ : L2.St} {ε : Ep} {i : Nat} {kvs ys : List (Key × PyData)} {v : V} (R : Rep K c G H ow σ ε) (h : σ[i]? = some (some v)) (hl : look ε i = .dct kvs) :
    ∃ p kv, v = .ref p ∧ H p = some (.dK kv) ∧ KvOk K G kv kvs ∧ ∀ us, KvOk K G us ys → Fr G H ow G (upd H p (.dK us)) ow ∧ Rep K c G (upd H p (.dK us)) ow σ (put ε i (.dct ys)) := by
  have q := R.at h
  rw [hl] at q
  obtain ⟨p, vs, e1, h2, h3, h4, h5⟩ := q
  cases e1
  have hi : i < ε.length := look_lt (by rw [hl]; exact fun z => nomatch z)
  refine ⟨p, vs, rfl, h4, h5, fun us hu => ⟨⟨Same.refl G, fun a u z1 z2 => ?_, fun a z => ?_⟩, ⟨same_mut R.ex h3 _, fun a z => ?_, by rw [put_length]; exact R.len, fun j s z => ?_⟩⟩⟩
  · have hne : a ≠ p := fun e => by
      rw [e, h2] at z2
      cases z2
    rw [upd_ne hne]
    exact ⟨z1, z2, fun z => z⟩
  · by_cases ha : a = p
    · subst ha
      rw [upd_same] at z
      cases z
    · rw [upd_ne ha] at z
      exact z
  · by_cases ha : a = p
    · subst ha
      rw [upd_same] at z
      cases z
    · rw [upd_ne ha] at z
      exact R.dom a z
  · by_cases hj : j = i
    · subst hj
      rw [look_put_self hi]
      rw [h] at z
      cases z
      exact ⟨p, us, rfl, h2, h3, upd_same, hu⟩
    · rw [look_put_ne hj]
      refine (R.sl j s z).grow (Same.refl G) fun q u z1 z2 z3 => ⟨z1, z2, ?_⟩
      have hne : q ≠ p := fun e => by
        rw [e, h2] at z1
        exact hj (Option.some.inj z1).symm
      rw [upd_ne hne]
      exact z3
end
section
variable {X : Cx} {e i : Expr} {te tk tv : TD} {y : Str} {py pos pos' : Pos} {σ : L2.St} {H : Hp} {Q : VK}
theorem ddin_get {K : PySem.W.Frag} {c : Ct} {G : Hp} {ow : Ow} {ε : Ep} {j : Nat} {kvs : List (Key × PyData)} {k : Key} (R : Rep K c G H ow σ ε) (hl : look ε j = .dct kvs) : ∃ p o, σ[j]? = some (some (.ref p)) ∧ DGet H p (kV k) o ∧ o.isSome = (valD kvs k).isSome := by
  obtain ⟨o, ho⟩ := R.some_at (i := j) (by rw [hl]; exact fun z => nomatch z)
  have q0 := R.at ho
  rw [hl] at q0
  obtain ⟨p, kv, rfl, _, _, h3, h4⟩ := q0
  refine ⟨p, valV kv k, ho, DGet.k h3, ?_⟩
  rcases kv_val (k := k) h4 with ⟨h1, h2⟩ | ⟨v, d, h1, h2, _⟩
  · rw [h1, h2]
    rfl
  · rw [h1, h2]
    rfl
theorem ddin_rd {K : PySem.W.Frag} {j : Nat} (h : rdV K (dDIn false te j) σ H Q) : tDIn (rdV K te) (tVar j) σ H Q := by
  obtain ⟨c, G, ow, ε, A, R, h, kk⟩ := h
  refine ⟨c, G, ow, ε, _, R, h, fun r ε1 G1 H1 ow1 v h1 F1 R1 V1 => ?_⟩
  split at h1
  · rename_i x kvs e hl
    obtain ⟨k, hk, h1⟩ := onO_get h1
    obtain ⟨p, o, ho, hg, ei⟩ := ddin_get (k := k) R1 hl
    refine ⟨.ref p, ho, p, o, rfl, by rw [keyD_ok (peek_ok R1 V1 e) hk]; exact hg, ?_⟩
    rw [ei]
    exact kk _ ε1 G1 H1 ow1 _ h1 F1 R1 (.bl _)
  · exact h1.elim
theorem ddnin_rd {K : PySem.W.Frag} {j : Nat} (h : rdV K (dDIn true te j) σ H Q) : tDNotIn (rdV K te) (tVar j) σ H Q := by
  obtain ⟨c, G, ow, ε, A, R, h, kk⟩ := h
  refine ⟨c, G, ow, ε, _, R, h, fun r ε1 G1 H1 ow1 v h1 F1 R1 V1 => ?_⟩
  split at h1
  · rename_i x kvs e hl
    obtain ⟨k, hk, h1⟩ := onO_get h1
    obtain ⟨p, o, ho, hg, ei⟩ := ddin_get (k := k) R1 hl
    refine ⟨.ref p, ho, p, o, rfl, by rw [keyD_ok (peek_ok R1 V1 e) hk]; exact hg, ?_⟩
    rw [ei]
    exact kk _ ε1 G1 H1 ow1 _ h1 F1 R1 (.bl _)
  · exact h1.elim
theorem dv_din (j : Nat) (hu : X.A.units + 1 < cLine) (he : DV X e te) (hN : X.N[j]? = some y := by rfl) (hv : Vis X.env.scope y := by first | exact Or.inl rfl | exact Or.inr (Or.inl rfl) | exact Or.inr (Or.inr rfl))
    (hyd : (y == ("__debug__" : Str)) = false := by decide) (hcd : (y == ("__classdict__" : Str)) = false := by decide) (hm : behindInMarks .In (.Name y py) = false := by rfl) : DV X (.Compare e [.In] [.Name y py] pos) (dDIn false te j) :=
  pe_w (pe_cmp (pc_din hu he (pe_var hN hv hyd hcd)) hm) fun _ _ _ h => ddin_rd h
theorem dv_dnin (j : Nat) (hu : X.A.units + 1 < cLine) (he : DV X e te) (hN : X.N[j]? = some y := by rfl) (hv : Vis X.env.scope y := by first | exact Or.inl rfl | exact Or.inr (Or.inl rfl) | exact Or.inr (Or.inr rfl))
    (hyd : (y == ("__debug__" : Str)) = false := by decide) (hcd : (y == ("__classdict__" : Str)) = false := by decide) (hm : behindInMarks .NotIn (.Name y py) = false := by rfl) : DV X (.Compare e [.NotIn] [.Name y py] pos) (dDIn true te j) :=
  pe_w (pe_cmp (pc_dnotin hu he (pe_var hN hv hyd hcd)) hm) fun _ _ _ h => ddnin_rd h
theorem dtest_tB {K : PySem.W.Frag} {t : TD} {u : TE} {Q : Bool → Hp → Prop} (hu : ∀ Q : VK, rdV K t σ H Q → u σ H Q) (h : rdT K (dTest t) σ H Q) : tB u σ H Q := hu _ (dtest_rd h)
theorem dt_din (j : Nat) (hu : X.A.units + 1 < cLine) (he : DV X e te) (hN : X.N[j]? = some y := by rfl) (hv : Vis X.env.scope y := by first | exact Or.inl rfl | exact Or.inr (Or.inl rfl) | exact Or.inr (Or.inr rfl))
    (hyd : (y == ("__debug__" : Str)) = false := by decide) (hcd : (y == ("__classdict__" : Str)) = false := by decide) (hm : behindInMarks .In (.Name y py) = false := by rfl) : DT X (.Compare e [.In] [.Name y py] pos) (dTest (dDIn false te j)) :=
  pt_w (pt_cmp (pc_din hu he (pe_var hN hv hyd hcd)) hm) fun _ _ _ h => dtest_tB (fun _ => ddin_rd) h
theorem dt_dnin (j : Nat) (hu : X.A.units + 1 < cLine) (he : DV X e te) (hN : X.N[j]? = some y := by rfl) (hv : Vis X.env.scope y := by first | exact Or.inl rfl | exact Or.inr (Or.inl rfl) | exact Or.inr (Or.inr rfl))
    (hyd : (y == ("__debug__" : Str)) = false := by decide) (hcd : (y == ("__classdict__" : Str)) = false := by decide) (hm : behindInMarks .NotIn (.Name y py) = false := by rfl) : DT X (.Compare e [.NotIn] [.Name y py] pos) (dTest (dDIn true te j)) :=
  pt_w (pt_cmp (pc_dnotin hu he (pe_var hN hv hyd hcd)) hm) fun _ _ _ h => dtest_tB (fun _ => ddnin_rd) h
theorem ds_dput (j : Nat) (hu : X.A.units + 1 < cLine) (he : DV X e tv) (hi : DV X i tk) (hN : X.N[j]? = some y := by rfl) (hv : Vis X.env.scope y := by first | exact Or.inl rfl | exact Or.inr (Or.inl rfl) | exact Or.inr (Or.inr rfl))
    (hyd : (y == ("__debug__" : Str)) = false := by decide) (hcd : (y == ("__classdict__" : Str)) = false := by decide) (hs : swapsWith e (some (.Subscript (.Name y py) i pos')) pos.line X.env = pure false := by rfl) : DS X (.Assign [.Subscript (.Name y py) i pos'] e pos) (sDPut j tk tv) :=
  ps_w (ps_dput hu (pe_var hN hv hyd hcd) hi he hs) fun D σ H ⟨c, G, ow, ε, A, R, h, k1, k2, k3, k4⟩ => ⟨c, G, ow, ε, _, R, h, fun r ε1 G1 H1 ow1 v h1 F1 R1 V1 => by
    cases q : frz ε1 r with
    | none => simp only [q] at h1
    | some z =>
      obtain ⟨x, ε2⟩ := z
      simp only [q] at h1
      obtain ⟨G2, F2, sg, R2, d⟩ := frz_ok F1 R1 V1 q
      cases hl : look ε2 j with
      | un => simp only [hl] at h1
      | d _ => simp only [hl] at h1
      | lst _ _ => simp only [hl] at h1
      | v _ => simp only [hl] at h1
      | dct kvs0 =>
        simp only [hl] at h1
        obtain ⟨o, ho⟩ := R2.some_at (i := j) (by rw [hl]; exact fun z => nomatch z)
        have q0 := R2.at ho
        rw [hl] at q0
        obtain ⟨p, vs0, rfl, _⟩ := q0
        refine ⟨.ref p, ho, c, G2, ow1, ε2, _, R2, h1, fun s ε3 G3 H3 ow3 u h3 F3 R3 V3 => ?_⟩
        split at h3
        · rename_i y0 kvs e3 hl3
          obtain ⟨k, hk, h3⟩ := onO_get h3
          obtain ⟨p2, kv, e2, m1, m2, m3⟩ := mut_dct (ys := putD kvs k x) R3 ho hl3
          cases e2
          obtain ⟨F4, R4⟩ := m3 (putK kv k v) (kv_put (dp_ex F3.ex x d) m2)
          refine ⟨p, _, rfl, ?_, k1 _ _ G3 _ ow3 h3.2 ((F2.trans F3).trans F4) R4⟩
          rw [keyD_ok (peek_ok R3 V3 e3) hk]
          exact DPut.k m1 (by rw [kv_len m2]; exact line_lt h3.1)
        · exact h3.elim⟩
end
/-! ### isinstance of data, built-in types -/
def tyD : PyData → String
  | .none => "NoneType"
  | .bool _ => "bool"
  | .int _ => "int"
  | .str _ => "str"
  | .list _ => "list"
  | .tuple _ => "tuple"
  | .dict _ => "dict"
def dIsi (t : TD) (T : String) : TD := fun ε A => t ε fun r ε1 => match peek ε1 r with
  | some x => onO (kitB (tyD x) T) fun b => A (.d (.bool b)) ε1
  | none => False
theorem tyX_of {K : PySem.W.Frag} {H : Hp} {v : V} : ∀ {x : PyData}, Dd K H v x → TyX K H v (.type (tyD x))
  | .none, h => by cases h; exact .base .non
  | .bool _, h => by cases h; exact .base (.bl _)
  | .int _, h => by cases h; exact .base (.int _)
  | .str _, h => by cases h; exact .base (.str _)
  | .list _, h => by
    cases h with
    | lst hs _ =>
      rcases hs with (hs | ⟨o, hs⟩) | ⟨o, its, n, h1, h2, _⟩
      · exact .base (.lst hs)
      · exact .base (.frz hs)
      · exact .kList h1 h2
  | .tuple _, h => by
    cases h with
    | tup hs _ =>
      rcases hs with (hs | ⟨o, hs⟩) | ⟨o, its, n, h1, h2, _⟩
      · exact .base (.tup hs)
      · exact .fTuple hs
      · exact .kTuple h1 h2
  | .dict _, h => by
    cases h with
    | dct hs => exact .base (.dK hs)
theorem dv_isi {X : Cx} {e : Expr} {t : TD} {p pos pT : Pos} {x : Str} {T : String} (he : DV X e t) (hg : Gl X "isinstance") (hm : X.mg "isinstance" = none) (hv : bootBuiltins "isinstance" = some (.builtin "isinstance")) (hgT : Gl X x) (hmT : X.mg x = none) (hvT : bootBuiltins x = some (.type T)) (hnT : x ≠ "__name__" := by decide) (hdT : (x == ("__debug__" : Str)) = false := by decide)
    (hs : starEach [e, .Name x pT] X.env = (false, eval e X.env) :: starEach [.Name x pT] X.env := by rfl) (hs2 : starEach [.Name x pT] X.env = (false, eval (.Name x pT) X.env) :: starEach [] X.env := by rfl) (hp : (backTo pos (starEach [.Name x pT] X.env)).any (·.1) = false := by rfl) :
    DV X (.Call (.Name "isinstance" p) [e, .Name x pT] [] pos) (dIsi t T) :=
  pe_w (pe_callB call_isi hg hm hv (pa_cons he (pa_cons (pe_bltn hgT hmT hvT (v := .ty T) rfl hnT hdT) pa_nil hs2) hs) (by decide) (by decide) hs hp) fun σ H Q ⟨c, G, ow, ε, A, R, h, kk⟩ => ⟨c, G, ow, ε, _, R, h, fun r ε1 G1 H1 ow1 v h1 F1 R1 V1 => by
    split at h1
    · rename_i d e
      obtain ⟨b, hb, h1⟩ := onO_get h1
      exact ⟨v, .ty T, _, _, b, rfl, .ty T, tyX_of ((peek_ok R1 V1 e).dp R1.ex), kit_ty hb, kk _ ε1 G1 H1 ow1 _ h1 F1 R1 (.bl b)⟩
    · exact h1.elim⟩

/-! ### a unary minus; a, b = x, y -/
def kNeg : PyData → (Vl → Prop) → Prop := fun x A => match x with
  | .int i => A (.d (.int (-i)))
  | _ => False
theorem dv_neg {X : Cx} {e : Expr} {t : TD} {pos : Pos} (he : DV X e t) : DV X (.UnaryOp .USub e pos) (dUn kNeg t) := pe_w (pe_un un_neg he) fun σ H Q ⟨c, G, ow, ε, A, R, h, kk⟩ => ⟨c, G, ow, ε, _, R, h, fun r ε1 G1 H1 ow1 v h1 F1 R1 V1 => by
  split at h1
  · rename_i x e
    unfold kNeg at h1
    split at h1
    · exact ⟨_, (peek_ok R1 V1 e).int, kk _ ε1 G1 H1 ow1 _ h1 F1 R1 (.int _)⟩
    · exact h1.elim
  · exact h1.elim⟩
def sPar (i j : Nat) (t : TDF) : TDS := fun A ε => t ε fun xs ε1 => match xs with
  | [x, y] => A.nx (put (put ε1 i (.d x)) j (.d y))
  | _ => False
theorem ds_par {X : Cx} {i j : Nat} {x y : Str} {a b : Expr} {t : TDF} {px py pt : Pos} {kt k2 pt2 pos} (hc : X.calm = true) (hN : X.N.Nodup) (hi : X.N[i]? = some x) (hj : X.N[j]? = some y) (hij : i ≠ j)
    (hx : X.env.scope.names.lookup x = some .local) (hy : X.env.scope.names.lookup y = some .local) (ha : DF X [a, b] t)
    (hw : swappedStores [.Tuple [.Name x px, .Name y py] kt pt] (.Tuple [a, b] k2 pt2) X.env = pure (some [x, y]))
    (hs : swapsWithSole [.Tuple [.Name x px, .Name y py] kt pt] (.Tuple [a, b] k2 pt2) pos.line X.env = pure false := by rfl) :
    DS X (.Assign [.Tuple [.Name x px, .Name y py] kt pt] (.Tuple [a, b] k2 pt2) pos) (sPar i j t) :=
  ps_wl (ps_par hc hN hi hj hij hx hy ha hw hs) fun D σ H hlen ⟨c, G, ow, ε, A, R, h, k1, k2, k3, k4⟩ => ⟨c, G, ow, ε, _, R, h, fun xs ε1 G1 H1 ow1 vs h1 F1 R1 V1 => by
    match xs, V1 with
    | [x, y], .cons d1 (.cons d2 .nil) =>
      have e1 : i < ε1.length := by
        rw [← R1.len, hlen]
        exact (List.getElem?_eq_some_iff.mp hi).1
      have e2 : j < ε1.length := by
        rw [← R1.len, hlen]
        exact (List.getElem?_eq_some_iff.mp hj).1
      exact ⟨_, _, rfl, k1 _ _ G1 H1 ow1 h1 F1 (rep_put (rep_put R1 e1 ⟨_, rfl, d1⟩) (by rw [put_length]; exact e2) ⟨_, rfl, d2⟩)⟩
    | [], _ => exact h1.elim
    | [_], _ => exact h1.elim
    | _ :: _ :: _ :: _, _ => exact h1.elim⟩
/-! ### the law -/
def spLaw (K : PySem.W.Frag) : Sp := fun vs H Q _ => ∃ (a : Addr) (ns : List Int), vs = [.ref a] ∧ SqL K H a (ns.map V.int) ∧ ns.length ≤ 63 ∧ ∀ H', Q (.bl true) H'
def SLaw : DSp := fun ps A => ∃ ns : List Int, ps = [.d (.list (ns.map .int))] ∧ ns.length ≤ 63 ∧ ∀ ps', A (.d (.bool true)) ps'
theorem law_ok {P : Program} {w : World} {K : PySem.W.Frag} {mg : Str → Option Value} {base : Heap} {k : Nat} {f : Addr} {fd : FuncData} {ps : List Str} (F : FnOk P w K mg base CX0 k f fd ps (spD K 1 SLaw)) : FnOk P w K mg base CX0 k f fd ps (spLaw K) :=
  F.imp fun vs H Q E ⟨a, ns, e, hS, hl, q⟩ => by
    subst e
    refine ⟨⟨H, fun _ => none⟩, H, fun _ => none, [.d (.list (ns.map .int))], fun r _ => r = .d (.bool true), rfl, ⟨Same.refl H, fun _ z => z, rfl, fun i o z => ?_⟩, rfl, (fun i p z => by cases (show (none : Option Addr) = some p from z)), ⟨ns, rfl, hl, fun _ => rfl⟩, fun r ps' v G' H' ow' z F R V => ?_⟩
    · match i with
      | 0 =>
        cases z
        exact ⟨_, rfl, .lst hS (dpa_ofInts ns)⟩
      | i + 1 => simp at z
    · subst z
      cases (show Dd K G' v (.bool true) from V)
      exact q H'

/-! ### readings, one step at a time: only what stands under ev is gone on with -/
def ev (P : Prop) : Prop := P
theorem ev_of {P : Prop} (h : ev P) : P := h
section
variable {A : Vl → Ep → Prop} {B : Bool → Ep → Prop} {C : List Vl → Ep → Prop} {D : DEnds} {E : List PyData → Ep → Prop} {N : Ep → Prop} {O : Option Int → Ep → Prop} {ε : Ep} {i j n : Nat} {t u v : TD} {p q : TDT} {a : TDA} {f : TDF} {g : TDG} {gs : TDGs} {s r : TDS} {x : PyData} {xs acc : List PyData} {to1 to2 : TDO} {S : DSp} {vs : List Nat}
theorem ap_seq : ev (sSeq s r D ε) = ev (s { nx := r D, rt := D.rt, bk := D.bk, ct := D.ct } ε) := id rfl
theorem ap_next : ev (sNext D ε) = ev (D.nx ε) := id rfl
theorem ap_brk : ev (sBrk D ε) = ev (D.bk ε) := id rfl
theorem ap_cnt : ev (sCnt D ε) = ev (D.ct ε) := id rfl
theorem ap_expr : ev (sExpr t D ε) = ev (t ε fun _ ε1 => D.nx ε1) := id rfl
theorem ap_ret : ev (sRet t D ε) = ev (t ε fun r ε1 => match unbor ε1 r with
  | some (r', ε2) => D.rt r' ε2
  | none => False) := id rfl
theorem ap_retN : ev (sRetN D ε) = ev (D.rt (.d .none) ε) := id rfl
theorem ap_if : ev (sIf p s r D ε) = ev (p ε fun b ε1 => onB b (s D ε1) (r D ε1)) := id rfl
theorem ap_asg : ev (sAsg t g D ε) = ev (t ε fun r ε1 => match frz ε1 r with
  | some (x, ε2) => g x ε2 D.nx
  | none => False) := id rfl
theorem ap_set : ev (sSet i t D ε) = ev (t ε fun r ε1 => match slOf ε1 r with
  | some (s, ε2) => D.nx (put ε2 i s)
  | none => False) := id rfl
theorem ap_seti : ev (sSetI j t u D ε) = ev (t ε fun r ε1 => match frz ε1 r with
  | some (x, ε2) => match look ε2 j with
    | .lst _ _ => u ε2 fun s ε3 => match peek ε3 s, look ε3 j with
      | some (.int i), .lst fr xs => onO (ixN xs.length i) fun m => D.nx (put ε3 j (.lst fr (xs.set m x)))
      | _, _ => False
    | _ => False
  | none => False) := id rfl
theorem ap_par : ev (sPar i j f D ε) = ev (f ε fun xs ε1 => match xs with
  | [x, y] => D.nx (put (put ε1 i (.d x)) j (.d y))
  | _ => False) := id rfl
theorem ap_dput : ev (sDPut j t u D ε) = ev (u ε fun r ε1 => match frz ε1 r with
  | some (x, ε2) => match look ε2 j with
    | .dct _ => t ε2 fun s ε3 => match peek ε3 s, look ε3 j with
      | some y, .dct kvs => onO (keyD y) fun k => kvs.length < 1000000 ∧ D.nx (put ε3 j (.dct (putD kvs k x)))
      | _, _ => False
    | _ => False
  | none => False) := id rfl
theorem ap_forL : ev (sForL t g s D ε) = ev (t ε fun r ε1 => match frz ε1 r with
  | some (.list ds, ε2) => forGo noI g s D ds ε2
  | _ => False) := id rfl
theorem ap_forT : ev (sForT t g s D ε) = ev (t ε fun r ε1 => match frz ε1 r with
  | some (.tuple ds, ε2) => forGo noI g s D ds ε2
  | _ => False) := id rfl
theorem ap_forR : ev (sForR a g s D ε) = ev (a ε fun rs ε1 => match peekAll ε1 rs with
  | some [.int j] => -(2 ^ 62) ≤ j ∧ j < 2 ^ 62 ∧ forGo noI g s D (rngD 0 j.toNat) ε1
  | _ => False) := id rfl
theorem ap_while : ev (sWhile p s D ε) = ev (∃ n, whGo p s D n ε) := id rfl
theorem ap_wh : ev (whGo p s D (n + 1) ε) = ev (p ε fun k ε1 => onB k (s { nx := whGo p s D n, rt := D.rt, bk := D.nx, ct := whGo p s D n } ε1) (D.nx ε1)) := id rfl
theorem ap_nm : ev (gNm i x ε N) = ev (N (put ε i (.d x))) := id rfl
theorem ap_gtp : ev (gTp n gs (.tuple xs) ε N) = (xs.length = n ∧ ev (gs xs ε N)) := id rfl
theorem ap_gnil : ev (gsNil [] ε N) = ev (N ε) := id rfl
theorem ap_gcons : ev (gsCons g gs (x :: xs) ε N) = ev (g x ε fun ε1 => gs xs ε1 N) := id rfl
theorem ap_var : ev (dVar i ε A) = ev (match look ε i with
  | .d x => A (.d x) ε
  | .lst _ _ => A (.bor i) ε
  | .dct _ => A (.bor i) ε
  | .v x => A (.v x) ε
  | .un => False) := id rfl
theorem ap_c : ev (dC x ε A) = ev (A (.d x) ε) := id rfl
theorem ap_op {k : PyData → PyData → (Vl → Prop) → Prop} : ev (dOp k t u ε A) = ev (t ε fun r1 ε1 => u ε1 fun r2 ε2 => match peek ε2 r1, peek ε2 r2 with
  | some x, some y => k x y fun r => A r ε2
  | _, _ => False) := id rfl
theorem ap_un {k : PyData → (Vl → Prop) → Prop} : ev (dUn k t ε A) = ev (t ε fun r1 ε1 => match peek ε1 r1 with
  | some x => k x fun r => A r ε1
  | _ => False) := id rfl
theorem ap_test : ev (dTest t ε B) = ev (t ε fun r ε1 => match r with
  | .d (.bool b) => B b ε1
  | _ => False) := id rfl
theorem ap_and : ev (dAnd p q ε B) = ev (p ε fun c ε1 => onB c (q ε1 B) (B false ε1)) := id rfl
theorem ap_or : ev (dOr p q ε B) = ev (p ε fun c ε1 => onB c (B true ε1) (q ε1 B)) := id rfl
theorem ap_not : ev (dNot p ε B) = ev (p ε fun c ε1 => B (!c) ε1) := id rfl
theorem ap_yes : ev (dYes ε B) = ev (B true ε) := id rfl
theorem ap_andV : ev (dAndV t u ε A) = ev (t ε fun r ε1 => match r with
  | .d (.bool b) => onB b (u ε1 A) (A (.d (.bool false)) ε1)
  | _ => False) := id rfl
theorem ap_orV : ev (dOrV t u ε A) = ev (t ε fun r ε1 => match r with
  | .d (.bool b) => onB b (A (.d (.bool true)) ε1) (u ε1 A)
  | _ => False) := id rfl
theorem ap_notV : ev (dNotV t ε A) = ev (t ε fun r ε1 => match r with
  | .d (.bool b) => A (.d (.bool (!b))) ε1
  | _ => False) := id rfl
theorem ap_ifE : ev (dIfE p t u ε A) = ev (p ε fun b ε1 => onB b (t ε1 A) (u ε1 A)) := id rfl
theorem ap_anil : ev (daNil ε C) = ev (C [] ε) := id rfl
theorem ap_acons : ev (daCons t a ε C) = ev (t ε fun r ε1 => a ε1 fun rs ε2 => C (r :: rs) ε2) := id rfl
theorem ap_fnil : ev (dfNil ε E) = ev (E [] ε) := id rfl
theorem ap_fcons : ev (dfCons t f ε E) = ev (t ε fun r ε1 => match frz ε1 r with
  | some (x, ε2) => f ε2 fun xs ε3 => E (x :: xs) ε3
  | none => False) := id rfl
theorem ap_tup : ev (dTup f ε A) = ev (f ε fun xs ε1 => xs.length ≤ 1000000 ∧ A (.d (.tuple xs)) ε1) := id rfl
theorem ap_lst : ev (dLst f ε A) = ev (f ε fun xs ε1 => xs.length ≤ 1000000 ∧ A (.new xs) ε1) := id rfl
theorem ap_dct : ev (dDct ε A) = ev (A .newD ε) := id rfl
theorem ap_cb {k : List PyData → (Vl → Prop) → Prop} : ev (dCB k a ε A) = ev (a ε fun rs ε1 => match peekAll ε1 rs with
  | some xs => k xs fun r => A r ε1
  | none => False) := id rfl
theorem ap_isi {T : String} : ev (dIsi t T ε A) = ev (t ε fun r ε1 => match peek ε1 r with
  | some x => onO (kitB (tyD x) T) fun b => A (.d (.bool b)) ε1
  | none => False) := id rfl
theorem ap_sl : ev (dSlL t to1 to2 ε A) = ev (t ε fun r ε1 => to1 ε1 fun l ε2 => to2 ε2 fun u ε3 => match peek ε3 r with
  | some (.list xs) => A (.new (cutD xs l u)) ε3
  | _ => False) := id rfl
theorem ap_nopart : ev (dNoPart ε O) = ev (O none ε) := id rfl
theorem ap_part : ev (dPart t ε O) = ev (t ε fun r ε1 => match peek ε1 r with
  | some (.int i) => O (some i) ε1
  | _ => False) := id rfl
theorem ap_lstrg : ev (dLstRg t ε A) = ev (t ε fun r ε1 => match peek ε1 r with
  | some (.int n) => (0 ≤ n ∧ n ≤ 1000000) ∧ A (.new (rngD 0 n.toNat)) ε1
  | _ => False) := id rfl
theorem ap_mut {k : List PyData → List PyData → (PyData → List PyData → Prop) → Prop} : ev (dMut j k f ε A) = ev (match look ε j with
  | .lst _ _ => f ε fun ds ε1 => match look ε1 j with
    | .lst fr xs => k ds xs fun d ys => A (.d d) (put ε1 j (.lst fr ys))
    | _ => False
  | _ => False) := id rfl
theorem ap_call : ev (dCall S f ε A) = ev (f ε fun ds ε1 => runS S (ds.map .d) fun r _ => A r ε1) := id rfl
theorem ap_callS : ev (dCallS j S f ε A) = ev (match look ε j with
  | .lst _ _ => f ε fun ds ε1 => match look ε1 j with
    | .lst fr xs => runS S (.lst false xs :: ds.map .d) fun r ps => match ps with
      | .lst false ys :: _ => A r (put ε1 j (.lst fr ys))
      | _ => False
    | _ => False
  | _ => False) := id rfl
theorem ap_din {neg : Bool} : ev (dDIn neg t j ε A) = ev (t ε fun r ε1 => match peek ε1 r, look ε1 j with
  | some x, .dct kvs => onO (keyD x) fun k => A (.d (.bool (if neg then !(valD kvs k).isSome else (valD kvs k).isSome))) ε1
  | _, _ => False) := id rfl
theorem ap_lcL : ev (dLcL t g p u vs ε A) = ev (t ε fun r ε1 => match frz ε1 r with
  | some (.list ds, ε2) => lcGo noI g p u vs (fun acc ε' => A (.new acc) (rstE ε2 ε' vs)) ds [] (wipeE ε2 vs)
  | _ => False) := id rfl
theorem ap_lcT : ev (dLcT t g p u vs ε A) = ev (t ε fun r ε1 => match frz ε1 r with
  | some (.tuple ds, ε2) => lcGo noI g p u vs (fun acc ε' => A (.new acc) (rstE ε2 ε' vs)) ds [] (wipeE ε2 vs)
  | _ => False) := id rfl
theorem ap_lcR : ev (dLcR a g p u vs ε A) = ev (a ε fun rs ε1 => match peekAll ε1 rs with
  | some [.int j] => -(2 ^ 62) ≤ j ∧ j < 2 ^ 62 ∧ lcGo noI g p u vs (fun acc ε' => A (.new acc) (rstE ε1 ε' vs)) (rngD 0 j.toNat) [] (wipeE ε1 vs)
  | _ => False) := id rfl
theorem ap_lcnil {I : Ep → Prop} : ev (lcGo I g p u vs E [] acc ε) = (I ε ∧ ev (E acc ε)) := id rfl
theorem ap_lccons {I : Ep → Prop} : ev (lcGo I g p u vs E (x :: xs) acc ε) = (I ε ∧ ev (g x ε fun ε1 => p ε1 fun b ε2 => onB b (u ε2 fun r ε3 => match frz ε3 r with
    | some (y, ε4) => acc.length < 1000000 ∧ lcGo I g p u vs E xs (acc ++ [y]) (wipeE ε4 vs)
    | none => False) (lcGo I g p u vs E xs acc (wipeE ε2 vs)))) := id rfl
theorem ap_forB : ev (sForB j g s D ε) = ev (match look ε j with
  | .lst fr xs => forGo (fun ε' => look ε' j = .lst fr xs) g s { nx := D.nx, rt := D.rt, bk := D.bk, ct := D.ct } xs ε
  | _ => False) := id rfl
theorem ap_lcB : ev (dLcB j g p u vs ε A) = ev (match look ε j with
  | .lst fr xs => lcGo (fun ε' => look ε' j = .lst fr xs) g p u vs (fun acc ε' => A (.new acc) (rstE ε ε' vs)) xs [] (wipeE ε vs)
  | _ => False) := id rfl
theorem wp_nil : wipeE ε [] = ε := id rfl
theorem wp_cons : wipeE ε (i :: vs) = put (wipeE ε vs) i .un := id rfl
theorem rs_nil {ε' : Ep} : rstE ε ε' [] = ε' := id rfl
theorem rs_cons {ε' : Ep} : rstE ε ε' (i :: vs) = put (rstE ε ε' vs) i (keepS (look ε i)) := id rfl
theorem kp_d : keepS (.d x) = .d x := id rfl
theorem kp_un : keepS .un = .un := id rfl
theorem ev_ev {P : Prop} : ev (ev P) = ev P := id rfl
theorem kd_i {z1 : Int} : keyD (.int z1) = some (.inl z1) := id rfl
theorem kd_s {z1 : Str} : keyD (.str z1) = some (.inr z1) := id rfl
theorem ev_and {P Q : Prop} : ev (P ∧ Q) = (P ∧ ev Q) := id rfl
theorem ev_t {X Y : Prop} : ev (onB true X Y) = ev X := id rfl
theorem ev_f {X Y : Prop} : ev (onB false X Y) = ev Y := id rfl
theorem ev_s {α : Type} {d : α} {k : α → Prop} : ev (onO (some d) k) = ev (k d) := id rfl
/-! what operators and built-ins give, where the values are there -/
variable {V : Vl → Prop} {W : PyData → List PyData → Prop} {y : PyData} {ys : List PyData} {z1 z2 : Int} {gg : Int → Int → PyData} {g2 : Int → Int → Int} {CC : Int → Int → Prop} {neg : Bool}
theorem k_I0 : kI0 gg (.int z1) (.int z2) V = V (.d (gg z1 z2)) := id rfl
theorem k_I : kI CC gg (.int z1) (.int z2) V = (CC z1 z2 ∧ V (.d (gg z1 z2))) := id rfl
theorem k_Eq : kEq x y V = (SeqAt.shaped x = true ∧ SeqAt.shaped y = true ∧ V (.d (.bool (PyData.eqv x y)))) := id rfl
theorem k_Ne : kNe x y V = (SeqAt.shaped x = true ∧ SeqAt.shaped y = true ∧ V (.d (.bool (!PyData.eqv x y)))) := id rfl
theorem k_IsN : kIsN neg x .none V = V (.d (.bool (if neg then !isN x else isN x))) := id rfl
theorem k_InL : kIn neg x (.list ys) V = (flatD x = true ∧ ys.all flatD = true ∧ V (.d (.bool (if neg then !inD x ys else inD x ys)))) := id rfl
theorem k_InT : kIn neg x (.tuple ys) V = (flatD x = true ∧ ys.all flatD = true ∧ V (.d (.bool (if neg then !inD x ys else inD x ys)))) := id rfl
theorem k_Cat : kCat (.list xs) (.list ys) V = (xs.length + ys.length ≤ 1000000 ∧ V (.new (xs ++ ys))) := id rfl
theorem k_IxL : kIx (.list xs) (.int z1) V = onO (atI xs z1) fun d => V (.d d) := id rfl
theorem k_IxT : kIx (.tuple xs) (.int z1) V = onO (atI xs z1) fun d => V (.d d) := id rfl
theorem k_LenL : kLen [.list xs] V = V (.d (.int (xs.length : Nat))) := id rfl
theorem k_LenT : kLen [.tuple xs] V = V (.d (.int (xs.length : Nat))) := id rfl
theorem k_ListL : kList [.list xs] V = V (.new xs) := id rfl
theorem k_ListT : kList [.tuple xs] V = V (.new xs) := id rfl
theorem k_TupleL : kTuple [.list xs] V = V (.d (.tuple xs)) := id rfl
theorem k_TupleT : kTuple [.tuple xs] V = V (.d (.tuple xs)) := id rfl
theorem k_I2 : kI2 g2 [.int z1, .int z2] V = V (.d (.int (g2 z1 z2))) := id rfl
theorem k_Abs : kAbs [.int z1] V = V (.d (.int (if z1 < 0 then -z1 else z1))) := id rfl
theorem k_Neg : kNeg (.int z1) V = V (.d (.int (-z1))) := id rfl
theorem k_App : kAppend [y] xs W = (xs.length < 1000000 ∧ W .none (xs ++ [y])) := id rfl
theorem k_PopAt : kPopAt [.int z1] xs W = (0 ≤ z1 ∧ xs.length ≤ 1000000 ∧ onO xs[z1.toNat]? fun y => W y (xs.eraseIdx z1.toNat)) := id rfl
theorem lk_0 {s : Sl} {r : Ep} : look (s :: r) 0 = s := id rfl
theorem lk_s {s : Sl} {r : Ep} {n : Nat} : look (s :: r) (n + 1) = look r n := id rfl
theorem pt_0 {s s' : Sl} {r : Ep} : put (s :: r) 0 s' = s' :: r := id rfl
theorem pt_s {s s' : Sl} {r : Ep} {n : Nat} : put (s :: r) (n + 1) s' = s :: put r n s' := id rfl
end
end DL

/-! DL2: more rules of the data layer. -/
namespace DL
open PySem PySem.Spec PyProof.Rows L2
/-! ### is, is not of truths; int of a truth -/
def kIsB (neg : Bool) : PyData → PyData → (Vl → Prop) → Prop := fun x y A => match x, y with
  | .bool a, .bool b => A (.d (.bool (if neg then !decide (a = b) else decide (a = b))))
  | _, _ => False
def kInt : List PyData → (Vl → Prop) → Prop := fun xs A => match xs with
  | [.int i] => A (.d (.int i))
  | [.bool b] => A (.d (.int (if b then 1 else 0)))
  | _ => False
/-- tuple + tuple -/
def kCatT : PyData → PyData → (Vl → Prop) → Prop := fun x y A => match x, y with
  | .tuple xs, .tuple ys => xs.length + ys.length ≤ 1000000 ∧ A (.d (.tuple (xs ++ ys)))
  | _, _ => False
/-- list * int -/
def kRep : PyData → PyData → (Vl → Prop) → Prop := fun x y A => match x, y with
  | .list xs, .int k => (-(2 ^ 63) ≤ k ∧ k < 2 ^ 63 ∧ xs.length * k.toNat ≤ 1000000) ∧ A (.new (List.replicate k.toNat xs).flatten)
  | _, _ => False
/-- one sign in a text -/
def sign1 (s : Str) : Option Nat := match s.cps.toList with
  | [c] => some c
  | _ => none
def kInS (neg : Bool) : PyData → PyData → (Vl → Prop) → Prop := fun x y A => match x, y with
  | .str s, .str z => onO (sign1 s) fun c => A (.d (.bool (if neg then !decide (c ∈ z.cps.toList) else decide (c ∈ z.cps.toList))))
  | _, _ => False
section
variable {K : PySem.W.Frag}
theorem od_isB : OpD K rIsB (kIsB false) := fun G H x y v1 v2 A Q e p1 p2 h k => by
  unfold kIsB at h
  split at h
  · exact ⟨_, _, p1.bl, p2.bl, k _ _ _ h (.val (.bl _))⟩
  · exact h.elim
theorem od_notB : OpD K rNotB (kIsB true) := fun G H x y v1 v2 A Q e p1 p2 h k => by
  unfold kIsB at h
  split at h
  · exact ⟨_, _, p1.bl, p2.bl, k _ _ _ h (.val (.bl _))⟩
  · exact h.elim
theorem cd_int : CallD K (fun xs H Q => (∃ i, xs = [.int i] ∧ Q (.int i) H) ∨ ∃ k, xs = [.bl k] ∧ Q (.int (if k then 1 else 0)) H) kInt := fun G H xs vs A Q e p h k => by
  unfold kInt at h
  split at h
  · obtain ⟨v, rfl, p1⟩ := pk1 p
    cases p1.int
    exact .inl ⟨_, rfl, k _ _ _ h (.val (.int _))⟩
  · obtain ⟨v, rfl, p1⟩ := pk1 p
    cases p1.bl
    exact .inr ⟨_, rfl, k _ _ _ h (.val (.int _))⟩
  · exact h.elim
theorem Pk.tupD {G H : Hp} {v : V} {xs : List PyData} (h : Pk K G H v (.tuple xs)) : Dd K G v (.tuple xs) := by
  rcases h with h | ⟨_, _, _, _, e, _⟩
  · exact h
  · cases e
theorem od_catT : OpD K (rCatA K) kCatT := fun G H x y v1 v2 A Q e p1 p2 h k => by
  unfold kCatT at h
  split at h
  · rename_i xs ys
    have q1 := p1.tupD
    have q2 := p2.tupD
    obtain ⟨p, vs, rfl, hs, ha⟩ := p1.tuple e
    obtain ⟨q, us, rfl, hs2, ha2⟩ := p2.tuple e
    refine ⟨p, q, vs, us, rfl, rfl, hs, hs2, by rw [dpa_len ha, dpa_len ha2]; exact line_le h.1, fun h0 => ?_, fun h0 h1 => ?_, fun h0 h1 r hr => k _ _ _ h.2 (.tup hr (dpa_app ha ha2))⟩
    · subst h0
      cases ha
      exact k _ _ _ h.2 (.val q2)
    · subst h1
      cases ha2
      have hA := h.2
      rw [List.append_nil] at hA
      exact k _ _ _ hA (.val q1)
  · exact h.elim
def rRepR (K : PySem.W.Frag) : R2 := fun x y H Q => ∃ l k xs, x = .ref l ∧ y = .int k ∧ SqL K H l xs ∧ -(2 ^ 63) ≤ k ∧ k < 2 ^ 63 ∧ xs.length * k.toNat ≤ sizeLine ∧ ∀ p, H p = none → Q (.ref p) (upd H p (.lst (List.replicate k.toNat xs).flatten))
theorem op_repR {X : Cx} : OpR X (binaryOp .Mult) (rRepR X.K) := by
  intro pins s σ H x y v u Q I rx ry h
  obtain ⟨l, x, xs, rfl, rfl, hH, h1, h2, hz, q⟩ := h
  cases rx
  obtain ⟨t, rfl⟩ := ry
  obtain ⟨is1, r, P1, _⟩ := I.list hH
  obtain ⟨⟨cls, d, dat, sl⟩, ho, hc, n, hd⟩ := P1.isList
  simp only at hc hd
  subst hc hd
  have l1 := r.length
  have hs : sizeLine = 2 ^ 24 := rfl
  have big : is1.toArray.size * x.toNat ≤ 2 ^ 24 := by
    rw [List.size_toArray, ← l1, ← hs]
    exact hz
  refine wpAny_binaryOp_repeat_ref (T := "list") (U := "int") (by decide) ⟨_, ho, rfl⟩ (fun s' => typeIs_int s' x t) noFill_list_mul PySem.F.fills_int_mul PySem.F.slot_int_rmul
    repeat_list PySem.F.slot_int_index.lookup
    (call_meets PySem.F.slot_int_rmul (typeIs_int s x t) PySem.F.entry_int_rmul (PySem.F.args_int_rmul_2 _ _) (lm_int_rmul_list_any x t l is1.toArray n d sl)
      ⟨ho, rfl, ⟨_, ho, rfl⟩, call_meets PySem.F.slot_list_mul ⟨_, ho, rfl⟩ PySem.F.entry_list_mul (PySem.F.args_list_mul_2 _ _)
        (lm_list_mul_any l is1.toArray n d sl x t (by simp [Builtin.List.listFitsIndex]; omega) (by omega) (by simp [Builtin.List.listTooLong, sizeLine]; omega)) ⟨ho, ?_⟩⟩)
  rw [listMul_foldl_if]
  exact ⟨.ref _, _, I.lnew (t' := s.toks) (r.rep x.toNat) (by rw [PyProof.Rows.lm_len_rep_flat, Nat.mul_comm]; exact hz), rfl, q _ I.fresh⟩
theorem dpa_rep {H : Hp} {vs : List V} {xs : List PyData} (h : DdAll K H vs xs) : ∀ n : Nat, DdAll K H (List.replicate n vs).flatten (List.replicate n xs).flatten
  | 0 => .nil
  | n + 1 => by
    rw [List.replicate_succ, List.replicate_succ, List.flatten_cons, List.flatten_cons]
    exact dpa_app h (dpa_rep h n)
theorem od_rep : OpD K (rRepR K) kRep := fun G H x y v1 v2 A Q e p1 p2 h k => by
  unfold kRep at h
  split at h
  · obtain ⟨p, vs, rfl, hs, ha⟩ := p1.list e
    cases p2.int
    exact ⟨p, _, vs, rfl, rfl, hs, h.1.1, h.1.2.1, by rw [dpa_len ha]; exact line_le h.1.2.2, fun r hr => k _ _ _ h.2 (.lst hr (dpa_rep ha _))⟩
  · exact h.elim
theorem sign1_of {s : Str} {c : Nat} (h : sign1 s = some c) : s = ⟨#[c]⟩ := by
  unfold sign1 at h
  split at h
  · rename_i c' e
    cases h
    obtain ⟨a⟩ := s
    have : a = #[c] := by
      apply Array.ext'
      simpa using e
    rw [this]
  · cases h
theorem od_inS : OpD K (fun x y H Q => ∃ (c : Nat) (z : Str), x = .str ⟨#[c]⟩ ∧ y = .str z ∧ Q (.bl (decide (c ∈ z.cps.toList))) H) (kInS false) := fun G H x y v1 v2 A Q e p1 p2 h k => by
  unfold kInS at h
  split at h
  · obtain ⟨c, hc, h⟩ := onO_get h
    have e1 := sign1_of hc
    subst e1
    exact ⟨c, _, p1.str, p2.str, k _ _ _ h (.val (.bl _))⟩
  · exact h.elim
theorem od_notinS : OpD K (fun x y H Q => ∃ (c : Nat) (z : Str), x = .str ⟨#[c]⟩ ∧ y = .str z ∧ Q (.bl (!decide (c ∈ z.cps.toList))) H) (kInS true) := fun G H x y v1 v2 A Q e p1 p2 h k => by
  unfold kInS at h
  split at h
  · obtain ⟨c, hc, h⟩ := onO_get h
    have e1 := sign1_of hc
    subst e1
    exact ⟨c, _, p1.str, p2.str, k _ _ _ h (.val (.bl _))⟩
  · exact h.elim
end
/-! ### xs[::-1] -/
def dRev (t : TD) : TD := fun ε A => t ε fun r ε1 => match peek ε1 r with
  | some (.list xs) => A (.new xs.reverse) ε1
  | _ => False
theorem dpa_rev {K : PySem.W.Frag} {H : Hp} : ∀ {vs : List V} {xs : List PyData}, DdAll K H vs xs → DdAll K H vs.reverse xs.reverse
  | _, _, .nil => .nil
  | _, _, .cons h t => by
    rw [List.reverse_cons, List.reverse_cons]
    exact dpa_app (dpa_rev t) (dpa_one h)
theorem dv_rev {X : Cx} {e : Expr} {t : TD} {k : Nat} {p1 p2 p3 pos : Pos} (he : DV X e t) : DV X (.Subscript e (.Slice none none (some (.UnaryOp .USub (.Constant (.int 1) k p1) p2)) p3) pos) (dRev t) :=
  pe_w (pe_revL he) fun σ H Q ⟨c, G, ow, ε, A, R, h, kk⟩ => ⟨c, G, ow, ε, _, R, h, fun r ε1 G1 H1 ow1 v h1 F1 R1 V1 => by
    split at h1
    · rename_i xs e
      obtain ⟨p, vs, rfl, hs, ha⟩ := (peek_ok R1 V1 e).list R1.ex
      refine ⟨p, vs, rfl, hs, fun q hq => ?_⟩
      obtain ⟨G', ow', F4, R4, V4⟩ := res_fin R1 (.lst hq (dpa_rev ha))
      exact kk _ _ G' _ ow' _ h1 (F1.trans F4) R4 (V4.since F1.dom)
    · exact h1.elim⟩
/-! ### a < b < c -/
def dChain (k k' : PyData → PyData → (Vl → Prop) → Prop) (ta tb tc : TD) : TD := fun ε A => ta ε fun r1 ε1 => tb ε1 fun r2 ε2 => match r2, peek ε2 r1 with
  | .d y, some x => k x y fun r => match r with
    | .d (.bool b) => onB b (tc ε2 fun r3 ε3 => match peek ε3 r3 with
      | some z => k' y z fun r => A r ε3
      | none => False) (A (.d (.bool false)) ε2)
    | _ => False
  | _, _ => False
theorem dv_chain {X : Cx} {op op' : CmpOp} {r r' : R2} {k k' : PyData → PyData → (Vl → Prop) → Prop} {a b c : Expr} {ta tb tc : TD} {pos : Pos} (ho : OpR X (compareOp op) r) (ho' : OpR X (compareOp op') r') (hk : OpD X.K r k) (hk' : OpD X.K r' k') (ha : DV X a ta) (hb : DV X b tb) (hc : DV X c tc)
    (hm : lastMarks [op, op'] [b, c] = false := by with_unfolding_all rfl) : DV X (.Compare a [op, op'] [b, c] pos) (dChain k k' ta tb tc) :=
  pe_w (pe_chain ho ho' ha hb hc hm) fun σ H Q ⟨c, G, ow, ε, A, R, h, kk⟩ => ⟨c, G, ow, ε, _, R, h, fun r1 ε1 G1 H1 ow1 v1 h1 F1 R1 V1 => ⟨c, G1, ow1, ε1, _, R1, h1, fun r2 ε2 G2 H2 ow2 v2 h2 F2 R2 V2 => by
    have F := F1.trans F2
    split at h2
    · rename_i y x e1
      have d2 : Dd X.K G2 v2 y := V2
      refine hk G2 H2 x y v1 v2 _ _ R2.ex (peek_ok R2 (V1.fr F2) e1) (.inl d2) h2 fun r v H' hr hres => ?_
      obtain ⟨G', ow', F3, R3, V3⟩ := res_fin R2 hres
      split at hr
      · rename_i b
        have V3 : Dd X.K G' v (.bool b) := V3
        cases V3
        refine ⟨b, rfl, ?_⟩
        cases b with
        | true =>
          refine iteT ⟨c, G', ow', ε2, _, R3, hr, fun r3 ε3 G4 H4 ow4 v4 h4 F4 R4 V4 => ?_⟩
          split at h4
          · rename_i z e4
            refine hk' G4 H4 y z v2 v4 _ _ R4.ex (.inl (dp_ex (F3.trans F4).ex y d2)) (peek_ok R4 V4 e4) h4 fun r v H5 hr5 hres5 => ?_
            obtain ⟨G5, ow5, F5, R5, V5⟩ := res_fin R4 hres5
            exact kk _ _ G5 H5 ow5 v hr5 (((F.trans F3).trans F4).trans F5) R5 (V5.since ((F.trans F3).trans F4).dom)
          · exact h4.elim
        | false => exact iteF (kk _ _ G' _ ow' _ hr (F.trans F3) R3 (.bl false))
      · exact hr.elim
    · exact h2.elim⟩⟩
/-! ### a comprehension over a text's signs -/
def signs (s : Str) : List PyData := s.cps.toList.map fun c => .str ⟨#[c]⟩
def dLcS (t : TD) (g : TDG) (tt : TDT) (te : TD) (vs : List Nat) : TD := fun ε A => t ε fun r ε1 => match peek ε1 r with
  | some (.str s) => lcGo noI g tt te vs (fun acc ε' => A (.new acc) (rstE ε1 ε' vs)) (signs s) [] (wipeE ε1 vs)
  | _ => False
theorem lcS_rd {K : PySem.W.Frag} {t : TD} {g : TDG} {tt : TDT} {te : TD} {ws vs : List Nat} {σ : L2.St} {H : Hp} {Q : VK} (hws : ∀ j ∈ ws, j ∈ vs) (h : rdV K (dLcS t g tt te vs) σ H Q) : tLc (iStr (rdV K t)) (rdG K ws g) (rdT K tt) (rdV K te) vs σ H Q := by
  obtain ⟨c, G, ow, ε, A, R, h, kk⟩ := h
  refine ⟨c, G, ow, ε, _, R, h, fun r ε1 G1 H1 ow1 v h1 F1 R1 V1 => ?_⟩
  split at h1
  · rename_i s e
    have es := (peek_ok R1 V1 e).str
    have hl : (signs s).length = s.cps.size := by simp [signs]
    refine ⟨s, es, lc_core hws R1 F1 h1 (fun i x H' G' ow' ε' hx _ f1 r1 => ?_) (fun H' G' ow' ε' _ f1 r1 => by rw [hl]; exact Nat.le_refl _) fun acc ε' G' H' ow' v q F R V => kk _ _ G' H' ow' v q F R V⟩
    have hi : i < s.cps.size := by
      rw [← hl]
      exact (List.getElem?_eq_some_iff.mp hx).1
    refine ⟨hi, fun y H2 hy => ⟨hy.1, ?_⟩⟩
    obtain ⟨c, hc, rfl⟩ := hy.2
    have ex : x = .str ⟨#[c]⟩ := by
      unfold signs at hx
      rw [List.getElem?_map, Array.getElem?_toList, hc] at hx
      exact (Option.some.inj hx).symm
    subst ex
    exact .str _
  · exact h1.elim
section
variable {X : Cx} {elt tg iter : Expr} {ifs : List Expr} {scope : Scope} {own : List (Str × Nat)} {pos : Pos} {t : TD} {g : TDG} {tt : TDT} {te : TD} {ws : List Nat}
theorem dv_lcS (hc : X.calm = true) (hN : X.N.Nodup) (hi : DV X iter t) (b : Blk X tg ifs elt scope own ws g tt te) (hs : ∀ x, foldedSetIterable iter X.env x = pure x := by intro _; rfl) : DV X (.ListComp elt [⟨tg, iter, ifs, 0⟩] scope pos) (dLcS t g tt te (own.map (·.2))) :=
  pe_w (pe_lc hc hN (pi_str hi) b.ok b.tgt b.tst b.elt hs) fun _ _ _ h => lcS_rd b.sub h
end
/-! ### steps -/
section
variable {A : Vl → Ep → Prop} {V : Vl → Prop} {ε : Ep} {t u v : TD} {g : TDG} {p : TDT} {vs : List Nat} {b1 b2 neg : Bool} {z1 : Int} {xs ys : List PyData} {s1 s2 : Str} {k k' : PyData → PyData → (Vl → Prop) → Prop}
theorem ap_rev : ev (dRev t ε A) = ev (t ε fun r ε1 => match peek ε1 r with
  | some (.list xs) => A (.new xs.reverse) ε1
  | _ => False) := id rfl
theorem ap_chain : ev (dChain k k' t u v ε A) = ev (t ε fun r1 ε1 => u ε1 fun r2 ε2 => match r2, peek ε2 r1 with
  | .d y, some x => k x y fun r => match r with
    | .d (.bool b) => onB b (v ε2 fun r3 ε3 => match peek ε3 r3 with
      | some z => k' y z fun r => A r ε3
      | none => False) (A (.d (.bool false)) ε2)
    | _ => False
  | _, _ => False) := id rfl
theorem ap_lcS : ev (dLcS t g p u vs ε A) = ev (t ε fun r ε1 => match peek ε1 r with
  | some (.str s) => lcGo noI g p u vs (fun acc ε' => A (.new acc) (rstE ε1 ε' vs)) (signs s) [] (wipeE ε1 vs)
  | _ => False) := id rfl
theorem k_IsB : kIsB neg (.bool b1) (.bool b2) V = V (.d (.bool (if neg then !decide (b1 = b2) else decide (b1 = b2)))) := id rfl
theorem k_IntI : kInt [.int z1] V = V (.d (.int z1)) := id rfl
theorem k_IntB : kInt [.bool b1] V = V (.d (.int (if b1 then 1 else 0))) := id rfl
theorem k_CatT : kCatT (.tuple xs) (.tuple ys) V = (xs.length + ys.length ≤ 1000000 ∧ V (.d (.tuple (xs ++ ys)))) := id rfl
theorem k_Rep : kRep (.list xs) (.int z1) V = ((-(2 ^ 63) ≤ z1 ∧ z1 < 2 ^ 63 ∧ xs.length * z1.toNat ≤ 1000000) ∧ V (.new (List.replicate z1.toNat xs).flatten)) := id rfl
theorem k_InS : kInS neg (.str s1) (.str s2) V = onO (sign1 s1) fun c => V (.d (.bool (if neg then !decide (c ∈ s2.cps.toList) else decide (c ∈ s2.cps.toList)))) := id rfl
theorem k_LenS : kLen [.str s1] V = (s1.length ≤ 1000000 ∧ V (.d (.int (s1.length : Nat)))) := id rfl
end
/-! ### constants of the module -/
def gvD : Value → PyData → Bool
  | .none, .none => true
  | .bool a, .bool b => a == b
  | .int i _, .int j => i == j
  | .str x _, .str y => decide (x = y)
  | _, _ => false
def gvsD : List Value → List PyData → Bool
  | [], [] => true
  | v :: vs, d :: ds => gvD v d && gvsD vs ds
  | _, _ => false
def GlobD (K : PySem.W.Frag) (mg : Str → Option Value) (x : Str) (d : PyData) : Prop := ∃ u v, mg x = some u ∧ RelV v u ∧ ∀ G, Dd K G v d
theorem gvD_ok {K : PySem.W.Frag} {u : Value} {d : PyData} (h : gvD u d = true) : ∃ v, RelV v u ∧ ∀ G, Dd K G v d := by
  unfold gvD at h
  split at h
  · exact ⟨.non, rfl, fun _ => .non⟩
  · cases eq_of_beq h
    exact ⟨.bl _, rfl, fun _ => .bl _⟩
  · cases eq_of_beq h
    exact ⟨.int _, ⟨_, rfl⟩, fun _ => .int _⟩
  · cases of_decide_eq_true h
    exact ⟨.str _, ⟨_, rfl⟩, fun _ => .str _⟩
  · cases h
theorem gvsD_ok {K : PySem.W.Frag} : ∀ {us : List Value} {ds : List PyData}, gvsD us ds = true → ∃ vs, Vals vs us ∧ ∀ G, DdAll K G vs ds
  | [], [], _ => ⟨[], .nil, fun _ => .nil⟩
  | u :: us, d :: ds, h => by
    simp only [gvsD, Bool.and_eq_true] at h
    obtain ⟨v, r, p⟩ := gvD_ok (K := K) h.1
    obtain ⟨vs, rs, ps⟩ := gvsD_ok (K := K) h.2
    exact ⟨v :: vs, .cons r rs, fun G => .cons (p G) (ps G)⟩
  | [], _ :: _, h => by cases h
  | _ :: _, [], h => by cases h
theorem glob_flat {K : PySem.W.Frag} {mg : Str → Option Value} {x : Str} {u : Value} {d : PyData} (hm : mg x = some u) (h : gvD u d = true) : GlobD K mg x d := by
  obtain ⟨v, r, p⟩ := gvD_ok (K := K) h
  exact ⟨u, v, hm, r, p⟩
theorem glob_tup {K : PySem.W.Frag} {mg : Str → Option Value} {x : Str} {a : Addr} {od : Option Addr} {its : Array Value} {n : Nat} {sl : Array (Option Value)} {ds : List PyData} (hm : mg x = some (.ref a)) (hk : K.lookup a = some ⟨.type "tuple", od, .seq its n, sl⟩)
    (h : (decide (its.size ≤ 1000) && gvsD its.toList ds) = true) : GlobD K mg x (.tuple ds) := by
  rw [Bool.and_eq_true] at h
  obtain ⟨vs, r, p⟩ := gvsD_ok (K := K) h.2
  have hz := of_decide_eq_true h.1
  exact ⟨_, .ref a, hm, rfl, fun G => .tup (.inr ⟨_, its, n, hk, rfl, rfl, Nat.le_trans hz (by decide), r⟩) (p G)⟩
theorem dv_gd {X : Cx} {x : Str} {d : PyData} {pos : Pos} (h : GlobD X.K X.mg x d) (hg : Gl X x) (hd : (x == ("__debug__" : Str)) = false := by decide) : DV X (.Name x pos) (dC d) := by
  obtain ⟨u, v, hm, r, p⟩ := h
  exact dv_glob hg hm r p hd
/-! ### comprehensions that map and filter, their slots as they were -/
theorem lc_mf {g : TDG} {tt : TDT} {te : TD} {vs : List Nat} {p : PyData → Bool} {f : PyData → PyData} {e : PyData → Ep} {ε : Ep} {A : List PyData → Ep → Prop} : ∀ (its acc : List PyData),
    (∀ x ∈ its, ∀ (B : Vl → Ep → Prop) (C : Ep → Prop), (p x = true → B (.d (f x)) (e x)) → (p x = false → C (e x)) → g x ε fun ε1 => tt ε1 fun b ε2 => onB b (te ε2 B) (C ε2)) → (∀ x ∈ its, wipeE (e x) vs = ε) → acc.length + its.length ≤ 1000000 →
    A (acc ++ (its.filter p).map f) ε → lcGo noI g tt te vs A its acc ε
  | [], acc, _, _, _, h => ⟨trivial, by simpa using h⟩
  | x :: its, acc, h1, h2, hl, h => by
    rw [List.length_cons] at hl
    refine ⟨trivial, h1 x List.mem_cons_self _ (fun ε2 => lcGo noI g tt te vs A its acc (wipeE ε2 vs)) (fun hp => ?_) fun hp => ?_⟩
    · show acc.length < 1000000 ∧ lcGo noI g tt te vs A its (acc ++ [f x]) (wipeE (e x) vs)
      rw [h2 x List.mem_cons_self]
      refine ⟨by omega, lc_mf its _ (fun y hy => h1 y (List.mem_cons_of_mem _ hy)) (fun y hy => h2 y (List.mem_cons_of_mem _ hy)) (by simp; omega) ?_⟩
      rw [List.filter_cons, if_pos hp] at h
      simpa using h
    · show lcGo noI g tt te vs A its acc (wipeE (e x) vs)
      rw [h2 x List.mem_cons_self]
      refine lc_mf its _ (fun y hy => h1 y (List.mem_cons_of_mem _ hy)) (fun y hy => h2 y (List.mem_cons_of_mem _ hy)) (by omega) ?_
      rw [List.filter_cons, if_neg (by rw [hp]; decide)] at h
      exact h
theorem lc_map {g : TDG} {te : TD} {vs : List Nat} {f : PyData → PyData} {e : PyData → Ep} {ε : Ep} {A : List PyData → Ep → Prop} (its acc : List PyData)
    (h1 : ∀ x ∈ its, ∀ B : Vl → Ep → Prop, B (.d (f x)) (e x) → g x ε fun ε1 => te ε1 B) (h2 : ∀ x ∈ its, wipeE (e x) vs = ε) (hl : acc.length + its.length ≤ 1000000)
    (h : A (acc ++ its.map f) ε) : lcGo noI g dYes te vs A its acc ε :=
  lc_mf (p := fun _ => true) its acc (fun x hx B _ hb _ => h1 x hx B (hb rfl)) h2 hl (by rw [List.filter_eq_self.mpr fun _ _ => rfl]; exact h)
/-! ### what a thing is -/
def isTup : PyData → Bool
  | .tuple _ => true
  | _ => false
theorem kit_tuple : ∀ x : PyData, kitB (tyD x) "tuple" = some (isTup x)
  | .none => (by decide +kernel : kitB "NoneType" "tuple" = some false)
  | .bool _ => (by decide +kernel : kitB "bool" "tuple" = some false)
  | .int _ => (by decide +kernel : kitB "int" "tuple" = some false)
  | .str _ => (by decide +kernel : kitB "str" "tuple" = some false)
  | .list _ => (by decide +kernel : kitB "list" "tuple" = some false)
  | .tuple _ => (by decide +kernel : kitB "tuple" "tuple" = some true)
  | .dict _ => (by decide +kernel : kitB "dict" "tuple" = some false)
def isLst : PyData → Bool
  | .list _ => true
  | _ => false
theorem kit_list : ∀ x : PyData, kitB (tyD x) "list" = some (isLst x)
  | .none => (by decide +kernel : kitB "NoneType" "list" = some false)
  | .bool _ => (by decide +kernel : kitB "bool" "list" = some false)
  | .int _ => (by decide +kernel : kitB "int" "list" = some false)
  | .str _ => (by decide +kernel : kitB "str" "list" = some false)
  | .list _ => (by decide +kernel : kitB "list" "list" = some true)
  | .tuple _ => (by decide +kernel : kitB "tuple" "list" = some false)
  | .dict _ => (by decide +kernel : kitB "dict" "list" = some false)
def isStr : PyData → Bool
  | .str _ => true
  | _ => false
theorem kit_str : ∀ x : PyData, kitB (tyD x) "str" = some (isStr x)
  | .none => (by decide +kernel : kitB "NoneType" "str" = some false)
  | .bool _ => (by decide +kernel : kitB "bool" "str" = some false)
  | .int _ => (by decide +kernel : kitB "int" "str" = some false)
  | .str _ => (by decide +kernel : kitB "str" "str" = some true)
  | .list _ => (by decide +kernel : kitB "list" "str" = some false)
  | .tuple _ => (by decide +kernel : kitB "tuple" "str" = some false)
  | .dict _ => (by decide +kernel : kitB "dict" "str" = some false)
def isInt : PyData → Bool
  | .bool _ => true
  | .int _ => true
  | _ => false
theorem kit_int : ∀ x : PyData, kitB (tyD x) "int" = some (isInt x)
  | .none => (by decide +kernel : kitB "NoneType" "int" = some false)
  | .bool _ => (by decide +kernel : kitB "bool" "int" = some true)
  | .int _ => (by decide +kernel : kitB "int" "int" = some true)
  | .str _ => (by decide +kernel : kitB "str" "int" = some false)
  | .list _ => (by decide +kernel : kitB "list" "int" = some false)
  | .tuple _ => (by decide +kernel : kitB "tuple" "int" = some false)
  | .dict _ => (by decide +kernel : kitB "dict" "int" = some false)
def isBool : PyData → Bool
  | .bool _ => true
  | _ => false
theorem kit_bool : ∀ x : PyData, kitB (tyD x) "bool" = some (isBool x)
  | .none => (by decide +kernel : kitB "NoneType" "bool" = some false)
  | .bool _ => (by decide +kernel : kitB "bool" "bool" = some true)
  | .int _ => (by decide +kernel : kitB "int" "bool" = some false)
  | .str _ => (by decide +kernel : kitB "str" "bool" = some false)
  | .list _ => (by decide +kernel : kitB "list" "bool" = some false)
  | .tuple _ => (by decide +kernel : kitB "tuple" "bool" = some false)
  | .dict _ => (by decide +kernel : kitB "dict" "bool" = some false)
def isDict : PyData → Bool
  | .dict _ => true
  | _ => false
theorem kit_dict : ∀ x : PyData, kitB (tyD x) "dict" = some (isDict x)
  | .none => (by decide +kernel : kitB "NoneType" "dict" = some false)
  | .bool _ => (by decide +kernel : kitB "bool" "dict" = some false)
  | .int _ => (by decide +kernel : kitB "int" "dict" = some false)
  | .str _ => (by decide +kernel : kitB "str" "dict" = some false)
  | .list _ => (by decide +kernel : kitB "list" "dict" = some false)
  | .tuple _ => (by decide +kernel : kitB "tuple" "dict" = some false)
  | .dict _ => (by decide +kernel : kitB "dict" "dict" = some true)
/-- a decision that answers a truth -/
theorem onO_kit {o : Option Bool} {b : Bool} {k : Bool → Prop} (h : o = some b) (q : k b) : onO o k := onO_of h q
end DL

/-! DL3: texts; a def's promise that is its own reading. -/
namespace DL
open PySem PySem.Spec PyProof.Rows L2
/-! ### texts -/
def kCatS : PyData → PyData → (Vl → Prop) → Prop := fun x y A => match x, y with
  | .str a, .str b => a.length + b.length ≤ 1000000 ∧ A (.d (.str (a ++ b)))
  | _, _ => False
def repS (a : Str) (n : Nat) : Str := ⟨(List.replicate n a.cps.toList).flatten.toArray⟩
def kRepS : PyData → PyData → (Vl → Prop) → Prop := fun x y A => match x, y with
  | .str a, .int k => (-1000 ≤ k ∧ k ≤ 1000 ∧ a.length ≤ 1000) ∧ A (.d (.str (repS a k.toNat)))
  | _, _ => False
def kIxA : PyData → PyData → (Vl → Prop) → Prop := fun x y A => match x, y with
  | .list xs, .int i => onO (atI xs i) fun d => A (.d d)
  | .tuple xs, .int i => onO (atI xs i) fun d => A (.d d)
  | .str z, .int i => z.length ≤ 1000000 ∧ onO (atI z.cps.toList i) fun c => A (.d (.str ⟨#[c]⟩))
  | _, _ => False
/-- a slice of a list, a tuple, a text -/
def kSl (x : PyData) (l u : Option Int) (A : Vl → Prop) : Prop := match x with
  | .list xs => A (.new (cutD xs l u))
  | .tuple xs => A (.d (.tuple (cutD xs l u)))
  | .str z => z.length ≤ 1000000 ∧ A (.d (.str (cutS z l u)))
  | _ => False
section
variable {K : PySem.W.Frag}
theorem od_catS : OpD K (fun x y H Q => ∃ i j, x = .str i ∧ y = .str j ∧ i.length + j.length ≤ sizeLine ∧ Q (.str (i ++ j)) H) kCatS := fun G H x y v1 v2 A Q e p1 p2 h k => by
  unfold kCatS at h
  split at h
  · exact ⟨_, _, p1.str, p2.str, line_le h.1, k _ _ _ h.2 (.val (.str _))⟩
  · exact h.elim
def rRepS : R2 := fun x y H Q => ∃ a k, x = .str a ∧ y = .int k ∧ (-1000 ≤ k ∧ k ≤ 1000 ∧ a.length ≤ 1000) ∧ Q (.str (repS a k.toNat)) H
theorem od_repS : OpD K rRepS kRepS := fun G H x y v1 v2 A Q e p1 p2 h k => by
  unfold kRepS at h
  split at h
  · exact ⟨_, _, p1.str, p2.int, h.1, k _ _ _ h.2 (.val (.str _))⟩
  · exact h.elim
theorem fold_rep (a : Array Nat) : ∀ (n : Nat) (z : Array Nat), (List.replicate n a).foldl (· ++ ·) z = z ++ (List.replicate n a.toList).flatten.toArray
  | 0, z => by simp
  | n + 1, z => by
    rw [List.replicate_succ, List.foldl_cons, fold_rep a n, List.replicate_succ, List.flatten_cons, Array.append_assoc]
    refine congrArg (z ++ ·) ?_
    obtain ⟨a⟩ := a
    simp
theorem op_repS {X : Cx} : OpR X (binaryOp .Mult) rRepS := by
  intro pins s σ H x y v u Q I rx ry h
  obtain ⟨a, k, rfl, rfl, ⟨h1, h2, h3⟩, q⟩ := h
  obtain ⟨t, rfl⟩ := rx
  obtain ⟨t', rfl⟩ := ry
  refine P.mul_str (by rw [decide_eq_false (by omega), decide_eq_false (by omega)]; rfl) (fun hn _ hc => ?_) (fun hn _ => ?_) ?_
  · have h5 : (1000 : Int) ≤ (2 ^ 63 - 1) / k := by
      rw [Int.le_ediv_iff_mul_le (by omega)]
      have : (1000 : Int) * k ≤ 1000 * 1000 := Int.mul_le_mul_of_nonneg_left h2 (by decide)
      omega
    omega
  · have h5 : a.length * k.toNat ≤ 1000 * 1000 := Nat.mul_le_mul h3 (by omega)
    have : sizeLine = 16777216 := rfl
    simp [Builtin.Str.tooLong]
    omega
  · have fin : ∀ (z : Str) (t : Tok) (s' : Shared), z = repS a k.toNat → Inv X pins σ H s' → EP X pins σ Q (.str z t) s' := fun z t s' e I' => by
      subst e
      exact ⟨.str _, H, I', ⟨_, rfl⟩, q⟩
    split
    · rename_i hn
      have : k.toNat = 0 := by omega
      exact ⟨by decide, fin _ _ _ (by rw [this]; rfl) (I.tok _)⟩
    · split
      · rename_i hn hz
        refine fin _ _ _ ?_ I
        rw [Bool.or_eq_true] at hz
        rcases hz with hz | hz
        · have : k = 1 := by simpa using hz
          subst this
          obtain ⟨a⟩ := a
          simp [repS]
        · have hz : a.length = 0 := by simpa using hz
          obtain ⟨⟨a⟩⟩ := a
          have hz : a = [] := List.length_eq_zero_iff.mp (by simpa [Str.length] using hz)
          subst hz
          simp [repS]
      · refine ⟨?_, fin _ _ _ ?_ (I.tok _)⟩
        · have e : ((List.replicate k.toNat a.cps).foldl (· ++ ·) #[]).size = k.toNat * a.length := by
            rw [fold_rep]
            simp [Str.length]
          show Array.size _ ≤ sizeLine
          rw [e]
          have h5 : k.toNat * a.length ≤ 1000 * 1000 := Nat.mul_le_mul (by omega) h3
          have : sizeLine = 16777216 := rfl
          omega
        · rw [fold_rep]
          simp [repS]
end
end DL
namespace DL
open PySem PySem.Spec PyProof.Rows L2 HT
section
variable {prog : Program} {w : World} {A : Around} {E : Value → Shared → Prop} {s : Shared}
theorem sliceApplied_rev {sl : Addr} {vl vu vs : Value} {n : Nat} {Q : Int × Int × Nat → Shared → Prop} (hs : s.heap.IsSliceOf sl vl vu vs) (pl : IsPart vl none) (pu : IsPart vu none) (ps : IsPart vs (some (-1)))
    (h : Q ((n : Int) - 1, -1, n) s) : wpAny (model prog w) A (Builtin.Slice.sliceApplied (.ref sl) (pure (n : Int))) Q E s := by
  obtain ⟨os, hos, hcs, hds⟩ := id hs
  unfold Builtin.Slice.sliceApplied Builtin.Slice.sliceFields
  refine wpAny_bind (wpAny_bind (wpAny_field hos hds (x := vl) rfl (wpAny_bind (wpAny_field hos hds (x := vu) rfl (wpAny_bind (wpAny_field hos hds (x := vs) rfl (wpAny_pure ?_)))))))
  refine wpAny_bind (slicePart_ ps ?_)
  show wpAny _ _ (if ((-1 : Int) == 0) = true then _ else _) _ _ s
  rw [if_neg (by decide)]
  refine wpAny_bind (slicePart_ pl (wpAny_bind (slicePart_ pu (wpAny_bind (wpAny_pure ?_)))))
  have e : Builtin.Slice.slicePlaces ((n : Int) - 1) (-1) (-1) = n := by
    unfold Builtin.Slice.slicePlaces
    rw [if_neg (by decide)]
    by_cases hn : n = 0
    · subst hn; rfl
    · rw [if_pos (by omega)]
      have : ((n : Int) - 1 - -1 - 1) / (- -1) + 1 = n := by
        rw [show (- -1 : Int) = 1 from rfl, Int.ediv_one]
        omega
      rw [this]
      rfl
  show wpAny _ _ (pure ((n : Int) - 1, (-1 : Int), Builtin.Slice.slicePlaces ((n : Int) - 1) (-1) (-1))) _ _ s
  rw [e]
  exact wpAny_pure h
theorem getItem_tuple_rev {t sl : Addr} {items : Array Value} {vl vu vs : Value} {Q : Value → Shared → Prop} (ht : IsTup s.heap t items) (hs : s.heap.IsSliceOf sl vl vu vs) (pl : IsPart vl none) (pu : IsPart vu none) (ps : IsPart vs (some (-1)))
    (h : Q (.ref s.heap.objs.size) { s with heap := s.heap.push { cls := .type "tuple", data := .seq items.toList.reverse.toArray } })
    (hsz : items.size ≤ sizeLine) : wpAny (model prog w) A (getItem (.ref t) (.ref sl)) Q E s := by
  have htake : sizeOk (.seq items.toList.reverse.toArray) := by
    show items.toList.reverse.toArray.size ≤ sizeLine
    simpa using hsz
  obtain ⟨os, hos, hcs, hds⟩ := id hs
  have hTs : s.TypeIs (.ref sl) "slice" := ⟨os, hos, hcs⟩
  unfold getItem
  try with_reducible refine wpAny_holding ?_
  first | refine wpAny_bind (wpAny_pure ?_) | skip
  refine wpAny_bind (wpAny_sequenceKey ht.typeIs (by decide) ?_)
  refine wpAny_bind (wpAny_callSpecial?_slot (name := Str.ofString "__getitem__") ht.typeIs PyProof.Rows.slot_tuple_getitem
    (wpAny_call_entry PyProof.Rows.slot_tuple_getitem ht.typeIs entry_tuple_getitem ?_ (args_tuple_getitem _ _)))
  show wpAny _ _ (Builtin.Tuple.tupleItemsOf (.ref t) >>= _) _ _ s
  refine wpAny_bind (tupleItemsOf_ ht ?_)
  refine wpAny_bind (wpAny_typeOf hTs ?_)
  rw [if_pos (by decide)]
  refine wpAny_bind (sliceApplied_rev hs pl pu ps ?_)
  have hno : ¬ (((items.size : Int) - 1 == 0 && (-1 : Int) == 1 && items.size == items.size) = true) := by
    simp
  show wpAny _ _ (if ((items.size : Int) - 1 == 0 && (-1 : Int) == 1 && items.size == items.size) = true then _ else _) _ _ s
  rw [if_neg hno]
  have ep : (List.filterMap (fun (k : Nat) => items[((items.size : Int) - 1 + (k : Int) * -1).toNat]?) (List.range items.size)).toArray = items.toList.reverse.toArray := by
    have e1 : ((List.range items.size).filterMap fun (k : Nat) => items[((items.size : Int) - 1 + (k : Int) * -1).toNat]?) = ((List.range items.size).map fun k => items.size - 1 - k).filterMap (items[·]?) := by
      rw [List.filterMap_map]
      refine congrArg (fun f => (List.range items.size).filterMap f) (funext fun k => ?_)
      show items[((items.size : Int) - 1 + (k : Int) * -1).toNat]? = items[items.size - 1 - k]?
      have : ((items.size : Int) - 1 + (k : Int) * -1).toNat = items.size - 1 - k := by omega
      rw [this]
    rw [e1, PySem.W.krv_range, List.filterMap_reverse, PySem.W.krv_all]
  rw [ep]
  first
    | exact wpAny_bind (m := Builtin.Tuple.tupleExact _) (wpAny_newObj_type (wpAny_pure ⟨_, rfl, wpAny_pure h⟩) htake)
    | exact wpAny_bind (m := Builtin.Tuple.tupleExact _) (wpAny_newObj_type (wpAny_bind (wpAny_pure (wpAny_pure ⟨_, rfl, wpAny_pure h⟩))) htake)
    | exact wpAny_bind (wpAny_bind (m := Builtin.Tuple.tupleExact _) (wpAny_newObj_type (wpAny_pure (wpAny_pure ⟨_, rfl, wpAny_pure h⟩)) htake))
    | exact wpAny_bind (wpAny_bind (m := Builtin.Tuple.tupleExact _) (wpAny_newObj_type (wpAny_pure ⟨_, rfl, wpAny_pure h⟩) htake))
end
/-- xs[::-1] of a list or a tuple -/
def tRevA (K : PySem.W.Frag) (te : TE) : TE := fun σ H Q => te σ H fun x H1 => ∃ a xs, x = .ref a ∧ ((SqL K H1 a xs ∧ ∀ p, H1 p = none → Q (.ref p) (upd H1 p (.lst xs.reverse))) ∨ (SqT K H1 a xs ∧ ∀ p, H1 p = none → Q (.ref p) (upd H1 p (.tup xs.reverse))))
theorem pe_revA {X : Cx} {e : Expr} {te : TE} {k : Nat} {p1 p2 p3 pos : Pos} (he : PE X e te) : PE X (.Subscript e (.Slice none none (some (.UnaryOp .USub (.Constant (.int 1) k p1) p2)) p3) pos) (tRevA X.K te) := by
  refine ⟨fun pins s σ H Q I h => ?_⟩
  refine Subscript_ (thn (he.run pins s σ H _ I h) fun v s1 ⟨x, H1, I1, r1, q1⟩ => ?_)
  obtain ⟨a, xs, ex, q⟩ := q1
  subst ex
  cases r1
  have hst : PO X (some (.UnaryOp .USub (.Constant (.int 1) k p1) p2)) (tPart (tUn (rU fun i => .int (-i)) (tC (.int 1)))) := po_some (pe_un un_neg pe_int)
  refine wpAny_Slice (thn (po_none.run pins s1 σ H1 (fun o H2 => o = none ∧ H2 = H1) I1 ⟨rfl, rfl⟩) fun vl s2 ⟨l, H2, I2, pl, el, e2⟩ => ?_)
  subst el e2
  refine thn (po_none.run pins s2 σ H2 (fun o H3 => o = none ∧ H3 = H2) I2 ⟨rfl, rfl⟩) fun vu s3 ⟨u, H3, I3, pu, eu, e3⟩ => ?_
  subst eu e3
  refine thn (hst.run pins s3 σ H3 (fun o H4 => o = some (-1) ∧ H4 = H3) I3 ⟨1, rfl, -1, rfl, rfl, rfl⟩) fun vs s4 ⟨o, H4, I4, ps, eo, e4⟩ => ?_
  subst eo e4
  have I5 : Inv X pins σ H4 { s4 with heap := s4.heap.push { cls := .type "slice", data := .fields #[vl, vu, vs] } } := I4.kept (t' := s4.toks) fun b ob q => Heap.get?_push_of_some _ q
  show wpAny (model X.prog X.w) X.A (subscriptTail e (.Slice none none (some (.UnaryOp .USub (.Constant (.int 1) k p1) p2)) p3) (.ref a) (.ref s4.heap.objs.size)) (EP X pins σ Q) X.xe { s4 with heap := s4.heap.push { cls := .type "slice", data := .fields #[vl, vu, vs] } }
  rcases q with ⟨hx, q⟩ | ⟨hx, q⟩
  · obtain ⟨its, r, ht, hz⟩ := I5.list hx
    have hlen := r.length
    refine tail_any (ops := [.ref a, .ref s4.heap.objs.size]) ht.isList.typeIs (PySem.slot_list_getitem.lookup) ?_ (by with_unfolding_all rfl)
    refine wpAny_getItem_list_slice ht.isList (Heap.IsSliceOf.new _ vl vu vs) pl pu ps (by decide) ?_ (by rw [List.size_toArray]; omega)
    rw [PySem.W.krv_pick]
    refine ⟨.ref _, _, I5.laid (t' := s4.toks) (o := .lst xs.reverse) (fun b ob q => Heap.get?_push_of_some _ q) (Nat.le_refl _) ?_, rfl, q _ (I5.hok.fresh (Nat.le_refl _))⟩
    exact ⟨by rw [List.length_reverse]; exact hz, _, 0, r.reverse, Heap.get?_push_size _ rfl⟩
  · obtain ⟨its, r, ht, hz⟩ := I5.tuple hx
    have hlen := r.length
    refine tail_any (ops := [.ref a, .ref s4.heap.objs.size]) ht.typeIs (PyProof.Rows.slot_tuple_getitem.lookup) ?_ (by with_unfolding_all rfl)
    refine getItem_tuple_rev ht (Heap.IsSliceOf.new _ vl vu vs) pl pu ps ?_ (by rw [List.size_toArray]; omega)
    refine ⟨.ref _, _, I5.laid (t' := s4.toks) (o := .tup xs.reverse) (fun b ob q => Heap.get?_push_of_some _ q) (Nat.le_refl _) ?_, rfl, q _ (I5.hok.fresh (Nat.le_refl _))⟩
    exact ⟨by rw [List.length_reverse]; omega, _, r.reverse, IsTup.new _ _⟩
def dRevA (t : TD) : TD := fun ε A => t ε fun r ε1 => match peek ε1 r with
  | some (.list xs) => A (.new xs.reverse) ε1
  | some (.tuple xs) => A (.d (.tuple xs.reverse)) ε1
  | _ => False
theorem dv_revA {X : Cx} {e : Expr} {t : TD} {k : Nat} {p1 p2 p3 pos : Pos} (he : DV X e t) : DV X (.Subscript e (.Slice none none (some (.UnaryOp .USub (.Constant (.int 1) k p1) p2)) p3) pos) (dRevA t) :=
  pe_w (pe_revA he) fun σ H Q ⟨c, G, ow, ε, A, R, h, kk⟩ => ⟨c, G, ow, ε, _, R, h, fun r ε1 G1 H1 ow1 v h1 F1 R1 V1 => by
    split at h1
    · rename_i xs e
      obtain ⟨p, vs, rfl, hs, ha⟩ := (peek_ok R1 V1 e).list R1.ex
      refine ⟨p, vs, rfl, .inl ⟨hs, fun q hq => ?_⟩⟩
      obtain ⟨G', ow', F4, R4, V4⟩ := res_fin R1 (.lst hq (dpa_rev ha))
      exact kk _ _ G' _ ow' _ h1 (F1.trans F4) R4 (V4.since F1.dom)
    · rename_i xs e
      obtain ⟨p, vs, rfl, hs, ha⟩ := (peek_ok R1 V1 e).tuple R1.ex
      refine ⟨p, vs, rfl, .inr ⟨hs, fun q hq => ?_⟩⟩
      obtain ⟨G', ow', F4, R4, V4⟩ := res_fin R1 (.tup hq (dpa_rev ha))
      exact kk _ _ G' _ ow' _ h1 (F1.trans F4) R4 (V4.since F1.dom)
    · exact h1.elim⟩
section
variable {K : PySem.W.Frag}
theorem od_ixA : OpD K (rIx K) kIxA := fun G H x y v1 v2 A Q e p1 p2 h k => by
  unfold kIxA at h
  split at h
  · exact od_ix G H _ _ v1 v2 A Q e p1 p2 h k
  · exact od_ix G H _ _ v1 v2 A Q e p1 p2 h k
  · obtain ⟨hz, h⟩ := h
    obtain ⟨c, hc, h⟩ := onO_get h
    exact .inr (.inr ⟨_, _, c, p1.str, p2.int, line_le hz, hc, k _ _ _ h (.val (.str _))⟩)
  · exact h.elim
end
def rSl3 (K : PySem.W.Frag) : V → Option Int → Option Int → Hp → VK → Prop := fun x lo hi H Q => rSlL K x lo hi H Q ∨ rSlA K x lo hi H Q ∨ rSlS x lo hi H Q
theorem sl_three {X : Cx} : SlR X (rSl3 X.K) := sl_list.or (sl_tupA.or sl_str)
def dSl (t : TD) (tl th : TDO) : TD := fun ε A => t ε fun r ε1 => tl ε1 fun l ε2 => th ε2 fun u ε3 => match peek ε3 r with
  | some x => kSl x l u fun r => A r ε3
  | _ => False
theorem dv_sl {X : Cx} {e : Expr} {lo hi : Option Expr} {t : TD} {tl th : TDO} {p2 pos : Pos} (he : DV X e t) (hl : DO X lo tl) (hh : DO X hi th) : DV X (.Subscript e (.Slice lo hi none p2) pos) (dSl t tl th) :=
  pe_w (pe_slice sl_three he hl hh) fun σ H Q ⟨c, G, ow, ε, A, R, h, kk⟩ => ⟨c, G, ow, ε, _, R, h, fun r ε1 G1 H1 ow1 v h1 F1 R1 V1 => ⟨c, G1, ow1, ε1, _, R1, h1, fun l ε2 G2 H2 ow2 h2 F2 R2 => ⟨c, G2, ow2, ε2, _, R2, h2, fun u ε3 G3 H3 ow3 h3 F3 R3 => by
    have F := (F1.trans F2).trans F3
    split at h3
    · rename_i x e
      have pk := peek_ok R3 (V1.fr (F2.trans F3)) e
      have fin : ∀ r v H', A r ε3 → Res X.K G3 H3 r v H' → Q v H' := fun r v H' hr hres => by
        obtain ⟨G', ow', F4, R4, V4⟩ := res_fin R3 hres
        exact kk _ _ G' _ ow' _ hr (F.trans F4) R4 (V4.since F.dom)
      unfold kSl at h3
      split at h3
      · obtain ⟨p, vs, rfl, hs, ha⟩ := pk.list R3.ex
        exact .inl ⟨p, vs, rfl, hs, fun q hq => fin _ _ _ h3 (.lst hq (cut_ok (lo := l) (hi := u) ha))⟩
      · rename_i xs
        obtain ⟨p, vs, rfl, hs, ha⟩ := pk.tuple R3.ex
        refine .inr (.inl ⟨p, vs, rfl, hs, fun hw => ?_, fun _ q hq => fin _ _ _ h3 (.tup hq (cut_ok (lo := l) (hi := u) ha))⟩)
        have ew : cutD xs l u = xs := by
          rw [dpa_len ha] at hw
          unfold cutD
          rw [hw.1, hw.2, List.drop_zero, Nat.sub_zero, List.take_length]
        rw [ew] at h3
        exact fin _ _ _ h3 (.val pk.tupD)
      · exact .inr (.inr ⟨_, pk.str, line_le h3.1, fin _ _ _ h3.2 (.val (.str _))⟩)
      · exact h3.elim
    · exact h3.elim⟩⟩⟩
/-! ### join, str of an int -/
def dJoin (ta tb : TD) : TD := fun ε A => ta ε fun r1 ε1 => tb ε1 fun r2 ε2 => match peek ε2 r1, peek ε2 r2 with
  | some (.str a), some (.list ys) => ∃ zs : List Str, ys = zs.map .str ∧ (zs.map (·.length)).sum + zs.length * a.length ≤ 16777216 ∧ A (.d (.str (Txt.join a zs))) ε2
  | some (.str a), some (.tuple ys) => ∃ zs : List Str, ys = zs.map .str ∧ (zs.map (·.length)).sum + zs.length * a.length ≤ 16777216 ∧ A (.d (.str (Txt.join a zs))) ε2
  | _, _ => False
theorem peek_str {K : PySem.W.Frag} {c : Ct} {Hs G H : Hp} {ow : Ow} {σ : L2.St} {ε : Ep} {r : Vl} {v : V} {a : Str} (R : Rep K c G H ow σ ε) (h : VOk K Hs G H ow σ r v) (e : peek ε r = some (.str a)) : v = .str a := (peek_ok R h e).str
/-- the text that is joined by: a constant -/
def dJoinC (a : Str) (tb : TD) : TD := fun ε A => tb ε fun r2 ε2 => match peek ε2 r2 with
  | some (.list ys) => ∃ zs : List Str, ys = zs.map .str ∧ (zs.map (·.length)).sum + zs.length * a.length ≤ 16777216 ∧ A (.d (.str (Txt.join a zs))) ε2
  | some (.tuple ys) => ∃ zs : List Str, ys = zs.map .str ∧ (zs.map (·.length)).sum + zs.length * a.length ≤ 16777216 ∧ A (.d (.str (Txt.join a zs))) ε2
  | _ => False
theorem dv_joinC {X : Cx} {a : Str} {e : Expr} {j : Nat} {t : TD} {p apos pos : Pos} (he : DV X e t) (hs : starEach [e] X.env = [(false, eval e X.env)] := by rfl)
    (hbase : attributeBase (.Constant (.str a) j p) "join" X.env (eval (.Constant (.str a) j p) X.env) = eval (.Constant (.str a) j p) X.env := by rfl) (hline : (apos.endLine == pos.line) = true := by rfl) :
    DV X (.Call (.Attribute (.Constant (.str a) j p) "join" apos) [e] [] pos) (dJoinC a t) :=
  pe_w (pe_join pe_str he hs hbase hline) fun σ H Q ⟨c, G, ow, ε, A, R, h, kk⟩ => ⟨⟨a, rfl⟩, c, G, ow, ε, _, R, h, fun r ε1 G1 H1 ow1 v h1 F1 R1 V1 => by
    split at h1
    · rename_i ys e
      obtain ⟨zs, rfl, hz, h1⟩ := h1
      obtain ⟨p, vs, rfl, hs, ha⟩ := (peek_ok R1 V1 e).list R1.ex
      cases dpa_strs zs ha
      exact ⟨a, p, zs, rfl, rfl, .inl hs, hz, kk _ _ _ _ _ _ h1 F1 R1 (.str _)⟩
    · rename_i ys e
      obtain ⟨zs, rfl, hz, h1⟩ := h1
      obtain ⟨p, vs, rfl, hs, ha⟩ := (peek_ok R1 V1 e).tuple R1.ex
      cases dpa_strs zs ha
      exact ⟨a, p, zs, rfl, rfl, .inr hs, hz, kk _ _ _ _ _ _ h1 F1 R1 (.str _)⟩
    · exact h1.elim⟩
def kStrI : List PyData → (Vl → Prop) → Prop := fun xs A => match xs with
  | [.int i] => i.natAbs.log2 < 1920 ∧ A (.d (.str (toString i)))
  | _ => False
theorem cd_strI {K : PySem.W.Frag} : CallD K (fun xs H Q => ∃ i, xs = [.int i] ∧ i.natAbs.log2 < 1920 ∧ Q (.str (toString i)) H) kStrI := fun G H xs vs A Q e p h k => by
  unfold kStrI at h
  split at h
  · obtain ⟨v, rfl, p1⟩ := pk1 p
    cases p1.int
    exact ⟨_, rfl, h.1, k _ _ _ h.2 (.val (.str _))⟩
  · exact h.elim
/-! ### a def's promise that is its own reading -/
theorem spD_imp {P : Program} {w : World} {K : PySem.W.Frag} {mg : Str → Option Value} {base : Heap} {CX : CXT} {k n : Nat} {f : Addr} {fd : FuncData} {ps : List Str} {S S' : DSp} (F : FnOk P w K mg base CX k f fd ps (spD K n S)) (h : ∀ qs A, S' qs A → S qs A) : FnOk P w K mg base CX k f fd ps (spD K n S') :=
  F.imp fun vs H Q E ⟨c, G, ow, qs, A, e, R, hl, hp, hS, kk⟩ => ⟨c, G, ow, qs, A, e, R, hl, hp, h _ _ hS, kk⟩
def ownSp (n m : Nat) (t : TDS) : DSp := fun qs A => qs.length = n ∧ t { nx := fun ε => A (.d .none) (fin n ε), rt := fun r ε => A r (fin n ε) } (qs ++ uns m)
theorem ownSp_len {n m : Nat} {t : TDS} (qs : List Sl) (A) (h : ownSp n m t qs A) : qs.length = n := h.1
end DL
namespace DL
open PySem PySem.Spec PyProof.Rows L2
/-! ### steps -/
section
variable {A : Vl → Ep → Prop} {V : Vl → Prop} {ε : Ep} {t u v : TD} {o1 o2 : TDO} {l1 l2 : Option Int} {z1 : Int} {xs ys : List PyData} {s1 s2 : Str} {D : DEnds} {s r : TDS}
theorem ap_revA : ev (dRevA t ε A) = ev (t ε fun r ε1 => match peek ε1 r with
  | some (.list xs) => A (.new xs.reverse) ε1
  | some (.tuple xs) => A (.d (.tuple xs.reverse)) ε1
  | _ => False) := id rfl
theorem ap_slA : ev (dSl t o1 o2 ε A) = ev (t ε fun r ε1 => o1 ε1 fun l ε2 => o2 ε2 fun u ε3 => match peek ε3 r with
  | some x => kSl x l u fun r => A r ε3
  | _ => False) := id rfl
theorem ap_joinC : ev (dJoinC s1 t ε A) = ev (t ε fun r2 ε2 => match peek ε2 r2 with
  | some (.list ys) => ∃ zs : List Str, ys = zs.map .str ∧ (zs.map (·.length)).sum + zs.length * s1.length ≤ 16777216 ∧ A (.d (.str (Txt.join s1 zs))) ε2
  | some (.tuple ys) => ∃ zs : List Str, ys = zs.map .str ∧ (zs.map (·.length)).sum + zs.length * s1.length ≤ 16777216 ∧ A (.d (.str (Txt.join s1 zs))) ε2
  | _ => False) := id rfl
theorem k_SlL : kSl (.list xs) l1 l2 V = V (.new (cutD xs l1 l2)) := id rfl
theorem k_SlT : kSl (.tuple xs) l1 l2 V = V (.d (.tuple (cutD xs l1 l2))) := id rfl
theorem k_SlS : kSl (.str s1) l1 l2 V = (s1.length ≤ 1000000 ∧ V (.d (.str (cutS s1 l1 l2)))) := id rfl
theorem k_CatS : kCatS (.str s1) (.str s2) V = (s1.length + s2.length ≤ 1000000 ∧ V (.d (.str (s1 ++ s2)))) := id rfl
theorem k_RepS : kRepS (.str s1) (.int z1) V = ((-1000 ≤ z1 ∧ z1 ≤ 1000 ∧ s1.length ≤ 1000) ∧ V (.d (.str (repS s1 z1.toNat)))) := id rfl
theorem k_AxL : kIxA (.list xs) (.int z1) V = onO (atI xs z1) fun d => V (.d d) := id rfl
theorem k_AxT : kIxA (.tuple xs) (.int z1) V = onO (atI xs z1) fun d => V (.d d) := id rfl
theorem k_AxS : kIxA (.str s1) (.int z1) V = (s1.length ≤ 1000000 ∧ onO (atI s1.cps.toList z1) fun c => V (.d (.str ⟨#[c]⟩))) := id rfl
theorem k_StrI : kStrI [.int z1] V = (z1.natAbs.log2 < 1920 ∧ V (.d (.str (toString z1)))) := id rfl
end
end DL
namespace DL
open PySem PySem.Spec PyProof.Rows L2
theorem FnOk_no {P : Program} {w : World} {K : PySem.W.Frag} {mg : Str → Option Value} {base : Heap} {CX : CXT} {k n : Nat} {f : Addr} {fd : FuncData} {ps : List Str} (_ : ps.length = n) : FnOk P w K mg base CX k f fd ps (spD K n fun _ _ => False) :=
  ⟨fun _ _ _ _ ⟨_, _, _, _, _, _, _, _, _, h, _⟩ => h.elim, fun _ _ _ _ _ _ _ _ _ _ _ _ _ ⟨_, _, _, _, _, _, _, _, _, h, _⟩ => h.elim⟩
end DL
namespace DL
open PySem PySem.Spec PyProof.Rows L2
/-! ### == [], == () -/
def rEqE (K : PySem.W.Frag) (f : Bool → Bool) : R2 := fun x y H Q => ∃ a b xs, x = .ref a ∧ y = .ref b ∧ ((SqL K H a xs ∧ SqL K H b []) ∨ (SqT K H a xs ∧ SqT K H b [])) ∧ Q (.bl (f xs.isEmpty)) H
section
variable {X : Cx}
theorem op_eqE (hu : X.A.units + 64 < cLine) : OpR X (compareOp .Eq) (rEqE X.K id) := by
  intro pins s σ H x y v u Q I rx ry h
  obtain ⟨a, b, xs, rfl, rfl, hh, q⟩ := h
  cases rx
  cases ry
  have hu' : X.A.units < cLine := by omega
  rcases hh with ⟨h1, h2⟩ | ⟨h1, h2⟩
  · obtain ⟨its, r1, p1, _⟩ := I.list h1
    obtain ⟨its2, r2, p2, _⟩ := I.list h2
    have e2 := r2.length
    have e1 := r1.length
    by_cases hz : xs = []
    · subst hz
      have hz1 : its.toArray.size = its2.toArray.size := by simp only [List.size_toArray]; omega
      have R := SeqAt.RcAt.lists (A := X.A) (e := fun _ => true) p1.isList p2.isList hz1 hu' (fun j h1 _ => by simp only [List.size_toArray] at h1; rw [← e1] at h1; exact absurd h1 (Nat.not_lt_zero _))
      have ee : ((List.range its.toArray.size).all fun _ => true) = true := by simp
      rw [ee] at R
      exact R X.prog X.w X.xe _ ⟨.bl true, H, I, rfl, q⟩
    · have hz1 : (its.toArray.size != its2.toArray.size) = true := by
        have : xs.length ≠ 0 := fun e => hz (List.length_eq_zero_iff.mp e)
        simp only [List.size_toArray, bne_iff_ne, ne_eq]
        rw [← e1, ← e2]
        exact this
      have ee : xs.isEmpty = false := by cases xs with
        | nil => exact absurd rfl hz
        | cons _ _ => rfl
      rw [ee] at q
      exact SeqAt.RcAt.lists_lengths (A := X.A) p1.isList p2.isList hz1 hu' X.prog X.w X.xe _ ⟨.bl false, H, I, rfl, q⟩
  · obtain ⟨its, r1, p1, _⟩ := I.tuple h1
    obtain ⟨its2, r2, p2, _⟩ := I.tuple h2
    have e2 := r2.length
    have e1 := r1.length
    have z2 : its2 = [] := List.length_eq_zero_iff.mp (by rw [← e2]; rfl)
    subst z2
    have R := SeqAt.RcAt.tuples (A := X.A) (e := fun _ => true) p1 p2 hu' (fun j _ h2 => by simp at h2)
    have ee : ((List.range (min its.toArray.size ([] : List Value).toArray.size)).all (fun _ => true) && its.toArray.size == ([] : List Value).toArray.size) = xs.isEmpty := by
      cases xs with
      | nil =>
        have : its = [] := List.length_eq_zero_iff.mp (by rw [← e1]; rfl)
        subst this
        simp
      | cons z zs =>
        have : its.length ≠ 0 := by rw [← e1]; simp
        simp
        intro e
        subst e
        simp at this
    rw [ee] at R
    exact R X.prog X.w X.xe _ ⟨.bl _, H, I, rfl, q⟩
theorem op_neE (hu : X.A.units + 64 < cLine) : OpR X (compareOp .NotEq) (rEqE X.K (!·)) := by
  intro pins s σ H x y v u Q I rx ry h
  obtain ⟨a, b, xs, rfl, rfl, hh, q⟩ := h
  cases rx
  cases ry
  have hu' : X.A.units < cLine := by omega
  rcases hh with ⟨h1, h2⟩ | ⟨h1, h2⟩
  · obtain ⟨its, r1, p1, _⟩ := I.list h1
    obtain ⟨its2, r2, p2, _⟩ := I.list h2
    have e2 := r2.length
    have e1 := r1.length
    by_cases hz : xs = []
    · subst hz
      have hz1 : its.toArray.size = its2.toArray.size := by simp only [List.size_toArray]; omega
      have R := SeqAt.RcNeAt.lists (A := X.A) (e := fun _ => true) p1.isList p2.isList hz1 hu' (fun j h1 _ => by simp only [List.size_toArray] at h1; rw [← e1] at h1; exact absurd h1 (Nat.not_lt_zero _))
      have ee : ((List.range its.toArray.size).all fun _ => true) = true := by simp
      rw [ee] at R
      exact R X.prog X.w X.xe _ ⟨.bl false, H, I, rfl, q⟩
    · have hz1 : (its.toArray.size != its2.toArray.size) = true := by
        have : xs.length ≠ 0 := fun e => hz (List.length_eq_zero_iff.mp e)
        simp only [List.size_toArray, bne_iff_ne, ne_eq]
        rw [← e1, ← e2]
        exact this
      have ee : xs.isEmpty = false := by cases xs with
        | nil => exact absurd rfl hz
        | cons _ _ => rfl
      rw [ee] at q
      exact SeqAt.RcNeAt.lists_lengths (A := X.A) p1.isList p2.isList hz1 hu' X.prog X.w X.xe _ ⟨.bl true, H, I, rfl, q⟩
  · obtain ⟨its, r1, p1, _⟩ := I.tuple h1
    obtain ⟨its2, r2, p2, _⟩ := I.tuple h2
    have e2 := r2.length
    have e1 := r1.length
    have z2 : its2 = [] := List.length_eq_zero_iff.mp (by rw [← e2]; rfl)
    subst z2
    have R := SeqAt.RcNeAt.tuples (A := X.A) (e := fun _ => true) p1 p2 hu' (fun j _ h2 => by simp at h2)
    have ee : (!((List.range (min its.toArray.size ([] : List Value).toArray.size)).all (fun _ => true) && its.toArray.size == ([] : List Value).toArray.size)) = !xs.isEmpty := by
      cases xs with
      | nil =>
        have : its = [] := List.length_eq_zero_iff.mp (by rw [← e1]; rfl)
        subst this
        simp
      | cons z zs =>
        have : its.length ≠ 0 := by rw [← e1]; simp
        simp
        intro e
        subst e
        simp at this
    rw [ee] at R
    exact R X.prog X.w X.xe _ ⟨.bl _, H, I, rfl, q⟩
end
def kEqA (f : Bool → Bool) : PyData → PyData → (Vl → Prop) → Prop := fun x y A => match x, y with
  | .list xs, .list [] => A (.d (.bool (f xs.isEmpty)))
  | .tuple xs, .tuple [] => A (.d (.bool (f xs.isEmpty)))
  | x, y => SeqAt.shaped x = true ∧ SeqAt.shaped y = true ∧ A (.d (.bool (f (PyData.eqv x y))))
theorem od_eqA {K : PySem.W.Frag} : OpD K (fun x y H Q => rEqE K id x y H Q ∨ rEqD K x y H Q) (kEqA id) := fun G H x y v1 v2 A Q e p1 p2 h k => by
  unfold kEqA at h
  split at h
  · obtain ⟨p, vs, rfl, hs, ha⟩ := p1.list e
    obtain ⟨q, us, rfl, hs2, ha2⟩ := p2.list e
    cases ha2
    refine .inl ⟨p, q, vs, rfl, rfl, .inl ⟨hs, hs2⟩, k _ _ _ h ?_⟩
    rename_i xs
    have : vs.isEmpty = xs.isEmpty := by cases ha <;> rfl
    rw [this]
    exact .val (.bl _)
  · obtain ⟨p, vs, rfl, hs, ha⟩ := p1.tuple e
    obtain ⟨q, us, rfl, hs2, ha2⟩ := p2.tuple e
    cases ha2
    refine .inl ⟨p, q, vs, rfl, rfl, .inr ⟨hs, hs2⟩, k _ _ _ h ?_⟩
    rename_i xs
    have : vs.isEmpty = xs.isEmpty := by cases ha <;> rfl
    rw [this]
    exact .val (.bl _)
  · exact .inr (od_eq G H _ _ v1 v2 A Q e p1 p2 h k)
theorem od_neA {K : PySem.W.Frag} : OpD K (fun x y H Q => rEqE K (!·) x y H Q ∨ rNeD K x y H Q) (kEqA (!·)) := fun G H x y v1 v2 A Q e p1 p2 h k => by
  unfold kEqA at h
  split at h
  · obtain ⟨p, vs, rfl, hs, ha⟩ := p1.list e
    obtain ⟨q, us, rfl, hs2, ha2⟩ := p2.list e
    cases ha2
    refine .inl ⟨p, q, vs, rfl, rfl, .inl ⟨hs, hs2⟩, k _ _ _ h ?_⟩
    rename_i xs
    have : vs.isEmpty = xs.isEmpty := by cases ha <;> rfl
    rw [this]
    exact .val (.bl _)
  · obtain ⟨p, vs, rfl, hs, ha⟩ := p1.tuple e
    obtain ⟨q, us, rfl, hs2, ha2⟩ := p2.tuple e
    cases ha2
    refine .inl ⟨p, q, vs, rfl, rfl, .inr ⟨hs, hs2⟩, k _ _ _ h ?_⟩
    rename_i xs
    have : vs.isEmpty = xs.isEmpty := by cases ha <;> rfl
    rw [this]
    exact .val (.bl _)
  · exact .inr (od_ne G H _ _ v1 v2 A Q e p1 p2 h k)
theorem op_eqA {X : Cx} (hu : X.A.units + 64 < cLine) : OpR X (compareOp .Eq) (fun x y H Q => rEqE X.K id x y H Q ∨ rEqD X.K x y H Q) := (op_eqE hu).or (op_eqD hu)
theorem op_neA {X : Cx} (hu : X.A.units + 64 < cLine) : OpR X (compareOp .NotEq) (fun x y H Q => rEqE X.K (!·) x y H Q ∨ rNeD X.K x y H Q) := (op_neE hu).or (op_neD hu)
section
variable {V : Vl → Prop} {xs ys : List PyData} {x y : PyData} {f : Bool → Bool} {b : Bool} {i : Int} {s : Str}
theorem k_EqL0 : kEqA f (.list xs) (.list []) V = V (.d (.bool (f xs.isEmpty))) := rfl
theorem k_EqT0 : kEqA f (.tuple xs) (.tuple []) V = V (.d (.bool (f xs.isEmpty))) := rfl
theorem k_EqLT : kEqA f (.list xs) (.tuple ys) V = (SeqAt.shaped (.list xs) = true ∧ SeqAt.shaped (.tuple ys) = true ∧ V (.d (.bool (f (PyData.eqv (.list xs) (.tuple ys)))))) := rfl
theorem k_EqTL : kEqA f (.tuple xs) (.list ys) V = (SeqAt.shaped (.tuple xs) = true ∧ SeqAt.shaped (.list ys) = true ∧ V (.d (.bool (f (PyData.eqv (.tuple xs) (.list ys)))))) := rfl
theorem k_EqI : kEqA f x (.int i) V = (SeqAt.shaped x = true ∧ SeqAt.shaped (.int i) = true ∧ V (.d (.bool (f (PyData.eqv x (.int i)))))) := by cases x <;> rfl
theorem k_EqB : kEqA f x (.bool b) V = (SeqAt.shaped x = true ∧ SeqAt.shaped (.bool b) = true ∧ V (.d (.bool (f (PyData.eqv x (.bool b)))))) := by cases x <;> rfl
theorem k_EqS : kEqA f x (.str s) V = (SeqAt.shaped x = true ∧ SeqAt.shaped (.str s) = true ∧ V (.d (.bool (f (PyData.eqv x (.str s)))))) := by cases x <;> rfl
theorem k_EqN : kEqA f x .none V = (SeqAt.shaped x = true ∧ SeqAt.shaped .none = true ∧ V (.d (.bool (f (PyData.eqv x .none))))) := by cases x <;> rfl
theorem k_EqLc : kEqA f (.list xs) (.list (y :: ys)) V = (SeqAt.shaped (.list xs) = true ∧ SeqAt.shaped (.list (y :: ys)) = true ∧ V (.d (.bool (f (PyData.eqv (.list xs) (.list (y :: ys))))))) := rfl
theorem k_EqTc : kEqA f (.tuple xs) (.tuple (y :: ys)) V = (SeqAt.shaped (.tuple xs) = true ∧ SeqAt.shaped (.tuple (y :: ys)) = true ∧ V (.d (.bool (f (PyData.eqv (.tuple xs) (.tuple (y :: ys))))))) := rfl
theorem k_EqG (h1 : SeqAt.shaped x = true) (h2 : SeqAt.shaped y = true) (h : V (.d (.bool (f (PyData.eqv x y))))) : kEqA f x y V := by
  unfold kEqA
  split
  · rename_i xs
    have : PyData.eqv (.list xs) (.list []) = xs.isEmpty := by cases xs <;> simp [PyData.eqv, PyData.eqvAll]
    rw [← this]
    exact h
  · rename_i xs
    have : PyData.eqv (.tuple xs) (.tuple []) = xs.isEmpty := by cases xs <;> simp [PyData.eqv, PyData.eqvAll]
    rw [← this]
    exact h
  · exact ⟨h1, h2, h⟩
end
end DL
namespace DL
open PySem PySem.Spec PyProof.Rows L2
/-! ### a + b, a * b of any -/
def kAdd : PyData → PyData → (Vl → Prop) → Prop := fun x y A => match x, y with
  | .int i, .int j => A (.d (.int (i + j)))
  | .list xs, .list ys => xs.length + ys.length ≤ 1000000 ∧ A (.new (xs ++ ys))
  | .tuple xs, .tuple ys => xs.length + ys.length ≤ 1000000 ∧ A (.d (.tuple (xs ++ ys)))
  | .str a, .str b => a.length + b.length ≤ 1000000 ∧ A (.d (.str (a ++ b)))
  | _, _ => False
def rAdd (K : PySem.W.Frag) : R2 := fun x y H Q => (rI0 fun i j => .int (i + j)) x y H Q ∨ rCatR K x y H Q ∨ rCatA K x y H Q ∨ (∃ i j, x = .str i ∧ y = .str j ∧ i.length + j.length ≤ sizeLine ∧ Q (.str (i ++ j)) H)
theorem op_addA {X : Cx} : OpR X (binaryOp .Add) (rAdd X.K) := op_add.or (op_catR.or (op_catA.or op_add_str))
theorem od_addA {K : PySem.W.Frag} : OpD K (rAdd K) kAdd := fun G H x y v1 v2 A Q e p1 p2 h k => by
  unfold kAdd at h
  split at h
  · exact .inl (od_I0 _ G H _ _ v1 v2 A Q e p1 p2 h k)
  · exact .inr (.inl (od_cat G H _ _ v1 v2 A Q e p1 p2 h k))
  · exact .inr (.inr (.inl (od_catT G H _ _ v1 v2 A Q e p1 p2 h k)))
  · exact .inr (.inr (.inr (od_catS G H _ _ v1 v2 A Q e p1 p2 h k)))
  · exact h.elim
def kMul : PyData → PyData → (Vl → Prop) → Prop := fun x y A => match x, y with
  | .int i, .int j => CMul i j ∧ A (.d (.int (i * j)))
  | .list xs, .int k => (-(2 ^ 63) ≤ k ∧ k < 2 ^ 63 ∧ xs.length * k.toNat ≤ 1000000) ∧ A (.new (List.replicate k.toNat xs).flatten)
  | .str a, .int k => (-1000 ≤ k ∧ k ≤ 1000 ∧ a.length ≤ 1000) ∧ A (.d (.str (repS a k.toNat)))
  | _, _ => False
def rMul (K : PySem.W.Frag) : R2 := fun x y H Q => (rI CMul fun i j => .int (i * j)) x y H Q ∨ rRepR K x y H Q ∨ rRepS x y H Q
theorem op_mulA {X : Cx} : OpR X (binaryOp .Mult) (rMul X.K) := op_mul.or (op_repR.or op_repS)
theorem od_mulA {K : PySem.W.Frag} : OpD K (rMul K) kMul := fun G H x y v1 v2 A Q e p1 p2 h k => by
  unfold kMul at h
  split at h
  · exact .inl (od_I _ _ G H _ _ v1 v2 A Q e p1 p2 h k)
  · exact .inr (.inl (od_rep G H _ _ v1 v2 A Q e p1 p2 h k))
  · exact .inr (.inr (od_repS G H _ _ v1 v2 A Q e p1 p2 h k))
  · exact h.elim
/-! ### a walk over a list, a tuple, a text -/
def iAny (K : PySem.W.Frag) (te : TE) : TI := fun σ H R => te σ H fun x H1 => (∃ a xs, x = .ref a ∧ SqL K H1 a xs ∧ R (Itl K a) H1) ∨ (∃ a xs, x = .ref a ∧ SqT K H1 a xs ∧ R (Itt K a) H1) ∨ (∃ z, x = .str z ∧ R (Its z) H1)
theorem pi_any {X : Cx} {tg e : Expr} {te : TE} (he : PE X e te) : PI X tg e (iAny X.K te) := by
  refine ⟨fun pins s σ H R I h => ?_⟩
  refine thn (he.run pins s σ H _ I h) fun v s1 ⟨y, H1, I1, r1, q1⟩ => ?_
  rcases q1 with ⟨a, xs, e, hq, q⟩ | ⟨a, xs, e, hq, q⟩ | ⟨x, ex, q⟩
  · subst e
    cases r1
    obtain ⟨its, rv, p, hz⟩ := I1.list hq
    refine wpAny_pyIter_list p.isList ?_
    refine ⟨s1.heap.objs.size, [s1.heap.objs.size], _, _, H1, rfl, I1.kept (t' := s1.toks) fun b o e => Heap.get?_push_of_some _ e, turn_list a _, ⟨_, Heap.get?_push_size _ rfl, rfl, rfl⟩, fun b hb => ?_, q⟩
    have e : b = s1.heap.objs.size := by simpa using hb
    subst e
    exact I1.fpOk (Nat.le_refl _) (I1.hok.fresh (Nat.le_refl _))
  · subst e
    cases r1
    obtain ⟨its, rv, p, hz⟩ := I1.tuple hq
    refine wpAny_pyIter_tuple (show s1.heap.IsTuple a its.toArray from p) ?_
    refine ⟨s1.heap.objs.size, [s1.heap.objs.size], _, _, H1, rfl, I1.kept (t' := s1.toks) fun b o e => Heap.get?_push_of_some _ e, turn_tuple a _, ⟨_, Heap.get?_push_size _ rfl, rfl, rfl⟩, fun b hb => ?_, q⟩
    have e : b = s1.heap.objs.size := by simpa using hb
    subst e
    exact I1.fpOk (Nat.le_refl _) (I1.hok.fresh (Nat.le_refl _))
  · subst ex
    obtain ⟨t, rfl⟩ := r1
    cases ha : x.cps.all (· < 128)
    · exact wpAny_pyIter_wide ha (pi_one (tk := s1.toks) I1 _ (turn_str _ x t "str_iterator" (.inr rfl)) ⟨_, Heap.get?_push_size _ rfl, rfl, rfl⟩ q)
    · exact wpAny_pyIter_ascii ha (pi_one (tk := s1.toks) I1 _ (turn_str _ x t "str_ascii_iterator" (.inl rfl)) ⟨_, Heap.get?_push_size _ rfl, rfl, rfl⟩ q)
/-- what is walked over -/
def itsOf : PyData → Option (List PyData)
  | .list ds => some ds
  | .tuple ds => some ds
  | .str s => some (signs s)
  | _ => none
/-- the walk goes along the items -/
theorem its_core {K : PySem.W.Frag} {G H : Hp} {x : PyData} {ds : List PyData} {v : V} (e : Same G H) (d : Dd K G v x) (h : itsOf x = some ds) :
    ∃ J : It, ((∃ a xs, v = .ref a ∧ SqL K H a xs ∧ J = Itl K a) ∨ (∃ a xs, v = .ref a ∧ SqT K H a xs ∧ J = Itt K a) ∨ (∃ z, v = .str z ∧ J = Its z)) ∧
      (∀ (i : Nat) (y : PyData) (G' H' : Hp), ds[i]? = some y → Same G G' → Same G' H' → J.go i H' ∧ ∀ u H2, J.yld i H' u H2 → H2 = H' ∧ Dd K G' u y) ∧ ∀ (G' H' : Hp), Same G G' → Same G' H' → J.stop ds.length H' := by
  cases x with
  | list ds' =>
    cases h
    cases d with
    | lst hs ha =>
      rename_i a us
      refine ⟨Itl K a, .inl ⟨a, us, rfl, e.seq hs, rfl⟩, fun i y G' H' hy s1 s2 => ?_, fun G' H' s1 s2 => ⟨us, s2.seq (s1.seq hs), by rw [dpa_len ha]; exact Nat.le_refl _⟩⟩
      obtain ⟨u, hu, du⟩ := dpa_get ha hy
      have hS : SqL K H' a us := s2.seq (s1.seq hs)
      refine ⟨⟨us, u, hS, hu⟩, fun y' H2 hy' => ⟨hy'.1, ?_⟩⟩
      have e' := hy'.2 us hS
      rw [hu] at e'
      cases e'
      exact dp_ex s1 _ du
  | tuple ds' =>
    cases h
    cases d with
    | tup hs ha =>
      rename_i a us
      refine ⟨Itt K a, .inr (.inl ⟨a, us, rfl, seqT e hs, rfl⟩), fun i y G' H' hy s1 s2 => ?_, fun G' H' s1 s2 => ⟨us, seqT s2 (seqT s1 hs), by rw [dpa_len ha]; exact Nat.le_refl _⟩⟩
      obtain ⟨u, hu, du⟩ := dpa_get ha hy
      have hS : SqT K H' a us := seqT s2 (seqT s1 hs)
      refine ⟨⟨us, u, hS, hu⟩, fun y' H2 hy' => ⟨hy'.1, ?_⟩⟩
      have e' := hy'.2 us hS
      rw [hu] at e'
      cases e'
      exact dp_ex s1 _ du
  | str s =>
    cases h
    cases d
    have hl : (signs s).length = s.cps.size := by simp [signs]
    refine ⟨Its s, .inr (.inr ⟨s, rfl, rfl⟩), fun i y G' H' hy s1 s2 => ?_, fun G' H' s1 s2 => by rw [hl]; exact Nat.le_refl _⟩
    have hi : i < s.cps.size := by
      rw [← hl]
      exact (List.getElem?_eq_some_iff.mp hy).1
    refine ⟨hi, fun y' H2 hy' => ⟨hy'.1, ?_⟩⟩
    obtain ⟨c, hc, rfl⟩ := hy'.2
    have ex : y = .str ⟨#[c]⟩ := by
      unfold signs at hy
      rw [List.getElem?_map, Array.getElem?_toList, hc] at hy
      exact (Option.some.inj hy).symm
    subst ex
    exact .str _
  | _ => cases h
def sForA (t : TD) (g : TDG) (b : TDS) : TDS := fun A ε => t ε fun r ε1 => match frz ε1 r with
  | some (x, ε2) => onO (itsOf x) fun ds => forGo noI g b A ds ε2
  | _ => False
theorem ds_forA {X : Cx} {te : TD} {pos : Pos} {iter tg : Expr} {body : List Stmt} {g : TDG} {ws : List Nat} {tb : TDS} (hp : PassesOwn (model X.prog X.w) X.A X.env X.xe) (hc : X.calm = true) (hi : DV X iter te) (hg : DG X tg ws g) (hb : DSs X body tb) (hs : ∀ x, foldedSetIterable iter X.env x = pure x := by intro _; rfl) : DS X (.For tg iter body [] pos) (sForA te g tb) :=
  ps_w (ps_for hp hc (pi_any hi) hg hb hs) fun D σ H ⟨c, G, ow, ε, A, R, h, k1, k2, k3, k4⟩ => ⟨c, G, ow, ε, _, R, h, fun r ε1 G1 H1 ow1 v h1 F1 R1 V1 => by
    cases q : frz ε1 r with
    | none => simp only [q] at h1
    | some z =>
      obtain ⟨x, ε2⟩ := z
      obtain ⟨G2, F2, sg, R2, d⟩ := frz_ok F1 R1 V1 q
      simp only [q] at h1
      obtain ⟨ds, hds, h1⟩ := onO_get h1
      obtain ⟨J, hJ, j1, j2⟩ := its_core R2.ex d hds
      have core := for_core (J := J) (ws := ws) R2 F2 h1 (fun i x H' G' ow' σ' ε' hx _ f1 r1 => j1 i x G' H' hx f1.ex r1.ex) (fun H' G' ow' σ' ε' _ f1 r1 => j2 G' H' f1.ex r1.ex) k1 k2
      rcases hJ with ⟨a, us, e1, e2, rfl⟩ | ⟨a, us, e1, e2, rfl⟩ | ⟨z, e1, rfl⟩
      · exact .inl ⟨a, us, e1, e2, core⟩
      · exact .inr (.inl ⟨a, us, e1, e2, core⟩)
      · exact .inr (.inr ⟨z, e1, core⟩)⟩
def dLcA (t : TD) (g : TDG) (tt : TDT) (te : TD) (vs : List Nat) : TD := fun ε A => t ε fun r ε1 => match frz ε1 r with
  | some (x, ε2) => onO (itsOf x) fun ds => lcGo noI g tt te vs (fun acc ε' => A (.new acc) (rstE ε2 ε' vs)) ds [] (wipeE ε2 vs)
  | _ => False
theorem lcA_rd {K : PySem.W.Frag} {t : TD} {g : TDG} {tt : TDT} {te : TD} {ws vs : List Nat} {σ : L2.St} {H : Hp} {Q : VK} (hws : ∀ j ∈ ws, j ∈ vs) (h : rdV K (dLcA t g tt te vs) σ H Q) : tLc (iAny K (rdV K t)) (rdG K ws g) (rdT K tt) (rdV K te) vs σ H Q := by
  obtain ⟨c, G, ow, ε, A, R, h, kk⟩ := h
  refine ⟨c, G, ow, ε, _, R, h, fun r ε1 G1 H1 ow1 v h1 F1 R1 V1 => ?_⟩
  cases q : frz ε1 r with
  | none => simp only [q] at h1
  | some z =>
    obtain ⟨x, ε2⟩ := z
    obtain ⟨G2, F2, sg, R2, d⟩ := frz_ok F1 R1 V1 q
    simp only [q] at h1
    obtain ⟨ds, hds, h1⟩ := onO_get h1
    obtain ⟨J, hJ, j1, j2⟩ := its_core R2.ex d hds
    have core := lc_core (J := J) hws (Q := Q) R2 F2 h1 (fun i x H' G' ow' ε' hx _ f1 r1 => j1 i x G' H' hx f1.ex r1.ex) (fun H' G' ow' ε' _ f1 r1 => j2 G' H' f1.ex r1.ex) fun acc ε' G' H' ow' v q F R V => kk _ _ G' H' ow' v q F R V
    rcases hJ with ⟨a, us, e1, e2, rfl⟩ | ⟨a, us, e1, e2, rfl⟩ | ⟨z, e1, rfl⟩
    · exact .inl ⟨a, us, e1, e2, core⟩
    · exact .inr (.inl ⟨a, us, e1, e2, core⟩)
    · exact .inr (.inr ⟨z, e1, core⟩)
section
variable {X : Cx} {elt tg iter : Expr} {ifs : List Expr} {scope : Scope} {own : List (Str × Nat)} {pos spos py : Pos} {t : TD} {g : TDG} {tt : TDT} {te : TD} {ws : List Nat} {i : Nat} {y : Str}
theorem dv_lcA (hc : X.calm = true) (hN : X.N.Nodup) (hi : DV X iter t) (b : Blk X tg ifs elt scope own ws g tt te) (hs : ∀ x, foldedSetIterable iter X.env x = pure x := by intro _; rfl) : DV X (.ListComp elt [⟨tg, iter, ifs, 0⟩] scope pos) (dLcA t g tt te (own.map (·.2))) :=
  pe_w (pe_lc hc hN (pi_any hi) b.ok b.tgt b.tst b.elt hs) fun _ _ _ h => lcA_rd b.sub h
theorem ds_lcA (hc : X.calm = true) (hN : X.N.Nodup) (hy : X.N[i]? = some y) (hyl : X.env.scope.names.lookup y = some .local) (hsw : swapsWith (.ListComp elt [⟨tg, iter, ifs, 0⟩] scope pos) (some (.Name y py)) spos.line X.env = pure true)
    (hi : DV X iter t) (b : Blk X tg ifs elt scope own ws g tt te) (hs : ∀ x, foldedSetIterable iter X.env x = pure x := by intro _; rfl) : DS X (.Assign [.Name y py] (.ListComp elt [⟨tg, iter, ifs, 0⟩] scope pos) spos) (sSet i (dLcA t g tt te (own.map (·.2)))) :=
  ps_wl (ps_setLc hc hN hy hyl hsw (pi_any hi) b.ok b.tgt b.tst b.elt hs) fun _ _ _ hl h => setlc_rd (fun _ => lcA_rd b.sub) (by rw [hl]; exact (List.getElem?_eq_some_iff.mp hy).1) h
end
section
variable {A : Vl → Ep → Prop} {V : Vl → Prop} {ε : Ep} {t u v : TD} {g : TDG} {p : TDT} {vs : List Nat} {z1 z2 : Int} {xs ys : List PyData} {s1 s2 : Str} {D : DEnds} {s r : TDS}
theorem ap_forA : ev (sForA t g s D ε) = ev (t ε fun r ε1 => match frz ε1 r with
  | some (x, ε2) => onO (itsOf x) fun ds => forGo noI g s D ds ε2
  | _ => False) := rfl
theorem ap_lcA : ev (dLcA t g p u vs ε A) = ev (t ε fun r ε1 => match frz ε1 r with
  | some (x, ε2) => onO (itsOf x) fun ds => lcGo noI g p u vs (fun acc ε' => A (.new acc) (rstE ε2 ε' vs)) ds [] (wipeE ε2 vs)
  | _ => False) := rfl
theorem it_L : itsOf (.list xs) = some xs := rfl
theorem it_T : itsOf (.tuple xs) = some xs := rfl
theorem it_S : itsOf (.str s1) = some (signs s1) := rfl
theorem k_AdI : kAdd (.int z1) (.int z2) V = V (.d (.int (z1 + z2))) := rfl
theorem k_AdL : kAdd (.list xs) (.list ys) V = (xs.length + ys.length ≤ 1000000 ∧ V (.new (xs ++ ys))) := rfl
theorem k_AdT : kAdd (.tuple xs) (.tuple ys) V = (xs.length + ys.length ≤ 1000000 ∧ V (.d (.tuple (xs ++ ys)))) := rfl
theorem k_AdS : kAdd (.str s1) (.str s2) V = (s1.length + s2.length ≤ 1000000 ∧ V (.d (.str (s1 ++ s2)))) := rfl
theorem k_MuI : kMul (.int z1) (.int z2) V = (CMul z1 z2 ∧ V (.d (.int (z1 * z2)))) := rfl
theorem k_MuL : kMul (.list xs) (.int z2) V = ((-(2 ^ 63) ≤ z2 ∧ z2 < 2 ^ 63 ∧ xs.length * z2.toNat ≤ 1000000) ∧ V (.new (List.replicate z2.toNat xs).flatten)) := rfl
theorem k_MuS : kMul (.str s1) (.int z2) V = ((-1000 ≤ z2 ∧ z2 ≤ 1000 ∧ s1.length ≤ 1000) ∧ V (.d (.str (repS s1 z2.toNat)))) := rfl
end
end DL
namespace DL
open PySem PySem.Spec PyProof.Rows L2
/-! ### what a thing is, step by step -/
theorem isN_none : DL.isN .none = true := rfl
theorem isN_bool (b : Bool) : DL.isN (.bool b) = false := rfl
theorem isN_int (i : Int) : DL.isN (.int i) = false := rfl
theorem isN_str (s : Str) : DL.isN (.str s) = false := rfl
theorem isN_list (xs : List PyData) : DL.isN (.list xs) = false := rfl
theorem isN_tuple (xs : List PyData) : DL.isN (.tuple xs) = false := rfl
theorem isN_dict (kvs : List (PyData × PyData)) : DL.isN (.dict kvs) = false := rfl
theorem isTup_none : DL.isTup .none = false := rfl
theorem isTup_bool (b : Bool) : DL.isTup (.bool b) = false := rfl
theorem isTup_int (i : Int) : DL.isTup (.int i) = false := rfl
theorem isTup_str (s : Str) : DL.isTup (.str s) = false := rfl
theorem isTup_list (xs : List PyData) : DL.isTup (.list xs) = false := rfl
theorem isTup_tuple (xs : List PyData) : DL.isTup (.tuple xs) = true := rfl
theorem isTup_dict (kvs : List (PyData × PyData)) : DL.isTup (.dict kvs) = false := rfl
theorem isLst_none : DL.isLst .none = false := rfl
theorem isLst_bool (b : Bool) : DL.isLst (.bool b) = false := rfl
theorem isLst_int (i : Int) : DL.isLst (.int i) = false := rfl
theorem isLst_str (s : Str) : DL.isLst (.str s) = false := rfl
theorem isLst_list (xs : List PyData) : DL.isLst (.list xs) = true := rfl
theorem isLst_tuple (xs : List PyData) : DL.isLst (.tuple xs) = false := rfl
theorem isLst_dict (kvs : List (PyData × PyData)) : DL.isLst (.dict kvs) = false := rfl
theorem isStr_none : DL.isStr .none = false := rfl
theorem isStr_bool (b : Bool) : DL.isStr (.bool b) = false := rfl
theorem isStr_int (i : Int) : DL.isStr (.int i) = false := rfl
theorem isStr_str (s : Str) : DL.isStr (.str s) = true := rfl
theorem isStr_list (xs : List PyData) : DL.isStr (.list xs) = false := rfl
theorem isStr_tuple (xs : List PyData) : DL.isStr (.tuple xs) = false := rfl
theorem isStr_dict (kvs : List (PyData × PyData)) : DL.isStr (.dict kvs) = false := rfl
theorem isInt_none : DL.isInt .none = false := rfl
theorem isInt_bool (b : Bool) : DL.isInt (.bool b) = true := rfl
theorem isInt_int (i : Int) : DL.isInt (.int i) = true := rfl
theorem isInt_str (s : Str) : DL.isInt (.str s) = false := rfl
theorem isInt_list (xs : List PyData) : DL.isInt (.list xs) = false := rfl
theorem isInt_tuple (xs : List PyData) : DL.isInt (.tuple xs) = false := rfl
theorem isInt_dict (kvs : List (PyData × PyData)) : DL.isInt (.dict kvs) = false := rfl
theorem isBool_none : DL.isBool .none = false := rfl
theorem isBool_bool (b : Bool) : DL.isBool (.bool b) = true := rfl
theorem isBool_int (i : Int) : DL.isBool (.int i) = false := rfl
theorem isBool_str (s : Str) : DL.isBool (.str s) = false := rfl
theorem isBool_list (xs : List PyData) : DL.isBool (.list xs) = false := rfl
theorem isBool_tuple (xs : List PyData) : DL.isBool (.tuple xs) = false := rfl
theorem isBool_dict (kvs : List (PyData × PyData)) : DL.isBool (.dict kvs) = false := rfl
theorem isDict_none : DL.isDict .none = false := rfl
theorem isDict_bool (b : Bool) : DL.isDict (.bool b) = false := rfl
theorem isDict_int (i : Int) : DL.isDict (.int i) = false := rfl
theorem isDict_str (s : Str) : DL.isDict (.str s) = false := rfl
theorem isDict_list (xs : List PyData) : DL.isDict (.list xs) = false := rfl
theorem isDict_tuple (xs : List PyData) : DL.isDict (.tuple xs) = false := rfl
theorem isDict_dict (kvs : List (PyData × PyData)) : DL.isDict (.dict kvs) = true := rfl
end DL

set_option maxHeartbeats 4000000
namespace Cl
open PySem PySem.Spec PyProof.Rows L2 DL
def topS (i : Nat) : Stmt := PySem.Challenge.pw_dealcourt_k37_circles_bent_anywhere.main.body.getD i (.Pass ⟨0, 0, 0, 0⟩)
section
variable {P : Program} {w : World} {K : PySem.W.Frag} {mg : Str → Option Value} {base : Heap}
/-! #### _law_state -/
abbrev stqstate : Stmt := topS 11
theorem scqstate : FnScope ["_law_script", "_law_k", "_law_cell", "_law_start"] ["_law_script", "_law_k"] (defScope stqstate) := ⟨rfl, rfl, rfl, by decide +kernel, rfl, by decide +kernel, by decide +kernel⟩
def r_qstate : TDS := (sSeq (sSet 2 (dOp kAdd (dC (.int 1)) (dOp kMul (dC (.int 2)) (dVar 1)))) (sSeq (sIf (dTest (dOp (kI0 fun i j => .bool (decide (j < i))) (dCB kLen (daCons (dVar 0) daNil)) (dC (.int 0)))) (sSet 2 (dOp kAdd (dOp kIxA (dVar 0) (dOp (kI (fun _ j => 0 < j) fun i j => .int (i % j)) (dVar 1) (dCB kLen (daCons (dVar 0) daNil)))) (dOp kMul (dC (.int 2)) (dOp (kI CDiv fun i j => .int (i / j)) (dVar 1) (dCB kLen (daCons (dVar 0) daNil)))))) sNext) (sSeq (sSet 3 (dOp (kI CDiv fun i j => .int (i / j)) (dCB kAbs (daCons (dVar 2) daNil)) (dC (.int 2)))) (sSeq (sIf (dTest (dOp (kEqA id) (dOp (kI (fun _ j => 0 < j) fun i j => .int (i % j)) (dVar 2) (dC (.int 2))) (dC (.int 1)))) (sSet 3 (dOp (kI (fun _ j => 0 < j) fun i j => .int (i % j)) (dOp kAdd (dOp kAdd (dOp kAdd (dOp kMul (dOp (kI (fun _ j => 0 < j) fun i j => .int (i % j)) (dVar 3) (dC (.int 2147483647))) (dC (.int 48271))) (dOp kMul (dC (.int 7919)) (dVar 1))) (dCB kLen (daCons (dVar 0) daNil))) (dC (.int 11))) (dC (.int 2147483647)))) sNext) (sRet (dLst (dfCons (dOp (kI (fun _ j => 0 < j) fun i j => .int (i % j)) (dVar 2) (dC (.int 2))) (dfCons (dVar 3) (dfCons (dOp kAdd (dVar 1) (dC (.int 1))) dfNil)))))))))
def s_qstate : DSp := ownSp 2 2 r_qstate
theorem ok_qstate {f : Addr} {fd : FuncData} (F : Fun K "_law_state" "_law_state" stqstate f fd) (z_abs : mg "abs" = none) (z_len : mg "len" = none) : FnOk P w K mg base CX0 (0 + 1) f fd ["_law_script", "_law_k"] (spD K 2 s_qstate) :=
  fnD F scqstate rfl r_qstate (fun cdv A outer s H E hr =>
    (dss_cons (ds_set (i := 2) scqstate.nd rfl (.inl rfl) (dv_op op_addA od_addA dv_int (dv_op op_mulA od_mulA dv_int (dv 1))))
    (dss_cons (ds_if (dt_cmp op_gt (od_B0 _) (dv_callB call_len cd_len rfl z_len PySem.boot_len (da_cons (dv 0) da_nil)) dv_int (nomark _)) (dss_one (ds_set (i := 2) scqstate.nd rfl (.inl rfl) (dv_op op_addA od_addA (dv_ix ix_seq od_ixA (dv 0) (dv_op op_mod (od_I _ _) (dv 1) (dv_callB call_len cd_len rfl z_len PySem.boot_len (da_cons (dv 0) da_nil))) (fun _ _ => rfl)) (dv_op op_mulA od_mulA dv_int (dv_op op_fdiv (od_I _ _) (dv 1) (dv_callB call_len cd_len rfl z_len PySem.boot_len (da_cons (dv 0) da_nil))))))) dss_nil)
    (dss_cons (ds_set (i := 3) scqstate.nd rfl (.inl rfl) (dv_op op_fdiv (od_I _ _) (dv_callB call_abs cd_abs rfl z_abs (by decide +kernel) (da_cons (dv 2) da_nil)) dv_int))
    (dss_cons (ds_if (dt_cmp (op_eqA hr.units) od_eqA (dv_op op_mod (od_I _ _) (dv 2) dv_int) dv_int (nomark _)) (dss_one (ds_set (i := 3) scqstate.nd rfl (.inl rfl) (dv_op op_mod (od_I _ _) (dv_op op_addA od_addA (dv_op op_addA od_addA (dv_op op_addA od_addA (dv_op op_mulA od_mulA (dv_op op_mod (od_I _ _) (dv 3) dv_int) dv_int) (dv_op op_mulA od_mulA dv_int (dv 1))) (dv_callB call_len cd_len rfl z_len PySem.boot_len (da_cons (dv 0) da_nil))) dv_int) dv_int))) dss_nil)
    (dss_one (ds_ret (dv_lst (df_cons (dv_op op_mod (od_I _ _) (dv 2) dv_int) (df_cons (dv 3) (df_cons (dv_op op_addA od_addA (dv 1) dv_int) df_nil))))))))))) (fun _ _ _ h => h.2)
/-! #### _law_next -/
abbrev stqnext : Stmt := topS 12
theorem scqnext : FnScope ["_law_state_here", "_law_size", "_law_digit", "_law_mixed"] ["_law_state_here", "_law_size"] (defScope stqnext) := ⟨rfl, rfl, rfl, by decide +kernel, rfl, by decide +kernel, by decide +kernel⟩
def r_qnext : TDS := (sSeq (sIf (dTest (dOp (kEqA id) (dOp kIxA (dVar 0) (dC (.int 0))) (dC (.int 0)))) (sSeq (sSet 2 (dOp (kI (fun _ j => 0 < j) fun i j => .int (i % j)) (dOp kIxA (dVar 0) (dC (.int 1))) (dVar 1))) (sSeq (sSetI 0 (dOp (kI CDiv fun i j => .int (i / j)) (dOp kIxA (dVar 0) (dC (.int 1))) (dVar 1)) (dC (.int 1))) (sRet (dVar 2)))) sNext) (sSeq (sSetI 0 (dOp (kI (fun _ j => 0 < j) fun i j => .int (i % j)) (dOp kAdd (dOp kMul (dOp kIxA (dVar 0) (dC (.int 1))) (dC (.int 48271))) (dOp kIxA (dVar 0) (dC (.int 2)))) (dC (.int 2147483647))) (dC (.int 1))) (sSeq (sSet 3 (dOp (kI (fun _ j => 0 < j) fun i j => .int (i % j)) (dOp kMul (dOp kIxA (dVar 0) (dC (.int 1))) (dOp kIxA (dVar 0) (dC (.int 1)))) (dC (.int 2147483629)))) (sRet (dOp (kI (fun _ j => 0 < j) fun i j => .int (i % j)) (dOp (kI CDiv fun i j => .int (i / j)) (dOp (kI (fun _ j => 0 < j) fun i j => .int (i % j)) (dOp kMul (dVar 3) (dVar 3)) (dC (.int 2147483587))) (dC (.int 7))) (dVar 1))))))
def s_qnext : DSp := ownSp 2 2 r_qnext
theorem ok_qnext {f : Addr} {fd : FuncData} (F : Fun K "_law_next" "_law_next" stqnext f fd) : FnOk P w K mg base CX0 (0 + 1) f fd ["_law_state_here", "_law_size"] (spD K 2 s_qnext) :=
  fnD F scqnext rfl r_qnext (fun cdv A outer s H E hr =>
    (dss_cons (ds_if (dt_cmp (op_eqA hr.units) od_eqA (dv_ix ix_seq od_ixA (dv 0) dv_int (fun _ _ => rfl)) dv_int (nomark _)) (dss_cons (ds_set (i := 2) scqnext.nd rfl (.inl rfl) (dv_op op_mod (od_I _ _) (dv_ix ix_seq od_ixA (dv 0) dv_int (fun _ _ => rfl)) (dv 1)))
    (dss_cons (ds_seti 0 (dv_op op_fdiv (od_I _ _) (dv_ix ix_seq od_ixA (dv 0) dv_int (fun _ _ => rfl)) (dv 1)) dv_int)
    (dss_one (ds_ret (dv 2))))) dss_nil)
    (dss_cons (ds_seti 0 (dv_op op_mod (od_I _ _) (dv_op op_addA od_addA (dv_op op_mulA od_mulA (dv_ix ix_seq od_ixA (dv 0) dv_int (fun _ _ => rfl)) dv_int) (dv_ix ix_seq od_ixA (dv 0) dv_int (fun _ _ => rfl))) dv_int) dv_int)
    (dss_cons (ds_set (i := 3) scqnext.nd rfl (.inl rfl) (dv_op op_mod (od_I _ _) (dv_op op_mulA od_mulA (dv_ix ix_seq od_ixA (dv 0) dv_int (fun _ _ => rfl)) (dv_ix ix_seq od_ixA (dv 0) dv_int (fun _ _ => rfl))) dv_int))
    (dss_one (ds_ret (dv_op op_mod (od_I _ _) (dv_op op_fdiv (od_I _ _) (dv_op op_mod (od_I _ _) (dv_op op_mulA od_mulA (dv 3) (dv 3)) dv_int) dv_int) (dv 1)))))))) (fun _ _ _ h => h.2)
/-! #### _law_keyed -/
abbrev stqkeyed : Stmt := topS 16
theorem scqkeyed : FnScope ["_law_state_here", "_law_links", "_law_letters", "_law_found", "_law_word", "_law_one", "_law_other", "_law_key", "_law_k"] ["_law_state_here", "_law_links"] (defScope stqkeyed) := ⟨rfl, rfl, rfl, by decide +kernel, rfl, by decide +kernel, by decide +kernel⟩
def b_qkeyed_1 : TDS := (sSeq (sIf (dTest (dOp (kIsN true) (dVar 7) (dC .none))) (sSet 7 (dJoinC (Str.ofString "") (dLcR (daCons (dOp kAdd (dC (.int 1)) (dCallS 0 s_qnext (dfCons (dC (.int 4)) dfNil))) daNil) (gNm 8) dYes (dOp kIxA (dVar 2) (dCallS 0 s_qnext (dfCons (dC (.int 26)) dfNil))) [8]))) sNext) (sExpr (dMut 3 kAppend (dfCons (dTup (dfCons (dVar 4) (dfCons (dVar 5) (dfCons (dVar 6) (dfCons (dVar 7) dfNil))))) dfNil))))
theorem b_qkeyed_1_eq {D : DEnds} {ε : Ep} : ev (b_qkeyed_1 D ε) = ev ((sSeq (sIf (dTest (dOp (kIsN true) (dVar 7) (dC .none))) (sSet 7 (dJoinC (Str.ofString "") (dLcR (daCons (dOp kAdd (dC (.int 1)) (dCallS 0 s_qnext (dfCons (dC (.int 4)) dfNil))) daNil) (gNm 8) dYes (dOp kIxA (dVar 2) (dCallS 0 s_qnext (dfCons (dC (.int 26)) dfNil))) [8]))) sNext) (sExpr (dMut 3 kAppend (dfCons (dTup (dfCons (dVar 4) (dfCons (dVar 5) (dfCons (dVar 6) (dfCons (dVar 7) dfNil))))) dfNil)))) D ε) := rfl
def r_qkeyed : TDS := (sSeq (sSet 2 (dC (.str (Str.ofString "abcdefghijklmnopqrstuvwxyz")))) (sSeq (sSet 3 (dLst dfNil)) (sSeq (sForA (dVar 1) (gTp 4 (gsCons (gNm 4) (gsCons (gNm 5) (gsCons (gNm 6) (gsCons (gNm 7) gsNil))))) b_qkeyed_1) (sRet (dCB kTuple (daCons (dVar 3) daNil))))))
def s_qkeyed : DSp := ownSp 2 7 r_qkeyed
theorem ok_qkeyed {f : Addr} {fd : FuncData} (F : Fun K "_law_keyed" "_law_keyed" stqkeyed f fd) (z_range : mg "range" = none) (z_tuple : mg "tuple" = none) {gqnext : Addr} {gdqnext : FuncData} (G_qnext : FnOk P w K mg base CX0 1 gqnext gdqnext ["_law_state_here", "_law_size"] (spD K 2 s_qnext)) (b_qnext : Binds K gdqnext ["_law_state_here", "_law_size"] []) (k_qnext : PySem.W.keepIn K (.ref gqnext) = true) (m_qnext : mg "_law_next" = some (.ref gqnext)) : FnOk P w K mg base CX0 (1 + 1) f fd ["_law_state_here", "_law_links"] (spD K 2 s_qkeyed) :=
  fnD F scqkeyed rfl r_qkeyed (fun cdv A outer s H E hr =>
    (dss_cons (ds_set (i := 2) scqkeyed.nd rfl (.inr rfl) dv_str)
    (dss_cons (ds_set (i := 3) scqkeyed.nd rfl (.inl rfl) (dv_lst df_nil))
    (dss_cons (ds_forA PassesOwn.never rfl (dv 1) (dg_tup rfl (dgs_cons (dg_nm scqkeyed.nd rfl (.inl rfl)) (dgs_cons (dg_nm scqkeyed.nd rfl (.inl rfl)) (dgs_cons (dg_nm scqkeyed.nd rfl (.inl rfl)) (dgs_cons (dg_nm scqkeyed.nd rfl (.inl rfl)) dgs_nil))))) (dss_cons (ds_if (dt_cmp op_notN od_notN (dv 7) dv_non (nomark _)) (dss_one (ds_set (i := 7) scqkeyed.nd rfl (.inl rfl) (dv_joinC (dv_lcR (own := [("_law_k", 8)]) rfl scqkeyed.nd rfl z_range (da_cons (dv_op op_addA od_addA dv_int (dv_callS 0 G_qnext (ownSp_len) (hr.mono (by decide)) rfl m_qnext k_qnext b_qnext (df_cons dv_int df_nil))) da_nil) (by exact ⟨blkOk_by (N := (["_law_state_here", "_law_links", "_law_letters", "_law_found", "_law_word", "_law_one", "_law_other", "_law_key", "_law_k"] : List Str)) (sc := defScope stqkeyed) (own := [("_law_k", 8)]) (by decide +kernel), by decide, fun _ _ _ _ _ => (dg_nm scqkeyed.nd rfl (.inl rfl)), fun _ _ _ _ _ => dts_nil, fun _ _ _ _ _ => (dv_ix ix_seq od_ixA (dv 2) (dv_callS 0 G_qnext (ownSp_len) (hr.mono (by decide)) rfl m_qnext k_qnext b_qnext (df_cons dv_int df_nil)) (fun _ _ => rfl))⟩))))) dss_nil)
    (dss_one (ds_expr (dv_mut 3 PySem.F.slot_list_append PySem.F.type_list_append mt_append md_append (df_cons (dv_tup (df_cons (dv 4) (df_cons (dv 5) (df_cons (dv 6) (df_cons (dv 7) df_nil))))) df_nil))))))
    (dss_one (ds_ret (dv_callTy call_tuple_of cd_tuple rfl z_tuple (by decide +kernel) (da_cons (dv 3) da_nil)))))))) (fun _ _ _ h => h.2)
/-! #### _law_ring -/
abbrev stqring : Stmt := topS 13
theorem scqring : FnScope ["_law_state_here", "_law_size", "_law_stops", "_law_k", "_law_links", "_law_word"] ["_law_state_here", "_law_size"] (defScope stqring) := ⟨rfl, rfl, rfl, by decide +kernel, rfl, by decide +kernel, by decide +kernel⟩
def b_qring_1 : TDS := (sExpr (dMut 2 kAppend (dfCons (dOp (kI (fun _ j => 0 < j) fun i j => .int (i % j)) (dOp kAdd (dOp kAdd (dOp kIxA (dVar 2) (dUn kNeg (dC (.int 1)))) (dC (.int 1))) (dCallS 0 s_qnext (dfCons (dC (.int 5)) dfNil))) (dC (.int 6))) dfNil)))
theorem b_qring_1_eq {D : DEnds} {ε : Ep} : ev (b_qring_1 D ε) = ev ((sExpr (dMut 2 kAppend (dfCons (dOp (kI (fun _ j => 0 < j) fun i j => .int (i % j)) (dOp kAdd (dOp kAdd (dOp kIxA (dVar 2) (dUn kNeg (dC (.int 1)))) (dC (.int 1))) (dCallS 0 s_qnext (dfCons (dC (.int 5)) dfNil))) (dC (.int 6))) dfNil))) D ε) := rfl
def b_qring_2 : TDS := (sSeq (sSet 5 (dOp kIxA (dLst (dfCons (dC (.str (Str.ofString "hand"))) (dfCons (dC (.str (Str.ofString "time"))) (dfCons (dC (.str (Str.ofString "from"))) (dfCons (dC (.str (Str.ofString "over"))) (dfCons (dC (.str (Str.ofString "past"))) dfNil)))))) (dCallS 0 s_qnext (dfCons (dC (.int 5)) dfNil)))) (sExpr (dMut 4 kAppend (dfCons (dTup (dfCons (dVar 5) (dfCons (dOp kIxA (dVar 2) (dOp (kI0 fun i j => .int (i - j)) (dVar 3) (dC (.int 1)))) (dfCons (dOp kIxA (dVar 2) (dVar 3)) (dfCons (dOp kIxA (dLst (dfCons (dC .none) (dfCons (dC (.str (Str.ofString "key"))) dfNil))) (dCB kInt (daCons (dOp (kIn false) (dVar 5) (dLst (dfCons (dC (.str (Str.ofString "from"))) (dfCons (dC (.str (Str.ofString "over"))) (dfCons (dC (.str (Str.ofString "past"))) dfNil))))) daNil))) dfNil))))) dfNil))))
theorem b_qring_2_eq {D : DEnds} {ε : Ep} : ev (b_qring_2 D ε) = ev ((sSeq (sSet 5 (dOp kIxA (dLst (dfCons (dC (.str (Str.ofString "hand"))) (dfCons (dC (.str (Str.ofString "time"))) (dfCons (dC (.str (Str.ofString "from"))) (dfCons (dC (.str (Str.ofString "over"))) (dfCons (dC (.str (Str.ofString "past"))) dfNil)))))) (dCallS 0 s_qnext (dfCons (dC (.int 5)) dfNil)))) (sExpr (dMut 4 kAppend (dfCons (dTup (dfCons (dVar 5) (dfCons (dOp kIxA (dVar 2) (dOp (kI0 fun i j => .int (i - j)) (dVar 3) (dC (.int 1)))) (dfCons (dOp kIxA (dVar 2) (dVar 3)) (dfCons (dOp kIxA (dLst (dfCons (dC .none) (dfCons (dC (.str (Str.ofString "key"))) dfNil))) (dCB kInt (daCons (dOp (kIn false) (dVar 5) (dLst (dfCons (dC (.str (Str.ofString "from"))) (dfCons (dC (.str (Str.ofString "over"))) (dfCons (dC (.str (Str.ofString "past"))) dfNil))))) daNil))) dfNil))))) dfNil)))) D ε) := rfl
def r_qring : TDS := (sSeq (sSet 2 (dLst (dfCons (dCallS 0 s_qnext (dfCons (dC (.int 6)) dfNil)) dfNil))) (sSeq (sForR (daCons (dOp (kI0 fun i j => .int (i - j)) (dVar 1) (dC (.int 1))) daNil) (gNm 3) b_qring_1) (sSeq (sIf (dTest (dOp (kEqA id) (dOp kIxA (dVar 2) (dUn kNeg (dC (.int 1)))) (dOp kIxA (dVar 2) (dC (.int 0))))) (sExpr (dMut 2 kAppend (dfCons (dOp (kI (fun _ j => 0 < j) fun i j => .int (i % j)) (dOp kAdd (dOp kAdd (dOp kIxA (dVar 2) (dC (.int 0))) (dC (.int 1))) (dCallS 0 s_qnext (dfCons (dC (.int 5)) dfNil))) (dC (.int 6))) dfNil))) sNext) (sSeq (sSet 4 (dLst dfNil)) (sSeq (sForR (daCons (dCB kLen (daCons (dVar 2) daNil)) daNil) (gNm 3) b_qring_2) (sRet (dVar 4)))))))
def s_qring : DSp := ownSp 2 4 r_qring
theorem ok_qring {f : Addr} {fd : FuncData} (F : Fun K "_law_ring" "_law_ring" stqring f fd) (z_int : mg "int" = none) (z_len : mg "len" = none) (z_range : mg "range" = none) {gqnext : Addr} {gdqnext : FuncData} (G_qnext : FnOk P w K mg base CX0 1 gqnext gdqnext ["_law_state_here", "_law_size"] (spD K 2 s_qnext)) (b_qnext : Binds K gdqnext ["_law_state_here", "_law_size"] []) (k_qnext : PySem.W.keepIn K (.ref gqnext) = true) (m_qnext : mg "_law_next" = some (.ref gqnext)) : FnOk P w K mg base CX0 (1 + 1) f fd ["_law_state_here", "_law_size"] (spD K 2 s_qring) :=
  fnD F scqring rfl r_qring (fun cdv A outer s H E hr =>
    (dss_cons (ds_set (i := 2) scqring.nd rfl (.inl rfl) (dv_lst (df_cons (dv_callS 0 G_qnext (ownSp_len) (hr.mono (by decide)) rfl m_qnext k_qnext b_qnext (df_cons dv_int df_nil)) df_nil)))
    (dss_cons (ds_forR PassesOwn.never rfl rfl z_range (da_cons (dv_op op_sub (od_I0 _) (dv 1) dv_int) da_nil) (dg_nm scqring.nd rfl (.inl rfl)) (dss_one (ds_expr (dv_mut 2 PySem.F.slot_list_append PySem.F.type_list_append mt_append md_append (df_cons (dv_op op_mod (od_I _ _) (dv_op op_addA od_addA (dv_op op_addA od_addA (dv_ix ix_seq od_ixA (dv 2) (dv_neg dv_int) (fun _ _ => rfl)) dv_int) (dv_callS 0 G_qnext (ownSp_len) (hr.mono (by decide)) rfl m_qnext k_qnext b_qnext (df_cons dv_int df_nil))) dv_int) df_nil)))))
    (dss_cons (ds_if (dt_cmp (op_eqA hr.units) od_eqA (dv_ix ix_seq od_ixA (dv 2) (dv_neg dv_int) (fun _ _ => rfl)) (dv_ix ix_seq od_ixA (dv 2) dv_int (fun _ _ => rfl)) (nomark _)) (dss_one (ds_expr (dv_mut 2 PySem.F.slot_list_append PySem.F.type_list_append mt_append md_append (df_cons (dv_op op_mod (od_I _ _) (dv_op op_addA od_addA (dv_op op_addA od_addA (dv_ix ix_seq od_ixA (dv 2) dv_int (fun _ _ => rfl)) dv_int) (dv_callS 0 G_qnext (ownSp_len) (hr.mono (by decide)) rfl m_qnext k_qnext b_qnext (df_cons dv_int df_nil))) dv_int) df_nil)))) dss_nil)
    (dss_cons (ds_set (i := 4) scqring.nd rfl (.inl rfl) (dv_lst df_nil))
    (dss_cons (ds_forR PassesOwn.never rfl rfl z_range (da_cons (dv_callB call_len cd_len rfl z_len PySem.boot_len (da_cons (dv 2) da_nil)) da_nil) (dg_nm scqring.nd rfl (.inl rfl)) (dss_cons (ds_set (i := 5) scqring.nd rfl (.inl rfl) (dv_ix ix_seq od_ixA (dv_lst (df_cons dv_str (df_cons dv_str (df_cons dv_str (df_cons dv_str (df_cons dv_str df_nil)))))) (dv_callS 0 G_qnext (ownSp_len) (hr.mono (by decide)) rfl m_qnext k_qnext b_qnext (df_cons dv_int df_nil)) (fun _ _ => rfl)))
    (dss_one (ds_expr (dv_mut 4 PySem.F.slot_list_append PySem.F.type_list_append mt_append md_append (df_cons (dv_tup (df_cons (dv 5) (df_cons (dv_ix ix_seq od_ixA (dv 2) (dv_op op_sub (od_I0 _) (dv 3) dv_int) (fun _ _ => rfl)) (df_cons (dv_ix ix_seq od_ixA (dv 2) (dv 3) (fun _ _ => rfl)) (df_cons (dv_ix ix_seq od_ixA (dv_lst (df_cons dv_non (df_cons dv_str df_nil))) (dv_callTy call_int1 cd_int rfl z_int (by decide +kernel) (da_cons (dv_cmp op_in_seq (od_in false) (dv 5) (dv_lst (df_cons dv_str (df_cons dv_str (df_cons dv_str df_nil)))) (by rfl)) da_nil)) (fun _ _ => rfl)) df_nil))))) df_nil))))))
    (dss_one (ds_ret (dv 4))))))))) (fun _ _ _ h => h.2)
/-! #### is_key -/
abbrev stis_key : Stmt := topS 3
theorem scis_key : FnScope ["thing", "sign"] ["thing"] (defScope stis_key) := ⟨rfl, rfl, rfl, by decide +kernel, rfl, by decide +kernel, by decide +kernel⟩
def r_is_key : TDS := (sRet (dAndV (dIsi (dVar 0) "str") (dAndV (dChain (kI0 fun i j => .bool (decide (i ≤ j))) (kI0 fun i j => .bool (decide (i ≤ j))) (dC (.int 1)) (dCB kLen (daCons (dVar 0) daNil)) (dC (.int 4))) (dCB kAll (daCons (dLcA (dVar 0) (gNm 1) dYes (dOp (kInS false) (dVar 1) (dC (.str (Str.ofString "abcdefghijklmnopqrstuvwxyz")))) [1]) daNil)))))
def s_is_key : DSp := ownSp 1 1 r_is_key
theorem ok_is_key {f : Addr} {fd : FuncData} (F : Fun K "is_key" "is_key" stis_key f fd) (z_all : mg "all" = none) (z_isinstance : mg "isinstance" = none) (z_len : mg "len" = none) (z_str : mg "str" = none) (g_LETTERS : GlobD K mg "LETTERS" (.str (Str.ofString "abcdefghijklmnopqrstuvwxyz"))) (g_MOST_LETTERS : GlobD K mg "MOST_LETTERS" (.int 4)) : FnOk P w K mg base CX0 (0 + 1) f fd ["thing"] (spD K 1 s_is_key) :=
  fnD F scis_key rfl r_is_key (fun cdv A outer s H E hr =>
    (dss_one (ds_ret (dv_and (dv_isi (dv 0) rfl z_isinstance (by decide +kernel) rfl z_str (by decide +kernel)) (dv_and (dv_chain op_le op_le (od_B0 _) (od_B0 _) dv_int (dv_callB call_len cd_len rfl z_len PySem.boot_len (da_cons (dv 0) da_nil)) (dv_gd g_MOST_LETTERS rfl)) (dv_one (dv_callB (cr_all rfl) cd_all rfl z_all (by decide +kernel) (da_cons (dv_lcA (own := [("sign", 1)]) rfl scis_key.nd (dv 0) (by exact ⟨blkOk_by (N := (["thing", "sign"] : List Str)) (sc := defScope stis_key) (own := [("sign", 1)]) (by decide +kernel), by decide, fun _ _ _ _ _ => (dg_nm scis_key.nd rfl (.inl rfl)), fun _ _ _ _ _ => dts_nil, fun _ _ _ _ _ => (dv_cmp op_in_sign od_inS (dv 1) (dv_gd g_LETTERS rfl) (by rfl))⟩)) da_nil)))))))) (fun _ _ _ h => h.2)
/-! #### is_place -/
abbrev stis_place : Stmt := topS 7
theorem scis_place : FnScope ["thing"] ["thing"] (defScope stis_place) := ⟨rfl, rfl, rfl, by decide +kernel, rfl, by decide +kernel, by decide +kernel⟩
def r_is_place : TDS := (sRet (dAndV (dIsi (dVar 0) "int") (dAndV (dNotV (dIsi (dVar 0) "bool")) (dOp (kI0 fun i j => .bool (decide (j ≤ i))) (dVar 0) (dC (.int 0))))))
def s_is_place : DSp := ownSp 1 0 r_is_place
theorem ok_is_place {f : Addr} {fd : FuncData} (F : Fun K "is_place" "is_place" stis_place f fd) (z_bool : mg "bool" = none) (z_int : mg "int" = none) (z_isinstance : mg "isinstance" = none) : FnOk P w K mg base CX0 (0 + 1) f fd ["thing"] (spD K 1 s_is_place) :=
  fnD F scis_place rfl r_is_place (fun cdv A outer s H E hr =>
    (dss_one (ds_ret (dv_and (dv_isi (dv 0) rfl z_isinstance (by decide +kernel) rfl z_int (by decide +kernel)) (dv_and (dv_not (dv_isi (dv 0) rfl z_isinstance (by decide +kernel) rfl z_bool (by decide +kernel))) (dv_one (dv_cmp op_ge (od_B0 _) (dv 0) dv_int (nomark _)))))))) (fun _ _ _ h => h.2)
/-! #### is_link -/
abbrev stis_link : Stmt := topS 8
theorem scis_link : FnScope ["thing"] ["thing"] (defScope stis_link) := ⟨rfl, rfl, rfl, by decide +kernel, rfl, by decide +kernel, by decide +kernel⟩
def r_is_link : TDS := (sSeq (sIf (dOr (dNot (dTest (dIsi (dVar 0) "tuple"))) (dOr (dTest (dOp (kEqA (!·)) (dCB kLen (daCons (dVar 0) daNil)) (dC (.int 4)))) (dOr (dNot (dTest (dIsi (dOp kIxA (dVar 0) (dC (.int 0))) "str"))) (dTest (dOp (kIn true) (dOp kIxA (dVar 0) (dC (.int 0))) (dC (.tuple [(.str (Str.ofString "hand")), (.str (Str.ofString "time")), (.str (Str.ofString "from")), (.str (Str.ofString "over")), (.str (Str.ofString "past"))]))))))) (sRet (dC (.bool false))) sNext) (sSeq (sIf (dOr (dNot (dTest (dCall s_is_place (dfCons (dOp kIxA (dVar 0) (dC (.int 1))) dfNil)))) (dOr (dNot (dTest (dCall s_is_place (dfCons (dOp kIxA (dVar 0) (dC (.int 2))) dfNil)))) (dTest (dOp (kEqA id) (dOp kIxA (dVar 0) (dC (.int 1))) (dOp kIxA (dVar 0) (dC (.int 2))))))) (sRet (dC (.bool false))) sNext) (sRet (dIfE (dTest (dOp (kIn false) (dOp kIxA (dVar 0) (dC (.int 0))) (dC (.tuple [(.str (Str.ofString "hand")), (.str (Str.ofString "time"))])))) (dOp (kIsN false) (dOp kIxA (dVar 0) (dC (.int 3))) (dC .none)) (dCall s_is_key (dfCons (dOp kIxA (dVar 0) (dC (.int 3))) dfNil))))))
def s_is_link : DSp := ownSp 1 0 r_is_link
theorem ok_is_link {f : Addr} {fd : FuncData} (F : Fun K "is_link" "is_link" stis_link f fd) (z_isinstance : mg "isinstance" = none) (z_len : mg "len" = none) (z_str : mg "str" = none) (z_tuple : mg "tuple" = none) (g_KEYLESS : GlobD K mg "KEYLESS" (.tuple [(.str (Str.ofString "hand")), (.str (Str.ofString "time"))])) (g_WORDS : GlobD K mg "WORDS" (.tuple [(.str (Str.ofString "hand")), (.str (Str.ofString "time")), (.str (Str.ofString "from")), (.str (Str.ofString "over")), (.str (Str.ofString "past"))])) {gis_place : Addr} {gdis_place : FuncData} (G_is_place : FnOk P w K mg base CX0 1 gis_place gdis_place ["thing"] (spD K 1 s_is_place)) (b_is_place : Binds K gdis_place ["thing"] []) (k_is_place : PySem.W.keepIn K (.ref gis_place) = true) (m_is_place : mg "is_place" = some (.ref gis_place)) {gis_key : Addr} {gdis_key : FuncData} (G_is_key : FnOk P w K mg base CX0 1 gis_key gdis_key ["thing"] (spD K 1 s_is_key)) (b_is_key : Binds K gdis_key ["thing"] []) (k_is_key : PySem.W.keepIn K (.ref gis_key) = true) (m_is_key : mg "is_key" = some (.ref gis_key)) : FnOk P w K mg base CX0 (1 + 1) f fd ["thing"] (spD K 1 s_is_link) :=
  fnD F scis_link rfl r_is_link (fun cdv A outer s H E hr =>
    (dss_cons (ds_if (PW.pt (dw_or (dt_not (dt_val (dv_isi (dv 0) rfl z_isinstance (by decide +kernel) rfl z_tuple (by decide +kernel)))) (dw_or (dt_cmp (op_neA hr.units) od_neA (dv_callB call_len cd_len rfl z_len PySem.boot_len (da_cons (dv 0) da_nil)) dv_int (nomark _)) (dw_or (dt_not (dt_val (dv_isi (dv_ix ix_seq od_ixA (dv 0) dv_int (fun _ _ => rfl)) rfl z_isinstance (by decide +kernel) rfl z_str (by decide +kernel)))) (dw_or1 (dt_cmp op_notIn_seq (od_in true) (dv_ix ix_seq od_ixA (dv 0) dv_int (fun _ _ => rfl)) (dv_gd g_WORDS rfl) (by rfl))))))) (dss_one (ds_ret dv_bl)) dss_nil)
    (dss_cons (ds_if (PW.pt (dw_or (dt_not (dt_val (dv_call G_is_place (ownSp_len) (hr.mono (by decide)) rfl m_is_place k_is_place b_is_place (df_cons (dv_ix ix_seq od_ixA (dv 0) dv_int (fun _ _ => rfl)) df_nil)))) (dw_or (dt_not (dt_val (dv_call G_is_place (ownSp_len) (hr.mono (by decide)) rfl m_is_place k_is_place b_is_place (df_cons (dv_ix ix_seq od_ixA (dv 0) dv_int (fun _ _ => rfl)) df_nil)))) (dw_or1 (dt_cmp (op_eqA hr.units) od_eqA (dv_ix ix_seq od_ixA (dv 0) dv_int (fun _ _ => rfl)) (dv_ix ix_seq od_ixA (dv 0) dv_int (fun _ _ => rfl)) (nomark _)))))) (dss_one (ds_ret dv_bl)) dss_nil)
    (dss_one (ds_ret (dv_if (dt_cmp op_in_seq (od_in false) (dv_ix ix_seq od_ixA (dv 0) dv_int (fun _ _ => rfl)) (dv_gd g_KEYLESS rfl) (by rfl)) (dv_cmp op_isN od_isN (dv_ix ix_seq od_ixA (dv 0) dv_int (fun _ _ => rfl)) dv_non (nomark _)) (dv_call G_is_key (ownSp_len) (hr.mono (by decide)) rfl m_is_key k_is_key b_is_key (df_cons (dv_ix ix_seq od_ixA (dv 0) dv_int (fun _ _ => rfl)) df_nil)))))))) (fun _ _ _ h => h.2)
/-! #### is_circle -/
abbrev stis_circle : Stmt := topS 9
theorem scis_circle : FnScope ["thing", "link", "at"] ["thing"] (defScope stis_circle) := ⟨rfl, rfl, rfl, by decide +kernel, rfl, by decide +kernel, by decide +kernel⟩
def r_is_circle : TDS := (sSeq (sIf (dOr (dNot (dTest (dIsi (dVar 0) "tuple"))) (dOr (dTest (dOp (kI0 fun i j => .bool (decide (i < j))) (dCB kLen (daCons (dVar 0) daNil)) (dC (.int 2)))) (dNot (dTest (dCB kAll (daCons (dLcA (dVar 0) (gNm 1) dYes (dCall s_is_link (dfCons (dVar 1) dfNil)) [1]) daNil)))))) (sRet (dC (.bool false))) sNext) (sRet (dCB kAll (daCons (dLcR (daCons (dCB kLen (daCons (dVar 0) daNil)) daNil) (gNm 2) dYes (dOp (kEqA id) (dOp kIxA (dOp kIxA (dVar 0) (dOp (kI0 fun i j => .int (i - j)) (dVar 2) (dC (.int 1)))) (dC (.int 2))) (dOp kIxA (dOp kIxA (dVar 0) (dVar 2)) (dC (.int 1)))) [2]) daNil))))
def s_is_circle : DSp := ownSp 1 2 r_is_circle
theorem ok_is_circle {f : Addr} {fd : FuncData} (F : Fun K "is_circle" "is_circle" stis_circle f fd) (z_all : mg "all" = none) (z_isinstance : mg "isinstance" = none) (z_len : mg "len" = none) (z_range : mg "range" = none) (z_tuple : mg "tuple" = none) {gis_link : Addr} {gdis_link : FuncData} (G_is_link : FnOk P w K mg base CX0 2 gis_link gdis_link ["thing"] (spD K 1 s_is_link)) (b_is_link : Binds K gdis_link ["thing"] []) (k_is_link : PySem.W.keepIn K (.ref gis_link) = true) (m_is_link : mg "is_link" = some (.ref gis_link)) : FnOk P w K mg base CX0 (2 + 1) f fd ["thing"] (spD K 1 s_is_circle) :=
  fnD F scis_circle rfl r_is_circle (fun cdv A outer s H E hr =>
    (dss_cons (ds_if (PW.pt (dw_or (dt_not (dt_val (dv_isi (dv 0) rfl z_isinstance (by decide +kernel) rfl z_tuple (by decide +kernel)))) (dw_or (dt_cmp op_lt (od_B0 _) (dv_callB call_len cd_len rfl z_len PySem.boot_len (da_cons (dv 0) da_nil)) dv_int (nomark _)) (dw_or1 (dt_not (dt_val (dv_callB (cr_all rfl) cd_all rfl z_all (by decide +kernel) (da_cons (dv_lcA (own := [("link", 1)]) rfl scis_circle.nd (dv 0) (by exact ⟨blkOk_by (N := (["thing", "link", "at"] : List Str)) (sc := defScope stis_circle) (own := [("link", 1)]) (by decide +kernel), by decide, fun _ _ _ _ _ => (dg_nm scis_circle.nd rfl (.inl rfl)), fun _ _ _ _ _ => dts_nil, fun _ _ _ _ _ => (dv_call G_is_link (ownSp_len) (hr.mono (by decide)) rfl m_is_link k_is_link b_is_link (df_cons (dv 1) df_nil))⟩)) da_nil)))))))) (dss_one (ds_ret dv_bl)) dss_nil)
    (dss_one (ds_ret (dv_callB (cr_all rfl) cd_all rfl z_all (by decide +kernel) (da_cons (dv_lcR (own := [("at", 2)]) rfl scis_circle.nd rfl z_range (da_cons (dv_callB call_len cd_len rfl z_len PySem.boot_len (da_cons (dv 0) da_nil)) da_nil) (by exact ⟨blkOk_by (N := (["thing", "link", "at"] : List Str)) (sc := defScope stis_circle) (own := [("at", 2)]) (by decide +kernel), by decide, fun _ _ _ _ _ => (dg_nm scis_circle.nd rfl (.inl rfl)), fun _ _ _ _ _ => dts_nil, fun _ _ _ _ _ => (dv_cmp (op_eqA hr.units) od_eqA (dv_ix ix_seq od_ixA (dv_ix ix_seq od_ixA (dv 0) (dv_op op_sub (od_I0 _) (dv 2) dv_int) (fun _ _ => rfl)) dv_int (fun _ _ => rfl)) (dv_ix ix_seq od_ixA (dv_ix ix_seq od_ixA (dv 0) (dv 2) (fun _ _ => rfl)) dv_int (fun _ _ => rfl)) (nomark _))⟩)) da_nil)))))) (fun _ _ _ h => h.2)
/-! #### _law_bent_text -/
abbrev stqbent_text : Stmt := topS 17
theorem scqbent_text : FnScope ["_law_state_here", "_law_text", "_law_at", "_law_letter", "_law_way"] ["_law_state_here", "_law_text"] (defScope stqbent_text) := ⟨rfl, rfl, rfl, by decide +kernel, rfl, by decide +kernel, by decide +kernel⟩
def r_qbent_text : TDS := (sSeq (sSet 2 (dCallS 0 s_qnext (dfCons (dOp kAdd (dCB kLen (daCons (dVar 1) daNil)) (dC (.int 1))) dfNil))) (sSeq (sSet 3 (dOp kIxA (dC (.str (Str.ofString "abcdefghijklmnopqrstuvwxyzA1 "))) (dCallS 0 s_qnext (dfCons (dC (.int 29)) dfNil)))) (sSeq (sSet 4 (dCallS 0 s_qnext (dfCons (dC (.int 4)) dfNil))) (sSeq (sIf (dTest (dOp (kEqA id) (dVar 4) (dC (.int 3)))) (sRet (dOp kIxA (dLst (dfCons (dC (.str (Str.ofString "hand"))) (dfCons (dC (.str (Str.ofString "time"))) (dfCons (dC (.str (Str.ofString "from"))) (dfCons (dC (.str (Str.ofString "over"))) (dfCons (dC (.str (Str.ofString "past"))) (dfCons (dC (.str (Str.ofString ""))) (dfCons (dC .none) (dfCons (dC (.int 5)) (dfCons (dLst (dfCons (dVar 1) dfNil)) (dfCons dDct dfNil))))))))))) (dCallS 0 s_qnext (dfCons (dC (.int 10)) dfNil)))) sNext) (sRet (dOp kAdd (dOp kAdd (dSl (dVar 1) dNoPart (dPart (dVar 2))) (dOp kMul (dVar 3) (dCB kInt (daCons (dOp (kEqA (!·)) (dVar 4) (dC (.int 1))) daNil)))) (dSl (dVar 1) (dPart (dOp kAdd (dVar 2) (dCB kInt (daCons (dOp (kI0 fun i j => .bool (decide (j < i))) (dVar 4) (dC (.int 0))) daNil)))) dNoPart)))))))
def s_qbent_text : DSp := ownSp 2 3 r_qbent_text
theorem ok_qbent_text {f : Addr} {fd : FuncData} (F : Fun K "_law_bent_text" "_law_bent_text" stqbent_text f fd) (z_int : mg "int" = none) (z_len : mg "len" = none) {gqnext : Addr} {gdqnext : FuncData} (G_qnext : FnOk P w K mg base CX0 1 gqnext gdqnext ["_law_state_here", "_law_size"] (spD K 2 s_qnext)) (b_qnext : Binds K gdqnext ["_law_state_here", "_law_size"] []) (k_qnext : PySem.W.keepIn K (.ref gqnext) = true) (m_qnext : mg "_law_next" = some (.ref gqnext)) : FnOk P w K mg base CX0 (1 + 1) f fd ["_law_state_here", "_law_text"] (spD K 2 s_qbent_text) :=
  fnD F scqbent_text rfl r_qbent_text (fun cdv A outer s H E hr =>
    (dss_cons (ds_set (i := 2) scqbent_text.nd rfl (.inl rfl) (dv_callS 0 G_qnext (ownSp_len) (hr.mono (by decide)) rfl m_qnext k_qnext b_qnext (df_cons (dv_op op_addA od_addA (dv_callB call_len cd_len rfl z_len PySem.boot_len (da_cons (dv 1) da_nil)) dv_int) df_nil)))
    (dss_cons (ds_set (i := 3) scqbent_text.nd rfl (.inl rfl) (dv_ix ix_seq od_ixA dv_str (dv_callS 0 G_qnext (ownSp_len) (hr.mono (by decide)) rfl m_qnext k_qnext b_qnext (df_cons dv_int df_nil)) (fun _ _ => rfl)))
    (dss_cons (ds_set (i := 4) scqbent_text.nd rfl (.inl rfl) (dv_callS 0 G_qnext (ownSp_len) (hr.mono (by decide)) rfl m_qnext k_qnext b_qnext (df_cons dv_int df_nil)))
    (dss_cons (ds_if (dt_cmp (op_eqA hr.units) od_eqA (dv 4) dv_int (nomark _)) (dss_one (ds_ret (dv_ix ix_seq od_ixA (dv_lst (df_cons dv_str (df_cons dv_str (df_cons dv_str (df_cons dv_str (df_cons dv_str (df_cons dv_str (df_cons dv_non (df_cons dv_int (df_cons (dv_lst (df_cons (dv 1) df_nil)) (df_cons dv_dnew df_nil))))))))))) (dv_callS 0 G_qnext (ownSp_len) (hr.mono (by decide)) rfl m_qnext k_qnext b_qnext (df_cons dv_int df_nil)) (fun _ _ => rfl)))) dss_nil)
    (dss_one (ds_ret (dv_op op_addA od_addA (dv_op op_addA od_addA (dv_sl (dv 1) do_none (do_some (dv 2))) (dv_op op_mulA od_mulA (dv 3) (dv_callTy call_int1 cd_int rfl z_int (by decide +kernel) (da_cons (dv_cmp (op_neA hr.units) od_neA (dv 4) dv_int (nomark _)) da_nil)))) (dv_sl (dv 1) (do_some (dv_op op_addA od_addA (dv 2) (dv_callTy call_int1 cd_int rfl z_int (by decide +kernel) (da_cons (dv_cmp op_gt (od_B0 _) (dv 4) dv_int (nomark _)) da_nil)))) do_none))))))))) (fun _ _ _ h => h.2)
/-! #### _law_bent -/
abbrev stqbent : Stmt := topS 18
theorem scqbent : FnScope ["_law_state_here", "_law_whole", "_law_at", "_law_some"] ["_law_state_here", "_law_whole"] (defScope stqbent) := ⟨rfl, rfl, rfl, by decide +kernel, rfl, by decide +kernel, by decide +kernel⟩
def r_qbent (S_rec : DSp) : TDS := (sSeq (sIf (dAnd (dTest (dIsi (dVar 1) "tuple")) (dAnd (dTest (dOp (kEqA (!·)) (dVar 1) (dTup dfNil))) (dTest (dOp (kI0 fun i j => .bool (decide (j < i))) (dCallS 0 s_qnext (dfCons (dC (.int 5)) dfNil)) (dC (.int 0)))))) (sSeq (sSet 2 (dCallS 0 s_qnext (dfCons (dCB kLen (daCons (dVar 1) daNil)) dfNil))) (sRet (dOp kAdd (dOp kAdd (dSl (dVar 1) dNoPart (dPart (dVar 2))) (dTup (dfCons (dCallS 0 S_rec (dfCons (dOp kIxA (dVar 1) (dVar 2)) dfNil)) dfNil))) (dSl (dVar 1) (dPart (dOp kAdd (dVar 2) (dC (.int 1)))) dNoPart)))) sNext) (sSeq (sIf (dTest (dIsi (dVar 1) "str")) (sRet (dCallS 0 s_qbent_text (dfCons (dVar 1) dfNil))) sNext) (sSeq (sIf (dTest (dIsi (dVar 1) "int")) (sRet (dOp kIxA (dLst (dfCons (dOp kAdd (dVar 1) (dC (.int 1))) (dfCons (dOp (kI0 fun i j => .int (i - j)) (dVar 1) (dC (.int 1))) (dfCons (dUn kNeg (dVar 1)) (dfCons (dC (.bool true)) (dfCons (dCB kStrI (daCons (dVar 1) daNil)) (dfCons (dC .none) (dfCons (dC (.int 0)) (dfCons (dC (.int 1)) (dfCons (dC (.int 2)) dfNil)))))))))) (dCallS 0 s_qnext (dfCons (dC (.int 9)) dfNil)))) sNext) (sSeq (sIf (dTest (dOp (kIsN false) (dVar 1) (dC .none))) (sRet (dOp kIxA (dLst (dfCons (dC (.str (Str.ofString "a"))) (dfCons (dC (.str (Str.ofString "zzzz"))) (dfCons (dC (.str (Str.ofString "zzzzz"))) (dfCons (dC (.str (Str.ofString ""))) (dfCons (dC (.int 0)) dfNil)))))) (dCallS 0 s_qnext (dfCons (dC (.int 5)) dfNil)))) sNext) (sSeq (sSet 2 (dCallS 0 s_qnext (dfCons (dOp kAdd (dCB kLen (daCons (dVar 1) daNil)) (dC (.int 1))) dfNil))) (sSeq (sSet 3 (dLst (dfCons (dCB kList (daCons (dVar 1) daNil)) (dfCons (dOp kAdd (dSl (dVar 1) dNoPart (dPart (dVar 2))) (dSl (dVar 1) (dPart (dOp kAdd (dVar 2) (dC (.int 1)))) dNoPart)) (dfCons (dOp kAdd (dSl (dVar 1) dNoPart (dPart (dVar 2))) (dSl (dVar 1) (dPart (dOp (kI0 fun i j => .int (i - j)) (dVar 2) (dC (.int 1)))) dNoPart)) dfNil))))) (sSeq (sSet 3 (dOp kAdd (dVar 3) (dLst (dfCons (dRevA (dVar 1)) (dfCons (dOp kAdd (dSl (dVar 1) (dPart (dVar 2)) dNoPart) (dSl (dVar 1) dNoPart (dPart (dVar 2)))) (dfCons (dOp kAdd (dVar 1) (dVar 1)) dfNil)))))) (sSeq (sSet 3 (dOp kAdd (dVar 3) (dLst (dfCons (dSl (dVar 1) dNoPart (dPart (dC (.int 1)))) (dfCons (dOp kAdd (dVar 1) (dTup (dfCons (dC .none) dfNil))) (dfCons (dTup dfNil) dfNil)))))) (sRet (dOp kIxA (dVar 3) (dCallS 0 s_qnext (dfCons (dC (.int 9)) dfNil))))))))))))
def s_qbent : Nat → DSp
  | 0 => fun _ _ => False
  | k + 1 => ownSp 2 2 (r_qbent (s_qbent k))
theorem s_qbent_len : ∀ (k : Nat) (qs : List Sl) (A), s_qbent k qs A → qs.length = 2
  | 0, _, _, h => h.elim
  | _ + 1, _, _, h => h.1
theorem ok_qbent {f : Addr} {fd : FuncData} (F : Fun K "_law_bent" "_law_bent" stqbent f fd) (z_int : mg "int" = none) (z_isinstance : mg "isinstance" = none) (z_len : mg "len" = none) (z_list : mg "list" = none) (z_str : mg "str" = none) (z_tuple : mg "tuple" = none) {gqnext : Addr} {gdqnext : FuncData} (G_qnext : FnOk P w K mg base CX0 1 gqnext gdqnext ["_law_state_here", "_law_size"] (spD K 2 s_qnext)) (b_qnext : Binds K gdqnext ["_law_state_here", "_law_size"] []) (k_qnext : PySem.W.keepIn K (.ref gqnext) = true) (m_qnext : mg "_law_next" = some (.ref gqnext)) {gqbent_text : Addr} {gdqbent_text : FuncData} (G_qbent_text : FnOk P w K mg base CX0 2 gqbent_text gdqbent_text ["_law_state_here", "_law_text"] (spD K 2 s_qbent_text)) (b_qbent_text : Binds K gdqbent_text ["_law_state_here", "_law_text"] []) (k_qbent_text : PySem.W.keepIn K (.ref gqbent_text) = true) (m_qbent_text : mg "_law_bent_text" = some (.ref gqbent_text)) (b_qbent : Binds K fd ["_law_state_here", "_law_whole"] []) (k_qbent : PySem.W.keepIn K (.ref f) = true) (m_qbent : mg "_law_bent" = some (.ref f)) : ∀ k : Nat, FnOk P w K mg base CX0 (2 + k) f fd ["_law_state_here", "_law_whole"] (spD K 2 (s_qbent k))
  | 0 => FnOk_no rfl
  | k + 1 => (fun (S_rec : DSp) (S_len : ∀ (qs : List Sl) (A), S_rec qs A → qs.length = 2) (G_qbent : FnOk P w K mg base CX0 (2 + k) f fd ["_law_state_here", "_law_whole"] (spD K 2 S_rec)) =>
  (fnD F scqbent rfl (r_qbent S_rec) (fun cdv A outer s H E hr =>
    (dss_cons (ds_if (PW.pt (dw_and (dt_val (dv_isi (dv 1) rfl z_isinstance (by decide +kernel) rfl z_tuple (by decide +kernel))) (dw_and (dt_cmp (op_neA hr.units) od_neA (dv 1) (dv_tup df_nil) (nomark _)) (dw_and1 (dt_cmp op_gt (od_B0 _) (dv_callS 0 G_qnext (ownSp_len) (hr.mono (by omega)) rfl m_qnext k_qnext b_qnext (df_cons dv_int df_nil)) dv_int (nomark _)))))) (dss_cons (ds_set (i := 2) scqbent.nd rfl (.inl rfl) (dv_callS 0 G_qnext (ownSp_len) (hr.mono (by omega)) rfl m_qnext k_qnext b_qnext (df_cons (dv_callB call_len cd_len rfl z_len PySem.boot_len (da_cons (dv 1) da_nil)) df_nil)))
    (dss_one (ds_ret (dv_op op_addA od_addA (dv_op op_addA od_addA (dv_sl (dv 1) do_none (do_some (dv 2))) (dv_tup (df_cons (dv_callS 0 G_qbent (S_len) hr rfl m_qbent k_qbent b_qbent (df_cons (dv_ix ix_seq od_ixA (dv 1) (dv 2) (fun _ _ => rfl)) df_nil)) df_nil))) (dv_sl (dv 1) (do_some (dv_op op_addA od_addA (dv 2) dv_int)) do_none))))) dss_nil)
    (dss_cons (ds_if (dt_val (dv_isi (dv 1) rfl z_isinstance (by decide +kernel) rfl z_str (by decide +kernel))) (dss_one (ds_ret (dv_callS 0 G_qbent_text (ownSp_len) (hr.mono (by omega)) rfl m_qbent_text k_qbent_text b_qbent_text (df_cons (dv 1) df_nil)))) dss_nil)
    (dss_cons (ds_if (dt_val (dv_isi (dv 1) rfl z_isinstance (by decide +kernel) rfl z_int (by decide +kernel))) (dss_one (ds_ret (dv_ix ix_seq od_ixA (dv_lst (df_cons (dv_op op_addA od_addA (dv 1) dv_int) (df_cons (dv_op op_sub (od_I0 _) (dv 1) dv_int) (df_cons (dv_neg (dv 1)) (df_cons dv_bl (df_cons (dv_callTy call_str_int cd_strI rfl z_str (by decide +kernel) (da_cons (dv 1) da_nil)) (df_cons dv_non (df_cons dv_int (df_cons dv_int (df_cons dv_int df_nil)))))))))) (dv_callS 0 G_qnext (ownSp_len) (hr.mono (by omega)) rfl m_qnext k_qnext b_qnext (df_cons dv_int df_nil)) (fun _ _ => rfl)))) dss_nil)
    (dss_cons (ds_if (dt_cmp op_isN od_isN (dv 1) dv_non (nomark _)) (dss_one (ds_ret (dv_ix ix_seq od_ixA (dv_lst (df_cons dv_str (df_cons dv_str (df_cons dv_str (df_cons dv_str (df_cons dv_int df_nil)))))) (dv_callS 0 G_qnext (ownSp_len) (hr.mono (by omega)) rfl m_qnext k_qnext b_qnext (df_cons dv_int df_nil)) (fun _ _ => rfl)))) dss_nil)
    (dss_cons (ds_set (i := 2) scqbent.nd rfl (.inl rfl) (dv_callS 0 G_qnext (ownSp_len) (hr.mono (by omega)) rfl m_qnext k_qnext b_qnext (df_cons (dv_op op_addA od_addA (dv_callB call_len cd_len rfl z_len PySem.boot_len (da_cons (dv 1) da_nil)) dv_int) df_nil)))
    (dss_cons (ds_set (i := 3) scqbent.nd rfl (.inl rfl) (dv_lst (df_cons (dv_callTy call_list_of cd_list rfl z_list (by decide +kernel) (da_cons (dv 1) da_nil)) (df_cons (dv_op op_addA od_addA (dv_sl (dv 1) do_none (do_some (dv 2))) (dv_sl (dv 1) (do_some (dv_op op_addA od_addA (dv 2) dv_int)) do_none)) (df_cons (dv_op op_addA od_addA (dv_sl (dv 1) do_none (do_some (dv 2))) (dv_sl (dv 1) (do_some (dv_op op_sub (od_I0 _) (dv 2) dv_int)) do_none)) df_nil)))))
    (dss_cons (ds_set (i := 3) scqbent.nd rfl (.inl rfl) (dv_op op_addA od_addA (dv 3) (dv_lst (df_cons (dv_revA (dv 1)) (df_cons (dv_op op_addA od_addA (dv_sl (dv 1) (do_some (dv 2)) do_none) (dv_sl (dv 1) do_none (do_some (dv 2)))) (df_cons (dv_op op_addA od_addA (dv 1) (dv 1)) df_nil))))))
    (dss_cons (ds_set (i := 3) scqbent.nd rfl (.inl rfl) (dv_op op_addA od_addA (dv 3) (dv_lst (df_cons (dv_sl (dv 1) do_none (do_some dv_int)) (df_cons (dv_op op_addA od_addA (dv 1) (dv_tup (df_cons dv_non df_nil))) (df_cons (dv_tup df_nil) df_nil))))))
    (dss_one (ds_ret (dv_ix ix_seq od_ixA (dv 3) (dv_callS 0 G_qnext (ownSp_len) (hr.mono (by omega)) rfl m_qnext k_qnext b_qnext (df_cons dv_int df_nil)) (fun _ _ => rfl))))))))))))) (fun _ _ _ h => h.2) : FnOk P w K mg base CX0 (2 + k + 1) f fd ["_law_state_here", "_law_whole"] (spD K 2 (ownSp 2 2 (r_qbent S_rec))))) (s_qbent k) (s_qbent_len k) (ok_qbent F z_int z_isinstance z_len z_list z_str z_tuple G_qnext b_qnext k_qnext m_qnext G_qbent_text b_qbent_text k_qbent_text m_qbent_text b_qbent k_qbent m_qbent k)
/-! #### _law_is_tie -/
abbrev stqis_tie : Stmt := topS 14
theorem scqis_tie : FnScope ["_law_thing", "_law_deal", "_law_key", "_law_letters", "_law_sign"] ["_law_thing"] (defScope stqis_tie) := ⟨rfl, rfl, rfl, by decide +kernel, rfl, by decide +kernel, by decide +kernel⟩
def b_qis_tie_1 : TDS := (sIf (dOr (dNot (dTest (dIsi (dVar 1) "int"))) (dOr (dTest (dIsi (dVar 1) "bool")) (dTest (dOp (kI0 fun i j => .bool (decide (i < j))) (dVar 1) (dC (.int 0)))))) (sRet (dC (.bool false))) sNext)
theorem b_qis_tie_1_eq {D : DEnds} {ε : Ep} : ev (b_qis_tie_1 D ε) = ev ((sIf (dOr (dNot (dTest (dIsi (dVar 1) "int"))) (dOr (dTest (dIsi (dVar 1) "bool")) (dTest (dOp (kI0 fun i j => .bool (decide (i < j))) (dVar 1) (dC (.int 0)))))) (sRet (dC (.bool false))) sNext) D ε) := rfl
def r_qis_tie : TDS := (sSeq (sIf (dOr (dNot (dTest (dIsi (dVar 0) "tuple"))) (dOr (dTest (dOp (kEqA (!·)) (dCB kLen (daCons (dVar 0) daNil)) (dC (.int 4)))) (dNot (dTest (dIsi (dOp kIxA (dVar 0) (dC (.int 0))) "str"))))) (sRet (dC (.bool false))) sNext) (sSeq (sIf (dTest (dOp (kIn true) (dOp kIxA (dVar 0) (dC (.int 0))) (dTup (dfCons (dC (.str (Str.ofString "hand"))) (dfCons (dC (.str (Str.ofString "time"))) (dfCons (dC (.str (Str.ofString "from"))) (dfCons (dC (.str (Str.ofString "over"))) (dfCons (dC (.str (Str.ofString "past"))) dfNil)))))))) (sRet (dC (.bool false))) sNext) (sSeq (sForA (dSl (dVar 0) (dPart (dC (.int 1))) (dPart (dC (.int 3)))) (gNm 1) b_qis_tie_1) (sSeq (sIf (dTest (dOp (kEqA id) (dOp kIxA (dVar 0) (dC (.int 1))) (dOp kIxA (dVar 0) (dC (.int 2))))) (sRet (dC (.bool false))) sNext) (sSeq (sSet 2 (dOp kIxA (dVar 0) (dC (.int 3)))) (sSeq (sIf (dOr (dTest (dOp (kIn false) (dOp kIxA (dVar 0) (dC (.int 0))) (dTup (dfCons (dC (.str (Str.ofString "hand"))) (dfCons (dC (.str (Str.ofString "time"))) dfNil))))) (dNot (dTest (dIsi (dVar 2) "str")))) (sRet (dAndV (dOp (kIsN false) (dVar 2) (dC .none)) (dOp (kIn false) (dOp kIxA (dVar 0) (dC (.int 0))) (dTup (dfCons (dC (.str (Str.ofString "hand"))) (dfCons (dC (.str (Str.ofString "time"))) dfNil)))))) sNext) (sSeq (sSet 3 (dC (.str (Str.ofString "abcdefghijklmnopqrstuvwxyz")))) (sRet (dAndV (dChain (kI0 fun i j => .bool (decide (i < j))) (kI0 fun i j => .bool (decide (i < j))) (dC (.int 0)) (dCB kLen (daCons (dVar 2) daNil)) (dC (.int 5))) (dOp (kEqA id) (dLcA (dVar 2) (gNm 4) (dTest (dOp (kInS true) (dVar 4) (dVar 3))) (dVar 4) [4]) (dLst dfNil)))))))))))
def s_qis_tie : DSp := ownSp 1 4 r_qis_tie
theorem ok_qis_tie {f : Addr} {fd : FuncData} (F : Fun K "_law_is_tie" "_law_is_tie" stqis_tie f fd) (z_bool : mg "bool" = none) (z_int : mg "int" = none) (z_isinstance : mg "isinstance" = none) (z_len : mg "len" = none) (z_str : mg "str" = none) (z_tuple : mg "tuple" = none) : FnOk P w K mg base CX0 (0 + 1) f fd ["_law_thing"] (spD K 1 s_qis_tie) :=
  fnD F scqis_tie rfl r_qis_tie (fun cdv A outer s H E hr =>
    (dss_cons (ds_if (PW.pt (dw_or (dt_not (dt_val (dv_isi (dv 0) rfl z_isinstance (by decide +kernel) rfl z_tuple (by decide +kernel)))) (dw_or (dt_cmp (op_neA hr.units) od_neA (dv_callB call_len cd_len rfl z_len PySem.boot_len (da_cons (dv 0) da_nil)) dv_int (nomark _)) (dw_or1 (dt_not (dt_val (dv_isi (dv_ix ix_seq od_ixA (dv 0) dv_int (fun _ _ => rfl)) rfl z_isinstance (by decide +kernel) rfl z_str (by decide +kernel)))))))) (dss_one (ds_ret dv_bl)) dss_nil)
    (dss_cons (ds_if (dt_cmp op_notIn_seq (od_in true) (dv_ix ix_seq od_ixA (dv 0) dv_int (fun _ _ => rfl)) (dv_tup (df_cons dv_str (df_cons dv_str (df_cons dv_str (df_cons dv_str (df_cons dv_str df_nil)))))) (by rfl)) (dss_one (ds_ret dv_bl)) dss_nil)
    (dss_cons (ds_forA PassesOwn.never rfl (dv_sl (dv 0) (do_some dv_int) (do_some dv_int)) (dg_nm scqis_tie.nd rfl (.inl rfl)) (dss_one (ds_if (PW.pt (dw_or (dt_not (dt_val (dv_isi (dv 1) rfl z_isinstance (by decide +kernel) rfl z_int (by decide +kernel)))) (dw_or (dt_val (dv_isi (dv 1) rfl z_isinstance (by decide +kernel) rfl z_bool (by decide +kernel))) (dw_or1 (dt_cmp op_lt (od_B0 _) (dv 1) dv_int (nomark _)))))) (dss_one (ds_ret dv_bl)) dss_nil)))
    (dss_cons (ds_if (dt_cmp (op_eqA hr.units) od_eqA (dv_ix ix_seq od_ixA (dv 0) dv_int (fun _ _ => rfl)) (dv_ix ix_seq od_ixA (dv 0) dv_int (fun _ _ => rfl)) (nomark _)) (dss_one (ds_ret dv_bl)) dss_nil)
    (dss_cons (ds_set (i := 2) scqis_tie.nd rfl (.inl rfl) (dv_ix ix_seq od_ixA (dv 0) dv_int (fun _ _ => rfl)))
    (dss_cons (ds_if (PW.pt (dw_or (dt_cmp op_in_seq (od_in false) (dv_ix ix_seq od_ixA (dv 0) dv_int (fun _ _ => rfl)) (dv_tup (df_cons dv_str (df_cons dv_str df_nil))) (by rfl)) (dw_or1 (dt_not (dt_val (dv_isi (dv 2) rfl z_isinstance (by decide +kernel) rfl z_str (by decide +kernel))))))) (dss_one (ds_ret (dv_and (dv_cmp op_isN od_isN (dv 2) dv_non (nomark _)) (dv_one (dv_cmp op_in_seq (od_in false) (dv_ix ix_seq od_ixA (dv 0) dv_int (fun _ _ => rfl)) (dv_tup (df_cons dv_str (df_cons dv_str df_nil))) (by rfl)))))) dss_nil)
    (dss_cons (ds_set (i := 3) scqis_tie.nd rfl (.inr rfl) dv_str)
    (dss_one (ds_ret (dv_and (dv_chain op_lt op_lt (od_B0 _) (od_B0 _) dv_int (dv_callB call_len cd_len rfl z_len PySem.boot_len (da_cons (dv 2) da_nil)) dv_int) (dv_one (dv_cmp (op_eqA hr.units) od_eqA (dv_lcA (own := [("_law_sign", 4)]) rfl scqis_tie.nd (dv 2) (by exact ⟨blkOk_by (N := (["_law_thing", "_law_deal", "_law_key", "_law_letters", "_law_sign"] : List Str)) (sc := defScope stqis_tie) (own := [("_law_sign", 4)]) (by decide +kernel), by decide, fun _ _ _ _ _ => (dg_nm scqis_tie.nd rfl (.inl rfl)), fun _ _ _ _ _ => (dts_one (dt_cmp op_notIn_sign od_notinS (dv 4) (dv 3) (by rfl))), fun _ _ _ _ _ => (dv 4)⟩)) (dv_lst df_nil) (nomark _)))))))))))))) (fun _ _ _ h => h.2)
/-! #### _law_is_circle -/
abbrev stqis_circle : Stmt := topS 15
theorem scqis_circle : FnScope ["_law_thing", "_law_one", "_law_at"] ["_law_thing"] (defScope stqis_circle) := ⟨rfl, rfl, rfl, by decide +kernel, rfl, by decide +kernel, by decide +kernel⟩
def r_qis_circle : TDS := (sSeq (sIf (dOr (dNot (dTest (dIsi (dVar 0) "tuple"))) (dTest (dOp (kI0 fun i j => .bool (decide (i < j))) (dCB kLen (daCons (dVar 0) daNil)) (dC (.int 2))))) (sRet (dC (.bool false))) sNext) (sSeq (sIf (dTest (dOp (kEqA (!·)) (dLcA (dVar 0) (gNm 1) (dNot (dTest (dCall s_qis_tie (dfCons (dVar 1) dfNil)))) (dVar 1) [1]) (dLst dfNil))) (sRet (dC (.bool false))) sNext) (sRet (dOp (kEqA id) (dLcR (daCons (dCB kLen (daCons (dVar 0) daNil)) daNil) (gNm 2) (dTest (dOp (kEqA (!·)) (dOp kIxA (dOp kIxA (dVar 0) (dOp (kI0 fun i j => .int (i - j)) (dVar 2) (dC (.int 1)))) (dC (.int 2))) (dOp kIxA (dOp kIxA (dVar 0) (dVar 2)) (dC (.int 1))))) (dVar 2) [2]) (dLst dfNil)))))
def s_qis_circle : DSp := ownSp 1 2 r_qis_circle
theorem ok_qis_circle {f : Addr} {fd : FuncData} (F : Fun K "_law_is_circle" "_law_is_circle" stqis_circle f fd) (z_isinstance : mg "isinstance" = none) (z_len : mg "len" = none) (z_range : mg "range" = none) (z_tuple : mg "tuple" = none) {gqis_tie : Addr} {gdqis_tie : FuncData} (G_qis_tie : FnOk P w K mg base CX0 1 gqis_tie gdqis_tie ["_law_thing"] (spD K 1 s_qis_tie)) (b_qis_tie : Binds K gdqis_tie ["_law_thing"] []) (k_qis_tie : PySem.W.keepIn K (.ref gqis_tie) = true) (m_qis_tie : mg "_law_is_tie" = some (.ref gqis_tie)) : FnOk P w K mg base CX0 (1 + 1) f fd ["_law_thing"] (spD K 1 s_qis_circle) :=
  fnD F scqis_circle rfl r_qis_circle (fun cdv A outer s H E hr =>
    (dss_cons (ds_if (PW.pt (dw_or (dt_not (dt_val (dv_isi (dv 0) rfl z_isinstance (by decide +kernel) rfl z_tuple (by decide +kernel)))) (dw_or1 (dt_cmp op_lt (od_B0 _) (dv_callB call_len cd_len rfl z_len PySem.boot_len (da_cons (dv 0) da_nil)) dv_int (nomark _))))) (dss_one (ds_ret dv_bl)) dss_nil)
    (dss_cons (ds_if (dt_cmp (op_neA hr.units) od_neA (dv_lcA (own := [("_law_one", 1)]) rfl scqis_circle.nd (dv 0) (by exact ⟨blkOk_by (N := (["_law_thing", "_law_one", "_law_at"] : List Str)) (sc := defScope stqis_circle) (own := [("_law_one", 1)]) (by decide +kernel), by decide, fun _ _ _ _ _ => (dg_nm scqis_circle.nd rfl (.inl rfl)), fun _ _ _ _ _ => (dts_one (dt_not (dt_val (dv_call G_qis_tie (ownSp_len) (hr.mono (by decide)) rfl m_qis_tie k_qis_tie b_qis_tie (df_cons (dv 1) df_nil))))), fun _ _ _ _ _ => (dv 1)⟩)) (dv_lst df_nil) (nomark _)) (dss_one (ds_ret dv_bl)) dss_nil)
    (dss_one (ds_ret (dv_cmp (op_eqA hr.units) od_eqA (dv_lcR (own := [("_law_at", 2)]) rfl scqis_circle.nd rfl z_range (da_cons (dv_callB call_len cd_len rfl z_len PySem.boot_len (da_cons (dv 0) da_nil)) da_nil) (by exact ⟨blkOk_by (N := (["_law_thing", "_law_one", "_law_at"] : List Str)) (sc := defScope stqis_circle) (own := [("_law_at", 2)]) (by decide +kernel), by decide, fun _ _ _ _ _ => (dg_nm scqis_circle.nd rfl (.inl rfl)), fun _ _ _ _ _ => (dts_one (dt_cmp (op_neA hr.units) od_neA (dv_ix ix_seq od_ixA (dv_ix ix_seq od_ixA (dv 0) (dv_op op_sub (od_I0 _) (dv 2) dv_int) (fun _ _ => rfl)) dv_int (fun _ _ => rfl)) (dv_ix ix_seq od_ixA (dv_ix ix_seq od_ixA (dv 0) (dv 2) (fun _ _ => rfl)) dv_int (fun _ _ => rfl)) (nomark _))), fun _ _ _ _ _ => (dv 2)⟩)) (dv_lst df_nil) (nomark _))))))) (fun _ _ _ h => h.2)
/-! #### law -/
abbrev stlaw : Stmt := topS 19
theorem sclaw : FnScope ["_law_script", "_law_k", "_law_state_here", "_law_links", "_law_things", "_law_turn", "_law_thing", "_law_found"] ["_law_script"] (defScope stlaw) := ⟨rfl, rfl, rfl, by decide +kernel, rfl, by decide +kernel, by decide +kernel⟩
def b_law_2 : TDS := (sSeq (sSet 7 (dCall s_is_circle (dfCons (dVar 6) dfNil))) (sIf (dOr (dNot (dTest (dIsi (dVar 7) "bool"))) (dTest (dOp (kEqA (!·)) (dVar 7) (dCall s_qis_circle (dfCons (dVar 6) dfNil))))) (sRet (dC (.bool false))) sNext))
theorem b_law_2_eq {D : DEnds} {ε : Ep} : ev (b_law_2 D ε) = ev ((sSeq (sSet 7 (dCall s_is_circle (dfCons (dVar 6) dfNil))) (sIf (dOr (dNot (dTest (dIsi (dVar 7) "bool"))) (dTest (dOp (kEqA (!·)) (dVar 7) (dCall s_qis_circle (dfCons (dVar 6) dfNil))))) (sRet (dC (.bool false))) sNext)) D ε) := rfl
def b_law_1 : TDS := (sSeq (sSet 2 (dCall s_qstate (dfCons (dVar 0) (dfCons (dVar 1) dfNil)))) (sSeq (sSet 3 (dCallS 2 s_qkeyed (dfCons (dCallS 2 s_qring (dfCons (dOp kAdd (dC (.int 2)) (dCallS 2 s_qnext (dfCons (dC (.int 5)) dfNil))) dfNil)) dfNil))) (sSeq (sSet 4 (dOp kAdd (dLst (dfCons (dVar 3) dfNil)) (dLcR (daCons (dC (.int 6)) daNil) (gNm 5) dYes (dCallS 2 (s_qbent 4) (dfCons (dVar 3) dfNil)) [5]))) (sForA (dOp kAdd (dVar 4) (dLst (dfCons (dVar 3) dfNil))) (gNm 6) b_law_2))))
theorem b_law_1_eq {D : DEnds} {ε : Ep} : ev (b_law_1 D ε) = ev ((sSeq (sSet 2 (dCall s_qstate (dfCons (dVar 0) (dfCons (dVar 1) dfNil)))) (sSeq (sSet 3 (dCallS 2 s_qkeyed (dfCons (dCallS 2 s_qring (dfCons (dOp kAdd (dC (.int 2)) (dCallS 2 s_qnext (dfCons (dC (.int 5)) dfNil))) dfNil)) dfNil))) (sSeq (sSet 4 (dOp kAdd (dLst (dfCons (dVar 3) dfNil)) (dLcR (daCons (dC (.int 6)) daNil) (gNm 5) dYes (dCallS 2 (s_qbent 4) (dfCons (dVar 3) dfNil)) [5]))) (sForA (dOp kAdd (dVar 4) (dLst (dfCons (dVar 3) dfNil))) (gNm 6) b_law_2)))) D ε) := rfl
def r_law : TDS := (sSeq (sForR (daCons (dCB (kI2 fun i j => if j > i then j else i) (daCons (dC (.int 1)) (daCons (dCB (kI2 fun i j => if j < i then j else i) (daCons (dCB kLen (daCons (dVar 0) daNil)) (daCons (dC (.int 63)) daNil))) daNil))) daNil) (gNm 1) b_law_1) (sRet (dC (.bool true))))
def s_law : DSp := ownSp 1 7 r_law
theorem ok_law {f : Addr} {fd : FuncData} (F : Fun K "law" "law" stlaw f fd) (z_bool : mg "bool" = none) (z_isinstance : mg "isinstance" = none) (z_len : mg "len" = none) (z_max : mg "max" = none) (z_min : mg "min" = none) (z_range : mg "range" = none) {gqstate : Addr} {gdqstate : FuncData} (G_qstate : FnOk P w K mg base CX0 1 gqstate gdqstate ["_law_script", "_law_k"] (spD K 2 s_qstate)) (b_qstate : Binds K gdqstate ["_law_script", "_law_k"] []) (k_qstate : PySem.W.keepIn K (.ref gqstate) = true) (m_qstate : mg "_law_state" = some (.ref gqstate)) {gqkeyed : Addr} {gdqkeyed : FuncData} (G_qkeyed : FnOk P w K mg base CX0 2 gqkeyed gdqkeyed ["_law_state_here", "_law_links"] (spD K 2 s_qkeyed)) (b_qkeyed : Binds K gdqkeyed ["_law_state_here", "_law_links"] []) (k_qkeyed : PySem.W.keepIn K (.ref gqkeyed) = true) (m_qkeyed : mg "_law_keyed" = some (.ref gqkeyed)) {gqring : Addr} {gdqring : FuncData} (G_qring : FnOk P w K mg base CX0 2 gqring gdqring ["_law_state_here", "_law_size"] (spD K 2 s_qring)) (b_qring : Binds K gdqring ["_law_state_here", "_law_size"] []) (k_qring : PySem.W.keepIn K (.ref gqring) = true) (m_qring : mg "_law_ring" = some (.ref gqring)) {gqnext : Addr} {gdqnext : FuncData} (G_qnext : FnOk P w K mg base CX0 1 gqnext gdqnext ["_law_state_here", "_law_size"] (spD K 2 s_qnext)) (b_qnext : Binds K gdqnext ["_law_state_here", "_law_size"] []) (k_qnext : PySem.W.keepIn K (.ref gqnext) = true) (m_qnext : mg "_law_next" = some (.ref gqnext)) {gqbent : Addr} {gdqbent : FuncData} (G_qbent : FnOk P w K mg base CX0 6 gqbent gdqbent ["_law_state_here", "_law_whole"] (spD K 2 (s_qbent 4))) (b_qbent : Binds K gdqbent ["_law_state_here", "_law_whole"] []) (k_qbent : PySem.W.keepIn K (.ref gqbent) = true) (m_qbent : mg "_law_bent" = some (.ref gqbent)) {gis_circle : Addr} {gdis_circle : FuncData} (G_is_circle : FnOk P w K mg base CX0 3 gis_circle gdis_circle ["thing"] (spD K 1 s_is_circle)) (b_is_circle : Binds K gdis_circle ["thing"] []) (k_is_circle : PySem.W.keepIn K (.ref gis_circle) = true) (m_is_circle : mg "is_circle" = some (.ref gis_circle)) {gqis_circle : Addr} {gdqis_circle : FuncData} (G_qis_circle : FnOk P w K mg base CX0 2 gqis_circle gdqis_circle ["_law_thing"] (spD K 1 s_qis_circle)) (b_qis_circle : Binds K gdqis_circle ["_law_thing"] []) (k_qis_circle : PySem.W.keepIn K (.ref gqis_circle) = true) (m_qis_circle : mg "_law_is_circle" = some (.ref gqis_circle)) : FnOk P w K mg base CX0 (6 + 1) f fd ["_law_script"] (spD K 1 s_law) :=
  fnD F sclaw rfl r_law (fun cdv A outer s H E hr =>
    (dss_cons (ds_forR PassesOwn.never rfl rfl z_range (da_cons (dv_callB (call_max2 rfl) cd_max2 rfl z_max (by decide +kernel) (da_cons dv_int (da_cons (dv_callB (call_min2 rfl) cd_min2 rfl z_min (by decide +kernel) (da_cons (dv_callB call_len cd_len rfl z_len PySem.boot_len (da_cons (dv 0) da_nil)) (da_cons dv_int da_nil))) da_nil))) da_nil) (dg_nm sclaw.nd rfl (.inl rfl)) (dss_cons (ds_set (i := 2) sclaw.nd rfl (.inr rfl) (dv_call G_qstate (ownSp_len) (hr.mono (by decide)) rfl m_qstate k_qstate b_qstate (df_cons (dv 0) (df_cons (dv 1) df_nil))))
    (dss_cons (ds_set (i := 3) sclaw.nd rfl (.inr rfl) (dv_callS 2 G_qkeyed (ownSp_len) (hr.mono (by decide)) rfl m_qkeyed k_qkeyed b_qkeyed (df_cons (dv_callS 2 G_qring (ownSp_len) (hr.mono (by decide)) rfl m_qring k_qring b_qring (df_cons (dv_op op_addA od_addA dv_int (dv_callS 2 G_qnext (ownSp_len) (hr.mono (by decide)) rfl m_qnext k_qnext b_qnext (df_cons dv_int df_nil))) df_nil)) df_nil)))
    (dss_cons (ds_set (i := 4) sclaw.nd rfl (.inl rfl) (dv_op op_addA od_addA (dv_lst (df_cons (dv 3) df_nil)) (dv_lcR (own := [("_law_turn", 5)]) rfl sclaw.nd rfl z_range (da_cons dv_int da_nil) (by exact ⟨blkOk_by (N := (["_law_script", "_law_k", "_law_state_here", "_law_links", "_law_things", "_law_turn", "_law_thing", "_law_found"] : List Str)) (sc := defScope stlaw) (own := [("_law_turn", 5)]) (by decide +kernel), by decide, fun _ _ _ _ _ => (dg_nm sclaw.nd rfl (.inl rfl)), fun _ _ _ _ _ => dts_nil, fun _ _ _ _ _ => (dv_callS 2 G_qbent (s_qbent_len _) (hr.mono (by decide)) rfl m_qbent k_qbent b_qbent (df_cons (dv 3) df_nil))⟩))))
    (dss_one (ds_forA PassesOwn.never rfl (dv_op op_addA od_addA (dv 4) (dv_lst (df_cons (dv 3) df_nil))) (dg_nm sclaw.nd rfl (.inl rfl)) (dss_cons (ds_set (i := 7) sclaw.nd rfl (.inl rfl) (dv_call G_is_circle (ownSp_len) (hr.mono (by decide)) rfl m_is_circle k_is_circle b_is_circle (df_cons (dv 6) df_nil)))
    (dss_one (ds_if (PW.pt (dw_or (dt_not (dt_val (dv_isi (dv 7) rfl z_isinstance (by decide +kernel) rfl z_bool (by decide +kernel)))) (dw_or1 (dt_cmp (op_neA hr.units) od_neA (dv 7) (dv_call G_qis_circle (ownSp_len) (hr.mono (by decide)) rfl m_qis_circle k_qis_circle b_qis_circle (df_cons (dv 6) df_nil)) (nomark _))))) (dss_one (ds_ret dv_bl)) dss_nil)))))))))
    (dss_one (ds_ret dv_bl)))) (fun _ _ _ h => h.2)
end
end Cl

namespace Cl
open PySem PySem.Spec PyProof.Rows L2 DL
/-! ### small facts of data -/
theorem sh_int (i : Int) : SeqAt.shaped (.int i) = true := rfl
theorem sh_none : SeqAt.shaped .none = true := rfl
theorem sh_bool (i : Bool) : SeqAt.shaped (.bool i) = true := rfl
theorem sh_nil : SeqAt.shaped (.list []) = true := rfl
theorem sh_nilT : SeqAt.shaped (.tuple []) = true := rfl
theorem eqv_int (i j : Int) : PyData.eqv (.int i) (.int j) = (i == j) := by simp [PyData.eqv]
theorem eqv_nil (xs : List PyData) : PyData.eqv (.list xs) (.list []) = xs.isEmpty := by cases xs <;> simp [PyData.eqv, PyData.eqvAll]
def fine (n : Nat) (x : PyData) : Prop := x.canLay0 = true ∧ x.depth ≤ n
theorem fine_int (n : Nat) (i : Int) : fine n (.int i) := ⟨rfl, Nat.zero_le _⟩
theorem fine_none (n : Nat) : fine n .none := ⟨rfl, Nat.zero_le _⟩
theorem fine_all {n : Nat} : ∀ {xs : List PyData}, (∀ x ∈ xs, fine n x) → PyData.canLayAll0 xs = true ∧ PyData.depthAll xs ≤ n
  | [], _ => ⟨rfl, Nat.zero_le _⟩
  | x :: xs, h => by
    obtain ⟨h1, h2⟩ := h x List.mem_cons_self
    obtain ⟨h3, h4⟩ := fine_all (xs := xs) fun y hy => h y (List.mem_cons_of_mem _ hy)
    exact ⟨by simp [PyData.canLayAll0, h1, h3], by simp only [PyData.depthAll]; omega⟩
theorem fine_list {n : Nat} {xs : List PyData} (h : ∀ x ∈ xs, fine n x) : fine (n + 1) (.list xs) := by
  obtain ⟨h1, h2⟩ := fine_all h
  exact ⟨by simp [PyData.canLay0, h1], by simp only [PyData.depth]; omega⟩
theorem fine_tuple {n : Nat} {xs : List PyData} (h : ∀ x ∈ xs, fine n x) : fine (n + 1) (.tuple xs) := by
  obtain ⟨h1, h2⟩ := fine_all h
  exact ⟨by simp [PyData.canLay0, h1], by simp only [PyData.depth]; omega⟩
theorem fine_sh {n : Nat} {x : PyData} (h : fine n x) (hn : n ≤ 64) : SeqAt.shaped x = true := by
  unfold SeqAt.shaped
  rw [h.1, decide_eq_true (Nat.le_trans h.2 hn)]
  rfl
theorem fine_ints (n : Nat) (ns : List Int) : ∀ x ∈ ns.map PyData.int, fine n x := fun x hx => by
  obtain ⟨i, _, rfl⟩ := List.mem_map.mp hx
  exact fine_int n i
theorem sh_ints (ns : List Int) : SeqAt.shaped (.list (ns.map .int)) = true := fine_sh (fine_list (fine_ints 0 ns)) (by decide)
theorem eqv_rfl {x : PyData} (h : SeqAt.shaped x = true) : PyData.eqv x x = true := SeqAt.eqv_refl _ (SeqAt.canLay_of_shaped h)
theorem flat_ints (ns : List Int) : (ns.map PyData.int).all flatD = true := by
  rw [List.all_eq_true]
  intro x hx
  obtain ⟨i, _, rfl⟩ := List.mem_map.mp hx
  rfl
theorem in_ints (k : Int) (ns : List Int) : inD (.int k) (ns.map .int) = ns.contains k := by
  unfold inD
  induction ns with
  | nil => rfl
  | cons a r ih => rw [List.map_cons, List.any_cons, ih, List.contains_cons, eqv_int, Bool.beq_comm]
theorem map_erase {α β : Type} (g : α → β) : ∀ (l : List α) (i : Nat), (l.map g).eraseIdx i = (l.eraseIdx i).map g
  | [], _ => rfl
  | _ :: _, 0 => rfl
  | a :: r, i + 1 => by
    show g a :: (r.map g).eraseIdx i = g a :: (r.eraseIdx i).map g
    rw [map_erase g r i]
theorem perm_erase {α : Type} : ∀ (l : List α) (i : Nat) (h : i < l.length), (([l[i]] : List α) ++ l.eraseIdx i).Perm l
  | [], _, h => absurd h (Nat.not_lt_zero _)
  | _ :: _, 0, _ => List.Perm.refl _
  | a :: r, i + 1, h => by
    have q := perm_erase r i (Nat.lt_of_succ_lt_succ h)
    exact (List.Perm.swap a (r[i]'(Nat.lt_of_succ_lt_succ h)) (r.eraseIdx i)).trans (q.cons a)
theorem at0 {α : Type} (x : α) (xs : List α) : atI (x :: xs) 0 = some x := atI_nat (j := 0) rfl
theorem at1 {α : Type} (x y : α) (xs : List α) : atI (x :: y :: xs) 1 = some y := atI_nat (j := 1) rfl
theorem at2 {α : Type} (x y z : α) (xs : List α) : atI (x :: y :: z :: xs) 2 = some z := atI_nat (j := 2) rfl
theorem at_nat {α : Type} {xs : List α} {i : Int} (h0 : 0 ≤ i) (h1 : i < (xs.length : Int)) : ∃ x, atI xs i = some x ∧ x ∈ xs ∧ xs[i.toNat]? = some x := by
  obtain ⟨k, rfl⟩ : ∃ k : Nat, i = (k : Int) := ⟨i.toNat, by omega⟩
  have hk : k < xs.length := by omega
  exact ⟨xs[k], atI_nat (List.getElem?_eq_getElem hk), List.getElem_mem hk, List.getElem?_eq_getElem hk⟩
theorem at_int {xs : List Int} {i : Int} (h0 : 0 ≤ i) (h1 : i < (xs.length : Int)) : ∃ x, atI (xs.map PyData.int) i = some (.int x) ∧ x ∈ xs := by
  obtain ⟨x, e, hm, _⟩ := at_nat (xs := xs.map PyData.int) h0 (by rw [List.length_map]; exact h1)
  obtain ⟨y, hy, rfl⟩ := List.mem_map.mp hm
  exact ⟨y, e, hy⟩
theorem ixN1 {n : Nat} : ixN (n + 2) 1 = some 1 := by
  unfold ixN
  rw [if_pos (by decide), if_pos (by omega)]
  rfl
theorem at3 {α : Type} (x y z u : α) (xs : List α) : atI (x :: y :: z :: u :: xs) 3 = some u := atI_nat (j := 3) rfl
theorem onB_neg {b : Bool} {X Y : Prop} (h : onB b Y X) : onB (!b) X Y := by
  cases b <;> exact h
theorem onB_case {b : Bool} {X Y : Prop} (h1 : b = true → X) (h2 : b = false → Y) : onB b X Y := by
  cases b
  · exact h2 rfl
  · exact h1 rfl
theorem ix_any {n : Nat} {i : Int} (h0 : -(n : Int) ≤ i) (h1 : i < n) : ixN n i = some (if 0 ≤ i then i.toNat else (i + n).toNat) := by
  unfold ixN
  by_cases h : 0 ≤ i
  · rw [if_pos h, if_pos h1, if_pos h]
  · rw [if_neg h, if_neg h, if_pos h0]
theorem at_any {α : Type} {xs : List α} {i : Int} (h0 : -(xs.length : Int) ≤ i) (h1 : i < (xs.length : Int)) : ∃ x ∈ xs, atI xs i = some x ∧ xs[if 0 ≤ i then i.toNat else (i + xs.length).toNat]? = some x := by
  have hk : (if 0 ≤ i then i.toNat else (i + xs.length).toNat) < xs.length := by split <;> omega
  refine ⟨xs[if 0 ≤ i then i.toNat else (i + xs.length).toNat], List.getElem_mem hk, ?_, List.getElem?_eq_getElem hk⟩
  unfold atI
  rw [ix_any h0 h1]
  exact List.getElem?_eq_getElem hk
theorem rng_ints (lo : Int) (n : Nat) : rngD lo n = ((List.range n).map fun i => lo + ((i : Nat) : Int)).map .int := by
  unfold rngD
  rw [List.map_map]
  rfl
theorem eqv_ss (x y : Str) : PyData.eqv (.str x) (.str y) = (x == y) := by simp [PyData.eqv]
theorem eqv_bool (a b : Bool) : PyData.eqv (.bool a) (.bool b) = (a == b) := by simp [PyData.eqv]
theorem dec_tt : decide (true = true) = true := rfl
theorem dec_ft : decide (false = true) = false := rfl
theorem dec_tf : decide (true = false) = false := rfl
theorem dec_T {h : Decidable True} : @decide True h = true := by cases h <;> simp
theorem dec_F {h : Decidable False} : @decide False h = false := by cases h <;> simp
theorem dec_ff : decide (false = false) = true := rfl

local macro_rules | `(tactic| walk_at "x") => `(tactic| (refine ev_of ?_; simp only [ap_seq, ap_next, ap_brk, ap_cnt, ap_expr, ap_ret, ap_retN, ap_if, ap_asg, ap_set, ap_seti, ap_par, ap_dput, ap_forL, ap_forT, ap_forR, ap_while, ap_nm, ap_gtp, ap_gnil, ap_gcons, ap_var, ap_c, ap_op, ap_un, ap_test, ap_and, ap_or, ap_not, ap_yes, ap_andV, ap_orV, ap_notV, ap_ifE, ap_anil, ap_acons, ap_fnil, ap_fcons, ap_tup, ap_lst, ap_dct, ap_cb, ap_isi, ap_sl, ap_nopart, ap_part, ap_lstrg, ap_mut, ap_call, ap_callS, ap_din, ap_lcL, ap_lcT, ap_lcR, ap_lcB, ap_forB, ap_lcnil, ap_lccons, wp_nil, wp_cons, rs_nil, rs_cons, kp_d, kp_un, eq_self,
  ev_ev, kd_i, kd_s, if_true, if_false, Bool.false_eq_true, Bool.not_true, Bool.not_false, List.isEmpty_nil, List.isEmpty_cons, ev_and, ev_t, ev_f, ev_s, k_I0, k_I, k_EqL0, k_EqT0, k_EqLT, k_EqTL, k_EqI, k_EqB, k_EqS, k_EqN, k_EqLc, k_EqTc, id_eq, k_IsN, k_InL, k_InT, k_Cat, k_IxL, k_IxT, k_LenL, k_LenT, k_ListL, k_ListT, k_TupleL, k_TupleT, k_I2, k_Abs, k_Neg, k_App, k_PopAt, lk_0, lk_s, pt_0, pt_s, peek, peekAll, frz, slOf, unbor, sh_int, sh_none, sh_bool, sh_nil, sh_nilT, sh_ints, eqv_int, eqv_ss, eqv_bool, eqv_nil, at0, at1, at2, at3, ixN1, List.length_cons, List.length_nil, List.set_cons_succ, List.set_cons_zero, true_and, and_true, List.map_cons, List.map_nil, List.nil_append, List.cons_append, flatD, List.length_map, flat_ints, in_ints, ap_rev, ap_chain, ap_lcS, k_IsB, k_IntI, k_IntB, k_CatT, k_Rep, k_InS, k_LenS,
  ap_revA, ap_slA, ap_joinC, k_SlL, k_SlT, k_SlS, k_CatS, k_RepS, k_AxL, k_AxT, k_AxS, k_StrI, ap_forA, ap_lcA, it_L, it_T, it_S, k_AdI, k_AdL, k_AdT, k_AdS, k_MuI, k_MuL, k_MuS, Nat.zero_le, kit_tuple, kit_list, kit_str, kit_int, kit_bool, kit_dict, isN_none, isN_bool, isN_int, isN_str, isN_list, isN_tuple, isN_dict, isTup_none, isTup_bool, isTup_int, isTup_str, isTup_list, isTup_tuple, isTup_dict, isLst_none, isLst_bool, isLst_int, isLst_str, isLst_list, isLst_tuple, isLst_dict, isStr_none, isStr_bool, isStr_int, isStr_str, isStr_list, isStr_tuple, isStr_dict, isInt_none, isInt_bool, isInt_int, isInt_str, isInt_list, isInt_tuple, isInt_dict, isBool_none, isBool_bool, isBool_int, isBool_str, isBool_list, isBool_tuple, isBool_dict, isDict_none, isDict_bool, isDict_int, isDict_str, isDict_list, isDict_tuple, isDict_dict, dec_tt, dec_ft, dec_tf, dec_ff, dec_T, dec_F]))
local macro_rules | `(tactic| walk_at "s") => `(tactic| (repeat with_reducible refine And.intro (by first | assumption | omega | exact True.intro | rfl | (simp; done) | (simp; omega) | decide) ?_))
/-! ### draws -/
abbrev Dr := Int × Int × Int
def drL (s : Dr) : List PyData := [.int s.1, .int s.2.1, .int s.2.2]
theorem next_wp {s : Dr} {n : Int} (h0 : 0 < n) (h1 : n < 1000000) {k : Vl → List Sl → Prop} (h : ∀ (r : Int) (s' : Dr), 0 ≤ r → r < n → k (.d (.int r)) [.lst false (drL s'), .un]) : runS s_qnext [.lst false (drL s), .d (.int n)] k := by
  obtain ⟨f, x, y⟩ := s
  refine ⟨rfl, ?_⟩
  show r_qnext _ [.lst false [.int f, .int x, .int y], .d (.int n), .un, .un]
  unfold r_qnext
  walk_at "x"
  refine onB_beq (fun hf => ?_) fun hf => ?_
  · walk_at "x"
    exact ⟨h0, ⟨h0, by omega⟩, h _ (_, _, _) (Int.emod_nonneg _ (by omega)) (Int.emod_lt_of_pos _ h0)⟩
  · walk_at "x"
    refine ⟨.inr (by decide), by decide, .inl ?_, by decide, .inl ?_, by decide, ⟨by decide, by decide⟩, h0, h _ (_, _, _) (Int.emod_nonneg _ (by omega)) (Int.emod_lt_of_pos _ h0)⟩
    · omega
    · omega
theorem state_wp {ns : List Int} {i : Int} (h0 : 0 ≤ i) (h1 : ns.length ≤ 1000) {k : Vl → List Sl → Prop} (h : ∀ (s : Dr) (ps : List Sl), k (.new (drL s)) ps) : runS s_qstate [.d (.list (ns.map .int)), .d (.int i)] k := by
  refine ⟨rfl, ?_⟩
  show r_qstate _ [.d (.list (ns.map .int)), .d (.int i), .un, .un]
  unfold r_qstate
  have hh : ∀ (a b c : Int) (ps : List Sl), k (.new [.int a, .int b, .int c]) ps := fun a b c ps => h (a, b, c) ps
  walk_at "x"
  refine ⟨.inl (by decide), onB_dec (fun hl => ?_) fun hl => ?_⟩
  · obtain ⟨x, hx, _⟩ := at_int (xs := ns) (i := i % (ns.length : Int)) (Int.emod_nonneg _ (by omega)) (Int.emod_lt_of_pos _ hl)
    walk_at "x"
    refine ⟨hl, onO_of hx ?_⟩
    walk_at "x"
    refine ⟨⟨hl, by omega⟩, .inl (by decide), ⟨by decide, by decide⟩, by decide, onB_beq (fun hb => ?_) fun hb => ?_⟩
    · walk_at "x"
      exact ⟨by decide, .inr (by decide), .inl (by decide), by decide, by decide, by decide, hh _ _ _ _⟩
    · walk_at "x"
      exact ⟨by decide, by decide, hh _ _ _ _⟩
  · walk_at "x"
    refine ⟨⟨by decide, by decide⟩, by decide, onB_beq (fun hb => ?_) fun hb => ?_⟩
    · walk_at "x"
      exact ⟨by decide, .inr (by decide), .inl (by decide), by decide, by decide, by decide, hh _ _ _ _⟩
    · walk_at "x"
      exact ⟨by decide, by decide, hh _ _ _ _⟩
/-- a comprehension whose items are fine, its slots under an invariant -/
theorem lc_inv {g : TDG} {tt : TDT} {te : TD} {vs : List Nat} {I : Ep → Prop} {Pe : PyData → Prop} {A : List PyData → Ep → Prop} : ∀ (its acc : List PyData) (ε : Ep),
    (∀ x ∈ its, ∀ ε, I ε → ∀ (B : Vl → Ep → Prop) (C : Ep → Prop), (∀ y ε', Pe y → I (wipeE ε' vs) → B (.d y) ε') → (∀ ε', I (wipeE ε' vs) → C ε') → g x ε fun ε1 => tt ε1 fun b ε2 => onB b (te ε2 B) (C ε2)) →
    I ε → (∀ y ∈ acc, Pe y) → acc.length + its.length ≤ 1000000 → (∀ ys ε', (∀ y ∈ ys, Pe y) → ys.length ≤ acc.length + its.length → I ε' → A ys ε') → lcGo noI g tt te vs A its acc ε
  | [], acc, ε, _, hi, ha, _, h => ⟨trivial, h _ _ ha (by simp) hi⟩
  | x :: its, acc, ε, h1, hi, ha, hl, h => by
    rw [List.length_cons] at hl
    refine ⟨trivial, h1 x List.mem_cons_self ε hi _ (fun ε2 => lcGo noI g tt te vs A its acc (wipeE ε2 vs)) (fun y ε' hy hi' => ?_) fun ε' hi' => ?_⟩
    · show acc.length < 1000000 ∧ lcGo noI g tt te vs A its (acc ++ [y]) (wipeE ε' vs)
      refine ⟨by omega, lc_inv its _ _ (fun z hz => h1 z (List.mem_cons_of_mem _ hz)) hi' (fun z hz => ?_) (by simp; omega) fun ys ε2 q1 q2 q3 => h ys ε2 q1 (by simp at q2 ⊢; omega) q3⟩
      rcases List.mem_append.mp hz with hz | hz
      · exact ha z hz
      · rw [List.mem_singleton.mp hz]; exact hy
    · show lcGo noI g tt te vs A its acc (wipeE ε' vs)
      exact lc_inv its _ _ (fun z hz => h1 z (List.mem_cons_of_mem _ hz)) hi' ha (by omega) fun ys ε2 q1 q2 q3 => h ys ε2 q1 (by simp; omega) q3
/-- .. each turn giving one -/
theorem lc_all {g : TDG} {te : TD} {vs : List Nat} {I : Ep → Prop} {Pe : PyData → Prop} {A : List PyData → Ep → Prop} : ∀ (its acc : List PyData) (ε : Ep),
    (∀ x ∈ its, ∀ ε, I ε → ∀ (B : Vl → Ep → Prop), (∀ y ε', Pe y → I (wipeE ε' vs) → B (.d y) ε') → g x ε fun ε1 => te ε1 B) →
    I ε → (∀ y ∈ acc, Pe y) → acc.length + its.length ≤ 1000000 → (∀ ys ε', (∀ y ∈ ys, Pe y) → ys.length = acc.length + its.length → I ε' → A ys ε') → lcGo noI g dYes te vs A its acc ε
  | [], acc, ε, _, hi, ha, _, h => ⟨trivial, h _ _ ha (by simp) hi⟩
  | x :: its, acc, ε, h1, hi, ha, hl, h => by
    rw [List.length_cons] at hl
    refine ⟨trivial, h1 x List.mem_cons_self ε hi _ fun y ε' hy hi' => ?_⟩
    show acc.length < 1000000 ∧ lcGo noI g dYes te vs A its (acc ++ [y]) (wipeE ε' vs)
    refine ⟨by omega, lc_all its _ _ (fun z hz => h1 z (List.mem_cons_of_mem _ hz)) hi' (fun z hz => ?_) (by simp; omega) fun ys ε2 q1 q2 q3 => h ys ε2 q1 (by simp at q2 ⊢; omega) q3⟩
    rcases List.mem_append.mp hz with hz | hz
    · exact ha z hz
    · rw [List.mem_singleton.mp hz]; exact hy
/-- a walk under an invariant -/
theorem for_inv {g : TDG} {b : TDS} {A : DEnds} {I : Ep → Prop} : ∀ (its : List PyData) (ε : Ep), (∀ x ∈ its, ∀ ε, I ε → ∀ B : DEnds, B.rt = A.rt → B.bk = A.nx → (∀ ε', I ε' → B.nx ε') → (∀ ε', I ε' → B.ct ε') → g x ε fun ε1 => b B ε1) → I ε → (∀ ε', I ε' → A.nx ε') → forGo noI g b A its ε
  | [], ε, _, hi, h => ⟨trivial, h ε hi⟩
  | x :: its, ε, hb, hi, h => by
    refine ⟨trivial, hb x List.mem_cons_self ε hi _ rfl rfl (fun ε' hi' => ?_) fun ε' hi' => ?_⟩
    · exact for_inv its ε' (fun z hz => hb z (List.mem_cons_of_mem _ hz)) hi' h
    · exact for_inv its ε' (fun z hz => hb z (List.mem_cons_of_mem _ hz)) hi' h
/-- a walk under an invariant that counts -/
theorem for_ix {g : TDG} {b : TDS} {A : DEnds} {I : Nat → Ep → Prop} : ∀ (its : List PyData) (i : Nat) (ε : Ep), (∀ (j : Nat) (x : PyData), its[j]? = some x → ∀ ε, I (i + j) ε → ∀ B : DEnds, B.rt = A.rt → B.bk = A.nx → (∀ ε', I (i + j + 1) ε' → B.nx ε') → (∀ ε', I (i + j + 1) ε' → B.ct ε') → g x ε fun ε1 => b B ε1) → I i ε → (∀ ε', I (i + its.length) ε' → A.nx ε') → forGo noI g b A its ε
  | [], i, ε, _, hi, h => ⟨trivial, h ε hi⟩
  | x :: its, i, ε, hb, hi, h => by
    have rest : ∀ ε', I (i + 1) ε' → forGo noI g b A its ε' := fun ε' hi' => by
      refine for_ix its (i + 1) ε' (fun j z hz ε2 h2 B b1 b2 b3 b4 => hb (j + 1) z (by simpa using hz) ε2 (by rw [show i + (j + 1) = i + 1 + j by omega]; exact h2) B b1 b2 (fun ε3 h3 => b3 ε3 (by rw [show i + 1 + j + 1 = i + (j + 1) + 1 by omega]; exact h3)) fun ε3 h3 => b4 ε3 (by rw [show i + 1 + j + 1 = i + (j + 1) + 1 by omega]; exact h3)) hi' fun ε2 h2 => h ε2 ?_
      rw [List.length_cons, show i + (its.length + 1) = i + 1 + its.length by omega]
      exact h2
    exact ⟨trivial, hb 0 x rfl ε hi _ rfl rfl rest rest⟩

/-! ### what a circle is -/
def letters : Str := Str.ofString "abcdefghijklmnopqrstuvwxyz"
def keyB : PyData → Bool
  | .str s => decide (1 ≤ (s.length : Int)) && decide ((s.length : Int) ≤ 4) && s.cps.toList.all fun c => decide (c ∈ letters.cps.toList)
  | _ => false
def placeB : PyData → Bool
  | .int i => decide (0 ≤ i)
  | _ => false
def words : List PyData := [.str (Str.ofString "hand"), .str (Str.ofString "time"), .str (Str.ofString "from"), .str (Str.ofString "over"), .str (Str.ofString "past")]
def keyless : List PyData := [.str (Str.ofString "hand"), .str (Str.ofString "time")]
def linkB : PyData → Bool
  | .tuple [.str w, a, b, k] => inD (.str w) words && placeB a && placeB b && !PyData.eqv a b && (if inD (.str w) keyless then isN k else keyB k)
  | _ => false
def okS (x : PyData) : Prop := ∀ s, x = .str s → s.length ≤ 1000
def okL (x : PyData) : Prop := ∀ ys, x = .tuple ys → ∀ y ∈ ys, okS y
def okC (x : PyData) : Prop := ∀ ls, x = .tuple ls → ls.length ≤ 1000 ∧ ∀ l ∈ ls, okL l
def e1 : PyData → PyData
  | .tuple [_, a, _, _] => a
  | _ => .none
def e2 : PyData → PyData
  | .tuple [_, _, b, _] => b
  | _ => .none
def leadsAt (ls : List PyData) (i : Int) : Bool := match atI ls (i - 1), atI ls i with
  | some x, some y => PyData.eqv (e2 x) (e1 y)
  | _, _ => false
def leadOf (ls : List PyData) : PyData → Bool
  | .int i => leadsAt ls i
  | _ => false
def leadB (ls : List PyData) : Bool := (rngD 0 ls.length).all (leadOf ls)
def circB : PyData → Bool
  | .tuple ls => decide (2 ≤ (ls.length : Int)) && ls.all linkB && leadB ls
  | _ => false
theorem sign1_c (c : Nat) : sign1 ⟨#[c]⟩ = some c := rfl
theorem is_key_wp {x : PyData} (hx : okS x) {k : Vl → List Sl → Prop} (h : ∀ ps, k (.d (.bool (keyB x))) ps) : runS s_is_key [.d x] k := by
  refine ⟨rfl, ?_⟩
  show r_is_key _ [.d x, .un]
  unfold r_is_key
  cases x with
  | str s =>
    have hz := hx s rfl
    walk_at "x"
    refine ⟨by omega, onB_dec (fun h1 => ?_) fun h1 => ?_⟩
    · walk_at "x"
      refine onB_dec (fun h2 => ?_) fun h2 => ?_
      · walk_at "x"
        refine lc_map (f := fun x => match x with | .str s => .bool (decide (s.cps.toList.headD 0 ∈ letters.cps.toList)) | _ => .none) (e := fun x => [.d (.str s), .d x]) _ _ (fun x hx B hB => ?_) (fun _ _ => rfl) ?_ ?_
        · obtain ⟨c, _, rfl⟩ := List.mem_map.mp hx
          walk_at "x"
          refine onO_of (sign1_c c) ?_
          exact hB
        · simp only [DL.signs, List.length_nil, List.length_map, Array.length_toList]
          have : s.length = s.cps.size := rfl
          omega
        · walk_at "x"
          refine ⟨s.cps.toList.map fun c => decide (c ∈ letters.cps.toList), ?_, ?_⟩
          · simp only [DL.signs, List.map_map, List.nil_append]; exact congrArg (fun z => [PyData.list z]) (List.map_congr_left fun c _ => rfl)
          · have e : keyB (.str s) = (s.cps.toList.map fun c => decide (c ∈ letters.cps.toList)).all id := by
              simp only [keyB, decide_eq_true h1, decide_eq_true h2, Bool.true_and, List.all_map]
              rfl
            rw [← e]
            exact h _
      · have e : keyB (.str s) = false := by simp only [keyB, decide_eq_false h2, Bool.and_false, Bool.false_and]
        rw [e] at h
        exact h _
    · have e : keyB (.str s) = false := by simp only [keyB, decide_eq_false h1, Bool.false_and]
      rw [e] at h
      exact h _
  | _ => walk_at "x"; exact h _
theorem is_place_wp {x : PyData} {k : Vl → List Sl → Prop} (h : ∀ ps, k (.d (.bool (placeB x))) ps) : runS s_is_place [.d x] k := by
  refine ⟨rfl, ?_⟩
  show r_is_place _ [.d x]
  unfold r_is_place
  cases x <;> (walk_at "x"; exact h _)
theorem at_len {α : Type} {xs : List α} (h : (xs.length : Int) = 4) : ∃ a b c d, xs = [a, b, c, d] := by
  match xs, h with
  | [a, b, c, d], _ => exact ⟨a, b, c, d, rfl⟩
  | [], h => simp at h
  | [_], h => simp at h
  | [_, _], h => simp at h
  | [_, _, _], h => simp at h
  | _ :: _ :: _ :: _ :: _ :: _, h => simp at h; omega
theorem link_len {xs : List PyData} (h : ¬ (xs.length : Int) = 4) : linkB (.tuple xs) = false := by
  unfold linkB
  split
  · rename_i e
    cases e
    exact absurd rfl h
  · rfl
theorem place_int {x : PyData} (h : placeB x = true) : ∃ i, x = .int i ∧ 0 ≤ i := by
  unfold placeB at h
  split at h
  · exact ⟨_, rfl, of_decide_eq_true h⟩
  · cases h
theorem is_link_wp {x : PyData} (hx : okL x) {k : Vl → List Sl → Prop} (h : ∀ ps, k (.d (.bool (linkB x))) ps) : runS s_is_link [.d x] k := by
  refine ⟨rfl, ?_⟩
  show r_is_link _ [.d x]
  unfold r_is_link
  cases x with
  | tuple xs =>
    walk_at "x"
    refine onB_neg (onB_beq (fun hl => ?_) fun hl => ?_)
    · obtain ⟨w, a, b, k, rfl⟩ := at_len hl
      cases w with
      | str w =>
        walk_at "x"
        refine ⟨rfl, onB_neg (onB_case (fun hw => ?_) fun hw => ?_)⟩
        · walk_at "x"
          refine is_place_wp fun _ => ?_
          walk_at "x"
          refine onB_neg (onB_case (fun ha => ?_) fun ha => ?_)
          · walk_at "x"
            refine is_place_wp fun _ => ?_
            walk_at "x"
            refine onB_neg (onB_case (fun hb => ?_) fun hb => ?_)
            · obtain ⟨i, rfl, _⟩ := place_int ha
              obtain ⟨j, rfl, _⟩ := place_int hb
              walk_at "x"
              have hw2 : inD (.str w) words = true := hw
              refine onB_beq (fun he => ?_) fun he => ?_
              · subst he
                rw [show linkB (.tuple [.str w, .int i, .int i, k]) = false by simp [linkB, eqv_int]] at h
                walk_at "x"
                exact h _
              · have he2 : (i == j) = false := by simpa using he
                have hh : linkB (.tuple [.str w, .int i, .int j, k]) = if inD (.str w) keyless then isN k else keyB k := by
                  simp only [linkB, hw2, ha, hb, eqv_int, he2, Bool.true_and, Bool.not_false]
                rw [hh] at h
                walk_at "x"
                refine ⟨rfl, onB_case (fun hk => ?_) fun hk => ?_⟩
                · have hk : inD (.str w) keyless = true := hk
                  rw [if_pos hk] at h
                  walk_at "x"
                  exact h _
                · have hk : inD (.str w) keyless = false := hk
                  rw [hk] at h
                  walk_at "x"
                  exact is_key_wp (hx _ rfl k (by simp)) fun _ => h _
            · rw [show linkB (.tuple [.str w, a, b, k]) = false by simp [linkB, hb]] at h
              walk_at "x"
              exact h _
          · rw [show linkB (.tuple [.str w, a, b, k]) = false by simp [linkB, ha]] at h
            walk_at "x"
            exact h _
        · have hw2 : inD (.str w) words = false := hw
          rw [show linkB (.tuple [.str w, a, b, k]) = false by simp [linkB, hw2]] at h
          walk_at "x"
          exact h _
      | _ => walk_at "x"; exact h _
    · rw [link_len hl] at h
      walk_at "x"
      exact h _
  | _ => walk_at "x"; exact h _
theorem link_form {x : PyData} (h : linkB x = true) : ∃ w i j k, x = .tuple [.str w, .int i, .int j, k] := by
  unfold linkB at h
  split at h
  · simp only [Bool.and_eq_true] at h
    obtain ⟨i, rfl, _⟩ := place_int h.1.1.1.2
    obtain ⟨j, rfl, _⟩ := place_int h.1.1.2
    exact ⟨_, _, _, _, rfl⟩
  · cases h
theorem lead_at {ls : List PyData} (hl : ∀ l ∈ ls, ∃ w i j k, l = .tuple [.str w, .int i, .int j, k]) {i : Int} (h0 : 0 ≤ i) (h1 : i < (ls.length : Int)) :
    ∃ w a b k w' a' b' k', atI ls (i - 1) = some (.tuple [.str w, .int a, .int b, k]) ∧ atI ls i = some (.tuple [.str w', .int a', .int b', k']) ∧ leadOf ls (.int i) = (b == a') := by
  obtain ⟨x, hx, ex, _⟩ := at_any (xs := ls) (i := i - 1) (by omega) (by omega)
  obtain ⟨y, hy, ey, _⟩ := at_any (xs := ls) (i := i) (by omega) (by omega)
  obtain ⟨w, a, b, k, rfl⟩ := hl x hx
  obtain ⟨w', a', b', k', rfl⟩ := hl y hy
  refine ⟨w, a, b, k, w', a', b', k', ex, ey, ?_⟩
  simp only [leadOf, leadsAt, ex, ey, e1, e2, eqv_int]
theorem is_circle_wp {x : PyData} (hx : okC x) {k : Vl → List Sl → Prop} (h : ∀ ps, k (.d (.bool (circB x))) ps) : runS s_is_circle [.d x] k := by
  refine ⟨rfl, ?_⟩
  show r_is_circle _ [.d x, .un, .un]
  unfold r_is_circle
  cases x with
  | tuple xs =>
    obtain ⟨hz, hL⟩ := hx xs rfl
    walk_at "x"
    refine onB_dec (fun hl => ?_) fun hl => ?_
    · rw [show circB (.tuple xs) = false by simp only [circB, decide_eq_false (show ¬ (2 ≤ (xs.length : Int)) by omega), Bool.false_and]] at h
      walk_at "x"
      exact h _
    · walk_at "x"
      refine lc_map (f := fun x => .bool (linkB x)) (e := fun x => [.d (.tuple xs), .d x, .un]) _ _ (fun x hx B hB => ?_) (fun _ _ => rfl) (by simp; omega) ?_
      · walk_at "x"
        exact is_link_wp (hL x hx) fun _ => hB
      · walk_at "x"
        refine ⟨xs.map linkB, by simp, ?_⟩
        have ea : (xs.map linkB).all id = xs.all linkB := by rw [List.all_map]; rfl
        rw [ea]
        refine onB_neg (onB_case (fun ha => ?_) fun ha => ?_)
        · walk_at "x"
          have ec : circB (.tuple xs) = leadB xs := by simp only [circB, ha, decide_eq_true (show 2 ≤ (xs.length : Int) by omega), Bool.true_and, Bool.and_true]
          refine ⟨by omega, by omega, ?_⟩
          refine lc_map (f := fun x => .bool (leadOf xs x)) (e := fun x => [.d (.tuple xs), .un, .d x]) _ _ (fun x hx B hB => ?_) (fun _ _ => rfl) (by simp [rngD_len]; omega) ?_
          · obtain ⟨j, hj⟩ := List.mem_iff_getElem?.mp hx
            obtain ⟨hj, rfl⟩ := rngD_get hj
            obtain ⟨w, a, b, k, w', a', b', k', q1, q2, q3⟩ := lead_at (fun l hl => link_form (List.all_eq_true.mp ha l hl)) (i := 0 + (j : Int)) (by omega) (by omega)
            walk_at "x"
            refine onO_of q1 ?_
            walk_at "x"
            refine onO_of q2 ?_
            walk_at "x"
            rw [← q3]
            exact hB
          · walk_at "x"
            refine ⟨(rngD 0 xs.length).map (leadOf xs), by simp, ?_⟩
            have ea : ((rngD 0 xs.length).map (leadOf xs)).all id = leadB xs := by rw [List.all_map]; rfl
            rw [ea, ← ec]
            exact h _
        · rw [show circB (.tuple xs) = false by simp only [circB, ha, Bool.false_and, Bool.and_false]] at h
          walk_at "x"
          exact h _
  | _ => walk_at "x"; exact h _

end Cl

namespace Cl
open PySem PySem.Spec PyProof.Rows L2 DL
local macro_rules | `(tactic| walk_at "x") => `(tactic| (refine ev_of ?_; simp only [ap_seq, ap_next, ap_brk, ap_cnt, ap_expr, ap_ret, ap_retN, ap_if, ap_asg, ap_set, ap_seti, ap_par, ap_dput, ap_forL, ap_forT, ap_forR, ap_while, ap_nm, ap_gtp, ap_gnil, ap_gcons, ap_var, ap_c, ap_op, ap_un, ap_test, ap_and, ap_or, ap_not, ap_yes, ap_andV, ap_orV, ap_notV, ap_ifE, ap_anil, ap_acons, ap_fnil, ap_fcons, ap_tup, ap_lst, ap_dct, ap_cb, ap_isi, ap_sl, ap_nopart, ap_part, ap_lstrg, ap_mut, ap_call, ap_callS, ap_din, ap_lcL, ap_lcT, ap_lcR, ap_lcB, ap_forB, ap_lcnil, ap_lccons, wp_nil, wp_cons, rs_nil, rs_cons, kp_d, kp_un, eq_self,
  ev_ev, kd_i, kd_s, if_true, if_false, Bool.false_eq_true, Bool.not_true, Bool.not_false, List.isEmpty_nil, List.isEmpty_cons, ev_and, ev_t, ev_f, ev_s, k_I0, k_I, k_EqL0, k_EqT0, k_EqLT, k_EqTL, k_EqI, k_EqB, k_EqS, k_EqN, k_EqLc, k_EqTc, id_eq, k_IsN, k_InL, k_InT, k_Cat, k_IxL, k_IxT, k_LenL, k_LenT, k_ListL, k_ListT, k_TupleL, k_TupleT, k_I2, k_Abs, k_Neg, k_App, k_PopAt, lk_0, lk_s, pt_0, pt_s, peek, peekAll, frz, slOf, unbor, sh_int, sh_none, sh_bool, sh_nil, sh_nilT, sh_ints, eqv_int, eqv_ss, eqv_bool, eqv_nil, at0, at1, at2, at3, ixN1, List.length_cons, List.length_nil, List.set_cons_succ, List.set_cons_zero, true_and, and_true, List.map_cons, List.map_nil, List.nil_append, List.cons_append, flatD, List.length_map, flat_ints, in_ints, ap_rev, ap_chain, ap_lcS, k_IsB, k_IntI, k_IntB, k_CatT, k_Rep, k_InS, k_LenS,
  ap_revA, ap_slA, ap_joinC, k_SlL, k_SlT, k_SlS, k_CatS, k_RepS, k_AxL, k_AxT, k_AxS, k_StrI, ap_forA, ap_lcA, it_L, it_T, it_S, k_AdI, k_AdL, k_AdT, k_AdS, k_MuI, k_MuL, k_MuS, Nat.zero_le, kit_tuple, kit_list, kit_str, kit_int, kit_bool, kit_dict, isN_none, isN_bool, isN_int, isN_str, isN_list, isN_tuple, isN_dict, isTup_none, isTup_bool, isTup_int, isTup_str, isTup_list, isTup_tuple, isTup_dict, isLst_none, isLst_bool, isLst_int, isLst_str, isLst_list, isLst_tuple, isLst_dict, isStr_none, isStr_bool, isStr_int, isStr_str, isStr_list, isStr_tuple, isStr_dict, isInt_none, isInt_bool, isInt_int, isInt_str, isInt_list, isInt_tuple, isInt_dict, isBool_none, isBool_bool, isBool_int, isBool_str, isBool_list, isBool_tuple, isBool_dict, isDict_none, isDict_bool, isDict_int, isDict_str, isDict_list, isDict_tuple, isDict_dict, dec_tt, dec_ft, dec_tf, dec_ff, dec_T, dec_F]))
local macro_rules | `(tactic| walk_at "s") => `(tactic| (repeat refine And.intro (by first | trivial | assumption | omega | decide | (simp; done) | (simp; omega)) ?_))

/-! ### the law's own look -/
theorem cut13 (w a b k : PyData) : cutD [w, a, b, k] (some 1) (some 3) = [a, b] := rfl
theorem none_left {α : Type} (p : α → Bool) : ∀ l : List α, (l.filter fun x => !p x).isEmpty = l.all p
  | [] => rfl
  | a :: r => by
    rw [List.filter_cons, List.all_cons]
    cases h : p a with
    | true => exact none_left p r
    | false => rfl
theorem qtie_body {D : DEnds} {x : PyData} {s0 s2 s3 s4 : Sl} (h : onB (placeB x) (D.nx [s0, .d x, s2, s3, s4]) (D.rt (.d (.bool false)) [s0, .d x, s2, s3, s4])) : b_qis_tie_1 D [s0, .d x, s2, s3, s4] := by
  refine ev_of ?_
  rw [b_qis_tie_1_eq]
  cases x with
  | int i =>
    walk_at "x"
    have e : placeB (.int i) = !decide (i < 0) := by
      by_cases hi : i < 0
      · rw [decide_eq_true hi]; simp [placeB, show ¬ 0 ≤ i by omega]
      · rw [decide_eq_false hi]; simp [placeB, show 0 ≤ i by omega]
    rw [e] at h
    by_cases hi : i < 0
    · rw [decide_eq_true hi] at h ⊢
      exact h
    · rw [decide_eq_false hi] at h ⊢
      exact h
  | bool b => walk_at "x"; exact h
  | _ => walk_at "x"; exact h
theorem qis_tie_wp {x : PyData} (hx : okL x) {k : Vl → List Sl → Prop} (h : ∀ ps, k (.d (.bool (linkB x))) ps) : runS s_qis_tie [.d x] k := by
  refine ⟨rfl, ?_⟩
  show r_qis_tie _ [.d x, .un, .un, .un, .un]
  unfold r_qis_tie
  cases x with
  | tuple xs =>
    walk_at "x"
    refine onB_neg (onB_beq (fun hl => ?_) fun hl => ?_)
    · obtain ⟨w, a, b, kk, rfl⟩ := at_len hl
      cases w with
      | str w =>
        walk_at "x"
        refine ⟨by decide, rfl, onB_neg (onB_case (fun hw => ?_) fun hw => ?_)⟩
        · have hw2 : inD (.str w) words = true := hw
          walk_at "x"
          rw [cut13]
          refine ⟨trivial, ?_⟩
          refine ev_of ?_
          walk_at "x"
          refine qtie_body (onB_case (fun ha => ?_) fun ha => ?_)
          · refine ⟨trivial, ?_⟩
            refine ev_of ?_
            walk_at "x"
            refine qtie_body (onB_case (fun hb => ?_) fun hb => ?_)
            · obtain ⟨i, rfl, _⟩ := place_int ha
              obtain ⟨j, rfl, _⟩ := place_int hb
              refine ⟨trivial, ?_⟩
              walk_at "x"
              refine onB_beq (fun he => ?_) fun he => ?_
              · subst he
                rw [show linkB (.tuple [.str w, .int i, .int i, kk]) = false by simp [linkB, eqv_int]] at h
                walk_at "x"
                exact h _
              · have he2 : (i == j) = false := by simpa using he
                have hh : linkB (.tuple [.str w, .int i, .int j, kk]) = if inD (.str w) keyless then isN kk else keyB kk := by
                  simp only [linkB, hw2, ha, hb, eqv_int, he2, Bool.true_and, Bool.not_false]
                rw [hh] at h
                walk_at "x"
                refine ⟨by decide, rfl, onB_case (fun hk => ?_) fun hk => ?_⟩
                · have hk : inD (.str w) keyless = true := hk
                  rw [if_pos hk] at h
                  walk_at "x"
                  refine onB_case (fun hn => ?_) fun hn => ?_
                  · rw [hn] at h
                    walk_at "x"
                    rw [show inD (.str w) [.str (Str.ofString "hand"), .str (Str.ofString "time")] = true from hk]
                    exact ⟨by decide, rfl, h _⟩
                  · rw [hn] at h
                    exact h _
                · have hk : inD (.str w) keyless = false := hk
                  rw [hk] at h
                  rw [if_neg Bool.false_ne_true] at h
                  cases kk with
                  | str s =>
                    have hz := hx _ rfl (.str s) (by simp) s rfl
                    walk_at "x"
                    refine ⟨by omega, onB_dec (fun h1 => ?_) fun h1 => ?_⟩
                    · walk_at "x"
                      refine onB_dec (fun h2 => ?_) fun h2 => ?_
                      · walk_at "x"
                        refine lc_mf (p := fun x => match x with | .str s => !decide (s.cps.toList.headD 0 ∈ letters.cps.toList) | _ => true) (f := fun x => x) (e := fun x => [.d (.tuple [.str w, .int i, .int j, .str s]), .d (.int j), .d (.str s), .d (.str letters), .d x]) _ _ (fun x hx B C hB hC => ?_) (fun _ _ => rfl) ?_ ?_
                        · obtain ⟨c, _, rfl⟩ := List.mem_map.mp hx
                          walk_at "x"
                          refine onO_of (sign1_c c) ?_
                          cases hd : decide (c ∈ (Str.ofString "abcdefghijklmnopqrstuvwxyz").cps.toList) with
                          | true => exact hC (by show (!decide (c ∈ letters.cps.toList)) = false; rw [show decide (c ∈ letters.cps.toList) = true from hd]; rfl)
                          | false => exact hB (by show (!decide (c ∈ letters.cps.toList)) = true; rw [show decide (c ∈ letters.cps.toList) = false from hd]; rfl)
                        · simp only [DL.signs, List.length_nil, List.length_map, Array.length_toList]
                          have : s.length = s.cps.size := rfl
                          omega
                        · walk_at "x"
                          have e : keyB (.str s) = (List.map (fun x => x) (List.filter (fun x => match x with | .str s => !decide (s.cps.toList.headD 0 ∈ letters.cps.toList) | _ => true) (DL.signs s))).isEmpty := by
                            rw [List.map_id']
                            have e2 : keyB (.str s) = s.cps.toList.all fun c => decide (c ∈ letters.cps.toList) := by
                              simp only [keyB, decide_eq_true (show 1 ≤ (s.length : Int) by omega), decide_eq_true (show (s.length : Int) ≤ 4 by omega), Bool.true_and]
                            rw [e2]
                            unfold DL.signs
                            rw [List.filter_map, List.isEmpty_map]
                            exact (none_left (fun c => decide (c ∈ letters.cps.toList)) _).symm
                          rw [← e]
                          exact h _
                      · rw [show keyB (.str s) = false by simp only [keyB, decide_eq_false (show ¬ (s.length : Int) ≤ 4 by omega), Bool.and_false, Bool.false_and]] at h
                        exact h _
                    · rw [show keyB (.str s) = false by simp only [keyB, decide_eq_false (show ¬ 1 ≤ (s.length : Int) by omega), Bool.false_and]] at h
                      walk_at "x"
                      exact h _
                  | none =>
                    walk_at "x"
                    refine ⟨by decide, rfl, ?_⟩
                    rw [show inD (.str w) [.str (Str.ofString "hand"), .str (Str.ofString "time")] = false from hk]
                    exact h _
                  | _ => walk_at "x"; exact h _
            · rw [show linkB (.tuple [.str w, a, b, kk]) = false by simp [linkB, hb]] at h
              walk_at "x"
              exact h _
          · rw [show linkB (.tuple [.str w, a, b, kk]) = false by simp [linkB, ha]] at h
            walk_at "x"
            exact h _
        · have hw2 : inD (.str w) words = false := hw
          rw [show linkB (.tuple [.str w, a, b, kk]) = false by simp [linkB, hw2]] at h
          walk_at "x"
          exact h _
      | _ => walk_at "x"; exact h _
    · rw [link_len hl] at h
      walk_at "x"
      exact h _
  | _ => walk_at "x"; exact h _

theorem qis_circle_wp {x : PyData} (hx : okC x) {k : Vl → List Sl → Prop} (h : ∀ ps, k (.d (.bool (circB x))) ps) : runS s_qis_circle [.d x] k := by
  refine ⟨rfl, ?_⟩
  show r_qis_circle _ [.d x, .un, .un]
  unfold r_qis_circle
  cases x with
  | tuple xs =>
    obtain ⟨hz, hL⟩ := hx xs rfl
    walk_at "x"
    refine onB_dec (fun hl => ?_) fun hl => ?_
    · rw [show circB (.tuple xs) = false by simp only [circB, decide_eq_false (show ¬ (2 ≤ (xs.length : Int)) by omega), Bool.false_and]] at h
      walk_at "x"
      exact h _
    · walk_at "x"
      refine lc_mf (p := fun x => !linkB x) (f := fun x => x) (e := fun x => [.d (.tuple xs), .d x, .un]) _ _ (fun x hx B C hB hC => ?_) (fun _ _ => rfl) (by simp; omega) ?_
      · walk_at "x"
        refine qis_tie_wp (hL x hx) fun _ => ?_
        walk_at "x"
        cases hd : linkB x with
        | true => exact hC (by rw [hd]; rfl)
        | false => exact hB (by rw [hd]; rfl)
      · walk_at "x"
        rw [List.map_id', none_left]
        refine onB_neg (onB_case (fun ha => ?_) fun ha => ?_)
        · walk_at "x"
          have ec : circB (.tuple xs) = leadB xs := by simp only [circB, ha, decide_eq_true (show 2 ≤ (xs.length : Int) by omega), Bool.true_and, Bool.and_true]
          refine ⟨by omega, by omega, ?_⟩
          refine lc_mf (p := fun x => !leadOf xs x) (f := fun x => x) (e := fun x => [.d (.tuple xs), .un, .d x]) _ _ (fun x hx B C hB hC => ?_) (fun _ _ => rfl) (by simp [rngD_len]; omega) ?_
          · obtain ⟨j, hj⟩ := List.mem_iff_getElem?.mp hx
            obtain ⟨hj, rfl⟩ := rngD_get hj
            obtain ⟨w, a, b, k, w', a', b', k', q1, q2, q3⟩ := lead_at (fun l hl => link_form (List.all_eq_true.mp ha l hl)) (i := 0 + (j : Int)) (by omega) (by omega)
            walk_at "x"
            refine onO_of q1 ?_
            walk_at "x"
            refine onO_of q2 ?_
            walk_at "x"
            rw [← q3]
            cases hd : leadOf xs (.int (0 + (j : Int))) with
            | true => exact hC (by rw [hd]; rfl)
            | false => exact hB (by rw [hd]; rfl)
          · walk_at "x"
            rw [List.map_id', none_left]
            rw [show (rngD 0 (xs.length : Int).toNat).all (leadOf xs) = leadB xs from rfl, ← ec]
            exact h _
        · rw [show circB (.tuple xs) = false by simp only [circB, ha, Bool.false_and, Bool.and_false]] at h
          walk_at "x"
          exact h _
  | _ => walk_at "x"; exact h _

end Cl

namespace Cl
open PySem PySem.Spec PyProof.Rows L2 DL
local macro_rules | `(tactic| walk_at "x") => `(tactic| (refine ev_of ?_; simp only [ap_seq, ap_next, ap_brk, ap_cnt, ap_expr, ap_ret, ap_retN, ap_if, ap_asg, ap_set, ap_seti, ap_par, ap_dput, ap_forL, ap_forT, ap_forR, ap_while, ap_nm, ap_gtp, ap_gnil, ap_gcons, ap_var, ap_c, ap_op, ap_un, ap_test, ap_and, ap_or, ap_not, ap_yes, ap_andV, ap_orV, ap_notV, ap_ifE, ap_anil, ap_acons, ap_fnil, ap_fcons, ap_tup, ap_lst, ap_dct, ap_cb, ap_isi, ap_sl, ap_nopart, ap_part, ap_lstrg, ap_mut, ap_call, ap_callS, ap_din, ap_lcL, ap_lcT, ap_lcR, ap_lcB, ap_forB, ap_lcnil, ap_lccons, wp_nil, wp_cons, rs_nil, rs_cons, kp_d, kp_un, eq_self,
  ev_ev, kd_i, kd_s, if_true, if_false, Bool.false_eq_true, Bool.not_true, Bool.not_false, List.isEmpty_nil, List.isEmpty_cons, ev_and, ev_t, ev_f, ev_s, k_I0, k_I, k_EqL0, k_EqT0, k_EqLT, k_EqTL, k_EqI, k_EqB, k_EqS, k_EqN, k_EqLc, k_EqTc, id_eq, k_IsN, k_InL, k_InT, k_Cat, k_IxL, k_IxT, k_LenL, k_LenT, k_ListL, k_ListT, k_TupleL, k_TupleT, k_I2, k_Abs, k_Neg, k_App, k_PopAt, lk_0, lk_s, pt_0, pt_s, peek, peekAll, frz, slOf, unbor, sh_int, sh_none, sh_bool, sh_nil, sh_nilT, sh_ints, eqv_int, eqv_ss, eqv_bool, eqv_nil, at0, at1, at2, at3, ixN1, List.length_cons, List.length_nil, List.set_cons_succ, List.set_cons_zero, true_and, and_true, List.map_cons, List.map_nil, List.nil_append, List.cons_append, flatD, List.length_map, flat_ints, in_ints, ap_rev, ap_chain, ap_lcS, k_IsB, k_IntI, k_IntB, k_CatT, k_Rep, k_InS, k_LenS,
  ap_revA, ap_slA, ap_joinC, k_SlL, k_SlT, k_SlS, k_CatS, k_RepS, k_AxL, k_AxT, k_AxS, k_StrI, ap_forA, ap_lcA, it_L, it_T, it_S, k_AdI, k_AdL, k_AdT, k_AdS, k_MuI, k_MuL, k_MuS, Nat.zero_le, kit_tuple, kit_list, kit_str, kit_int, kit_bool, kit_dict, isN_none, isN_bool, isN_int, isN_str, isN_list, isN_tuple, isN_dict, isTup_none, isTup_bool, isTup_int, isTup_str, isTup_list, isTup_tuple, isTup_dict, isLst_none, isLst_bool, isLst_int, isLst_str, isLst_list, isLst_tuple, isLst_dict, isStr_none, isStr_bool, isStr_int, isStr_str, isStr_list, isStr_tuple, isStr_dict, isInt_none, isInt_bool, isInt_int, isInt_str, isInt_list, isInt_tuple, isInt_dict, isBool_none, isBool_bool, isBool_int, isBool_str, isBool_list, isBool_tuple, isBool_dict, isDict_none, isDict_bool, isDict_int, isDict_str, isDict_list, isDict_tuple, isDict_dict, dec_tt, dec_ft, dec_tf, dec_ff, dec_T, dec_F]))
local macro_rules | `(tactic| walk_at "s") => `(tactic| (repeat with_reducible refine And.intro (by first | assumption | omega | exact True.intro | rfl | (simp; done) | (simp; omega) | decide) ?_))

/-! ### a ring of ties -/
def Six (ss : List Int) : Prop := ∀ s ∈ ss, 0 ≤ s ∧ s < 6
def five : List Str := [Str.ofString "hand", Str.ofString "time", Str.ofString "from", Str.ofString "over", Str.ofString "past"]
/-- a flat part of a tie -/
def Flat (x : PyData) : Prop := (∃ s : Str, x = .str s ∧ s.length ≤ 10 ∧ SeqAt.shaped (.str s) = true) ∨ (∃ i : Int, x = .int i ∧ 0 ≤ i ∧ i < 6) ∨ x = .none
def Tie (x : PyData) : Prop := ∃ w a b c, x = .tuple [w, a, b, c] ∧ Flat w ∧ Flat a ∧ Flat b ∧ Flat c
theorem at_anyI {ss : List Int} {i : Int} (h0 : -(ss.length : Int) ≤ i) (h1 : i < (ss.length : Int)) : ∃ v ∈ ss, atI (ss.map PyData.int) i = some (.int v) := by
  obtain ⟨v, hv, e1, e2⟩ := at_any (xs := ss.map PyData.int) (by simpa using h0) (by simpa using h1)
  obtain ⟨u, hu, rfl⟩ := List.mem_map.mp hv
  exact ⟨u, hu, e1⟩
theorem five_at {r : Int} (h0 : 0 ≤ r) (h1 : r < 5) : ∃ w ∈ five, atI [.str (Str.ofString "hand"), .str (Str.ofString "time"), .str (Str.ofString "from"), .str (Str.ofString "over"), .str (Str.ofString "past")] r = some (PyData.str w) := by
  obtain ⟨x, hx, e, _⟩ := at_any (xs := five.map PyData.str) (i := r) (by simp [five]; omega) (by simp [five]; omega)
  obtain ⟨w, hw, rfl⟩ := List.mem_map.mp hx
  exact ⟨w, hw, e⟩
theorem five_flat : ∀ w ∈ five, w.length ≤ 10 ∧ SeqAt.shaped (.str w) = true := by decide +kernel
theorem flat_five {w : Str} (h : w ∈ five) : Flat (.str w) := .inl ⟨w, rfl, (five_flat w h).1, (five_flat w h).2⟩
theorem flat_int {i : Int} (h0 : 0 ≤ i) (h1 : i < 6) : Flat (.int i) := .inr (.inl ⟨i, rfl, h0, h1⟩)
theorem key_at (b : Bool) : ∃ x, atI [PyData.none, .str (Str.ofString "key")] (if b = true then 1 else 0) = some x ∧ Flat x := by
  cases b
  · exact ⟨_, rfl, .inr (.inr rfl)⟩
  · exact ⟨_, rfl, .inl ⟨_, rfl, by decide +kernel, by decide +kernel⟩⟩
theorem ring2 {A : DEnds} {n : Int} {ss : List Int} (h6 : Six ss) (hz : ss.length ≤ 7) {s : Dr} {s3 s5 : Sl} {m : Nat} (hm : m = ss.length) (hA : ∀ (xs : List PyData) (s' : Dr) (s3 s5 : Sl), (∀ x ∈ xs, Tie x) → xs.length = ss.length → A.nx [.lst false (drL s'), .d (.int n), .lst true (ss.map .int), s3, .lst true xs, s5]) :
    forGo noI (gNm 3) b_qring_2 A (rngD 0 m) [.lst false (drL s), .d (.int n), .lst true (ss.map .int), s3, .lst true [], s5] := by
  refine for_ix (I := fun c ε => ∃ (s : Dr) (xs : List PyData) (s3 s5 : Sl), ε = [.lst false (drL s), .d (.int n), .lst true (ss.map .int), s3, .lst true xs, s5] ∧ (∀ x ∈ xs, Tie x) ∧ xs.length = c) _ 0 _ (fun j x hx ε ⟨s, xs, s3, s5, hε, h5, hl⟩ B _ _ hB _ => ?_) ⟨s, [], s3, s5, rfl, (fun x hx => nomatch hx), rfl⟩ fun ε ⟨s, xs, s3, s5, hε, h5, hl⟩ => ?_
  · subst hε
    obtain ⟨hj, rfl⟩ := rngD_get hx
    walk_at "x"
    refine ev_of ?_
    rw [b_qring_2_eq]
    obtain ⟨u, hu, eu⟩ := at_anyI (ss := ss) (i := 0 + (j : Int) - 1) (by omega) (by omega)
    obtain ⟨v, hv, e⟩ := at_anyI (ss := ss) (i := 0 + (j : Int)) (by omega) (by omega)
    walk_at "x"
    walk_at "s"
    refine next_wp (by decide) (by decide) fun r s1 r0 r1 => ?_
    obtain ⟨w, hw, ew⟩ := five_at r0 r1
    walk_at "x"
    refine onO_of ew ?_
    walk_at "x"
    refine onO_of eu ?_
    walk_at "x"
    refine onO_of e ?_
    walk_at "x"
    obtain ⟨kd, ek, fk⟩ := key_at (inD (.str w) [.str (Str.ofString "from"), .str (Str.ofString "over"), .str (Str.ofString "past")])
    walk_at "s"
    refine onO_of ek ?_
    walk_at "x"
    walk_at "s"
    refine hB _ ⟨s1, xs ++ [.tuple [.str w, .int u, .int v, kd]], .d (.int (0 + (j : Int))), .d (.str w), rfl, fun z hz => ?_, by simp; omega⟩
    rcases List.mem_append.mp hz with hz | hz
    · exact h5 z hz
    · rw [List.mem_singleton.mp hz]
      exact ⟨_, _, _, _, rfl, flat_five hw, flat_int (h6 u hu).1 (h6 u hu).2, flat_int (h6 v hv).1 (h6 v hv).2, fk⟩
  · subst hε
    rw [rngD_len] at hl
    exact hA xs s s3 s5 h5 (by omega)
theorem qring_wp {s : Dr} {n : Int} (h2 : 2 ≤ n) (h6 : n ≤ 6) {k : Vl → List Sl → Prop} (h : ∀ (xs : List PyData) (s' : Dr), (∀ x ∈ xs, Tie x) → 1 ≤ xs.length → xs.length ≤ 7 → k (.new xs) [.lst false (drL s'), .un]) : runS s_qring [.lst false (drL s), .d (.int n)] k := by
  refine ⟨rfl, ?_⟩
  show r_qring _ [.lst false (drL s), .d (.int n), .un, .un, .un, .un]
  unfold r_qring
  walk_at "x"
  refine next_wp (by decide) (by decide) fun r s1 r0 r1 => ?_
  walk_at "x"
  refine ⟨by decide, by omega, by omega, ?_⟩
  refine for_ix (I := fun c ε => ∃ (s : Dr) (ss : List Int) (s3 : Sl), ε = [.lst false (drL s), .d (.int n), .lst true (ss.map .int), s3, .un, .un] ∧ Six ss ∧ ss.length = c) _ 1 _ (fun j x hx ε ⟨s, ss, s3, hε, h6, hl⟩ B _ _ hB _ => ?_) ⟨s1, [r], .un, rfl, fun s hs => by rw [List.mem_singleton.mp hs]; exact ⟨r0, r1⟩, rfl⟩ fun ε ⟨s, ss, s3, hε, h6, hl⟩ => ?_
  · subst hε
    have hj := (List.getElem?_eq_some_iff.mp hx).1
    rw [rngD_len] at hj
    walk_at "x"
    refine ev_of ?_
    rw [b_qring_1_eq]
    obtain ⟨v, hv, e⟩ := at_anyI (ss := ss) (i := -1) (by omega) (by omega)
    walk_at "x"
    refine onO_of e ?_
    walk_at "x"
    refine next_wp (by decide) (by decide) fun r s1 r0 r1 => ?_
    walk_at "x"
    have := h6 v hv
    walk_at "s"
    refine hB _ ⟨s1, ss ++ [(v + 1 + r) % 6], .d x, by rw [List.map_append]; rfl, fun s hs => ?_, by simp [hl]⟩
    rcases List.mem_append.mp hs with hs | hs
    · exact h6 s hs
    · rw [List.mem_singleton.mp hs]; omega
  · subst hε
    rw [rngD_len] at hl
    obtain ⟨v, hv, e⟩ := at_anyI (ss := ss) (i := -1) (by omega) (by omega)
    obtain ⟨u, hu, eu⟩ := at_anyI (ss := ss) (i := 0) (by omega) (by omega)
    walk_at "x"
    refine onO_of e ?_
    walk_at "x"
    refine onO_of eu ?_
    walk_at "x"
    refine onB_beq (fun he => ?_) fun he => ?_
    · walk_at "x"
      refine onO_of eu ?_
      walk_at "x"
      refine next_wp (by decide) (by decide) fun r s1 r0 r1 => ?_
      walk_at "x"
      have := h6 u hu
      walk_at "s"
      rw [show ss.map PyData.int ++ [.int ((u + 1 + r) % 6)] = (ss ++ [(u + 1 + r) % 6]).map .int by simp]
      walk_at "x"
      walk_at "s"
      refine ring2 (fun s hs => ?_) (by simp; omega) (by simp) fun xs s' s3 s5 h1 h2 => ?_
      · rcases List.mem_append.mp hs with hs | hs
        · exact h6 s hs
        · rw [List.mem_singleton.mp hs]; omega
      · walk_at "x"
        exact h xs s' h1 (by simp at h2; omega) (by simp at h2; omega)
    · walk_at "x"
      walk_at "s"
      refine ring2 h6 (by omega) (by simp) fun xs s' s3 s5 h1 h2 => ?_
      walk_at "x"
      exact h xs s' h1 (by omega) (by omega)

/-! ### keys of any letters -/
theorem joinS : ∀ cs : List Nat, (Str.join (Str.ofString "") (cs.map fun c => (⟨#[c]⟩ : Str))).cps.toList = cs
  | [] => rfl
  | [c] => rfl
  | c :: d :: r => by
    show ((⟨#[c]⟩ : Str) ++ Str.ofString "" ++ Str.join (Str.ofString "") ((d :: r).map fun c => (⟨#[c]⟩ : Str))).cps.toList = _
    have e : ∀ a b : Str, (a ++ b).cps.toList = a.cps.toList ++ b.cps.toList := fun a b => by
      show (a.cps ++ b.cps).toList = _
      simp
    rw [e, e, joinS (d :: r)]
    rfl
theorem join_signs (cs : List Nat) : (Txt.join (Str.ofString "") (cs.map fun c => (⟨#[c]⟩ : Str))).cps.toList = cs := by
  rw [show Txt.join (Str.ofString "") (cs.map fun c => (⟨#[c]⟩ : Str)) = Str.join (Str.ofString "") (cs.map fun c => (⟨#[c]⟩ : Str)) from PySem.StrLaws.glued_eq_join _ _]
  exact joinS cs
theorem flat_signs {cs : List Nat} (h : ∀ c ∈ cs, c ∈ letters.cps.toList) (hz : cs.length ≤ 10) : Flat (.str (Txt.join (Str.ofString "") (cs.map fun c => (⟨#[c]⟩ : Str)))) := by
  have e := join_signs cs
  refine .inl ⟨_, rfl, ?_, ?_⟩
  · show Array.size _ ≤ 10
    rw [← Array.length_toList, e]
    exact hz
  · have hs : PyData.strOk (Txt.join (Str.ofString "") (cs.map fun c => (⟨#[c]⟩ : Str))) = true := by
      unfold PyData.strOk
      rw [← Array.all_toList, e, List.all_eq_true]
      intro c hc
      have : ∀ c ∈ letters.cps.toList, decide (c < 0x110000) = true := by decide +kernel
      exact this c (h c hc)
    simp [SeqAt.shaped, PyData.canLay0, PyData.depth, hs]
theorem qkeyed_wp {s : Dr} {xs : List PyData} (h5 : ∀ x ∈ xs, Tie x) (hz : xs.length ≤ 7) {k : Vl → List Sl → Prop} (h : ∀ (ys : List PyData) (s' : Dr), (∀ x ∈ ys, Tie x) → ys.length = xs.length → k (.d (.tuple ys)) [.lst false (drL s'), .un]) : runS s_qkeyed [.lst false (drL s), .d (.list xs)] k := by
  refine ⟨rfl, ?_⟩
  show r_qkeyed _ [.lst false (drL s), .d (.list xs), .un, .un, .un, .un, .un, .un, .un]
  unfold r_qkeyed
  walk_at "x"
  refine for_ix (I := fun c ε => ∃ (s : Dr) (ys : List PyData) (s4 s5 s6 s7 s8 : Sl), ε = [.lst false (drL s), .d (.list xs), .d (.str letters), .lst true ys, s4, s5, s6, s7, s8] ∧ (∀ x ∈ ys, Tie x) ∧ ys.length = c) _ 0 _ (fun j x hx ε ⟨s, ys, s4, s5, s6, s7, s8, hε, h6, hl⟩ B _ _ hB _ => ?_) ⟨s, [], _, _, _, _, _, rfl, (fun x hx => nomatch hx), rfl⟩ fun ε ⟨s, ys, s4, s5, s6, s7, s8, hε, h6, hl⟩ => ?_
  · subst hε
    have hj := (List.getElem?_eq_some_iff.mp hx).1
    obtain ⟨w, a, b, c, rfl, fw, fa, fb, fc⟩ := h5 x (List.mem_of_getElem? hx)
    walk_at "x"
    walk_at "s"
    refine ev_of ?_
    rw [b_qkeyed_1_eq]
    walk_at "x"
    refine onB_neg (onB_case (fun hn => ?_) fun hn => ?_)
    · walk_at "x"
      walk_at "s"
      refine hB _ ⟨s, _, _, _, _, _, _, rfl, fun z hz => ?_, by simp; omega⟩
      rcases List.mem_append.mp hz with hz | hz
      · exact h6 z hz
      · rw [List.mem_singleton.mp hz]
        exact ⟨_, _, _, _, rfl, fw, fa, fb, fc⟩
    · walk_at "x"
      refine next_wp (by decide) (by decide) fun r s1 r0 r1 => ?_
      walk_at "x"
      walk_at "s"
      refine lc_all (I := fun ε => ∃ s : Dr, ε = [.lst false (drL s), .d (.list xs), .d (.str letters), .lst true ys, .d w, .d a, .d b, .d c, .un]) (Pe := fun y => ∃ c ∈ letters.cps.toList, y = .str ⟨#[c]⟩) _ _ _ (fun y _ ε ⟨s, hε⟩ C hC => ?_) ⟨s1, rfl⟩ (fun y hy => nomatch hy) (by simp [rngD_len]; omega) fun zs ε hzs hzl ⟨s2, hε⟩ => ?_
      · subst hε
        walk_at "x"
        refine next_wp (by decide) (by decide) fun r s1 r0 r1 => ?_
        obtain ⟨x, hx, e, _⟩ := at_any (xs := letters.cps.toList) (i := r) (by omega) (by rw [show letters.cps.toList.length = 26 from by decide +kernel]; omega)
        walk_at "x"
        refine ⟨by decide, onO_of e ?_⟩
        exact hC _ _ ⟨x, hx, rfl⟩ ⟨s1, rfl⟩
      · subst hε
        obtain ⟨cs, hcs, rfl⟩ : ∃ cs : List Nat, (∀ c ∈ cs, c ∈ letters.cps.toList) ∧ zs = (cs.map fun c => (⟨#[c]⟩ : Str)).map .str := by
          clear hzl
          induction zs with
          | nil => exact ⟨[], (fun c hc => nomatch hc), rfl⟩
          | cons z zs ih =>
            obtain ⟨c, hc, rfl⟩ := hzs z List.mem_cons_self
            obtain ⟨cs, h1, rfl⟩ := ih fun y hy => hzs y (List.mem_cons_of_mem _ hy)
            refine ⟨c :: cs, fun d hd => ?_, rfl⟩
            rcases List.mem_cons.mp hd with e | hd
            · rw [e]; exact hc
            · exact h1 d hd
        walk_at "x"
        rw [rngD_len] at hzl
        simp at hzl
        refine ⟨_, rfl, ?_, ?_⟩
        · have e1 : ((cs.map fun c => (⟨#[c]⟩ : Str)).map (·.length)).sum = cs.length := by
            clear hcs hzs hzl
            induction cs with
            | nil => rfl
            | cons c cs ih => simp only [List.map_cons, List.sum_cons, ih, List.length_cons]; show 1 + cs.length = _; omega
          rw [e1, show (Str.ofString "").length = 0 from rfl]
          omega
        · walk_at "x"
          walk_at "s"
          refine hB _ ⟨s2, _, _, _, _, _, _, rfl, fun z hz => ?_, by simp; omega⟩
          rcases List.mem_append.mp hz with hz | hz
          · exact h6 z hz
          · rw [List.mem_singleton.mp hz]
            exact ⟨_, _, _, _, rfl, fw, fa, fb, flat_signs hcs (by omega)⟩
  · subst hε
    walk_at "x"
    exact h ys s h6 (by omega)

end Cl

namespace Cl
open PySem PySem.Spec PyProof.Rows L2 DL
local macro_rules | `(tactic| walk_at "x") => `(tactic| (refine ev_of ?_; simp only [ap_seq, ap_next, ap_brk, ap_cnt, ap_expr, ap_ret, ap_retN, ap_if, ap_asg, ap_set, ap_seti, ap_par, ap_dput, ap_forL, ap_forT, ap_forR, ap_while, ap_nm, ap_gtp, ap_gnil, ap_gcons, ap_var, ap_c, ap_op, ap_un, ap_test, ap_and, ap_or, ap_not, ap_yes, ap_andV, ap_orV, ap_notV, ap_ifE, ap_anil, ap_acons, ap_fnil, ap_fcons, ap_tup, ap_lst, ap_dct, ap_cb, ap_isi, ap_sl, ap_nopart, ap_part, ap_lstrg, ap_mut, ap_call, ap_callS, ap_din, ap_lcL, ap_lcT, ap_lcR, ap_lcB, ap_forB, ap_lcnil, ap_lccons, wp_nil, wp_cons, rs_nil, rs_cons, kp_d, kp_un, eq_self,
  ev_ev, kd_i, kd_s, if_true, if_false, Bool.false_eq_true, Bool.not_true, Bool.not_false, List.isEmpty_nil, List.isEmpty_cons, ev_and, ev_t, ev_f, ev_s, k_I0, k_I, k_EqL0, k_EqT0, k_EqLT, k_EqTL, k_EqI, k_EqB, k_EqS, k_EqN, k_EqLc, k_EqTc, id_eq, k_IsN, k_InL, k_InT, k_Cat, k_IxL, k_IxT, k_LenL, k_LenT, k_ListL, k_ListT, k_TupleL, k_TupleT, k_I2, k_Abs, k_Neg, k_App, k_PopAt, lk_0, lk_s, pt_0, pt_s, peek, peekAll, frz, slOf, unbor, sh_int, sh_none, sh_bool, sh_nil, sh_nilT, sh_ints, eqv_int, eqv_ss, eqv_bool, eqv_nil, at0, at1, at2, at3, ixN1, List.length_cons, List.length_nil, List.set_cons_succ, List.set_cons_zero, true_and, and_true, List.map_cons, List.map_nil, List.nil_append, List.cons_append, flatD, List.length_map, flat_ints, in_ints, ap_rev, ap_chain, ap_lcS, k_IsB, k_IntI, k_IntB, k_CatT, k_Rep, k_InS, k_LenS,
  ap_revA, ap_slA, ap_joinC, k_SlL, k_SlT, k_SlS, k_CatS, k_RepS, k_AxL, k_AxT, k_AxS, k_StrI, ap_forA, ap_lcA, it_L, it_T, it_S, k_AdI, k_AdL, k_AdT, k_AdS, k_MuI, k_MuL, k_MuS, Nat.zero_le, kit_tuple, kit_list, kit_str, kit_int, kit_bool, kit_dict, isN_none, isN_bool, isN_int, isN_str, isN_list, isN_tuple, isN_dict, isTup_none, isTup_bool, isTup_int, isTup_str, isTup_list, isTup_tuple, isTup_dict, isLst_none, isLst_bool, isLst_int, isLst_str, isLst_list, isLst_tuple, isLst_dict, isStr_none, isStr_bool, isStr_int, isStr_str, isStr_list, isStr_tuple, isStr_dict, isInt_none, isInt_bool, isInt_int, isInt_str, isInt_list, isInt_tuple, isInt_dict, isBool_none, isBool_bool, isBool_int, isBool_str, isBool_list, isBool_tuple, isBool_dict, isDict_none, isDict_bool, isDict_int, isDict_str, isDict_list, isDict_tuple, isDict_dict, dec_tt, dec_ft, dec_tf, dec_ff, dec_T, dec_F]))
local macro_rules | `(tactic| walk_at "s") => `(tactic| (repeat with_reducible refine And.intro (by first | assumption | omega | exact True.intro | rfl | (simp; done) | (simp; omega) | decide) ?_))

/-! ### bent -/
theorem of_ev {P : Prop} (h : P) : ev P := h
theorem cut_len (xs : List PyData) (l u : Option Int) : (cutD xs l u).length ≤ xs.length := by
  unfold DL.cutD
  simp only [List.length_take, List.length_drop]
  omega
theorem cut_mem {xs : List PyData} {l u : Option Int} {x : PyData} (h : x ∈ cutD xs l u) : x ∈ xs := List.mem_of_mem_drop (List.mem_of_mem_take h)
theorem repS_len (a : Str) (n : Nat) : (repS a n).length = n * a.length := by
  show Array.size _ = _
  simp [repS, Str.length]
theorem app_len (a b : Str) : (a ++ b).length = a.length + b.length := by
  show (a.cps ++ b.cps).size = _
  simp [Str.length]
theorem okS_not {x : PyData} (h : DL.isStr x = false) : okS x := fun s e => by rw [e] at h; cases h
theorem okS_str {s : Str} (h : s.length ≤ 1000) : okS (.str s) := fun t e => by cases e; exact h
theorem okL_not {x : PyData} (h : DL.isTup x = false) : okL x := fun ys e => by rw [e] at h; cases h
theorem okC_not {x : PyData} (h : DL.isTup x = false) : okC x := fun ys e => by rw [e] at h; cases h
def O0 (y : PyData) : Prop := okS y ∧ DL.isTup y = false
theorem O0_str {s : Str} (h : s.length ≤ 1000) : O0 (.str s) := ⟨okS_str h, rfl⟩
theorem O0_not {y : PyData} (h : DL.isStr y = false) (h2 : DL.isTup y = false) : O0 y := ⟨okS_not h, h2⟩
theorem qbent_text_wp {s : Dr} {t : Str} (ht : t.length ≤ 10) {k : Vl → List Sl → Prop} (h : ∀ (y : PyData) (s' : Dr), O0 y → k (.d y) [.lst false (drL s'), .un]) : runS s_qbent_text [.lst false (drL s), .d (.str t)] k := by
  refine ⟨rfl, ?_⟩
  show r_qbent_text _ [.lst false (drL s), .d (.str t), .un, .un, .un]
  unfold r_qbent_text
  walk_at "x"
  walk_at "s"
  refine next_wp (by omega) (by omega) fun at_ s1 a0 a1 => ?_
  walk_at "x"
  refine next_wp (by omega) (by omega) fun r s2 r0 r1 => ?_
  obtain ⟨c, hc, ec, _⟩ := at_any (xs := (Str.ofString "abcdefghijklmnopqrstuvwxyzA1 ").cps.toList) (i := r) (by omega) (by rw [show (Str.ofString "abcdefghijklmnopqrstuvwxyzA1 ").cps.toList.length = 29 from by decide +kernel]; omega)
  walk_at "x"
  refine ⟨by decide, onO_of ec ?_⟩
  walk_at "x"
  refine next_wp (by omega) (by omega) fun way s3 w0 w1 => ?_
  walk_at "x"
  refine onB_beq (fun hw => ?_) fun hw => ?_
  · walk_at "x"
    walk_at "s"
    refine next_wp (by omega) (by omega) fun q s4 q0 q1 => ?_
    obtain ⟨z, hz, ez, _⟩ := at_any (xs := [PyData.str (Str.ofString "hand"), .str (Str.ofString "time"), .str (Str.ofString "from"), .str (Str.ofString "over"), .str (Str.ofString "past"), .str (Str.ofString ""), .none, .int 5, .list [.str t], .dict []]) (i := q) (by simp; omega) (by simp; omega)
    walk_at "x"
    refine onO_of ez ?_
    refine h _ _ ?_
    simp only [List.mem_cons, List.not_mem_nil, or_false] at hz
    rcases hz with rfl | rfl | rfl | rfl | rfl | rfl | rfl | rfl | rfl | rfl
    · exact O0_str (by decide +kernel)
    · exact O0_str (by decide +kernel)
    · exact O0_str (by decide +kernel)
    · exact O0_str (by decide +kernel)
    · exact O0_str (by decide +kernel)
    · exact O0_str (by decide +kernel)
    · exact O0_not rfl rfl
    · exact O0_not rfl rfl
    · exact O0_not rfl rfl
    · exact O0_not rfl rfl
  · walk_at "x"
    have c1 := cutS_length t none (some at_)
    have c2 := cutS_length t (some (at_ + if decide (0 < way) = true then 1 else 0)) none
    have r1' : ((repS ⟨#[c]⟩ (if (!way == 1) = true then 1 else 0 : Int).toNat)).length ≤ 1 := by
      rw [repS_len]
      split <;> simp [Str.length]
    refine ⟨by omega, ⟨by split <;> omega, by split <;> omega, by simp [Str.length]⟩, by omega, by omega, by rw [app_len]; omega, ?_⟩
    exact h _ _ (O0_str (by rw [app_len, app_len]; omega))
theorem bentT {Pin Pout : PyData → Prop} (hio : ∀ x, Pin x → Pout x) (hnone : Pout .none) {ls : List PyData} (h1 : 1 ≤ ls.length) (h7 : ls.length ≤ 7) (hl : ∀ l ∈ ls, Pin l) (S : DSp)
    (hS : ∀ (s : Dr) (x : PyData) (k : Vl → List Sl → Prop), Pin x → (∀ (y : PyData) (s' : Dr), Pout y → k (.d y) [.lst false (drL s'), .un]) → runS S [.lst false (drL s), .d x] k) {s : Dr} {k : Vl → List Sl → Prop}
    (h : ∀ (y : PyData) (s' : Dr), (DL.isTup y = false ∨ ∃ ys, y = .tuple ys ∧ ys.length ≤ 20 ∧ ∀ z ∈ ys, Pout z) → k (.d y) [.lst false (drL s'), .un]) : runS (ownSp 2 2 (r_qbent S)) [.lst false (drL s), .d (.tuple ls)] k := by
  refine ⟨rfl, ?_⟩
  show r_qbent S _ [.lst false (drL s), .d (.tuple ls), .un, .un]
  unfold r_qbent
  have hout : ∀ l ∈ ls, Pout l := fun l hm => hio l (hl l hm)
  have hcut : ∀ a b, ∀ l ∈ DL.cutD ls a b, Pout l := fun a b l hm => hout l (cut_mem hm)
  have hcl := cut_len ls
  have hemp : ls.isEmpty = false := by cases ls with
    | nil => simp at h1
    | cons _ _ => rfl
  have app : ∀ {a b : List PyData}, (∀ l ∈ a, Pout l) → (∀ l ∈ b, Pout l) → ∀ l ∈ a ++ b, Pout l := fun ha hb l hm => by
    rcases List.mem_append.mp hm with hm | hm
    · exact ha l hm
    · exact hb l hm
  have one : ∀ {a : PyData}, Pout a → ∀ l ∈ [a], Pout l := fun ha l hm => by rw [List.mem_singleton.mp hm]; exact ha
  walk_at "x"
  rw [hemp]
  walk_at "x"
  refine next_wp (by omega) (by omega) fun r s1 r0 r1 => ?_
  walk_at "x"
  refine onB_dec (fun hr => ?_) fun hr => ?_
  · walk_at "x"
    refine next_wp (by omega) (by omega) fun at_ s2 a0 a1 => ?_
    obtain ⟨l, hm, el, _⟩ := at_any (xs := ls) (i := at_) (by omega) (by omega)
    walk_at "x"
    refine onO_of el ?_
    walk_at "x"
    refine hS _ _ _ (hl l hm) fun y s3 hy => ?_
    walk_at "x"
    have c1 := hcl none (some at_)
    have c2 := hcl (some (at_ + 1)) none
    refine ⟨by decide, by omega, by simp only [List.length_append, List.length_cons, List.length_nil]; omega, ?_⟩
    refine h _ _ (.inr ⟨_, rfl, ?_, app (app (hcut _ _) (one hy)) (hcut _ _)⟩)
    simp only [List.length_append, List.length_cons, List.length_nil]
    omega
  · walk_at "x"
    refine next_wp (by omega) (by omega) fun at_ s2 a0 a1 => ?_
    walk_at "x"
    have g : ∀ a b c d, DL.isTup (.tuple (DL.cutD ls a b ++ DL.cutD ls c d)) = false ∨ ∃ ys, PyData.tuple (DL.cutD ls a b ++ DL.cutD ls c d) = .tuple ys ∧ ys.length ≤ 20 ∧ ∀ z ∈ ys, Pout z := fun a b c d => by
      refine .inr ⟨_, rfl, ?_, app (hcut _ _) (hcut _ _)⟩
      have c1 := hcl a b
      have c2 := hcl c d
      rw [List.length_append]
      omega
    have c1 := hcl none (some at_)
    have c2 := hcl (some (at_ + 1)) none
    have c3 := hcl (some (at_ - 1)) none
    have c4 := hcl (some at_) none
    refine ⟨by omega, by omega, by decide, by omega, by omega, by decide, by decide, by decide, by omega, by decide, by decide, ?_⟩
    refine of_ev ?_
    refine next_wp (by omega) (by omega) fun q s4 q0 q1 => ?_
    obtain ⟨z, hz, ez, _⟩ := at_any (xs := [PyData.list ls, .tuple (DL.cutD ls none (some at_) ++ DL.cutD ls (some (at_ + 1)) none), .tuple (DL.cutD ls none (some at_) ++ DL.cutD ls (some (at_ - 1)) none), .tuple ls.reverse, .tuple (DL.cutD ls (some at_) none ++ DL.cutD ls none (some at_)), .tuple (ls ++ ls), .tuple (DL.cutD ls none (some 1)), .tuple (ls ++ [.none]), .tuple []]) (i := q) (by simp; omega) (by simp; omega)
    refine onO_of ez ?_
    refine h _ _ ?_
    simp only [List.mem_cons, List.not_mem_nil, or_false] at hz
    rcases hz with rfl | rfl | rfl | rfl | rfl | rfl | rfl | rfl | rfl
    · exact .inl rfl
    · exact g _ _ _ _
    · exact g _ _ _ _
    · exact .inr ⟨_, rfl, by rw [List.length_reverse]; omega, fun l hm => hout l (List.mem_reverse.mp hm)⟩
    · exact g _ _ _ _
    · exact .inr ⟨_, rfl, by rw [List.length_append]; omega, app hout hout⟩
    · exact .inr ⟨_, rfl, by have := hcl none (some 1); omega, hcut _ _⟩
    · exact .inr ⟨_, rfl, by simp only [List.length_append, List.length_cons, List.length_nil]; omega, app hout (one hnone)⟩
    · exact .inr ⟨_, rfl, by simp, fun l hm => nomatch hm⟩

theorem O1 {y : PyData} (h : DL.isTup y = false ∨ ∃ ys, y = .tuple ys ∧ ys.length ≤ 20 ∧ ∀ z ∈ ys, okS z) : okL y := by
  rcases h with h | ⟨ys, rfl, _, h⟩
  · exact okL_not h
  · intro zs e
    cases e
    exact h
theorem O2 {y : PyData} (h : DL.isTup y = false ∨ ∃ ys, y = .tuple ys ∧ ys.length ≤ 20 ∧ ∀ z ∈ ys, okL z) : okC y := by
  rcases h with h | ⟨ys, rfl, hl, h⟩
  · exact okC_not h
  · intro zs e
    cases e
    exact ⟨by omega, h⟩
theorem str_small {i : Int} (h0 : 0 ≤ i) (h1 : i < 6) : ((toString i : Str)).length ≤ 1000 ∧ i.natAbs.log2 < 1920 := by
  obtain rfl | rfl | rfl | rfl | rfl | rfl : i = 0 ∨ i = 1 ∨ i = 2 ∨ i = 3 ∨ i = 4 ∨ i = 5 := by omega
  all_goals exact ⟨by decide +kernel, by decide +kernel⟩
theorem flat_okS {x : PyData} (h : Flat x) : okS x := by
  rcases h with ⟨s, rfl, h, _⟩ | ⟨i, rfl, _⟩ | rfl
  · exact okS_str (by omega)
  · exact okS_not rfl
  · exact okS_not rfl
theorem bent0 {n : Nat} {s : Dr} {x : PyData} (hx : Flat x) {k : Vl → List Sl → Prop} (h : ∀ (y : PyData) (s' : Dr), okS y → k (.d y) [.lst false (drL s'), .un]) : runS (s_qbent (n + 1)) [.lst false (drL s), .d x] k := by
  refine ⟨rfl, ?_⟩
  show r_qbent (s_qbent n) _ [.lst false (drL s), .d x, .un, .un]
  unfold r_qbent
  rcases hx with ⟨t, rfl, ht, _⟩ | ⟨i, rfl, i0, i1⟩ | rfl
  · walk_at "x"
    refine qbent_text_wp ht fun y s' hy => ?_
    exact h _ _ hy.1
  · walk_at "x"
    obtain ⟨z1, z2⟩ := str_small i0 i1
    refine ⟨z2, by decide, ?_⟩
    refine next_wp (by omega) (by omega) fun q s4 q0 q1 => ?_
    obtain ⟨z, hz, ez, _⟩ := at_any (xs := [PyData.int (i + 1), .int (i - 1), .int (-i), .bool true, .str (toString i), .none, .int 0, .int 1, .int 2]) (i := q) (by simp; omega) (by simp; omega)
    refine onO_of ez ?_
    refine h _ _ ?_
    simp only [List.mem_cons, List.not_mem_nil, or_false] at hz
    rcases hz with rfl | rfl | rfl | rfl | rfl | rfl | rfl | rfl | rfl
    · exact okS_not rfl
    · exact okS_not rfl
    · exact okS_not rfl
    · exact okS_not rfl
    · exact okS_str z1
    · exact okS_not rfl
    · exact okS_not rfl
    · exact okS_not rfl
    · exact okS_not rfl
  · walk_at "x"
    refine ⟨by decide, ?_⟩
    refine next_wp (by omega) (by omega) fun q s4 q0 q1 => ?_
    obtain ⟨z, hz, ez, _⟩ := at_any (xs := [PyData.str (Str.ofString "a"), .str (Str.ofString "zzzz"), .str (Str.ofString "zzzzz"), .str (Str.ofString ""), .int 0]) (i := q) (by simp; omega) (by simp; omega)
    refine onO_of ez ?_
    refine h _ _ ?_
    simp only [List.mem_cons, List.not_mem_nil, or_false] at hz
    rcases hz with rfl | rfl | rfl | rfl | rfl
    · exact okS_str (by decide +kernel)
    · exact okS_str (by decide +kernel)
    · exact okS_str (by decide +kernel)
    · exact okS_str (by decide +kernel)
    · exact okS_not rfl
theorem bent1 {n : Nat} {s : Dr} {x : PyData} (hx : Tie x) {k : Vl → List Sl → Prop} (h : ∀ (y : PyData) (s' : Dr), okL y → k (.d y) [.lst false (drL s'), .un]) : runS (s_qbent (n + 2)) [.lst false (drL s), .d x] k := by
  obtain ⟨w, a, b, c, rfl, fw, fa, fb, fc⟩ := hx
  refine bentT (Pin := Flat) (Pout := okS) (fun x hx => flat_okS hx) (okS_not rfl) (by simp) (by simp) (fun l hm => ?_) (s_qbent (n + 1)) (fun s x k hx h => bent0 hx h) fun y s' hy => h y s' (O1 hy)
  simp only [List.mem_cons, List.not_mem_nil, or_false] at hm
  rcases hm with rfl | rfl | rfl | rfl <;> assumption
theorem tie_okL {x : PyData} (h : Tie x) : okL x := by
  obtain ⟨w, a, b, c, rfl, fw, fa, fb, fc⟩ := h
  intro ys e y hy
  cases e
  simp only [List.mem_cons, List.not_mem_nil, or_false] at hy
  rcases hy with rfl | rfl | rfl | rfl <;> (apply flat_okS; assumption)
theorem bent2 {n : Nat} {s : Dr} {ls : List PyData} (h5 : ∀ x ∈ ls, Tie x) (h1 : 1 ≤ ls.length) (h7 : ls.length ≤ 7) {k : Vl → List Sl → Prop} (h : ∀ (y : PyData) (s' : Dr), okC y → k (.d y) [.lst false (drL s'), .un]) : runS (s_qbent (n + 3)) [.lst false (drL s), .d (.tuple ls)] k :=
  bentT (Pin := Tie) (Pout := okL) (fun x hx => tie_okL hx) (okL_not rfl) h1 h7 h5 (s_qbent (n + 2)) (fun s x k hx h => bent1 hx h) fun y s' hy => h y s' (O2 hy)
theorem law_goal (qs : List Sl) (A : Vl → List Sl → Prop) (h : SLaw qs A) : s_law qs A := by
  obtain ⟨ns, rfl, hn, h⟩ := h
  refine ⟨rfl, ?_⟩
  show r_law _ [.d (.list (ns.map .int)), .un, .un, .un, .un, .un, .un, .un]
  unfold r_law
  walk_at "x"
  refine ⟨by split <;> split <;> omega, by split <;> split <;> omega, ?_⟩
  refine for_inv (I := fun ε => ∃ s1 s2 s3 s4 s5 s6 s7 : Sl, ε = [.d (.list (ns.map .int)), s1, s2, s3, s4, s5, s6, s7]) _ _ (fun x hx ε ⟨s1, s2, s3, s4, s5, s6, s7, hε⟩ B hrt _ hB _ => ?_) ⟨_, _, _, _, _, _, _, rfl⟩ fun ε ⟨s1, s2, s3, s4, s5, s6, s7, hε⟩ => ?_
  · subst hε
    obtain ⟨j, hj⟩ := List.mem_iff_getElem?.mp hx
    obtain ⟨hj, rfl⟩ := rngD_get hj
    walk_at "x"
    refine ev_of ?_
    rw [b_law_1_eq]
    walk_at "x"
    refine state_wp (by omega) (by omega) fun s ps => ?_
    walk_at "x"
    refine next_wp (by omega) (by omega) fun r s1 r0 r1 => ?_
    walk_at "x"
    refine qring_wp (by omega) (by omega) fun xs s2 h5 z1 z7 => ?_
    walk_at "x"
    refine qkeyed_wp h5 z7 fun ys s3 h5 zl => ?_
    walk_at "x"
    have hyC : okC (.tuple ys) := fun zs e => by
      cases e
      exact ⟨by omega, fun l hm => tie_okL (h5 l hm)⟩
    walk_at "s"
    refine of_ev ?_
    refine lc_all (I := fun ε => ∃ s : Dr, ε = [.d (.list (ns.map .int)), .d (.int (0 + (j : Int))), .lst true (drL s), .d (.tuple ys), s4, .un, s6, s7]) (Pe := okC) _ _ _ (fun y _ ε ⟨s, hε⟩ C hC => ?_) ⟨s3, rfl⟩ (fun y hy => nomatch hy) (by simp [rngD_len]) fun zs ε hzs hzl ⟨s4', hε⟩ => ?_
    · subst hε
      walk_at "x"
      refine bent2 (n := 1) h5 (by omega) (by omega) fun y s' hy => ?_
      walk_at "x"
      exact hC _ _ hy ⟨s', rfl⟩
    · subst hε
      rw [rngD_len] at hzl
      have hzl : zs.length = 6 := hzl
      refine ⟨by omega, ?_⟩
      refine ev_of ?_
      walk_at "x"
      refine ⟨by decide, by simp; omega, ?_⟩
      refine for_inv (I := fun ε => ∃ s2 s4 s5 s6 s7 : Sl, ε = [.d (.list (ns.map .int)), .d (.int (0 + (j : Int))), s2, .d (.tuple ys), s4, s5, s6, s7]) _ _ (fun x hx ε ⟨s2, s4, s5, s6, s7, hε⟩ B hrt _ hB _ => ?_) ⟨_, _, _, _, _, rfl⟩ fun ε ⟨s2, s4, s5, s6, s7, hε⟩ => ?_
      · have hxC : okC x := by
          simp only [List.cons_append, List.mem_cons, List.mem_append, List.not_mem_nil, or_false] at hx
          rcases hx with rfl | hx | rfl
          · exact hyC
          · exact hzs x hx
          · exact hyC
        subst hε
        walk_at "x"
        refine ev_of ?_
        rw [b_law_2_eq]
        walk_at "x"
        refine is_circle_wp hxC fun _ => ?_
        walk_at "x"
        refine qis_circle_wp hxC fun _ => ?_
        walk_at "x"
        refine onB_neg (onB_ofT (by simp) ?_)
        walk_at "x"
        exact hB _ ⟨_, _, _, _, _, rfl⟩
      · subst hε
        exact hB _ ⟨_, _, _, _, _, _, _, rfl⟩
  · subst hε
    walk_at "x"
    exact h _

end Cl

namespace Cl
open PySem PySem.Spec PyProof.Rows L2 DL
theorem all_mk {l : PySem.W.OpenLaw} {w : World} {K : PySem.W.Frag} {h : Heap} {mg : Str → Option Value} {fa f1 f2 f3 f4 f5 f6 f7 f8 f9 f10 f11 f12 f13 : Addr} (X : K.In h) (G : h.Ns mainGlobals mg) (hfa : mg "law" = some (.ref fa))
    {a_KEYLESS n_KEYLESS : Nat} {od_KEYLESS : Option Addr} {its_KEYLESS : Array Value} {sl_KEYLESS : Array (Option Value)} {u_LETTERS : Value} {u_MOST_LETTERS : Value} {a_WORDS n_WORDS : Nat} {od_WORDS : Option Addr} {its_WORDS : Array Value} {sl_WORDS : Array (Option Value)}
    {od1 an1 od2 an2 od3 an3 od4 an4 od5 an5 od6 an6 od7 an7 od8 an8 od9 an9 od10 an10 od11 an11 od12 an12 od13 an13 : Option Addr} {sl1 sl2 sl3 sl4 sl5 sl6 sl7 sl8 sl9 sl10 sl11 sl12 sl13 : Array (Option Value)} {oc1 kV1 dc1 pm1 cd1 ct1 oc2 kV2 dc2 pm2 cd2 ct2 oc3 kV3 dc3 pm3 cd3 ct3 oc4 kV4 dc4 pm4 cd4 ct4 oc5 kV5 dc5 pm5 cd5 ct5 oc6 kV6 dc6 pm6 cd6 ct6 oc7 kV7 dc7 pm7 cd7 ct7 oc8 kV8 dc8 pm8 cd8 ct8 oc9 kV9 dc9 pm9 cd9 ct9 oc10 kV10 dc10 pm10 cd10 ct10 oc11 kV11 dc11 pm11 cd11 ct11 oc12 kV12 dc12 pm12 cd12 ct12 oc13 kV13 dc13 pm13 cd13 ct13 : Value}
    (a1 : PySem.W.nsIn K mainGlobals "_law_state" = some (some (.ref f1))) (l1 : K.lookup f1 = some ⟨oc1, od1, .func (PySem.W.fnOf "_law_state" "_law_state" (defArgs stqstate) (defBody stqstate) (defScope stqstate) .none kV1 dc1 pm1 an1 cd1 ct1), sl1⟩) (c1 : PySem.W.codeIn K cd1 "_law_state" = true) (k1 : PySem.W.keepIn K (.ref f1) = true)
    (a2 : PySem.W.nsIn K mainGlobals "_law_next" = some (some (.ref f2))) (l2 : K.lookup f2 = some ⟨oc2, od2, .func (PySem.W.fnOf "_law_next" "_law_next" (defArgs stqnext) (defBody stqnext) (defScope stqnext) .none kV2 dc2 pm2 an2 cd2 ct2), sl2⟩) (c2 : PySem.W.codeIn K cd2 "_law_next" = true) (k2 : PySem.W.keepIn K (.ref f2) = true)
    (a3 : PySem.W.nsIn K mainGlobals "_law_keyed" = some (some (.ref f3))) (l3 : K.lookup f3 = some ⟨oc3, od3, .func (PySem.W.fnOf "_law_keyed" "_law_keyed" (defArgs stqkeyed) (defBody stqkeyed) (defScope stqkeyed) .none kV3 dc3 pm3 an3 cd3 ct3), sl3⟩) (c3 : PySem.W.codeIn K cd3 "_law_keyed" = true) (k3 : PySem.W.keepIn K (.ref f3) = true)
    (a4 : PySem.W.nsIn K mainGlobals "_law_ring" = some (some (.ref f4))) (l4 : K.lookup f4 = some ⟨oc4, od4, .func (PySem.W.fnOf "_law_ring" "_law_ring" (defArgs stqring) (defBody stqring) (defScope stqring) .none kV4 dc4 pm4 an4 cd4 ct4), sl4⟩) (c4 : PySem.W.codeIn K cd4 "_law_ring" = true) (k4 : PySem.W.keepIn K (.ref f4) = true)
    (a5 : PySem.W.nsIn K mainGlobals "is_key" = some (some (.ref f5))) (l5 : K.lookup f5 = some ⟨oc5, od5, .func (PySem.W.fnOf "is_key" "is_key" (defArgs stis_key) (defBody stis_key) (defScope stis_key) .none kV5 dc5 pm5 an5 cd5 ct5), sl5⟩) (c5 : PySem.W.codeIn K cd5 "is_key" = true) (k5 : PySem.W.keepIn K (.ref f5) = true)
    (a6 : PySem.W.nsIn K mainGlobals "is_place" = some (some (.ref f6))) (l6 : K.lookup f6 = some ⟨oc6, od6, .func (PySem.W.fnOf "is_place" "is_place" (defArgs stis_place) (defBody stis_place) (defScope stis_place) .none kV6 dc6 pm6 an6 cd6 ct6), sl6⟩) (c6 : PySem.W.codeIn K cd6 "is_place" = true) (k6 : PySem.W.keepIn K (.ref f6) = true)
    (a7 : PySem.W.nsIn K mainGlobals "is_link" = some (some (.ref f7))) (l7 : K.lookup f7 = some ⟨oc7, od7, .func (PySem.W.fnOf "is_link" "is_link" (defArgs stis_link) (defBody stis_link) (defScope stis_link) .none kV7 dc7 pm7 an7 cd7 ct7), sl7⟩) (c7 : PySem.W.codeIn K cd7 "is_link" = true) (k7 : PySem.W.keepIn K (.ref f7) = true)
    (a8 : PySem.W.nsIn K mainGlobals "is_circle" = some (some (.ref f8))) (l8 : K.lookup f8 = some ⟨oc8, od8, .func (PySem.W.fnOf "is_circle" "is_circle" (defArgs stis_circle) (defBody stis_circle) (defScope stis_circle) .none kV8 dc8 pm8 an8 cd8 ct8), sl8⟩) (c8 : PySem.W.codeIn K cd8 "is_circle" = true) (k8 : PySem.W.keepIn K (.ref f8) = true)
    (a9 : PySem.W.nsIn K mainGlobals "_law_bent_text" = some (some (.ref f9))) (l9 : K.lookup f9 = some ⟨oc9, od9, .func (PySem.W.fnOf "_law_bent_text" "_law_bent_text" (defArgs stqbent_text) (defBody stqbent_text) (defScope stqbent_text) .none kV9 dc9 pm9 an9 cd9 ct9), sl9⟩) (c9 : PySem.W.codeIn K cd9 "_law_bent_text" = true) (k9 : PySem.W.keepIn K (.ref f9) = true)
    (a10 : PySem.W.nsIn K mainGlobals "_law_bent" = some (some (.ref f10))) (l10 : K.lookup f10 = some ⟨oc10, od10, .func (PySem.W.fnOf "_law_bent" "_law_bent" (defArgs stqbent) (defBody stqbent) (defScope stqbent) .none kV10 dc10 pm10 an10 cd10 ct10), sl10⟩) (c10 : PySem.W.codeIn K cd10 "_law_bent" = true) (k10 : PySem.W.keepIn K (.ref f10) = true)
    (a11 : PySem.W.nsIn K mainGlobals "_law_is_tie" = some (some (.ref f11))) (l11 : K.lookup f11 = some ⟨oc11, od11, .func (PySem.W.fnOf "_law_is_tie" "_law_is_tie" (defArgs stqis_tie) (defBody stqis_tie) (defScope stqis_tie) .none kV11 dc11 pm11 an11 cd11 ct11), sl11⟩) (c11 : PySem.W.codeIn K cd11 "_law_is_tie" = true) (k11 : PySem.W.keepIn K (.ref f11) = true)
    (a12 : PySem.W.nsIn K mainGlobals "_law_is_circle" = some (some (.ref f12))) (l12 : K.lookup f12 = some ⟨oc12, od12, .func (PySem.W.fnOf "_law_is_circle" "_law_is_circle" (defArgs stqis_circle) (defBody stqis_circle) (defScope stqis_circle) .none kV12 dc12 pm12 an12 cd12 ct12), sl12⟩) (c12 : PySem.W.codeIn K cd12 "_law_is_circle" = true) (k12 : PySem.W.keepIn K (.ref f12) = true)
    (a13 : PySem.W.nsIn K mainGlobals "law" = some (some (.ref f13))) (l13 : K.lookup f13 = some ⟨oc13, od13, .func (PySem.W.fnOf "law" "law" (defArgs stlaw) (defBody stlaw) (defScope stlaw) .none kV13 dc13 pm13 an13 cd13 ct13), sl13⟩) (c13 : PySem.W.codeIn K cd13 "law" = true) (k13 : PySem.W.keepIn K (.ref f13) = true)
    (z_abs : PySem.W.nsIn K mainGlobals "abs" = some none)
    (z_all : PySem.W.nsIn K mainGlobals "all" = some none)
    (z_bool : PySem.W.nsIn K mainGlobals "bool" = some none)
    (z_int : PySem.W.nsIn K mainGlobals "int" = some none)
    (z_isinstance : PySem.W.nsIn K mainGlobals "isinstance" = some none)
    (z_len : PySem.W.nsIn K mainGlobals "len" = some none)
    (z_list : PySem.W.nsIn K mainGlobals "list" = some none)
    (z_max : PySem.W.nsIn K mainGlobals "max" = some none)
    (z_min : PySem.W.nsIn K mainGlobals "min" = some none)
    (z_range : PySem.W.nsIn K mainGlobals "range" = some none)
    (z_str : PySem.W.nsIn K mainGlobals "str" = some none)
    (z_tuple : PySem.W.nsIn K mainGlobals "tuple" = some none)
    (ga_KEYLESS : PySem.W.nsIn K mainGlobals "KEYLESS" = some (some (.ref a_KEYLESS))) (gl_KEYLESS : K.lookup a_KEYLESS = some ⟨.type "tuple", od_KEYLESS, .seq its_KEYLESS n_KEYLESS, sl_KEYLESS⟩) (gv_KEYLESS : (decide (its_KEYLESS.size ≤ 1000) && gvsD its_KEYLESS.toList [(.str (Str.ofString "hand")), (.str (Str.ofString "time"))]) = true)
    (ga_LETTERS : PySem.W.nsIn K mainGlobals "LETTERS" = some (some u_LETTERS)) (gv_LETTERS : gvD u_LETTERS (.str (Str.ofString "abcdefghijklmnopqrstuvwxyz")) = true)
    (ga_MOST_LETTERS : PySem.W.nsIn K mainGlobals "MOST_LETTERS" = some (some u_MOST_LETTERS)) (gv_MOST_LETTERS : gvD u_MOST_LETTERS (.int 4) = true)
    (ga_WORDS : PySem.W.nsIn K mainGlobals "WORDS" = some (some (.ref a_WORDS))) (gl_WORDS : K.lookup a_WORDS = some ⟨.type "tuple", od_WORDS, .seq its_WORDS n_WORDS, sl_WORDS⟩) (gv_WORDS : (decide (its_WORDS.size ≤ 1000) && gvsD its_WORDS.toList [(.str (Str.ofString "hand")), (.str (Str.ofString "time")), (.str (Str.ofString "from")), (.str (Str.ofString "over")), (.str (Str.ofString "past"))]) = true) :
    ∃ fd : FuncData, (∀ (s : Shared) (v : Value), BindsTo s fd ⟨[v], []⟩ [("_law_script", v)]) ∧ ∀ base : Heap, K.In base → base.Ns mainGlobals mg → FnOk l.prog w K mg base CX0 7 fa fd ["_law_script"] (spLaw K) := by
  have e := hfa.symm.trans (PySem.W.mg_of X G a13)
  cases e
  have F1 := fun_mk (st := stqstate) l1 c1 k1
  have F2 := fun_mk (st := stqnext) l2 c2 k2
  have F3 := fun_mk (st := stqkeyed) l3 c3 k3
  have F4 := fun_mk (st := stqring) l4 c4 k4
  have F5 := fun_mk (st := stis_key) l5 c5 k5
  have F6 := fun_mk (st := stis_place) l6 c6 k6
  have F7 := fun_mk (st := stis_link) l7 c7 k7
  have F8 := fun_mk (st := stis_circle) l8 c8 k8
  have F9 := fun_mk (st := stqbent_text) l9 c9 k9
  have F10 := fun_mk (st := stqbent) l10 c10 k10
  have F11 := fun_mk (st := stqis_tie) l11 c11 k11
  have F12 := fun_mk (st := stqis_circle) l12 c12 k12
  have F13 := fun_mk (st := stlaw) l13 c13 k13
  have m1 := PySem.W.mg_of X G a1
  have m2 := PySem.W.mg_of X G a2
  have m3 := PySem.W.mg_of X G a3
  have m4 := PySem.W.mg_of X G a4
  have m5 := PySem.W.mg_of X G a5
  have m6 := PySem.W.mg_of X G a6
  have m7 := PySem.W.mg_of X G a7
  have m8 := PySem.W.mg_of X G a8
  have m9 := PySem.W.mg_of X G a9
  have m10 := PySem.W.mg_of X G a10
  have m11 := PySem.W.mg_of X G a11
  have m12 := PySem.W.mg_of X G a12
  have m13 := PySem.W.mg_of X G a13
  have y_abs := PySem.W.mg_none_of X G z_abs
  have y_all := PySem.W.mg_none_of X G z_all
  have y_bool := PySem.W.mg_none_of X G z_bool
  have y_int := PySem.W.mg_none_of X G z_int
  have y_isinstance := PySem.W.mg_none_of X G z_isinstance
  have y_len := PySem.W.mg_none_of X G z_len
  have y_list := PySem.W.mg_none_of X G z_list
  have y_max := PySem.W.mg_none_of X G z_max
  have y_min := PySem.W.mg_none_of X G z_min
  have y_range := PySem.W.mg_none_of X G z_range
  have y_str := PySem.W.mg_none_of X G z_str
  have y_tuple := PySem.W.mg_none_of X G z_tuple
  have b1 := F1.binds (ps := ["_law_script", "_law_k"]) fun _ _ _ _ _ _ us hl => match us, hl with | [_, _], _ => rfl
  have b2 := F2.binds (ps := ["_law_state_here", "_law_size"]) fun _ _ _ _ _ _ us hl => match us, hl with | [_, _], _ => rfl
  have b3 := F3.binds (ps := ["_law_state_here", "_law_links"]) fun _ _ _ _ _ _ us hl => match us, hl with | [_, _], _ => rfl
  have b4 := F4.binds (ps := ["_law_state_here", "_law_size"]) fun _ _ _ _ _ _ us hl => match us, hl with | [_, _], _ => rfl
  have b5 := F5.binds (ps := ["thing"]) fun _ _ _ _ _ _ us hl => match us, hl with | [_], _ => rfl
  have b6 := F6.binds (ps := ["thing"]) fun _ _ _ _ _ _ us hl => match us, hl with | [_], _ => rfl
  have b7 := F7.binds (ps := ["thing"]) fun _ _ _ _ _ _ us hl => match us, hl with | [_], _ => rfl
  have b8 := F8.binds (ps := ["thing"]) fun _ _ _ _ _ _ us hl => match us, hl with | [_], _ => rfl
  have b9 := F9.binds (ps := ["_law_state_here", "_law_text"]) fun _ _ _ _ _ _ us hl => match us, hl with | [_, _], _ => rfl
  have b10 := F10.binds (ps := ["_law_state_here", "_law_whole"]) fun _ _ _ _ _ _ us hl => match us, hl with | [_, _], _ => rfl
  have b11 := F11.binds (ps := ["_law_thing"]) fun _ _ _ _ _ _ us hl => match us, hl with | [_], _ => rfl
  have b12 := F12.binds (ps := ["_law_thing"]) fun _ _ _ _ _ _ us hl => match us, hl with | [_], _ => rfl
  have g_KEYLESS : GlobD K mg "KEYLESS" (.tuple [(.str (Str.ofString "hand")), (.str (Str.ofString "time"))]) := glob_tup (PySem.W.mg_of X G ga_KEYLESS) gl_KEYLESS gv_KEYLESS
  have g_LETTERS : GlobD K mg "LETTERS" (.str (Str.ofString "abcdefghijklmnopqrstuvwxyz")) := glob_flat (PySem.W.mg_of X G ga_LETTERS) gv_LETTERS
  have g_MOST_LETTERS : GlobD K mg "MOST_LETTERS" (.int 4) := glob_flat (PySem.W.mg_of X G ga_MOST_LETTERS) gv_MOST_LETTERS
  have g_WORDS : GlobD K mg "WORDS" (.tuple [(.str (Str.ofString "hand")), (.str (Str.ofString "time")), (.str (Str.ofString "from")), (.str (Str.ofString "over")), (.str (Str.ofString "past"))]) := glob_tup (PySem.W.mg_of X G ga_WORDS) gl_WORDS gv_WORDS
  refine ⟨PySem.W.fnOf "law" "law" (defArgs stlaw) (defBody stlaw) (defScope stlaw) .none kV13 dc13 pm13 an13 cd13 ct13, fun s v => .of_eq rfl, fun base _ _ => ?_⟩
  have G1 := ok_qstate (P := l.prog) (w := w) (mg := mg) (base := base) F1 y_abs y_len
  have G2 := ok_qnext (P := l.prog) (w := w) (mg := mg) (base := base) F2
  have G3 := ok_qkeyed (P := l.prog) (w := w) (mg := mg) (base := base) F3 y_range y_tuple G2 b2 F2.kp m2
  have G4 := ok_qring (P := l.prog) (w := w) (mg := mg) (base := base) F4 y_int y_len y_range G2 b2 F2.kp m2
  have G5 := ok_is_key (P := l.prog) (w := w) (mg := mg) (base := base) F5 y_all y_isinstance y_len y_str g_LETTERS g_MOST_LETTERS
  have G6 := ok_is_place (P := l.prog) (w := w) (mg := mg) (base := base) F6 y_bool y_int y_isinstance
  have G7 := ok_is_link (P := l.prog) (w := w) (mg := mg) (base := base) F7 y_isinstance y_len y_str y_tuple g_KEYLESS g_WORDS G6 b6 F6.kp m6 G5 b5 F5.kp m5
  have G8 := ok_is_circle (P := l.prog) (w := w) (mg := mg) (base := base) F8 y_all y_isinstance y_len y_range y_tuple G7 b7 F7.kp m7
  have G9 := ok_qbent_text (P := l.prog) (w := w) (mg := mg) (base := base) F9 y_int y_len G2 b2 F2.kp m2
  have G10 := ok_qbent (P := l.prog) (w := w) (mg := mg) (base := base) F10 y_int y_isinstance y_len y_list y_str y_tuple G2 b2 F2.kp m2 G9 b9 F9.kp m9 b10 F10.kp m10
  have G11 := ok_qis_tie (P := l.prog) (w := w) (mg := mg) (base := base) F11 y_bool y_int y_isinstance y_len y_str y_tuple
  have G12 := ok_qis_circle (P := l.prog) (w := w) (mg := mg) (base := base) F12 y_isinstance y_len y_range y_tuple G11 b11 F11.kp m11
  exact law_ok (spD_imp (ok_law (P := l.prog) (w := w) (mg := mg) (base := base) F13 y_bool y_isinstance y_len y_max y_min y_range G1 b1 F1.kp m1 G3 b3 F3.kp m3 G4 b4 F4.kp m4 G2 b2 F2.kp m2 (G10 4) b10 F10.kp m10 G8 b8 F8.kp m8 G12 b12 F12.kp m12) law_goal)
end Cl
open PySem PySem.W PyProof.Rows
set_option maxHeartbeats 0 in
theorem PySem.Challenge.cw_dealcourt_k37_circles_bent_anywhere_holds : PySem.Challenge.rw_dealcourt_k37_circles_bent_anywhere.Holds := by
  w_on; o_law; k_head; (case hw => w_witness2)
  k_fill
  refine L2.walk_of (l := PySem.Challenge.rw_dealcourt_k37_circles_bent_anywhere) (n := 63) (k := 7) (x := "_law_script") (CX := fun _ => L2.CX0) (sp := fun w => DL.spLaw _) rfl (by decide) rfl ⟨rfl, by decide, by decide⟩ (fun w h Y => PySem.W.kIn_of Y) ?F
    (fun _ _ a ns hl _ hS => ⟨a, ns, rfl, hS, hl, fun _ => rfl⟩) (fun _ _ _ _ _ h => h)
  case F =>
    intro w mg fa h KX G hmg
    refine' Cl.all_mk KX G hmg ?a1 ?l1 ?c1 ?k1 ?a2 ?l2 ?c2 ?k2 ?a3 ?l3 ?c3 ?k3 ?a4 ?l4 ?c4 ?k4 ?a5 ?l5 ?c5 ?k5 ?a6 ?l6 ?c6 ?k6 ?a7 ?l7 ?c7 ?k7 ?a8 ?l8 ?c8 ?k8 ?a9 ?l9 ?c9 ?k9 ?a10 ?l10 ?c10 ?k10 ?a11 ?l11 ?c11 ?k11 ?a12 ?l12 ?c12 ?k12 ?a13 ?l13 ?c13 ?k13 ?z_abs ?z_all ?z_bool ?z_int ?z_isinstance ?z_len ?z_list ?z_max ?z_min ?z_range ?z_str ?z_tuple ?ga_KEYLESS ?gl_KEYLESS ?gv_KEYLESS ?ga_LETTERS ?gv_LETTERS ?ga_MOST_LETTERS ?gv_MOST_LETTERS ?ga_WORDS ?gl_WORDS ?gv_WORDS
    (case a1 => k_is)
    (case l1 => k_is)
    (case c1 => k_is)
    (case k1 => k_is)
    (case a2 => k_is)
    (case l2 => k_is)
    (case c2 => k_is)
    (case k2 => k_is)
    (case a3 => k_is)
    (case l3 => k_is)
    (case c3 => k_is)
    (case k3 => k_is)
    (case a4 => k_is)
    (case l4 => k_is)
    (case c4 => k_is)
    (case k4 => k_is)
    (case a5 => k_is)
    (case l5 => k_is)
    (case c5 => k_is)
    (case k5 => k_is)
    (case a6 => k_is)
    (case l6 => k_is)
    (case c6 => k_is)
    (case k6 => k_is)
    (case a7 => k_is)
    (case l7 => k_is)
    (case c7 => k_is)
    (case k7 => k_is)
    (case a8 => k_is)
    (case l8 => k_is)
    (case c8 => k_is)
    (case k8 => k_is)
    (case a9 => k_is)
    (case l9 => k_is)
    (case c9 => k_is)
    (case k9 => k_is)
    (case a10 => k_is)
    (case l10 => k_is)
    (case c10 => k_is)
    (case k10 => k_is)
    (case a11 => k_is)
    (case l11 => k_is)
    (case c11 => k_is)
    (case k11 => k_is)
    (case a12 => k_is)
    (case l12 => k_is)
    (case c12 => k_is)
    (case k12 => k_is)
    (case a13 => k_is)
    (case l13 => k_is)
    (case c13 => k_is)
    (case k13 => k_is)
    (case z_abs => k_is)
    (case z_all => k_is)
    (case z_bool => k_is)
    (case z_int => k_is)
    (case z_isinstance => k_is)
    (case z_len => k_is)
    (case z_list => k_is)
    (case z_max => k_is)
    (case z_min => k_is)
    (case z_range => k_is)
    (case z_str => k_is)
    (case z_tuple => k_is)
    (case ga_KEYLESS => k_is)
    (case gl_KEYLESS => k_is)
    (case gv_KEYLESS => decide +kernel)
    (case ga_LETTERS => k_is)
    (case gv_LETTERS => decide +kernel)
    (case ga_MOST_LETTERS => k_is)
    (case gv_MOST_LETTERS => decide +kernel)
    (case ga_WORDS => k_is)
    (case gl_WORDS => k_is)
    (case gv_WORDS => decide +kernel)
