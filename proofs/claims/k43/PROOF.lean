import PyProof.Rows.All
import Wide.All
import OpenK.AllK
import Wide.FinOn
import HandS.ForMost
import HandS.Walk
import HandS.IsInst
import HandS.Wide
import HandS.TupAny
import HandS.Conv
import HandS.Style
import PyProof.WalksMore
import HandS.Defaults
import HandS.Zip
import KE.GoesMore
import HandS.Head0
import HandS.Head1
import HandS.Head2
import HandS.HeadEnd
import HandS.HeadHook1
import HandS.HeadHook2
import PySem.Challenge.RW_rowspushed_k43_whole_rooms_by_sums_of_en
set_option Elab.async false
set_option linter.all false
set_option maxRecDepth 100000
set_option maxHeartbeats 1000000
/-! DL1: values as plain data, worlds, the state of a body, readings by pure functions. -/
namespace DL
open PySem PySem.Spec PyProof.Rows L2
abbrev D := PyData

/-! ### heaps that only grow -/
theorem same_upd {H : Hp} {p : Addr} {o : HO} (h : H p = none) : Same H (upd H p o) := fun b x e => by
  rw [upd_ne (ne_of_none e h)]
  exact e
theorem same_l {K : PySem.W.Frag} {H H' : Hp} {a : Addr} {xs : List V} (e : Same H H') (h : SqL K H a xs) : SqL K H' a xs := e.seq h
theorem same_t {K : PySem.W.Frag} {H H' : Hp} {a : Addr} {xs : List V} (e : Same H H') (h : SqT K H a xs) : SqT K H' a xs := by
  rcases h with (h | ⟨o, h⟩) | h
  · exact .inl (.inl (e _ _ h))
  · exact .inl (.inr ⟨o, e _ _ h⟩)
  · exact .inr h
/-- a list that stands at a: tracked, known, or an object of the module's -/
def LstAt (K : PySem.W.Frag) (H : Hp) (a : Addr) (xs : List V) : Prop :=
  Rd H a (.lst xs) ∨ ∃ (its : Array Value) (n : Nat), K.lookup a = some { cls := .type "list", data := .seq its n } ∧ its.size ≤ sizeLine ∧ Vals xs its.toList
theorem la_sql {K : PySem.W.Frag} {H : Hp} {a : Addr} {xs : List V} (h : LstAt K H a xs) : SqL K H a xs := by
  rcases h with h | ⟨its, n, h1, h2, h3⟩
  · exact .inl h
  · exact .inr ⟨_, its, n, h1, rfl, rfl, rfl, h2, h3⟩
mutual
/-- what stands for plain data: a list is one that the layer knows by itself -/
inductive Dq (K : PySem.W.Frag) (H : Hp) : V → D → Prop
  | non : Dq K H .non .none
  | bl (b : Bool) : Dq K H (.bl b) (.bool b)
  | int (i : Int) : Dq K H (.int i) (.int i)
  | str (x : Str) : Dq K H (.str x) (.str x)
  | lst {a : Addr} {xs : List V} {ds : List D} : LstAt K H a xs → Da K H xs ds → Dq K H (.ref a) (.list ds)
  | tup {a : Addr} {xs : List V} {ds : List D} : SqT K H a xs → Da K H xs ds → Dq K H (.ref a) (.tuple ds)
inductive Da (K : PySem.W.Frag) (H : Hp) : List V → List D → Prop
  | nil : Da K H [] []
  | cons {v : V} {vs : List V} {d : D} {ds : List D} : Dq K H v d → Da K H vs ds → Da K H (v :: vs) (d :: ds)
end
theorem rd_same {H H' : Hp} (e : Same H H') {a : Addr} {o : HO} (h : Rd H a o) : Rd H' a o := by
  rcases h with h | ⟨u, h⟩
  · exact .inl (e _ _ h)
  · exact .inr ⟨u, e _ _ h⟩
mutual
theorem dq_dp {K : PySem.W.Frag} {H : Hp} : ∀ {v : V} {d : D}, Dq K H v d → Dp K H v d
  | _, _, .non => .non
  | _, _, .bl b => .bl b
  | _, _, .int i => .int i
  | _, _, .str x => .str x
  | _, _, .lst h a => .lst (la_sql h) (da_dp a)
  | _, _, .tup h a => .tup h (da_dp a)
theorem da_dp {K : PySem.W.Frag} {H : Hp} : ∀ {vs : List V} {ds : List D}, Da K H vs ds → DpAll K H vs ds
  | _, _, .nil => .nil
  | _, _, .cons h t => .cons (dq_dp h) (da_dp t)
end
theorem la_same {K : PySem.W.Frag} {H H' : Hp} (e : Same H H') {a : Addr} {xs : List V} (h : LstAt K H a xs) : LstAt K H' a xs := by
  rcases h with h | h
  · exact .inl (rd_same e h)
  · exact .inr h
mutual
theorem dq_same {K : PySem.W.Frag} {H H' : Hp} (e : Same H H') : ∀ {v : V} {d : D}, Dq K H v d → Dq K H' v d
  | _, _, .non => .non
  | _, _, .bl b => .bl b
  | _, _, .int i => .int i
  | _, _, .str x => .str x
  | _, _, .lst h a => .lst (la_same e h) (dqAll_same e a)
  | _, _, .tup h a => .tup (same_t e h) (dqAll_same e a)
theorem dqAll_same {K : PySem.W.Frag} {H H' : Hp} (e : Same H H') : ∀ {vs : List V} {ds : List D}, Da K H vs ds → Da K H' vs ds
  | _, _, .nil => .nil
  | _, _, .cons h t => .cons (dq_same e h) (dqAll_same e t)
end
section
variable {K : PySem.W.Frag} {H : Hp}
theorem da_len : ∀ {vs : List V} {ds : List D}, Da K H vs ds → vs.length = ds.length
  | _, _, .nil => rfl
  | _, _, .cons _ t => by rw [List.length_cons, List.length_cons, da_len t]
theorem da_get : ∀ {vs : List V} {ds : List D} {i : Nat} {d : D}, Da K H vs ds → ds[i]? = some d → ∃ v, vs[i]? = some v ∧ Dq K H v d
  | _, _, _, _, .nil, e => by simp at e
  | _, _, 0, _, .cons h _, e => by simp at e; subst e; exact ⟨_, rfl, h⟩
  | _, _, i + 1, d, .cons _ t, e => by
    obtain ⟨v, h1, h2⟩ := da_get (i := i) (d := d) t (by simpa using e)
    exact ⟨v, by simpa using h1, h2⟩
theorem da_getV : ∀ {vs : List V} {ds : List D} {i : Nat} {v : V}, Da K H vs ds → vs[i]? = some v → ∃ d, ds[i]? = some d ∧ Dq K H v d
  | _, _, _, _, .nil, e => by simp at e
  | _, _, 0, _, .cons h _, e => by simp at e; subst e; exact ⟨_, rfl, h⟩
  | _, _, i + 1, d, .cons _ t, e => by
    obtain ⟨v, h1, h2⟩ := da_getV (i := i) (v := d) t (by simpa using e)
    exact ⟨v, by simpa using h1, h2⟩
theorem da_append : ∀ {vs us : List V} {ds es : List D}, Da K H vs ds → Da K H us es → Da K H (vs ++ us) (ds ++ es)
  | _, _, _, _, .nil, s => s
  | _, _, _, _, .cons h t, s => .cons h (da_append t s)
theorem da_take : ∀ {vs : List V} {ds : List D} (n : Nat), Da K H vs ds → Da K H (vs.take n) (ds.take n)
  | _, _, 0, _ => .nil
  | _, _, _ + 1, .nil => .nil
  | _, _, n + 1, .cons h t => .cons h (da_take n t)
theorem da_drop : ∀ {vs : List V} {ds : List D} (n : Nat), Da K H vs ds → Da K H (vs.drop n) (ds.drop n)
  | _, _, 0, r => r
  | _, _, _ + 1, .nil => .nil
  | _, _, n + 1, .cons _ t => da_drop n t
theorem da_set {v : V} {d : D} (r : Dq K H v d) : ∀ {vs : List V} {ds : List D} (i : Nat), Da K H vs ds → Da K H (vs.set i v) (ds.set i d)
  | _, _, _, .nil => .nil
  | _, _, 0, .cons _ t => .cons r t
  | _, _, i + 1, .cons q t => .cons q (da_set r i t)
theorem da_reverse : ∀ {vs : List V} {ds : List D}, Da K H vs ds → Da K H vs.reverse ds.reverse
  | _, _, .nil => .nil
  | _, _, .cons h t => by
    rw [List.reverse_cons, List.reverse_cons]
    exact da_append (da_reverse t) (.cons h .nil)
theorem da_dropLast : ∀ {vs : List V} {ds : List D}, Da K H vs ds → Da K H vs.dropLast ds.dropLast := fun {vs ds} h => by
  rw [List.dropLast_eq_take, List.dropLast_eq_take, da_len h]
  exact da_take _ h
theorem da_replicate (n : Nat) {vs : List V} {ds : List D} (h : Da K H vs ds) : Da K H (List.replicate n vs).flatten (List.replicate n ds).flatten := by
  induction n with
  | zero => exact .nil
  | succ n ih =>
    rw [List.replicate_succ, List.replicate_succ, List.flatten_cons, List.flatten_cons]
    exact da_append h ih
theorem da_cons_inv {vs : List V} {d : D} {ds : List D} (h : Da K H vs (d :: ds)) : ∃ v r, vs = v :: r ∧ Dq K H v d ∧ Da K H r ds := by
  cases h with
  | cons a b => exact ⟨_, _, rfl, a, b⟩
theorem da_nil_inv {vs : List V} (h : Da K H vs []) : vs = [] := by
  cases h
  rfl
theorem da_ints : ∀ {ns : List Int} {vs : List V}, Da K H vs (ns.map PyData.int) → vs = ns.map V.int
  | [], vs, h => by cases h; rfl
  | n :: ns, vs, h => by
    obtain ⟨v, r, rfl, a, b⟩ := da_cons_inv (show Da K H vs (PyData.int n :: ns.map PyData.int) from h)
    cases a
    rw [da_ints b]
    rfl
theorem da_bools : ∀ {bs : List Bool} {vs : List V}, Da K H vs (bs.map PyData.bool) → vs = bs.map V.bl
  | [], vs, h => by cases h; rfl
  | n :: ns, vs, h => by
    obtain ⟨v, r, rfl, a, b⟩ := da_cons_inv (show Da K H vs (PyData.bool n :: ns.map PyData.bool) from h)
    cases a
    rw [da_bools b]
    rfl
end

/-! ### slots, worlds -/
/-- what a body's slot holds: nothing; a frozen value; a list of the body's own (or lent to it), that may change. b: lent (a parameter that is not stored again) -/
inductive Slot where
  | dead
  | val (b : Bool) (d : D)
  | own (b : Bool) (l : List D)
abbrev En := List Slot
def Slot.pin : Slot → Bool
  | .dead => false
  | .val b _ => b
  | .own b _ => b
/-- frozen part, heap, the addresses of the lists that may change -/
structure Wd where
  F : Hp
  H : Hp
  O : Addr → Prop
structure Le (w w' : Wd) : Prop where
  fz : Same w.F w'.F
  keep : ∀ a o, w.H a = some o → ¬ w.O a → w'.H a = some o
  new : ∀ a o, w'.F a = some o → w.F a = some o ∨ w.H a = none ∨ w.O a
  own : ∀ a, w'.O a → w.O a ∨ w.H a = none
  dom : ∀ a, w'.H a = none → w.H a = none
theorem Le.refl (w : Wd) : Le w w := ⟨Same.refl _, fun _ _ h _ => h, fun _ _ h => .inl h, fun _ h => .inl h, fun _ h => h⟩
theorem Le.trans {w w1 w2 : Wd} (a : Le w w1) (b : Le w1 w2) : Le w w2 where
  fz := a.fz.trans b.fz
  keep := fun x o h n => b.keep x o (a.keep x o h n) fun z => by
    rcases a.own x z with z | z
    · exact n z
    · rw [h] at z; cases z
  new := fun x o h => by
    rcases b.new x o h with z | z | z
    · exact a.new x o z
    · exact .inr (.inl (a.dom x z))
    · rcases a.own x z with z | z
      · exact .inr (.inr z)
      · exact .inr (.inl z)
  own := fun x h => by
    rcases b.own x h with z | z
    · exact a.own x z
    · exact .inr (a.dom x z)
  dom := fun x h => a.dom x (b.dom x h)
/-- a body's constants: the heap at its start, which slots are lent, their values -/
structure Bd where
  H0 : Hp
  p : List Bool
  s0 : L2.St
def SlotOK (K : PySem.W.Frag) (w : Wd) (x : Option (Option V)) : Slot → Prop
  | .dead => True
  | .val _ d => ∃ v, x = some (some v) ∧ Dq K w.F v d
  | .own _ l => ∃ a vs, x = some (some (.ref a)) ∧ w.H a = some (.lst vs) ∧ w.F a = none ∧ Da K w.F vs l
structure Stt (K : PySem.W.Frag) (B : Bd) (w : Wd) (σ : L2.St) (e : En) : Prop where
  sub : Same w.F w.H
  len : σ.length = e.length
  sl : ∀ (i : Nat) s, e[i]? = some s → SlotOK K w σ[i]? s
  inj : ∀ (i j : Nat) b l b' l', e[i]? = some (.own b l) → e[j]? = some (.own b' l') → σ[i]? = σ[j]? → i = j
  ow : ∀ a, w.O a ↔ ∃ (i : Nat) (b : Bool) (l : List D), e[i]? = some (.own b l) ∧ σ[i]? = some (some (.ref a))
  pin : e.map Slot.pin = B.p
  pins : ∀ (i : Nat), B.p[i]? = some true → σ[i]? = B.s0[i]?
  dom : ∀ a, w.H a = none → B.H0 a = none
  fr : ∀ (i : Nat) l a, e[i]? = some (.own false l) → σ[i]? = some (some (.ref a)) → B.H0 a = none
section
variable {K : PySem.W.Frag} {B : Bd} {w w' : Wd} {σ σ' : L2.St} {e e' : En}
theorem Stt.own_at (h : Stt K B w σ e) {i : Nat} {b : Bool} {l : List D} (hi : e[i]? = some (.own b l)) : ∃ a vs, σ[i]? = some (some (.ref a)) ∧ w.H a = some (.lst vs) ∧ w.F a = none ∧ Da K w.F vs l ∧ w.O a := by
  obtain ⟨a, vs, h1, h2, h3, h4⟩ := h.sl i _ hi
  exact ⟨a, vs, h1, h2, h3, h4, (h.ow a).mpr ⟨i, b, l, hi, h1⟩⟩
/-- a later world in which nothing of the own lists has changed -/
theorem Stt.later (h : Stt K B w σ e) (le : Le w w') (hO : ∀ a, w'.O a ↔ w.O a) (hk : ∀ a o, w.H a = some o → w'.H a = some o) (hn : ∀ a, w.O a → w'.F a = none) (hs : Same w'.F w'.H) : Stt K B w' σ e where
  sub := hs
  len := h.len
  sl := fun i s hi => by
    have q := h.sl i s hi
    cases s with
    | dead => trivial
    | val b d => obtain ⟨v, h1, h2⟩ := q; exact ⟨v, h1, dq_same le.fz h2⟩
    | own b l =>
      obtain ⟨a, vs, h1, h2, h3, h4⟩ := q
      exact ⟨a, vs, h1, hk a _ h2, hn a ((h.ow a).mpr ⟨i, b, l, hi, h1⟩), dqAll_same le.fz h4⟩
  inj := h.inj
  ow := fun a => (hO a).trans (h.ow a)
  pin := h.pin
  pins := h.pins
  dom := fun a q => h.dom a (le.dom a q)
  fr := h.fr
/-- a new frozen object -/
def Wd.add (w : Wd) (p : Addr) (o : HO) : Wd := ⟨upd w.F p o, upd w.H p o, w.O⟩
theorem Stt.add (h : Stt K B w σ e) {p : Addr} {o : HO} (np : w.H p = none) : Le w (w.add p o) ∧ Stt K B (w.add p o) σ e ∧ (w.add p o).F p = some o := by
  have nF : w.F p = none := by
    cases q : w.F p with
    | none => rfl
    | some u => rw [h.sub p u q] at np; cases np
  have nO : ¬ w.O p := fun z => by
    obtain ⟨i, b, l, h1, h2⟩ := (h.ow p).mp z
    obtain ⟨a, vs, k1, k2, _⟩ := h.own_at h1
    rw [h2] at k1
    cases k1
    rw [np] at k2
    cases k2
  have le : Le w (w.add p o) := by
    refine ⟨same_upd nF, fun a u q _ => same_upd np a u q, fun a u q => ?_, fun a q => .inl q, fun a q => ?_⟩
    · by_cases z : a = p
      · subst z; exact .inr (.inl np)
      · have q' : upd w.F p o a = some u := q
        rw [upd_ne z] at q'; exact .inl q'
    · by_cases z : a = p
      · subst z; exact np
      · have q' : upd w.H p o a = none := q
        rw [upd_ne z] at q'; exact q'
  refine ⟨le, h.later le (fun a => Iff.rfl) (fun a u q => same_upd np a u q) (fun a q => ?_) (fun a u q => ?_), upd_same⟩
  · show upd w.F p o a = none
    obtain ⟨i, b, l, h1, h2⟩ := (h.ow a).mp q
    obtain ⟨a', vs, k1, k2, k3, _⟩ := h.own_at h1
    rw [h2] at k1
    cases k1
    rw [upd_ne (fun z => nO (by rw [← z]; exact q))]
    exact k3
  · by_cases z : a = p
    · subst z
      have q' : upd w.F a o a = some u := q
      rw [upd_same] at q'
      show upd w.H a o a = some u
      rw [upd_same]
      exact q'
    · have q' : upd w.F p o a = some u := q
      rw [upd_ne z] at q'
      show upd w.H p o a = some u
      rw [upd_ne z]
      exact h.sub a u q'
end

/-! ### results -/
/-- a value, or what a slot's name stands for -/
inductive R where
  | val (d : D)
  | slot (i : Nat)
/-- a value, or a new list that nobody else holds -/
inductive Res where
  | val (d : D)
  | fresh (l : List D)
def look (e : En) : R → Option D
  | .val d => some d
  | .slot i => match e[i]? with
    | some (.val _ d) => some d
    | some (.own _ l) => some (.list l)
    | _ => none
def RepR (K : PySem.W.Frag) (w : Wd) (σ : L2.St) (v : V) : R → Prop
  | .val d => Dq K w.F v d
  | .slot i => σ[i]? = some (some v)
/-- a value that may be read now: frozen, or an own list with frozen items -/
def DpT (K : PySem.W.Frag) (w : Wd) (v : V) (d : D) : Prop :=
  Dq K w.F v d ∨ ∃ a vs l, v = .ref a ∧ d = .list l ∧ w.H a = some (.lst vs) ∧ Da K w.F vs l
def ResOK (K : PySem.W.Frag) (H0 : Hp) (w : Wd) (v : V) : Res → Prop
  | .val d => Dq K w.F v d
  | .fresh l => ∃ a vs, v = .ref a ∧ w.H a = some (.lst vs) ∧ w.F a = none ∧ ¬ w.O a ∧ H0 a = none ∧ Da K w.F vs l
section
variable {K : PySem.W.Frag} {B : Bd} {w w' : Wd} {σ σ' : L2.St} {e e' : En} {v : V} {d : D}
theorem look_ok (h : Stt K B w σ e) {r : R} (q : look e r = some d) (p : RepR K w σ v r) : DpT K w v d := by
  cases r with
  | val d' =>
    have e1 : d' = d := Option.some.inj q
    rw [← e1]
    exact .inl p
  | slot i =>
    have p' : σ[i]? = some (some v) := p
    have q' : (match e[i]? with | some (.val _ d) => some d | some (.own _ l) => some (.list l) | _ => none) = some d := q
    cases hs : e[i]? with
    | none => rw [hs] at q'; cases q'
    | some s =>
      rw [hs] at q'
      have k := h.sl i s hs
      cases s with
      | dead => cases q'
      | val b d' =>
        cases q'
        obtain ⟨v', h1, h2⟩ := k
        rw [p'] at h1
        cases h1
        exact .inl h2
      | own b l =>
        cases q'
        obtain ⟨a, vs, h1, h2, h3, h4⟩ := k
        rw [p'] at h1
        cases h1
        exact .inr ⟨a, vs, l, rfl, rfl, h2, h4⟩
theorem RepR.later (le : Le w w') {r : R} (p : RepR K w σ v r) : RepR K w' σ v r := by
  cases r with
  | val d => exact dq_same le.fz p
  | slot i => exact p
theorem DpT.dp (h : Same w.F w.H) (q : DpT K w v d) : Dq K w.H v d := by
  rcases q with q | ⟨a, vs, l, rfl, rfl, q1, q2⟩
  · exact dq_same h q
  · exact .lst (.inl (.inl q1)) (dqAll_same h q2)
theorem DpT.list (h : Same w.F w.H) {l : List D} (q : DpT K w v (.list l)) : ∃ a vs, v = .ref a ∧ LstAt K w.H a vs ∧ Da K w.F vs l := by
  rcases q with q | ⟨a, vs, l', rfl, e, q1, q2⟩
  · cases q with
    | lst q1 q2 => exact ⟨_, _, rfl, la_same h q1, q2⟩
  · cases e
    exact ⟨a, vs, rfl, .inl (.inl q1), q2⟩
theorem DpT.tuple (h : Same w.F w.H) {l : List D} (q : DpT K w v (.tuple l)) : ∃ a vs, v = .ref a ∧ SqT K w.H a vs ∧ Da K w.F vs l := by
  rcases q with q | ⟨a, vs, l', rfl, e, q1, q2⟩
  · cases q with
    | tup q1 q2 => exact ⟨_, _, rfl, same_t h q1, q2⟩
  · cases e
theorem DpT.int {i : Int} (q : DpT K w v (.int i)) : v = .int i := by
  rcases q with q | ⟨a, vs, l', rfl, e, q1, q2⟩
  · cases q; rfl
  · cases e
theorem DpT.bool {i : Bool} (q : DpT K w v (.bool i)) : v = .bl i := by
  rcases q with q | ⟨a, vs, l', rfl, e, q1, q2⟩
  · cases q; rfl
  · cases e
theorem DpT.str {i : Str} (q : DpT K w v (.str i)) : v = .str i := by
  rcases q with q | ⟨a, vs, l', rfl, e, q1, q2⟩
  · cases q; rfl
  · cases e
theorem DpT.none (q : DpT K w v .none) : v = .non := by
  rcases q with q | ⟨a, vs, l', rfl, e, q1, q2⟩
  · cases q; rfl
  · cases e
end

/-! ### readings by pure functions -/
abbrev FE := En → Option (R × En)
abbrev FV := En → Option (Res × En)
abbrev FT := En → Option (Bool × En)
abbrev FA := En → Option (List R × En)
/-- statements -/
inductive Fl where
  | next (e : En)
  | brk (e : En)
  | cont (e : En)
  | ret (r : Res) (e : En)
abbrev FS := En → Option Fl
section
variable (K : PySem.W.Frag)
def tE (f : FE) : TE := fun σ H Q => ∃ B w e r e', w.H = H ∧ Stt K B w σ e ∧ f e = some (r, e') ∧ ∀ v w', Stt K B w' σ e' → Le w w' → RepR K w' σ v r → Q v w'.H
def tV (f : FV) : TE := fun σ H Q => ∃ B w e r e', w.H = H ∧ Stt K B w σ e ∧ f e = some (r, e') ∧ ∀ v w', Stt K B w' σ e' → Le w w' → ResOK K w.H w' v r → Q v w'.H
def tT (f : FT) : TT := fun σ H Q => ∃ B w e b e', w.H = H ∧ Stt K B w σ e ∧ f e = some (b, e') ∧ ∀ w', Stt K B w' σ e' → Le w w' → Q b w'.H
def RepRs (w : Wd) (σ : L2.St) : List V → List R → Prop
  | [], [] => True
  | v :: vs, r :: rs => RepR K w σ v r ∧ RepRs w σ vs rs
  | _, _ => False
def tA (f : FA) : TA := fun σ H Q => ∃ B w e rs e', w.H = H ∧ Stt K B w σ e ∧ f e = some (rs, e') ∧ ∀ vs w', Stt K B w' σ e' → Le w w' → RepRs K w' σ vs rs → Q vs w'.H
def Post (B : Bd) (w : Wd) (D : Ends) : Fl → Prop
  | .next e => ∀ σ' w', Stt K B w' σ' e → Le w w' → D.nx σ' w'.H
  | .brk e => ∀ σ' w', Stt K B w' σ' e → Le w w' → D.bk σ' w'.H
  | .cont e => ∀ σ' w', Stt K B w' σ' e → Le w w' → D.ct σ' w'.H
  | .ret r e => ∀ v σ' w', Stt K B w' σ' e → Le w w' → ResOK K B.H0 w' v r → D.rt v w'.H
def tS (g : FS) : TS := fun D σ H => ∃ B w e fl, w.H = H ∧ Stt K B w σ e ∧ g e = some fl ∧ Post K B w D fl
end
theorem RepRs.later {K : PySem.W.Frag} {w w' : Wd} {σ : L2.St} (le : Le w w') : ∀ {vs : List V} {rs : List R}, RepRs K w σ vs rs → RepRs K w' σ vs rs
  | [], [], _ => trivial
  | v :: vs, r :: rs, h => ⟨h.1.later le, RepRs.later le h.2⟩
  | [], _ :: _, h => h.elim
  | _ :: _, [], h => h.elim
/-- a stronger reading -/
theorem pe_imp {X : Cx} {e : Expr} {t u : TE} (h : PE X e t) (q : ∀ σ H Q, u σ H Q → t σ H Q) : PE X e u := ⟨fun pins s σ H Q I hw => h.run pins s σ H Q I (q _ _ _ hw)⟩
theorem pt_imp {X : Cx} {e : Expr} {t u : TT} (h : PT X e t) (q : ∀ σ H Q, u σ H Q → t σ H Q) : PT X e u := ⟨fun pins s σ H Q I hw => h.run pins s σ H Q I (q _ _ _ hw)⟩
theorem pa_imp {X : Cx} {e : List Expr} {t u : TA} (h : PA X e t) (q : ∀ σ H Q, u σ H Q → t σ H Q) : PA X e u := ⟨fun pos pins s σ H Q I hw => h.run pos pins s σ H Q I (q _ _ _ hw)⟩
theorem ps_imp {X : Cx} {e : Stmt} {t u : TS} (h : PS X e t) (q : ∀ D σ H, u D σ H → t D σ H) : PS X e u := ⟨fun pins s σ H D I hw => h.run pins s σ H D I (q _ _ _ hw)⟩
theorem pss_imp {X : Cx} {e : List Stmt} {t u : TS} (h : PSs X e t) (q : ∀ D σ H, u D σ H → t D σ H) : PSs X e u := ⟨fun pins s σ H D I hw => h.run pins s σ H D I (q _ _ _ hw)⟩
theorem pi_imp {X : Cx} {tg e : Expr} {t u : TI} (h : PI X tg e t) (q : ∀ σ H R, u σ H R → t σ H R) : PI X tg e u := ⟨fun pins s σ H R I hw => h.run pins s σ H R I (q _ _ _ hw)⟩
theorem pg_imp {X : Cx} {tg : Expr} {t u : TG} (h : PG X tg t) (q : ∀ v σ H Q, u v σ H Q → t v σ H Q) : PG X tg u := ⟨fun pins s σ H v u' Q I r hw => h.run pins s σ H v u' Q I r (q _ _ _ _ hw)⟩
end DL

set_option Elab.async false
set_option linter.all false
set_option maxRecDepth 100000
set_option maxHeartbeats 1000000
/-! DL2: expressions. -/
namespace DL
open PySem PySem.Spec PyProof.Rows L2

/-! ### more worlds -/
section
variable {K : PySem.W.Frag} {B : Bd} {w w' : Wd} {σ σ' : L2.St} {e e' : En} {v : V} {d : D}
theorem Stt.nO (h : Stt K B w σ e) {p : Addr} (np : w.H p = none) : ¬ w.O p := fun z => by
  obtain ⟨i, b, l, h1, h2⟩ := (h.ow p).mp z
  obtain ⟨a, vs, k1, k2, _⟩ := h.own_at h1
  rw [h2] at k1
  cases k1
  rw [np] at k2
  cases k2
theorem Stt.nF (h : Stt K B w σ e) {p : Addr} (np : w.H p = none) : w.F p = none := by
  cases q : w.F p with
  | none => rfl
  | some u => rw [h.sub p u q] at np; cases np
/-- a new list that nobody holds yet -/
def Wd.addL (w : Wd) (p : Addr) (o : HO) : Wd := ⟨w.F, upd w.H p o, w.O⟩
theorem Stt.addL (h : Stt K B w σ e) {p : Addr} {o : HO} (np : w.H p = none) : Le w (w.addL p o) ∧ Stt K B (w.addL p o) σ e := by
  have le : Le w (w.addL p o) := by
    refine ⟨Same.refl _, fun a u q _ => same_upd np a u q, fun a u q => .inl q, fun a q => .inl q, fun a q => ?_⟩
    by_cases z : a = p
    · subst z; exact np
    · have q' : upd w.H p o a = none := q
      rw [upd_ne z] at q'; exact q'
  exact ⟨le, h.later le (fun a => Iff.rfl) (fun a u q => same_upd np a u q) (fun a q => by
    obtain ⟨i, b, l, h1, h2⟩ := (h.ow a).mp q
    obtain ⟨a', vs, k1, k2, k3, _⟩ := h.own_at h1
    rw [h2] at k1
    cases k1
    exact k3) (fun a u q => same_upd np a u (h.sub a u q))⟩
/-- the list that nobody holds is frozen -/
theorem Stt.frzNew (h : Stt K B w' σ e) (le : Le w w') {a : Addr} {vs : List V} (h1 : w'.H a = some (.lst vs)) (h2 : w'.F a = none) (h3 : ¬ w'.O a) (h4 : w.H a = none) :
    Le w ⟨upd w'.F a (.lst vs), w'.H, w'.O⟩ ∧ Stt K B ⟨upd w'.F a (.lst vs), w'.H, w'.O⟩ σ e := by
  have sf : Same w'.F (upd w'.F a (.lst vs)) := same_upd h2
  refine ⟨⟨le.fz.trans sf, le.keep, fun x o q => ?_, le.own, le.dom⟩, ?_⟩
  · by_cases z : x = a
    · subst z; exact .inr (.inl h4)
    · have q' : upd w'.F a (.lst vs) x = some o := q
      rw [upd_ne z] at q'; exact le.new x o q'
  · refine ⟨fun x o q => ?_, h.len, fun i s hi => ?_, h.inj, h.ow, h.pin, h.pins, h.dom, h.fr⟩
    · by_cases z : x = a
      · subst z
        have q' : upd w'.F x (.lst vs) x = some o := q
        rw [upd_same] at q'; cases q'; exact h1
      · have q' : upd w'.F a (.lst vs) x = some o := q
        rw [upd_ne z] at q'; exact h.sub x o q'
    · have q := h.sl i s hi
      cases s with
      | dead => trivial
      | val b d => obtain ⟨v, k1, k2⟩ := q; exact ⟨v, k1, dq_same sf k2⟩
      | own b l =>
        obtain ⟨c, us, k1, k2, k3, k4⟩ := q
        refine ⟨c, us, k1, k2, ?_, dqAll_same sf k4⟩
        have oc : w'.O c := (h.ow c).mpr ⟨i, b, l, hi, k1⟩
        show upd w'.F a (.lst vs) c = none
        rw [upd_ne (fun z => h3 (by rw [← z]; exact oc))]
        exact k3
theorem get_set {α : Type} {l : List α} {i j : Nat} {x : α} : (l.set i x)[j]? = if i = j ∧ i < l.length then some x else l[j]? := by
  by_cases h : i = j
  · subst h
    by_cases q : i < l.length
    · rw [if_pos ⟨rfl, q⟩]; exact List.getElem?_set_self q
    · rw [if_neg fun z => q z.2, List.getElem?_eq_none (by simpa using q), List.getElem?_eq_none (by simpa using q)]
  · rw [if_neg fun z => h z.1]; exact List.getElem?_set_ne h
theorem lt_of_get {α : Type} {l : List α} {i : Nat} {x : α} (h : l[i]? = some x) : i < l.length := by
  rcases Nat.lt_or_ge i l.length with q | q
  · exact q
  · rw [List.getElem?_eq_none q] at h; cases h
/-- a slot's own list is frozen -/
theorem Stt.frzSlot (h : Stt K B w σ e) {i : Nat} {b : Bool} {l : List D} (hi : e[i]? = some (.own b l)) : ∃ a vs w', σ[i]? = some (some (.ref a)) ∧ w'.H = w.H ∧ w'.F = upd w.F a (.lst vs) ∧ Le w w' ∧
    Stt K B w' σ (e.set i (.val b (.list l))) ∧ Dq K w'.F (.ref a) (.list l) := by
  obtain ⟨a, vs, h1, h2, h3, h4, h5⟩ := h.own_at hi
  have sf : Same w.F (upd w.F a (.lst vs)) := same_upd h3
  have hl := lt_of_get hi
  have dd : Dq K (upd w.F a (.lst vs)) (.ref a) (.list l) := .lst (.inl (.inl upd_same)) (dqAll_same sf h4)
  refine ⟨a, vs, ⟨upd w.F a (.lst vs), w.H, fun x => w.O x ∧ x ≠ a⟩, h1, rfl, rfl, ⟨sf, fun x o q _ => q, fun x o q => ?_, fun x q => .inl q.1, fun x q => q⟩, ?_, dd⟩
  · by_cases z : x = a
    · subst z; exact .inr (.inr h5)
    · have q' : upd w.F a (.lst vs) x = some o := q
      rw [upd_ne z] at q'; exact .inl q'
  · refine ⟨fun x o q => ?_, by rw [List.length_set]; exact h.len, fun j s hj => ?_, fun j k b1 l1 b2 l2 hj hk => ?_, fun x => ⟨fun q => ?_, fun q => ?_⟩, ?_, h.pins, h.dom, fun j l1 x hj => ?_⟩
    · by_cases z : x = a
      · subst z
        have q' : upd w.F x (.lst vs) x = some o := q
        rw [upd_same] at q'; cases q'; exact h2
      · have q' : upd w.F a (.lst vs) x = some o := q
        rw [upd_ne z] at q'; exact h.sub x o q'
    · rw [get_set] at hj
      by_cases c : i = j
      · subst c
        rw [if_pos ⟨rfl, hl⟩] at hj
        cases hj
        exact ⟨_, h1, dd⟩
      · rw [if_neg fun z => c z.1] at hj
        have q := h.sl j s hj
        cases s with
        | dead => trivial
        | val b d => obtain ⟨v, k1, k2⟩ := q; exact ⟨v, k1, dq_same sf k2⟩
        | own b2 l2 =>
          obtain ⟨c2, us, k1, k2, k3, k4⟩ := q
          refine ⟨c2, us, k1, k2, ?_, dqAll_same sf k4⟩
          show upd w.F a (.lst vs) c2 = none
          rw [upd_ne (fun z => c (h.inj i j _ _ _ _ hi hj (by rw [h1, k1, z])))]
          exact k3
    · rw [get_set] at hj hk
      by_cases c : i = j
      · rw [if_pos ⟨c, hl⟩] at hj; cases hj
      · by_cases c2 : i = k
        · rw [if_pos ⟨c2, hl⟩] at hk; cases hk
        · rw [if_neg fun z => c z.1] at hj
          rw [if_neg fun z => c2 z.1] at hk
          exact h.inj j k _ _ _ _ hj hk
    · obtain ⟨q1, q2⟩ := q
      obtain ⟨j, b1, l1, k1, k2⟩ := (h.ow x).mp q1
      have c : ¬ i = j := fun z => by
        subst z
        rw [h1] at k2
        cases k2
        exact q2 rfl
      exact ⟨j, b1, l1, by rw [get_set, if_neg fun z => c z.1]; exact k1, k2⟩
    · obtain ⟨j, b1, l1, k1, k2⟩ := q
      rw [get_set] at k1
      by_cases c : i = j
      · rw [if_pos ⟨c, hl⟩] at k1; cases k1
      · rw [if_neg fun z => c z.1] at k1
        exact ⟨(h.ow x).mpr ⟨j, b1, l1, k1, k2⟩, fun z => c (h.inj i j _ _ _ _ hi k1 (by rw [h1, k2, z]))⟩
    · rw [← h.pin, List.map_set]
      refine List.ext_getElem? fun k => ?_
      rw [get_set]
      split
      · rename_i q
        rw [← q.1, List.getElem?_map, hi]
        rfl
      · rfl
    · rw [get_set] at hj
      by_cases c : i = j
      · rw [if_pos ⟨c, hl⟩] at hj; cases hj
      · rw [if_neg fun z => c z.1] at hj
        exact h.fr j l1 x hj
/-- freezing what stands in a result -/
def frz (e : En) : R → Option (D × En)
  | .val d => some (d, e)
  | .slot i => match e[i]? with
    | some (.val _ d) => some (d, e)
    | some (.own b l) => some (.list l, e.set i (.val b (.list l)))
    | _ => none
theorem frz_ok (h : Stt K B w σ e) {r : R} {d : D} {e' : En} (q : frz e r = some (d, e')) (p : RepR K w σ v r) : ∃ w', w'.H = w.H ∧ Stt K B w' σ e' ∧ Le w w' ∧ Dq K w'.F v d := by
  cases r with
  | val d' =>
    have e1 : (d', e) = (d, e') := Option.some.inj q
    cases e1
    exact ⟨w, rfl, h, Le.refl w, p⟩
  | slot i =>
    have p' : σ[i]? = some (some v) := p
    have q' : (match e[i]? with | some (.val _ d) => some (d, e) | some (.own b l) => some (.list l, e.set i (.val b (.list l))) | _ => none) = some (d, e') := q
    cases hs : e[i]? with
    | none => rw [hs] at q'; cases q'
    | some s =>
      rw [hs] at q'
      cases s with
      | dead => cases q'
      | val b d' =>
        cases q'
        obtain ⟨v', h1, h2⟩ := h.sl i _ hs
        rw [p'] at h1
        cases h1
        exact ⟨w, rfl, h, Le.refl w, h2⟩
      | own b l =>
        cases q'
        obtain ⟨a, vs, w', h1, h2, _, h3, h4, h5⟩ := h.frzSlot hs
        rw [p'] at h1
        cases h1
        exact ⟨w', h2, h4, h3, h5⟩
def frzs (e : En) : List R → Option (List D × En)
  | [] => some ([], e)
  | r :: rs => (frz e r).bind fun p => (frzs p.2 rs).map fun q => (p.1 :: q.1, q.2)
theorem frzs_ok : ∀ {rs : List R} {vs : List V} {ds : List D} {w : Wd} {e e' : En}, Stt K B w σ e → frzs e rs = some (ds, e') → RepRs K w σ vs rs → ∃ w', w'.H = w.H ∧ Stt K B w' σ e' ∧ Le w w' ∧ Da K w'.F vs ds
  | [], [], ds, w, e, e', h, q, _ => by
    cases q
    exact ⟨w, rfl, h, Le.refl w, .nil⟩
  | r :: rs, v :: vs, ds, w, e, e', h, q, p => by
    unfold frzs at q
    obtain ⟨⟨d, e1⟩, q1, q2⟩ := Option.bind_eq_some_iff.mp q
    obtain ⟨⟨ds2, e2⟩, q3, q4⟩ := Option.map_eq_some_iff.mp q2
    cases q4
    obtain ⟨w1, k1, k2, k3, k4⟩ := frz_ok h q1 p.1
    obtain ⟨w2, j1, j2, j3, j4⟩ := frzs_ok k2 q3 (p.2.later k3)
    exact ⟨w2, j1.trans k1, j2, k3.trans j3, .cons (dq_same j3.fz k4) j4⟩
  | [], _ :: _, _, _, _, _, _, _, p => p.elim
  | _ :: _, [], _, _, _, _, _, _, p => p.elim
theorem ResOK.mono {H0 H1 : Hp} {r : Res} (h : ResOK K H1 w v r) (k : ∀ a, H1 a = none → H0 a = none) : ResOK K H0 w v r := by
  cases r with
  | val d => exact h
  | fresh l => obtain ⟨a, vs, h1, h2, h3, h4, h5, h6⟩ := h; exact ⟨a, vs, h1, h2, h3, h4, k a h5, h6⟩
end

/-! ### names, constants, freezing -/
section
variable {X : Cx} {x : Expr} {pos : Pos}
def fVar (i : Nat) : FE := fun e => match e[i]? with
  | some (.val _ _) => some (.slot i, e)
  | some (.own _ _) => some (.slot i, e)
  | _ => none
theorem d_var {i : Nat} {y : Str} (h : PE X (.Name y pos) (tVar i)) : PE X (.Name y pos) (tE X.K (fVar i)) := by
  refine pe_imp h fun σ H Q ⟨B, w, e, r, e', hH, st, hf, q⟩ => ?_
  have key : ∀ s, e[i]? = some s → s ≠ .dead → fVar i e = some (.slot i, e) ∧ ∃ v, σ[i]? = some (some v) := fun s hs nd => by
    have k := st.sl i s hs
    unfold fVar
    rw [hs]
    cases s with
    | dead => exact absurd rfl nd
    | val b d => obtain ⟨v, h1, _⟩ := k; exact ⟨rfl, v, h1⟩
    | own b l => obtain ⟨a, vs, h1, _⟩ := k; exact ⟨rfl, _, h1⟩
  cases hs : e[i]? with
  | none => unfold fVar at hf; rw [hs] at hf; cases hf
  | some s =>
    by_cases nd : s = .dead
    · subst nd; unfold fVar at hf; rw [hs] at hf; cases hf
    · obtain ⟨k1, v, k2⟩ := key s hs nd
      rw [k1] at hf
      cases hf
      subst hH
      exact ⟨v, k2, q v w st (Le.refl w) k2⟩
def fCst (d : D) : FE := fun e => some (.val d, e)
theorem d_cst {v : V} {d : D} (h : PE X x (tC v)) (r : ∀ K H, Dq K H v d) : PE X x (tE X.K (fCst d)) := by
  refine pe_imp h fun σ H Q ⟨B, w, e, r', e', hH, st, hf, q⟩ => ?_
  cases hf
  subst hH
  exact q v w st (Le.refl w) (r _ _)
/-- a new list is frozen where it is used within an expression -/
def toE (f : FV) : FE := fun e => (f e).map fun p => (match p.1 with | .val d => .val d | .fresh l => .val (.list l), p.2)
theorem d_toE {f : FV} (h : PE X x (tV X.K f)) : PE X x (tE X.K (toE f)) := by
  refine pe_imp h fun σ H Q ⟨B, w, e, r, e', hH, st, hf, q⟩ => ?_
  unfold toE at hf
  obtain ⟨⟨r1, e1⟩, k1, k2⟩ := Option.map_eq_some_iff.mp hf
  refine ⟨B, w, e, r1, e1, hH, st, k1, fun v w' st' le ok => ?_⟩
  cases r1 with
  | val d => cases k2; exact q v w' st' le ok
  | fresh l =>
    cases k2
    obtain ⟨a, vs, rfl, h2, h3, h4, h5, h6⟩ := ok
    obtain ⟨j1, j2⟩ := st'.frzNew le h2 h3 h4 h5
    exact q _ ⟨upd w'.F a (.lst vs), w'.H, w'.O⟩ j2 j1 (.lst (.inl (.inl upd_same)) (dqAll_same (same_upd h3) h6))
/-- a value is taken as a result: an own list is frozen -/
def toV (f : FE) : FV := fun e => (f e).bind fun p => (frz p.2 p.1).map fun q => (.val q.1, q.2)
theorem d_toV {f : FE} (h : PE X x (tE X.K f)) : PE X x (tV X.K (toV f)) := by
  refine pe_imp h fun σ H Q ⟨B, w, e, r, e', hH, st, hf, q⟩ => ?_
  unfold toV at hf
  obtain ⟨⟨r1, e1⟩, k1, k2⟩ := Option.bind_eq_some_iff.mp hf
  obtain ⟨⟨d, e2⟩, k3, k4⟩ := Option.map_eq_some_iff.mp k2
  cases k4
  refine ⟨B, w, e, r1, e1, hH, st, k1, fun v w' st' le ok => ?_⟩
  obtain ⟨w2, j1, j2, j3, j4⟩ := frz_ok st' k3 ok
  have z := q v w2 j2 (le.trans j3) j4
  rw [j1] at z
  exact z
end

/-! ### operators by values -/
/-- a two-place operation does what op says -/
structure R2Is (K : PySem.W.Frag) (r : R2) (op : D → D → Option Res) : Prop where
  run : ∀ {B : Bd} {w : Wd} {σ : L2.St} {e : En} {x y : V} {a b : D} {res : Res} {Q : VK}, Stt K B w σ e → DpT K w x a → DpT K w y b → op a b = some res →
    (∀ v w', Stt K B w' σ e → Le w w' → ResOK K w.H w' v res → Q v w'.H) → r x y w.H Q
def fBin (op : D → D → Option Res) (f g : FE) : FV := fun e =>
  (f e).bind fun p => (g p.2).bind fun q => (look q.2 p.1).bind fun a => (look q.2 q.1).bind fun b => (op a b).map fun r => (r, q.2)
section
variable {X : Cx} {a b c : Expr} {fa fb fc : FE} {pos : Pos}
theorem bin_run {r : R2} {op : D → D → Option Res} (h : R2Is X.K r op) {σ : L2.St} {H : Hp} {Q : VK} (q : tV X.K (fBin op fa fb) σ H Q) : tOp r (tE X.K fa) (tE X.K fb) σ H Q := by
  obtain ⟨B, w, e, res, e', hH, st, hf, q⟩ := q
  unfold fBin at hf
  obtain ⟨⟨r1, e1⟩, k1, k2⟩ := Option.bind_eq_some_iff.mp hf
  obtain ⟨⟨r2, e2⟩, k3, k4⟩ := Option.bind_eq_some_iff.mp k2
  obtain ⟨d1, k5, k6⟩ := Option.bind_eq_some_iff.mp k4
  obtain ⟨d2, k7, k8⟩ := Option.bind_eq_some_iff.mp k6
  obtain ⟨rr, k9, k10⟩ := Option.map_eq_some_iff.mp k8
  cases k10
  refine ⟨B, w, e, r1, e1, hH, st, k1, fun v1 w1 s1 l1 p1 => ?_⟩
  refine ⟨B, w1, e1, r2, e2, rfl, s1, k3, fun v2 w2 s2 l2 p2 => ?_⟩
  exact h.run s2 (look_ok s2 k5 (p1.later l2)) (look_ok s2 k7 p2) k9 fun v w3 s3 l3 ok => q v w3 s3 ((l1.trans l2).trans l3) (ok.mono fun a z => l1.dom a (l2.dom a z))
theorem d_bin {op : Operator} {r : R2} {f : D → D → Option Res} (ho : OpR X (binaryOp op) r) (h : R2Is X.K r f) (ha : PE X a (tE X.K fa)) (hb : PE X b (tE X.K fb)) : PE X (.BinOp a op b pos) (tV X.K (fBin f fa fb)) :=
  pe_imp (pe_op ho ha hb) fun _ _ _ q => bin_run h q
theorem d_cmp {op : CmpOp} {r : R2} {f : D → D → Option Res} (ho : OpR X (compareOp op) r) (h : R2Is X.K r f) (ha : PE X a (tE X.K fa)) (hb : PE X b (tE X.K fb)) (hm : behindInMarks op b = false) : PE X (.Compare a [op] [b] pos) (tV X.K (fBin f fa fb)) :=
  pe_imp (pe_cmpR ho ha hb hm) fun _ _ _ q => bin_run h q
theorem r2_or {K : PySem.W.Frag} {r r' : R2} {f g : D → D → Option Res} (h : R2Is K r f) (h' : R2Is K r' g) : R2Is K (fun x y H Q => r x y H Q ∨ r' x y H Q) (fun a b => (f a b).or (g a b)) := by
  constructor
  intro B w σ e x y a b res Q st h1 h2 q k
  cases z : f a b with
  | some u =>
    simp only [z, Option.some_or] at q
    cases q
    exact .inl (h.run st h1 h2 z k)
  | none =>
    simp only [z, Option.none_or] at q
    exact .inr (h'.run st h1 h2 q k)
/-- operations on ints -/
def iop (g : Int → Int → Option D) : D → D → Option Res
  | .int i, .int j => (g i j).map .val
  | _, _ => none
theorem r2_int {K : PySem.W.Frag} {C : Int → Int → Prop} {gv : Int → Int → V} {g : Int → Int → Option D} (h : ∀ i j d, g i j = some d → C i j ∧ ∀ H, Dq K H (gv i j) d) : R2Is K (rI C gv) (iop g) := by
  constructor
  intro B w σ e x y a b res Q st h1 h2 q k
  cases a <;> try cases q
  cases b <;> try cases q
  rename_i i j
  obtain ⟨d, q1, q2⟩ := Option.map_eq_some_iff.mp q
  cases q2
  obtain ⟨hc, hd⟩ := h i j d q1
  exact ⟨i, j, h1.int, h2.int, hc, k _ w st (Le.refl w) (hd _)⟩
theorem r2_int0 {K : PySem.W.Frag} {gv : Int → Int → V} {g : Int → Int → D} (h : ∀ i j H, Dq K H (gv i j) (g i j)) : R2Is K (rI0 gv) (iop fun i j => some (g i j)) := by
  constructor
  intro B w σ e x y a b res Q st h1 h2 q k
  cases a <;> try cases q
  cases b <;> try cases q
  rename_i i j
  exact ⟨i, j, h1.int, h2.int, k _ w st (Le.refl w) (h i j _)⟩
def pAdd : D → D → Option Res := iop fun i j => some (.int (i + j))
def pSub : D → D → Option Res := iop fun i j => some (.int (i - j))
def pDiv : D → D → Option Res := iop fun i j => if 0 < j ∧ j < 1073741824 then some (.int (i / j)) else none
def pMod : D → D → Option Res := iop fun i j => if 0 < j then some (.int (i % j)) else none
def pPow : D → D → Option Res := iop fun i j => if 0 ≤ j ∧ j ≤ 1000000 ∧ i.natAbs < 2 ^ 64 then some (.int (i ^ j.toNat)) else none
def mulOk (i j : Int) : Prop := CMul i j ∨ CMulW i j
instance (i j : Int) : Decidable (mulOk i j) := by unfold mulOk CMul CMulW; infer_instance
def pMul : D → D → Option Res := iop fun i j => if mulOk i j then some (.int (i * j)) else none
def pLt : D → D → Option Res := iop fun i j => some (.bool (decide (i < j)))
def pLe : D → D → Option Res := iop fun i j => some (.bool (decide (i ≤ j)))
def pGt : D → D → Option Res := iop fun i j => some (.bool (decide (j < i)))
def pGe : D → D → Option Res := iop fun i j => some (.bool (decide (j ≤ i)))
theorem r_add {K} : R2Is K (rI0 fun i j => .int (i + j)) pAdd := r2_int0 fun _ _ _ => .int _
theorem r_sub {K} : R2Is K (rI0 fun i j => .int (i - j)) pSub := r2_int0 fun _ _ _ => .int _
theorem r_lt {K} : R2Is K (rI0 fun i j => .bl (decide (i < j))) pLt := r2_int0 fun _ _ _ => .bl _
theorem r_le {K} : R2Is K (rI0 fun i j => .bl (decide (i ≤ j))) pLe := r2_int0 fun _ _ _ => .bl _
theorem r_gt {K} : R2Is K (rI0 fun i j => .bl (decide (j < i))) pGt := r2_int0 fun _ _ _ => .bl _
theorem r_ge {K} : R2Is K (rI0 fun i j => .bl (decide (j ≤ i))) pGe := r2_int0 fun _ _ _ => .bl _
theorem r_div {K} : R2Is K (rI CDiv fun i j => .int (i / j)) pDiv := r2_int fun i j d h => by
  split at h
  · rename_i q; cases h; exact ⟨q, fun _ => .int _⟩
  · cases h
theorem r_mod {K} : R2Is K (rI (fun _ j => 0 < j) fun i j => .int (i % j)) pMod := r2_int fun i j d h => by
  split at h
  · rename_i q; cases h; exact ⟨q, fun _ => .int _⟩
  · cases h
theorem r_pow {K} : R2Is K (rI CPow fun i j => .int (i ^ j.toNat)) pPow := r2_int fun i j d h => by
  split at h
  · rename_i q; cases h; exact ⟨q, fun _ => .int _⟩
  · cases h
theorem op_mulA : OpR X (binaryOp .Mult) (rI mulOk fun i j => .int (i * j)) := by
  intro pins s σ H x y v u Q I rx ry h
  obtain ⟨i, j, e1, e2, hc, q⟩ := h
  rcases hc with hc | hc
  · exact op_mul pins s σ H x y v u Q I rx ry ⟨i, j, e1, e2, hc, q⟩
  · exact op_mulW pins s σ H x y v u Q I rx ry ⟨i, j, e1, e2, hc, q⟩
theorem r_mul {K} : R2Is K (rI mulOk fun i j => .int (i * j)) pMul := r2_int fun i j d h => by
  split at h
  · rename_i q; cases h; exact ⟨q, fun _ => .int _⟩
  · cases h
end
end DL

set_option Elab.async false
set_option linter.all false
set_option maxRecDepth 100000
set_option maxHeartbeats 1000000
/-! DL3: more expressions. -/
namespace DL
open PySem PySem.Spec PyProof.Rows L2

/-- the line of sizes, written -/
abbrev SZ : Nat := 16777216
theorem sz_le {n : Nat} (h : n ≤ SZ) : n ≤ sizeLine := by rw [sizeLine_eq]; exact h
theorem sz_lt {n : Nat} (h : n < SZ) : n < sizeLine := by rw [sizeLine_eq]; exact h

/-! ### tracked or known lists -/
section
variable {X : Cx} {pins : List (Addr × Obj)} {σ : L2.St} {H : Hp} {s : Shared} {l : Addr} {xs : List V}
theorem lstR (I : Inv X pins σ H s) (h : LstAt X.K H l xs) : xs.length ≤ sizeLine ∧ ∃ (its : List Value) (n : Nat), Vals xs its ∧ xs.length = its.length ∧ s.heap.get? l = some { cls := .type "list", data := .seq its.toArray n } := by
  rcases h with h | ⟨its, n, h1, h2, h3⟩
  · have z : ObjOk X.prog X.w H s.heap l (.lst xs) := h.ok I.hok
    obtain ⟨z, its, n, r, e⟩ := z
    exact ⟨z, its, n, r, r.length, e⟩
  · have e : xs.length = its.size := by rw [← Array.length_toList]; exact h3.length
    exact ⟨by rw [e]; exact h2, its.toList, n, h3, h3.length, by rw [Array.toArray_toList]; exact I.kIn l _ h1⟩
def rCatR (K : PySem.W.Frag) : R2 := fun x y H Q => ∃ l b xs zs, x = .ref l ∧ y = .ref b ∧ LstAt K H l xs ∧ LstAt K H b zs ∧ xs.length + zs.length ≤ sizeLine ∧ ∀ p, H p = none → Q (.ref p) (upd H p (.lst (xs ++ zs)))
theorem op_catR : OpR X (binaryOp .Add) (rCatR X.K) := by
  intro pins s σ H x y v u Q I rx ry ⟨l, b, xs, zs, e1, e2, h1, h2, hz, q⟩
  subst e1 e2
  cases rx
  cases ry
  obtain ⟨_, i1, n1, r1, l1, g1⟩ := lstR I h1
  obtain ⟨_, i2, n2, r2, l2, g2⟩ := lstR I h2
  refine PySem.P.add_list g1 g2 ?_ (by simp only [List.size_toArray]; omega)
  rw [show i1.toArray ++ i2.toArray = (i1 ++ i2).toArray by simp]
  exact ⟨.ref s.heap.objs.size, _, I.lnew (t' := s.toks) (r1.append r2) (by simp only [List.length_append]; exact hz), rfl, q _ I.fresh⟩
def rRepR (K : PySem.W.Frag) : R2 := fun x y H Q => ∃ l k xs, x = .ref l ∧ y = .int k ∧ LstAt K H l xs ∧ (-(2 ^ 63) ≤ k ∧ k < 2 ^ 63) ∧ xs.length * k.toNat ≤ sizeLine ∧
  ∀ p, H p = none → Q (.ref p) (upd H p (.lst (List.replicate k.toNat xs).flatten))
theorem fold_rep0 (its : List Value) (m : Nat) : List.foldl (fun x1 x2 => x1 ++ x2) #[] (List.replicate m its.toArray) = (List.replicate m its).flatten.toArray := by
  have z := foldl_rep its m []
  simpa using z
theorem op_repR : OpR X (binaryOp .Mult) (rRepR X.K) := by
  intro pins s σ H x y v u Q I rx ry ⟨l, k, xs, e1, e2, hR, hb, hz, q⟩
  subst e1 e2
  cases rx
  obtain ⟨t, et⟩ := ry
  subst et
  obtain ⟨_, its, n, r, hl, g⟩ := lstR I hR
  have sz : its.toArray.size * k.toNat ≤ sizeLine := by simp only [List.size_toArray]; rw [← hl]; exact hz
  have c1 : ¬ (!Builtin.List.listFitsIndex k) = true := by simp [fitsIndex_both hb.1 hb.2]
  have c2 : ¬ its.toArray.size * k.toNat > (2 ^ 63 - 1) / 8 := by
    have : (sizeLine : Nat) ≤ (2 ^ 63 - 1) / 8 := by decide
    omega
  have c3 : ¬ Builtin.List.listTooLong (its.toArray.size * k.toNat) = true := by rw [notLongL sz]; exact Bool.false_ne_true
  have e : List.foldl (fun x1 x2 => x1 ++ x2) #[] (List.replicate (if its.toArray.isEmpty = true then 0 else k.toNat) its.toArray) = (List.replicate k.toNat its).flatten.toArray := by
    rw [fold_rep0]
    cases its with
    | nil => simp
    | cons a b => simp
  have tl : s.TypeIs (.ref l) "list" := ⟨_, g, rfl⟩
  have mulL := AutoListH.list___mul___list_int_3 l its.toArray n k t c1 c2 c3
  refine wpAny_binaryOp_repeat_ref (T := "list") (U := "int") (by decide) tl (fun z => typeIs_int z k t) noFill_list_mul F.fills_int_mul F.slot_int_rmul repeat_list F.slot_int_index.lookup ?_
  refine call_meets F.slot_int_rmul (typeIs_int s k t) F.entry_int_rmul (F.args_int_rmul_2 _ _) (int___rmul___int_list k t l its.toArray n) ⟨g, rfl, tl, ?_⟩
  refine call_meets F.slot_list_mul tl F.entry_list_mul (F.args_list_mul_2 _ _) mulL ⟨g, ?_⟩
  rw [e]
  have hl2 : (List.replicate k.toNat xs).flatten.length ≤ sizeLine := by rw [PyProof.Rows.lm_len_rep_flat, Nat.mul_comm]; exact hz
  exact ⟨.ref s.heap.objs.size, _, I.lnew (t' := s.toks) (r.rep k.toNat) hl2, rfl, q _ I.fresh⟩
end

/-! ### sequences by operators -/
def okLen (n : Nat) (r : Res) : Option Res := if n ≤ SZ then some r else none
theorem okLen_some {n : Nat} {r r' : Res} (h : okLen n r = some r') : n ≤ SZ ∧ r = r' := by
  unfold okLen at h
  split at h
  · rename_i q; exact ⟨q, Option.some.inj h⟩
  · cases h
def sAddT : D → D → Option Res
  | .tuple a, .tuple b => okLen (a.length + b.length) (.val (.tuple (a ++ b)))
  | _, _ => none
def sAddL : D → D → Option Res
  | .list a, .list b => okLen (a.length + b.length) (.fresh (a ++ b))
  | _, _ => none
def sMulL : D → D → Option Res
  | .list a, .int k => if -(2 ^ 63) ≤ k ∧ k < 2 ^ 63 then okLen (a.length * k.toNat) (.fresh (List.replicate k.toNat a).flatten) else none
  | _, _ => none
section
variable {K : PySem.W.Frag} {B : Bd} {w w' : Wd} {σ : L2.St} {e : En} {v : V} {d : D}
/-- a new frozen tuple as a result -/
theorem res_tup (st : Stt K B w σ e) {vs : List V} {ds : List D} (h : Da K w.F vs ds) {Q : VK} (q : ∀ v w', Stt K B w' σ e → Le w w' → ResOK K w.H w' v (.val (.tuple ds)) → Q v w'.H) (p : Addr) (np : w.H p = none) : Q (.ref p) (upd w.H p (.tup vs)) := by
  obtain ⟨k1, k2, k3⟩ := st.add (o := .tup vs) np
  exact q _ (w.add p (.tup vs)) k2 k1 (.tup (.inl (.inl k3)) (dqAll_same k1.fz h))
theorem res_lst (st : Stt K B w σ e) {vs : List V} {ds : List D} (h : Da K w.F vs ds) {Q : VK} (q : ∀ v w', Stt K B w' σ e → Le w w' → ResOK K w.H w' v (.fresh ds) → Q v w'.H) (p : Addr) (np : w.H p = none) : Q (.ref p) (upd w.H p (.lst vs)) := by
  obtain ⟨k1, k2⟩ := st.addL (o := .lst vs) np
  exact q _ (w.addL p (.lst vs)) k2 k1 ⟨p, vs, rfl, upd_same, st.nF np, st.nO np, np, h⟩
theorem r_addT : R2Is K (rCatA K) sAddT := by
  constructor
  intro B w σ e x y a b res Q st h1 h2 q k
  cases a <;> try cases q
  cases b <;> try cases q
  rename_i a b
  obtain ⟨hz, q1⟩ := okLen_some q
  subst q1
  obtain ⟨p, vs, e1, s1, d1⟩ := h1.tuple st.sub
  obtain ⟨r, us, e2, s2, d2⟩ := h2.tuple st.sub
  have l1 := da_len d1
  have l2 := da_len d2
  refine ⟨p, r, vs, us, e1, e2, s1, s2, sz_le (by omega), fun z => ?_, fun _ z => ?_, fun _ _ t nt => res_tup st (da_append d1 d2) k t nt⟩
  · subst z
    cases d1
    rw [← e2]
    exact k y w st (Le.refl w) (by
      rcases h2 with h2 | ⟨_, _, _, _, z, _⟩
      · exact h2
      · cases z)
  · subst z
    cases d2
    rw [← e1]
    exact k x w st (Le.refl w) (by
      rw [List.append_nil]
      rcases h1 with h1 | ⟨_, _, _, _, z, _⟩
      · exact h1
      · cases z)
theorem r_addL : R2Is K (rCatR K) sAddL := by
  constructor
  intro B w σ e x y a b res Q st h1 h2 q k
  cases a <;> try cases q
  cases b <;> try cases q
  rename_i a b
  obtain ⟨hz, q1⟩ := okLen_some q
  subst q1
  obtain ⟨p, vs, e1, s1, d1⟩ := h1.list st.sub
  obtain ⟨r, us, e2, s2, d2⟩ := h2.list st.sub
  have l1 := da_len d1
  have l2 := da_len d2
  exact ⟨p, r, vs, us, e1, e2, s1, s2, sz_le (by omega), fun t nt => res_lst st (da_append d1 d2) k t nt⟩
theorem r_mulL : R2Is K (rRepR K) sMulL := by
  constructor
  intro B w σ e x y a b res Q st h1 h2 q k
  cases a <;> try cases q
  cases b <;> try cases q
  rename_i a b
  have q' : (if -(2 ^ 63) ≤ b ∧ b < 2 ^ 63 then okLen (a.length * b.toNat) (.fresh (List.replicate b.toNat a).flatten) else none) = some res := q
  split at q'
  · rename_i hb
    obtain ⟨hz, q1⟩ := okLen_some q'
    subst q1
    obtain ⟨p, vs, e1, s1, d1⟩ := h1.list st.sub
    have l1 := da_len d1
    exact ⟨p, b, vs, e1, h2.int, s1, hb, sz_le (by rw [l1]; exact hz), fun t nt => res_lst st (da_replicate _ d1) k t nt⟩
  · cases q'
end
/-- +: ints, tuples, lists -/
def vAdd : D → D → Option Res := fun a b => (pAdd a b).or ((sAddT a b).or (sAddL a b))
def vMul : D → D → Option Res := fun a b => (pMul a b).or (sMulL a b)
section
variable {X : Cx} {a b c : Expr} {fa fb fc : FE} {pos : Pos}
theorem d_add (ha : PE X a (tE X.K fa)) (hb : PE X b (tE X.K fb)) : PE X (.BinOp a .Add b pos) (tV X.K (fBin vAdd fa fb)) :=
  d_bin (op_add.or (op_catA.or op_catR)) (r2_or r_add (r2_or r_addT r_addL)) ha hb
theorem d_mul (ha : PE X a (tE X.K fa)) (hb : PE X b (tE X.K fb)) : PE X (.BinOp a .Mult b pos) (tV X.K (fBin vMul fa fb)) :=
  d_bin (op_mulA.or op_repR) (r2_or r_mul r_mulL) ha hb
theorem d_sub (ha : PE X a (tE X.K fa)) (hb : PE X b (tE X.K fb)) : PE X (.BinOp a .Sub b pos) (tV X.K (fBin pSub fa fb)) := d_bin op_sub r_sub ha hb
theorem d_div (ha : PE X a (tE X.K fa)) (hb : PE X b (tE X.K fb)) : PE X (.BinOp a .FloorDiv b pos) (tV X.K (fBin pDiv fa fb)) := d_bin op_fdiv r_div ha hb
theorem d_mod (ha : PE X a (tE X.K fa)) (hb : PE X b (tE X.K fb)) : PE X (.BinOp a .Mod b pos) (tV X.K (fBin pMod fa fb)) := d_bin op_mod r_mod ha hb
theorem d_pow (ha : PE X a (tE X.K fa)) (hb : PE X b (tE X.K fb)) : PE X (.BinOp a .Pow b pos) (tV X.K (fBin pPow fa fb)) := d_bin op_pow r_pow ha hb

/-! ### comparisons -/
def sEq : D → D → Option Res := fun a b => if SeqAt.shaped a = true ∧ SeqAt.shaped b = true then some (.val (.bool (PyData.eqv a b))) else none
def sNe : D → D → Option Res := fun a b => if SeqAt.shaped a = true ∧ SeqAt.shaped b = true then some (.val (.bool (!PyData.eqv a b))) else none
theorem r_eq {K} : R2Is K (rEqD K) sEq := by
  constructor
  intro B w σ e x y a b res Q st h1 h2 q k
  unfold sEq at q
  split at q
  · rename_i z
    cases q
    exact ⟨a, b, dq_dp (h1.dp st.sub), dq_dp (h2.dp st.sub), z.1, z.2, k _ w st (Le.refl w) (.bl _)⟩
  · cases q
theorem r_ne {K} : R2Is K (rNeD K) sNe := by
  constructor
  intro B w σ e x y a b res Q st h1 h2 q k
  unfold sNe at q
  split at q
  · rename_i z
    cases q
    exact ⟨a, b, dq_dp (h1.dp st.sub), dq_dp (h2.dp st.sub), z.1, z.2, k _ w st (Le.refl w) (.bl _)⟩
  · cases q
theorem d_eq (hu : X.A.units + 64 < cLine) (ha : PE X a (tE X.K fa)) (hb : PE X b (tE X.K fb)) : PE X (.Compare a [.Eq] [b] pos) (tV X.K (fBin sEq fa fb)) := d_cmp (op_eqD hu) r_eq ha hb (nomark _)
theorem d_ne (hu : X.A.units + 64 < cLine) (ha : PE X a (tE X.K fa)) (hb : PE X b (tE X.K fb)) : PE X (.Compare a [.NotEq] [b] pos) (tV X.K (fBin sNe fa fb)) := d_cmp (op_neD hu) r_ne ha hb (nomark _)
theorem d_lt (ha : PE X a (tE X.K fa)) (hb : PE X b (tE X.K fb)) : PE X (.Compare a [.Lt] [b] pos) (tV X.K (fBin pLt fa fb)) := d_cmp op_lt r_lt ha hb (nomark _)
theorem d_le (ha : PE X a (tE X.K fa)) (hb : PE X b (tE X.K fb)) : PE X (.Compare a [.LtE] [b] pos) (tV X.K (fBin pLe fa fb)) := d_cmp op_le r_le ha hb (nomark _)
theorem d_gt (ha : PE X a (tE X.K fa)) (hb : PE X b (tE X.K fb)) : PE X (.Compare a [.Gt] [b] pos) (tV X.K (fBin pGt fa fb)) := d_cmp op_gt r_gt ha hb (nomark _)
theorem d_ge (ha : PE X a (tE X.K fa)) (hb : PE X b (tE X.K fb)) : PE X (.Compare a [.GtE] [b] pos) (tV X.K (fBin pGe fa fb)) := d_cmp op_ge r_ge ha hb (nomark _)
/-- is None -/
def isN : D → Bool
  | .none => true
  | _ => false
def sIsN (neg : Bool) : D → D → Option Res
  | a, .none => some (.val (.bool (if neg then !isN a else isN a)))
  | _, _ => none
theorem isN_of {K : PySem.W.Frag} {w : Wd} {v : V} {d : D} (h : DpT K w v d) : decide (v = .non) = isN d := by
  rcases h with h | ⟨a, vs, l, rfl, rfl, _⟩
  · cases h <;> rfl
  · rfl
theorem r_isN {K} : R2Is K (fun x y H Q => y = .non ∧ Q (.bl (decide (x = .non))) H) (sIsN false) := by
  constructor
  intro B w σ e x y a b res Q st h1 h2 q k
  cases b <;> try cases q
  refine ⟨h2.none, k _ w st (Le.refl w) ?_⟩
  rw [isN_of h1]
  exact Dq.bl _
theorem r_notN {K} : R2Is K (fun x y H Q => y = .non ∧ Q (.bl (!decide (x = .non))) H) (sIsN true) := by
  constructor
  intro B w σ e x y a b res Q st h1 h2 q k
  cases b <;> try cases q
  refine ⟨h2.none, k _ w st (Le.refl w) ?_⟩
  rw [isN_of h1]
  exact Dq.bl _
theorem d_isN (ha : PE X a (tE X.K fa)) (hb : PE X b (tE X.K fb)) : PE X (.Compare a [.Is] [b] pos) (tV X.K (fBin (sIsN false) fa fb)) := d_cmp op_isN r_isN ha hb (nomark _)
theorem d_notN (ha : PE X a (tE X.K fa)) (hb : PE X b (tE X.K fb)) : PE X (.Compare a [.IsNot] [b] pos) (tV X.K (fBin (sIsN true) fa fb)) := d_cmp op_notN r_notN ha hb (nomark _)
end
/-! in, not in: flat items -/
def flatD : D → Bool
  | .none => true
  | .bool _ => true
  | .int _ => true
  | .str _ => true
  | _ => false
theorem flat_of {K : PySem.W.Frag} {H : Hp} {v : V} {d : D} (h : Dq K H v d) (f : flatD d = true) : flatV v = true := by
  cases h <;> first | rfl | cases f
theorem eqv_flat {K : PySem.W.Frag} {H : Hp} {x y : V} {a b : D} (h1 : Dq K H x a) (h2 : Dq K H y b) (fa : flatD a = true) (fb : flatD b = true) : eqV y x = PyData.eqv b a := by
  cases h1 <;> cases h2 <;> first
    | rfl
    | (simp only [flatD, Bool.false_eq_true] at fa)
    | (simp only [flatD, Bool.false_eq_true] at fb)
theorem flats_of {K : PySem.W.Frag} {H : Hp} : ∀ {vs : List V} {ds : List D}, Da K H vs ds → ds.all flatD = true → vs.all flatV = true
  | _, _, .nil, _ => rfl
  | _, _, .cons h t, f => by
    rw [List.all_cons, Bool.and_eq_true] at f ⊢
    exact ⟨flat_of h f.1, flats_of t f.2⟩
theorem inV_of {K : PySem.W.Frag} {H : Hp} {x : V} {a : D} (h : Dq K H x a) (fa : flatD a = true) : ∀ {vs : List V} {ds : List D}, Da K H vs ds → ds.all flatD = true → inV x vs = ds.any fun y => PyData.eqv y a
  | _, _, .nil, _ => rfl
  | _, _, .cons h1 t, f => by
    rw [List.all_cons, Bool.and_eq_true] at f
    have ih := inV_of h fa t f.2
    unfold inV at ih ⊢
    rw [List.any_cons, List.any_cons, ih, eqv_flat h h1 fa f.1]
def seqOf : D → Option (List D)
  | .list l => some l
  | .tuple l => some l
  | _ => none
def sIn (neg : Bool) : D → D → Option Res := fun a b => (seqOf b).bind fun l => if flatD a = true ∧ l.all flatD = true then some (.val (.bool (if neg then !(l.any fun y => PyData.eqv y a) else l.any fun y => PyData.eqv y a))) else none
theorem seq_of {K : PySem.W.Frag} {w : Wd} {v : V} {d : D} {l : List D} (s : Same w.F w.H) (h : DpT K w v d) (q : seqOf d = some l) : ∃ a vs, v = .ref a ∧ (LstAt K w.H a vs ∨ SqT K w.H a vs) ∧ Da K w.F vs l := by
  cases d <;> try cases q
  · obtain ⟨a, vs, e1, e2, e3⟩ := h.list s
    exact ⟨a, vs, e1, .inl e2, e3⟩
  · obtain ⟨a, vs, e1, e2, e3⟩ := h.tuple s
    exact ⟨a, vs, e1, .inr e2, e3⟩
theorem r_in {K neg} : R2Is K (rIn K neg) (sIn neg) := by
  constructor
  intro B w σ e x y a b res Q st h1 h2 q k
  unfold sIn at q
  obtain ⟨l, q1, q2⟩ := Option.bind_eq_some_iff.mp q
  split at q2
  · rename_i z
    cases q2
    obtain ⟨p, vs, e1, e2, e3⟩ := seq_of st.sub h2 q1
    have h1' : Dq K w.F x a := by
      rcases h1 with h1 | ⟨_, _, _, _, e, _⟩
      · exact h1
      · subst e; cases z.1
    refine ⟨p, vs, e1, ?_, flat_of h1' z.1, flats_of e3 z.2, k _ w st (Le.refl w) ?_⟩
    · rcases e2 with e2 | e2
      · exact .inl (la_sql e2)
      · exact .inr e2
    · rw [inV_of h1' z.1 e3 z.2]
      cases neg <;> exact .bl _
  · cases q2
section
variable {X : Cx} {a b c : Expr} {fa fb fc : FE} {pos : Pos}
theorem d_in (ha : PE X a (tE X.K fa)) (hb : PE X b (tE X.K fb)) (hm : behindInMarks .In b = false) : PE X (.Compare a [.In] [b] pos) (tV X.K (fBin (sIn false) fa fb)) := d_cmp op_in_seq r_in ha hb hm
theorem d_notIn (ha : PE X a (tE X.K fa)) (hb : PE X b (tE X.K fb)) (hm : behindInMarks .NotIn b = false) : PE X (.Compare a [.NotIn] [b] pos) (tV X.K (fBin (sIn true) fa fb)) := d_cmp op_notIn_seq r_in ha hb hm
end
end DL

set_option Elab.async false
set_option linter.all false
set_option maxRecDepth 100000
set_option maxHeartbeats 1000000
/-! DL4: tests, displays, subscripts, slices, built-in calls. -/
namespace DL
open PySem PySem.Spec PyProof.Rows L2
section
variable {X : Cx} {a b c : Expr} {fa fb fc : FE} {ta tb tc : FT} {pos : Pos} {rest : List Expr}
/-! ### and, or, not, if as values -/
def fAnd (f g : FE) : FE := fun e => (f e).bind fun p => match look p.2 p.1 with
  | some (.bool true) => g p.2
  | some (.bool false) => some (.val (.bool false), p.2)
  | _ => none
def fOr (f g : FE) : FE := fun e => (f e).bind fun p => match look p.2 p.1 with
  | some (.bool false) => g p.2
  | some (.bool true) => some (.val (.bool true), p.2)
  | _ => none
def fNot (f : FE) : FV := fun e => (f e).bind fun p => match look p.2 p.1 with
  | some (.bool b) => some (.val (.bool (!b)), p.2)
  | _ => none
theorem d_one {op} (h : PE X a (tE X.K fa)) : PE X (.BoolOp op [a] pos) (tE X.K fa) := pe_one h
theorem d_and (ha : PE X a (tE X.K fa)) (hb : PE X (.BoolOp .And (b :: rest) pos) (tE X.K fb)) : PE X (.BoolOp .And (a :: b :: rest) pos) (tE X.K (fAnd fa fb)) := by
  refine pe_imp (pe_and ha hb) fun σ H Q ⟨B, w, e, r, e', hH, st, hf, q⟩ => ?_
  obtain ⟨⟨r1, e1⟩, k1, k2⟩ := Option.bind_eq_some_iff.mp hf
  refine ⟨B, w, e, r1, e1, hH, st, k1, fun v w1 s1 l1 p1 => ?_⟩
  cases hl : look e1 r1 with
  | none => simp only [hl] at k2; cases k2
  | some d =>
    have t := look_ok s1 hl p1
    simp only [hl] at k2
    cases d <;> try cases k2
    rename_i z
    refine ⟨z, t.bool, ?_⟩
    cases z with
    | true => exact ⟨B, w1, e1, r, e', rfl, s1, k2, fun v2 w2 s2 l2 p2 => q v2 w2 s2 (l1.trans l2) p2⟩
    | false =>
      cases k2
      exact q _ w1 s1 l1 (Dq.bl _)
theorem d_or (ha : PE X a (tE X.K fa)) (hb : PE X (.BoolOp .Or (b :: rest) pos) (tE X.K fb)) : PE X (.BoolOp .Or (a :: b :: rest) pos) (tE X.K (fOr fa fb)) := by
  refine pe_imp (pe_or ha hb) fun σ H Q ⟨B, w, e, r, e', hH, st, hf, q⟩ => ?_
  obtain ⟨⟨r1, e1⟩, k1, k2⟩ := Option.bind_eq_some_iff.mp hf
  refine ⟨B, w, e, r1, e1, hH, st, k1, fun v w1 s1 l1 p1 => ?_⟩
  cases hl : look e1 r1 with
  | none => simp only [hl] at k2; cases k2
  | some d =>
    have t := look_ok s1 hl p1
    simp only [hl] at k2
    cases d <;> try cases k2
    rename_i z
    refine ⟨z, t.bool, ?_⟩
    cases z with
    | false => exact ⟨B, w1, e1, r, e', rfl, s1, k2, fun v2 w2 s2 l2 p2 => q v2 w2 s2 (l1.trans l2) p2⟩
    | true =>
      cases k2
      exact q _ w1 s1 l1 (Dq.bl _)
theorem d_not (ha : PE X a (tE X.K fa)) : PE X (.UnaryOp .Not a pos) (tV X.K (fNot fa)) := by
  refine pe_imp (pe_not ha) fun σ H Q ⟨B, w, e, r, e', hH, st, hf, q⟩ => ?_
  obtain ⟨⟨r1, e1⟩, k1, k2⟩ := Option.bind_eq_some_iff.mp hf
  refine ⟨B, w, e, r1, e1, hH, st, k1, fun v w1 s1 l1 p1 => ?_⟩
  cases hl : look e1 r1 with
  | none => simp only [hl] at k2; cases k2
  | some d =>
    have t := look_ok s1 hl p1
    simp only [hl] at k2
    cases d <;> try cases k2
    rename_i z
    exact ⟨z, t.bool, q _ w1 s1 l1 (Dq.bl _)⟩
def fNeg (f : FE) : FV := fun e => (f e).bind fun p => match look p.2 p.1 with
  | some (.int b) => some (.val (.int (-b)), p.2)
  | _ => none
theorem d_neg (ha : PE X a (tE X.K fa)) : PE X (.UnaryOp .USub a pos) (tV X.K (fNeg fa)) := by
  refine pe_imp (pe_un un_neg ha) fun σ H Q ⟨B, w, e, r, e', hH, st, hf, q⟩ => ?_
  obtain ⟨⟨r1, e1⟩, k1, k2⟩ := Option.bind_eq_some_iff.mp hf
  refine ⟨B, w, e, r1, e1, hH, st, k1, fun v w1 s1 l1 p1 => ?_⟩
  cases hl : look e1 r1 with
  | none => simp only [hl] at k2; cases k2
  | some d =>
    have t := look_ok s1 hl p1
    simp only [hl] at k2
    cases d <;> try cases k2
    rename_i z
    exact ⟨z, t.int, q _ w1 s1 l1 (Dq.int _)⟩

/-! ### tests -/
def fTestV (h : FV) : FT := fun e => (h e).bind fun p => match p.1 with
  | .val (.bool b) => some (b, p.2)
  | _ => none
theorem test_run {K : PySem.W.Frag} {h : FV} {σ : L2.St} {H : Hp} {Q : Bool → Hp → Prop} (q : tT K (fTestV h) σ H Q) : tV K h σ H fun x H' => ∃ k, x = .bl k ∧ Q k H' := by
  obtain ⟨B, w, e, b, e', hH, st, hf, q⟩ := q
  obtain ⟨⟨r1, e1⟩, k1, k2⟩ := Option.bind_eq_some_iff.mp hf
  refine ⟨B, w, e, r1, e1, hH, st, k1, fun v w1 s1 l1 p1 => ?_⟩
  cases r1 with
  | fresh l => cases k2
  | val d =>
    cases d <;> try cases k2
    have p1' : Dq K w1.F v (.bool b) := p1
    cases p1'
    exact ⟨b, rfl, q w1 s1 l1⟩
theorem t_cmp {op : CmpOp} {r : R2} {f : D → D → Option Res} (ho : OpR X (compareOp op) r) (h : R2Is X.K r f) (ha : PE X a (tE X.K fa)) (hb : PE X b (tE X.K fb)) (hm : behindInMarks op b = false) : PT X (.Compare a [op] [b] pos) (tT X.K (fTestV (fBin f fa fb))) :=
  pt_imp (pt_cmpR ho ha hb hm) fun _ _ _ q => bin_run h (test_run q)
theorem t_eq (hu : X.A.units + 64 < cLine) (ha : PE X a (tE X.K fa)) (hb : PE X b (tE X.K fb)) : PT X (.Compare a [.Eq] [b] pos) (tT X.K (fTestV (fBin sEq fa fb))) := t_cmp (op_eqD hu) r_eq ha hb (nomark _)
theorem t_ne (hu : X.A.units + 64 < cLine) (ha : PE X a (tE X.K fa)) (hb : PE X b (tE X.K fb)) : PT X (.Compare a [.NotEq] [b] pos) (tT X.K (fTestV (fBin sNe fa fb))) := t_cmp (op_neD hu) r_ne ha hb (nomark _)
theorem t_lt (ha : PE X a (tE X.K fa)) (hb : PE X b (tE X.K fb)) : PT X (.Compare a [.Lt] [b] pos) (tT X.K (fTestV (fBin pLt fa fb))) := t_cmp op_lt r_lt ha hb (nomark _)
theorem t_le (ha : PE X a (tE X.K fa)) (hb : PE X b (tE X.K fb)) : PT X (.Compare a [.LtE] [b] pos) (tT X.K (fTestV (fBin pLe fa fb))) := t_cmp op_le r_le ha hb (nomark _)
theorem t_gt (ha : PE X a (tE X.K fa)) (hb : PE X b (tE X.K fb)) : PT X (.Compare a [.Gt] [b] pos) (tT X.K (fTestV (fBin pGt fa fb))) := t_cmp op_gt r_gt ha hb (nomark _)
theorem t_ge (ha : PE X a (tE X.K fa)) (hb : PE X b (tE X.K fb)) : PT X (.Compare a [.GtE] [b] pos) (tT X.K (fTestV (fBin pGe fa fb))) := t_cmp op_ge r_ge ha hb (nomark _)
theorem t_isN (ha : PE X a (tE X.K fa)) (hb : PE X b (tE X.K fb)) : PT X (.Compare a [.Is] [b] pos) (tT X.K (fTestV (fBin (sIsN false) fa fb))) := t_cmp op_isN r_isN ha hb (nomark _)
theorem t_notN (ha : PE X a (tE X.K fa)) (hb : PE X b (tE X.K fb)) : PT X (.Compare a [.IsNot] [b] pos) (tT X.K (fTestV (fBin (sIsN true) fa fb))) := t_cmp op_notN r_notN ha hb (nomark _)
theorem t_in (ha : PE X a (tE X.K fa)) (hb : PE X b (tE X.K fb)) (hm : behindInMarks .In b = false) : PT X (.Compare a [.In] [b] pos) (tT X.K (fTestV (fBin (sIn false) fa fb))) := t_cmp op_in_seq r_in ha hb hm
theorem t_notIn (ha : PE X a (tE X.K fa)) (hb : PE X b (tE X.K fb)) (hm : behindInMarks .NotIn b = false) : PT X (.Compare a [.NotIn] [b] pos) (tT X.K (fTestV (fBin (sIn true) fa fb))) := t_cmp op_notIn_seq r_in ha hb hm
/-- a value's truth -/
def truthD : D → Option Bool
  | .none => some false
  | .bool b => some b
  | .int i => some (i != 0)
  | .list l => some (!l.isEmpty)
  | .tuple l => some (!l.isEmpty)
  | _ => none
def fTruth (f : FE) : FT := fun e => (f e).bind fun p => (look p.2 p.1).bind fun d => (truthD d).map fun b => (b, p.2)
theorem empty_of {K : PySem.W.Frag} {H : Hp} {vs : List V} {ds : List D} (h : Da K H vs ds) : vs.isEmpty = ds.isEmpty := by cases h <;> rfl
theorem tru_of {K : PySem.W.Frag} {w : Wd} {v : V} {d : D} {b : Bool} (s : Same w.F w.H) (h : DpT K w v d) (q : truthD d = some b) : TruV K v w.H b := by
  cases d <;> try cases q
  · rw [h.none]; rfl
  · rw [h.bool]; rfl
  · rw [h.int]; rfl
  · obtain ⟨a, vs, e1, e2, e3⟩ := h.list s
    subst e1
    exact .inl ⟨vs, la_sql e2, by rw [empty_of e3]⟩
  · obtain ⟨a, vs, e1, e2, e3⟩ := h.tuple s
    subst e1
    exact .inr (.inl ⟨vs, e2, by rw [empty_of e3]⟩)
theorem t_truth (ha : PE X a (tE X.K fa)) (he : ∀ whole, isTrue a X.env whole = (do let v ← whole; standAt a.pos; holding [v] (truthy v))) : PT X a (tT X.K (fTruth fa)) := by
  refine pt_imp (pt_truth ha he) fun σ H Q ⟨B, w, e, b, e', hH, st, hf, q⟩ => ?_
  obtain ⟨⟨r1, e1⟩, k1, k2⟩ := Option.bind_eq_some_iff.mp hf
  obtain ⟨d, k3, k4⟩ := Option.bind_eq_some_iff.mp k2
  obtain ⟨b', k5, k6⟩ := Option.map_eq_some_iff.mp k4
  cases k6
  exact ⟨B, w, e, r1, e1, hH, st, k1, fun v w1 s1 l1 p1 => ⟨b, tru_of s1.sub (look_ok s1 k3 p1) k5, q w1 s1 l1⟩⟩
def gAnd (f g : FT) : FT := fun e => (f e).bind fun p => if p.1 = true then g p.2 else some (false, p.2)
def gOr (f g : FT) : FT := fun e => (f e).bind fun p => if p.1 = true then some (true, p.2) else g p.2
def gNot (f : FT) : FT := fun e => (f e).map fun p => (!p.1, p.2)
theorem tt_two {K : PySem.W.Frag} {f g : FT} {σ : L2.St} {H : Hp} {Q : Bool → Hp → Prop} {k : Bool} (q : tT K (fun e => (f e).bind fun p => if p.1 = k then g p.2 else some (p.1, p.2)) σ H Q) :
    tT K f σ H fun c H1 => if c = k then tT K g σ H1 Q else Q c H1 := by
  obtain ⟨B, w, e, b, e', hH, st, hf, q⟩ := q
  obtain ⟨⟨b1, e1⟩, k1, k2⟩ := Option.bind_eq_some_iff.mp hf
  refine ⟨B, w, e, b1, e1, hH, st, k1, fun w1 s1 l1 => ?_⟩
  by_cases z : b1 = k
  · simp only [z, if_pos] at k2 ⊢
    exact ⟨B, w1, e1, b, e', rfl, s1, k2, fun w2 s2 l2 => q w2 s2 (l1.trans l2)⟩
  · simp only [z, if_false] at k2 ⊢
    cases k2
    exact q w1 s1 l1
theorem w_and1 (ha : PT X a (tT X.K ta)) : PW X (.BoolOp .And [a] pos) (tT X.K ta) := pw_and1 ha
theorem w_or1 (ha : PT X a (tT X.K ta)) : PW X (.BoolOp .Or [a] pos) (tT X.K ta) := pw_or1 ha
theorem w_and (ha : PT X a (tT X.K ta)) (hb : PW X (.BoolOp .And (b :: rest) pos) (tT X.K tb)) : PW X (.BoolOp .And (a :: b :: rest) pos) (tT X.K (gAnd ta tb)) := by
  refine ⟨fun wh pins s σ H Q I h => (pw_and ha hb).run wh pins s σ H Q I ?_⟩
  have h' : tT X.K (fun e => (ta e).bind fun p => if p.1 = true then tb p.2 else some (p.1, p.2)) σ H Q := by
    have e : gAnd ta tb = fun e => (ta e).bind fun p => if p.1 = true then tb p.2 else some (p.1, p.2) := by
      funext e
      unfold gAnd
      congr 1
      funext p
      obtain ⟨p1, p2⟩ := p
      cases p1 <;> rfl
    rw [← e]; exact h
  obtain ⟨B, w, e, b, e', hH, st, hf, q⟩ := tt_two h'
  refine ⟨B, w, e, b, e', hH, st, hf, fun w1 s1 l1 => ?_⟩
  have z := q w1 s1 l1
  cases b <;> exact z
theorem w_or (ha : PT X a (tT X.K ta)) (hb : PW X (.BoolOp .Or (b :: rest) pos) (tT X.K tb)) : PW X (.BoolOp .Or (a :: b :: rest) pos) (tT X.K (gOr ta tb)) := by
  refine ⟨fun wh pins s σ H Q I h => (pw_or ha hb).run wh pins s σ H Q I ?_⟩
  have h' : tT X.K (fun e => (ta e).bind fun p => if p.1 = false then tb p.2 else some (p.1, p.2)) σ H Q := by
    have e : gOr ta tb = fun e => (ta e).bind fun p => if p.1 = false then tb p.2 else some (p.1, p.2) := by
      funext e
      unfold gOr
      congr 1
      funext p
      obtain ⟨p1, p2⟩ := p
      cases p1 <;> rfl
    rw [← e]; exact h
  obtain ⟨B, w, e, b, e', hH, st, hf, q⟩ := tt_two h'
  refine ⟨B, w, e, b, e', hH, st, hf, fun w1 s1 l1 => ?_⟩
  have z := q w1 s1 l1
  cases b <;> exact z
theorem t_not (ha : PT X a (tT X.K ta)) : PT X (.UnaryOp .Not a pos) (tT X.K (gNot ta)) := by
  refine pt_imp (pt_not ha) fun σ H Q ⟨B, w, e, b, e', hH, st, hf, q⟩ => ?_
  obtain ⟨⟨b1, e1⟩, k1, k2⟩ := Option.map_eq_some_iff.mp hf
  cases k2
  exact ⟨B, w, e, b1, e1, hH, st, k1, q⟩
def fIf (t : FT) (f g : FE) : FE := fun e => (t e).bind fun p => if p.1 = true then f p.2 else g p.2
theorem d_if (ht : PT X c (tT X.K tc)) (ha : PE X a (tE X.K fa)) (hb : PE X b (tE X.K fb)) : PE X (.IfExp c a b pos) (tE X.K (fIf tc fa fb)) := by
  refine pe_imp (pe_ifExp ht ha hb) fun σ H Q ⟨B, w, e, r, e', hH, st, hf, q⟩ => ?_
  obtain ⟨⟨b1, e1⟩, k1, k2⟩ := Option.bind_eq_some_iff.mp hf
  refine ⟨B, w, e, b1, e1, hH, st, k1, fun w1 s1 l1 => ?_⟩
  by_cases z : b1 = true
  · simp only [z, if_true] at k2 ⊢
    exact ⟨B, w1, e1, r, e', rfl, s1, k2, fun v2 w2 s2 l2 => q v2 w2 s2 (l1.trans l2)⟩
  · simp only [z, if_false] at k2 ⊢
    exact ⟨B, w1, e1, r, e', rfl, s1, k2, fun v2 w2 s2 l2 => q v2 w2 s2 (l1.trans l2)⟩
/-- low <= x < high and the like -/
def fChain (op op' : D → D → Option Res) (f g h : FE) : FV := fun e =>
  (f e).bind fun p => (g p.2).bind fun q => (look q.2 p.1).bind fun a => (look q.2 q.1).bind fun b => match op a b with
    | some (.val (.bool true)) => (h q.2).bind fun r => (look r.2 q.1).bind fun b => (look r.2 r.1).bind fun c => (op' b c).map fun z => (z, r.2)
    | some (.val (.bool false)) => some (.val (.bool false), q.2)
    | _ => none
theorem chain_run {r r' : R2} {op op' : D → D → Option Res} (h : R2Is X.K r op) (h' : R2Is X.K r' op') {σ : L2.St} {H : Hp} {Q : VK} (q : tV X.K (fChain op op' fa fb fc) σ H Q) : tChain r r' (tE X.K fa) (tE X.K fb) (tE X.K fc) σ H Q := by
  obtain ⟨B, w, e, res, e', hH, st, hf, q⟩ := q
  obtain ⟨⟨r1, e1⟩, k1, k2⟩ := Option.bind_eq_some_iff.mp hf
  obtain ⟨⟨r2, e2⟩, k3, k4⟩ := Option.bind_eq_some_iff.mp k2
  obtain ⟨d1, k5, k6⟩ := Option.bind_eq_some_iff.mp k4
  obtain ⟨d2, k7, k8⟩ := Option.bind_eq_some_iff.mp k6
  refine ⟨B, w, e, r1, e1, hH, st, k1, fun v1 w1 s1 l1 p1 => ?_⟩
  refine ⟨B, w1, e1, r2, e2, rfl, s1, k3, fun v2 w2 s2 l2 p2 => ?_⟩
  cases ho : op d1 d2 with
  | none => simp only [ho] at k8; cases k8
  | some z =>
    simp only [ho] at k8
    cases z with
    | fresh l => cases k8
    | val z =>
      cases z <;> try cases k8
      rename_i z
      refine h.run s2 (look_ok s2 k5 (p1.later l2)) (look_ok s2 k7 p2) ho fun v w3 s3 l3 ok => ?_
      have ok' : Dq X.K w3.F v (.bool z) := ok
      cases ok'
      refine ⟨z, rfl, ?_⟩
      cases z with
      | false =>
        cases k8
        exact q _ w3 s3 ((l1.trans l2).trans l3) (Dq.bl _)
      | true =>
        obtain ⟨⟨r3, e3⟩, j1, j2⟩ := Option.bind_eq_some_iff.mp k8
        obtain ⟨d3, j3, j4⟩ := Option.bind_eq_some_iff.mp j2
        obtain ⟨d4, j5, j6⟩ := Option.bind_eq_some_iff.mp j4
        obtain ⟨zz, j7, j8⟩ := Option.map_eq_some_iff.mp j6
        cases j8
        have l123 := (l1.trans l2).trans l3
        refine ⟨B, w3, e2, r3, e3, rfl, s3, j1, fun v4 w4 s4 l4 p4 => ?_⟩
        exact h'.run s4 (look_ok s4 j3 (p2.later (l3.trans l4))) (look_ok s4 j5 p4) j7 fun v w5 s5 l5 ok => q v w5 s5 ((l123.trans l4).trans l5) (ok.mono fun a z => l123.dom a (l4.dom a z))
theorem d_chain {op op' : CmpOp} {r r' : R2} {f f' : D → D → Option Res} (ho : OpR X (compareOp op) r) (h : R2Is X.K r f) (ho' : OpR X (compareOp op') r') (h' : R2Is X.K r' f') (ha : PE X a (tE X.K fa)) (hb : PE X b (tE X.K fb)) (hc : PE X c (tE X.K fc))
    (hm : lastMarks [op, op'] [b, c] = false) : PE X (.Compare a [op, op'] [b, c] pos) (tV X.K (fChain f f' fa fb fc)) := pe_imp (pe_chain ho ho' ha hb hc hm) fun _ _ _ q => chain_run h h' q
theorem t_chain {op op' : CmpOp} {r r' : R2} {f f' : D → D → Option Res} (ho : OpR X (compareOp op) r) (h : R2Is X.K r f) (ho' : OpR X (compareOp op') r') (h' : R2Is X.K r' f') (ha : PE X a (tE X.K fa)) (hb : PE X b (tE X.K fb)) (hc : PE X c (tE X.K fc))
    (hm : lastMarks [op, op'] [b, c] = false) : PT X (.Compare a [op, op'] [b, c] pos) (tT X.K (fTestV (fChain f f' fa fb fc))) := pt_imp (pt_chain ho ho' ha hb hc hm) fun _ _ _ q => chain_run h h' (test_run q)
end
/-! ### arguments, displays -/
section
variable {X : Cx} {a : Expr} {es : List Expr} {f : FE} {fs : FA} {pos : Pos}
def fNil : FA := fun e => some ([], e)
def fCons (f : FE) (g : FA) : FA := fun e => (f e).bind fun p => (g p.2).map fun q => (p.1 :: q.1, q.2)
theorem a_nil : PA X [] (tA X.K fNil) := by
  refine pa_imp pa_nil fun σ H Q ⟨B, w, e, rs, e', hH, st, hf, q⟩ => ?_
  cases hf
  subst hH
  exact q [] w st (Le.refl w) trivial
theorem a_cons (ha : PE X a (tE X.K f)) (hr : PA X es (tA X.K fs)) (hs : starEach (a :: es) X.env = (false, eval a X.env) :: starEach es X.env := by rfl) : PA X (a :: es) (tA X.K (fCons f fs)) := by
  refine pa_imp (pa_cons ha hr hs) fun σ H Q ⟨B, w, e, rs, e', hH, st, hf, q⟩ => ?_
  obtain ⟨⟨r1, e1⟩, k1, k2⟩ := Option.bind_eq_some_iff.mp hf
  obtain ⟨⟨r2, e2⟩, k3, k4⟩ := Option.map_eq_some_iff.mp k2
  cases k4
  refine ⟨B, w, e, r1, e1, hH, st, k1, fun v1 w1 s1 l1 p1 => ?_⟩
  exact ⟨B, w1, e1, r2, e2, rfl, s1, k3, fun v2 w2 s2 l2 p2 => q (v1 :: v2) w2 s2 (l1.trans l2) ⟨p1.later l2, p2⟩⟩
def fTup (g : FA) : FV := fun e => (g e).bind fun p => (frzs p.2 p.1).bind fun q => (okLen q.1.length (.val (.tuple q.1))).map fun r => (r, q.2)
def fLst (g : FA) : FV := fun e => (g e).bind fun p => (frzs p.2 p.1).bind fun q => (okLen q.1.length (.fresh q.1)).map fun r => (r, q.2)
theorem d_tup {k} (h : PA X es (tA X.K fs)) : PE X (.Tuple es k pos) (tV X.K (fTup fs)) := by
  refine pe_imp (pe_tup h) fun σ H Q ⟨B, w, e, r, e', hH, st, hf, q⟩ => ?_
  obtain ⟨⟨rs, e1⟩, k1, k2⟩ := Option.bind_eq_some_iff.mp hf
  obtain ⟨⟨ds, e2⟩, k3, k4⟩ := Option.bind_eq_some_iff.mp k2
  obtain ⟨rr, k5, k6⟩ := Option.map_eq_some_iff.mp k4
  cases k6
  obtain ⟨hz, k7⟩ := okLen_some k5
  subst k7
  refine ⟨B, w, e, rs, e1, hH, st, k1, fun vs w1 s1 l1 p1 => ?_⟩
  obtain ⟨w2, j1, s2, l2, dd⟩ := frzs_ok s1 k3 p1
  refine ⟨sz_le (by rw [da_len dd]; exact hz), fun p np => ?_⟩
  have z := res_tup s2 dd (Q := Q) (fun v w3 s3 l3 ok => q v w3 s3 ((l1.trans l2).trans l3) ok) p (by rw [j1]; exact np)
  rw [j1] at z
  exact z
theorem d_lst (h : PA X es (tA X.K fs)) : PE X (.List es pos) (tV X.K (fLst fs)) := by
  refine pe_imp (pe_lst h) fun σ H Q ⟨B, w, e, r, e', hH, st, hf, q⟩ => ?_
  obtain ⟨⟨rs, e1⟩, k1, k2⟩ := Option.bind_eq_some_iff.mp hf
  obtain ⟨⟨ds, e2⟩, k3, k4⟩ := Option.bind_eq_some_iff.mp k2
  obtain ⟨rr, k5, k6⟩ := Option.map_eq_some_iff.mp k4
  cases k6
  obtain ⟨hz, k7⟩ := okLen_some k5
  subst k7
  refine ⟨B, w, e, rs, e1, hH, st, k1, fun vs w1 s1 l1 p1 => ?_⟩
  obtain ⟨w2, j1, s2, l2, dd⟩ := frzs_ok s1 k3 p1
  refine ⟨sz_le (by rw [da_len dd]; exact hz), fun p np => ?_⟩
  have z := res_lst s2 dd (Q := Q) (fun v w3 s3 l3 ok => q v w3 s3 ((l1.trans l2).trans l3) (ok.mono fun a z => l1.dom a (l2.dom a z))) p (by rw [j1]; exact np)
  rw [j1] at z
  exact z
end
end DL

set_option Elab.async false
set_option linter.all false
set_option maxRecDepth 100000
set_option maxHeartbeats 1000000
/-! DL5: subscripts, slices, built-in calls. -/
namespace DL
open PySem PySem.Spec PyProof.Rows L2

/-! ### subscripts -/
def sIx : D → D → Option Res
  | .list l, .int i => (atI l i).map .val
  | .tuple l, .int i => (atI l i).map .val
  | _, _ => none
theorem at_of {K : PySem.W.Frag} {H : Hp} {vs : List V} {ds : List D} {i : Int} {d : D} (h : Da K H vs ds) (q : atI ds i = some d) : ∃ v, atI vs i = some v ∧ Dq K H v d := by
  unfold atI at q ⊢
  rw [da_len h]
  obtain ⟨j, k1, k2⟩ := Option.bind_eq_some_iff.mp q
  obtain ⟨v, k3, k4⟩ := da_get h k2
  exact ⟨v, by rw [k1]; exact k3, k4⟩
theorem r_ix {K} : R2Is K (rIx K) sIx := by
  constructor
  intro B w σ e x y a b res Q st h1 h2 q k
  cases a <;> try cases q
  · cases b <;> try cases q
    obtain ⟨d, k1, k2⟩ := Option.map_eq_some_iff.mp q
    subst k2
    obtain ⟨p, vs, e1, e2, e3⟩ := h1.list st.sub
    obtain ⟨v, k3, k4⟩ := at_of e3 k1
    exact .inl ⟨p, vs, _, v, e1, h2.int, la_sql e2, k3, k v w st (Le.refl w) k4⟩
  · cases b <;> try cases q
    obtain ⟨d, k1, k2⟩ := Option.map_eq_some_iff.mp q
    subst k2
    obtain ⟨p, vs, e1, e2, e3⟩ := h1.tuple st.sub
    obtain ⟨v, k3, k4⟩ := at_of e3 k1
    exact .inr (.inl ⟨p, vs, _, v, e1, h2.int, e2, k3, k v w st (Le.refl w) k4⟩)
section
variable {X : Cx} {a b : Expr} {fa fb : FE} {pos p2 : Pos} {lo hi : Option Expr}
theorem d_ix (ha : PE X a (tE X.K fa)) (hb : PE X b (tE X.K fb)) (hs : PlainIx b) : PE X (.Subscript a b pos) (tV X.K (fBin sIx fa fb)) := pe_imp (pe_ix ix_seq ha hb hs) fun _ _ _ q => bin_run r_ix q

/-! ### slices -/
abbrev FO := En → Option (Option Int × En)
def fNo : FO := fun e => some (none, e)
def fAt (f : FE) : FO := fun e => (f e).bind fun p => match look p.2 p.1 with
  | some (.int i) => some (some i, p.2)
  | _ => none
def tO (K : PySem.W.Frag) (f : FO) : TO := fun σ H Q => ∃ B w e o e', w.H = H ∧ Stt K B w σ e ∧ f e = some (o, e') ∧ ∀ w', Stt K B w' σ e' → Le w w' → Q o w'.H
theorem o_imp {x : Option Expr} {t u : TO} (h : PO X x t) (q : ∀ σ H Q, u σ H Q → t σ H Q) : PO X x u := ⟨fun pins s σ H Q I hw => h.run pins s σ H Q I (q _ _ _ hw)⟩
theorem o_none : PO X none (tO X.K fNo) := o_imp po_none fun σ H Q ⟨B, w, e, o, e', hH, st, hf, q⟩ => by
  cases hf
  subst hH
  exact q w st (Le.refl w)
theorem o_some (h : PE X a (tE X.K fa)) : PO X (some a) (tO X.K (fAt fa)) := o_imp (po_some h) fun σ H Q ⟨B, w, e, o, e', hH, st, hf, q⟩ => by
  obtain ⟨⟨r1, e1⟩, k1, k2⟩ := Option.bind_eq_some_iff.mp hf
  refine ⟨B, w, e, r1, e1, hH, st, k1, fun v w1 s1 l1 p1 => ?_⟩
  cases hl : look e1 r1 with
  | none => simp only [hl] at k2; cases k2
  | some d =>
    have t := look_ok s1 hl p1
    simp only [hl] at k2
    cases d <;> try cases k2
    exact ⟨_, t.int, q w1 s1 l1⟩
def cutD (ds : List D) (lo hi : Option Int) : List D := (ds.drop (HT.sIx ds.length 0 lo)).take (HT.sIx ds.length ds.length hi - HT.sIx ds.length 0 lo)
theorem cut_of {K : PySem.W.Frag} {H : Hp} {vs : List V} {ds : List D} (lo hi : Option Int) (h : Da K H vs ds) : Da K H (cutV vs lo hi) (cutD ds lo hi) := by
  unfold cutV cutD
  rw [da_len h]
  exact da_take _ (da_drop _ h)
theorem cut_all {ds : List D} {lo hi : Option Int} (h : HT.sIx ds.length 0 lo = 0 ∧ HT.sIx ds.length ds.length hi = ds.length) : cutD ds lo hi = ds := by
  unfold cutD
  rw [h.1, h.2]
  simp
/-- xs[lo:hi] -/
def sCut : D → Option Int → Option Int → Option Res
  | .list l, lo, hi => some (.fresh (cutD l lo hi))
  | .tuple l, lo, hi => some (.val (.tuple (cutD l lo hi)))
  | _, _, _ => none
def fCut (f : FE) (g h : FO) : FV := fun e => (f e).bind fun p => (g p.2).bind fun q => (h q.2).bind fun r => (look r.2 p.1).bind fun a => (sCut a q.1 r.1).map fun z => (z, r.2)
def rSlR (K : PySem.W.Frag) : V → Option Int → Option Int → Hp → VK → Prop := fun x lo hi H Q => rSlL K x lo hi H Q ∨ rSlA K x lo hi H Q
theorem d_cut {fl fh : FO} (ha : PE X a (tE X.K fa)) (hl : PO X lo (tO X.K fl)) (hh : PO X hi (tO X.K fh)) : PE X (.Subscript a (.Slice lo hi none p2) pos) (tV X.K (fCut fa fl fh)) := by
  refine pe_imp (pe_slice (sl_list.or sl_tupA) ha hl hh) fun σ H Q ⟨B, w, e, r, e', hH, st, hf, q⟩ => ?_
  obtain ⟨⟨r1, e1⟩, k1, k2⟩ := Option.bind_eq_some_iff.mp hf
  obtain ⟨⟨o1, e2⟩, k3, k4⟩ := Option.bind_eq_some_iff.mp k2
  obtain ⟨⟨o2, e3⟩, k5, k6⟩ := Option.bind_eq_some_iff.mp k4
  obtain ⟨d, k7, k8⟩ := Option.bind_eq_some_iff.mp k6
  obtain ⟨z, k9, k10⟩ := Option.map_eq_some_iff.mp k8
  cases k10
  refine ⟨B, w, e, r1, e1, hH, st, k1, fun v w1 s1 l1 p1 => ?_⟩
  refine ⟨B, w1, e1, o1, e2, rfl, s1, k3, fun w2 s2 l2 => ?_⟩
  refine ⟨B, w2, e2, o2, e3, rfl, s2, k5, fun w3 s3 l3 => ?_⟩
  have t := look_ok s3 k7 (p1.later (l2.trans l3))
  have l13 := (l1.trans l2).trans l3
  have qq : ∀ v w', Stt X.K B w' σ e3 → Le w3 w' → ResOK X.K w3.H w' v r → Q v w'.H := fun v w4 s4 l4 ok => q v w4 s4 (l13.trans l4) (ok.mono fun a z => l13.dom a z)
  cases d <;> try cases k9
  · obtain ⟨p, vs, j1, j2, j3⟩ := t.list s3.sub
    exact .inl ⟨p, vs, j1, la_sql j2, fun c nc => res_lst s3 (cut_of o1 o2 j3) qq c nc⟩
  · obtain ⟨p, vs, j1, j2, j3⟩ := t.tuple s3.sub
    refine .inr ⟨p, vs, j1, j2, fun hw => ?_, fun _ c nc => res_tup s3 (cut_of o1 o2 j3) qq c nc⟩
    subst j1
    refine qq _ w3 s3 (Le.refl w3) ?_
    rw [da_len j3] at hw
    rw [cut_all hw]
    rcases t with t | ⟨_, _, _, _, z, _⟩
    · exact t
    · cases z
/-! xs[::-1] -/
def sRev : D → Option Res
  | .list l => some (.fresh l.reverse)
  | .tuple l => some (.val (.tuple l.reverse))
  | _ => none
def fUn (op : D → Option Res) (f : FE) : FV := fun e => (f e).bind fun p => (look p.2 p.1).bind fun a => (op a).map fun z => (z, p.2)
end

/-! ### built-in calls -/
def looks (e : En) : List R → Option (List D)
  | [] => some []
  | r :: rs => (look e r).bind fun d => (looks e rs).map fun ds => d :: ds
def DTs (K : PySem.W.Frag) (w : Wd) : List V → List D → Prop
  | [], [] => True
  | v :: vs, d :: ds => DpT K w v d ∧ DTs K w vs ds
  | _, _ => False
theorem looks_ok {K : PySem.W.Frag} {B : Bd} {w : Wd} {σ : L2.St} {e : En} (st : Stt K B w σ e) : ∀ {rs : List R} {vs : List V} {ds : List D}, looks e rs = some ds → RepRs K w σ vs rs → DTs K w vs ds
  | [], [], _, q, _ => by cases q; trivial
  | r :: rs, v :: vs, _, q, p => by
    obtain ⟨d, k1, k2⟩ := Option.bind_eq_some_iff.mp q
    obtain ⟨ds, k3, k4⟩ := Option.map_eq_some_iff.mp k2
    cases k4
    exact ⟨look_ok st k1 p.1, looks_ok st k3 p.2⟩
  | [], _ :: _, _, _, p => p.elim
  | _ :: _, [], _, _, p => p.elim
/-- a call by values does what op says -/
structure RCIs (K : PySem.W.Frag) (r : List V → Hp → VK → Prop) (op : List D → Option Res) : Prop where
  run : ∀ {B : Bd} {w : Wd} {σ : L2.St} {e : En} {vs : List V} {ds : List D} {res : Res} {Q : VK}, Stt K B w σ e → DTs K w vs ds → op ds = some res →
    (∀ v w', Stt K B w' σ e → Le w w' → ResOK K w.H w' v res → Q v w'.H) → r vs w.H Q
def fBlt (op : List D → Option Res) (g : FA) : FV := fun e => (g e).bind fun p => (looks p.2 p.1).bind fun ds => (op ds).map fun z => (z, p.2)
section
variable {X : Cx} {a : Expr} {es : List Expr} {fs : FA} {pos p : Pos} {x : Str} {id T : String} {r : List V → Hp → VK → Prop} {op : List D → Option Res}
theorem blt_run {K : PySem.W.Frag} (h : RCIs K r op) {σ : L2.St} {H : Hp} {Q : VK} (q : tV K (fBlt op fs) σ H Q) : tCB r (tA K fs) σ H Q := by
  obtain ⟨B, w, e, res, e', hH, st, hf, q⟩ := q
  obtain ⟨⟨rs, e1⟩, k1, k2⟩ := Option.bind_eq_some_iff.mp hf
  obtain ⟨ds, k3, k4⟩ := Option.bind_eq_some_iff.mp k2
  obtain ⟨z, k5, k6⟩ := Option.map_eq_some_iff.mp k4
  cases k6
  exact ⟨B, w, e, rs, e1, hH, st, k1, fun vs w1 s1 l1 p1 => h.run s1 (looks_ok s1 k3 p1) k5 fun v w2 s2 l2 ok => q v w2 s2 (l1.trans l2) (ok.mono fun a z => l1.dom a z)⟩
theorem d_blt (hc : CallR X (.builtin id) r) (h : RCIs X.K r op) (hg : Gl X x) (hm : X.mg x = none) (hv : bootBuiltins x = some (.builtin id)) (ha : PA X (a :: es) (tA X.K fs)) (hn : x ≠ "__name__" := by decide) (hdb : (x == ("__debug__" : Str)) = false := by decide)
    (he : starEach (a :: es) X.env = (false, eval a X.env) :: starEach es X.env := by rfl) (hpl : (backTo pos (starEach es X.env)).any (·.1) = false := by rfl) : PE X (.Call (.Name x p) (a :: es) [] pos) (tV X.K (fBlt op fs)) :=
  pe_imp (pe_callB hc hg hm hv ha hn hdb he hpl) fun _ _ _ q => blt_run h q
theorem d_ty (hc : CallR X (.type T) r) (h : RCIs X.K r op) (hg : Gl X x) (hm : X.mg x = none) (hv : bootBuiltins x = some (.type T)) (ha : PA X (a :: es) (tA X.K fs)) (hn : x ≠ "__name__" := by decide) (hdb : (x == ("__debug__" : Str)) = false := by decide)
    (he : starEach (a :: es) X.env = (false, eval a X.env) :: starEach es X.env := by rfl) (hpl : (backTo pos (starEach es X.env)).any (·.1) = false := by rfl) : PE X (.Call (.Name x p) (a :: es) [] pos) (tV X.K (fBlt op fs)) :=
  pe_imp (pe_callTy hc hg hm hv ha hn hdb he hpl) fun _ _ _ q => blt_run h q
end
theorem dts1 {K : PySem.W.Frag} {w : Wd} {vs : List V} {d : D} (h : DTs K w vs [d]) : ∃ v, vs = [v] ∧ DpT K w v d := by
  cases vs with
  | nil => exact h.elim
  | cons v r =>
    cases r with
    | nil => exact ⟨v, rfl, h.1⟩
    | cons _ _ => exact h.2.elim
theorem dts2 {K : PySem.W.Frag} {w : Wd} {vs : List V} {d c : D} (h : DTs K w vs [d, c]) : ∃ v u, vs = [v, u] ∧ DpT K w v d ∧ DpT K w u c := by
  cases vs with
  | nil => exact h.elim
  | cons v r =>
    obtain ⟨u, e, k⟩ := dts1 h.2
    subst e
    exact ⟨v, u, rfl, h.1, k⟩
def one (f : D → Option Res) : List D → Option Res
  | [d] => f d
  | _ => none
theorem rc_one {K : PySem.W.Frag} {r : List V → Hp → VK → Prop} {f : D → Option Res} (h : ∀ {B : Bd} {w : Wd} {σ : L2.St} {e : En} {v : V} {d : D} {res : Res} {Q : VK}, Stt K B w σ e → DpT K w v d → f d = some res →
    (∀ v w', Stt K B w' σ e → Le w w' → ResOK K w.H w' v res → Q v w'.H) → r [v] w.H Q) : RCIs K r (one f) := by
  constructor
  intro B w σ e vs ds res Q st hd q k
  cases ds with
  | nil => cases q
  | cons d ds =>
    cases ds with
    | cons _ _ => cases q
    | nil =>
      obtain ⟨v, e1, t⟩ := dts1 hd
      subst e1
      exact h st t q k
/-- len -/
def sLen : D → Option Res := fun d => (seqOf d).map fun l => .val (.int l.length)
theorem rc_len {K} : RCIs K (fun xs H Q => ∃ x n, xs = [x] ∧ LenV K x H n ∧ Q (.int n) H) (one sLen) := rc_one fun {B w σ e v d res Q} st t q k => by
  obtain ⟨l, k1, k2⟩ := Option.map_eq_some_iff.mp q
  subst k2
  obtain ⟨a, vs, e1, e2, e3⟩ := seq_of st.sub t k1
  subst e1
  refine ⟨.ref a, vs.length, rfl, ?_, k _ w st (Le.refl w) ?_⟩
  · rcases e2 with e2 | e2
    · exact .inl ⟨vs, la_sql e2, rfl⟩
    · exact .inr ⟨vs, e2, rfl⟩
  · rw [da_len e3]
    exact Dq.int _
/-- int -/
def sInt : D → Option Res
  | .int i => some (.val (.int i))
  | _ => none
theorem rc_int {K} : RCIs K (fun xs H Q => (∃ i, xs = [.int i] ∧ Q (.int i) H) ∨ ∃ k, xs = [.bl k] ∧ Q (.int (if k then 1 else 0)) H) (one sInt) := rc_one fun {B w σ e v d res Q} st t q k => by
  cases d <;> try cases q
  rw [t.int]
  exact .inl ⟨_, rfl, k _ w st (Le.refl w) (Dq.int _)⟩
/-- max, min of two -/
def twoI (g : Int → Int → D) : List D → Option Res
  | [.int i, .int j] => some (.val (g i j))
  | _ => none
def sMax2 : List D → Option Res := twoI fun i j => .int (if j > i then j else i)
def sMin2 : List D → Option Res := twoI fun i j => .int (if j < i then j else i)
theorem two_ints {K : PySem.W.Frag} {w : Wd} {vs : List V} {ds : List D} {g : Int → Int → D} {res : Res} (h : DTs K w vs ds) (q : twoI g ds = some res) : ∃ i j, vs = [.int i, .int j] ∧ res = .val (g i j) := by
  unfold twoI at q
  split at q
  · cases q
    rename_i i j
    obtain ⟨v, u, e1, t1, t2⟩ := dts2 h
    exact ⟨i, j, by rw [e1, t1.int, t2.int], rfl⟩
  · cases q
theorem rc_max2 {K} : RCIs K (fun xs H Q => ∃ i j, xs = [.int i, .int j] ∧ Q (.int (if j > i then j else i)) H) sMax2 := by
  constructor
  intro B w σ e vs ds res Q st h q k
  obtain ⟨i, j, e1, e2⟩ := two_ints h q
  subst e2
  exact ⟨i, j, e1, k _ w st (Le.refl w) (Dq.int _)⟩
theorem rc_min2 {K} : RCIs K (fun xs H Q => ∃ i j, xs = [.int i, .int j] ∧ Q (.int (if j < i then j else i)) H) sMin2 := by
  constructor
  intro B w σ e vs ds res Q st h q k
  obtain ⟨i, j, e1, e2⟩ := two_ints h q
  subst e2
  exact ⟨i, j, e1, k _ w st (Le.refl w) (Dq.int _)⟩
/-- the ints of a list, the bools -/
def intsOf : List D → Option (List Int)
  | [] => some []
  | .int i :: r => (intsOf r).map fun l => i :: l
  | _ :: _ => none
def boolsOf : List D → Option (List Bool)
  | [] => some []
  | .bool i :: r => (boolsOf r).map fun l => i :: l
  | _ :: _ => none
theorem intsOf_eq : ∀ {ds : List D} {ns : List Int}, intsOf ds = some ns → ds = ns.map PyData.int
  | [], ns, h => by cases h; rfl
  | d :: ds, ns, h => by
    cases d <;> try cases h
    obtain ⟨l, k1, k2⟩ := Option.map_eq_some_iff.mp h
    subst k2
    rw [intsOf_eq k1]
    rfl
theorem boolsOf_eq : ∀ {ds : List D} {ns : List Bool}, boolsOf ds = some ns → ds = ns.map PyData.bool
  | [], ns, h => by cases h; rfl
  | d :: ds, ns, h => by
    cases d <;> try cases h
    obtain ⟨l, k1, k2⟩ := Option.map_eq_some_iff.mp h
    subst k2
    rw [boolsOf_eq k1]
    rfl
theorem intsOf_map (ns : List Int) : intsOf (ns.map PyData.int) = some ns := by
  induction ns with
  | nil => rfl
  | cons n ns ih => simp only [List.map_cons, intsOf, ih, Option.map_some]
theorem boolsOf_map (ns : List Bool) : boolsOf (ns.map PyData.bool) = some ns := by
  induction ns with
  | nil => rfl
  | cons n ns ih => simp only [List.map_cons, boolsOf, ih, Option.map_some]
/-- sum: of a list or a tuple of ints -/
def sSum : D → Option Res := fun d => (seqOf d).bind fun l => (intsOf l).map fun ns => .val (.int ns.sum)
def rSumA (K : PySem.W.Frag) : List V → Hp → VK → Prop := fun vs H Q => ∃ (a : Addr) (ns : List Int), vs = [V.ref a] ∧ (SqL K H a (ns.map V.int) ∨ SqT K H a (ns.map V.int)) ∧ Q (.int ns.sum) H
section
variable {X : Cx}
theorem sum_tup {prog : Program} {w : World} {A : Around} {E : Value → Shared → Prop} {s : Shared} {l : Addr} {its : List Value} {ns : List Int} {Q : Value → Shared → Prop} (hh : A.handled = none) (hl : s.heap.IsTuple l its.toArray) (hi : IntsAre its ns)
    (h : ∀ h' tk t', (∀ b o, s.heap.get? b = some o → h'.get? b = some o) → Q (.int ns.sum t') { s with heap := h', toks := tk }) : wpAny (model prog w) A (call (.builtin "sum") [.ref l]) Q E s := by
  obtain ⟨xs, e⟩ := hi.allInts.items
  have hn : numsOf (intItems xs).toList = ns := by rw [← e]; exact hi.numsOf
  rw [nums_intItems] at hn
  rw [e] at hl
  have hlt : l < s.heap.objs.size := by obtain ⟨_, e, _⟩ := hl; exact Heap.lt_size e
  refine call_sum_walkG (wpAny_pyIter_tuple hl ?_)
  refine ⟨s.heap.objs.size, _, _, _, _, _, numAt xs, rfl, Walks.tuple (A := A.in1) hh _ l (Nat.ne_of_lt hlt) (intItems xs), ⟨⟨_, Heap.get?_push_size _ rfl, rfl, rfl⟩, hl.push _⟩, fun b hb => ?_, (fun _ _ => intItems_at), fun h' tk t' hk => ?_⟩
  · show b < (s.heap.push _).objs.size
    rw [Heap.size_push]
    rcases List.mem_cons.mp hb with e1 | e1
    · rw [e1]; exact Nat.lt_succ_self _
    · rcases List.mem_cons.mp e1 with e1 | e1
      · rw [e1]; exact Nat.lt_succ_of_lt hlt
      · cases e1
  · have z := h h' tk t' fun b o eo => hk b o (fun hm => by
      rcases List.mem_cons.mp hm with e1 | e1
      · rw [e1] at eo; exact absurd (Heap.lt_size eo) (Nat.lt_irrefl _)
      · cases e1) (Heap.get?_push_of_some _ eo)
    have e2 : preSum (numAt xs) xs.size = ns.sum := by
      rw [preSum_eq, List.take_of_length_le (by simp), hn]
    simpa [intItems, e2] using z
theorem cr_sumA (hc : X.calm = true) : CallR X (.builtin "sum") (rSumA X.K) := by
  intro pins s σ H vs us Q I r ⟨a, ns, e1, hs, q⟩
  subst e1
  rcases hs with hs | hs
  · exact cr_sum hc pins s σ H _ us Q I r ⟨a, ns, rfl, hs, q⟩
  · obtain ⟨its, rv, hl, _⟩ := I.tuple hs
    rw [Vals.ref1 r]
    exact sum_tup (I.ok.hd hc) hl rv.ints fun h' tk t' hk => ⟨.int _, H, I.kept hk, ⟨_, rfl⟩, q⟩
end
theorem rc_sum {K} : RCIs K (rSumA K) (one sSum) := rc_one fun {B w σ e v d res Q} st t q k => by
  obtain ⟨l, k1, k2⟩ := Option.bind_eq_some_iff.mp q
  obtain ⟨ns, k3, k4⟩ := Option.map_eq_some_iff.mp k2
  subst k4
  obtain ⟨a, vs, e1, e2, e3⟩ := seq_of st.sub t k1
  subst e1
  rw [intsOf_eq k3] at e3
  rw [da_ints e3] at e2
  refine ⟨a, ns, rfl, ?_, k _ w st (Le.refl w) (Dq.int _)⟩
  rcases e2 with e2 | e2
  · exact .inl (la_sql e2)
  · exact .inr e2
/-- all, any of a list of bools -/
def listOf : D → Option (List D)
  | .list l => some l
  | _ => none
def sAll : D → Option Res := fun d => (listOf d).bind fun l => (boolsOf l).map fun bs => .val (.bool (bs.all id))
def sAny : D → Option Res := fun d => (listOf d).bind fun l => (boolsOf l).map fun bs => .val (.bool (bs.any id))
theorem list_of {K : PySem.W.Frag} {w : Wd} {v : V} {d : D} {l : List D} (s : Same w.F w.H) (h : DpT K w v d) (q : listOf d = some l) : ∃ a vs, v = .ref a ∧ LstAt K w.H a vs ∧ Da K w.F vs l := by
  cases d <;> try cases q
  exact h.list s
theorem rc_all {K} : RCIs K (rAll K) (one sAll) := rc_one fun {B w σ e v d res Q} st t q k => by
  obtain ⟨l, k1, k2⟩ := Option.bind_eq_some_iff.mp q
  obtain ⟨ns, k3, k4⟩ := Option.map_eq_some_iff.mp k2
  subst k4
  obtain ⟨a, vs, e1, e2, e3⟩ := list_of st.sub t k1
  subst e1
  rw [boolsOf_eq k3] at e3
  rw [da_bools e3] at e2
  exact ⟨a, ns, rfl, la_sql e2, k _ w st (Le.refl w) (Dq.bl _)⟩
theorem rc_any {K} : RCIs K (rAny K) (one sAny) := rc_one fun {B w σ e v d res Q} st t q k => by
  obtain ⟨l, k1, k2⟩ := Option.bind_eq_some_iff.mp q
  obtain ⟨ns, k3, k4⟩ := Option.map_eq_some_iff.mp k2
  subst k4
  obtain ⟨a, vs, e1, e2, e3⟩ := list_of st.sub t k1
  subst e1
  rw [boolsOf_eq k3] at e3
  rw [da_bools e3] at e2
  exact ⟨a, ns, rfl, la_sql e2, k _ w st (Le.refl w) (Dq.bl _)⟩
/-- max, min of a list of ints, not empty -/
def maxI : List Int → Int
  | [] => 0
  | [a] => a
  | a :: r => if maxI r > a then maxI r else a
def minI : List Int → Int
  | [] => 0
  | [a] => a
  | a :: r => if minI r < a then minI r else a
theorem maxI_mem : ∀ {ns : List Int}, ns ≠ [] → maxI ns ∈ ns ∧ ∀ y ∈ ns, y ≤ maxI ns
  | [], h => absurd rfl h
  | [a], _ => ⟨by simp [maxI], fun y hy => by simp at hy; subst hy; exact Int.le_refl _⟩
  | a :: b :: r, _ => by
    obtain ⟨h1, h2⟩ := maxI_mem (ns := b :: r) (by simp)
    unfold maxI
    split
    · exact ⟨List.mem_cons_of_mem _ h1, fun y hy => by
        rcases List.mem_cons.mp hy with e | e
        · omega
        · exact h2 y e⟩
    · exact ⟨List.mem_cons_self, fun y hy => by
        rcases List.mem_cons.mp hy with e | e
        · omega
        · have := h2 y e; omega⟩
theorem minI_mem : ∀ {ns : List Int}, ns ≠ [] → minI ns ∈ ns ∧ ∀ y ∈ ns, minI ns ≤ y
  | [], h => absurd rfl h
  | [a], _ => ⟨by simp [minI], fun y hy => by simp at hy; subst hy; exact Int.le_refl _⟩
  | a :: b :: r, _ => by
    obtain ⟨h1, h2⟩ := minI_mem (ns := b :: r) (by simp)
    unfold minI
    split
    · exact ⟨List.mem_cons_of_mem _ h1, fun y hy => by
        rcases List.mem_cons.mp hy with e | e
        · omega
        · exact h2 y e⟩
    · exact ⟨List.mem_cons_self, fun y hy => by
        rcases List.mem_cons.mp hy with e | e
        · omega
        · have := h2 y e; omega⟩
def sMax : D → Option Res := fun d => (listOf d).bind fun l => (intsOf l).bind fun ns => if ns.isEmpty then none else some (.val (.int (maxI ns)))
def sMin : D → Option Res := fun d => (listOf d).bind fun l => (intsOf l).bind fun ns => if ns.isEmpty then none else some (.val (.int (minI ns)))
theorem rc_max {K} : RCIs K (rMax K) (one sMax) := rc_one fun {B w σ e v d res Q} st t q k => by
  obtain ⟨l, k1, k2⟩ := Option.bind_eq_some_iff.mp q
  obtain ⟨ns, k3, k4⟩ := Option.bind_eq_some_iff.mp k2
  split at k4
  · cases k4
  · rename_i hne
    cases k4
    have hne' : ns ≠ [] := fun z => hne (by rw [z]; rfl)
    obtain ⟨a, vs, e1, e2, e3⟩ := list_of st.sub t k1
    subst e1
    rw [intsOf_eq k3] at e3
    rw [da_ints e3] at e2
    refine ⟨a, ns, rfl, la_sql e2, List.length_pos_iff.mpr hne', fun m hm hle => ?_⟩
    obtain ⟨h1, h2⟩ := maxI_mem hne'
    have e : m = maxI ns := Int.le_antisymm (h2 m hm) (hle _ h1)
    rw [e]
    exact k _ w st (Le.refl w) (Dq.int _)
theorem rc_min {K} : RCIs K (rMin K) (one sMin) := rc_one fun {B w σ e v d res Q} st t q k => by
  obtain ⟨l, k1, k2⟩ := Option.bind_eq_some_iff.mp q
  obtain ⟨ns, k3, k4⟩ := Option.bind_eq_some_iff.mp k2
  split at k4
  · cases k4
  · rename_i hne
    cases k4
    have hne' : ns ≠ [] := fun z => hne (by rw [z]; rfl)
    obtain ⟨a, vs, e1, e2, e3⟩ := list_of st.sub t k1
    subst e1
    rw [intsOf_eq k3] at e3
    rw [da_ints e3] at e2
    refine ⟨a, ns, rfl, la_sql e2, List.length_pos_iff.mpr hne', fun m hm hle => ?_⟩
    obtain ⟨h1, h2⟩ := minI_mem hne'
    have e : m = minI ns := Int.le_antisymm (hle _ h1) (h2 m hm)
    rw [e]
    exact k _ w st (Le.refl w) (Dq.int _)
/-- list(x), tuple(x) of a list or tuple -/
def sList : D → Option Res := fun d => (seqOf d).map .fresh
def sTuple : D → Option Res := fun d => (seqOf d).map fun l => .val (.tuple l)
theorem rc_list {K} : RCIs K (fun xs H Q => ∃ p ys, xs = [.ref p] ∧ (SqL K H p ys ∨ SqT K H p ys) ∧ ∀ l, H l = none → Q (.ref l) (upd H l (.lst ys))) (one sList) := rc_one fun {B w σ e v d res Q} st t q k => by
  obtain ⟨l, k1, k2⟩ := Option.map_eq_some_iff.mp q
  subst k2
  obtain ⟨a, vs, e1, e2, e3⟩ := seq_of st.sub t k1
  subst e1
  refine ⟨a, vs, rfl, ?_, fun c nc => res_lst st e3 k c nc⟩
  rcases e2 with e2 | e2
  · exact .inl (la_sql e2)
  · exact .inr e2
theorem rc_tuple {K} : RCIs K (fun xs H Q => ∃ p ys, xs = [.ref p] ∧ ((SqL K H p ys ∧ ∀ l, H l = none → Q (.ref l) (upd H l (.tup ys))) ∨ (SqT K H p ys ∧ Q (.ref p) H))) (one sTuple) := rc_one fun {B w σ e v d res Q} st t q k => by
  obtain ⟨l, k1, k2⟩ := Option.map_eq_some_iff.mp q
  subst k2
  cases d <;> try cases k1
  · obtain ⟨a, vs, e1, e2, e3⟩ := t.list st.sub
    subst e1
    exact ⟨a, vs, rfl, .inl ⟨la_sql e2, fun c nc => res_tup st e3 k c nc⟩⟩
  · obtain ⟨a, vs, e1, e2, e3⟩ := t.tuple st.sub
    subst e1
    refine ⟨a, vs, rfl, .inr ⟨e2, k _ w st (Le.refl w) ?_⟩⟩
    rcases t with t | ⟨_, _, _, _, z, _⟩
    · exact t
    · cases z
end DL

set_option Elab.async false
set_option linter.all false
set_option maxRecDepth 100000
set_option maxHeartbeats 1000000
/-! DL6: xs[::-1], isinstance. -/
namespace DL
open PySem PySem.Spec PyProof.Rows L2 HT
section
variable {prog : Program} {w : World} {A : Around} {E : Value → Shared → Prop} {s : Shared}
theorem back_applied {sl : Addr} {tk : Tok} {n : Nat} {Q : Int × Int × Nat → Shared → Prop} (hs : s.heap.IsSliceOf sl .none .none (.int (-1) tk)) (h : Q ((n : Int) - 1, -1, n) s) : wpAny (model prog w) A (Builtin.Slice.sliceApplied (.ref sl) (pure (n : Int))) Q E s := by
  obtain ⟨os, hos, hcs, hds⟩ := id hs
  unfold Builtin.Slice.sliceApplied Builtin.Slice.sliceFields
  refine wpAny_bind (wpAny_bind (wpAny_field hos hds (x := .none) rfl (wpAny_bind (wpAny_field hos hds (x := .none) rfl (wpAny_bind (wpAny_field hos hds (x := .int (-1) tk) rfl (wpAny_pure ?_)))))))
  refine wpAny_bind (slicePart_int ?_)
  show wpAny _ _ (if ((-1 : Int) == 0) = true then _ else _) _ _ s
  rw [if_neg (by decide)]
  refine wpAny_bind (slicePart_none (wpAny_bind (slicePart_none (wpAny_bind (wpAny_pure ?_)))))
  show wpAny _ _ (match Builtin.Slice.sliceAdjust none none (-1) (n : Int) with | (lo, hi) => pure (lo, (-1 : Int), Builtin.Slice.slicePlaces lo hi (-1))) _ _ s
  have e : Builtin.Slice.sliceAdjust none none (-1) (n : Int) = ((n : Int) - 1, -1) := by
    simp [Builtin.Slice.sliceAdjust]
  have e2 : Builtin.Slice.slicePlaces ((n : Int) - 1) (-1) (-1) = n := by
    simp [Builtin.Slice.slicePlaces]
    omega
  rw [e]
  show wpAny _ _ (pure ((n : Int) - 1, (-1 : Int), Builtin.Slice.slicePlaces ((n : Int) - 1) (-1) (-1))) _ _ s
  rw [e2]
  exact wpAny_pure h
theorem fm_congr {α β : Type} {f g : α → Option β} : ∀ {l : List α}, (∀ x ∈ l, f x = g x) → l.filterMap f = l.filterMap g
  | [], _ => rfl
  | a :: l, h => by
    rw [List.filterMap_cons, List.filterMap_cons, h a List.mem_cons_self, fm_congr fun x hx => h x (List.mem_cons_of_mem _ hx)]
theorem range_self {α : Type} : ∀ l : List α, (List.range l.length).filterMap (fun k => l[k]?) = l
  | [] => rfl
  | a :: l => by
    rw [List.length_cons, List.range_succ_eq_map, List.filterMap_cons]
    simp only [List.getElem?_cons_zero, List.filterMap_map]
    have ih := range_self l
    congr 1
theorem back_pick (xs : Array Value) : ((List.range xs.size).filterMap fun (k : Nat) => xs[(((xs.size : Int) - 1) + (k : Int) * (-1)).toNat]?).toArray = xs.toList.reverse.toArray := by
  have e : ((List.range xs.size).filterMap fun (k : Nat) => xs[(((xs.size : Int) - 1) + (k : Int) * (-1)).toNat]?) = (List.range xs.size).filterMap fun k => xs.toList.reverse[k]? := by
    refine fm_congr fun k hk => ?_
    have hk' := List.mem_range.mp hk
    rw [List.getElem?_reverse (by simpa using hk'), Array.length_toList, Array.getElem?_toList]
    congr 1
    omega
  have e2 := range_self xs.toList.reverse
  rw [List.length_reverse, Array.length_toList] at e2
  rw [e, e2]
theorem getItem_tuple_back {t sl : Addr} {items : Array Value} {tk : Tok} {Q : Value → Shared → Prop} (ht : IsTup s.heap t items) (hs : s.heap.IsSliceOf sl .none .none (.int (-1) tk))
    (h : Q (.ref s.heap.objs.size) { s with heap := s.heap.push { cls := .type "tuple", data := .seq items.toList.reverse.toArray } }) (hsz : items.size ≤ sizeLine) : wpAny (model prog w) A (getItem (.ref t) (.ref sl)) Q E s := by
  have hz : sizeOk (.seq items.toList.reverse.toArray) := by
    show items.toList.reverse.toArray.size ≤ sizeLine
    simpa using hsz
  obtain ⟨os, hos, hcs, hds⟩ := id hs
  have hTs : s.TypeIs (.ref sl) "slice" := ⟨os, hos, hcs⟩
  unfold getItem
  try with_reducible refine wpAny_holding ?_
  first | refine wpAny_bind (wpAny_pure ?_) | skip
  refine wpAny_bind (wpAny_sequenceKey ht.typeIs (by decide) ?_)
  refine wpAny_bind (wpAny_callSpecial?_slot (name := Str.ofString "__getitem__") ht.typeIs PyProof.Rows.slot_tuple_getitem
    (wpAny_call_entry PyProof.Rows.slot_tuple_getitem ht.typeIs entry_tuple_getitem ?_ (args_tuple_getitem _ _)))
  show wpAny _ _ (Builtin.Tuple.tupleItemsOf (.ref t) >>= _) _ _ s
  refine wpAny_bind (tupleItemsOf_ ht ?_)
  refine wpAny_bind (wpAny_typeOf hTs ?_)
  rw [if_pos (by decide)]
  refine wpAny_bind (back_applied hs ?_)
  show wpAny _ _ (if (((items.size : Int) - 1) == 0 && (-1 : Int) == 1 && items.size == items.size) = true then _ else _) _ _ s
  rw [if_neg (by simp), back_pick]
  first
    | exact wpAny_bind (m := Builtin.Tuple.tupleExact _) (wpAny_newObj_type (wpAny_pure ⟨_, rfl, wpAny_pure h⟩) hz)
    | exact wpAny_bind (m := Builtin.Tuple.tupleExact _) (wpAny_newObj_type (wpAny_bind (wpAny_pure (wpAny_pure ⟨_, rfl, wpAny_pure h⟩))) hz)
    | exact wpAny_bind (wpAny_bind (m := Builtin.Tuple.tupleExact _) (wpAny_newObj_type (wpAny_pure (wpAny_pure ⟨_, rfl, wpAny_pure h⟩)) hz))
    | exact wpAny_bind (wpAny_bind (m := Builtin.Tuple.tupleExact _) (wpAny_newObj_type (wpAny_pure ⟨_, rfl, wpAny_pure h⟩) hz))
end
section
variable {X : Cx} {a : Expr} {fa : FE} {pos : Pos}
def tRevA (K : PySem.W.Frag) (te : TE) : TE := fun σ H Q => te σ H fun x H1 => ∃ a xs, x = .ref a ∧
  ((SqL K H1 a xs ∧ ∀ p, H1 p = none → Q (.ref p) (upd H1 p (.lst xs.reverse))) ∨ (SqT K H1 a xs ∧ ∀ p, H1 p = none → Q (.ref p) (upd H1 p (.tup xs.reverse))))
theorem pe_revA {e : Expr} {te : TE} {k : Nat} {p1 p2 p3 : Pos} (he : PE X e te) : PE X (.Subscript e (.Slice none none (some (.UnaryOp .USub (.Constant (.int 1) k p1) p2)) p3) pos) (tRevA X.K te) := by
  refine ⟨fun pins s σ H Q I h => ?_⟩
  refine Subscript_ (thn (he.run pins s σ H _ I h) fun v s1 ⟨x, H1, I1, r1, a, xs, ex, q⟩ => ?_)
  subst ex
  cases r1
  have hst : PO X (some (.UnaryOp .USub (.Constant (.int 1) k p1) p2)) (tPart (tUn (rU fun i => .int (-i)) (tC (.int 1)))) := po_some (pe_un un_neg pe_int)
  refine wpAny_Slice (thn (po_none.run pins s1 σ H1 (fun o H2 => o = none ∧ H2 = H1) I1 ⟨rfl, rfl⟩) fun vl s2 ⟨l, H2, I2, pl, el, e2⟩ => ?_)
  subst el e2
  refine thn (po_none.run pins s2 σ H2 (fun o H3 => o = none ∧ H3 = H2) I2 ⟨rfl, rfl⟩) fun vu s3 ⟨u, H3, I3, pu, eu, e3⟩ => ?_
  subst eu e3
  refine thn (hst.run pins s3 σ H3 (fun o H4 => o = some (-1) ∧ H4 = H3) I3 ⟨1, rfl, -1, rfl, rfl, rfl⟩) fun vs s4 ⟨o, H4, I4, ps, eo, e4⟩ => ?_
  subst eo e4
  cases pl
  cases pu
  obtain ⟨tk, etk⟩ : ∃ tk, vs = .int (-1) tk := by
    cases ps with
    | int i t => exact ⟨t, rfl⟩
  subst etk
  have I5 : Inv X pins σ H4 { s4 with heap := s4.heap.push { cls := .type "slice", data := .fields #[.none, .none, .int (-1) tk] } } := I4.kept (t' := s4.toks) fun b ob q => Heap.get?_push_of_some _ q
  show wpAny (model X.prog X.w) X.A (subscriptTail e (.Slice none none (some (.UnaryOp .USub (.Constant (.int 1) k p1) p2)) p3) (.ref a) (.ref s4.heap.objs.size)) (EP X pins σ Q) X.xe { s4 with heap := s4.heap.push { cls := .type "slice", data := .fields #[.none, .none, .int (-1) tk] } }
  rcases q with ⟨hx, q⟩ | ⟨hx, q⟩
  · obtain ⟨its, r, ht, hz⟩ := I5.list hx
    have hlen := r.length
    refine tail_any (ops := [.ref a, .ref s4.heap.objs.size]) ht.isList.typeIs (PySem.slot_list_getitem.lookup) ?_ (by with_unfolding_all rfl)
    refine wpAny_getItem_list_slice ht.isList (Heap.IsSliceOf.new _ _ _ _) .none .none (.int _ _) (by decide) ?_ (by rw [List.size_toArray]; omega)
    rw [PySem.W.krv_pick]
    refine ⟨.ref _, _, I5.laid (t' := s4.toks) (o := .lst xs.reverse) (fun b ob q => Heap.get?_push_of_some _ q) (Nat.le_refl _) ?_, rfl, q _ (I5.hok.fresh (Nat.le_refl _))⟩
    exact ⟨by rw [List.length_reverse]; exact hz, _, 0, r.reverse, Heap.get?_push_size _ rfl⟩
  · obtain ⟨its, r, ht, hz⟩ := I5.tuple hx
    have hlen := r.length
    refine tail_any (ops := [.ref a, .ref s4.heap.objs.size]) ht.typeIs (PyProof.Rows.slot_tuple_getitem.lookup) ?_ (by with_unfolding_all rfl)
    refine getItem_tuple_back ht (Heap.IsSliceOf.new _ _ _ _) ?_ (by rw [List.size_toArray]; omega)
    refine ⟨.ref _, _, I5.laid (t' := s4.toks) (o := .tup xs.reverse) (fun b ob q => Heap.get?_push_of_some _ q) (Nat.le_refl _) ?_, rfl, q _ (I5.hok.fresh (Nat.le_refl _))⟩
    exact ⟨by rw [List.length_reverse]; exact hz, _, r.reverse, IsTup.new _ _⟩
theorem d_rev {k : Nat} {p1 p2 p3 : Pos} (ha : PE X a (tE X.K fa)) : PE X (.Subscript a (.Slice none none (some (.UnaryOp .USub (.Constant (.int 1) k p1) p2)) p3) pos) (tV X.K (fUn sRev fa)) := by
  refine pe_imp (pe_revA ha) fun σ H Q ⟨B, w, e, r, e', hH, st, hf, q⟩ => ?_
  obtain ⟨⟨r1, e1⟩, k1, k2⟩ := Option.bind_eq_some_iff.mp hf
  obtain ⟨d, k3, k4⟩ := Option.bind_eq_some_iff.mp k2
  obtain ⟨z, k5, k6⟩ := Option.map_eq_some_iff.mp k4
  cases k6
  refine ⟨B, w, e, r1, e1, hH, st, k1, fun v w1 s1 l1 p1 => ?_⟩
  have t := look_ok s1 k3 p1
  have qq : ∀ v w', Stt X.K B w' σ e1 → Le w1 w' → ResOK X.K w1.H w' v r → Q v w'.H := fun v w2 s2 l2 ok => q v w2 s2 (l1.trans l2) (ok.mono fun a z => l1.dom a z)
  cases d <;> try cases k5
  · obtain ⟨p, vs, j1, j2, j3⟩ := t.list s1.sub
    exact ⟨p, vs, j1, .inl ⟨la_sql j2, fun c nc => res_lst s1 (da_reverse j3) qq c nc⟩⟩
  · obtain ⟨p, vs, j1, j2, j3⟩ := t.tuple s1.sub
    exact ⟨p, vs, j1, .inr ⟨j2, fun c nc => res_tup s1 (da_reverse j3) qq c nc⟩⟩
end

/-! ### isinstance -/
inductive Ty where
  | int | bool | str | list | tuple | dict
  deriving DecidableEq
def Ty.name : Ty → String
  | .int => "int" | .bool => "bool" | .str => "str" | .list => "list" | .tuple => "tuple" | .dict => "dict"
def tyName : D → String
  | .none => "NoneType" | .bool _ => "bool" | .int _ => "int" | .str _ => "str" | .list _ => "list" | .tuple _ => "tuple" | .dict _ => "dict"
def isTy (d : D) : Ty → Bool
  | .int => match d with | .int _ => true | .bool _ => true | _ => false
  | .bool => match d with | .bool _ => true | _ => false
  | .str => match d with | .str _ => true | _ => false
  | .list => match d with | .list _ => true | _ => false
  | .tuple => match d with | .tuple _ => true | _ => false
  | .dict => match d with | .dict _ => true | _ => false
theorem kit_is (d : D) (t : Ty) : kitB (tyName d) t.name = some (isTy d t) := by
  cases t <;> cases d <;> (dsimp only [tyName, isTy, Ty.name]; decide +kernel)
theorem tyx_of {K : PySem.W.Frag} {w : Wd} {v : V} {d : D} (s : Same w.F w.H) (h : DpT K w v d) : TyX K w.H v (.type (tyName d)) := by
  have rl : ∀ {a : Addr} {vs : List V}, LstAt K w.H a vs → TyX K w.H (.ref a) (.type "list") := fun {a vs} q => by
    rcases q with (q | ⟨o, q⟩) | ⟨its, n, q, _⟩
    · exact .base (.lst q)
    · exact .base (.frz q)
    · exact .kList q rfl
  rcases h with h | ⟨a, vs, l, rfl, rfl, h, _⟩
  · cases h with
    | non => exact .base .non
    | bl b => exact .base (.bl b)
    | int i => exact .base (.int i)
    | str x => exact .base (.str x)
    | lst q _ => exact rl (la_same s q)
    | tup q _ =>
      rcases same_t s q with (q | ⟨o, q⟩) | ⟨o, its, n, q, c, _⟩
      · exact .base (.tup q)
      · exact .fTuple q
      · exact .kTuple q c
  · exact rl (.inl (.inl h))
def fIsi (ts : List Ty) (f : FE) : FV := fun e => (f e).bind fun p => (look p.2 p.1).map fun d => (.val (.bool (ts.any fun t => isTy d t)), p.2)
section
variable {X : Cx} {a b : Expr} {fa : FE} {pos p : Pos}
theorem d_isi {t : Ty} (hg : Gl X "isinstance") (hm : X.mg "isinstance" = none) (ha : PE X a (tE X.K fa)) (hb : PE X b (tC (.ty t.name))) (h1 : starEach [a, b] X.env = (false, eval a X.env) :: starEach [b] X.env := by rfl) (h2 : starEach [b] X.env = (false, eval b X.env) :: starEach [] X.env := by rfl)
    (h3 : (backTo pos (starEach [b] X.env)).any (·.1) = false := by rfl) : PE X (.Call (.Name "isinstance" p) [a, b] [] pos) (tV X.K (fIsi [t] fa)) := by
  refine pe_imp (pe_callB call_isi hg hm (by decide +kernel) (pa_cons ha (pa_cons hb pa_nil h2) h1) (by decide) (by decide) h1 h3) fun σ H Q ⟨B, w, e, r, e', hH, st, hf, q⟩ => ?_
  obtain ⟨⟨r1, e1⟩, k1, k2⟩ := Option.bind_eq_some_iff.mp hf
  obtain ⟨d, k3, k4⟩ := Option.map_eq_some_iff.mp k2
  cases k4
  refine ⟨B, w, e, r1, e1, hH, st, k1, fun v w1 s1 l1 p1 => ?_⟩
  refine ⟨v, _, _, _, isTy d t, rfl, .ty _, tyx_of s1.sub (look_ok s1 k3 p1), kit_ty (kit_is d t), q _ w1 s1 l1 ?_⟩
  simp only [List.any_cons, List.any_nil, Bool.or_false]
  exact Dq.bl _
theorem d_isi2 {t u : Ty} {c : Expr} {k : Nat} {p3 : Pos} (hg : Gl X "isinstance") (hm : X.mg "isinstance" = none) (ha : PE X a (tE X.K fa)) (hb : PE X b (tC (.ty t.name))) (hc : PE X c (tC (.ty u.name)))
    (h1 : starEach [a, .Tuple [b, c] k p3] X.env = (false, eval a X.env) :: starEach [.Tuple [b, c] k p3] X.env := by rfl) (h2 : starEach [.Tuple [b, c] k p3] X.env = (false, eval (.Tuple [b, c] k p3) X.env) :: starEach [] X.env := by rfl)
    (h3 : (backTo pos (starEach [.Tuple [b, c] k p3] X.env)).any (·.1) = false := by rfl) (h4 : starEach [b, c] X.env = (false, eval b X.env) :: starEach [c] X.env := by rfl) (h5 : starEach [c] X.env = (false, eval c X.env) :: starEach [] X.env := by rfl) :
    PE X (.Call (.Name "isinstance" p) [a, .Tuple [b, c] k p3] [] pos) (tV X.K (fIsi [t, u] fa)) := by
  refine pe_imp (pe_callB call_isiT hg hm (by decide +kernel) (pa_cons ha (pa_cons (pe_tup (pa_cons hb (pa_cons hc pa_nil h5) h4)) pa_nil h2) h1) (by decide) (by decide) h1 h3) fun σ H Q ⟨B, w, e, r, e', hH, st, hf, q⟩ => ?_
  obtain ⟨⟨r1, e1⟩, k1, k2⟩ := Option.bind_eq_some_iff.mp hf
  obtain ⟨d, k3, k4⟩ := Option.map_eq_some_iff.mp k2
  cases k4
  refine ⟨B, w, e, r1, e1, hH, st, k1, fun v w1 s1 l1 p1 => ?_⟩
  refine ⟨by show 2 ≤ sizeLine; decide, fun c nc => ?_⟩
  obtain ⟨j1, j2, j3⟩ := s1.add (o := .tup [.ty t.name, .ty u.name]) nc
  have tx := tyx_of j2.sub (look_ok j2 k3 (p1.later j1))
  refine ⟨v, c, _, _, [.type t.name, .type u.name], isTy d t || isTy d u, rfl, upd_same, .cons (.ty _) (.cons (.ty _) .nil), tx, ?_, q _ (w1.add c (.tup [.ty t.name, .ty u.name])) j2 (l1.trans j1) ?_⟩
  · refine kitAny_cons (kit_ty (kit_is d t)) (fun z => ?_) fun z => by rw [z]; rfl
    rw [z, Bool.false_or]
    refine kitAny_cons (kit_ty (kit_is d u)) (fun z => by rw [z]; exact kitAny_nil) fun z => z
  · simp only [List.any_cons, List.any_nil, Bool.or_false]
    exact Dq.bl _
end
end DL

set_option Elab.async false
set_option linter.all false
set_option maxRecDepth 100000
set_option maxHeartbeats 1000000
/-! DL7: own defs: what a def promises, calls, a def's body. -/
namespace DL
open PySem PySem.Spec PyProof.Rows L2

def isSlot (i : Nat) : R → Bool
  | .slot j => j == i
  | _ => false
/-- what is handed to a def: values, and own lists, lent -/
def lent (e : En) : List R → Option (List Slot)
  | [] => some []
  | .val d :: rs => (lent e rs).map fun l => .val false d :: l
  | .slot i :: rs => match e[i]? with
    | some (.val _ d) => (lent e rs).map fun l => .val false d :: l
    | some (Slot.own _ l) => if rs.any (isSlot i) = true then none else (lent e rs).map fun r => .own true l :: r
    | _ => none
def reb (b : Bool) : Slot → Option Slot
  | .own _ l => some (Slot.own b l)
  | .val _ d => some (.val b d)
  | .dead => none
/-- what was lent comes back -/
def back (e : En) : List R → List Slot → Option En
  | [], [] => some e
  | .val _ :: rs, _ :: os => back e rs os
  | .slot i :: rs, o :: os => match e[i]? with
    | some (Slot.own b _) => match reb b o with
      | some s => back (e.set i s) rs os
      | none => none
    | _ => back e rs os
  | _, _ => none
abbrev Fn := List Slot → Option (Res × List Slot)
def fCall (m : Fn) (g : FA) : FV := fun e => (g e).bind fun p => (lent p.2 p.1).bind fun as => (m as).bind fun z => (back p.2 p.1 z.2).map fun e' => (z.1, e')
/-- a def's promise -/
def spD (K : PySem.W.Frag) (n : Nat) (m : Fn) : Sp := fun vs H Q _ => ∃ w as r outs, w.H = H ∧ vs.length = n ∧ Stt K ⟨H, as.map Slot.pin, vs.map some⟩ w (vs.map some) as ∧ m as = some (r, outs) ∧
  ∀ v w', Stt K ⟨H, as.map Slot.pin, vs.map some⟩ w' (vs.map some) outs → Le w w' → ResOK K H w' v r → Q v w'.H

def LentAt (e : En) (rs : List R) (as : List Slot) (k : Nat) : Prop :=
  (∃ r d, rs[k]? = some r ∧ as[k]? = some (.val false d) ∧ (r = .val d ∨ ∃ i b, r = .slot i ∧ e[i]? = some (.val b d))) ∨
  (∃ i b l, rs[k]? = some (R.slot i) ∧ as[k]? = some (Slot.own true l) ∧ e[i]? = some (Slot.own b l) ∧ ∀ k' : Nat, k < k' → rs[k']? ≠ some (R.slot i))
theorem lent_spec {e : En} : ∀ {rs : List R} {as : List Slot}, lent e rs = some as → as.length = rs.length ∧ ∀ k : Nat, k < rs.length → LentAt e rs as k
  | [], as, h => by
    cases h
    exact ⟨rfl, fun k hk => absurd hk (Nat.not_lt_zero _)⟩
  | r :: rs, as, h => by
    have fin : ∀ {s : Slot} {l : List Slot}, lent e rs = some l → as = s :: l → (LentAt e (r :: rs) (s :: l) 0) → as.length = (r :: rs).length ∧ ∀ k, k < (r :: rs).length → LentAt e (r :: rs) as k := fun {s l} h1 h2 h3 => by
      obtain ⟨k1, k2⟩ := lent_spec h1
      subst h2
      refine ⟨by rw [List.length_cons, List.length_cons, k1], fun k hk => ?_⟩
      cases k with
      | zero => exact h3
      | succ k =>
        rcases k2 k (Nat.lt_of_succ_lt_succ hk) with ⟨r', d, q1, q2, q3⟩ | ⟨i, b, l', q1, q2, q3, q4⟩
        · exact .inl ⟨r', d, by simpa using q1, by simpa using q2, q3⟩
        · refine .inr ⟨i, b, l', by simpa using q1, by simpa using q2, q3, fun k' hk' => ?_⟩
          cases k' with
          | zero => exact absurd hk' (Nat.not_lt_zero _)
          | succ k' => simpa using q4 k' (Nat.lt_of_succ_lt_succ hk')
    cases r with
    | val d =>
      obtain ⟨l, h1, h2⟩ := Option.map_eq_some_iff.mp h
      exact fin h1 h2.symm (.inl ⟨.val d, d, rfl, rfl, .inl rfl⟩)
    | slot i =>
      unfold lent at h
      cases hs : e[i]? with
      | none => simp only [hs] at h; cases h
      | some s =>
        simp only [hs] at h
        cases s with
        | dead => cases h
        | val b d =>
          obtain ⟨l, h1, h2⟩ := Option.map_eq_some_iff.mp h
          exact fin h1 h2.symm (.inl ⟨.slot i, d, rfl, rfl, .inr ⟨i, b, rfl, hs⟩⟩)
        | own b l =>
          by_cases z : rs.any (isSlot i) = true
          · simp only [z, if_true] at h; cases h
          · simp only [z, if_false] at h
            obtain ⟨l', h1, h2⟩ := Option.map_eq_some_iff.mp h
            refine fin h1 h2.symm (.inr ⟨i, b, l, rfl, rfl, hs, fun k' hk' => ?_⟩)
            cases k' with
            | zero => exact absurd hk' (Nat.not_lt_zero _)
            | succ k' =>
              intro q
              refine z (List.any_eq_true.mpr ⟨.slot i, List.mem_of_getElem? (by simpa using q), ?_⟩)
              simp [isSlot]
def isOwn (e : En) (j : Nat) : Prop := ∃ b l, e[j]? = some (Slot.own b l)
theorem back_spec : ∀ {rs : List R} {os : List Slot} {e e2 : En}, back e rs os = some e2 → (∀ (k k' i : Nat), k < k' → rs[k]? = some (R.slot i) → isOwn e i → rs[k']? ≠ some (R.slot i)) →
    e2.length = e.length ∧ (∀ j : Nat, (∀ k : Nat, rs[k]? = some (R.slot j) → ¬ isOwn e j) → e2[j]? = e[j]?) ∧
    ∀ (k j : Nat) b l, rs[k]? = some (R.slot j) → e[j]? = some (Slot.own b l) → ∃ o s, os[k]? = some o ∧ reb b o = some s ∧ e2[j]? = some s
  | [], [], e, e2, h, _ => by
    cases h
    exact ⟨rfl, fun _ _ => rfl, fun k j b l q => by simp at q⟩
  | r :: rs, o :: os, e, e2, h, nd => by
    have nd' : ∀ (k k' i : Nat), k < k' → rs[k]? = some (R.slot i) → isOwn e i → rs[k']? ≠ some (R.slot i) := fun k k' i hk q1 q2 => by
      have z := nd (k + 1) (k' + 1) i (Nat.succ_lt_succ hk) (by simpa using q1) q2
      simpa using z
    have skip : ((∀ j, r = .slot j → ¬ isOwn e j)) → back e rs os = some e2 → e2.length = e.length ∧ (∀ j : Nat, (∀ k : Nat, (r :: rs)[k]? = some (R.slot j) → ¬ isOwn e j) → e2[j]? = e[j]?) ∧
        ∀ (k j : Nat) b l, (r :: rs)[k]? = some (R.slot j) → e[j]? = some (Slot.own b l) → ∃ o' s, (o :: os)[k]? = some o' ∧ reb b o' = some s ∧ e2[j]? = some s := fun hr hb => by
      obtain ⟨k1, k2, k3⟩ := back_spec hb nd'
      refine ⟨k1, fun j hj => k2 j fun k q => hj (k + 1) (by simpa using q), fun k j b l q1 q2 => ?_⟩
      cases k with
      | zero =>
        have e1 : r = .slot j := by simpa using q1
        exact absurd ⟨b, l, q2⟩ (hr j e1)
      | succ k =>
        obtain ⟨o', s, j1, j2, j3⟩ := k3 k j b l (by simpa using q1) q2
        exact ⟨o', s, by simpa using j1, j2, j3⟩
    cases r with
    | val d => exact skip (fun j z => by cases z) h
    | slot i =>
      unfold back at h
      cases hs : e[i]? with
      | none =>
        simp only [hs] at h
        exact skip (fun j z => by cases z; rintro ⟨b, l, q⟩; rw [hs] at q; cases q) h
      | some s =>
        simp only [hs] at h
        cases s with
        | dead => exact skip (fun j z => by cases z; rintro ⟨b, l, q⟩; rw [hs] at q; cases q) h
        | val b d => exact skip (fun j z => by cases z; rintro ⟨b, l, q⟩; rw [hs] at q; cases q) h
        | own b l =>
          cases hr : reb b o with
          | none => simp only [hr] at h; cases h
          | some s =>
            simp only [hr] at h
            have hl := lt_of_get hs
            have no_i : ∀ k : Nat, rs[k]? ≠ some (R.slot i) := fun k => by
              have z := nd 0 (k + 1) i (Nat.succ_pos _) rfl ⟨b, l, hs⟩
              simpa using z
            have own_ne : ∀ j : Nat, j ≠ i → (isOwn (e.set i s) j ↔ isOwn e j) := fun j hj => by
              unfold isOwn
              rw [List.getElem?_set_ne (Ne.symm hj)]
            obtain ⟨k1, k2, k3⟩ := back_spec h (fun k k' j hk q1 q2 => by
              by_cases z : j = i
              · subst z; exact absurd q1 (no_i k)
              · exact nd' k k' j hk q1 ((own_ne j z).mp q2))
            refine ⟨by rw [k1, List.length_set], fun j hj => ?_, fun k j b' l' q1 q2 => ?_⟩
            · by_cases z : j = i
              · subst z
                exact absurd ⟨b, l, hs⟩ (hj 0 rfl)
              · rw [k2 j fun k q => fun w => hj (k + 1) (by simpa using q) ((own_ne j z).mp w), List.getElem?_set_ne (Ne.symm z)]
            · by_cases z : j = i
              · subst z
                rw [hs] at q2
                cases q2
                cases k with
                | succ k => exact absurd (by simpa using q1) (no_i k)
                | zero =>
                  refine ⟨o, s, rfl, hr, ?_⟩
                  rw [k2 j fun k q => absurd q (no_i k), List.getElem?_set_self hl]
              · cases k with
                | zero =>
                  have e1 : i = j := by simpa using q1
                  exact absurd e1.symm z
                | succ k =>
                  obtain ⟨o', s', j1, j2, j3⟩ := k3 k j b' l' (by simpa using q1) (by rw [List.getElem?_set_ne (Ne.symm z)]; exact q2)
                  exact ⟨o', s', by simpa using j1, j2, j3⟩
  | [], _ :: _, _, _, h, _ => by cases h
  | .val _ :: _, [], _, _, h, _ => by cases h
  | .slot _ :: _, [], _, _, h, _ => by cases h
theorem repRs_get {K : PySem.W.Frag} {w : Wd} {σ : L2.St} : ∀ {vs : List V} {rs : List R} {k : Nat} {r : R}, RepRs K w σ vs rs → rs[k]? = some r → ∃ v, vs[k]? = some v ∧ RepR K w σ v r
  | [], [], _, _, _, q => by simp at q
  | v :: vs, r :: rs, 0, r', h, q => by
    have e : r = r' := by simpa using q
    subst e
    exact ⟨v, rfl, h.1⟩
  | v :: vs, r :: rs, k + 1, r', h, q => by
    obtain ⟨u, h1, h2⟩ := repRs_get (k := k) (r := r') h.2 (by simpa using q)
    exact ⟨u, by simpa using h1, h2⟩
  | [], _ :: _, _, _, h, _ => h.elim
  | _ :: _, [], _, _, h, _ => h.elim
theorem repRs_len {K : PySem.W.Frag} {w : Wd} {σ : L2.St} : ∀ {vs : List V} {rs : List R}, RepRs K w σ vs rs → vs.length = rs.length
  | [], [], _ => rfl
  | v :: vs, r :: rs, h => by rw [List.length_cons, List.length_cons, repRs_len h.2]
  | [], _ :: _, h => h.elim
  | _ :: _, [], h => h.elim
section
variable {K : PySem.W.Frag} {B : Bd} {w : Wd} {σ : L2.St} {e : En}
/-- the callee's world -/
def argO (vs : List V) (as : List Slot) : Addr → Prop := fun a => ∃ (k : Nat) (b : Bool) (l : List D), as[k]? = some (Slot.own b l) ∧ (vs.map some)[k]? = some (some (.ref a))
theorem arg_stt (st : Stt K B w σ e) {rs : List R} {vs : List V} {as : List Slot} (h : lent e rs = some as) (p : RepRs K w σ vs rs) :
    Stt K ⟨w.H, as.map Slot.pin, vs.map some⟩ ⟨w.F, w.H, argO vs as⟩ (vs.map some) as ∧ ∀ a, argO vs as a → w.O a := by
  obtain ⟨hl, sp⟩ := lent_spec h
  have hv := repRs_len p
  have at_ : ∀ (k : Nat) s, as[k]? = some s → LentAt e rs as k := fun k s q => sp k (by rw [← hl]; exact lt_of_get q)
  have own_at : ∀ (k : Nat) b l, as[k]? = some (Slot.own b l) → b = true ∧ ∃ i b', rs[k]? = some (R.slot i) ∧ e[i]? = some (Slot.own b' l) ∧ (∀ k' : Nat, k < k' → rs[k']? ≠ some (R.slot i)) ∧ ∃ a us, vs[k]? = some (.ref a) ∧ σ[i]? = some (some (.ref a)) ∧ w.H a = some (.lst us) ∧ w.F a = none ∧ Da K w.F us l ∧ w.O a := fun k b l q => by
    rcases at_ k _ q with ⟨r, d, _, q2, _⟩ | ⟨i, b', l', q1, q2, q3, q4⟩
    · rw [q] at q2; cases q2
    · rw [q] at q2
      cases q2
      obtain ⟨a, us, j1, j2, j3, j4, j5⟩ := st.own_at q3
      obtain ⟨v, v1, v2⟩ := repRs_get p q1
      rw [show σ[i]? = some (some v) from v2] at j1
      cases j1
      exact ⟨rfl, i, b', q1, q3, q4, a, us, v1, v2, j2, j3, j4, j5⟩
  refine ⟨⟨st.sub, by rw [List.length_map, hv, hl], fun k s q => ?_, fun k j b l b' l' q1 q2 q3 => ?_, fun a => Iff.rfl, rfl, fun _ _ => rfl, fun a q => q, fun k l a q => ?_⟩, fun a ⟨k, b, l, q1, q2⟩ => ?_⟩
  · rcases at_ k _ q with ⟨r, d, q1, q2, q3⟩ | ⟨i, b', l', q1, q2, q3, q4⟩
    · rw [q] at q2
      cases q2
      obtain ⟨v, v1, v2⟩ := repRs_get p q1
      refine ⟨v, by rw [List.getElem?_map, v1]; rfl, ?_⟩
      rcases q3 with q3 | ⟨i, b, q3, q4⟩
      · subst q3; exact v2
      · subst q3
        obtain ⟨u, u1, u2⟩ := st.sl i _ q4
        rw [show σ[i]? = some (some v) from v2] at u1
        cases u1
        exact u2
    · rw [q] at q2
      cases q2
      obtain ⟨_, _, _, _, _, _, a, us, v1, _, j2, j3, j4, _⟩ := own_at k _ _ q
      exact ⟨a, us, by rw [List.getElem?_map, v1]; rfl, j2, j3, j4⟩
  · obtain ⟨_, i1, b1, r1, k1, n1, a1, us1, v1, z1, _⟩ := own_at k _ _ q1
    obtain ⟨_, i2, b2, r2, k2, n2, a2, us2, v2, z2, _⟩ := own_at j _ _ q2
    rw [List.getElem?_map, List.getElem?_map, v1, v2] at q3
    have e1 : a1 = a2 := by simpa using q3
    subst e1
    have e2 := st.inj i1 i2 _ _ _ _ k1 k2 (by rw [z1, z2])
    subst e2
    rcases Nat.lt_trichotomy k j with c | c | c
    · exact absurd r2 (n1 j c)
    · exact c
    · exact absurd r1 (n2 k c)
  · obtain ⟨z, _⟩ := own_at k _ _ q
    cases z
  · obtain ⟨_, i1, b1, r1, k1, n1, a1, us1, v1, z1, _, _, _, o1⟩ := own_at k _ _ q1
    rw [List.getElem?_map, v1] at q2
    have e1 : a1 = a := by simpa using q2
    rw [← e1]
    exact o1
def ownO (σ : L2.St) (e : En) : Addr → Prop := fun a => ∃ (i : Nat) (b : Bool) (l : List D), e[i]? = some (Slot.own b l) ∧ σ[i]? = some (some (.ref a))
/-- behind the call -/
theorem back_stt (st : Stt K B w σ e) {rs : List R} {vs : List V} {as outs : List Slot} {e2 : En} {w' : Wd} (h : lent e rs = some as) (p : RepRs K w σ vs rs) (hb : back e rs outs = some e2)
    (s' : Stt K ⟨w.H, as.map Slot.pin, vs.map some⟩ w' (vs.map some) outs) (le : Le ⟨w.F, w.H, argO vs as⟩ w') :
    Stt K B ⟨w'.F, w'.H, ownO σ e2⟩ σ e2 ∧ Le w ⟨w'.F, w'.H, ownO σ e2⟩ ∧ ∀ a, ownO σ e2 a → w.O a := by
  obtain ⟨hl, sp⟩ := lent_spec h
  obtain ⟨sa, sO⟩ := arg_stt st h p
  have hv := repRs_len p
  have nd : ∀ (k k' i : Nat), k < k' → rs[k]? = some (R.slot i) → isOwn e i → rs[k']? ≠ some (R.slot i) := fun k k' i hk q1 ⟨b, l, q2⟩ => by
    rcases sp k (lt_of_get q1) with ⟨r, d, j1, _, j3⟩ | ⟨i', b', l', j1, _, _, j4⟩
    · rw [q1] at j1
      cases j1
      rcases j3 with j3 | ⟨i', b', j3, j4⟩
      · cases j3
      · cases j3; rw [q2] at j4; cases j4
    · rw [q1] at j1
      cases j1
      exact j4 k' hk
  obtain ⟨b1, b2, b3⟩ := back_spec hb nd
  -- what stands in a slot behind it
  have cases_ : ∀ i : Nat, (∃ (k : Nat) (b : Bool) (l : List D) (o s : Slot) (v : V), rs[k]? = some (R.slot i) ∧ e[i]? = some (Slot.own b l) ∧ outs[k]? = some o ∧ reb b o = some s ∧ e2[i]? = some s ∧ vs[k]? = some v ∧ σ[i]? = some (some v)) ∨ (e2[i]? = e[i]? ∧ ∀ k : Nat, rs[k]? = some (R.slot i) → ¬ isOwn e i) := fun i => by
    by_cases z : ∃ k : Nat, rs[k]? = some (R.slot i) ∧ isOwn e i
    · obtain ⟨k, q1, b, l, q2⟩ := z
      obtain ⟨o, s, j1, j2, j3⟩ := b3 k i b l q1 q2
      obtain ⟨v, v1, v2⟩ := repRs_get p q1
      exact .inl ⟨k, b, l, o, s, v, q1, q2, j1, j2, j3, v1, v2⟩
    · have nz : ∀ k : Nat, rs[k]? = some (R.slot i) → ¬ isOwn e i := fun k q1 q2 => z ⟨k, q1, q2⟩
      exact .inr ⟨b2 i nz, nz⟩
  have reb_own : ∀ {b : Bool} {o : Slot} {b' : Bool} {l : List D}, reb b o = some (Slot.own b' l) → b' = b := fun {b o b' l} q => by
    cases o <;> simp [reb] at q
    exact q.1.symm
  have reb_pin : ∀ {b : Bool} {o s : Slot}, reb b o = some s → s.pin = b := fun {b o s} q => by
    cases o <;> simp [reb] at q <;> subst q <;> rfl
  have own_old : ∀ (i : Nat) b l, e2[i]? = some (Slot.own b l) → ∃ l', e[i]? = some (Slot.own b l') := fun i b l q => by
    rcases cases_ i with ⟨k, b', l', o, s, v, q1, q2, q3, q4, q5, _⟩ | ⟨q1, _⟩
    · rw [q] at q5
      cases q5
      exact ⟨l', by rw [reb_own q4]; exact q2⟩
    · exact ⟨l, by rw [← q1]; exact q⟩
  have hO : ∀ a, ownO σ e2 a → w.O a := fun a ⟨i, b, l, q1, q2⟩ => by
    obtain ⟨l', q3⟩ := own_old i b l q1
    exact (st.ow a).mpr ⟨i, b, l', q3, q2⟩
  refine ⟨⟨s'.sub, by rw [b1]; exact st.len, fun i s q => ?_, fun i j c l c' l' q1 q2 q3 => ?_, fun a => Iff.rfl, ?_, st.pins, fun a q => st.dom a (le.dom a q), fun i l a q1 q2 => ?_⟩,
    ⟨le.fz, fun a o q n => le.keep a o q fun z => n (sO a z), fun a o q => ?_, fun a q => .inl (hO a q), le.dom⟩, hO⟩
  · rcases cases_ i with ⟨k, b', l', o, s2, v, q1, q2, q3, q4, q5, q6, q7⟩ | ⟨q1, q2⟩
    · rw [q] at q5
      cases q5
      have z := s'.sl k o q3
      rw [List.getElem?_map, q6] at z
      rw [q7]
      cases o with
      | dead => cases q4
      | val b d => cases q4; exact z
      | own b l => cases q4; exact z
    · rw [q1] at q
      have z := st.sl i s q
      cases s with
      | dead => trivial
      | val b d =>
        obtain ⟨v, j1, j2⟩ := z
        exact ⟨v, j1, dq_same le.fz j2⟩
      | own b l =>
        obtain ⟨a, us, j1, j2, j3, j4⟩ := z
        have na : ¬ argO vs as a := fun ⟨k, c, l2, k1, k2⟩ => by
          rcases sp k (by rw [← hl]; exact lt_of_get k1) with ⟨r, d, _, z2, _⟩ | ⟨i', b', l', z1, z2, z3, _⟩
          · rw [k1] at z2; cases z2
          · obtain ⟨v, v1, v2⟩ := repRs_get p z1
            rw [List.getElem?_map, v1] at k2
            have e1 : v = .ref a := by simpa using k2
            subst e1
            have e2 := st.inj i i' _ _ _ _ q z3 (by rw [j1]; exact v2.symm)
            subst e2
            exact q2 k z1 ⟨_, _, z3⟩
        refine ⟨a, us, j1, le.keep a _ j2 na, ?_, dqAll_same le.fz j4⟩
        cases hF : w'.F a with
        | none => rfl
        | some o =>
          rcases le.new a o hF with z | z | z
          · rw [show w.F a = some o from z] at j3; cases j3
          · rw [show w.H a = none from z] at j2; cases j2
          · exact absurd z na
  · obtain ⟨l1, k1⟩ := own_old i _ _ q1
    obtain ⟨l2, k2⟩ := own_old j _ _ q2
    exact st.inj i j _ _ _ _ k1 k2 q3
  · rw [← st.pin]
    refine List.ext_getElem? fun i => ?_
    rw [List.getElem?_map, List.getElem?_map]
    rcases cases_ i with ⟨k, b', l', o, s2, v, q1, q2, q3, q4, q5, q6, q7⟩ | ⟨q1, q2⟩
    · rw [q5, q2]
      show some (s2.pin) = some b'
      rw [reb_pin q4]
    · rw [q1]
  · obtain ⟨l', k1⟩ := own_old i _ _ q1
    exact st.fr i l' a k1 q2
  · rcases le.new a o q with z | z | z
    · exact .inl z
    · exact .inr (.inl z)
    · exact .inr (.inr (sO a z))
end
section
variable {X : Cx} {k n : Nat} {f : Addr} {fd : FuncData} {ps : List Str} {m : Fn} {x : Str} {p pos : Pos} {a : Expr} {es : List Expr} {fs : FA} {E : XK}
theorem call_run {K : PySem.W.Frag} {σ : L2.St} {H : Hp} {Q : VK} (hn : ∀ e rs e', fs e = some (rs, e') → rs.length = n) (q : tV K (fCall m fs) σ H Q) : tCall (spD K n m) [] E (tA K fs) σ H Q := by
  obtain ⟨B, w, e, res, e', hH, st, hf, q⟩ := q
  obtain ⟨⟨rs, e1⟩, k1, k2⟩ := Option.bind_eq_some_iff.mp hf
  obtain ⟨as, k3, k4⟩ := Option.bind_eq_some_iff.mp k2
  obtain ⟨⟨r, outs⟩, k5, k6⟩ := Option.bind_eq_some_iff.mp k4
  obtain ⟨e2, k7, k8⟩ := Option.map_eq_some_iff.mp k6
  cases k8
  refine ⟨B, w, e, rs, e1, hH, st, k1, fun vs w1 s1 l1 p1 => ?_⟩
  show spD K n m (vs ++ []) w1.H Q E
  rw [List.append_nil]
  obtain ⟨sa, sO⟩ := arg_stt s1 k3 p1
  refine ⟨⟨w1.F, w1.H, argO vs as⟩, as, r, outs, rfl, by rw [repRs_len p1]; exact hn _ _ _ k1, sa, k5, fun v w' s' le ok => ?_⟩
  obtain ⟨s2, l2, l3⟩ := back_stt s1 k3 p1 k7 s' le
  refine q v ⟨w'.F, w'.H, ownO σ e'⟩ s2 (l1.trans l2) ?_
  cases r with
  | val d => exact ok
  | fresh l =>
    obtain ⟨a, us, j1, j2, j3, j4, j5, j6⟩ := ok
    exact ⟨a, us, j1, j2, j3, fun z => s1.nO j5 (l3 a z), l1.dom a j5, j6⟩
theorem ln_nil : ∀ e rs e', fNil e = some (rs, e') → rs.length = 0 := fun e rs e' h => by
  cases h
  rfl
theorem ln_cons {g : FE} {h : FA} (hn : ∀ e rs e', h e = some (rs, e') → rs.length = n) : ∀ e rs e', fCons g h e = some (rs, e') → rs.length = n + 1 := fun e rs e' q => by
  obtain ⟨⟨r1, e1⟩, k1, k2⟩ := Option.bind_eq_some_iff.mp q
  obtain ⟨⟨r2, e2⟩, k3, k4⟩ := Option.map_eq_some_iff.mp k2
  cases k4
  rw [List.length_cons, hn _ _ _ k3]
theorem d_call (F : FnOk X.prog X.w X.K X.mg X.base CX0 k f fd ps (spD X.K n m)) (hr : Room k X.A) (hg : Gl X x) (hm : X.mg x = some (.ref f)) (hk : PySem.W.keepIn X.K (.ref f) = true) (hb : Binds X.K fd ps [])
    (ha : PA X (a :: es) (tA X.K fs)) (hn : ∀ e rs e', fs e = some (rs, e') → rs.length = n) (hdb : (x == ("__debug__" : Str)) = false := by decide) (he : starEach (a :: es) X.env = (false, eval a X.env) :: starEach es X.env := by rfl)
    (hpl : (backTo pos (starEach es X.env)).any (·.1) = false := by rfl) : PE X (.Call (.Name x p) (a :: es) [] pos) (tV X.K (fCall m fs)) :=
  pe_imp (pe_call (E := E0) F hr hg hm hk hb .nil pass0 ha hdb he hpl) fun _ _ _ q => call_run hn q
end

/-! ### a def's body -/
def fixO : List Slot → En → List Slot
  | a :: as, s :: e => (if a.pin = true then s else a) :: fixO as e
  | as, _ => as
def mkFn (n : Nat) (g : FS) : Fn := fun as => match g (as ++ List.replicate (n - as.length) .dead) with
  | some (.ret r e) => some (r, fixO as e)
  | some (.next e) => some (.val .none, fixO as e)
  | _ => none
theorem fixO_len : ∀ (as : List Slot) (e : En), (fixO as e).length = as.length
  | [], e => by cases e <;> rfl
  | a :: as, [] => rfl
  | a :: as, s :: e => by
    show (fixO as e).length + 1 = as.length + 1
    rw [fixO_len as e]
theorem fixO_get : ∀ {as : List Slot} {e : En} {i : Nat} {a s : Slot}, as[i]? = some a → e[i]? = some s → (fixO as e)[i]? = some (if a.pin = true then s else a)
  | a :: as, s :: e, 0, a', s', h1, h2 => by
    have e1 : a = a' := by simpa using h1
    have e2 : s = s' := by simpa using h2
    subst e1 e2
    rfl
  | a :: as, s :: e, i + 1, a', s', h1, h2 => by
    have z := fixO_get (as := as) (e := e) (i := i) (by simpa using h1) (by simpa using h2)
    simpa [fixO] using z
  | [], _, _, _, _, h1, _ => by simp at h1
  | _ :: _, [], _, _, _, _, h2 => by simp at h2
section
variable {K : PySem.W.Frag} {n k : Nat} {N ps : List Str} {vs : List V} {as : List Slot} {w w' : Wd} {H : Hp}
theorem start_get {i : Nat} (hi : i < vs.length) : (L2.start N vs)[i]? = (vs.map some)[i]? := by
  unfold L2.start
  rw [List.getElem?_append_left (by simpa using hi)]
theorem body_stt (hN : vs.length ≤ N.length) (hH : w.H = H) (st : Stt K ⟨H, as.map Slot.pin, vs.map some⟩ w (vs.map some) as) :
    Stt K ⟨H, (as ++ List.replicate (N.length - as.length) Slot.dead).map Slot.pin, L2.start N vs⟩ w (L2.start N vs) (as ++ List.replicate (N.length - as.length) Slot.dead) := by
  have hl : vs.length = as.length := by have z := st.len; simpa using z
  have at_ : ∀ {i : Nat} {s : Slot}, (as ++ List.replicate (N.length - as.length) Slot.dead)[i]? = some s → s ≠ .dead → as[i]? = some s ∧ (L2.start N vs)[i]? = (vs.map some)[i]? := fun {i s} q nd => by
    rcases Nat.lt_or_ge i as.length with c | c
    · rw [List.getElem?_append_left c] at q
      exact ⟨q, start_get (by omega)⟩
    · rw [List.getElem?_append_right c, List.getElem?_replicate] at q
      split at q
      · cases q; exact absurd rfl nd
      · cases q
  refine ⟨st.sub, ?_, fun i s q => ?_, fun i j b l b' l' q1 q2 q3 => ?_, fun a => ⟨fun q => ?_, fun ⟨i, b, l, q1, q2⟩ => ?_⟩, rfl, fun _ _ => rfl, fun a q => by rw [← hH]; exact q, fun i l a q1 q2 => ?_⟩
  · unfold L2.start
    simp only [List.length_append, List.length_map, List.length_replicate]
    omega
  · by_cases c : s = .dead
    · subst c; trivial
    · obtain ⟨q1, q2⟩ := at_ q c
      rw [q2]
      exact st.sl i s q1
  · obtain ⟨k1, k2⟩ := at_ q1 (by simp)
    obtain ⟨k3, k4⟩ := at_ q2 (by simp)
    rw [k2, k4] at q3
    exact st.inj i j _ _ _ _ k1 k3 q3
  · obtain ⟨i, b, l, k1, k2⟩ := (st.ow a).mp q
    have c := lt_of_get k1
    exact ⟨i, b, l, by rw [List.getElem?_append_left c]; exact k1, by rw [start_get (by omega)]; exact k2⟩
  · obtain ⟨k1, k2⟩ := at_ q1 (by simp)
    rw [k2] at q2
    exact (st.ow a).mpr ⟨i, b, l, k1, q2⟩
  · obtain ⟨k1, k2⟩ := at_ q1 (by simp)
    rw [k2] at q2
    exact st.fr i l a k1 q2
/-- what the caller gets back of what it lent -/
theorem outs_stt {σ' : L2.St} {e' : En} (hN : vs.length ≤ N.length) (hH : w.H = H) (st : Stt K ⟨H, as.map Slot.pin, vs.map some⟩ w (vs.map some) as) (le : Le w w')
    (nf : ∀ (i : Nat) l, as[i]? ≠ some (Slot.own false l))
    (st' : Stt K ⟨H, (as ++ List.replicate (N.length - as.length) Slot.dead).map Slot.pin, L2.start N vs⟩ w' σ' e') :
    Stt K ⟨H, as.map Slot.pin, vs.map some⟩ ⟨w'.F, w'.H, ownO (vs.map some) (fixO as e')⟩ (vs.map some) (fixO as e') ∧ Le w ⟨w'.F, w'.H, ownO (vs.map some) (fixO as e')⟩ ∧ ∀ a, ownO (vs.map some) (fixO as e') a → w'.O a := by
  have hl : vs.length = as.length := by have z := st.len; simpa using z
  have hle : e'.length = N.length := by
    have z := congrArg List.length st'.pin
    simp only [List.length_map, List.length_append, List.length_replicate] at z
    omega
  have pin_of : ∀ {i : Nat} {a s : Slot}, as[i]? = some a → e'[i]? = some s → s.pin = a.pin := fun {i a s} q1 q2 => by
    have z : (e'.map Slot.pin)[i]? = ((as ++ List.replicate (N.length - as.length) Slot.dead).map Slot.pin)[i]? := by rw [st'.pin]
    rw [List.getElem?_map, q2, List.map_append, List.getElem?_append_left (by simpa using lt_of_get q1), List.getElem?_map, q1] at z
    simpa using z
  have same : ∀ {i : Nat} {a : Slot}, as[i]? = some a → a.pin = true → σ'[i]? = (vs.map some)[i]? := fun {i a} q1 q2 => by
    have c := lt_of_get q1
    have z := st'.pins i (by
      show ((as ++ List.replicate (N.length - as.length) Slot.dead).map Slot.pin)[i]? = some true
      rw [List.map_append, List.getElem?_append_left (by simpa using c), List.getElem?_map, q1, ← q2]
      rfl)
    rw [z]
    exact start_get (by omega)
  -- each place of the answer
  have at_ : ∀ {i : Nat} {o : Slot}, (fixO as e')[i]? = some o → ∃ a s, as[i]? = some a ∧ e'[i]? = some s ∧ o = (if a.pin = true then s else a) := fun {i o} q => by
    have c : i < as.length := by rw [← fixO_len as e']; exact lt_of_get q
    obtain ⟨a, ha⟩ : ∃ a, as[i]? = some a := ⟨_, List.getElem?_eq_getElem c⟩
    obtain ⟨s, hs⟩ : ∃ s, e'[i]? = some s := ⟨_, List.getElem?_eq_getElem (by omega)⟩
    rw [fixO_get ha hs] at q
    exact ⟨a, s, ha, hs, (Option.some.inj q).symm⟩
  have own_at : ∀ {i : Nat} {b : Bool} {l : List D}, (fixO as e')[i]? = some (Slot.own b l) → ∃ a, as[i]? = some a ∧ a.pin = true ∧ b = true ∧ e'[i]? = some (Slot.own b l) := fun {i b l} q => by
    obtain ⟨a, s, k1, k2, k3⟩ := at_ q
    by_cases c : a.pin = true
    · rw [if_pos c] at k3
      subst k3
      exact ⟨a, k1, c, by have z := pin_of k1 k2; rw [c] at z; exact z, k2⟩
    · rw [if_neg c] at k3
      subst k3
      cases b with
      | true => exact absurd rfl c
      | false => exact absurd k1 (nf i l)
  have hO : ∀ a, ownO (vs.map some) (fixO as e') a → w'.O a := fun a ⟨i, b, l, q1, q2⟩ => by
    obtain ⟨a', k1, k2, k3, k4⟩ := own_at q1
    exact (st'.ow a).mpr ⟨i, b, l, k4, by rw [same k1 k2]; exact q2⟩
  have sf : Same w'.F w'.H := st'.sub
  refine ⟨⟨sf, by rw [fixO_len]; simpa using hl, fun i o q => ?_, fun i j b l b' l' q1 q2 q3 => ?_, fun a => Iff.rfl, ?_, fun _ _ => rfl, fun a q => by rw [← hH]; exact le.dom a q, fun i l a q1 q2 => ?_⟩, ⟨le.fz, le.keep, le.new, fun a q => le.own a (hO a q), le.dom⟩, hO⟩
  · obtain ⟨a, s, k1, k2, k3⟩ := at_ q
    by_cases c : a.pin = true
    · rw [if_pos c] at k3
      subst k3
      have z := st'.sl i _ k2
      rw [same k1 c] at z
      exact z
    · rw [if_neg c] at k3
      subst k3
      have z := st.sl i _ k1
      cases o with
      | dead => trivial
      | val b d => obtain ⟨v, j1, j2⟩ := z; exact ⟨v, j1, dq_same le.fz j2⟩
      | own b l =>
        cases b with
        | true => exact absurd rfl c
        | false => exact absurd k1 (nf i l)
  · obtain ⟨a1, k1, k2, k3, k4⟩ := own_at q1
    obtain ⟨a2, j1, j2, j3, j4⟩ := own_at q2
    exact st'.inj i j _ _ _ _ k4 j4 (by rw [same k1 k2, same j1 j2, q3])
  · refine List.ext_getElem? fun i => ?_
    rw [List.getElem?_map, List.getElem?_map]
    rcases Nat.lt_or_ge i as.length with c | c
    · obtain ⟨a, ha⟩ : ∃ a, as[i]? = some a := ⟨_, List.getElem?_eq_getElem c⟩
      obtain ⟨s, hs⟩ : ∃ s, e'[i]? = some s := ⟨_, List.getElem?_eq_getElem (by omega)⟩
      rw [fixO_get ha hs, ha]
      show some (Slot.pin _) = some a.pin
      split
      · rw [pin_of ha hs]
      · rfl
    · rw [List.getElem?_eq_none (by rw [fixO_len]; exact c), List.getElem?_eq_none c]
  · obtain ⟨a', k1, k2, k3, k4⟩ := own_at q1
    cases k3
theorem body_run {g : FS} {Q : VK} {E : XK} (hN : ps.length ≤ N.length) (q : spD K ps.length (mkFn N.length g) vs H Q E) : tS K g { nx := fun _ H' => Q .non H', rt := Q } (L2.start N vs) H := by
  obtain ⟨w, as, r, outs, hH, hv, st, hm, q⟩ := q
  have hl : vs.length = as.length := by have z := st.len; simpa using z
  have hN' : vs.length ≤ N.length := by omega
  have nf : ∀ (i : Nat) l, as[i]? ≠ some (Slot.own false l) := fun i l z => by
    obtain ⟨a, us, k1, k2, k3, k4⟩ := st.sl i _ z
    have y : H a = none := st.fr i l a z k1
    rw [hH, y] at k2
    cases k2
  unfold mkFn at hm
  cases hg : g (as ++ List.replicate (N.length - as.length) Slot.dead) with
  | none => simp only [hg] at hm; cases hm
  | some fl =>
    refine ⟨_, w, _, fl, hH, body_stt hN' hH st, hg, ?_⟩
    simp only [hg] at hm
    cases fl with
    | brk e' => cases hm
    | cont e' => cases hm
    | next e' =>
      cases hm
      intro σ' w' st' le
      obtain ⟨k1, k2, k3⟩ := outs_stt hN' hH st le nf st'
      exact q .non ⟨w'.F, w'.H, ownO (vs.map some) (fixO as e')⟩ k1 k2 Dq.non
    | ret r' e' =>
      cases hm
      intro v σ' w' st' le ok
      obtain ⟨k1, k2, k3⟩ := outs_stt hN' hH st le nf st'
      refine q v ⟨w'.F, w'.H, ownO (vs.map some) (fixO as e')⟩ k1 k2 ?_
      cases r with
      | val d => exact ok
      | fresh l =>
        obtain ⟨a, us, j1, j2, j3, j4, j5, j6⟩ := ok
        exact ⟨a, us, j1, j2, j3, fun z => j4 (k3 a z), j5, j6⟩
theorem d_fn {P : Program} {w : World} {mg : Str → Option Value} {base : Heap} {x qual : Str} {params : Arguments} {body : List Stmt} {scope : Scope} {f : Addr} {fd : FuncData} {g : FS} (F : FunD K x qual params body scope [] [] f fd) (S : FnScope N ps scope) (hN : ps.length ≤ N.length)
    (hb : ∀ (cdv : Value) (A : Around) (outer : List Env) (s : Shared) (H : Hp) (E : XK), Room k (A.deeper (envOfC qual scope s.heap.objs.size f cdv)) → PSs (cxOf CX0 P w K mg base N qual scope f cdv A outer s H E).nox body (tS K g)) :
    FnOk P w K mg base CX0 (k + 1) f fd ps (spD K ps.length (mkFn N.length g)) :=
  F.ok S (fun vs H Q E h => by obtain ⟨_, _, _, _, _, hv, _⟩ := h; exact hv) fun cdv A outer s H vs Q E hr h => ⟨tS K g, (hb cdv A outer s H E hr).nox, body_run hN h⟩
end
end DL

set_option Elab.async false
set_option linter.all false
set_option maxRecDepth 100000
set_option maxHeartbeats 1000000
/-! DL8: targets, statements, loops. -/
namespace DL
open PySem PySem.Spec PyProof.Rows L2

def setR : Res → Slot
  | .val d => .val false d
  | .fresh l => .own false l
theorem ResOK.later {K : PySem.W.Frag} {H0 : Hp} {w w' : Wd} {v : V} {r : Res} (h : ResOK K H0 w v r) (le : Le w w') (s : Same w.F w.H) : ResOK K H0 w' v r := by
  cases r with
  | val d => exact dq_same le.fz h
  | fresh l =>
    obtain ⟨a, vs, h1, h2, h3, h4, h5, h6⟩ := h
    refine ⟨a, vs, h1, le.keep a _ h2 h4, ?_, fun z => ?_, h5, dqAll_same le.fz h6⟩
    · cases q : w'.F a with
      | none => rfl
      | some o =>
        rcases le.new a o q with z | z | z
        · rw [z] at h3; cases h3
        · rw [z] at h2; cases h2
        · exact absurd z h4
    · rcases le.own a z with z | z
      · exact h4 z
      · rw [z] at h2; cases h2
section
variable {K : PySem.W.Frag} {B : Bd} {w w' : Wd} {σ : L2.St} {e : En} {v : V}
/-- a slot that is not lent is stored -/
theorem set_stt (st : Stt K B w' σ e) (le : Le w w') {r : Res} (ok : ResOK K w.H w' v r) (hw : ∀ a, w.H a = none → B.H0 a = none) {i : Nat} {s : Slot} (hi : e[i]? = some s) (np : s.pin = false) :
    Stt K B ⟨w'.F, w'.H, ownO (σ.set i (some v)) (e.set i (setR r))⟩ (σ.set i (some v)) (e.set i (setR r)) ∧ Le w ⟨w'.F, w'.H, ownO (σ.set i (some v)) (e.set i (setR r))⟩ := by
  have hl := lt_of_get hi
  have hlσ : i < σ.length := by rw [st.len]; exact hl
  -- the new slot, when it is an own one
  have newO : ∀ {b : Bool} {l : List D}, setR r = Slot.own b l → b = false ∧ ∃ a vs, v = .ref a ∧ w'.H a = some (.lst vs) ∧ w'.F a = none ∧ ¬ w'.O a ∧ w.H a = none ∧ Da K w'.F vs l := fun {b l} q => by
    cases r with
    | val d => cases q
    | fresh l' =>
      cases q
      obtain ⟨a, vs, h⟩ := ok
      exact ⟨rfl, a, vs, h⟩
  have own_at : ∀ {j : Nat} {b : Bool} {l : List D}, (e.set i (setR r))[j]? = some (Slot.own b l) → (i = j ∧ setR r = Slot.own b l ∧ (σ.set i (some v))[j]? = some (some v)) ∨ (i ≠ j ∧ e[j]? = some (Slot.own b l) ∧ (σ.set i (some v))[j]? = σ[j]?) := fun {j b l} q => by
    rw [get_set] at q
    by_cases c : i = j
    · subst c
      rw [if_pos ⟨rfl, hl⟩] at q
      exact .inl ⟨rfl, Option.some.inj q, List.getElem?_set_self hlσ⟩
    · rw [if_neg fun z => c z.1] at q
      exact .inr ⟨c, q, List.getElem?_set_ne c⟩
  have hO : ∀ a, ownO (σ.set i (some v)) (e.set i (setR r)) a → w'.O a ∨ w.H a = none := fun a ⟨j, b, l, q1, q2⟩ => by
    rcases own_at q1 with ⟨rfl, k2, k3⟩ | ⟨k1, k2, k3⟩
    · obtain ⟨_, c, vs, h1, h2, h3, h4, h5, h6⟩ := newO k2
      rw [k3, h1] at q2
      cases q2
      exact .inr h5
    · rw [k3] at q2
      exact .inl ((st.ow a).mpr ⟨j, b, l, k2, q2⟩)
  refine ⟨⟨st.sub, by rw [List.length_set, List.length_set]; exact st.len, fun j s q => ?_, fun j k b l b' l' q1 q2 q3 => ?_, fun a => Iff.rfl, ?_, fun j q => ?_, st.dom, fun j l a q1 q2 => ?_⟩,
    ⟨le.fz, le.keep, le.new, fun a q => ?_, le.dom⟩⟩
  · rw [get_set] at q
    by_cases c : i = j
    · subst c
      rw [if_pos ⟨rfl, hl⟩] at q
      have e1 : setR r = s := Option.some.inj q
      rw [List.getElem?_set_self hlσ]
      cases r with
      | val d => subst e1; exact ⟨v, rfl, ok⟩
      | fresh l =>
        subst e1
        obtain ⟨a, vs, h1, h2, h3, h4, h5, h6⟩ := ok
        exact ⟨a, vs, by rw [h1], h2, h3, h6⟩
    · rw [if_neg fun z => c z.1] at q
      rw [List.getElem?_set_ne c]
      exact st.sl j s q
  · rcases own_at q1 with ⟨rfl, k2, k3⟩ | ⟨k1, k2, k3⟩
    · rcases own_at q2 with ⟨rfl, j2, j3⟩ | ⟨j1, j2, j3⟩
      · rfl
      · obtain ⟨_, a, vs, h1, h2, h3, h4, h5, h6⟩ := newO k2
        rw [k3, j3, h1] at q3
        exact absurd ((st.ow a).mpr ⟨k, b', l', j2, q3.symm⟩) h4
    · rcases own_at q2 with ⟨rfl, j2, j3⟩ | ⟨j1, j2, j3⟩
      · obtain ⟨_, a, vs, h1, h2, h3, h4, h5, h6⟩ := newO j2
        rw [k3, j3, h1] at q3
        exact absurd ((st.ow a).mpr ⟨j, b, l, k2, q3⟩) h4
      · rw [k3, j3] at q3
        exact st.inj j k _ _ _ _ k2 j2 q3
  · rw [← st.pin, List.map_set]
    refine List.ext_getElem? fun k => ?_
    rw [get_set]
    split
    · rename_i q
      rw [← q.1, List.getElem?_map, hi]
      show some (Slot.pin (setR r)) = some s.pin
      rw [np]
      cases r <;> rfl
    · rfl
  · by_cases c : i = j
    · subst c
      rw [← st.pin, List.getElem?_map, hi] at q
      have e1 : s.pin = true := Option.some.inj q
      rw [np] at e1
      cases e1
    · rw [List.getElem?_set_ne c]
      exact st.pins j q
  · rcases own_at q1 with ⟨rfl, k2, k3⟩ | ⟨k1, k2, k3⟩
    · obtain ⟨_, c, vs, h1, h2, h3, h4, h5, h6⟩ := newO k2
      rw [k3, h1] at q2
      cases q2
      exact hw _ h5
    · rw [k3] at q2
      exact st.fr j l a k2 q2
  · rcases hO a q with z | z
    · exact le.own a z
    · exact .inr z
end

/-! ### targets -/
abbrev FG := D → En → Option En
/-- the target stores d, at the places ts alone -/
def tG (K : PySem.W.Frag) (ts : List Nat) (g : FG) : TG := fun v σ H Q => ∃ B w e d e', w.H = H ∧ Stt K B w σ e ∧ Dq K w.F v d ∧ g d e = some e' ∧
  ∀ σ' w', Stt K B w' σ' e' → Le w w' → (∀ j, j ∉ ts → σ'[j]? = σ[j]?) → Q σ' w'.H
def putV (i : Nat) (s : Slot) : En → Option En := fun e => match e[i]? with
  | some o => if o.pin = true then none else some (e.set i s)
  | none => none
def gNm (i : Nat) : FG := fun d => putV i (.val false d)
section
variable {X : Cx} {pos : Pos} {t : Expr} {es : List Expr}
theorem g_name {i : Nat} {x : Str} (h : PG X (.Name x pos) (gName i)) : PG X (.Name x pos) (tG X.K [i] (gNm i)) := by
  refine pg_imp h fun v σ H Q ⟨B, w, e, d, e', hH, st, hd, hg, q⟩ => ?_
  unfold gNm putV at hg
  cases hs : e[i]? with
  | none => simp only [hs] at hg; cases hg
  | some s =>
    simp only [hs] at hg
    split at hg
    · cases hg
    · rename_i np
      cases hg
      obtain ⟨k1, k2⟩ := set_stt (r := .val d) st (Le.refl w) hd (fun a z => st.dom a z) hs (by simpa using np)
      have z := q (σ.set i (some v)) _ k1 k2 fun j hj => List.getElem?_set_ne fun c => hj (by simp [c])
      rw [← hH]
      exact z
abbrev FGs := List D → En → Option En
def tGs (K : PySem.W.Frag) (ts : List Nat) (g : FGs) : TGs := fun vs σ H Q => ∃ B w e ds e', w.H = H ∧ Stt K B w σ e ∧ Da K w.F vs ds ∧ g ds e = some e' ∧
  ∀ σ' w', Stt K B w' σ' e' → Le w w' → (∀ j, j ∉ ts → σ'[j]? = σ[j]?) → Q σ' w'.H
theorem pgs_imp {t u : TGs} (h : PGs X es t) (q : ∀ v σ H Q, u v σ H Q → t v σ H Q) : PGs X es u := ⟨fun pins s σ H v u' Q I r hw => h.run pins s σ H v u' Q I r (q _ _ _ _ hw)⟩
def hNil : FGs := fun ds e => match ds with
  | [] => some e
  | _ => none
def hCons (g : FG) (h : FGs) : FGs := fun ds e => match ds with
  | d :: r => (g d e).bind fun e1 => h r e1
  | [] => none
theorem gs_nil : PGs X [] (tGs X.K [] hNil) := by
  refine pgs_imp pgs_nil fun vs σ H Q ⟨B, w, e, ds, e', hH, st, hd, hg, q⟩ => ?_
  cases ds with
  | cons _ _ => cases hg
  | nil =>
    cases hg
    cases hd
    subst hH
    exact ⟨rfl, q σ w st (Le.refl w) fun _ _ => rfl⟩
theorem gs_cons {ts us : List Nat} {g : FG} {h : FGs} (h1 : PG X t (tG X.K ts g)) (h2 : PGs X es (tGs X.K us h)) (hs : (assignEach (t :: es) X.env).map (·.2) = assign t X.env :: (assignEach es X.env).map (·.2) := by rfl) : PGs X (t :: es) (tGs X.K (ts ++ us) (hCons g h)) := by
  refine pgs_imp (pgs_cons h1 h2 hs) fun vs σ H Q ⟨B, w, e, ds, e', hH, st, hd, hg, q⟩ => ?_
  cases ds with
  | nil => cases hg
  | cons d r =>
    obtain ⟨e1, k1, k2⟩ := Option.bind_eq_some_iff.mp hg
    obtain ⟨v, vr, e2, hv, hr⟩ := da_cons_inv hd
    refine ⟨v, vr, e2, B, w, e, d, e1, hH, st, hv, k1, fun σ1 w1 s1 l1 c1 => ?_⟩
    refine ⟨B, w1, e1, r, e', rfl, s1, dqAll_same l1.fz hr, k2, fun σ2 w2 s2 l2 c2 => q σ2 w2 s2 (l1.trans l2) fun j hj => ?_⟩
    rw [List.mem_append, not_or] at hj
    rw [c2 j hj.2, c1 j hj.1]
/-- a tuple's parts -/
def gTp (h : FGs) : FG := fun d e => match d with
  | .tuple l => h l e
  | _ => none
theorem hlen {n : Nat} {h : FGs} (hn : ∀ ds e e', h ds e = some e' → ds.length = n) : True := trivial
theorem g_tup {k n : Nat} {ts : List Nat} {h : FGs} (hc : X.calm = true) (h1 : PGs X es (tGs X.K ts h)) (hlen : ∀ ds e e', h ds e = some e' → ds.length = n) (hn : (assignEach es X.env).length = n := by rfl) (hst : (assignEach es X.env).findIdx? (·.1) = none := by rfl) :
    PG X (.Tuple es k pos) (tG X.K ts (gTp h)) := by
  refine pg_imp (pg_tup (n := n) hc h1 hn hst) fun v σ H Q ⟨B, w, e, d, e', hH, st, hd, hg, q⟩ => ?_
  cases d <;> try cases hg
  rename_i l
  cases hd with
  | tup k1 k2 =>
    refine ⟨_, _, rfl, ?_, by rw [da_len k2]; exact hlen _ _ _ hg, B, w, e, l, e', hH, st, k2, hg, q⟩
    rw [← hH]
    exact same_t st.sub k1
theorem hl_nil : ∀ ds e e', hNil ds e = some e' → ds.length = 0 := fun ds e e' h => by
  cases ds with
  | nil => rfl
  | cons _ _ => cases h
theorem hl_cons {n : Nat} {g : FG} {h : FGs} (hn : ∀ ds e e', h ds e = some e' → ds.length = n) : ∀ ds e e', hCons g h ds e = some e' → ds.length = n + 1 := fun ds e e' q => by
  cases ds with
  | nil => cases q
  | cons d r =>
    obtain ⟨e1, k1, k2⟩ := Option.bind_eq_some_iff.mp q
    rw [List.length_cons, hn _ _ _ k2]
end

/-! ### statements -/
theorem Post.later {K : PySem.W.Frag} {B : Bd} {w w' : Wd} {D : Ends} {fl : Fl} (h : Post K B w D fl) (le : Le w w') : Post K B w' D fl := by
  cases fl with
  | next e => exact fun σ w2 s l => h σ w2 s (le.trans l)
  | brk e => exact fun σ w2 s l => h σ w2 s (le.trans l)
  | cont e => exact fun σ w2 s l => h σ w2 s (le.trans l)
  | ret r e => exact fun v σ w2 s l ok => h v σ w2 s (le.trans l) ok
section
variable {X : Cx} {pos : Pos} {st : Stmt} {rest : List Stmt} {e c : Expr} {f : FV} {g h : FS} {t : FT}
def sNext : FS := fun e => some (.next e)
def sSeq (g h : FS) : FS := fun e => (g e).bind fun fl => match fl with
  | .next e1 => h e1
  | fl => some fl
theorem ss_nil : PSs X [] (tS X.K sNext) := by
  refine pss_imp pss_nil fun D σ H ⟨B, w, e, fl, hH, st, hg, q⟩ => ?_
  cases hg
  subst hH
  exact q σ w st (Le.refl w)
theorem ss_cons (h1 : PS X st (tS X.K g)) (h2 : PSs X rest (tS X.K h)) : PSs X (st :: rest) (tS X.K (sSeq g h)) := by
  refine pss_imp (pss_cons h1 h2) fun D σ H ⟨B, w, e, fl, hH, s0, hg, q⟩ => ?_
  obtain ⟨fl1, k1, k2⟩ := Option.bind_eq_some_iff.mp hg
  refine ⟨B, w, e, fl1, hH, s0, k1, ?_⟩
  cases fl1 with
  | next e1 => exact fun σ1 w1 s1 l1 => ⟨B, w1, e1, fl, rfl, s1, k2, q.later l1⟩
  | brk e1 => cases k2; exact q
  | cont e1 => cases k2; exact q
  | ret r e1 => cases k2; exact q
theorem ss_one (h1 : PS X st (tS X.K g)) : PSs X [st] (tS X.K g) := pss_one h1
theorem s_pass : PS X (.Pass pos) (tS X.K sNext) := by
  refine ps_imp ps_pass fun D σ H ⟨B, w, e, fl, hH, st, hg, q⟩ => ?_
  cases hg
  subst hH
  exact q σ w st (Le.refl w)
def sBrk : FS := fun e => some (.brk e)
def sCont : FS := fun e => some (.cont e)
theorem s_brk : PS X (.Break pos) (tS X.K sBrk) := by
  refine ps_imp ps_break fun D σ H ⟨B, w, e, fl, hH, st, hg, q⟩ => ?_
  cases hg
  subst hH
  exact q σ w st (Le.refl w)
theorem s_cont : PS X (.Continue pos) (tS X.K sCont) := by
  refine ps_imp ps_continue fun D σ H ⟨B, w, e, fl, hH, st, hg, q⟩ => ?_
  cases hg
  subst hH
  exact q σ w st (Le.refl w)
/-- what is never reached (a raise) -/
def sNo : FS := fun _ => none
theorem s_no : PS X st (tS X.K sNo) := ps_imp ps_never fun D σ H ⟨B, w, e, fl, hH, st, hg, q⟩ => by cases hg
def sExpr (f : FV) : FS := fun e => (f e).map fun p => .next p.2
theorem s_expr (he : PE X e (tV X.K f)) (hs : swapsWith e none pos.line X.env = pure false := by rfl) : PS X (.Expr e pos) (tS X.K (sExpr f)) := by
  refine ps_imp (ps_expr he hs) fun D σ H ⟨B, w, e, fl, hH, st, hg, q⟩ => ?_
  obtain ⟨⟨r, e1⟩, k1, k2⟩ := Option.map_eq_some_iff.mp hg
  subst k2
  exact ⟨B, w, e, r, e1, hH, st, k1, fun v w1 s1 l1 ok => q σ w1 s1 l1⟩
def sRet (f : FV) : FS := fun e => (f e).map fun p => .ret p.1 p.2
theorem s_ret (he : PE X e (tV X.K f)) : PS X (.Return (some e) pos) (tS X.K (sRet f)) := by
  refine ps_imp (ps_ret he) fun D σ H ⟨B, w, e, fl, hH, st, hg, q⟩ => ?_
  obtain ⟨⟨r, e1⟩, k1, k2⟩ := Option.map_eq_some_iff.mp hg
  subst k2
  exact ⟨B, w, e, r, e1, hH, st, k1, fun v w1 s1 l1 ok => q v σ w1 s1 l1 (ok.mono fun a z => st.dom a z)⟩
def sIf (t : FT) (g h : FS) : FS := fun e => (t e).bind fun p => if p.1 = true then g p.2 else h p.2
theorem s_if {a b : List Stmt} (hc : PT X c (tT X.K t)) (ha : PSs X a (tS X.K g)) (hb : PSs X b (tS X.K h)) : PS X (.If c a b pos) (tS X.K (sIf t g h)) := by
  refine ps_imp (ps_if hc ha hb) fun D σ H ⟨B, w, e, fl, hH, st, hg, q⟩ => ?_
  obtain ⟨⟨b1, e1⟩, k1, k2⟩ := Option.bind_eq_some_iff.mp hg
  refine ⟨B, w, e, b1, e1, hH, st, k1, fun w1 s1 l1 => ?_⟩
  cases b1 with
  | true => exact ⟨B, w1, e1, fl, rfl, s1, k2, q.later l1⟩
  | false => exact ⟨B, w1, e1, fl, rfl, s1, k2, q.later l1⟩
/-- name = value -/
def sSet (i : Nat) (f : FV) : FS := fun e => (f e).bind fun p => (putV i (setR p.1) p.2).map .next
theorem put_some {i : Nat} {s : Slot} {e e' : En} (h : putV i s e = some e') : ∃ o, e[i]? = some o ∧ o.pin = false ∧ e' = e.set i s := by
  unfold putV at h
  cases hs : e[i]? with
  | none => simp only [hs] at h; cases h
  | some o =>
    simp only [hs] at h
    split at h
    · cases h
    · rename_i np
      cases h
      exact ⟨o, rfl, by simpa using np, rfl⟩
theorem s_set {i : Nat} {x : Str} {pos' : Pos} (hN : X.N.Nodup) (hi : X.N[i]? = some x) (hx : Loc X.env.scope x) (he : PE X e (tV X.K f)) (hs : swapsWith e (some (.Name x pos')) pos.line X.env = pure false := by rfl)
    (hf : X.fn x = true ∨ X.env.scope.names.lookup x = some .local := by first | exact .inl rfl | exact .inr rfl | assumption) : PS X (.Assign [.Name x pos'] e pos) (tS X.K (sSet i f)) := by
  refine ps_imp (ps_set hN hi hx he hs hf) fun D σ H ⟨B, w, e, fl, hH, st, hg, q⟩ => ?_
  obtain ⟨⟨r, e1⟩, k1, k2⟩ := Option.bind_eq_some_iff.mp hg
  obtain ⟨e2, k3, k4⟩ := Option.map_eq_some_iff.mp k2
  subst k4
  obtain ⟨o, k5, k6, k7⟩ := put_some k3
  subst k7
  refine ⟨B, w, e, r, e1, hH, st, k1, fun v w1 s1 l1 ok => ?_⟩
  obtain ⟨j1, j2⟩ := set_stt s1 l1 ok (fun a z => st.dom a z) k5 k6
  exact q _ ⟨w1.F, w1.H, ownO (σ.set i (some v)) (e1.set i (setR r))⟩ j1 j2
/-- target = value -/
def sAsg (g : FG) (f : FV) : FS := fun e => (f e).bind fun p => match p.1 with
  | .val d => (g d p.2).map .next
  | _ => none
theorem s_asg {ts : List Nat} {gg : FG} {tg : Expr} (he : PE X e (tV X.K f)) (hg : PG X tg (tG X.K ts gg)) (hs : swapsWithSole [tg] e pos.line X.env = pure false := by rfl) (hw : swappedStores [tg] e X.env = pure none := by rfl)
    (h1 : (assignEach [tg] X.env).map (·.2) = [assign tg X.env] := by rfl) : PS X (.Assign [tg] e pos) (tS X.K (sAsg gg f)) := by
  refine ps_imp (ps_asg he hg hs hw h1) fun D σ H ⟨B, w, e, fl, hH, st, hf, q⟩ => ?_
  obtain ⟨⟨r, e1⟩, k1, k2⟩ := Option.bind_eq_some_iff.mp hf
  refine ⟨B, w, e, r, e1, hH, st, k1, fun v w1 s1 l1 ok => ?_⟩
  cases r with
  | fresh l => cases k2
  | val d =>
    obtain ⟨e2, k3, k4⟩ := Option.map_eq_some_iff.mp k2
    subst k4
    exact ⟨B, w1, e1, d, e2, rfl, s1, ok, k3, fun σ2 w2 s2 l2 _ => q σ2 w2 s2 (l1.trans l2)⟩
/-- a, b = x, y (names of the frame alone) -/
def sPar (i j : Nat) (f f2 : FV) : FS := fun e => (f e).bind fun p => (f2 p.2).bind fun q => (putV i (setR p.1) q.2).bind fun e1 => (putV j (setR q.1) e1).map .next
theorem s_par {i j : Nat} {x y : Str} {a b : Expr} {f2 : FV} {px py pt : Pos} {kt k2 pt2} (hc : X.calm = true) (hN : X.N.Nodup) (hi : X.N[i]? = some x) (hj : X.N[j]? = some y) (hij : i ≠ j)
    (hx : X.env.scope.names.lookup x = some .local) (hy : X.env.scope.names.lookup y = some .local) (h1 : PE X a (tV X.K f)) (h2 : PE X b (tV X.K f2))
    (hw : swappedStores [.Tuple [.Name x px, .Name y py] kt pt] (.Tuple [a, b] k2 pt2) X.env = pure (some [x, y]))
    (hs : swapsWithSole [.Tuple [.Name x px, .Name y py] kt pt] (.Tuple [a, b] k2 pt2) pos.line X.env = pure false := by rfl)
    (n1 : starEach [a, b] X.env = (false, eval a X.env) :: starEach [b] X.env := by rfl) (n2 : starEach [b] X.env = (false, eval b X.env) :: starEach [] X.env := by rfl) :
    PS X (.Assign [.Tuple [.Name x px, .Name y py] kt pt] (.Tuple [a, b] k2 pt2) pos) (tS X.K (sPar i j f f2)) := by
  refine ps_imp (ps_par hc hN hi hj hij hx hy (pa_cons h1 (pa_cons h2 pa_nil n2) n1) hw hs) fun D σ H ⟨B, w, e, fl, hH, st, hf, q⟩ => ?_
  obtain ⟨⟨r1, e1⟩, k1, k2⟩ := Option.bind_eq_some_iff.mp hf
  obtain ⟨⟨r2, e2⟩, k3, k4⟩ := Option.bind_eq_some_iff.mp k2
  obtain ⟨e3, k5, k6⟩ := Option.bind_eq_some_iff.mp k4
  obtain ⟨e4, k7, k8⟩ := Option.map_eq_some_iff.mp k6
  subst k8
  obtain ⟨o1, j1, j2, j3⟩ := put_some k5
  obtain ⟨o2, m1, m2, m3⟩ := put_some k7
  subst j3 m3
  refine ⟨B, w, e, r1, e1, hH, st, k1, fun v1 w1 s1 l1 ok1 => ?_⟩
  refine ⟨B, w1, e1, r2, e2, rfl, s1, k3, fun v2 w2 s2 l2 ok2 => ?_⟩
  refine ⟨v1, v2, rfl, ?_⟩
  have l12 := l1.trans l2
  have ok1' := ok1.later l2 s1.sub
  -- both new lists stand apart
  obtain ⟨a1, a2⟩ := set_stt s2 l12 ok1' (fun a z => st.dom a z) j1 j2
  have ok2' : ResOK X.K w.H ⟨w2.F, w2.H, ownO (σ.set i (some v1)) (e2.set i (setR r1))⟩ v2 r2 := by
    cases r2 with
    | val d => exact ok2
    | fresh l =>
      obtain ⟨c, us, c1, c2, c3, c4, c5, c6⟩ := ok2
      refine ⟨c, us, c1, c2, c3, fun z => ?_, l1.dom c c5, c6⟩
      obtain ⟨n, b, l', z1, z2⟩ := z
      rw [get_set] at z1
      by_cases y : i = n
      · subst y
        rw [if_pos ⟨rfl, lt_of_get j1⟩] at z1
        rw [List.getElem?_set_self (by rw [s2.len]; exact lt_of_get j1)] at z2
        cases r1 with
        | val d => cases z1
        | fresh l1' =>
          obtain ⟨d, ds, d1, d2, d3, d4, d5, d6⟩ := ok1
          rw [d1] at z2
          cases z2
          rw [c5] at d2
          cases d2
      · rw [if_neg fun q => y q.1] at z1
        rw [List.getElem?_set_ne y] at z2
        exact c4 ((s2.ow c).mpr ⟨n, b, l', z1, z2⟩)
  obtain ⟨b1, b2⟩ := set_stt a1 a2 ok2' (fun a z => st.dom a z) m1 m2
  exact q _ ⟨w2.F, w2.H, ownO ((σ.set i (some v1)).set j (some v2)) ((e2.set i (setR r1)).set j (setR r2))⟩ b1 b2

/-! ### while -/
def sWhile (t : FT) (g : FS) : Nat → FS
  | 0 => fun _ => none
  | n + 1 => fun e => (t e).bind fun p => if p.1 = true then (g p.2).bind (fun fl => match fl with
      | .next e1 => sWhile t g n e1
      | .cont e1 => sWhile t g n e1
      | .brk e1 => some (.next e1)
      | .ret r e1 => some (.ret r e1)) else some (.next p.2)
theorem s_while {body : List Stmt} (n : Nat) (hp : PassesOwn (model X.prog X.w) X.A X.env X.xe) (hc : PT X c (tT X.K t)) (hb : PSs X body (tS X.K g)) : PS X (.While c body [] pos) (tS X.K (sWhile t g n)) := by
  refine ps_imp (ps_while hp hc hb) fun D σ H ⟨B, w, e, fl, hH, st, hg, q⟩ => ?_
  refine ⟨fun m σ H => ∃ w e fl, w.H = H ∧ Stt X.K B w σ e ∧ sWhile t g m e = some fl ∧ Post X.K B w D fl, ⟨n, w, e, fl, hH, st, hg, q⟩, ?_⟩
  rintro m σ H ⟨w, e, fl, hH, st, hg, q⟩
  cases m with
  | zero => cases hg
  | succ m =>
    obtain ⟨⟨b1, e1⟩, k1, k2⟩ := Option.bind_eq_some_iff.mp hg
    refine ⟨B, w, e, b1, e1, hH, st, k1, fun w1 s1 l1 => ?_⟩
    cases b1 with
    | false =>
      have k2' : fl = .next e1 := (Option.some.inj k2).symm
      subst k2'
      exact q σ w1 s1 l1
    | true =>
      obtain ⟨fl1, k3, k4⟩ := Option.bind_eq_some_iff.mp (show ((g e1).bind _) = some fl from k2)
      refine ⟨fun σ' H' => ∃ w' e' fl', w'.H = H' ∧ Stt X.K B w' σ' e' ∧ sWhile t g m e' = some fl' ∧ Post X.K B w' D fl', fun σ' H' z => ⟨m, Nat.lt_succ_self m, z⟩, B, w1, e1, fl1, rfl, s1, k3, ?_⟩
      have q1 := q.later l1
      cases fl1 with
      | next e2 => exact fun σ2 w2 s2 l2 => ⟨w2, e2, fl, rfl, s2, k4, q1.later l2⟩
      | cont e2 => exact fun σ2 w2 s2 l2 => ⟨w2, e2, fl, rfl, s2, k4, q1.later l2⟩
      | brk e2 => cases k4; exact fun σ2 w2 s2 l2 => q1 σ2 w2 s2 l2
      | ret r e2 => cases k4; exact fun v σ2 w2 s2 l2 ok => q1 v σ2 w2 s2 l2 ok

/-! ### what is walked -/
abbrev FI := En → Option (List D × En)
structure ItOK (K : PySem.W.Frag) (F : Hp) (J : It) (ds : List D) : Prop where
  go : ∀ i H, Same F H → i < ds.length → J.go i H
  stop : ∀ H, Same F H → J.stop ds.length H
  yld : ∀ (i : Nat) H x H' d, Same F H → ds[i]? = some d → J.yld i H x H' → (H' = H ∧ Dq K F x d) ∨ (∃ p o, H p = none ∧ H' = upd H p o ∧ ∀ F', Same F F' → F' p = some o → Dq K F' x d)
def tI (K : PySem.W.Frag) (f : FI) : TI := fun σ H R => ∃ B w e ds e', w.H = H ∧ Stt K B w σ e ∧ f e = some (ds, e') ∧ ∀ J w', Stt K B w' σ e' → Le w w' → ItOK K w'.F J ds → R J w'.H
def sForGo (gt : FG) (g : FS) : List D → FS
  | [] => fun e => some (.next e)
  | d :: ds => fun e => (gt d e).bind fun e1 => (g e1).bind fun fl => match fl with
      | .next e2 => sForGo gt g ds e2
      | .cont e2 => sForGo gt g ds e2
      | .brk e2 => some (.next e2)
      | .ret r e2 => some (.ret r e2)
def sFor (it : FI) (gt : FG) (g : FS) : FS := fun e => (it e).bind fun p => sForGo gt g p.1 p.2
theorem s_for {tg iter : Expr} {body : List Stmt} {it : FI} {ts : List Nat} {gt : FG} (hp : PassesOwn (model X.prog X.w) X.A X.env X.xe) (hc : X.calm = true) (hi : PI X tg iter (tI X.K it)) (hg : PG X tg (tG X.K ts gt)) (hb : PSs X body (tS X.K g))
    (hs : ∀ x, foldedSetIterable iter X.env x = pure x := by intro _; rfl) : PS X (.For tg iter body [] pos) (tS X.K (sFor it gt g)) := by
  refine ps_imp (ps_for hp hc hi hg hb hs) fun D σ H ⟨B, w, e, fl, hH, st, hf, q⟩ => ?_
  obtain ⟨⟨ds, e1⟩, k1, k2⟩ := Option.bind_eq_some_iff.mp hf
  refine ⟨B, w, e, ds, e1, hH, st, k1, fun J w1 s1 l1 ok => ?_⟩
  refine ⟨fun i m σ H => m + i = ds.length ∧ ∃ w e fl, w.H = H ∧ Stt X.K B w σ e ∧ Same w1.F w.F ∧ sForGo gt g (ds.drop i) e = some fl ∧ Post X.K B w D fl,
    ⟨ds.length, by simp, w1, e1, fl, rfl, s1, Same.refl _, by rw [List.drop_zero]; exact k2, q.later l1⟩, ?_⟩
  rintro i m σ H ⟨hm, w, e, fl, hH, st, sF, hg, q⟩
  have sH : Same w1.F H := by rw [← hH]; exact sF.trans st.sub
  by_cases hlt : i < ds.length
  · obtain ⟨d, hd⟩ : ∃ d, ds[i]? = some d := ⟨_, List.getElem?_eq_getElem hlt⟩
    have e0 : ds.drop i = d :: ds.drop (i + 1) := by
      rw [List.drop_eq_getElem_cons hlt]
      congr 1
      rw [List.getElem?_eq_getElem hlt] at hd
      exact Option.some.inj hd
    rw [e0] at hg
    obtain ⟨e2, j1, j2⟩ := Option.bind_eq_some_iff.mp hg
    obtain ⟨fl1, j3, j4⟩ := Option.bind_eq_some_iff.mp j2
    refine .inr ⟨ok.go i H sH hlt, fun σ' H' => ∃ w' e' fl', w'.H = H' ∧ Stt X.K B w' σ' e' ∧ Same w1.F w'.F ∧ sForGo gt g (ds.drop (i + 1)) e' = some fl' ∧ Post X.K B w' D fl', fun σ' H' z => ⟨m - 1, by omega, by omega, z⟩, fun x H' y => ?_⟩
    -- the item, in a world that may hold a new pair
    obtain ⟨w2, h2, s2, l2, dd⟩ : ∃ w2, w2.H = H' ∧ Stt X.K B w2 σ e ∧ Le w w2 ∧ Dq X.K w2.F x d := by
      rcases ok.yld i H x H' d sH hd y with ⟨a1, a2⟩ | ⟨p, o, a1, a2, a3⟩
      · exact ⟨w, by rw [a1]; exact hH, st, Le.refl w, dq_same sF a2⟩
      · obtain ⟨b1, b2, b3⟩ := st.add (o := o) (p := p) (by rw [hH]; exact a1)
        exact ⟨w.add p o, by rw [a2, ← hH]; rfl, b2, b1, a3 _ (sF.trans b1.fz) b3⟩
    refine ⟨B, w2, e, d, e2, h2, s2, dd, j1, fun σ3 w3 s3 l3 _ => ?_⟩
    refine ⟨B, w3, e2, fl1, rfl, s3, j3, ?_⟩
    have q3 := (q.later l2).later l3
    have sF3 : Same w1.F w3.F := (sF.trans l2.fz).trans l3.fz
    cases fl1 with
    | next e4 => exact fun σ4 w4 s4 l4 => ⟨w4, e4, fl, rfl, s4, sF3.trans l4.fz, j4, q3.later l4⟩
    | cont e4 => exact fun σ4 w4 s4 l4 => ⟨w4, e4, fl, rfl, s4, sF3.trans l4.fz, j4, q3.later l4⟩
    | brk e4 => cases j4; exact fun σ4 w4 s4 l4 => q3 σ4 w4 s4 l4
    | ret r e4 => cases j4; exact fun v σ4 w4 s4 l4 okr => q3 v σ4 w4 s4 l4 okr
  · have e0 : i = ds.length := by omega
    subst e0
    rw [List.drop_length] at hg
    cases hg
    refine .inl ⟨ok.stop H sH, ?_⟩
    rw [← hH]
    exact q σ w st (Le.refl w)
end
end DL

set_option Elab.async false
set_option linter.all false
set_option maxRecDepth 100000
set_option maxHeartbeats 1000000
/-! DL9: what is walked, comprehensions, methods of lists. -/
namespace DL
open PySem PySem.Spec PyProof.Rows L2

/-! ### a walk of the layer as an iterable of data -/
theorem it_of {K : PySem.W.Frag} {F : Hp} {J : It} {n : Nat} {G : Hp → Prop} {Y : Nat → Hp → V → Hp → Prop} {ds : List D} (W : Walk J n G Y) (hn : n = ds.length) (hG : ∀ H, Same F H → G H)
    (hY : ∀ (i : Nat) H x H' d, Same F H → ds[i]? = some d → Y i H x H' → (H' = H ∧ Dq K F x d) ∨ (∃ p o, H p = none ∧ H' = upd H p o ∧ ∀ F', Same F F' → F' p = some o → Dq K F' x d)) : ItOK K F J ds where
  go := fun i H s h => W.goes i H (by omega) (hG H s)
  stop := fun H s => by rw [← hn]; exact W.stops H (hG H s)
  yld := fun i H x H' d s h y => hY i H x H' d s h (W.yields i H x H' (by rw [hn]; exact lt_of_get h) (hG H s) y)
theorem it_list {K : PySem.W.Frag} {F : Hp} {a : Addr} {vs : List V} {ds : List D} (h : LstAt K F a vs) (hd : Da K F vs ds) : ItOK K F (Itl K a) ds :=
  it_of walk_list (da_len hd) (fun H s => la_sql (la_same s h)) fun i H x H' d s q y => by
    obtain ⟨e1, e2⟩ := y
    obtain ⟨v, k1, k2⟩ := da_get hd q
    rw [e2] at k1
    cases k1
    exact .inl ⟨e1, k2⟩
theorem it_tup {K : PySem.W.Frag} {F : Hp} {a : Addr} {vs : List V} {ds : List D} (h : SqT K F a vs) (hd : Da K F vs ds) : ItOK K F (Itt K a) ds :=
  it_of walk_tup (da_len hd) (fun H s => same_t s h) fun i H x H' d s q y => by
    obtain ⟨e1, e2⟩ := y
    obtain ⟨v, k1, k2⟩ := da_get hd q
    rw [e2] at k1
    cases k1
    exact .inl ⟨e1, k2⟩
/-- lo, lo + 1, .. -/
def rangeD (lo : Int) (n : Nat) : List D := (List.range n).map fun i => .int (lo + (i : Nat))
theorem it_range {K : PySem.W.Frag} {F : Hp} {lo : Int} {n : Nat} : ItOK K F (Itr lo n) (rangeD lo n) :=
  it_of walk_range (by simp [rangeD]) (fun _ _ => trivial) fun i H x H' d s q y => by
    obtain ⟨e1, e2⟩ := y
    unfold rangeD at q
    rw [List.getElem?_map] at q
    obtain ⟨k, k1, k2⟩ := Option.map_eq_some_iff.mp q
    have e3 := List.getElem?_eq_some_iff.mp k1
    obtain ⟨e4, e5⟩ := e3
    rw [List.getElem_range] at e5
    subst e5 k2 e2
    exact .inl ⟨e1, Dq.int _⟩
/-- pairs of two lists -/
def zipD (a b : List D) : List D := (a.zip b).map fun p => .tuple [p.1, p.2]
theorem dq_pair {K : PySem.W.Frag} {F F' : Hp} {p : Addr} {x y : V} {a b : D} (s : Same F F') (h : F' p = some (.tup [x, y])) (h1 : Dq K F x a) (h2 : Dq K F y b) : Dq K F' (.ref p) (.tuple [a, b]) :=
  .tup (.inl (.inl h)) (.cons (dq_same s h1) (.cons (dq_same s h2) .nil))
theorem it_pair {K : PySem.W.Frag} {F : Hp} {J : It} {n : Nat} {G : Hp → Prop} {xs ys : Nat → Option V} {da db : List D} (W : Walk J n G (YPair xs ys)) (hn : n = (zipD da db).length) (hG : ∀ H, Same F H → G H)
    (hx : ∀ (i : Nat) v d, xs i = some v → da[i]? = some d → Dq K F v d) (hy : ∀ (i : Nat) v d, ys i = some v → db[i]? = some d → Dq K F v d) : ItOK K F J (zipD da db) :=
  it_of W hn hG fun i H x H' d s q y => by
    obtain ⟨T, x1, y1, e1, e2, e3, e4, e5⟩ := y
    unfold zipD at q
    rw [List.getElem?_map] at q
    obtain ⟨⟨a, b⟩, k1, k2⟩ := Option.map_eq_some_iff.mp q
    obtain ⟨k3, k4⟩ := List.getElem?_zip_eq_some.mp k1
    subst k2 e1
    exact .inr ⟨T, _, e2, e3, fun F' s' h => dq_pair s' h (hx i x1 a e4 k3) (hy i y1 b e5 k4)⟩

/-! ### the iterables -/
section
variable {X : Cx} {tg a b : Expr} {fa fb : FE} {p pos tpos : Pos} {elts : List Expr} {kk : Nat}
/-- a list or a tuple -/
def iSeq (K : PySem.W.Frag) (tl : TE) : TI := fun σ H R => tl σ H fun x H1 => ∃ a, x = .ref a ∧ ((∃ xs, SqL K H1 a xs ∧ R (Itl K a) H1) ∨ (∃ xs, SqT K H1 a xs ∧ R (Itt K a) H1))
theorem pi_seq {tl : TE} (hl : PE X a tl) : PI X tg a (iSeq X.K tl) := by
  refine ⟨fun pins s σ H R I h => thn (hl.run pins s σ H _ I h) fun v s1 ⟨x, H1, I1, r1, c, e, q⟩ => ?_⟩
  subst e
  cases r1
  have hfp : ∀ b ∈ [s1.heap.objs.size], FpOk X pins H1 b := fun b hb => by
    have e : b = s1.heap.objs.size := by simpa using hb
    subst e
    exact I1.fpOk (Nat.le_refl _) (I1.hok.fresh (Nat.le_refl _))
  rcases q with ⟨xs, hq, q⟩ | ⟨xs, hq, q⟩
  · obtain ⟨its, rv, pl, hz⟩ := I1.list hq
    exact wpAny_pyIter_list pl.isList ⟨s1.heap.objs.size, [s1.heap.objs.size], _, _, H1, rfl, I1.kept (t' := s1.toks) fun b o e => Heap.get?_push_of_some _ e, turn_list c _, ⟨_, Heap.get?_push_size _ rfl, rfl, rfl⟩, hfp, q⟩
  · obtain ⟨its, rv, pl, hz⟩ := I1.tuple hq
    exact wpAny_pyIter_tuple (show s1.heap.IsTuple c its.toArray from pl) ⟨s1.heap.objs.size, [s1.heap.objs.size], _, _, H1, rfl, I1.kept (t' := s1.toks) fun b o e => Heap.get?_push_of_some _ e, turn_tuple c _, ⟨_, Heap.get?_push_size _ rfl, rfl, rfl⟩, hfp, q⟩
/-- the frozen items of what is walked -/
def iSq (f : FE) : FI := fun e => (f e).bind fun p => (frz p.2 p.1).bind fun q => (seqOf q.1).map fun l => (l, q.2)
theorem i_seq (h : PE X a (tE X.K fa)) : PI X tg a (tI X.K (iSq fa)) := by
  refine pi_imp (pi_seq h) fun σ H R ⟨B, w, e, ds, e', hH, st, hf, q⟩ => ?_
  obtain ⟨⟨r1, e1⟩, k1, k2⟩ := Option.bind_eq_some_iff.mp hf
  obtain ⟨⟨d, e2⟩, k3, k4⟩ := Option.bind_eq_some_iff.mp k2
  obtain ⟨l, k5, k6⟩ := Option.map_eq_some_iff.mp k4
  cases k6
  refine ⟨B, w, e, r1, e1, hH, st, k1, fun v w1 s1 l1 p1 => ?_⟩
  obtain ⟨w2, j1, s2, l2, dd⟩ := frz_ok s1 k3 p1
  rw [← j1]
  cases d <;> try cases k5
  · cases dd with
    | lst h1 h2 => exact ⟨_, rfl, .inl ⟨_, la_sql (la_same s2.sub h1), q _ w2 s2 (l1.trans l2) (it_list h1 h2)⟩⟩
  · cases dd with
    | tup h1 h2 => exact ⟨_, rfl, .inr ⟨_, same_t s2.sub h1, q _ w2 s2 (l1.trans l2) (it_tup h1 h2)⟩⟩
/-- range(n), range(a, b) -/
def smallI (i : Int) : Prop := -(2 ^ 62) ≤ i ∧ i < 2 ^ 62
instance (i : Int) : Decidable (smallI i) := by unfold smallI; infer_instance
def iR1 (g : FA) : FI := fun e => (g e).bind fun p => match looks p.2 p.1 with
  | some [.int j] => if smallI j then some (rangeD 0 j.toNat, p.2) else none
  | _ => none
def iR2 (g : FA) : FI := fun e => (g e).bind fun p => match looks p.2 p.1 with
  | some [.int i, .int j] => if smallI i ∧ smallI j then some (rangeD i (j - i).toNat, p.2) else none
  | _ => none
theorem i_range1 {fs : FA} (hg : Gl X "range") (hm : X.mg "range" = none) (ha : PA X [a] (tA X.K fs)) (hs : starEach [a] X.env = [(false, eval a X.env)] := by rfl) : PI X tg (.Call (.Name "range" p) [a] [] pos) (tI X.K (iR1 fs)) := by
  refine pi_imp (pi_range1 hg hm ha hs) fun σ H R ⟨B, w, e, ds, e', hH, st, hf, q⟩ => ?_
  obtain ⟨⟨rs, e1⟩, k1, k2⟩ := Option.bind_eq_some_iff.mp hf
  refine ⟨B, w, e, rs, e1, hH, st, k1, fun vs w1 s1 l1 p1 => ?_⟩
  cases hl : looks e1 rs with
  | none => simp only [hl] at k2; cases k2
  | some dl =>
    have t := looks_ok s1 hl p1
    simp only [hl] at k2
    split at k2
    · rename_i j hj
      have hj' := Option.some.inj hj
      subst hj'
      split at k2
      · rename_i hb
        cases k2
        obtain ⟨v, e2, t1⟩ := dts1 t
        refine ⟨j, by rw [e2, t1.int], hb.1, hb.2, q _ w1 s1 l1 it_range⟩
      · cases k2
    · cases k2
theorem i_range2 {fs : FA} (hg : Gl X "range") (hm : X.mg "range" = none) (ha : PA X [a, b] (tA X.K fs)) (hs : starEach [a, b] X.env = [(false, eval a X.env), (false, eval b X.env)] := by rfl) (hs2 : starEach [b] X.env = [(false, eval b X.env)] := by rfl) :
    PI X tg (.Call (.Name "range" p) [a, b] [] pos) (tI X.K (iR2 fs)) := by
  refine pi_imp (pi_range2 hg hm ha hs hs2) fun σ H R ⟨B, w, e, ds, e', hH, st, hf, q⟩ => ?_
  obtain ⟨⟨rs, e1⟩, k1, k2⟩ := Option.bind_eq_some_iff.mp hf
  refine ⟨B, w, e, rs, e1, hH, st, k1, fun vs w1 s1 l1 p1 => ?_⟩
  cases hl : looks e1 rs with
  | none => simp only [hl] at k2; cases k2
  | some dl =>
    have t := looks_ok s1 hl p1
    simp only [hl] at k2
    split at k2
    · rename_i i j hj
      have hj' := Option.some.inj hj
      subst hj'
      split at k2
      · rename_i hb
        cases k2
        obtain ⟨v, u, e2, t1, t2⟩ := dts2 t
        exact ⟨i, j, by rw [e2, t1.int, t2.int], ⟨hb.1.1, hb.1.2, hb.2.1, hb.2.2⟩, q _ w1 s1 l1 it_range⟩
      · cases k2
    · cases k2
/-- two sequences that are frozen -/
def frz2 (g : FA) : En → Option ((D × D) × En) := fun e => (g e).bind fun p => (frzs p.2 p.1).bind fun q => match q.1 with
  | [a, b] => some ((a, b), q.2)
  | _ => none
def iZp (g : FA) : FI := fun e => (g e).bind fun p => (frzs p.2 p.1).bind fun q => match q.1 with
  | [.list a, .list b] => some (zipD a b, q.2)
  | [.tuple a, .tuple b] => some (zipD a b, q.2)
  | _ => none
theorem zipD_len (a b : List D) : (zipD a b).length = min a.length b.length := by simp [zipD]
theorem i_zip {fs : FA} (hg : Gl X "zip") (hm : X.mg "zip" = none) (ha : PA X [a, b] (tA X.K fs)) (hs : starEach [a, b] X.env = (false, eval a X.env) :: starEach [b] X.env := by rfl) (hpl : (backTo pos (starEach [b] X.env)).any (·.1) = false := by rfl) :
    PI X (.Tuple elts kk tpos) (.Call (.Name "zip" p) [a, b] [] pos) (tI X.K (iZp fs)) := by
  refine pi_imp (RZ.pi_zipA hg hm ha hs hpl) fun σ H R ⟨B, w, e, ds, e', hH, st, hf, q⟩ => ?_
  obtain ⟨⟨rs, e1⟩, k1, k2⟩ := Option.bind_eq_some_iff.mp hf
  obtain ⟨⟨dl, e2⟩, k3, k4⟩ := Option.bind_eq_some_iff.mp k2
  refine ⟨B, w, e, rs, e1, hH, st, k1, fun vs w1 s1 l1 p1 => ?_⟩
  obtain ⟨w2, j1, s2, l2, dd⟩ := frzs_ok s1 k3 p1
  rw [← j1]
  split at k4
  · rename_i x y hxy
    cases k4
    subst hxy
    obtain ⟨v1, r1, z1, z2, z3⟩ := da_cons_inv dd
    obtain ⟨v2, r2, y1, y2, y3⟩ := da_cons_inv z3
    have y4 := da_nil_inv y3
    subst z1 y1 y4
    cases z2 with
    | lst h1 h2 =>
      cases y2 with
      | lst h3 h4 =>
        rename_i c1 xs1 c2 xs2
        refine ⟨c1, c2, xs1, xs2, rfl, .inl ⟨la_sql (la_same s2.sub h1), la_sql (la_same s2.sub h3), q _ w2 s2 (l1.trans l2) ?_⟩⟩
        refine it_pair (walk_zip (xs := xs1) (ys := xs2) rfl) (by rw [zipD_len, da_len h2, da_len h4]) (fun H s => ⟨la_sql (la_same s h1), la_sql (la_same s h3)⟩) (fun i v d q1 q2 => ?_) fun i v d q1 q2 => ?_
        · obtain ⟨u, u1, u2⟩ := da_get h2 q2
          rw [q1] at u1; cases u1; exact u2
        · obtain ⟨u, u1, u2⟩ := da_get h4 q2
          rw [q1] at u1; cases u1; exact u2
  · rename_i x y hxy
    cases k4
    subst hxy
    obtain ⟨v1, r1, z1, z2, z3⟩ := da_cons_inv dd
    obtain ⟨v2, r2, y1, y2, y3⟩ := da_cons_inv z3
    have y4 := da_nil_inv y3
    subst z1 y1 y4
    cases z2 with
    | tup h1 h2 =>
      cases y2 with
      | tup h3 h4 =>
        rename_i c1 xs1 c2 xs2
        refine ⟨c1, c2, xs1, xs2, rfl, .inr ⟨same_t s2.sub h1, same_t s2.sub h3, q _ w2 s2 (l1.trans l2) ?_⟩⟩
        have W : Walk (RZ.ItzT X.K c1 c2) (min xs1.length xs2.length) (fun H => SqT X.K H c1 xs1 ∧ SqT X.K H c2 xs2) (YPair (fun i => xs1[i]?) (fun i => xs2[i]?)) := by
          refine ⟨fun i H hi q => ?_, fun _ q => ⟨xs1, xs2, q.1, q.2, by omega⟩, fun i H v H' _ q y => ?_⟩
          · have g1 : i < xs1.length := by omega
            have g2 : i < xs2.length := by omega
            exact ⟨xs1, xs2, xs1[i], xs2[i], q.1, q.2, by simp [g1], by simp [g2]⟩
          · obtain ⟨T, x, z, h1, h2, h3, h4, h5⟩ := y
            exact ⟨T, x, z, h1, h2, h3, h4 xs1 q.1, h5 xs2 q.2⟩
        refine it_pair W (by rw [zipD_len, da_len h2, da_len h4]) (fun H s => ⟨same_t s h1, same_t s h3⟩) (fun i v d q1 q2 => ?_) fun i v d q1 q2 => ?_
        · obtain ⟨u, u1, u2⟩ := da_get h2 q2
          rw [q1] at u1; cases u1; exact u2
        · obtain ⟨u, u1, u2⟩ := da_get h4 q2
          rw [q1] at u1; cases u1; exact u2
  · cases k4
end
end DL

set_option Elab.async false
set_option linter.all false
set_option maxRecDepth 100000
set_option maxHeartbeats 2000000
/-! DL10: enumerate of lists and tuples. -/
namespace DL
open PySem PySem.Spec PyProof.Rows L2
/-! ### enumerate(tuple): made -/
theorem meets_enum_tup (l : Addr) (items : Array Value) :
    Meets (Builtin.«enumerate.__new__» ⟨[.type "enumerate", .ref l], []⟩) (fun _ R s => s.heap.IsTuple l items ∧
      R (.ok (.ret (.ref (s.heap.push { cls := .type "tuple_iterator", data := .fields #[.ref l, .int 0 0] }).objs.size)))
        { s with heap := (s.heap.push { cls := .type "tuple_iterator", data := .fields #[.ref l, .int 0 0] }).push { cls := .type "enumerate", data := .fields #[.none, .bool false, .ref s.heap.objs.size, rawInt 0, .none, .none] } }) :=
  .of_wp fun prog w A R s h => by
    obtain ⟨hp, g, d, tk, os⟩ := s
    obtain ⟨h1, h⟩ := h
    have hsub := sub_enumerate
    have q1 : ∀ {A' : Around} {E : Value → Shared → Prop} {Q : Value → Shared → Prop}, Q (.ref hp.objs.size) ⟨hp.push { cls := .type "tuple_iterator", data := .fields #[.ref l, .int 0 0] }, g, d, tk, os⟩ → wpAny (model prog w) A' (pyIter (.ref l)) Q E ⟨hp, g, d, tk, os⟩ :=
      fun q => (begins_tuple l items).iter prog w _ _ ⟨hp, g, d, tk, os⟩ _ h1 q
    wp_walk using q1
    refine wpAny_stack_any fun st => wpAny_pure ?_
    split
    · rename_i c _ _ _ _ _
      cases (c == Value.type "enumerate")
      · wp_walk using q1
        exact ⟨_, rfl, h⟩
      · wp_walk using q1
        exact ⟨_, rfl, h⟩
    · wp_walk using q1
      exact ⟨_, rfl, h⟩
theorem call_enum_tup {prog : Program} {w : World} {A : Around} {E : Value → Shared → Prop} {s : Shared} {l : Addr} {items : Array Value} {Q : Value → Shared → Prop} (hL : s.heap.IsTuple l items)
    (h : ∀ h', IsEnum h' (s.heap.objs.size + 1) s.heap.objs.size 0 .none → h'.IsTupleIter s.heap.objs.size l 0 → h'.objs.size = s.heap.objs.size + 2 →
      (∀ b o, s.heap.get? b = some o → h'.get? b = some o) → Q (.ref (s.heap.objs.size + 1)) { s with heap := h' }) :
    wpAny (model prog w) A (call (.type "enumerate") [.ref l]) Q E s := by
  refine callType_new F.called_enumerate (by decide) (F.typeCall_enumerate_1 _) (F.newCall_enumerate_1 _) (fun obj => F.args_object_init_2 obj _) F.entry_enumerate_new (meets_enum_tup l items) ⟨hL, ?_⟩
  have hz : (s.heap.push { cls := .type "tuple_iterator", data := .fields #[.ref l, .int 0 0] }).objs.size = s.heap.objs.size + 1 := Heap.size_push ..
  show _ ∧ _
  rw [hz]
  have he : IsEnum ((s.heap.push { cls := .type "tuple_iterator", data := .fields #[.ref l, .int 0 0] }).push { cls := .type "enumerate", data := .fields #[.none, .bool false, .ref s.heap.objs.size, rawInt 0, .none, .none] }) (s.heap.objs.size + 1) s.heap.objs.size 0 .none := by
    have z := Heap.get?_push_size (s.heap.push { cls := .type "tuple_iterator", data := .fields #[.ref l, .int 0 0] }) (o := { cls := .type "enumerate", data := .fields #[.none, .bool false, .ref s.heap.objs.size, rawInt 0, .none, .none] }) rfl
    rw [hz] at z
    exact z
  exact ⟨⟨_, he, rfl⟩, h _ he ⟨_, Heap.get?_push_of_some _ (Heap.get?_push_size _ rfl), rfl, rfl⟩ (by rw [Heap.size_push, hz]) fun b o x => Heap.get?_push_of_some _ (Heap.get?_push_of_some _ x)⟩
/-! ### .. walked -/
def IteT (K : PySem.W.Frag) (a : Addr) : It :=
  ⟨fun i H => ∃ (xs : List V) (x : V), SqT K H a xs ∧ xs[i]? = some x, fun i H v H' => ∃ T x, v = .ref T ∧ H T = none ∧ H' = upd H T (.tup [.int (i : Nat), x]) ∧ ∀ xs, SqT K H a xs → xs[i]? = some x, fun i H => ∃ xs : List V, SqT K H a xs ∧ xs.length ≤ i⟩
theorem turn_enumT {P : Program} {w : World} {K : PySem.W.Frag} {elts : List Expr} {kk : Nat} {tpos : Pos} (a e it : Addr) :
    Turn P w K (.Tuple elts kk tpos) (IteT K a) [e, it] e (fun i h => (∃ old, IsEnum h e it ((i : Nat) : Int) old) ∧ h.IsTupleIter it a i ∧ e ≠ it ∧ a ≠ it ∧ a ≠ e) where
  mem := by simp
  obj := fun i h st b hb => by
    obtain ⟨⟨old, he⟩, ⟨o, ho, hc, hd⟩, _⟩ := st
    have e' : b = e ∨ b = it := by simpa using hb
    rcases e' with z | z
    · rw [z]; exact ⟨_, he, fun v q => nomatch q⟩
    · rw [z]; exact ⟨o, ho, fun v q => by rw [hd] at q; cases q⟩
  keep := fun i h h' st k => by
    obtain ⟨⟨old, he⟩, hi, hne⟩ := st
    exact ⟨⟨old, k e (by simp) _ he⟩, hi.at fun o q => k it (by simp) o q, hne⟩
  item := by
    intro X hP hw hK hc i pins s σ H E I hf st hg
    subst hP hw hK
    obtain ⟨⟨old, he⟩, hit, hne, hai, hae⟩ := st
    obtain ⟨xs, x, hq, hx⟩ := hg
    obtain ⟨its, rv, p, hz⟩ := I.tuple hq
    obtain ⟨u, hu, ru⟩ := rv.get hx
    have hel : e < s.heap.objs.size := Heap.lt_size he
    have hil : it < s.heap.objs.size := by obtain ⟨_, q, _⟩ := hit; exact Heap.lt_size q
    have hlen : i < its.toArray.size := by
      have z := lt_of_get hu
      simpa using z
    have Dr := Draws.tuple (prog := X.prog) (w := X.w) (A := X.A.in1) (I.ok.hd hc) it a hai its.toArray
    refine wpAny_pyNext_enum_itemD Dr he ⟨hit, p⟩ hlen hne (by simp [hne, Ne.symm hae]) fun u' h' tk hP' ho' st' hT hsz hk => ?_
    have eu : u' = u := by
      have z : its.toArray[i]? = some u := by simpa using hu
      rw [z] at hP'
      exact (Option.some.inj hP').symm
    subst eu
    refine ⟨_, rfl, wpAny_letOwnedTupleGo_enum (s := { s with heap := h', toks := tk + 1 }) ho' fun h'' he' sb => ?_⟩
    have hT2 : h''.get? s.heap.objs.size = some { cls := .type "tuple", data := .seq #[.int i tk, u'] } := (sb.2 _ (Nat.ne_of_gt hel)).trans hT
    have new : ObjOk X.prog X.w (upd H s.heap.objs.size (.tup [.int (i : Nat), x])) h'' s.heap.objs.size (.tup [.int (i : Nat), x]) :=
      ⟨by show 2 ≤ sizeLine; decide, [.int i tk, u'], .cons ⟨_, rfl⟩ (.cons ru .nil), ⟨_, hT2, rfl, _, rfl⟩⟩
    have I1 : Inv X pins σ (upd H s.heap.objs.size (.tup [.int (i : Nat), x])) { s with heap := h'', toks := tk + 1 } :=
      I.turnedNew (ch := [e, it]) (fun b ob hb q => (sb.2 b (fun z => hb (by simp [z]))).trans (hk b ob (fun z => hb (by simp [z])) (fun z => hb (by simp [z])) q)) hf (Nat.le_refl _) new
    refine ⟨.ref s.heap.objs.size, _, I1, rfl, ⟨_, x, rfl, I.hok.fresh (Nat.le_refl _), rfl, fun ys hy => by rw [I.tuple_inj hy hq]; exact hx⟩, ⟨⟨u', ?_⟩, st'.1.at fun o q => (sb.2 it (Ne.symm hne)).trans q, hne, hai, hae⟩, fun b hb => ?_⟩
    · have e1 : ((i + 1 : Nat) : Int) = (i : Int) + 1 := by omega
      rw [e1]; exact he'
    · have hb' : b < s.heap.objs.size := by
        have e' : b = e ∨ b = it := by simpa using hb
        rcases e' with z | z
        · rw [z]; exact hel
        · rw [z]; exact hil
      rw [upd_ne (Nat.ne_of_lt hb')]
      exact (hf b hb).1
  done := by
    intro X hP hw hK hc i pins s σ H E I hf st hg
    subst hP hw hK
    obtain ⟨⟨old, he⟩, hit, hne, hai, hae⟩ := st
    obtain ⟨xs, hq, hx⟩ := hg
    obtain ⟨its, rv, p, hz⟩ := I.tuple hq
    obtain ⟨f0, f1, f2, f3, f4, f5⟩ := hf it (by simp)
    have hl := rv.length
    have hT : s.TypeIs (.ref e) "enumerate" := ⟨_, he, rfl⟩
    unfold pyNext
    refine wpAny_bind (wpAny_attempt (wpAny_callSpecial?_slot (name := Str.ofString "__next__") hT F.slot_enumerate_next
      (wpAny_call_entry F.slot_enumerate_next hT F.entry_enumerate_next ?_ (F.args_enumerate_next_1 _))))
    show wpAny _ _ (field (.ref e) 2 >>= _) _ _ _
    refine wpAny_bind (wpAny_field he rfl (x := .ref it) rfl ?_)
    refine wpAny_bind (wpAny_nextOf_tuple_end (I.ok.hd hc) hit (show s.heap.IsTuple a its.toArray from p) (by simp; omega) fun h' x he' hx' => ?_)
    obtain ⟨o, ho, hc'⟩ := hx'
    refine wpAny_bind (wpAny_isInstance (T := "StopIteration") (b := true) ⟨o, ho, hc'⟩ isSubtype_stop ?_)
    exact wpAny_pure ⟨rfl, I.turned (t' := s.toks) (fun b o hb q => he' b o hb q) f0 f1 f3 f4 f5⟩
  self := fun A i s Q E st h => by
    obtain ⟨⟨_, he⟩, _⟩ := st
    exact wpAny_pyIter_enum he h
def iEnumA (K : PySem.W.Frag) (ta : TA) : TI := fun σ H R => ta σ H fun vs H1 => ∃ a, vs = [.ref a] ∧ ((∃ xs, SqL K H1 a xs ∧ R (Ite K a) H1) ∨ (∃ xs, SqT K H1 a xs ∧ R (IteT K a) H1))
section
variable {X : Cx} {e : Expr} {p pos tpos : Pos} {elts : List Expr} {kk : Nat}
theorem pi_enumA {ta : TA} (hg : Gl X "enumerate") (hm : X.mg "enumerate" = none) (ha : PA X [e] ta) (hs : starEach [e] X.env = [(false, eval e X.env)] := by rfl) :
    PI X (.Tuple elts kk tpos) (.Call (.Name "enumerate" p) [e] [] pos) (iEnumA X.K ta) := by
  refine ⟨fun pins s σ H R I h => ?_⟩
  refine Call_ (ld_blt I hg hm boot_enumerate (PyProof.Rows.callWith_type1 (thn (ha.run pos pins s σ H _ I h) fun us s1 ⟨vs, H1, I1, r1, q1⟩ => ?_) hs rfl))
  obtain ⟨a, ex, q⟩ := q1
  subst ex
  cases r1 with
  | cons r rr =>
    cases rr
    cases r
    have hfp : ∀ b ∈ [s1.heap.objs.size + 1, s1.heap.objs.size], FpOk X pins H1 b := fun b hb => by
      have e' : b = s1.heap.objs.size + 1 ∨ b = s1.heap.objs.size := by simpa using hb
      have hle : s1.heap.objs.size ≤ b := by
        rcases e' with z | z
        · rw [z]; exact Nat.le_add_right _ _
        · rw [z]; exact Nat.le_refl _
      exact I1.fpOk hle (I1.hok.fresh hle)
    rcases q with ⟨xs, hq, q⟩ | ⟨xs, hq, q⟩
    · obtain ⟨its, rv, p', hz⟩ := I1.list hq
      refine call_enumerate_list p'.isList fun h' he hit hsz hk => wpAny_pyIter_enum he ?_
      have I2 : Inv X pins σ H1 { s1 with heap := h' } := I1.kept (t' := s1.toks) hk
      exact ⟨s1.heap.objs.size + 1, [s1.heap.objs.size + 1, s1.heap.objs.size], _, _, H1, rfl, I2, turn_enum a (s1.heap.objs.size + 1) s1.heap.objs.size, ⟨⟨.none, he⟩, hit, Nat.succ_ne_self _⟩, hfp, q⟩
    · obtain ⟨its, rv, p', hz⟩ := I1.tuple hq
      obtain ⟨o, ho, _⟩ := id p'
      have lt := Heap.lt_size ho
      refine call_enum_tup (show s1.heap.IsTuple a its.toArray from p') fun h' he hit hsz hk => wpAny_pyIter_enum he ?_
      have I2 : Inv X pins σ H1 { s1 with heap := h' } := I1.kept (t' := s1.toks) hk
      exact ⟨s1.heap.objs.size + 1, [s1.heap.objs.size + 1, s1.heap.objs.size], _, _, H1, rfl, I2, turn_enumT a (s1.heap.objs.size + 1) s1.heap.objs.size, ⟨⟨.none, he⟩, hit, Nat.succ_ne_self _, Nat.ne_of_lt lt, Nat.ne_of_lt (Nat.lt_succ_of_lt lt)⟩, hfp, q⟩
def enumD (l : List D) : List D := zipD (rangeD 0 l.length) l
def iEn (f : FE) : FI := fun e => (iSq f e).map fun p => (enumD p.1, p.2)
theorem i_enum {fa : FE} (hg : Gl X "enumerate") (hm : X.mg "enumerate" = none) (ha : PE X e (tE X.K fa)) (hs : starEach [e] X.env = (false, eval e X.env) :: starEach [] X.env := by rfl) (hs' : starEach [e] X.env = [(false, eval e X.env)] := by rfl) :
    PI X (.Tuple elts kk tpos) (.Call (.Name "enumerate" p) [e] [] pos) (tI X.K (iEn fa)) := by
  refine pi_imp (pi_enumA hg hm (pa_cons ha pa_nil hs) hs') fun σ H R ⟨B, w, en, ds, e', hH, st, hf, q⟩ => ?_
  obtain ⟨⟨l, e3⟩, k0, k0'⟩ := Option.map_eq_some_iff.mp hf
  cases k0'
  obtain ⟨⟨r1, e1⟩, k1, k2⟩ := Option.bind_eq_some_iff.mp k0
  obtain ⟨⟨d, e2⟩, k3, k4⟩ := Option.bind_eq_some_iff.mp k2
  obtain ⟨l', k5, k6⟩ := Option.map_eq_some_iff.mp k4
  cases k6
  refine ⟨B, w, en, r1, e1, hH, st, k1, fun v w1 s1 l1 p1 => ?_⟩
  obtain ⟨w2, j1, s2, l2, dd⟩ := frz_ok s1 k3 p1
  show ∃ a, [v] = [V.ref a] ∧ _
  rw [← j1]
  have hx : ∀ (i : Nat) v d, some (V.int (i : Nat)) = some v → (rangeD 0 l.length)[i]? = some d → Dq X.K w2.F v d := fun i v d q1 q2 => by
    cases q1
    unfold rangeD at q2
    rw [List.getElem?_map] at q2
    obtain ⟨k, z1, z2⟩ := Option.map_eq_some_iff.mp q2
    obtain ⟨z3, z4⟩ := List.getElem?_eq_some_iff.mp z1
    rw [List.getElem_range] at z4
    subst z4 z2
    rw [Int.zero_add]
    exact Dq.int _
  have hlen : (enumD l).length = l.length := by
    unfold enumD
    rw [zipD_len]
    simp [rangeD]
  cases d <;> try cases k5
  · cases dd with
    | lst h1 h2 =>
      rename_i a vs
      refine ⟨a, rfl, .inl ⟨vs, la_sql (la_same s2.sub h1), q _ w2 s2 (l1.trans l2) ?_⟩⟩
      refine it_pair (da := rangeD 0 l.length) (db := l) (walk_enum (xs := vs)) (by rw [da_len h2]; exact hlen.symm) (fun H s => la_sql (la_same s h1)) hx fun i v d q1 q2 => ?_
      obtain ⟨u, u1, u2⟩ := da_get h2 q2
      rw [q1] at u1; cases u1; exact u2
  · cases dd with
    | tup h1 h2 =>
      rename_i a vs
      refine ⟨a, rfl, .inr ⟨vs, same_t s2.sub h1, q _ w2 s2 (l1.trans l2) ?_⟩⟩
      have W : Walk (IteT X.K a) vs.length (fun H => SqT X.K H a vs) (YPair (fun i => some (.int (i : Nat))) (fun i => vs[i]?)) := by
        refine ⟨fun i _ hi q => ⟨vs, vs[i], q, by simp [hi]⟩, fun _ q => ⟨vs, q, Nat.le_refl _⟩, fun i H v H' _ q y => ?_⟩
        obtain ⟨T, x, y1, y2, y3, y4⟩ := y
        exact ⟨T, .int (i : Nat), x, y1, y2, y3, rfl, y4 vs q⟩
      refine it_pair (da := rangeD 0 l.length) (db := l) W (by rw [da_len h2]; exact hlen.symm) (fun H s => same_t s h1) hx fun i v d q1 q2 => ?_
      obtain ⟨u, u1, u2⟩ := da_get h2 q2
      rw [q1] at u1; cases u1; exact u2
end
end DL

set_option Elab.async false
set_option linter.all false
set_option maxRecDepth 100000
set_option maxHeartbeats 2000000
/-! DL11: comprehensions; methods of own lists; list(range). -/
namespace DL
open PySem PySem.Spec PyProof.Rows L2

/-! ### a comprehension's block -/
def wipeE (e : En) : List Nat → En
  | [] => e
  | v :: vs => (wipeE e vs).set v .dead
/-- behind the block: its own names as they were -/
def mergeE (e b : En) : List Nat → En
  | [] => b
  | v :: vs => match e[v]? with
    | some s => (mergeE e b vs).set v s
    | none => mergeE e b vs
def freeB (e : En) (vs : List Nat) : Bool := vs.all fun v => match e[v]? with
  | some s => !s.pin
  | none => true
def freeE (e : En) (vs : List Nat) : Prop := ∀ v ∈ vs, ∀ s : Slot, e[v]? = some s → s.pin = false
theorem freeE_B {e : En} {vs : List Nat} (h : freeB e vs = true) : freeE e vs := fun v hv s hs => by
  have z := List.all_eq_true.mp h v hv
  rw [hs] at z
  simpa using z
theorem wipeE_len (e : En) : ∀ vs : List Nat, (wipeE e vs).length = e.length
  | [] => rfl
  | v :: vs => by
    unfold wipeE
    rw [List.length_set, wipeE_len e vs]
theorem wipeE_get (e : En) : ∀ (vs : List Nat) (i : Nat), (wipeE e vs)[i]? = if i ∈ vs then (e[i]?.map fun _ => Slot.dead) else e[i]?
  | [], i => by simp [wipeE]
  | v :: vs, i => by
    unfold wipeE
    rw [get_set, wipeE_len, wipeE_get e vs i]
    by_cases c : v = i
    · subst c
      by_cases l : v < e.length
      · rw [if_pos ⟨rfl, l⟩, if_pos List.mem_cons_self, List.getElem?_eq_getElem l]
        rfl
      · rw [if_neg fun z => l z.2, if_pos List.mem_cons_self, List.getElem?_eq_none (by omega)]
        split <;> rfl
    · rw [if_neg fun z => c z.1]
      by_cases m : i ∈ vs
      · rw [if_pos m, if_pos (List.mem_cons_of_mem _ m)]
      · rw [if_neg m, if_neg fun z => (List.mem_cons.mp z).elim (fun y => c y.symm) m]
theorem wipe_get (σ : L2.St) : ∀ (vs : List Nat) (i : Nat), i ∉ vs → (wipe σ vs)[i]? = σ[i]?
  | [], i, _ => rfl
  | v :: vs, i, h => by
    unfold wipe
    rw [List.getElem?_set_ne (fun c => h (by simp [c])), wipe_get σ vs i fun z => h (List.mem_cons_of_mem _ z)]
theorem mergeE_len (e b : En) : ∀ vs : List Nat, (mergeE e b vs).length = b.length
  | [] => rfl
  | v :: vs => by
    unfold mergeE
    split
    · rw [List.length_set, mergeE_len e b vs]
    · exact mergeE_len e b vs
theorem mergeE_get (e b : En) (hl : e.length = b.length) : ∀ (vs : List Nat) (i : Nat), (mergeE e b vs)[i]? = if i ∈ vs then e[i]? else b[i]?
  | [], i => by simp [mergeE]
  | v :: vs, i => by
    have ih := mergeE_get e b hl vs i
    unfold mergeE
    cases hs : e[v]? with
    | none =>
      simp only
      rw [ih]
      by_cases c : i = v
      · subst c
        have h1 : b[i]? = none := by
          rw [List.getElem?_eq_none_iff] at hs ⊢
          omega
        rw [if_pos List.mem_cons_self, hs, h1]
        split <;> rfl
      · by_cases m : i ∈ vs
        · rw [if_pos m, if_pos (List.mem_cons_of_mem _ m)]
        · rw [if_neg m, if_neg fun z => (List.mem_cons.mp z).elim c m]
    | some s =>
      simp only
      rw [get_set, mergeE_len, ih]
      by_cases c : v = i
      · subst c
        rw [if_pos ⟨rfl, by rw [← hl]; exact lt_of_get hs⟩, if_pos List.mem_cons_self, hs]
      · rw [if_neg fun z => c z.1]
        by_cases m : i ∈ vs
        · rw [if_pos m, if_pos (List.mem_cons_of_mem _ m)]
        · rw [if_neg m, if_neg fun z => (List.mem_cons.mp z).elim (fun y => c y.symm) m]
section
variable {K : PySem.W.Frag} {B : Bd} {w w' : Wd} {σ σ' : L2.St} {e e' : En}
theorem owns (st : Stt K B w σ e) : w.O = ownO σ e := funext fun a => propext (st.ow a)
/-- the block's state at a turn's start -/
theorem wipe_stt (st : Stt K B w σ e) {vs : List Nat} (hf : freeE e vs) : Stt K B ⟨w.F, w.H, ownO (wipe σ vs) (wipeE e vs)⟩ (wipe σ vs) (wipeE e vs) ∧ Le w ⟨w.F, w.H, ownO (wipe σ vs) (wipeE e vs)⟩ ∧ ∀ a, ownO (wipe σ vs) (wipeE e vs) a → w.O a := by
  have at_ : ∀ {i : Nat} {s : Slot}, (wipeE e vs)[i]? = some s → s ≠ .dead → i ∉ vs ∧ e[i]? = some s ∧ (wipe σ vs)[i]? = σ[i]? := fun {i s} q nd => by
    rw [wipeE_get] at q
    split at q
    · obtain ⟨x, _, h2⟩ := Option.map_eq_some_iff.mp q
      exact absurd h2.symm nd
    · rename_i m
      exact ⟨m, q, wipe_get σ vs i m⟩
  have hO : ∀ a, ownO (wipe σ vs) (wipeE e vs) a → w.O a := fun a ⟨i, b, l, q1, q2⟩ => by
    obtain ⟨k1, k2, k3⟩ := at_ q1 (by simp)
    rw [k3] at q2
    exact (st.ow a).mpr ⟨i, b, l, k2, q2⟩
  refine ⟨⟨st.sub, by rw [wipe_length, wipeE_len]; exact st.len, fun i s q => ?_, fun i j b l b' l' q1 q2 q3 => ?_, fun a => Iff.rfl, ?_, fun i q => ?_, st.dom, fun i l a q1 q2 => ?_⟩, ⟨Same.refl _, fun _ _ q _ => q, fun _ _ q => .inl q, fun a q => .inl (hO a q), fun _ q => q⟩, hO⟩
  · by_cases c : s = .dead
    · subst c; trivial
    · obtain ⟨k1, k2, k3⟩ := at_ q c
      rw [k3]
      exact st.sl i s k2
  · obtain ⟨k1, k2, k3⟩ := at_ q1 (by simp)
    obtain ⟨j1, j2, j3⟩ := at_ q2 (by simp)
    rw [k3, j3] at q3
    exact st.inj i j _ _ _ _ k2 j2 q3
  · rw [← st.pin]
    refine List.ext_getElem? fun i => ?_
    rw [List.getElem?_map, List.getElem?_map, wipeE_get]
    split
    · rename_i m
      cases hs : e[i]? with
      | none => rfl
      | some s =>
        show some false = some s.pin
        rw [hf i m s hs]
    · rfl
  · have m : i ∉ vs := fun m => by
      rw [← st.pin, List.getElem?_map] at q
      obtain ⟨s, h1, h2⟩ := Option.map_eq_some_iff.mp q
      rw [hf i m s h1] at h2
      cases h2
    rw [wipe_get σ vs i m]
    exact st.pins i q
  · obtain ⟨k1, k2, k3⟩ := at_ q1 (by simp)
    rw [k3] at q2
    exact st.fr i l a k2 q2
/-- behind the block -/
theorem merge_stt {vs : List Nat} {w0 : Wd} {σ2 : L2.St} {b : En} (st : Stt K B w0 σ e) (le : Le ⟨w0.F, w0.H, ownO (wipe σ vs) (wipeE e vs)⟩ w') (s2 : Stt K B w' σ2 b) (hw : ∀ i, i ∉ vs → σ2[i]? = σ[i]?) :
    Stt K B ⟨w'.F, w'.H, ownO σ (mergeE e b vs)⟩ σ (mergeE e b vs) ∧ Le w0 ⟨w'.F, w'.H, ownO σ (mergeE e b vs)⟩ ∧ ∀ a, ownO σ (mergeE e b vs) a → w0.O a ∨ w'.O a := by
  have hl : e.length = b.length := by
    have z1 := congrArg List.length st.pin
    have z2 := congrArg List.length s2.pin
    rw [List.length_map] at z1 z2
    omega
  have at_ : ∀ {i : Nat} {s : Slot}, (mergeE e b vs)[i]? = some s → (i ∈ vs ∧ e[i]? = some s) ∨ (i ∉ vs ∧ b[i]? = some s ∧ σ2[i]? = σ[i]?) := fun {i s} q => by
    rw [mergeE_get e b hl] at q
    split at q
    · rename_i m; exact .inl ⟨m, q⟩
    · rename_i m; exact .inr ⟨m, q, hw i m⟩
  -- an own list of the block's own names is no list of the block
  have nO : ∀ {i : Nat} {c : Bool} {l : List D} {a : Addr}, i ∈ vs → e[i]? = some (Slot.own c l) → σ[i]? = some (some (.ref a)) → ¬ ownO (wipe σ vs) (wipeE e vs) a := fun {i c l a} m q1 q2 ⟨j, c2, l2, z1, z2⟩ => by
    rw [wipeE_get] at z1
    split at z1
    · obtain ⟨x, _, h2⟩ := Option.map_eq_some_iff.mp z1
      cases h2
    · rename_i m2
      rw [wipe_get σ vs j m2] at z2
      have e1 := st.inj i j _ _ _ _ q1 z1 (by rw [q2, z2])
      subst e1
      exact m2 m
  have kept : ∀ {i : Nat} {c : Bool} {l : List D}, i ∈ vs → e[i]? = some (Slot.own c l) → ∃ a us, σ[i]? = some (some (.ref a)) ∧ w0.H a = some (.lst us) ∧ w'.H a = some (.lst us) ∧ w'.F a = none ∧ Da K w'.F us l ∧ ¬ w'.O a := fun {i c l} m q => by
    obtain ⟨a, us, h1, h2, h3, h4, h5⟩ := st.own_at q
    have n := nO m q h1
    refine ⟨a, us, h1, h2, le.keep a _ h2 n, ?_, dqAll_same le.fz h4, fun z => ?_⟩
    · cases hF : w'.F a with
      | none => rfl
      | some o =>
        rcases le.new a o hF with z | z | z
        · rw [show w0.F a = some o from z] at h3; cases h3
        · rw [show w0.H a = none from z] at h2; cases h2
        · exact absurd z n
    · rcases le.own a z with z | z
      · exact n z
      · rw [show w0.H a = none from z] at h2; cases h2
  have sub0 : ∀ a, ownO (wipe σ vs) (wipeE e vs) a → w0.O a := fun a ⟨i, c, l, q1, q2⟩ => by
    rw [wipeE_get] at q1
    split at q1
    · obtain ⟨x, _, h2⟩ := Option.map_eq_some_iff.mp q1
      cases h2
    · rename_i m
      rw [wipe_get σ vs i m] at q2
      exact (st.ow a).mpr ⟨i, c, l, q1, q2⟩
  have hO : ∀ a, ownO σ (mergeE e b vs) a → w0.O a ∨ w0.H a = none := fun a ⟨i, c, l, q1, q2⟩ => by
    rcases at_ q1 with ⟨m, k1⟩ | ⟨m, k1, k2⟩
    · exact .inl ((st.ow a).mpr ⟨i, c, l, k1, q2⟩)
    · rcases le.own a ((s2.ow a).mpr ⟨i, c, l, k1, by rw [k2]; exact q2⟩) with z | z
      · exact .inl (sub0 a z)
      · exact .inr z
  refine ⟨⟨s2.sub, by rw [mergeE_len, ← hl]; exact st.len, fun i s q => ?_, fun i j c l c' l' q1 q2 q3 => ?_, fun a => Iff.rfl, ?_, st.pins, s2.dom, fun i l a q1 q2 => ?_⟩,
    ⟨le.fz, fun a o q n => le.keep a o q fun z => n (sub0 a z), fun a o q => ?_, hO, le.dom⟩, fun a ⟨i, c, l, q1, q2⟩ => ?_⟩
  · rcases at_ q with ⟨m, k1⟩ | ⟨m, k1, k2⟩
    · cases s with
      | dead => trivial
      | val c d =>
        obtain ⟨v, h1, h2⟩ := st.sl i _ k1
        exact ⟨v, h1, dq_same le.fz h2⟩
      | own c l =>
        obtain ⟨a, us, h1, _, h2, h3, h4, _⟩ := kept m k1
        exact ⟨a, us, h1, h2, h3, h4⟩
    · have z := s2.sl i s k1
      rw [k2] at z
      exact z
  · rcases at_ q1 with ⟨m, k1⟩ | ⟨m, k1, k2⟩
    · rcases at_ q2 with ⟨n, j1⟩ | ⟨n, j1, j2⟩
      · exact st.inj i j _ _ _ _ k1 j1 q3
      · obtain ⟨a, us, h1, _, h2, h3, h4, h5⟩ := kept m k1
        exact absurd ((s2.ow a).mpr ⟨j, c', l', j1, by rw [j2, ← q3]; exact h1⟩) h5
    · rcases at_ q2 with ⟨n, j1⟩ | ⟨n, j1, j2⟩
      · obtain ⟨a, us, h1, _, h2, h3, h4, h5⟩ := kept n j1
        exact absurd ((s2.ow a).mpr ⟨i, c, l, k1, by rw [k2, q3]; exact h1⟩) h5
      · exact s2.inj i j _ _ _ _ k1 j1 (by rw [k2, j2]; exact q3)
  · refine List.ext_getElem? fun i => ?_
    rw [List.getElem?_map, mergeE_get e b hl]
    split
    · rw [← List.getElem?_map, st.pin]
    · rw [← List.getElem?_map, s2.pin]
  · rcases at_ q1 with ⟨m, k1⟩ | ⟨m, k1, k2⟩
    · exact st.fr i l a k1 q2
    · exact s2.fr i l a k1 (by rw [k2]; exact q2)
  · rcases le.new a o q with z | z | z
    · exact .inl z
    · exact .inr (.inl z)
    · exact .inr (.inr (sub0 a z))
  · rcases at_ q1 with ⟨m, k1⟩ | ⟨m, k1, k2⟩
    · exact .inl ((st.ow a).mpr ⟨i, c, l, k1, q2⟩)
    · exact .inr ((s2.ow a).mpr ⟨i, c, l, k1, by rw [k2]; exact q2⟩)
end

/-! ### [elt for target in iter if test] -/
def compGo (vs : List Nat) (gt : FG) (tt : FT) (el : FE) : List D → En → List D → Option (List D × En)
  | [], e, acc => some (acc, e)
  | d :: ds, e, acc => (gt d (wipeE e vs)).bind fun e1 => (tt e1).bind fun p => if p.1 = true then
      ((el p.2).bind fun r => (frz r.2 r.1).bind fun q => if acc.length < SZ then compGo vs gt tt el ds q.2 (acc ++ [q.1]) else none)
    else compGo vs gt tt el ds p.2 acc
def fComp (vs : List Nat) (it : FI) (gt : FG) (tt : FT) (el : FE) : FV := fun e => (it e).bind fun p => if freeB p.2 vs = true then
  (compGo vs gt tt el p.1 (wipeE p.2 vs) []).map fun q => (.fresh q.1, mergeE p.2 q.2 vs) else none
theorem wipeE_wipeE (e : En) (vs : List Nat) : wipeE (wipeE e vs) vs = wipeE e vs := by
  refine List.ext_getElem? fun i => ?_
  rw [wipeE_get, wipeE_get]
  split
  · cases e[i]? <;> rfl
  · rfl
theorem freeE_of {e e' : En} {vs : List Nat} (h : freeE e vs) (hp : e'.map Slot.pin = e.map Slot.pin) : freeE e' vs := fun v hv s hs => by
  have z : (e'.map Slot.pin)[v]? = some s.pin := by rw [List.getElem?_map, hs]; rfl
  rw [hp, List.getElem?_map] at z
  obtain ⟨t, h1, h2⟩ := Option.map_eq_some_iff.mp z
  rw [← h2]
  exact h v hv t h1
section
variable {K : PySem.W.Frag} {B : Bd} {w w' : Wd} {σ σ' : L2.St} {e e' : En}
/-- the new list stays as it is through what is reckoned -/
theorem held (le : Le w w') {Dd : Addr} {av : List V} {al : List D} (h1 : w.H Dd = some (.lst av)) (h2 : w.F Dd = none) (h3 : ¬ w.O Dd) (h4 : Da K w.F av al) : w'.H Dd = some (.lst av) ∧ w'.F Dd = none ∧ ¬ w'.O Dd ∧ Da K w'.F av al := by
  refine ⟨le.keep _ _ h1 h3, ?_, fun z => ?_, dqAll_same le.fz h4⟩
  · cases q : w'.F Dd with
    | none => rfl
    | some o =>
      rcases le.new _ o q with z | z | z
      · rw [z] at h2; cases h2
      · rw [z] at h1; cases h1
      · exact absurd z h3
  · rcases le.own _ z with z | z
    · exact h3 z
    · rw [z] at h1; cases h1
/-- the new list has an item more -/
theorem grow (st : Stt K B w σ e) {Dd : Addr} {av : List V} {ws : List V} (h1 : w.H Dd = some (.lst av)) (h2 : w.F Dd = none) (h3 : ¬ w.O Dd) : Stt K B ⟨w.F, upd w.H Dd (.lst ws), w.O⟩ σ e := by
  refine ⟨fun a o q => ?_, st.len, fun i s q => ?_, st.inj, st.ow, st.pin, st.pins, fun a q => st.dom a ?_, st.fr⟩
  · have q' : w.F a = some o := q
    have n : a ≠ Dd := fun z => by rw [z, h2] at q'; cases q'
    show upd w.H Dd (.lst ws) a = some o
    rw [upd_ne n]
    exact st.sub a o q'
  · have z := st.sl i s q
    cases s with
    | dead => trivial
    | val b d => exact z
    | own b l =>
      obtain ⟨a, us, k1, k2, k3, k4⟩ := z
      have n : a ≠ Dd := fun y => h3 (by rw [← y]; exact (st.ow a).mpr ⟨i, b, l, q, k1⟩)
      refine ⟨a, us, k1, ?_, k3, k4⟩
      show upd w.H Dd (.lst ws) a = some (.lst us)
      rw [upd_ne n]
      exact k2
  · have q' : upd w.H Dd (.lst ws) a = none := q
    by_cases c : a = Dd
    · subst c; rw [upd_same] at q'; cases q'
    · rw [upd_ne c] at q'; exact q'
theorem Le.grow {w0 : Wd} (le : Le w0 w) {Dd : Addr} {ws : List V} (h : w0.H Dd = none) : Le w0 ⟨w.F, upd w.H Dd (.lst ws), w.O⟩ := by
  refine ⟨le.fz, fun a o q n => ?_, le.new, le.own, fun a q => ?_⟩
  · show upd w.H Dd (.lst ws) a = some o
    rw [upd_ne (ne_of_none q h)]
    exact le.keep a o q n
  · have q' : upd w.H Dd (.lst ws) a = none := q
    by_cases c : a = Dd
    · subst c; rw [upd_same] at q'; cases q'
    · rw [upd_ne c] at q'; exact le.dom a q'
/-- slots that are no targets stay; so does what is left of them all -/
theorem wipe_eq {σ1 σ2 : L2.St} {vs : List Nat} (hl : σ2.length = σ1.length) (h : ∀ j, j ∉ vs → σ2[j]? = σ1[j]?) : wipe σ2 vs = wipe σ1 vs := by
  have key : ∀ (τ : L2.St) (us : List Nat) (i : Nat), (wipe τ us)[i]? = if i ∈ us then (τ[i]?.map fun _ => none) else τ[i]? := fun τ us => by
    induction us with
    | nil => intro i; simp [wipe]
    | cons v us ih =>
      intro i
      unfold wipe
      rw [get_set, wipe_length, ih i]
      by_cases c : v = i
      · subst c
        by_cases l : v < τ.length
        · rw [if_pos ⟨rfl, l⟩, if_pos List.mem_cons_self, List.getElem?_eq_getElem l]
          rfl
        · rw [if_neg fun z => l z.2, if_pos List.mem_cons_self, List.getElem?_eq_none (by omega)]
          split <;> rfl
      · rw [if_neg fun z => c z.1]
        by_cases m : i ∈ us
        · rw [if_pos m, if_pos (List.mem_cons_of_mem _ m)]
        · rw [if_neg m, if_neg fun z => (List.mem_cons.mp z).elim (fun y => c y.symm) m]
  refine List.ext_getElem? fun i => ?_
  rw [key, key]
  by_cases m : i ∈ vs
  · rw [if_pos m, if_pos m]
    rcases Nat.lt_or_ge i σ1.length with c | c
    · rw [List.getElem?_eq_getElem c, List.getElem?_eq_getElem (by omega)]
      rfl
    · rw [List.getElem?_eq_none c, List.getElem?_eq_none (by omega)]
  · rw [if_neg m, if_neg m, h i m]
end
theorem comp_run {K : PySem.W.Frag} {vs ts : List Nat} {it : FI} {gt : FG} {tt : FT} {el : FE} (hts : ∀ t ∈ ts, t ∈ vs) {σ : L2.St} {H : Hp} {Q : VK} (q : tV K (fComp vs it gt tt el) σ H Q) : tLc (tI K it) (tG K ts gt) (tT K tt) (tE K el) vs σ H Q := by
  obtain ⟨B, w, e, r, e', hH, st, hf, q⟩ := q
  obtain ⟨⟨ds, e1⟩, k1, k2⟩ := Option.bind_eq_some_iff.mp hf
  refine ⟨B, w, e, ds, e1, hH, st, k1, fun J w1 s1 l1 ok Dd nD => ?_⟩
  split at k2
  · rename_i hfree
    have hfree := freeE_B hfree
    obtain ⟨⟨out, eb⟩, k3, k4⟩ := Option.map_eq_some_iff.mp k2
    cases k4
    have nF1 := s1.nF nD
    have nO1 := s1.nO nD
    obtain ⟨b1, b2, b3⟩ := wipe_stt s1 hfree
    have hls : ∀ {τ : L2.St} {en : En} {w : Wd}, Stt K B w τ en → τ.length = σ.length := fun {τ en w} s => by
      have z1 := congrArg List.length s.pin
      have z2 := congrArg List.length s1.pin
      rw [List.length_map] at z1 z2
      have z3 := s.len
      have z4 := s1.len
      omega
    -- behind i turns
    refine ⟨fun i m H => m + i = ds.length ∧ ∃ w τ en acc av, w.H = H ∧ Stt K B w τ en ∧ (∀ j, j ∉ vs → τ[j]? = σ[j]?) ∧ Le ⟨w1.F, w1.H, ownO (wipe σ vs) (wipeE e1 vs)⟩ w ∧ w.H Dd = some (.lst av) ∧ w.F Dd = none ∧ ¬ w.O Dd ∧ Da K w.F av acc ∧
      compGo vs gt tt el (ds.drop i) en acc = some (out, eb), ⟨ds.length, by simp, ⟨w1.F, upd w1.H Dd (.lst []), ownO (wipe σ vs) (wipeE e1 vs)⟩, wipe σ vs, wipeE e1 vs, [], [], rfl, (b1.addL (o := .lst []) nD).2, fun j hj => wipe_get σ vs j hj, (b1.addL (o := .lst []) nD).1,
        upd_same, nF1, fun z => nO1 (b3 _ z), .nil, by rw [List.drop_zero]; exact k3⟩, ?_⟩
    rintro i m H ⟨hm, w, τ, en, acc, av, hH, st, hτ, le, h1, h2, h3, h4, hg⟩
    have sF : Same w1.F w.F := le.fz
    have sH : Same w1.F H := by rw [← hH]; exact sF.trans st.sub
    by_cases hlt : i < ds.length
    · obtain ⟨d, hd⟩ : ∃ d, ds[i]? = some d := ⟨_, List.getElem?_eq_getElem hlt⟩
      have e0 : ds.drop i = d :: ds.drop (i + 1) := by
        rw [List.drop_eq_getElem_cons hlt]
        congr 1
        rw [List.getElem?_eq_getElem hlt] at hd
        exact Option.some.inj hd
      rw [e0] at hg
      obtain ⟨e2, j1, j2⟩ := Option.bind_eq_some_iff.mp hg
      obtain ⟨⟨bb, e3⟩, j3, j4⟩ := Option.bind_eq_some_iff.mp j2
      refine .inr ⟨ok.go i H sH hlt, fun H' => (m - 1) + (i + 1) = ds.length ∧ ∃ w τ en acc av, w.H = H' ∧ Stt K B w τ en ∧ (∀ j, j ∉ vs → τ[j]? = σ[j]?) ∧ Le ⟨w1.F, w1.H, ownO (wipe σ vs) (wipeE e1 vs)⟩ w ∧ w.H Dd = some (.lst av) ∧ w.F Dd = none ∧ ¬ w.O Dd ∧ Da K w.F av acc ∧
        compGo vs gt tt el (ds.drop (i + 1)) en acc = some (out, eb), fun H' z => ⟨m - 1, by omega, z⟩, fun x H' y => ?_⟩
      obtain ⟨w2, g2, s2, l2, dd⟩ : ∃ w2, w2.H = H' ∧ Stt K B w2 τ en ∧ Le w w2 ∧ Dq K w2.F x d := by
        rcases ok.yld i H x H' d sH hd y with ⟨a1, a2⟩ | ⟨p, o, a1, a2, a3⟩
        · exact ⟨w, by rw [a1]; exact hH, st, Le.refl w, dq_same sF a2⟩
        · obtain ⟨c1, c2, c3⟩ := st.add (o := o) (p := p) (by rw [hH]; exact a1)
          exact ⟨w.add p o, by rw [a2, ← hH]; rfl, c2, c1, a3 _ (sF.trans c1.fz) c3⟩
      have hfe : freeE en vs := freeE_of hfree (by rw [st.pin, s1.pin])
      obtain ⟨c1, c2, c3⟩ := wipe_stt s2 hfe
      have ew : wipe τ vs = wipe σ vs := wipe_eq (hls st) hτ
      rw [ew] at c1 c2
      refine ⟨B, ⟨w2.F, w2.H, ownO (wipe σ vs) (wipeE en vs)⟩, wipeE en vs, d, e2, g2, c1, dd, j1, fun σ3 w3 s3 l3 hσ => ?_⟩
      have hσ3 : ∀ j, j ∉ vs → σ3[j]? = σ[j]? := fun j hj => by
        rw [hσ j fun z => hj (hts j z), wipe_get σ vs j hj]
      refine ⟨wipe_eq (hls s3) hσ3, B, w3, e2, bb, e3, rfl, s3, j3, fun w4 s4 l4 => ?_⟩
      have lw4 : Le w w4 := ((l2.trans c2).trans l3).trans l4
      cases bb with
      | false =>
        obtain ⟨z1, z2, z3, z4⟩ := held lw4 h1 h2 h3 h4
        exact ⟨by omega, w4, σ3, e3, acc, av, rfl, s4, hσ3, le.trans lw4, z1, z2, z3, z4, j4⟩
      | true =>
        obtain ⟨⟨r5, e5⟩, j5, j6⟩ := Option.bind_eq_some_iff.mp (show ((el e3).bind _) = some (out, eb) from j4)
        obtain ⟨⟨d6, e6⟩, j7, j8⟩ := Option.bind_eq_some_iff.mp j6
        split at j8
        · rename_i hsz
          refine ⟨B, w4, e3, r5, e5, rfl, s4, j5, fun v w5 s5 l5 p5 => ?_⟩
          obtain ⟨w6, m1, s6, l6, dq6⟩ := frz_ok s5 j7 p5
          have lw6 : Le w w6 := (lw4.trans l5).trans l6
          obtain ⟨z1, z2, z3, z4⟩ := held lw6 h1 h2 h3 h4
          refine ⟨av, by rw [← m1]; exact z1, sz_lt (by rw [da_len h4]; exact hsz), by omega, ⟨w6.F, upd w6.H Dd (.lst (av ++ [v])), w6.O⟩, σ3, e6, acc ++ [d6], av ++ [v], by rw [← m1], grow s6 z1 z2 z3, hσ3,
            (le.trans lw6).grow (by show w1.H Dd = none; exact nD), upd_same, z2, z3, da_append z4 (.cons dq6 .nil), j8⟩
        · cases j8
    · have e0 : i = ds.length := by omega
      subst e0
      rw [List.drop_length] at hg
      have e1' : (acc, en) = (out, eb) := Option.some.inj hg
      cases e1'
      refine .inl ⟨ok.stop H sH, ?_⟩
      obtain ⟨m1, m2, m3⟩ := merge_stt s1 le st hτ
      rw [← hH]
      refine q (.ref Dd) ⟨w.F, w.H, ownO σ (mergeE e1 eb vs)⟩ m1 (l1.trans m2) ⟨Dd, av, rfl, h1, h2, fun z => ?_, l1.dom Dd nD, h4⟩
      rcases m3 Dd z with z | z
      · exact nO1 z
      · exact h3 z
  · cases k2
section
variable {X : Cx} {elt tg iter : Expr} {ifs : List Expr} {scope : Scope} {own : List (Str × Nat)} {pos : Pos} {it : FI} {ts : List Nat} {gt : FG} {tt : FT} {el : FE}
theorem d_comp (hc : X.calm = true) (hN : X.N.Nodup) (hi : PI X tg iter (tI X.K it)) (ok : BlkOk X.N X.env.scope scope own) (hts : ∀ t ∈ ts, t ∈ own.map (·.2))
    (hg : ∀ (s : Shared) (H : Hp) (C : Addr) (cl : List (Str × Addr)) (fp : List Addr), PG (X.blk s H scope (compEnvC scope cl C X.env) fp) tg (tG X.K ts gt)) (ht : ∀ (s : Shared) (H : Hp) (C : Addr) (cl : List (Str × Addr)) (fp : List Addr), PTs (X.blk s H scope (compEnvC scope cl C X.env) fp) ifs (tT X.K tt))
    (he : ∀ (s : Shared) (H : Hp) (C : Addr) (cl : List (Str × Addr)) (fp : List Addr), PE (X.blk s H scope (compEnvC scope cl C X.env) fp) elt (tE X.K el)) (hs : ∀ x, foldedSetIterable iter X.env x = pure x := by intro _; rfl) :
    PE X (.ListComp elt [⟨tg, iter, ifs, 0⟩] scope pos) (tV X.K (fComp (own.map (·.2)) it gt tt el)) := pe_imp (pe_lc hc hN hi ok hg ht he hs) fun _ _ _ q => comp_run hts q
/-- name = [..] -/
theorem s_setComp {i : Nat} {y : Str} {py spos : Pos} (hc : X.calm = true) (hN : X.N.Nodup) (hy : X.N[i]? = some y) (hyl : X.env.scope.names.lookup y = some .local) (hsw : swapsWith (.ListComp elt [⟨tg, iter, ifs, 0⟩] scope pos) (some (.Name y py)) spos.line X.env = pure true)
    (hi : PI X tg iter (tI X.K it)) (ok : BlkOk X.N X.env.scope scope own) (hts : ∀ t ∈ ts, t ∈ own.map (·.2))
    (hg : ∀ (s : Shared) (H : Hp) (C : Addr) (cl : List (Str × Addr)) (fp : List Addr), PG (X.blk s H scope (compEnvC scope cl C X.env) fp) tg (tG X.K ts gt)) (ht : ∀ (s : Shared) (H : Hp) (C : Addr) (cl : List (Str × Addr)) (fp : List Addr), PTs (X.blk s H scope (compEnvC scope cl C X.env) fp) ifs (tT X.K tt))
    (he : ∀ (s : Shared) (H : Hp) (C : Addr) (cl : List (Str × Addr)) (fp : List Addr), PE (X.blk s H scope (compEnvC scope cl C X.env) fp) elt (tE X.K el)) (hs : ∀ x, foldedSetIterable iter X.env x = pure x := by intro _; rfl) :
    PS X (.Assign [.Name y py] (.ListComp elt [⟨tg, iter, ifs, 0⟩] scope pos) spos) (tS X.K (sSet i (fComp (own.map (·.2)) it gt tt el))) := by
  refine ps_imp (ps_setLc hc hN hy hyl hsw hi ok hg ht he hs) fun D σ H ⟨B, w, e, fl, hH, st, hg, q⟩ => ?_
  obtain ⟨⟨r, e1⟩, k1, k2⟩ := Option.bind_eq_some_iff.mp hg
  obtain ⟨e2, k3, k4⟩ := Option.map_eq_some_iff.mp k2
  subst k4
  obtain ⟨o, k5, k6, k7⟩ := put_some k3
  subst k7
  refine comp_run (Q := fun v H1 => D.nx (σ.set i (some v)) H1) hts ⟨B, w, e, r, e1, hH, st, k1, fun v w1 s1 l1 ok => ?_⟩
  obtain ⟨j1, j2⟩ := set_stt s1 l1 ok (fun a z => st.dom a z) k5 k6
  exact q _ ⟨w1.F, w1.H, ownO (σ.set i (some v)) (e1.set i (setR r))⟩ j1 j2
def gYes : FT := fun e => some (true, e)
theorem ts_nil : PTs X [] (tT X.K gYes) := by
  refine ⟨fun pins s σ H Q I h => pts_nil.run pins s σ H Q I ?_⟩
  obtain ⟨B, w, e, b, e', hH, st, hf, q⟩ := h
  cases hf
  subst hH
  exact q w st (Le.refl w)
theorem ts_one {c : Expr} (h : PT X c (tT X.K tt)) : PTs X [c] (tT X.K tt) := pts_one h
end
end DL

set_option Elab.async false
set_option linter.all false
set_option maxRecDepth 100000
set_option maxHeartbeats 2000000
/-! DL12: methods of own lists, stores into them, list(range). -/
namespace DL
open PySem PySem.Spec PyProof.Rows L2
section
variable {K : PySem.W.Frag} {B : Bd} {w w' : Wd} {σ σ' : L2.St} {e e' : En}
/-- a slot's own list becomes another one -/
theorem own_stt (st : Stt K B w σ e) {i : Nat} {b : Bool} {l l' : List D} {a : Addr} {vs ws : List V} (hi : e[i]? = some (Slot.own b l)) (ha : σ[i]? = some (some (.ref a))) (hd : Da K w.F ws l') :
    Stt K B ⟨w.F, upd w.H a (.lst ws), w.O⟩ σ (e.set i (.own b l')) ∧ Le w ⟨w.F, upd w.H a (.lst ws), w.O⟩ := by
  obtain ⟨a', us, h1, h2, h3, h4, h5⟩ := st.own_at hi
  rw [ha] at h1
  cases h1
  have hl := lt_of_get hi
  have nF : ∀ {x : Addr} {o : HO}, w.F x = some o → x ≠ a := fun {x o} q z => by rw [z, h3] at q; cases q
  have own_at : ∀ {j : Nat} {c : Bool} {m : List D}, (e.set i (.own b l'))[j]? = some (Slot.own c m) → ∃ m', e[j]? = some (Slot.own c m') := fun {j c m} q => by
    rw [get_set] at q
    by_cases z : i = j
    · subst z
      rw [if_pos ⟨rfl, hl⟩] at q
      cases q
      exact ⟨l, hi⟩
    · rw [if_neg fun y => z y.1] at q
      exact ⟨m, q⟩
  have own_to : ∀ {j : Nat} {c : Bool} {m : List D}, e[j]? = some (Slot.own c m) → ∃ m', (e.set i (.own b l'))[j]? = some (Slot.own c m') := fun {j c m} q => by
    rw [get_set]
    by_cases z : i = j
    · subst z
      rw [hi] at q
      cases q
      exact ⟨l', if_pos ⟨rfl, hl⟩⟩
    · exact ⟨m, by rw [if_neg fun y => z y.1]; exact q⟩
  refine ⟨⟨fun x o q => ?_, by rw [List.length_set]; exact st.len, fun j s q => ?_, fun j k c m c' m' q1 q2 q3 => ?_, fun x => ⟨fun q => ?_, fun ⟨j, c, m, q1, q2⟩ => ?_⟩, ?_, st.pins, fun x q => st.dom x ?_, fun j m x q1 q2 => ?_⟩,
    ⟨Same.refl _, fun x o q n => ?_, fun x o q => .inl q, fun x q => .inl q, fun x q => ?_⟩⟩
  · have q' : w.F x = some o := q
    show upd w.H a (.lst ws) x = some o
    rw [upd_ne (nF q')]
    exact st.sub x o q'
  · rw [get_set] at q
    by_cases z : i = j
    · subst z
      rw [if_pos ⟨rfl, hl⟩] at q
      cases q
      exact ⟨a, ws, ha, upd_same, h3, hd⟩
    · rw [if_neg fun y => z y.1] at q
      have k := st.sl j s q
      cases s with
      | dead => trivial
      | val c d => exact k
      | own c m =>
        obtain ⟨x, xs, k1, k2, k3, k4⟩ := k
        refine ⟨x, xs, k1, ?_, k3, k4⟩
        show upd w.H a (.lst ws) x = some (.lst xs)
        rw [upd_ne (fun y => z (st.inj i j _ _ _ _ hi q (by rw [ha, k1, y])))]
        exact k2
  · obtain ⟨m1, k1⟩ := own_at q1
    obtain ⟨m2, k2⟩ := own_at q2
    exact st.inj j k _ _ _ _ k1 k2 q3
  · obtain ⟨j, c, m, k1, k2⟩ := (st.ow x).mp q
    obtain ⟨m', k3⟩ := own_to k1
    exact ⟨j, c, m', k3, k2⟩
  · obtain ⟨m', k1⟩ := own_at q1
    exact (st.ow x).mpr ⟨j, c, m', k1, q2⟩
  · rw [← st.pin, List.map_set]
    refine List.ext_getElem? fun k => ?_
    rw [get_set]
    split
    · rename_i q
      rw [← q.1, List.getElem?_map, hi]
      rfl
    · rfl
  · have q' : upd w.H a (.lst ws) x = none := q
    by_cases c : x = a
    · subst c; rw [upd_same] at q'; cases q'
    · rw [upd_ne c] at q'; exact q'
  · obtain ⟨m', k1⟩ := own_at q1
    exact st.fr j m' x k1 q2
  · show upd w.H a (.lst ws) x = some o
    rw [upd_ne (fun z => n (by rw [z]; exact h5))]
    exact q
  · have q' : upd w.H a (.lst ws) x = none := q
    by_cases c : x = a
    · subst c; rw [upd_same] at q'; cases q'
    · rw [upd_ne c] at q'; exact q'
end
section
variable {X : Cx} {a x : Expr} {f : FE} {y : Str} {i : Nat} {p apos cpos : Pos}
/-- xs.append(e), xs a slot's own list -/
def fAppend (i : Nat) (f : FE) : FV := fun e => match e[i]? with
  | some (.own _ _) => (f e).bind fun p => (frz p.2 p.1).bind fun q => match q.2[i]? with
    | some (.own b l) => if l.length < SZ then some (.val .none, q.2.set i (.own b (l ++ [q.1]))) else none
    | _ => none
  | _ => none
theorem d_append (hv : PE X (.Name y p) (tVar i)) (ha : PE X a (tE X.K f)) (hbase : attributeBase (.Name y p) "append" X.env (eval (.Name y p) X.env) = eval (.Name y p) X.env := by rfl)
    (hfew : ((backTo cpos (starEach [a] X.env)).all (fun x => !x.1) && (backToKw cpos (keywordEach [] X.env)).all (fun x => x.1.isSome) && decide ([a].length + ([] : List Keyword).length + (if ([] : List Keyword).isEmpty then 0 else 1) < 30)) = true := by rfl)
    (hline : (apos.endLine == cpos.line) = true := by rfl) (hs : starEach [a] X.env = (false, eval a X.env) :: starEach [] X.env := by rfl) (hplain : (backTo cpos (starEach [] X.env)).any (·.1) = false := by rfl) :
    PE X (.Call (.Attribute (.Name y p) "append" apos) [a] [] cpos) (tV X.K (fAppend i f)) := by
  refine pe_imp (pe_bm PySem.F.plainAttrs_list PySem.F.slot_list_append PySem.F.type_list_append mt_append hv (pa_cons ha pa_nil hs) hbase hfew hline hs hplain) fun σ H Q ⟨B, w, e, r, e', hH, st, hf, q⟩ => ?_
  subst hH
  unfold fAppend at hf
  cases hs0 : e[i]? with
  | none => simp only [hs0] at hf; cases hf
  | some s =>
    simp only [hs0] at hf
    cases s <;> try cases hf
    rename_i b0 l0
    obtain ⟨a0, us0, k1, k2, k3, k4, k5⟩ := st.own_at hs0
    refine ⟨.ref a0, k1, .inl ⟨rfl, us0, .inl (.inl k2)⟩, ?_⟩
    obtain ⟨⟨r1, e1⟩, j1, j2⟩ := Option.bind_eq_some_iff.mp hf
    obtain ⟨⟨d, e2⟩, j3, j4⟩ := Option.bind_eq_some_iff.mp j2
    refine ⟨B, w, e, r1, e1, rfl, st, j1, fun v w1 s1 l1 p1 => ?_⟩
    obtain ⟨w2, m1, s2, l2, dq⟩ := frz_ok s1 j3 p1
    show rAppend (.ref a0) [v] w1.H Q
    rw [← m1]
    cases hs2 : e2[i]? with
    | none => simp only [hs2] at j4; cases j4
    | some s =>
      simp only [hs2] at j4
      cases s <;> try cases j4
      rename_i b l
      have j5 : (if l.length < SZ then some (Res.val .none, e2.set i (.own b (l ++ [d]))) else none) = some (r, e') := j4
      split at j5
      · rename_i hz
        cases j5
        obtain ⟨a2, us, n1, n2, n3, n4, n5⟩ := s2.own_at hs2
        rw [k1] at n1
        cases n1
        refine ⟨a0, us, v, rfl, rfl, n2, sz_lt (by rw [da_len n4]; exact hz), ?_⟩
        obtain ⟨o1, o2⟩ := own_stt (vs := us) (ws := us ++ [v]) (l' := l ++ [d]) s2 hs2 k1 (da_append n4 (.cons dq .nil))
        exact q .non ⟨w2.F, upd w2.H a0 (.lst (us ++ [v])), w2.O⟩ o1 ((l1.trans l2).trans o2) Dq.non
      · cases j5
/-- xs.pop() -/
def fPop (i : Nat) : FV := fun e => match e[i]? with
  | some (.own b l) => (l[l.length - 1]?).map fun d => (.val d, e.set i (.own b l.dropLast))
  | _ => none
theorem d_pop (hv : PE X (.Name y p) (tVar i)) (hbase : attributeBase (.Name y p) "pop" X.env (eval (.Name y p) X.env) = eval (.Name y p) X.env := by rfl) (hline : (apos.endLine == cpos.line) = true := by rfl) :
    PE X (.Call (.Attribute (.Name y p) "pop" apos) [] [] cpos) (tV X.K (fPop i)) := by
  refine pe_imp (pe_bm0 PySem.F.plainAttrs_list PySem.F.slot_list_pop PySem.F.type_list_pop mt_pop hv hbase hline) fun σ H Q ⟨B, w, e, r, e', hH, st, hf, q⟩ => ?_
  subst hH
  unfold fPop at hf
  cases hs0 : e[i]? with
  | none => simp only [hs0] at hf; cases hf
  | some s =>
    simp only [hs0] at hf
    cases s <;> try cases hf
    rename_i b l
    obtain ⟨d, j1, j2⟩ := Option.map_eq_some_iff.mp hf
    cases j2
    obtain ⟨a0, us, k1, k2, k3, k4, k5⟩ := st.own_at hs0
    obtain ⟨v, m1, m2⟩ := da_get k4 j1
    refine ⟨.ref a0, k1, .inl ⟨rfl, us, .inl (.inl k2)⟩, a0, us, v, rfl, rfl, k2, by rw [da_len k4]; exact m1, ?_⟩
    obtain ⟨o1, o2⟩ := own_stt (vs := us) (ws := us.dropLast) (l' := l.dropLast) st hs0 k1 (da_dropLast k4)
    exact q v ⟨w.F, upd w.H a0 (.lst us.dropLast), w.O⟩ o1 o2 m2
/-- xs[k] = e -/
def sSetIx (i : Nat) (fi : FE) (f : FV) : FS := fun e => (f e).bind fun p => match p.1 with
  | .val d => match p.2[i]? with
    | some (.own _ _) => (fi p.2).bind fun q => match look q.2 q.1 with
      | some (.int k) => match q.2[i]? with
        | some (.own b l) => (ixN l.length k).map fun j => .next (q.2.set i (.own b (l.set j d)))
        | _ => none
      | _ => none
    | _ => none
  | _ => none
theorem s_setIx {fi : FE} {fv : FV} {ix e : Expr} {spos tpos : Pos} (hv : PE X (.Name y p) (tVar i)) (hi : PE X ix (tE X.K fi)) (he : PE X e (tV X.K fv))
    (ha : ∀ v, assign (.Subscript (.Name y p) ix tpos) X.env v = (do
      let ov ← holding [v] (eval (.Name y p) X.env)
      let iv ← holding [v, ov] (eval ix X.env)
      standAt tpos
      holding [v, ov, iv] (setItem ov iv v)
      release [v, ov, iv] []) := by intro _; rfl)
    (hs : swapsWithSole [.Subscript (.Name y p) ix tpos] e spos.line X.env = pure false := by rfl) (hw : swappedStores [.Subscript (.Name y p) ix tpos] e X.env = pure none := by rfl)
    (h1 : (assignEach [.Subscript (.Name y p) ix tpos] X.env).map (·.2) = [assign (.Subscript (.Name y p) ix tpos) X.env] := by rfl) :
    PS X (.Assign [.Subscript (.Name y p) ix tpos] e spos) (tS X.K (sSetIx i fi fv)) := by
  refine ps_imp (ps_asg he (pg_sub hv hi set_list ha) hs hw h1) fun D σ H ⟨B, w, e, fl, hH, st, hf, q⟩ => ?_
  obtain ⟨⟨r, e1⟩, k1, k2⟩ := Option.bind_eq_some_iff.mp hf
  refine ⟨B, w, e, r, e1, hH, st, k1, fun v w1 s1 l1 ok => ?_⟩
  cases r with
  | fresh l => cases k2
  | val d =>
    simp only at k2
    cases hs0 : e1[i]? with
    | none => simp only [hs0] at k2; cases k2
    | some s =>
      simp only [hs0] at k2
      cases s <;> try cases k2
      rename_i b0 l0
      obtain ⟨a0, us0, z1, z2, z3, z4, z5⟩ := s1.own_at hs0
      refine ⟨.ref a0, z1, ?_⟩
      obtain ⟨⟨r2, e2⟩, j1, j2⟩ := Option.bind_eq_some_iff.mp k2
      refine ⟨B, w1, e1, r2, e2, rfl, s1, j1, fun vi w2 s2 l2 p2 => ?_⟩
      cases hl : look e2 r2 with
      | none => simp only [hl] at j2; cases j2
      | some di =>
        simp only [hl] at j2
        cases di <;> try cases j2
        rename_i k
        have ti := look_ok s2 hl p2
        cases hs2 : e2[i]? with
        | none => simp only [hs2] at j2; cases j2
        | some s =>
          simp only [hs2] at j2
          cases s <;> try cases j2
          rename_i b l
          obtain ⟨j, m1, m2⟩ := Option.map_eq_some_iff.mp j2
          subst m2
          obtain ⟨a2, us, n1, n2, n3, n4, n5⟩ := s2.own_at hs2
          rw [z1] at n1
          cases n1
          refine ⟨a0, us, k, j, rfl, ti.int, n2, by rw [da_len n4]; exact m1, ?_⟩
          have ok' : Dq X.K w2.F v d := dq_same l2.fz ok
          obtain ⟨o1, o2⟩ := own_stt (vs := us) (ws := us.set j v) (l' := l.set j d) s2 hs2 z1 (da_set ok' j n4)
          exact q σ ⟨w2.F, upd w2.H a0 (.lst (us.set j v)), w2.O⟩ o1 ((l1.trans l2).trans o2)
end

/-! ### list(range(..)) -/
def fLstR (g : FI) : FV := fun e => (g e).bind fun p => if p.1.length ≤ SZ then some (.fresh p.1, p.2) else none
theorem rgV_D (K : PySem.W.Frag) (F : Hp) (a b : Int) : Da K F (rgV a b) (rangeD a (b - a).toNat) := by
  unfold rgV rangeD
  generalize List.range (b - a).toNat = l
  induction l with
  | nil => exact .nil
  | cons i l ih => exact .cons (Dq.int _) ih
section
variable {X : Cx} {a b : Expr} {fa fb : FE} {p pos p2 pos2 : Pos}
theorem d_lstR1 (hc : X.calm = true) (hg : Gl X "list") (hm : X.mg "list" = none) (hg' : Gl X "range") (hm' : X.mg "range" = none) (ha : PE X a (tE X.K fa)) (na : starEach [a] X.env = (false, eval a X.env) :: starEach [] X.env := by rfl)
    (nb : starEach [.Call (.Name "range" p2) [a] [] pos2] X.env = (false, eval (.Call (.Name "range" p2) [a] [] pos2) X.env) :: starEach [] X.env := by rfl) :
    PE X (.Call (.Name "list" p) [.Call (.Name "range" p2) [a] [] pos2] [] pos) (tV X.K (fLstR (iR1 (fCons fa fNil)))) := by
  refine pe_imp (pe_listRg hc hg hm (prg_1 hg' hm' ha na) nb) fun σ H Q ⟨B, w, e, r, e', hH, st, hf, q⟩ => ?_
  obtain ⟨⟨ds, e1⟩, k1, k2⟩ := Option.bind_eq_some_iff.mp hf
  obtain ⟨⟨rs, e2⟩, k3, k4⟩ := Option.bind_eq_some_iff.mp k1
  obtain ⟨⟨r1, e3⟩, k5, k6⟩ := Option.bind_eq_some_iff.mp k3
  have k6' : ([r1], e3) = (rs, e2) := Option.some.inj k6
  cases k6'
  refine ⟨B, w, e, r1, e2, hH, st, k5, fun v w1 s1 l1 p1 => ?_⟩
  cases hl : look e2 r1 with
  | none =>
    have z : looks e2 [r1] = none := by simp [looks, hl]
    simp only [z] at k4
    cases k4
  | some d =>
    have z : looks e2 [r1] = some [d] := by simp [looks, hl]
    simp only [z] at k4
    cases d <;> try cases k4
    rename_i j
    have t := look_ok s1 hl p1
    have k4' : (if smallI j then some (rangeD 0 j.toNat, e2) else none) = some (ds, e1) := k4
    split at k4'
    · rename_i hb
      cases k4'
      have k2' : (if (rangeD 0 j.toNat).length ≤ SZ then some (Res.fresh (rangeD 0 j.toNat), e1) else none) = some (r, e') := k2
      split at k2'
      · rename_i hz
        cases k2'
        have hz' : j.toNat ≤ 16777216 := by simpa [rangeD] using hz
        refine ⟨j, t.int, ⟨by omega, by omega, hb.1, hb.2, by omega⟩, fun c nc => ?_⟩
        have dd := rgV_D X.K w1.F 0 j
        rw [Int.sub_zero] at dd
        exact res_lst s1 dd (fun v w2 s2 l2 ok => q v w2 s2 (l1.trans l2) (ok.mono fun a z => l1.dom a z)) c nc
      · cases k2'
    · cases k4'
theorem d_lstR2 (hc : X.calm = true) (hg : Gl X "list") (hm : X.mg "list" = none) (hg' : Gl X "range") (hm' : X.mg "range" = none) (ha : PE X a (tE X.K fa)) (hb : PE X b (tE X.K fb)) (na : starEach [a, b] X.env = (false, eval a X.env) :: starEach [b] X.env := by rfl)
    (nb : starEach [b] X.env = (false, eval b X.env) :: starEach [] X.env := by rfl) (hp : (backTo pos2 (starEach [b] X.env)).any (·.1) = false := by rfl)
    (nc : starEach [.Call (.Name "range" p2) [a, b] [] pos2] X.env = (false, eval (.Call (.Name "range" p2) [a, b] [] pos2) X.env) :: starEach [] X.env := by rfl) :
    PE X (.Call (.Name "list" p) [.Call (.Name "range" p2) [a, b] [] pos2] [] pos) (tV X.K (fLstR (iR2 (fCons fa (fCons fb fNil))))) := by
  refine pe_imp (pe_listRg hc hg hm (prg_2 hg' hm' ha hb na nb hp) nc) fun σ H Q ⟨B, w, e, r, e', hH, st, hf, q⟩ => ?_
  obtain ⟨⟨ds, e1⟩, k1, k2⟩ := Option.bind_eq_some_iff.mp hf
  obtain ⟨⟨rs, e2⟩, k3, k4⟩ := Option.bind_eq_some_iff.mp k1
  obtain ⟨⟨r1, e3⟩, k5, k6⟩ := Option.bind_eq_some_iff.mp k3
  obtain ⟨⟨rs', e5⟩, k7, k8⟩ := Option.map_eq_some_iff.mp k6
  obtain ⟨⟨r2, e4⟩, k9, k10⟩ := Option.bind_eq_some_iff.mp k7
  have k10' : ([r2], e4) = (rs', e5) := Option.some.inj k10
  cases k10'
  cases k8
  refine ⟨B, w, e, r1, e3, hH, st, k5, fun v w1 s1 l1 p1 => ?_⟩
  refine ⟨B, w1, e3, r2, e5, rfl, s1, k9, fun v2 w2 s2 l2 p2 => ?_⟩
  cases hl : look e5 r1 with
  | none =>
    have z : looks e5 [r1, r2] = none := by simp [looks, hl]
    simp only [z] at k4
    cases k4
  | some d =>
    cases hl2 : look e5 r2 with
    | none =>
      have z : looks e5 [r1, r2] = none := by simp [looks, hl, hl2]
      simp only [z] at k4
      cases k4
    | some d2 =>
      have z : looks e5 [r1, r2] = some [d, d2] := by simp [looks, hl, hl2]
      simp only [z] at k4
      cases d <;> try cases k4
      cases d2 <;> try cases k4
      rename_i i j
      have t1 := look_ok s2 hl (p1.later l2)
      have t2 := look_ok s2 hl2 p2
      have k4' : (if smallI i ∧ smallI j then some (rangeD i (j - i).toNat, e5) else none) = some (ds, e1) := k4
      split at k4'
      · rename_i hb
        cases k4'
        have k2' : (if (rangeD i (j - i).toNat).length ≤ SZ then some (Res.fresh (rangeD i (j - i).toNat), e1) else none) = some (r, e') := k2
        split at k2'
        · rename_i hz
          cases k2'
          have hz' : (j - i).toNat ≤ 16777216 := by simpa [rangeD] using hz
          refine ⟨i, j, t1.int, t2.int, ⟨hb.1.1, hb.1.2, hb.2.1, hb.2.2, by omega⟩, fun c nc => ?_⟩
          have l12 := l1.trans l2
          exact res_lst s2 (rgV_D X.K w2.F i j) (fun v w3 s3 l3 ok => q v w3 s3 (l12.trans l3) (ok.mono fun a z => l12.dom a z)) c nc
        · cases k2'
      · cases k4'
end
end DL

set_option Elab.async false
set_option linter.all false
set_option maxRecDepth 100000
set_option maxHeartbeats 2000000
/-! DL13: the law's end. -/
namespace DL
open PySem PySem.Spec PyProof.Rows L2
theorem da_of_ints (K : PySem.W.Frag) (H : Hp) : ∀ ns : List Int, Da K H (ns.map V.int) (ns.map PyData.int)
  | [] => .nil
  | n :: ns => .cons (.int n) (da_of_ints K H ns)
/-- the law's mirror answers True, so its promise is kept -/
theorem law_sp {K : PySem.W.Frag} {m : Fn} {ns : List Int} {outs : List Slot} {H : Hp} {a : Addr} (h : m [.val false (.list (ns.map PyData.int))] = some (.val (.bool true), outs)) (hl : LstAt K H a (ns.map V.int)) : spD K 1 m [.ref a] H (fun v _ => v = .bl true) fun _ _ _ => False := by
  refine ⟨⟨H, H, fun _ => False⟩, _, _, outs, rfl, rfl, ⟨Same.refl _, rfl, fun i s q => ?g1, fun i j b l b' l' q => ?g2, fun x => ⟨fun z => z.elim, fun ⟨i, b, l, q, _⟩ => ?g3⟩, rfl, fun _ _ => rfl, fun _ q => q, fun i l x q => ?g4⟩, h, fun v w' _ _ ok => ?g5⟩
  case g1 =>
    cases i with
    | zero =>
      have e : s = .val false (.list (ns.map PyData.int)) := (Option.some.inj q).symm
      subst e
      exact ⟨.ref a, rfl, .lst hl (da_of_ints K _ ns)⟩
    | succ i => cases i <;> cases q
  case g2 =>
    cases i with
    | zero => cases q
    | succ i => cases i <;> cases q
  case g3 =>
    cases i with
    | zero => cases q
    | succ i => cases i <;> cases q
  case g4 =>
    cases i with
    | zero => cases q
    | succ i => cases i <;> cases q
  case g5 =>
    have z : Dq K w'.F v (.bool true) := ok
    cases z
    rfl
theorem walk_ofD {l : PySem.W.OpenLaw} {n k : Nat} {q : Program} {loose : List Str} {XP : (Str → Option Value) → Heap → Prop} {YP : World → Heap → Prop} {d : DefRec} {x : Str}
    (hn : l.most = some n) (hn2 : n ≤ sizeLine) (hdf : d.params.defaults = []) (hr : Room k callerA)
    (F : ∀ (w : World) (mg : Str → Option Value) (fa : Addr) (h : Heap), YP w h → h.Ns mainGlobals mg → mg d.name = some (.ref fa) →
      ∃ (K : PySem.W.Frag) (fd : FuncData) (m : Fn), K.In h ∧ (∀ (s : Shared) (u : Value), BindsTo s fd ⟨[u], []⟩ [(x, u)]) ∧
        (∀ ns : List Int, ns.length ≤ n → ∃ outs, m [.val false (.list (ns.map PyData.int))] = some (.val (.bool true), outs)) ∧
        ∀ base : Heap, K.In base → base.Ns mainGlobals mg → FnOk l.prog w K mg base CX0 k fa fd [x] (spD K 1 m)) :
    PySem.W.WalkO q loose XP YP l.row.toRowW d [] (fun f vs => PySem.call f vs) := by
  refine Att.attach_call hn hdf fun w s₀ s₁ mg mb fa o pm cd doc a vs ns G Y ho hd hcd hmg hobj hints hlen hg => ?_
  obtain ⟨K, fd, m, KX, hb, hm, hF⟩ := F w mg fa _ Y G.T.g hmg
  obtain ⟨outs, ht⟩ := hm ns hlen
  refine law_call KX G.T.g G.T.b G.T.builtins G.T.nolimit hg hobj hints (Nat.le_trans hlen hn2) hr hF hb (fun H hO hS => law_sp ht ?_) fun H e s' h => h
  rcases hS with hS | ⟨ob, its, c, h1, h2, h3, h4, h5, h6⟩
  · exact .inl hS
  · have e := KX a ob h1
    rw [hobj] at e
    cases e
    have e2 : (Data.seq vs.toArray 0) = Data.seq its c := h4
    injection e2 with e3 e4
    subst e3 e4
    exact .inr ⟨_, _, h1, h5, h6⟩
end DL

set_option Elab.async false
set_option linter.all false
set_option maxRecDepth 100000
set_option maxHeartbeats 2000000
/-! DL14: the mirrors read by what they answer. -/
namespace DL
open PySem PySem.Spec PyProof.Rows L2
/-- the mirror answers, and P holds of the answer -/
def Ok {α : Type} (x : Option α) (P : α → Prop) : Prop := ∃ a, x = some a ∧ P a
/-- two ways -/
def Br (b : Bool) (A B : Prop) : Prop := (b = true → A) ∧ (b = false → B)
theorem br_true {A B : Prop} (h : A) : Br true A B := ⟨fun _ => h, fun z => nomatch z⟩
theorem br_false {A B : Prop} (h : B) : Br false A B := ⟨fun z => (nomatch z), fun _ => h⟩
theorem br_yes {b : Bool} {A B : Prop} (h : b = true) (k : A) : Br b A B := ⟨fun _ => k, fun z => by rw [h] at z; cases z⟩
theorem br_no {b : Bool} {A B : Prop} (h : b = false) (k : B) : Br b A B := ⟨fun z => (by rw [h] at z; cases z), fun _ => k⟩
/-- a bool of the data -/
def IsB (d : D) (C : Bool → Prop) : Prop := ∃ b, d = .bool b ∧ C b
theorem isB {b : Bool} {C : Bool → Prop} (h : C b) : IsB (.bool b) C := ⟨b, rfl, h⟩
def IsBr (r : Res) (C : Bool → Prop) : Prop := ∃ b, r = .val (.bool b) ∧ C b
theorem isBr {b : Bool} {C : Bool → Prop} (h : C b) : IsBr (.val (.bool b)) C := ⟨b, rfl, h⟩
theorem ok_rfl {α : Type} {x : Option α} {a : α} {P : α → Prop} (h : x = some a) (k : P a) : Ok x P := ⟨a, h, k⟩
theorem ok_of {α : Type} {x : Option α} {P Q : α → Prop} (h : Ok x P) (k : ∀ a, P a → Q a) : Ok x Q := by
  obtain ⟨a, h1, h2⟩ := h
  exact ⟨a, h1, k a h2⟩
theorem ok_some {α : Type} {a : α} {P : α → Prop} (k : P a) : Ok (some a) P := ⟨a, rfl, k⟩
theorem ok_bindI {α β : Type} {x : Option β} {f : β → Option α} {P : α → Prop} (h : Ok x fun b => Ok (f b) P) : Ok (x.bind f) P := by
  obtain ⟨b, rfl, h⟩ := h
  exact h
theorem ok_mapI {α β : Type} {x : Option β} {f : β → α} {P : α → Prop} (h : Ok x fun b => P (f b)) : Ok (x.map f) P := by
  obtain ⟨b, rfl, h⟩ := h
  exact ⟨_, rfl, h⟩
theorem ok_iteI {α : Type} {c : Prop} [Decidable c] {x : Option α} {y : Option α} {P : α → Prop} (hc : c) (h : Ok x P) : Ok (if c then x else y) P := by
  rw [if_pos hc]
  exact h

/-- a reading answers r, the frame is e then -/
def Ev {α : Type} (x : Option (α × En)) (P : α → En → Prop) : Prop := ∃ a e, x = some (a, e) ∧ P a e
theorem ev_rfl {α : Type} {x : Option (α × En)} {a : α} {e : En} {P : α → En → Prop} (h : x = some (a, e)) (k : P a e) : Ev x P := ⟨a, e, h, k⟩
theorem ev_of {α : Type} {x : Option (α × En)} {P Q : α → En → Prop} (h : Ev x P) (k : ∀ a e, P a e → Q a e) : Ev x Q := by
  obtain ⟨a, e, h1, h2⟩ := h
  exact ⟨a, e, h1, k a e h2⟩
theorem ev_ok {α : Type} {x : Option (α × En)} {P : α → En → Prop} (h : Ev x P) : Ok x fun p => P p.1 p.2 := by
  obtain ⟨a, e, h1, h2⟩ := h
  exact ⟨_, h1, h2⟩
theorem ok_ev {α : Type} {x : Option (α × En)} {P : α → En → Prop} (h : Ok x fun p => P p.1 p.2) : Ev x P := by
  obtain ⟨⟨a, e⟩, h1, h2⟩ := h
  exact ⟨_, _, h1, h2⟩
theorem ev_eq {α : Type} {x : Option (α × En)} {P : α → En → Prop} (h : Ev x P) : ∃ a e, x = some (a, e) ∧ P a e := h
theorem ev_bind {α β : Type} {x : Option (β × En)} {f : β × En → Option (α × En)} {P : α → En → Prop} (h : Ev x fun b e => Ev (f (b, e)) P) : Ev (x.bind f) P := by
  obtain ⟨b, e, rfl, h⟩ := h
  exact h
theorem evO_bind {α β : Type} {x : Option β} {f : β → Option (α × En)} {P : α → En → Prop} (h : Ok x fun b => Ev (f b) P) : Ev (x.bind f) P := by
  obtain ⟨b, rfl, h⟩ := h
  exact h
theorem okE_bind {α β : Type} {x : Option (β × En)} {f : β × En → Option α} {P : α → Prop} (h : Ev x fun b e => Ok (f (b, e)) P) : Ok (x.bind f) P := by
  obtain ⟨b, e, rfl, h⟩ := h
  exact h
theorem ev_map {α β : Type} {x : Option (β × En)} {f : β × En → α × En} {P : α → En → Prop} (h : Ev x fun b e => P (f (b, e)).1 (f (b, e)).2) : Ev (x.map f) P := by
  obtain ⟨b, e, rfl, h⟩ := h
  exact ⟨_, _, rfl, h⟩
theorem evO_map {α β : Type} {x : Option β} {f : β → α × En} {P : α → En → Prop} (h : Ok x fun b => P (f b).1 (f b).2) : Ev (x.map f) P := by
  obtain ⟨b, rfl, h⟩ := h
  exact ⟨_, _, rfl, h⟩
theorem okE_map {α β : Type} {x : Option (β × En)} {f : β × En → α} {P : α → Prop} (h : Ev x fun b e => P (f (b, e))) : Ok (x.map f) P := by
  obtain ⟨b, e, rfl, h⟩ := h
  exact ⟨_, rfl, h⟩
theorem ev_some {α : Type} {a : α} {e : En} {P : α → En → Prop} (k : P a e) : Ev (some (a, e)) P := ⟨a, e, rfl, k⟩
@[reducible] def resR : Res → R
  | .val d => .val d
  | .fresh l => .val (.list l)
section
variable {e : En} {f g h : FE} {op op' : D → D → Option Res}
variable {P1 : R → En → Prop} {P2 : Res → En → Prop} {P3 : Bool → En → Prop} {P4 : List R → En → Prop} {P5 : Fl → Prop} {P6 : Option Int → En → Prop} {P7 : List D → En → Prop}
theorem ok_look {r : R} {d : D} {P : D → Prop} (h : look e r = some d) (k : P d) : Ok (look e r) P := ok_rfl h k
theorem ok_looks {r : List R} {d : List D} {P : List D → Prop} (h : looks e r = some d) (k : P d) : Ok (looks e r) P := ok_rfl h k
theorem ok_frz {r : R} {d : D} {e' : En} {P : D → En → Prop} (h : frz e r = some (d, e')) (k : P d e') : Ev (frz e r) P := ev_rfl h k
theorem ok_frzs {r : List R} {d : List D} {e' : En} {P : List D → En → Prop} (h : frzs e r = some (d, e')) (k : P d e') : Ev (frzs e r) P := ev_rfl h k
theorem ok_lent {r : List R} {d : List Slot} {P : List Slot → Prop} (h : lent e r = some d) (k : P d) : Ok (lent e r) P := ok_rfl h k
theorem ok_back {r : List R} {o : List Slot} {d : En} {P : En → Prop} (h : back e r o = some d) (k : P d) : Ok (back e r o) P := ok_rfl h k
theorem ok_put {i : Nat} {s : Slot} {d : En} {P : En → Prop} (h : putV i s e = some d) (k : P d) : Ok (putV i s e) P := ok_rfl h k
theorem ok_tgt {gt : FG} {x : D} {d : En} {P : En → Prop} (h : gt x e = some d) (k : P d) : Ok (gt x e) P := ok_rfl h k
theorem ok_var {i : Nat} {r : R} {e' : En} (h : fVar i e = some (r, e')) (k : P1 r e') : Ev (fVar i e) P1 := ev_rfl h k
theorem ok_cst {d : D} (k : P1 (.val d) e) : Ev (fCst d e) P1 := ev_some k
theorem ok_toE {f : FV} (k : Ev (f e) fun r e => P1 (resR r) e) : Ev (toE f e) P1 := ev_map (ev_of k fun r e h => by cases r <;> exact h)
theorem ok_toV (k : Ev (f e) fun r e => Ev (frz e r) fun d e => P2 (.val d) e) : Ev (toV f e) P2 := ev_bind (ev_of k fun _ _ z => ev_map z)
theorem ok_bin (k : Ev (f e) fun r e => Ev (g e) fun s e => Ok (look e r) fun a => Ok (look e s) fun b => Ok (op a b) fun z => P2 z e) : Ev (fBin op f g e) P2 :=
  ev_bind (ev_of k fun _ _ z => ev_bind (ev_of z fun _ _ z => evO_bind (ok_of z fun _ z => evO_bind (ok_of z fun _ z => evO_map z))))
theorem ok_and (k : Ev (f e) fun r e => Ok (look e r) fun d => IsB d fun b => Br b (Ev (g e) P1) (P1 (.val (.bool false)) e)) : Ev (fAnd f g e) P1 := by
  refine ev_bind (ev_of k fun p e ⟨d, h1, b, h2, h3, h4⟩ => ?_)
  subst h2
  simp only [h1]
  cases b with
  | true => exact h3 rfl
  | false => exact ev_some (h4 rfl)
theorem ok_or (k : Ev (f e) fun r e => Ok (look e r) fun d => IsB d fun b => Br b (P1 (.val (.bool true)) e) (Ev (g e) P1)) : Ev (fOr f g e) P1 := by
  refine ev_bind (ev_of k fun p e ⟨d, h1, b, h2, h3, h4⟩ => ?_)
  subst h2
  simp only [h1]
  cases b with
  | true => exact ev_some (h3 rfl)
  | false => exact h4 rfl
theorem ok_not (k : Ev (f e) fun r e => Ok (look e r) fun d => IsB d fun b => P2 (.val (.bool (!b))) e) : Ev (fNot f e) P2 := by
  refine ev_bind (ev_of k fun p e ⟨d, h1, b, h2, h3⟩ => ?_)
  subst h2
  simp only [h1]
  exact ev_some h3
def IsI (d : D) (C : Int → Prop) : Prop := ∃ i, d = .int i ∧ C i
theorem isI {i : Int} {C : Int → Prop} (h : C i) : IsI (.int i) C := ⟨i, rfl, h⟩
theorem ok_neg (k : Ev (f e) fun r e => Ok (look e r) fun d => IsI d fun i => P2 (.val (.int (-i))) e) : Ev (fNeg f e) P2 := by
  refine ev_bind (ev_of k fun p e ⟨d, h1, b, h2, h3⟩ => ?_)
  subst h2
  simp only [h1]
  exact ev_some h3
theorem ok_testV {f : FV} (k : Ev (f e) fun r e => IsBr r fun b => P3 b e) : Ev (fTestV f e) P3 := by
  refine ev_bind (ev_of k fun p e ⟨b, h1, h2⟩ => ?_)
  simp only [h1]
  exact ev_some h2
theorem ok_truth (k : Ev (f e) fun r e => Ok (look e r) fun d => Ok (truthD d) fun b => P3 b e) : Ev (fTruth f e) P3 := ev_bind (ev_of k fun _ _ z => evO_bind (ok_of z fun _ z => evO_map z))
theorem ok_truthD {d : D} {b : Bool} {P : Bool → Prop} (h : truthD d = some b) (k : P b) : Ok (truthD d) P := ok_rfl h k
section
variable {s t : FT}
theorem ok_gAnd (k : Ev (s e) fun b e => Br b (Ev (t e) P3) (P3 false e)) : Ev (gAnd s t e) P3 := by
  refine ev_bind (ev_of k fun p e ⟨h3, h4⟩ => ?_)
  cases p with
  | true => exact h3 rfl
  | false => exact ev_some (h4 rfl)
theorem ok_gOr (k : Ev (s e) fun b e => Br b (P3 true e) (Ev (t e) P3)) : Ev (gOr s t e) P3 := by
  refine ev_bind (ev_of k fun p e ⟨h3, h4⟩ => ?_)
  cases p with
  | true => exact ev_some (h3 rfl)
  | false => exact h4 rfl
theorem ok_gNot (k : Ev (s e) fun b e => P3 (!b) e) : Ev (gNot s e) P3 := ev_map k
theorem ok_gYes (k : P3 true e) : Ev (gYes e) P3 := ev_some k
theorem ok_if (k : Ev (s e) fun b e => Br b (Ev (f e) P1) (Ev (g e) P1)) : Ev (fIf s f g e) P1 := by
  refine ev_bind (ev_of k fun p e ⟨h3, h4⟩ => ?_)
  cases p with
  | true => exact h3 rfl
  | false => exact h4 rfl
theorem ok_sIf {u v : FS} (k : Ev (s e) fun b e => Br b (Ok (u e) P5) (Ok (v e) P5)) : Ok (sIf s u v e) P5 := by
  refine okE_bind (ev_of k fun p e ⟨h3, h4⟩ => ?_)
  cases p with
  | true => exact h3 rfl
  | false => exact h4 rfl
end
theorem ok_chain (k : Ev (f e) fun r1 e => Ev (g e) fun r2 e => Ok (look e r1) fun a => Ok (look e r2) fun b => Ok (op a b) fun r => IsBr r fun c =>
    Br c (Ev (h e) fun r3 e => Ok (look e r2) fun b => Ok (look e r3) fun c => Ok (op' b c) fun z => P2 z e) (P2 (.val (.bool false)) e)) : Ev (fChain op op' f g h e) P2 := by
  refine ev_bind (ev_of k fun _ _ z => ev_bind (ev_of z fun _ _ z => evO_bind (ok_of z fun _ z => evO_bind (ok_of z fun _ z => ?_))))
  obtain ⟨r, h1, b, h2, h3, h4⟩ := z
  subst h2
  simp only [h1]
  cases b with
  | true => exact ev_bind (ev_of (h3 rfl) fun _ _ z => evO_bind (ok_of z fun _ z => evO_bind (ok_of z fun _ z => evO_map z)))
  | false => exact ev_some (h4 rfl)
theorem ok_nil (k : P4 [] e) : Ev (fNil e) P4 := ev_some k
theorem ok_cons {g : FA} (k : Ev (f e) fun r e => Ev (g e) fun rs e => P4 (r :: rs) e) : Ev (fCons f g e) P4 := ev_bind (ev_of k fun _ _ z => ev_map z)
theorem ok_okLen {n : Nat} {r : Res} {P : Res → Prop} (h : n ≤ SZ) (k : P r) : Ok (okLen n r) P := ⟨r, by unfold okLen; rw [if_pos h], k⟩
theorem ok_tup {g : FA} (k : Ev (g e) fun rs e => Ev (frzs e rs) fun ds e => Ok (okLen ds.length (.val (.tuple ds))) fun r => P2 r e) : Ev (fTup g e) P2 := ev_bind (ev_of k fun _ _ z => ev_bind (ev_of z fun _ _ z => evO_map z))
theorem ok_lst {g : FA} (k : Ev (g e) fun rs e => Ev (frzs e rs) fun ds e => Ok (okLen ds.length (.fresh ds)) fun r => P2 r e) : Ev (fLst g e) P2 := ev_bind (ev_of k fun _ _ z => ev_bind (ev_of z fun _ _ z => evO_map z))
theorem ok_no (k : P6 none e) : Ev (fNo e) P6 := ev_some k
theorem ok_at (k : Ev (f e) fun r e => Ok (look e r) fun d => IsI d fun i => P6 (some i) e) : Ev (fAt f e) P6 := by
  refine ev_bind (ev_of k fun p e ⟨d, h1, b, h2, h3⟩ => ?_)
  subst h2
  simp only [h1]
  exact ev_some h3
theorem ok_fCut {g h : FO} (k : Ev (f e) fun r e => Ev (g e) fun lo e => Ev (h e) fun hi e => Ok (look e r) fun a => Ok (sCut a lo hi) fun z => P2 z e) : Ev (fCut f g h e) P2 :=
  ev_bind (ev_of k fun _ _ z => ev_bind (ev_of z fun _ _ z => ev_bind (ev_of z fun _ _ z => evO_bind (ok_of z fun _ z => evO_map z))))
theorem ok_cutL {a : List D} {lo hi : Option Int} {P : Res → Prop} (k : P (.fresh (cutD a lo hi))) : Ok (sCut (.list a) lo hi) P := ok_rfl rfl k
theorem ok_cutT {a : List D} {lo hi : Option Int} {P : Res → Prop} (k : P (.val (.tuple (cutD a lo hi)))) : Ok (sCut (.tuple a) lo hi) P := ok_rfl rfl k
theorem ok_un {op : D → Option Res} (k : Ev (f e) fun r e => Ok (look e r) fun a => Ok (op a) fun z => P2 z e) : Ev (fUn op f e) P2 := ev_bind (ev_of k fun _ _ z => evO_bind (ok_of z fun _ z => evO_map z))
theorem ok_blt {op : List D → Option Res} {g : FA} (k : Ev (g e) fun rs e => Ok (looks e rs) fun ds => Ok (op ds) fun z => P2 z e) : Ev (fBlt op g e) P2 := ev_bind (ev_of k fun _ _ z => evO_bind (ok_of z fun _ z => evO_map z))
theorem ok_isi {ts : List Ty} (k : Ev (f e) fun r e => Ok (look e r) fun d => P2 (.val (.bool (ts.any fun t => isTy d t))) e) : Ev (fIsi ts f e) P2 := ev_bind (ev_of k fun _ _ z => evO_map z)
theorem ok_call {m : Fn} {g : FA} (k : Ev (g e) fun rs e => Ok (lent e rs) fun as => Ev (m as) fun z os => Ok (back e rs os) fun e' => P2 z e') : Ev (fCall m g e) P2 :=
  ev_bind (ev_of k fun _ _ z => evO_bind (ok_of z fun _ z => ev_bind (ev_of z fun _ _ z => evO_map z)))
/-- how a def ends -/
def FnEnd (as : List Slot) (P : Res → List Slot → Prop) : Fl → Prop
  | .ret r e => P r (fixO as e)
  | .next e => P (.val .none) (fixO as e)
  | _ => False
theorem ok_fn {n : Nat} {g : FS} {as : List Slot} {P : Res → List Slot → Prop} (k : Ok (g (as ++ List.replicate (n - as.length) .dead)) (FnEnd as P)) : Ev (mkFn n g as) P := by
  obtain ⟨fl, h1, h2⟩ := k
  unfold mkFn
  rw [h1]
  cases fl with
  | ret r e => exact ev_some h2
  | next e => exact ev_some h2
  | brk e => exact h2.elim
  | cont e => exact h2.elim
theorem fnEnd_ret {as o : List Slot} {P : Res → List Slot → Prop} {r : Res} {e : En} (h : fixO as e = o) (k : P r o) : FnEnd as P (.ret r e) := by subst h; exact k
theorem fnEnd_next {as o : List Slot} {P : Res → List Slot → Prop} {e : En} (h : fixO as e = o) (k : P (.val .none) o) : FnEnd as P (.next e) := by subst h; exact k
/-- what follows -/
def Then (h : FS) (P : Fl → Prop) : Fl → Prop
  | .next e => Ok (h e) P
  | fl => P fl
theorem then_next {h : FS} (k : Ok (h e) P5) : Then h P5 (.next e) := k
theorem then_ret {h : FS} {r : Res} (k : P5 (.ret r e)) : Then h P5 (.ret r e) := k
theorem then_cont {h : FS} (k : P5 (.cont e)) : Then h P5 (.cont e) := k
theorem then_brk {h : FS} (k : P5 (.brk e)) : Then h P5 (.brk e) := k
theorem ok_seq {u v : FS} (k : Ok (u e) (Then v P5)) : Ok (sSeq u v e) P5 := by
  refine ok_bindI (ok_of k fun fl z => ?_)
  cases fl with
  | next e => exact z
  | ret r e => exact ok_some z
  | brk e => exact ok_some z
  | cont e => exact ok_some z
theorem ok_next (k : P5 (.next e)) : Ok (sNext e) P5 := ok_some k
theorem ok_sBrk (k : P5 (.brk e)) : Ok (sBrk e) P5 := ok_some k
theorem ok_sCont (k : P5 (.cont e)) : Ok (sCont e) P5 := ok_some k
theorem ok_expr {f : FV} (k : Ev (f e) fun r e => P5 (.next e)) : Ok (sExpr f e) P5 := okE_map k
theorem ok_ret {f : FV} (k : Ev (f e) fun r e => P5 (.ret r e)) : Ok (sRet f e) P5 := okE_map k
theorem ok_set {i : Nat} {f : FV} (k : Ev (f e) fun r e => Ok (putV i (setR r) e) fun e => P5 (.next e)) : Ok (sSet i f e) P5 := okE_bind (ev_of k fun _ _ z => ok_mapI z)
def IsV (r : Res) (C : D → Prop) : Prop := ∃ d, r = .val d ∧ C d
theorem isV {d : D} {C : D → Prop} (h : C d) : IsV (.val d) C := ⟨d, rfl, h⟩
theorem ok_asg {gt : FG} {f : FV} (k : Ev (f e) fun r e => IsV r fun d => Ok (gt d e) fun e => P5 (.next e)) : Ok (sAsg gt f e) P5 := by
  refine okE_bind (ev_of k fun p e ⟨d, h1, h2⟩ => ?_)
  simp only [h1]
  exact ok_mapI h2
theorem ok_par {i j : Nat} {f f2 : FV} (k : Ev (f e) fun r e => Ev (f2 e) fun s e => Ok (putV i (setR r) e) fun e => Ok (putV j (setR s) e) fun e => P5 (.next e)) : Ok (sPar i j f f2 e) P5 :=
  okE_bind (ev_of k fun _ _ z => okE_bind (ev_of z fun _ _ z => ok_bindI (ok_of z fun _ z => ok_mapI z)))
/-- an own list stands at i -/
def IsO (e : En) (i : Nat) (C : Bool → List D → Prop) : Prop := ∃ b l, e[i]? = some (.own b l) ∧ C b l
theorem isO {i : Nat} {b : Bool} {l : List D} {C : Bool → List D → Prop} (h : e[i]? = some (.own b l)) (k : C b l) : IsO e i C := ⟨b, l, h, k⟩
def SetE (e : En) (i : Nat) (s : Slot) (C : En → Prop) : Prop := C (e.set i s)
theorem setE {i : Nat} {s : Slot} {e' : En} {C : En → Prop} (h : e.set i s = e') (k : C e') : SetE e i s C := by subst h; exact k
theorem ok_append {i : Nat} (k : IsO e i fun _ _ => Ev (f e) fun r e => Ev (frz e r) fun d e => IsO e i fun b l => l.length < SZ ∧ SetE e i (.own b (l ++ [d])) fun e => P2 (.val .none) e) : Ev (fAppend i f e) P2 := by
  obtain ⟨b, l, h, k⟩ := k
  unfold fAppend
  rw [h]
  refine ev_bind (ev_of k fun _ _ z => ev_bind (ev_of z fun q e ⟨b, l, h1, h2, h3⟩ => ?_))
  simp only [h1, if_pos h2]
  exact ev_some h3
theorem ok_pop {i : Nat} (k : IsO e i fun b l => Ok (l[l.length - 1]?) fun d => SetE e i (.own b l.dropLast) fun e => P2 (.val d) e) : Ev (fPop i e) P2 := by
  obtain ⟨b, l, h, k⟩ := k
  unfold fPop
  simp only [h]
  exact evO_map k
theorem ok_setIx {i : Nat} {fi : FE} {f : FV} (k : Ev (f e) fun r e => IsV r fun d => IsO e i fun _ _ => Ev (fi e) fun r e => Ok (look e r) fun c => IsI c fun k => IsO e i fun b l => Ok (ixN l.length k) fun j => SetE e i (.own b (l.set j d)) fun e => P5 (.next e)) : Ok (sSetIx i fi f e) P5 := by
  refine okE_bind (ev_of k fun p e ⟨d, h1, b, l, h2, h3⟩ => ?_)
  simp only [h1, h2]
  refine okE_bind (ev_of h3 fun q e ⟨c, h4, k, h5, b, l, h6, h7⟩ => ?_)
  subst h5
  simp only [h4, h6]
  exact ok_mapI h7
theorem ok_lstR {g : FI} (k : Ev (g e) fun l e => l.length ≤ SZ ∧ P2 (.fresh l) e) : Ev (fLstR g e) P2 := by
  refine ev_bind (ev_of k fun p e ⟨h1, h2⟩ => ?_)
  rw [if_pos h1]
  exact ev_some h2

/-! ### iterables -/
theorem ok_seqOf {d : D} {l : List D} {P : List D → Prop} (h : seqOf d = some l) (k : P l) : Ok (seqOf d) P := ok_rfl h k
theorem ok_iSq (k : Ev (f e) fun r e => Ev (frz e r) fun d e => Ok (seqOf d) fun l => P7 l e) : Ev (iSq f e) P7 := ev_bind (ev_of k fun _ _ z => ev_bind (ev_of z fun _ _ z => evO_map z))
theorem ok_iEn (k : Ev (iSq f e) fun l e => P7 (enumD l) e) : Ev (iEn f e) P7 := ev_map k
def IsR1 (ds : List D) (C : Int → Prop) : Prop := ∃ j, ds = [.int j] ∧ C j
def IsR2 (ds : List D) (C : Int → Int → Prop) : Prop := ∃ i j, ds = [.int i, .int j] ∧ C i j
theorem isR1 {i : Int} {C : Int → Prop} (h : C i) : IsR1 [.int i] C := ⟨i, rfl, h⟩
theorem isR2 {i j : Int} {C : Int → Int → Prop} (h : C i j) : IsR2 [.int i, .int j] C := ⟨i, j, rfl, h⟩
theorem ok_iR1 {g : FA} (k : Ev (g e) fun rs e => Ok (looks e rs) fun ds => IsR1 ds fun j => smallI j ∧ P7 (rangeD 0 j.toNat) e) : Ev (iR1 g e) P7 := by
  refine ev_bind (ev_of k fun p e ⟨ds, h1, j, h2, h3, h4⟩ => ?_)
  subst h2
  simp only [h1, if_pos h3]
  exact ev_some h4
theorem ok_iR2 {g : FA} (k : Ev (g e) fun rs e => Ok (looks e rs) fun ds => IsR2 ds fun i j => (smallI i ∧ smallI j) ∧ P7 (rangeD i (j - i).toNat) e) : Ev (iR2 g e) P7 := by
  refine ev_bind (ev_of k fun p e ⟨ds, h1, i, j, h2, h3, h5⟩ => ?_)
  subst h2
  simp only [h1, if_pos h3]
  exact ev_some h5
def IsZ (ds : List D) (C : List D → List D → Prop) : Prop := ∃ a b, (ds = [.list a, .list b] ∨ ds = [.tuple a, .tuple b]) ∧ C a b
theorem isZL {a b : List D} {C : List D → List D → Prop} (h : C a b) : IsZ [.list a, .list b] C := ⟨a, b, .inl rfl, h⟩
theorem isZT {a b : List D} {C : List D → List D → Prop} (h : C a b) : IsZ [.tuple a, .tuple b] C := ⟨a, b, .inr rfl, h⟩
theorem ok_iZp {g : FA} (k : Ev (g e) fun rs e => Ev (frzs e rs) fun ds e => IsZ ds fun a b => P7 (zipD a b) e) : Ev (iZp g e) P7 := by
  refine ev_bind (ev_of k fun p e z => ev_bind (ev_of z fun ds e ⟨a, b, h1, h2⟩ => ?_))
  rcases h1 with h1 | h1
  · subst h1; exact ev_some h2
  · subst h1; exact ev_some h2
end

/-! ### loops -/
section
variable {e : En} {P5 : Fl → Prop} {gt : FG} {g : FS}
theorem ok_for {it : FI} (k : Ev (it e) fun l e => Ok (sForGo gt g l e) P5) : Ok (sFor it gt g e) P5 := okE_bind k
/-- how a turn of a loop ends -/
def Turn (J : En → Prop) (P : Fl → Prop) : Fl → Prop
  | .next e => J e
  | .cont e => J e
  | .brk e => P (.next e)
  | .ret r e => P (.ret r e)
theorem turn_next {J : En → Prop} (k : J e) : Turn J P5 (.next e) := k
theorem turn_cont {J : En → Prop} (k : J e) : Turn J P5 (.cont e) := k
theorem turn_brk {J : En → Prop} (k : P5 (.next e)) : Turn J P5 (.brk e) := k
theorem turn_ret {J : En → Prop} {r : Res} (k : P5 (.ret r e)) : Turn J P5 (.ret r e) := k
theorem ok_forD : ∀ {ds : List D} {I : Nat → En → Prop} {e : En}, I 0 e →
    (∀ k d e, ds[k]? = some d → I k e → Ok (gt d e) fun e1 => Ok (g e1) (Turn (I (k + 1)) P5)) → (∀ e, I ds.length e → P5 (.next e)) → Ok (sForGo gt g ds e) P5
  | [], I, e, h0, _, fin => ok_some (fin e h0)
  | d :: ds, I, e, h0, st, fin => by
    refine ok_bindI (ok_of (st 0 d e rfl h0) fun e1 z => ok_bindI (ok_of z fun fl z => ?_))
    have rest : ∀ e2, I 1 e2 → Ok (sForGo gt g ds e2) P5 := fun e2 h2 => ok_forD (I := fun k => I (k + 1)) h2 (fun k d e hd hi => st (k + 1) d e (by simpa using hd) hi) fin
    cases fl with
    | next e2 => exact rest e2 z
    | cont e2 => exact rest e2 z
    | brk e2 => exact ok_some z
    | ret r e2 => exact ok_some z
/-- over the images of xs; the state is carried along -/
theorem ok_forX {α : Type} {en : α → D} {xs : List α} (I : Nat → En → Prop) (h0 : I 0 e)
    (st : ∀ k x e, xs[k]? = some x → I k e → Ok (gt (en x) e) fun e1 => Ok (g e1) (Turn (I (k + 1)) P5)) (fin : ∀ e, I xs.length e → P5 (.next e)) : Ok (sForGo gt g (xs.map en) e) P5 := by
  refine ok_forD (I := I) h0 (fun k d e hd hi => ?_) (fun e h => fin e (by simpa using h))
  rw [List.getElem?_map] at hd
  obtain ⟨x, h1, h2⟩ := Option.map_eq_some_iff.mp hd
  subst h2
  exact st k x e h1 hi
theorem ok_whileN {t : FT} : ∀ {N n : Nat} (I : Nat → En → Prop) {e : En}, I n e → n < N →
    (∀ n e, I n e → Ev (t e) fun b e => Br b (Ok (g e) (Turn (fun e2 => ∃ m, m < n ∧ I m e2) P5)) (P5 (.next e))) → Ok (sWhile t g N e) P5
  | 0, n, I, e, _, hn, _ => absurd hn (Nat.not_lt_zero _)
  | N + 1, n, I, e, hi, hn, st => by
    refine okE_bind (ev_of (st n e hi) fun p e1 ⟨h1, h2⟩ => ?_)
    cases p with
    | true =>
      refine ok_bindI (ok_of (h1 rfl) fun fl z => ?_)
      have rest : ∀ e2, (∃ m, m < n ∧ I m e2) → Ok (sWhile t g N e2) P5 := fun e2 ⟨m, hm, h⟩ => ok_whileN I h (by omega) st
      cases fl with
      | next e2 => exact rest e2 z
      | cont e2 => exact rest e2 z
      | brk e2 => exact ok_some z
      | ret r e2 => exact ok_some z
    | false => exact ok_some (h2 rfl)
end

/-! ### comprehensions -/
section
variable {e : En} {P2 : Res → En → Prop} {gt : FG} {tt : FT} {el : FE} {vs : List Nat}
def SameE (a b : En) (C : En → Prop) : Prop := C a
theorem ok_comp {it : FI} (k : Ev (it e) fun l e => freeB e vs = true ∧ Ev (compGo vs gt tt el l (wipeE e vs) []) fun r e1 => P2 (.fresh r) (mergeE e e1 vs)) : Ev (fComp vs it gt tt el e) P2 := by
  refine ev_bind (ev_of k fun p e ⟨h1, h2⟩ => ?_)
  rw [if_pos h1]
  exact ev_map h2
theorem ok_compD {P : List D → En → Prop} : ∀ {ds : List D} (I : Nat → En → List D → Prop) {e : En} {acc : List D}, I 0 e acc →
    (∀ k d e acc, ds[k]? = some d → I k e acc → Ok (gt d (wipeE e vs)) fun e => Ev (tt e) fun b e => Br b (Ev (el e) fun r e => Ev (frz e r) fun d e => acc.length < SZ ∧ I (k + 1) e (acc ++ [d])) (I (k + 1) e acc)) →
    (∀ e acc, I ds.length e acc → P acc e) → Ev (compGo vs gt tt el ds e acc) P
  | [], I, e, acc, h0, _, fin => ev_some (fin e acc h0)
  | d :: ds, I, e, acc, h0, st, fin => by
    refine evO_bind (ok_of (st 0 d e acc rfl h0) fun e1 z => ev_bind (ev_of z fun p e ⟨h1, h2⟩ => ?_))
    have rest : ∀ e2 acc, I 1 e2 acc → Ev (compGo vs gt tt el ds e2 acc) P := fun e2 acc h2 => ok_compD (fun k => I (k + 1)) h2 (fun k d e acc hd hi => st (k + 1) d e acc (by simpa using hd) hi) fin
    cases p with
    | true =>
      refine ev_bind (ev_of (h1 rfl) fun r e z => ev_bind (ev_of z fun q e ⟨h3, h4⟩ => ?_))
      rw [if_pos h3]
      exact rest _ _ h4
    | false => exact rest _ _ (h2 rfl)
/-- the block leaves the frame as it was: what it yields is a filtered map -/
theorem ok_compF {α : Type} {en : α → D} {xs : List α} {P : List D → En → Prop} {e0 : En} (F : α → Option D) (hl : xs.length ≤ SZ) (h0 : wipeE e vs = e0)
    (st : ∀ x, x ∈ xs → Ok (gt (en x) e0) fun e => Ev (tt e) fun b e => Br b (Ev (el e) fun r e => Ev (frz e r) fun d e => F x = some d ∧ wipeE e vs = e0) (F x = none ∧ wipeE e vs = e0))
    (fin : ∀ e2, wipeE e2 vs = e0 → P (xs.filterMap F) e2) : Ev (compGo vs gt tt el (xs.map en) e []) P := by
  refine ok_compD (fun k e acc => wipeE e vs = e0 ∧ acc = (xs.take k).filterMap F) ⟨h0, by simp⟩ (fun k d e acc hd ⟨h1, h2⟩ => ?_) fun e acc ⟨h1, h2⟩ => ?_
  · rw [List.getElem?_map] at hd
    obtain ⟨x, h3, h4⟩ := Option.map_eq_some_iff.mp hd
    subst h4
    rw [h1]
    obtain ⟨hk, _⟩ := List.getElem?_eq_some_iff.mp h3
    have ht : xs.take (k + 1) = xs.take k ++ [x] := by
      rw [List.take_add_one, h3]
      rfl
    refine ok_of (st x (List.mem_of_getElem? h3)) fun e1 z => ev_of z fun p e ⟨h5, h6⟩ => ⟨fun c => ev_of (h5 c) fun r e z => ev_of z fun q e ⟨h7, h8⟩ => ⟨?_, h8, ?_⟩, fun c => ⟨(h6 c).2, ?_⟩⟩
    · subst h2
      have := List.length_filterMap_le F (xs.take k)
      have : (xs.take k).length < SZ := by rw [List.length_take]; omega
      omega
    · rw [ht, List.filterMap_append, h2]
      simp [h7]
    · rw [ht, List.filterMap_append, h2]
      simp [(h6 c).1]
  · have e3 : acc = xs.filterMap F := by
      rw [h2, List.length_map, List.take_length]
    subst e3
    exact fin e h1
theorem ok_compM {α : Type} {en : α → D} {xs : List α} {P : List D → En → Prop} {e0 : En} (F : α → D) (hl : xs.length ≤ SZ) (h0 : wipeE e vs = e0)
    (st : ∀ x, x ∈ xs → Ok (gt (en x) e0) fun e => Ev (tt e) fun b e => Br b (Ev (el e) fun r e => Ev (frz e r) fun d e => F x = d ∧ wipeE e vs = e0) False)
    (fin : ∀ e2, wipeE e2 vs = e0 → P (xs.map F) e2) : Ev (compGo vs gt tt el (xs.map en) e []) P := by
  refine ok_compF (F := fun x => some (F x)) hl h0 (fun x hx => ok_of (st x hx) fun e1 z => ev_of z fun p e ⟨h1, h2⟩ => ⟨fun c => ev_of (h1 c) fun r e z => ev_of z fun q e ⟨h3, h4⟩ => ⟨by rw [h3], h4⟩, fun c => (h2 c).elim⟩) fun e2 h2 => ?_
  have := fin e2 h2
  rwa [← List.filterMap_eq_map] at this
/-- behind a block that left the frame as it was -/
theorem merge_back (e : En) : ∀ {vs : List Nat} {e1 : En}, wipeE e1 vs = wipeE e vs → mergeE e e1 vs = e := by
  intro vs e1 h
  refine List.ext_getElem? fun i => ?_
  have h1 : (wipeE e1 vs)[i]? = (wipeE e vs)[i]? := by rw [h]
  have h2 : e1.length = e.length := by
    have := congrArg List.length h
    rwa [wipeE_len, wipeE_len] at this
  rw [wipeE_get, wipeE_get] at h1
  rw [mergeE_get e e1 h2.symm]
  split
  · rfl
  · rename_i c
    rwa [if_neg c, if_neg c] at h1
end

/-! ### operators by their kinds -/
section
variable {P : Res → Prop} {i j : Int} {a b : List D} {x y : D}
theorem ok_addI (k : P (.val (.int (i + j)))) : Ok (vAdd (.int i) (.int j)) P := ok_rfl rfl k
theorem ok_addT (h : a.length + b.length ≤ SZ) (k : P (.val (.tuple (a ++ b)))) : Ok (vAdd (.tuple a) (.tuple b)) P := ok_rfl (by show ((okLen (a.length + b.length) (.val (.tuple (a ++ b)))).or none) = _; unfold okLen; rw [if_pos h]; rfl) k
theorem ok_addL (h : a.length + b.length ≤ SZ) (k : P (.fresh (a ++ b))) : Ok (vAdd (.list a) (.list b)) P := ok_rfl (by show okLen (a.length + b.length) (.fresh (a ++ b)) = _; unfold okLen; rw [if_pos h]) k
theorem ok_subI (k : P (.val (.int (i - j)))) : Ok (pSub (.int i) (.int j)) P := ok_rfl rfl k
theorem ok_mulI (h : mulOk i j) (k : P (.val (.int (i * j)))) : Ok (vMul (.int i) (.int j)) P := ok_rfl (by
  show ((if mulOk i j then some (PyData.int (i * j)) else none).map Res.val).or _ = _
  rw [if_pos h]; rfl) k
theorem ok_mulL (h : -(2 ^ 63) ≤ j ∧ j < 2 ^ 63) (h2 : a.length * j.toNat ≤ SZ) (k : P (.fresh (List.replicate j.toNat a).flatten)) : Ok (vMul (.list a) (.int j)) P := ok_rfl (by
  show (if -(2 ^ 63) ≤ j ∧ j < 2 ^ 63 then okLen (a.length * j.toNat) (.fresh (List.replicate j.toNat a).flatten) else none) = _
  rw [if_pos h]
  unfold okLen
  rw [if_pos h2]) k
theorem ok_modI (h : 0 < j) (k : P (.val (.int (i % j)))) : Ok (pMod (.int i) (.int j)) P := ok_rfl (by
  show (if 0 < j then some (PyData.int (i % j)) else none).map Res.val = _
  rw [if_pos h]; rfl) k
theorem ok_divI (h : 0 < j ∧ j < 1073741824) (k : P (.val (.int (i / j)))) : Ok (pDiv (.int i) (.int j)) P := ok_rfl (by
  show (if 0 < j ∧ j < 1073741824 then some (PyData.int (i / j)) else none).map Res.val = _
  rw [if_pos h]; rfl) k
theorem ok_powI (h : 0 ≤ j ∧ j ≤ 1000000 ∧ i.natAbs < 2 ^ 64) (k : P (.val (.int (i ^ j.toNat)))) : Ok (pPow (.int i) (.int j)) P := ok_rfl (by
  show (if 0 ≤ j ∧ j ≤ 1000000 ∧ i.natAbs < 2 ^ 64 then some (PyData.int (i ^ j.toNat)) else none).map Res.val = _
  rw [if_pos h]; rfl) k
theorem ok_ltI (k : P (.val (.bool (decide (i < j))))) : Ok (pLt (.int i) (.int j)) P := ok_rfl rfl k
theorem ok_leI (k : P (.val (.bool (decide (i ≤ j))))) : Ok (pLe (.int i) (.int j)) P := ok_rfl rfl k
theorem ok_gtI (k : P (.val (.bool (decide (j < i))))) : Ok (pGt (.int i) (.int j)) P := ok_rfl rfl k
theorem ok_geI (k : P (.val (.bool (decide (j ≤ i))))) : Ok (pGe (.int i) (.int j)) P := ok_rfl rfl k
theorem ok_eqI (k : P (.val (.bool (i == j)))) : Ok (sEq (.int i) (.int j)) P := ok_rfl rfl k
theorem ok_neI (k : P (.val (.bool (!(i == j))))) : Ok (sNe (.int i) (.int j)) P := ok_rfl rfl k
theorem ok_eqB {a b : Bool} (k : P (.val (.bool (a == b)))) : Ok (sEq (.bool a) (.bool b)) P := ok_rfl rfl k
theorem ok_neB {a b : Bool} (k : P (.val (.bool (!(a == b))))) : Ok (sNe (.bool a) (.bool b)) P := ok_rfl rfl k
theorem ok_eqD (h : SeqAt.shaped x = true) (h2 : SeqAt.shaped y = true) (k : P (.val (.bool (PyData.eqv x y)))) : Ok (sEq x y) P := ok_rfl (by unfold sEq; rw [if_pos ⟨h, h2⟩]) k
theorem ok_neD (h : SeqAt.shaped x = true) (h2 : SeqAt.shaped y = true) (k : P (.val (.bool (!PyData.eqv x y)))) : Ok (sNe x y) P := ok_rfl (by unfold sNe; rw [if_pos ⟨h, h2⟩]) k
theorem eqv_nil : ∀ a : List D, PyData.eqv (.list a) (.list []) = a.isEmpty
  | [] => rfl
  | _ :: _ => rfl
theorem ok_neNil (h : SeqAt.shaped (.list a) = true) (k : P (.val (.bool (!a.isEmpty)))) : Ok (sNe (.list a) (.list [])) P := ok_neD h rfl (by rw [eqv_nil]; exact k)
theorem ok_eqNil (h : SeqAt.shaped (.list a) = true) (k : P (.val (.bool a.isEmpty))) : Ok (sEq (.list a) (.list [])) P := ok_eqD h rfl (by rw [eqv_nil]; exact k)
theorem ok_isN {neg : Bool} {r : Res} (h : sIsN neg x y = some r) (k : P r) : Ok (sIsN neg x y) P := ok_rfl h k
theorem ok_ixL {d : D} (h : atI a i = some d) (k : P (.val d)) : Ok (sIx (.list a) (.int i)) P := ok_rfl (by show (atI a i).map _ = _; rw [h]; rfl) k
theorem ok_ixT {d : D} (h : atI a i = some d) (k : P (.val d)) : Ok (sIx (.tuple a) (.int i)) P := ok_rfl (by show (atI a i).map _ = _; rw [h]; rfl) k
theorem ok_one {f : D → Option Res} (k : Ok (f x) P) : Ok (one f [x]) P := k
theorem ok_lenL (k : P (.val (.int a.length))) : Ok (sLen (.list a)) P := ok_rfl rfl k
theorem ok_lenT (k : P (.val (.int a.length))) : Ok (sLen (.tuple a)) P := ok_rfl rfl k
theorem ok_intI (k : P (.val (.int i))) : Ok (sInt (.int i)) P := ok_rfl rfl k
theorem ok_listL (k : P (.fresh a)) : Ok (sList (.list a)) P := ok_rfl rfl k
theorem ok_listT (k : P (.fresh a)) : Ok (sList (.tuple a)) P := ok_rfl rfl k
theorem ok_tupleL (k : P (.val (.tuple a))) : Ok (sTuple (.list a)) P := ok_rfl rfl k
theorem ok_tupleT (k : P (.val (.tuple a))) : Ok (sTuple (.tuple a)) P := ok_rfl rfl k
theorem ok_max2 (k : P (.val (.int (if j > i then j else i)))) : Ok (sMax2 [.int i, .int j]) P := ok_rfl rfl k
theorem ok_min2 (k : P (.val (.int (if j < i then j else i)))) : Ok (sMin2 [.int i, .int j]) P := ok_rfl rfl k
theorem ok_sRev {r : Res} (h : sRev x = some r) (k : P r) : Ok (sRev x) P := ok_rfl h k
theorem ok_sumL {ns : List Int} (h : a = ns.map PyData.int) (k : P (.val (.int ns.sum))) : Ok (sSum (.list a)) P := by subst h; exact ok_rfl (show (intsOf _).map _ = _ by rw [intsOf_map]; rfl) k
theorem ok_sumT {ns : List Int} (h : a = ns.map PyData.int) (k : P (.val (.int ns.sum))) : Ok (sSum (.tuple a)) P := by subst h; exact ok_rfl (show (intsOf _).map _ = _ by rw [intsOf_map]; rfl) k
theorem ok_allL {bs : List Bool} (h : a = bs.map PyData.bool) (k : P (.val (.bool (bs.all id)))) : Ok (sAll (.list a)) P := by subst h; exact ok_rfl (show (boolsOf _).map _ = _ by rw [boolsOf_map]; rfl) k
theorem ok_anyL {bs : List Bool} (h : a = bs.map PyData.bool) (k : P (.val (.bool (bs.any id)))) : Ok (sAny (.list a)) P := by subst h; exact ok_rfl (show (boolsOf _).map _ = _ by rw [boolsOf_map]; rfl) k
theorem ok_maxL {ns : List Int} (h : a = ns.map PyData.int) (hn : ns ≠ []) (k : P (.val (.int (maxI ns)))) : Ok (sMax (.list a)) P := by
  subst h
  refine ok_rfl (show (intsOf _).bind _ = _ by rw [intsOf_map]; exact if_neg (by simpa using hn)) k
theorem ok_minL {ns : List Int} (h : a = ns.map PyData.int) (hn : ns ≠ []) (k : P (.val (.int (minI ns)))) : Ok (sMin (.list a)) P := by
  subst h
  refine ok_rfl (show (intsOf _).bind _ = _ by rw [intsOf_map]; exact if_neg (by simpa using hn)) k
theorem ok_in {neg : Bool} {l : List D} (h : seqOf y = some l) (h1 : flatD x = true) (h2 : l.all flatD = true) (k : P (.val (.bool (if neg then !(l.any fun y => PyData.eqv y x) else l.any fun y => PyData.eqv y x)))) : Ok (sIn neg x y) P :=
  ok_rfl (show (seqOf y).bind _ = _ by rw [h]; exact if_pos ⟨h1, h2⟩) k
end
/-- a def answers r, and gives its arguments back as they were -/
def Rt (m : Fn) (as : List Slot) (r : Res) : Prop := m as = some (r, as)
theorem rt_ev {m : Fn} {as : List Slot} {r : Res} (h : Ev (m as) fun z o => z = r ∧ o = as) : Rt m as r := by
  obtain ⟨z, o, h1, rfl, rfl⟩ := h
  exact h1
theorem ok_rt {m : Fn} {as : List Slot} {r : Res} {P : Res → List Slot → Prop} (h : Rt m as r) (k : P r as) : Ev (m as) P := ev_rfl h k
theorem ok_fnP {n : Nat} {g : FS} {as : List Slot} {e0 : En} {P : Res → List Slot → Prop} (h : as ++ List.replicate (n - as.length) .dead = e0) (k : Ok (g e0) (FnEnd as P)) : Ev (mkFn n g as) P := by
  subst h
  exact ok_fn k
/-! ### marks: what kind of goal stands -/
theorem mk1 {x : Option (R × En)} {P : R → En → Prop} (h : Ev x P) : Ev x P := h
theorem mk2 {x : Option (Res × En)} {P : Res → En → Prop} (h : Ev x P) : Ev x P := h
theorem mk3 {x : Option (Bool × En)} {P : Bool → En → Prop} (h : Ev x P) : Ev x P := h
theorem mk4 {x : Option (List R × En)} {P : List R → En → Prop} (h : Ev x P) : Ev x P := h
theorem mk5 {x : Option Fl} {P : Fl → Prop} (h : Ok x P) : Ok x P := h
theorem mk6 {x : Option (Option Int × En)} {P : Option Int → En → Prop} (h : Ev x P) : Ev x P := h
theorem mk7 {x : Option (List D × En)} {P : List D → En → Prop} (h : Ev x P) : Ev x P := h
theorem mk8 {x : Option Res} {P : Res → Prop} (h : Ok x P) : Ok x P := h
theorem mk9 {x : Option D} {P : D → Prop} (h : Ok x P) : Ok x P := h
theorem mkE {x : Option En} {P : En → Prop} (h : Ok x P) : Ok x P := h
theorem ok_seqK {u v : FS} {e : En} {P : Fl → Prop} (Q : En → Prop) (k : Ok (u e) fun fl => ∃ e', fl = .next e' ∧ Q e') (h : ∀ e', Q e' → Ok (v e') P) : Ok (sSeq u v e) P := by
  refine ok_seq (ok_of k fun fl ⟨e', h1, h2⟩ => ?_)
  subst h1
  exact h e' h2
theorem fl_next {e : En} {Q : En → Prop} (h : Q e) : ∃ e', Fl.next e = .next e' ∧ Q e' := ⟨e, rfl, h⟩
end DL

set_option Elab.async false
set_option linter.all false
set_option maxRecDepth 100000
set_option maxHeartbeats 2000000
/-! DL15: what the laws' pure parts share. -/
namespace DL
open PySem PySem.Spec PyProof.Rows L2
theorem br_dec {c : Prop} [Decidable c] {A B : Prop} (h : c → A) (k : ¬c → B) : Br (decide c) A B := ⟨fun z => h (by simpa using z), fun z => k (by simpa using z)⟩
/-- what the law's feed holds behind n draws -/
def Feed (n : Nat) (l : List D) : Prop := ∃ a b c : Int, l = [.int a, .int b, .int c] ∧ 0 ≤ b ∧ b < 2 ^ 140 ∧ 0 ≤ c ∧ c ≤ n
theorem Feed.mono {n m : Nat} {l : List D} (h : Feed n l) (k : n ≤ m) : Feed m l := by
  obtain ⟨a, b, c, h1, h2, h3, h4, h5⟩ := h
  exact ⟨a, b, c, h1, h2, h3, h4, by omega⟩
theorem mulS {i j : Int} (h : (-(2 ^ 64) < i ∧ i < 2 ^ 64) ∨ (-(2 ^ 64) < j ∧ j < 2 ^ 64)) : mulOk i j := .inl h
theorem mulW {i j : Int} (hi : 0 ≤ i ∧ i < 2 ^ 400) (hj : 0 ≤ j ∧ j < 2 ^ 400) : mulOk i j := by
  have h1 : i.natAbs < 2 ^ 400 := by have := hi.2; omega
  have h2 : j.natAbs < 2 ^ 400 := by have := hj.2; omega
  exact .inr (wide_mul h1 h2 (by decide) (by decide) (by decide))
theorem mul_lt {i j : Int} {a b : Nat} (hi : 0 ≤ i ∧ i < 2 ^ a) (hj : 0 ≤ j ∧ j < 2 ^ b) : 0 ≤ i * j ∧ i * j < 2 ^ (a + b) := by
  refine ⟨Int.mul_nonneg hi.1 hj.1, ?_⟩
  have h1 : i * j ≤ (2 ^ a) * j := Int.mul_le_mul_of_nonneg_right (Int.le_of_lt hi.2) hj.1
  have h2 : (2 : Int) ^ a * j < 2 ^ a * 2 ^ b := Int.mul_lt_mul_of_pos_left hj.2 (Int.pow_pos (by decide))
  rw [Int.pow_add]
  omega
theorem mod_rng {i j : Int} (h : 0 < j) : 0 ≤ i % j ∧ i % j < j := ⟨Int.emod_nonneg _ (by omega), Int.emod_lt_of_pos _ h⟩
/-! ### slices -/
def cutG {α : Type} (l : List α) (lo hi : Option Int) : List α := (l.drop (HT.sIx l.length 0 lo)).take (HT.sIx l.length l.length hi - HT.sIx l.length 0 lo)
theorem cut_map {α : Type} (f : α → D) (l : List α) (lo hi : Option Int) : cutD (l.map f) lo hi = (cutG l lo hi).map f := by
  unfold cutD cutG
  rw [List.length_map, ← List.map_drop, ← List.map_take]
theorem cut_to {α : Type} (l : List α) {k : Int} (h : 0 ≤ k) : cutG l none (some k) = l.take k.toNat := by
  obtain ⟨n, rfl⟩ := Int.eq_ofNat_of_zero_le h
  unfold cutG
  rw [HT.sIx_nat, HT.sIx_none]
  simp only [List.drop_zero, Nat.sub_zero, Int.toNat_natCast]
  rw [List.take_eq_take_iff]
  omega
theorem cut_from {α : Type} (l : List α) {k : Int} (h : 0 ≤ k) : cutG l (some k) none = l.drop k.toNat := by
  obtain ⟨n, rfl⟩ := Int.eq_ofNat_of_zero_le h
  unfold cutG
  rw [HT.sIx_nat, HT.sIx_none]
  simp only [Int.toNat_natCast]
  by_cases c : n ≤ l.length
  · rw [Nat.min_eq_left c, ← List.length_drop, List.take_length]
  · rw [Nat.min_eq_right (by omega), List.drop_eq_nil_of_le (by omega), List.drop_eq_nil_of_le (by omega)]
    simp
theorem atI_nat {α : Type} (l : List α) {k : Int} (h : 0 ≤ k) : atI l k = l[k.toNat]? := by
  unfold atI ixN
  rw [if_pos h]
  split
  · rfl
  · rename_i c
    rw [List.getElem?_eq_none (by omega)]
    rfl
theorem atI_last {α : Type} (l : List α) (h : l ≠ []) : atI l (-1) = l[l.length - 1]? := by
  have : 0 < l.length := List.length_pos_iff.mpr h
  unfold atI ixN
  rw [if_neg (by decide), if_pos (by omega)]
  show l[((-1 : Int) + (l.length : Int)).toNat]? = _
  congr 1
  omega
/-! ### plain data -/
mutual
theorem eqv_refl : ∀ d : D, d.canLay0 = true → PyData.eqv d d = true
  | .none, _ => rfl
  | .bool b, _ => by simp [PyData.eqv]
  | .int i, _ => by simp [PyData.eqv]
  | .str x, _ => by simp [PyData.eqv]
  | .list l, h => by
    show PyData.eqvAll l l = true
    exact eqvAll_refl l h
  | .tuple l, h => by
    show PyData.eqvAll l l = true
    exact eqvAll_refl l h
  | .dict _, h => by cases h
theorem eqvAll_refl : ∀ l : List D, PyData.canLayAll0 l = true → PyData.eqvAll l l = true
  | [], _ => rfl
  | x :: xs, h => by
    have h' : (x.canLay0 && PyData.canLayAll0 xs) = true := h
    rw [Bool.and_eq_true] at h'
    show (PyData.eqv x x && PyData.eqvAll xs xs) = true
    rw [eqv_refl x h'.1, eqvAll_refl xs h'.2]
    rfl
end
theorem lay_mem : ∀ {l : List D}, PyData.canLayAll0 l = true → ∀ x ∈ l, x.canLay0 = true
  | x :: xs, h, y, hy => by
    have h' : (x.canLay0 && PyData.canLayAll0 xs) = true := h
    rw [Bool.and_eq_true] at h'
    rcases List.mem_cons.mp hy with rfl | hy
    · exact h'.1
    · exact lay_mem h'.2 y hy
theorem depth_mem : ∀ {l : List D}, ∀ x ∈ l, x.depth ≤ PyData.depthAll l
  | x :: xs, y, hy => by
    show y.depth ≤ max x.depth (PyData.depthAll xs)
    rcases List.mem_cons.mp hy with rfl | hy
    · exact Nat.le_max_left _ _
    · exact Nat.le_trans (depth_mem y hy) (Nat.le_max_right _ _)
theorem zip_self (l : List D) : zipD l l = l.map fun x => .tuple [x, x] := by
  unfold zipD
  induction l with
  | nil => rfl
  | cons x xs ih => simp only [List.zip_cons_cons, List.map_cons, ih]
/-- data of lists, tuples, ints, bools, None: no deeper than n -/
def Pl (n : Nat) (d : D) : Prop := d.canLay0 = true ∧ d.depth ≤ n
theorem Pl.shaped {n : Nat} {d : D} (h : Pl n d) (k : n ≤ 64) : SeqAt.shaped d = true := by
  unfold SeqAt.shaped
  rw [h.1, decide_eq_true (Nat.le_trans h.2 k)]
  rfl
theorem Pl.mono {n m : Nat} {d : D} (h : Pl n d) (k : n ≤ m) : Pl m d := ⟨h.1, Nat.le_trans h.2 k⟩
theorem pl_int (n : Nat) (i : Int) : Pl n (.int i) := ⟨rfl, Nat.zero_le _⟩
theorem pl_bool (n : Nat) (b : Bool) : Pl n (.bool b) := ⟨rfl, Nat.zero_le _⟩
theorem pl_none (n : Nat) : Pl n .none := ⟨rfl, Nat.zero_le _⟩
def Pls (n : Nat) (l : List D) : Prop := ∀ d ∈ l, Pl n d
theorem pls_nil (n : Nat) : Pls n [] := fun _ h => nomatch h
theorem pls_cons {n : Nat} {d : D} {l : List D} (h : Pl n d) (k : Pls n l) : Pls n (d :: l) := fun x hx => by
  rcases List.mem_cons.mp hx with rfl | hx
  · exact h
  · exact k x hx
theorem pls_map {α : Type} {n : Nat} {f : α → D} {l : List α} (h : ∀ x ∈ l, Pl n (f x)) : Pls n (l.map f) := fun x hx => by
  obtain ⟨y, hy, rfl⟩ := List.mem_map.mp hx
  exact h y hy
theorem pls_ints (n : Nat) (l : List Int) : Pls n (l.map .int) := pls_map fun x _ => pl_int n x
theorem lay_all : ∀ {n : Nat} {l : List D}, Pls n l → PyData.canLayAll0 l = true ∧ PyData.depthAll l ≤ n
  | n, [], _ => ⟨rfl, Nat.zero_le _⟩
  | n, x :: xs, h => by
    obtain ⟨h1, h2⟩ := lay_all (n := n) (l := xs) fun d hd => h d (List.mem_cons_of_mem _ hd)
    obtain ⟨h3, h4⟩ := h x (List.mem_cons_self ..)
    refine ⟨?_, ?_⟩
    · show (x.canLay0 && PyData.canLayAll0 xs) = true
      rw [h3, h1]; rfl
    · show max x.depth (PyData.depthAll xs) ≤ n
      omega
theorem pl_list {n : Nat} {l : List D} (h : Pls n l) : Pl (n + 1) (.list l) := ⟨(lay_all h).1, Nat.succ_le_succ (lay_all h).2⟩
theorem pl_tup {n : Nat} {l : List D} (h : Pls n l) : Pl (n + 1) (.tuple l) := ⟨(lay_all h).1, Nat.succ_le_succ (lay_all h).2⟩
theorem pl_ints (n : Nat) (l : List Int) : Pl (n + 1) (.list (l.map .int)) := pl_list (pls_ints n l)
theorem pl_intT (n : Nat) (l : List Int) : Pl (n + 1) (.tuple (l.map .int)) := pl_tup (pls_ints n l)
/-- nothing passes the test -/
theorem ok_compN {α : Type} {en : α → D} {xs : List α} {P : List D → En → Prop} {e e0 : En} {vs : List Nat} {gt : FG} {tt : FT} {el : FE} (h0 : wipeE e vs = e0)
    (st : ∀ x, x ∈ xs → Ok (gt (en x) e0) fun e => Ev (tt e) fun b e => Br b False (wipeE e vs = e0))
    (fin : ∀ e2, wipeE e2 vs = e0 → P [] e2) : Ev (compGo vs gt tt el (xs.map en) e []) P := by
  refine ok_compD (fun k e acc => wipeE e vs = e0 ∧ acc = []) ⟨h0, rfl⟩ (fun k d e acc hd ⟨h1, h2⟩ => ?_) fun e acc ⟨h1, h2⟩ => ?_
  · rw [List.getElem?_map] at hd
    obtain ⟨x, h3, h4⟩ := Option.map_eq_some_iff.mp hd
    subst h4
    rw [h1]
    exact ok_of (st x (List.mem_of_getElem? h3)) fun e1 z => ev_of z fun p e ⟨h5, h6⟩ => ⟨fun c => (h5 c).elim, fun c => ⟨h6 c, h2⟩⟩
  · subst h2
    exact fin e h1
theorem merge_bk {e e1 e0 : En} {vs : List Nat} (h : wipeE e1 vs = e0) (k : wipeE e vs = e0) : mergeE e e1 vs = e := merge_back e (h.trans k.symm)
theorem br_beq {α : Type} [BEq α] [LawfulBEq α] {x y : α} {A B : Prop} (h : x = y → A) (k : x ≠ y → B) : Br (x == y) A B := ⟨fun z => h (by simpa using z), fun z => k (by simpa using z)⟩
theorem br_bne {α : Type} [BEq α] [LawfulBEq α] {x y : α} {A B : Prop} (h : x ≠ y → A) (k : x = y → B) : Br (!(x == y)) A B := ⟨fun z => h (by simpa using z), fun z => k (by simpa using z)⟩
theorem br_nil {α : Type} {x : List α} {A B : Prop} (h : x ≠ [] → A) (k : x = [] → B) : Br (!x.isEmpty) A B := ⟨fun z => h (by simpa using z), fun z => k (by simpa using z)⟩
theorem br_both {b : Bool} {A B : Prop} (h : b = true → A) (k : b = false → B) : Br b A B := ⟨h, k⟩
theorem enum_map {α : Type} (en : α → D) (l : List α) : enumD (l.map en) = l.zipIdx.map fun p => .tuple [.int (p.2 : Nat), en p.1] := by
  refine List.ext_getElem? fun k => ?_
  unfold enumD zipD rangeD
  simp only [List.getElem?_map, List.getElem?_zip_eq_some, List.length_map, List.getElem?_zipIdx, Nat.zero_add]
  cases e : l[k]? with
  | none =>
    have := List.getElem?_eq_none_iff.mp e
    rw [List.getElem?_eq_none (by simp; omega)]
    rfl
  | some x =>
    have hk := (List.getElem?_eq_some_iff.mp e).1
    rw [show ((List.map (fun i => PyData.int (0 + (i : Nat))) (List.range l.length)).zip (l.map en))[k]? = some (.int (0 + (k : Nat)), en x) from List.getElem?_zip_eq_some.mpr ⟨by simp [hk], by simp [e]⟩]
    simp
theorem range_map (n : Nat) : rangeD 0 n = (List.range n).map fun i => .int (i : Nat) := by
  unfold rangeD
  refine List.map_congr_left fun i _ => ?_
  rw [Int.zero_add]
theorem zip_map {α β : Type} (en : α → D) (fn : β → D) (a : List α) (b : List β) : zipD (a.map en) (b.map fn) = (a.zip b).map fun p => .tuple [en p.1, fn p.2] := by
  unfold zipD
  rw [List.zip_map, List.map_map]
  rfl
set_option exponentiation.threshold 1000
theorem bnd {x : Int} (h : 0 ≤ x ∧ x < 2 ^ (142 + 142)) : 0 ≤ x ∧ x < 2 ^ 400 := ⟨h.1, Int.lt_of_lt_of_le h.2 (by decide +kernel)⟩
theorem modW {i j : Int} (h : 0 < j) (k : j ≤ 2 ^ 140) : 0 ≤ i % j ∧ i % j < 2 ^ 400 := ⟨(mod_rng h).1, Int.lt_of_lt_of_le (Int.lt_of_lt_of_le (mod_rng h).2 k) (by decide +kernel)⟩
end DL

set_option Elab.async false
set_option linter.all false
set_option maxRecDepth 100000
set_option maxHeartbeats 4000000
namespace Wk43
open PySem PySem.Spec PyProof.Rows L2 DL
def top (i : Nat) : Stmt := PySem.Challenge.pw_rowspushed_k43_whole_rooms_by_sums_of_en.main.body.getD i (.Pass ⟨0, 0, 0, 0⟩)
abbrev s_is_integer : Stmt := top 7
abbrev n_is_integer : List Str := ["thing"]
theorem sc_is_integer : FnScope n_is_integer ["thing"] (defScope s_is_integer) := ⟨rfl, rfl, rfl, by decide +kernel, rfl, by decide +kernel, by decide +kernel⟩
abbrev s_is_within : Stmt := top 8
abbrev n_is_within : List Str := ["thing", "low", "high"]
theorem sc_is_within : FnScope n_is_within ["thing", "low", "high"] (defScope s_is_within) := ⟨rfl, rfl, rfl, by decide +kernel, rfl, by decide +kernel, by decide +kernel⟩
abbrev s_need_number : Stmt := top 9
abbrev n_need_number : List Str := ["thing", "low", "high"]
theorem sc_need_number : FnScope n_need_number ["thing", "low", "high"] (defScope s_need_number) := ⟨rfl, rfl, rfl, by decide +kernel, rfl, by decide +kernel, by decide +kernel⟩
abbrev s_are_letters : Stmt := top 10
abbrev n_are_letters : List Str := ["thing", "most", "letter"]
theorem sc_are_letters : FnScope n_are_letters ["thing", "most"] (defScope s_are_letters) := ⟨rfl, rfl, rfl, by decide +kernel, rfl, by decide +kernel, by decide +kernel⟩
abbrev s_is_word_form : Stmt := top 11
abbrev n_is_word_form : List Str := ["thing"]
theorem sc_is_word_form : FnScope n_is_word_form ["thing"] (defScope s_is_word_form) := ⟨rfl, rfl, rfl, by decide +kernel, rfl, by decide +kernel, by decide +kernel⟩
abbrev s_need_word : Stmt := top 12
abbrev n_need_word : List Str := ["word"]
theorem sc_need_word : FnScope n_need_word ["word"] (defScope s_need_word) := ⟨rfl, rfl, rfl, by decide +kernel, rfl, by decide +kernel, by decide +kernel⟩
abbrev s_left_places : Stmt := top 14
abbrev n_left_places : List Str := ["word", "i", "opened", "left", "place", "letter"]
theorem sc_left_places : FnScope n_left_places ["word", "i"] (defScope s_left_places) := ⟨rfl, rfl, rfl, by decide +kernel, rfl, by decide +kernel, by decide +kernel⟩
abbrev s_with_letter : Stmt := top 15
abbrev n_with_letter : List Str := ["word", "place", "letter"]
theorem sc_with_letter : FnScope n_with_letter ["word", "place", "letter"] (defScope s_with_letter) := ⟨rfl, rfl, rfl, by decide +kernel, rfl, by decide +kernel, by decide +kernel⟩
abbrev s_raised_word : Stmt := top 16
abbrev n_raised_word : List Str := ["word", "i", "left"]
theorem sc_raised_word : FnScope n_raised_word ["word", "i"] (defScope s_raised_word) := ⟨rfl, rfl, rfl, by decide +kernel, rfl, by decide +kernel, by decide +kernel⟩
abbrev s_lowered_word : Stmt := top 17
abbrev n_lowered_word : List Str := ["word", "i", "left"]
theorem sc_lowered_word : FnScope n_lowered_word ["word", "i"] (defScope s_lowered_word) := ⟨rfl, rfl, rfl, by decide +kernel, rfl, by decide +kernel, by decide +kernel⟩
abbrev s_reflected_word : Stmt := top 18
abbrev n_reflected_word : List Str := ["word", "i", "low", "high", "at", "place"]
theorem sc_reflected_word : FnScope n_reflected_word ["word", "i"] (defScope s_reflected_word) := ⟨rfl, rfl, rfl, by decide +kernel, rfl, by decide +kernel, by decide +kernel⟩
abbrev s_need_raise : Stmt := top 20
abbrev n_need_raise : List Str := ["word", "i"]
theorem sc_need_raise : FnScope n_need_raise ["word", "i"] (defScope s_need_raise) := ⟨rfl, rfl, rfl, by decide +kernel, rfl, by decide +kernel, by decide +kernel⟩
abbrev s_raised : Stmt := top 21
abbrev n_raised : List Str := ["word", "i"]
theorem sc_raised : FnScope n_raised ["word", "i"] (defScope s_raised) := ⟨rfl, rfl, rfl, by decide +kernel, rfl, by decide +kernel, by decide +kernel⟩
abbrev s_lowered : Stmt := top 22
abbrev n_lowered : List Str := ["word", "i"]
theorem sc_lowered : FnScope n_lowered ["word", "i"] (defScope s_lowered) := ⟨rfl, rfl, rfl, by decide +kernel, rfl, by decide +kernel, by decide +kernel⟩
abbrev s_room_up : Stmt := top 23
abbrev n_room_up : List Str := ["word", "i"]
theorem sc_room_up : FnScope n_room_up ["word", "i"] (defScope s_room_up) := ⟨rfl, rfl, rfl, by decide +kernel, rfl, by decide +kernel, by decide +kernel⟩
abbrev s_room_down : Stmt := top 24
abbrev n_room_down : List Str := ["word", "i"]
theorem sc_room_down : FnScope n_room_down ["word", "i"] (defScope s_room_down) := ⟨rfl, rfl, rfl, by decide +kernel, rfl, by decide +kernel, by decide +kernel⟩
abbrev s_reflected : Stmt := top 25
abbrev n_reflected : List Str := ["word", "i"]
theorem sc_reflected : FnScope n_reflected ["word", "i"] (defScope s_reflected) := ⟨rfl, rfl, rfl, by decide +kernel, rfl, by decide +kernel, by decide +kernel⟩
abbrev s_string_of : Stmt := top 26
abbrev n_string_of : List Str := ["word", "i", "found"]
theorem sc_string_of : FnScope n_string_of ["word", "i"] (defScope s_string_of) := ⟨rfl, rfl, rfl, by decide +kernel, rfl, by decide +kernel, by decide +kernel⟩
abbrev s_x_law_feed : Stmt := top 28
abbrev n_x_law_feed : List Str := ["script", "k", "cell"]
theorem sc_x_law_feed : FnScope n_x_law_feed ["script", "k"] (defScope s_x_law_feed) := ⟨rfl, rfl, rfl, by decide +kernel, rfl, by decide +kernel, by decide +kernel⟩
abbrev s_x_law_draw : Stmt := top 29
abbrev n_x_law_draw : List Str := ["feed", "many", "got", "stir"]
theorem sc_x_law_draw : FnScope n_x_law_draw ["feed", "many"] (defScope s_x_law_draw) := ⟨rfl, rfl, rfl, by decide +kernel, rfl, by decide +kernel, by decide +kernel⟩
abbrev s_x_law_one : Stmt := top 30
abbrev n_x_law_one : List Str := ["feed", "things"]
theorem sc_x_law_one : FnScope n_x_law_one ["feed", "things"] (defScope s_x_law_one) := ⟨rfl, rfl, rfl, by decide +kernel, rfl, by decide +kernel, by decide +kernel⟩
abbrev s_x_law_same : Stmt := top 31
abbrev n_x_law_same : List Str := ["told", "due", "one", "other"]
theorem sc_x_law_same : FnScope n_x_law_same ["told", "due"] (defScope s_x_law_same) := ⟨rfl, rfl, rfl, by decide +kernel, rfl, by decide +kernel, by decide +kernel⟩
abbrev s_x_law_drawn : Stmt := top 32
abbrev n_x_law_drawn : List Str := ["feed", "i", "many", "way", "letters", "at"]
theorem sc_x_law_drawn : FnScope n_x_law_drawn ["feed", "i"] (defScope s_x_law_drawn) := ⟨rfl, rfl, rfl, by decide +kernel, rfl, by decide +kernel, by decide +kernel⟩
abbrev s_x_law_ends : Stmt := top 33
abbrev n_x_law_ends : List Str := ["word", "i", "found", "total", "letter"]
theorem sc_x_law_ends : FnScope n_x_law_ends ["word", "i"] (defScope s_x_law_ends) := ⟨rfl, rfl, rfl, by decide +kernel, rfl, by decide +kernel, by decide +kernel⟩
abbrev s_x_law_up : Stmt := top 34
abbrev n_x_law_up : List Str := ["word", "i", "ends", "most", "at", "place", "total"]
theorem sc_x_law_up : FnScope n_x_law_up ["word", "i"] (defScope s_x_law_up) := ⟨rfl, rfl, rfl, by decide +kernel, rfl, by decide +kernel, by decide +kernel⟩
abbrev s_x_law_down : Stmt := top 35
abbrev n_x_law_down : List Str := ["word", "i", "turned", "letter", "many", "told"]
theorem sc_x_law_down : FnScope n_x_law_down ["word", "i"] (defScope s_x_law_down) := ⟨rfl, rfl, rfl, by decide +kernel, rfl, by decide +kernel, by decide +kernel⟩
abbrev s_x_law_right : Stmt := top 36
abbrev n_x_law_right : List Str := ["feed", "i", "word", "up", "more", "down", "less", "row", "here", "turn", "other", "moved", "place", "one"]
theorem sc_x_law_right : FnScope n_x_law_right ["feed"] (defScope s_x_law_right) := ⟨rfl, rfl, rfl, by decide +kernel, rfl, by decide +kernel, by decide +kernel⟩
abbrev s_law : Stmt := top 37
abbrev n_law : List Str := ["script", "k", "feed", "turn"]
theorem sc_law : FnScope n_law ["script"] (defScope s_law) := ⟨rfl, rfl, rfl, by decide +kernel, rfl, by decide +kernel, by decide +kernel⟩
/-! ### mirrors -/
def f_is_integer : FS := (sRet (toV (fAnd (toE (fIsi [.int] (fVar 0))) (toE (fNot (toE (fIsi [.bool] (fVar 0))))))))
def m_is_integer : Fn := mkFn 1 f_is_integer
def f_is_within : FS := (sRet (toV (fAnd (toE (fCall m_is_integer (fCons (fVar 0) fNil))) (toE (fChain pLe pLe (fVar 1) (fVar 0) (fVar 2))))))
def m_is_within : Fn := mkFn 3 f_is_within
def f_need_number : FS := (sIf (gNot (fTruth (toE (fCall m_is_within (fCons (fVar 0) (fCons (fVar 1) (fCons (fVar 2) fNil))))))) sNo sNext)
def m_need_number : Fn := mkFn 3 f_need_number
def f_are_letters : FS := (sSeq (sIf (gOr (gNot (fTruth (toE (fIsi [.tuple] (fVar 0))))) (fTestV (fBin pGt (toE (fBlt (one sLen) (fCons (fVar 0) fNil))) (fVar 1)))) (sRet (toV (fCst (.bool false)))) sNext) (sRet (fBlt (one sAll) (fCons (toE (fComp [2] (iSq (fVar 0)) (gNm 2) gYes (toE (fCall m_is_within (fCons (fVar 2) (fCons (fCst (.int 1)) (fCons (fCst (.int 9)) fNil))))))) fNil))))
def m_are_letters : Fn := mkFn 3 f_are_letters
def f_is_word_form : FS := (sRet (fCall m_are_letters (fCons (fVar 0) (fCons (fCst (.int 30)) fNil))))
def m_is_word_form : Fn := mkFn 1 f_is_word_form
def f_need_word : FS := (sIf (gNot (fTruth (toE (fCall m_is_word_form (fCons (fVar 0) fNil))))) sNo sNext)
def m_need_word : Fn := mkFn 1 f_need_word
def f_left_places : FS := (sSeq (sPar 2 3 (fLst fNil) (fLst fNil)) (sSeq (sFor (iEn (fVar 0)) (gTp (hCons (gNm 4) (hCons (gNm 5) hNil))) (sIf (fTestV (fBin sEq (fVar 5) (toE (fBin vAdd (fVar 1) (fCst (.int 1)))))) (sExpr (fAppend 2 (fVar 4))) (sIf (gAnd (fTestV (fBin sEq (fVar 5) (fVar 1))) (fTestV (fBin sNe (fVar 2) (toE (fLst fNil))))) (sExpr (fPop 2)) (sIf (fTestV (fBin sEq (fVar 5) (fVar 1))) (sExpr (fAppend 3 (fVar 4))) sNext)))) (sRet (fTup (fCons (fVar 3) (fCons (fVar 2) fNil))))))
def m_left_places : Fn := mkFn 6 f_left_places
def f_with_letter : FS := (sRet (fBin vAdd (toE (fBin vAdd (toE (fCut (fVar 0) fNo (fAt (fVar 1)))) (toE (fTup (fCons (fVar 2) fNil))))) (toE (fCut (fVar 0) (fAt (toE (fBin vAdd (fVar 1) (fCst (.int 1))))) fNo))))
def m_with_letter : Fn := mkFn 3 f_with_letter
def f_raised_word : FS := (sSeq (sSet 2 (fBin sIx (toE (fCall m_left_places (fCons (fVar 0) (fCons (fVar 1) fNil)))) (fCst (.int 1)))) (sRet (toV (fIf (fTestV (fBin sNe (fVar 2) (toE (fLst fNil)))) (toE (fCall m_with_letter (fCons (fVar 0) (fCons (toE (fBin sIx (fVar 2) (fCst (.int 0)))) (fCons (fVar 1) fNil))))) (fCst .none)))))
def m_raised_word : Fn := mkFn 3 f_raised_word
def f_lowered_word : FS := (sSeq (sSet 2 (fBin sIx (toE (fCall m_left_places (fCons (fVar 0) (fCons (fVar 1) fNil)))) (fCst (.int 0)))) (sRet (toV (fIf (fTestV (fBin sNe (fVar 2) (toE (fLst fNil)))) (toE (fCall m_with_letter (fCons (fVar 0) (fCons (toE (fBin sIx (fVar 2) (toE (fNeg (fCst (.int 1)))))) (fCons (toE (fBin vAdd (fVar 1) (fCst (.int 1)))) fNil))))) (fCst .none)))))
def m_lowered_word : Fn := mkFn 3 f_lowered_word
def f_reflected_word : FS := (sSeq (sAsg (gTp (hCons (gNm 2) (hCons (gNm 3) hNil))) (fCall m_left_places (fCons (fVar 0) (fCons (fVar 1) fNil)))) (sSeq (sFor (iEn (toE (fBin vAdd (fVar 2) (fVar 3)))) (gTp (hCons (gNm 4) (hCons (gNm 5) hNil))) (sSet 0 (fCall m_with_letter (fCons (fVar 0) (fCons (fVar 5) (fCons (fIf (fTestV (fBin pLt (fVar 4) (toE (fBlt (one sLen) (fCons (fVar 3) fNil))))) (fVar 1) (toE (fBin vAdd (fVar 1) (fCst (.int 1))))) fNil)))))) (sRet (toV (fVar 0)))))
def m_reflected_word : Fn := mkFn 6 f_reflected_word
def f_need_raise : FS := (sSeq (sExpr (fCall m_need_word (fCons (fVar 0) fNil))) (sExpr (fCall m_need_number (fCons (fVar 1) (fCons (fCst (.int 1)) (fCons (toE (fBin pSub (fCst (.int 9)) (fCst (.int 1)))) fNil))))))
def m_need_raise : Fn := mkFn 2 f_need_raise
def f_raised : FS := (sSeq (sExpr (fCall m_need_raise (fCons (fVar 0) (fCons (fVar 1) fNil)))) (sRet (fCall m_raised_word (fCons (fVar 0) (fCons (fVar 1) fNil)))))
def m_raised : Fn := mkFn 2 f_raised
def f_lowered : FS := (sSeq (sExpr (fCall m_need_raise (fCons (fVar 0) (fCons (fVar 1) fNil)))) (sRet (fCall m_lowered_word (fCons (fVar 0) (fCons (fVar 1) fNil)))))
def m_lowered : Fn := mkFn 2 f_lowered
def f_room_up : FS := (sSeq (sExpr (fCall m_need_raise (fCons (fVar 0) (fCons (fVar 1) fNil)))) (sRet (fBlt (one sLen) (fCons (toE (fBin sIx (toE (fCall m_left_places (fCons (fVar 0) (fCons (fVar 1) fNil)))) (fCst (.int 1)))) fNil))))
def m_room_up : Fn := mkFn 2 f_room_up
def f_room_down : FS := (sSeq (sExpr (fCall m_need_raise (fCons (fVar 0) (fCons (fVar 1) fNil)))) (sRet (fBlt (one sLen) (fCons (toE (fBin sIx (toE (fCall m_left_places (fCons (fVar 0) (fCons (fVar 1) fNil)))) (fCst (.int 0)))) fNil))))
def m_room_down : Fn := mkFn 2 f_room_down
def f_reflected : FS := (sSeq (sExpr (fCall m_need_raise (fCons (fVar 0) (fCons (fVar 1) fNil)))) (sRet (fCall m_reflected_word (fCons (fVar 0) (fCons (fVar 1) fNil)))))
def m_reflected : Fn := mkFn 2 f_reflected
def f_string_of : FS := (sSeq (sExpr (fCall m_need_raise (fCons (fVar 0) (fCons (fVar 1) fNil)))) (sSeq (sWhile (fTestV (fBin (sIsN true) (toE (fCall m_raised_word (fCons (fVar 0) (fCons (fVar 1) fNil)))) (fCst .none))) (sSet 0 (fCall m_raised_word (fCons (fVar 0) (fCons (fVar 1) fNil)))) 4000) (sSeq (sSet 2 (fLst (fCons (fVar 0) fNil))) (sSeq (sWhile (fTestV (fBin (sIsN true) (toE (fCall m_lowered_word (fCons (toE (fBin sIx (fVar 2) (toE (fNeg (fCst (.int 1)))))) (fCons (fVar 1) fNil)))) (fCst .none))) (sExpr (fAppend 2 (toE (fCall m_lowered_word (fCons (toE (fBin sIx (fVar 2) (toE (fNeg (fCst (.int 1)))))) (fCons (fVar 1) fNil)))))) 4000) (sRet (toV (fVar 2)))))))
def m_string_of : Fn := mkFn 3 f_string_of
def f_x_law_feed : FS := (sSeq (sSet 2 (fBin vAdd (toE (fBin vMul (fCst (.int 7021)) (fVar 1))) (toE (fBin vMul (fCst (.int 195)) (toE (fBlt (one sSum) (fCons (toE (fCut (fVar 0) fNo (fAt (fCst (.int 3))))) fNil))))))) (sSeq (sIf (fTestV (fBin pLt (fVar 1) (toE (fBlt (one sLen) (fCons (fVar 0) fNil))))) (sSet 2 (fBin sIx (fVar 0) (fVar 1))) sNext) (sRet (fLst (fCons (toE (fBlt (sMax2) (fCons (fCst (.int 0)) (fCons (toE (fBin pSub (fVar 2) (toE (fBin pPow (fCst (.int 10)) (fCst (.int 18)))))) fNil)))) (fCons (toE (fBin pMod (toE (fBlt (one sInt) (fCons (toE (fBin vAdd (toE (fBin vAdd (toE (fBin vMul (fVar 2) (fCst (.int 667)))) (toE (fBin vMul (fCst (.int 145)) (fVar 1))))) (fCst (.int 383)))) fNil))) (toE (fBin vAdd (toE (fBin pPow (fCst (.int 10)) (fCst (.int 40)))) (fCst (.int 121)))))) (fCons (fCst (.int 0)) fNil)))))))
def m_x_law_feed : Fn := mkFn 3 f_x_law_feed
def f_x_law_draw : FS := (sSeq (sIf (fTestV (fBin pGt (toE (fBin sIx (fVar 0) (fCst (.int 0)))) (fCst (.int 0)))) (sSeq (sSet 2 (fBin pMod (toE (fBlt (one sInt) (fCons (toE (fBin sIx (fVar 0) (fCst (.int 0)))) fNil))) (fVar 1))) (sSeq (sSetIx 0 (fCst (.int 0)) (fBin pDiv (toE (fBin sIx (fVar 0) (fCst (.int 0)))) (fVar 1))) (sRet (toV (fVar 2))))) sNext) (sSeq (sSetIx 0 (fCst (.int 2)) (fBin vAdd (toE (fBin sIx (fVar 0) (fCst (.int 2)))) (fCst (.int 1)))) (sSeq (sSet 3 (fBin vAdd (toE (fBin sIx (fVar 0) (fCst (.int 1)))) (toE (fBin vMul (fCst (.int 73056921)) (toE (fBin sIx (fVar 0) (fCst (.int 2)))))))) (sSeq (sSet 3 (fBin pMod (toE (fBlt (one sInt) (fCons (toE (fBin vAdd (toE (fBin vAdd (toE (fBin vMul (toE (fBin vMul (fVar 3) (fVar 3))) (fVar 3))) (toE (fBin vMul (fCst (.int 61986137)) (toE (fBin sIx (fVar 0) (fCst (.int 2)))))))) (fCst (.int 7)))) fNil))) (toE (fBin vAdd (toE (fBin pPow (fCst (.int 10)) (fCst (.int 41)))) (fCst (.int 81)))))) (sSeq (sSet 3 (fBin pMod (toE (fBlt (one sInt) (fCons (toE (fBin vAdd (toE (fBin vMul (fVar 3) (fVar 3))) (fCst (.int 882457773)))) fNil))) (toE (fBin vAdd (toE (fBin pPow (fCst (.int 10)) (fCst (.int 38)))) (fCst (.int 133)))))) (sRet (fBin pMod (toE (fBlt (one sInt) (fCons (toE (fBin pDiv (fVar 3) (toE (fBin pPow (fCst (.int 10)) (fCst (.int 9)))))) fNil))) (fVar 1))))))))
def m_x_law_draw : Fn := mkFn 4 f_x_law_draw
def f_x_law_one : FS := (sRet (fBin sIx (fVar 1) (toE (fCall m_x_law_draw (fCons (fVar 0) (fCons (toE (fBlt (one sLen) (fCons (fVar 1) fNil))) fNil))))))
def m_x_law_one : Fn := mkFn 2 f_x_law_one
def b_x_law_same_ (r : Fn) : FS := (sSeq (sIf (fTestV (fBin (sIsN false) (fVar 1) (fCst .none))) (sRet (fBin (sIsN false) (fVar 0) (fCst .none))) sNext) (sSeq (sIf (fTruth (toE (fIsi [.bool] (fVar 1)))) (sRet (toV (fAnd (toE (fIsi [.bool] (fVar 0))) (toE (fBin sEq (fVar 0) (fVar 1)))))) sNext) (sSeq (sIf (fTruth (toE (fIsi [.int] (fVar 1)))) (sRet (toV (fAnd (toE (fIsi [.int] (fVar 0))) (fAnd (toE (fNot (toE (fIsi [.bool] (fVar 0))))) (toE (fBin sEq (fVar 0) (fVar 1))))))) sNext) (sSeq (sIf (fTruth (toE (fIsi [.str] (fVar 1)))) (sRet (toV (fAnd (toE (fIsi [.str] (fVar 0))) (toE (fBin sEq (fVar 0) (fVar 1)))))) sNext) (sSeq (sIf (gOr (fTestV (fBin sNe (toE (fIsi [.list] (fVar 1))) (toE (fIsi [.list] (fVar 0))))) (gOr (gNot (fTruth (toE (fIsi [.list, .tuple] (fVar 0))))) (fTestV (fBin sNe (toE (fBlt (one sLen) (fCons (fVar 0) fNil))) (toE (fBlt (one sLen) (fCons (fVar 1) fNil))))))) (sRet (toV (fCst (.bool false)))) sNext) (sRet (fBin sEq (toE (fComp [2, 3] (iZp (fCons (fVar 0) (fCons (fVar 1) fNil))) (gTp (hCons (gNm 2) (hCons (gNm 3) hNil))) (gNot (fTruth (toE (fCall r (fCons (fVar 2) (fCons (fVar 3) fNil)))))) (fCst (.int 1)))) (toE (fLst fNil)))))))))
def m_x_law_same : Nat → Fn
  | 0 => fun _ => none
  | n + 1 => mkFn 4 (b_x_law_same_ (m_x_law_same n))
def f_x_law_drawn : FS := (sSeq (sPar 2 3 (fCall m_x_law_one (fCons (fVar 0) (fCons (toE (fLst (fCons (fCst (.int 0)) (fCons (fCst (.int 1)) (fCons (fCst (.int 2)) (fCons (fCst (.int 5)) (fCons (fCst (.int 12)) (fCons (fCst (.int 30)) (fCons (toE (fCall m_x_law_draw (fCons (fVar 0) (fCons (fCst (.int 31)) fNil)))) fNil))))))))) fNil))) (fCall m_x_law_draw (fCons (fVar 0) (fCons (fCst (.int 5)) fNil)))) (sSeq (sSet 4 (fLst (fCons (fVar 1) (fCons (toE (fBin vAdd (fVar 1) (fCst (.int 1)))) (fCons (fVar 1) (fCons (toE (fBin vAdd (fVar 1) (fCst (.int 1)))) (fCons (toE (fBin vAdd (fCst (.int 1)) (toE (fCall m_x_law_draw (fCons (fVar 0) (fCons (fCst (.int 9)) fNil)))))) fNil))))))) (sSeq (sIf (fTestV (fBin sEq (fVar 3) (fCst (.int 0)))) (sRet (fBlt (one sTuple) (fCons (toE (fCut (toE (fBin vAdd (toE (fBin vAdd (toE (fBin vAdd (toE (fBin vMul (toE (fLst (fCons (toE (fBin vAdd (fVar 1) (fCst (.int 1)))) fNil))) (toE (fCall m_x_law_draw (fCons (fVar 0) (fCons (fCst (.int 9)) fNil)))))) (toE (fBin vMul (toE (fLst (fCons (fVar 1) fNil))) (toE (fCall m_x_law_draw (fCons (fVar 0) (fCons (fCst (.int 9)) fNil)))))))) (toE (fBin vMul (toE (fLst (fCons (toE (fBin vAdd (fVar 1) (fCst (.int 1)))) fNil))) (fCst (.int 6)))))) (toE (fBin vMul (toE (fLst (fCons (fVar 1) fNil))) (fCst (.int 9)))))) fNo (fAt (fVar 2)))) fNil))) sNext) (sSeq (sIf (fTestV (fBin sEq (fVar 3) (fCst (.int 1)))) (sRet (fBlt (one sTuple) (fCons (toE (fCut (toE (fBin vMul (toE (fLst (fCons (fVar 1) (fCons (toE (fBin vAdd (fVar 1) (fCst (.int 1)))) (fCons (toE (fCall m_x_law_one (fCons (fVar 0) (fCons (fVar 4) fNil)))) fNil))))) (fCst (.int 10)))) fNo (fAt (fVar 2)))) fNil))) sNext) (sRet (fBlt (one sTuple) (fCons (toE (fComp [5] (iR1 (fCons (fVar 2) fNil)) (gNm 5) gYes (toE (fCall m_x_law_one (fCons (fVar 0) (fCons (fVar 4) fNil)))))) fNil)))))))
def m_x_law_drawn : Fn := mkFn 6 f_x_law_drawn
def f_x_law_ends : FS := (sSeq (sPar 2 3 (fLst fNil) (toV (fCst (.int 0)))) (sSeq (sFor (iSq (toE (fUn sRev (fVar 0)))) (gNm 4) (sSeq (sSet 3 (fBin vAdd (fVar 3) (fIf (fTestV (fBin sEq (fVar 4) (toE (fBin vAdd (fVar 1) (fCst (.int 1)))))) (fCst (.int 1)) (fIf (fTestV (fBin sEq (fVar 4) (fVar 1))) (toE (fNeg (fCst (.int 1)))) (fCst (.int 0)))))) (sExpr (fAppend 2 (fVar 3))))) (sRet (fUn sRev (fVar 2)))))
def m_x_law_ends : Fn := mkFn 5 f_x_law_ends
def f_x_law_up : FS := (sSeq (sSet 2 (fCall m_x_law_ends (fCons (fVar 0) (fCons (fVar 1) fNil)))) (sSeq (sSet 3 (fBlt (one sMax) (fCons (toE (fBin vAdd (fVar 2) (toE (fLst (fCons (fCst (.int 0)) fNil))))) fNil))) (sSeq (sIf (fTestV (fBin sEq (fVar 3) (fCst (.int 0)))) (sRet (fTup (fCons (fCst (.int 0)) (fCons (fCst .none) fNil)))) sNext) (sSeq (sSet 4 (fBlt (one sMax) (fCons (toE (fComp [5, 6] (iEn (fVar 2)) (gTp (hCons (gNm 5) (hCons (gNm 6) hNil))) (fTestV (fBin sEq (fVar 6) (fVar 3))) (fVar 5))) fNil))) (sRet (fTup (fCons (fVar 3) (fCons (toE (fBin vAdd (toE (fBin vAdd (toE (fCut (fVar 0) fNo (fAt (fVar 4)))) (toE (fTup (fCons (fVar 1) fNil))))) (toE (fCut (fVar 0) (fAt (toE (fBin vAdd (fVar 4) (fCst (.int 1))))) fNo)))) fNil))))))))
def m_x_law_up : Fn := mkFn 7 f_x_law_up
def f_x_law_down : FS := (sSeq (sSet 2 (fBlt (one sTuple) (fCons (toE (fComp [3] (iSq (toE (fUn sRev (fVar 0)))) (gNm 3) gYes (fIf (fTestV (fBin (sIn false) (fVar 3) (toE (fTup (fCons (fVar 1) (fCons (toE (fBin vAdd (fVar 1) (fCst (.int 1)))) fNil)))))) (toE (fBin pSub (toE (fBin vAdd (toE (fBin vMul (fCst (.int 2)) (fVar 1))) (fCst (.int 1)))) (fVar 3))) (fVar 3)))) fNil))) (sSeq (sAsg (gTp (hCons (gNm 4) (hCons (gNm 5) hNil))) (fCall m_x_law_up (fCons (fVar 2) (fCons (fVar 1) fNil)))) (sSeq (sIf (fTestV (fBin (sIsN false) (fVar 5) (fCst .none))) (sRet (fTup (fCons (fVar 4) (fCons (fCst .none) fNil)))) sNext) (sRet (fTup (fCons (fVar 4) (fCons (toE (fBlt (one sTuple) (fCons (toE (fComp [3] (iSq (toE (fUn sRev (fVar 5)))) (gNm 3) gYes (fIf (fTestV (fBin (sIn false) (fVar 3) (toE (fTup (fCons (fVar 1) (fCons (toE (fBin vAdd (fVar 1) (fCst (.int 1)))) fNil)))))) (toE (fBin pSub (toE (fBin vAdd (toE (fBin vMul (fCst (.int 2)) (fVar 1))) (fCst (.int 1)))) (fVar 3))) (fVar 3)))) fNil))) fNil)))))))
def m_x_law_down : Fn := mkFn 6 f_x_law_down
def f_x_law_right : FS := (sSeq (sSet 1 (fBin vAdd (fCst (.int 1)) (toE (fCall m_x_law_draw (fCons (fVar 0) (fCons (fCst (.int 8)) fNil)))))) (sSeq (sSet 2 (fCall m_x_law_drawn (fCons (fVar 0) (fCons (fVar 1) fNil)))) (sSeq (sAsg (gTp (hCons (gTp (hCons (gNm 3) (hCons (gNm 4) hNil))) (hCons (gTp (hCons (gNm 5) (hCons (gNm 6) hNil))) hNil))) (fTup (fCons (toE (fCall m_x_law_up (fCons (fVar 2) (fCons (fVar 1) fNil)))) (fCons (toE (fCall m_x_law_down (fCons (fVar 2) (fCons (fVar 1) fNil)))) fNil)))) (sSeq (sIf (gNot (fTruth (toE (fCall (m_x_law_same 8) (fCons (toE (fLst (fCons (toE (fCall m_room_up (fCons (fVar 2) (fCons (fVar 1) fNil)))) (fCons (toE (fCall m_raised (fCons (fVar 2) (fCons (fVar 1) fNil)))) (fCons (toE (fCall m_room_down (fCons (fVar 2) (fCons (fVar 1) fNil)))) (fCons (toE (fCall m_lowered (fCons (fVar 2) (fCons (fVar 1) fNil)))) fNil)))))) (fCons (toE (fLst (fCons (fVar 3) (fCons (fVar 4) (fCons (fVar 5) (fCons (fVar 6) fNil)))))) fNil)))))) (sRet (toV (fCst (.bool false)))) sNext) (sSeq (sPar 7 8 (fLst (fCons (fVar 2) fNil)) (toV (fVar 2))) (sSeq (sFor (iR1 (fCons (fVar 3) fNil)) (gNm 9) (sSeq (sSet 8 (fBin sIx (toE (fCall m_x_law_up (fCons (fVar 8) (fCons (fVar 1) fNil)))) (fCst (.int 1)))) (sSet 7 (fBin vAdd (toE (fLst (fCons (fVar 8) fNil))) (fVar 7))))) (sSeq (sSet 8 (toV (fVar 2))) (sSeq (sFor (iR1 (fCons (fVar 5) fNil)) (gNm 9) (sSeq (sSet 8 (fBin sIx (toE (fCall m_x_law_down (fCons (fVar 8) (fCons (fVar 1) fNil)))) (fCst (.int 1)))) (sSet 7 (fBin vAdd (fVar 7) (toE (fLst (fCons (fVar 8) fNil))))))) (sSeq (sIf (gNot (fTruth (toE (fCall (m_x_law_same 8) (fCons (toE (fLst (fCons (toE (fCall m_string_of (fCons (fVar 2) (fCons (fVar 1) fNil)))) (fCons (toE (fCall m_reflected (fCons (fVar 2) (fCons (fVar 1) fNil)))) fNil)))) (fCons (toE (fLst (fCons (fVar 7) (fCons (toE (fBin sIx (fVar 7) (fVar 5))) fNil)))) fNil)))))) (sRet (toV (fCst (.bool false)))) sNext) (sSeq (sSet 10 (fCall m_reflected (fCons (fVar 2) (fCons (fVar 1) fNil)))) (sSeq (sIf (gNot (fTruth (toE (fCall (m_x_law_same 8) (fCons (toE (fLst (fCons (toE (fCall m_room_up (fCons (fVar 10) (fCons (fVar 1) fNil)))) (fCons (toE (fCall m_room_down (fCons (fVar 10) (fCons (fVar 1) fNil)))) (fCons (toE (fCall m_reflected (fCons (fVar 10) (fCons (fVar 1) fNil)))) fNil))))) (fCons (toE (fLst (fCons (fVar 5) (fCons (fVar 3) (fCons (fVar 2) fNil))))) fNil)))))) (sRet (toV (fCst (.bool false)))) sNext) (sSeq (sSet 11 (fComp [12] (iR1 (fCons (toE (fBlt (one sLen) (fCons (fVar 2) fNil))) fNil)) (gNm 12) (fTestV (fBin sNe (toE (fBin sIx (fVar 2) (fVar 12))) (toE (fBin sIx (fVar 10) (fVar 12))))) (fVar 12))) (sSeq (sIf (fTestV (fBin sNe (toE (fComp [12] (iSq (fVar 11)) (gNm 12) (fTestV (fBin (sIn true) (toE (fBin sIx (fVar 2) (fVar 12))) (toE (fTup (fCons (fVar 1) (fCons (toE (fBin vAdd (fVar 1) (fCst (.int 1)))) fNil)))))) (fVar 12))) (toE (fLst fNil)))) (sRet (toV (fCst (.bool false)))) sNext) (sRet (fBin sEq (toE (fComp [13] (iSq (fVar 7)) (gNm 13) gYes (toE (fBlt (one sSum) (fCons (fVar 13) fNil))))) (toE (fLstR (iR2 (fCons (toE (fBlt (one sSum) (fCons (toE (fBin sIx (fVar 7) (fCst (.int 0)))) fNil))) (fCons (toE (fBin vAdd (toE (fBlt (one sSum) (fCons (toE (fBin sIx (fVar 7) (fCst (.int 0)))) fNil))) (toE (fBlt (one sLen) (fCons (fVar 7) fNil))))) fNil))))))))))))))))))))
def m_x_law_right : Fn := mkFn 14 f_x_law_right
def f_law : FS := (sSeq (sFor (iR1 (fCons (toE (fBlt (sMax2) (fCons (fCst (.int 1)) (fCons (toE (fBlt (sMin2) (fCons (toE (fBlt (one sLen) (fCons (fVar 0) fNil))) (fCons (fCst (.int 4)) fNil)))) fNil)))) fNil)) (gNm 1) (sSeq (sSet 2 (fCall m_x_law_feed (fCons (fVar 0) (fCons (fVar 1) fNil)))) (sFor (iR1 (fCons (fCst (.int 3)) fNil)) (gNm 3) (sIf (gNot (fTruth (toE (fCall m_x_law_right (fCons (fVar 2) fNil))))) (sRet (toV (fCst (.bool false)))) sNext)))) (sRet (toV (fCst (.bool true)))))
def m_law : Fn := mkFn 4 f_law
/-! ### what the top leaves -/
structure Tx (K : PySem.W.Frag) (mg : Str → Option Value) where
  a_is_integer : Addr
  fd_is_integer : FuncData
  F_is_integer : FunD K "is_integer" "is_integer" (defArgs s_is_integer) (defBody s_is_integer) (defScope s_is_integer) [] [] a_is_integer fd_is_integer
  g_is_integer : mg "is_integer" = some (.ref a_is_integer)
  a_is_within : Addr
  fd_is_within : FuncData
  F_is_within : FunD K "is_within" "is_within" (defArgs s_is_within) (defBody s_is_within) (defScope s_is_within) [] [] a_is_within fd_is_within
  g_is_within : mg "is_within" = some (.ref a_is_within)
  a_need_number : Addr
  fd_need_number : FuncData
  F_need_number : FunD K "need_number" "need_number" (defArgs s_need_number) (defBody s_need_number) (defScope s_need_number) [] [] a_need_number fd_need_number
  g_need_number : mg "need_number" = some (.ref a_need_number)
  a_are_letters : Addr
  fd_are_letters : FuncData
  F_are_letters : FunD K "are_letters" "are_letters" (defArgs s_are_letters) (defBody s_are_letters) (defScope s_are_letters) [] [] a_are_letters fd_are_letters
  g_are_letters : mg "are_letters" = some (.ref a_are_letters)
  a_is_word_form : Addr
  fd_is_word_form : FuncData
  F_is_word_form : FunD K "is_word_form" "is_word_form" (defArgs s_is_word_form) (defBody s_is_word_form) (defScope s_is_word_form) [] [] a_is_word_form fd_is_word_form
  g_is_word_form : mg "is_word_form" = some (.ref a_is_word_form)
  a_need_word : Addr
  fd_need_word : FuncData
  F_need_word : FunD K "need_word" "need_word" (defArgs s_need_word) (defBody s_need_word) (defScope s_need_word) [] [] a_need_word fd_need_word
  g_need_word : mg "need_word" = some (.ref a_need_word)
  a_left_places : Addr
  fd_left_places : FuncData
  F_left_places : FunD K "left_places" "left_places" (defArgs s_left_places) (defBody s_left_places) (defScope s_left_places) [] [] a_left_places fd_left_places
  g_left_places : mg "left_places" = some (.ref a_left_places)
  a_with_letter : Addr
  fd_with_letter : FuncData
  F_with_letter : FunD K "with_letter" "with_letter" (defArgs s_with_letter) (defBody s_with_letter) (defScope s_with_letter) [] [] a_with_letter fd_with_letter
  g_with_letter : mg "with_letter" = some (.ref a_with_letter)
  a_raised_word : Addr
  fd_raised_word : FuncData
  F_raised_word : FunD K "raised_word" "raised_word" (defArgs s_raised_word) (defBody s_raised_word) (defScope s_raised_word) [] [] a_raised_word fd_raised_word
  g_raised_word : mg "raised_word" = some (.ref a_raised_word)
  a_lowered_word : Addr
  fd_lowered_word : FuncData
  F_lowered_word : FunD K "lowered_word" "lowered_word" (defArgs s_lowered_word) (defBody s_lowered_word) (defScope s_lowered_word) [] [] a_lowered_word fd_lowered_word
  g_lowered_word : mg "lowered_word" = some (.ref a_lowered_word)
  a_reflected_word : Addr
  fd_reflected_word : FuncData
  F_reflected_word : FunD K "reflected_word" "reflected_word" (defArgs s_reflected_word) (defBody s_reflected_word) (defScope s_reflected_word) [] [] a_reflected_word fd_reflected_word
  g_reflected_word : mg "reflected_word" = some (.ref a_reflected_word)
  a_need_raise : Addr
  fd_need_raise : FuncData
  F_need_raise : FunD K "need_raise" "need_raise" (defArgs s_need_raise) (defBody s_need_raise) (defScope s_need_raise) [] [] a_need_raise fd_need_raise
  g_need_raise : mg "need_raise" = some (.ref a_need_raise)
  a_raised : Addr
  fd_raised : FuncData
  F_raised : FunD K "raised" "raised" (defArgs s_raised) (defBody s_raised) (defScope s_raised) [] [] a_raised fd_raised
  g_raised : mg "raised" = some (.ref a_raised)
  a_lowered : Addr
  fd_lowered : FuncData
  F_lowered : FunD K "lowered" "lowered" (defArgs s_lowered) (defBody s_lowered) (defScope s_lowered) [] [] a_lowered fd_lowered
  g_lowered : mg "lowered" = some (.ref a_lowered)
  a_room_up : Addr
  fd_room_up : FuncData
  F_room_up : FunD K "room_up" "room_up" (defArgs s_room_up) (defBody s_room_up) (defScope s_room_up) [] [] a_room_up fd_room_up
  g_room_up : mg "room_up" = some (.ref a_room_up)
  a_room_down : Addr
  fd_room_down : FuncData
  F_room_down : FunD K "room_down" "room_down" (defArgs s_room_down) (defBody s_room_down) (defScope s_room_down) [] [] a_room_down fd_room_down
  g_room_down : mg "room_down" = some (.ref a_room_down)
  a_reflected : Addr
  fd_reflected : FuncData
  F_reflected : FunD K "reflected" "reflected" (defArgs s_reflected) (defBody s_reflected) (defScope s_reflected) [] [] a_reflected fd_reflected
  g_reflected : mg "reflected" = some (.ref a_reflected)
  a_string_of : Addr
  fd_string_of : FuncData
  F_string_of : FunD K "string_of" "string_of" (defArgs s_string_of) (defBody s_string_of) (defScope s_string_of) [] [] a_string_of fd_string_of
  g_string_of : mg "string_of" = some (.ref a_string_of)
  a_x_law_feed : Addr
  fd_x_law_feed : FuncData
  F_x_law_feed : FunD K "_law_feed" "_law_feed" (defArgs s_x_law_feed) (defBody s_x_law_feed) (defScope s_x_law_feed) [] [] a_x_law_feed fd_x_law_feed
  g_x_law_feed : mg "_law_feed" = some (.ref a_x_law_feed)
  a_x_law_draw : Addr
  fd_x_law_draw : FuncData
  F_x_law_draw : FunD K "_law_draw" "_law_draw" (defArgs s_x_law_draw) (defBody s_x_law_draw) (defScope s_x_law_draw) [] [] a_x_law_draw fd_x_law_draw
  g_x_law_draw : mg "_law_draw" = some (.ref a_x_law_draw)
  a_x_law_one : Addr
  fd_x_law_one : FuncData
  F_x_law_one : FunD K "_law_one" "_law_one" (defArgs s_x_law_one) (defBody s_x_law_one) (defScope s_x_law_one) [] [] a_x_law_one fd_x_law_one
  g_x_law_one : mg "_law_one" = some (.ref a_x_law_one)
  a_x_law_same : Addr
  fd_x_law_same : FuncData
  F_x_law_same : FunD K "_law_same" "_law_same" (defArgs s_x_law_same) (defBody s_x_law_same) (defScope s_x_law_same) [] [] a_x_law_same fd_x_law_same
  g_x_law_same : mg "_law_same" = some (.ref a_x_law_same)
  a_x_law_drawn : Addr
  fd_x_law_drawn : FuncData
  F_x_law_drawn : FunD K "_law_drawn" "_law_drawn" (defArgs s_x_law_drawn) (defBody s_x_law_drawn) (defScope s_x_law_drawn) [] [] a_x_law_drawn fd_x_law_drawn
  g_x_law_drawn : mg "_law_drawn" = some (.ref a_x_law_drawn)
  a_x_law_ends : Addr
  fd_x_law_ends : FuncData
  F_x_law_ends : FunD K "_law_ends" "_law_ends" (defArgs s_x_law_ends) (defBody s_x_law_ends) (defScope s_x_law_ends) [] [] a_x_law_ends fd_x_law_ends
  g_x_law_ends : mg "_law_ends" = some (.ref a_x_law_ends)
  a_x_law_up : Addr
  fd_x_law_up : FuncData
  F_x_law_up : FunD K "_law_up" "_law_up" (defArgs s_x_law_up) (defBody s_x_law_up) (defScope s_x_law_up) [] [] a_x_law_up fd_x_law_up
  g_x_law_up : mg "_law_up" = some (.ref a_x_law_up)
  a_x_law_down : Addr
  fd_x_law_down : FuncData
  F_x_law_down : FunD K "_law_down" "_law_down" (defArgs s_x_law_down) (defBody s_x_law_down) (defScope s_x_law_down) [] [] a_x_law_down fd_x_law_down
  g_x_law_down : mg "_law_down" = some (.ref a_x_law_down)
  a_x_law_right : Addr
  fd_x_law_right : FuncData
  F_x_law_right : FunD K "_law_right" "_law_right" (defArgs s_x_law_right) (defBody s_x_law_right) (defScope s_x_law_right) [] [] a_x_law_right fd_x_law_right
  g_x_law_right : mg "_law_right" = some (.ref a_x_law_right)
  a_law : Addr
  fd_law : FuncData
  F_law : FunD K "law" "law" (defArgs s_law) (defBody s_law) (defScope s_law) [] [] a_law fd_law
  g_law : mg "law" = some (.ref a_law)
  t_MOST_LETTER : Tok
  c_MOST_LETTER : mg "MOST_LETTER" = some (.int 9 t_MOST_LETTER)
  t_MOST_SIZE : Tok
  c_MOST_SIZE : mg "MOST_SIZE" = some (.int 30 t_MOST_SIZE)
  n_all : mg "all" = none
  n_bool : mg "bool" = none
  n_enumerate : mg "enumerate" = none
  n_int : mg "int" = none
  n_isinstance : mg "isinstance" = none
  n_len : mg "len" = none
  n_list : mg "list" = none
  n_max : mg "max" = none
  n_min : mg "min" = none
  n_range : mg "range" = none
  n_str : mg "str" = none
  n_sum : mg "sum" = none
  n_tuple : mg "tuple" = none
  n_zip : mg "zip" = none
section
variable {P : Program} {w : World} {K : PySem.W.Frag} {mg : Str → Option Value} {base : Heap}
theorem b_is_integer (T : Tx K mg) : Binds K T.fd_is_integer ["thing"] [] := FunD.bindsN T.F_is_integer fun _ _ _ _ _ _ us hl => match us, hl with | [_], _ => rfl
theorem b_is_within (T : Tx K mg) : Binds K T.fd_is_within ["thing", "low", "high"] [] := FunD.bindsN T.F_is_within fun _ _ _ _ _ _ us hl => match us, hl with | [_, _, _], _ => rfl
theorem b_need_number (T : Tx K mg) : Binds K T.fd_need_number ["thing", "low", "high"] [] := FunD.bindsN T.F_need_number fun _ _ _ _ _ _ us hl => match us, hl with | [_, _, _], _ => rfl
theorem b_are_letters (T : Tx K mg) : Binds K T.fd_are_letters ["thing", "most"] [] := FunD.bindsN T.F_are_letters fun _ _ _ _ _ _ us hl => match us, hl with | [_, _], _ => rfl
theorem b_is_word_form (T : Tx K mg) : Binds K T.fd_is_word_form ["thing"] [] := FunD.bindsN T.F_is_word_form fun _ _ _ _ _ _ us hl => match us, hl with | [_], _ => rfl
theorem b_need_word (T : Tx K mg) : Binds K T.fd_need_word ["word"] [] := FunD.bindsN T.F_need_word fun _ _ _ _ _ _ us hl => match us, hl with | [_], _ => rfl
theorem b_left_places (T : Tx K mg) : Binds K T.fd_left_places ["word", "i"] [] := FunD.bindsN T.F_left_places fun _ _ _ _ _ _ us hl => match us, hl with | [_, _], _ => rfl
theorem b_with_letter (T : Tx K mg) : Binds K T.fd_with_letter ["word", "place", "letter"] [] := FunD.bindsN T.F_with_letter fun _ _ _ _ _ _ us hl => match us, hl with | [_, _, _], _ => rfl
theorem b_raised_word (T : Tx K mg) : Binds K T.fd_raised_word ["word", "i"] [] := FunD.bindsN T.F_raised_word fun _ _ _ _ _ _ us hl => match us, hl with | [_, _], _ => rfl
theorem b_lowered_word (T : Tx K mg) : Binds K T.fd_lowered_word ["word", "i"] [] := FunD.bindsN T.F_lowered_word fun _ _ _ _ _ _ us hl => match us, hl with | [_, _], _ => rfl
theorem b_reflected_word (T : Tx K mg) : Binds K T.fd_reflected_word ["word", "i"] [] := FunD.bindsN T.F_reflected_word fun _ _ _ _ _ _ us hl => match us, hl with | [_, _], _ => rfl
theorem b_need_raise (T : Tx K mg) : Binds K T.fd_need_raise ["word", "i"] [] := FunD.bindsN T.F_need_raise fun _ _ _ _ _ _ us hl => match us, hl with | [_, _], _ => rfl
theorem b_raised (T : Tx K mg) : Binds K T.fd_raised ["word", "i"] [] := FunD.bindsN T.F_raised fun _ _ _ _ _ _ us hl => match us, hl with | [_, _], _ => rfl
theorem b_lowered (T : Tx K mg) : Binds K T.fd_lowered ["word", "i"] [] := FunD.bindsN T.F_lowered fun _ _ _ _ _ _ us hl => match us, hl with | [_, _], _ => rfl
theorem b_room_up (T : Tx K mg) : Binds K T.fd_room_up ["word", "i"] [] := FunD.bindsN T.F_room_up fun _ _ _ _ _ _ us hl => match us, hl with | [_, _], _ => rfl
theorem b_room_down (T : Tx K mg) : Binds K T.fd_room_down ["word", "i"] [] := FunD.bindsN T.F_room_down fun _ _ _ _ _ _ us hl => match us, hl with | [_, _], _ => rfl
theorem b_reflected (T : Tx K mg) : Binds K T.fd_reflected ["word", "i"] [] := FunD.bindsN T.F_reflected fun _ _ _ _ _ _ us hl => match us, hl with | [_, _], _ => rfl
theorem b_string_of (T : Tx K mg) : Binds K T.fd_string_of ["word", "i"] [] := FunD.bindsN T.F_string_of fun _ _ _ _ _ _ us hl => match us, hl with | [_, _], _ => rfl
theorem b_x_law_feed (T : Tx K mg) : Binds K T.fd_x_law_feed ["script", "k"] [] := FunD.bindsN T.F_x_law_feed fun _ _ _ _ _ _ us hl => match us, hl with | [_, _], _ => rfl
theorem b_x_law_draw (T : Tx K mg) : Binds K T.fd_x_law_draw ["feed", "many"] [] := FunD.bindsN T.F_x_law_draw fun _ _ _ _ _ _ us hl => match us, hl with | [_, _], _ => rfl
theorem b_x_law_one (T : Tx K mg) : Binds K T.fd_x_law_one ["feed", "things"] [] := FunD.bindsN T.F_x_law_one fun _ _ _ _ _ _ us hl => match us, hl with | [_, _], _ => rfl
theorem b_x_law_same (T : Tx K mg) : Binds K T.fd_x_law_same ["told", "due"] [] := FunD.bindsN T.F_x_law_same fun _ _ _ _ _ _ us hl => match us, hl with | [_, _], _ => rfl
theorem b_x_law_drawn (T : Tx K mg) : Binds K T.fd_x_law_drawn ["feed", "i"] [] := FunD.bindsN T.F_x_law_drawn fun _ _ _ _ _ _ us hl => match us, hl with | [_, _], _ => rfl
theorem b_x_law_ends (T : Tx K mg) : Binds K T.fd_x_law_ends ["word", "i"] [] := FunD.bindsN T.F_x_law_ends fun _ _ _ _ _ _ us hl => match us, hl with | [_, _], _ => rfl
theorem b_x_law_up (T : Tx K mg) : Binds K T.fd_x_law_up ["word", "i"] [] := FunD.bindsN T.F_x_law_up fun _ _ _ _ _ _ us hl => match us, hl with | [_, _], _ => rfl
theorem b_x_law_down (T : Tx K mg) : Binds K T.fd_x_law_down ["word", "i"] [] := FunD.bindsN T.F_x_law_down fun _ _ _ _ _ _ us hl => match us, hl with | [_, _], _ => rfl
theorem b_x_law_right (T : Tx K mg) : Binds K T.fd_x_law_right ["feed"] [] := FunD.bindsN T.F_x_law_right fun _ _ _ _ _ _ us hl => match us, hl with | [_], _ => rfl
theorem b_law (T : Tx K mg) : Binds K T.fd_law ["script"] [] := FunD.bindsN T.F_law fun _ _ _ _ _ _ us hl => match us, hl with | [_], _ => rfl
theorem ok_is_integer (T : Tx K mg) : FnOk P w K mg base CX0 1 T.a_is_integer T.fd_is_integer ["thing"] (spD K 1 m_is_integer) := by
  have nd := sc_is_integer.nd
  exact d_fn (k := 0) T.F_is_integer sc_is_integer (by decide) fun cdv A outer s H E hr => (ss_one (s_ret (d_toV (d_and (d_toE (d_isi (t := .int) (by rfl) T.n_isinstance (d_var (pv 0)) (pe_bltn (by rfl) T.n_int (by decide +kernel) rfl))) (d_one (d_toE (d_not (d_toE (d_isi (t := .bool) (by rfl) T.n_isinstance (d_var (pv 0)) (pe_bltn (by rfl) T.n_bool (by decide +kernel) rfl))))))))))
theorem ok_is_within (T : Tx K mg) : FnOk P w K mg base CX0 2 T.a_is_within T.fd_is_within ["thing", "low", "high"] (spD K 3 m_is_within) := by
  have nd := sc_is_within.nd
  exact d_fn (k := 1) T.F_is_within sc_is_within (by decide) fun cdv A outer s H E hr => (ss_one (s_ret (d_toV (d_and (d_toE (d_call ((ok_is_integer T).mono (by decide)) hr (by rfl) T.g_is_integer T.F_is_integer.kp (b_is_integer T) (a_cons (d_var (pv 0)) a_nil) (ln_cons ln_nil))) (d_one (d_toE (d_chain op_le r_le op_le r_le (d_var (pv 1)) (d_var (pv 0)) (d_var (pv 2)) (by with_unfolding_all rfl))))))))
theorem ok_need_number (T : Tx K mg) : FnOk P w K mg base CX0 3 T.a_need_number T.fd_need_number ["thing", "low", "high"] (spD K 3 m_need_number) := by
  have nd := sc_need_number.nd
  exact d_fn (k := 2) T.F_need_number sc_need_number (by decide) fun cdv A outer s H E hr => (ss_one (s_if (t_not (t_truth (d_toE (d_call ((ok_is_within T).mono (by decide)) hr (by rfl) T.g_is_within T.F_is_within.kp (b_is_within T) (a_cons (d_var (pv 0)) (a_cons (d_var (pv 1)) (a_cons (d_var (pv 2)) a_nil))) (ln_cons (ln_cons (ln_cons ln_nil))))) (by intro _; rfl))) (ss_one s_no) ss_nil))
theorem ok_are_letters (T : Tx K mg) : FnOk P w K mg base CX0 3 T.a_are_letters T.fd_are_letters ["thing", "most"] (spD K 2 m_are_letters) := by
  have nd := sc_are_letters.nd
  exact d_fn (k := 2) T.F_are_letters sc_are_letters (by decide) fun cdv A outer s H E hr => (ss_cons (s_if (PW.pt (w_or (t_not (t_truth (d_toE (d_isi (t := .tuple) (by rfl) T.n_isinstance (d_var (pv 0)) (pe_bltn (by rfl) T.n_tuple (by decide +kernel) rfl))) (by intro _; rfl))) (w_or1 (t_gt (d_toE (d_blt call_len rc_len (by rfl) T.n_len (by decide +kernel) (a_cons (d_var (pv 0)) a_nil))) (d_var (pv 1)))))) (ss_one (s_ret (d_toV (d_cst pe_bl fun _ _ => Dq.bl _)))) ss_nil) (ss_one (s_ret (d_blt (cr_all rfl) rc_all (by rfl) T.n_all (by decide +kernel) (a_cons (d_toE (d_comp (own := [("letter", 2)]) (by rfl) nd (i_seq (d_var (pv 0))) (blkOk_by (own := [("letter", 2)]) (N := n_are_letters) (sc := defScope s_are_letters) (by decide +kernel)) (by decide) (fun _ _ _ _ _ => (g_name (pg_name (i := 2) nd rfl (by first | exact Or.inl rfl | exact Or.inr rfl)))) (fun _ _ _ _ _ => ts_nil) (fun _ _ _ _ _ => (d_toE (d_call ((ok_is_within T).mono (by decide)) hr (by rfl) T.g_is_within T.F_is_within.kp (b_is_within T) (a_cons (d_var (pv 2)) (a_cons (d_cst pe_int fun _ _ => Dq.int _) (a_cons (d_cst (pe_glob (v := .int 9) (by rfl) T.c_MOST_LETTER ⟨_, rfl⟩) fun _ _ => Dq.int _) a_nil))) (ln_cons (ln_cons (ln_cons ln_nil)))))))) a_nil)))))
theorem ok_is_word_form (T : Tx K mg) : FnOk P w K mg base CX0 4 T.a_is_word_form T.fd_is_word_form ["thing"] (spD K 1 m_is_word_form) := by
  have nd := sc_is_word_form.nd
  exact d_fn (k := 3) T.F_is_word_form sc_is_word_form (by decide) fun cdv A outer s H E hr => (ss_one (s_ret (d_call ((ok_are_letters T).mono (by decide)) hr (by rfl) T.g_are_letters T.F_are_letters.kp (b_are_letters T) (a_cons (d_var (pv 0)) (a_cons (d_cst (pe_glob (v := .int 30) (by rfl) T.c_MOST_SIZE ⟨_, rfl⟩) fun _ _ => Dq.int _) a_nil)) (ln_cons (ln_cons ln_nil)))))
theorem ok_need_word (T : Tx K mg) : FnOk P w K mg base CX0 5 T.a_need_word T.fd_need_word ["word"] (spD K 1 m_need_word) := by
  have nd := sc_need_word.nd
  exact d_fn (k := 4) T.F_need_word sc_need_word (by decide) fun cdv A outer s H E hr => (ss_one (s_if (t_not (t_truth (d_toE (d_call ((ok_is_word_form T).mono (by decide)) hr (by rfl) T.g_is_word_form T.F_is_word_form.kp (b_is_word_form T) (a_cons (d_var (pv 0)) a_nil) (ln_cons ln_nil))) (by intro _; rfl))) (ss_one s_no) ss_nil))
theorem ok_left_places (T : Tx K mg) : FnOk P w K mg base CX0 1 T.a_left_places T.fd_left_places ["word", "i"] (spD K 2 m_left_places) := by
  have nd := sc_left_places.nd
  exact d_fn (k := 0) T.F_left_places sc_left_places (by decide) fun cdv A outer s H E hr => (ss_cons (s_par (i := 2) (j := 3) rfl nd rfl rfl (by decide) rfl rfl (d_lst a_nil) (d_lst a_nil) rfl) (ss_cons (s_for PassesOwn.never rfl (i_enum (by rfl) T.n_enumerate (d_var (pv 0))) (g_tup rfl (gs_cons (g_name (pg_name (i := 4) nd rfl (by first | exact Or.inl rfl | exact Or.inr rfl))) (gs_cons (g_name (pg_name (i := 5) nd rfl (by first | exact Or.inl rfl | exact Or.inr rfl))) gs_nil)) (hl_cons (hl_cons hl_nil))) (ss_one (s_if (t_eq hr.units (d_var (pv 5)) (d_toE (d_add (d_var (pv 1)) (d_cst pe_int fun _ _ => Dq.int _)))) (ss_one (s_expr (d_append (pv 2) (d_var (pv 4))))) (ss_one (s_if (PW.pt (w_and (t_eq hr.units (d_var (pv 5)) (d_var (pv 1))) (w_and1 (t_ne hr.units (d_var (pv 2)) (d_toE (d_lst a_nil)))))) (ss_one (s_expr (d_pop (pv 2)))) (ss_one (s_if (t_eq hr.units (d_var (pv 5)) (d_var (pv 1))) (ss_one (s_expr (d_append (pv 3) (d_var (pv 4))))) ss_nil))))))) (ss_one (s_ret (d_tup (a_cons (d_var (pv 3)) (a_cons (d_var (pv 2)) a_nil)))))))
theorem ok_with_letter (T : Tx K mg) : FnOk P w K mg base CX0 1 T.a_with_letter T.fd_with_letter ["word", "place", "letter"] (spD K 3 m_with_letter) := by
  have nd := sc_with_letter.nd
  exact d_fn (k := 0) T.F_with_letter sc_with_letter (by decide) fun cdv A outer s H E hr => (ss_one (s_ret (d_add (d_toE (d_add (d_toE (d_cut (d_var (pv 0)) o_none (o_some (d_var (pv 1))))) (d_toE (d_tup (a_cons (d_var (pv 2)) a_nil))))) (d_toE (d_cut (d_var (pv 0)) (o_some (d_toE (d_add (d_var (pv 1)) (d_cst pe_int fun _ _ => Dq.int _)))) o_none)))))
theorem ok_raised_word (T : Tx K mg) : FnOk P w K mg base CX0 2 T.a_raised_word T.fd_raised_word ["word", "i"] (spD K 2 m_raised_word) := by
  have nd := sc_raised_word.nd
  exact d_fn (k := 1) T.F_raised_word sc_raised_word (by decide) fun cdv A outer s H E hr => (ss_cons (s_set (i := 2) nd rfl (by first | exact Or.inl rfl | exact Or.inr rfl) (d_ix (d_toE (d_call ((ok_left_places T).mono (by decide)) hr (by rfl) T.g_left_places T.F_left_places.kp (b_left_places T) (a_cons (d_var (pv 0)) (a_cons (d_var (pv 1)) a_nil)) (ln_cons (ln_cons ln_nil)))) (d_cst pe_int fun _ _ => Dq.int _) (fun _ _ => rfl))) (ss_one (s_ret (d_toV (d_if (t_ne hr.units (d_var (pv 2)) (d_toE (d_lst a_nil))) (d_toE (d_call ((ok_with_letter T).mono (by decide)) hr (by rfl) T.g_with_letter T.F_with_letter.kp (b_with_letter T) (a_cons (d_var (pv 0)) (a_cons (d_toE (d_ix (d_var (pv 2)) (d_cst pe_int fun _ _ => Dq.int _) (fun _ _ => rfl))) (a_cons (d_var (pv 1)) a_nil))) (ln_cons (ln_cons (ln_cons ln_nil))))) (d_cst pe_non fun _ _ => Dq.non))))))
theorem ok_lowered_word (T : Tx K mg) : FnOk P w K mg base CX0 2 T.a_lowered_word T.fd_lowered_word ["word", "i"] (spD K 2 m_lowered_word) := by
  have nd := sc_lowered_word.nd
  exact d_fn (k := 1) T.F_lowered_word sc_lowered_word (by decide) fun cdv A outer s H E hr => (ss_cons (s_set (i := 2) nd rfl (by first | exact Or.inl rfl | exact Or.inr rfl) (d_ix (d_toE (d_call ((ok_left_places T).mono (by decide)) hr (by rfl) T.g_left_places T.F_left_places.kp (b_left_places T) (a_cons (d_var (pv 0)) (a_cons (d_var (pv 1)) a_nil)) (ln_cons (ln_cons ln_nil)))) (d_cst pe_int fun _ _ => Dq.int _) (fun _ _ => rfl))) (ss_one (s_ret (d_toV (d_if (t_ne hr.units (d_var (pv 2)) (d_toE (d_lst a_nil))) (d_toE (d_call ((ok_with_letter T).mono (by decide)) hr (by rfl) T.g_with_letter T.F_with_letter.kp (b_with_letter T) (a_cons (d_var (pv 0)) (a_cons (d_toE (d_ix (d_var (pv 2)) (d_toE (d_neg (d_cst pe_int fun _ _ => Dq.int _))) (fun _ _ => rfl))) (a_cons (d_toE (d_add (d_var (pv 1)) (d_cst pe_int fun _ _ => Dq.int _))) a_nil))) (ln_cons (ln_cons (ln_cons ln_nil))))) (d_cst pe_non fun _ _ => Dq.non))))))
theorem ok_reflected_word (T : Tx K mg) : FnOk P w K mg base CX0 2 T.a_reflected_word T.fd_reflected_word ["word", "i"] (spD K 2 m_reflected_word) := by
  have nd := sc_reflected_word.nd
  exact d_fn (k := 1) T.F_reflected_word sc_reflected_word (by decide) fun cdv A outer s H E hr => (ss_cons (s_asg (d_call ((ok_left_places T).mono (by decide)) hr (by rfl) T.g_left_places T.F_left_places.kp (b_left_places T) (a_cons (d_var (pv 0)) (a_cons (d_var (pv 1)) a_nil)) (ln_cons (ln_cons ln_nil))) (g_tup rfl (gs_cons (g_name (pg_name (i := 2) nd rfl (by first | exact Or.inl rfl | exact Or.inr rfl))) (gs_cons (g_name (pg_name (i := 3) nd rfl (by first | exact Or.inl rfl | exact Or.inr rfl))) gs_nil)) (hl_cons (hl_cons hl_nil)))) (ss_cons (s_for PassesOwn.never rfl (i_enum (by rfl) T.n_enumerate (d_toE (d_add (d_var (pv 2)) (d_var (pv 3))))) (g_tup rfl (gs_cons (g_name (pg_name (i := 4) nd rfl (by first | exact Or.inl rfl | exact Or.inr rfl))) (gs_cons (g_name (pg_name (i := 5) nd rfl (by first | exact Or.inl rfl | exact Or.inr rfl))) gs_nil)) (hl_cons (hl_cons hl_nil))) (ss_one (s_set (i := 0) nd rfl (by first | exact Or.inl rfl | exact Or.inr rfl) (d_call ((ok_with_letter T).mono (by decide)) hr (by rfl) T.g_with_letter T.F_with_letter.kp (b_with_letter T) (a_cons (d_var (pv 0)) (a_cons (d_var (pv 5)) (a_cons (d_if (t_lt (d_var (pv 4)) (d_toE (d_blt call_len rc_len (by rfl) T.n_len (by decide +kernel) (a_cons (d_var (pv 3)) a_nil)))) (d_var (pv 1)) (d_toE (d_add (d_var (pv 1)) (d_cst pe_int fun _ _ => Dq.int _)))) a_nil))) (ln_cons (ln_cons (ln_cons ln_nil))))))) (ss_one (s_ret (d_toV (d_var (pv 0)))))))
theorem ok_need_raise (T : Tx K mg) : FnOk P w K mg base CX0 6 T.a_need_raise T.fd_need_raise ["word", "i"] (spD K 2 m_need_raise) := by
  have nd := sc_need_raise.nd
  exact d_fn (k := 5) T.F_need_raise sc_need_raise (by decide) fun cdv A outer s H E hr => (ss_cons (s_expr (d_call ((ok_need_word T).mono (by decide)) hr (by rfl) T.g_need_word T.F_need_word.kp (b_need_word T) (a_cons (d_var (pv 0)) a_nil) (ln_cons ln_nil))) (ss_one (s_expr (d_call ((ok_need_number T).mono (by decide)) hr (by rfl) T.g_need_number T.F_need_number.kp (b_need_number T) (a_cons (d_var (pv 1)) (a_cons (d_cst pe_int fun _ _ => Dq.int _) (a_cons (d_toE (d_sub (d_cst (pe_glob (v := .int 9) (by rfl) T.c_MOST_LETTER ⟨_, rfl⟩) fun _ _ => Dq.int _) (d_cst pe_int fun _ _ => Dq.int _))) a_nil))) (ln_cons (ln_cons (ln_cons ln_nil)))))))
theorem ok_raised (T : Tx K mg) : FnOk P w K mg base CX0 7 T.a_raised T.fd_raised ["word", "i"] (spD K 2 m_raised) := by
  have nd := sc_raised.nd
  exact d_fn (k := 6) T.F_raised sc_raised (by decide) fun cdv A outer s H E hr => (ss_cons (s_expr (d_call ((ok_need_raise T).mono (by decide)) hr (by rfl) T.g_need_raise T.F_need_raise.kp (b_need_raise T) (a_cons (d_var (pv 0)) (a_cons (d_var (pv 1)) a_nil)) (ln_cons (ln_cons ln_nil)))) (ss_one (s_ret (d_call ((ok_raised_word T).mono (by decide)) hr (by rfl) T.g_raised_word T.F_raised_word.kp (b_raised_word T) (a_cons (d_var (pv 0)) (a_cons (d_var (pv 1)) a_nil)) (ln_cons (ln_cons ln_nil))))))
theorem ok_lowered (T : Tx K mg) : FnOk P w K mg base CX0 7 T.a_lowered T.fd_lowered ["word", "i"] (spD K 2 m_lowered) := by
  have nd := sc_lowered.nd
  exact d_fn (k := 6) T.F_lowered sc_lowered (by decide) fun cdv A outer s H E hr => (ss_cons (s_expr (d_call ((ok_need_raise T).mono (by decide)) hr (by rfl) T.g_need_raise T.F_need_raise.kp (b_need_raise T) (a_cons (d_var (pv 0)) (a_cons (d_var (pv 1)) a_nil)) (ln_cons (ln_cons ln_nil)))) (ss_one (s_ret (d_call ((ok_lowered_word T).mono (by decide)) hr (by rfl) T.g_lowered_word T.F_lowered_word.kp (b_lowered_word T) (a_cons (d_var (pv 0)) (a_cons (d_var (pv 1)) a_nil)) (ln_cons (ln_cons ln_nil))))))
theorem ok_room_up (T : Tx K mg) : FnOk P w K mg base CX0 7 T.a_room_up T.fd_room_up ["word", "i"] (spD K 2 m_room_up) := by
  have nd := sc_room_up.nd
  exact d_fn (k := 6) T.F_room_up sc_room_up (by decide) fun cdv A outer s H E hr => (ss_cons (s_expr (d_call ((ok_need_raise T).mono (by decide)) hr (by rfl) T.g_need_raise T.F_need_raise.kp (b_need_raise T) (a_cons (d_var (pv 0)) (a_cons (d_var (pv 1)) a_nil)) (ln_cons (ln_cons ln_nil)))) (ss_one (s_ret (d_blt call_len rc_len (by rfl) T.n_len (by decide +kernel) (a_cons (d_toE (d_ix (d_toE (d_call ((ok_left_places T).mono (by decide)) hr (by rfl) T.g_left_places T.F_left_places.kp (b_left_places T) (a_cons (d_var (pv 0)) (a_cons (d_var (pv 1)) a_nil)) (ln_cons (ln_cons ln_nil)))) (d_cst pe_int fun _ _ => Dq.int _) (fun _ _ => rfl))) a_nil)))))
theorem ok_room_down (T : Tx K mg) : FnOk P w K mg base CX0 7 T.a_room_down T.fd_room_down ["word", "i"] (spD K 2 m_room_down) := by
  have nd := sc_room_down.nd
  exact d_fn (k := 6) T.F_room_down sc_room_down (by decide) fun cdv A outer s H E hr => (ss_cons (s_expr (d_call ((ok_need_raise T).mono (by decide)) hr (by rfl) T.g_need_raise T.F_need_raise.kp (b_need_raise T) (a_cons (d_var (pv 0)) (a_cons (d_var (pv 1)) a_nil)) (ln_cons (ln_cons ln_nil)))) (ss_one (s_ret (d_blt call_len rc_len (by rfl) T.n_len (by decide +kernel) (a_cons (d_toE (d_ix (d_toE (d_call ((ok_left_places T).mono (by decide)) hr (by rfl) T.g_left_places T.F_left_places.kp (b_left_places T) (a_cons (d_var (pv 0)) (a_cons (d_var (pv 1)) a_nil)) (ln_cons (ln_cons ln_nil)))) (d_cst pe_int fun _ _ => Dq.int _) (fun _ _ => rfl))) a_nil)))))
theorem ok_reflected (T : Tx K mg) : FnOk P w K mg base CX0 7 T.a_reflected T.fd_reflected ["word", "i"] (spD K 2 m_reflected) := by
  have nd := sc_reflected.nd
  exact d_fn (k := 6) T.F_reflected sc_reflected (by decide) fun cdv A outer s H E hr => (ss_cons (s_expr (d_call ((ok_need_raise T).mono (by decide)) hr (by rfl) T.g_need_raise T.F_need_raise.kp (b_need_raise T) (a_cons (d_var (pv 0)) (a_cons (d_var (pv 1)) a_nil)) (ln_cons (ln_cons ln_nil)))) (ss_one (s_ret (d_call ((ok_reflected_word T).mono (by decide)) hr (by rfl) T.g_reflected_word T.F_reflected_word.kp (b_reflected_word T) (a_cons (d_var (pv 0)) (a_cons (d_var (pv 1)) a_nil)) (ln_cons (ln_cons ln_nil))))))
theorem ok_string_of (T : Tx K mg) : FnOk P w K mg base CX0 7 T.a_string_of T.fd_string_of ["word", "i"] (spD K 2 m_string_of) := by
  have nd := sc_string_of.nd
  exact d_fn (k := 6) T.F_string_of sc_string_of (by decide) fun cdv A outer s H E hr => (ss_cons (s_expr (d_call ((ok_need_raise T).mono (by decide)) hr (by rfl) T.g_need_raise T.F_need_raise.kp (b_need_raise T) (a_cons (d_var (pv 0)) (a_cons (d_var (pv 1)) a_nil)) (ln_cons (ln_cons ln_nil)))) (ss_cons (s_while 4000 PassesOwn.never (t_notN (d_toE (d_call ((ok_raised_word T).mono (by decide)) hr (by rfl) T.g_raised_word T.F_raised_word.kp (b_raised_word T) (a_cons (d_var (pv 0)) (a_cons (d_var (pv 1)) a_nil)) (ln_cons (ln_cons ln_nil)))) (d_cst pe_non fun _ _ => Dq.non)) (ss_one (s_set (i := 0) nd rfl (by first | exact Or.inl rfl | exact Or.inr rfl) (d_call ((ok_raised_word T).mono (by decide)) hr (by rfl) T.g_raised_word T.F_raised_word.kp (b_raised_word T) (a_cons (d_var (pv 0)) (a_cons (d_var (pv 1)) a_nil)) (ln_cons (ln_cons ln_nil)))))) (ss_cons (s_set (i := 2) nd rfl (by first | exact Or.inl rfl | exact Or.inr rfl) (d_lst (a_cons (d_var (pv 0)) a_nil))) (ss_cons (s_while 4000 PassesOwn.never (t_notN (d_toE (d_call ((ok_lowered_word T).mono (by decide)) hr (by rfl) T.g_lowered_word T.F_lowered_word.kp (b_lowered_word T) (a_cons (d_toE (d_ix (d_var (pv 2)) (d_toE (d_neg (d_cst pe_int fun _ _ => Dq.int _))) (fun _ _ => rfl))) (a_cons (d_var (pv 1)) a_nil)) (ln_cons (ln_cons ln_nil)))) (d_cst pe_non fun _ _ => Dq.non)) (ss_one (s_expr (d_append (pv 2) (d_toE (d_call ((ok_lowered_word T).mono (by decide)) hr (by rfl) T.g_lowered_word T.F_lowered_word.kp (b_lowered_word T) (a_cons (d_toE (d_ix (d_var (pv 2)) (d_toE (d_neg (d_cst pe_int fun _ _ => Dq.int _))) (fun _ _ => rfl))) (a_cons (d_var (pv 1)) a_nil)) (ln_cons (ln_cons ln_nil)))))))) (ss_one (s_ret (d_toV (d_var (pv 2)))))))))
theorem ok_x_law_feed (T : Tx K mg) : FnOk P w K mg base CX0 1 T.a_x_law_feed T.fd_x_law_feed ["script", "k"] (spD K 2 m_x_law_feed) := by
  have nd := sc_x_law_feed.nd
  exact d_fn (k := 0) T.F_x_law_feed sc_x_law_feed (by decide) fun cdv A outer s H E hr => (ss_cons (s_set (i := 2) nd rfl (by first | exact Or.inl rfl | exact Or.inr rfl) (d_add (d_toE (d_mul (d_cst pe_int fun _ _ => Dq.int _) (d_var (pv 1)))) (d_toE (d_mul (d_cst pe_int fun _ _ => Dq.int _) (d_toE (d_blt (cr_sumA rfl) rc_sum (by rfl) T.n_sum (by decide +kernel) (a_cons (d_toE (d_cut (d_var (pv 0)) o_none (o_some (d_cst pe_int fun _ _ => Dq.int _)))) a_nil))))))) (ss_cons (s_if (t_lt (d_var (pv 1)) (d_toE (d_blt call_len rc_len (by rfl) T.n_len (by decide +kernel) (a_cons (d_var (pv 0)) a_nil)))) (ss_one (s_set (i := 2) nd rfl (by first | exact Or.inl rfl | exact Or.inr rfl) (d_ix (d_var (pv 0)) (d_var (pv 1)) (fun _ _ => rfl)))) ss_nil) (ss_one (s_ret (d_lst (a_cons (d_toE (d_blt (call_max2 rfl) rc_max2 (by rfl) T.n_max (by decide +kernel) (a_cons (d_cst pe_int fun _ _ => Dq.int _) (a_cons (d_toE (d_sub (d_var (pv 2)) (d_toE (d_pow (d_cst pe_int fun _ _ => Dq.int _) (d_cst pe_int fun _ _ => Dq.int _))))) a_nil)))) (a_cons (d_toE (d_mod (d_toE (d_ty call_int1 rc_int (by rfl) T.n_int (by decide +kernel) (a_cons (d_toE (d_add (d_toE (d_add (d_toE (d_mul (d_var (pv 2)) (d_cst pe_int fun _ _ => Dq.int _))) (d_toE (d_mul (d_cst pe_int fun _ _ => Dq.int _) (d_var (pv 1)))))) (d_cst pe_int fun _ _ => Dq.int _))) a_nil))) (d_toE (d_add (d_toE (d_pow (d_cst pe_int fun _ _ => Dq.int _) (d_cst pe_int fun _ _ => Dq.int _))) (d_cst pe_int fun _ _ => Dq.int _))))) (a_cons (d_cst pe_int fun _ _ => Dq.int _) a_nil))))))))
theorem ok_x_law_draw (T : Tx K mg) : FnOk P w K mg base CX0 1 T.a_x_law_draw T.fd_x_law_draw ["feed", "many"] (spD K 2 m_x_law_draw) := by
  have nd := sc_x_law_draw.nd
  exact d_fn (k := 0) T.F_x_law_draw sc_x_law_draw (by decide) fun cdv A outer s H E hr => (ss_cons (s_if (t_gt (d_toE (d_ix (d_var (pv 0)) (d_cst pe_int fun _ _ => Dq.int _) (fun _ _ => rfl))) (d_cst pe_int fun _ _ => Dq.int _)) (ss_cons (s_set (i := 2) nd rfl (by first | exact Or.inl rfl | exact Or.inr rfl) (d_mod (d_toE (d_ty call_int1 rc_int (by rfl) T.n_int (by decide +kernel) (a_cons (d_toE (d_ix (d_var (pv 0)) (d_cst pe_int fun _ _ => Dq.int _) (fun _ _ => rfl))) a_nil))) (d_var (pv 1)))) (ss_cons (s_setIx (i := 0) (pv 0) (d_cst pe_int fun _ _ => Dq.int _) (d_div (d_toE (d_ix (d_var (pv 0)) (d_cst pe_int fun _ _ => Dq.int _) (fun _ _ => rfl))) (d_var (pv 1)))) (ss_one (s_ret (d_toV (d_var (pv 2))))))) ss_nil) (ss_cons (s_setIx (i := 0) (pv 0) (d_cst pe_int fun _ _ => Dq.int _) (d_add (d_toE (d_ix (d_var (pv 0)) (d_cst pe_int fun _ _ => Dq.int _) (fun _ _ => rfl))) (d_cst pe_int fun _ _ => Dq.int _))) (ss_cons (s_set (i := 3) nd rfl (by first | exact Or.inl rfl | exact Or.inr rfl) (d_add (d_toE (d_ix (d_var (pv 0)) (d_cst pe_int fun _ _ => Dq.int _) (fun _ _ => rfl))) (d_toE (d_mul (d_cst pe_int fun _ _ => Dq.int _) (d_toE (d_ix (d_var (pv 0)) (d_cst pe_int fun _ _ => Dq.int _) (fun _ _ => rfl))))))) (ss_cons (s_set (i := 3) nd rfl (by first | exact Or.inl rfl | exact Or.inr rfl) (d_mod (d_toE (d_ty call_int1 rc_int (by rfl) T.n_int (by decide +kernel) (a_cons (d_toE (d_add (d_toE (d_add (d_toE (d_mul (d_toE (d_mul (d_var (pv 3)) (d_var (pv 3)))) (d_var (pv 3)))) (d_toE (d_mul (d_cst pe_int fun _ _ => Dq.int _) (d_toE (d_ix (d_var (pv 0)) (d_cst pe_int fun _ _ => Dq.int _) (fun _ _ => rfl))))))) (d_cst pe_int fun _ _ => Dq.int _))) a_nil))) (d_toE (d_add (d_toE (d_pow (d_cst pe_int fun _ _ => Dq.int _) (d_cst pe_int fun _ _ => Dq.int _))) (d_cst pe_int fun _ _ => Dq.int _))))) (ss_cons (s_set (i := 3) nd rfl (by first | exact Or.inl rfl | exact Or.inr rfl) (d_mod (d_toE (d_ty call_int1 rc_int (by rfl) T.n_int (by decide +kernel) (a_cons (d_toE (d_add (d_toE (d_mul (d_var (pv 3)) (d_var (pv 3)))) (d_cst pe_int fun _ _ => Dq.int _))) a_nil))) (d_toE (d_add (d_toE (d_pow (d_cst pe_int fun _ _ => Dq.int _) (d_cst pe_int fun _ _ => Dq.int _))) (d_cst pe_int fun _ _ => Dq.int _))))) (ss_one (s_ret (d_mod (d_toE (d_ty call_int1 rc_int (by rfl) T.n_int (by decide +kernel) (a_cons (d_toE (d_div (d_var (pv 3)) (d_toE (d_pow (d_cst pe_int fun _ _ => Dq.int _) (d_cst pe_int fun _ _ => Dq.int _))))) a_nil))) (d_var (pv 1))))))))))
theorem ok_x_law_one (T : Tx K mg) : FnOk P w K mg base CX0 2 T.a_x_law_one T.fd_x_law_one ["feed", "things"] (spD K 2 m_x_law_one) := by
  have nd := sc_x_law_one.nd
  exact d_fn (k := 1) T.F_x_law_one sc_x_law_one (by decide) fun cdv A outer s H E hr => (ss_one (s_ret (d_ix (d_var (pv 1)) (d_toE (d_call ((ok_x_law_draw T).mono (by decide)) hr (by rfl) T.g_x_law_draw T.F_x_law_draw.kp (b_x_law_draw T) (a_cons (d_var (pv 0)) (a_cons (d_toE (d_blt call_len rc_len (by rfl) T.n_len (by decide +kernel) (a_cons (d_var (pv 1)) a_nil))) a_nil)) (ln_cons (ln_cons ln_nil)))) (fun _ _ => rfl))))
theorem ok_x_law_same (T : Tx K mg) : ∀ n, FnOk P w K mg base CX0 (0 + n) T.a_x_law_same T.fd_x_law_same ["told", "due"] (spD K 2 (m_x_law_same n))
  | 0 => ⟨fun vs H Q E h => by obtain ⟨_, _, _, _, _, hv, _⟩ := h; exact hv, fun A outer s H args us vs Q E hr he hb hv h => by obtain ⟨_, _, _, _, _, _, _, hm, _⟩ := h; cases hm⟩
  | n + 1 => by
    have ih := ok_x_law_same T n
    have nd := sc_x_law_same.nd
    exact d_fn T.F_x_law_same sc_x_law_same (by decide) fun cdv A outer s H E hr => (ss_cons (s_if (t_isN (d_var (pv 1)) (d_cst pe_non fun _ _ => Dq.non)) (ss_one (s_ret (d_isN (d_var (pv 0)) (d_cst pe_non fun _ _ => Dq.non)))) ss_nil) (ss_cons (s_if (t_truth (d_toE (d_isi (t := .bool) (by rfl) T.n_isinstance (d_var (pv 1)) (pe_bltn (by rfl) T.n_bool (by decide +kernel) rfl))) (by intro _; rfl)) (ss_one (s_ret (d_toV (d_and (d_toE (d_isi (t := .bool) (by rfl) T.n_isinstance (d_var (pv 0)) (pe_bltn (by rfl) T.n_bool (by decide +kernel) rfl))) (d_one (d_toE (d_eq hr.units (d_var (pv 0)) (d_var (pv 1))))))))) ss_nil) (ss_cons (s_if (t_truth (d_toE (d_isi (t := .int) (by rfl) T.n_isinstance (d_var (pv 1)) (pe_bltn (by rfl) T.n_int (by decide +kernel) rfl))) (by intro _; rfl)) (ss_one (s_ret (d_toV (d_and (d_toE (d_isi (t := .int) (by rfl) T.n_isinstance (d_var (pv 0)) (pe_bltn (by rfl) T.n_int (by decide +kernel) rfl))) (d_and (d_toE (d_not (d_toE (d_isi (t := .bool) (by rfl) T.n_isinstance (d_var (pv 0)) (pe_bltn (by rfl) T.n_bool (by decide +kernel) rfl))))) (d_one (d_toE (d_eq hr.units (d_var (pv 0)) (d_var (pv 1)))))))))) ss_nil) (ss_cons (s_if (t_truth (d_toE (d_isi (t := .str) (by rfl) T.n_isinstance (d_var (pv 1)) (pe_bltn (by rfl) T.n_str (by decide +kernel) rfl))) (by intro _; rfl)) (ss_one (s_ret (d_toV (d_and (d_toE (d_isi (t := .str) (by rfl) T.n_isinstance (d_var (pv 0)) (pe_bltn (by rfl) T.n_str (by decide +kernel) rfl))) (d_one (d_toE (d_eq hr.units (d_var (pv 0)) (d_var (pv 1))))))))) ss_nil) (ss_cons (s_if (PW.pt (w_or (t_ne hr.units (d_toE (d_isi (t := .list) (by rfl) T.n_isinstance (d_var (pv 1)) (pe_bltn (by rfl) T.n_list (by decide +kernel) rfl))) (d_toE (d_isi (t := .list) (by rfl) T.n_isinstance (d_var (pv 0)) (pe_bltn (by rfl) T.n_list (by decide +kernel) rfl)))) (w_or (t_not (t_truth (d_toE (d_isi2 (t := .list) (u := .tuple) (by rfl) T.n_isinstance (d_var (pv 0)) (pe_bltn (by rfl) T.n_list (by decide +kernel) rfl) (pe_bltn (by rfl) T.n_tuple (by decide +kernel) rfl))) (by intro _; rfl))) (w_or1 (t_ne hr.units (d_toE (d_blt call_len rc_len (by rfl) T.n_len (by decide +kernel) (a_cons (d_var (pv 0)) a_nil))) (d_toE (d_blt call_len rc_len (by rfl) T.n_len (by decide +kernel) (a_cons (d_var (pv 1)) a_nil)))))))) (ss_one (s_ret (d_toV (d_cst pe_bl fun _ _ => Dq.bl _)))) ss_nil) (ss_one (s_ret (d_eq hr.units (d_toE (d_comp (own := [("one", 2), ("other", 3)]) (by rfl) nd (i_zip (by rfl) T.n_zip (a_cons (d_var (pv 0)) (a_cons (d_var (pv 1)) a_nil))) (blkOk_by (own := [("one", 2), ("other", 3)]) (N := n_x_law_same) (sc := defScope s_x_law_same) (by decide +kernel)) (by decide) (fun _ _ _ _ _ => (g_tup rfl (gs_cons (g_name (pg_name (i := 2) nd rfl (by first | exact Or.inl rfl | exact Or.inr rfl))) (gs_cons (g_name (pg_name (i := 3) nd rfl (by first | exact Or.inl rfl | exact Or.inr rfl))) gs_nil)) (hl_cons (hl_cons hl_nil)))) (fun _ _ _ _ _ => (ts_one (t_not (t_truth (d_toE (d_call ih hr (by rfl) T.g_x_law_same T.F_x_law_same.kp (b_x_law_same T) (a_cons (d_var (pv 2)) (a_cons (d_var (pv 3)) a_nil)) (ln_cons (ln_cons ln_nil)))) (by intro _; rfl))))) (fun _ _ _ _ _ => (d_cst pe_int fun _ _ => Dq.int _)))) (d_toE (d_lst a_nil))))))))))
theorem ok_x_law_drawn (T : Tx K mg) : FnOk P w K mg base CX0 3 T.a_x_law_drawn T.fd_x_law_drawn ["feed", "i"] (spD K 2 m_x_law_drawn) := by
  have nd := sc_x_law_drawn.nd
  exact d_fn (k := 2) T.F_x_law_drawn sc_x_law_drawn (by decide) fun cdv A outer s H E hr => (ss_cons (s_par (i := 2) (j := 3) rfl nd rfl rfl (by decide) rfl rfl (d_call ((ok_x_law_one T).mono (by decide)) hr (by rfl) T.g_x_law_one T.F_x_law_one.kp (b_x_law_one T) (a_cons (d_var (pv 0)) (a_cons (d_toE (d_lst (a_cons (d_cst pe_int fun _ _ => Dq.int _) (a_cons (d_cst pe_int fun _ _ => Dq.int _) (a_cons (d_cst pe_int fun _ _ => Dq.int _) (a_cons (d_cst pe_int fun _ _ => Dq.int _) (a_cons (d_cst pe_int fun _ _ => Dq.int _) (a_cons (d_cst pe_int fun _ _ => Dq.int _) (a_cons (d_toE (d_call ((ok_x_law_draw T).mono (by decide)) hr (by rfl) T.g_x_law_draw T.F_x_law_draw.kp (b_x_law_draw T) (a_cons (d_var (pv 0)) (a_cons (d_cst pe_int fun _ _ => Dq.int _) a_nil)) (ln_cons (ln_cons ln_nil)))) a_nil))))))))) a_nil)) (ln_cons (ln_cons ln_nil))) (d_call ((ok_x_law_draw T).mono (by decide)) hr (by rfl) T.g_x_law_draw T.F_x_law_draw.kp (b_x_law_draw T) (a_cons (d_var (pv 0)) (a_cons (d_cst pe_int fun _ _ => Dq.int _) a_nil)) (ln_cons (ln_cons ln_nil))) rfl) (ss_cons (s_set (i := 4) nd rfl (by first | exact Or.inl rfl | exact Or.inr rfl) (d_lst (a_cons (d_var (pv 1)) (a_cons (d_toE (d_add (d_var (pv 1)) (d_cst pe_int fun _ _ => Dq.int _))) (a_cons (d_var (pv 1)) (a_cons (d_toE (d_add (d_var (pv 1)) (d_cst pe_int fun _ _ => Dq.int _))) (a_cons (d_toE (d_add (d_cst pe_int fun _ _ => Dq.int _) (d_toE (d_call ((ok_x_law_draw T).mono (by decide)) hr (by rfl) T.g_x_law_draw T.F_x_law_draw.kp (b_x_law_draw T) (a_cons (d_var (pv 0)) (a_cons (d_cst pe_int fun _ _ => Dq.int _) a_nil)) (ln_cons (ln_cons ln_nil)))))) a_nil))))))) (ss_cons (s_if (t_eq hr.units (d_var (pv 3)) (d_cst pe_int fun _ _ => Dq.int _)) (ss_one (s_ret (d_ty call_tuple_of rc_tuple (by rfl) T.n_tuple (by decide +kernel) (a_cons (d_toE (d_cut (d_toE (d_add (d_toE (d_add (d_toE (d_add (d_toE (d_mul (d_toE (d_lst (a_cons (d_toE (d_add (d_var (pv 1)) (d_cst pe_int fun _ _ => Dq.int _))) a_nil))) (d_toE (d_call ((ok_x_law_draw T).mono (by decide)) hr (by rfl) T.g_x_law_draw T.F_x_law_draw.kp (b_x_law_draw T) (a_cons (d_var (pv 0)) (a_cons (d_cst pe_int fun _ _ => Dq.int _) a_nil)) (ln_cons (ln_cons ln_nil)))))) (d_toE (d_mul (d_toE (d_lst (a_cons (d_var (pv 1)) a_nil))) (d_toE (d_call ((ok_x_law_draw T).mono (by decide)) hr (by rfl) T.g_x_law_draw T.F_x_law_draw.kp (b_x_law_draw T) (a_cons (d_var (pv 0)) (a_cons (d_cst pe_int fun _ _ => Dq.int _) a_nil)) (ln_cons (ln_cons ln_nil)))))))) (d_toE (d_mul (d_toE (d_lst (a_cons (d_toE (d_add (d_var (pv 1)) (d_cst pe_int fun _ _ => Dq.int _))) a_nil))) (d_cst pe_int fun _ _ => Dq.int _))))) (d_toE (d_mul (d_toE (d_lst (a_cons (d_var (pv 1)) a_nil))) (d_cst pe_int fun _ _ => Dq.int _))))) o_none (o_some (d_var (pv 2))))) a_nil)))) ss_nil) (ss_cons (s_if (t_eq hr.units (d_var (pv 3)) (d_cst pe_int fun _ _ => Dq.int _)) (ss_one (s_ret (d_ty call_tuple_of rc_tuple (by rfl) T.n_tuple (by decide +kernel) (a_cons (d_toE (d_cut (d_toE (d_mul (d_toE (d_lst (a_cons (d_var (pv 1)) (a_cons (d_toE (d_add (d_var (pv 1)) (d_cst pe_int fun _ _ => Dq.int _))) (a_cons (d_toE (d_call ((ok_x_law_one T).mono (by decide)) hr (by rfl) T.g_x_law_one T.F_x_law_one.kp (b_x_law_one T) (a_cons (d_var (pv 0)) (a_cons (d_var (pv 4)) a_nil)) (ln_cons (ln_cons ln_nil)))) a_nil))))) (d_cst pe_int fun _ _ => Dq.int _))) o_none (o_some (d_var (pv 2))))) a_nil)))) ss_nil) (ss_one (s_ret (d_ty call_tuple_of rc_tuple (by rfl) T.n_tuple (by decide +kernel) (a_cons (d_toE (d_comp (own := [("at", 5)]) (by rfl) nd (i_range1 (by rfl) T.n_range (a_cons (d_var (pv 2)) a_nil)) (blkOk_by (own := [("at", 5)]) (N := n_x_law_drawn) (sc := defScope s_x_law_drawn) (by decide +kernel)) (by decide) (fun _ _ _ _ _ => (g_name (pg_name (i := 5) nd rfl (by first | exact Or.inl rfl | exact Or.inr rfl)))) (fun _ _ _ _ _ => ts_nil) (fun _ _ _ _ _ => (d_toE (d_call ((ok_x_law_one T).mono (by decide)) hr (by rfl) T.g_x_law_one T.F_x_law_one.kp (b_x_law_one T) (a_cons (d_var (pv 0)) (a_cons (d_var (pv 4)) a_nil)) (ln_cons (ln_cons ln_nil))))))) a_nil))))))))
theorem ok_x_law_ends (T : Tx K mg) : FnOk P w K mg base CX0 1 T.a_x_law_ends T.fd_x_law_ends ["word", "i"] (spD K 2 m_x_law_ends) := by
  have nd := sc_x_law_ends.nd
  exact d_fn (k := 0) T.F_x_law_ends sc_x_law_ends (by decide) fun cdv A outer s H E hr => (ss_cons (s_par (i := 2) (j := 3) rfl nd rfl rfl (by decide) rfl rfl (d_lst a_nil) (d_toV (d_cst pe_int fun _ _ => Dq.int _)) rfl) (ss_cons (s_for PassesOwn.never rfl (i_seq (d_toE (d_rev (d_var (pv 0))))) (g_name (pg_name (i := 4) nd rfl (by first | exact Or.inl rfl | exact Or.inr rfl))) (ss_cons (s_set (i := 3) nd rfl (by first | exact Or.inl rfl | exact Or.inr rfl) (d_add (d_var (pv 3)) (d_if (t_eq hr.units (d_var (pv 4)) (d_toE (d_add (d_var (pv 1)) (d_cst pe_int fun _ _ => Dq.int _)))) (d_cst pe_int fun _ _ => Dq.int _) (d_if (t_eq hr.units (d_var (pv 4)) (d_var (pv 1))) (d_toE (d_neg (d_cst pe_int fun _ _ => Dq.int _))) (d_cst pe_int fun _ _ => Dq.int _))))) (ss_one (s_expr (d_append (pv 2) (d_var (pv 3))))))) (ss_one (s_ret (d_rev (d_var (pv 2)))))))
theorem ok_x_law_up (T : Tx K mg) : FnOk P w K mg base CX0 2 T.a_x_law_up T.fd_x_law_up ["word", "i"] (spD K 2 m_x_law_up) := by
  have nd := sc_x_law_up.nd
  exact d_fn (k := 1) T.F_x_law_up sc_x_law_up (by decide) fun cdv A outer s H E hr => (ss_cons (s_set (i := 2) nd rfl (by first | exact Or.inl rfl | exact Or.inr rfl) (d_call ((ok_x_law_ends T).mono (by decide)) hr (by rfl) T.g_x_law_ends T.F_x_law_ends.kp (b_x_law_ends T) (a_cons (d_var (pv 0)) (a_cons (d_var (pv 1)) a_nil)) (ln_cons (ln_cons ln_nil)))) (ss_cons (s_set (i := 3) nd rfl (by first | exact Or.inl rfl | exact Or.inr rfl) (d_blt (cr_max rfl) rc_max (by rfl) T.n_max (by decide +kernel) (a_cons (d_toE (d_add (d_var (pv 2)) (d_toE (d_lst (a_cons (d_cst pe_int fun _ _ => Dq.int _) a_nil))))) a_nil))) (ss_cons (s_if (t_eq hr.units (d_var (pv 3)) (d_cst pe_int fun _ _ => Dq.int _)) (ss_one (s_ret (d_tup (a_cons (d_cst pe_int fun _ _ => Dq.int _) (a_cons (d_cst pe_non fun _ _ => Dq.non) a_nil))))) ss_nil) (ss_cons (s_set (i := 4) nd rfl (by first | exact Or.inl rfl | exact Or.inr rfl) (d_blt (cr_max rfl) rc_max (by rfl) T.n_max (by decide +kernel) (a_cons (d_toE (d_comp (own := [("place", 5), ("total", 6)]) (by rfl) nd (i_enum (by rfl) T.n_enumerate (d_var (pv 2))) (blkOk_by (own := [("place", 5), ("total", 6)]) (N := n_x_law_up) (sc := defScope s_x_law_up) (by decide +kernel)) (by decide) (fun _ _ _ _ _ => (g_tup rfl (gs_cons (g_name (pg_name (i := 5) nd rfl (by first | exact Or.inl rfl | exact Or.inr rfl))) (gs_cons (g_name (pg_name (i := 6) nd rfl (by first | exact Or.inl rfl | exact Or.inr rfl))) gs_nil)) (hl_cons (hl_cons hl_nil)))) (fun _ _ _ _ _ => (ts_one (t_eq hr.units (d_var (pv 6)) (d_var (pv 3))))) (fun _ _ _ _ _ => (d_var (pv 5))))) a_nil))) (ss_one (s_ret (d_tup (a_cons (d_var (pv 3)) (a_cons (d_toE (d_add (d_toE (d_add (d_toE (d_cut (d_var (pv 0)) o_none (o_some (d_var (pv 4))))) (d_toE (d_tup (a_cons (d_var (pv 1)) a_nil))))) (d_toE (d_cut (d_var (pv 0)) (o_some (d_toE (d_add (d_var (pv 4)) (d_cst pe_int fun _ _ => Dq.int _)))) o_none)))) a_nil)))))))))
theorem ok_x_law_down (T : Tx K mg) : FnOk P w K mg base CX0 3 T.a_x_law_down T.fd_x_law_down ["word", "i"] (spD K 2 m_x_law_down) := by
  have nd := sc_x_law_down.nd
  exact d_fn (k := 2) T.F_x_law_down sc_x_law_down (by decide) fun cdv A outer s H E hr => (ss_cons (s_set (i := 2) nd rfl (by first | exact Or.inl rfl | exact Or.inr rfl) (d_ty call_tuple_of rc_tuple (by rfl) T.n_tuple (by decide +kernel) (a_cons (d_toE (d_comp (own := [("letter", 3)]) (by rfl) nd (i_seq (d_toE (d_rev (d_var (pv 0))))) (blkOk_by (own := [("letter", 3)]) (N := n_x_law_down) (sc := defScope s_x_law_down) (by decide +kernel)) (by decide) (fun _ _ _ _ _ => (g_name (pg_name (i := 3) nd rfl (by first | exact Or.inl rfl | exact Or.inr rfl)))) (fun _ _ _ _ _ => ts_nil) (fun _ _ _ _ _ => (d_if (t_in (d_var (pv 3)) (d_toE (d_tup (a_cons (d_var (pv 1)) (a_cons (d_toE (d_add (d_var (pv 1)) (d_cst pe_int fun _ _ => Dq.int _))) a_nil)))) (by with_unfolding_all rfl)) (d_toE (d_sub (d_toE (d_add (d_toE (d_mul (d_cst pe_int fun _ _ => Dq.int _) (d_var (pv 1)))) (d_cst pe_int fun _ _ => Dq.int _))) (d_var (pv 3)))) (d_var (pv 3)))))) a_nil))) (ss_cons (s_asg (d_call ((ok_x_law_up T).mono (by decide)) hr (by rfl) T.g_x_law_up T.F_x_law_up.kp (b_x_law_up T) (a_cons (d_var (pv 2)) (a_cons (d_var (pv 1)) a_nil)) (ln_cons (ln_cons ln_nil))) (g_tup rfl (gs_cons (g_name (pg_name (i := 4) nd rfl (by first | exact Or.inl rfl | exact Or.inr rfl))) (gs_cons (g_name (pg_name (i := 5) nd rfl (by first | exact Or.inl rfl | exact Or.inr rfl))) gs_nil)) (hl_cons (hl_cons hl_nil)))) (ss_cons (s_if (t_isN (d_var (pv 5)) (d_cst pe_non fun _ _ => Dq.non)) (ss_one (s_ret (d_tup (a_cons (d_var (pv 4)) (a_cons (d_cst pe_non fun _ _ => Dq.non) a_nil))))) ss_nil) (ss_one (s_ret (d_tup (a_cons (d_var (pv 4)) (a_cons (d_toE (d_ty call_tuple_of rc_tuple (by rfl) T.n_tuple (by decide +kernel) (a_cons (d_toE (d_comp (own := [("letter", 3)]) (by rfl) nd (i_seq (d_toE (d_rev (d_var (pv 5))))) (blkOk_by (own := [("letter", 3)]) (N := n_x_law_down) (sc := defScope s_x_law_down) (by decide +kernel)) (by decide) (fun _ _ _ _ _ => (g_name (pg_name (i := 3) nd rfl (by first | exact Or.inl rfl | exact Or.inr rfl)))) (fun _ _ _ _ _ => ts_nil) (fun _ _ _ _ _ => (d_if (t_in (d_var (pv 3)) (d_toE (d_tup (a_cons (d_var (pv 1)) (a_cons (d_toE (d_add (d_var (pv 1)) (d_cst pe_int fun _ _ => Dq.int _))) a_nil)))) (by with_unfolding_all rfl)) (d_toE (d_sub (d_toE (d_add (d_toE (d_mul (d_cst pe_int fun _ _ => Dq.int _) (d_var (pv 1)))) (d_cst pe_int fun _ _ => Dq.int _))) (d_var (pv 3)))) (d_var (pv 3)))))) a_nil))) a_nil))))))))
theorem ok_x_law_right (T : Tx K mg) : FnOk P w K mg base CX0 10 T.a_x_law_right T.fd_x_law_right ["feed"] (spD K 1 m_x_law_right) := by
  have nd := sc_x_law_right.nd
  exact d_fn (k := 9) T.F_x_law_right sc_x_law_right (by decide) fun cdv A outer s H E hr => (ss_cons (s_set (i := 1) nd rfl (by first | exact Or.inl rfl | exact Or.inr rfl) (d_add (d_cst pe_int fun _ _ => Dq.int _) (d_toE (d_call ((ok_x_law_draw T).mono (by decide)) hr (by rfl) T.g_x_law_draw T.F_x_law_draw.kp (b_x_law_draw T) (a_cons (d_var (pv 0)) (a_cons (d_cst pe_int fun _ _ => Dq.int _) a_nil)) (ln_cons (ln_cons ln_nil)))))) (ss_cons (s_set (i := 2) nd rfl (by first | exact Or.inl rfl | exact Or.inr rfl) (d_call ((ok_x_law_drawn T).mono (by decide)) hr (by rfl) T.g_x_law_drawn T.F_x_law_drawn.kp (b_x_law_drawn T) (a_cons (d_var (pv 0)) (a_cons (d_var (pv 1)) a_nil)) (ln_cons (ln_cons ln_nil)))) (ss_cons (s_asg (d_tup (a_cons (d_toE (d_call ((ok_x_law_up T).mono (by decide)) hr (by rfl) T.g_x_law_up T.F_x_law_up.kp (b_x_law_up T) (a_cons (d_var (pv 2)) (a_cons (d_var (pv 1)) a_nil)) (ln_cons (ln_cons ln_nil)))) (a_cons (d_toE (d_call ((ok_x_law_down T).mono (by decide)) hr (by rfl) T.g_x_law_down T.F_x_law_down.kp (b_x_law_down T) (a_cons (d_var (pv 2)) (a_cons (d_var (pv 1)) a_nil)) (ln_cons (ln_cons ln_nil)))) a_nil))) (g_tup rfl (gs_cons (g_tup rfl (gs_cons (g_name (pg_name (i := 3) nd rfl (by first | exact Or.inl rfl | exact Or.inr rfl))) (gs_cons (g_name (pg_name (i := 4) nd rfl (by first | exact Or.inl rfl | exact Or.inr rfl))) gs_nil)) (hl_cons (hl_cons hl_nil))) (gs_cons (g_tup rfl (gs_cons (g_name (pg_name (i := 5) nd rfl (by first | exact Or.inl rfl | exact Or.inr rfl))) (gs_cons (g_name (pg_name (i := 6) nd rfl (by first | exact Or.inl rfl | exact Or.inr rfl))) gs_nil)) (hl_cons (hl_cons hl_nil))) gs_nil)) (hl_cons (hl_cons hl_nil)))) (ss_cons (s_if (t_not (t_truth (d_toE (d_call ((ok_x_law_same T 8).mono (by decide)) hr (by rfl) T.g_x_law_same T.F_x_law_same.kp (b_x_law_same T) (a_cons (d_toE (d_lst (a_cons (d_toE (d_call ((ok_room_up T).mono (by decide)) hr (by rfl) T.g_room_up T.F_room_up.kp (b_room_up T) (a_cons (d_var (pv 2)) (a_cons (d_var (pv 1)) a_nil)) (ln_cons (ln_cons ln_nil)))) (a_cons (d_toE (d_call ((ok_raised T).mono (by decide)) hr (by rfl) T.g_raised T.F_raised.kp (b_raised T) (a_cons (d_var (pv 2)) (a_cons (d_var (pv 1)) a_nil)) (ln_cons (ln_cons ln_nil)))) (a_cons (d_toE (d_call ((ok_room_down T).mono (by decide)) hr (by rfl) T.g_room_down T.F_room_down.kp (b_room_down T) (a_cons (d_var (pv 2)) (a_cons (d_var (pv 1)) a_nil)) (ln_cons (ln_cons ln_nil)))) (a_cons (d_toE (d_call ((ok_lowered T).mono (by decide)) hr (by rfl) T.g_lowered T.F_lowered.kp (b_lowered T) (a_cons (d_var (pv 2)) (a_cons (d_var (pv 1)) a_nil)) (ln_cons (ln_cons ln_nil)))) a_nil)))))) (a_cons (d_toE (d_lst (a_cons (d_var (pv 3)) (a_cons (d_var (pv 4)) (a_cons (d_var (pv 5)) (a_cons (d_var (pv 6)) a_nil)))))) a_nil)) (ln_cons (ln_cons ln_nil)))) (by intro _; rfl))) (ss_one (s_ret (d_toV (d_cst pe_bl fun _ _ => Dq.bl _)))) ss_nil) (ss_cons (s_par (i := 7) (j := 8) rfl nd rfl rfl (by decide) rfl rfl (d_lst (a_cons (d_var (pv 2)) a_nil)) (d_toV (d_var (pv 2))) rfl) (ss_cons (s_for PassesOwn.never rfl (i_range1 (by rfl) T.n_range (a_cons (d_var (pv 3)) a_nil)) (g_name (pg_name (i := 9) nd rfl (by first | exact Or.inl rfl | exact Or.inr rfl))) (ss_cons (s_set (i := 8) nd rfl (by first | exact Or.inl rfl | exact Or.inr rfl) (d_ix (d_toE (d_call ((ok_x_law_up T).mono (by decide)) hr (by rfl) T.g_x_law_up T.F_x_law_up.kp (b_x_law_up T) (a_cons (d_var (pv 8)) (a_cons (d_var (pv 1)) a_nil)) (ln_cons (ln_cons ln_nil)))) (d_cst pe_int fun _ _ => Dq.int _) (fun _ _ => rfl))) (ss_one (s_set (i := 7) nd rfl (by first | exact Or.inl rfl | exact Or.inr rfl) (d_add (d_toE (d_lst (a_cons (d_var (pv 8)) a_nil))) (d_var (pv 7))))))) (ss_cons (s_set (i := 8) nd rfl (by first | exact Or.inl rfl | exact Or.inr rfl) (d_toV (d_var (pv 2)))) (ss_cons (s_for PassesOwn.never rfl (i_range1 (by rfl) T.n_range (a_cons (d_var (pv 5)) a_nil)) (g_name (pg_name (i := 9) nd rfl (by first | exact Or.inl rfl | exact Or.inr rfl))) (ss_cons (s_set (i := 8) nd rfl (by first | exact Or.inl rfl | exact Or.inr rfl) (d_ix (d_toE (d_call ((ok_x_law_down T).mono (by decide)) hr (by rfl) T.g_x_law_down T.F_x_law_down.kp (b_x_law_down T) (a_cons (d_var (pv 8)) (a_cons (d_var (pv 1)) a_nil)) (ln_cons (ln_cons ln_nil)))) (d_cst pe_int fun _ _ => Dq.int _) (fun _ _ => rfl))) (ss_one (s_set (i := 7) nd rfl (by first | exact Or.inl rfl | exact Or.inr rfl) (d_add (d_var (pv 7)) (d_toE (d_lst (a_cons (d_var (pv 8)) a_nil)))))))) (ss_cons (s_if (t_not (t_truth (d_toE (d_call ((ok_x_law_same T 8).mono (by decide)) hr (by rfl) T.g_x_law_same T.F_x_law_same.kp (b_x_law_same T) (a_cons (d_toE (d_lst (a_cons (d_toE (d_call ((ok_string_of T).mono (by decide)) hr (by rfl) T.g_string_of T.F_string_of.kp (b_string_of T) (a_cons (d_var (pv 2)) (a_cons (d_var (pv 1)) a_nil)) (ln_cons (ln_cons ln_nil)))) (a_cons (d_toE (d_call ((ok_reflected T).mono (by decide)) hr (by rfl) T.g_reflected T.F_reflected.kp (b_reflected T) (a_cons (d_var (pv 2)) (a_cons (d_var (pv 1)) a_nil)) (ln_cons (ln_cons ln_nil)))) a_nil)))) (a_cons (d_toE (d_lst (a_cons (d_var (pv 7)) (a_cons (d_toE (d_ix (d_var (pv 7)) (d_var (pv 5)) (fun _ _ => rfl))) a_nil)))) a_nil)) (ln_cons (ln_cons ln_nil)))) (by intro _; rfl))) (ss_one (s_ret (d_toV (d_cst pe_bl fun _ _ => Dq.bl _)))) ss_nil) (ss_cons (s_set (i := 10) nd rfl (by first | exact Or.inl rfl | exact Or.inr rfl) (d_call ((ok_reflected T).mono (by decide)) hr (by rfl) T.g_reflected T.F_reflected.kp (b_reflected T) (a_cons (d_var (pv 2)) (a_cons (d_var (pv 1)) a_nil)) (ln_cons (ln_cons ln_nil)))) (ss_cons (s_if (t_not (t_truth (d_toE (d_call ((ok_x_law_same T 8).mono (by decide)) hr (by rfl) T.g_x_law_same T.F_x_law_same.kp (b_x_law_same T) (a_cons (d_toE (d_lst (a_cons (d_toE (d_call ((ok_room_up T).mono (by decide)) hr (by rfl) T.g_room_up T.F_room_up.kp (b_room_up T) (a_cons (d_var (pv 10)) (a_cons (d_var (pv 1)) a_nil)) (ln_cons (ln_cons ln_nil)))) (a_cons (d_toE (d_call ((ok_room_down T).mono (by decide)) hr (by rfl) T.g_room_down T.F_room_down.kp (b_room_down T) (a_cons (d_var (pv 10)) (a_cons (d_var (pv 1)) a_nil)) (ln_cons (ln_cons ln_nil)))) (a_cons (d_toE (d_call ((ok_reflected T).mono (by decide)) hr (by rfl) T.g_reflected T.F_reflected.kp (b_reflected T) (a_cons (d_var (pv 10)) (a_cons (d_var (pv 1)) a_nil)) (ln_cons (ln_cons ln_nil)))) a_nil))))) (a_cons (d_toE (d_lst (a_cons (d_var (pv 5)) (a_cons (d_var (pv 3)) (a_cons (d_var (pv 2)) a_nil))))) a_nil)) (ln_cons (ln_cons ln_nil)))) (by intro _; rfl))) (ss_one (s_ret (d_toV (d_cst pe_bl fun _ _ => Dq.bl _)))) ss_nil) (ss_cons (s_setComp (i := 11) rfl nd rfl rfl (sw_true rfl rfl rfl (by decide +kernel)) (own := [("place", 12)]) (i_range1 (by rfl) T.n_range (a_cons (d_toE (d_blt call_len rc_len (by rfl) T.n_len (by decide +kernel) (a_cons (d_var (pv 2)) a_nil))) a_nil)) (blkOk_by (own := [("place", 12)]) (N := n_x_law_right) (sc := defScope s_x_law_right) (by decide +kernel)) (by decide) (fun _ _ _ _ _ => (g_name (pg_name (i := 12) nd rfl (by first | exact Or.inl rfl | exact Or.inr rfl)))) (fun _ _ _ _ _ => (ts_one (t_ne hr.units (d_toE (d_ix (d_var (pv 2)) (d_var (pv 12)) (fun _ _ => rfl))) (d_toE (d_ix (d_var (pv 10)) (d_var (pv 12)) (fun _ _ => rfl)))))) (fun _ _ _ _ _ => (d_var (pv 12)))) (ss_cons (s_if (t_ne hr.units (d_toE (d_comp (own := [("place", 12)]) (by rfl) nd (i_seq (d_var (pv 11))) (blkOk_by (own := [("place", 12)]) (N := n_x_law_right) (sc := defScope s_x_law_right) (by decide +kernel)) (by decide) (fun _ _ _ _ _ => (g_name (pg_name (i := 12) nd rfl (by first | exact Or.inl rfl | exact Or.inr rfl)))) (fun _ _ _ _ _ => (ts_one (t_notIn (d_toE (d_ix (d_var (pv 2)) (d_var (pv 12)) (fun _ _ => rfl))) (d_toE (d_tup (a_cons (d_var (pv 1)) (a_cons (d_toE (d_add (d_var (pv 1)) (d_cst pe_int fun _ _ => Dq.int _))) a_nil)))) (by with_unfolding_all rfl)))) (fun _ _ _ _ _ => (d_var (pv 12))))) (d_toE (d_lst a_nil))) (ss_one (s_ret (d_toV (d_cst pe_bl fun _ _ => Dq.bl _)))) ss_nil) (ss_one (s_ret (d_eq hr.units (d_toE (d_comp (own := [("one", 13)]) (by rfl) nd (i_seq (d_var (pv 7))) (blkOk_by (own := [("one", 13)]) (N := n_x_law_right) (sc := defScope s_x_law_right) (by decide +kernel)) (by decide) (fun _ _ _ _ _ => (g_name (pg_name (i := 13) nd rfl (by first | exact Or.inl rfl | exact Or.inr rfl)))) (fun _ _ _ _ _ => ts_nil) (fun _ _ _ _ _ => (d_toE (d_blt (cr_sumA rfl) rc_sum (by rfl) T.n_sum (by decide +kernel) (a_cons (d_var (pv 13)) a_nil)))))) (d_toE (d_lstR2 rfl (by rfl) T.n_list (by rfl) T.n_range (d_toE (d_blt (cr_sumA rfl) rc_sum (by rfl) T.n_sum (by decide +kernel) (a_cons (d_toE (d_ix (d_var (pv 7)) (d_cst pe_int fun _ _ => Dq.int _) (fun _ _ => rfl))) a_nil))) (d_toE (d_add (d_toE (d_blt (cr_sumA rfl) rc_sum (by rfl) T.n_sum (by decide +kernel) (a_cons (d_toE (d_ix (d_var (pv 7)) (d_cst pe_int fun _ _ => Dq.int _) (fun _ _ => rfl))) a_nil))) (d_toE (d_blt call_len rc_len (by rfl) T.n_len (by decide +kernel) (a_cons (d_var (pv 7)) a_nil)))))))))))))))))))))))
theorem ok_law (T : Tx K mg) : FnOk P w K mg base CX0 11 T.a_law T.fd_law ["script"] (spD K 1 m_law) := by
  have nd := sc_law.nd
  exact d_fn (k := 10) T.F_law sc_law (by decide) fun cdv A outer s H E hr => (ss_cons (s_for PassesOwn.never rfl (i_range1 (by rfl) T.n_range (a_cons (d_toE (d_blt (call_max2 rfl) rc_max2 (by rfl) T.n_max (by decide +kernel) (a_cons (d_cst pe_int fun _ _ => Dq.int _) (a_cons (d_toE (d_blt (call_min2 rfl) rc_min2 (by rfl) T.n_min (by decide +kernel) (a_cons (d_toE (d_blt call_len rc_len (by rfl) T.n_len (by decide +kernel) (a_cons (d_var (pv 0)) a_nil))) (a_cons (d_cst pe_int fun _ _ => Dq.int _) a_nil)))) a_nil)))) a_nil)) (g_name (pg_name (i := 1) nd rfl (by first | exact Or.inl rfl | exact Or.inr rfl))) (ss_cons (s_set (i := 2) nd rfl (by first | exact Or.inl rfl | exact Or.inr rfl) (d_call ((ok_x_law_feed T).mono (by decide)) hr (by rfl) T.g_x_law_feed T.F_x_law_feed.kp (b_x_law_feed T) (a_cons (d_var (pv 0)) (a_cons (d_var (pv 1)) a_nil)) (ln_cons (ln_cons ln_nil)))) (ss_one (s_for PassesOwn.never rfl (i_range1 (by rfl) T.n_range (a_cons (d_cst pe_int fun _ _ => Dq.int _) a_nil)) (g_name (pg_name (i := 3) nd rfl (by first | exact Or.inl rfl | exact Or.inr rfl))) (ss_one (s_if (t_not (t_truth (d_toE (d_call ((ok_x_law_right T).mono (by decide)) hr (by rfl) T.g_x_law_right T.F_x_law_right.kp (b_x_law_right T) (a_cons (d_var (pv 2)) a_nil) (ln_cons ln_nil))) (by intro _; rfl))) (ss_one (s_ret (d_toV (d_cst pe_bl fun _ _ => Dq.bl _)))) ss_nil)))))) (ss_one (s_ret (d_toV (d_cst pe_bl fun _ _ => Dq.bl _)))))
end
end Wk43

/-! brackets: the plain law of k43. -/
namespace B43
theorem snocInd {P : List Int → Prop} (h0 : P []) (hs : ∀ w x, P w → P (w ++ [x])) : ∀ w, P w := by
  have key : ∀ r : List Int, P r.reverse := by
    intro r
    induction r with
    | nil => exact h0
    | cons x r ih => rw [List.reverse_cons]; exact hs _ _ ih
  intro w
  have := key w.reverse
  rwa [List.reverse_reverse] at this
/-- one letter more: the places of the i and of the i+1 that stay alone -/
def st (i : Int) (s : List Nat × List Nat) (k : Nat) (x : Int) : List Nat × List Nat :=
  if x = i + 1 then (s.1, s.2 ++ [k]) else if x = i then (if s.2 = [] then (s.1 ++ [k], []) else (s.1, s.2.dropLast)) else s
def lpR (i : Int) : List Int → List Nat × List Nat
  | [] => ([], [])
  | x :: r => st i (lpR i r) r.length x
def lp (i : Int) (w : List Int) : List Nat × List Nat := lpR i w.reverse
theorem lp_nil (i : Int) : lp i [] = ([], []) := rfl
theorem lp_snoc (i : Int) (w : List Int) (x : Int) : lp i (w ++ [x]) = st i (lp i w) w.length x := by
  unfold lp
  rw [List.reverse_append]
  show st i (lpR i w.reverse) w.reverse.length x = _
  rw [List.length_reverse]
/-- cases of a step -/
theorem st_cases (i : Int) (L O : List Nat) (k : Nat) (x : Int) :
    (x = i + 1 ∧ st i (L, O) k x = (L, O ++ [k])) ∨ (x = i ∧ O = [] ∧ st i (L, O) k x = (L ++ [k], [])) ∨
    (x = i ∧ O ≠ [] ∧ st i (L, O) k x = (L, O.dropLast)) ∨ (x ≠ i ∧ x ≠ i + 1 ∧ st i (L, O) k x = (L, O)) := by
  unfold st
  by_cases h1 : x = i + 1
  · exact .inl ⟨h1, if_pos h1⟩
  · rw [if_neg h1]
    by_cases h2 : x = i
    · rw [if_pos h2]
      by_cases h3 : O = []
      · exact .inr (.inl ⟨h2, h3, if_pos h3⟩)
      · exact .inr (.inr (.inl ⟨h2, h3, if_neg h3⟩))
    · rw [if_neg h2]
      exact .inr (.inr (.inr ⟨h2, h1, rfl⟩))
/-- the letter's weight; sums -/
def v (i x : Int) : Int := if x = i + 1 then 1 else if x = i then -1 else 0
def S (i : Int) : List Int → Int
  | [] => 0
  | x :: w => v i x + S i w
theorem S_app (i : Int) (a b : List Int) : S i (a ++ b) = S i a + S i b := by
  induction a with
  | nil => simp [S]
  | cons x a ih => simp only [List.cons_append, S, ih]; omega
def sufs (i : Int) : List Int → List Int
  | [] => []
  | x :: w => S i (x :: w) :: sufs i w
theorem sufs_len (i : Int) (w : List Int) : (sufs i w).length = w.length := by
  induction w with
  | nil => rfl
  | cons x w ih => simp [sufs, ih]
theorem sufs_snoc (i : Int) (w : List Int) (x : Int) : sufs i (w ++ [x]) = (sufs i w).map (· + v i x) ++ [v i x] := by
  induction w with
  | nil => simp [sufs, S]
  | cons y w ih =>
    simp only [List.cons_append, sufs, ih, List.map_cons]
    rw [show S i (y :: (w ++ [x])) = S i (y :: w) + v i x by simp only [S, S_app]; omega]
/-- places and counts -/
theorem lp_lt (i : Int) : ∀ w, ∀ p, p ∈ (lp i w).1 ∨ p ∈ (lp i w).2 → p < w.length := by
  refine snocInd (fun p h => by rcases h with h | h <;> cases h) fun w x ih p h => ?_
  rw [lp_snoc] at h
  rw [List.length_append]
  show p < w.length + 1
  rcases st_cases i (lp i w).1 (lp i w).2 w.length x with ⟨_, e⟩ | ⟨_, h2, e⟩ | ⟨_, _, e⟩ | ⟨_, _, e⟩
  · rw [show lp i w = ((lp i w).1, (lp i w).2) from rfl, e] at h
    rcases h with h | h
    · exact Nat.lt_succ_of_lt (ih p (.inl h))
    · rcases List.mem_append.mp h with h | h
      · exact Nat.lt_succ_of_lt (ih p (.inr h))
      · cases List.mem_singleton.mp h; exact Nat.lt_succ_self _
  · rw [show lp i w = ((lp i w).1, (lp i w).2) from rfl, e] at h
    rcases h with h | h
    · rcases List.mem_append.mp h with h | h
      · exact Nat.lt_succ_of_lt (ih p (.inl h))
      · cases List.mem_singleton.mp h; exact Nat.lt_succ_self _
    · cases h
  · rw [show lp i w = ((lp i w).1, (lp i w).2) from rfl, e] at h
    rcases h with h | h
    · exact Nat.lt_succ_of_lt (ih p (.inl h))
    · exact Nat.lt_succ_of_lt (ih p (.inr ((List.dropLast_sublist _).subset h)))
  · rw [show lp i w = ((lp i w).1, (lp i w).2) from rfl, e] at h
    exact Nat.lt_succ_of_lt (ih p h)
theorem lp_S (i : Int) : ∀ w, ((lp i w).2.length : Int) - (lp i w).1.length = S i w := by
  refine snocInd rfl fun w x ih => ?_
  rw [lp_snoc, S_app]
  have hv : S i [x] = v i x := by simp [S]
  rw [hv, ← ih]
  unfold v
  rcases st_cases i (lp i w).1 (lp i w).2 w.length x with ⟨h1, e⟩ | ⟨h1, h2, e⟩ | ⟨h1, h2, e⟩ | ⟨h1, h2, e⟩
  · rw [show lp i w = ((lp i w).1, (lp i w).2) from rfl, e, if_pos h1]
    simp only [List.length_append, List.length_cons, List.length_nil]
    omega
  · rw [show lp i w = ((lp i w).1, (lp i w).2) from rfl, e, if_neg (by omega), if_pos h1, h2]
    simp only [List.length_append, List.length_cons, List.length_nil]
    omega
  · rw [show lp i w = ((lp i w).1, (lp i w).2) from rfl, e, if_neg (by omega), if_pos h1]
    have := List.length_pos_iff.mpr h2
    simp only [List.length_dropLast]
    omega
  · rw [show lp i w = ((lp i w).1, (lp i w).2) from rfl, e, if_neg h2, if_neg h1]
    simp only
    omega
theorem lp_len (i : Int) : ∀ w, (lp i w).1.length + (lp i w).2.length ≤ w.length := by
  refine snocInd (Nat.le_refl _) fun w x ih => ?_
  rw [lp_snoc, List.length_append]
  rcases st_cases i (lp i w).1 (lp i w).2 w.length x with ⟨h1, e⟩ | ⟨h1, h2, e⟩ | ⟨h1, h2, e⟩ | ⟨h1, h2, e⟩ <;>
    rw [show lp i w = ((lp i w).1, (lp i w).2) from rfl, e] <;> simp <;> omega
/-- the letters there -/
theorem lp_let (i : Int) : ∀ w, (∀ p ∈ (lp i w).1, w[p]? = some i) ∧ ∀ p ∈ (lp i w).2, w[p]? = some (i + 1) := by
  refine snocInd ⟨fun p h => (nomatch h), fun p h => (nomatch h)⟩ fun w x ih => ?_
  have up : ∀ p y, w[p]? = some y → (w ++ [x])[p]? = some y := fun p y h => by
    have := (List.getElem?_eq_some_iff.mp h).1
    rw [List.getElem?_append_left this, h]
  have nw : (w ++ [x])[w.length]? = some x := by simp
  rw [lp_snoc]
  rcases st_cases i (lp i w).1 (lp i w).2 w.length x with ⟨h1, e⟩ | ⟨h1, h2, e⟩ | ⟨h1, h2, e⟩ | ⟨h1, h2, e⟩ <;>
    rw [show lp i w = ((lp i w).1, (lp i w).2) from rfl, e]
  · refine ⟨fun p h => up _ _ (ih.1 p h), fun p h => ?_⟩
    rcases List.mem_append.mp h with h | h
    · exact up _ _ (ih.2 p h)
    · cases List.mem_singleton.mp h; rw [nw, h1]
  · refine ⟨fun p h => ?_, fun p h => (nomatch h)⟩
    rcases List.mem_append.mp h with h | h
    · exact up _ _ (ih.1 p h)
    · cases List.mem_singleton.mp h; rw [nw, h1]
  · exact ⟨fun p h => up _ _ (ih.1 p h), fun p h => up _ _ (ih.2 p ((List.dropLast_sublist _).subset h))⟩
  · exact ⟨fun p h => up _ _ (ih.1 p h), fun p h => up _ _ (ih.2 p h)⟩
/-- the places in order -/
theorem lp_ord (i : Int) : ∀ w, ((lp i w).1 ++ (lp i w).2).Pairwise (· < ·) := by
  refine snocInd .nil fun w x ih => ?_
  have lt := lp_lt i w
  rw [lp_snoc]
  rcases st_cases i (lp i w).1 (lp i w).2 w.length x with ⟨h1, e⟩ | ⟨h1, h2, e⟩ | ⟨h1, h2, e⟩ | ⟨h1, h2, e⟩ <;>
    rw [show lp i w = ((lp i w).1, (lp i w).2) from rfl, e]
  · show ((lp i w).1 ++ ((lp i w).2 ++ [w.length])).Pairwise (· < ·)
    rw [← List.append_assoc]
    refine List.pairwise_append.mpr ⟨ih, List.pairwise_singleton .., fun a ha b hb => ?_⟩
    cases List.mem_singleton.mp hb
    exact lt a (List.mem_append.mp ha)
  · show (((lp i w).1 ++ [w.length]) ++ []).Pairwise (· < ·)
    rw [List.append_nil]
    rw [h2, List.append_nil] at ih
    refine List.pairwise_append.mpr ⟨ih, List.pairwise_singleton .., fun a ha b hb => ?_⟩
    cases List.mem_singleton.mp hb
    exact lt a (.inl ha)
  · exact ih.sublist (List.Sublist.append (List.Sublist.refl _) (List.dropLast_sublist _))
  · exact ih
/-- the word with i at A, i+1 at B -/
def W (i : Int) (A B : List Nat) (w : List Int) : List Int := w.mapIdx fun p x => if p ∈ A then i else if p ∈ B then i + 1 else x
theorem W_len (i : Int) (A B : List Nat) (w : List Int) : (W i A B w).length = w.length := by simp [W]
theorem W_get (i : Int) (A B : List Nat) (w : List Int) (p : Nat) : (W i A B w)[p]? = (w[p]?).map fun x => if p ∈ A then i else if p ∈ B then i + 1 else x := by
  unfold W
  rw [List.getElem?_mapIdx]
theorem W_snoc (i : Int) (A B : List Nat) (w : List Int) (x : Int) : W i A B (w ++ [x]) = W i A B w ++ [if w.length ∈ A then i else if w.length ∈ B then i + 1 else x] := by
  unfold W
  rw [List.mapIdx_concat]
theorem W_congr {i : Int} {A B A' B' : List Nat} {w : List Int} (h : ∀ p x, w[p]? = some x → (if p ∈ A then i else if p ∈ B then i + 1 else x) = if p ∈ A' then i else if p ∈ B' then i + 1 else x) : W i A B w = W i A' B' w := by
  refine List.ext_getElem? fun p => ?_
  rw [W_get, W_get]
  cases e : w[p]? with
  | none => rfl
  | some x => exact congrArg some (h p x e)
theorem lp_W (i : Int) : ∀ w, ∀ a, a ≤ ((lp i w).1 ++ (lp i w).2).length → lp i (W i (((lp i w).1 ++ (lp i w).2).take a) (((lp i w).1 ++ (lp i w).2).drop a) w) = (((lp i w).1 ++ (lp i w).2).take a, ((lp i w).1 ++ (lp i w).2).drop a) := by
  refine snocInd (fun a _ => by simp [lp_nil, W]) fun w x ih a ha => ?_
  have lt : ∀ p ∈ (lp i w).1 ++ (lp i w).2, p < w.length := fun p hp => lp_lt i w p (List.mem_append.mp hp)
  have lets := (lp_let i w).2
  have ord := lp_ord i w
  have gl : ∀ (p : Nat) y, w[p]? = some y → p ≠ w.length := fun p y h => Nat.ne_of_lt (List.getElem?_eq_some_iff.mp h).1
  -- a place more at the end
  have more : ∀ U : List Nat, (∀ p ∈ U, p < w.length) → (∀ a, a ≤ U.length → lp i (W i (U.take a) (U.drop a) w) = (U.take a, U.drop a)) →
      ∀ a, a ≤ (U ++ [w.length]).length → lp i (W i ((U ++ [w.length]).take a) ((U ++ [w.length]).drop a) (w ++ [x])) = ((U ++ [w.length]).take a, (U ++ [w.length]).drop a) := by
    intro U lt ih a ha
    rw [List.length_append] at ha
    rw [W_snoc, lp_snoc, W_len]
    have nU : w.length ∉ U := fun h => Nat.lt_irrefl _ (lt _ h)
    by_cases c : a ≤ U.length
    · rw [List.take_append_of_le_length c, List.drop_append_of_le_length c]
      have e1 : W i (U.take a) (U.drop a ++ [w.length]) w = W i (U.take a) (U.drop a) w := W_congr fun p y h => by
        have := gl p y h
        simp [this]
      rw [e1, ih a c]
      have n1 : w.length ∉ U.take a := fun h => nU (List.mem_of_mem_take h)
      rw [if_neg n1, if_pos (List.mem_append_right _ (List.mem_singleton.mpr rfl))]
      unfold st
      rw [if_pos rfl]
    · have e : a = U.length + 1 := by simp at ha; omega
      subst e
      have e2 : (U ++ [w.length]).take (U.length + 1) = U ++ [w.length] := List.take_of_length_le (by simp)
      have e3 : (U ++ [w.length]).drop (U.length + 1) = [] := List.drop_eq_nil_of_le (by simp)
      rw [e2, e3]
      have e1 : W i (U ++ [w.length]) [] w = W i (U.take U.length) (U.drop U.length) w := W_congr fun p y h => by
        have := gl p y h
        simp [this]
      rw [e1, ih _ (Nat.le_refl _), List.take_length, List.drop_length, if_pos (by simp)]
      unfold st
      rw [if_neg (by omega), if_pos rfl, if_pos rfl]
  rw [lp_snoc] at ha ⊢
  rcases st_cases i (lp i w).1 (lp i w).2 w.length x with ⟨h1, e⟩ | ⟨h1, h2, e⟩ | ⟨h1, h2, e⟩ | ⟨h1, h2, e⟩ <;>
    rw [show lp i w = ((lp i w).1, (lp i w).2) from rfl, e] at ha ⊢
  · simp only [← List.append_assoc] at ha ⊢
    exact more _ lt ih a ha
  · rw [h2, List.append_nil] at lt ih
    simp only [List.append_nil] at ha ⊢
    exact more _ lt ih a ha
  · simp only at ha ⊢
    obtain ⟨q, hq⟩ : ∃ q, (lp i w).2 = (lp i w).2.dropLast ++ [q] := ⟨_, (List.dropLast_concat_getLast h2).symm⟩
    have hql : w[q]? = some (i + 1) := lets q (by rw [hq]; simp)
    have hU : (lp i w).1 ++ (lp i w).2 = ((lp i w).1 ++ (lp i w).2.dropLast) ++ [q] := by rw [List.append_assoc, ← hq]
    rw [hU] at lt ih ord
    have nq : q ∉ (lp i w).1 ++ (lp i w).2.dropLast := fun h => by
      have := (List.pairwise_append.mp ord).2.2 q h q (by simp)
      omega
    generalize (lp i w).1 ++ (lp i w).2.dropLast = U at lt ih ha nq ⊢
    have nU : w.length ∉ U := fun h => Nat.lt_irrefl _ (lt _ (List.mem_append_left _ h))
    have n1 : w.length ∉ U.take a := fun h => nU (List.mem_of_mem_take h)
    have n2 : w.length ∉ U.drop a := fun h => nU (List.mem_of_mem_drop h)
    rw [W_snoc, lp_snoc, W_len, if_neg n1, if_neg n2]
    have z := ih a (by rw [List.length_append]; omega)
    rw [List.take_append_of_le_length ha, List.drop_append_of_le_length ha] at z
    have e1 : W i (U.take a) (U.drop a) w = W i (U.take a) (U.drop a ++ [q]) w := W_congr fun p y h => by
      by_cases c : p = q
      · subst c
        rw [hql] at h
        cases h
        have m1 : p ∉ U.take a := fun h => nq (List.mem_of_mem_take h)
        have m2 : p ∉ U.drop a := fun h => nq (List.mem_of_mem_drop h)
        simp [m1, m2]
      · simp [c]
    rw [e1, z]
    unfold st
    rw [if_neg (by omega), if_pos h1, if_neg (by simp)]
    simp
  · simp only at ha ⊢
    have nU : w.length ∉ (lp i w).1 ++ (lp i w).2 := fun h => Nat.lt_irrefl _ (lt _ h)
    generalize (lp i w).1 ++ (lp i w).2 = U at lt ih ha nU ⊢
    have n1 : w.length ∉ U.take a := fun h => nU (List.mem_of_mem_take h)
    have n2 : w.length ∉ U.drop a := fun h => nU (List.mem_of_mem_drop h)
    rw [W_snoc, lp_snoc, W_len, if_neg n1, if_neg n2, ih a ha]
    unfold st
    rw [if_neg h2, if_neg h1]
/-- U, all in order; the word with the first a of them i -/
def U (i : Int) (w : List Int) : List Nat := (lp i w).1 ++ (lp i w).2
def Wa (i : Int) (w : List Int) (a : Nat) : List Int := W i ((U i w).take a) ((U i w).drop a) w
theorem lp_Wa (i : Int) (w : List Int) {a : Nat} (h : a ≤ (U i w).length) : lp i (Wa i w a) = ((U i w).take a, (U i w).drop a) := lp_W i w a h
theorem Wa_len (i : Int) (w : List Int) (a : Nat) : (Wa i w a).length = w.length := W_len _ _ _ _
theorem Wa_self (i : Int) (w : List Int) : Wa i w (lp i w).1.length = w := by
  unfold Wa U
  rw [List.take_left, List.drop_left]
  refine List.ext_getElem? fun p => ?_
  rw [W_get]
  cases e : w[p]? with
  | none => rfl
  | some x =>
    show some _ = some x
    congr 1
    split
    · rename_i h; have := (lp_let i w).1 p h; rw [e] at this; exact (Option.some.inj this).symm
    · split
      · rename_i h; have := (lp_let i w).2 p h; rw [e] at this; exact (Option.some.inj this).symm
      · rfl
theorem U_nodup (i : Int) (w : List Int) : (U i w).Pairwise (· < ·) := lp_ord i w
theorem U_lt (i : Int) (w : List Int) : ∀ p ∈ U i w, p < w.length := fun p hp => lp_lt i w p (List.mem_append.mp hp)
theorem Wa_up (i : Int) (w : List Int) {a q : Nat} (h : (U i w)[a]? = some q) : (Wa i w a).set q i = Wa i w (a + 1) := by
  obtain ⟨ha, hq⟩ := List.getElem?_eq_some_iff.mp h
  have e1 : (U i w).take (a + 1) = (U i w).take a ++ [q] := by rw [List.take_add_one, h]; rfl
  have e2 : (U i w).drop a = q :: (U i w).drop (a + 1) := by rw [List.drop_eq_getElem_cons ha, hq]
  have hl := U_lt i w q (List.mem_of_getElem? h)
  unfold Wa
  rw [e1, e2]
  refine List.ext_getElem? fun p => ?_
  rw [List.getElem?_set, W_len, W_get, W_get]
  by_cases c : q = p
  · subst c
    rw [if_pos rfl, if_pos hl, List.getElem?_eq_getElem hl]
    simp
  · rw [if_neg c]
    have c' : ¬p = q := fun z => c z.symm
    simp [c']
theorem Wa_dn (i : Int) (w : List Int) {a q : Nat} (h : (U i w)[a]? = some q) : (Wa i w (a + 1)).set q (i + 1) = Wa i w a := by
  obtain ⟨ha, hq⟩ := List.getElem?_eq_some_iff.mp h
  have e1 : (U i w).take (a + 1) = (U i w).take a ++ [q] := by rw [List.take_add_one, h]; rfl
  have e2 : (U i w).drop a = q :: (U i w).drop (a + 1) := by rw [List.drop_eq_getElem_cons ha, hq]
  have hl := U_lt i w q (List.mem_of_getElem? h)
  have nd := U_nodup i w
  have nq : q ∉ (U i w).take a := fun hm => by
    rw [← List.take_append_drop a (U i w), e2] at nd
    have := (List.pairwise_append.mp nd).2.2 q hm q (List.mem_cons_self ..)
    omega
  unfold Wa
  rw [e1, e2]
  refine List.ext_getElem? fun p => ?_
  rw [List.getElem?_set, W_len, W_get, W_get]
  by_cases c : q = p
  · subst c
    rw [if_pos rfl, if_pos hl, List.getElem?_eq_getElem hl]
    simp [nq]
  · rw [if_neg c]
    have c' : ¬p = q := fun z => c z.symm
    simp [c']
theorem sum_set : ∀ (l : List Int) (q : Nat) (x y : Int), l[q]? = some x → (l.set q y).sum = l.sum - x + y
  | a :: l, 0, x, y, h => by
    have : a = x := by simpa using h
    subst this
    simp only [List.set_cons_zero, List.sum_cons]
    omega
  | a :: l, q + 1, x, y, h => by
    have := sum_set l q x y (by simpa using h)
    simp only [List.set_cons_succ, List.sum_cons, this]
    omega
theorem Wa_sum (i : Int) (w : List Int) {a : Nat} (h : a < (U i w).length) : (Wa i w a).sum = (Wa i w (a + 1)).sum + 1 := by
  have hq : (U i w)[a]? = some (U i w)[a] := List.getElem?_eq_getElem h
  rw [← Wa_up i w hq]
  have : (Wa i w a)[(U i w)[a]]? = some (i + 1) := by
    have z := (lp_let i (Wa i w a)).2 (U i w)[a]
    rw [lp_Wa i w (Nat.le_of_lt h)] at z
    exact z (by rw [List.drop_eq_getElem_cons h]; exact List.mem_cons_self ..)
  rw [sum_set _ _ _ _ this]
  omega
/-! ### suffix sums -/
theorem up_max (i : Int) : ∀ w, (∀ y ∈ sufs i w ++ [0], y ≤ ((lp i w).2.length : Int)) ∧ ((lp i w).2.length : Int) ∈ sufs i w ++ [0] := by
  refine snocInd ⟨fun y h => by simp [sufs] at h; subst h; exact Int.le_refl _, by simp [sufs, lp_nil]⟩ fun w x ih => ?_
  obtain ⟨h1, h2⟩ := ih
  have key : ∀ m' : Int, m' = max (((lp i w).2.length : Int) + v i x) 0 → (∀ y ∈ sufs i (w ++ [x]) ++ [0], y ≤ m') ∧ m' ∈ sufs i (w ++ [x]) ++ [0] := by
    intro m' hm
    rw [sufs_snoc]
    refine ⟨fun y hy => ?_, ?_⟩
    · rcases List.mem_append.mp hy with hy | hy
      · rcases List.mem_append.mp hy with hy | hy
        · obtain ⟨z, hz, rfl⟩ := List.mem_map.mp hy
          have := h1 z (List.mem_append_left _ hz)
          omega
        · cases List.mem_singleton.mp hy
          have := h1 0 (by simp)
          omega
      · cases List.mem_singleton.mp hy
        omega
    · by_cases c : 0 ≤ ((lp i w).2.length : Int) + v i x
      · have e : m' = ((lp i w).2.length : Int) + v i x := by omega
        rw [e]
        rcases List.mem_append.mp h2 with h | h
        · exact List.mem_append_left _ (List.mem_append_left _ (List.mem_map.mpr ⟨_, h, rfl⟩))
        · have := List.mem_singleton.mp h
          rw [this]
          simp
      · have e : m' = 0 := by omega
        rw [e]
        simp
  refine key _ ?_
  rw [lp_snoc]
  unfold v
  rcases st_cases i (lp i w).1 (lp i w).2 w.length x with ⟨h1, e⟩ | ⟨h1, h2, e⟩ | ⟨h1, h2, e⟩ | ⟨h1, h2, e⟩
  · rw [show lp i w = ((lp i w).1, (lp i w).2) from rfl, e, if_pos h1]
    simp only [List.length_append, List.length_cons, List.length_nil]
    omega
  · rw [show lp i w = ((lp i w).1, (lp i w).2) from rfl, e, if_neg (by omega), if_pos h1, h2]
    simp only [List.length_nil]
    omega
  · rw [show lp i w = ((lp i w).1, (lp i w).2) from rfl, e, if_neg (by omega), if_pos h1]
    have := List.length_pos_iff.mpr h2
    simp only [List.length_dropLast]
    omega
  · rw [show lp i w = ((lp i w).1, (lp i w).2) from rfl, e, if_neg h2, if_neg h1]
    simp only
    omega
/-- p is the last place of E at which m stands -/
def LastAt (E : List Int) (m : Int) (p : Nat) : Prop := E[p]? = some m ∧ ∀ q, p < q → E[q]? ≠ some m
theorem up_at (i : Int) : ∀ w, ∀ p r, (lp i w).2 = p :: r → LastAt (sufs i w) (lp i w).2.length p := by
  refine snocInd (fun p r h => nomatch h) fun w x ih p r hp => ?_
  have low := (up_max i w).1
  have hn := sufs_len i w
  have get : ∀ q, (sufs i (w ++ [x]))[q]? = if q < w.length then ((sufs i w)[q]?).map (· + v i x) else if q = w.length then some (v i x) else none := fun q => by
    rw [sufs_snoc]
    by_cases c : q < w.length
    · rw [if_pos c, List.getElem?_append_left (by simpa [hn] using c), List.getElem?_map]
    · rw [if_neg c, List.getElem?_append_right (by simp [hn]; omega), List.length_map, hn]
      by_cases c2 : q = w.length
      · subst c2; simp
      · rw [if_neg c2, List.getElem?_eq_none (by simp; omega)]
  -- the place as it was
  have old : ∀ m : Int, (lp i w).2.length + v i x = m → v i x ≠ m → ∀ q r', (lp i w).2 = q :: r' → LastAt (sufs i (w ++ [x])) m q := by
    intro m hm hv q r' hq
    obtain ⟨k1, k2⟩ := ih q r' hq
    have hlt : q < w.length := lp_lt i w q (.inr (by rw [hq]; exact List.mem_cons_self ..))
    refine ⟨?_, fun q' hq' => ?_⟩
    · rw [get, if_pos hlt, k1]
      exact congrArg some hm
    · rw [get]
      split
      · intro z
        obtain ⟨y, hy, hz⟩ := Option.map_eq_some_iff.mp z
        refine k2 q' hq' ?_
        rw [hy]
        congr 1
        omega
      · split
        · intro z; exact hv (Option.some.inj z)
        · exact fun z => nomatch z
  rw [lp_snoc] at hp ⊢
  rcases st_cases i (lp i w).1 (lp i w).2 w.length x with ⟨h1, e⟩ | ⟨h1, h2, e⟩ | ⟨h1, h2, e⟩ | ⟨h1, h2, e⟩ <;>
    rw [show lp i w = ((lp i w).1, (lp i w).2) from rfl, e] at hp ⊢ <;> simp only at hp ⊢
  · have hv : v i x = 1 := by unfold v; rw [if_pos h1]
    cases ho : (lp i w).2 with
    | nil =>
      rw [ho] at hp
      have e0 : p = w.length := by simpa using (List.cons.inj hp).1.symm
      subst e0
      refine ⟨?_, fun q hq => ?_⟩
      · rw [get, if_neg (Nat.lt_irrefl _), if_pos rfl, hv]; simp
      · rw [get, if_neg (by omega), if_neg (by omega)]; exact fun z => nomatch z
    | cons q r' =>
      rw [ho] at hp
      have e0 : q = p := (List.cons.inj hp).1
      subst e0
      rw [← ho]
      refine old _ ?_ ?_ q r' ho
      · rw [hv]; simp
      · rw [hv, List.length_append, ho]; simp; omega
  · cases hp
  · have hv : v i x = -1 := by unfold v; rw [if_neg (by omega), if_pos h1]
    cases ho : (lp i w).2 with
    | nil => exact absurd ho h2
    | cons q r' =>
      rw [ho] at hp
      have e0 : q = p := by
        cases r' with
        | nil => cases hp
        | cons a b => exact (List.cons.inj hp).1
      subst e0
      rw [← ho]
      refine old _ ?_ ?_ q r' ho
      · rw [hv, List.length_dropLast, ho]; simp; omega
      · rw [hv]; omega
  · have hv : v i x = 0 := by unfold v; rw [if_neg h2, if_neg h1]
    refine old _ ?_ ?_ p r hp
    · rw [hv]; omega
    · rw [hv, hp]; simp; omega
/-- the word turned about -/
def sw (i x : Int) : Int := if x = i ∨ x = i + 1 then 2 * i + 1 - x else x
theorem sw_sw (i x : Int) : sw i (sw i x) = x := by
  unfold sw
  by_cases h : x = i ∨ x = i + 1
  · rw [if_pos h, if_pos (by omega)]; omega
  · rw [if_neg h, if_neg h]
theorem v_sw (i x : Int) : v i (sw i x) = - v i x := by
  by_cases h1 : x = i + 1
  · have e : sw i x = i := by unfold sw; rw [if_pos (Or.inr h1)]; omega
    rw [e]; unfold v; rw [if_neg (by omega), if_pos rfl, if_pos h1]
  · by_cases h2 : x = i
    · have e : sw i x = i + 1 := by unfold sw; rw [if_pos (Or.inl h2)]; omega
      rw [e]; unfold v; rw [if_pos rfl, if_neg h1, if_pos h2]; rfl
    · have e : sw i x = x := by unfold sw; rw [if_neg (by omega)]
      rw [e]; unfold v; rw [if_neg h1, if_neg h2]; rfl
def turned (i : Int) (w : List Int) : List Int := w.reverse.map (sw i)
theorem turned_snoc (i : Int) (w : List Int) (x : Int) : turned i (w ++ [x]) = sw i x :: turned i w := by simp [turned]
theorem turned_S (i : Int) : ∀ w, S i (turned i w) = - S i w := by
  refine snocInd rfl fun w x ih => ?_
  rw [turned_snoc, S_app]
  simp only [S, ih, v_sw]
  omega
theorem dn_max (i : Int) : ∀ w, (∀ y ∈ sufs i (turned i w) ++ [0], y ≤ ((lp i w).1.length : Int)) ∧ ((lp i w).1.length : Int) ∈ sufs i (turned i w) ++ [0] := by
  refine snocInd ⟨fun y h => by simp [turned, sufs] at h; subst h; exact Int.le_refl _, by simp [turned, sufs, lp_nil]⟩ fun w x ih => ?_
  obtain ⟨k1, k2⟩ := ih
  have hs : S i (sw i x :: turned i w) = (lp i w).1.length - (lp i w).2.length - v i x := by
    have e1 := turned_S i w
    have e2 := lp_S i w
    simp only [S, v_sw]
    omega
  rw [turned_snoc]
  show (∀ y ∈ S i (sw i x :: turned i w) :: (sufs i (turned i w) ++ [0]), _) ∧ _ ∈ S i (sw i x :: turned i w) :: (sufs i (turned i w) ++ [0])
  rw [hs, lp_snoc]
  have old : ∀ m' : Int, m' = (lp i w).1.length → (lp i w).1.length - (lp i w).2.length - v i x ≤ m' → (∀ y ∈ ((lp i w).1.length - (lp i w).2.length - v i x) :: (sufs i (turned i w) ++ [0]), y ≤ m') ∧ m' ∈ ((lp i w).1.length - (lp i w).2.length - v i x) :: (sufs i (turned i w) ++ [0]) := by
    intro m' h1 h2
    subst h1
    refine ⟨fun y hy => ?_, List.mem_cons_of_mem _ k2⟩
    rcases List.mem_cons.mp hy with rfl | hy
    · exact h2
    · exact k1 y hy
  unfold v at old ⊢
  rcases st_cases i (lp i w).1 (lp i w).2 w.length x with ⟨h1, e⟩ | ⟨h1, h2, e⟩ | ⟨h1, h2, e⟩ | ⟨h1, h2, e⟩
  · rw [show lp i w = ((lp i w).1, (lp i w).2) from rfl, e]
    refine old _ rfl ?_
    simp only
    rw [if_pos h1]; omega
  · rw [show lp i w = ((lp i w).1, (lp i w).2) from rfl, e, if_neg (by omega), if_pos h1, h2]
    simp only [List.length_append, List.length_cons, List.length_nil]
    refine ⟨fun y hy => ?_, ?_⟩
    · rcases List.mem_cons.mp hy with rfl | hy
      · omega
      · have := k1 y hy; omega
    · refine List.mem_cons.mpr (.inl ?_); omega
  · rw [show lp i w = ((lp i w).1, (lp i w).2) from rfl, e]
    have := List.length_pos_iff.mpr h2
    refine old _ rfl ?_
    simp only
    rw [if_neg (by omega), if_pos h1]; omega
  · rw [show lp i w = ((lp i w).1, (lp i w).2) from rfl, e]
    refine old _ rfl ?_
    simp only
    rw [if_neg h2, if_neg h1]; omega
theorem turned_len (i : Int) (w : List Int) : (turned i w).length = w.length := by simp [turned]
theorem dn_at (i : Int) : ∀ w, ∀ q r, (lp i w).1 = r ++ [q] → LastAt (sufs i (turned i w)) (lp i w).1.length (w.length - 1 - q) := by
  refine snocInd (fun q r h => by rw [lp_nil] at h; simp at h) fun w x ih q r hq => ?_
  have low := (dn_max i w).1
  have hs : S i (sw i x :: turned i w) = (lp i w).1.length - (lp i w).2.length - v i x := by
    have e1 := turned_S i w
    have e2 := lp_S i w
    simp only [S, v_sw]
    omega
  rw [turned_snoc]
  have e0 : sufs i (sw i x :: turned i w) = S i (sw i x :: turned i w) :: sufs i (turned i w) := rfl
  rw [e0, hs]
  rw [lp_snoc] at hq ⊢
  have old : ∀ h : Int, (lp i w).1 = r ++ [q] → LastAt (h :: sufs i (turned i w)) (lp i w).1.length ((w ++ [x]).length - 1 - q) := by
    intro h hq
    have hlt : q < w.length := lp_lt i w q (.inl (by rw [hq]; simp))
    obtain ⟨k1, k2⟩ := ih q r hq
    have e : (w ++ [x]).length - 1 - q = (w.length - 1 - q) + 1 := by simp; omega
    rw [e]
    refine ⟨k1, fun q' hq' => ?_⟩
    obtain ⟨t, rfl⟩ : ∃ t, q' = t + 1 := ⟨q' - 1, by omega⟩
    rw [List.getElem?_cons_succ]
    exact k2 t (by omega)
  rcases st_cases i (lp i w).1 (lp i w).2 w.length x with ⟨h1, e⟩ | ⟨h1, h2, e⟩ | ⟨h1, h2, e⟩ | ⟨h1, h2, e⟩ <;>
    rw [show lp i w = ((lp i w).1, (lp i w).2) from rfl, e] at hq ⊢ <;> simp only at hq ⊢
  · exact old _ hq
  · have hv : v i x = -1 := by unfold v; rw [if_neg (by omega), if_pos h1]
    have eq : q = w.length := by
      have := congrArg List.getLast? hq
      simpa using this.symm
    subst eq
    have e1 : (w ++ [x]).length - 1 - w.length = 0 := by simp
    rw [e1]
    refine ⟨?_, fun q' hq' => ?_⟩
    · rw [List.getElem?_cons_zero, hv, h2]
      simp
    · obtain ⟨t, rfl⟩ : ∃ t, q' = t + 1 := ⟨q' - 1, by omega⟩
      rw [List.getElem?_cons_succ]
      intro z
      have := low _ (List.mem_append_left _ (List.mem_of_getElem? z))
      simp at this
      omega
  · exact old _ hq
  · exact old _ hq
end B43

set_option Elab.async false
set_option linter.all false
set_option maxRecDepth 100000
set_option maxHeartbeats 2000000
namespace Wk43
open PySem PySem.Spec PyProof.Rows L2 DL
local macro_rules | `(tactic| infer_instance) => `(tactic| with_reducible first
  | (refine mk1 ?_; first | refine ok_var (by with_unfolding_all rfl) ?_ | refine ok_cst ?_ | refine ok_toE ?_ | refine ok_if ?_ | refine ok_and ?_ | refine ok_or ?_)
  | (refine mk2 ?_; first | refine ok_bin ?_ | refine ok_toV ?_ | refine ok_call ?_ | refine ok_blt ?_ | refine ok_lst ?_ | refine ok_tup ?_ | refine ok_not ?_ | refine ok_neg ?_ | refine ok_isi ?_ | refine ok_chain ?_ | refine ok_fCut ?_ | refine ok_un ?_ | refine ok_append ?_ | refine ok_pop ?_ | refine ok_comp ?_ | refine ok_lstR ?_ | refine ok_fnP (by simp only [List.cons_append, List.nil_append, List.length_cons, List.length_nil, List.replicate, Nat.reduceAdd, Nat.reduceSub, Nat.zero_add] <;> with_unfolding_all rfl) ?_)
  | (refine mk3 ?_; first | refine ok_testV ?_ | refine ok_truth ?_ | refine ok_gAnd ?_ | refine ok_gOr ?_ | refine ok_gNot ?_ | refine ok_gYes ?_)
  | (refine mk4 ?_; first | refine ok_cons ?_ | refine ok_nil ?_)
  | (refine mk5 ?_; first | refine ok_seq ?_ | refine ok_ret ?_ | refine ok_sIf ?_ | refine ok_set ?_ | refine ok_expr ?_ | refine ok_next ?_ | refine ok_asg ?_ | refine ok_par ?_ | refine ok_for ?_ | refine ok_setIx ?_ | refine ok_sBrk ?_ | refine ok_sCont ?_)
  | (refine mk6 ?_; first | refine ok_no ?_ | refine ok_at ?_)
  | (refine mk7 ?_; first | refine ok_iSq ?_ | refine ok_iEn ?_ | refine ok_iR1 ?_ | refine ok_iR2 ?_ | refine ok_iZp ?_)
  | (refine mk9 ?_; first | refine ok_look (by with_unfolding_all rfl) ?_)
  | (refine mk8 ?_; first | refine ok_addI ?_ | refine ok_subI ?_ | refine ok_eqI ?_ | refine ok_neI ?_ | refine ok_ltI ?_ | refine ok_leI ?_ | refine ok_gtI ?_ | refine ok_geI ?_ | refine ok_isN (by with_unfolding_all rfl) ?_ | refine ok_one ?_ | refine ok_lenL ?_ | refine ok_lenT ?_ | refine ok_ixL (by with_unfolding_all rfl) ?_ | refine ok_ixT (by with_unfolding_all rfl) ?_ | refine ok_okLen (by simp only [List.length_cons, List.length_nil]; decide) ?_ | refine ok_cutL ?_ | refine ok_cutT ?_ | refine ok_mulI (mulS (.inl (by decide))) ?_ | refine ok_mulI (mulS (.inr (by decide))) ?_ | refine ok_powI (by decide) ?_ | refine ok_modI (by decide) ?_ | refine ok_divI (by decide) ?_ | refine ok_intI ?_ | refine ok_listL ?_ | refine ok_listT ?_ | refine ok_tupleL ?_ | refine ok_tupleT ?_ | refine ok_max2 ?_ | refine ok_min2 ?_ | refine ok_eqB ?_ | refine ok_neB ?_ | refine ok_sRev (by with_unfolding_all rfl) ?_ | refine ok_mulL (by decide) (by decide) ?_ | refine ok_addT (by simp only [List.length_cons, List.length_nil]; decide) ?_ | refine ok_addL (by simp only [List.length_cons, List.length_nil]; decide) ?_)
  | (refine mkE ?_; first | refine ok_put (by simp only [putV, setR, Slot.pin, List.set_cons_zero, List.set_cons_succ, List.getElem?_cons_zero, List.getElem?_cons_succ, Bool.false_eq_true, if_false] <;> with_unfolding_all rfl) ?_ | refine ok_tgt (by simp only [gTp, hCons, hNil, gNm, putV, Slot.pin, List.set_cons_zero, List.set_cons_succ, List.getElem?_cons_zero, List.getElem?_cons_succ, Bool.false_eq_true, if_false, Option.bind_some] <;> with_unfolding_all rfl) ?_ | refine ok_back (by simp only [back, reb, List.set_cons_zero, List.set_cons_succ, List.getElem?_cons_zero, List.getElem?_cons_succ] <;> with_unfolding_all rfl) ?_)
  | refine br_true ?_ | refine br_false ?_ | refine br_yes (by with_unfolding_all rfl) ?_ | refine br_no (by with_unfolding_all rfl) ?_ | refine isB ?_ | refine isBr ?_ | refine isI ?_ | refine isV ?_ | refine isR1 ?_ | refine isR2 ?_ | refine isZL ?_ | refine isZT ?_ | refine isO (by with_unfolding_all rfl) ?_ | refine setE (by simp only [List.set_cons_zero, List.set_cons_succ, Int.reduceToNat] <;> with_unfolding_all rfl) ?_ | refine ok_lent (by simp only [lent, List.getElem?_cons_zero, List.getElem?_cons_succ, Option.map_some, List.any_nil, List.any_cons, isSlot, Bool.false_eq_true, if_false, Bool.or_self, Bool.or_false] <;> with_unfolding_all rfl) ?_ | refine ok_looks (by with_unfolding_all rfl) ?_ | refine ok_truthD (by with_unfolding_all rfl) ?_ | refine ok_frz (by simp only [frz, List.set_cons_zero, List.set_cons_succ, List.getElem?_cons_zero, List.getElem?_cons_succ] <;> with_unfolding_all rfl) ?_ | refine ok_frzs (by simp only [frzs, frz, List.set_cons_zero, List.set_cons_succ, List.getElem?_cons_zero, List.getElem?_cons_succ, Option.bind_some, Option.map_some] <;> with_unfolding_all rfl) ?_ | refine then_ret ?_ | refine turn_next ?_ | refine turn_ret ?_ | refine turn_cont ?_ | refine turn_brk ?_ | refine ok_seqOf (by with_unfolding_all rfl) ?_ | refine ok_rfl (show ixN _ _ = some _ by with_unfolding_all rfl) ?_ | refine fl_next ?_ | refine fnEnd_ret (by simp only [fixO, Slot.pin, Bool.false_eq_true, if_false, if_true] <;> with_unfolding_all rfl) ?_ | refine fnEnd_next (by simp only [fixO, Slot.pin, Bool.false_eq_true, if_false, if_true] <;> with_unfolding_all rfl) ?_)
local macro_rules | `(tactic| nofun) => `(tactic| repeat infer_instance)
local macro_rules | `(tactic| and_intros) => `(tactic| repeat (first | infer_instance | with_reducible refine then_next ?_))
set_option exponentiation.threshold 1000
open B43
theorem ok_draw {n : Nat} {f : List D} {many : Int} {P : Res → List Slot → Prop} (hf : Feed n f) (hn : n ≤ 1000000000) (hm : 0 < many ∧ many < 1073741824)
    (k : ∀ g f', 0 ≤ g → g < many → Feed (n + 1) f' → P (.val (.int g)) [.own true f', .val false (.int many)]) : Ev (m_x_law_draw [.own true f, .val false (.int many)]) P := by
  obtain ⟨a, b, c, rfl, h1, h2, h3, h4⟩ := hf
  unfold m_x_law_draw f_x_law_draw
  and_intros
  refine br_dec (fun h => ?_) fun h => ?_
  · and_intros
    refine ok_modI hm.1 ?_
    and_intros
    refine ok_divI hm ?_
    and_intros
    exact k _ _ (mod_rng hm.1).1 (mod_rng hm.1).2 ⟨_, _, _, rfl, h1, h2, h3, by omega⟩
  · and_intros
    refine ok_mulI (mulW ⟨by omega, by omega⟩ ⟨by omega, by omega⟩) ?_
    and_intros
    refine ok_mulI (mulW (bnd (mul_lt (a := 142) (b := 142) ⟨by omega, by omega⟩ ⟨by omega, by omega⟩)) ⟨by omega, by omega⟩) ?_
    and_intros
    refine ok_mulI (mulW (modW (by decide) (by decide)) (modW (by decide) (by decide))) ?_
    and_intros
    refine ok_modI hm.1 ?_
    and_intros
    exact k _ _ (mod_rng hm.1).1 (mod_rng hm.1).2 ⟨_, _, _, rfl, h1, h2, by omega, by omega⟩
theorem ok_feed {ns : List Int} {k : Int} {P : Res → List Slot → Prop} (hk : 0 ≤ k)
    (h : ∀ f', Feed 0 f' → P (.fresh f') [.val false (.list (ns.map .int)), .val false (.int k)]) : Ev (m_x_law_feed [.val false (.list (ns.map .int)), .val false (.int k)]) P := by
  unfold m_x_law_feed f_x_law_feed
  and_intros
  refine ok_sumL (cut_map _ _ _ _) ?_
  nofun
  refine then_next ?_
  refine ok_seqK (fun e => ∃ c : Int, e = [.val false (.list (ns.map .int)), .val false (.int k), .val false (.int c)]) ?_ ?_
  · nofun
    refine br_dec (fun hc => ?_) fun hc => ?_
    · nofun
      refine ok_ixL (d := .int (ns.getD k.toNat 0)) ?_ ?_
      · rw [atI_nat _ hk, List.getElem?_map]
        rw [List.length_map] at hc
        rw [List.getD_eq_getElem?_getD, List.getElem?_eq_getElem (by omega)]
        rfl
      nofun
      exact ⟨_, rfl⟩
    · nofun
      exact ⟨_, rfl⟩
  · rintro e ⟨c, rfl⟩
    and_intros
    exact h _ ⟨_, _, _, rfl, (mod_rng (by decide)).1, Int.lt_of_lt_of_le (mod_rng (by decide)).2 (by decide), by decide, by decide⟩
theorem sp_same : ∀ (n : Nat) (d : D), Pl n d → n ≤ 60 → Rt (m_x_law_same (n + 1)) [.val false d, .val false d] (.val (.bool true)) := by
  intro n
  induction n with
  | zero =>
    intro d hc hn
    refine rt_ev ?_
    unfold m_x_law_same b_x_law_same_
    cases d with
    | none => and_intros; exact ⟨rfl, rfl⟩
    | bool b => and_intros; exact ⟨by simp, rfl⟩
    | int i => and_intros; exact ⟨by simp, rfl⟩
    | str x =>
      and_intros
      refine ok_eqD (hc.shaped (by omega)) (hc.shaped (by omega)) ?_
      and_intros
      exact ⟨by rw [eqv_refl _ hc.1], rfl⟩
    | dict x => cases hc.1
    | list l => exact absurd hc.2 (Nat.not_succ_le_zero _)
    | tuple l => exact absurd hc.2 (Nat.not_succ_le_zero _)
  | succ n ih =>
    intro d hc hn
    have ih' : ∀ x, Pl n x → Rt (m_x_law_same (n + 1)) [.val false x, .val false x] (.val (.bool true)) := fun x hx => ih x hx (by omega)
    have sub : ∀ l : List D, (PyData.canLayAll0 l = true) → PyData.depthAll l + 1 ≤ n + 1 → ∀ x ∈ l, Pl n x := fun l h1 h2 x hx => ⟨lay_mem h1 x hx, Nat.le_trans (depth_mem x hx) (by omega)⟩
    clear ih
    refine rt_ev ?_
    unfold m_x_law_same b_x_law_same_
    cases d with
    | none => and_intros; exact ⟨rfl, rfl⟩
    | bool b => and_intros; exact ⟨by simp, rfl⟩
    | int i => and_intros; exact ⟨by simp, rfl⟩
    | str x =>
      and_intros
      refine ok_eqD (hc.shaped (by omega)) (hc.shaped (by omega)) ?_
      and_intros
      exact ⟨by rw [eqv_refl _ hc.1], rfl⟩
    | dict x => cases hc.1
    | list l =>
      and_intros
      refine br_no (by simp) ?_
      and_intros
      rw [zip_self]
      refine ⟨rfl, ok_compN (e0 := [Slot.val false (PyData.list l), Slot.val false (PyData.list l), Slot.dead, Slot.dead]) rfl (fun x hx => ?_) fun e2 he => ?_⟩
      · and_intros
        refine ok_rt (ih' x (sub l hc.1 hc.2 x hx)) ?_
        and_intros
        exact rfl
      · rw [merge_bk he rfl]
        and_intros
        refine ok_eqNil rfl ?_
        and_intros
        exact ⟨rfl, rfl⟩
    | tuple l =>
      and_intros
      refine br_no (by simp) ?_
      and_intros
      rw [zip_self]
      refine ⟨rfl, ok_compN (e0 := [Slot.val false (PyData.tuple l), Slot.val false (PyData.tuple l), Slot.dead, Slot.dead]) rfl (fun x hx => ?_) fun e2 he => ?_⟩
      · and_intros
        refine ok_rt (ih' x (sub l hc.1 hc.2 x hx)) ?_
        and_intros
        exact rfl
      · rw [merge_bk he rfl]
        and_intros
        refine ok_eqNil rfl ?_
        and_intros
        exact ⟨rfl, rfl⟩
abbrev T (w : List Int) : D := .tuple (w.map .int)
abbrev nI (k : Nat) : D := .int (k : Nat)
abbrev N (l : List Nat) : D := .list (l.map nI)
open B43
theorem sp_is_integer (i : Int) : Rt m_is_integer [.val false (.int i)] (.val (.bool true)) := rfl
local macro_rules | `(tactic| infer_instance) => `(tactic| with_reducible refine ok_rt (sp_is_integer _) ?_)
theorem sp_is_within (i lo hi : Int) : Rt m_is_within [.val false (.int i), .val false (.int lo), .val false (.int hi)] (.val (.bool (decide (lo ≤ i) && decide (i ≤ hi)))) := by
  refine rt_ev ?_
  unfold m_is_within f_is_within
  and_intros
  refine br_dec (fun h => ?_) fun h => ?_
  · and_intros
    exact ⟨by simp [h], rfl⟩
  · and_intros
    exact ⟨by simp [h], rfl⟩
local macro_rules | `(tactic| infer_instance) => `(tactic| with_reducible refine ok_rt (sp_is_within _ _ _) ?_)
theorem sp_need_number (i lo hi : Int) (h : lo ≤ i ∧ i ≤ hi) : Rt m_need_number [.val false (.int i), .val false (.int lo), .val false (.int hi)] (.val .none) := by
  refine rt_ev ?_
  unfold m_need_number f_need_number
  and_intros
  refine br_no (by simp [h]) ?_
  and_intros
  exact ⟨rfl, rfl⟩
/-- a word of the package -/
def Wd (w : List Int) : Prop := w.length ≤ 30 ∧ ∀ x ∈ w, 1 ≤ x ∧ x ≤ 9
theorem sp_are_letters (w : List Int) (h : Wd w) : Rt m_are_letters [.val false (T w), .val false (.int 30)] (.val (.bool true)) := by
  refine rt_ev ?_
  unfold m_are_letters f_are_letters
  and_intros
  refine br_no (by have := h.1; simp; omega) ?_
  and_intros
  refine ⟨rfl, ok_compM (e0 := [Slot.val false (T w), Slot.val false (.int 30), Slot.dead]) (fun _ => .bool true) (Nat.le_trans h.1 (by decide)) rfl (fun x hx => ?_) fun e2 he => ?_⟩
  · and_intros
    refine ⟨?_, rfl⟩
    have := h.2 x hx
    simp [this]
  · rw [merge_bk he rfl]
    and_intros
    refine ok_allL (bs := w.map fun _ => true) (by simp) ?_
    and_intros
    exact ⟨by simp, rfl⟩
theorem sp_is_word_form (w : List Int) (h : Wd w) : Rt m_is_word_form [.val false (T w)] (.val (.bool true)) := by
  refine rt_ev ?_
  unfold m_is_word_form f_is_word_form
  and_intros
  refine ok_rt (sp_are_letters w h) ?_
  and_intros
  exact ⟨rfl, rfl⟩
theorem sp_need_word (w : List Int) (h : Wd w) : Rt m_need_word [.val false (T w)] (.val .none) := by
  refine rt_ev ?_
  unfold m_need_word f_need_word
  and_intros
  refine ok_rt (sp_is_word_form w h) ?_
  and_intros
  exact ⟨rfl, rfl⟩
theorem sp_need_raise (w : List Int) (i : Int) (h : Wd w) (hi : 1 ≤ i ∧ i ≤ 8) : Rt m_need_raise [.val false (T w), .val false (.int i)] (.val .none) := by
  refine rt_ev ?_
  unfold m_need_raise f_need_raise
  and_intros
  refine ok_rt (sp_need_word w h) ?_
  and_intros
  refine ok_rt (sp_need_number i 1 (9 - 1) (by omega)) ?_
  and_intros
  exact ⟨rfl, rfl⟩

end Wk43

set_option Elab.async false
set_option linter.all false
set_option maxRecDepth 100000
set_option maxHeartbeats 2000000
namespace Wk43
open PySem PySem.Spec PyProof.Rows L2 DL
local macro_rules | `(tactic| infer_instance) => `(tactic| with_reducible first
  | (refine mk1 ?_; first | refine ok_var (by with_unfolding_all rfl) ?_ | refine ok_cst ?_ | refine ok_toE ?_ | refine ok_if ?_ | refine ok_and ?_ | refine ok_or ?_)
  | (refine mk2 ?_; first | refine ok_bin ?_ | refine ok_toV ?_ | refine ok_call ?_ | refine ok_blt ?_ | refine ok_lst ?_ | refine ok_tup ?_ | refine ok_not ?_ | refine ok_neg ?_ | refine ok_isi ?_ | refine ok_chain ?_ | refine ok_fCut ?_ | refine ok_un ?_ | refine ok_append ?_ | refine ok_pop ?_ | refine ok_comp ?_ | refine ok_lstR ?_ | refine ok_fnP (by simp only [List.cons_append, List.nil_append, List.length_cons, List.length_nil, List.replicate, Nat.reduceAdd, Nat.reduceSub, Nat.zero_add] <;> with_unfolding_all rfl) ?_)
  | (refine mk3 ?_; first | refine ok_testV ?_ | refine ok_truth ?_ | refine ok_gAnd ?_ | refine ok_gOr ?_ | refine ok_gNot ?_ | refine ok_gYes ?_)
  | (refine mk4 ?_; first | refine ok_cons ?_ | refine ok_nil ?_)
  | (refine mk5 ?_; first | refine ok_seq ?_ | refine ok_ret ?_ | refine ok_sIf ?_ | refine ok_set ?_ | refine ok_expr ?_ | refine ok_next ?_ | refine ok_asg ?_ | refine ok_par ?_ | refine ok_for ?_ | refine ok_setIx ?_ | refine ok_sBrk ?_ | refine ok_sCont ?_)
  | (refine mk6 ?_; first | refine ok_no ?_ | refine ok_at ?_)
  | (refine mk7 ?_; first | refine ok_iSq ?_ | refine ok_iEn ?_ | refine ok_iR1 ?_ | refine ok_iR2 ?_ | refine ok_iZp ?_)
  | (refine mk9 ?_; first | refine ok_look (by with_unfolding_all rfl) ?_)
  | (refine mk8 ?_; first | refine ok_addI ?_ | refine ok_subI ?_ | refine ok_eqI ?_ | refine ok_neI ?_ | refine ok_ltI ?_ | refine ok_leI ?_ | refine ok_gtI ?_ | refine ok_geI ?_ | refine ok_isN (by with_unfolding_all rfl) ?_ | refine ok_one ?_ | refine ok_lenL ?_ | refine ok_lenT ?_ | refine ok_ixL (by with_unfolding_all rfl) ?_ | refine ok_ixT (by with_unfolding_all rfl) ?_ | refine ok_okLen (by simp only [List.length_cons, List.length_nil]; decide) ?_ | refine ok_cutL ?_ | refine ok_cutT ?_ | refine ok_mulI (mulS (.inl (by decide))) ?_ | refine ok_mulI (mulS (.inr (by decide))) ?_ | refine ok_powI (by decide) ?_ | refine ok_modI (by decide) ?_ | refine ok_divI (by decide) ?_ | refine ok_intI ?_ | refine ok_listL ?_ | refine ok_listT ?_ | refine ok_tupleL ?_ | refine ok_tupleT ?_ | refine ok_max2 ?_ | refine ok_min2 ?_ | refine ok_eqB ?_ | refine ok_neB ?_ | refine ok_sRev (by with_unfolding_all rfl) ?_ | refine ok_mulL (by decide) (by simp only [List.length_cons, List.length_nil]; decide) ?_ | refine ok_addT (by simp only [List.length_cons, List.length_nil]; decide) ?_ | refine ok_addL (by simp only [List.length_cons, List.length_nil]; decide) ?_)
  | (refine mkE ?_; first | refine ok_put (by simp only [putV, setR, Slot.pin, List.set_cons_zero, List.set_cons_succ, List.getElem?_cons_zero, List.getElem?_cons_succ, Bool.false_eq_true, if_false] <;> with_unfolding_all rfl) ?_ | refine ok_tgt (by simp only [gTp, hCons, hNil, gNm, putV, Slot.pin, List.set_cons_zero, List.set_cons_succ, List.getElem?_cons_zero, List.getElem?_cons_succ, Bool.false_eq_true, if_false, Option.bind_some] <;> with_unfolding_all rfl) ?_ | refine ok_back (by simp only [back, reb, List.set_cons_zero, List.set_cons_succ, List.getElem?_cons_zero, List.getElem?_cons_succ] <;> with_unfolding_all rfl) ?_)
  | refine br_true ?_ | refine br_false ?_ | refine br_yes (by with_unfolding_all rfl) ?_ | refine br_no (by with_unfolding_all rfl) ?_ | refine isB ?_ | refine isBr ?_ | refine isI ?_ | refine isV ?_ | refine isR1 ?_ | refine isR2 ?_ | refine isZL ?_ | refine isZT ?_ | refine isO (by with_unfolding_all rfl) ?_ | refine setE (by simp only [List.set_cons_zero, List.set_cons_succ, Int.reduceToNat] <;> with_unfolding_all rfl) ?_ | refine ok_lent (by simp only [lent, List.getElem?_cons_zero, List.getElem?_cons_succ, Option.map_some, List.any_nil, List.any_cons, isSlot, Bool.false_eq_true, if_false, Bool.or_self, Bool.or_false] <;> with_unfolding_all rfl) ?_ | refine ok_looks (by with_unfolding_all rfl) ?_ | refine ok_truthD (by with_unfolding_all rfl) ?_ | refine ok_frz (by simp only [frz, List.set_cons_zero, List.set_cons_succ, List.getElem?_cons_zero, List.getElem?_cons_succ] <;> with_unfolding_all rfl) ?_ | refine ok_frzs (by simp only [frzs, frz, List.set_cons_zero, List.set_cons_succ, List.getElem?_cons_zero, List.getElem?_cons_succ, Option.bind_some, Option.map_some] <;> with_unfolding_all rfl) ?_ | refine then_ret ?_ | refine turn_next ?_ | refine turn_ret ?_ | refine turn_cont ?_ | refine turn_brk ?_ | refine ok_seqOf (by with_unfolding_all rfl) ?_ | refine ok_rfl (show ixN _ _ = some _ by with_unfolding_all rfl) ?_ | refine fl_next ?_ | refine fnEnd_ret (by simp only [fixO, Slot.pin, Bool.false_eq_true, if_false, if_true] <;> with_unfolding_all rfl) ?_ | refine fnEnd_next (by simp only [fixO, Slot.pin, Bool.false_eq_true, if_false, if_true] <;> with_unfolding_all rfl) ?_)
local macro_rules | `(tactic| nofun) => `(tactic| repeat infer_instance)
local macro_rules | `(tactic| and_intros) => `(tactic| repeat (first | infer_instance | with_reducible refine then_next ?_))
set_option exponentiation.threshold 1000
open B43
local macro_rules | `(tactic| infer_instance) => `(tactic| with_reducible refine ok_rt (sp_is_integer _) ?_)
local macro_rules | `(tactic| infer_instance) => `(tactic| with_reducible refine ok_rt (sp_is_within _ _ _) ?_)
def moreD (i : Int) (w : List Int) : List Nat → D
  | [] => .none
  | p :: _ => T (w.set p i)
def lessD (i : Int) (w : List Int) : Option Nat → D
  | none => .none
  | some p => T (w.set p (i + 1))
theorem last_map (l : List Nat) (h : l ≠ []) : (l.map nI)[(l.map nI).length - 1]? = some (nI (l.getLast h)) := by
  have pos := List.length_pos_iff.mpr h
  rw [List.length_map, List.getElem?_map, List.getElem?_eq_getElem (by omega), List.getLast_eq_getElem]
  rfl
theorem sh_N (l : List Nat) : SeqAt.shaped (N l) = true := Pl.shaped (n := 1) (pl_list (pls_map fun _ _ => pl_int _ _)) (by decide)
theorem sh_T (w : List Int) : SeqAt.shaped (T w) = true := Pl.shaped (n := 1) (pl_intT 0 w) (by decide)
theorem take_snoc {w : List Int} {k : Nat} {x : Int} (h : w[k]? = some x) : w.take (k + 1) = w.take k ++ [x] := by rw [List.take_add_one, h]; rfl
theorem sp_left_places (w : List Int) (i : Int) (hw : w.length ≤ 1000) : Rt m_left_places [.val false (T w), .val false (.int i)] (.val (.tuple [N (lp i w).1, N (lp i w).2])) := by
  refine rt_ev ?_
  unfold m_left_places f_left_places
  and_intros
  rw [enum_map]
  refine ok_forX (fun k e => ∃ s4 s5 : Slot, s4.pin = false ∧ s5.pin = false ∧ e = [.val false (T w), .val false (.int i), .own false ((lp i (w.take k)).2.map nI), .own false ((lp i (w.take k)).1.map nI), s4, s5]) ⟨.dead, .dead, rfl, rfl, rfl⟩ (fun k p e hp ⟨s4, s5, h4, h5, he⟩ => ?_) fun e ⟨s4, s5, h4, h5, he⟩ => ?_
  · rw [List.getElem?_zipIdx] at hp
    obtain ⟨x, hx, rfl⟩ := Option.map_eq_some_iff.mp hp
    have hk := (List.getElem?_eq_some_iff.mp hx).1
    have hlen := lp_len i (w.take k)
    rw [List.length_take] at hlen
    subst he
    rw [take_snoc hx, lp_snoc, List.length_take, Nat.min_eq_left (Nat.le_of_lt hk), Nat.zero_add]
    generalize hL : (lp i (w.take k)).1 = L at *
    generalize hO : (lp i (w.take k)).2 = O at *
    rw [show lp i (w.take k) = (L, O) by rw [← hL, ← hO]]
    refine ok_tgt (d := [.val false (T w), .val false (.int i), .own false (O.map nI), .own false (L.map nI), .val false (nI k), .val false (.int x)]) (by simp [gTp, hCons, hNil, gNm, putV, h4, h5]) ?_
    nofun
    refine br_beq (fun c => ?_) fun c => ?_
    · nofun
      refine ⟨by simp [SZ]; omega, ?_⟩
      and_intros
      refine ⟨.val false (nI k), .val false (.int x), rfl, rfl, ?_⟩
      unfold B43.st
      rw [if_pos c]
      simp
    · nofun
      refine br_beq (fun c2 => ?_) fun c2 => ?_
      · nofun
        refine ok_neNil (sh_N O) ?_
        nofun
        refine br_nil (fun c3 => ?_) fun c3 => ?_
        · nofun
          have c4 : O ≠ [] := fun z => c3 (by rw [z]; rfl)
          have pos := List.length_pos_iff.mpr c4
          refine ok_rfl (a := nI (O.getLast c4)) (last_map O c4) ?_
          and_intros
          refine ⟨.val false (nI k), .val false (.int x), rfl, rfl, ?_⟩
          unfold B43.st
          rw [if_neg c, if_pos c2, if_neg c4]
          simp
        · have c4 : O = [] := by simpa using c3
          nofun
          refine br_yes (by simp [c2]) ?_
          nofun
          refine ⟨by simp [SZ]; omega, ?_⟩
          and_intros
          refine ⟨.val false (nI k), .val false (.int x), rfl, rfl, ?_⟩
          unfold B43.st
          rw [if_neg c, if_pos c2, if_pos c4, c4]
          simp
      · nofun
        refine br_no (by simpa using c2) ?_
        nofun
        refine ⟨.val false (nI k), .val false (.int x), rfl, rfl, ?_⟩
        unfold B43.st
        rw [if_neg c, if_neg c2]
  · subst he
    rw [List.length_zipIdx, List.take_length]
    and_intros
    exact ⟨rfl, rfl⟩
theorem set_eq (w : List Int) (p : Nat) (x : Int) (h : p < w.length) : w.take p ++ [x] ++ w.drop (p + 1) = w.set p x := by
  rw [List.set_eq_take_append_cons_drop, if_pos h]
  simp
theorem sp_with_letter (w : List Int) (p : Nat) (x : Int) (hw : w.length ≤ 1000) (hp : p < w.length) : Rt m_with_letter [.val false (T w), .val false (nI p), .val false (.int x)] (.val (T (w.set p x))) := by
  refine rt_ev ?_
  unfold m_with_letter f_with_letter
  and_intros
  rw [cut_map, cut_to _ (by omega)]
  refine ok_addT (by simp [SZ]; omega) ?_
  and_intros
  rw [cut_map, cut_from _ (by omega)]
  refine ok_addT (by simp [SZ]; omega) ?_
  and_intros
  refine ⟨?_, rfl⟩
  rw [← set_eq w p x hp]
  simp
theorem sp_raised_word (w : List Int) (i : Int) (hw : w.length ≤ 1000) : Rt m_raised_word [.val false (T w), .val false (.int i)] (.val (moreD i w (lp i w).2)) := by
  refine rt_ev ?_
  unfold m_raised_word f_raised_word
  and_intros
  refine ok_rt (sp_left_places w i hw) ?_
  and_intros
  refine ok_neNil (sh_N _) ?_
  have lt := lp_lt i w
  generalize (lp i w).2 = O at *
  cases O with
  | nil => and_intros; exact ⟨rfl, rfl⟩
  | cons p O =>
    and_intros
    refine ok_ixL (d := nI p) (by rw [atI_nat _ (by decide)]; rfl) ?_
    and_intros
    refine ok_rt (sp_with_letter w p i hw (lt p (.inr (List.mem_cons_self ..)))) ?_
    and_intros
    exact ⟨rfl, rfl⟩
theorem sp_lowered_word (w : List Int) (i : Int) (hw : w.length ≤ 1000) : Rt m_lowered_word [.val false (T w), .val false (.int i)] (.val (lessD i w (lp i w).1.getLast?)) := by
  refine rt_ev ?_
  unfold m_lowered_word f_lowered_word
  and_intros
  refine ok_rt (sp_left_places w i hw) ?_
  and_intros
  refine ok_neNil (sh_N _) ?_
  have lt := lp_lt i w
  generalize (lp i w).1 = L at *
  by_cases c : L = []
  · subst c
    and_intros
    exact ⟨rfl, rfl⟩
  · have pos := List.length_pos_iff.mpr c
    and_intros
    refine br_yes (by simpa using c) ?_
    and_intros
    refine ok_ixL (d := nI (L.getLast c)) (by rw [atI_last _ (by simpa using c)]; exact last_map L c) ?_
    and_intros
    refine ok_rt (sp_with_letter w _ (i + 1) hw (lt _ (.inl (List.getLast_mem c)))) ?_
    and_intros
    refine ⟨?_, rfl⟩
    rw [List.getLast?_eq_some_getLast c]
    rfl

end Wk43

set_option Elab.async false
set_option linter.all false
set_option maxRecDepth 100000
set_option maxHeartbeats 2000000
namespace Wk43
open PySem PySem.Spec PyProof.Rows L2 DL
local macro_rules | `(tactic| infer_instance) => `(tactic| with_reducible first
  | (refine mk1 ?_; first | refine ok_var (by with_unfolding_all rfl) ?_ | refine ok_cst ?_ | refine ok_toE ?_ | refine ok_if ?_ | refine ok_and ?_ | refine ok_or ?_)
  | (refine mk2 ?_; first | refine ok_bin ?_ | refine ok_toV ?_ | refine ok_call ?_ | refine ok_blt ?_ | refine ok_lst ?_ | refine ok_tup ?_ | refine ok_not ?_ | refine ok_neg ?_ | refine ok_isi ?_ | refine ok_chain ?_ | refine ok_fCut ?_ | refine ok_un ?_ | refine ok_append ?_ | refine ok_pop ?_ | refine ok_comp ?_ | refine ok_lstR ?_ | refine ok_fnP (by simp only [List.cons_append, List.nil_append, List.length_cons, List.length_nil, List.replicate, Nat.reduceAdd, Nat.reduceSub, Nat.zero_add] <;> with_unfolding_all rfl) ?_)
  | (refine mk3 ?_; first | refine ok_testV ?_ | refine ok_truth ?_ | refine ok_gAnd ?_ | refine ok_gOr ?_ | refine ok_gNot ?_ | refine ok_gYes ?_)
  | (refine mk4 ?_; first | refine ok_cons ?_ | refine ok_nil ?_)
  | (refine mk5 ?_; first | refine ok_seq ?_ | refine ok_ret ?_ | refine ok_sIf ?_ | refine ok_set ?_ | refine ok_expr ?_ | refine ok_next ?_ | refine ok_asg ?_ | refine ok_par ?_ | refine ok_for ?_ | refine ok_setIx ?_ | refine ok_sBrk ?_ | refine ok_sCont ?_)
  | (refine mk6 ?_; first | refine ok_no ?_ | refine ok_at ?_)
  | (refine mk7 ?_; first | refine ok_iSq ?_ | refine ok_iEn ?_ | refine ok_iR1 ?_ | refine ok_iR2 ?_ | refine ok_iZp ?_)
  | (refine mk9 ?_; first | refine ok_look (by with_unfolding_all rfl) ?_)
  | (refine mk8 ?_; first | refine ok_addI ?_ | refine ok_subI ?_ | refine ok_eqI ?_ | refine ok_neI ?_ | refine ok_ltI ?_ | refine ok_leI ?_ | refine ok_gtI ?_ | refine ok_geI ?_ | refine ok_isN (by with_unfolding_all rfl) ?_ | refine ok_one ?_ | refine ok_lenL ?_ | refine ok_lenT ?_ | refine ok_ixL (by with_unfolding_all rfl) ?_ | refine ok_ixT (by with_unfolding_all rfl) ?_ | refine ok_okLen (by simp only [List.length_cons, List.length_nil]; decide) ?_ | refine ok_cutL ?_ | refine ok_cutT ?_ | refine ok_mulI (mulS (.inl (by decide))) ?_ | refine ok_mulI (mulS (.inr (by decide))) ?_ | refine ok_powI (by decide) ?_ | refine ok_modI (by decide) ?_ | refine ok_divI (by decide) ?_ | refine ok_intI ?_ | refine ok_listL ?_ | refine ok_listT ?_ | refine ok_tupleL ?_ | refine ok_tupleT ?_ | refine ok_max2 ?_ | refine ok_min2 ?_ | refine ok_eqB ?_ | refine ok_neB ?_ | refine ok_sRev (by with_unfolding_all rfl) ?_ | refine ok_mulL (by decide) (by simp only [List.length_cons, List.length_nil]; decide) ?_ | refine ok_addT (by simp only [List.length_cons, List.length_nil]; decide) ?_ | refine ok_addL (by simp only [List.length_cons, List.length_nil]; decide) ?_)
  | (refine mkE ?_; first | refine ok_put (by simp only [putV, setR, Slot.pin, List.set_cons_zero, List.set_cons_succ, List.getElem?_cons_zero, List.getElem?_cons_succ, Bool.false_eq_true, if_false] <;> with_unfolding_all rfl) ?_ | refine ok_tgt (by simp only [gTp, hCons, hNil, gNm, putV, Slot.pin, List.set_cons_zero, List.set_cons_succ, List.getElem?_cons_zero, List.getElem?_cons_succ, Bool.false_eq_true, if_false, Option.bind_some] <;> with_unfolding_all rfl) ?_ | refine ok_back (by simp only [back, reb, List.set_cons_zero, List.set_cons_succ, List.getElem?_cons_zero, List.getElem?_cons_succ] <;> with_unfolding_all rfl) ?_)
  | refine br_true ?_ | refine br_false ?_ | refine br_yes (by with_unfolding_all rfl) ?_ | refine br_no (by with_unfolding_all rfl) ?_ | refine isB ?_ | refine isBr ?_ | refine isI ?_ | refine isV ?_ | refine isR1 ?_ | refine isR2 ?_ | refine isZL ?_ | refine isZT ?_ | refine isO (by with_unfolding_all rfl) ?_ | refine setE (by simp only [List.set_cons_zero, List.set_cons_succ, Int.reduceToNat] <;> with_unfolding_all rfl) ?_ | refine ok_lent (by simp only [lent, List.getElem?_cons_zero, List.getElem?_cons_succ, Option.map_some, List.any_nil, List.any_cons, isSlot, Bool.false_eq_true, if_false, Bool.or_self, Bool.or_false] <;> with_unfolding_all rfl) ?_ | refine ok_looks (by with_unfolding_all rfl) ?_ | refine ok_truthD (by with_unfolding_all rfl) ?_ | refine ok_frz (by simp only [frz, List.set_cons_zero, List.set_cons_succ, List.getElem?_cons_zero, List.getElem?_cons_succ] <;> with_unfolding_all rfl) ?_ | refine ok_frzs (by simp only [frzs, frz, List.set_cons_zero, List.set_cons_succ, List.getElem?_cons_zero, List.getElem?_cons_succ, Option.bind_some, Option.map_some] <;> with_unfolding_all rfl) ?_ | refine then_ret ?_ | refine turn_next ?_ | refine turn_ret ?_ | refine turn_cont ?_ | refine turn_brk ?_ | refine ok_seqOf (by with_unfolding_all rfl) ?_ | refine ok_rfl (show ixN _ _ = some _ by with_unfolding_all rfl) ?_ | refine fl_next ?_ | refine fnEnd_ret (by simp only [fixO, Slot.pin, Bool.false_eq_true, if_false, if_true] <;> with_unfolding_all rfl) ?_ | refine fnEnd_next (by simp only [fixO, Slot.pin, Bool.false_eq_true, if_false, if_true] <;> with_unfolding_all rfl) ?_)
local macro_rules | `(tactic| nofun) => `(tactic| repeat infer_instance)
local macro_rules | `(tactic| and_intros) => `(tactic| repeat (first | infer_instance | with_reducible refine then_next ?_))
set_option exponentiation.threshold 1000
open B43
local macro_rules | `(tactic| infer_instance) => `(tactic| with_reducible refine ok_rt (sp_is_integer _) ?_)
local macro_rules | `(tactic| infer_instance) => `(tactic| with_reducible refine ok_rt (sp_is_within _ _ _) ?_)
theorem W_setA (i : Int) (A B : List Nat) (w : List Int) (q : Nat) (h : q < w.length) : (W i A B w).set q i = W i (A ++ [q]) B w := by
  refine List.ext_getElem? fun p => ?_
  rw [List.getElem?_set, W_len, W_get, W_get]
  by_cases c : q = p
  · subst c; rw [if_pos rfl, if_pos h, List.getElem?_eq_getElem h]; simp
  · rw [if_neg c]
    have c' : ¬p = q := fun z => c z.symm
    simp [c']
theorem W_setB (i : Int) (A B : List Nat) (w : List Int) (q : Nat) (h : q < w.length) (n : q ∉ A) : (W i A B w).set q (i + 1) = W i A (B ++ [q]) w := by
  refine List.ext_getElem? fun p => ?_
  rw [List.getElem?_set, W_len, W_get, W_get]
  by_cases c : q = p
  · subst c; rw [if_pos rfl, if_pos h, List.getElem?_eq_getElem h]; simp [n]
  · rw [if_neg c]
    have c' : ¬p = q := fun z => c z.symm
    simp [c']
theorem U_len (i : Int) (w : List Int) : (U i w).length ≤ w.length := by have := lp_len i w; unfold U; rw [List.length_append]; exact this
theorem take_snocN {w : List Nat} {k : Nat} {x : Nat} (h : w[k]? = some x) : w.take (k + 1) = w.take k ++ [x] := by rw [List.take_add_one, h]; rfl
theorem sp_reflected_word (w : List Int) (i : Int) (hw : w.length ≤ 1000) : Rt m_reflected_word [.val false (T w), .val false (.int i)] (.val (T (Wa i w (lp i w).2.length))) := by
  have hl := lp_len i w
  refine rt_ev ?_
  unfold m_reflected_word f_reflected_word
  and_intros
  refine ok_rt (sp_left_places w i hw) ?_
  and_intros
  refine ok_addL (by simp [SZ]; omega) ?_
  and_intros
  rw [← List.map_append, enum_map]
  refine ok_forX (fun k e => ∃ s4 s5 : Slot, s4.pin = false ∧ s5.pin = false ∧ e = [.val false (T (W i (((U i w).take k).take (lp i w).2.length) (((U i w).take k).drop (lp i w).2.length) w)), .val false (.int i), .val false (N (lp i w).1), .val false (N (lp i w).2), s4, s5]) ⟨.dead, .dead, rfl, rfl, ?_⟩ (fun k p e hp ⟨s4, s5, h4, h5, he⟩ => ?_) fun e ⟨s4, s5, h4, h5, he⟩ => ?_
  · rw [show W i (((U i w).take 0).take (lp i w).2.length) (((U i w).take 0).drop (lp i w).2.length) w = w from List.ext_getElem? fun p => by rw [W_get]; simp]
  · rw [List.getElem?_zipIdx] at hp
    obtain ⟨q, hq, rfl⟩ := Option.map_eq_some_iff.mp hp
    have hq' : (U i w)[k]? = some q := hq
    have hk := (List.getElem?_eq_some_iff.mp hq').1
    have hql := U_lt i w q (List.mem_of_getElem? hq')
    subst he
    have tk : (U i w).take (k + 1) = (U i w).take k ++ [q] := take_snocN hq'
    rw [Nat.zero_add]
    refine ok_tgt (d := [.val false (T (W i (((U i w).take k).take (lp i w).2.length) (((U i w).take k).drop (lp i w).2.length) w)), .val false (.int i), .val false (N (lp i w).1), .val false (N (lp i w).2), .val false (nI k), .val false (nI q)]) (by simp [gTp, hCons, hNil, gNm, putV, h4, h5]) ?_
    have tl : ((U i w).take k).length = k := by rw [List.length_take]; omega
    nofun
    refine br_dec (fun c => ?_) fun c => ?_
    · nofun
      refine ok_rt (sp_with_letter _ q i (by rw [W_len]; exact hw) (by rw [W_len]; exact hql)) ?_
      and_intros
      refine ⟨.val false (nI k), .val false (nI q), rfl, rfl, ?_⟩
      rw [W_setA _ _ _ _ _ hql, tk]
      have c' : k < (lp i w).2.length := by simp at c; omega
      have e1 : ((U i w).take k).take (lp i w).2.length = (U i w).take k := List.take_of_length_le (by omega)
      have e2 : ((U i w).take k).drop (lp i w).2.length = [] := List.drop_eq_nil_of_le (by omega)
      have e3 : ((U i w).take k ++ [q]).take (lp i w).2.length = (U i w).take k ++ [q] := List.take_of_length_le (by simp; omega)
      have e4 : ((U i w).take k ++ [q]).drop (lp i w).2.length = [] := List.drop_eq_nil_of_le (by simp; omega)
      rw [e1, e2, e3, e4]
    · nofun
      have nq : q ∉ ((U i w).take k).take (lp i w).2.length := fun hm => by
        have hm := List.mem_of_mem_take hm
        have nd := U_nodup i w
        have e2 : (U i w).drop k = q :: (U i w).drop (k + 1) := by rw [List.drop_eq_getElem_cons hk, (List.getElem?_eq_some_iff.mp hq').2]
        rw [← List.take_append_drop k (U i w), e2] at nd
        have := (List.pairwise_append.mp nd).2.2 q hm q (List.mem_cons_self ..)
        omega
      refine ok_rt (sp_with_letter _ q (i + 1) (by rw [W_len]; exact hw) (by rw [W_len]; exact hql)) ?_
      and_intros
      refine ⟨.val false (nI k), .val false (nI q), rfl, rfl, ?_⟩
      rw [W_setB _ _ _ _ _ hql nq, tk]
      have c' : (lp i w).2.length ≤ k := by simp at c; omega
      rw [List.take_append_of_le_length (by omega), List.drop_append_of_le_length (by omega)]
  · subst he
    rw [List.length_zipIdx]
    and_intros
    refine ⟨?_, rfl⟩
    rw [show ((lp i w).1 ++ (lp i w).2) = U i w from rfl, List.take_length]
    rfl
theorem sp_raised (w : List Int) (i : Int) (h : Wd w) (hi : 1 ≤ i ∧ i ≤ 8) : Rt m_raised [.val false (T w), .val false (.int i)] (.val (moreD i w (lp i w).2)) := by
  refine rt_ev ?_
  unfold m_raised f_raised
  and_intros
  refine ok_rt (sp_need_raise w i h hi) ?_
  and_intros
  refine ok_rt (sp_raised_word w i (by have := h.1; omega)) ?_
  and_intros
  exact ⟨rfl, rfl⟩
theorem sp_lowered (w : List Int) (i : Int) (h : Wd w) (hi : 1 ≤ i ∧ i ≤ 8) : Rt m_lowered [.val false (T w), .val false (.int i)] (.val (lessD i w (lp i w).1.getLast?)) := by
  refine rt_ev ?_
  unfold m_lowered f_lowered
  and_intros
  refine ok_rt (sp_need_raise w i h hi) ?_
  and_intros
  refine ok_rt (sp_lowered_word w i (by have := h.1; omega)) ?_
  and_intros
  exact ⟨rfl, rfl⟩
theorem sp_room_up (w : List Int) (i : Int) (h : Wd w) (hi : 1 ≤ i ∧ i ≤ 8) : Rt m_room_up [.val false (T w), .val false (.int i)] (.val (nI (lp i w).2.length)) := by
  refine rt_ev ?_
  unfold m_room_up f_room_up
  and_intros
  refine ok_rt (sp_need_raise w i h hi) ?_
  and_intros
  refine ok_rt (sp_left_places w i (by have := h.1; omega)) ?_
  and_intros
  exact ⟨by simp, rfl⟩
theorem sp_room_down (w : List Int) (i : Int) (h : Wd w) (hi : 1 ≤ i ∧ i ≤ 8) : Rt m_room_down [.val false (T w), .val false (.int i)] (.val (nI (lp i w).1.length)) := by
  refine rt_ev ?_
  unfold m_room_down f_room_down
  and_intros
  refine ok_rt (sp_need_raise w i h hi) ?_
  and_intros
  refine ok_rt (sp_left_places w i (by have := h.1; omega)) ?_
  and_intros
  exact ⟨by simp, rfl⟩
theorem sp_reflected (w : List Int) (i : Int) (h : Wd w) (hi : 1 ≤ i ∧ i ≤ 8) : Rt m_reflected [.val false (T w), .val false (.int i)] (.val (T (Wa i w (lp i w).2.length))) := by
  refine rt_ev ?_
  unfold m_reflected f_reflected
  and_intros
  refine ok_rt (sp_need_raise w i h hi) ?_
  and_intros
  refine ok_rt (sp_reflected_word w i (by have := h.1; omega)) ?_
  and_intros
  exact ⟨rfl, rfl⟩
theorem raised_Wa (w : List Int) (i : Int) (hw : w.length ≤ 1000) {a : Nat} (ha : a < (U i w).length) : Rt m_raised_word [.val false (T (Wa i w a)), .val false (.int i)] (.val (T (Wa i w (a + 1)))) := by
  have z := sp_raised_word (Wa i w a) i (by rw [Wa_len]; exact hw)
  rw [lp_Wa i w (Nat.le_of_lt ha)] at z
  rw [List.drop_eq_getElem_cons ha] at z
  rw [← Wa_up i w (List.getElem?_eq_getElem ha)]
  exact z
theorem raised_Wn (w : List Int) (i : Int) (hw : w.length ≤ 1000) : Rt m_raised_word [.val false (T (Wa i w (U i w).length)), .val false (.int i)] (.val .none) := by
  have z := sp_raised_word (Wa i w (U i w).length) i (by rw [Wa_len]; exact hw)
  rw [lp_Wa i w (Nat.le_refl _)] at z
  rw [List.drop_length] at z
  exact z
theorem lowered_Wa (w : List Int) (i : Int) (hw : w.length ≤ 1000) {a : Nat} (ha : a < (U i w).length) : Rt m_lowered_word [.val false (T (Wa i w (a + 1))), .val false (.int i)] (.val (T (Wa i w a))) := by
  have z := sp_lowered_word (Wa i w (a + 1)) i (by rw [Wa_len]; exact hw)
  rw [lp_Wa i w ha] at z
  have hq := List.getElem?_eq_getElem ha
  rw [take_snocN hq, List.getLast?_append] at z
  rw [← Wa_dn i w hq]
  exact z
theorem lowered_W0 (w : List Int) (i : Int) (hw : w.length ≤ 1000) : Rt m_lowered_word [.val false (T (Wa i w 0)), .val false (.int i)] (.val .none) := by
  have z := sp_lowered_word (Wa i w 0) i (by rw [Wa_len]; exact hw)
  rw [lp_Wa i w (Nat.zero_le _)] at z
  exact z
/-- the row from the top down to a -/
def row (i : Int) (w : List Int) (a : Nat) : List D := (List.range ((U i w).length - a + 1)).map fun j => T (Wa i w ((U i w).length - j))
theorem row_len (i : Int) (w : List Int) (a : Nat) : (row i w a).length = (U i w).length - a + 1 := by simp [row]
theorem row_last (i : Int) (w : List Int) {a : Nat} (h : a ≤ (U i w).length) : atI (row i w a) (-1) = some (T (Wa i w a)) := by
  rw [DL.atI_last _ (fun z => by have := row_len i w a; rw [z] at this; cases this), row_len]
  unfold row
  rw [List.getElem?_map, Nat.add_sub_cancel, List.getElem?_range (by omega)]
  show some (T (Wa i w ((U i w).length - ((U i w).length - a)))) = _
  rw [show (U i w).length - ((U i w).length - a) = a by omega]
theorem row_more (i : Int) (w : List Int) {a : Nat} (h : a + 1 ≤ (U i w).length) : row i w (a + 1) ++ [T (Wa i w a)] = row i w a := by
  unfold row
  rw [show (U i w).length - a + 1 = ((U i w).length - (a + 1) + 1) + 1 by omega, List.range_succ (n := (U i w).length - (a + 1) + 1), List.map_append]
  simp only [List.map_cons, List.map_nil]
  rw [show (U i w).length - ((U i w).length - (a + 1) + 1) = a by omega]
theorem sp_string_of (w : List Int) (i : Int) (h : Wd w) (hi : 1 ≤ i ∧ i ≤ 8) : Rt m_string_of [.val false (T w), .val false (.int i)] (.val (.list (row i w 0))) := by
  have hw : w.length ≤ 1000 := by have := h.1; omega
  have hu := U_len i w
  have hlu : (lp i w).1.length ≤ (U i w).length := by unfold U; simp
  refine rt_ev ?_
  unfold m_string_of f_string_of
  nofun
  refine ok_rt (sp_need_raise w i h hi) ?_
  nofun
  refine then_next ?_
  refine ok_seqK (fun e => e = [.val false (T (Wa i w (U i w).length)), .val false (.int i), .dead]) ?_ ?_
  · refine ok_whileN (n := (U i w).length - (lp i w).1.length) (fun n e => ∃ a, a ≤ (U i w).length ∧ n = (U i w).length - a ∧ e = [.val false (T (Wa i w a)), .val false (.int i), .dead]) ⟨_, hlu, rfl, by rw [Wa_self]⟩ (by have := h.1; omega) fun n e ⟨a, ha, hn, he⟩ => ?_
    subst he
    by_cases c : a < (U i w).length
    · nofun
      refine ok_rt (raised_Wa w i hw c) ?_
      nofun
      refine ok_rt (raised_Wa w i hw c) ?_
      nofun
      exact ⟨_, by omega, a + 1, c, rfl, rfl⟩
    · have e : a = (U i w).length := by omega
      subst e
      nofun
      refine ok_rt (raised_Wn w i hw) ?_
      nofun
      rfl
  · intro e he
    subst he
    nofun
    refine then_next ?_
    refine ok_seqK (fun e => e = [.val false (T (Wa i w (U i w).length)), .val false (.int i), .own false (row i w 0)]) ?_ ?_
    · refine ok_whileN (n := (U i w).length) (fun n e => n ≤ (U i w).length ∧ e = [.val false (T (Wa i w (U i w).length)), .val false (.int i), .own false (row i w n)]) ⟨Nat.le_refl _, by unfold row; simp⟩ (by have := h.1; omega) fun n e ⟨hn, he⟩ => ?_
      subst he
      cases n with
      | zero =>
        nofun
        refine ok_ixL (row_last i w hn) ?_
        nofun
        refine ok_rt (lowered_W0 w i hw) ?_
        nofun
        rfl
      | succ a =>
        nofun
        refine ok_ixL (row_last i w hn) ?_
        nofun
        refine ok_rt (lowered_Wa w i hw hn) ?_
        nofun
        refine ok_ixL (row_last i w hn) ?_
        nofun
        refine ok_rt (lowered_Wa w i hw hn) ?_
        nofun
        refine ⟨by rw [row_len]; have := h.1; simp [SZ]; omega, ?_⟩
        nofun
        exact ⟨a, Nat.lt_succ_self _, by omega, by rw [row_more i w hn]⟩
    · intro e he
      subst he
      and_intros
      exact ⟨rfl, rfl⟩

end Wk43

set_option Elab.async false
set_option linter.all false
set_option maxRecDepth 100000
set_option maxHeartbeats 2000000
namespace Wk43
open PySem PySem.Spec PyProof.Rows L2 DL
local macro_rules | `(tactic| infer_instance) => `(tactic| with_reducible first
  | (refine mk1 ?_; first | refine ok_var (by with_unfolding_all rfl) ?_ | refine ok_cst ?_ | refine ok_toE ?_ | refine ok_if ?_ | refine ok_and ?_ | refine ok_or ?_)
  | (refine mk2 ?_; first | refine ok_bin ?_ | refine ok_toV ?_ | refine ok_call ?_ | refine ok_blt ?_ | refine ok_lst ?_ | refine ok_tup ?_ | refine ok_not ?_ | refine ok_neg ?_ | refine ok_isi ?_ | refine ok_chain ?_ | refine ok_fCut ?_ | refine ok_un ?_ | refine ok_append ?_ | refine ok_pop ?_ | refine ok_comp ?_ | refine ok_lstR ?_ | refine ok_fnP (by simp only [List.cons_append, List.nil_append, List.length_cons, List.length_nil, List.replicate, Nat.reduceAdd, Nat.reduceSub, Nat.zero_add] <;> with_unfolding_all rfl) ?_)
  | (refine mk3 ?_; first | refine ok_testV ?_ | refine ok_truth ?_ | refine ok_gAnd ?_ | refine ok_gOr ?_ | refine ok_gNot ?_ | refine ok_gYes ?_)
  | (refine mk4 ?_; first | refine ok_cons ?_ | refine ok_nil ?_)
  | (refine mk5 ?_; first | refine ok_seq ?_ | refine ok_ret ?_ | refine ok_sIf ?_ | refine ok_set ?_ | refine ok_expr ?_ | refine ok_next ?_ | refine ok_asg ?_ | refine ok_par ?_ | refine ok_for ?_ | refine ok_setIx ?_ | refine ok_sBrk ?_ | refine ok_sCont ?_)
  | (refine mk6 ?_; first | refine ok_no ?_ | refine ok_at ?_)
  | (refine mk7 ?_; first | refine ok_iSq ?_ | refine ok_iEn ?_ | refine ok_iR1 ?_ | refine ok_iR2 ?_ | refine ok_iZp ?_)
  | (refine mk9 ?_; first | refine ok_look (by with_unfolding_all rfl) ?_)
  | (refine mk8 ?_; first | refine ok_addI ?_ | refine ok_subI ?_ | refine ok_eqI ?_ | refine ok_neI ?_ | refine ok_ltI ?_ | refine ok_leI ?_ | refine ok_gtI ?_ | refine ok_geI ?_ | refine ok_isN (by with_unfolding_all rfl) ?_ | refine ok_one ?_ | refine ok_lenL ?_ | refine ok_lenT ?_ | refine ok_ixL (by with_unfolding_all rfl) ?_ | refine ok_ixT (by with_unfolding_all rfl) ?_ | refine ok_okLen (by simp only [List.length_cons, List.length_nil]; decide) ?_ | refine ok_cutL ?_ | refine ok_cutT ?_ | refine ok_mulI (mulS (.inl (by decide))) ?_ | refine ok_mulI (mulS (.inr (by decide))) ?_ | refine ok_powI (by decide) ?_ | refine ok_modI (by decide) ?_ | refine ok_divI (by decide) ?_ | refine ok_intI ?_ | refine ok_listL ?_ | refine ok_listT ?_ | refine ok_tupleL ?_ | refine ok_tupleT ?_ | refine ok_max2 ?_ | refine ok_min2 ?_ | refine ok_eqB ?_ | refine ok_neB ?_ | refine ok_sRev (by with_unfolding_all rfl) ?_ | refine ok_mulL (by decide) (by simp only [List.length_cons, List.length_nil]; decide) ?_ | refine ok_addT (by simp only [List.length_cons, List.length_nil]; decide) ?_ | refine ok_addL (by simp only [List.length_cons, List.length_nil]; decide) ?_)
  | (refine mkE ?_; first | refine ok_put (by simp only [putV, setR, Slot.pin, List.set_cons_zero, List.set_cons_succ, List.getElem?_cons_zero, List.getElem?_cons_succ, Bool.false_eq_true, if_false] <;> with_unfolding_all rfl) ?_ | refine ok_tgt (by simp only [gTp, hCons, hNil, gNm, putV, Slot.pin, List.set_cons_zero, List.set_cons_succ, List.getElem?_cons_zero, List.getElem?_cons_succ, Bool.false_eq_true, if_false, Option.bind_some] <;> with_unfolding_all rfl) ?_ | refine ok_back (by simp only [back, reb, List.set_cons_zero, List.set_cons_succ, List.getElem?_cons_zero, List.getElem?_cons_succ] <;> with_unfolding_all rfl) ?_)
  | refine br_true ?_ | refine br_false ?_ | refine br_yes (by with_unfolding_all rfl) ?_ | refine br_no (by with_unfolding_all rfl) ?_ | refine isB ?_ | refine isBr ?_ | refine isI ?_ | refine isV ?_ | refine isR1 ?_ | refine isR2 ?_ | refine isZL ?_ | refine isZT ?_ | refine isO (by with_unfolding_all rfl) ?_ | refine setE (by simp only [List.set_cons_zero, List.set_cons_succ, Int.reduceToNat] <;> with_unfolding_all rfl) ?_ | refine ok_lent (by simp only [lent, List.getElem?_cons_zero, List.getElem?_cons_succ, Option.map_some, List.any_nil, List.any_cons, isSlot, Bool.false_eq_true, if_false, Bool.or_self, Bool.or_false] <;> with_unfolding_all rfl) ?_ | refine ok_looks (by with_unfolding_all rfl) ?_ | refine ok_truthD (by with_unfolding_all rfl) ?_ | refine ok_frz (by simp only [frz, List.set_cons_zero, List.set_cons_succ, List.getElem?_cons_zero, List.getElem?_cons_succ] <;> with_unfolding_all rfl) ?_ | refine ok_frzs (by simp only [frzs, frz, List.set_cons_zero, List.set_cons_succ, List.getElem?_cons_zero, List.getElem?_cons_succ, Option.bind_some, Option.map_some] <;> with_unfolding_all rfl) ?_ | refine then_ret ?_ | refine turn_next ?_ | refine turn_ret ?_ | refine turn_cont ?_ | refine turn_brk ?_ | refine ok_seqOf (by with_unfolding_all rfl) ?_ | refine ok_rfl (show ixN _ _ = some _ by with_unfolding_all rfl) ?_ | refine fl_next ?_ | refine fnEnd_ret (by simp only [fixO, Slot.pin, Bool.false_eq_true, if_false, if_true] <;> with_unfolding_all rfl) ?_ | refine fnEnd_next (by simp only [fixO, Slot.pin, Bool.false_eq_true, if_false, if_true] <;> with_unfolding_all rfl) ?_)
local macro_rules | `(tactic| nofun) => `(tactic| repeat infer_instance)
local macro_rules | `(tactic| and_intros) => `(tactic| repeat (first | infer_instance | with_reducible refine then_next ?_))
set_option exponentiation.threshold 1000
open B43
local macro_rules | `(tactic| infer_instance) => `(tactic| with_reducible refine ok_rt (sp_is_integer _) ?_)
local macro_rules | `(tactic| infer_instance) => `(tactic| with_reducible refine ok_rt (sp_is_within _ _ _) ?_)
theorem ok_one' {n : Nat} {f l : List D} {P : Res → List Slot → Prop} (hf : Feed n f) (hn : n ≤ 1000000000) (hl : 0 < l.length ∧ l.length < 1073741824)
    (k : ∀ d f', d ∈ l → Feed (n + 1) f' → P (.val d) [.own true f', .val false (.list l)]) : Ev (m_x_law_one [.own true f, .val false (.list l)]) P := by
  unfold m_x_law_one f_x_law_one
  and_intros
  refine ok_draw hf hn (by omega) fun g f' h1 h2 h3 => ?_
  and_intros
  have hg : g.toNat < l.length := by omega
  refine ok_ixL (d := l[g.toNat]) (by rw [atI_nat _ h1, List.getElem?_eq_getElem hg]) ?_
  and_intros
  exact k _ _ (List.getElem_mem hg) h3
theorem ok_oneO {n : Nat} {f l : List D} {P : Res → List Slot → Prop} (hf : Feed n f) (hn : n ≤ 1000000000) (hl : 0 < l.length ∧ l.length < 1073741824)
    (k : ∀ d f', d ∈ l → Feed (n + 1) f' → P (.val d) [.own true f', .own true l]) : Ev (m_x_law_one [.own true f, .own true l]) P := by
  unfold m_x_law_one f_x_law_one
  and_intros
  refine ok_draw hf hn (by omega) fun g f' h1 h2 h3 => ?_
  and_intros
  have hg : g.toNat < l.length := by omega
  refine ok_ixL (d := l[g.toNat]) (by rw [atI_nat _ h1, List.getElem?_eq_getElem hg]) ?_
  and_intros
  exact k _ _ (List.getElem_mem hg) h3
/-- letters as data -/
def Let (d : D) : Prop := ∃ x : Int, d = .int x ∧ 1 ≤ x ∧ x ≤ 9
def Lets (l : List D) : Prop := ∀ d ∈ l, Let d
theorem lets_word : ∀ {l : List D}, Lets l → ∃ w : List Int, l = w.map .int ∧ ∀ x ∈ w, 1 ≤ x ∧ x ≤ 9
  | [], _ => ⟨[], rfl, fun x h => nomatch h⟩
  | d :: l, h => by
    obtain ⟨w, rfl, hw⟩ := lets_word (l := l) fun d hd => h d (List.mem_cons_of_mem _ hd)
    obtain ⟨x, rfl, hx⟩ := h d (List.mem_cons_self ..)
    refine ⟨x :: w, rfl, fun y hy => ?_⟩
    rcases List.mem_cons.mp hy with rfl | hy
    · exact hx
    · exact hw y hy
theorem lets_app {a b : List D} (h : Lets a) (k : Lets b) : Lets (a ++ b) := fun d hd => (List.mem_append.mp hd).elim (h d) (k d)
theorem lets_rep {a : List D} (h : Lets a) (n : Nat) : Lets (List.replicate n a).flatten := fun d hd => by
  obtain ⟨l, hl, hd⟩ := List.mem_flatten.mp hd
  rw [(List.mem_replicate.mp hl).2] at hd
  exact h d hd
theorem lets_take {a : List D} (h : Lets a) (n : Nat) : Lets (a.take n) := fun d hd => h d (List.mem_of_mem_take hd)
theorem lets_one {x : Int} (h : 1 ≤ x ∧ x ≤ 9) : Lets [.int x] := fun d hd => by
  cases List.mem_singleton.mp hd
  exact ⟨x, rfl, h⟩
theorem cut_le {n : Nat} {many : Int} (h0 : 0 ≤ many) (h : many ≤ 30) : HT.sIx n n (some many) - HT.sIx n 0 none ≤ 30 := by
  obtain ⟨m, rfl⟩ := Int.eq_ofNat_of_zero_le h0
  rw [HT.sIx_nat, HT.sIx_none]
  omega
theorem ok_drawn {n : Nat} {f : List D} {i : Int} {P : Res → List Slot → Prop} (hf : Feed n f) (hn : n ≤ 1000000) (hi : 1 ≤ i ∧ i ≤ 8)
    (k : ∀ w f', Wd w → Feed (n + 100) f' → P (.val (T w)) [.own true f', .val false (.int i)]) : Ev (m_x_law_drawn [.own true f, .val false (.int i)]) P := by
  have fin : ∀ (l : List D) (m : Nat) f', Lets l → l.length ≤ 30 → m ≤ 100 → Feed (n + m) f' → P (.val (.tuple l)) [.own true f', .val false (.int i)] := by
    intro l m f' h1 h2 h3 h4
    obtain ⟨w, rfl, hw⟩ := lets_word h1
    exact k w f' ⟨by simpa using h2, hw⟩ (h4.mono (by omega))
  unfold m_x_law_drawn f_x_law_drawn
  and_intros
  refine ok_draw hf (by omega) (by decide) fun g f1 h1 h2 h3 => ?_
  and_intros
  refine ok_one' h3 (by omega) (by simp) fun d f2 hd h4 => ?_
  obtain ⟨many, rfl, hm⟩ : ∃ m : Int, d = .int m ∧ 0 ≤ m ∧ m ≤ 30 := by
    simp only [List.mem_cons, List.not_mem_nil, or_false] at hd
    rcases hd with rfl | rfl | rfl | rfl | rfl | rfl | rfl <;> first | exact ⟨_, rfl, by decide⟩ | exact ⟨_, rfl, by omega⟩
  and_intros
  refine ok_draw h4 (by omega) (by decide) fun way f3 h5 h6 h7 => ?_
  and_intros
  refine ok_draw h7 (by omega) (by decide) fun g2 f4 h8 h9 h10 => ?_
  and_intros
  have hlets : Lets [.int i, .int (i + 1), .int i, .int (i + 1), .int (1 + g2)] := fun d hd => by
    simp only [List.mem_cons, List.not_mem_nil, or_false] at hd
    rcases hd with rfl | rfl | rfl | rfl | rfl <;> exact ⟨_, rfl, by omega, by omega⟩
  refine br_beq (fun c => ?_) fun c => ?_
  · and_intros
    refine ok_draw h10 (by omega) (by decide) fun g3 f5 h11 h12 h13 => ?_
    and_intros
    refine ok_mulL (by omega) (by simp [SZ]; omega) ?_
    and_intros
    refine ok_draw h13 (by omega) (by decide) fun g4 f6 h14 h15 h16 => ?_
    and_intros
    refine ok_mulL (by omega) (by simp [SZ]; omega) ?_
    and_intros
    refine ok_addL (by simp [SZ]; omega) ?_
    and_intros
    refine ok_addL (by simp [SZ]; omega) ?_
    and_intros
    refine ok_addL (by simp [SZ]; omega) ?_
    and_intros
    unfold DL.cutD
    rw [HT.sIx_none]
    simp only [List.drop_zero]
    refine fin _ 10 _ (lets_take (lets_app (lets_app (lets_app (lets_rep (lets_one (by omega)) _) (lets_rep (lets_one (by omega)) _)) (lets_rep (lets_one (by omega)) _)) (lets_rep (lets_one (by omega)) _)) _) (Nat.le_trans (List.length_take_le _ _) ?_) (by decide) (h16.mono (by omega))
    exact cut_le hm.1 hm.2
  · and_intros
    refine br_beq (fun c2 => ?_) fun c2 => ?_
    · and_intros
      refine ok_oneO h10 (by omega) (by simp) fun d f5 hd h11 => ?_
      and_intros
      unfold DL.cutD
      rw [HT.sIx_none]
      simp only [List.drop_zero]
      refine fin _ 10 _ (lets_take (lets_rep (fun d' hd' => ?_) _) _) (Nat.le_trans (List.length_take_le _ _) ?_) (by decide) (h11.mono (by omega))
      · simp only [List.mem_cons, List.not_mem_nil, or_false] at hd'
        rcases hd' with rfl | rfl | rfl
        · exact ⟨_, rfl, by omega, by omega⟩
        · exact ⟨_, rfl, by omega, by omega⟩
        · exact hlets _ hd
      · exact cut_le hm.1 hm.2
    · and_intros
      refine ⟨by unfold smallI; omega, ?_⟩
      and_intros
      refine ⟨rfl, ?_⟩
      rw [range_map]
      refine ok_compD (fun k e acc => ∃ f' s5, Feed (n + 4 + k) f' ∧ Lets acc ∧ acc.length = k ∧ e = [.own true f', .val false (.int i), .val false (.int many), .val false (.int way), .own false [.int i, .int (i + 1), .int i, .int (i + 1), .int (1 + g2)], s5]) ⟨_, .dead, h10.mono (by omega), fun d hd => (nomatch hd), rfl, rfl⟩ (fun k d e acc hd ⟨f', s5, q1, q2, q3, q4⟩ => ?_) fun e acc ⟨f', s5, q1, q2, q3, q4⟩ => ?_
      · have hk := (List.getElem?_eq_some_iff.mp hd).1
        rw [List.length_map, List.length_range] at hk
        subst q4
        rw [show wipeE [.own true f', .val false (.int i), .val false (.int many), .val false (.int way), .own false [.int i, .int (i + 1), .int i, .int (i + 1), .int (1 + g2)], s5] [5] = [.own true f', .val false (.int i), .val false (.int many), .val false (.int way), .own false [.int i, .int (i + 1), .int i, .int (i + 1), .int (1 + g2)], .dead] from rfl]
        and_intros
        refine ok_oneO q1 (by omega) (by simp) fun d2 f2 hd2 q5 => ?_
        and_intros
        refine ⟨by simp [SZ]; omega, f2, .val false d, q5.mono (by omega), lets_app q2 ?_, by simp [q3], rfl⟩
        obtain ⟨x, rfl, hx⟩ := hlets d2 hd2
        exact lets_one hx
      · rw [List.length_map, List.length_range] at q1 q3
        subst q4
        rw [show ∀ e0 : En, e0 = [.own true f4, .val false (.int i), .val false (.int many), .val false (.int way), .own false [.int i, .int (i + 1), .int i, .int (i + 1), .int (1 + g2)], .dead] → mergeE e0 [.own true f', .val false (.int i), .val false (.int many), .val false (.int way), .own false [.int i, .int (i + 1), .int i, .int (i + 1), .int (1 + g2)], s5] [5] = [.own true f', .val false (.int i), .val false (.int many), .val false (.int way), .own false [.int i, .int (i + 1), .int i, .int (i + 1), .int (1 + g2)], .dead] from fun e0 h => by subst h; rfl]
        · and_intros
          exact fin _ 50 _ q2 (by omega) (by decide) (q1.mono (by omega))
        · rfl

end Wk43

set_option Elab.async false
set_option linter.all false
set_option maxRecDepth 100000
set_option maxHeartbeats 2000000
namespace Wk43
open PySem PySem.Spec PyProof.Rows L2 DL
local macro_rules | `(tactic| infer_instance) => `(tactic| with_reducible first
  | (refine mk1 ?_; first | refine ok_var (by with_unfolding_all rfl) ?_ | refine ok_cst ?_ | refine ok_toE ?_ | refine ok_if ?_ | refine ok_and ?_ | refine ok_or ?_)
  | (refine mk2 ?_; first | refine ok_bin ?_ | refine ok_toV ?_ | refine ok_call ?_ | refine ok_blt ?_ | refine ok_lst ?_ | refine ok_tup ?_ | refine ok_not ?_ | refine ok_neg ?_ | refine ok_isi ?_ | refine ok_chain ?_ | refine ok_fCut ?_ | refine ok_un ?_ | refine ok_append ?_ | refine ok_pop ?_ | refine ok_comp ?_ | refine ok_lstR ?_ | refine ok_fnP (by simp only [List.cons_append, List.nil_append, List.length_cons, List.length_nil, List.replicate, Nat.reduceAdd, Nat.reduceSub, Nat.zero_add] <;> with_unfolding_all rfl) ?_)
  | (refine mk3 ?_; first | refine ok_testV ?_ | refine ok_truth ?_ | refine ok_gAnd ?_ | refine ok_gOr ?_ | refine ok_gNot ?_ | refine ok_gYes ?_)
  | (refine mk4 ?_; first | refine ok_cons ?_ | refine ok_nil ?_)
  | (refine mk5 ?_; first | refine ok_seq ?_ | refine ok_ret ?_ | refine ok_sIf ?_ | refine ok_set ?_ | refine ok_expr ?_ | refine ok_next ?_ | refine ok_asg ?_ | refine ok_par ?_ | refine ok_for ?_ | refine ok_setIx ?_ | refine ok_sBrk ?_ | refine ok_sCont ?_)
  | (refine mk6 ?_; first | refine ok_no ?_ | refine ok_at ?_)
  | (refine mk7 ?_; first | refine ok_iSq ?_ | refine ok_iEn ?_ | refine ok_iR1 ?_ | refine ok_iR2 ?_ | refine ok_iZp ?_)
  | (refine mk9 ?_; first | refine ok_look (by with_unfolding_all rfl) ?_)
  | (refine mk8 ?_; first | refine ok_addI ?_ | refine ok_subI ?_ | refine ok_eqI ?_ | refine ok_neI ?_ | refine ok_ltI ?_ | refine ok_leI ?_ | refine ok_gtI ?_ | refine ok_geI ?_ | refine ok_isN (by with_unfolding_all rfl) ?_ | refine ok_one ?_ | refine ok_lenL ?_ | refine ok_lenT ?_ | refine ok_ixL (by with_unfolding_all rfl) ?_ | refine ok_ixT (by with_unfolding_all rfl) ?_ | refine ok_okLen (by simp only [List.length_cons, List.length_nil]; decide) ?_ | refine ok_cutL ?_ | refine ok_cutT ?_ | refine ok_mulI (mulS (.inl (by decide))) ?_ | refine ok_mulI (mulS (.inr (by decide))) ?_ | refine ok_powI (by decide) ?_ | refine ok_modI (by decide) ?_ | refine ok_divI (by decide) ?_ | refine ok_intI ?_ | refine ok_listL ?_ | refine ok_listT ?_ | refine ok_tupleL ?_ | refine ok_tupleT ?_ | refine ok_max2 ?_ | refine ok_min2 ?_ | refine ok_eqB ?_ | refine ok_neB ?_ | refine ok_sRev (by with_unfolding_all rfl) ?_ | refine ok_mulL (by decide) (by simp only [List.length_cons, List.length_nil]; decide) ?_ | refine ok_addT (by simp only [List.length_cons, List.length_nil]; decide) ?_ | refine ok_addL (by simp only [List.length_cons, List.length_nil]; decide) ?_)
  | (refine mkE ?_; first | refine ok_put (by simp only [putV, setR, Slot.pin, List.set_cons_zero, List.set_cons_succ, List.getElem?_cons_zero, List.getElem?_cons_succ, Bool.false_eq_true, if_false] <;> with_unfolding_all rfl) ?_ | refine ok_tgt (by simp only [gTp, hCons, hNil, gNm, putV, Slot.pin, List.set_cons_zero, List.set_cons_succ, List.getElem?_cons_zero, List.getElem?_cons_succ, Bool.false_eq_true, if_false, Option.bind_some] <;> with_unfolding_all rfl) ?_ | refine ok_back (by simp only [back, reb, List.set_cons_zero, List.set_cons_succ, List.getElem?_cons_zero, List.getElem?_cons_succ] <;> with_unfolding_all rfl) ?_)
  | refine br_true ?_ | refine br_false ?_ | refine br_yes (by with_unfolding_all rfl) ?_ | refine br_no (by with_unfolding_all rfl) ?_ | refine isB ?_ | refine isBr ?_ | refine isI ?_ | refine isV ?_ | refine isR1 ?_ | refine isR2 ?_ | refine isZL ?_ | refine isZT ?_ | refine isO (by with_unfolding_all rfl) ?_ | refine setE (by simp only [List.set_cons_zero, List.set_cons_succ, Int.reduceToNat] <;> with_unfolding_all rfl) ?_ | refine ok_lent (by simp only [lent, List.getElem?_cons_zero, List.getElem?_cons_succ, Option.map_some, List.any_nil, List.any_cons, isSlot, Bool.false_eq_true, if_false, Bool.or_self, Bool.or_false] <;> with_unfolding_all rfl) ?_ | refine ok_looks (by with_unfolding_all rfl) ?_ | refine ok_truthD (by with_unfolding_all rfl) ?_ | refine ok_frz (by simp only [frz, List.set_cons_zero, List.set_cons_succ, List.getElem?_cons_zero, List.getElem?_cons_succ] <;> with_unfolding_all rfl) ?_ | refine ok_frzs (by simp only [frzs, frz, List.set_cons_zero, List.set_cons_succ, List.getElem?_cons_zero, List.getElem?_cons_succ, Option.bind_some, Option.map_some] <;> with_unfolding_all rfl) ?_ | refine then_ret ?_ | refine turn_next ?_ | refine turn_ret ?_ | refine turn_cont ?_ | refine turn_brk ?_ | refine ok_seqOf (by with_unfolding_all rfl) ?_ | refine ok_rfl (show ixN _ _ = some _ by with_unfolding_all rfl) ?_ | refine fl_next ?_ | refine fnEnd_ret (by simp only [fixO, Slot.pin, Bool.false_eq_true, if_false, if_true] <;> with_unfolding_all rfl) ?_ | refine fnEnd_next (by simp only [fixO, Slot.pin, Bool.false_eq_true, if_false, if_true] <;> with_unfolding_all rfl) ?_)
local macro_rules | `(tactic| nofun) => `(tactic| repeat infer_instance)
local macro_rules | `(tactic| and_intros) => `(tactic| repeat (first | infer_instance | with_reducible refine then_next ?_))
set_option exponentiation.threshold 1000
open B43
local macro_rules | `(tactic| infer_instance) => `(tactic| with_reducible refine ok_rt (sp_is_integer _) ?_)
local macro_rules | `(tactic| infer_instance) => `(tactic| with_reducible refine ok_rt (sp_is_within _ _ _) ?_)
theorem sp_ends (w : List Int) (i : Int) (hw : w.length ≤ 1000) : Rt m_x_law_ends [.val false (T w), .val false (.int i)] (.fresh ((sufs i w).map .int)) := by
  refine rt_ev ?_
  unfold m_x_law_ends f_x_law_ends
  and_intros
  rw [← List.map_reverse]
  refine ok_forX (fun k e => ∃ s4 : Slot, s4.pin = false ∧ e = [.val false (T w), .val false (.int i), .own false (((sufs i ((w.reverse.take k).reverse)).map PyData.int).reverse), .val false (.int (S i ((w.reverse.take k).reverse))), s4]) ⟨.dead, rfl, rfl⟩ (fun k x e hx ⟨s4, h4, he⟩ => ?_) fun e ⟨s4, h4, he⟩ => ?_
  · subst he
    have hk := (List.getElem?_eq_some_iff.mp hx).1
    rw [List.length_reverse] at hk
    rw [take_snoc hx, List.reverse_append]
    generalize hr : (w.reverse.take k).reverse = r
    have hrl : r.length ≤ 1000 := by rw [← hr]; simp; omega
    have fin : ∀ t : Int, t = S i r + v i x → Turn (fun e => ∃ s4 : Slot, s4.pin = false ∧ e = [.val false (T w), .val false (.int i), .own false (((sufs i ([x].reverse ++ r)).map PyData.int).reverse), .val false (.int (S i ([x].reverse ++ r))), s4]) (Then (sRet (fUn sRev (fVar 2))) (FnEnd [Slot.val false (T w), Slot.val false (.int i)] fun z o => z = Res.fresh ((sufs i w).map PyData.int) ∧ o = [Slot.val false (T w), Slot.val false (.int i)])) (.next [.val false (T w), .val false (.int i), .own false (((sufs i r).map PyData.int).reverse ++ [.int t]), .val false (.int t), .val false (.int x)]) := by
      intro t ht
      refine ⟨.val false (.int x), rfl, ?_⟩
      have e1 : S i ([x].reverse ++ r) = t := by show v i x + S i r = t; omega
      have e2 : sufs i ([x].reverse ++ r) = t :: sufs i r := by show S i ([x].reverse ++ r) :: sufs i r = _; rw [e1]
      rw [e1, e2]
      simp
    have hsl := sufs_len i r
    refine ok_tgt (d := [.val false (T w), .val false (.int i), .own false (((sufs i r).map PyData.int).reverse), .val false (.int (S i r)), .val false (.int x)]) (by simp [gNm, putV, h4]) ?_
    and_intros
    refine br_beq (fun c => ?_) fun c => ?_
    · and_intros
      refine ⟨by simp [SZ, hsl]; omega, ?_⟩
      nofun
      exact fin _ (by unfold B43.v; rw [if_pos c])
    · and_intros
      refine br_beq (fun c2 => ?_) fun c2 => ?_
      · and_intros
        refine ⟨by simp [SZ, hsl]; omega, ?_⟩
        nofun
        exact fin _ (by unfold B43.v; rw [if_neg c, if_pos c2])
      · and_intros
        refine ⟨by simp [SZ, hsl]; omega, ?_⟩
        nofun
        exact fin _ (by unfold B43.v; rw [if_neg c, if_neg c2])
  · subst he
    have e1 : (w.reverse.take w.reverse.length).reverse = w := by rw [List.take_length, List.reverse_reverse]
    rw [e1]
    and_intros
    exact ⟨by rw [List.reverse_reverse], rfl⟩
theorem lastAt_max {E : List Int} {m : Int} {p : Nat} (h : LastAt E m p) : ∀ ns : List Int, ns = E.zipIdx.filterMap (fun q => if q.1 = m then some ((q.2 : Nat) : Int) else none) → ns ≠ [] ∧ maxI ns = p := by
  intro ns hns
  have hm : ((p : Nat) : Int) ∈ ns := by
    rw [hns]
    refine List.mem_filterMap.mpr ⟨(m, p), ?_, if_pos rfl⟩
    exact List.mem_zipIdx_iff_getElem?.mpr h.1
  have hne : ns ≠ [] := fun z => by rw [z] at hm; cases hm
  refine ⟨hne, ?_⟩
  obtain ⟨h1, h2⟩ := maxI_mem hne
  have h3 := h2 _ hm
  rw [hns] at h1
  obtain ⟨⟨y, q⟩, hq1, hq2⟩ := List.mem_filterMap.mp h1
  by_cases c : y = m
  · simp only [if_pos c] at hq2
    subst c
    have hq := List.mem_zipIdx_iff_getElem?.mp hq1
    have hle : q ≤ p := Nat.le_of_not_lt fun z => h.2 q z hq
    have e := Option.some.inj hq2
    rw [hns] at h3 ⊢
    omega
  · simp [c] at hq2
theorem lastAt_uniq {E : List Int} {m : Int} {p q : Nat} (h : LastAt E m p) (k : LastAt E m q) : p = q := by
  rcases Nat.lt_trichotomy p q with c | c | c
  · exact absurd k.1 (h.2 q c)
  · exact c
  · exact absurd h.1 (k.2 p c)
theorem maxI_is {ns : List Int} {m : Int} (h : m ∈ ns) (k : ∀ y ∈ ns, y ≤ m) : maxI ns = m := by
  have hne : ns ≠ [] := fun z => by rw [z] at h; cases h
  obtain ⟨h1, h2⟩ := maxI_mem hne
  exact Int.le_antisymm (k _ h1) (h2 _ h)
theorem sp_up (w : List Int) (i : Int) (hw : w.length ≤ 1000) : Rt m_x_law_up [.val false (T w), .val false (.int i)] (.val (.tuple [nI (lp i w).2.length, moreD i w (lp i w).2])) := by
  have hl := sufs_len i w
  have lt := lp_lt i w
  have hat := up_at i w
  obtain ⟨hmx, hmm⟩ := up_max i w
  refine rt_ev ?_
  unfold m_x_law_up f_x_law_up
  and_intros
  refine ok_rt (sp_ends w i hw) ?_
  and_intros
  refine ok_addL (by simp [SZ, hl]; omega) ?_
  and_intros
  refine ok_maxL (ns := sufs i w ++ [0]) (by simp) (by simp) ?_
  rw [maxI_is hmm hmx]
  and_intros
  generalize (lp i w).2 = O at *
  cases O with
  | nil =>
    and_intros
    exact ⟨rfl, rfl⟩
  | cons p O =>
    refine br_no (by simp; omega) ?_
    and_intros
    rw [enum_map]
    refine ⟨rfl, ok_compF (e0 := [.val false (T w), .val false (.int i), .val false (.list ((sufs i w).map .int)), .val false (nI (p :: O).length), .dead, .dead, .dead]) (fun q => if q.1 = ((p :: O).length : Int) then some (.int (q.2 : Nat)) else none) (by simp [SZ, hl]; omega) rfl (fun q hq => ?_) fun e2 he => ?_⟩
    · nofun
      refine br_beq (fun c => ?_) fun c => ?_
      · nofun
        exact ⟨if_pos c, rfl⟩
      · exact ⟨if_neg c, rfl⟩
    · rw [merge_bk he rfl]
      obtain ⟨ne, hmax⟩ := lastAt_max (hat p O rfl) _ rfl
      nofun
      refine ok_maxL (ns := (sufs i w).zipIdx.filterMap (fun q => if q.1 = ((p :: O).length : Int) then some ((q.2 : Nat) : Int) else none)) (by
        rw [List.map_filterMap]
        congr 1
        funext q
        by_cases c : q.1 = ((p :: O).length : Int)
        · rw [if_pos c, if_pos c]; rfl
        · rw [if_neg c, if_neg c]; rfl) ne ?_
      rw [hmax]
      have hp := lt p (.inr (List.mem_cons_self ..))
      and_intros
      rw [cut_map, cut_to _ (by omega)]
      refine ok_addT (by simp [SZ]; omega) ?_
      and_intros
      rw [cut_map, cut_from _ (by omega)]
      refine ok_addT (by simp [SZ]; omega) ?_
      and_intros
      refine ⟨?_, rfl⟩
      show _ = Res.val (.tuple [nI (p :: O).length, T (w.set p i)])
      rw [← set_eq w p i hp]
      simp
theorem any_in (i x : Int) : ([PyData.int i, .int (i + 1)].any fun y => PyData.eqv y (.int x)) = decide (x = i ∨ x = i + 1) := by
  show ((i == x) || ((i + 1 == x) || false)) = _
  rw [Bool.or_false]
  by_cases c : x = i
  · subst c; simp
  · by_cases c2 : x = i + 1
    · subst c2; simp
    · have c' : ¬ i = x := fun z => c z.symm
      have c2' : ¬ i + 1 = x := fun z => c2 z.symm
      simp [c, c2, c', c2']
theorem set_turn (w : List Int) (i : Int) {q : Nat} (h : q < w.length) : (((turned i w).set (w.length - 1 - q) i).reverse).map (sw i) = w.set q (i + 1) := by
  refine List.ext_getElem? fun p => ?_
  have hl := turned_len i w
  by_cases hp : p < w.length
  · rw [List.getElem?_map, List.getElem?_reverse (by simp [hl]; exact hp), List.length_set, hl, List.getElem?_set, hl, List.getElem?_set]
    by_cases c : q = p
    · subst c
      rw [if_pos rfl, if_pos (by omega), if_pos rfl, if_pos h]
      show some (sw i i) = _
      unfold sw
      rw [if_pos (.inl rfl)]
      congr 1
      omega
    · rw [if_neg (by omega), if_neg c]
      unfold turned
      rw [List.getElem?_map, List.getElem?_reverse (by omega), List.getElem?_eq_getElem (by omega), List.getElem?_eq_getElem hp]
      show some (sw i (sw i _)) = _
      rw [sw_sw]
      congr 2
      omega
  · rw [List.getElem?_eq_none (by simp [hl]; omega), List.getElem?_eq_none (by simp; omega)]
theorem sp_down (w : List Int) (i : Int) (hw : w.length ≤ 1000) : Rt m_x_law_down [.val false (T w), .val false (.int i)] (.val (.tuple [nI (lp i w).1.length, lessD i w (lp i w).1.getLast?])) := by
  have tl := turned_len i w
  have lt := lp_lt i w
  have hat := dn_at i w
  obtain ⟨hmx, hmm⟩ := dn_max i w
  obtain ⟨hmx2, hmm2⟩ := up_max i (turned i w)
  have hlen : (lp i (turned i w)).2.length = (lp i w).1.length := by
    have h1 := hmx _ hmm2
    have h2 := hmx2 _ hmm
    omega
  have hat2 := up_at i (turned i w)
  rw [hlen] at hat2
  have inn : ∀ (l : List Int) (e0 : En), True := fun _ _ => trivial
  refine rt_ev ?_
  unfold m_x_law_down f_x_law_down
  and_intros
  rw [← List.map_reverse]
  refine ⟨rfl, ok_compM (e0 := [.val false (T w), .val false (.int i), .dead, .dead, .dead, .dead]) (fun x => .int (sw i x)) (by simp [SZ]; omega) rfl (fun x hx => ?_) fun e2 he => ?_⟩
  · nofun
    refine ok_in rfl rfl rfl ?_
    nofun
    rw [any_in]
    refine br_dec (fun c => ?_) fun c => ?_
    · nofun
      exact ⟨by unfold sw; rw [if_pos c], rfl⟩
    · nofun
      exact ⟨by unfold sw; rw [if_neg c], rfl⟩
  · rw [merge_bk he rfl]
    have e1 : (w.reverse.map fun x => PyData.int (sw i x)) = (turned i w).map .int := by unfold turned; rw [List.map_map]; rfl
    rw [e1]
    nofun
    refine then_next ?_
    nofun
    refine ok_rt (sp_up (turned i w) i (by rw [tl]; exact hw)) ?_
    rw [hlen]
    nofun
    refine then_next ?_
    have hlt2 := lp_lt i (turned i w)
    generalize hO : (lp i (turned i w)).2 = O at *
    generalize hL : (lp i w).1 = L at *
    cases O with
    | nil =>
      have : L = [] := List.length_eq_zero_iff.mp hlen.symm
      subst this
      and_intros
      exact ⟨rfl, rfl⟩
    | cons p O =>
      have hne : L ≠ [] := fun z => by rw [z] at hlen; cases hlen
      have hq := hat (L.getLast hne) L.dropLast (List.dropLast_concat_getLast hne).symm
      have hp := hat2 p O rfl
      have e := lastAt_uniq hp hq
      have hql := lt _ (.inl (List.getLast_mem hne))
      subst e
      and_intros
      rw [← List.map_reverse]
      refine ⟨rfl, ok_compM (e0 := [.val false (T w), .val false (.int i), .val false (.tuple ((turned i w).map .int)), .dead, .val false (nI L.length), .val false (T ((turned i w).set (w.length - 1 - L.getLast hne) i))]) (fun x => .int (sw i x)) (by simp [SZ, tl]; omega) rfl (fun x hx => ?_) fun e2 he => ?_⟩
      · nofun
        refine ok_in rfl rfl rfl ?_
        nofun
        rw [any_in]
        refine br_dec (fun c => ?_) fun c => ?_
        · nofun
          exact ⟨by unfold sw; rw [if_pos c], rfl⟩
        · nofun
          exact ⟨by unfold sw; rw [if_neg c], rfl⟩
      · rw [merge_bk he rfl]
        and_intros
        refine ⟨?_, rfl⟩
        rw [List.getLast?_eq_some_getLast hne]
        show _ = Res.val (.tuple [nI L.length, T (w.set (L.getLast hne) (i + 1))])
        rw [← set_turn w i hql]
        show _ = Res.val (.tuple [nI L.length, .tuple (List.map PyData.int (List.map (sw i) _))])
        rw [List.map_map]
        rfl

end Wk43

set_option Elab.async false
set_option linter.all false
set_option maxRecDepth 100000
set_option maxHeartbeats 2000000
namespace Wk43
open PySem PySem.Spec PyProof.Rows L2 DL
local macro_rules | `(tactic| infer_instance) => `(tactic| with_reducible first
  | (refine mk1 ?_; first | refine ok_var (by with_unfolding_all rfl) ?_ | refine ok_cst ?_ | refine ok_toE ?_ | refine ok_if ?_ | refine ok_and ?_ | refine ok_or ?_)
  | (refine mk2 ?_; first | refine ok_bin ?_ | refine ok_toV ?_ | refine ok_call ?_ | refine ok_blt ?_ | refine ok_lst ?_ | refine ok_tup ?_ | refine ok_not ?_ | refine ok_neg ?_ | refine ok_isi ?_ | refine ok_chain ?_ | refine ok_fCut ?_ | refine ok_un ?_ | refine ok_append ?_ | refine ok_pop ?_ | refine ok_comp ?_ | refine ok_lstR ?_ | refine ok_fnP (by simp only [List.cons_append, List.nil_append, List.length_cons, List.length_nil, List.replicate, Nat.reduceAdd, Nat.reduceSub, Nat.zero_add] <;> with_unfolding_all rfl) ?_)
  | (refine mk3 ?_; first | refine ok_testV ?_ | refine ok_truth ?_ | refine ok_gAnd ?_ | refine ok_gOr ?_ | refine ok_gNot ?_ | refine ok_gYes ?_)
  | (refine mk4 ?_; first | refine ok_cons ?_ | refine ok_nil ?_)
  | (refine mk5 ?_; first | refine ok_seq ?_ | refine ok_ret ?_ | refine ok_sIf ?_ | refine ok_set ?_ | refine ok_expr ?_ | refine ok_next ?_ | refine ok_asg ?_ | refine ok_par ?_ | refine ok_for ?_ | refine ok_setIx ?_ | refine ok_sBrk ?_ | refine ok_sCont ?_)
  | (refine mk6 ?_; first | refine ok_no ?_ | refine ok_at ?_)
  | (refine mk7 ?_; first | refine ok_iSq ?_ | refine ok_iEn ?_ | refine ok_iR1 ?_ | refine ok_iR2 ?_ | refine ok_iZp ?_)
  | (refine mk9 ?_; first | refine ok_look (by with_unfolding_all rfl) ?_)
  | (refine mk8 ?_; first | refine ok_addI ?_ | refine ok_subI ?_ | refine ok_eqI ?_ | refine ok_neI ?_ | refine ok_ltI ?_ | refine ok_leI ?_ | refine ok_gtI ?_ | refine ok_geI ?_ | refine ok_isN (by with_unfolding_all rfl) ?_ | refine ok_one ?_ | refine ok_lenL ?_ | refine ok_lenT ?_ | refine ok_ixL (by with_unfolding_all rfl) ?_ | refine ok_ixT (by with_unfolding_all rfl) ?_ | refine ok_okLen (by simp only [List.length_cons, List.length_nil]; decide) ?_ | refine ok_cutL ?_ | refine ok_cutT ?_ | refine ok_mulI (mulS (.inl (by decide))) ?_ | refine ok_mulI (mulS (.inr (by decide))) ?_ | refine ok_powI (by decide) ?_ | refine ok_modI (by decide) ?_ | refine ok_divI (by decide) ?_ | refine ok_intI ?_ | refine ok_listL ?_ | refine ok_listT ?_ | refine ok_tupleL ?_ | refine ok_tupleT ?_ | refine ok_max2 ?_ | refine ok_min2 ?_ | refine ok_eqB ?_ | refine ok_neB ?_ | refine ok_sRev (by with_unfolding_all rfl) ?_ | refine ok_mulL (by decide) (by simp only [List.length_cons, List.length_nil]; decide) ?_ | refine ok_addT (by simp only [List.length_cons, List.length_nil]; decide) ?_ | refine ok_addL (by simp only [List.length_cons, List.length_nil]; decide) ?_)
  | (refine mkE ?_; first | refine ok_put (by simp only [putV, setR, Slot.pin, List.set_cons_zero, List.set_cons_succ, List.getElem?_cons_zero, List.getElem?_cons_succ, Bool.false_eq_true, if_false] <;> with_unfolding_all rfl) ?_ | refine ok_tgt (by simp only [gTp, hCons, hNil, gNm, putV, Slot.pin, List.set_cons_zero, List.set_cons_succ, List.getElem?_cons_zero, List.getElem?_cons_succ, Bool.false_eq_true, if_false, Option.bind_some] <;> with_unfolding_all rfl) ?_ | refine ok_back (by simp only [back, reb, List.set_cons_zero, List.set_cons_succ, List.getElem?_cons_zero, List.getElem?_cons_succ] <;> with_unfolding_all rfl) ?_)
  | refine br_true ?_ | refine br_false ?_ | refine br_yes (by with_unfolding_all rfl) ?_ | refine br_no (by with_unfolding_all rfl) ?_ | refine isB ?_ | refine isBr ?_ | refine isI ?_ | refine isV ?_ | refine isR1 ?_ | refine isR2 ?_ | refine isZL ?_ | refine isZT ?_ | refine isO (by with_unfolding_all rfl) ?_ | refine setE (by simp only [List.set_cons_zero, List.set_cons_succ, Int.reduceToNat] <;> with_unfolding_all rfl) ?_ | refine ok_lent (by simp only [lent, List.getElem?_cons_zero, List.getElem?_cons_succ, Option.map_some, List.any_nil, List.any_cons, isSlot, Bool.false_eq_true, if_false, Bool.or_self, Bool.or_false] <;> with_unfolding_all rfl) ?_ | refine ok_looks (by with_unfolding_all rfl) ?_ | refine ok_truthD (by with_unfolding_all rfl) ?_ | refine ok_frz (by simp only [frz, List.set_cons_zero, List.set_cons_succ, List.getElem?_cons_zero, List.getElem?_cons_succ] <;> with_unfolding_all rfl) ?_ | refine ok_frzs (by simp only [frzs, frz, List.set_cons_zero, List.set_cons_succ, List.getElem?_cons_zero, List.getElem?_cons_succ, Option.bind_some, Option.map_some] <;> with_unfolding_all rfl) ?_ | refine then_ret ?_ | refine turn_next ?_ | refine turn_ret ?_ | refine turn_cont ?_ | refine turn_brk ?_ | refine ok_seqOf (by with_unfolding_all rfl) ?_ | refine ok_rfl (show ixN _ _ = some _ by with_unfolding_all rfl) ?_ | refine fl_next ?_ | refine fnEnd_ret (by simp only [fixO, Slot.pin, Bool.false_eq_true, if_false, if_true] <;> with_unfolding_all rfl) ?_ | refine fnEnd_next (by simp only [fixO, Slot.pin, Bool.false_eq_true, if_false, if_true] <;> with_unfolding_all rfl) ?_)
local macro_rules | `(tactic| nofun) => `(tactic| repeat infer_instance)
local macro_rules | `(tactic| and_intros) => `(tactic| repeat (first | infer_instance | with_reducible refine then_next ?_))
set_option exponentiation.threshold 1000
open B43
local macro_rules | `(tactic| infer_instance) => `(tactic| with_reducible refine ok_rt (sp_is_integer _) ?_)
local macro_rules | `(tactic| infer_instance) => `(tactic| with_reducible refine ok_rt (sp_is_within _ _ _) ?_)
theorem fm (c : Nat → Prop) [DecidablePred c] : ∀ l : List Nat, l.filterMap (fun p => if c p then some (nI p) else none) = (l.filter (fun p => decide (c p))).map nI
  | [] => rfl
  | p :: l => by
    have ih := fm c l
    by_cases h : c p
    · simp [h, ih]
    · simp [h, ih]
theorem U_Wa (i : Int) (w : List Int) {a : Nat} (h : a ≤ (U i w).length) : U i (Wa i w a) = U i w := by
  show (lp i (Wa i w a)).1 ++ (lp i (Wa i w a)).2 = _
  rw [lp_Wa i w h, List.take_append_drop]
theorem Wa_Wa (i : Int) (w : List Int) {a b : Nat} (h : a ≤ (U i w).length) : Wa i (Wa i w a) b = Wa i w b := by
  unfold Wa
  rw [show U i (W i ((U i w).take a) ((U i w).drop a) w) = U i w from U_Wa i w h]
  refine List.ext_getElem? fun p => ?_
  rw [W_get, W_get, W_get]
  cases e : w[p]? with
  | none => rfl
  | some x =>
    show some _ = some _
    congr 1
    dsimp only
    by_cases c : p ∈ U i w
    · rw [← List.take_append_drop b (U i w)] at c
      rcases List.mem_append.mp c with c | c
      · rw [if_pos c, if_pos c]
      · by_cases c2 : p ∈ (U i w).take b
        · rw [if_pos c2, if_pos c2]
        · rw [if_neg c2, if_neg c2, if_pos c, if_pos c]
    · have n1 : ∀ k, p ∉ (U i w).take k := fun k h => c (List.mem_of_mem_take h)
      have n2 : ∀ k, p ∉ (U i w).drop k := fun k h => c (List.mem_of_mem_drop h)
      rw [if_neg (n1 b), if_neg (n2 b), if_neg (n1 a), if_neg (n2 a), if_neg (n1 b), if_neg (n2 b)]
theorem Wd_Wa {i : Int} {w : List Int} (h : Wd w) (hi : 1 ≤ i ∧ i ≤ 8) (a : Nat) : Wd (Wa i w a) := by
  refine ⟨by rw [Wa_len]; exact h.1, fun x hx => ?_⟩
  obtain ⟨p, hp⟩ := List.mem_iff_getElem?.mp hx
  unfold Wa at hp
  rw [W_get] at hp
  obtain ⟨y, hy, rfl⟩ := Option.map_eq_some_iff.mp hp
  have := h.2 y (List.mem_of_getElem? hy)
  split
  · omega
  · split <;> omega
theorem up_Wa (w : List Int) (i : Int) (hw : w.length ≤ 1000) {a : Nat} (ha : a < (U i w).length) : ∃ d, Rt m_x_law_up [.val false (T (Wa i w a)), .val false (.int i)] (.val (.tuple [d, T (Wa i w (a + 1))])) := by
  have z := sp_up (Wa i w a) i (by rw [Wa_len]; exact hw)
  rw [lp_Wa i w (Nat.le_of_lt ha)] at z
  rw [← Wa_up i w (List.getElem?_eq_getElem ha)]
  refine ⟨nI ((U i w).drop a).length, z.trans ?_⟩
  simp only
  rw [List.drop_eq_getElem_cons ha]
  rfl
theorem down_Wa (w : List Int) (i : Int) (hw : w.length ≤ 1000) {a : Nat} (ha : a < (U i w).length) : ∃ d, Rt m_x_law_down [.val false (T (Wa i w (a + 1))), .val false (.int i)] (.val (.tuple [d, T (Wa i w a)])) := by
  have z := sp_down (Wa i w (a + 1)) i (by rw [Wa_len]; exact hw)
  rw [lp_Wa i w ha] at z
  have hq := List.getElem?_eq_getElem ha
  refine ⟨nI ((U i w).take (a + 1)).length, z.trans ?_⟩
  simp only
  rw [take_snocN hq, List.getLast?_append, ← Wa_dn i w hq]
  rfl
theorem sum_rng : ∀ w : List Int, (∀ x ∈ w, 1 ≤ x ∧ x ≤ 9) → 0 ≤ w.sum ∧ w.sum ≤ 9 * w.length
  | [], _ => ⟨Int.le_refl _, Int.le_refl _⟩
  | x :: w, h => by
    have h1 := sum_rng w fun y hy => h y (List.mem_cons_of_mem _ hy)
    have h2 := h x (List.mem_cons_self ..)
    simp only [List.sum_cons, List.length_cons]
    omega
theorem sum_Wa (i : Int) (w : List Int) : ∀ j, j ≤ (U i w).length → (Wa i w ((U i w).length - j)).sum = (Wa i w (U i w).length).sum + j
  | 0, _ => by simp
  | j + 1, h => by
    have ih := sum_Wa i w j (by omega)
    have z := Wa_sum i w (a := (U i w).length - (j + 1)) (by omega)
    rw [show (U i w).length - (j + 1) + 1 = (U i w).length - j by omega, ih] at z
    rw [z]
    omega
theorem row_up (i : Int) (w : List Int) (a k : Nat) : (T (Wa i w (a + (k + 1)))) :: ((List.range (k + 1)).map fun j => T (Wa i w (a + k - j))) = (List.range (k + 1 + 1)).map fun j => T (Wa i w (a + (k + 1) - j)) := by
  rw [List.range_succ_eq_map (n := k + 1), List.map_cons, List.map_map]
  congr 1
  refine List.map_congr_left fun j _ => ?_
  show T (Wa i w (a + k - j)) = T (Wa i w (a + (k + 1) - (j + 1)))
  rw [show a + k - j = a + (k + 1) - (j + 1) by omega]
theorem pl_T (w : List Int) (n : Nat) : Pl (n + 1) (T w) := pl_intT n w
theorem pl_row (i : Int) (w : List Int) (a n : Nat) : Pl (n + 2) (.list (row i w a)) := pl_list (pls_map fun _ _ => pl_T _ n)
theorem pl_more (i : Int) (w : List Int) (O : List Nat) (n : Nat) : Pl (n + 1) (moreD i w O) := by
  cases O with
  | nil => exact pl_none _
  | cons p r => exact pl_T _ n
theorem pl_less (i : Int) (w : List Int) (o : Option Nat) (n : Nat) : Pl (n + 1) (lessD i w o) := by
  cases o with
  | none => exact pl_none _
  | some p => exact pl_T _ n
theorem moved_in (i : Int) (w : List Int) (a p : Nat) (x y : Int) (h : w[p]? = some x) (k : (Wa i w a)[p]? = some y) (n : x ≠ y) : x = i ∨ x = i + 1 := by
  unfold Wa at k
  rw [W_get, h] at k
  by_cases c : p ∈ (lp i w).1
  · have := (lp_let i w).1 p c; rw [h] at this; exact .inl (Option.some.inj this)
  · by_cases c2 : p ∈ (lp i w).2
    · have := (lp_let i w).2 p c2; rw [h] at this; exact .inr (Option.some.inj this)
    · have nU : p ∉ U i w := fun z => (List.mem_append.mp z).elim c c2
      have n1 : p ∉ (U i w).take a := fun h => nU (List.mem_of_mem_take h)
      have n2 : p ∉ (U i w).drop a := fun h => nU (List.mem_of_mem_drop h)
      have e := Option.some.inj k
      dsimp only at e
      rw [if_neg n1, if_neg n2] at e
      exact absurd e n
theorem ok_right {n : Nat} {f : List D} {P : Res → List Slot → Prop} (hf : Feed n f) (hn : n ≤ 100000)
    (k : ∀ f', Feed (n + 200) f' → P (.val (.bool true)) [.own true f']) : Ev (m_x_law_right [.own true f]) P := by
  unfold m_x_law_right f_x_law_right
  nofun
  refine ok_draw hf (by omega) (by decide) fun g f1 h1 h2 hf1 => ?_
  nofun
  refine then_next ?_
  obtain ⟨i, hi, hi8⟩ : ∃ i : Int, 1 + g = i ∧ 1 ≤ i ∧ i ≤ 8 := ⟨_, rfl, by omega⟩
  rw [hi]
  nofun
  refine ok_drawn hf1 (by omega) hi8 fun w f2 hw hf2 => ?_
  have hw1 : w.length ≤ 1000 := by have := hw.1; omega
  have hlen := lp_len i w
  have hUl : (U i w).length = (lp i w).1.length + (lp i w).2.length := by unfold U; rw [List.length_append]
  nofun
  refine then_next ?_
  nofun
  refine ok_rt (sp_up w i hw1) ?_
  nofun
  refine ok_rt (sp_down w i hw1) ?_
  nofun
  refine then_next ?_
  nofun
  refine ok_rt (sp_room_up w i hw hi8) ?_
  nofun
  refine ok_rt (sp_raised w i hw hi8) ?_
  nofun
  refine ok_rt (sp_room_down w i hw hi8) ?_
  nofun
  refine ok_rt (sp_lowered w i hw hi8) ?_
  nofun
  refine ok_rt (sp_same 7 _ (pl_list (pls_cons (pl_int _ _) (pls_cons (pl_more _ _ _ 5) (pls_cons (pl_int _ _) (pls_cons (pl_less _ _ _ 5) (pls_nil _)))))) (by decide)) ?_
  have more2 : ∃ d, d = (moreD i w (lp i w).2) := ⟨_, rfl⟩
  have less2 : ∃ d, d = (lessD i w (lp i w).1.getLast?) := ⟨_, rfl⟩
  obtain ⟨more, hmore⟩ := more2
  obtain ⟨less, hless⟩ := less2
  rw [← hmore, ← hless]
  nofun
  refine then_next ?_
  nofun
  refine then_next ?_
  refine ok_seqK (fun e => ∃ s8 s9, s8.pin = false ∧ s9.pin = false ∧ e = [.own true f2, .val false (.int i), .val false (T w), .val false (nI (lp i w).2.length), .val false more, .val false (nI (lp i w).1.length), .val false less, .own false (row i w (lp i w).1.length), s8, s9, .dead, .dead, .dead, .dead]) ?_ ?_
  · nofun
    refine ⟨by unfold smallI; omega, ?_⟩
    rw [range_map, Int.toNat_natCast]
    refine ok_forX (fun k e => ∃ s9, s9.pin = false ∧ e = [.own true f2, .val false (.int i), .val false (T w), .val false (nI (lp i w).2.length), .val false more, .val false (nI (lp i w).1.length), .val false less, .own false ((List.range (k + 1)).map fun j => T (Wa i w ((lp i w).1.length + k - j))), .val false (T (Wa i w ((lp i w).1.length + k))), s9, .dead, .dead, .dead, .dead]) ⟨.dead, rfl, ?_⟩ (fun k x e hx ⟨s9, h9, he⟩ => ?_) fun e ⟨s9, h9, he⟩ => ?_
    · simp [List.range_succ, Wa_self]
    · subst he
      have hk := (List.getElem?_eq_some_iff.mp hx).1
      rw [List.length_range] at hk
      refine ok_tgt (d := [.own true f2, .val false (.int i), .val false (T w), .val false (nI (lp i w).2.length), .val false more, .val false (nI (lp i w).1.length), .val false less, .own false ((List.range (k + 1)).map fun j => T (Wa i w ((lp i w).1.length + k - j))), .val false (T (Wa i w ((lp i w).1.length + k))), .val false (nI x), .dead, .dead, .dead, .dead]) (by simp [gNm, putV, h9]) ?_
      obtain ⟨d, hd⟩ := up_Wa w i hw1 (a := (lp i w).1.length + k) (by omega)
      nofun
      refine ok_rt hd ?_
      nofun
      refine then_next ?_
      nofun
      refine ok_addL (by simp [SZ]; have := hw.1; omega) ?_
      nofun
      exact ⟨_, rfl, by rw [← row_up]; rfl⟩
    · subst he
      rw [List.length_range]
      refine ⟨_, rfl, .val false (T (Wa i w ((lp i w).1.length + (lp i w).2.length))), s9, rfl, h9, ?_⟩
      unfold row
      rw [hUl, show (lp i w).1.length + (lp i w).2.length - (lp i w).1.length = (lp i w).2.length by omega]
  rintro e ⟨s8, s9, h8, h9, rfl⟩
  nofun
  refine ok_put (d := [.own true f2, .val false (.int i), .val false (T w), .val false (nI (lp i w).2.length), .val false more, .val false (nI (lp i w).1.length), .val false less, .own false (row i w (lp i w).1.length), .val false (T w), s9, .dead, .dead, .dead, .dead]) (by simp [putV, setR, h8]) ?_
  refine then_next ?_
  refine ok_seqK (fun e => ∃ s8 s9, s8.pin = false ∧ s9.pin = false ∧ e = [.own true f2, .val false (.int i), .val false (T w), .val false (nI (lp i w).2.length), .val false more, .val false (nI (lp i w).1.length), .val false less, .own false (row i w 0), s8, s9, .dead, .dead, .dead, .dead]) ?_ ?_
  · nofun
    refine ⟨by unfold smallI; omega, ?_⟩
    rw [range_map, Int.toNat_natCast]
    refine ok_forX (fun k e => ∃ s9, s9.pin = false ∧ e = [.own true f2, .val false (.int i), .val false (T w), .val false (nI (lp i w).2.length), .val false more, .val false (nI (lp i w).1.length), .val false less, .own false (row i w ((lp i w).1.length - k)), .val false (T (Wa i w ((lp i w).1.length - k))), s9, .dead, .dead, .dead, .dead]) ⟨s9, h9, ?_⟩ (fun k x e hx ⟨s9, h9, he⟩ => ?_) fun e ⟨s9, h9, he⟩ => ?_
    · rw [Nat.sub_zero, Wa_self]
    · subst he
      have hk := (List.getElem?_eq_some_iff.mp hx).1
      rw [List.length_range] at hk
      refine ok_tgt (d := [.own true f2, .val false (.int i), .val false (T w), .val false (nI (lp i w).2.length), .val false more, .val false (nI (lp i w).1.length), .val false less, .own false (row i w ((lp i w).1.length - k)), .val false (T (Wa i w ((lp i w).1.length - k))), .val false (nI x), .dead, .dead, .dead, .dead]) (by simp [gNm, putV, h9]) ?_
      have e1 : (lp i w).1.length - k = ((lp i w).1.length - (k + 1)) + 1 := by omega
      obtain ⟨d, hd⟩ := down_Wa w i hw1 (a := (lp i w).1.length - (k + 1)) (by omega)
      rw [e1]
      have hr := row_len i w ((lp i w).1.length - (k + 1) + 1)
      nofun
      refine ok_rt hd ?_
      nofun
      refine then_next ?_
      nofun
      refine ok_addL (by rw [hr]; simp [SZ]; have := hw.1; omega) ?_
      nofun
      exact ⟨_, rfl, by rw [row_more i w (by omega)]⟩
    · subst he
      rw [List.length_range, Nat.sub_self]
      exact ⟨_, rfl, _, s9, rfl, h9, rfl⟩
  rintro e ⟨s8, s9, h8, h9, rfl⟩
  have hU2 : (lp i w).2.length ≤ (U i w).length := by omega
  have hix : atI (row i w 0) ((lp i w).1.length : Nat) = some (T (Wa i w (lp i w).2.length)) := by
    rw [atI_nat _ (by omega), Int.toNat_natCast]
    unfold row
    rw [List.getElem?_map, List.getElem?_range (by omega)]
    show some (T (Wa i w ((U i w).length - (lp i w).1.length))) = _
    rw [hUl, show (lp i w).1.length + (lp i w).2.length - (lp i w).1.length = (lp i w).2.length by omega]
  nofun
  refine ok_rt (sp_string_of w i hw hi8) ?_
  nofun
  refine ok_rt (sp_reflected w i hw hi8) ?_
  nofun
  refine ok_ixL hix ?_
  nofun
  refine ok_rt (sp_same 7 _ (pl_list (pls_cons (pl_row i w 0 4) (pls_cons (pl_T _ 5) (pls_nil _)))) (by decide)) ?_
  nofun
  refine then_next ?_
  nofun
  refine ok_rt (sp_reflected w i hw hi8) ?_
  nofun
  refine then_next ?_
  have ho := Wd_Wa hw hi8 (lp i w).2.length
  have hlp := lp_Wa i w hU2
  have s1 := sp_room_up _ i ho hi8
  have s2 := sp_room_down _ i ho hi8
  have s3 := sp_reflected _ i ho hi8
  rw [hlp] at s1 s2 s3
  have e1 : ((U i w).drop (lp i w).2.length).length = (lp i w).1.length := by rw [List.length_drop]; omega
  have e2 : ((U i w).take (lp i w).2.length).length = (lp i w).2.length := by rw [List.length_take]; omega
  simp only [e1, e2] at s1 s2 s3
  rw [Wa_Wa i w hU2, Wa_self] at s3
  nofun
  refine ok_rt s1 ?_
  nofun
  refine ok_rt s2 ?_
  nofun
  refine ok_rt s3 ?_
  nofun
  refine ok_rt (sp_same 7 _ (pl_list (pls_cons (pl_int _ _) (pls_cons (pl_int _ _) (pls_cons (pl_T _ 5) (pls_nil _))))) (by decide)) ?_
  nofun
  refine then_next ?_
  -- the places that moved
  refine ok_seqK (fun e => ∃ M : List Nat, (∀ p ∈ M, ∃ x, w[p]? = some x ∧ (x = i ∨ x = i + 1)) ∧ M.length ≤ w.length ∧ e = [.own true f2, .val false (.int i), .val false (T w), .val false (nI (lp i w).2.length), .val false more, .val false (nI (lp i w).1.length), .val false less, .val false (.list (row i w 0)), s8, s9, .val false (T (Wa i w (lp i w).2.length)), .own false (M.map nI), .dead, .dead]) ?_ ?_
  · nofun
    refine ⟨by unfold smallI; rw [List.length_map]; have := hw.1; omega, ?_⟩
    rw [range_map, Int.toNat_natCast, List.length_map]
    refine ⟨rfl, ok_compF (e0 := [.own true f2, .val false (.int i), .val false (T w), .val false (nI (lp i w).2.length), .val false more, .val false (nI (lp i w).1.length), .val false less, .val false (.list (row i w 0)), s8, s9, .val false (T (Wa i w (lp i w).2.length)), .dead, .dead, .dead]) (fun p => if w[p]? ≠ (Wa i w (lp i w).2.length)[p]? then some (nI p) else none) (by rw [List.length_range]; exact Nat.le_trans hw1 (by decide)) rfl (fun p hp => ?_) fun e2 he => ?_⟩
    · have hp := List.mem_range.mp hp
      have hp2 : p < (Wa i w (lp i w).2.length).length := by rw [Wa_len]; exact hp
      nofun
      refine ok_ixT (d := .int w[p]) (by rw [atI_nat _ (by omega), Int.toNat_natCast, List.getElem?_map, List.getElem?_eq_getElem hp]; rfl) ?_
      nofun
      refine ok_ixT (d := .int (Wa i w (lp i w).2.length)[p]) (by rw [atI_nat _ (by omega), Int.toNat_natCast, List.getElem?_map, List.getElem?_eq_getElem hp2]; rfl) ?_
      nofun
      rw [List.getElem?_eq_getElem hp, List.getElem?_eq_getElem hp2]
      refine br_bne (fun c => ?_) fun c => ?_
      · nofun
        refine ⟨if_pos fun z => c (Option.some.inj z), rfl⟩
      · exact ⟨if_neg fun z => z (by rw [c]), rfl⟩
    · rw [merge_bk he rfl]
      nofun
      refine ⟨(List.range w.length).filter (fun p => decide (w[p]? ≠ (Wa i w (lp i w).2.length)[p]?)), fun p hp => ?_, ?_, ?_⟩
      · obtain ⟨h1, h2⟩ := List.mem_filter.mp hp
        have h1 := List.mem_range.mp h1
        have hp2 : p < (Wa i w (lp i w).2.length).length := by rw [Wa_len]; exact h1
        have h2 := of_decide_eq_true h2
        refine ⟨w[p], List.getElem?_eq_getElem h1, moved_in i w (lp i w).2.length p w[p] _ (List.getElem?_eq_getElem h1) (List.getElem?_eq_getElem hp2) fun z => h2 ?_⟩
        rw [List.getElem?_eq_getElem h1, List.getElem?_eq_getElem hp2, z]
      · exact Nat.le_trans (List.length_filter_le _ _) (by simp)
      · rw [fm]
  · rintro e ⟨M, hM, hMl, rfl⟩
    nofun
    refine ⟨rfl, ok_compN (e0 := [.own true f2, .val false (.int i), .val false (T w), .val false (nI (lp i w).2.length), .val false more, .val false (nI (lp i w).1.length), .val false less, .val false (.list (row i w 0)), s8, s9, .val false (T (Wa i w (lp i w).2.length)), .val false (.list (M.map nI)), .dead, .dead]) rfl (fun p hp => ?_) fun e2 he => ?_⟩
    · obtain ⟨x, hx, hxi⟩ := hM p hp
      nofun
      refine ok_ixT (d := .int x) (by rw [atI_nat _ (by omega), Int.toNat_natCast, List.getElem?_map, hx]; rfl) ?_
      nofun
      refine ok_in rfl rfl rfl ?_
      nofun
      rw [any_in, decide_eq_true hxi]
      exact br_no rfl rfl
    · rw [merge_bk he rfl]
      nofun
      refine ok_neNil rfl ?_
      nofun
      refine then_next ?_
      have hsum := sum_rng _ (Wd_Wa hw hi8 (U i w).length).2
      rw [Wa_len] at hsum
      have hwl := hw.1
      have hr0 : (row i w 0).length = (U i w).length + 1 := by rw [row_len, Nat.sub_zero]
      have h0 : atI (row i w 0) 0 = some (T (Wa i w (U i w).length)) := by
        rw [atI_nat _ (by decide)]
        unfold row
        rw [List.getElem?_map, show (0 : Int).toNat = 0 from rfl, List.getElem?_range (by omega)]
        rfl
      nofun
      unfold row
      refine ⟨rfl, ok_compM (e0 := [.own true f2, .val false (.int i), .val false (T w), .val false (nI (lp i w).2.length), .val false more, .val false (nI (lp i w).1.length), .val false less, .val false (.list (row i w 0)), s8, s9, .val false (T (Wa i w (lp i w).2.length)), .val false (.list (M.map nI)), .dead, .dead]) (fun j => .int ((Wa i w (U i w).length).sum + (j : Nat))) (by rw [List.length_range]; simp only [SZ]; omega) rfl (fun j hj => ?_) fun e3 he3 => ?_⟩
      · have hj := List.mem_range.mp hj
        nofun
        refine ok_sumT rfl ?_
        nofun
        exact ⟨by rw [sum_Wa i w j (by omega)], rfl⟩
      · rw [merge_bk he3 rfl]
        have fold : ((List.range ((U i w).length - 0 + 1)).map fun j => T (Wa i w ((U i w).length - j))) = row i w 0 := rfl
        rw [fold]
        nofun
        refine ok_ixL h0 ?_
        nofun
        refine ok_sumT rfl ?_
        nofun
        refine ok_ixL h0 ?_
        nofun
        refine ok_sumT rfl ?_
        nofun
        refine ⟨by unfold smallI; rw [hr0]; omega, ?_⟩
        nofun
        have e5 : rangeD (Wa i w (U i w).length).sum ((Wa i w (U i w).length).sum + ((row i w 0).length : Nat) - (Wa i w (U i w).length).sum).toNat = (List.range ((U i w).length - 0 + 1)).map fun j => .int ((Wa i w (U i w).length).sum + (j : Nat)) := by
          unfold rangeD
          rw [hr0, Nat.sub_zero, show ((Wa i w (U i w).length).sum + (((U i w).length + 1 : Nat) : Int) - (Wa i w (U i w).length).sum).toNat = (U i w).length + 1 by omega]
        rw [e5]
        refine ⟨by rw [List.length_map, List.length_range]; simp only [SZ]; omega, ?_⟩
        nofun
        have pl : Pl 1 (.list ((List.range ((U i w).length - 0 + 1)).map fun j => .int ((Wa i w (U i w).length).sum + (j : Nat)))) := pl_list (pls_map fun _ _ => pl_int _ _)
        refine ok_eqD (pl.shaped (by decide)) (pl.shaped (by decide)) ?_
        rw [eqv_refl _ pl.1]
        nofun
        exact k f2 (hf2.mono (by omega))
theorem law_true (ns : List Int) (hns : ns.length ≤ 63) : ∃ outs, m_law [.val false (.list (ns.map .int))] = some (.val (.bool true), outs) := by
  suffices h : Ev (m_law [.val false (.list (ns.map .int))]) fun r o => r = .val (.bool true) by
    obtain ⟨r, o, h1, h2⟩ := h
    exact ⟨o, by rw [h1, h2]⟩
  unfold m_law f_law
  nofun
  refine ⟨by unfold smallI; split <;> split <;> rename_i a b <;> first | omega | (simp at *; omega), ?_⟩
  rw [range_map]
  refine ok_forX (fun k e => ∃ s1 s2 s3 : Slot, s1.pin = false ∧ s2.pin = false ∧ s3.pin = false ∧ e = [.val false (.list (ns.map .int)), s1, s2, s3]) ⟨.dead, .dead, .dead, rfl, rfl, rfl, rfl⟩ (fun k x e hx ⟨s1, s2, s3, q1, q2, q3, he⟩ => ?_) fun e ⟨s1, s2, s3, q1, q2, q3, he⟩ => ?_
  · subst he
    refine ok_tgt (d := [.val false (.list (ns.map .int)), .val false (nI x), s2, s3]) (by simp [gNm, putV, q1]) ?_
    nofun
    refine ok_feed (by omega) fun f hf => ?_
    nofun
    refine ok_put (d := [.val false (.list (ns.map .int)), .val false (nI x), .own false f, s3]) (by simp [putV, setR, q2]) ?_
    refine then_next ?_
    nofun
    refine ⟨by decide, ?_⟩
    rw [range_map]
    refine ok_forX (fun k e => ∃ s3 f, s3.pin = false ∧ k ≤ 3 ∧ Feed (200 * k) f ∧ e = [.val false (.list (ns.map .int)), .val false (nI x), .own false f, s3]) ⟨s3, f, q3, by decide, hf, rfl⟩ (fun k y e hy ⟨s3, f, q3, q4, q5, he⟩ => ?_) fun e ⟨s3, f, q3, q4, q5, he⟩ => ?_
    · subst he
      have hk := (List.getElem?_eq_some_iff.mp hy).1
      rw [List.length_range] at hk
      refine ok_tgt (d := [.val false (.list (ns.map .int)), .val false (nI x), .own false f, .val false (nI y)]) (by simp [gNm, putV, q3]) ?_
      nofun
      refine ok_right q5 (by omega) fun f2 q6 => ?_
      nofun
      exact ⟨_, f2, rfl, by simp at hk; omega, q6.mono (by omega), rfl⟩
    · subst he
      exact ⟨_, _, _, rfl, rfl, q3, rfl⟩
  · subst he
    and_intros
    rfl

end Wk43

set_option Elab.async false
set_option linter.all false
set_option maxRecDepth 100000
set_option maxHeartbeats 4000000
namespace Wk43
open PySem PySem.Spec PyProof.Rows L2 DL
def dd_is_integer : He.DefD := ⟨("is_integer", none), "is_integer", "is_integer", defArgs s_is_integer, defBody s_is_integer, defScope s_is_integer, [], []⟩
def dd_is_within : He.DefD := ⟨("is_within", none), "is_within", "is_within", defArgs s_is_within, defBody s_is_within, defScope s_is_within, [], []⟩
def dd_need_number : He.DefD := ⟨("need_number", none), "need_number", "need_number", defArgs s_need_number, defBody s_need_number, defScope s_need_number, [], []⟩
def dd_are_letters : He.DefD := ⟨("are_letters", none), "are_letters", "are_letters", defArgs s_are_letters, defBody s_are_letters, defScope s_are_letters, [], []⟩
def dd_is_word_form : He.DefD := ⟨("is_word_form", none), "is_word_form", "is_word_form", defArgs s_is_word_form, defBody s_is_word_form, defScope s_is_word_form, [], []⟩
def dd_need_word : He.DefD := ⟨("need_word", none), "need_word", "need_word", defArgs s_need_word, defBody s_need_word, defScope s_need_word, [], []⟩
def dd_left_places : He.DefD := ⟨("left_places", none), "left_places", "left_places", defArgs s_left_places, defBody s_left_places, defScope s_left_places, [], []⟩
def dd_with_letter : He.DefD := ⟨("with_letter", none), "with_letter", "with_letter", defArgs s_with_letter, defBody s_with_letter, defScope s_with_letter, [], []⟩
def dd_raised_word : He.DefD := ⟨("raised_word", none), "raised_word", "raised_word", defArgs s_raised_word, defBody s_raised_word, defScope s_raised_word, [], []⟩
def dd_lowered_word : He.DefD := ⟨("lowered_word", none), "lowered_word", "lowered_word", defArgs s_lowered_word, defBody s_lowered_word, defScope s_lowered_word, [], []⟩
def dd_reflected_word : He.DefD := ⟨("reflected_word", none), "reflected_word", "reflected_word", defArgs s_reflected_word, defBody s_reflected_word, defScope s_reflected_word, [], []⟩
def dd_need_raise : He.DefD := ⟨("need_raise", none), "need_raise", "need_raise", defArgs s_need_raise, defBody s_need_raise, defScope s_need_raise, [], []⟩
def dd_raised : He.DefD := ⟨("raised", none), "raised", "raised", defArgs s_raised, defBody s_raised, defScope s_raised, [], []⟩
def dd_lowered : He.DefD := ⟨("lowered", none), "lowered", "lowered", defArgs s_lowered, defBody s_lowered, defScope s_lowered, [], []⟩
def dd_room_up : He.DefD := ⟨("room_up", none), "room_up", "room_up", defArgs s_room_up, defBody s_room_up, defScope s_room_up, [], []⟩
def dd_room_down : He.DefD := ⟨("room_down", none), "room_down", "room_down", defArgs s_room_down, defBody s_room_down, defScope s_room_down, [], []⟩
def dd_reflected : He.DefD := ⟨("reflected", none), "reflected", "reflected", defArgs s_reflected, defBody s_reflected, defScope s_reflected, [], []⟩
def dd_string_of : He.DefD := ⟨("string_of", none), "string_of", "string_of", defArgs s_string_of, defBody s_string_of, defScope s_string_of, [], []⟩
def dd_x_law_feed : He.DefD := ⟨("_law_feed", none), "_law_feed", "_law_feed", defArgs s_x_law_feed, defBody s_x_law_feed, defScope s_x_law_feed, [], []⟩
def dd_x_law_draw : He.DefD := ⟨("_law_draw", none), "_law_draw", "_law_draw", defArgs s_x_law_draw, defBody s_x_law_draw, defScope s_x_law_draw, [], []⟩
def dd_x_law_one : He.DefD := ⟨("_law_one", none), "_law_one", "_law_one", defArgs s_x_law_one, defBody s_x_law_one, defScope s_x_law_one, [], []⟩
def dd_x_law_same : He.DefD := ⟨("_law_same", none), "_law_same", "_law_same", defArgs s_x_law_same, defBody s_x_law_same, defScope s_x_law_same, [], []⟩
def dd_x_law_drawn : He.DefD := ⟨("_law_drawn", none), "_law_drawn", "_law_drawn", defArgs s_x_law_drawn, defBody s_x_law_drawn, defScope s_x_law_drawn, [], []⟩
def dd_x_law_ends : He.DefD := ⟨("_law_ends", none), "_law_ends", "_law_ends", defArgs s_x_law_ends, defBody s_x_law_ends, defScope s_x_law_ends, [], []⟩
def dd_x_law_up : He.DefD := ⟨("_law_up", none), "_law_up", "_law_up", defArgs s_x_law_up, defBody s_x_law_up, defScope s_x_law_up, [], []⟩
def dd_x_law_down : He.DefD := ⟨("_law_down", none), "_law_down", "_law_down", defArgs s_x_law_down, defBody s_x_law_down, defScope s_x_law_down, [], []⟩
def dd_x_law_right : He.DefD := ⟨("_law_right", none), "_law_right", "_law_right", defArgs s_x_law_right, defBody s_x_law_right, defScope s_x_law_right, [], []⟩
def dd_law : He.DefD := ⟨("law", none), "law", "law", defArgs s_law, defBody s_law, defScope s_law, [], []⟩
def fn : List He.DefD := [dd_is_integer, dd_is_within, dd_need_number, dd_are_letters, dd_is_word_form, dd_need_word, dd_left_places, dd_with_letter, dd_raised_word, dd_lowered_word, dd_reflected_word, dd_need_raise, dd_raised, dd_lowered, dd_room_up, dd_room_down, dd_reflected, dd_string_of, dd_x_law_feed, dd_x_law_draw, dd_x_law_one, dd_x_law_same, dd_x_law_drawn, dd_x_law_ends, dd_x_law_up, dd_x_law_down, dd_x_law_right, dd_law]
def fa : List He.Fa := ([.glo "is_integer", .glo "is_within", .glo "need_number", .glo "are_letters", .glo "is_word_form", .glo "need_word", .glo "left_places", .glo "with_letter", .glo "raised_word", .glo "lowered_word", .glo "reflected_word", .glo "need_raise", .glo "raised", .glo "lowered", .glo "room_up", .glo "room_down", .glo "reflected", .glo "string_of", .glo "_law_feed", .glo "_law_draw", .glo "_law_one", .glo "_law_same", .glo "_law_drawn", .glo "_law_ends", .glo "_law_up", .glo "_law_down", .glo "_law_right", .glo "law", .free "all", .free "bool"] : List He.Fa) ++ ([.free "enumerate", .free "int", .free "isinstance", .free "len", .free "list", .free "max", .free "min", .free "range", .free "str", .free "sum", .free "tuple", .free "zip", .int "MOST_LETTER" 9, .int "MOST_SIZE" 30] : List He.Fa)
def loose : List PySem.Str := (["PushError", "BadWord", "BadNumber", "MOST_LETTER", "MOST_SIZE", "is_integer", "is_within", "need_number", "are_letters", "is_word_form", "need_word", "left_places", "with_letter", "raised_word", "lowered_word", "reflected_word", "need_raise", "raised", "lowered", "room_up", "room_down", "reflected", "string_of", "_law_feed", "_law_draw", "_law_one", "_law_same", "_law_drawn", "_law_ends", "_law_up"] : List PySem.Str) ++ (["_law_down", "_law_right"] : List PySem.Str)
abbrev Rw : PySem.W.OpenRow := PySem.W.OpenLaw.row PySem.Challenge.rw_rowspushed_k43_whole_rooms_by_sums_of_en
abbrev hk : PySem.W.Hook := He.hookD 4 fa fn
def ob (s : PySem.W.SharedT) : He.AlD := He.obsDG 4 fa fn (HandSHeadRun.getT s)
theorem ob_eq (s : PySem.W.SharedT) : ob s = hk.obs s.abs := He.obsDG_eq (HandSHeadRun.getT_eq s)
set_option maxHeartbeats 0 in
theorem run (w : World) : HandSHeadRun.RunEq Rw (PySem.W.view Rw.prog [37]) hk ob 6000 loose w := by
  intro os
  kernel_rfl
noncomputable def tx {K : PySem.W.Frag} {h : Heap} {mg : Str → Option Value} (X : K.In h) (G : h.Ns mainGlobals mg) (c : He.SaysD fa fn K) : Tx K mg where
  a_is_integer := He.ga K "is_integer"
  fd_is_integer := Classical.choose (c.def_ 0 (d := dd_is_integer) rfl)
  F_is_integer := Classical.choose_spec (c.def_ 0 (d := dd_is_integer) rfl)
  g_is_integer := He.glo_ok X G (c.fact 0 (f := .glo "is_integer") (by rfl))
  a_is_within := He.ga K "is_within"
  fd_is_within := Classical.choose (c.def_ 1 (d := dd_is_within) rfl)
  F_is_within := Classical.choose_spec (c.def_ 1 (d := dd_is_within) rfl)
  g_is_within := He.glo_ok X G (c.fact 1 (f := .glo "is_within") (by rfl))
  a_need_number := He.ga K "need_number"
  fd_need_number := Classical.choose (c.def_ 2 (d := dd_need_number) rfl)
  F_need_number := Classical.choose_spec (c.def_ 2 (d := dd_need_number) rfl)
  g_need_number := He.glo_ok X G (c.fact 2 (f := .glo "need_number") (by rfl))
  a_are_letters := He.ga K "are_letters"
  fd_are_letters := Classical.choose (c.def_ 3 (d := dd_are_letters) rfl)
  F_are_letters := Classical.choose_spec (c.def_ 3 (d := dd_are_letters) rfl)
  g_are_letters := He.glo_ok X G (c.fact 3 (f := .glo "are_letters") (by rfl))
  a_is_word_form := He.ga K "is_word_form"
  fd_is_word_form := Classical.choose (c.def_ 4 (d := dd_is_word_form) rfl)
  F_is_word_form := Classical.choose_spec (c.def_ 4 (d := dd_is_word_form) rfl)
  g_is_word_form := He.glo_ok X G (c.fact 4 (f := .glo "is_word_form") (by rfl))
  a_need_word := He.ga K "need_word"
  fd_need_word := Classical.choose (c.def_ 5 (d := dd_need_word) rfl)
  F_need_word := Classical.choose_spec (c.def_ 5 (d := dd_need_word) rfl)
  g_need_word := He.glo_ok X G (c.fact 5 (f := .glo "need_word") (by rfl))
  a_left_places := He.ga K "left_places"
  fd_left_places := Classical.choose (c.def_ 6 (d := dd_left_places) rfl)
  F_left_places := Classical.choose_spec (c.def_ 6 (d := dd_left_places) rfl)
  g_left_places := He.glo_ok X G (c.fact 6 (f := .glo "left_places") (by rfl))
  a_with_letter := He.ga K "with_letter"
  fd_with_letter := Classical.choose (c.def_ 7 (d := dd_with_letter) rfl)
  F_with_letter := Classical.choose_spec (c.def_ 7 (d := dd_with_letter) rfl)
  g_with_letter := He.glo_ok X G (c.fact 7 (f := .glo "with_letter") (by rfl))
  a_raised_word := He.ga K "raised_word"
  fd_raised_word := Classical.choose (c.def_ 8 (d := dd_raised_word) rfl)
  F_raised_word := Classical.choose_spec (c.def_ 8 (d := dd_raised_word) rfl)
  g_raised_word := He.glo_ok X G (c.fact 8 (f := .glo "raised_word") (by rfl))
  a_lowered_word := He.ga K "lowered_word"
  fd_lowered_word := Classical.choose (c.def_ 9 (d := dd_lowered_word) rfl)
  F_lowered_word := Classical.choose_spec (c.def_ 9 (d := dd_lowered_word) rfl)
  g_lowered_word := He.glo_ok X G (c.fact 9 (f := .glo "lowered_word") (by rfl))
  a_reflected_word := He.ga K "reflected_word"
  fd_reflected_word := Classical.choose (c.def_ 10 (d := dd_reflected_word) rfl)
  F_reflected_word := Classical.choose_spec (c.def_ 10 (d := dd_reflected_word) rfl)
  g_reflected_word := He.glo_ok X G (c.fact 10 (f := .glo "reflected_word") (by rfl))
  a_need_raise := He.ga K "need_raise"
  fd_need_raise := Classical.choose (c.def_ 11 (d := dd_need_raise) rfl)
  F_need_raise := Classical.choose_spec (c.def_ 11 (d := dd_need_raise) rfl)
  g_need_raise := He.glo_ok X G (c.fact 11 (f := .glo "need_raise") (by rfl))
  a_raised := He.ga K "raised"
  fd_raised := Classical.choose (c.def_ 12 (d := dd_raised) rfl)
  F_raised := Classical.choose_spec (c.def_ 12 (d := dd_raised) rfl)
  g_raised := He.glo_ok X G (c.fact 12 (f := .glo "raised") (by rfl))
  a_lowered := He.ga K "lowered"
  fd_lowered := Classical.choose (c.def_ 13 (d := dd_lowered) rfl)
  F_lowered := Classical.choose_spec (c.def_ 13 (d := dd_lowered) rfl)
  g_lowered := He.glo_ok X G (c.fact 13 (f := .glo "lowered") (by rfl))
  a_room_up := He.ga K "room_up"
  fd_room_up := Classical.choose (c.def_ 14 (d := dd_room_up) rfl)
  F_room_up := Classical.choose_spec (c.def_ 14 (d := dd_room_up) rfl)
  g_room_up := He.glo_ok X G (c.fact 14 (f := .glo "room_up") (by rfl))
  a_room_down := He.ga K "room_down"
  fd_room_down := Classical.choose (c.def_ 15 (d := dd_room_down) rfl)
  F_room_down := Classical.choose_spec (c.def_ 15 (d := dd_room_down) rfl)
  g_room_down := He.glo_ok X G (c.fact 15 (f := .glo "room_down") (by rfl))
  a_reflected := He.ga K "reflected"
  fd_reflected := Classical.choose (c.def_ 16 (d := dd_reflected) rfl)
  F_reflected := Classical.choose_spec (c.def_ 16 (d := dd_reflected) rfl)
  g_reflected := He.glo_ok X G (c.fact 16 (f := .glo "reflected") (by rfl))
  a_string_of := He.ga K "string_of"
  fd_string_of := Classical.choose (c.def_ 17 (d := dd_string_of) rfl)
  F_string_of := Classical.choose_spec (c.def_ 17 (d := dd_string_of) rfl)
  g_string_of := He.glo_ok X G (c.fact 17 (f := .glo "string_of") (by rfl))
  a_x_law_feed := He.ga K "_law_feed"
  fd_x_law_feed := Classical.choose (c.def_ 18 (d := dd_x_law_feed) rfl)
  F_x_law_feed := Classical.choose_spec (c.def_ 18 (d := dd_x_law_feed) rfl)
  g_x_law_feed := He.glo_ok X G (c.fact 18 (f := .glo "_law_feed") (by rfl))
  a_x_law_draw := He.ga K "_law_draw"
  fd_x_law_draw := Classical.choose (c.def_ 19 (d := dd_x_law_draw) rfl)
  F_x_law_draw := Classical.choose_spec (c.def_ 19 (d := dd_x_law_draw) rfl)
  g_x_law_draw := He.glo_ok X G (c.fact 19 (f := .glo "_law_draw") (by rfl))
  a_x_law_one := He.ga K "_law_one"
  fd_x_law_one := Classical.choose (c.def_ 20 (d := dd_x_law_one) rfl)
  F_x_law_one := Classical.choose_spec (c.def_ 20 (d := dd_x_law_one) rfl)
  g_x_law_one := He.glo_ok X G (c.fact 20 (f := .glo "_law_one") (by rfl))
  a_x_law_same := He.ga K "_law_same"
  fd_x_law_same := Classical.choose (c.def_ 21 (d := dd_x_law_same) rfl)
  F_x_law_same := Classical.choose_spec (c.def_ 21 (d := dd_x_law_same) rfl)
  g_x_law_same := He.glo_ok X G (c.fact 21 (f := .glo "_law_same") (by rfl))
  a_x_law_drawn := He.ga K "_law_drawn"
  fd_x_law_drawn := Classical.choose (c.def_ 22 (d := dd_x_law_drawn) rfl)
  F_x_law_drawn := Classical.choose_spec (c.def_ 22 (d := dd_x_law_drawn) rfl)
  g_x_law_drawn := He.glo_ok X G (c.fact 22 (f := .glo "_law_drawn") (by rfl))
  a_x_law_ends := He.ga K "_law_ends"
  fd_x_law_ends := Classical.choose (c.def_ 23 (d := dd_x_law_ends) rfl)
  F_x_law_ends := Classical.choose_spec (c.def_ 23 (d := dd_x_law_ends) rfl)
  g_x_law_ends := He.glo_ok X G (c.fact 23 (f := .glo "_law_ends") (by rfl))
  a_x_law_up := He.ga K "_law_up"
  fd_x_law_up := Classical.choose (c.def_ 24 (d := dd_x_law_up) rfl)
  F_x_law_up := Classical.choose_spec (c.def_ 24 (d := dd_x_law_up) rfl)
  g_x_law_up := He.glo_ok X G (c.fact 24 (f := .glo "_law_up") (by rfl))
  a_x_law_down := He.ga K "_law_down"
  fd_x_law_down := Classical.choose (c.def_ 25 (d := dd_x_law_down) rfl)
  F_x_law_down := Classical.choose_spec (c.def_ 25 (d := dd_x_law_down) rfl)
  g_x_law_down := He.glo_ok X G (c.fact 25 (f := .glo "_law_down") (by rfl))
  a_x_law_right := He.ga K "_law_right"
  fd_x_law_right := Classical.choose (c.def_ 26 (d := dd_x_law_right) rfl)
  F_x_law_right := Classical.choose_spec (c.def_ 26 (d := dd_x_law_right) rfl)
  g_x_law_right := He.glo_ok X G (c.fact 26 (f := .glo "_law_right") (by rfl))
  a_law := He.ga K "law"
  fd_law := Classical.choose (c.def_ 27 (d := dd_law) rfl)
  F_law := Classical.choose_spec (c.def_ 27 (d := dd_law) rfl)
  g_law := He.glo_ok X G (c.fact 27 (f := .glo "law") (by rfl))
  n_all := He.free_ok X G (c.fact 28 (f := .free "all") (by rfl))
  n_bool := He.free_ok X G (c.fact 29 (f := .free "bool") (by rfl))
  n_enumerate := He.free_ok X G (c.fact 30 (f := .free "enumerate") (by rfl))
  n_int := He.free_ok X G (c.fact 31 (f := .free "int") (by rfl))
  n_isinstance := He.free_ok X G (c.fact 32 (f := .free "isinstance") (by rfl))
  n_len := He.free_ok X G (c.fact 33 (f := .free "len") (by rfl))
  n_list := He.free_ok X G (c.fact 34 (f := .free "list") (by rfl))
  n_max := He.free_ok X G (c.fact 35 (f := .free "max") (by rfl))
  n_min := He.free_ok X G (c.fact 36 (f := .free "min") (by rfl))
  n_range := He.free_ok X G (c.fact 37 (f := .free "range") (by rfl))
  n_str := He.free_ok X G (c.fact 38 (f := .free "str") (by rfl))
  n_sum := He.free_ok X G (c.fact 39 (f := .free "sum") (by rfl))
  n_tuple := He.free_ok X G (c.fact 40 (f := .free "tuple") (by rfl))
  n_zip := He.free_ok X G (c.fact 41 (f := .free "zip") (by rfl))
  t_MOST_LETTER := Classical.choose (He.int_ok X G (c.fact 42 (f := .int "MOST_LETTER" 9) (by rfl)))
  c_MOST_LETTER := Classical.choose_spec (He.int_ok X G (c.fact 42 (f := .int "MOST_LETTER" 9) (by rfl)))
  t_MOST_SIZE := Classical.choose (He.int_ok X G (c.fact 43 (f := .int "MOST_SIZE" 30) (by rfl)))
  c_MOST_SIZE := Classical.choose_spec (He.int_ok X G (c.fact 43 (f := .int "MOST_SIZE" 30) (by rfl)))
theorem facts {P : Program} {w : World} {K : PySem.W.Frag} {h : Heap} {mg : Str → Option Value} {f : Addr} (X : K.In h) (G : h.Ns mainGlobals mg) (hfa : mg ("law" : Str) = some (.ref f)) (c : He.SaysD fa fn K) :
    ∃ fd : FuncData, (∀ (s : Shared) (v : Value), BindsTo s fd ⟨[v], []⟩ [("script", v)]) ∧ ∀ base : Heap, K.In base → base.Ns mainGlobals mg → FnOk P w K mg base CX0 11 f fd ["script"] (spD K 1 m_law) := by
  have T := tx X G c
  have e := hfa.symm.trans T.g_law
  cases e
  have b := FunD.bindsA (ps := ["script"]) T.F_law fun _ _ _ _ _ _ us hl => match us, hl with | [_], _ => rfl
  exact ⟨T.fd_law, fun s v => b s [v] rfl, fun base _ _ => ok_law T⟩
end Wk43
open PySem PySem.W PySem.Calls PyProof.Rows
set_option maxRecDepth 100000 in
set_option maxHeartbeats 0 in
theorem PySem.Challenge.cw_rowspushed_k43_whole_rooms_by_sums_of_en_holds : PySem.Challenge.rw_rowspushed_k43_whole_rooms_by_sums_of_en.Holds := by
  w_on; o_law
  refine HandSHeadRun.head_any (r := Wk43.Rw) (q := view Wk43.Rw.prog [37]) (H := Wk43.hk) (ob := Wk43.ob) (M := 6000) (loose := Wk43.loose) (d := HandSHeadRun.topDef Wk43.Rw.prog 37) (kwd := []) Wk43.ob_eq
    (by kernel_rfl) (fun s => by kernel_rfl) Wk43.run (by kernel_rfl) (by kernel_rfl) (by kernel_rfl) (by rfl) (by first | assumption | decide +kernel) (by decide +kernel) ⟨rfl, rfl, rfl, rfl, rfl, by decide +kernel⟩ ?hw ?hc
  case hw => w_witness2
  case hc =>
    refine DL.walk_ofD (l := PySem.Challenge.rw_rowspushed_k43_whole_rooms_by_sums_of_en) (n := 63) (k := 11) (x := "script") rfl (by decide) (by kernel_rfl) ⟨rfl, by decide, by decide⟩ ?F
    intro w mg fa h Y G hmg0
    obtain ⟨K, KX, c⟩ := Y
    have hmg : mg ("law" : PySem.Str) = some (.ref fa) := by
      have e : (HandSHeadRun.topDef Wk43.Rw.prog 37).name = ("law" : PySem.Str) := by kernel_rfl
      rw [← e]
      exact hmg0
    obtain ⟨fd, hb, hF⟩ := Wk43.facts (P := (PySem.Challenge.rw_rowspushed_k43_whole_rooms_by_sums_of_en).prog) (w := w) KX G hmg c
    exact ⟨K, fd, Wk43.m_law, KX, hb, Wk43.law_true, hF⟩
